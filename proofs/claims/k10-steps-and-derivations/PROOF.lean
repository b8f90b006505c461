import PyProof.Rows.All
import Wide.All
import OpenK.AllK
import Wide.FinOn
import HandS.ForMost
import HandS.ForExc
import HandS.Lambda
import HandS.Wide
import HandS.TupAny
import HandS.Flow
import HandS.Deep
import HandS.Style
import HandS.IsInst
import HandS.Records
import HandS.Small
import HandS.DictComp
import HandS.Conv
import HandS.RevTup
import KE.KDictList
import HandS.TupLen
import HandS.WordsDict
import HandS.SetKeys
import HandS.EndTab
import HandS.TryMany
import HandS.ExcIs
import HandS.Keys
import HandS.Zip
import KE.KDictZip
import KE.KEqDict
import PyProof.EnumMake
import PyProof.Draws
import KE.GoesMore
import PySem.Challenge.RW_subside_k10_steps_and_derivations
set_option Elab.async false
set_option linter.all false
set_option maxRecDepth 100000
/-! Sd1: data, slots, resources, readings over them. -/
namespace Sd
open PySem PySem.Spec PyProof.Rows L2

/-- a value that never changes again, as data -/
inductive D where
  | non | bl (b : Bool) | int (i : Int) | str (x : Str) | tup (l : List D) | lst (l : List D) | dic (l : List (D × D))
/-- what is known of a reference: nothing; a caught error's line; a lambda with its code object, its name, its maker's slots and the data in them -/
inductive Fct where
  | no | line (d : Addr) (n : Int) | lam (c : Addr) (q : Str) (σ : List (Option V)) (ds : List (Option D))
/-- what a slot holds: data, an owned list or dict of data, an owned list or dict of such, an instance; a look at slot i -/
inductive M where
  | p (d : D) | ml (l : List D) | md (l : List (D × D)) | mm (l : List M) | mdm (l : List (D × M)) | ob (C : Addr) (fs : List (Str × M)) | at (i : Nat) | any | rf (a : Addr) (x : Fct)

/-- the tables of code objects, with the names of what they hold -/
class Tb where
  T : List (Addr × Str)
abbrev FP := Addr → Nat
def one (a : Addr) : FP := fun b => if b = a then 1 else 0
theorem one_self (a : Addr) : one a a = 1 := by simp [one]
theorem one_ne {a b : Addr} (h : b ≠ a) : one a b = 0 := by simp [one, h]

/-! ### data in a heap -/
def dKey : Key → D
  | .inl i => .int i
  | .inr x => .str x
mutual
def RD (K : PySem.W.Frag) (F : Hp) : D → V → Prop
  | .non, v => v = .non
  | .bl b, v => v = .bl b
  | .int i, v => v = .int i
  | .str x, v => v = .str x
  | .tup ds, v => ∃ a xs, v = .ref a ∧ F a = some (.tup xs) ∧ RDs K F ds xs
  | .lst ds, v => ∃ a xs, v = .ref a ∧ SqL K F a xs ∧ RDs K F ds xs
  | .dic kvs, v => ∃ a, v = .ref a ∧ ((∃ ks, F a = some (.dK ks) ∧ RDk K F kvs ks) ∨ (∃ ks, F a = some (.dT ks) ∧ RDt K F kvs ks))
def RDs (K : PySem.W.Frag) (F : Hp) : List D → List V → Prop
  | [], xs => xs = []
  | d :: ds, xs => ∃ x r, xs = x :: r ∧ RD K F d x ∧ RDs K F ds r
def RDk (K : PySem.W.Frag) (F : Hp) : List (D × D) → List (Key × V) → Prop
  | [], ks => ks = []
  | (k, d) :: kvs, ks => ∃ j x r, ks = (j, x) :: r ∧ k = dKey j ∧ RD K F d x ∧ RDk K F kvs r
def RDt (K : PySem.W.Frag) (F : Hp) : List (D × D) → List (List Key × V) → Prop
  | [], ks => ks = []
  | (k, d) :: kvs, ks => ∃ j x r, ks = (j, x) :: r ∧ k = .tup (j.map dKey) ∧ RD K F d x ∧ RDt K F kvs r
end

theorem Same.rd {F F' : Hp} {a : Addr} {u : HO} (s : Same F F') (h : Rd F a u) : Rd F' a u := by
  rcases h with h | ⟨o, h⟩
  · exact .inl (s _ _ h)
  · exact .inr ⟨o, s _ _ h⟩
theorem Same.sqt {K : PySem.W.Frag} {F F' : Hp} {a : Addr} {xs : List V} (s : Same F F') (h : SqT K F a xs) : SqT K F' a xs := by
  rcases h with h | h
  · exact .inl (Same.rd s h)
  · exact .inr h
mutual
theorem RD.mono {K : PySem.W.Frag} {F F' : Hp} (s : Same F F') : ∀ {d : D} {v : V}, RD K F d v → RD K F' d v
  | .non, _, h => h
  | .bl _, _, h => h
  | .int _, _, h => h
  | .str _, _, h => h
  | .tup ds, _, h => by
    obtain ⟨a, xs, e, h1, h2⟩ := h
    exact ⟨a, xs, e, s _ _ h1, RDs.mono s h2⟩
  | .lst ds, _, h => by
    obtain ⟨a, xs, e, h1, h2⟩ := h
    exact ⟨a, xs, e, s.seq h1, RDs.mono s h2⟩
  | .dic kvs, _, h => by
    obtain ⟨a, e, ⟨ks, h1, h2⟩ | ⟨ks, h1, h2⟩⟩ := h
    · exact ⟨a, e, .inl ⟨ks, s _ _ h1, RDk.mono s h2⟩⟩
    · exact ⟨a, e, .inr ⟨ks, s _ _ h1, RDt.mono s h2⟩⟩
theorem RDs.mono {K : PySem.W.Frag} {F F' : Hp} (s : Same F F') : ∀ {ds : List D} {xs : List V}, RDs K F ds xs → RDs K F' ds xs
  | [], _, h => h
  | d :: ds, _, h => by
    obtain ⟨x, r, e, h1, h2⟩ := h
    exact ⟨x, r, e, RD.mono s h1, RDs.mono s h2⟩
theorem RDk.mono {K : PySem.W.Frag} {F F' : Hp} (s : Same F F') : ∀ {ds : List (D × D)} {xs : List (Key × V)}, RDk K F ds xs → RDk K F' ds xs
  | [], _, h => h
  | (k, d) :: ds, _, h => by
    obtain ⟨j, x, r, e, ek, h1, h2⟩ := h
    exact ⟨j, x, r, e, ek, RD.mono s h1, RDk.mono s h2⟩
theorem RDt.mono {K : PySem.W.Frag} {F F' : Hp} (s : Same F F') : ∀ {ds : List (D × D)} {xs : List (List Key × V)}, RDt K F ds xs → RDt K F' ds xs
  | [], _, h => h
  | (k, d) :: ds, _, h => by
    obtain ⟨j, x, r, e, ek, h1, h2⟩ := h
    exact ⟨j, x, r, e, ek, RD.mono s h1, RDt.mono s h2⟩
end
theorem RDs.length {K : PySem.W.Frag} {F : Hp} : ∀ {ds : List D} {xs : List V}, RDs K F ds xs → xs.length = ds.length
  | [], _, h => by rw [show _ = [] from h]; rfl
  | d :: ds, _, h => by
    obtain ⟨x, r, rfl, h1, h2⟩ := h
    simp [RDs.length h2]
theorem RDs.get {K : PySem.W.Frag} {F : Hp} : ∀ {ds : List D} {xs : List V} {i : Nat} {d : D}, RDs K F ds xs → ds[i]? = some d → ∃ x, xs[i]? = some x ∧ RD K F d x
  | [], _, _, _, h, e => by simp at e
  | d :: ds, _, 0, _, h, e => by
    obtain ⟨x, r, rfl, h1, h2⟩ := h
    simp at e
    subst e
    exact ⟨x, rfl, h1⟩
  | d :: ds, _, i + 1, _, h, e => by
    obtain ⟨x, r, rfl, h1, h2⟩ := h
    obtain ⟨y, e1, e2⟩ := RDs.get (i := i) h2 (by simpa using e)
    exact ⟨y, by simpa using e1, e2⟩
theorem RDs.get' {K : PySem.W.Frag} {F : Hp} : ∀ {ds : List D} {xs : List V} {i : Nat} {x : V}, RDs K F ds xs → xs[i]? = some x → ∃ d, ds[i]? = some d ∧ RD K F d x
  | [], _, _, _, h, e => by rw [show _ = [] from h] at e; simp at e
  | d :: ds, _, 0, _, h, e => by
    obtain ⟨x, r, rfl, h1, h2⟩ := h
    simp at e
    subst e
    exact ⟨d, rfl, h1⟩
  | d :: ds, _, i + 1, _, h, e => by
    obtain ⟨x, r, rfl, h1, h2⟩ := h
    obtain ⟨y, e1, e2⟩ := RDs.get' (i := i) h2 (by simpa using e)
    exact ⟨y, by simpa using e1, e2⟩
theorem RDs.append {K : PySem.W.Frag} {F : Hp} : ∀ {ds es : List D} {xs ys : List V}, RDs K F ds xs → RDs K F es ys → RDs K F (ds ++ es) (xs ++ ys)
  | [], _, _, _, h, g => by rw [show _ = [] from h]; exact g
  | d :: ds, _, _, _, h, g => by
    obtain ⟨x, r, rfl, h1, h2⟩ := h
    exact ⟨x, _, rfl, h1, RDs.append h2 g⟩
theorem RDs.take {K : PySem.W.Frag} {F : Hp} : ∀ {ds : List D} {xs : List V} (n : Nat), RDs K F ds xs → RDs K F (ds.take n) (xs.take n)
  | [], _, n, h => by rw [show _ = [] from h]; simp [RDs]
  | d :: ds, _, 0, h => by simp [RDs]
  | d :: ds, _, n + 1, h => by
    obtain ⟨x, r, rfl, h1, h2⟩ := h
    exact ⟨x, _, rfl, h1, RDs.take n h2⟩
theorem RDs.drop {K : PySem.W.Frag} {F : Hp} : ∀ {ds : List D} {xs : List V} (n : Nat), RDs K F ds xs → RDs K F (ds.drop n) (xs.drop n)
  | [], _, n, h => by rw [show _ = [] from h]; simp [RDs]
  | d :: ds, _, 0, h => h
  | d :: ds, _, n + 1, h => by
    obtain ⟨x, r, rfl, h1, h2⟩ := h
    exact RDs.drop n h2
theorem RDs.set {K : PySem.W.Frag} {F : Hp} {d : D} {x : V} (hd : RD K F d x) : ∀ {ds : List D} {xs : List V} (n : Nat), RDs K F ds xs → RDs K F (ds.set n d) (xs.set n x)
  | [], _, n, h => by rw [show _ = [] from h]; simp [RDs]
  | _ :: ds, _, 0, h => by
    obtain ⟨y, r, rfl, h1, h2⟩ := h
    exact ⟨x, _, rfl, hd, h2⟩
  | _ :: ds, _, n + 1, h => by
    obtain ⟨y, r, rfl, h1, h2⟩ := h
    exact ⟨y, _, rfl, h1, RDs.set hd n h2⟩
theorem RDs.reverse {K : PySem.W.Frag} {F : Hp} : ∀ {ds : List D} {xs : List V}, RDs K F ds xs → RDs K F ds.reverse xs.reverse
  | [], _, h => by rw [show _ = [] from h]; simp [RDs]
  | d :: ds, _, h => by
    obtain ⟨x, r, rfl, h1, h2⟩ := h
    rw [List.reverse_cons, List.reverse_cons]
    exact RDs.append (RDs.reverse h2) ⟨x, [], rfl, h1, rfl⟩
theorem RDs.dropLast {K : PySem.W.Frag} {F : Hp} {ds : List D} {xs : List V} (h : RDs K F ds xs) : RDs K F ds.dropLast xs.dropLast := by
  rw [List.dropLast_eq_take, List.dropLast_eq_take, h.length]
  exact h.take _

/-- slots of which only data is told -/
def RDo (K : PySem.W.Frag) (F : Hp) : List (Option D) → List (Option V) → Prop
  | [], σ => σ = []
  | none :: ds, σ => ∃ o r, σ = o :: r ∧ RDo K F ds r
  | some d :: ds, σ => ∃ v r, σ = some v :: r ∧ RD K F d v ∧ RDo K F ds r
theorem RDo.mono {K : PySem.W.Frag} {F F' : Hp} (s : Same F F') : ∀ {ds : List (Option D)} {σ : List (Option V)}, RDo K F ds σ → RDo K F' ds σ
  | [], _, h => h
  | none :: ds, _, ⟨o, r, e, h⟩ => ⟨o, r, e, RDo.mono s h⟩
  | some d :: ds, _, ⟨v, r, e, h1, h2⟩ => ⟨v, r, e, h1.mono s, RDo.mono s h2⟩
def FctOk (K : PySem.W.Frag) (F : Hp) : Fct → Prop
  | .no => True
  | .line d n => F d = some (.xd [("line", .int n)])
  | .lam c q σ ds => F c = some (LamX.CodeO c q) ∧ RDo K F ds σ
theorem FctOk.mono {K : PySem.W.Frag} {F F' : Hp} (s : Same F F') : ∀ {x : Fct}, FctOk K F x → FctOk K F' x
  | .no, h => h
  | .line d n, h => s _ _ h
  | .lam c q σ ds, h => ⟨s _ _ h.1, h.2.mono s⟩
/-! ### owned things -/
section
variable (K : PySem.W.Frag) (F H : Hp)
mutual
def RM : M → V → FP → Prop
  | .p d, v, f => RD K F d v ∧ ∀ b, f b = 0
  | .ml ds, v, f => ∃ a xs, v = .ref a ∧ H a = some (.lst xs) ∧ F a = none ∧ RDs K F ds xs ∧ ∀ b, f b = one a b
  | .md kvs, v, f => ∃ a, v = .ref a ∧ F a = none ∧ ((∃ ks, H a = some (.dK ks) ∧ RDk K F kvs ks) ∨ (∃ ks, H a = some (.dT ks) ∧ RDt K F kvs ks)) ∧ ∀ b, f b = one a b
  | .mm ms, v, f => ∃ a xs f', v = .ref a ∧ H a = some (.lst xs) ∧ F a = none ∧ RMs ms xs f' ∧ ∀ b, f b = one a b + f' b
  | .mdm kvs, v, f => ∃ a ks f', v = .ref a ∧ H a = some (.dK ks) ∧ F a = none ∧ RMk kvs ks f' ∧ ∀ b, f b = one a b + f' b
  | .ob C fs, v, f => ∃ a dx vs f', v = .ref a ∧ H a = some (.ins C dx vs) ∧ F a = none ∧ F dx = some (.own a) ∧ RMf fs vs f' ∧ ∀ b, f b = one a b + f' b
  | .at _, _, _ => False
  | .any, _, f => ∀ b, f b = 0
  | .rf a x, v, f => v = .ref a ∧ FctOk K F x ∧ ∀ b, f b = 0
def RMs : List M → List V → FP → Prop
  | [], xs, f => xs = [] ∧ ∀ b, f b = 0
  | m :: ms, xs, f => ∃ x r f1 f2, xs = x :: r ∧ RM m x f1 ∧ RMs ms r f2 ∧ ∀ b, f b = f1 b + f2 b
def RMk : List (D × M) → List (Key × V) → FP → Prop
  | [], ks, f => ks = [] ∧ ∀ b, f b = 0
  | (k, m) :: kvs, ks, f => ∃ j x r f1 f2, ks = (j, x) :: r ∧ k = dKey j ∧ RM m x f1 ∧ RMk kvs r f2 ∧ ∀ b, f b = f1 b + f2 b
def RMf : List (Str × M) → List (Str × V) → FP → Prop
  | [], ks, f => ks = [] ∧ ∀ b, f b = 0
  | (k, m) :: kvs, ks, f => ∃ x r f1 f2, ks = (k, x) :: r ∧ RM m x f1 ∧ RMf kvs r f2 ∧ ∀ b, f b = f1 b + f2 b
end
end

/-- what a step keeps of what lies at f -/
structure Kp (F H F' H' : Hp) (f : FP) : Prop where
  ff : Same F F'
  own : ∀ a, f a ≠ 0 → H' a = H a ∧ (F a = none → F' a = none)
theorem Kp.le {F H F' H' : Hp} {f g : FP} (k : Kp F H F' H' f) (h : ∀ a, g a ≠ 0 → f a ≠ 0) : Kp F H F' H' g := ⟨k.ff, fun a n => k.own a (h a n)⟩
mutual
theorem RM.keep {K : PySem.W.Frag} {F H F' H' : Hp} : ∀ {m : M} {v : V} {f : FP}, Kp F H F' H' f → RM K F H m v f → RM K F' H' m v f
  | .p d, _, _, k, h => ⟨RD.mono k.ff h.1, h.2⟩
  | .ml ds, _, f, k, h => by
    obtain ⟨a, xs, e, h1, h2, h3, h4⟩ := h
    have n : f a ≠ 0 := by rw [h4 a, one_self]; decide
    exact ⟨a, xs, e, (k.own a n).1.trans h1, (k.own a n).2 h2, RDs.mono k.ff h3, h4⟩
  | .md kvs, _, f, k, h => by
    obtain ⟨a, e, h1, h2, h4⟩ := h
    have n : f a ≠ 0 := by rw [h4 a, one_self]; decide
    refine ⟨a, e, (k.own a n).2 h1, ?_, h4⟩
    rcases h2 with ⟨ks, h2, h3⟩ | ⟨ks, h2, h3⟩
    · exact .inl ⟨ks, (k.own a n).1.trans h2, RDk.mono k.ff h3⟩
    · exact .inr ⟨ks, (k.own a n).1.trans h2, RDt.mono k.ff h3⟩
  | .mm ms, _, f, k, h => by
    obtain ⟨a, xs, f', e, h1, h2, h3, h4⟩ := h
    have n : f a ≠ 0 := by rw [h4 a, one_self]; omega
    exact ⟨a, xs, f', e, (k.own a n).1.trans h1, (k.own a n).2 h2, RMs.keep (k.le fun b hb => by rw [h4 b]; omega) h3, h4⟩
  | .mdm kvs, _, f, k, h => by
    obtain ⟨a, xs, f', e, h1, h2, h3, h4⟩ := h
    have n : f a ≠ 0 := by rw [h4 a, one_self]; omega
    exact ⟨a, xs, f', e, (k.own a n).1.trans h1, (k.own a n).2 h2, RMk.keep (k.le fun b hb => by rw [h4 b]; omega) h3, h4⟩
  | .ob C fs, _, f, k, h => by
    obtain ⟨a, dx, vs, f', e, h1, h2, h5, h3, h4⟩ := h
    have n : f a ≠ 0 := by rw [h4 a, one_self]; omega
    exact ⟨a, dx, vs, f', e, (k.own a n).1.trans h1, (k.own a n).2 h2, k.ff _ _ h5, RMf.keep (k.le fun b hb => by rw [h4 b]; omega) h3, h4⟩
  | .at _, _, _, _, h => h.elim
  | .any, _, _, _, h => h
  | .rf a x, _, _, k, h => ⟨h.1, h.2.1.mono k.ff, h.2.2⟩
theorem RMs.keep {K : PySem.W.Frag} {F H F' H' : Hp} : ∀ {m : List M} {v : List V} {f : FP}, Kp F H F' H' f → RMs K F H m v f → RMs K F' H' m v f
  | [], _, _, _, h => h
  | m :: ms, _, f, k, h => by
    obtain ⟨x, r, f1, f2, e, h1, h2, h3⟩ := h
    exact ⟨x, r, f1, f2, e, RM.keep (k.le fun b hb => by rw [h3 b]; omega) h1, RMs.keep (k.le fun b hb => by rw [h3 b]; omega) h2, h3⟩
theorem RMk.keep {K : PySem.W.Frag} {F H F' H' : Hp} : ∀ {m : List (D × M)} {v : List (Key × V)} {f : FP}, Kp F H F' H' f → RMk K F H m v f → RMk K F' H' m v f
  | [], _, _, _, h => h
  | (j, m) :: ms, _, f, k, h => by
    obtain ⟨j', x, r, f1, f2, e, ek, h1, h2, h3⟩ := h
    exact ⟨j', x, r, f1, f2, e, ek, RM.keep (k.le fun b hb => by rw [h3 b]; omega) h1, RMk.keep (k.le fun b hb => by rw [h3 b]; omega) h2, h3⟩
theorem RMf.keep {K : PySem.W.Frag} {F H F' H' : Hp} : ∀ {m : List (Str × M)} {v : List (Str × V)} {f : FP}, Kp F H F' H' f → RMf K F H m v f → RMf K F' H' m v f
  | [], _, _, _, h => h
  | (j, m) :: ms, _, f, k, h => by
    obtain ⟨x, r, f1, f2, e, h1, h2, h3⟩ := h
    exact ⟨x, r, f1, f2, e, RM.keep (k.le fun b hb => by rw [h3 b]; omega) h1, RMf.keep (k.le fun b hb => by rw [h3 b]; omega) h2, h3⟩
end
/-- an object that can be changed lies at a -/
def mutO : HO → Bool
  | .lst _ => true
  | .dK _ => true
  | .dT _ => true
  | .ins _ _ _ => true
  | _ => false
def Mut (H : Hp) (a : Addr) : Prop := ∃ o, H a = some o ∧ mutO o = true
theorem Mut.ne {H : Hp} {a : Addr} (m : Mut H a) : H a ≠ none := fun e => by
  obtain ⟨o, e', _⟩ := m
  rw [e] at e'
  cases e'
mutual
theorem RM.alive {K : PySem.W.Frag} {F H : Hp} : ∀ {m : M} {v : V} {f : FP}, RM K F H m v f → ∀ a, f a ≠ 0 → Mut H a ∧ F a = none
  | .p d, _, _, h => fun a n => absurd (h.2 a) n
  | .ml ds, _, f, h => by
    obtain ⟨a, xs, e, h1, h2, h3, h4⟩ := h
    intro b n
    have e : b = a := Classical.byContradiction fun z => n (by rw [h4 b, one_ne z])
    subst e
    exact ⟨⟨_, h1, rfl⟩, h2⟩
  | .md kvs, _, f, h => by
    obtain ⟨a, e, h1, h2, h4⟩ := h
    intro b n
    have e : b = a := Classical.byContradiction fun z => n (by rw [h4 b, one_ne z])
    subst e
    refine ⟨?_, h1⟩
    rcases h2 with ⟨ks, h2, h3⟩ | ⟨ks, h2, h3⟩ <;> exact ⟨_, h2, rfl⟩
  | .mm ms, _, f, h => by
    obtain ⟨a, xs, f', e, h1, h2, h3, h4⟩ := h
    intro b n
    by_cases e : b = a
    · subst e
      exact ⟨⟨_, h1, rfl⟩, h2⟩
    · exact RMs.alive h3 b (by rw [h4 b, one_ne e] at n; omega)
  | .mdm kvs, _, f, h => by
    obtain ⟨a, xs, f', e, h1, h2, h3, h4⟩ := h
    intro b n
    by_cases e : b = a
    · subst e
      exact ⟨⟨_, h1, rfl⟩, h2⟩
    · exact RMk.alive h3 b (by rw [h4 b, one_ne e] at n; omega)
  | .ob C fs, _, f, h => by
    obtain ⟨a, dx, vs, f', e, h1, h2, h5, h3, h4⟩ := h
    intro b n
    by_cases e : b = a
    · subst e
      exact ⟨⟨_, h1, rfl⟩, h2⟩
    · exact RMf.alive h3 b (by rw [h4 b, one_ne e] at n; omega)
  | .at _, _, _, h => h.elim
  | .any, _, _, h => fun a n => absurd (h a) n
  | .rf _ _, _, _, h => fun a n => absurd (h.2.2 a) n
theorem RMs.alive {K : PySem.W.Frag} {F H : Hp} : ∀ {m : List M} {v : List V} {f : FP}, RMs K F H m v f → ∀ a, f a ≠ 0 → Mut H a ∧ F a = none
  | [], _, _, h => fun a n => absurd (h.2 a) n
  | m :: ms, _, f, h => by
    obtain ⟨x, r, f1, f2, e, h1, h2, h3⟩ := h
    intro b n
    by_cases z : f1 b = 0
    · exact RMs.alive h2 b (by rw [h3 b] at n; omega)
    · exact RM.alive h1 b z
theorem RMk.alive {K : PySem.W.Frag} {F H : Hp} : ∀ {m : List (D × M)} {v : List (Key × V)} {f : FP}, RMk K F H m v f → ∀ a, f a ≠ 0 → Mut H a ∧ F a = none
  | [], _, _, h => fun a n => absurd (h.2 a) n
  | (j, m) :: ms, _, f, h => by
    obtain ⟨j', x, r, f1, f2, e, ek, h1, h2, h3⟩ := h
    intro b n
    by_cases z : f1 b = 0
    · exact RMk.alive h2 b (by rw [h3 b] at n; omega)
    · exact RM.alive h1 b z
theorem RMf.alive {K : PySem.W.Frag} {F H : Hp} : ∀ {m : List (Str × M)} {v : List (Str × V)} {f : FP}, RMf K F H m v f → ∀ a, f a ≠ 0 → Mut H a ∧ F a = none
  | [], _, _, h => fun a n => absurd (h.2 a) n
  | (j, m) :: ms, _, f, h => by
    obtain ⟨x, r, f1, f2, e, h1, h2, h3⟩ := h
    intro b n
    by_cases z : f1 b = 0
    · exact RMf.alive h2 b (by rw [h3 b] at n; omega)
    · exact RM.alive h1 b z
end
end Sd
/-! Sd2: resources, readings over data states. -/
namespace Sd
open PySem PySem.Spec PyProof.Rows L2
variable [Tb]

/-- an assertion over the frozen part F, the heap H and what it owns -/
structure SLg where
  holds : Hp → Hp → FP → Prop
  keep : ∀ {F H F' H' : Hp} {f : FP}, Kp F H F' H' f → holds F H f → holds F' H' f
  alive : ∀ {F H : Hp} {f : FP}, holds F H f → ∀ a, f a ≠ 0 → Mut H a ∧ F a = none
def emp : SLg := ⟨fun _ _ f => ∀ b, f b = 0, fun _ h => h, fun h a n => absurd (h a) n⟩
def star (A B : SLg) : SLg where
  holds := fun F H f => ∃ f1 f2, A.holds F H f1 ∧ B.holds F H f2 ∧ ∀ b, f b = f1 b + f2 b
  keep := fun k ⟨f1, f2, h1, h2, h3⟩ => ⟨f1, f2, A.keep (k.le fun b hb => by rw [h3 b]; omega) h1, B.keep (k.le fun b hb => by rw [h3 b]; omega) h2, h3⟩
  alive := fun ⟨f1, f2, h1, h2, h3⟩ b n => by
    by_cases z : f1 b = 0
    · exact B.alive h2 b (by rw [h3 b] at n; omega)
    · exact A.alive h1 b z
/-- a value with its data -/
def rv (K : PySem.W.Frag) (σ : L2.St) (m : M) (v : V) : SLg where
  holds := fun F H f => (∃ i, m = .at i ∧ σ[i]? = some (some v) ∧ ∀ b, f b = 0) ∨ RM K F H m v f
  keep := fun k h => by
    rcases h with h | h
    · exact .inl h
    · exact .inr (RM.keep k h)
  alive := fun h a n => by
    rcases h with ⟨i, e, h1, h2⟩ | h
    · exact absurd (h2 a) n
    · exact RM.alive h a n
def rvs (K : PySem.W.Frag) (σ : L2.St) : List M → List V → SLg
  | m :: ms, v :: vs => star (rv K σ m v) (rvs K σ ms vs)
  | _, _ => emp
abbrev S := List (Option M)
def RS (K : PySem.W.Frag) (F H : Hp) : S → L2.St → FP → Prop
  | [], σ, f => σ = [] ∧ ∀ b, f b = 0
  | none :: s, σ, f => ∃ o r, σ = o :: r ∧ RS K F H s r f
  | some m :: s, σ, f => ∃ v r f1 f2, σ = some v :: r ∧ RM K F H m v f1 ∧ RS K F H s r f2 ∧ ∀ b, f b = f1 b + f2 b
section
variable {K : PySem.W.Frag} {F H F' H' : Hp}
theorem RS.keep : ∀ {s : S} {σ : L2.St} {f : FP}, Kp F H F' H' f → RS K F H s σ f → RS K F' H' s σ f
  | [], _, _, _, h => h
  | none :: s, _, _, k, h => by
    obtain ⟨o, r, e, h⟩ := h
    exact ⟨o, r, e, RS.keep k h⟩
  | some m :: s, _, _, k, h => by
    obtain ⟨v, r, f1, f2, e, h1, h2, h3⟩ := h
    exact ⟨v, r, f1, f2, e, RM.keep (k.le fun b hb => by rw [h3 b]; omega) h1, RS.keep (k.le fun b hb => by rw [h3 b]; omega) h2, h3⟩
theorem RS.alive : ∀ {s : S} {σ : L2.St} {f : FP}, RS K F H s σ f → ∀ a, f a ≠ 0 → Mut H a ∧ F a = none
  | [], _, _, h => fun a n => absurd (h.2 a) n
  | none :: s, _, _, h => by
    obtain ⟨o, r, e, h⟩ := h
    exact RS.alive h
  | some m :: s, _, _, h => by
    obtain ⟨v, r, f1, f2, e, h1, h2, h3⟩ := h
    intro b n
    by_cases z : f1 b = 0
    · exact RS.alive h2 b (by rw [h3 b] at n; omega)
    · exact RM.alive h1 b z
theorem RS.len : ∀ {s : S} {σ : L2.St} {f : FP}, RS K F H s σ f → σ.length = s.length
  | [], _, _, h => by rw [h.1]; rfl
  | none :: s, _, _, h => by
    obtain ⟨o, r, rfl, h⟩ := h
    simp [RS.len h]
  | some m :: s, _, _, h => by
    obtain ⟨v, r, f1, f2, rfl, h1, h2, h3⟩ := h
    simp [RS.len h2]
/-- slot i taken out -/
theorem RS.out : ∀ {s : S} {σ : L2.St} {f : FP} {i : Nat} {m : M}, RS K F H s σ f → s[i]? = some (some m) → ∃ v f1 f2, σ[i]? = some (some v) ∧ RM K F H m v f1 ∧ RS K F H (s.set i none) σ f2 ∧ ∀ b, f b = f1 b + f2 b
  | [], _, _, _, _, h, e => by simp at e
  | none :: s, _, _, 0, _, h, e => by simp at e
  | none :: s, _, _, i + 1, _, h, e => by
    obtain ⟨o, r, rfl, h⟩ := h
    obtain ⟨v, f1, f2, e1, h1, h2, h3⟩ := RS.out (i := i) h (by simpa using e)
    exact ⟨v, f1, f2, by simpa using e1, h1, ⟨o, r, rfl, h2⟩, h3⟩
  | some m :: s, _, _, 0, _, h, e => by
    obtain ⟨v, r, f1, f2, rfl, h1, h2, h3⟩ := h
    simp at e
    subst e
    exact ⟨v, f1, f2, rfl, h1, ⟨_, _, rfl, h2⟩, h3⟩
  | some m :: s, _, _, i + 1, _, h, e => by
    obtain ⟨v, r, f1, f2, rfl, h1, h2, h3⟩ := h
    obtain ⟨v', g1, g2, e1, q1, q2, q3⟩ := RS.out (i := i) h2 (by simpa using e)
    exact ⟨v', g1, fun b => f1 b + g2 b, by simpa using e1, q1, ⟨v, r, f1, g2, rfl, h1, q2, fun _ => rfl⟩, fun b => by rw [h3 b, q3 b]; dsimp only; omega⟩
/-- .. and put in -/
theorem RS.inn : ∀ {s : S} {σ : L2.St} {f1 f2 : FP} {i : Nat} {m : M} {v : V}, RS K F H s σ f2 → s[i]? = some none → RM K F H m v f1 → RS K F H (s.set i (some m)) (σ.set i (some v)) (fun b => f1 b + f2 b)
  | [], _, _, _, _, _, _, h, e, _ => by simp at e
  | none :: s, _, f1, f2, 0, _, v, h, e, g => by
    obtain ⟨o, r, rfl, h⟩ := h
    exact ⟨v, r, f1, f2, rfl, g, h, fun _ => rfl⟩
  | none :: s, _, _, _, i + 1, _, _, h, e, g => by
    obtain ⟨o, r, rfl, h⟩ := h
    exact ⟨o, _, rfl, RS.inn (i := i) h (by simpa using e) g⟩
  | some m :: s, _, _, _, 0, _, _, h, e, _ => by simp at e
  | some m :: s, _, f1, f2, i + 1, _, _, h, e, g => by
    obtain ⟨v, r, g1, g2, rfl, h1, h2, h3⟩ := h
    exact ⟨v, _, g1, fun b => f1 b + g2 b, rfl, h1, RS.inn (i := i) h2 (by simpa using e) g, fun b => by dsimp only; rw [h3 b]; omega⟩
/-- slot i forgotten, whatever stands there now -/
theorem RS.drop : ∀ {s : S} {σ : L2.St} {f : FP} (i : Nat) (o : Option V), RS K F H s σ f → ∃ f', RS K F H (s.set i none) (σ.set i o) f' ∧ ∀ b, f' b ≤ f b
  | [], _, f, i, o, h => by
    obtain ⟨rfl, h2⟩ := h
    exact ⟨f, ⟨by simp, h2⟩, fun _ => Nat.le_refl _⟩
  | none :: s, _, f, 0, o, h => by
    obtain ⟨o', r, rfl, h⟩ := h
    exact ⟨f, ⟨o, r, rfl, h⟩, fun _ => Nat.le_refl _⟩
  | none :: s, _, f, i + 1, o, h => by
    obtain ⟨o', r, rfl, h⟩ := h
    obtain ⟨f', h1, h2⟩ := RS.drop i o h
    exact ⟨f', ⟨o', _, rfl, h1⟩, h2⟩
  | some m :: s, _, f, 0, o, h => by
    obtain ⟨v, r, f1, f2, rfl, h1, h2, h3⟩ := h
    exact ⟨f2, ⟨o, r, rfl, h2⟩, fun b => by rw [h3 b]; omega⟩
  | some m :: s, _, f, i + 1, o, h => by
    obtain ⟨v, r, f1, f2, rfl, h1, h2, h3⟩ := h
    obtain ⟨f', g1, g2⟩ := RS.drop i o h2
    exact ⟨fun b => f1 b + f' b, ⟨v, _, f1, f', rfl, h1, g1, fun _ => rfl⟩, fun b => by rw [h3 b]; have := g2 b; dsimp only; omega⟩
end

theorem tabs_new {T : List (Addr × Str)} {H : Hp} {p : Addr} {o : HO} (t : LamX.Tabs T H) (h : H p = none) : LamX.Tabs T (upd H p o) :=
  t.ext fun b o' e => by rw [upd_ne (ne_of_none e h)]; exact e
theorem tabs_upd {T : List (Addr × Str)} {H : Hp} {a : Addr} {o : HO} (t : LamX.Tabs T H) (m : Mut H a) : LamX.Tabs T (upd H a o) := fun p hp => by
  obtain ⟨ps, h1, h2, h3⟩ := t p hp
  obtain ⟨u, hu, mu⟩ := m
  have ne : ∀ b o', H b = some o' → mutO o' = false → b ≠ a := fun b o' e n z => by
    rw [z, hu] at e
    cases e
    rw [mu] at n
    cases n
  refine ⟨ps, by rw [upd_ne (ne _ _ h1 rfl)]; exact h1, h2, fun pos cv hc => ?_⟩
  obtain ⟨c, e1, e2⟩ := h3 pos cv hc
  exact ⟨c, e1, by rw [upd_ne (ne _ _ e2 rfl)]; exact e2⟩
/-- the tables of code objects are in order; none of them is among what never changes -/
structure TBs (F H : Hp) : Prop where
  t : LamX.Tabs Tb.T H
  n : ∀ b ps, F b ≠ some (.tbl ps)
theorem TBs.upd {F H' : Hp} {p : Addr} {o : HO} (n : ∀ b ps, F b ≠ some (.tbl ps)) (t : LamX.Tabs Tb.T H') (h : ∀ ps, o ≠ .tbl ps) : TBs (upd F p o) H' := ⟨t, fun b ps e => by
  by_cases eb : b = p
  · rw [eb, upd_same] at e
    exact h ps (Option.some.inj e)
  · rw [upd_ne eb] at e
    exact n b ps e⟩
/-- the state: the frozen part lies in the heap; the slots and what else is owned are apart -/
structure Res (K : PySem.W.Frag) (F H : Hp) (σ : L2.St) (s : S) (φ : SLg) : Prop where
  ff : Same F H
  tb : TBs F H
  ex : ∃ f1 f2, RS K F H s σ f1 ∧ φ.holds F H f2 ∧ ∀ a, f1 a + f2 a ≤ 1
/-- what is taken from one state into another -/
theorem Res.len {K : PySem.W.Frag} {F H : Hp} {σ : L2.St} {s : S} {φ : SLg} (r : Res K F H σ s φ) : σ.length = s.length := by
  obtain ⟨_, _, h, _⟩ := r.ex
  exact h.len
theorem Res.imp {K : PySem.W.Frag} {F H : Hp} {σ : L2.St} {s : S} {φ ψ : SLg} (r : Res K F H σ s φ) (h : ∀ f, φ.holds F H f → ∃ g, ψ.holds F H g ∧ ∀ b, g b ≤ f b) : Res K F H σ s ψ := by
  obtain ⟨f1, f2, h1, h2, h3⟩ := r.ex
  obtain ⟨g, q1, q2⟩ := h f2 h2
  exact ⟨r.ff, r.tb, f1, g, h1, q1, fun a => by have := h3 a; have := q2 a; omega⟩
theorem Res.dropL {K : PySem.W.Frag} {F H : Hp} {σ : L2.St} {s : S} {φ ψ : SLg} (r : Res K F H σ s (star φ ψ)) : Res K F H σ s ψ :=
  r.imp fun f ⟨f1, f2, h1, h2, h3⟩ => ⟨f2, h2, fun b => by rw [h3 b]; omega⟩
theorem Res.dropR {K : PySem.W.Frag} {F H : Hp} {σ : L2.St} {s : S} {φ ψ : SLg} (r : Res K F H σ s (star φ ψ)) : Res K F H σ s φ :=
  r.imp fun f ⟨f1, f2, h1, h2, h3⟩ => ⟨f1, h1, fun b => by rw [h3 b]; omega⟩
/-- a thing of no weight put beside -/
theorem Res.with {K : PySem.W.Frag} {F H : Hp} {σ : L2.St} {s : S} {φ ψ : SLg} (r : Res K F H σ s ψ) (h : φ.holds F H fun _ => 0) : Res K F H σ s (star φ ψ) :=
  r.imp fun f hf => ⟨f, ⟨_, f, h, hf, fun b => by simp⟩, fun _ => Nat.le_refl _⟩
theorem Res.swap {K : PySem.W.Frag} {F H : Hp} {σ : L2.St} {s : S} {φ ψ χ : SLg} (r : Res K F H σ s (star φ (star ψ χ))) : Res K F H σ s (star ψ (star φ χ)) :=
  r.imp fun f ⟨f1, f2, h1, ⟨g1, g2, q1, q2, q3⟩, h3⟩ => ⟨f, ⟨g1, fun b => f1 b + g2 b, q1, ⟨f1, g2, h1, q2, fun _ => rfl⟩, fun b => by rw [h3 b, q3 b]; dsimp only; omega⟩, fun _ => Nat.le_refl _⟩
theorem Res.assoc {K : PySem.W.Frag} {F H : Hp} {σ : L2.St} {s : S} {φ ψ χ : SLg} (r : Res K F H σ s (star (star φ ψ) χ)) : Res K F H σ s (star φ (star ψ χ)) :=
  r.imp fun f ⟨f1, f2, ⟨g1, g2, q1, q2, q3⟩, h2, h3⟩ => ⟨f, ⟨g1, fun b => g2 b + f2 b, q1, ⟨g2, f2, q2, h2, fun _ => rfl⟩, fun b => by rw [h3 b, q3 b]; dsimp only; omega⟩, fun _ => Nat.le_refl _⟩
theorem Res.cossa {K : PySem.W.Frag} {F H : Hp} {σ : L2.St} {s : S} {φ ψ χ : SLg} (r : Res K F H σ s (star φ (star ψ χ))) : Res K F H σ s (star (star φ ψ) χ) :=
  r.imp fun f ⟨g1, f2, q1, ⟨g2, g3, q2, q3, q4⟩, h3⟩ => ⟨f, ⟨fun b => g1 b + g2 b, g3, ⟨g1, g2, q1, q2, fun _ => rfl⟩, q3, fun b => by rw [h3 b, q4 b]; dsimp only; omega⟩, fun _ => Nat.le_refl _⟩
theorem Res.get {K : PySem.W.Frag} {F H : Hp} {σ : L2.St} {s : S} {φ ψ : SLg} (r : Res K F H σ s (star φ ψ)) : ∃ f, φ.holds F H f := by
  obtain ⟨_, _, _, ⟨f1, _, h, _⟩, _⟩ := r.ex
  exact ⟨f1, h⟩
theorem Res.getP {K : PySem.W.Frag} {F H : Hp} {σ σ' : L2.St} {s : S} {d : D} {v : V} {ψ : SLg} (r : Res K F H σ s (star (rv K σ' (.p d) v) ψ)) : RD K F d v := by
  obtain ⟨f, h⟩ := r.get
  rcases h with ⟨i, e, _⟩ | h
  · cases e
  · exact h.1
/-- data read: pushed -/
theorem Res.pushP {K : PySem.W.Frag} {F H : Hp} {σ σ' : L2.St} {s : S} {d : D} {v : V} {ψ : SLg} (r : Res K F H σ s ψ) (h : RD K F d v) : Res K F H σ s (star (rv K σ' (.p d) v) ψ) := r.with (.inr ⟨h, fun _ => rfl⟩)
theorem Res.pushAt {K : PySem.W.Frag} {F H : Hp} {σ σ' : L2.St} {s : S} {i : Nat} {v : V} {ψ : SLg} (r : Res K F H σ s ψ) (h : σ'[i]? = some (some v)) : Res K F H σ s (star (rv K σ' (.at i) v) ψ) := r.with (.inl ⟨i, rfl, h, fun _ => rfl⟩)
theorem same_none {F H : Hp} {p : Addr} (s : Same F H) (h : H p = none) : F p = none := s.free h
/-- a new frozen thing -/
theorem Res.newF {K : PySem.W.Frag} {F H : Hp} {σ : L2.St} {s : S} {φ : SLg} {p : Addr} {o : HO} (r : Res K F H σ s φ) (h : H p = none) (hn : ∀ ps, o ≠ .tbl ps := by intro ps z; cases z) : Same F (upd F p o) ∧ Res K (upd F p o) (upd H p o) σ s φ := by
  have hF := same_none r.ff h
  have sm : Same F (upd F p o) := fun b x e => by rw [upd_ne (ne_of_none e hF)]; exact e
  obtain ⟨f1, f2, h1, h2, h3⟩ := r.ex
  refine ⟨sm, fun b x e => ?_, .upd r.tb.n (tabs_new r.tb.t h) hn, f1, f2, ?_, ?_, h3⟩
  · by_cases hb : b = p
    · subst hb
      rw [upd_same] at e ⊢
      exact e
    · rw [upd_ne hb] at e ⊢
      exact r.ff _ _ e
  · refine RS.keep ⟨sm, fun a n => ?_⟩ h1
    have ha : a ≠ p := fun z => (h1.alive a n).1.ne (z ▸ h)
    exact ⟨upd_ne ha, fun q => by rw [upd_ne ha]; exact q⟩
  · refine φ.keep ⟨sm, fun a n => ?_⟩ h2
    have ha : a ≠ p := fun z => (φ.alive h2 a n).1.ne (z ▸ h)
    exact ⟨upd_ne ha, fun q => by rw [upd_ne ha]; exact q⟩
/-- a new owned thing -/
theorem Res.newO {K : PySem.W.Frag} {F H : Hp} {σ : L2.St} {s : S} {φ ψ : SLg} {p : Addr} {o : HO} (r : Res K F H σ s φ) (h : H p = none) (hψ : F p = none → ∃ g, ψ.holds F (upd H p o) g ∧ ∀ b, g b ≤ one p b) : Res K F (upd H p o) σ s (star ψ φ) := by
  have hF := same_none r.ff h
  obtain ⟨f1, f2, h1, h2, h3⟩ := r.ex
  obtain ⟨g, q1, q2⟩ := hψ hF
  have n1 : f1 p = 0 := Classical.byContradiction fun z => (h1.alive p z).1.ne h
  have n2 : f2 p = 0 := Classical.byContradiction fun z => (φ.alive h2 p z).1.ne h
  refine ⟨fun b x e => ?_, ⟨tabs_new r.tb.t h, r.tb.n⟩, f1, fun b => g b + f2 b, ?_, ⟨g, f2, q1, ?_, fun _ => rfl⟩, fun b => ?_⟩
  · rw [upd_ne (ne_of_none (r.ff _ _ e) h)]
    exact r.ff _ _ e
  · refine RS.keep ⟨Same.refl F, fun a n => ⟨upd_ne fun z => ?_, id⟩⟩ h1
    subst z
    exact n n1
  · refine φ.keep ⟨Same.refl F, fun a n => ⟨upd_ne fun z => ?_, id⟩⟩ h2
    subst z
    exact n n2
  · have a1 := h3 b
    have a2 := q2 b
    by_cases hb : b = p
    · subst hb
      rw [one_self] at a2
      show f1 b + (g b + f2 b) ≤ 1
      omega
    · rw [one_ne hb] at a2
      show f1 b + (g b + f2 b) ≤ 1
      omega
/-- an owned thing at a is written: what else there is stays -/
theorem Res.write {K : PySem.W.Frag} {F H : Hp} {σ : L2.St} {s : S} {φ ψ ψ' : SLg} {a : Addr} {o : HO} (r : Res K F H σ s (star ψ φ))
    (hψ : ∀ f, ψ.holds F H f → f a ≠ 0 ∧ ((∀ b, f b ≤ 1) → ∃ g, ψ'.holds F (upd H a o) g ∧ ∀ b, g b ≤ f b)) : Res K F (upd H a o) σ s (star ψ' φ) := by
  obtain ⟨f1, f2, h1, ⟨g1, g2, q1, q2, q3⟩, h3⟩ := r.ex
  obtain ⟨na, hg⟩ := hψ g1 q1
  obtain ⟨g, p1, p2⟩ := hg fun b => by have := h3 b; rw [q3 b] at this; omega
  have e := h3 a
  rw [q3 a] at e
  have n1 : f1 a = 0 := by omega
  have n2 : g2 a = 0 := by omega
  have nF : F a = none := (ψ.alive q1 a na).2
  refine ⟨fun b x e => ?_, ⟨tabs_upd r.tb.t (ψ.alive q1 a na).1, r.tb.n⟩, f1, fun b => g b + g2 b, ?_, ⟨g, g2, p1, ?_, fun _ => rfl⟩, fun b => ?_⟩
  · rw [upd_ne (ne_of_none e nF)]
    exact r.ff _ _ e
  · refine RS.keep ⟨Same.refl F, fun b n => ⟨upd_ne fun z => ?_, id⟩⟩ h1
    subst z
    exact n n1
  · refine φ.keep ⟨Same.refl F, fun b n => ⟨upd_ne fun z => ?_, id⟩⟩ q2
    subst z
    exact n n2
  · have a1 := h3 b
    rw [q3 b] at a1
    have a2 := p2 b
    show f1 b + (g b + g2 b) ≤ 1
    omega
/-- a tuple that lies somewhere, from now on known -/
theorem Res.frz {K : PySem.W.Frag} {F H : Hp} {σ : L2.St} {s : S} {φ : SLg} {p : Addr} {xs : List V} (r : Res K F H σ s φ) (h : H p = some (.tup xs)) : Same F (upd F p (.tup xs)) ∧ Res K (upd F p (.tup xs)) H σ s φ := by
  obtain ⟨f1, f2, h1, h2, h3⟩ := r.ex
  have sm : Same F (upd F p (.tup xs)) := fun b x e => by
    by_cases eb : b = p
    · subst eb
      have := r.ff _ _ e
      rw [h] at this
      cases this
      exact upd_same
    · rw [upd_ne eb]
      exact e
  have nm : ∀ f : FP, (∀ a, f a ≠ 0 → Mut H a ∧ F a = none) → Kp F H (upd F p (.tup xs)) H f := fun f al => ⟨sm, fun a n => ⟨rfl, fun hF => by
    rw [upd_ne]
    · exact hF
    · rintro rfl
      obtain ⟨⟨o, e1, e2⟩, _⟩ := al a n
      rw [h] at e1
      cases e1
      cases e2⟩⟩
  refine ⟨sm, fun b x e => ?_, .upd r.tb.n r.tb.t (by intro ps z; cases z), f1, f2, RS.keep (nm f1 h1.alive) h1, φ.keep (nm f2 (φ.alive h2)) h2, h3⟩
  by_cases eb : b = p
  · subst eb
    rw [upd_same] at e
    cases e
    exact h
  · rw [upd_ne eb] at e
    exact r.ff _ _ e
/-- slot i: out of the state, beside it -/
theorem Res.out {K : PySem.W.Frag} {F H : Hp} {σ : L2.St} {s : S} {φ : SLg} {i : Nat} {m : M} (r : Res K F H σ s φ) (e : s[i]? = some (some m)) : ∃ v, σ[i]? = some (some v) ∧ Res K F H σ (s.set i none) (star (rv K σ m v) φ) := by
  obtain ⟨f1, f2, h1, h2, h3⟩ := r.ex
  obtain ⟨v, g1, g2, e1, q1, q2, q3⟩ := h1.out e
  exact ⟨v, e1, r.ff, r.tb, g2, fun b => g1 b + f2 b, q2, ⟨g1, f2, .inr q1, h2, fun _ => rfl⟩, fun b => by have := h3 b; rw [q3 b] at this; show g2 b + (g1 b + f2 b) ≤ 1; omega⟩
def noAt : M → Bool
  | .at _ => false
  | _ => true
theorem set_set {α : Type} : ∀ (l : List α) (i : Nat) (a b : α), (l.set i a).set i b = l.set i b
  | [], _, _, _ => by simp
  | _ :: _, 0, _, _ => by simp
  | _ :: l, i + 1, a, b => by simp
theorem set_same {α : Type} : ∀ {l : List α} {i : Nat} {a : α}, l[i]? = some a → l.set i a = l
  | [], _, _, h => by simp at h
  | _ :: _, 0, _, h => by simp at h; simp [h]
  | _ :: l, i + 1, a, h => by simp; exact set_same (by simpa using h)
/-- .. and back, the slot's value being as it was -/
theorem Res.back {K : PySem.W.Frag} {F H : Hp} {σ : L2.St} {s : S} {φ : SLg} {i : Nat} {m : M} {v : V} (hm : noAt m = true) (r : Res K F H σ (s.set i none) (star (rv K σ m v) φ)) (hi : i < s.length) (e : σ[i]? = some (some v)) : Res K F H σ (s.set i (some m)) φ := by
  obtain ⟨f1, f2, h1, ⟨g1, g2, q1, q2, q3⟩, h3⟩ := r.ex
  rcases q1 with ⟨j, z, _⟩ | q1
  · rw [z] at hm; cases hm
  · have := h1.inn (i := i) (by simp [hi]) q1
    rw [set_set, set_same e] at this
    exact ⟨r.ff, r.tb, _, g2, this, q2, fun b => by have := h3 b; rw [q3 b] at this; show g1 b + f1 b + g2 b ≤ 1; omega⟩
/-- a value stored in slot i -/
theorem Res.store {K : PySem.W.Frag} {F H : Hp} {σ : L2.St} {s : S} {φ : SLg} {i : Nat} {m : M} {v : V} (hm : noAt m = true) (r : Res K F H σ s (star (rv K σ m v) φ)) (hi : i < s.length) : Res K F H (σ.set i (some v)) (s.set i (some m)) φ := by
  obtain ⟨f1, f2, h1, ⟨g1, g2, q1, q2, q3⟩, h3⟩ := r.ex
  rcases q1 with ⟨j, z, _⟩ | q1
  · rw [z] at hm; cases hm
  · obtain ⟨f', p1, p2⟩ := h1.drop i none
    have := p1.inn (i := i) (by simp [hi]) q1
    rw [set_set, set_set] at this
    exact ⟨r.ff, r.tb, _, g2, this, q2, fun b => by have := h3 b; rw [q3 b] at this; have := p2 b; show g1 b + f' b + g2 b ≤ 1; omega⟩
theorem Res.forget {K : PySem.W.Frag} {F H : Hp} {σ : L2.St} {s : S} {φ : SLg} (i : Nat) (o : Option V) (r : Res K F H σ s φ) : Res K F H (σ.set i o) (s.set i none) φ := by
  obtain ⟨f1, f2, h1, h2, h3⟩ := r.ex
  obtain ⟨f', p1, p2⟩ := h1.drop i o
  exact ⟨r.ff, r.tb, f', f2, p1, h2, fun b => by have := h3 b; have := p2 b; omega⟩
theorem Res.forget' {K : PySem.W.Frag} {F H : Hp} {σ : L2.St} {s : S} {φ : SLg} (i : Nat) (r : Res K F H σ s φ) : Res K F H σ (s.set i none) φ := by
  by_cases hi : i < σ.length
  · have := r.forget i σ[i]
    rw [set_same (List.getElem?_eq_getElem hi)] at this
    exact this
  · have hl := r.len
    rw [List.set_eq_of_length_le (by omega)]
    exact r
end Sd
/-! Sd3: readings over data states: expressions. -/
namespace Sd
open PySem PySem.Spec PyProof.Rows L2
variable [Tb]

/-- the program's own errors -/
inductive Exc where
  | lim | stp | txt (n : Int)
structure CV where
  lim : Value
  stp : Value
  txt : Value
def ExcR (cv : CV) (F : Hp) : Exc → Value → Option Addr → Prop
  | .lim, c, d => c = cv.lim ∧ d = none
  | .stp, c, d => c = cv.stp ∧ d = none
  | .txt n, c, d => c = cv.txt ∧ ∃ a, d = some a ∧ F a = some (.xd [("line", .int n)])

abbrev WR := Exc → S → Prop
abbrev WE := S → (M → S → Prop) → WR → Prop
abbrev WT := S → (Bool → S → Prop) → WR → Prop
abbrev WA := S → (List M → S → Prop) → WR → Prop
def MonoE (w : WE) : Prop := ∀ (s : S) (P P' : M → S → Prop) (R R' : WR), (∀ m s, P m s → P' m s) → (∀ x s, R x s → R' x s) → w s P R → w s P' R'
def MonoT (w : WT) : Prop := ∀ (s : S) (P P' : Bool → S → Prop) (R R' : WR), (∀ m s, P m s → P' m s) → (∀ x s, R x s → R' x s) → w s P R → w s P' R'
def MonoA (w : WA) : Prop := ∀ (s : S) (P P' : List M → S → Prop) (R R' : WR), (∀ m s, P m s → P' m s) → (∀ x s, R x s → R' x s) → w s P R → w s P' R'

def okE (K : PySem.W.Frag) (σ : L2.St) (F : Hp) (φ : SLg) (Q : VK) : M → S → Prop := fun m s' => ∀ v F' H', Same F F' → Res K F' H' σ s' (star (rv K σ m v) φ) → Q v H'
def okA (K : PySem.W.Frag) (σ : L2.St) (F : Hp) (φ : SLg) (Q : List V → Hp → Prop) : List M → S → Prop := fun ms s' => ∀ vs F' H', Same F F' → vs.length = ms.length → Res K F' H' σ s' (star (rvs K σ ms vs) φ) → Q vs H'
def okT (K : PySem.W.Frag) (σ : L2.St) (F : Hp) (φ : SLg) (Q : Bool → Hp → Prop) : Bool → S → Prop := fun b s' => ∀ F' H', Same F F' → Res K F' H' σ s' φ → Q b H'
def okX (K : PySem.W.Frag) (cv : CV) (E : L2.St → XK) (σ : L2.St) (F : Hp) (φ : SLg) : WR := fun x s' => ∀ c d F' H', Same F F' → Res K F' H' σ s' φ → ExcR cv F' x c d → E σ c d H'
def liE (K : PySem.W.Frag) (cv : CV) (E : L2.St → XK) (w : WE) : TE := fun σ H Q => ∃ F s φ, Res K F H σ s φ ∧ w s (okE K σ F φ Q) (okX K cv E σ F φ)
def liT (K : PySem.W.Frag) (cv : CV) (E : L2.St → XK) (w : WT) : TT := fun σ H Q => ∃ F s φ, Res K F H σ s φ ∧ w s (okT K σ F φ Q) (okX K cv E σ F φ)
def liA (K : PySem.W.Frag) (cv : CV) (E : L2.St → XK) (w : WA) : TA := fun σ H Q => ∃ F s φ, Res K F H σ s φ ∧ w s (okA K σ F φ Q) (okX K cv E σ F φ)
section
variable {K : PySem.W.Frag} {cv : CV} {E : L2.St → XK} {σ : L2.St} {F F1 H H1 : Hp} {s : S} {φ ψ : SLg}
theorem okX.mono {x : Exc} (h : okX K cv E σ F φ x s) (sm : Same F F1) (hr : ∀ F' H' s, Res K F' H' σ s ψ → Res K F' H' σ s φ) : okX K cv E σ F1 ψ x s :=
  fun c d F' H' sm' r e => h c d F' H' (sm.trans sm') (hr _ _ _ r) e
theorem okX.push {x : Exc} (h : okX K cv E σ F φ x s) (sm : Same F F1) : okX K cv E σ F1 (star ψ φ) x s := h.mono sm fun _ _ _ r => r.dropL
theorem liE.mk {w : WE} {Q : VK} {P : M → S → Prop} {R : WR} (mono : MonoE w) (r : Res K F H σ s φ) (h : w s P R) (hP : ∀ m s', P m s' → okE K σ F φ Q m s') (hR : ∀ x s', R x s' → okX K cv E σ F φ x s') : liE K cv E w σ H Q :=
  ⟨F, s, φ, r, mono s _ _ _ _ hP hR h⟩
theorem liT.mk {w : WT} {Q : Bool → Hp → Prop} {P : Bool → S → Prop} {R : WR} (mono : MonoT w) (r : Res K F H σ s φ) (h : w s P R) (hP : ∀ m s', P m s' → okT K σ F φ Q m s') (hR : ∀ x s', R x s' → okX K cv E σ F φ x s') : liT K cv E w σ H Q :=
  ⟨F, s, φ, r, mono s _ _ _ _ hP hR h⟩
theorem liA.mk {w : WA} {Q : List V → Hp → Prop} {P : List M → S → Prop} {R : WR} (mono : MonoA w) (r : Res K F H σ s φ) (h : w s P R) (hP : ∀ m s', P m s' → okA K σ F φ Q m s') (hR : ∀ x s', R x s' → okX K cv E σ F φ x s') : liA K cv E w σ H Q :=
  ⟨F, s, φ, r, mono s _ _ _ _ hP hR h⟩
end
/-- an expression, read over data states -/
structure DE (X : Cx) (cv : CV) (E : L2.St → XK) (e : Expr) (w : WE) : Prop where
  pe : PE X e (liE X.K cv E w)
  mono : MonoE w
structure DT (X : Cx) (cv : CV) (E : L2.St → XK) (e : Expr) (w : WT) : Prop where
  pt : PT X e (liT X.K cv E w)
  mono : MonoT w
structure DW (X : Cx) (cv : CV) (E : L2.St → XK) (e : Expr) (w : WT) : Prop where
  pw : PW X e (liT X.K cv E w)
  mono : MonoT w
structure DA (X : Cx) (cv : CV) (E : L2.St → XK) (es : List Expr) (w : WA) : Prop where
  pa : PA X es (liA X.K cv E w)
  mono : MonoA w
theorem PE.imp {X : Cx} {e : Expr} {t t' : TE} (h : PE X e t) (i : ∀ σ H Q, t' σ H Q → t σ H Q) : PE X e t' := ⟨fun pins s σ H Q I q => h.run pins s σ H Q I (i _ _ _ q)⟩
theorem PT.imp {X : Cx} {e : Expr} {t t' : TT} (h : PT X e t) (i : ∀ σ H Q, t' σ H Q → t σ H Q) : PT X e t' := ⟨fun pins s σ H Q I q => h.run pins s σ H Q I (i _ _ _ q)⟩
theorem PW.imp {X : Cx} {e : Expr} {t t' : TT} (h : PW X e t) (i : ∀ σ H Q, t' σ H Q → t σ H Q) : PW X e t' := ⟨fun wh pins s σ H Q I q => h.run wh pins s σ H Q I (i _ _ _ q)⟩
theorem PA.imp {X : Cx} {e : List Expr} {t t' : TA} (h : PA X e t) (i : ∀ σ H Q, t' σ H Q → t σ H Q) : PA X e t' := ⟨fun pos pins s σ H Q I q => h.run pos pins s σ H Q I (i _ _ _ q)⟩

/-! ### looks -/
/-- what a value is, a look followed -/
def lk (s : S) : M → Option M
  | .at i => match s[i]? with
    | some (some .any) => none
    | some (some m) => some m
    | _ => none
  | .any => none
  | m => some m
/-- a list of data that is read -/
def seqL (s : S) (m : M) : Option (List D) := match lk s m with
  | some (.p (.lst l)) => some l
  | some (.ml l) => some l
  | _ => none
/-- a list or tuple of data that is read -/
def seqA (s : S) (m : M) : Option (List D) := match lk s m with
  | some (.p (.lst l)) => some l
  | some (.ml l) => some l
  | some (.p (.tup l)) => some l
  | _ => none
section
variable {K : PySem.W.Frag} {σ : L2.St} {F H : Hp} {s : S} {φ : SLg} {m : M} {v : V} {l : List D}
theorem Res.lk {m' : M} (r : Res K F H σ s (star (rv K σ m v) φ)) (e : lk s m = some m') : ∃ f, RM K F H m' v f := by
  obtain ⟨f, hf⟩ := r.get
  obtain ⟨g1, g2, q1, q2, q3⟩ := r.ex
  rcases hf with ⟨i, rfl, e1, _⟩ | hf
  · simp only [Sd.lk] at e
    split at e
    · cases e
    · rename_i m1 _ e2
      cases e
      obtain ⟨v', f1, f2, e3, h1, _⟩ := q1.out e2
      rw [e1] at e3
      cases e3
      exact ⟨f1, h1⟩
    · cases e
  · cases m with
    | «at» i => exact hf.elim
    | any => cases e
    | _ => cases e; exact ⟨f, hf⟩
theorem Res.seqL (r : Res K F H σ s (star (rv K σ m v) φ)) (e : seqL s m = some l) : ∃ a xs, v = .ref a ∧ SqL K H a xs ∧ RDs K F l xs := by
  unfold Sd.seqL at e
  split at e
  · rename_i e1
    cases e
    obtain ⟨f, h, _⟩ := r.lk e1
    obtain ⟨a, xs, e2, h1, h2⟩ := h
    exact ⟨a, xs, e2, r.ff.seq h1, h2⟩
  · rename_i e1
    cases e
    obtain ⟨f, h⟩ := r.lk e1
    obtain ⟨a, xs, e2, h1, _, h2, _⟩ := h
    exact ⟨a, xs, e2, SqL.of h1, h2⟩
  · cases e
theorem Res.seqA (r : Res K F H σ s (star (rv K σ m v) φ)) (e : seqA s m = some l) : ∃ a xs, v = .ref a ∧ (SqL K H a xs ∨ SqT K H a xs) ∧ RDs K F l xs := by
  unfold Sd.seqA at e
  split at e
  · rename_i e1
    cases e
    obtain ⟨f, h, _⟩ := r.lk e1
    obtain ⟨a, xs, e2, h1, h2⟩ := h
    exact ⟨a, xs, e2, .inl (r.ff.seq h1), h2⟩
  · rename_i e1
    cases e
    obtain ⟨f, h⟩ := r.lk e1
    obtain ⟨a, xs, e2, h1, _, h2, _⟩ := h
    exact ⟨a, xs, e2, .inl (SqL.of h1), h2⟩
  · rename_i e1
    cases e
    obtain ⟨f, h, _⟩ := r.lk e1
    obtain ⟨a, xs, e2, h1, h2⟩ := h
    exact ⟨a, xs, e2, .inr (SqT.of (r.ff _ _ h1)), h2⟩
  · cases e
end

/-! ### names and constants -/
def eV (i : Nat) : WE := fun s P _ => match s[i]? with
  | some (some (.p d)) => P (.p d) s
  | some (some _) => P (.at i) s
  | _ => False
def eC (d : D) : WE := fun s P _ => P (.p d) s
section
variable {X : Cx} {cv : CV} {E : L2.St → XK}
theorem eV.mono (i : Nat) : MonoE (eV i) := fun s P P' R R' h _ q => by
  unfold eV at q ⊢
  split at q
  · exact h _ _ q
  · exact h _ _ q
  · exact q
theorem de_pv {e : Expr} {i : Nat} (h : PE X e (tVar i)) : DE X cv E e (eV i) := by
  refine ⟨PE.imp h fun σ H Q q => ?_, eV.mono i⟩
  obtain ⟨F, s, φ, r, q⟩ := q
  obtain ⟨f1, f2, h1, h2, h3⟩ := r.ex
  unfold eV at q
  split at q
  · rename_i d e
    obtain ⟨v, g1, g2, e1, p1, p2, p3⟩ := h1.out e
    exact ⟨v, e1, q v F H (Same.refl F) (r.pushP p1.1)⟩
  · rename_i m _ e
    obtain ⟨v, g1, g2, e1, p1, p2, p3⟩ := h1.out e
    exact ⟨v, e1, q v F H (Same.refl F) (r.pushAt e1)⟩
  · exact q.elim
theorem de_con {e : Expr} {v : V} {d : D} (h : PE X e (tC v)) (hd : ∀ F, RD X.K F d v) : DE X cv E e (eC d) := by
  refine ⟨PE.imp h fun σ H Q q => ?_, fun s P P' R R' hp _ q => hp _ _ q⟩
  obtain ⟨F, s, φ, r, q⟩ := q
  exact q v F H (Same.refl F) (r.pushP (hd F))
theorem de_int {i j pos} : DE X cv E (.Constant (.int i) j pos) (eC (.int i)) := de_con pe_int fun _ => rfl
theorem de_bl {b j pos} : DE X cv E (.Constant (.bool b) j pos) (eC (.bl b)) := de_con pe_bl fun _ => rfl
theorem de_non {j pos} : DE X cv E (.Constant .none j pos) (eC .non) := de_con pe_non fun _ => rfl
theorem de_str {x j pos} : DE X cv E (.Constant (.str x) j pos) (eC (.str x)) := de_con pe_str fun _ => rfl
end

/-! ### argument lists, displays -/
def aN : WA := fun s P _ => P [] s
def aC (w : WE) (wr : WA) : WA := fun s P R => w s (fun m s1 => wr s1 (fun ms s2 => P (m :: ms) s2) R) R
/-- all of them data -/
def allP : List M → Option (List D)
  | [] => some []
  | .p d :: ms => (allP ms).map (d :: ·)
  | _ => none
def eTup (w : WA) : WE := fun s P R => w s (fun ms s1 => match allP ms with
  | some ds => ds.length ≤ sizeLine ∧ P (.p (.tup ds)) s1
  | none => False) R
def eLst (w : WA) : WE := fun s P R => w s (fun ms s1 => match allP ms with
  | some ds => ds.length ≤ sizeLine ∧ P (.ml ds) s1
  | none => False) R
section
variable {X : Cx} {cv : CV} {E : L2.St → XK} {e : Expr} {es : List Expr} {w : WE} {wa : WA} {pos : Pos}
theorem aC.mono {wr : WA} (h : MonoE w) (hr : MonoA wr) : MonoA (aC w wr) := fun s P P' R R' hp hR q =>
  h s _ _ _ _ (fun m s1 q1 => hr s1 _ _ _ _ (fun ms s2 q2 => hp _ _ q2) hR q1) hR q
theorem da_nil : DA X cv E [] aN := by
  refine ⟨PA.imp pa_nil fun σ H Q q => ?_, fun s P P' R R' hp _ q => hp _ _ q⟩
  obtain ⟨F, s, φ, r, q⟩ := q
  exact q [] F H (Same.refl F) rfl (r.with fun _ => rfl)
theorem da_cons {wr : WA} (ha : DE X cv E e w) (hr : DA X cv E es wr) (hs : starEach (e :: es) X.env = (false, eval e X.env) :: starEach es X.env := by rfl) : DA X cv E (e :: es) (aC w wr) := by
  refine ⟨PA.imp (pa_cons ha.pe hr.pa hs) fun σ H Q q => ?_, aC.mono ha.mono hr.mono⟩
  obtain ⟨F, s, φ, r, q⟩ := q
  refine liE.mk ha.mono r q (fun m s1 q1 v F1 H1 sm1 r1 => ?_) fun _ _ z => z
  refine liA.mk hr.mono r1 q1 (fun ms s2 q2 vs F2 H2 sm2 hl r2 => ?_) fun x s2 z => okX.push z sm1
  exact q2 (v :: vs) F2 H2 (sm1.trans sm2) (by simp [hl]) (Res.cossa r2.swap)
theorem Res.allP {K : PySem.W.Frag} {σ : L2.St} {F H : Hp} {s : S} {φ : SLg} : ∀ {ms : List M} {vs : List V} {ds : List D}, Res K F H σ s (star (rvs K σ ms vs) φ) → vs.length = ms.length → allP ms = some ds → RDs K F ds vs
  | [], [], _, _, _, e => by cases e; exact rfl
  | [], _ :: _, _, _, hl, _ => by simp at hl
  | m :: ms, [], _, _, hl, _ => by simp at hl
  | m :: ms, v :: vs, ds, r, hl, e => by
    cases m with
    | p d =>
      simp only [Sd.allP, Option.map_eq_some_iff] at e
      obtain ⟨ds', e1, rfl⟩ := e
      have r' := Res.assoc r
      exact ⟨v, vs, rfl, r'.getP, Res.allP (r'.dropL) (by simpa using hl) e1⟩
    | _ => simp [Sd.allP] at e
theorem de_tup {x1} (ha : DA X cv E es wa) : DE X cv E (.Tuple es x1 pos) (eTup wa) := by
  refine ⟨PE.imp (pe_tup ha.pa) fun σ H Q q => ?_, fun s P P' R R' hp hR q => ha.mono s _ _ _ _ (fun ms s1 q1 => ?_) hR q⟩
  · obtain ⟨F, s, φ, r, q⟩ := q
    refine liA.mk ha.mono r q (fun ms s1 q1 vs F1 H1 sm1 hl r1 => ?_) fun _ _ z => z
    split at q1
    · rename_i ds e
      have rd := Res.allP r1 hl e
      obtain ⟨hz, q1⟩ := q1
      refine ⟨by rw [rd.length]; exact hz, fun p hp => ?_⟩
      obtain ⟨sm2, r2⟩ := r1.dropL.newF (o := .tup vs) hp
      exact q1 _ _ _ (sm1.trans sm2) (r2.pushP ⟨p, vs, rfl, upd_same, rd.mono sm2⟩)
    · exact q1.elim
  · split at q1
    · exact ⟨q1.1, hp _ _ q1.2⟩
    · exact q1
theorem de_lst (ha : DA X cv E es wa) : DE X cv E (.List es pos) (eLst wa) := by
  refine ⟨PE.imp (pe_lst ha.pa) fun σ H Q q => ?_, fun s P P' R R' hp hR q => ha.mono s _ _ _ _ (fun ms s1 q1 => ?_) hR q⟩
  · obtain ⟨F, s, φ, r, q⟩ := q
    refine liA.mk ha.mono r q (fun ms s1 q1 vs F1 H1 sm1 hl r1 => ?_) fun _ _ z => z
    split at q1
    · rename_i ds e
      have rd := Res.allP r1 hl e
      obtain ⟨hz, q1⟩ := q1
      refine ⟨by rw [rd.length]; exact hz, fun p hp => ?_⟩
      exact q1 _ _ _ sm1 (r1.dropL.newO hp fun hF => ⟨one p, .inr ⟨p, vs, rfl, upd_same, hF, rd, fun _ => rfl⟩, fun _ => Nat.le_refl _⟩)
    · exact q1.elim
  · split at q1
    · exact ⟨q1.1, hp _ _ q1.2⟩
    · exact q1
end

/-! ### two-place operations -/
abbrev WO := S → M → M → (M → Prop) → Prop
def eB (o : WO) (wa wb : WE) : WE := fun s P R => wa s (fun x s1 => wb s1 (fun y s2 => o s2 x y fun m => P m s2) R) R
/-- what makes an operation over values one over data -/
structure OpD (X : Cx) (r : R2) (o : WO) : Prop where
  mono : ∀ s x y P P', (∀ m, P m → P' m) → o s x y P → o s x y P'
  to : ∀ (F H : Hp) (σ : L2.St) (s : S) (φ : SLg) (x y : M) (vx vy : V) (P : M → Prop) (Q : VK), Res X.K F H σ s (star (rv X.K σ y vy) (star (rv X.K σ x vx) φ)) → o s x y P →
    (∀ m, P m → ∀ v F' H', Same F F' → Res X.K F' H' σ s (star (rv X.K σ m v) φ) → Q v H') → r vx vy H Q
section
variable {X : Cx} {cv : CV} {E : L2.St → XK} {a b : Expr} {wa wb : WE} {o : WO} {r : R2} {pos : Pos}
theorem eB.mono (ho : ∀ s x y P P', (∀ m, P m → P' m) → o s x y P → o s x y P') (ha : MonoE wa) (hb : MonoE wb) : MonoE (eB o wa wb) := fun s P P' R R' hp hR q =>
  ha s _ _ _ _ (fun x s1 q1 => hb s1 _ _ _ _ (fun y s2 q2 => ho _ _ _ _ _ (fun m => hp m s2) q2) hR q1) hR q
theorem eB.to (od : OpD X r o) (ha : DE X cv E a wa) (hb : DE X cv E b wb) {σ : L2.St} {H : Hp} {Q : VK} (q : liE X.K cv E (eB o wa wb) σ H Q) : tOp r (liE X.K cv E wa) (liE X.K cv E wb) σ H Q := by
  obtain ⟨F, s, φ, rs, q⟩ := q
  refine liE.mk ha.mono rs q (fun m s1 q1 v F1 H1 sm1 r1 => ?_) fun _ _ z => z
  refine liE.mk hb.mono r1 q1 (fun m2 s2 q2 v2 F2 H2 sm2 r2 => ?_) fun x s2 z => okX.push z sm1
  exact od.to F2 H2 σ s2 φ m m2 v v2 _ Q r2 q2 fun m' q3 v' F' H' sm' r' => q3 v' F' H' (sm1.trans (sm2.trans sm')) r'
theorem de_op {op : Operator} (ho : OpR X (binaryOp op) r) (od : OpD X r o) (ha : DE X cv E a wa) (hb : DE X cv E b wb) : DE X cv E (.BinOp a op b pos) (eB o wa wb) :=
  ⟨PE.imp (pe_op ho ha.pe hb.pe) fun _ _ _ q => eB.to od ha hb q, eB.mono od.mono ha.mono hb.mono⟩
theorem de_cmp {op : CmpOp} (ho : OpR X (compareOp op) r) (od : OpD X r o) (ha : DE X cv E a wa) (hb : DE X cv E b wb) (hm : behindInMarks op b = false) : DE X cv E (.Compare a [op] [b] pos) (eB o wa wb) :=
  ⟨PE.imp (pe_cmpR ho ha.pe hb.pe hm) fun _ _ _ q => eB.to od ha hb q, eB.mono od.mono ha.mono hb.mono⟩
end
/-- the test of a value that is True or False -/
def tB (w : WE) : WT := fun s P R => w s (fun m s1 => match m with
  | .p (.bl b) => P b s1
  | _ => False) R
theorem tB.mono {w : WE} (h : MonoE w) : MonoT (tB w) := fun s P P' R R' hp hR q => h s _ _ _ _ (fun m s1 q1 => by
  split at q1
  · exact hp _ _ q1
  · exact q1) hR q
section
variable {X : Cx} {cv : CV} {E : L2.St → XK} {a b : Expr} {wa wb : WE} {o : WO} {r : R2} {pos : Pos}
theorem tB.of {w : WE} (hw : MonoE w) {F : Hp} {σ : L2.St} {s : S} {φ : SLg} {Q : Bool → Hp → Prop} (q : tB w s (okT X.K σ F φ Q) (okX X.K cv E σ F φ)) : w s (okE X.K σ F φ fun x H' => ∃ k, x = .bl k ∧ Q k H') (okX X.K cv E σ F φ) := by
  refine hw s _ _ _ _ (fun m s1 q1 v F1 H1 sm1 r1 => ?_) (fun _ _ z => z) q
  split at q1
  · rename_i b
    have e := r1.getP
    exact ⟨b, e, q1 F1 H1 sm1 r1.dropL⟩
  · exact q1.elim
theorem dt_cmp {op : CmpOp} (ho : OpR X (compareOp op) r) (od : OpD X r o) (ha : DE X cv E a wa) (hb : DE X cv E b wb) (hm : behindInMarks op b = false) : DT X cv E (.Compare a [op] [b] pos) (tB (eB o wa wb)) := by
  refine ⟨PT.imp (pt_cmpR ho ha.pe hb.pe hm) fun σ H Q q => ?_, tB.mono (eB.mono od.mono ha.mono hb.mono)⟩
  obtain ⟨F, s, φ, rs, q⟩ := q
  exact eB.to od ha hb ⟨F, s, φ, rs, tB.of (X := X) (cv := cv) (E := E) (eB.mono od.mono ha.mono hb.mono) q⟩
end
/-- a value's truth -/
def truM (s : S) (m : M) (P : Bool → Prop) : Prop := match m with
  | .p (.bl b) => P b
  | .p .non => P false
  | .p (.int i) => P (i != 0)
  | .p (.str x) => x.length ≤ sizeLine ∧ P ((x.length : Int) != 0)
  | m => match seqA s m with
    | some l => P (!l.isEmpty)
    | none => match lk s m with
      | some (.p (.dic _)) => False
      | some (.md kvs) => P (!kvs.isEmpty)
      | some (.mm ms) => P (!ms.isEmpty)
      | _ => False
def tV (w : WE) : WT := fun s P R => w s (fun m s1 => truM s1 m fun b => P b s1) R
theorem truM.mono {s : S} {m : M} {P P' : Bool → Prop} (h : ∀ b, P b → P' b) (q : truM s m P) : truM s m P' := by
  unfold truM at q ⊢
  split at q
  · exact h _ q
  · exact h _ q
  · exact h _ q
  · exact ⟨q.1, h _ q.2⟩
  · split at q
    · exact h _ q
    · split at q
      · exact q
      · exact h _ q
      · exact h _ q
      · exact q
theorem tV.mono {w : WE} (h : MonoE w) : MonoT (tV w) := fun s P P' R R' hp hR q => h s _ _ _ _ (fun m s1 q1 => truM.mono (fun b => hp b s1) q1) hR q
theorem isEmpty_len {α β : Type} {l : List α} {l' : List β} (h : l.length = l'.length) : l.isEmpty = l'.isEmpty := by
  cases l <;> cases l' <;> simp at h ⊢
theorem RDk.length {K : PySem.W.Frag} {F : Hp} : ∀ {ds : List (D × D)} {xs : List (Key × V)}, RDk K F ds xs → xs.length = ds.length
  | [], _, h => by rw [show _ = [] from h]; rfl
  | (k, d) :: ds, _, h => by
    obtain ⟨j, x, r, rfl, _, h1, h2⟩ := h
    simp [RDk.length h2]
theorem RDt.length {K : PySem.W.Frag} {F : Hp} : ∀ {ds : List (D × D)} {xs : List (List Key × V)}, RDt K F ds xs → xs.length = ds.length
  | [], _, h => by rw [show _ = [] from h]; rfl
  | (k, d) :: ds, _, h => by
    obtain ⟨j, x, r, rfl, _, h1, h2⟩ := h
    simp [RDt.length h2]
theorem RMs.length {K : PySem.W.Frag} {F H : Hp} : ∀ {ds : List M} {xs : List V} {f : FP}, RMs K F H ds xs f → xs.length = ds.length
  | [], _, _, h => by rw [h.1]; rfl
  | d :: ds, _, _, h => by
    obtain ⟨x, r, f1, f2, rfl, h1, h2, _⟩ := h
    simp [RMs.length h2]
end Sd
/-! Sd4: operations over data. -/
namespace Sd
open PySem PySem.Spec PyProof.Rows L2
variable [Tb]

/-! ### data as PyData -/
mutual
def toPy : D → PyData
  | .non => .none
  | .bl b => .bool b
  | .int i => .int i
  | .str x => .str x
  | .tup l => .tuple (toPys l)
  | .lst l => .list (toPys l)
  | .dic _ => .dict []
def toPys : List D → List PyData
  | [] => []
  | d :: l => toPy d :: toPys l
end
mutual
def noDic : D → Bool
  | .dic _ => false
  | .tup l => noDics l
  | .lst l => noDics l
  | _ => true
def noDics : List D → Bool
  | [] => true
  | d :: l => noDic d && noDics l
end
/-- fit for ==: what the texts hold are signs, and it is not too deep -/
def shpd (d : PyData) : Bool := d.canLay0 && decide (d.depth ≤ 180)
theorem canLay_of_shpd {d : PyData} (h : shpd d = true) : d.canLay0 = true := (Bool.and_eq_true_iff.mp h).1
theorem depth_of_shpd {d : PyData} (h : shpd d = true) : d.depth ≤ 180 := of_decide_eq_true (Bool.and_eq_true_iff.mp h).2
theorem room_of_shpd {A : Around} {da db : PyData} (h : shpd da = true) (hu : A.units + 182 < cLine) : A.units + min da.depth db.depth < cLine := by
  have h1 := depth_of_shpd h
  have h2 : min da.depth db.depth ≤ da.depth := Nat.min_le_left _ _
  omega
def rEqQ (K : PySem.W.Frag) : R2 := fun x y H Q => ∃ d e, Dp K H x d ∧ Dp K H y e ∧ shpd d = true ∧ shpd e = true ∧ Q (.bl (PyData.eqv d e)) H
def rNeQ (K : PySem.W.Frag) : R2 := fun x y H Q => ∃ d e, Dp K H x d ∧ Dp K H y e ∧ shpd d = true ∧ shpd e = true ∧ Q (.bl (!PyData.eqv d e)) H
theorem op_eqQ {X : Cx} (hu : X.A.units + 182 < cLine) : OpR X (compareOp .Eq) (rEqQ X.K) := by
  intro pins s σ H x y v u Q I rx ry h
  obtain ⟨d, e, hd, he, sd, se, q⟩ := h
  obtain ⟨as, r1⟩ := Dp.reads I d x v hd rx
  obtain ⟨bs, r2⟩ := Dp.reads I e y u he ry
  exact SeqAt.compareEq_reads r1 r2 (canLay_of_shpd sd) (canLay_of_shpd se) (room_of_shpd sd hu) ⟨.bl _, H, I, rfl, q⟩
theorem op_neQ {X : Cx} (hu : X.A.units + 182 < cLine) : OpR X (compareOp .NotEq) (rNeQ X.K) := by
  intro pins s σ H x y v u Q I rx ry h
  obtain ⟨d, e, hd, he, sd, se, q⟩ := h
  obtain ⟨as, r1⟩ := Dp.reads I d x v hd rx
  obtain ⟨bs, r2⟩ := Dp.reads I e y u he ry
  exact SeqAt.compareNe_reads r1 r2 (canLay_of_shpd sd) (canLay_of_shpd se) (room_of_shpd sd hu) ⟨.bl _, H, I, rfl, q⟩
/-- fit for ==: no dict within, signs that are signs, not too deep -/
def shp (d : D) : Bool := noDic d && shpd (toPy d)
def eqD (d e : D) : Bool := PyData.eqv (toPy d) (toPy e)
mutual
theorem RD.dp {K : PySem.W.Frag} {F H : Hp} (ff : Same F H) : ∀ {d : D} {v : V}, RD K F d v → noDic d = true → Dp K H v (toPy d)
  | .non, _, h, _ => by cases h; exact .non
  | .bl b, _, h, _ => by cases h; exact .bl b
  | .int i, _, h, _ => by cases h; exact .int i
  | .str x, _, h, _ => by cases h; exact .str x
  | .tup l, _, h, n => by
    obtain ⟨a, xs, rfl, h1, h2⟩ := h
    exact .tup (SqT.of (ff _ _ h1)) (RDs.dp ff h2 n)
  | .lst l, _, h, n => by
    obtain ⟨a, xs, rfl, h1, h2⟩ := h
    exact .lst (ff.seq h1) (RDs.dp ff h2 n)
  | .dic _, _, _, n => by cases n
theorem RDs.dp {K : PySem.W.Frag} {F H : Hp} (ff : Same F H) : ∀ {d : List D} {v : List V}, RDs K F d v → noDics d = true → DpAll K H v (toPys d)
  | [], _, h, _ => by rw [show _ = [] from h]; exact .nil
  | d :: l, _, h, n => by
    obtain ⟨x, r, rfl, h1, h2⟩ := h
    simp only [noDics, Bool.and_eq_true] at n
    exact .cons (RD.dp ff h1 n.1) (RDs.dp ff h2 n.2)
end
/-- the data of a value that is read -/
def datM (s : S) (m : M) : Option D := match lk s m with
  | some (.p d) => some d
  | some (.ml l) => some (.lst l)
  | _ => none
theorem Res.datM {K : PySem.W.Frag} {σ : L2.St} {F H : Hp} {s : S} {φ : SLg} {m : M} {v : V} {d : D} (r : Res K F H σ s (star (rv K σ m v) φ)) (e : datM s m = some d) (n : shp d = true) : Dp K H v (toPy d) ∧ shpd (toPy d) = true := by
  unfold shp at n
  rw [Bool.and_eq_true] at n
  refine ⟨?_, n.2⟩
  unfold Sd.datM at e
  split at e
  · rename_i e1
    cases e
    obtain ⟨f, h, _⟩ := r.lk e1
    exact h.dp r.ff n.1
  · rename_i e1
    cases e
    obtain ⟨f, h⟩ := r.lk e1
    obtain ⟨a, xs, rfl, h1, _, h2, _⟩ := h
    exact .lst (SqL.of h1) (h2.dp r.ff n.1)
  · cases e
def oEq : WO := fun s x y P => match datM s x, datM s y with
  | some a, some b => shp a = true ∧ shp b = true ∧ P (.p (.bl (eqD a b)))
  | _, _ => False
def oNe : WO := fun s x y P => match datM s x, datM s y with
  | some a, some b => shp a = true ∧ shp b = true ∧ P (.p (.bl (!eqD a b)))
  | _, _ => False
section
variable {X : Cx}
/-- what an operation's value is, when it is data without an object -/
theorem OpD.fin {K : PySem.W.Frag} {F H : Hp} {σ : L2.St} {s : S} {φ ψ : SLg} {P : M → Prop} {Q : VK} {d : D} {v : V} (r : Res K F H σ s (star ψ φ)) (k : ∀ m, P m → ∀ v F' H', Same F F' → Res K F' H' σ s (star (rv K σ m v) φ) → Q v H') (h : P (.p d)) (rd : RD K F d v) : Q v H :=
  k _ h v F H (Same.refl F) (r.dropL.pushP rd)
theorem od_eq : OpD X (rEqQ X.K) oEq := by
  refine ⟨fun s x y P P' h q => ?_, fun F H σ s φ x y vx vy P Q r q k => ?_⟩
  · unfold oEq at q ⊢
    split at q
    · exact ⟨q.1, q.2.1, h _ q.2.2⟩
    · exact q
  · unfold oEq at q
    split at q
    · rename_i a b ea eb
      obtain ⟨h1, h2, q⟩ := q
      obtain ⟨d2, s2⟩ := r.datM eb h2
      obtain ⟨d1, s1⟩ := r.dropL.datM ea h1
      exact ⟨_, _, d1, d2, s1, s2, OpD.fin r.cossa k q rfl⟩
    · exact q.elim
theorem od_ne : OpD X (rNeQ X.K) oNe := by
  refine ⟨fun s x y P P' h q => ?_, fun F H σ s φ x y vx vy P Q r q k => ?_⟩
  · unfold oNe at q ⊢
    split at q
    · exact ⟨q.1, q.2.1, h _ q.2.2⟩
    · exact q
  · unfold oNe at q
    split at q
    · rename_i a b ea eb
      obtain ⟨h1, h2, q⟩ := q
      obtain ⟨d2, s2⟩ := r.datM eb h2
      obtain ⟨d1, s1⟩ := r.dropL.datM ea h1
      exact ⟨_, _, d1, d2, s1, s2, OpD.fin r.cossa k q rfl⟩
    · exact q.elim
end

/-! ### ints -/
def oI (C : Int → Int → Prop) (g : Int → Int → D) : WO := fun _ x y P => match x, y with
  | .p (.int i), .p (.int j) => C i j ∧ P (.p (g i j))
  | _, _ => False
def oI0 (g : Int → Int → D) : WO := fun _ x y P => match x, y with
  | .p (.int i), .p (.int j) => P (.p (g i j))
  | _, _ => False
section
variable {X : Cx}
theorem od_I {C : Int → Int → Prop} {g : Int → Int → D} {gv : Int → Int → V} (hg : ∀ K F i j, RD K F (g i j) (gv i j)) : OpD X (rI C gv) (oI C g) := by
  refine ⟨fun s x y P P' h q => ?_, fun F H σ s φ x y vx vy P Q r q k => ?_⟩
  · unfold oI at q ⊢
    split at q
    · exact ⟨q.1, h _ q.2⟩
    · exact q
  · unfold oI at q
    split at q
    · exact ⟨_, _, r.dropL.getP, r.getP, q.1, OpD.fin r.cossa k q.2 (hg _ _ _ _)⟩
    · exact q.elim
theorem od_I0 {g : Int → Int → D} {gv : Int → Int → V} (hg : ∀ K F i j, RD K F (g i j) (gv i j)) : OpD X (rI0 gv) (oI0 g) := by
  refine ⟨fun s x y P P' h q => ?_, fun F H σ s φ x y vx vy P Q r q k => ?_⟩
  · unfold oI0 at q ⊢
    split at q
    · exact h _ q
    · exact q
  · unfold oI0 at q
    split at q
    · exact ⟨_, _, r.dropL.getP, r.getP, OpD.fin r.cossa k q (hg _ _ _ _)⟩
    · exact q.elim
theorem op_mulI : OpR X (binaryOp .Mult) (rI IntMulOk fun i j => .int (i * j)) := opI fun _ _ _ _ _ _ _ hc q => mul_int q hc
def oSub : WO := oI0 fun i j => .int (i - j)
def oMul : WO := oI IntMulOk fun i j => .int (i * j)
def oDiv : WO := oI CDiv fun i j => .int (i / j)
def oMod : WO := oI (fun _ j => 0 < j) fun i j => .int (i % j)
def oPow : WO := oI CPow fun i j => .int (i ^ j.toNat)
def oLt : WO := oI0 fun i j => .bl (decide (i < j))
def oLe : WO := oI0 fun i j => .bl (decide (i ≤ j))
def oGt : WO := oI0 fun i j => .bl (decide (j < i))
def oGe : WO := oI0 fun i j => .bl (decide (j ≤ i))
theorem od_sub : OpD X (rI0 fun i j => .int (i - j)) oSub := od_I0 fun _ _ _ _ => rfl
theorem od_mul : OpD X (rI IntMulOk fun i j => .int (i * j)) oMul := od_I fun _ _ _ _ => rfl
theorem od_div : OpD X (rI CDiv fun i j => .int (i / j)) oDiv := od_I fun _ _ _ _ => rfl
theorem od_mod : OpD X (rI (fun _ j => 0 < j) fun i j => .int (i % j)) oMod := od_I fun _ _ _ _ => rfl
theorem od_pow : OpD X (rI CPow fun i j => .int (i ^ j.toNat)) oPow := od_I fun _ _ _ _ => rfl
theorem od_lt : OpD X (rI0 fun i j => .bl (decide (i < j))) oLt := od_I0 fun _ _ _ _ => rfl
theorem od_le : OpD X (rI0 fun i j => .bl (decide (i ≤ j))) oLe := od_I0 fun _ _ _ _ => rfl
theorem od_gt : OpD X (rI0 fun i j => .bl (decide (j < i))) oGt := od_I0 fun _ _ _ _ => rfl
theorem od_ge : OpD X (rI0 fun i j => .bl (decide (j ≤ i))) oGe := od_I0 fun _ _ _ _ => rfl
end

/-! ### + -/
/-- two lists, read -/
def rCatG (K : PySem.W.Frag) : R2 := fun x y H Q => ∃ l b xs zs, x = .ref l ∧ y = .ref b ∧ SqL K H l xs ∧ SqL K H b zs ∧ xs.length + zs.length ≤ sizeLine ∧ ∀ p, H p = none → Q (.ref p) (upd H p (.lst (xs ++ zs)))
end Sd
set_option maxHeartbeats 4000000
/-! SdR: rules over values that the hand layer lacks. -/
namespace Sd
open PySem PySem.Spec PyProof.Rows L2 HT
variable [Tb]

theorem list_extend_list_W (l : Addr) (items : Array Value) (n : Nat) (b : Addr) (items2 : Array Value) (n2 : Nat) (dd : Option Addr) (sl : Array (Option Value)) (hs0 : ¬(!items.isEmpty && Builtin.List.listTooLong (items.size + items2.size)) = true) (hs1 : items.size ≤ sizeLine) (hs2 : items.size + items2.size ≤ sizeLine + 1) :
    Meets (Builtin.«list.extend» ⟨[.ref l, .ref b], []⟩) (fun _ R s => s.heap.get? l = some { cls := .type "list", dict := none, data := .seq items n, slots := #[] } ∧ s.heap.get? b = some { cls := .type "list", dict := dd, data := .seq items2 n2, slots := sl } ∧ R (.ok (.ret Value.none)) { s with heap := s.heap.update l (Obj.mapSeq fun x => x ++ items2), toks := s.toks }) :=
  .of_wp fun prog w A R s h => by
    obtain ⟨hp, g, d, tk, os⟩ := s; obtain ⟨hl, hb, h⟩ := h; have f1 := AutoSeq1.idx_int; have f2 := AutoSeq1.sub_tuple_tuple; have f3 := AutoSeq1.sub_list_list; have f4 := AutoSeq1.sub_tuple_list; have f5 := AutoSeq1.sub_list_tuple;
    have hz' : (items ++ items2).size ≤ sizeLine + 1 := by rw [Array.size_append]; exact hs2
    wp_walk using (wpAny_updateSeq hl rfl (hz := hs1) (_hz' := hz')), wpAny_loadPart' hl, wpAny_loadPart' hb; exact ⟨_, rfl, h⟩
theorem list_extend_tuple_W (l : Addr) (items : Array Value) (n : Nat) (b : Addr) (items2 : Array Value) (n2 : Nat) (dd : Option Addr) (sl : Array (Option Value)) (hs0 : ¬(!items.isEmpty && Builtin.List.listTooLong (items.size + items2.size)) = true) (hs1 : items.size ≤ sizeLine) (hs2 : items.size + items2.size ≤ sizeLine + 1) :
    Meets (Builtin.«list.extend» ⟨[.ref l, .ref b], []⟩) (fun _ R s => s.heap.get? l = some { cls := .type "list", dict := none, data := .seq items n, slots := #[] } ∧ s.heap.get? b = some { cls := .type "tuple", dict := dd, data := .seq items2 n2, slots := sl } ∧ R (.ok (.ret Value.none)) { s with heap := s.heap.update l (Obj.mapSeq fun x => x ++ items2), toks := s.toks }) :=
  .of_wp fun prog w A R s h => by
    obtain ⟨hp, g, d, tk, os⟩ := s; obtain ⟨hl, hb, h⟩ := h; have f1 := AutoSeq1.idx_int; have f2 := AutoSeq1.sub_tuple_tuple; have f3 := AutoSeq1.sub_list_list; have f4 := AutoSeq1.sub_tuple_list; have f5 := AutoSeq1.sub_list_tuple;
    have hz' : (items ++ items2).size ≤ sizeLine + 1 := by rw [Array.size_append]; exact hs2
    wp_walk using (wpAny_updateSeq hl rfl (hz := hs1) (_hz' := hz')), wpAny_loadPart' hl, wpAny_loadPart' hb; exact ⟨_, rfl, h⟩

/-- two lists, read -/
theorem op_catG {X : Cx} : OpR X (binaryOp .Add) (rCatG X.K) := by
  intro pins s σ H x y v u Q I rx ry h
  obtain ⟨l, b, xs, zs, rfl, rfl, hH, hB, hz, q⟩ := h
  cases rx
  cases ry
  obtain ⟨its, r, pl, hl⟩ := I.list hH
  obtain ⟨its2, r2, pl2, hl2⟩ := I.list hB
  obtain ⟨⟨cls, dd, data, sl⟩, ho, hc, n, hd⟩ := id pl.isList
  obtain ⟨⟨cls2, dd2, data2, sl2⟩, ho2, hc2, n2, hd2⟩ := id pl2.isList
  simp only at hc hd hc2 hd2
  subst hc hd hc2 hd2
  have e : its.toArray ++ its2.toArray = (its ++ its2).toArray := by simp
  have e1 := r.length
  have e2 := r2.length
  refine concat_meets ⟨_, ho, rfl⟩ ⟨_, ho2, rfl⟩ noFill_list_add seq_list_add PySem.F.slot_list_add PySem.F.entry_list_add (PySem.F.args_list_add_2 _ _) (list_addW l b its.toArray its2.toArray n n2 dd dd2 sl sl2 (by simp; omega)) ⟨ho, ho2, ?_⟩
  rw [e]
  exact ⟨.ref _, _, I.lnew (t' := s.toks) (r.append r2) (by rw [List.length_append]; omega), rfl, q _ I.fresh⟩

/-- xs.extend(t), t a list or tuple that is read -/
def rExtG (K : PySem.W.Frag) : V → List V → Hp → VK → Prop := fun x vs H Q => ∃ l b xs zs, x = .ref l ∧ vs = [.ref b] ∧ H l = some (.lst xs) ∧ (SqL K H b zs ∨ SqT K H b zs) ∧ xs.length + zs.length ≤ sizeLine ∧ Q .non (upd H l (.lst (xs ++ zs)))
theorem mt_extG {X : Cx} : MtM X "list.extend" (rExtG X.K) := by
  intro pins s σ H x vs v us Q I rx rv h
  obtain ⟨l, b, xs, zs, rfl, rfl, hH, hB, hz, q⟩ := h
  cases rx
  obtain ⟨u, rfl, ru⟩ := rv.one
  cases ru
  obtain ⟨z, its, n, r, hl, e⟩ := I.lstM hH
  have fin : ∀ (its2 : List Value), Vals zs its2 → (¬(!its.toArray.isEmpty && Builtin.List.listTooLong (its.toArray.size + its2.toArray.size)) = true) ∧ its.toArray.size ≤ sizeLine ∧ its.toArray.size + its2.toArray.size ≤ sizeLine + 1 ∧
      EP X pins σ Q .none { s with heap := s.heap.update l (Obj.mapSeq fun x => x ++ its2.toArray), toks := s.toks } := fun its2 r2 => by
    have e2 := r2.length
    have hsz : its.toArray.size + its2.toArray.size ≤ sizeLine := by rw [List.size_toArray, List.size_toArray]; omega
    refine ⟨?_, by rw [List.size_toArray]; omega, by omega, ?_⟩
    · rw [notLongL hsz, Bool.and_false]
      exact Bool.false_ne_true
    · refine ⟨.non, _, I.lset (its' := its ++ its2) hH e (by simp) (r.append r2) ?_, rfl, q⟩
      rw [List.length_append]
      omega
  rcases hB with hB | hB
  · obtain ⟨its2, r2, pl2, _⟩ := I.list hB
    obtain ⟨⟨cls2, dd2, data2, sl2⟩, ho2, hc2, n2, hd2⟩ := id pl2.isList
    simp only at hc2 hd2
    subst hc2 hd2
    obtain ⟨f1, f2, f3, f4⟩ := fin its2 r2
    exact call_meets PySem.F.slot_list_extend ⟨_, e, rfl⟩ PySem.F.entry_list_extend (PySem.F.args_list_extend_2 _ _) (list_extend_list_W l its.toArray n b its2.toArray n2 dd2 sl2 f1 f2 f3) ⟨e, ho2, f4⟩
  · obtain ⟨its2, r2, ⟨⟨cls2, dd2, data2, sl2⟩, ho2, hc2, n2, hd2⟩, _⟩ := I.tuple hB
    simp only at hc2 hd2
    subst hc2 hd2
    obtain ⟨f1, f2, f3, f4⟩ := fin its2 r2
    exact call_meets PySem.F.slot_list_extend ⟨_, e, rfl⟩ PySem.F.entry_list_extend (PySem.F.args_list_extend_2 _ _) (list_extend_tuple_W l its.toArray n b its2.toArray n2 dd2 sl2 f1 f2 f3) ⟨e, ho2, f4⟩

/-! ### t[::-1] -/
section
variable {prog : Program} {w : World} {A : Around} {E : Value → Shared → Prop} {s : Shared}
theorem filterMap_some {α β : Type} {f : α → Option β} {g : α → β} : ∀ {l : List α}, (∀ k ∈ l, f k = some (g k)) → l.filterMap f = l.map g
  | [], _ => rfl
  | a :: l, h => by
    rw [List.filterMap_cons, h a List.mem_cons_self, List.map_cons, filterMap_some fun k hk => h k (List.mem_cons_of_mem _ hk)]
theorem pick_rev (xs : Array Value) : ((List.range xs.size).filterMap fun (k : Nat) => xs[((((xs.size : Int) - 1) + (k : Int) * (-1)).toNat)]?).toArray = xs.toList.reverse.toArray := by
  congr 1
  have e : ∀ k ∈ List.range xs.size, xs[((((xs.size : Int) - 1) + (k : Int) * (-1)).toNat)]? = some (xs.toList.reverse.getD k .none) := by
    intro k hk
    have hk := List.mem_range.mp hk
    have e1 : ((((xs.size : Int) - 1) + (k : Int) * (-1)).toNat) = xs.size - 1 - k := by omega
    rw [e1, ← Array.getElem?_toList]
    have : (xs.toList.reverse)[k]? = xs.toList[xs.toList.length - 1 - k]? := by rw [List.getElem?_reverse (by simpa using hk)]
    rw [Array.length_toList] at this
    rw [← this, List.getD_eq_getElem?_getD, List.getElem?_eq_getElem (by simpa using hk)]
    rfl
  rw [filterMap_some e]
  apply List.ext_getElem
  · simp
  · intro j h1 h2
    rw [List.getElem_map, List.getElem_range, List.getD_eq_getElem?_getD, List.getElem?_eq_getElem h2]
    rfl
theorem sliceApplied_rev {sl : Addr} {vl vu vs : Value} {n : Nat} {Q : Int × Int × Nat → Shared → Prop} (hs : s.heap.IsSliceOf sl vl vu vs) (pl : IsPart vl none) (pu : IsPart vu none) (ps : IsPart vs (some (-1)))
    (h : Q ((n : Int) - 1, -1, n) s) : wpAny (model prog w) A (Builtin.Slice.sliceApplied (.ref sl) (pure (n : Int))) Q E s := by
  obtain ⟨os, hos, hcs, hds⟩ := id hs
  unfold Builtin.Slice.sliceApplied Builtin.Slice.sliceFields
  refine wpAny_bind (wpAny_bind (wpAny_field hos hds (x := vl) rfl (wpAny_bind (wpAny_field hos hds (x := vu) rfl (wpAny_bind (wpAny_field hos hds (x := vs) rfl (wpAny_pure ?_)))))))
  refine wpAny_bind (slicePart_ ps ?_)
  show wpAny _ _ (if ((-1 : Int) == 0) = true then _ else _) _ _ s
  rw [if_neg (by decide)]
  refine wpAny_bind (slicePart_ pl (wpAny_bind (slicePart_ pu (wpAny_bind (wpAny_pure ?_)))))
  show wpAny _ _ (match Builtin.Slice.sliceAdjust none none (-1) (n : Int) with | (lo, hi) => pure (lo, (-1 : Int), Builtin.Slice.slicePlaces lo hi (-1))) _ _ s
  have e1 : Builtin.Slice.sliceAdjust none none (-1) (n : Int) = ((n : Int) - 1, -1) := rfl
  rw [e1]
  show wpAny _ _ (pure ((n : Int) - 1, (-1 : Int), Builtin.Slice.slicePlaces ((n : Int) - 1) (-1) (-1))) _ _ s
  have e2 : Builtin.Slice.slicePlaces ((n : Int) - 1) (-1) (-1) = n := by
    unfold Builtin.Slice.slicePlaces
    have h1 : ¬ ((-1 : Int) > 0) := by omega
    simp only [h1, if_false]
    split
    · have : ((n : Int) - 1 - -1 - 1) / -(-1) + 1 = n := by
        rw [Int.neg_neg, Int.ediv_one]
        omega
      rw [this]
      omega
    · omega
  rw [e2]
  exact wpAny_pure h
theorem getItem_tuple_rev {t sl : Addr} {items : Array Value} {vl vu vs : Value} {Q : Value → Shared → Prop} (ht : IsTup s.heap t items) (hs : s.heap.IsSliceOf sl vl vu vs) (pl : IsPart vl none) (pu : IsPart vu none) (ps : IsPart vs (some (-1)))
    (h : Q (.ref s.heap.objs.size) { s with heap := s.heap.push { cls := .type "tuple", data := .seq items.toList.reverse.toArray } }) (hsz : items.size ≤ sizeLine) : wpAny (model prog w) A (getItem (.ref t) (.ref sl)) Q E s := by
  have htake : sizeOk (.seq items.toList.reverse.toArray) := by
    show items.toList.reverse.toArray.size ≤ sizeLine
    simpa using hsz
  obtain ⟨os, hos, hcs, hds⟩ := id hs
  have hTs : s.TypeIs (.ref sl) "slice" := ⟨os, hos, hcs⟩
  unfold getItem
  try with_reducible refine wpAny_holding ?_
  first | refine wpAny_bind (wpAny_pure ?_) | skip
  refine wpAny_bind (wpAny_sequenceKey ht.typeIs (by decide) ?_)
  refine wpAny_bind (wpAny_callSpecial?_slot (name := Str.ofString "__getitem__") ht.typeIs PyProof.Rows.slot_tuple_getitem
    (wpAny_call_entry PyProof.Rows.slot_tuple_getitem ht.typeIs entry_tuple_getitem ?_ (args_tuple_getitem _ _)))
  show wpAny _ _ (Builtin.Tuple.tupleItemsOf (.ref t) >>= _) _ _ s
  refine wpAny_bind (tupleItemsOf_ ht ?_)
  refine wpAny_bind (wpAny_typeOf hTs ?_)
  rw [if_pos (by decide)]
  refine wpAny_bind (sliceApplied_rev hs pl pu ps ?_)
  have hno : ¬ ((((items.size : Int) - 1) == 0 && (-1 : Int) == 1 && items.size == items.size) = true) := by
    intro q
    rw [Bool.and_eq_true, Bool.and_eq_true] at q
    exact absurd q.1.2 (by decide)
  show wpAny _ _ (if (((items.size : Int) - 1) == 0 && (-1 : Int) == 1 && items.size == items.size) = true then _ else _) _ _ s
  rw [if_neg hno]
  have e := pick_rev items
  show wpAny _ _ _ _ _ s
  rw [e]
  first
    | exact wpAny_bind (m := Builtin.Tuple.tupleExact _) (wpAny_newObj_type (wpAny_pure ⟨_, rfl, wpAny_pure h⟩) htake)
    | exact wpAny_bind (m := Builtin.Tuple.tupleExact _) (wpAny_newObj_type (wpAny_bind (wpAny_pure (wpAny_pure ⟨_, rfl, wpAny_pure h⟩))) htake)
    | exact wpAny_bind (wpAny_bind (m := Builtin.Tuple.tupleExact _) (wpAny_newObj_type (wpAny_pure (wpAny_pure ⟨_, rfl, wpAny_pure h⟩)) htake))
    | exact wpAny_bind (wpAny_bind (m := Builtin.Tuple.tupleExact _) (wpAny_newObj_type (wpAny_pure ⟨_, rfl, wpAny_pure h⟩) htake))
end
section
variable {X : Cx}
/-- e[::-1], e a list or a tuple -/
def tRevG (K : PySem.W.Frag) (te : TE) : TE := fun σ H Q => te σ H fun x H1 => ∃ a xs, x = .ref a ∧ ((SqL K H1 a xs ∧ ∀ p, H1 p = none → Q (.ref p) (upd H1 p (.lst xs.reverse))) ∨ (SqT K H1 a xs ∧ ∀ p, H1 p = none → Q (.ref p) (upd H1 p (.tup xs.reverse))))
theorem pe_revG {e : Expr} {te : TE} {k : Nat} {p1 p2 p3 pos : Pos} (he : PE X e te) : PE X (.Subscript e (.Slice none none (some (.UnaryOp .USub (.Constant (.int 1) k p1) p2)) p3) pos) (tRevG X.K te) := by
  refine ⟨fun pins s σ H Q I h => ?_⟩
  refine Subscript_ (thn (he.run pins s σ H _ I h) fun v s1 ⟨x, H1, I1, r1, q1⟩ => ?_)
  obtain ⟨a, xs, ex, q⟩ := q1
  subst ex
  cases r1
  have hst : PO X (some (.UnaryOp .USub (.Constant (.int 1) k p1) p2)) (tPart (tUn (rU fun i => .int (-i)) (tC (.int 1)))) := po_some (pe_un un_neg pe_int)
  refine wpAny_Slice (thn (po_none.run pins s1 σ H1 (fun o H2 => o = none ∧ H2 = H1) I1 ⟨rfl, rfl⟩) fun vl s2 ⟨l, H2, I2, pl, el, e2⟩ => ?_)
  subst el e2
  refine thn (po_none.run pins s2 σ H2 (fun o H3 => o = none ∧ H3 = H2) I2 ⟨rfl, rfl⟩) fun vu s3 ⟨u, H3, I3, pu, eu, e3⟩ => ?_
  subst eu e3
  refine thn (hst.run pins s3 σ H3 (fun o H4 => o = some (-1) ∧ H4 = H3) I3 ⟨1, rfl, -1, rfl, rfl, rfl⟩) fun vs s4 ⟨o, H4, I4, ps, eo, e4⟩ => ?_
  subst eo e4
  have I5 : Inv X pins σ H4 { s4 with heap := s4.heap.push { cls := .type "slice", data := .fields #[vl, vu, vs] } } := I4.kept (t' := s4.toks) fun b ob q => Heap.get?_push_of_some _ q
  show wpAny (model X.prog X.w) X.A (subscriptTail e (.Slice none none (some (.UnaryOp .USub (.Constant (.int 1) k p1) p2)) p3) (.ref a) (.ref s4.heap.objs.size)) (EP X pins σ Q) X.xe { s4 with heap := s4.heap.push { cls := .type "slice", data := .fields #[vl, vu, vs] } }
  rcases q with ⟨hx, q⟩ | ⟨hx, q⟩
  · obtain ⟨its, r, ht, hz⟩ := I5.list hx
    have hlen := r.length
    refine tail_any (ops := [.ref a, .ref s4.heap.objs.size]) ht.isList.typeIs (PySem.slot_list_getitem.lookup) ?_ (by with_unfolding_all rfl)
    refine wpAny_getItem_list_slice ht.isList (Heap.IsSliceOf.new _ vl vu vs) pl pu ps (by decide) ?_ (by rw [List.size_toArray]; omega)
    rw [PySem.W.krv_pick]
    refine ⟨.ref _, _, I5.laid (t' := s4.toks) (o := .lst xs.reverse) (fun b ob q => Heap.get?_push_of_some _ q) (Nat.le_refl _) ?_, rfl, q _ (I5.hok.fresh (Nat.le_refl _))⟩
    exact ⟨by rw [List.length_reverse]; exact hz, _, 0, r.reverse, Heap.get?_push_size _ rfl⟩
  · obtain ⟨its, r, ht, hz⟩ := I5.tuple hx
    have hlen := r.length
    refine tail_any (ops := [.ref a, .ref s4.heap.objs.size]) ht.typeIs (PyProof.Rows.slot_tuple_getitem.lookup) ?_ (by with_unfolding_all rfl)
    refine getItem_tuple_rev ht (Heap.IsSliceOf.new _ vl vu vs) pl pu ps ?_ (by rw [List.size_toArray]; omega)
    refine ⟨.ref _, _, I5.laid (t' := s4.toks) (o := .tup xs.reverse) (fun b ob q => Heap.get?_push_of_some _ q) (Nat.le_refl _) ?_, rfl, q _ (I5.hok.fresh (Nat.le_refl _))⟩
    exact ⟨by rw [List.length_reverse]; exact hz, its.reverse, r.reverse, ⟨_, Heap.get?_push_size _ rfl, rfl, _, rfl⟩⟩
end
end Sd
/-! Sd5: more expressions: +, in, tests, and/or, subscripts, slices, calls of built-ins, methods. -/
namespace Sd
open PySem PySem.Spec PyProof.Rows L2
variable [Tb]

/-! ### equality of data, decided -/
mutual
def beqD : D → D → Bool
  | .non, .non => true
  | .bl a, .bl b => a == b
  | .int a, .int b => a == b
  | .str a, .str b => a == b
  | .tup a, .tup b => beqDs a b
  | .lst a, .lst b => beqDs a b
  | .dic a, .dic b => beqDp a b
  | _, _ => false
def beqDs : List D → List D → Bool
  | [], [] => true
  | a :: l, b :: m => beqD a b && beqDs l m
  | _, _ => false
def beqDp : List (D × D) → List (D × D) → Bool
  | [], [] => true
  | (a, c) :: l, (b, d) :: m => beqD a b && beqD c d && beqDp l m
  | _, _ => false
end
mutual
theorem beqD_iff : ∀ (a b : D), beqD a b = true ↔ a = b
  | .non, b => by cases b <;> simp [beqD]
  | .bl a, b => by cases b <;> simp [beqD]
  | .int a, b => by cases b <;> simp [beqD]
  | .str a, b => by cases b <;> simp [beqD]
  | .tup a, b => by cases b <;> simp [beqD, beqDs_iff a]
  | .lst a, b => by cases b <;> simp [beqD, beqDs_iff a]
  | .dic a, b => by cases b <;> simp [beqD, beqDp_iff a]
theorem beqDs_iff : ∀ (a b : List D), beqDs a b = true ↔ a = b
  | [], b => by cases b <;> simp [beqDs]
  | a :: l, b => by cases b <;> simp [beqDs, beqD_iff a, beqDs_iff l]
theorem beqDp_iff : ∀ (a b : List (D × D)), beqDp a b = true ↔ a = b
  | [], b => by cases b <;> simp [beqDp]
  | (a, c) :: l, b => by
    cases b with
    | nil => simp [beqDp]
    | cons p m => obtain ⟨x, y⟩ := p; simp [beqDp, beqD_iff a, beqD_iff c, beqDp_iff l]
end
instance : DecidableEq D := fun a b => decidable_of_iff _ (beqD_iff a b)

/-! ### + -/
def oAdd : WO := fun s x y P => match x, y with
  | .p (.int i), .p (.int j) => P (.p (.int (i + j)))
  | .p (.str a), .p (.str b) => a.length + b.length ≤ sizeLine ∧ P (.p (.str (a ++ b)))
  | .p (.tup a), .p (.tup b) => a.length + b.length ≤ sizeLine ∧ P (.p (.tup (a ++ b)))
  | x, y => match seqL s x, seqL s y with
    | some a, some b => a.length + b.length ≤ sizeLine ∧ P (.ml (a ++ b))
    | _, _ => False
def rAdd (K : PySem.W.Frag) : R2 := fun x y H Q => (rI0 (fun i j => .int (i + j)) x y H Q ∨ (∃ i j, x = .str i ∧ y = .str j ∧ i.length + j.length ≤ sizeLine ∧ Q (.str (i ++ j)) H)) ∨ rCatA K x y H Q ∨ rCatG K x y H Q
section
variable {X : Cx}
theorem op_addG : OpR X (binaryOp .Add) (rAdd X.K) := (op_add.or op_add_str).or (op_catA.or op_catG)
theorem od_add : OpD X (rAdd X.K) oAdd := by
  refine ⟨fun s x y P P' h q => ?_, fun F H σ s φ x y vx vy P Q r q k => ?_⟩
  · unfold oAdd at q ⊢
    split at q
    · exact h _ q
    · exact ⟨q.1, h _ q.2⟩
    · exact ⟨q.1, h _ q.2⟩
    · split at q
      · exact ⟨q.1, h _ q.2⟩
      · exact q
  · unfold oAdd at q
    split at q
    · exact .inl (.inl ⟨_, _, r.dropL.getP, r.getP, OpD.fin r.cossa k q rfl⟩)
    · exact .inl (.inr ⟨_, _, r.dropL.getP, r.getP, q.1, OpD.fin r.cossa k q.2 rfl⟩)
    · obtain ⟨a, xs, e1, h1, g1⟩ := r.dropL.getP
      obtain ⟨b, ys, e2, h2, g2⟩ := r.getP
      obtain ⟨hz, q⟩ := q
      have z1 := g1.length
      have z2 := g2.length
      refine .inr (.inl ⟨a, b, xs, ys, e1, e2, SqT.of (r.ff _ _ h1), SqT.of (r.ff _ _ h2), by omega, fun e => ?_, fun n e => ?_, fun n n2 p hp => ?_⟩)
      · subst e
        have e' := List.eq_nil_of_length_eq_zero z1.symm
        subst e'
        exact OpD.fin r.cossa k q ⟨b, ys, rfl, h2, g2⟩
      · subst e
        have e' := List.eq_nil_of_length_eq_zero z2.symm
        subst e'
        exact OpD.fin r.cossa k q ⟨a, xs, rfl, h1, by rw [List.append_nil]; exact g1⟩
      · obtain ⟨sm, r'⟩ := r.dropL.dropL.newF (o := .tup (xs ++ ys)) hp
        exact k _ q _ _ _ sm (r'.pushP ⟨p, _, rfl, upd_same, (g1.append g2).mono sm⟩)
    · split at q
      · rename_i a b ea eb
        obtain ⟨hz, q⟩ := q
        obtain ⟨b', ys, e2, h2, g2⟩ := r.seqL eb
        obtain ⟨a', xs, e1, h1, g1⟩ := r.dropL.seqL ea
        have z1 := g1.length
        have z2 := g2.length
        refine .inr (.inr ⟨a', b', xs, ys, e1, e2, h1, h2, by omega, fun p hp => ?_⟩)
        exact k _ q _ _ _ (Same.refl F) (r.dropL.dropL.newO hp fun hF => ⟨one p, .inr ⟨p, _, rfl, upd_same, hF, g1.append g2, fun _ => rfl⟩, fun _ => Nat.le_refl _⟩)
      · exact q.elim
end


/-! ### dicts that are read -/
def isTup : D → Bool
  | .tup _ => true
  | _ => false
def scaK : D → Bool
  | .int _ => true
  | .str _ => true
  | _ => false
/-- what may be a key -/
def keyOk : D → Bool
  | .int _ => true
  | .str _ => true
  | .tup l => l.all scaK
  | _ => false
/-- a key that fits a dict: all keys are scalars, or all are tuples -/
def fitK (kvs : List (D × D)) (k : D) : Bool := keyOk k && kvs.all fun p => isTup p.1 == isTup k
def dget {α : Type} (kvs : List (D × α)) (k : D) : Option α := (kvs.find? fun p => decide (p.1 = k)).map (·.2)
def dput {α : Type} (kvs : List (D × α)) (k : D) (v : α) : List (D × α) := if (kvs.any fun p => decide (p.1 = k)) = true then kvs.map fun p => if p.1 = k then (p.1, v) else p else kvs ++ [(k, v)]
def DicAt (K : PySem.W.Frag) (F H : Hp) (a : Addr) (kvs : List (D × D)) : Prop := (∃ ks, H a = some (.dK ks) ∧ RDk K F kvs ks) ∨ (∃ ks, H a = some (.dT ks) ∧ RDt K F kvs ks)
/-- the dict of a value that is read -/
def dicM (s : S) (m : M) : Option (List (D × D)) := match lk s m with
  | some (.p (.dic l)) => some l
  | some (.md l) => some l
  | _ => none
theorem Res.dicM {K : PySem.W.Frag} {σ : L2.St} {F H : Hp} {s : S} {φ : SLg} {m : M} {v : V} {l : List (D × D)} (r : Res K F H σ s (star (rv K σ m v) φ)) (e : dicM s m = some l) : ∃ a, v = .ref a ∧ DicAt K F H a l := by
  unfold Sd.dicM at e
  split at e
  · rename_i e1
    cases e
    obtain ⟨f, h, _⟩ := r.lk e1
    obtain ⟨a, e2, ⟨ks, h1, h2⟩ | ⟨ks, h1, h2⟩⟩ := h
    · exact ⟨a, e2, .inl ⟨ks, r.ff _ _ h1, h2⟩⟩
    · exact ⟨a, e2, .inr ⟨ks, r.ff _ _ h1, h2⟩⟩
  · rename_i e1
    cases e
    obtain ⟨f, h⟩ := r.lk e1
    obtain ⟨a, e2, h1, h2, _⟩ := h
    exact ⟨a, e2, h2⟩
  · cases e
theorem dKey_inj {a b : Key} (e : dKey a = dKey b) : a = b := by
  cases a <;> cases b <;> simp [dKey] at e <;> simp [e]
theorem dKeys_inj : ∀ {a b : List Key}, a.map dKey = b.map dKey → a = b
  | [], [], _ => rfl
  | [], _ :: _, e => by simp at e
  | _ :: _, [], e => by simp at e
  | a :: l, b :: m, e => by
    simp only [List.map_cons, List.cons.injEq] at e
    rw [dKey_inj e.1, dKeys_inj e.2]
theorem RDk.get {K : PySem.W.Frag} {F : Hp} (j : Key) : ∀ {kvs : List (D × D)} {ks : List (Key × V)}, RDk K F kvs ks → (∀ d, dget kvs (dKey j) = some d → ∃ v, valV ks j = some v ∧ RD K F d v) ∧ (dget kvs (dKey j) = none → valV ks j = none)
  | [], _, h => by rw [show _ = [] from h]; exact ⟨fun d e => by simp [dget] at e, fun _ => rfl⟩
  | (k, d) :: kvs, _, h => by
    obtain ⟨i, x, r, rfl, rfl, h1, h2⟩ := h
    by_cases e : i = j
    · subst e
      have e1 : dget ((dKey i, d) :: kvs) (dKey i) = some d := by simp [dget]
      rw [e1, valV_pos (p := (i, x)) rfl]
      exact ⟨fun d' q => ⟨x, rfl, by cases q; exact h1⟩, fun q => by cases q⟩
    · have e1 : dget ((dKey i, d) :: kvs) (dKey j) = dget kvs (dKey j) := by
        unfold dget
        rw [List.find?_cons_of_neg]
        simp only [decide_eq_true_eq]
        exact fun z => e (dKey_inj z)
      rw [e1, valV_neg (p := (i, x)) e]
      exact RDk.get j h2
theorem RDt.get {K : PySem.W.Frag} {F : Hp} (j : List Key) : ∀ {kvs : List (D × D)} {ks : List (List Key × V)}, RDt K F kvs ks → (∀ d, dget kvs (.tup (j.map dKey)) = some d → ∃ v, valV ks j = some v ∧ RD K F d v) ∧ (dget kvs (.tup (j.map dKey)) = none → valV ks j = none)
  | [], _, h => by rw [show _ = [] from h]; exact ⟨fun d e => by simp [dget] at e, fun _ => rfl⟩
  | (k, d) :: kvs, _, h => by
    obtain ⟨i, x, r, rfl, rfl, h1, h2⟩ := h
    by_cases e : i = j
    · subst e
      have e1 : dget ((D.tup (i.map dKey), d) :: kvs) (.tup (i.map dKey)) = some d := by simp [dget]
      rw [e1, valV_pos (p := (i, x)) rfl]
      exact ⟨fun d' q => ⟨x, rfl, by cases q; exact h1⟩, fun q => by cases q⟩
    · have e1 : dget ((D.tup (i.map dKey), d) :: kvs) (.tup (j.map dKey)) = dget kvs (.tup (j.map dKey)) := by
        unfold dget
        rw [List.find?_cons_of_neg]
        simp only [decide_eq_true_eq]
        exact fun z => e (dKeys_inj (D.tup.inj z))
      rw [e1, valV_neg (p := (i, x)) e]
      exact RDt.get j h2
theorem scaK_key {d : D} (h : scaK d = true) : ∃ j, d = dKey j := by
  cases d <;> simp [scaK] at h
  · exact ⟨.inl _, rfl⟩
  · exact ⟨.inr _, rfl⟩
theorem RD.key {K : PySem.W.Frag} {F : Hp} {j : Key} {v : V} (h : RD K F (dKey j) v) : v = kV j := by
  cases j <;> exact h
theorem RDs.keys {K : PySem.W.Frag} {F : Hp} : ∀ {l : List D} {xs : List V}, RDs K F l xs → l.all scaK = true → ∃ j : List Key, l = j.map dKey ∧ xs = j.map kV
  | [], _, h, _ => ⟨[], rfl, h⟩
  | d :: l, _, h, e => by
    obtain ⟨x, r, rfl, h1, h2⟩ := h
    rw [List.all_cons, Bool.and_eq_true] at e
    obtain ⟨j, rfl⟩ := scaK_key e.1
    obtain ⟨js, rfl, rfl⟩ := RDs.keys h2 e.2
    exact ⟨j :: js, rfl, by rw [h1.key]; rfl⟩
section
variable {X : Cx} {pins : List (Addr × Obj)} {σ : L2.St} {H F : Hp} {s : Shared} {a : Addr}
theorem upd_self {H : Hp} {a : Addr} {o : HO} (h : H a = some o) : upd H a o = H := by
  funext b
  unfold upd
  split
  · rename_i e
    rw [e, h]
  · rfl
theorem keysOf_nil {prog : Program} {w : World} {κ : Type} [DecidableEq κ] {knd : PySem.KeyKind prog w κ} : PySem.KeysOf knd #[] := by
  intro e h
  simp at h
/-- an empty dict is of both kinds -/
theorem emptyKT (I : Inv X pins σ H s) (h : H a = some (.dK [])) : Inv X pins σ (upd H a (.dT [])) s := by
  obtain ⟨z, y, vs, r, ob, es, ep, e, c, d, q1, q, q2⟩ := (show ObjOk X.prog X.w H s.heap a (.dK []) from I.hok a _ h)
  have n := r.length
  have e0 : vs = [] := List.eq_nil_of_length_eq_zero n.symm
  subst e0
  have := I.write (x := a) (e := a) (o := .dT []) (t' := s.toks) (h' := s.heap) (by rw [h]; trivial) (.inl rfl) (fun b u _ q => q) ⟨_, e⟩ ⟨z, y, [], .nil, ob, es, ep, e, c, d, List.eq_nil_of_length_eq_zero q.length, by simp⟩
  exact this
theorem emptyTK (I : Inv X pins σ H s) (h : H a = some (.dT [])) : Inv X pins σ (upd H a (.dK [])) s := by
  obtain ⟨z, y, vs, r, ob, es, ep, e, c, d, q⟩ := (show ObjOk X.prog X.w H s.heap a (.dT []) from I.hok a _ h)
  have n := r.length
  have e0 : vs = [] := List.eq_nil_of_length_eq_zero n.symm
  subst e0
  have e1 : es.toList = [] := q.1
  have e2 : es = #[] := by
    obtain ⟨l⟩ := es
    simpa using e1
  subst e2
  have := I.write (x := a) (e := a) (o := .dK []) (t' := s.toks) (h' := s.heap) (by rw [h]; trivial) (.inl rfl) (fun b u _ q => q) ⟨_, e⟩ ⟨z, y, [], .nil, ob, #[], ep, e, c, d, keysOf_nil, .nil, by simp⟩
  exact this
end
end Sd
/-! Sd6: dicts that are read; in; subscripts; slices. -/
namespace Sd
open PySem PySem.Spec PyProof.Rows L2
variable [Tb]
section
variable {X : Cx} {pins : List (Addr × Obj)} {σ : L2.St} {H F : Hp} {s : Shared} {a : Addr}
/-- what a look into a dict finds -/
structure Found (K : PySem.W.Frag) (F : Hp) (kvs : List (D × D)) (k : D) (o : Option V) : Prop where
  yes : ∀ d, dget kvs k = some d → ∃ v, o = some v ∧ RD K F d v
  no : dget kvs k = none → o = none
theorem Found.isSome {K : PySem.W.Frag} {F : Hp} {kvs : List (D × D)} {k : D} {o : Option V} (f : Found K F kvs k o) : o.isSome = (dget kvs k).isSome := by
  cases e : dget kvs k with
  | none => rw [f.no e]; rfl
  | some d => obtain ⟨v, e2, _⟩ := f.yes d e; rw [e2]; rfl
theorem RDk.isTup {K : PySem.W.Frag} {F : Hp} : ∀ {kvs : List (D × D)} {ks : List (Key × V)}, RDk K F kvs ks → ∀ p ∈ kvs, isTup p.1 = false
  | [], _, _, p, hp => by cases hp
  | (k, d) :: kvs, _, h, p, hp => by
    obtain ⟨i, x, r, rfl, rfl, h1, h2⟩ := h
    rcases List.mem_cons.mp hp with rfl | hp
    · cases i <;> rfl
    · exact RDk.isTup h2 p hp
theorem RDt.isTup {K : PySem.W.Frag} {F : Hp} : ∀ {kvs : List (D × D)} {ks : List (List Key × V)}, RDt K F kvs ks → ∀ p ∈ kvs, isTup p.1 = true
  | [], _, _, p, hp => by cases hp
  | (k, d) :: kvs, _, h, p, hp => by
    obtain ⟨i, x, r, rfl, rfl, h1, h2⟩ := h
    rcases List.mem_cons.mp hp with rfl | hp
    · rfl
    · exact RDt.isTup h2 p hp
theorem fit_all {kvs : List (D × D)} {k : D} (h : fitK kvs k = true) : keyOk k = true ∧ ∀ p ∈ kvs, isTup p.1 = isTup k := by
  unfold fitK at h
  rw [Bool.and_eq_true, List.all_eq_true] at h
  exact ⟨h.1, fun p hp => by simpa using h.2 p hp⟩
/-- a dict's kind turned to the key's, if it is empty: what is to be asked there, and the way back -/
theorem dict_look (I : Inv X pins σ H s) (ff : Same F H) {kvs : List (D × D)} {k : D} {y : V} (hd : DicAt X.K F H a kvs) (hk : RD X.K F k y) (fit : fitK kvs k = true) :
    ∃ (H1 : Hp) (o : Option V), Inv X pins σ H1 s ∧ DGet H1 a y o ∧ Found X.K F kvs k o ∧ (∀ s', Inv X pins σ H1 s' → Inv X pins σ H s') := by
  obtain ⟨ok, al⟩ := fit_all fit
  have scal : ∀ j : Key, k = dKey j → ∃ (H1 : Hp) (o : Option V), Inv X pins σ H1 s ∧ DGet H1 a y o ∧ Found X.K F kvs k o ∧ (∀ s', Inv X pins σ H1 s' → Inv X pins σ H s') := fun j ej => by
    subst ej
    have ey := hk.key
    subst ey
    have nt : isTup (dKey j) = false := by cases j <;> rfl
    rcases hd with ⟨ks, h1, h2⟩ | ⟨ks, h1, h2⟩
    · obtain ⟨g1, g2⟩ := RDk.get j h2
      exact ⟨H, valV ks j, I, DGet.k h1, ⟨g1, g2⟩, fun _ q => q⟩
    · cases kvs with
      | cons p r =>
        have z1 := RDt.isTup h2 p List.mem_cons_self
        have z2 := al p List.mem_cons_self
        rw [z1, nt] at z2
        cases z2
      | nil =>
        rw [show ks = [] from h2] at h1
        refine ⟨upd H a (.dK []), none, emptyTK I h1, DGet.k (kvs := []) (k := j) upd_same, ⟨fun d e => by simp [dget] at e, fun _ => rfl⟩, fun s' q => ?_⟩
        have := emptyKT q upd_same
        rw [upd_upd, upd_self h1] at this
        exact this
  cases k with
  | int i => exact scal (.inl i) rfl
  | str x => exact scal (.inr x) rfl
  | tup l =>
    have okl : l.all scaK = true := ok
    obtain ⟨b, xs, rfl, hb, hx⟩ := hk
    obtain ⟨j, rfl, rfl⟩ := hx.keys okl
    rcases hd with ⟨ks, h1, h2⟩ | ⟨ks, h1, h2⟩
    · cases kvs with
      | cons p r =>
        have z1 := RDk.isTup h2 p List.mem_cons_self
        have z2 := al p List.mem_cons_self
        rw [z1] at z2
        cases z2
      | nil =>
        rw [show ks = [] from h2] at h1
        refine ⟨upd H a (.dT []), none, emptyKT I h1, DGet.t (kvs := []) (k := j) upd_same ?_, ⟨fun d e => by simp [dget] at e, fun _ => rfl⟩, fun s' q => ?_⟩
        · rw [upd_ne (ne_of (ff _ _ hb) h1 (by intro z; cases z))]
          exact ff _ _ hb
        · have := emptyTK q upd_same
          rw [upd_upd, upd_self h1] at this
          exact this
    · obtain ⟨g1, g2⟩ := RDt.get j h2
      exact ⟨H, valV ks j, I, DGet.t h1 (ff _ _ hb), ⟨g1, g2⟩, fun _ q => q⟩
  | non => cases ok
  | bl b => cases ok
  | lst l => cases ok
  | dic l => cases ok
end

/-! ### in -/
def strIn (a b : Str) : Bool := !(Builtin.Str.occurrences b a 0 b.length 1).isEmpty
def inP (s : S) (x y : M) (P : Bool → Prop) : Prop := match seqA s y, datM s x with
  | some l, some d => shp d = true ∧ shp (.lst l) = true ∧ P (l.any fun z => eqD z d)
  | _, _ => match dicM s y, x with
    | some kvs, .p k => fitK kvs k = true ∧ P (dget kvs k).isSome
    | _, _ => match x, y with
      | .p (.str a), .p (.str b) => P (strIn a b)
      | _, _ => False
theorem inP.mono {s : S} {x y : M} {P P' : Bool → Prop} (h : ∀ b, P b → P' b) (q : inP s x y P) : inP s x y P' := by
  unfold inP at q ⊢
  split at q
  · exact ⟨q.1, q.2.1, h _ q.2.2⟩
  · split at q
    · exact ⟨q.1, h _ q.2⟩
    · split at q
      · exact h _ q
      · exact q
def oIn : WO := fun s x y P => inP s x y fun b => P (.p (.bl b))
def oNin : WO := fun s x y P => inP s x y fun b => P (.p (.bl (!b)))
def rDin (K : PySem.W.Frag) (neg : Bool) : R2 := fun x y H Q => ∃ F kvs k a, Same F H ∧ y = .ref a ∧ DicAt K F H a kvs ∧ RD K F k x ∧ fitK kvs k = true ∧ Q (.bl (if neg then !(dget kvs k).isSome else (dget kvs k).isSome)) H
def rSin (neg : Bool) : R2 := fun x y H Q => ∃ i j, x = .str i ∧ y = .str j ∧ Q (.bl (if neg then !strIn i j else strIn i j)) H
def rInG (K : PySem.W.Frag) (neg : Bool) : R2 := fun x y H Q => ∃ d ds, Dp K H x d ∧ (Dp K H y (.list ds) ∨ Dp K H y (.tuple ds)) ∧ shpd d = true ∧ PyData.canLayAll0 ds = true ∧ Q (.bl (if neg then !(ds.any fun y => PyData.eqv y d) else ds.any fun y => PyData.eqv y d)) H
section
variable {X : Cx}
theorem op_dIn (hu : X.A.units + 1 < cLine) : OpR X (compareOp .In) (rDin X.K false) := by
  intro pins s σ H x y v u Q I rx ry h
  obtain ⟨F, kvs, k, a, ff, rfl, hd, hk, fit, q⟩ := h
  cases ry
  obtain ⟨H1, o, I1, g, f, back⟩ := dict_look I ff hd hk fit
  exact d_in hu I1 g rx fun s3 I3 => ⟨.bl (dget kvs k).isSome, H, back _ I3, by rw [f.isSome]; rfl, q⟩
theorem op_dNin (hu : X.A.units + 1 < cLine) : OpR X (compareOp .NotIn) (rDin X.K true) := by
  intro pins s σ H x y v u Q I rx ry h
  obtain ⟨F, kvs, k, a, ff, rfl, hd, hk, fit, q⟩ := h
  cases ry
  obtain ⟨H1, o, I1, g, f, back⟩ := dict_look I ff hd hk fit
  exact d_notIn hu I1 g rx fun s3 I3 => ⟨.bl (!(dget kvs k).isSome), H, back _ I3, by rw [f.isSome]; rfl, q⟩
theorem op_sIn : OpR X (compareOp .In) (rSin false) := fun pins s σ H x y v u Q I rx ry ⟨i, j, e1, e2, q⟩ => op_in_str pins s σ H x y v u Q I rx ry ⟨i, j, e1, e2, q⟩
theorem op_sNin : OpR X (compareOp .NotIn) (rSin true) := fun pins s σ H x y v u Q I rx ry ⟨i, j, e1, e2, q⟩ => op_notIn_str pins s σ H x y v u Q I rx ry ⟨i, j, e1, e2, q⟩
theorem room_in {A : Around} {xs : List PyData} {d : PyData} (hd : shpd d = true) (hu : A.units + 182 < cLine) : A.units + 1 + min (PyData.depthAll xs) d.depth < cLine := by
  have h := depth_of_shpd hd
  have h2 : min (PyData.depthAll xs) d.depth ≤ d.depth := Nat.min_le_right _ _
  omega
theorem op_gIn (hu : X.A.units + 182 < cLine) : OpR X (compareOp .In) (rInG X.K false) := by
  intro pins s σ H x y v u Q I rx ry h
  obtain ⟨d, ds, hd, he, sd, se, q⟩ := h
  obtain ⟨as, r1⟩ := Dp.reads I d x v hd rx
  rcases he with he | he
  · obtain ⟨bs, r2⟩ := Dp.reads I (.list ds) y u he ry
    exact SeqAt.in_list_reads r2 r1 se (canLay_of_shpd sd) (room_in sd hu) ⟨.bl _, H, I, rfl, q⟩
  · obtain ⟨bs, r2⟩ := Dp.reads I (.tuple ds) y u he ry
    exact SeqAt.in_tuple_reads r2 r1 se (canLay_of_shpd sd) (room_in sd hu) ⟨.bl _, H, I, rfl, q⟩
theorem op_gNin (hu : X.A.units + 182 < cLine) : OpR X (compareOp .NotIn) (rInG X.K true) := by
  intro pins s σ H x y v u Q I rx ry h
  obtain ⟨d, ds, hd, he, sd, se, q⟩ := h
  obtain ⟨as, r1⟩ := Dp.reads I d x v hd rx
  rcases he with he | he
  · obtain ⟨bs, r2⟩ := Dp.reads I (.list ds) y u he ry
    exact SeqAt.notIn_list_reads r2 r1 se (canLay_of_shpd sd) (room_in sd hu) ⟨.bl _, H, I, rfl, q⟩
  · obtain ⟨bs, r2⟩ := Dp.reads I (.tuple ds) y u he ry
    exact SeqAt.notIn_tuple_reads r2 r1 se (canLay_of_shpd sd) (room_in sd hu) ⟨.bl _, H, I, rfl, q⟩
def rIn (K : PySem.W.Frag) (neg : Bool) : R2 := fun x y H Q => (rInG K neg x y H Q ∨ rDin K neg x y H Q) ∨ rSin neg x y H Q
theorem op_inA (hu : X.A.units + 182 < cLine) : OpR X (compareOp .In) (rIn X.K false) := ((op_gIn hu).or (op_dIn (by omega))).or op_sIn
theorem op_ninA (hu : X.A.units + 182 < cLine) : OpR X (compareOp .NotIn) (rIn X.K true) := ((op_gNin hu).or (op_dNin (by omega))).or op_sNin
theorem any_toPys (d : D) : ∀ l : List D, (toPys l).any (fun y => PyData.eqv y (toPy d)) = l.any fun z => eqD z d
  | [] => rfl
  | x :: l => by
    simp only [toPys, List.any_cons]
    rw [any_toPys d l]
    rfl
theorem shp_lst {l : List D} (h : shp (.lst l) = true) : noDics l = true ∧ PyData.canLayAll0 (toPys l) = true := by
  unfold shp at h
  rw [Bool.and_eq_true] at h
  refine ⟨h.1, ?_⟩
  have := canLay_of_shpd h.2
  simpa [toPy, PyData.canLay0] using this
theorem od_inG {neg : Bool} : OpD X (rIn X.K neg) (if neg then oNin else oIn) := by
  have e : (if neg then oNin else oIn) = fun s x y P => inP s x y fun b => P (.p (.bl (if neg then !b else b))) := by cases neg <;> rfl
  rw [e]
  refine ⟨fun s x y P P' h q => inP.mono (fun b => h _) q, fun F H σ s φ x y vx vy P Q r q k => ?_⟩
  unfold inP at q
  split at q
  · rename_i l d el ed
    obtain ⟨sd, sl, q⟩ := q
    obtain ⟨a, xs, rfl, h1, h2⟩ := r.seqA el
    obtain ⟨d1, s1⟩ := r.dropL.datM ed sd
    obtain ⟨nl, cl⟩ := shp_lst sl
    refine .inl (.inl ⟨toPy d, toPys l, d1, ?_, s1, cl, ?_⟩)
    · rcases h1 with h1 | h1
      · exact .inl (.lst h1 (h2.dp r.ff nl))
      · exact .inr (.tup h1 (h2.dp r.ff nl))
    · rw [any_toPys]
      exact OpD.fin r.cossa k q rfl
  · split at q
    · rename_i kvs k' ek _
      obtain ⟨a, rfl, h1⟩ := r.dicM ek
      exact .inl (.inr ⟨F, kvs, k', a, r.ff, rfl, h1, r.dropL.getP, q.1, OpD.fin r.cossa k q.2 rfl⟩)
    · split at q
      · exact .inr ⟨_, _, r.dropL.getP, r.getP, OpD.fin r.cossa k q rfl⟩
      · exact q.elim
theorem od_in : OpD X (rIn X.K false) oIn := od_inG (neg := false)
theorem od_nin : OpD X (rIn X.K true) oNin := od_inG (neg := true)
end

/-! ### is None -/
def isNon : M → Bool
  | .p .non => true
  | _ => false
def oIsN : WO := fun s x y P => match y, lk s x with
  | .p .non, some m => P (.p (.bl (isNon m)))
  | _, _ => False
def oNotN : WO := fun s x y P => match y, lk s x with
  | .p .non, some m => P (.p (.bl (!isNon m)))
  | _, _ => False
section
variable {X : Cx}
theorem lk_any {s : S} {m : M} (h : lk s m = some .any) : False := by
  unfold lk at h
  split at h
  · split at h
    · cases h
    · rename_i z _
      cases h
      exact z rfl
    · cases h
  · cases h
  · rename_i z
    cases h
    exact z rfl
theorem RM.non {K : PySem.W.Frag} {F H : Hp} {m : M} {v : V} {f : FP} (h : RM K F H m v f) (na : m ≠ .any) : decide (v = .non) = isNon m := by
  cases m with
  | p d =>
    have h := h.1
    cases d with
    | non => rw [show v = .non from h]; rfl
    | bl b => rw [show v = .bl b from h]; rfl
    | int b => rw [show v = .int b from h]; rfl
    | str b => rw [show v = .str b from h]; rfl
    | tup l => obtain ⟨a, xs, rfl, _⟩ := h; rfl
    | lst l => obtain ⟨a, xs, rfl, _⟩ := h; rfl
    | dic l => obtain ⟨a, rfl, _⟩ := h; rfl
  | ml l => obtain ⟨a, xs, rfl, _⟩ := h; rfl
  | md l => obtain ⟨a, rfl, _⟩ := h; rfl
  | mm l => obtain ⟨a, xs, f, rfl, _⟩ := h; rfl
  | mdm l => obtain ⟨a, xs, f, rfl, _⟩ := h; rfl
  | ob C l => obtain ⟨a, dx, xs, f, rfl, _⟩ := h; rfl
  | «at» i => exact h.elim
  | any => exact absurd rfl na
  | rf a x => obtain ⟨rfl, _⟩ := h; rfl
theorem od_isN : OpD X (fun x y H Q => y = .non ∧ Q (.bl (decide (x = .non))) H) oIsN := by
  refine ⟨fun s x y P P' h q => ?_, fun F H σ s φ x y vx vy P Q r q k => ?_⟩
  · unfold oIsN at q ⊢
    split at q
    · exact h _ q
    · exact q
  · unfold oIsN at q
    split at q
    · rename_i m e
      obtain ⟨f, h⟩ := r.dropL.lk e
      exact ⟨r.getP, OpD.fin r.cossa k q (by rw [h.non (fun z => lk_any (z ▸ e))]; rfl)⟩
    · exact q.elim
theorem od_notN : OpD X (fun x y H Q => y = .non ∧ Q (.bl (!decide (x = .non))) H) oNotN := by
  refine ⟨fun s x y P P' h q => ?_, fun F H σ s φ x y vx vy P Q r q k => ?_⟩
  · unfold oNotN at q ⊢
    split at q
    · exact h _ q
    · exact q
  · unfold oNotN at q
    split at q
    · rename_i m e
      obtain ⟨f, h⟩ := r.dropL.lk e
      exact ⟨r.getP, OpD.fin r.cossa k q (by rw [h.non (fun z => lk_any (z ▸ e))]; rfl)⟩
    · exact q.elim
end

/-! ### subscripts -/
def oIx : WO := fun s x y P => match y, seqA s x with
  | .p (.int i), some l => match atI l i with
    | some d => P (.p d)
    | none => False
  | y, _ => match dicM s x, y with
    | some kvs, .p k => fitK kvs k = true ∧ match dget kvs k with
      | some d => P (.p d)
      | none => False
    | _, _ => match x, y with
      | .p (.str z), .p (.int i) => z.length ≤ sizeLine ∧ match atI z.cps.toList i with
        | some c => P (.p (.str ⟨#[c]⟩))
        | none => False
      | _, _ => False
def rDget (K : PySem.W.Frag) : R2 := fun x y H Q => ∃ F kvs k d a, Same F H ∧ x = .ref a ∧ DicAt K F H a kvs ∧ RD K F k y ∧ fitK kvs k = true ∧ dget kvs k = some d ∧ ∀ v, RD K F d v → Q v H
section
variable {X : Cx}
theorem ix_dic (hu : X.A.units + 1 < cLine) : IxR X (rDget X.K) := by
  intro value slice pins s σ H x y v u Q I rx ry h hs
  obtain ⟨F, kvs, k, d, a, ff, rfl, hd, hk, fit, ed, q⟩ := h
  cases rx
  obtain ⟨H1, o, I1, g, f, back⟩ := dict_look I ff hd hk fit
  obtain ⟨w', eo, rd⟩ := f.yes d ed
  subst eo
  have hT := dict_typeIs I1 g
  unfold subscriptTail
  refine wpAny_bind ?_
  rw [getitemInPython_of_ne hT.not_modules]
  refine wpAny_bind (wpAny_specialOf hT PySem.F.slot_dict_getitem.lookup ?_)
  have fin : wpAny (model X.prog X.w) X.A (subscripted slice false (.ref a) u) (fun r s₃ => wpAny (model X.prog X.w) X.A (letTemporaryGo value (.ref a) r >>= fun _ => pure r) (EP X pins σ Q) X.xe s₃) X.xe s := by
    rw [hs]
    exact wpAny_operating (wpAny_mono (d_getItem hu I1 g ry (Q := EP X pins σ Q) fun w2 s3 I3 rw' => ⟨w', H, back _ I3, rw', q w' rd⟩) (fun r s₃ h₃ => wpAny_bind (wpAny_letTemporaryGo (wpAny_pure h₃))) fun _ _ x => x)
  first
    | exact wpAny_pure (wpAny_bind fin)
    | exact wpAny_bind (wpAny_pure (wpAny_bind fin))
    | exact wpAny_bind fin
def rIxA (K : PySem.W.Frag) : R2 := fun x y H Q => rIx K x y H Q ∨ rDget K x y H Q
theorem ix_all (hu : X.A.units + 1 < cLine) : IxR X (rIxA X.K) := ix_seq.or (ix_dic hu)
theorem RDs.at {K : PySem.W.Frag} {F : Hp} {l : List D} {xs : List V} {i : Int} {d : D} (h : RDs K F l xs) (e : atI l i = some d) : ∃ v, atI xs i = some v ∧ RD K F d v := by
  unfold atI at e ⊢
  rw [h.length]
  rw [Option.bind_eq_some_iff] at e
  obtain ⟨j, e1, e2⟩ := e
  obtain ⟨v, g1, g2⟩ := h.get e2
  exact ⟨v, by rw [e1]; exact g1, g2⟩
theorem od_ix : OpD X (rIxA X.K) oIx := by
  refine ⟨fun s x y P P' h q => ?_, fun F H σ s φ x y vx vy P Q r q k => ?_⟩
  · unfold oIx at q ⊢
    split at q
    · split at q
      · exact h _ q
      · exact q
    · split at q
      · refine ⟨q.1, ?_⟩
        have q2 := q.2
        split at q2
        · exact h _ q2
        · exact q2
      · split at q
        · refine ⟨q.1, ?_⟩
          have q2 := q.2
          split at q2
          · exact h _ q2
          · exact q2
        · exact q
  · unfold oIx at q
    split at q
    · rename_i i l el
      split at q
      · rename_i d ed
        obtain ⟨a, xs, rfl, h1, h2⟩ := r.dropL.seqA el
        obtain ⟨v, g1, g2⟩ := h2.at ed
        have fin := OpD.fin r.cossa k q g2
        rcases h1 with h1 | h1
        · exact .inl (.inl ⟨a, xs, i, v, rfl, r.getP, h1, g1, fin⟩)
        · exact .inl (.inr (.inl ⟨a, xs, i, v, rfl, r.getP, h1, g1, fin⟩))
      · exact q.elim
    · split at q
      · rename_i kvs k' ek _
        obtain ⟨fit, q⟩ := q
        split at q
        · rename_i d ed
          obtain ⟨a, rfl, h1⟩ := r.dropL.dicM ek
          exact .inr ⟨F, kvs, k', d, a, r.ff, rfl, h1, r.getP, fit, ed, fun v rd => OpD.fin r.cossa k q rd⟩
        · exact q.elim
      · split at q
        · rename_i z i _
          obtain ⟨hz, q⟩ := q
          split at q
          · rename_i c ec
            exact .inl (.inr (.inr ⟨_, _, c, r.dropL.getP, r.getP, hz, ec, OpD.fin r.cossa k q rfl⟩))
          · exact q.elim
        · exact q.elim
theorem de_ix {cv : CV} {E : L2.St → XK} {a b : Expr} {wa wb : WE} {pos : Pos} (hu : X.A.units + 1 < cLine) (ha : DE X cv E a wa) (hb : DE X cv E b wb) (hs : PlainIx b := by exact fun _ _ => rfl) : DE X cv E (.Subscript a b pos) (eB oIx wa wb) :=
  ⟨PE.imp (pe_ix (ix_all hu) ha.pe hb.pe hs) fun _ _ _ q => eB.to od_ix ha hb q, eB.mono (od_ix (X := X)).mono ha.mono hb.mono⟩
end
end Sd
/-! Sd7: tests, and/or/not, a if t else b, slices. -/
namespace Sd
open PySem PySem.Spec PyProof.Rows L2
variable [Tb]
section
variable {X : Cx} {cv : CV} {E : L2.St → XK} {a b c : Expr} {wa wb : WE} {ta tb tc : WT} {pos : Pos} {rest : List Expr}
/-! ### truth -/
def rTru (K : PySem.W.Frag) : V → Hp → (Bool → Hp → Prop) → Prop := fun x H Q => (∃ k, TruV K x H k ∧ Q k H) ∨ (∃ a, x = .ref a ∧ H a = some (.dT []) ∧ Q false H)
theorem tru_okG : TruR X (rTru X.K) := by
  intro pins s σ H x v Q I rx h
  rcases h with h | ⟨a, rfl, h1, q⟩
  · exact tru_ok pins s σ H x v Q I rx h
  · refine thn (tru_ok pins s σ (upd H a (.dK [])) (.ref a) v (fun b H' => b = false ∧ H' = upd H a (.dK [])) (emptyTK I h1) rx ⟨false, .inr (.inr ⟨[], upd_same, rfl⟩), rfl, rfl⟩) fun b s1 ⟨H1, I1, e1, e2⟩ => ?_
    subst e1 e2
    have := emptyKT I1 upd_same
    rw [upd_upd, upd_self h1] at this
    exact ⟨H, this, q⟩
/-- a value's truth -/
def truN (s : S) (m : M) (P : Bool → Prop) : Prop := match m with
  | .p (.bl b) => P b
  | .p .non => P false
  | .p (.int i) => P (i != 0)
  | .p (.str x) => x.length ≤ sizeLine ∧ P ((x.length : Int) != 0)
  | m => match seqA s m with
    | some l => P (!l.isEmpty)
    | none => match dicM s m with
      | some kvs => (kvs.all fun p => !isTup p.1) = true ∧ P (!kvs.isEmpty)
      | none => match lk s m with
        | some (.mm ms) => P (!ms.isEmpty)
        | _ => False
theorem truN.mono {s : S} {m : M} {P P' : Bool → Prop} (h : ∀ b, P b → P' b) (q : truN s m P) : truN s m P' := by
  unfold truN at q ⊢
  split at q
  · exact h _ q
  · exact h _ q
  · exact h _ q
  · exact ⟨q.1, h _ q.2⟩
  · split at q
    · exact h _ q
    · split at q
      · exact ⟨q.1, h _ q.2⟩
      · split at q
        · exact h _ q
        · exact q
theorem notEmpty_len {α β : Type} {l : List α} {l' : List β} (h : l.length = l'.length) : (!l.isEmpty) = !l'.isEmpty := by rw [isEmpty_len h]
theorem truN.to {K : PySem.W.Frag} {σ : L2.St} {F H : Hp} {s : S} {φ : SLg} {m : M} {v : V} {P : Bool → Prop} {Q : Bool → Hp → Prop} (r : Res K F H σ s (star (rv K σ m v) φ)) (q : truN s m P) (k : ∀ b, P b → Q b H) : rTru K v H Q := by
  unfold truN at q
  split at q
  · rw [r.getP (d := .bl _)]; exact .inl ⟨_, rfl, k _ q⟩
  · rw [r.getP (d := .non)]; exact .inl ⟨_, rfl, k _ q⟩
  · rw [r.getP (d := .int _)]; exact .inl ⟨_, rfl, k _ q⟩
  · rw [r.getP (d := .str _)]; exact .inl ⟨_, ⟨q.1, rfl⟩, k _ q.2⟩
  · split at q
    · rename_i l el
      obtain ⟨a, xs, rfl, h1, h2⟩ := r.seqA el
      have e := notEmpty_len h2.length
      rcases h1 with h1 | h1
      · exact .inl ⟨!xs.isEmpty, .inl ⟨xs, h1, rfl⟩, by rw [e]; exact k _ q⟩
      · exact .inl ⟨!xs.isEmpty, .inr (.inl ⟨xs, h1, rfl⟩), by rw [e]; exact k _ q⟩
    · split at q
      · rename_i kvs ek
        obtain ⟨al, q⟩ := q
        obtain ⟨a, rfl, h1⟩ := r.dicM ek
        rcases h1 with ⟨ks, h1, h2⟩ | ⟨ks, h1, h2⟩
        · exact .inl ⟨!ks.isEmpty, .inr (.inr ⟨ks, h1, rfl⟩), by rw [notEmpty_len h2.length]; exact k _ q⟩
        · cases kvs with
          | cons p r' =>
            have z := RDt.isTup h2 p List.mem_cons_self
            rw [List.all_cons, z] at al
            cases al
          | nil =>
            rw [show ks = [] from h2] at h1
            exact .inr ⟨a, rfl, h1, k _ q⟩
      · split at q
        · rename_i ms em
          obtain ⟨f, a, xs, f', rfl, h1, h2, h3, h4⟩ := r.lk em
          exact .inl ⟨!xs.isEmpty, .inl ⟨xs, SqL.of h1, rfl⟩, by rw [notEmpty_len h3.length]; exact k _ q⟩
        · exact q.elim
def tN (w : WE) : WT := fun s P R => w s (fun m s1 => truN s1 m fun b => P b s1) R
theorem tN.mono {w : WE} (h : MonoE w) : MonoT (tN w) := fun s P P' R R' hp hR q => h s _ _ _ _ (fun m s1 q1 => truN.mono (fun b => hp b s1) q1) hR q
theorem dt_tru (ha : DE X cv E a wa) (he : ∀ whole, isTrue a X.env whole = (do let v ← whole; standAt a.pos; holding [v] (truthy v)) := by intro _; rfl) : DT X cv E a (tN wa) := by
  refine ⟨PT.imp (pt_truthR ha.pe tru_okG he) fun σ H Q q => ?_, tN.mono ha.mono⟩
  obtain ⟨F, s, φ, r, q⟩ := q
  exact liE.mk ha.mono r q (fun m s1 q1 v F1 H1 sm1 r1 => truN.to r1 q1 fun b q2 => q2 F1 H1 sm1 r1.dropL) fun _ _ z => z
/-! ### and, or, not as tests -/
def tAnd (ta tb : WT) : WT := fun s P R => ta s (fun b s1 => if b = true then tb s1 P R else P false s1) R
def tOr (ta tb : WT) : WT := fun s P R => ta s (fun b s1 => if b = true then P true s1 else tb s1 P R) R
def tNot (ta : WT) : WT := fun s P R => ta s (fun b s1 => P (!b) s1) R
theorem okT.sm {K : PySem.W.Frag} {σ : L2.St} {F F1 : Hp} {φ : SLg} {Q : Bool → Hp → Prop} {b : Bool} {s : S} (h : okT K σ F φ Q b s) (sm : Same F F1) : okT K σ F1 φ Q b s := fun F' H' sm' r => h F' H' (sm.trans sm') r
theorem okX.sm {K : PySem.W.Frag} {cv : CV} {E : L2.St → XK} {σ : L2.St} {F F1 : Hp} {φ : SLg} {x : Exc} {s : S} (h : okX K cv E σ F φ x s) (sm : Same F F1) : okX K cv E σ F1 φ x s := h.mono sm fun _ _ _ r => r
theorem okE.sm {K : PySem.W.Frag} {σ : L2.St} {F F1 : Hp} {φ : SLg} {Q : VK} {m : M} {s : S} (h : okE K σ F φ Q m s) (sm : Same F F1) : okE K σ F1 φ Q m s := fun v F' H' sm' r => h v F' H' (sm.trans sm') r
theorem tAnd.mono (h1 : MonoT ta) (h2 : MonoT tb) : MonoT (tAnd ta tb) := fun s P P' R R' hp hR q => h1 s _ _ _ _ (fun b s1 q1 => by
  cases b
  · exact hp _ _ q1
  · exact h2 _ _ _ _ _ hp hR q1) hR q
theorem tOr.mono (h1 : MonoT ta) (h2 : MonoT tb) : MonoT (tOr ta tb) := fun s P P' R R' hp hR q => h1 s _ _ _ _ (fun b s1 q1 => by
  cases b
  · exact h2 _ _ _ _ _ hp hR q1
  · exact hp _ _ q1) hR q
theorem DW.dt (h : DW X cv E a ta) : DT X cv E a ta := ⟨h.pw.pt, h.mono⟩
theorem dw_and1 (ha : DT X cv E a ta) : DW X cv E (.BoolOp .And [a] pos) ta := ⟨pw_and1 ha.pt, ha.mono⟩
theorem dw_or1 (ha : DT X cv E a ta) : DW X cv E (.BoolOp .Or [a] pos) ta := ⟨pw_or1 ha.pt, ha.mono⟩
theorem dw_and (ha : DT X cv E a ta) (hb : DW X cv E (.BoolOp .And (b :: rest) pos) tb) : DW X cv E (.BoolOp .And (a :: b :: rest) pos) (tAnd ta tb) := by
  refine ⟨PW.imp (pw_and ha.pt hb.pw) fun σ H Q q => ?_, tAnd.mono ha.mono hb.mono⟩
  obtain ⟨F, s, φ, r, q⟩ := q
  refine liT.mk ha.mono r q (fun b s1 q1 F1 H1 sm1 r1 => ?_) fun _ _ z => z
  cases b
  · exact q1 F1 H1 sm1 r1
  · exact liT.mk hb.mono r1 q1 (fun b s2 z => z.sm sm1) fun _ _ z => z.sm sm1
theorem dw_or (ha : DT X cv E a ta) (hb : DW X cv E (.BoolOp .Or (b :: rest) pos) tb) : DW X cv E (.BoolOp .Or (a :: b :: rest) pos) (tOr ta tb) := by
  refine ⟨PW.imp (pw_or ha.pt hb.pw) fun σ H Q q => ?_, tOr.mono ha.mono hb.mono⟩
  obtain ⟨F, s, φ, r, q⟩ := q
  refine liT.mk ha.mono r q (fun b s1 q1 F1 H1 sm1 r1 => ?_) fun _ _ z => z
  cases b
  · exact liT.mk hb.mono r1 q1 (fun b s2 z => z.sm sm1) fun _ _ z => z.sm sm1
  · exact q1 F1 H1 sm1 r1
theorem dt_not (ha : DT X cv E a ta) : DT X cv E (.UnaryOp .Not a pos) (tNot ta) := by
  refine ⟨PT.imp (pt_not ha.pt) fun σ H Q q => ?_, fun s P P' R R' hp hR q => ha.mono s _ _ _ _ (fun b s1 q1 => hp _ _ q1) hR q⟩
  obtain ⟨F, s, φ, r, q⟩ := q
  exact liT.mk ha.mono r q (fun b s1 q1 F1 H1 sm1 r1 => q1 F1 H1 sm1 r1) fun _ _ z => z
/-! ### a test's answer as a value -/
def eTst (t : WT) : WE := fun s P R => t s (fun b s1 => P (.p (.bl b)) s1) R
/-- as values: all but the last True or False -/
def eAnd (wa wb : WE) : WE := fun s P R => wa s (fun m s1 => match m with
  | .p (.bl true) => wb s1 P R
  | .p (.bl false) => P (.p (.bl false)) s1
  | _ => False) R
def eOr (wa wb : WE) : WE := fun s P R => wa s (fun m s1 => match m with
  | .p (.bl false) => wb s1 P R
  | .p (.bl true) => P (.p (.bl true)) s1
  | _ => False) R
def eNot (wa : WE) : WE := fun s P R => wa s (fun m s1 => match m with
  | .p (.bl b) => P (.p (.bl !b)) s1
  | _ => False) R
theorem de_one {op} (ha : DE X cv E a wa) : DE X cv E (.BoolOp op [a] pos) wa := ⟨pe_one ha.pe, ha.mono⟩
theorem de_and (ha : DE X cv E a wa) (hb : DE X cv E (.BoolOp .And (b :: rest) pos) wb) : DE X cv E (.BoolOp .And (a :: b :: rest) pos) (eAnd wa wb) := by
  refine ⟨PE.imp (pe_and ha.pe hb.pe) fun σ H Q q => ?_, fun s P P' R R' hp hR q => ha.mono s _ _ _ _ (fun m s1 q1 => ?_) hR q⟩
  · obtain ⟨F, s, φ, r, q⟩ := q
    refine liE.mk ha.mono r q (fun m s1 q1 v F1 H1 sm1 r1 => ?_) fun _ _ z => z
    split at q1
    · have e := r1.getP
      exact ⟨true, e, liE.mk hb.mono r1.dropL q1 (fun m s2 z => z.sm sm1) fun _ _ z => z.sm sm1⟩
    · have e := r1.getP
      refine ⟨false, e, ?_⟩
      have e2 : v = V.bl false := e
      subst e2
      exact q1 _ F1 H1 sm1 r1
    · exact q1.elim
  · split at q1
    · exact hb.mono _ _ _ _ _ hp hR q1
    · exact hp _ _ q1
    · exact q1
theorem de_or (ha : DE X cv E a wa) (hb : DE X cv E (.BoolOp .Or (b :: rest) pos) wb) : DE X cv E (.BoolOp .Or (a :: b :: rest) pos) (eOr wa wb) := by
  refine ⟨PE.imp (pe_or ha.pe hb.pe) fun σ H Q q => ?_, fun s P P' R R' hp hR q => ha.mono s _ _ _ _ (fun m s1 q1 => ?_) hR q⟩
  · obtain ⟨F, s, φ, r, q⟩ := q
    refine liE.mk ha.mono r q (fun m s1 q1 v F1 H1 sm1 r1 => ?_) fun _ _ z => z
    split at q1
    · have e := r1.getP
      exact ⟨false, e, liE.mk hb.mono r1.dropL q1 (fun m s2 z => z.sm sm1) fun _ _ z => z.sm sm1⟩
    · have e := r1.getP
      refine ⟨true, e, ?_⟩
      have e2 : v = V.bl true := e
      subst e2
      exact q1 _ F1 H1 sm1 r1
    · exact q1.elim
  · split at q1
    · exact hb.mono _ _ _ _ _ hp hR q1
    · exact hp _ _ q1
    · exact q1
theorem de_not (ha : DE X cv E a wa) : DE X cv E (.UnaryOp .Not a pos) (eNot wa) := by
  refine ⟨PE.imp (pe_not ha.pe) fun σ H Q q => ?_, fun s P P' R R' hp hR q => ha.mono s _ _ _ _ (fun m s1 q1 => ?_) hR q⟩
  · obtain ⟨F, s, φ, r, q⟩ := q
    refine liE.mk ha.mono r q (fun m s1 q1 v F1 H1 sm1 r1 => ?_) fun _ _ z => z
    split at q1
    · rename_i b
      exact ⟨b, r1.getP, q1 _ F1 H1 sm1 (r1.dropL.pushP rfl)⟩
    · exact q1.elim
  · split at q1
    · exact hp _ _ q1
    · exact q1
def eIf (t : WT) (wa wb : WE) : WE := fun s P R => t s (fun b s1 => if b = true then wa s1 P R else wb s1 P R) R
theorem de_if (hc : DT X cv E c tc) (ha : DE X cv E a wa) (hb : DE X cv E b wb) : DE X cv E (.IfExp c a b pos) (eIf tc wa wb) := by
  refine ⟨PE.imp (pe_ifExp hc.pt ha.pe hb.pe) fun σ H Q q => ?_, fun s P P' R R' hp hR q => hc.mono s _ _ _ _ (fun m s1 q1 => ?_) hR q⟩
  · obtain ⟨F, s, φ, r, q⟩ := q
    refine liT.mk hc.mono r q (fun b s1 q1 F1 H1 sm1 r1 => ?_) fun _ _ z => z
    cases b
    · exact liE.mk hb.mono r1 q1 (fun m s2 z => z.sm sm1) fun _ _ z => z.sm sm1
    · exact liE.mk ha.mono r1 q1 (fun m s2 z => z.sm sm1) fun _ _ z => z.sm sm1
  · cases m
    · exact hb.mono _ _ _ _ _ hp hR q1
    · exact ha.mono _ _ _ _ _ hp hR q1
/-! ### one-place operations -/
def eNeg (wa : WE) : WE := fun s P R => wa s (fun m s1 => match m with
  | .p (.int i) => P (.p (.int (-i))) s1
  | _ => False) R
theorem de_neg (ha : DE X cv E a wa) : DE X cv E (.UnaryOp .USub a pos) (eNeg wa) := by
  refine ⟨PE.imp (pe_un un_neg ha.pe) fun σ H Q q => ?_, fun s P P' R R' hp hR q => ha.mono s _ _ _ _ (fun m s1 q1 => ?_) hR q⟩
  · obtain ⟨F, s, φ, r, q⟩ := q
    refine liE.mk ha.mono r q (fun m s1 q1 v F1 H1 sm1 r1 => ?_) fun _ _ z => z
    split at q1
    · exact ⟨_, r1.getP, q1 _ F1 H1 sm1 (r1.dropL.pushP rfl)⟩
    · exact q1.elim
  · split at q1
    · exact hp _ _ q1
    · exact q1
/-! ### comparison chains a op b op2 c, b data -/
def eCh (o o' : WO) (wa wb wc : WE) : WE := fun s P R => wa s (fun x s1 => wb s1 (fun y s2 => match y with
  | .p d => o s2 x (.p d) fun m => match m with
    | .p (.bl true) => wc s2 (fun z s3 => o' s3 (.p d) z fun m' => P m' s3) R
    | .p (.bl false) => P (.p (.bl false)) s2
    | _ => False
  | _ => False) R) R
theorem eCh.mono {o o' : WO} {wc : WE} (ho : ∀ s x y P P', (∀ m, P m → P' m) → o s x y P → o s x y P') (ho' : ∀ s x y P P', (∀ m, P m → P' m) → o' s x y P → o' s x y P') (ha : MonoE wa) (hb : MonoE wb) (hc : MonoE wc) : MonoE (eCh o o' wa wb wc) := fun s P P' R R' hp hR q =>
  ha s _ _ _ _ (fun x s1 q1 => hb s1 _ _ _ _ (fun y s2 q2 => by
    split at q2
    · refine ho _ _ _ _ _ (fun m q3 => ?_) q2
      split at q3
      · exact hc _ _ _ _ _ (fun z s3 q4 => ho' _ _ _ _ _ (fun m' => hp m' s3) q4) hR q3
      · exact hp _ _ q3
      · exact q3
    · exact q2) hR q1) hR q
theorem eCh.to {o o' : WO} {r r' : R2} {wc : WE} (od : OpD X r o) (od' : OpD X r' o') (ha : DE X cv E a wa) (hb : DE X cv E b wb) (hc : DE X cv E c wc) {σ : L2.St} {H : Hp} {Q : VK} (q : liE X.K cv E (eCh o o' wa wb wc) σ H Q) : tChain r r' (liE X.K cv E wa) (liE X.K cv E wb) (liE X.K cv E wc) σ H Q := by
  obtain ⟨F, s, φ, rs, q⟩ := q
  refine liE.mk ha.mono rs q (fun m s1 q1 v F1 H1 sm1 r1 => ?_) fun _ _ z => z
  refine liE.mk hb.mono r1 q1 (fun m2 s2 q2 v2 F2 H2 sm2 r2 => ?_) fun x s2 z => okX.push z sm1
  split at q2
  · rename_i d
    have rd := r2.getP
    refine od.to F2 H2 σ s2 (star (rv X.K σ (.p d) v2) φ) m (.p d) v v2 _ _ (Res.pushP (Res.swap (Res.pushP r2.dropL rd)) rd) q2 fun m' q3 v' F3 H3 sm3 r3 => ?_
    split at q3
    · refine ⟨true, r3.getP, ?_⟩
      show liE X.K cv E wc σ H3 _
      refine liE.mk hc.mono r3.dropL q3 (fun m4 s4 q4 v4 F4 H4 sm4 r4 => ?_) fun x s4 z => (okX.push z (sm1.trans (sm2.trans sm3)))
      exact od'.to F4 H4 σ s4 φ (.p d) m4 v2 v4 _ Q r4 q4 fun m5 q5 v5 F5 H5 sm5 r5 => q5 v5 F5 H5 (sm1.trans (sm2.trans (sm3.trans (sm4.trans sm5)))) r5
    · have e := r3.getP
      refine ⟨false, e, ?_⟩
      exact q3 _ F3 H3 (sm1.trans (sm2.trans sm3)) (r3.dropL.dropL.pushP rfl)
    · exact q3.elim
  · exact q2.elim
theorem de_chain {o o' : WO} {r r' : R2} {wc : WE} {op op' : CmpOp} (ho : OpR X (compareOp op) r) (ho' : OpR X (compareOp op') r') (od : OpD X r o) (od' : OpD X r' o') (ha : DE X cv E a wa) (hb : DE X cv E b wb) (hc : DE X cv E c wc)
    (hm : lastMarks [op, op'] [b, c] = false := by with_unfolding_all rfl) : DE X cv E (.Compare a [op, op'] [b, c] pos) (eCh o o' wa wb wc) :=
  ⟨PE.imp (pe_chain ho ho' ha.pe hb.pe hc.pe hm) fun _ _ _ q => eCh.to od od' ha hb hc q, eCh.mono od.mono od'.mono ha.mono hb.mono hc.mono⟩
theorem dt_chain {o o' : WO} {r r' : R2} {wc : WE} {op op' : CmpOp} (ho : OpR X (compareOp op) r) (ho' : OpR X (compareOp op') r') (od : OpD X r o) (od' : OpD X r' o') (ha : DE X cv E a wa) (hb : DE X cv E b wb) (hc : DE X cv E c wc)
    (hm : lastMarks [op, op'] [b, c] = false := by with_unfolding_all rfl) : DT X cv E (.Compare a [op, op'] [b, c] pos) (tB (eCh o o' wa wb wc)) := by
  refine ⟨PT.imp (pt_chain ho ho' ha.pe hb.pe hc.pe hm) fun σ H Q q => ?_, tB.mono (eCh.mono od.mono od'.mono ha.mono hb.mono hc.mono)⟩
  obtain ⟨F, s, φ, rs, q⟩ := q
  exact eCh.to od od' ha hb hc ⟨F, s, φ, rs, tB.of (X := X) (cv := cv) (E := E) (eCh.mono od.mono od'.mono ha.mono hb.mono hc.mono) q⟩
/-! ### slices -/
/-- a part of a slice -/
abbrev WP := S → (Option Int → S → Prop) → WR → Prop
def MonoP (w : WP) : Prop := ∀ (s : S) (P P' : Option Int → S → Prop) (R R' : WR), (∀ m s, P m s → P' m s) → (∀ x s, R x s → R' x s) → w s P R → w s P' R'
def okO (K : PySem.W.Frag) (σ : L2.St) (F : Hp) (φ : SLg) (Q : Option Int → Hp → Prop) : Option Int → S → Prop := fun o s' => ∀ F' H', Same F F' → Res K F' H' σ s' φ → Q o H'
def liO (K : PySem.W.Frag) (cv : CV) (E : L2.St → XK) (w : WP) : TO := fun σ H Q => ∃ F s φ, Res K F H σ s φ ∧ w s (okO K σ F φ Q) (okX K cv E σ F φ)
structure DP (X : Cx) (cv : CV) (E : L2.St → XK) (e : Option Expr) (w : WP) : Prop where
  po : PO X e (liO X.K cv E w)
  mono : MonoP w
theorem PO.imp {X : Cx} {e : Option Expr} {t t' : TO} (h : PO X e t) (i : ∀ σ H Q, t' σ H Q → t σ H Q) : PO X e t' := ⟨fun pins s σ H Q I q => h.run pins s σ H Q I (i _ _ _ q)⟩
def pN : WP := fun s P _ => P none s
def pS (w : WE) : WP := fun s P R => w s (fun m s1 => match m with
  | .p (.int i) => P (some i) s1
  | _ => False) R
theorem dp_none : DP X cv E none pN := by
  refine ⟨PO.imp po_none fun σ H Q q => ?_, fun s P P' R R' hp _ q => hp _ _ q⟩
  obtain ⟨F, s, φ, r, q⟩ := q
  exact q F H (Same.refl F) r
theorem dp_some (ha : DE X cv E a wa) : DP X cv E (some a) (pS wa) := by
  refine ⟨PO.imp (po_some ha.pe) fun σ H Q q => ?_, fun s P P' R R' hp hR q => ha.mono s _ _ _ _ (fun m s1 q1 => ?_) hR q⟩
  · obtain ⟨F, s, φ, r, q⟩ := q
    refine liE.mk ha.mono r q (fun m s1 q1 v F1 H1 sm1 r1 => ?_) fun _ _ z => z
    split at q1
    · exact ⟨_, r1.getP, q1 F1 H1 sm1 r1.dropL⟩
    · exact q1.elim
  · split at q1
    · exact hp _ _ q1
    · exact q1
/-- the items of a slice -/
def cutD {α : Type} (xs : List α) (lo hi : Option Int) : List α := (xs.drop (HT.sIx xs.length 0 lo)).take (HT.sIx xs.length xs.length hi - HT.sIx xs.length 0 lo)
def eSl (wa : WE) (wl wh : WP) : WE := fun s P R => wa s (fun m s1 => wl s1 (fun lo s2 => wh s2 (fun hi s3 => match m with
  | .p (.tup l) => P (.p (.tup (cutD l lo hi))) s3
  | .p (.str z) => z.length ≤ sizeLine ∧ P (.p (.str (cutS z lo hi))) s3
  | m => match seqL s3 m with
    | some l => P (.ml (cutD l lo hi)) s3
    | none => False) R) R) R
theorem RDs.cut {K : PySem.W.Frag} {F : Hp} {l : List D} {xs : List V} (h : RDs K F l xs) (lo hi : Option Int) : RDs K F (cutD l lo hi) (cutV xs lo hi) := by
  unfold cutD cutV
  rw [h.length]
  exact (h.drop _).take _
def rSlZ : V → Option Int → Option Int → Hp → VK → Prop := fun x lo hi H Q => ∃ z, x = .str z ∧ z.length ≤ sizeLine ∧ Q (.str (cutS z lo hi)) H
theorem sl_all : SlR X (fun x lo hi H Q => (rSlA X.K x lo hi H Q ∨ rSlL X.K x lo hi H Q) ∨ rSlZ x lo hi H Q) := (sl_tupA.or sl_list).or (fun pins s σ H x v vl vu lo hi sl Q I rx hs pl pu ⟨z, e, hz, q⟩ => sl_str pins s σ H x v vl vu lo hi sl Q I rx hs pl pu ⟨z, e, hz, q⟩)
theorem de_sl {lo hi : Option Expr} {wl wh : WP} {p2 : Pos} (ha : DE X cv E a wa) (hl : DP X cv E lo wl) (hh : DP X cv E hi wh) : DE X cv E (.Subscript a (.Slice lo hi none p2) pos) (eSl wa wl wh) := by
  refine ⟨PE.imp (pe_slice sl_all ha.pe hl.po hh.po) fun σ H Q q => ?_, fun s P P' R R' hp hR q => ha.mono s _ _ _ _ (fun m s1 q1 => hl.mono _ _ _ _ _ (fun o s2 q2 => hh.mono _ _ _ _ _ (fun o2 s3 q3 => ?_) hR q2) hR q1) hR q⟩
  · obtain ⟨F, s, φ, r, q⟩ := q
    refine liE.mk ha.mono r q (fun m s1 q1 v F1 H1 sm1 r1 => ?_) fun _ _ z => z
    refine ⟨F1, s1, _, r1, hl.mono _ _ _ _ _ (fun lo s2 q2 F2 H2 sm2 r2 => ?_) (fun x s2 z => okX.push z sm1) q1⟩
    refine ⟨F2, s2, _, r2, hh.mono _ _ _ _ _ (fun hi s3 q3 F3 H3 sm3 r3 => ?_) (fun x s2 z => okX.push z (sm1.trans sm2)) q2⟩
    have sm := sm1.trans (sm2.trans sm3)
    split at q3
    · rename_i l
      obtain ⟨p, xs, rfl, hp, hx⟩ := r3.getP
      refine .inl (.inl ⟨p, xs, rfl, SqT.of (r3.ff _ _ hp), fun hw => ?_, fun hw t ht => ?_⟩)
      · refine q3 _ F3 H3 sm (r3.dropL.pushP ⟨p, xs, rfl, hp, ?_⟩)
        have e : cutD l lo hi = l := by
          unfold cutD
          rw [← hx.length, hw.1, hw.2, List.drop_zero, Nat.sub_zero, hx.length, List.take_length]
        rw [e]
        exact hx
      · obtain ⟨sm4, r4⟩ := r3.dropL.newF (o := .tup (cutV xs lo hi)) ht
        exact q3 _ _ _ (sm.trans sm4) (r4.pushP ⟨t, _, rfl, upd_same, (hx.cut lo hi).mono sm4⟩)
    · exact .inr ⟨_, r3.getP, q3.1, q3.2 _ F3 H3 sm (r3.dropL.pushP rfl)⟩
    · split at q3
      · rename_i l el
        obtain ⟨p, xs, rfl, h1, hx⟩ := r3.seqL el
        refine .inl (.inr ⟨p, xs, rfl, h1, fun t ht => ?_⟩)
        exact q3 _ _ _ sm (r3.dropL.newO ht fun hF => ⟨Sd.one t, .inr ⟨t, _, rfl, upd_same, hF, hx.cut lo hi, fun _ => rfl⟩, fun _ => Nat.le_refl _⟩)
      · exact q3.elim
  · split at q3
    · exact hp _ _ q3
    · exact ⟨q3.1, hp _ _ q3.2⟩
    · split at q3
      · exact hp _ _ q3
      · exact q3
/-- e[::-1] -/
def eRev (wa : WE) : WE := fun s P R => wa s (fun m s1 => match m with
  | .p (.tup l) => P (.p (.tup l.reverse)) s1
  | m => match seqL s1 m with
    | some l => P (.ml l.reverse) s1
    | none => False) R
theorem de_rev {k : Nat} {p1 p2 p3 : Pos} (ha : DE X cv E a wa) : DE X cv E (.Subscript a (.Slice none none (some (.UnaryOp .USub (.Constant (.int 1) k p1) p2)) p3) pos) (eRev wa) := by
  refine ⟨PE.imp (pe_revG ha.pe) fun σ H Q q => ?_, fun s P P' R R' hp hR q => ha.mono s _ _ _ _ (fun m s1 q1 => ?_) hR q⟩
  · obtain ⟨F, s, φ, r, q⟩ := q
    refine liE.mk ha.mono r q (fun m s1 q1 v F1 H1 sm1 r1 => ?_) fun _ _ z => z
    split at q1
    · rename_i l
      obtain ⟨p, xs, rfl, hp, hx⟩ := r1.getP
      refine ⟨p, xs, rfl, .inr ⟨SqT.of (r1.ff _ _ hp), fun t ht => ?_⟩⟩
      obtain ⟨sm4, r4⟩ := r1.dropL.newF (o := .tup xs.reverse) ht
      exact q1 _ _ _ (sm1.trans sm4) (r4.pushP ⟨t, _, rfl, upd_same, hx.reverse.mono sm4⟩)
    · split at q1
      · rename_i l el
        obtain ⟨p, xs, rfl, h1, hx⟩ := r1.seqL el
        refine ⟨p, xs, rfl, .inl ⟨h1, fun t ht => ?_⟩⟩
        exact q1 _ _ _ sm1 (r1.dropL.newO ht fun hF => ⟨Sd.one t, .inr ⟨t, _, rfl, upd_same, hF, hx.reverse, fun _ => rfl⟩, fun _ => Nat.le_refl _⟩)
      · exact q1.elim
  · split at q1
    · exact hp _ _ q1
    · split at q1
      · exact hp _ _ q1
      · exact q1
end
end Sd
/-! Sd8: defs: what they promise over data, calls. -/
namespace Sd
open PySem PySem.Spec PyProof.Rows L2
variable [Tb]

/-- what a def is worth over data: arguments; what is wanted of the answer and of the owned arguments behind it, or of the error -/
abbrev SpecD := List M → (M → List M → Prop) → (Exc → List M → Prop) → Prop
def isP : M → Bool
  | .p _ => true
  | _ => false
/-- the items at the places P -/
def pickP {α : Type} (P : List Nat) : Nat → List α → List α
  | _, [] => []
  | j, x :: r => if j ∈ P then x :: pickP P (j + 1) r else pickP P (j + 1) r
/-- the arguments handed over: those at P are lent (a look at a slot empties it meanwhile), the others are data -/
def lend (P : List Nat) : Nat → S → List M → Option (S × List M × List (Option Nat))
  | _, s, [] => some (s, [], [])
  | j, s, m :: ms => if j ∈ P then
      match m with
      | .at i => match s[i]? with
        | some (some c) => (lend P (j + 1) (s.set i none) ms).map fun q => (q.1, c :: q.2.1, some i :: q.2.2)
        | _ => none
      | m => (lend P (j + 1) s ms).map fun q => (q.1, m :: q.2.1, none :: q.2.2)
    else match m with
      | .p d => (lend P (j + 1) s ms).map fun q => (q.1, .p d :: q.2.1, q.2.2)
      | _ => none
/-- .. and given back -/
def giveB : S → List (Option Nat) → List M → S
  | s, some i :: bk, o :: os => giveB (s.set i (some o)) bk os
  | s, none :: bk, _ :: os => giveB s bk os
  | s, _, _ => s
/-- the slots at P, all of them full -/
def collect (P : List Nat) : Nat → S → Option (List M)
  | _, [] => some []
  | j, x :: r => if j ∈ P then
      match x with
      | some m => (collect P (j + 1) r).map (m :: ·)
      | none => none
    else collect P (j + 1) r
theorem collect_nil : ∀ (s : S) (j : Nat), collect [] j s = some []
  | [], _ => rfl
  | _ :: r, j => by
    unfold collect
    rw [if_neg (by simp)]
    exact collect_nil r (j + 1)

/-- slots as an assertion -/
def sls (K : PySem.W.Frag) (σ : L2.St) (s : S) : SLg := ⟨fun F H f => RS K F H s σ f, fun k h => RS.keep k h, fun h => RS.alive h⟩
section
variable {K : PySem.W.Frag} {F H : Hp} {σ : L2.St} {s : S} {φ ψ : SLg}
theorem Res.close (r : Res K F H σ s φ) : Res K F H [] [] (star (sls K σ s) φ) := by
  obtain ⟨f1, f2, h1, h2, h3⟩ := r.ex
  exact ⟨r.ff, r.tb, fun _ => 0, fun b => f1 b + f2 b, ⟨rfl, fun _ => rfl⟩, ⟨f1, f2, h1, h2, fun _ => rfl⟩, fun a => by have := h3 a; dsimp only; omega⟩
theorem Res.open (r : Res K F H [] [] (star (sls K σ s) φ)) : Res K F H σ s φ := by
  obtain ⟨f0, f, h0, ⟨f1, f2, h1, h2, h4⟩, h3⟩ := r.ex
  exact ⟨r.ff, r.tb, f1, f2, h1, h2, fun a => by have := h3 a; have := h4 a; omega⟩
end
/-- what is kept of the lent slots -/
def BackOk (σ : L2.St) (s : S) : List (Option Nat) → List V → Prop
  | [], vs => vs = []
  | none :: bk, vs => ∃ v r, vs = v :: r ∧ BackOk σ s bk r
  | some i :: bk, vs => ∃ v r, vs = v :: r ∧ σ[i]? = some (some v) ∧ s[i]? = some none ∧ i ∉ bk.filterMap id ∧ BackOk σ s bk r
theorem lend_none {P : List Nat} : ∀ {ms : List M} {j : Nat} {s s' : S} {ms' : List M} {bk : List (Option Nat)} {i : Nat}, lend P j s ms = some (s', ms', bk) → s[i]? = some none → s'[i]? = some none ∧ i ∉ bk.filterMap id
  | [], _, _, _, _, _, _, e, h => by
    cases e
    exact ⟨h, by simp⟩
  | m :: ms, j, s, s', ms', bk, i, e, h => by
    unfold lend at e
    split at e
    · split at e
      · rename_i i'
        split at e
        · rename_i c ec
          rw [Option.map_eq_some_iff] at e
          obtain ⟨⟨s1, ms1, bk1⟩, e1, e2⟩ := e
          cases e2
          have hne : i' ≠ i := fun z => by subst z; rw [h] at ec; cases ec
          obtain ⟨q1, q2⟩ := lend_none e1 (i := i) (by rw [List.getElem?_set_ne hne]; exact h)
          exact ⟨q1, by simp [hne.symm]; simpa using q2⟩
        · cases e
      · rw [Option.map_eq_some_iff] at e
        obtain ⟨⟨s1, ms1, bk1⟩, e1, e2⟩ := e
        cases e2
        obtain ⟨q1, q2⟩ := lend_none e1 (i := i) h
        exact ⟨q1, by simpa using q2⟩
    · split at e
      · rw [Option.map_eq_some_iff] at e
        obtain ⟨⟨s1, ms1, bk1⟩, e1, e2⟩ := e
        cases e2
        exact lend_none e1 (i := i) h
      · cases e
theorem lend_to {K : PySem.W.Frag} {F H : Hp} {σ : L2.St} {P : List Nat} : ∀ {ms : List M} {vs : List V} {j : Nat} {s s' : S} {ms' : List M} {bk : List (Option Nat)} {f : FP}, lend P j s ms = some (s', ms', bk) → vs.length = ms.length →
    (star (rvs K σ ms vs) (sls K σ s)).holds F H f → (star (rvs K [] ms' vs) (sls K σ s')).holds F H f ∧ BackOk σ s' bk (pickP P j vs) ∧ ms'.length = ms.length ∧ (∀ m ∈ ms', noAt m = true) ∧ ∀ i m, ms'[i]? = some m → i + j ∉ P → isP m = true
  | [], vs, j, s, s', ms', bk, f, e, hl, h => by
    cases e
    have : vs = [] := List.eq_nil_of_length_eq_zero hl
    subst this
    exact ⟨h, rfl, rfl, (fun m hm => by cases hm), (fun i m hm => by simp at hm)⟩
  | m :: ms, [], _, _, _, _, _, _, _, hl, _ => by simp at hl
  | m :: ms, v :: vs, j, s, s', ms', bk, f, e, hl, h => by
    obtain ⟨f1, f2, ⟨g1, g2, k1, k2, k3⟩, h2, h3⟩ := h
    have hl' : vs.length = ms.length := by simpa using hl
    unfold lend at e
    unfold pickP
    split at e
    · rename_i hP
      rw [if_pos hP]
      split at e
      · rename_i i
        split at e
        · rename_i c ec
          rw [Option.map_eq_some_iff] at e
          obtain ⟨⟨s1, ms1, bk1⟩, e1, e2⟩ := e
          cases e2
          rcases k1 with ⟨i', ei, e3, k0⟩ | k1
          · cases ei
            obtain ⟨v', p1, p2, e4, q1, q2, q3⟩ := RS.out h2 ec
            rw [e3] at e4
            cases e4
            have hi : i < s.length := (List.getElem?_eq_some_iff.mp ec).1
            obtain ⟨b1, b2⟩ := lend_none e1 (i := i) (by simp [hi])
            obtain ⟨z1, z2, z3, z4, z5⟩ := lend_to (f := fun b => g2 b + p2 b) e1 hl' ⟨g2, p2, k2, q2, fun _ => rfl⟩
            obtain ⟨y1, y2, w1, w2, w3⟩ := z1
            refine ⟨⟨fun b => p1 b + y1 b, y2, ⟨p1, y1, .inr q1, w1, fun _ => rfl⟩, w2, fun b => ?_⟩, ⟨v, _, rfl, e3, b1, b2, z2⟩, by simp [z3], fun m hm => ?_, fun k m hm hk => ?_⟩
            · have a1 := h3 b; have a2 := k3 b; have a3 := k0 b; have a4 := q3 b; have a5 := w3 b
              dsimp only at a5 ⊢
              omega
            · rcases List.mem_cons.mp hm with rfl | hm
              · cases m <;> first | rfl | exact q1.elim
              · exact z4 m hm
            · cases k with
              | zero => exact absurd (by simpa using hP) hk
              | succ k => exact z5 k m (by simpa using hm) (by rw [show k + (j + 1) = k + 1 + j by omega]; exact hk)
          · exact k1.elim
        · cases e
      · rename_i na
        rw [Option.map_eq_some_iff] at e
        obtain ⟨⟨s1, ms1, bk1⟩, e1, e2⟩ := e
        cases e2
        obtain ⟨z1, z2, z3, z4, z5⟩ := lend_to (f := fun b => g2 b + f2 b) e1 hl' ⟨g2, f2, k2, h2, fun _ => rfl⟩
        obtain ⟨y1, y2, w1, w2, w3⟩ := z1
        rcases k1 with ⟨i', ei, e3, k0⟩ | k1
        · exact absurd ei (na i')
        · refine ⟨⟨fun b => g1 b + y1 b, y2, ⟨g1, y1, .inr k1, w1, fun _ => rfl⟩, w2, fun b => ?_⟩, ⟨v, _, rfl, z2⟩, by simp [z3], fun m' hm => ?_, fun k m' hm hk => ?_⟩
          · have a1 := h3 b; have a2 := k3 b; have a5 := w3 b
            dsimp only at a5 ⊢
            omega
          · rcases List.mem_cons.mp hm with rfl | hm
            · cases m' <;> first | rfl | exact k1.elim
            · exact z4 m' hm
          · cases k with
            | zero => exact absurd (by simpa using hP) hk
            | succ k => exact z5 k m' (by simpa using hm) (by rw [show k + (j + 1) = k + 1 + j by omega]; exact hk)
    · rename_i hP
      rw [if_neg hP]
      split at e
      · rename_i d
        rw [Option.map_eq_some_iff] at e
        obtain ⟨⟨s1, ms1, bk1⟩, e1, e2⟩ := e
        cases e2
        obtain ⟨z1, z2, z3, z4, z5⟩ := lend_to (f := fun b => g2 b + f2 b) e1 hl' ⟨g2, f2, k2, h2, fun _ => rfl⟩
        obtain ⟨y1, y2, w1, w2, w3⟩ := z1
        rcases k1 with ⟨i', ei, e3, k0⟩ | k1
        · cases ei
        · refine ⟨⟨fun b => g1 b + y1 b, y2, ⟨g1, y1, .inr k1, w1, fun _ => rfl⟩, w2, fun b => ?_⟩, z2, by simp [z3], fun m' hm => ?_, fun k m' hm hk => ?_⟩
          · have a1 := h3 b; have a2 := k3 b; have a5 := w3 b
            dsimp only at a5 ⊢
            omega
          · rcases List.mem_cons.mp hm with rfl | hm
            · rfl
            · exact z4 m' hm
          · cases k with
            | zero => simp at hm; subst hm; rfl
            | succ k => exact z5 k m' (by simpa using hm) (by rw [show k + (j + 1) = k + 1 + j by omega]; exact hk)
      · cases e
theorem give_to {K : PySem.W.Frag} {F H : Hp} {σ : L2.St} : ∀ {bk : List (Option Nat)} {os : List M} {vs : List V} {s : S} {f : FP}, BackOk σ s bk vs → os.length = vs.length → (star (rvs K [] os vs) (sls K σ s)).holds F H f →
    ∃ g, (sls K σ (giveB s bk os)).holds F H g ∧ ∀ b, g b ≤ f b
  | [], os, vs, s, f, hb, hl, h => by
    have e : vs = [] := hb
    subst e
    obtain ⟨f1, f2, _, h2, h3⟩ := h
    have e2 : giveB s [] os = s := by cases os <;> rfl
    rw [e2]
    exact ⟨f2, h2, fun b => by have := h3 b; omega⟩
  | none :: bk, [], vs, s, f, hb, hl, h => by
    obtain ⟨v, r, rfl, _⟩ := hb
    simp at hl
  | none :: bk, o :: os, vs, s, f, hb, hl, h => by
    obtain ⟨v, r, rfl, hb⟩ := hb
    obtain ⟨f1, f2, ⟨g1, g2, k1, k2, k3⟩, h2, h3⟩ := h
    obtain ⟨g, q1, q2⟩ := give_to (f := fun b => g2 b + f2 b) hb (by simpa using hl) ⟨g2, f2, k2, h2, fun _ => rfl⟩
    exact ⟨g, q1, fun b => by have a1 := q2 b; have a2 := h3 b; have a3 := k3 b; (try dsimp only at a1); omega⟩
  | some i :: bk, [], vs, s, f, hb, hl, h => by
    obtain ⟨v, r, rfl, _⟩ := hb
    simp at hl
  | some i :: bk, o :: os, vs, s, f, hb, hl, h => by
    obtain ⟨v, r, rfl, e1, e2, nb, hb⟩ := hb
    obtain ⟨f1, f2, ⟨g1, g2, k1, k2, k3⟩, h2, h3⟩ := h
    rcases k1 with ⟨i', ei, e3, k0⟩ | k1
    · simp at e3
    · have q := RS.inn (i := i) h2 e2 k1
      rw [set_same e1] at q
      have hb' : BackOk σ (s.set i (some o)) bk r := by
        clear h2 q hl k2
        revert nb hb
        induction bk generalizing r with
        | nil => intro _ hb; exact hb
        | cons x bk ih =>
          intro nb hb
          cases x with
          | none =>
            obtain ⟨v', r', rfl, hb⟩ := hb
            exact ⟨v', r', rfl, ih r' (by simpa using nb) hb⟩
          | some i2 =>
            obtain ⟨v', r', rfl, q1, q2, q3, hb⟩ := hb
            simp at nb
            exact ⟨v', r', rfl, q1, by rw [List.getElem?_set_ne nb.1]; exact q2, q3, ih r' (by simpa using nb.2) hb⟩
      obtain ⟨g, p1, p2⟩ := give_to (f := fun b => g2 b + (g1 b + f2 b)) hb' (by simpa using hl) ⟨g2, _, k2, q, fun _ => rfl⟩
      exact ⟨g, p1, fun b => by have a1 := p2 b; have a2 := h3 b; have a3 := k3 b; (try dsimp only at a1); omega⟩

/-- a def's promise over data -/
def spOf (K : PySem.W.Frag) (cv : CV) (P : List Nat) (g : SpecD) : Sp := fun vs H Q E => ∃ (F : Hp) (ms : List M) (φ : SLg), ms.length = vs.length ∧ (∀ m ∈ ms, noAt m = true) ∧ (∀ i m, ms[i]? = some m → i ∉ P → isP m = true) ∧
  Res K F H [] [] (star (rvs K [] ms vs) φ) ∧
  g ms (fun r os => ∀ v F' H', Same F F' → os.length = (pickP P 0 vs).length → noAt r = true → Res K F' H' [] [] (star (rv K [] r v) (star (rvs K [] os (pickP P 0 vs)) φ)) → Q v H')
    (fun x os => ∀ c d F' H', Same F F' → os.length = (pickP P 0 vs).length → Res K F' H' [] [] (star (rvs K [] os (pickP P 0 vs)) φ) → ExcR cv F' x c d → E c d H')
def MonoG (g : SpecD) : Prop := ∀ (ms : List M) (Q Q' : M → List M → Prop) (R R' : Exc → List M → Prop), (∀ m os, Q m os → Q' m os) → (∀ x os, R x os → R' x os) → g ms Q R → g ms Q' R'
def eCall (P : List Nat) (g : SpecD) (wa : WA) : WE := fun s E R => wa s (fun ms s1 => match lend P 0 s1 ms with
  | some (s2, ms', bk) => g ms' (fun r os => E r (giveB s2 bk os)) (fun x os => R x (giveB s2 bk os))
  | none => False) R
theorem eCall.mono {P : List Nat} {g : SpecD} {wa : WA} (hg : MonoG g) (ha : MonoA wa) : MonoE (eCall P g wa) := fun s Q Q' R R' hp hR q => ha s _ _ _ _ (fun ms s1 q1 => by
  split at q1
  · exact hg _ _ _ _ _ (fun _ _ => hp _ _) (fun _ _ => hR _ _) q1
  · exact q1) hR q
theorem rv_noAt {K : PySem.W.Frag} {σ σ' : L2.St} {m : M} {v : V} (h : noAt m = true) {F H : Hp} {f : FP} (q : (rv K σ m v).holds F H f) : (rv K σ' m v).holds F H f := by
  rcases q with ⟨i, e, _⟩ | q
  · subst e; cases h
  · exact .inr q
/-- the readings of a call meet -/
theorem eCall.to {K : PySem.W.Frag} {cv : CV} {E : L2.St → XK} {P : List Nat} {g : SpecD} (hg : MonoG g) {wa : WA} (ha : MonoA wa) {σ : L2.St} {H : Hp} {Q : VK} (q : liE K cv E (eCall P g wa) σ H Q) : liA K cv E wa σ H fun vs H1 => spOf K cv P g vs H1 Q (E σ) := by
  obtain ⟨F, s, φ, r, q⟩ := q
  refine liA.mk ha r q (fun ms s1 q1 vs F1 H1 sm1 hl r1 => ?_) fun _ _ z => z
  split at q1
  · rename_i s2 ms' bk el
    obtain ⟨f1, f2, h1, ⟨g1, g2, p1, p2, p3⟩, h3⟩ := r1.ex
    obtain ⟨z1, z2, z3, z4, z5⟩ := lend_to (f := fun b => g1 b + f1 b) el hl ⟨g1, f1, p1, h1, fun _ => rfl⟩
    have r2 : Res K F1 H1 [] [] (star (rvs K [] ms' vs) (star (sls K σ s2) φ)) := by
      obtain ⟨y1, y2, w1, w2, w3⟩ := z1
      exact ⟨r1.ff, r1.tb, fun _ => 0, fun b => y1 b + (y2 b + g2 b), ⟨rfl, fun _ => rfl⟩, ⟨y1, fun b => y2 b + g2 b, w1, ⟨y2, g2, w2, p2, fun _ => rfl⟩, fun _ => rfl⟩, fun b => by have a1 := h3 b; have a2 := p3 b; have a3 := w3 b; (try dsimp only at a3); (try dsimp only); omega⟩
    refine ⟨F1, ms', _, by rw [z3, hl], z4, fun i m hm hi => z5 i m hm hi, r2, hg _ _ _ _ _ (fun m os q2 v F' H' sm' ol nr r' => ?_) (fun x os q2 c d F' H' sm' ol r' ex => ?_) q1⟩
    · refine q2 v F' H' (sm1.trans sm') ?_
      obtain ⟨fa, fb, ha', ⟨k1, k2, l1, ⟨k3, k4, l2, ⟨k5, k6, l3, l4, l5⟩, l6⟩, l7⟩, hb'⟩ := r'.ex
      obtain ⟨gg, m1, m2⟩ := give_to (f := fun b => k3 b + k5 b) z2 ol ⟨k3, k5, l2, l3, fun _ => rfl⟩
      exact ⟨r'.ff, r'.tb, gg, fun b => k1 b + k6 b, m1, ⟨k1, k6, rv_noAt nr l1, l4, fun _ => rfl⟩, fun b => by have a1 := hb' b; have a2 := l7 b; have a3 := l6 b; have a4 := l5 b; have a5 := m2 b; (try dsimp only at a5); (try dsimp only); omega⟩
    · refine q2 c d F' H' (sm1.trans sm') ?_ ex
      obtain ⟨fa, fb, ha', ⟨k3, k4, l2, ⟨k5, k6, l3, l4, l5⟩, l6⟩, hb'⟩ := r'.ex
      obtain ⟨gg, m1, m2⟩ := give_to (f := fun b => k3 b + k5 b) z2 ol ⟨k3, k5, l2, l3, fun _ => rfl⟩
      exact ⟨r'.ff, r'.tb, gg, k6, m1, l4, fun b => by have a1 := hb' b; have a3 := l6 b; have a4 := l5 b; have a5 := m2 b; (try dsimp only at a5); omega⟩
  · exact q1.elim
section
variable {X : Cx} {cv : CV} {E : L2.St → XK} {wa : WA} {P : List Nat} {g : SpecD} {k : Nat} {f : Addr} {fd : FuncData} {ps : List Str} {x : Str} {p pos : Pos} {e : Expr} {es : List Expr}
/-- f(e, ..), f a def of the program -/
theorem de_call (G : FnOk X.prog X.w X.K X.mg X.base (L2.CX X.prog X.w) k f fd ps (spOf X.K cv P g)) (hgm : MonoG g) (hr : Room k X.A) (hgl : Gl X x) (hm : X.mg x = some (.ref f)) (hk : PySem.W.keepIn X.K (.ref f) = true) (hb : Binds X.K fd ps []) (hx : ∀ σ, PassesAt (L2.CX X.prog X.w) X σ (E σ))
    (ha : DA X cv E (e :: es) wa) (hdb : (x == ("__debug__" : Str)) = false := by decide) (he : starEach (e :: es) X.env = (false, eval e X.env) :: starEach es X.env := by rfl) (hpl : (backTo pos (starEach es X.env)).any (·.1) = false := by rfl) :
    DE X cv E (.Call (.Name x p) (e :: es) [] pos) (eCall P g wa) :=
  ⟨PE.imp (pe_callS G hr hgl hm hk hb hx ha.pa hdb he hpl) fun σ H Q q => eCall.to hgm ha.mono q, eCall.mono hgm ha.mono⟩
end
end Sd
/-! Sd9: statements. -/
namespace Sd
open PySem PySem.Spec PyProof.Rows L2
variable [Tb]

/-- what is wanted behind a statement -/
structure WN where
  nx : S → Prop
  rt : M → S → Prop
  bk : S → Prop
  ct : S → Prop
  er : WR
abbrev WS := WN → S → Prop
structure WN.Le (N N' : WN) : Prop where
  nx : ∀ s, N.nx s → N'.nx s
  rt : ∀ m s, N.rt m s → N'.rt m s
  bk : ∀ s, N.bk s → N'.bk s
  ct : ∀ s, N.ct s → N'.ct s
  er : ∀ x s, N.er x s → N'.er x s
def MonoS (w : WS) : Prop := ∀ (N N' : WN) (s : S), N.Le N' → w N s → w N' s
/-- slots that stay as they are -/
def PinOk (pv : List (Nat × V)) (σ : L2.St) : Prop := ∀ p ∈ pv, σ[p.1]? = some (some p.2)
def okS (K : PySem.W.Frag) (cv : CV) (E : L2.St → XK) (pv : List (Nat × V)) (F : Hp) (φ : SLg) (D : Ends) : WN where
  nx := fun s' => ∀ σ' F' H', PinOk pv σ' → Same F F' → Res K F' H' σ' s' φ → D.nx σ' H'
  rt := fun m s' => ∀ v σ' F' H', PinOk pv σ' → Same F F' → Res K F' H' σ' s' (star (rv K σ' m v) φ) → D.rt v H'
  bk := fun s' => ∀ σ' F' H', PinOk pv σ' → Same F F' → Res K F' H' σ' s' φ → D.bk σ' H'
  ct := fun s' => ∀ σ' F' H', PinOk pv σ' → Same F F' → Res K F' H' σ' s' φ → D.ct σ' H'
  er := fun x s' => ∀ c d σ' F' H', PinOk pv σ' → Same F F' → Res K F' H' σ' s' φ → ExcR cv F' x c d → E σ' c d H'
def liS (K : PySem.W.Frag) (cv : CV) (E : L2.St → XK) (P : List Nat) (w : WS) : TS := fun D σ H => ∃ F s φ pv, (∀ p ∈ pv, p.1 ∈ P) ∧ PinOk pv σ ∧ Res K F H σ s φ ∧ w (okS K cv E pv F φ D) s
structure DS (X : Cx) (cv : CV) (E : L2.St → XK) (P : List Nat) (st : Stmt) (w : WS) : Prop where
  ps : PS X st (liS X.K cv E P w)
  mono : MonoS w
structure DSs (X : Cx) (cv : CV) (E : L2.St → XK) (P : List Nat) (st : List Stmt) (w : WS) : Prop where
  pss : PSs X st (liS X.K cv E P w)
  mono : MonoS w
theorem PS.imp {X : Cx} {e : Stmt} {t t' : TS} (h : PS X e t) (i : ∀ D σ H, t' D σ H → t D σ H) : PS X e t' := ⟨fun pins s σ H D I q => h.run pins s σ H D I (i _ _ _ q)⟩
theorem PSs.imp {X : Cx} {e : List Stmt} {t t' : TS} (h : PSs X e t) (i : ∀ D σ H, t' D σ H → t D σ H) : PSs X e t' := ⟨fun pins s σ H D I q => h.run pins s σ H D I (i _ _ _ q)⟩
section
variable {K : PySem.W.Frag} {cv : CV} {E : L2.St → XK} {pv : List (Nat × V)} {F F1 : Hp} {φ : SLg} {D D' : Ends} {σ : L2.St}
theorem okS.sm (sm : Same F F1) : (okS K cv E pv F φ D).Le (okS K cv E pv F1 φ D) :=
  ⟨fun s h σ' F' H' p sm' r => h σ' F' H' p (sm.trans sm') r, fun m s h v σ' F' H' p sm' r => h v σ' F' H' p (sm.trans sm') r, fun s h σ' F' H' p sm' r => h σ' F' H' p (sm.trans sm') r,
   fun s h σ' F' H' p sm' r => h σ' F' H' p (sm.trans sm') r, fun x s h c d σ' F' H' p sm' r e => h c d σ' F' H' p (sm.trans sm') r e⟩
theorem okS.er_ok (p : PinOk pv σ) {x : Exc} {s : S} (h : (okS K cv E pv F φ D).er x s) : okX K cv E σ F φ x s := fun c d F' H' sm r e => h c d σ F' H' p sm r e
theorem Le.refl (N : WN) : N.Le N := ⟨fun _ h => h, fun _ _ h => h, fun _ h => h, fun _ h => h, fun _ _ h => h⟩
end

section
variable {X : Cx} {cv : CV} {E : L2.St → XK} {P : List Nat} {st : Stmt} {sts : List Stmt} {e a b c : Expr} {we wa wb : WE} {tc : WT} {w w' : WS} {pos : Pos}
/-! ### blocks -/
def sNx : WS := fun N s => N.nx s
def sSeq (w w' : WS) : WS := fun N s => w { N with nx := w' N } s
theorem sSeq.mono (h : MonoS w) (h' : MonoS w') : MonoS (sSeq w w') := fun N N' s le q => h { N with nx := w' N } { N' with nx := w' N' } s ⟨fun s q => h' _ _ _ le q, le.rt, le.bk, le.ct, le.er⟩ q
theorem dss_nil : DSs X cv E P [] sNx := by
  refine ⟨PSs.imp pss_nil fun D σ H q => ?_, fun N N' s le q => le.nx _ q⟩
  obtain ⟨F, s, φ, pv, ep, po, r, q⟩ := q
  exact q σ F H po (Same.refl F) r
theorem dss_cons (h : DS X cv E P st w) (h' : DSs X cv E P sts w') : DSs X cv E P (st :: sts) (sSeq w w') := by
  refine ⟨PSs.imp (pss_cons h.ps h'.pss) fun D σ H q => ?_, sSeq.mono h.mono h'.mono⟩
  obtain ⟨F, s, φ, pv, ep, po, r, q⟩ := q
  refine ⟨F, s, φ, pv, ep, po, r, h.mono { okS X.K cv E pv F φ D with nx := w' (okS X.K cv E pv F φ D) } _ _ ⟨fun s1 q1 σ1 F1 H1 po1 sm1 r1 => ?_, fun _ _ z => z, fun _ z => z, fun _ z => z, fun _ _ z => z⟩ q⟩
  exact ⟨F1, s1, φ, pv, ep, po1, r1, h'.mono _ _ _ (okS.sm sm1) q1⟩
theorem dss_one (h : DS X cv E P st w) : DSs X cv E P [st] w := by
  refine ⟨PSs.imp (pss_cons h.ps pss_nil) fun D σ H q => ?_, h.mono⟩
  exact q
/-! ### small statements -/
def sExp (we : WE) : WS := fun N s => we s (fun _ s1 => N.nx s1) N.er
def sRet (we : WE) : WS := fun N s => we s N.rt N.er
def sRetN : WS := fun N s => N.rt (.p .non) s
def sBk : WS := fun N s => N.bk s
def sCt : WS := fun N s => N.ct s
theorem ds_expr (he : DE X cv E e we) (hs : swapsWith e none pos.line X.env = pure false := by rfl) : DS X cv E P (.Expr e pos) (sExp we) := by
  refine ⟨PS.imp (ps_expr he.pe hs) fun D σ H q => ?_, fun N N' s le q => he.mono _ _ _ _ _ (fun _ _ => le.nx _) le.er q⟩
  obtain ⟨F, s, φ, pv, ep, po, r, q⟩ := q
  exact liE.mk he.mono r q (fun m s1 q1 v F1 H1 sm1 r1 => q1 σ F1 H1 po sm1 r1.dropL) fun x s1 z => okS.er_ok po z
theorem ds_ret (he : DE X cv E e we) : DS X cv E P (.Return (some e) pos) (sRet we) := by
  refine ⟨PS.imp (ps_ret he.pe) fun D σ H q => ?_, fun N N' s le q => he.mono _ _ _ _ _ le.rt le.er q⟩
  obtain ⟨F, s, φ, pv, ep, po, r, q⟩ := q
  exact liE.mk he.mono r q (fun m s1 q1 v F1 H1 sm1 r1 => q1 v σ F1 H1 po sm1 r1) fun x s1 z => okS.er_ok po z
theorem ds_retN : DS X cv E P (.Return none pos) sRetN := by
  refine ⟨PS.imp ps_retN fun D σ H q => ?_, fun N N' s le q => le.rt _ _ q⟩
  obtain ⟨F, s, φ, pv, ep, po, r, q⟩ := q
  exact q .non σ F H po (Same.refl F) (r.pushP rfl)
theorem ds_pass : DS X cv E P (.Pass pos) sNx := by
  refine ⟨PS.imp ps_pass fun D σ H q => ?_, fun N N' s le q => le.nx _ q⟩
  obtain ⟨F, s, φ, pv, ep, po, r, q⟩ := q
  exact q σ F H po (Same.refl F) r
theorem ds_break : DS X cv E P (.Break pos) sBk := by
  refine ⟨PS.imp ps_break fun D σ H q => ?_, fun N N' s le q => le.bk _ q⟩
  obtain ⟨F, s, φ, pv, ep, po, r, q⟩ := q
  exact q σ F H po (Same.refl F) r
theorem ds_cont : DS X cv E P (.Continue pos) sCt := by
  refine ⟨PS.imp ps_continue fun D σ H q => ?_, fun N N' s le q => le.ct _ q⟩
  obtain ⟨F, s, φ, pv, ep, po, r, q⟩ := q
  exact q σ F H po (Same.refl F) r
/-- a statement that is never come to -/
def sNever : WS := fun _ _ => False
theorem ds_never : DS X cv E P st sNever := ⟨PS.imp ps_never fun D σ H q => by obtain ⟨F, s, φ, pv, ep, po, r, q⟩ := q; exact q.elim, fun _ _ _ _ q => q.elim⟩
theorem dss_never : DSs X cv E P sts sNever := ⟨PSs.imp pss_never fun D σ H q => by obtain ⟨F, s, φ, pv, ep, po, r, q⟩ := q; exact q.elim, fun _ _ _ _ q => q.elim⟩
def sIf (tc : WT) (w w' : WS) : WS := fun N s => tc s (fun b s1 => if b = true then w N s1 else w' N s1) N.er
theorem ds_if {sa sb : List Stmt} (hc : DT X cv E c tc) (ha : DSs X cv E P sa w) (hb : DSs X cv E P sb w') : DS X cv E P (.If c sa sb pos) (sIf tc w w') := by
  refine ⟨PS.imp (ps_if hc.pt ha.pss hb.pss) fun D σ H q => ?_, fun N N' s le q => hc.mono _ _ _ _ _ (fun b s1 q1 => ?_) le.er q⟩
  · obtain ⟨F, s, φ, pv, ep, po, r, q⟩ := q
    refine liT.mk hc.mono r q (fun b s1 q1 F1 H1 sm1 r1 => ?_) fun x s1 z => okS.er_ok po z
    cases b
    · exact ⟨F1, s1, φ, pv, ep, po, r1, hb.mono _ _ _ (okS.sm sm1) q1⟩
    · exact ⟨F1, s1, φ, pv, ep, po, r1, ha.mono _ _ _ (okS.sm sm1) q1⟩
  · cases b
    · exact hb.mono _ _ _ le q1
    · exact ha.mono _ _ _ le q1
/-! ### targets -/
abbrev WG := M → S → (S → Prop) → Prop
def MonoG' (w : WG) : Prop := ∀ (m : M) (s : S) (Q Q' : S → Prop), (∀ s, Q s → Q' s) → w m s Q → w m s Q'
def liG (K : PySem.W.Frag) (P : List Nat) (w : WG) : TG := fun v σ H Q => ∃ F s φ pv m, (∀ p ∈ pv, p.1 ∈ P) ∧ PinOk pv σ ∧ Res K F H σ s (star (rv K σ m v) φ) ∧ w m s fun s' => ∀ σ' F' H', PinOk pv σ' → Same F F' → Res K F' H' σ' s' φ → Q σ' H'
structure DG (X : Cx) (P : List Nat) (t : Expr) (w : WG) : Prop where
  pg : PG X t (liG X.K P w)
  mono : MonoG' w
theorem PG.imp {X : Cx} {e : Expr} {t t' : TG} (h : PG X e t) (i : ∀ v σ H Q, t' v σ H Q → t v σ H Q) : PG X e t' := ⟨fun pins s σ H v u Q I r q => h.run pins s σ H v u Q I r (i _ _ _ _ q)⟩
/-- a value stored in slot i: a look moves what it looks at -/
def gN (i : Nat) : WG := fun m s Q => match m with
  | .at j => match s[j]? with
    | some (some c) => i < s.length ∧ Q ((s.set j none).set i (some c))
    | _ => False
  | m => i < s.length ∧ Q (s.set i (some m))
theorem gN.mono {i : Nat} : MonoG' (gN i) := fun m s Q Q' h q => by
  unfold gN at q ⊢
  split at q
  · split at q
    · exact ⟨q.1, h _ q.2⟩
    · exact q
  · exact ⟨q.1, h _ q.2⟩
theorem PinOk.set {P : List Nat} {pv : List (Nat × V)} {σ : L2.St} {i : Nat} {o : Option V} (p : PinOk pv σ) (ep : ∀ p ∈ pv, p.1 ∈ P) (h : i ∉ P) : PinOk pv (σ.set i o) := fun q hq => by
  have : i ≠ q.1 := fun z => h (z ▸ ep q hq)
  rw [List.getElem?_set_ne this]
  exact p q hq
/-- what the store into a name asks -/
theorem gN.to {K : PySem.W.Frag} {F H : Hp} {σ : L2.St} {s : S} {φ : SLg} {m : M} {v : V} {i : Nat} {Q : S → Prop} (r : Res K F H σ s (star (rv K σ m v) φ)) (q : gN i m s Q) : ∃ s', Q s' ∧ Res K F H (σ.set i (some v)) s' φ := by
  unfold gN at q
  split at q
  · rename_i j
    split at q
    · rename_i c ec
      obtain ⟨hi, q⟩ := q
      obtain ⟨f, hf⟩ := r.get
      rcases hf with ⟨j', e, e1, _⟩ | hf
      · cases e
        obtain ⟨v', e2, r'⟩ := r.dropL.out ec
        rw [e1] at e2
        cases e2
        have na : noAt c = true := by
          obtain ⟨f, hf⟩ := r'.get
          rcases hf with ⟨_, _, _⟩ | hf
          · rename_i z _
            subst z
            obtain ⟨g1, g2, q1, q2, q3⟩ := r.ex
            obtain ⟨_, _, _, _, h1, _⟩ := q1.out ec
            exact h1.elim
          · cases c <;> first | rfl | exact hf.elim
        exact ⟨_, q, r'.store na (by simpa using hi)⟩
      · exact hf.elim
    · exact q.elim
  · rename_i na
    have na : noAt m = true := by
      cases m <;> first | rfl | exact absurd rfl (na _)
    exact ⟨_, q.2, r.store na q.1⟩
theorem dg_name {i : Nat} {x : Str} {p : Pos} (hN : X.N.Nodup) (hi : X.N[i]? = some x) (hx : Loc X.env.scope x) (hP : i ∉ P := by decide) (hf : X.fn x = true ∨ X.env.scope.names.lookup x = some .local := by first | exact .inl rfl | exact .inr rfl | assumption) : DG X P (.Name x p) (gN i) := by
  refine ⟨PG.imp (pg_name hN hi hx hf) fun v σ H Q q => ?_, gN.mono⟩
  obtain ⟨F, s, φ, pv, m, ep, po, r, q⟩ := q
  obtain ⟨s', q, r'⟩ := gN.to r q
  exact q _ F H (po.set ep hP) (Same.refl F) r'
/-- several targets -/
abbrev WGs := List D → S → (S → Prop) → Prop
def gNil : WGs := fun ds s Q => match ds with
  | [] => Q s
  | _ => False
def gCons (w : WG) (ws : WGs) : WGs := fun ds s Q => match ds with
  | d :: r => w (.p d) s fun s' => ws r s' Q
  | _ => False
def gTup (n : Nat) (ws : WGs) : WG := fun m s Q => match m with
  | .p (.tup ds) => ds.length = n ∧ ws ds s Q
  | _ => False
def MonoGs (w : WGs) : Prop := ∀ (m : List D) (s : S) (Q Q' : S → Prop), (∀ s, Q s → Q' s) → w m s Q → w m s Q'
def liGs (K : PySem.W.Frag) (P : List Nat) (w : WGs) : TGs := fun vs σ H Q => ∃ F s φ pv ds, (∀ p ∈ pv, p.1 ∈ P) ∧ PinOk pv σ ∧ RDs K F ds vs ∧ Res K F H σ s φ ∧ w ds s fun s' => ∀ σ' F' H', PinOk pv σ' → Same F F' → Res K F' H' σ' s' φ → Q σ' H'
structure DGs (X : Cx) (P : List Nat) (t : List Expr) (w : WGs) : Prop where
  pgs : PGs X t (liGs X.K P w)
  mono : MonoGs w
theorem PGs.imp {X : Cx} {e : List Expr} {t t' : TGs} (h : PGs X e t) (i : ∀ v σ H Q, t' v σ H Q → t v σ H Q) : PGs X e t' := ⟨fun pins s σ H v u Q I r q => h.run pins s σ H v u Q I r (i _ _ _ _ q)⟩
theorem dgs_nil : DGs X P [] gNil := by
  refine ⟨PGs.imp pgs_nil fun v σ H Q q => ?_, fun m s Q Q' h q => ?_⟩
  · obtain ⟨F, s, φ, pv, ds, ep, po, rd, r, q⟩ := q
    unfold gNil at q
    split at q
    · exact ⟨rd, q σ F H po (Same.refl F) r⟩
    · exact q.elim
  · unfold gNil at q ⊢
    split at q
    · exact h _ q
    · exact q
theorem dgs_cons {t : Expr} {ts : List Expr} {wg : WG} {wgs : WGs} (h1 : DG X P t wg) (h2 : DGs X P ts wgs) (hs : (assignEach (t :: ts) X.env).map (·.2) = assign t X.env :: (assignEach ts X.env).map (·.2) := by rfl) : DGs X P (t :: ts) (gCons wg wgs) := by
  refine ⟨PGs.imp (pgs_cons h1.pg h2.pgs hs) fun v σ H Q q => ?_, fun m s Q Q' h q => ?_⟩
  · obtain ⟨F, s, φ, pv, ds, ep, po, rd, r, q⟩ := q
    unfold gCons at q
    split at q
    · rename_i d dr
      obtain ⟨x, xr, rfl, rd1, rd2⟩ := rd
      refine ⟨x, xr, rfl, F, s, φ, pv, .p d, ep, po, r.pushP rd1, h1.mono _ _ _ _ (fun s1 q1 σ1 F1 H1 po1 sm1 r1 => ?_) q⟩
      exact ⟨F1, s1, φ, pv, dr, ep, po1, rd2.mono sm1, r1, h2.mono _ _ _ _ (fun s2 q2 σ2 F2 H2 po2 sm2 r2 => q2 σ2 F2 H2 po2 (sm1.trans sm2) r2) q1⟩
    · exact q.elim
  · unfold gCons at q ⊢
    split at q
    · exact h1.mono _ _ _ _ (fun s1 q1 => h2.mono _ _ _ _ h q1) q
    · exact q
theorem dg_tup {ts : List Expr} {k : Nat} {wgs : WGs} {n : Nat} {p : Pos} (hc : X.calm = true) (h : DGs X P ts wgs) (hn : (assignEach ts X.env).length = n := by rfl) (hst : (assignEach ts X.env).findIdx? (·.1) = none := by rfl) : DG X P (.Tuple ts k p) (gTup n wgs) := by
  refine ⟨PG.imp (pg_tup hc h.pgs hn hst) fun v σ H Q q => ?_, fun m s Q Q' h' q => ?_⟩
  · obtain ⟨F, s, φ, pv, m, ep, po, r, q⟩ := q
    unfold gTup at q
    split at q
    · rename_i ds
      obtain ⟨a, xs, rfl, ha, hx⟩ := r.getP
      exact ⟨a, xs, rfl, SqT.of (r.ff _ _ ha), by rw [hx.length]; exact q.1, F, s, φ, pv, ds, ep, po, hx, r.dropL, q.2⟩
    · exact q.elim
  · unfold gTup at q ⊢
    split at q
    · exact ⟨q.1, h.mono _ _ _ _ h' q.2⟩
    · exact q
/-! ### assignments -/
def sAsg (we : WE) (wg : WG) : WS := fun N s => we s (fun m s1 => wg m s1 N.nx) N.er
theorem sAsg.mono {wg : WG} (he : MonoE we) (hg : MonoG' wg) : MonoS (sAsg we wg) := fun N N' s le q => he _ _ _ _ _ (fun m s1 q1 => hg _ _ _ _ le.nx q1) le.er q
theorem sAsg.to {K : PySem.W.Frag} {wg : WG} (he : MonoE we) (hg : MonoG' wg) {D : Ends} {σ : L2.St} {H : Hp} (q : liS K cv E P (sAsg we wg) D σ H) : tAsg (liE K cv E we) (liG K P wg) D σ H := by
  obtain ⟨F, s, φ, pv, ep, po, r, q⟩ := q
  refine liE.mk he r q (fun m s1 q1 v F1 H1 sm1 r1 => ?_) fun x s1 z => okS.er_ok po z
  exact ⟨F1, s1, φ, pv, m, ep, po, r1, hg _ _ _ _ (fun s2 q2 σ2 F2 H2 po2 sm2 r2 => q2 σ2 F2 H2 po2 (sm1.trans sm2) r2) q1⟩
theorem ds_asg {tg : Expr} {wg : WG} (he : DE X cv E e we) (hg : DG X P tg wg) (hs : swapsWithSole [tg] e pos.line X.env = pure false := by rfl) (hw : swappedStores [tg] e X.env = pure none := by rfl)
    (h1 : (assignEach [tg] X.env).map (·.2) = [assign tg X.env] := by rfl) : DS X cv E P (.Assign [tg] e pos) (sAsg we wg) :=
  ⟨PS.imp (ps_asg he.pe hg.pg hs hw h1) fun D σ H q => sAsg.to he.mono hg.mono q, sAsg.mono he.mono hg.mono⟩
theorem ds_set {i : Nat} {x : Str} {p : Pos} (hN : X.N.Nodup) (hi : X.N[i]? = some x) (hx : Loc X.env.scope x) (he : DE X cv E e we) (hP : i ∉ P := by decide) (hs : swapsWith e (some (.Name x p)) pos.line X.env = pure false := by rfl) (hf : X.fn x = true ∨ X.env.scope.names.lookup x = some .local := by first | exact .inl rfl | exact .inr rfl | assumption) :
    DS X cv E P (.Assign [.Name x p] e pos) (sAsg we (gN i)) := by
  refine ⟨PS.imp (ps_set hN hi hx he.pe hs hf) fun D σ H q => ?_, sAsg.mono he.mono gN.mono⟩
  have q := sAsg.to he.mono gN.mono q
  obtain ⟨F, s, φ, r, q⟩ := q
  refine ⟨F, s, φ, r, he.mono _ _ _ _ _ (fun m s1 q1 v F1 H1 sm1 r1 => ?_) (fun _ _ z => z) q⟩
  obtain ⟨F2, s2, φ2, pv, m2, ep, po, r2, q2⟩ := q1 v F1 H1 sm1 r1
  obtain ⟨s', q3, r'⟩ := gN.to r2 q2
  exact q3 _ F2 H1 (po.set ep hP) (Same.refl F2) r'
/-! ### while -/
def sWhile (tc : WT) (w : WS) : WS := fun N s => ∃ W : Nat → S → Prop, (∃ m, W m s) ∧ ∀ m s, W m s → tc s (fun b s1 => if b = true then w { N with nx := fun s' => ∃ m', m' < m ∧ W m' s', ct := fun s' => ∃ m', m' < m ∧ W m' s', bk := N.nx } s1 else N.nx s1) N.er
theorem sWhile.mono (hc : MonoT tc) (hw : MonoS w) : MonoS (sWhile tc w) := fun N N' s le ⟨W, h0, h⟩ => ⟨W, h0, fun m s q => hc _ _ _ _ _ (fun b s1 q1 => by
  cases b
  · exact le.nx _ q1
  · exact hw { N with nx := fun s' => ∃ m', m' < m ∧ W m' s', ct := fun s' => ∃ m', m' < m ∧ W m' s', bk := N.nx } { N' with nx := fun s' => ∃ m', m' < m ∧ W m' s', ct := fun s' => ∃ m', m' < m ∧ W m' s', bk := N'.nx } _ ⟨fun _ z => z, le.rt, fun _ z => le.nx _ z, fun _ z => z, le.er⟩ q1) le.er (h m s q)⟩
theorem ds_while {body : List Stmt} (hp : PassesOwn (model X.prog X.w) X.A X.env X.xe) (hc : DT X cv E c tc) (hb : DSs X cv E P body w) : DS X cv E P (.While c body [] pos) (sWhile tc w) := by
  refine ⟨PS.imp (ps_while hp hc.pt hb.pss) fun D σ H q => ?_, sWhile.mono hc.mono hb.mono⟩
  obtain ⟨F, s, φ, pv, ep, po, r, W, ⟨m0, w0⟩, turn⟩ := q
  refine ⟨fun m σ H => ∃ F' s', PinOk pv σ ∧ Same F F' ∧ Res X.K F' H σ s' φ ∧ W m s', ⟨m0, F, s, po, Same.refl F, r, w0⟩, fun m σ1 H1 ⟨F1, s1, po1, sm1, r1, w1⟩ => ?_⟩
  refine liT.mk hc.mono r1 (turn m s1 w1) (fun b s2 q2 F2 H2 sm2 r2 => ?_) fun x s2 z => (okS.er_ok po1 z).sm sm1
  have sm := sm1.trans sm2
  cases b
  · exact q2 σ1 F2 H2 po1 sm r2
  · refine ⟨fun σ' H' => ∃ m', m' < m ∧ ∃ F' s', PinOk pv σ' ∧ Same F F' ∧ Res X.K F' H' σ' s' φ ∧ W m' s', fun σ' H' q => q, ?_⟩
    refine ⟨F2, s2, φ, pv, ep, po1, r2, hb.mono _ _ _ ⟨?_, ?_, ?_, ?_, ?_⟩ q2⟩
    · intro s3 ⟨m', hm, w3⟩ σ3 F3 H3 po3 sm3 r3
      exact ⟨m', hm, F3, s3, po3, sm.trans sm3, r3, w3⟩
    · intro v s3 z v' σ' F' H' p sm' r'
      exact z v' σ' F' H' p (sm.trans sm') r'
    · intro s3 z σ' F' H' p sm' r'
      exact z σ' F' H' p (sm.trans sm') r'
    · intro s3 ⟨m', hm, w3⟩ σ3 F3 H3 po3 sm3 r3
      exact ⟨m', hm, F3, s3, po3, sm.trans sm3, r3, w3⟩
    · intro x s3 z c d σ' F' H' p sm' r' ex
      exact z c d σ' F' H' p (sm.trans sm') r' ex
end
end Sd
/-! Sd10: loops over sequences. -/
namespace Sd
open PySem PySem.Spec PyProof.Rows L2
variable [Tb]

/-- what a walk yields at a turn: none: it can't be told; some none: it stops -/
abbrev GI := S → Nat → Option (Option M)
abbrev WI := S → (GI → S → Prop) → WR → Prop
def MonoI (w : WI) : Prop := ∀ (s : S) (Q Q' : GI → S → Prop) (R R' : WR), (∀ g s, Q g s → Q' g s) → (∀ x s, R x s → R' x s) → w s Q R → w s Q' R'
def Weaker (φ' φ : SLg) : Prop := ∀ F H f, φ'.holds F H f → ∃ g, φ.holds F H g ∧ ∀ b, g b ≤ f b
theorem Weaker.refl (φ : SLg) : Weaker φ φ := fun _ _ f h => ⟨f, h, fun _ => Nat.le_refl _⟩
theorem Weaker.star (ψ φ : SLg) : Weaker (star ψ φ) φ := fun _ _ _ ⟨_, f2, _, h2, h3⟩ => ⟨f2, h2, fun b => by rw [h3 b]; omega⟩
theorem Weaker.res {φ' φ : SLg} (w : Weaker φ' φ) {K : PySem.W.Frag} {F H : Hp} {σ : L2.St} {s : S} (r : Res K F H σ s φ') : Res K F H σ s φ := r.imp fun f h => w _ _ f h
/-- an iterator yields what the data tell -/
structure ItD (K : PySem.W.Frag) (J : It) (g : GI) (F0 : Hp) (φ : SLg) (ok : Nat → Bool) (σ0 : L2.St) : Prop where
  item : ∀ (F H : Hp) (σ : L2.St) (s : S) (i : Nat) (m : M) (ψ : SLg), Same F0 F → (∀ j v, ok j = true → σ0[j]? = some (some v) → σ[j]? = some (some v)) → Weaker ψ φ → Res K F H σ s ψ → g s i = some (some m) →
    J.go i H ∧ ∀ x H', J.yld i H x H' → ∃ F', Same F F' ∧ Res K F' H' σ s (star (rv K σ m x) ψ)
  stop : ∀ (F H : Hp) (σ : L2.St) (s : S) (i : Nat), Same F0 F → (∀ j v, ok j = true → σ0[j]? = some (some v) → σ[j]? = some (some v)) → Res K F H σ s φ → g s i = some none → J.stop i H
def liI (K : PySem.W.Frag) (cv : CV) (E : L2.St → XK) (ok : Nat → Bool) (w : WI) : TI := fun σ H R => ∃ F s φ, Res K F H σ s φ ∧
  w s (fun g s1 => ∀ J F' H' φ', Same F F' → Weaker φ' φ → Res K F' H' σ s1 φ' → ItD K J g F' φ' ok σ → R J H') (okX K cv E σ F φ)
structure DI (X : Cx) (cv : CV) (E : L2.St → XK) (ok : Nat → Bool) (tg iter : Expr) (w : WI) : Prop where
  pi : PI X tg iter (liI X.K cv E ok w)
  mono : MonoI w
theorem PI.imp {X : Cx} {tg e : Expr} {t t' : TI} (h : PI X tg e t) (i : ∀ σ H R, t' σ H R → t σ H R) : PI X tg e t' := ⟨fun pins s σ H R I q => h.run pins s σ H R I (i _ _ _ q)⟩

/-! ### for -/
def turnW (wg : WG) (w : WS) (N : WN) (W : Nat → Nat → S → Prop) (i m : Nat) (s : S) : Option (Option M) → Prop
  | some none => N.nx s
  | some (some x) => wg x s fun s2 => w { N with nx := fun s' => ∃ m', m' < m ∧ W (i + 1) m' s', ct := fun s' => ∃ m', m' < m ∧ W (i + 1) m' s', bk := N.nx } s2
  | none => False
def sFor (wi : WI) (wg : WG) (w : WS) : WS := fun N s => wi s (fun g s1 => ∃ W : Nat → Nat → S → Prop, (∃ m, W 0 m s1) ∧ ∀ i m s, W i m s → turnW wg w N W i m s (g s i)) N.er
section
variable {X : Cx} {cv : CV} {E : L2.St → XK} {P : List Nat} {wi : WI} {wg : WG} {w : WS} {tg iter : Expr} {body : List Stmt} {pos : Pos}
theorem turnW.mono {N N' : WN} (hg : MonoG' wg) (hw : MonoS w) (le : N.Le N') {W : Nat → Nat → S → Prop} {i m : Nat} {s : S} {o : Option (Option M)} (q : turnW wg w N W i m s o) : turnW wg w N' W i m s o := by
  cases o with
  | none => exact q
  | some o =>
    cases o with
    | none => exact le.nx _ q
    | some x => exact hg _ _ _ _ (fun s2 q2 => hw { N with nx := fun s' => ∃ m', m' < m ∧ W (i + 1) m' s', ct := fun s' => ∃ m', m' < m ∧ W (i + 1) m' s', bk := N.nx } { N' with nx := fun s' => ∃ m', m' < m ∧ W (i + 1) m' s', ct := fun s' => ∃ m', m' < m ∧ W (i + 1) m' s', bk := N'.nx } _ ⟨fun _ z => z, le.rt, fun _ z => le.nx _ z, fun _ z => z, le.er⟩ q2) q
theorem sFor.mono (hi : MonoI wi) (hg : MonoG' wg) (hw : MonoS w) : MonoS (sFor wi wg w) := fun N N' s le q => hi _ _ _ _ _ (fun g s1 ⟨W, h0, h⟩ => ⟨W, h0, fun i m s q => turnW.mono hg hw le (h i m s q)⟩) le.er q
/-- the slots of Q are not assigned in the body: a look at them may be walked -/
theorem ds_for (Q : List Nat) (hp : PassesOwn (model X.prog X.w) X.A X.env X.xe) (hc : X.calm = true) (hi : DI X cv E (fun j => decide (j ∈ Q)) tg iter wi) (hg : DG X (Q ++ P) tg wg) (hb : DSs X cv E (Q ++ P) body w)
    (hs : ∀ x, foldedSetIterable iter X.env x = pure x := by intro _; rfl) : DS X cv E P (.For tg iter body [] pos) (sFor wi wg w) := by
  refine ⟨PS.imp (ps_for hp hc hi.pi hg.pg hb.pss hs) fun D σ H q => ?_, sFor.mono hi.mono hg.mono hb.mono⟩
  obtain ⟨F, s, φ, pv, ep, po, r, q⟩ := q
  refine ⟨F, s, φ, r, hi.mono _ _ _ _ _ (fun g s1 q1 J F1 H1 φ' sm1 wk r1 it => ?_) (fun x s1 z => okS.er_ok po z) q⟩
  obtain ⟨W, ⟨m0, w0⟩, turn⟩ := q1
  generalize hpq : (Q.filterMap fun j => match σ[j]? with | some (some v) => some (j, v) | _ => none) = pq
  have epq : ∀ p ∈ pq, p.1 ∈ Q ∧ σ[p.1]? = some (some p.2) := fun p hp => by
    rw [← hpq] at hp
    obtain ⟨j, hj, e⟩ := List.mem_filterMap.mp hp
    split at e
    · rename_i v ev
      cases e
      exact ⟨hj, ev⟩
    · cases e
  have inq : ∀ j v, j ∈ Q → σ[j]? = some (some v) → (j, v) ∈ pq := fun j v hj e => by
    rw [← hpq]
    exact List.mem_filterMap.mpr ⟨j, hj, by rw [e]⟩
  have ep' : ∀ p ∈ pq ++ pv, p.1 ∈ Q ++ P := fun p hp => (List.mem_append.mp hp).elim (fun z => List.mem_append_left _ (epq p z).1) (fun z => List.mem_append_right _ (ep p z))
  have split : ∀ {σ' : L2.St}, PinOk (pq ++ pv) σ' → PinOk pv σ' := fun p q hq => p q (List.mem_append_right _ hq)
  have okσ : ∀ {σ' : L2.St}, PinOk (pq ++ pv) σ' → ∀ j v, decide (j ∈ Q) = true → σ[j]? = some (some v) → σ'[j]? = some (some v) := fun {σ'} p j v hj e => p (j, v) (List.mem_append_left _ (inq j v (of_decide_eq_true hj) e))
  refine ⟨fun i m σ' H' => ∃ F' s', PinOk (pq ++ pv) σ' ∧ Same F1 F' ∧ Res X.K F' H' σ' s' φ' ∧ W i m s', ⟨m0, F1, s1, ?_, Same.refl F1, r1, w0⟩, ?_⟩
  · intro p hp
    rcases List.mem_append.mp hp with z | z
    · exact (epq p z).2
    · exact po p z
  · rintro i m σ2 H2 ⟨F2, s2, po2, sm2, r2, w2⟩
    have t := turn i m s2 w2
    cases eg : g s2 i with
    | none => rw [eg] at t; exact t.elim
    | some o =>
      rw [eg] at t
      cases o with
      | none =>
        exact .inl ⟨it.stop F2 H2 σ2 s2 i sm2 (okσ po2) r2 eg, t σ2 F2 H2 (split po2) (sm1.trans sm2) (wk.res r2)⟩
      | some x =>
        obtain ⟨go, yl⟩ := it.item F2 H2 σ2 s2 i x φ' sm2 (okσ po2) (Weaker.refl φ') r2 eg
        refine .inr ⟨go, fun σ' H' => ∃ m', m' < m ∧ ∃ F' s', PinOk (pq ++ pv) σ' ∧ Same F1 F' ∧ Res X.K F' H' σ' s' φ' ∧ W (i + 1) m' s', fun σ' H' z => z, fun vx H3 hy => ?_⟩
        obtain ⟨F3, sm3, r3⟩ := yl vx H3 hy
        refine ⟨F3, s2, φ', pq ++ pv, x, ep', po2, r3, hg.mono _ _ _ _ (fun s4 q4 σ4 F4 H4 po4 sm4 r4 => ?_) t⟩
        have sm := sm1.trans (sm2.trans (sm3.trans sm4))
        have sm' := sm2.trans (sm3.trans sm4)
        refine ⟨F4, s4, φ', pq ++ pv, ep', po4, r4, hb.mono _ _ _ ⟨?_, ?_, ?_, ?_, ?_⟩ q4⟩
        · intro s5 ⟨m', hm, w5⟩ σ5 F5 H5 po5 sm5 r5
          exact ⟨m', hm, F5, s5, po5, sm'.trans sm5, r5, w5⟩
        · intro v s5 z v' σ' F' H' p sm5 r'
          refine z v' σ' F' H' (split p) (sm.trans sm5) ?_
          exact r'.imp fun f ⟨f1, f2, h1, h2, h3⟩ => by
            obtain ⟨g', k1, k2⟩ := wk _ _ f2 h2
            exact ⟨fun b => f1 b + g' b, ⟨f1, g', h1, k1, fun _ => rfl⟩, fun b => by have a1 := k2 b; have a2 := h3 b; dsimp only; omega⟩
        · intro s5 z σ' F' H' p sm5 r'
          exact z σ' F' H' (split p) (sm.trans sm5) (wk.res r')
        · intro s5 ⟨m', hm, w5⟩ σ5 F5 H5 po5 sm5 r5
          exact ⟨m', hm, F5, s5, po5, sm'.trans sm5, r5, w5⟩
        · intro x s5 z c d σ' F' H' p sm5 r' ex
          exact z c d σ' F' H' (split p) (sm.trans sm5) (wk.res r') ex
end

/-! ### sequences -/
def iSq (K : PySem.W.Frag) (te : TE) : TI := fun σ H R => te σ H fun x H1 => (∃ a, x = .ref a ∧ (∃ xs, SqL K H1 a xs) ∧ R (Itl K a) H1) ∨ (∃ a, x = .ref a ∧ (∃ xs, SqT K H1 a xs) ∧ R (Itt K a) H1) ∨ (∃ z, x = .str z ∧ R (Its z) H1)
theorem pi_sq {X : Cx} {tg l : Expr} {tl : TE} (hl : PE X l tl) : PI X tg l (iSq X.K tl) := by
  refine ⟨fun pins s σ H R I h => ?_⟩
  refine thn (hl.run pins s σ H _ I h) fun v s1 ⟨x, H1, I1, r1, q1⟩ => ?_
  rcases q1 with ⟨a, e, ⟨xs, hq⟩, q⟩ | ⟨a, e, ⟨xs, hq⟩, q⟩ | ⟨z, e, q⟩
  · subst e
    cases r1
    obtain ⟨its, rv, p, hz⟩ := I1.list hq
    refine wpAny_pyIter_list p.isList ?_
    refine ⟨s1.heap.objs.size, [s1.heap.objs.size], _, _, H1, rfl, I1.kept (t' := s1.toks) fun b o e => Heap.get?_push_of_some _ e, turn_list a _, ⟨_, Heap.get?_push_size _ rfl, rfl, rfl⟩, fun b hb => ?_, q⟩
    have e : b = s1.heap.objs.size := by simpa using hb
    subst e
    exact I1.fpOk (Nat.le_refl _) (I1.hok.fresh (Nat.le_refl _))
  · subst e
    cases r1
    obtain ⟨its, rv, p, hz⟩ := I1.tuple hq
    refine wpAny_pyIter_tuple (show s1.heap.IsTuple a its.toArray from p) ?_
    refine ⟨s1.heap.objs.size, [s1.heap.objs.size], _, _, H1, rfl, I1.kept (t' := s1.toks) fun b o e => Heap.get?_push_of_some _ e, turn_tuple a _, ⟨_, Heap.get?_push_size _ rfl, rfl, rfl⟩, fun b hb => ?_, q⟩
    have e : b = s1.heap.objs.size := by simpa using hb
    subst e
    exact I1.fpOk (Nat.le_refl _) (I1.hok.fresh (Nat.le_refl _))
  · subst e
    obtain ⟨t, rfl⟩ := r1
    cases ha : z.cps.all (· < 128)
    · exact wpAny_pyIter_wide ha (pi_one (tk := s1.toks) I1 _ (turn_str _ z t "str_iterator" (.inr rfl)) ⟨_, Heap.get?_push_size _ rfl, rfl, rfl⟩ q)
    · exact wpAny_pyIter_ascii ha (pi_one (tk := s1.toks) I1 _ (turn_str _ z t "str_ascii_iterator" (.inl rfl)) ⟨_, Heap.get?_push_size _ rfl, rfl, rfl⟩ q)
/-- fixed items -/
def gFix (l : List D) : GI := fun _ i => some ((l[i]?).map M.p)
/-- the list in slot j, as it stands at each turn -/
def gSlot (j : Nat) : GI := fun s i => match s[j]? with
  | some (some (.ml l)) => some ((l[i]?).map M.p)
  | _ => none
def signsD (z : Str) : List D := z.cps.toList.map fun c => .str ⟨#[c]⟩
def iSeq (ok : Nat → Bool) (we : WE) : WI := fun s Q R => we s (fun m s1 => match m with
  | .at j => ok j = true ∧ (∃ l, s1[j]? = some (some (.ml l))) ∧ Q (gSlot j) s1
  | .p (.tup l) => Q (gFix l) s1
  | .p (.lst l) => Q (gFix l) s1
  | .ml l => Q (gFix l) s1
  | .p (.str z) => Q (gFix (signsD z)) s1
  | _ => False) R
section
variable {K : PySem.W.Frag} {F0 H0 : Hp} {φ : SLg} {ok : Nat → Bool} {σ0 : L2.St} {a : Addr} {xs : List V} {l : List D}
theorem opt_map {α β : Type} {o : Option α} {f : α → β} {y : β} (h : some (o.map f) = some (some y)) : ∃ x, o = some x ∧ f x = y := by
  cases o with
  | none => simp at h
  | some x => exact ⟨x, rfl, by simpa using h⟩
theorem opt_none {α β : Type} {o : Option α} {f : α → β} (h : some (o.map f) = some none) : o = none := by
  cases o with
  | none => rfl
  | some x => simp at h
/-- a list that is read through φ -/
theorem itd_list (hr : ∀ F H σ s, Same F0 F → Res K F H σ s φ → ∃ xs, SqL K H a xs ∧ RDs K F l xs ∧ ∀ ys, SqL K H a ys → ys = xs) : ItD K (Itl K a) (gFix l) F0 φ ok σ0 := by
  refine ⟨fun F H σ s i m ψ sm _ wk r e => ?_, fun F H σ s i sm _ r e => ?_⟩
  · obtain ⟨d, e1, rfl⟩ := opt_map e
    obtain ⟨xs, h1, h2, h3⟩ := hr F H σ s sm (wk.res r)
    obtain ⟨x, q1, q2⟩ := h2.get e1
    refine ⟨⟨xs, x, h1, q1⟩, fun v H' ⟨e2, hy⟩ => ⟨F, Same.refl F, ?_⟩⟩
    subst e2
    have := hy xs h1
    rw [q1] at this
    cases this
    exact r.pushP q2
  · have e1 := opt_none e
    obtain ⟨xs, h1, h2, h3⟩ := hr F H σ s sm r
    exact ⟨xs, h1, by rw [h2.length]; exact List.getElem?_eq_none_iff.mp e1⟩
theorem itd_tup (hr : ∀ F H σ s, Same F0 F → Res K F H σ s φ → ∃ xs, SqT K H a xs ∧ RDs K F l xs) : ItD K (Itt K a) (gFix l) F0 φ ok σ0 := by
  refine ⟨fun F H σ s i m ψ sm _ wk r e => ?_, fun F H σ s i sm _ r e => ?_⟩
  · obtain ⟨d, e1, rfl⟩ := opt_map e
    obtain ⟨xs, h1, h2⟩ := hr F H σ s sm (wk.res r)
    obtain ⟨x, q1, q2⟩ := h2.get e1
    refine ⟨⟨xs, x, h1, q1⟩, fun v H' ⟨e2, hy⟩ => ⟨F, Same.refl F, ?_⟩⟩
    subst e2
    have := hy xs h1
    rw [q1] at this
    cases this
    exact r.pushP q2
  · have e1 := opt_none e
    obtain ⟨xs, h1, h2⟩ := hr F H σ s sm r
    exact ⟨xs, h1, by rw [h2.length]; exact List.getElem?_eq_none_iff.mp e1⟩
end
section
variable {X : Cx} {cv : CV} {E : L2.St → XK} {ok : Nat → Bool} {tg a : Expr} {wa : WE}
theorem iSeq.mono (h : MonoE wa) : MonoI (iSeq ok wa) := fun s Q Q' R R' hp hR q => h s _ _ _ _ (fun m s1 q1 => by
  split at q1
  · exact ⟨q1.1, q1.2.1, hp _ _ q1.2.2⟩
  · exact hp _ _ q1
  · exact hp _ _ q1
  · exact hp _ _ q1
  · exact hp _ _ q1
  · exact q1) hR q
theorem di_seq (ha : DE X cv E a wa) : DI X cv E ok tg a (iSeq ok wa) := by
  refine ⟨PI.imp (pi_sq ha.pe) fun σ H R q => ?_, iSeq.mono ha.mono⟩
  obtain ⟨F, s, φ, r, q⟩ := q
  refine liE.mk ha.mono r q (fun m s1 q1 v F1 H1 sm1 r1 => ?_) fun _ _ z => z
  split at q1
  · rename_i j
    obtain ⟨hok, ⟨l, el⟩, q1⟩ := q1
    obtain ⟨f, hf⟩ := r1.get
    rcases hf with ⟨j', ej, e1, _⟩ | hf
    · cases ej
      have look : ∀ F H σ' s', Res X.K F H σ' s' φ → (∀ j v, ok j = true → σ[j]? = some (some v) → σ'[j]? = some (some v)) → ∀ l, s'[j]? = some (some (.ml l)) → ∃ a xs, v = .ref a ∧ SqL X.K H a xs ∧ RDs X.K F l xs := fun F H σ' s' r' hσ l e => by
        obtain ⟨v', e2, r2⟩ := r'.out e
        rw [hσ j v hok e1] at e2
        cases e2
        exact r2.seqL (l := l) rfl
      obtain ⟨b, xs, rfl, h1, h2⟩ := look F1 H1 σ s1 r1.dropL (fun _ _ _ z => z) l el
      refine .inl ⟨b, rfl, ⟨xs, h1⟩, q1 (Itl X.K b) F1 H1 φ sm1 (Weaker.refl φ) r1.dropL ⟨fun F2 H2 σ2 s2 i m ψ sm hσ wk r2 e => ?_, fun F2 H2 σ2 s2 i sm hσ r2 e => ?_⟩⟩
      · unfold gSlot at e
        split at e
        · rename_i l2 el2
          obtain ⟨b', ys, eb, k1, k2⟩ := look F2 H2 σ2 s2 (wk.res r2) hσ l2 el2
          cases eb
          obtain ⟨d, e3, rfl⟩ := opt_map e
          obtain ⟨x, p1, p2⟩ := k2.get e3
          refine ⟨⟨ys, x, k1, p1⟩, fun v H' ⟨e4, hy⟩ => ⟨F2, Same.refl F2, ?_⟩⟩
          subst e4
          have := hy ys k1
          rw [p1] at this
          cases this
          exact r2.pushP p2
        · cases e
      · unfold gSlot at e
        split at e
        · rename_i l2 el2
          obtain ⟨b', ys, eb, k1, k2⟩ := look F2 H2 σ2 s2 r2 hσ l2 el2
          cases eb
          have e3 := opt_none e
          exact ⟨ys, k1, by rw [k2.length]; exact List.getElem?_eq_none_iff.mp e3⟩
        · cases e
    · exact hf.elim
  · rename_i l
    obtain ⟨b, xs, rfl, h1, h2⟩ := r1.getP
    refine .inr (.inl ⟨b, rfl, ⟨xs, SqT.of (r1.ff _ _ h1)⟩, q1 (Itt X.K b) F1 H1 φ sm1 (Weaker.refl φ) r1.dropL (itd_tup fun F2 H2 σ2 s2 sm r2 => ⟨xs, SqT.of (r2.ff _ _ (sm _ _ h1)), h2.mono sm⟩)⟩)
  · rename_i l
    obtain ⟨b, xs, rfl, h1, h2⟩ := r1.getP
    refine .inl ⟨b, rfl, ⟨xs, r1.ff.seq h1⟩, q1 (Itl X.K b) F1 H1 φ sm1 (Weaker.refl φ) r1.dropL ⟨fun F2 H2 σ2 s2 i m ψ sm _ wk r2 e => ?_, fun F2 H2 σ2 s2 i sm _ r2 e => ?_⟩⟩
    · obtain ⟨d, e3, rfl⟩ := opt_map e
      obtain ⟨x, p1, p2⟩ := h2.get e3
      refine ⟨⟨xs, x, r2.ff.seq (sm.seq h1), p1⟩, fun v H' ⟨e4, hy⟩ => ⟨F2, Same.refl F2, ?_⟩⟩
      subst e4
      have := hy xs (r2.ff.seq (sm.seq h1))
      rw [p1] at this
      cases this
      exact r2.pushP (p2.mono sm)
    · have e3 := opt_none e
      exact ⟨xs, r2.ff.seq (sm.seq h1), by rw [h2.length]; exact List.getElem?_eq_none_iff.mp e3⟩
  · rename_i l
    obtain ⟨b, xs, rfl, h1, h2⟩ := r1.seqL (l := l) rfl
    have look : ∀ F H σ' s', Res X.K F H σ' s' (star (rv X.K σ (.ml l) (.ref b)) φ) → ∃ xs, SqL X.K H b xs ∧ RDs X.K F l xs := fun F H σ' s' r' => by
      obtain ⟨f, hf⟩ := r'.get
      rcases hf with ⟨_, e, _⟩ | ⟨b', ys, e, k1, _, k2, _⟩
      · cases e
      · cases e
        exact ⟨ys, SqL.of k1, k2⟩
    refine .inl ⟨b, rfl, ⟨xs, h1⟩, q1 (Itl X.K b) F1 H1 _ sm1 (Weaker.star _ φ) r1 ⟨fun F2 H2 σ2 s2 i m ψ sm _ wk r2 e => ?_, fun F2 H2 σ2 s2 i sm _ r2 e => ?_⟩⟩
    · obtain ⟨ys, k1, k2⟩ := look F2 H2 σ2 s2 (wk.res r2)
      obtain ⟨d, e3, rfl⟩ := opt_map e
      obtain ⟨x, p1, p2⟩ := k2.get e3
      refine ⟨⟨ys, x, k1, p1⟩, fun v H' ⟨e4, hy⟩ => ⟨F2, Same.refl F2, ?_⟩⟩
      subst e4
      have := hy ys k1
      rw [p1] at this
      cases this
      exact r2.pushP p2
    · obtain ⟨ys, k1, k2⟩ := look F2 H2 σ2 s2 r2
      have e3 := opt_none e
      exact ⟨ys, k1, by rw [k2.length]; exact List.getElem?_eq_none_iff.mp e3⟩
  · rename_i z
    refine .inr (.inr ⟨z, r1.getP, q1 (Its z) F1 H1 φ sm1 (Weaker.refl φ) r1.dropL ⟨fun F2 H2 σ2 s2 i m ψ sm _ wk r2 e => ?_, fun F2 H2 σ2 s2 i sm _ r2 e => ?_⟩⟩)
    · obtain ⟨d, e3, rfl⟩ := opt_map e
      unfold signsD at e3
      rw [List.getElem?_map, Option.map_eq_some_iff] at e3
      obtain ⟨c, e4, rfl⟩ := e3
      have hi : i < z.cps.size := by have := (List.getElem?_eq_some_iff.mp e4).1; simpa using this
      refine ⟨hi, fun v H' ⟨e5, c', hc, e6⟩ => ⟨F2, Same.refl F2, ?_⟩⟩
      subst e5 e6
      rw [← Array.getElem?_toList, e4] at hc
      cases hc
      exact r2.pushP rfl
    · have e3 := opt_none e
      have := List.getElem?_eq_none_iff.mp e3
      show z.cps.size ≤ i
      simpa [signsD] using this
  · exact q1.elim
end
/-! ### ranges -/
def gRng (lo c : Int) (n : Nat) : GI := fun _ i => some (if i < n then some (.p (.int (lo + (i : Nat) * c))) else none)
def iRg1 (wa : WA) : WI := fun s Q R => wa s (fun ms s1 => match ms with
  | [.p (.int j)] => -(2 ^ 62) ≤ j ∧ j < 2 ^ 62 ∧ Q (gRng 0 1 j.toNat) s1
  | _ => False) R
def iRg2 (wa : WA) : WI := fun s Q R => wa s (fun ms s1 => match ms with
  | [.p (.int i), .p (.int j)] => (-(2 ^ 62) ≤ i ∧ i < 2 ^ 62 ∧ -(2 ^ 62) ≤ j ∧ j < 2 ^ 62) ∧ Q (gRng i 1 (j - i).toNat) s1
  | _ => False) R
/-- range(i, j, -1) -/
def iRg3 (wa : WA) : WI := fun s Q R => wa s (fun ms s1 => match ms with
  | [.p (.int i), .p (.int j), .p (.int (-1))] => (-(2 ^ 62) ≤ i ∧ i < 2 ^ 62 ∧ -(2 ^ 62) ≤ j ∧ j < 2 ^ 62) ∧ Q (gRng i (-1) (i - j).toNat) s1
  | _ => False) R
section
variable {X : Cx} {cv : CV} {E : L2.St → XK} {ok : Nat → Bool} {tg a b c : Expr} {wa : WA} {p pos : Pos}
theorem itd_rng1 {K : PySem.W.Frag} {F0 : Hp} {φ : SLg} {σ0 : L2.St} {lo : Int} {n : Nat} : ItD K (Itr lo n) (gRng lo 1 n) F0 φ ok σ0 := by
  refine ⟨fun F H σ s i m ψ sm _ wk r e => ?_, fun F H σ s i sm _ r e => ?_⟩
  · unfold gRng at e
    split at e
    · rename_i hi
      cases e
      refine ⟨hi, fun v H' ⟨e1, e2⟩ => ⟨F, Same.refl F, ?_⟩⟩
      subst e1 e2
      exact r.pushP (by rw [Int.mul_one]; exact rfl)
    · cases e
  · unfold gRng at e
    split at e
    · cases e
    · rename_i hi
      exact Nat.le_of_not_lt hi
theorem itd_rngC {K : PySem.W.Frag} {F0 : Hp} {φ : SLg} {σ0 : L2.St} {lo c : Int} {n : Nat} : ItD K (Itc lo c n) (gRng lo c n) F0 φ ok σ0 := by
  refine ⟨fun F H σ s i m ψ sm _ wk r e => ?_, fun F H σ s i sm _ r e => ?_⟩
  · unfold gRng at e
    split at e
    · rename_i hi
      cases e
      refine ⟨hi, fun v H' ⟨e1, e2⟩ => ⟨F, Same.refl F, ?_⟩⟩
      subst e1 e2
      exact r.pushP rfl
    · cases e
  · unfold gRng at e
    split at e
    · cases e
    · rename_i hi
      exact Nat.le_of_not_lt hi
theorem vs1 {K : PySem.W.Frag} {σ : L2.St} {F H : Hp} {s : S} {φ : SLg} {d : D} {vs : List V} (r : Res K F H σ s (star (rvs K σ [.p d] vs) φ)) (hl : vs.length = 1) : ∃ v, vs = [v] ∧ RD K F d v := by
  match vs, hl with
  | [v], _ =>
    obtain ⟨x, r', e, h1, h2⟩ := Res.allP r rfl (ds := [d]) rfl
    cases e
    exact ⟨v, rfl, h1⟩
theorem vs2 {K : PySem.W.Frag} {σ : L2.St} {F H : Hp} {s : S} {φ : SLg} {d d' : D} {vs : List V} (r : Res K F H σ s (star (rvs K σ [.p d, .p d'] vs) φ)) (hl : vs.length = 2) : ∃ v v', vs = [v, v'] ∧ RD K F d v ∧ RD K F d' v' := by
  match vs, hl with
  | [v, v'], _ =>
    obtain ⟨x, r', e, h1, h2⟩ := Res.allP r rfl (ds := [d, d']) rfl
    cases e
    obtain ⟨x, r', e, h3, h4⟩ := h2
    cases e
    exact ⟨v, v', rfl, h1, h3⟩
theorem vs3 {K : PySem.W.Frag} {σ : L2.St} {F H : Hp} {s : S} {φ : SLg} {d d' d'' : D} {vs : List V} (r : Res K F H σ s (star (rvs K σ [.p d, .p d', .p d''] vs) φ)) (hl : vs.length = 3) : ∃ v v' v'', vs = [v, v', v''] ∧ RD K F d v ∧ RD K F d' v' ∧ RD K F d'' v'' := by
  match vs, hl with
  | [v, v', v''], _ =>
    obtain ⟨x, r', e, h1, h2⟩ := Res.allP r rfl (ds := [d, d', d'']) rfl
    cases e
    obtain ⟨x, r', e, h3, h4⟩ := h2
    cases e
    obtain ⟨x, r', e, h5, h6⟩ := h4
    cases e
    exact ⟨v, v', v'', rfl, h1, h3, h5⟩
theorem di_rg1 (hg : Gl X "range") (hm : X.mg "range" = none) (ha : DA X cv E [a] wa) (hs : starEach [a] X.env = [(false, eval a X.env)] := by rfl) : DI X cv E ok tg (.Call (.Name "range" p) [a] [] pos) (iRg1 wa) := by
  refine ⟨PI.imp (pi_range1 hg hm ha.pa hs) fun σ H R q => ?_, fun s Q Q' R R' hp hR q => ha.mono s _ _ _ _ (fun m s1 q1 => ?_) hR q⟩
  · obtain ⟨F, s, φ, r, q⟩ := q
    refine liA.mk ha.mono r q (fun ms s1 q1 vs F1 H1 sm1 hl r1 => ?_) fun _ _ z => z
    split at q1
    · obtain ⟨v, rfl, e⟩ := vs1 r1 hl
      exact ⟨_, by rw [show v = _ from e], q1.1, q1.2.1, q1.2.2 _ F1 H1 φ sm1 (Weaker.refl φ) r1.dropL itd_rng1⟩
    · exact q1.elim
  · split at q1
    · exact ⟨q1.1, q1.2.1, hp _ _ q1.2.2⟩
    · exact q1
theorem di_rg2 (hg : Gl X "range") (hm : X.mg "range" = none) (ha : DA X cv E [a, b] wa) (hs : starEach [a, b] X.env = [(false, eval a X.env), (false, eval b X.env)] := by rfl) (hs2 : starEach [b] X.env = [(false, eval b X.env)] := by rfl) : DI X cv E ok tg (.Call (.Name "range" p) [a, b] [] pos) (iRg2 wa) := by
  refine ⟨PI.imp (pi_range2 hg hm ha.pa hs hs2) fun σ H R q => ?_, fun s Q Q' R R' hp hR q => ha.mono s _ _ _ _ (fun m s1 q1 => ?_) hR q⟩
  · obtain ⟨F, s, φ, r, q⟩ := q
    refine liA.mk ha.mono r q (fun ms s1 q1 vs F1 H1 sm1 hl r1 => ?_) fun _ _ z => z
    split at q1
    · obtain ⟨v, v', rfl, e, e'⟩ := vs2 r1 hl
      exact ⟨_, _, by rw [show v = _ from e, show v' = _ from e'], q1.1, q1.2 _ F1 H1 φ sm1 (Weaker.refl φ) r1.dropL itd_rng1⟩
    · exact q1.elim
  · split at q1
    · exact ⟨q1.1, hp _ _ q1.2⟩
    · exact q1
theorem di_rg3 (hg : Gl X "range") (hm : X.mg "range" = none) (ha : DA X cv E [a, b, c] wa) (hs : starEach [a, b, c] X.env = (false, eval a X.env) :: starEach [b, c] X.env := by rfl) (hpl : (backTo pos (starEach [b, c] X.env)).any (·.1) = false := by rfl) : DI X cv E ok tg (.Call (.Name "range" p) [a, b, c] [] pos) (iRg3 wa) := by
  refine ⟨PI.imp (pi_range3 hg hm ha.pa hs hpl) fun σ H R q => ?_, fun s Q Q' R R' hp hR q => ha.mono s _ _ _ _ (fun m s1 q1 => ?_) hR q⟩
  · obtain ⟨F, s, φ, r, q⟩ := q
    refine liA.mk ha.mono r q (fun ms s1 q1 vs F1 H1 sm1 hl r1 => ?_) fun _ _ z => z
    split at q1
    · obtain ⟨v, v', v'', rfl, e, e', e''⟩ := vs3 r1 hl
      obtain ⟨⟨h1, h2, h3, h4⟩, q1⟩ := q1
      exact ⟨_, _, _, _, by rw [show v = _ from e, show v' = _ from e', show v'' = _ from e''], RgC.neg h1 h2 h3 h4, q1 _ F1 H1 φ sm1 (Weaker.refl φ) r1.dropL itd_rngC⟩
    · exact q1.elim
  · split at q1
    · exact ⟨q1.1, hp _ _ q1.2⟩
    · exact q1
end
end Sd
/-! Sd11: a def's body; stores; built-ins by name; methods of lists. -/
namespace Sd
open PySem PySem.Spec PyProof.Rows L2
variable [Tb]

/-! ### a def's body -/
def startD (n : Nat) (ms : List M) : S := ms.map some ++ List.replicate (n - ms.length) none
/-- what is handed back: a look moves what it looks at -/
def endW (P : List Nat) (Q : M → List M → Prop) : M → S → Prop := fun m s => match m with
  | .at i => if i ∈ P then (match s[i]? with
    | some (some c) => match collect P 0 (s.set i (some .any)) with
      | some os => Q c os
      | none => False
    | _ => False) ∨ (match collect P 0 s with
      | some os => Q .any os
      | none => False)
    else match s[i]? with
    | some (some c) => match collect P 0 (s.set i none) with
      | some os => Q c os
      | none => False
    | _ => False
  | m => match collect P 0 s with
    | some os => Q m os
    | none => False
def endN (P : List Nat) (Q : M → List M → Prop) (R : Exc → List M → Prop) : WN where
  nx := fun s => endW P Q (.p .non) s
  rt := endW P Q
  bk := fun _ => False
  ct := fun _ => False
  er := fun x s => match collect P 0 s with
    | some os => R x os
    | none => False
section
variable {K : PySem.W.Frag} {F H : Hp}
theorem RS.start : ∀ {ms : List M} {vs : List V} {f : FP} {n : Nat}, vs.length = ms.length → (∀ m ∈ ms, noAt m = true) → (rvs K [] ms vs).holds F H f → RS K F H (ms.map some ++ List.replicate n none) (vs.map some ++ List.replicate n none) f
  | [], vs, f, n, hl, _, h => by
    have : vs = [] := List.eq_nil_of_length_eq_zero hl
    subst this
    have hz : ∀ b, f b = 0 := h
    clear hl h
    show RS K F H (List.replicate n none) (List.replicate n none) f
    induction n with
    | zero => exact ⟨rfl, hz⟩
    | succ n ih => exact ⟨none, _, rfl, ih⟩
  | m :: ms, [], _, _, hl, _, _ => by simp at hl
  | m :: ms, v :: vs, f, n, hl, hn, h => by
    obtain ⟨f1, f2, h1, h2, h3⟩ := h
    refine ⟨v, _, f1, f2, rfl, ?_, RS.start (by simpa using hl) (fun m hm => hn m (List.mem_cons_of_mem _ hm)) h2, h3⟩
    rcases h1 with ⟨i, e, _⟩ | h1
    · have := hn m List.mem_cons_self
      rw [e] at this
      cases this
    · exact h1
theorem pickP_none {α : Type} {P : List Nat} : ∀ {l : List α} {j : Nat}, (∀ k, k < l.length → j + k ∉ P) → pickP P j l = []
  | [], _, _ => rfl
  | x :: r, j, h => by
    unfold pickP
    rw [if_neg (by simpa using h 0 (by simp))]
    exact pickP_none fun k hk => by have := h (k + 1) (by simpa using hk); rwa [show j + (k + 1) = j + 1 + k by omega] at this
theorem collect_to {P : List Nat} : ∀ {s : S} {σ : L2.St} {vs : List V} {j : Nat} {f : FP} {os : List M}, RS K F H s σ f → collect P j s = some os → (∀ k v, vs[k]? = some v → j + k ∈ P → σ[k]? = some (some v)) → (∀ k, j + k ∈ P → k < vs.length) →
    ∃ f1, (rvs K [] os (pickP P j vs)).holds F H f1 ∧ (∀ b, f1 b ≤ f b) ∧ os.length = (pickP P j vs).length
  | [], σ, vs, j, f, os, h, e, pin, inn => by
    cases e
    obtain ⟨rfl, hz⟩ := h
    have : pickP P j vs = [] := pickP_none fun k hk hp => by
      have := pin k vs[k] (List.getElem?_eq_getElem hk) hp
      simp at this
    rw [this]
    exact ⟨fun _ => 0, fun _ => rfl, fun b => Nat.zero_le _, rfl⟩
  | x :: s, σ, [], j, f, os, h, e, pin, inn => by
    have none_in : ∀ k, j + k ∉ P := fun k hk => by have := inn k hk; simp at this
    have : ∀ (s : S) (i : Nat), (∀ k, i + k ∉ P) → collect P i s = some [] := fun s => by
      induction s with
      | nil => intro _ _; rfl
      | cons y s ih =>
        intro i hi
        unfold collect
        rw [if_neg (by simpa using hi 0)]
        exact ih (i + 1) fun k => by have := hi (k + 1); rwa [show i + (k + 1) = i + 1 + k by omega] at this
    rw [this _ j none_in] at e
    cases e
    exact ⟨fun _ => 0, fun _ => rfl, fun b => Nat.zero_le _, rfl⟩
  | x :: s, σ, v :: vs, j, f, os, h, e, pin, inn => by
    have pin' : ∀ {σ' : L2.St}, (∀ k, σ'[k]? = σ[k + 1]?) → ∀ k v, vs[k]? = some v → j + 1 + k ∈ P → σ'[k]? = some (some v) := fun hσ k v e1 hp => by
      rw [hσ]
      exact pin (k + 1) v (by simpa using e1) (by rwa [show j + (k + 1) = j + 1 + k by omega])
    have inn' : ∀ k, j + 1 + k ∈ P → k < vs.length := fun k hp => by
      have := inn (k + 1) (by rwa [show j + (k + 1) = j + 1 + k by omega])
      simpa using this
    unfold collect at e
    unfold pickP
    split at e
    · rename_i hP
      rw [if_pos hP]
      have p0 := pin 0 v rfl hP
      cases x with
      | none => cases e
      | some m =>
        rw [Option.map_eq_some_iff] at e
        obtain ⟨os', e1, rfl⟩ := e
        obtain ⟨u, r, f1, f2, rfl, h1, h2, h3⟩ := h
        simp at p0
        subst p0
        obtain ⟨g, q1, q2, q3⟩ := collect_to h2 e1 (pin' fun k => by simp) inn'
        exact ⟨fun b => f1 b + g b, ⟨f1, g, .inr h1, q1, fun _ => rfl⟩, fun b => by have := q2 b; rw [h3 b]; dsimp only; omega, by simp [q3]⟩
    · rename_i hP
      rw [if_neg hP]
      cases x with
      | none =>
        obtain ⟨o, r, rfl, h⟩ := h
        exact collect_to h e (pin' fun k => by simp) inn'
      | some m =>
        obtain ⟨u, r, f1, f2, rfl, h1, h2, h3⟩ := h
        obtain ⟨g, q1, q2, q3⟩ := collect_to h2 e (pin' fun k => by simp) inn'
        exact ⟨g, q1, fun b => by have := q2 b; rw [h3 b]; omega, q3⟩
theorem noAt_of {m : M} {v : V} {f : FP} (h : RM K F H m v f) : noAt m = true := by
  cases m <;> first | rfl | exact h.elim
/-- what a def hands back, over data -/
theorem endW.to {P : List Nat} {vs : List V} {σ : L2.St} {s : S} {φ : SLg} {m : M} {v : V} {Q : M → List M → Prop} (q : endW P Q m s) (r : Res K F H σ s (star (rv K σ m v) φ)) (pin : ∀ k v, vs[k]? = some v → k ∈ P → σ[k]? = some (some v)) (inn : ∀ k ∈ P, k < vs.length) :
    ∃ r' os, Q r' os ∧ os.length = (pickP P 0 vs).length ∧ noAt r' = true ∧ Res K F H [] [] (star (rv K [] r' v) (star (rvs K [] os (pickP P 0 vs)) φ)) := by
  obtain ⟨f1, f2, h1, ⟨g1, g2, k1, k2, k3⟩, h3⟩ := r.ex
  have fin : ∀ {c : M} {s' : S} {fc fs : FP} {os : List M}, RM K F H c v fc → RS K F H s' σ fs → collect P 0 s' = some os → (∀ b, fc b + fs b ≤ f1 b + g1 b) → Q c os →
      ∃ r' os, Q r' os ∧ os.length = (pickP P 0 vs).length ∧ noAt r' = true ∧ Res K F H [] [] (star (rv K [] r' v) (star (rvs K [] os (pickP P 0 vs)) φ)) := fun {c s' fc fs os} hc hs e le q => by
    obtain ⟨g, q1, q2, q3⟩ := collect_to hs e (fun k v e1 hp => pin k v e1 (by simpa using hp)) (fun k hp => inn k (by simpa using hp))
    exact ⟨c, os, q, q3, noAt_of hc, r.ff, r.tb, fun _ => 0, fun b => fc b + (g b + g2 b), ⟨rfl, fun _ => rfl⟩, ⟨fc, fun b => g b + g2 b, .inr hc, ⟨g, g2, q1, k2, fun _ => rfl⟩, fun _ => rfl⟩, fun b => by have a1 := h3 b; have a2 := k3 b; have a3 := q2 b; have a4 := le b; dsimp only; omega⟩
  unfold endW at q
  split at q
  · rename_i i
    split at q
    · rcases q with q | q
      · split at q
        · rename_i c ec
          split at q
          · rename_i os eo
            rcases k1 with ⟨i', e, e1, k0⟩ | k1
            · cases e
              obtain ⟨v', p1, p2, e2, q1, q2, q3⟩ := h1.out ec
              rw [e1] at e2
              cases e2
              have hi : i < s.length := (List.getElem?_eq_some_iff.mp ec).1
              have q4 := q2.inn (m := .any) (v := v) (f1 := fun _ => 0) (List.getElem?_set_self hi) fun _ => rfl
              rw [set_set, set_same e1] at q4
              exact fin q1 q4 eo (fun b => by have := q3 b; omega) q
            · exact k1.elim
          · exact q.elim
        · exact q.elim
      · split at q
        · rename_i os eo
          exact fin (c := .any) (fc := fun _ => 0) (fun _ => rfl) h1 eo (fun b => by omega) q
        · exact q.elim
    split at q
    · rename_i c ec
      split at q
      · rename_i os eo
        rcases k1 with ⟨i', e, e1, k0⟩ | k1
        · cases e
          obtain ⟨v', p1, p2, e2, q1, q2, q3⟩ := h1.out ec
          rw [e1] at e2
          cases e2
          exact fin q1 q2 eo (fun b => by have := q3 b; omega) q
        · exact k1.elim
      · exact q.elim
    · exact q.elim
  · rename_i na
    split at q
    · rename_i os eo
      rcases k1 with ⟨i', e, e1, k0⟩ | k1
      · exact absurd e (na i')
      · exact fin k1 h1 eo (fun b => by omega) q
    · exact q.elim
end
/-- a def's body, begun with its promise -/
theorem coreD {Pr : Program} {w0 : World} {K : PySem.W.Frag} {mg : Str → Option Value} {base : Heap} {cv : CV} {qual : Str} {scope : Scope} {body : List Stmt} {f : Addr} {N : List Str} {P : List Nat} {g : SpecD} {w : WS} {n : Nat} {cdv : Value} {A : Around} {outer : List Env} {s : Shared} {H : Hp} {vs : List V} {Q : VK} {E : XK}
    (len : ∀ ms Q R, g ms Q R → ms.length = n) (inP : ∀ i ∈ P, i < n)
    (D : DSs (cxOf (L2.CX Pr w0) Pr w0 K mg base N qual scope f cdv A outer s H E) cv (fun _ => E) P body w)
    (hw : ∀ ms Q R, g ms Q R → w (endN P Q R) (startD N.length ms)) (h : spOf K cv P g vs H Q E) :
    ∃ t, PSs (cxOf (L2.CX Pr w0) Pr w0 K mg base N qual scope f cdv A outer s H E) body t ∧ t { nx := fun _ H' => Q .non H', rt := Q } (L2.start N vs) H := by
  · obtain ⟨F, ms, φ, hl, hn, hp, r, q⟩ := h
    refine ⟨_, D.pss, ?_⟩
    have hlen := len _ _ _ q
    generalize hpv : (P.filterMap fun i => vs[i]?.map fun v => (i, v)) = pv
    have ipv : ∀ p ∈ pv, p.1 ∈ P ∧ vs[p.1]? = some p.2 := fun p hp => by
      rw [← hpv] at hp
      obtain ⟨i, hi, e⟩ := List.mem_filterMap.mp hp
      rw [Option.map_eq_some_iff] at e
      obtain ⟨v, e1, rfl⟩ := e
      exact ⟨hi, e1⟩
    have inpv : ∀ i v, i ∈ P → vs[i]? = some v → (i, v) ∈ pv := fun i v hi e => by
      rw [← hpv]
      exact List.mem_filterMap.mpr ⟨i, hi, by rw [e]; rfl⟩
    have r0 : Res K F H (L2.start N vs) (startD N.length ms) φ := by
      obtain ⟨f1, f2, h1, ⟨g1, g2, k1, k2, k3⟩, h3⟩ := r.ex
      have := RS.start (n := N.length - ms.length) hl.symm hn k1
      unfold L2.start startD
      rw [← hl]
      exact ⟨r.ff, r.tb, g1, g2, this, k2, fun b => by have := h3 b; have := k3 b; omega⟩
    refine ⟨F, _, φ, pv, fun p hp => (ipv p hp).1, fun p hp => ?_, r0, D.mono _ _ _ ⟨?_, ?_, ?_, ?_, ?_⟩ (hw _ _ _ q)⟩
    · have e := (ipv p hp).2
      have hi : p.1 < vs.length := (List.getElem?_eq_some_iff.mp e).1
      unfold L2.start
      rw [List.getElem?_append_left (by simpa using hi), List.getElem?_map, e]
      rfl
    · intro s' q1 σ' F' H' po sm r'
      have q1 : endW P (fun r os => ∀ v F' H', Same F F' → os.length = (pickP P 0 vs).length → noAt r = true → Res K F' H' [] [] (star (rv K [] r v) (star (rvs K [] os (pickP P 0 vs)) φ)) → Q v H') (.p .non) s' := q1
      obtain ⟨r1, os, q2, ol, na, r2⟩ := endW.to (vs := vs) (v := V.non) q1 (Res.pushP r' (d := .non) rfl) (fun k v e1 hk => po (k, v) (inpv k v hk e1)) (fun k hk => by rw [← hl, hlen]; exact inP k hk)
      exact q2 V.non F' H' sm ol na r2
    · intro m s' q1 v σ' F' H' po sm r'
      obtain ⟨r1, os, q2, ol, na, r2⟩ := endW.to (vs := vs) q1 r' (fun k v e1 hk => po (k, v) (inpv k v hk e1)) (fun k hk => by rw [← hl, hlen]; exact inP k hk)
      exact q2 v F' H' sm ol na r2
    · intro s' q1
      exact q1.elim
    · intro s' q1
      exact q1.elim
    · intro x' s' q1 c d σ' F' H' po sm r' ex
      have q1 : (match collect P 0 s' with | some os => (fun x os => ∀ c d F' H', Same F F' → os.length = (pickP P 0 vs).length → Res K F' H' [] [] (star (rvs K [] os (pickP P 0 vs)) φ) → ExcR cv F' x c d → E c d H') x' os | none => False) := q1
      split at q1
      · rename_i os eo
        obtain ⟨f1, f2, h1, h2, h3⟩ := r'.ex
        obtain ⟨g', p1, p2, p3⟩ := collect_to (vs := vs) h1 eo (fun k v e1 hk => po (k, v) (inpv k v (by simpa using hk) e1)) (fun k hk => by rw [← hl, hlen]; exact inP k (by simpa using hk))
        exact q1 c d F' H' sm p3 ⟨r'.ff, r'.tb, fun _ => 0, fun b => g' b + f2 b, ⟨rfl, fun _ => rfl⟩, ⟨g', f2, p1, h2, fun _ => rfl⟩, fun b => by have a1 := h3 b; have a2 := p2 b; dsimp only; omega⟩ ex
      · exact q1.elim
/-- THE RULE for a def over data -/
theorem fnD {Pr : Program} {w0 : World} {K : PySem.W.Frag} {mg : Str → Option Value} {base : Heap} {cv : CV} {x qual : Str} {st : Stmt} {f : Addr} {fd : FuncData} {N ps : List Str} {k : Nat} {P : List Nat} {g : SpecD} {w : WS}
    (Fn : Fun K x qual st f fd) (Sc : FnScope N ps (defScope st)) (len : ∀ ms Q R, g ms Q R → ms.length = ps.length) (inP : ∀ i ∈ P, i < ps.length)
    (hbody : ∀ (cdv : Value) (A : Around) (outer : List Env) (s : Shared) (H : Hp) (E : XK), Room k (A.deeper (envOfC qual (defScope st) s.heap.objs.size f cdv)) →
      DSs (cxOf (L2.CX Pr w0) Pr w0 K mg base N qual (defScope st) f cdv A outer s H E) cv (fun _ => E) P (defBody st) w)
    (hw : ∀ ms Q R, g ms Q R → w (endN P Q R) (startD N.length ms)) : FnOk Pr w0 K mg base (L2.CX Pr w0) (k + 1) f fd ps (spOf K cv P g) := by
  refine Fn.okX Sc (fun vs H Q E h => ?_) (fun cdv A outer s H vs Q E hr h => coreD len inP (hbody cdv A outer s H E hr) hw h)
  obtain ⟨F, ms, φ, hl, _, _, _, q⟩ := h
  rw [← hl]
  exact len _ _ _ q
end Sd
/-! Sd12: list comprehensions. -/
namespace Sd
open PySem PySem.Spec PyProof.Rows L2
variable [Tb]

/-- no error is let out of a comprehension -/
abbrev noE : L2.St → XK := fun _ _ _ _ => False
abbrev noR : WR := fun _ _ => False
def wipeD (s : S) : List Nat → S
  | [] => s
  | v :: vs => (wipeD s vs).set v none
/-- the slots vs back as they were in s0 -/
def restD (s0 s : S) : List Nat → S
  | [] => s
  | v :: vs => restD s0 (match s0[v]? with
    | some (some m) => s.set v (some m)
    | _ => s) vs
/-- the slots vs hold data or nothing -/
def ownP (s : S) (vs : List Nat) : Prop := ∀ v ∈ vs, ∀ m, s[v]? = some (some m) → isP m = true
theorem wipeD_len (s : S) : ∀ vs, (wipeD s vs).length = s.length
  | [] => rfl
  | v :: vs => by unfold wipeD; rw [List.length_set, wipeD_len s vs]
theorem wipeD_none {s : S} : ∀ {vs : List Nat} {v : Nat}, v ∈ vs → v < s.length → (wipeD s vs)[v]? = some none
  | w :: vs, v, hv, hl => by
    unfold wipeD
    by_cases e : w = v
    · subst e
      rw [List.getElem?_set_self (by rw [wipeD_len]; exact hl)]
    · rw [List.getElem?_set_ne e]
      rcases List.mem_cons.mp hv with z | z
      · exact absurd z.symm e
      · exact wipeD_none z hl
theorem RS.wipe {K : PySem.W.Frag} {F H : Hp} {s : S} {σ : L2.St} : ∀ (vs : List Nat) {f : FP}, RS K F H s σ f → ∃ f', RS K F H (wipeD s vs) (L2.wipe σ vs) f' ∧ ∀ b, f' b ≤ f b
  | [], f, h => ⟨f, h, fun _ => Nat.le_refl _⟩
  | v :: vs, f, h => by
    obtain ⟨f1, h1, h2⟩ := RS.wipe vs h
    obtain ⟨f2, h3, h4⟩ := h1.drop v none
    exact ⟨f2, h3, fun b => Nat.le_trans (h4 b) (h2 b)⟩
theorem Res.wipe {K : PySem.W.Frag} {F H : Hp} {s : S} {σ : L2.St} {φ : SLg} (vs : List Nat) (r : Res K F H σ s φ) : Res K F H (L2.wipe σ vs) (wipeD s vs) φ := by
  obtain ⟨f1, f2, h1, h2, h3⟩ := r.ex
  obtain ⟨f', k1, k2⟩ := h1.wipe vs
  exact ⟨r.ff, r.tb, f', f2, k1, h2, fun b => by have := h3 b; have := k2 b; omega⟩
theorem set_get {α : Type} {l : List α} {v : Nat} {a : α} (b : α) (h : l[v]? = some a) : (l.set v b).set v a = l := by
  rw [set_set, set_same h]
/-- the wiped slots filled again -/
theorem RS.unwipe {K : PySem.W.Frag} {F H : Hp} {s0 : S} {σ : L2.St} (ih : ∀ (v : Nat) (m : M), s0[v]? = some (some m) → ∃ x, σ[v]? = some (some x) ∧ (isP m = true → RM K F H m x fun _ => 0)) :
    ∀ (vs : List Nat) {s : S} {f : FP}, vs.Nodup → ownP s0 vs → s.length = σ.length → (∀ v ∈ vs, v < s.length → s[v]? = some none) → RS K F H s (L2.wipe σ vs) f → ∃ f', RS K F H (restD s0 s vs) σ f' ∧ ∀ b, f' b ≤ f b
  | [], s, f, _, _, _, _, h => ⟨f, h, fun _ => Nat.le_refl _⟩
  | v :: vs, s, f, nd, ow, hl, hn, h => by
    have nv := (List.nodup_cons.mp nd).1
    have nd' := (List.nodup_cons.mp nd).2
    have keep : ∀ {l : List Nat}, v ∉ l → (L2.wipe σ l)[v]? = σ[v]? := fun {l} hv => by
      induction l with
      | nil => rfl
      | cons w l ihl =>
        unfold L2.wipe
        simp only [List.mem_cons, not_or] at hv
        rw [List.getElem?_set_ne (Ne.symm hv.1)]
        exact ihl hv.2
    have k := keep nv
    by_cases hv : v < σ.length
    · have e1 : σ[v]? = some σ[v] := List.getElem?_eq_getElem hv
      rw [e1] at k
      have e2 : (L2.wipe σ (v :: vs)).set v σ[v] = L2.wipe σ vs := by
        show ((L2.wipe σ vs).set v none).set v σ[v] = L2.wipe σ vs
        exact set_get none k
      obtain ⟨f1, h1, h2⟩ := h.drop v σ[v]
      rw [e2] at h1
      have hn0 : s[v]? = some none := hn v List.mem_cons_self (by rw [hl]; exact hv)
      rw [set_same hn0] at h1
      unfold restD
      split
      · rename_i m em
        obtain ⟨x, ex, rm⟩ := ih v m em
        rw [e1] at ex
        have ex' := Option.some.inj ex
        have pm := ow v List.mem_cons_self m em
        have q := h1.inn hn0 (rm pm)
        rw [set_same (l := L2.wipe σ vs) (by rw [k, ex'])] at q
        obtain ⟨f2, q1, q2⟩ := RS.unwipe ih vs nd' (fun w hw => ow w (List.mem_cons_of_mem _ hw)) (by simpa using hl) (fun w hw hlw => by
          have : v ≠ w := fun z => nv (z ▸ hw)
          rw [List.getElem?_set_ne this]
          exact hn w (List.mem_cons_of_mem _ hw) (by simpa using hlw)) q
        exact ⟨f2, q1, fun b => by have a1 := q2 b; have a2 := h2 b; (try dsimp only at a1); omega⟩
      · obtain ⟨f2, q1, q2⟩ := RS.unwipe ih vs nd' (fun w hw => ow w (List.mem_cons_of_mem _ hw)) hl (fun w hw hlw => hn w (List.mem_cons_of_mem _ hw) hlw) h1
        exact ⟨f2, q1, fun b => Nat.le_trans (q2 b) (h2 b)⟩
    · have e3 : L2.wipe σ (v :: vs) = L2.wipe σ vs := by
        show (L2.wipe σ vs).set v none = L2.wipe σ vs
        exact List.set_eq_of_length_le (by rw [wipe_length]; omega)
      rw [e3] at h
      unfold restD
      have e4 : (match s0[v]? with | some (some m) => s.set v (some m) | _ => s) = s := by
        split
        · rename_i m em
          exact List.set_eq_of_length_le (by omega)
        · rfl
      rw [e4]
      exact RS.unwipe ih vs nd' (fun w hw => ow w (List.mem_cons_of_mem _ hw)) hl (fun w hw hlw => hn w (List.mem_cons_of_mem _ hw) hlw) h
/-- the data of slots, kept for later -/
theorem Res.slots {K : PySem.W.Frag} {F H : Hp} {s : S} {σ : L2.St} {φ : SLg} (r : Res K F H σ s φ) : ∀ (v : Nat) (m : M), s[v]? = some (some m) → ∃ x, σ[v]? = some (some x) ∧ ∀ F' H', Same F F' → isP m = true → RM K F' H' m x fun _ => 0 := fun v m e => by
  obtain ⟨f1, f2, h1, h2, h3⟩ := r.ex
  obtain ⟨x, g1, g2, e1, q1, q2, q3⟩ := h1.out e
  refine ⟨x, e1, fun F' H' sm hp => ?_⟩
  cases m <;> first | exact ⟨q1.1.mono sm, fun _ => rfl⟩ | cases hp

/-- a clause's tests -/
structure DTs (X : Cx) (cv : CV) (E : L2.St → XK) (ifs : List Expr) (w : WT) : Prop where
  pts : PTs X ifs (liT X.K cv E w)
  mono : MonoT w
def tYs : WT := fun s P _ => P true s
section
variable {X : Cx} {cv : CV} {E : L2.St → XK}
theorem dts_nil : DTs X cv E [] tYs := by
  refine ⟨⟨fun pins s σ H Q I q => ?_⟩, fun s P P' R R' hp _ q => hp _ _ q⟩
  obtain ⟨F, s', φ, r, q⟩ := q
  exact pts_nil.run pins s σ H Q I (q F H (Same.refl F) r)
theorem dts_one {c : Expr} {w : WT} (h : DT X cv E c w) : DTs X cv E [c] w := ⟨pts_one h.pt, h.mono⟩
end

/-- one turn of a comprehension: the target, the tests, the element -/
def lcTurn (own : List Nat) (wg : WG) (wt : WT) (we : WE) (s0 : S) (P : M → S → Prop) (W : Nat → Nat → List D → S → Prop) (i m : Nat) (acc : List D) (s : S) : Option (Option M) → Prop
  | some none => P (.ml acc) (restD s0 s own)
  | some (some x) => wg x s fun s2 => wt s2 (fun b s3 => if b = true then we s3 (fun y s4 => match y with
      | .p d => acc.length < sizeLine ∧ ∃ m', m' < m ∧ W (i + 1) m' (acc ++ [d]) (wipeD s4 own)
      | _ => False) noR else ∃ m', m' < m ∧ W (i + 1) m' acc (wipeD s3 own)) noR
  | none => False
def eLc (own : List Nat) (wi : WI) (wg : WG) (wt : WT) (we : WE) : WE := fun s P R => wi s (fun g s1 => ownP s1 own ∧ ∃ W : Nat → Nat → List D → S → Prop, (∃ m, W 0 m [] (wipeD s1 own)) ∧
  ∀ i m acc s, W i m acc s → (∀ v ∈ own, v < s1.length → s[v]? = some none) ∧ lcTurn own wg wt we s1 P W i m acc s (g s i)) R
theorem eLc.mono {own : List Nat} {wi : WI} {wg : WG} {wt : WT} {we : WE} (hi : MonoI wi) (hg : MonoG' wg) (ht : MonoT wt) (he : MonoE we) : MonoE (eLc own wi wg wt we) := fun s P P' R R' hp hR q =>
  hi _ _ _ _ _ (fun g s1 ⟨op, W, h0, h⟩ => ⟨op, W, h0, fun i m acc s q => by
    refine ⟨(h i m acc s q).1, ?_⟩
    have q2 := (h i m acc s q).2
    cases eg : g s i with
    | none => rw [eg] at q2; exact q2
    | some o =>
      rw [eg] at q2
      cases o with
      | none => exact hp _ _ q2
      | some x => exact q2⟩) hR q
theorem wipe_res {K : PySem.W.Frag} {F H : Hp} {s : S} {σ σ' : L2.St} {φ : SLg} {vs : List Nat} (e : L2.wipe σ vs = σ') (r : Res K F H σ s φ) : Res K F H σ' (wipeD s vs) φ := e ▸ r.wipe vs
theorem wipe_set {σ : L2.St} {o : Option V} {i : Nat} : ∀ {vs : List Nat}, i ∈ vs → L2.wipe (σ.set i o) vs = L2.wipe σ vs
  | v :: vs, h => by
    unfold L2.wipe
    by_cases e : i = v
    · subst e
      by_cases hi : i ∈ vs
      · rw [wipe_set hi]
      · have : ∀ {l : List Nat}, i ∉ l → L2.wipe (σ.set i o) l = (L2.wipe σ l).set i o := fun {l} => by
          induction l with
          | nil => intro _; rfl
          | cons w l ih =>
            intro hw
            simp only [List.mem_cons, not_or] at hw
            unfold L2.wipe
            rw [ih hw.2, List.set_comm _ _ hw.1]
        rw [this hi, set_set]
    · rcases List.mem_cons.mp h with z | z
      · exact absurd z e
      · rw [wipe_set z]
/-- targets that store into the slots own alone -/
def liGo (K : PySem.W.Frag) (own : List Nat) (w : WG) : TG := fun v σ H Q => ∃ F s φ m, Res K F H σ s (star (rv K σ m v) φ) ∧ w m s fun s' => ∀ σ' F' H', L2.wipe σ' own = L2.wipe σ own → Same F F' → Res K F' H' σ' s' φ → Q σ' H'
structure DGo (X : Cx) (own : List Nat) (t : Expr) (w : WG) : Prop where
  pg : PG X t (liGo X.K own w)
  mono : MonoG' w
def liGos (K : PySem.W.Frag) (own : List Nat) (w : WGs) : TGs := fun vs σ H Q => ∃ F s φ ds, RDs K F ds vs ∧ Res K F H σ s φ ∧ w ds s fun s' => ∀ σ' F' H', L2.wipe σ' own = L2.wipe σ own → Same F F' → Res K F' H' σ' s' φ → Q σ' H'
structure DGos (X : Cx) (own : List Nat) (t : List Expr) (w : WGs) : Prop where
  pgs : PGs X t (liGos X.K own w)
  mono : MonoGs w
section
variable {X : Cx} {own : List Nat}
theorem dgo_name {i : Nat} {x : Str} {p : Pos} (hN : X.N.Nodup) (hi : X.N[i]? = some x) (hx : Loc X.env.scope x) (ho : i ∈ own := by decide) (hf : X.fn x = true ∨ X.env.scope.names.lookup x = some .local := by first | exact .inl rfl | exact .inr rfl | assumption) : DGo X own (.Name x p) (gN i) := by
  refine ⟨PG.imp (pg_name hN hi hx hf) fun v σ H Q q => ?_, gN.mono⟩
  obtain ⟨F, s, φ, m, r, q⟩ := q
  obtain ⟨s', q, r'⟩ := gN.to r q
  exact q _ F H (wipe_set ho) (Same.refl F) r'
theorem dgos_nil : DGos X own [] gNil := by
  refine ⟨PGs.imp pgs_nil fun v σ H Q q => ?_, fun m s Q Q' h q => ?_⟩
  · obtain ⟨F, s, φ, ds, rd, r, q⟩ := q
    unfold gNil at q
    split at q
    · exact ⟨rd, q σ F H rfl (Same.refl F) r⟩
    · exact q.elim
  · unfold gNil at q ⊢
    split at q
    · exact h _ q
    · exact q
theorem dgos_cons {t : Expr} {ts : List Expr} {wg : WG} {wgs : WGs} (h1 : DGo X own t wg) (h2 : DGos X own ts wgs) (hs : (assignEach (t :: ts) X.env).map (·.2) = assign t X.env :: (assignEach ts X.env).map (·.2) := by rfl) : DGos X own (t :: ts) (gCons wg wgs) := by
  refine ⟨PGs.imp (pgs_cons h1.pg h2.pgs hs) fun v σ H Q q => ?_, fun m s Q Q' h q => ?_⟩
  · obtain ⟨F, s, φ, ds, rd, r, q⟩ := q
    unfold gCons at q
    split at q
    · rename_i d dr
      obtain ⟨x, xr, rfl, rd1, rd2⟩ := rd
      refine ⟨x, xr, rfl, F, s, φ, .p d, r.pushP rd1, h1.mono _ _ _ _ (fun s1 q1 σ1 F1 H1 ew1 sm1 r1 => ?_) q⟩
      exact ⟨F1, s1, φ, dr, rd2.mono sm1, r1, h2.mono _ _ _ _ (fun s2 q2 σ2 F2 H2 ew2 sm2 r2 => q2 σ2 F2 H2 (ew2.trans ew1) (sm1.trans sm2) r2) q1⟩
    · exact q.elim
  · unfold gCons at q ⊢
    split at q
    · exact h1.mono _ _ _ _ (fun s1 q1 => h2.mono _ _ _ _ h q1) q
    · exact q
theorem dgo_tup {ts : List Expr} {k : Nat} {wgs : WGs} {n : Nat} {p : Pos} (hc : X.calm = true) (h : DGos X own ts wgs) (hn : (assignEach ts X.env).length = n := by rfl) (hst : (assignEach ts X.env).findIdx? (·.1) = none := by rfl) : DGo X own (.Tuple ts k p) (gTup n wgs) := by
  refine ⟨PG.imp (pg_tup hc h.pgs hn hst) fun v σ H Q q => ?_, fun m s Q Q' h' q => ?_⟩
  · obtain ⟨F, s, φ, m, r, q⟩ := q
    unfold gTup at q
    split at q
    · rename_i ds
      obtain ⟨a, xs, rfl, ha, hx⟩ := r.getP
      exact ⟨a, xs, rfl, SqT.of (r.ff _ _ ha), by rw [hx.length]; exact q.1, F, s, φ, ds, hx, r.dropL, q.2⟩
    · exact q.elim
  · unfold gTup at q ⊢
    split at q
    · exact ⟨q.1, h.mono _ _ _ _ h' q.2⟩
    · exact q
end
/-! ### list comprehensions -/
theorem wipe_get {σ : L2.St} {j : Nat} : ∀ {l : List Nat}, j ∉ l → (L2.wipe σ l)[j]? = σ[j]?
  | [], _ => rfl
  | w :: l, h => by
    unfold L2.wipe
    simp only [List.mem_cons, not_or] at h
    rw [List.getElem?_set_ne (Ne.symm h.1)]
    exact wipe_get h.2
theorem wipe_wipe {σ : L2.St} {l : List Nat} : ∀ {k : List Nat}, (∀ v ∈ k, v ∈ l) → L2.wipe (L2.wipe σ l) k = L2.wipe σ l
  | [], _ => rfl
  | v :: k, h => by
    have e := wipe_wipe (σ := σ) (l := l) (k := k) fun w hw => h w (List.mem_cons_of_mem _ hw)
    show (L2.wipe (L2.wipe σ l) k).set v none = _
    rw [e]
    apply List.ext_getElem?
    intro j
    by_cases ej : v = j
    · subst ej
      have hv := h v List.mem_cons_self
      by_cases hl : v < (L2.wipe σ l).length
      · rw [List.getElem?_set_self hl]
        have : ∀ {l : List Nat} {v : Nat}, v ∈ l → v < σ.length → (L2.wipe σ l)[v]? = some none := fun {l} => by
          induction l with
          | nil => intro v hv; cases hv
          | cons w l ih =>
            intro v hv hl
            unfold L2.wipe
            by_cases e : w = v
            · subst e
              rw [List.getElem?_set_self (by rw [wipe_length]; exact hl)]
            · rw [List.getElem?_set_ne e]
              rcases List.mem_cons.mp hv with z | z
              · exact absurd z.symm e
              · exact ih z hl
        rw [this hv (by rw [wipe_length] at hl; exact hl)]
      · rw [List.set_eq_of_length_le (by omega)]
    · rw [List.getElem?_set_ne ej]
section
variable {X : Cx} {cv : CV} {E : L2.St → XK} {elt tg iter : Expr} {ifs : List Expr} {scope : Scope} {own : List (Str × Nat)} {pos : Pos} {wi : WI} {wg : WG} {wt : WT} {we : WE}
theorem eLc.to {K : PySem.W.Frag} {own : List Nat} (nd : own.Nodup) (mi : MonoI wi) (mg : MonoG' wg) (mt : MonoT wt) (me : MonoE we) {σ : L2.St} {H : Hp} {Q : VK} (q : liE K cv E (eLc own wi wg wt we) σ H Q) :
    tLc (liI K cv E (fun j => decide (j ∉ own)) wi) (liGo K own wg) (liT K cv noE wt) (liE K cv noE we) own σ H Q := by
  obtain ⟨F, s, φ, r, q⟩ := q
  refine ⟨F, s, φ, r, mi _ _ _ _ _ (fun g s1 q1 J F1 H1 φ' sm1 wk r1 it => ?_) (fun _ _ z => z) q⟩
  obtain ⟨op, W, ⟨m0, w0⟩, turn⟩ := q1
  intro D hD
  have slots := r1.slots
  have hF1 := same_none r1.ff hD
  have r2 : Res K F1 (upd H1 D (.lst [])) (L2.wipe σ own) (wipeD s1 own) (star (rv K [] (.ml []) (.ref D)) φ') := (r1.newO hD fun hF => ⟨Sd.one D, Or.inr ⟨D, [], rfl, upd_same, hF, rfl, fun _ => rfl⟩, fun _ => Nat.le_refl _⟩).wipe own
  refine ⟨fun i m H' => ∃ F' acc s', Same F1 F' ∧ Res K F' H' (L2.wipe σ own) s' (star (rv K [] (.ml acc) (.ref D)) φ') ∧ W i m acc s', ⟨m0, F1, [], _, Same.refl F1, r2, w0⟩, ?_⟩
  rintro i m H2 ⟨F2, acc, s2, sm2, r2, w2⟩
  obtain ⟨hn, t⟩ := turn i m acc s2 w2
  have hσ : ∀ j v, decide (j ∉ own) = true → σ[j]? = some (some v) → (L2.wipe σ own)[j]? = some (some v) := fun j v hj e => by rw [wipe_get (of_decide_eq_true hj)]; exact e
  cases eg : g s2 i with
  | none => rw [eg] at t; exact t.elim
  | some o =>
    rw [eg] at t
    cases o with
    | none =>
      refine .inl ⟨it.stop F2 H2 _ s2 i sm2 hσ r2.dropL eg, ?_⟩
      have l2 := r2.len
      rw [wipe_length] at l2
      have l1 := r1.len
      obtain ⟨f1, f2, h1, h2, h3⟩ := r2.ex
      obtain ⟨f', k1, k2⟩ := RS.unwipe (K := K) (F := F2) (H := H2) (s0 := s1) (σ := σ) (fun v m e => by
        obtain ⟨x, ex, rm⟩ := slots v m e
        exact ⟨x, ex, rm F2 H2 sm2⟩) own nd op (by omega) (fun v hv hl => hn v hv (by omega)) h1
      obtain ⟨g1, g2, p1, p2, p3⟩ := h2
      obtain ⟨g', p4, p5⟩ := wk _ _ g2 p2
      exact t (.ref D) F2 H2 (sm1.trans sm2) ⟨r2.ff, r2.tb, f', fun b => g1 b + g' b, k1, ⟨g1, g', rv_noAt rfl p1, p4, fun _ => rfl⟩, fun b => by have a1 := h3 b; have a2 := k2 b; have a3 := p3 b; have a4 := p5 b; dsimp only; omega⟩
    | some x =>
      obtain ⟨go, yl⟩ := it.item F2 H2 _ s2 i x _ sm2 hσ (Weaker.star _ φ') r2 eg
      refine .inr ⟨go, fun H' => ∃ m', m' < m ∧ ∃ F' acc s', Same F1 F' ∧ Res K F' H' (L2.wipe σ own) s' (star (rv K [] (.ml acc) (.ref D)) φ') ∧ W (i + 1) m' acc s', fun H' z => z, fun vx H3 hy => ?_⟩
      obtain ⟨F3, sm3, r3⟩ := yl vx H3 hy
      refine ⟨F3, s2, _, x, r3, mg _ _ _ _ (fun s4 q4 σ4 F4 H4 ew4 sm4 r4 => ?_) t⟩
      rw [wipe_wipe fun v hv => hv] at ew4
      refine ⟨ew4, F4, s4, _, r4, mt _ _ _ _ _ (fun b s5 q5 F5 H5 sm5 r5 => ?_) (fun _ _ z => z.elim) q4⟩
      have sm15 := sm2.trans (sm3.trans (sm4.trans sm5))
      cases b with
      | false =>
        obtain ⟨m', hm, w5⟩ := q5
        exact ⟨m', hm, F5, acc, _, sm15, wipe_res ew4 r5, w5⟩
      | true =>
        refine ⟨F5, s5, _, r5, me _ _ _ _ _ (fun y s6 q6 vy F6 H6 sm6 r6 => ?_) (fun _ _ z => z.elim) q5⟩
        split at q6
        · rename_i d
          obtain ⟨hz, m', hm, w6⟩ := q6
          have rd := r6.getP
          obtain ⟨f, hf⟩ := r6.dropL.get
          rcases hf with ⟨_, e, _⟩ | ⟨a, ys, e, k1, k2, k3, k4⟩
          · cases e
          · cases e
            refine ⟨ys, k1, by rw [k3.length]; exact hz, m', hm, F6, _, _, sm15.trans sm6, wipe_res ew4 (Res.write r6.dropL fun f hf => ?_), w6⟩
            rcases hf with ⟨_, e, _⟩ | ⟨a, zs, e, j1, j2, j3, j4⟩
            · cases e
            · cases e
              rw [k1] at j1
              cases j1
              refine ⟨by rw [j4 D, one_self]; decide, fun _ => ⟨f, Or.inr ⟨D, _, rfl, upd_same, j2, j3.append ⟨vy, [], rfl, rd, rfl⟩, j4⟩, fun _ => Nat.le_refl _⟩⟩
        · exact q6.elim
/-- [e for t in iter if ..] -/
theorem de_lc (hc : X.calm = true) (hN : X.N.Nodup) (hi : DI X cv E (fun j => decide (j ∉ own.map (·.2))) tg iter wi) (ok : BlkOk X.N X.env.scope scope own) (nd : (own.map (·.2)).Nodup)
    (hg : ∀ (s : Shared) (H : Hp) (C : Addr) (cl : List (Str × Addr)) (fp : List Addr), DGo (X.blk s H scope (compEnvC scope cl C X.env) fp) (own.map (·.2)) tg wg)
    (ht : ∀ (s : Shared) (H : Hp) (C : Addr) (cl : List (Str × Addr)) (fp : List Addr), DTs (X.blk s H scope (compEnvC scope cl C X.env) fp) cv noE ifs wt)
    (he : ∀ (s : Shared) (H : Hp) (C : Addr) (cl : List (Str × Addr)) (fp : List Addr), DE (X.blk s H scope (compEnvC scope cl C X.env) fp) cv noE elt we)
    (mg : MonoG' wg) (mt : MonoT wt) (me : MonoE we)
    (hs : ∀ x, foldedSetIterable iter X.env x = pure x := by intro _; rfl) : DE X cv E (.ListComp elt [⟨tg, iter, ifs, 0⟩] scope pos) (eLc (own.map (·.2)) wi wg wt we) :=
  ⟨PE.imp (pe_lc (g := liGo X.K (own.map (·.2)) wg) (tt := liT X.K cv noE wt) (te := liE X.K cv noE we) hc hN hi.pi ok (fun s H C cl fp => (hg s H C cl fp).pg) (fun s H C cl fp => (ht s H C cl fp).pts) (fun s H C cl fp => (he s H C cl fp).pe) hs) fun σ H Q q => eLc.to nd hi.mono mg mt me q, eLc.mono hi.mono mg mt me⟩
/-- y = [e for t in iter if ..] -/
theorem ds_setLc {P : List Nat} {i : Nat} {y : Str} {py spos : Pos} (hc : X.calm = true) (hN : X.N.Nodup) (hy : X.N[i]? = some y) (hyl : X.env.scope.names.lookup y = some .local) (hP : i ∉ P)
    (hsw : swapsWith (.ListComp elt [⟨tg, iter, ifs, 0⟩] scope pos) (some (.Name y py)) spos.line X.env = pure true)
    (hi : DI X cv E (fun j => decide (j ∉ own.map (·.2))) tg iter wi) (ok : BlkOk X.N X.env.scope scope own) (nd : (own.map (·.2)).Nodup)
    (hg : ∀ (s : Shared) (H : Hp) (C : Addr) (cl : List (Str × Addr)) (fp : List Addr), DGo (X.blk s H scope (compEnvC scope cl C X.env) fp) (own.map (·.2)) tg wg)
    (ht : ∀ (s : Shared) (H : Hp) (C : Addr) (cl : List (Str × Addr)) (fp : List Addr), DTs (X.blk s H scope (compEnvC scope cl C X.env) fp) cv noE ifs wt)
    (he : ∀ (s : Shared) (H : Hp) (C : Addr) (cl : List (Str × Addr)) (fp : List Addr), DE (X.blk s H scope (compEnvC scope cl C X.env) fp) cv noE elt we)
    (mg : MonoG' wg) (mt : MonoT wt) (me : MonoE we)
    (hs : ∀ x, foldedSetIterable iter X.env x = pure x := by intro _; rfl) : DS X cv E P (.Assign [.Name y py] (.ListComp elt [⟨tg, iter, ifs, 0⟩] scope pos) spos) (sAsg (eLc (own.map (·.2)) wi wg wt we) (gN i)) := by
  refine ⟨PS.imp (ps_setLc (g := liGo X.K (own.map (·.2)) wg) (tt := liT X.K cv noE wt) (te := liE X.K cv noE we) hc hN hy hyl hsw hi.pi ok (fun s H C cl fp => (hg s H C cl fp).pg) (fun s H C cl fp => (ht s H C cl fp).pts) (fun s H C cl fp => (he s H C cl fp).pe) hs) fun D σ H q => ?_, sAsg.mono (eLc.mono hi.mono mg mt me) gN.mono⟩
  have q := sAsg.to (eLc.mono hi.mono mg mt me) gN.mono q
  obtain ⟨F, s, φ, r, q⟩ := q
  refine eLc.to nd hi.mono mg mt me ⟨F, s, φ, r, eLc.mono hi.mono mg mt me _ _ _ _ _ (fun m s1 q1 v F1 H1 sm1 r1 => ?_) (fun _ _ z => z) q⟩
  obtain ⟨F2, s2, φ2, pv, m2, ep, po, r2, q2⟩ := q1 v F1 H1 sm1 r1
  obtain ⟨s', q3, r'⟩ := gN.to r2 q2
  exact q3 _ F2 H1 (po.set ep hP) (Same.refl F2) r'
end
end Sd
set_option maxHeartbeats 1000000
/-! SdC: dict comprehensions whose keys are scalars or tuples of such. -/
namespace Sd
open PySem PySem.Spec PyProof.Rows L2
variable [Tb]

/-- d[y] = v, an empty dict being of both kinds -/
def PutE (H : Hp) (a : Addr) (y v : V) (H' : Hp) : Prop := DPut H a y v H' ∨ (H a = some (.dK []) ∧ DPut (upd H a (.dT [])) a y v H') ∨ (H a = some (.dT []) ∧ DPut (upd H a (.dK [])) a y v H')
section
variable {X : Cx} {pins : List (Addr × Obj)} {σ : L2.St} {H H' : Hp} {s : Shared} {a : Addr} {y v : V} {u r : Value} {A : Around} {E : Value → Shared → Prop} {Q : Unit → Shared → Prop}
theorem putE_set (hu : A.units + 1 < cLine) (I : Inv X pins σ H s) (g : PutE H a y v H') (ry : RelV y u) (rv : RelV v r) (h : ∀ s', Inv X pins σ H' s' → Q () s') : wpAny (model X.prog X.w) A (setItem (.ref a) u r) Q E s := by
  rcases g with g | ⟨e, g⟩ | ⟨e, g⟩
  · exact d_setItem hu I g ry rv h
  · exact d_setItem hu (emptyKT I e) g ry rv h
  · exact d_setItem hu (emptyTK I e) g ry rv h
theorem dput_dict (hu : X.A.units + 1 < cLine) (I : Inv X pins σ H s) (g : DPut H a y v H') (ry : RelV y u) (rv : RelV v r) (h : ∀ s', Inv X pins σ H' s' → Q () s') : wpAny (model X.prog X.w) X.A (dictSet a u r) Q E s := by
  rcases g with ⟨kvs, k, e, rfl, l, rfl⟩ | ⟨kvs, k, b, e, rfl, eb, l, rfl⟩
  · exact d_dictSet I e l ry rv h
  · cases (show u = Value.ref b from ry)
    obtain ⟨z, hd, xs, rel, dd⟩ := dt_of I.hok e
    have n1 := Paired.length rel
    have n2 := length_putK kvs k v
    have room : (tupleKind (mixKind X.prog X.w)).room X.A := show X.A.units < cLine from by omega
    refine wpAny_dictSet_heap (hsz := by omega) room (key_of I.hok eb) dd fun h' dd' hs => h _ ?_
    obtain ⟨q, es, ep, hq, h2, h3, h4, _, h5⟩ := dd'
    refine d_write I (by rw [e]; exact True.intro) hs ⟨q, hq⟩ ⟨by omega, hd, _, (rel.put k eb rv).keeps fun c ys ec => ?_, q, es, ep, hq, h2, h3, h4, h5⟩
    rw [upd_ne (ne_of ec e (fun z => nomatch z))]
    exact ec
theorem putE_dict (hu : X.A.units + 1 < cLine) (I : Inv X pins σ H s) (g : PutE H a y v H') (ry : RelV y u) (rv : RelV v r) (h : ∀ s', Inv X pins σ H' s' → Q () s') : wpAny (model X.prog X.w) X.A (dictSet a u r) Q E s := by
  rcases g with g | ⟨e, g⟩ | ⟨e, g⟩
  · exact dput_dict hu I g ry rv h
  · exact dput_dict hu (emptyKT I e) g ry rv h
  · exact dput_dict hu (emptyTK I e) g ry rv h
end

/-! ### the block of a dict comprehension -/
/-- a turn's key and value stored -/
def tDg (wi : TI) (g : TG) (tt : TT) (tk tv : TE) (vs : List Nat) : TE := fun σ H Q => wi σ H fun J H1 => ∀ D, H1 D = none → ∃ W : Nat → Nat → Hp → Prop, (∃ m, W 0 m (upd H1 D (.dK []))) ∧ ∀ i m H, W i m H →
  (J.stop i H ∧ Q (.ref D) H) ∨ (J.go i H ∧ ∃ Nx : Hp → Prop, (∀ H', Nx H' → ∃ m', m' < m ∧ W (i + 1) m' H') ∧ ∀ x H', J.yld i H x H' → g x (L2.wipe σ vs) H' fun σ2 H2 => L2.wipe σ2 vs = L2.wipe σ vs ∧ tt σ2 H2 fun b H3 =>
    if b = true then tk σ2 H3 fun y H4 => tv σ2 H4 fun z H5 => ∃ H6, PutE H5 D y z H6 ∧ Nx H6 else Nx H3)
section
variable {X : Cx} {pins : List (Addr × Obj)} {σ : L2.St} {H : Hp} {s : Shared}
/-- one turn, walked in the block -/
theorem dg_turn (hu : X.A.units + 1 < cLine) {kx vx tg : Expr} {ifs : List Expr} {g : TG} {tt : TT} {tk tv : TE} {vs : List Nat} {B : Cx} {fp : List Addr} {D : Addr} {Nx : Hp → Prop} {G : Shared → Prop} {σ0 : L2.St} {u : Value} {x : V} {r' : Value → Shared → Prop}
    (hB : B.prog = X.prog ∧ B.w = X.w ∧ B.A = X.A) (hxe : B.xe = fun _ _ => False) (pg : PG B tg g) (pt : PTs B ifs tt) (pk : PE B kx tk) (pe : PE B vx tv) (I : Inv B pins σ H s) (rx : RelV x u)
    (step : g x σ H fun σ2 H2 => L2.wipe σ2 vs = σ0 ∧ tt σ2 H2 fun b H3 => if b = true then tk σ2 H3 fun y H4 => tv σ2 H4 fun z H5 => ∃ H6, PutE H5 D y z H6 ∧ Nx H6 else Nx H3)
    (fin : ∀ (σ' : L2.St) (H' : Hp) (s' : Shared), L2.wipe σ' vs = σ0 → Inv B pins σ' H' s' → Nx H' → G s') :
    wpAny (model X.prog X.w) X.A (assign tg B.env u) (fun _ s₂ => wpAny (model X.prog X.w) X.A (forIn ifs true fun c r => if r = true then do let ok ← isTrue c B.env (eval c B.env); pure (ForInStep.yield ok) else pure (ForInStep.yield r)) (fun ok s₃ =>
      if ok = true then wpAny (model X.prog X.w) X.A (eval kx B.env) (fun kv s₄ => wpAny (model X.prog X.w) X.A (eval vx B.env) (fun vv s₅ => wpAny (model X.prog X.w) X.A (dictSet D kv vv) (fun _ s₆ => G s₆) r' s₅) r' s₄) r' s₃ else G s₃) r' s₂) r' s := by
  obtain ⟨e1, e2, e3⟩ := hB
  have a1 := pg.run pins s σ H x u _ I rx step
  rw [e1, e2, e3, hxe] at a1
  refine thnF a1 fun _ s2 ⟨σ2, H2, I2, ew, q2⟩ => ?_
  have a2 := pt.run pins s2 σ2 H2 _ I2 q2
  rw [e1, e2, e3, hxe] at a2
  refine thnF a2 fun b s3 ⟨H3, I3, q3⟩ => ?_
  cases b with
  | false => exact fin σ2 H3 s3 ew I3 q3
  | true =>
    have a3 := pk.run pins s3 σ2 H3 _ I3 q3
    rw [e1, e2, e3, hxe] at a3
    refine thnF a3 fun kv s4 ⟨y, H4, I4, r4, q4⟩ => ?_
    have a4 := pe.run pins s4 σ2 H4 _ I4 q4
    rw [e1, e2, e3, hxe] at a4
    refine thnF a4 fun vv s5 ⟨z, H5, I5, r5, H6, pu, nx⟩ => ?_
    have a5 := putE_dict (X := B) (E := r') (Q := fun _ s' => G s') (by rw [e3]; exact hu) I5 pu r4 r5 fun s6 I6 => fin σ2 H6 s6 ew I6 nx
    rw [e1, e2, e3] at a5
    exact a5
end
/-- between two turns: the block's slots are as at its start, the iterator stands at i, and the reading's W holds -/
def DgI (B : Cx) (tn : Nat → Heap → Prop) (fp : List Addr) (σ0 : L2.St) (W : Nat → Nat → Hp → Prop) (n : Nat) (s : Shared) : Prop := ∃ i H, Inv B [] σ0 H s ∧ tn i s.heap ∧ (∀ b ∈ fp, H b = none) ∧ W i n H
section
variable {X : Cx}
/-- {k: v for t in iter if ..}, a key being a scalar or a tuple of scalars -/
theorem dg_core {pins : List (Addr × Obj)} {s : Shared} {σ : L2.St} {H : Hp} {Q : VK} {pos' : Pos} {use : Option (Value → Sem Unit)} {Qf : Value → Shared → Prop} (hu : X.A.units + 1 < cLine) {kx vx tg iter : Expr} {ifs : List Expr} {scope : Scope} {own : List (Str × Nat)} {pos : Pos} {wi : TI} {g : TG} {tt : TT} {tk tv : TE} (hc : X.calm = true) (hN : X.N.Nodup) (hi : PI X tg iter wi) (ok : BlkOk X.N X.env.scope scope own)
    (hg : ∀ (s : Shared) (H : Hp) (C : Addr) (cl : List (Str × Addr)) (fp : List Addr), PG (X.blk s H scope (compEnvC scope cl C X.env) fp) tg g)
    (ht : ∀ (s : Shared) (H : Hp) (C : Addr) (cl : List (Str × Addr)) (fp : List Addr), PTs (X.blk s H scope (compEnvC scope cl C X.env) fp) ifs tt)
    (hk : ∀ (s : Shared) (H : Hp) (C : Addr) (cl : List (Str × Addr)) (fp : List Addr), PE (X.blk s H scope (compEnvC scope cl C X.env) fp) kx tk)
    (he : ∀ (s : Shared) (H : Hp) (C : Addr) (cl : List (Str × Addr)) (fp : List Addr), PE (X.blk s H scope (compEnvC scope cl C X.env) fp) vx tv)
    (hs : ∀ x, foldedSetIterable iter X.env x = pure x) (I : Inv X pins σ H s) (h : tDg wi g tt tk tv (own.map (·.2)) σ H Q)
    (hRR : ∀ D C s' m H', Inv X pins σ H' s' → Q (.ref D) H' → s'.heap.Ns C m → FpOk X pins H' C → compPost (model X.prog X.w) X.A X.xe use Qf (.ref D) C (.ok .next) s') :
    wpAny (model X.prog X.w) X.A (comprehension (.DictComp kx vx [⟨tg, iter, ifs, 0⟩] scope pos) scope X.env pos' newDict false (eval iter X.env) use) Qf X.xe s := by
  have cells : ∀ y ∈ scope.names, y.2 = .free → ∃ c, X.env.cells.lookup y.1 = some c := fun y hy e => (ok.free y hy e).elim (fun k => I.ok.has _ (.inl k)) fun k => I.ok.has _ (.inr k)
  refine wpAny_comprehension_free (use := use) rfl hs (closure_ok cells) ok.kind (fun y hy e => by rw [ok.uniq y hy, e]) (thn (hi.run pins s σ H _ I h) fun xv s1 k1 => thn k1 fun itv s2 k2 => ?_)
  obtain ⟨it, fp, tn, J, H2, rfl, I2, T, t2, f2, q⟩ := k2
  refine wpAny_newObj_type (newEnv_comp ?_)
  -- D, the new dict
  have hDn : H2 s2.heap.objs.size = none := I2.hok.fresh (Nat.le_refl _)
  obtain ⟨W, ⟨m0, w0⟩, turn⟩ := q _ hDn
  generalize es3 : ({ s2 with heap := s2.heap.push { cls := .type "dict", data := .dict #[] } } : Shared) = s3
  have I3 : Inv X pins σ (upd H2 s2.heap.objs.size (.dK [])) s3 := es3 ▸ I2.laid (t' := s2.toks) (fun b o e => Heap.get?_push_of_some _ e) (Nat.le_refl _) (dk_empty s2.heap I2.big)
  have eh3 : s3.heap = s2.heap.push { cls := .type "dict", data := .dict #[] } := es3 ▸ rfl
  generalize hD : s2.heap.objs.size = D at hDn w0 turn I3
  have low : ∀ b ∈ fp, b < D := fun b hb => by
    obtain ⟨o, e, _⟩ := T.obj _ _ t2 b hb
    exact hD ▸ Heap.lt_size e
  have f3 : ∀ b ∈ fp, FpOk X pins (upd H2 D (.dK [])) b ∧ b < s3.heap.objs.size := fun b hb => by
    refine ⟨⟨?_, (f2 b hb).2⟩, by rw [eh3, Heap.size_push, hD]; exact Nat.lt_succ_of_lt (low b hb)⟩
    rw [upd_ne (Nat.ne_of_lt (low b hb))]
    exact (f2 b hb).1
  have t3 : tn 0 s3.heap := T.keep _ _ _ t2 fun b _ o e => by rw [eh3]; exact Heap.get?_push_of_some _ e
  have I4 := block_start I3 ok hN f3
  generalize eC : s3.heap.objs.size = C at I4 f3
  generalize ecl : cellsFrom (C + 1) scope.names (cloFrom X.env.cells scope.names []) = cl at I4
  generalize eH : upd H2 D (.dK []) = H3 at I3 I4 w0 f3
  have pg := hg s3 H3 C cl fp
  have pt := ht s3 H3 C cl fp
  have pk := hk s3 H3 C cl fp
  have pe := he s3 H3 C cl fp
  show codeAny _ _ (.compStart (.DictComp kx vx [⟨tg, iter, ifs, 0⟩] scope pos) 0 (.ref it) (.ref D) (compEnvC scope cl C X.env)) _ { s3 with heap := pushCells (s3.heap.push { cls := .type "dict", data := .dict #[] }) scope.names }
  generalize ece : compEnvC scope cl C X.env = ce at I4 pg pt pk pe ⊢
  have eCl : ce.locals = C := by subst ece; rfl
  have blk : ∀ B : Cx, B = X.blk s3 H3 scope ce fp → B.prog = X.prog ∧ B.w = X.w ∧ B.A = X.A ∧ B.K = X.K ∧ B.calm = X.calm := fun B e => e ▸ ⟨rfl, rfl, rfl, rfl, rfl⟩
  generalize es4 : ({ s3 with heap := pushCells (s3.heap.push { cls := .type "dict", data := .dict #[] }) scope.names } : Shared) = s4 at I4 ⊢
  have t4 : tn 0 s4.heap := T.keep _ _ _ t3 fun b _ o e => by rw [← es4]; exact pushCells_keeps _ _ _ _ (Heap.get?_push_of_some _ e)
  have keepFp : ∀ {σ' : L2.St} {H' : Hp} {s' : Shared}, Inv (X.blk s3 H3 scope ce fp) [] σ' H' s' → (∀ b ∈ fp, H' b = none) → ∀ b ∈ fp, FpOk (X.blk s3 H3 scope ce fp) [] H' b := fun J' hn b hb =>
    ⟨hn b hb, (J'.ok.exf b hb).1, J'.ok.exfs b hb, .inl hb, fun x c e => (J'.ok.exf b hb).2 x c e, fun p hp => absurd hp (by simp [show (X.blk s3 H3 scope ce fp).pn = [] from rfl])⟩
  have n3 : ∀ b ∈ fp, H3 b = none := fun b hb => (f3 b hb).1.1
  generalize hvs : own.map (·.2) = vs at *
  have loop : codeAny (model X.prog X.w) X.A (.compLoop (.DictComp kx vx [⟨tg, iter, ifs, 0⟩] scope pos) 0 (.ref it) (.ref D) ce) (compPost (model X.prog X.w) X.A X.xe use Qf (.ref D) C) s4 := by
    refine compLoop_anyD (DgI (X.blk s3 H3 scope ce fp) tn fp (L2.wipe σ vs) W) ?_ m0 ⟨0, H3, I4, t4, n3, w0⟩
    rintro n s5 ⟨i, H5, I5, t5, n5, w5⟩
    rcases turn i n H5 w5 with ⟨stop, qq⟩ | ⟨go, Nx, hNx, step⟩
    · refine thnF (T.done (X.blk s3 H3 scope ce fp) rfl rfl rfl hc i [] s5 _ H5 (fun _ _ => False) I5 (keepFp I5 n5) t5 stop) fun r s6 k6 => ?_
      obtain ⟨rfl, I6⟩ := k6
      have I7 : Inv X pins σ H5 s6 := I3.call' (ch := fp) I6.os I6.base I6.hok I6.bare fun b hb => ⟨(f3 b hb).1.2.2.2.1, (f3 b hb).1.2.1, (f3 b hb).1.2.2.2.2.1, (f3 b hb).1.2.2.2.2.2⟩
      have nC : H5 C = none := eCl ▸ I6.free
      obtain ⟨m, hn, _⟩ := I6.loc
      have hn : s6.heap.Ns C m := eCl ▸ hn
      exact hRR D C s6 m H5 I7 qq hn (I3.fpOk (Nat.le_of_eq eC) nC)
    · refine thnF (T.item (X.blk s3 H3 scope ce fp) rfl rfl rfl hc i [] s5 _ H5 (fun _ _ => False) I5 (keepFp I5 n5) t5 go) fun r s6 k6 => ?_
      obtain ⟨u, rfl, k6⟩ := k6
      refine thnF k6 fun _ s7 ⟨x, H7, I7, r7, y7, t7, n7⟩ => ?_
      have J7 := I7.pinned (keepFp I7 n7) (T.obj _ _ t7)
      refine dg_turn (X := X) (B := X.blk s3 H3 scope ce fp) (fp := fp) (D := D) (G := fun s' => ∃ m, m < n ∧ DgI (X.blk s3 H3 scope ce fp) tn fp (L2.wipe σ vs) W m s') hu ⟨rfl, rfl, rfl⟩ rfl pg pt pk pe J7 r7 (step x H7 y7) fun σ' H' s' ew J' nx => ?_
      obtain ⟨m', hm, w'⟩ := hNx H' nx
      have pin : ∀ b ∈ fp, ∀ o, s7.heap.get? b = some o → s'.heap.get? b = some o ∧ H' b = none := fun b hb o e => by
        have z := J'.pin (b, o) (List.mem_append_right _ (List.mem_append_right _ (mem_pinsAt hb e)))
        exact ⟨z.1, z.2.1⟩
      have el : (L2.wipe σ vs).length = σ'.length := by rw [← ew, wipe_length]
      refine ⟨m', hm, i + 1, H', (J'.unpinned (pins := [])).weak el (fun j v e => ?_), T.keep _ _ _ t7 fun b hb o e => (pin b hb o e).1, fun b hb => ?_, w'⟩
      · rw [← ew] at e
        exact (wipe_some e).1
      · obtain ⟨o, e, _⟩ := T.obj _ _ t7 b hb
        exact (pin b hb o e).2
  exact codeAny_compStart_dict loop (T.self X.A 0 _ _ _ t4 loop)
theorem pe_dg (hu : X.A.units + 1 < cLine) {kx vx tg iter : Expr} {ifs : List Expr} {scope : Scope} {own : List (Str × Nat)} {pos : Pos} {wi : TI} {g : TG} {tt : TT} {tk tv : TE} (hc : X.calm = true) (hN : X.N.Nodup) (hi : PI X tg iter wi) (ok : BlkOk X.N X.env.scope scope own)
    (hg : ∀ (s : Shared) (H : Hp) (C : Addr) (cl : List (Str × Addr)) (fp : List Addr), PG (X.blk s H scope (compEnvC scope cl C X.env) fp) tg g)
    (ht : ∀ (s : Shared) (H : Hp) (C : Addr) (cl : List (Str × Addr)) (fp : List Addr), PTs (X.blk s H scope (compEnvC scope cl C X.env) fp) ifs tt)
    (hk : ∀ (s : Shared) (H : Hp) (C : Addr) (cl : List (Str × Addr)) (fp : List Addr), PE (X.blk s H scope (compEnvC scope cl C X.env) fp) kx tk)
    (he : ∀ (s : Shared) (H : Hp) (C : Addr) (cl : List (Str × Addr)) (fp : List Addr), PE (X.blk s H scope (compEnvC scope cl C X.env) fp) vx tv)
    (hs : ∀ x, foldedSetIterable iter X.env x = pure x := by intro _; rfl) :
    PE X (.DictComp kx vx [⟨tg, iter, ifs, 0⟩] scope pos) (tDg wi g tt tk tv (own.map (·.2))) := by
  refine ⟨fun pins s σ H Q I h => ?_⟩
  rw [arm_eval_DictComp]
  refine dg_core hu hc hN hi ok hg ht hk he hs I h fun D C s' m H' I' q hn f => ⟨m, hn, fun h'' sb => ?_⟩
  obtain ⟨f0, f1, f2, f3, f4, f5⟩ := f
  exact ⟨.ref D, H', I'.turned (t' := s'.toks) (fun b o hb e => (sb.2 b hb).trans e) f0 f1 f3 f4 f5, rfl, q⟩
/-- name = {..} on one line, the name a local -/
theorem ps_setDg {i : Nat} {y : Str} {py spos : Pos} (hu : X.A.units + 1 < cLine) {kx vx tg iter : Expr} {ifs : List Expr} {scope : Scope} {own : List (Str × Nat)} {pos : Pos} {wi : TI} {g : TG} {tt : TT} {tk tv : TE} (hy : X.N[i]? = some y) (hyl : X.env.scope.names.lookup y = some .local) (hc : X.calm = true) (hN : X.N.Nodup) (hi : PI X tg iter wi) (ok : BlkOk X.N X.env.scope scope own)
    (hg : ∀ (s : Shared) (H : Hp) (C : Addr) (cl : List (Str × Addr)) (fp : List Addr), PG (X.blk s H scope (compEnvC scope cl C X.env) fp) tg g)
    (ht : ∀ (s : Shared) (H : Hp) (C : Addr) (cl : List (Str × Addr)) (fp : List Addr), PTs (X.blk s H scope (compEnvC scope cl C X.env) fp) ifs tt)
    (hk : ∀ (s : Shared) (H : Hp) (C : Addr) (cl : List (Str × Addr)) (fp : List Addr), PE (X.blk s H scope (compEnvC scope cl C X.env) fp) kx tk)
    (he : ∀ (s : Shared) (H : Hp) (C : Addr) (cl : List (Str × Addr)) (fp : List Addr), PE (X.blk s H scope (compEnvC scope cl C X.env) fp) vx tv)
    (hsw : swapsWith (.DictComp kx vx [⟨tg, iter, ifs, 0⟩] scope pos) (some (.Name y py)) spos.line X.env = pure true) (hs : ∀ x, foldedSetIterable iter X.env x = pure x := by intro _; rfl) :
    PS X (.Assign [.Name y py] (.DictComp kx vx [⟨tg, iter, ifs, 0⟩] scope pos) spos) (tAsg (tDg wi g tt tk tv (own.map (·.2))) (gName i)) := by
  refine ⟨fun pins s σ H D I h => ?_⟩
  rw [exec_Assign_Name_used _ _ _ _ hsw]
  refine wpAny_bind (wpAny_standAt (wpAny_bind ?_))
  show wpAny _ X.A (do let _ ← comprehension (.DictComp kx vx [⟨tg, iter, ifs, 0⟩] scope pos) scope X.env (firstIterPos [⟨tg, iter, ifs, 0⟩] pos) newDict false (eval iter X.env) (some (assign (.Name y py) X.env))) _ _ s
  have h : tDg wi g tt tk tv (own.map (·.2)) σ H (fun x H1 => gName i x σ H1 D.nx) := h
  refine wpAny_bind (thn (dg_core (Qf := fun _ s' => SP X pins D .next s') hu hc hN hi ok hg ht hk he hs I h fun L C s' m H' I' q hn f => ?_) fun _ s' hq => wpAny_pure (wpAny_pure hq))
  show wpAny _ _ (assign (.Name y py) X.env (.ref L)) _ _ _
  refine wpAny_assign_Name (store_ok2 (v := V.ref L) I' hN hy (.inl hyl) rfl (fun s2 I2 ⟨a, sb, ha⟩ => ?_) (.inr hyl))
  obtain ⟨f0, f1, f2, f3, f4, f5⟩ := f
  have haC : C ≠ a := by
    rcases ha with z | z
    · rw [z]; exact f1
    · exact fun e => f4 y a z e.symm
  refine ⟨m, hn.sameBut sb haC, fun h3 sb3 => ?_⟩
  exact ⟨_, H', I2.turned (t' := s2.toks) (fun b o hb e => (sb3.2 b hb).trans e) f0 f1 f3 f4 f5, q⟩
end
end Sd
/-! SdE: stores into owned dicts; dict comprehensions over data. -/
namespace Sd
open PySem PySem.Spec PyProof.Rows L2
variable [Tb]

theorem RDk.any {K : PySem.W.Frag} {F : Hp} {j : Key} : ∀ {kvs : List (D × D)} {ks : List (Key × V)}, RDk K F kvs ks → (kvs.any fun p => decide (p.1 = dKey j)) = ks.any fun p => decide (p.1 = j)
  | [], _, h => by rw [show _ = [] from h]; rfl
  | (k, d) :: kvs, _, h => by
    obtain ⟨i, x, r, rfl, rfl, h1, h2⟩ := h
    rw [List.any_cons, List.any_cons, RDk.any h2]
    congr 1
    exact decide_eq_decide.mpr ⟨dKey_inj, fun e => congrArg dKey e⟩
theorem RDk.map {K : PySem.W.Frag} {F : Hp} {j : Key} {d' : D} {v : V} (hd : RD K F d' v) : ∀ {kvs : List (D × D)} {ks : List (Key × V)}, RDk K F kvs ks → RDk K F (kvs.map fun p => if p.1 = dKey j then (p.1, d') else p) (ks.map fun p => if p.1 = j then (p.1, v) else p)
  | [], _, h => by rw [show _ = [] from h]; exact rfl
  | (k, d) :: kvs, _, h => by
    obtain ⟨i, x, r, rfl, rfl, h1, h2⟩ := h
    rw [List.map_cons, List.map_cons]
    by_cases e : i = j
    · subst e
      rw [show (if ((dKey i, d) : D × D).1 = dKey i then ((dKey i, d).1, d') else (dKey i, d)) = (dKey i, d') from if_pos rfl, show (if ((i, x) : Key × V).1 = i then ((i, x).1, v) else (i, x)) = (i, v) from if_pos rfl]
      exact ⟨i, v, _, rfl, rfl, hd, RDk.map hd h2⟩
    · rw [if_neg (fun z => e (dKey_inj z)), if_neg e]
      exact ⟨i, x, _, rfl, rfl, h1, RDk.map hd h2⟩
theorem RDk.app {K : PySem.W.Frag} {F : Hp} : ∀ {kvs k2 : List (D × D)} {ks s2 : List (Key × V)}, RDk K F kvs ks → RDk K F k2 s2 → RDk K F (kvs ++ k2) (ks ++ s2)
  | [], _, _, _, h, g => by rw [show _ = [] from h]; exact g
  | (k, d) :: kvs, _, _, _, h, g => by
    obtain ⟨i, x, r, rfl, rfl, h1, h2⟩ := h
    exact ⟨i, x, _, rfl, rfl, h1, RDk.app h2 g⟩
theorem RDk.put {K : PySem.W.Frag} {F : Hp} {j : Key} {d : D} {v : V} (hd : RD K F d v) {kvs : List (D × D)} {ks : List (Key × V)} (h : RDk K F kvs ks) : RDk K F (dput kvs (dKey j) d) (putK ks j v) := by
  unfold dput putK
  rw [h.any (j := j)]
  split
  · exact h.map hd
  · exact h.app ⟨j, v, [], rfl, rfl, hd, rfl⟩
theorem RDt.any {K : PySem.W.Frag} {F : Hp} {j : List Key} : ∀ {kvs : List (D × D)} {ks : List (List Key × V)}, RDt K F kvs ks → (kvs.any fun p => decide (p.1 = .tup (j.map dKey))) = ks.any fun p => decide (p.1 = j)
  | [], _, h => by rw [show _ = [] from h]; rfl
  | (k, d) :: kvs, _, h => by
    obtain ⟨i, x, r, rfl, rfl, h1, h2⟩ := h
    rw [List.any_cons, List.any_cons, RDt.any h2]
    congr 1
    exact decide_eq_decide.mpr ⟨fun e => dKeys_inj (D.tup.inj e), fun e => congrArg (fun z : List Key => D.tup (z.map dKey)) e⟩
theorem RDt.map {K : PySem.W.Frag} {F : Hp} {j : List Key} {d' : D} {v : V} (hd : RD K F d' v) : ∀ {kvs : List (D × D)} {ks : List (List Key × V)}, RDt K F kvs ks → RDt K F (kvs.map fun p => if p.1 = .tup (j.map dKey) then (p.1, d') else p) (ks.map fun p => if p.1 = j then (p.1, v) else p)
  | [], _, h => by rw [show _ = [] from h]; exact rfl
  | (k, d) :: kvs, _, h => by
    obtain ⟨i, x, r, rfl, rfl, h1, h2⟩ := h
    rw [List.map_cons, List.map_cons]
    by_cases e : i = j
    · subst e
      rw [show (if ((D.tup (i.map dKey), d) : D × D).1 = D.tup (i.map dKey) then ((D.tup (i.map dKey), d).1, d') else (D.tup (i.map dKey), d)) = (D.tup (i.map dKey), d') from if_pos rfl, show (if ((i, x) : List Key × V).1 = i then ((i, x).1, v) else (i, x)) = (i, v) from if_pos rfl]
      exact ⟨i, v, _, rfl, rfl, hd, RDt.map hd h2⟩
    · rw [if_neg (fun z => e (dKeys_inj (D.tup.inj z))), if_neg e]
      exact ⟨i, x, _, rfl, rfl, h1, RDt.map hd h2⟩
theorem RDt.app {K : PySem.W.Frag} {F : Hp} : ∀ {kvs k2 : List (D × D)} {ks s2 : List (List Key × V)}, RDt K F kvs ks → RDt K F k2 s2 → RDt K F (kvs ++ k2) (ks ++ s2)
  | [], _, _, _, h, g => by rw [show _ = [] from h]; exact g
  | (k, d) :: kvs, _, _, _, h, g => by
    obtain ⟨i, x, r, rfl, rfl, h1, h2⟩ := h
    exact ⟨i, x, _, rfl, rfl, h1, RDt.app h2 g⟩
theorem RDt.put {K : PySem.W.Frag} {F : Hp} {j : List Key} {d : D} {v : V} (hd : RD K F d v) {kvs : List (D × D)} {ks : List (List Key × V)} (h : RDt K F kvs ks) : RDt K F (dput kvs (.tup (j.map dKey)) d) (putK ks j v) := by
  unfold dput putK
  rw [h.any (j := j)]
  split
  · exact h.map hd
  · exact h.app ⟨j, v, [], rfl, rfl, hd, rfl⟩
/-- a store into an owned dict -/
theorem RM.dput {K : PySem.W.Frag} {F H : Hp} {a : Addr} {kvs : List (D × D)} {k d : D} {y z : V} {f : FP} (ff : Same F H) (h : RM K F H (.md kvs) (.ref a) f) (hk : RD K F k y) (hd : RD K F d z) (fit : fitK kvs k = true) (hz : kvs.length < sizeLine) :
    ∃ o, PutE H a y z (upd H a o) ∧ RM K F (upd H a o) (.md (dput kvs k d)) (.ref a) f := by
  obtain ⟨a', e, hF, hh, h4⟩ := h
  cases e
  obtain ⟨ok, al⟩ := fit_all fit
  have scal : ∀ j : Key, k = dKey j → ∃ o, PutE H a y z (upd H a o) ∧ RM K F (upd H a o) (.md (Sd.dput kvs k d)) (.ref a) f := fun j ej => by
    subst ej
    have ey := hk.key
    subst ey
    have nt : isTup (dKey j) = false := by cases j <;> rfl
    rcases hh with ⟨ks, h1, h2⟩ | ⟨ks, h1, h2⟩
    · exact ⟨_, .inl (DPut.k h1 (by rw [h2.length]; exact hz)), a, rfl, hF, .inl ⟨_, upd_same, h2.put hd⟩, h4⟩
    · cases kvs with
      | cons p r =>
        have z1 := RDt.isTup h2 p List.mem_cons_self
        have z2 := al p List.mem_cons_self
        rw [z1, nt] at z2
        cases z2
      | nil =>
        rw [show ks = [] from h2] at h1
        refine ⟨.dK (putK [] j z), .inr (.inr ⟨h1, ?_⟩), a, rfl, hF, .inl ⟨_, upd_same, RDk.put (kvs := []) (ks := []) hd rfl⟩, h4⟩
        have := DPut.k (H := upd H a (.dK [])) (a := a) (kvs := []) (k := j) (v := z) upd_same (by rw [sizeLine_eq]; decide)
        rw [upd_upd] at this
        exact this
  cases k with
  | int i => exact scal (.inl i) rfl
  | str x => exact scal (.inr x) rfl
  | tup l =>
    have okl : l.all scaK = true := ok
    obtain ⟨b, xs, rfl, hb, hx⟩ := hk
    obtain ⟨j, rfl, rfl⟩ := hx.keys okl
    rcases hh with ⟨ks, h1, h2⟩ | ⟨ks, h1, h2⟩
    · cases kvs with
      | cons p r =>
        have z1 := RDk.isTup h2 p List.mem_cons_self
        have z2 := al p List.mem_cons_self
        rw [z1] at z2
        cases z2
      | nil =>
        rw [show ks = [] from h2] at h1
        refine ⟨.dT (putK [] j z), .inr (.inl ⟨h1, ?_⟩), a, rfl, hF, .inr ⟨_, upd_same, RDt.put (kvs := []) (ks := []) hd rfl⟩, h4⟩
        have := DPut.t (H := upd H a (.dT [])) (a := a) (b := b) (kvs := []) (k := j) (v := z) upd_same (by
          rw [upd_ne (ne_of (ff _ _ hb) h1 (by intro z; cases z))]
          exact ff _ _ hb) (by rw [sizeLine_eq]; decide)
        rw [upd_upd] at this
        exact this
    · exact ⟨_, .inl (DPut.t h1 (ff _ _ hb) (by rw [h2.length]; exact hz)), a, rfl, hF, .inr ⟨_, upd_same, h2.put hd⟩, h4⟩
  | non => cases ok
  | bl b => cases ok
  | lst l => cases ok
  | dic l => cases ok
theorem RM.md_at {K : PySem.W.Frag} {F H : Hp} {a : Addr} {kvs : List (D × D)} {f : FP} (h : RM K F H (.md kvs) (.ref a) f) : f a ≠ 0 := by
  obtain ⟨a', e, _, _, h4⟩ := h
  cases e
  rw [h4 a, one_self]
  decide
theorem Res.dput {K : PySem.W.Frag} {F H : Hp} {σ : L2.St} {s : S} {φ : SLg} {a : Addr} {kvs : List (D × D)} {k d : D} {y z : V} (r : Res K F H σ s (star (rv K [] (.md kvs) (.ref a)) φ)) (hk : RD K F k y) (hd : RD K F d z) (fit : fitK kvs k = true) (hz : kvs.length < sizeLine) :
    ∃ H', PutE H a y z H' ∧ Res K F H' σ s (star (rv K [] (.md (dput kvs k d)) (.ref a)) φ) := by
  obtain ⟨f, hf⟩ := r.get
  rcases hf with ⟨_, e, _⟩ | hf
  · cases e
  obtain ⟨o, p, _⟩ := hf.dput r.ff hk hd fit hz
  refine ⟨_, p, Res.write r fun f' hf' => ?_⟩
  rcases hf' with ⟨_, e, _⟩ | hf'
  · cases e
  have e1 : ∀ b, f b = one a b := by
    obtain ⟨a1, e, _, _, h4⟩ := hf
    cases e
    exact h4
  have e2 : ∀ b, f' b = one a b := by
    obtain ⟨a1, e, _, _, h4⟩ := hf'
    cases e
    exact h4
  refine ⟨hf'.md_at, fun _ => ⟨f, .inr (by assumption), fun b => by rw [e1, e2]; exact Nat.le_refl _⟩⟩
/-! ### dict comprehensions -/
def dcTurn (own : List Nat) (wg : WG) (wt : WT) (wk wv : WE) (s0 : S) (P : M → S → Prop) (W : Nat → Nat → List (D × D) → S → Prop) (i m : Nat) (acc : List (D × D)) (s : S) : Option (Option M) → Prop
  | some none => P (.md acc) (restD s0 s own)
  | some (some x) => wg x s fun s2 => wt s2 (fun b s3 => if b = true then wk s3 (fun y s4 => wv s4 (fun z s5 => match y, z with
      | .p k, .p d => fitK acc k = true ∧ acc.length < sizeLine ∧ ∃ m', m' < m ∧ W (i + 1) m' (dput acc k d) (wipeD s5 own)
      | _, _ => False) noR) noR else ∃ m', m' < m ∧ W (i + 1) m' acc (wipeD s3 own)) noR
  | none => False
def eDc (own : List Nat) (wi : WI) (wg : WG) (wt : WT) (wk wv : WE) : WE := fun s P R => wi s (fun g s1 => ownP s1 own ∧ ∃ W : Nat → Nat → List (D × D) → S → Prop, (∃ m, W 0 m [] (wipeD s1 own)) ∧
  ∀ i m acc s, W i m acc s → (∀ v ∈ own, v < s1.length → s[v]? = some none) ∧ dcTurn own wg wt wk wv s1 P W i m acc s (g s i)) R
theorem eDc.mono {own : List Nat} {wi : WI} {wg : WG} {wt : WT} {wk wv : WE} (hi : MonoI wi) : MonoE (eDc own wi wg wt wk wv) := fun s P P' R R' hp hR q =>
  hi _ _ _ _ _ (fun g s1 ⟨op, W, h0, h⟩ => ⟨op, W, h0, fun i m acc s q => by
    refine ⟨(h i m acc s q).1, ?_⟩
    have q2 := (h i m acc s q).2
    cases eg : g s i with
    | none => rw [eg] at q2; exact q2
    | some o =>
      rw [eg] at q2
      cases o with
      | none => exact hp _ _ q2
      | some x => exact q2⟩) hR q
section
variable {X : Cx} {cv : CV} {E : L2.St → XK} {kx vx tg iter : Expr} {ifs : List Expr} {scope : Scope} {pos : Pos} {wi : WI} {wg : WG} {wt : WT} {wk wv : WE}
theorem eDc.to {K : PySem.W.Frag} {own : List Nat} (nd : own.Nodup) (mi : MonoI wi) (mg : MonoG' wg) (mt : MonoT wt) (mk : MonoE wk) (mv : MonoE wv) {σ : L2.St} {H : Hp} {Q : VK} (q : liE K cv E (eDc own wi wg wt wk wv) σ H Q) :
    tDg (liI K cv E (fun j => decide (j ∉ own)) wi) (liGo K own wg) (liT K cv noE wt) (liE K cv noE wk) (liE K cv noE wv) own σ H Q := by
  obtain ⟨F, s, φ, r, q⟩ := q
  refine ⟨F, s, φ, r, mi _ _ _ _ _ (fun g s1 q1 J F1 H1 φ' sm1 wk r1 it => ?_) (fun _ _ z => z) q⟩
  obtain ⟨op, W, ⟨m0, w0⟩, turn⟩ := q1
  intro D hD
  have slots := r1.slots
  have hF1 := same_none r1.ff hD
  have r2 : Res K F1 (upd H1 D (.dK [])) (L2.wipe σ own) (wipeD s1 own) (star (rv K [] (.md []) (.ref D)) φ') := (r1.newO hD fun hF => ⟨Sd.one D, Or.inr ⟨D, rfl, hF, .inl ⟨[], upd_same, rfl⟩, fun _ => rfl⟩, fun _ => Nat.le_refl _⟩).wipe own
  refine ⟨fun i m H' => ∃ F' acc s', Same F1 F' ∧ Res K F' H' (L2.wipe σ own) s' (star (rv K [] (.md acc) (.ref D)) φ') ∧ W i m acc s', ⟨m0, F1, [], _, Same.refl F1, r2, w0⟩, ?_⟩
  rintro i m H2 ⟨F2, acc, s2, sm2, r2, w2⟩
  obtain ⟨hn, t⟩ := turn i m acc s2 w2
  have hσ : ∀ j v, decide (j ∉ own) = true → σ[j]? = some (some v) → (L2.wipe σ own)[j]? = some (some v) := fun j v hj e => by rw [wipe_get (of_decide_eq_true hj)]; exact e
  cases eg : g s2 i with
  | none => rw [eg] at t; exact t.elim
  | some o =>
    rw [eg] at t
    cases o with
    | none =>
      refine .inl ⟨it.stop F2 H2 _ s2 i sm2 hσ r2.dropL eg, ?_⟩
      have l2 := r2.len
      rw [wipe_length] at l2
      have l1 := r1.len
      obtain ⟨f1, f2, h1, h2, h3⟩ := r2.ex
      obtain ⟨f', k1, k2⟩ := RS.unwipe (K := K) (F := F2) (H := H2) (s0 := s1) (σ := σ) (fun v m e => by
        obtain ⟨x, ex, rm⟩ := slots v m e
        exact ⟨x, ex, rm F2 H2 sm2⟩) own nd op (by omega) (fun v hv hl => hn v hv (by omega)) h1
      obtain ⟨g1, g2, p1, p2, p3⟩ := h2
      obtain ⟨g', p4, p5⟩ := wk _ _ g2 p2
      exact t (.ref D) F2 H2 (sm1.trans sm2) ⟨r2.ff, r2.tb, f', fun b => g1 b + g' b, k1, ⟨g1, g', rv_noAt rfl p1, p4, fun _ => rfl⟩, fun b => by have a1 := h3 b; have a2 := k2 b; have a3 := p3 b; have a4 := p5 b; dsimp only; omega⟩
    | some x =>
      obtain ⟨go, yl⟩ := it.item F2 H2 _ s2 i x _ sm2 hσ (Weaker.star _ φ') r2 eg
      refine .inr ⟨go, fun H' => ∃ m', m' < m ∧ ∃ F' acc s', Same F1 F' ∧ Res K F' H' (L2.wipe σ own) s' (star (rv K [] (.md acc) (.ref D)) φ') ∧ W (i + 1) m' acc s', fun H' z => z, fun vx H3 hy => ?_⟩
      obtain ⟨F3, sm3, r3⟩ := yl vx H3 hy
      refine ⟨F3, s2, _, x, r3, mg _ _ _ _ (fun s4 q4 σ4 F4 H4 ew4 sm4 r4 => ?_) t⟩
      rw [wipe_wipe fun v hv => hv] at ew4
      refine ⟨ew4, F4, s4, _, r4, mt _ _ _ _ _ (fun b s5 q5 F5 H5 sm5 r5 => ?_) (fun _ _ z => z.elim) q4⟩
      have sm15 := sm2.trans (sm3.trans (sm4.trans sm5))
      cases b with
      | false =>
        obtain ⟨m', hm, w5⟩ := q5
        exact ⟨m', hm, F5, acc, _, sm15, wipe_res ew4 r5, w5⟩
      | true =>
        refine ⟨F5, s5, _, r5, mk _ _ _ _ _ (fun y s6 q6 vy F6 H6 sm6 r6 => ?_) (fun _ _ z => z.elim) q5⟩
        refine ⟨F6, s6, _, r6, mv _ _ _ _ _ (fun z s7 q7 vz F7 H7 sm7 r7 => ?_) (fun _ _ z => z.elim) q6⟩
        split at q7
        · rename_i dk dv
          obtain ⟨fit, hz, m', hm, w7⟩ := q7
          have rdv := r7.getP
          have rdk := r7.dropL.getP
          obtain ⟨H8, pu, r8⟩ := r7.dropL.dropL.dput rdk rdv fit hz
          exact ⟨H8, pu, m', hm, F7, _, _, sm15.trans (sm6.trans sm7), wipe_res ew4 r8, w7⟩
        · exact q7.elim
/-- {k: v for t in iter if ..} -/
theorem de_dc {own : List (Str × Nat)} (hu : X.A.units + 1 < cLine) (hc : X.calm = true) (hN : X.N.Nodup) (hi : DI X cv E (fun j => decide (j ∉ own.map (·.2))) tg iter wi) (ok : BlkOk X.N X.env.scope scope own) (nd : (own.map (·.2)).Nodup)
    (hg : ∀ (s : Shared) (H : Hp) (C : Addr) (cl : List (Str × Addr)) (fp : List Addr), DGo (X.blk s H scope (compEnvC scope cl C X.env) fp) (own.map (·.2)) tg wg)
    (ht : ∀ (s : Shared) (H : Hp) (C : Addr) (cl : List (Str × Addr)) (fp : List Addr), DTs (X.blk s H scope (compEnvC scope cl C X.env) fp) cv noE ifs wt)
    (hk : ∀ (s : Shared) (H : Hp) (C : Addr) (cl : List (Str × Addr)) (fp : List Addr), DE (X.blk s H scope (compEnvC scope cl C X.env) fp) cv noE kx wk)
    (he : ∀ (s : Shared) (H : Hp) (C : Addr) (cl : List (Str × Addr)) (fp : List Addr), DE (X.blk s H scope (compEnvC scope cl C X.env) fp) cv noE vx wv)
    (mg : MonoG' wg) (mt : MonoT wt) (mk : MonoE wk) (mv : MonoE wv)
    (hs : ∀ x, foldedSetIterable iter X.env x = pure x := by intro _; rfl) : DE X cv E (.DictComp kx vx [⟨tg, iter, ifs, 0⟩] scope pos) (eDc (own.map (·.2)) wi wg wt wk wv) :=
  ⟨PE.imp (pe_dg (g := liGo X.K (own.map (·.2)) wg) (tt := liT X.K cv noE wt) (tk := liE X.K cv noE wk) (tv := liE X.K cv noE wv) hu hc hN hi.pi ok (fun s H C cl fp => (hg s H C cl fp).pg) (fun s H C cl fp => (ht s H C cl fp).pts) (fun s H C cl fp => (hk s H C cl fp).pe) (fun s H C cl fp => (he s H C cl fp).pe) hs) fun σ H Q q => eDc.to nd hi.mono mg mt mk mv q, eDc.mono hi.mono⟩
end
end Sd
/-! SdT: tuple(d), tuple(d.values()) .. : of whatever list(..) can be asked of. -/
namespace Sd
open PySem PySem.Spec PyProof.Rows L2
variable [Tb]
section
variable {prog : Program} {w : World} {A : Around} {E : Value → Shared → Prop} {s : Shared} {T : String} {r d : Addr} {n : Nat} {P : Nat → Value → Prop} {OK : Heap → Prop}
theorem collect_src {Q : List Value → Shared → Prop} (K : PySem.W.KdlSrc prog w T r d n P OK) (hh : A.handled = none) (hok : OK s.heap) (hn : n ≤ sizeLine)
    (hQ : ∀ (h' : Heap) (tk : Nat) (acc : Array Value), (∀ b o, s.heap.get? b = some o → h'.get? b = some o) → ItemsOf P acc n → Q acc.toList { s with heap := h', toks := tk }) :
    wpAny (model prog w) A (PySem.collect (.ref r)) Q E s := by
  have lt := K.there _ hok
  unfold PySem.collect
  refine wpAny_bind (wpAny_runValue (codeAny_builtin F.entry_proto_collect ?_))
  rw [Around.under_plainId F.plain_proto_collect _]
  show wpAny _ A.in1 (newList [] >>= fun l' => again (.builtin "list.__iadd__" ⟨[l', .ref r], []⟩)) _ _ s
  refine wpAny_bind (wpAny_newObj_type ?_)
  refine wpAny_pure ⟨plainId_quiet F.plain_list_iadd _, codeAny_builtin F.entry_list_iadd ?_⟩
  rw [Around.under_plainId F.plain_list_iadd _]
  show wpAny _ A.in1 (Builtin.List.listExtendWith (.ref s.heap.objs.size) (.ref r) (.ref s.heap.objs.size)) _ _ _
  refine wpAny_mono (PySem.W.kdl_extend (A := A) (s := { s with heap := s.heap.push { cls := .type "list", data := .seq #[] } }) (R := fun rr s' => rr = .ok (.ret (.ref s.heap.objs.size)) ∧ ∃ (h' : Heap) (tk : Nat) (acc : Array Value) (c' : Nat), s' = { s with heap := h', toks := tk } ∧
      (∀ b o, s.heap.get? b = some o → h'.get? b = some o) ∧ h'.get? s.heap.objs.size = some { cls := .type "list", dict := none, data := .seq acc c', slots := #[] } ∧ ItemsOf P acc n) K hh (K.keep _ _ hok fun b _ o e => Heap.get?_push_of_some _ e) s.heap.objs.size (Nat.ne_of_gt lt.1) (Nat.ne_of_gt lt.2) _ 0 (Heap.get?_push_size _ rfl)
    (fun h' tk acc c' hk e it => ⟨rfl, h', tk, acc, c', rfl, fun b o q => hk b o (Nat.ne_of_lt (Heap.lt_size q)) (Heap.get?_push_of_some _ q), e, it⟩) hn) (fun fin s' h => ?_) fun e s' h => absurd h.1 (by simp)
  cases fin with
  | done f =>
    obtain ⟨e, h', tk, acc, c', rfl, hk, hS, it⟩ := h
    cases e
    show wpAny _ A (load s.heap.objs.size >>= _) _ _ _
    exact wpAny_bind (wpAny_load hS (wpAny_pure (hQ h' tk acc hk it)))
  | again c' =>
    refine ⟨h.1, codeAny_mono h.2 fun rr s'' hr => ?_⟩
    obtain ⟨rfl, h', tk, acc, c', rfl, hk, hS, it⟩ := hr
    show wpAny _ A (load s.heap.objs.size >>= _) _ _ _
    exact wpAny_bind (wpAny_load hS (wpAny_pure (hQ h' tk acc hk it)))
theorem tuple_src {Q : Value → Shared → Prop} (K : PySem.W.KdlSrc prog w T r d n P OK) (hh : A.handled = none) (hok : OK s.heap) (hn : n ≤ sizeLine)
    (hQ : ∀ (h' : Heap) (tk : Nat) (acc : Array Value), (∀ b o, s.heap.get? b = some o → h'.get? b = some o) → ItemsOf P acc n → Q (.ref h'.objs.size) { s with heap := h'.push { cls := .type "tuple", data := .seq acc }, toks := tk }) :
    wpAny (model prog w) A (call (.type "tuple") [.ref r]) Q E s := by
  refine callType_codes (Q₁ := fun obj s₁ => s₁.TypeIs obj "tuple" ∧ Q obj s₁) F.called_tuple (F.typeCall_tuple_1 _) F.entry_object_init ?_ fun obj s₁ h₁ =>
    ⟨h₁.1, F.args_object_init_2 obj _, object_init_meets F.called_tuple.init.lookup F.called_tuple.made (by decide) prog w A.in1 _ s₁ ⟨h₁.1, rfl, h₁.2⟩⟩
  refine codeAny_of_tree ?_
  show wpAny _ A.in1.in1 (do checkBuiltinCall "tuple.__new__" ⟨[.type "tuple", .ref r], []⟩; again (.builtin "tuple.__new__" ⟨[.type "tuple", .ref r], []⟩)) _ _ s
  refine wpAny_bind (wpAny_of_eq (F.newCall_tuple_1 _) (wpAny_pure ⟨plainId_quiet F.plain_tuple_new _, codeAny_builtin F.entry_tuple_new ?_⟩))
  rw [Around.under_plainId F.plain_tuple_new _]
  have a1 := sub_tuple_self
  have a2 := init_tuple_lookup
  have a3 := madeHere_tuple
  have tp : s.TypeIs (.ref r) T := K.type s hok
  have h1 : A.in1.in1.handled = none := hh
  have nt := K.notTuple
  wp_walk using wpAny_typeOf tp, collect_src (A := A.in1.in1) K h1 hok hn
  intro h' tk acc hk hacc
  show wpAny _ _ (Builtin.Tuple.tupleExact acc.toList.toArray >>= fun v => ret v) _ _ _
  unfold Builtin.Tuple.tupleExact
  refine wpAny_bind (wpAny_newObj_type ?_ (by show acc.toList.toArray.size ≤ sizeLine; simp only [Array.toArray_toList]; rw [hacc.1]; exact hn))
  refine wpAny_pure ?_
  rw [show acc.toList.toArray = acc by simp]
  exact ⟨⟨_, Heap.get?_push_size _ rfl, rfl⟩, hQ h' tk acc hk hacc⟩
end
/-! ### of dicts -/
section
variable {X : Cx}
theorem call_tuple_dK (hc : X.calm = true) : CallR X (.type "tuple") (fun xs H Q => ∃ d kvs, xs = [.ref d] ∧ H d = some (.dK kvs) ∧ ∀ q, H q = none → Q (.ref q) (upd H q (.tup (kvs.map fun kv => kV kv.1)))) := by
  rintro pins s σ H xs us Q I r ⟨d, kvs, rfl, hk, q⟩
  obtain ⟨u, rfl, rx⟩ := vals1 r
  cases rx
  obtain ⟨z, lo, vs, rk, hd⟩ := (show ObjOk X.prog X.w H s.heap d (.dK kvs) from I.hok d _ hk)
  obtain ⟨ep, hat⟩ := hd.dictAt
  have hl : kvs.length = vs.length := Paired.length rk
  refine tuple_src (PySem.W.kdl_dict (knd := mixKind X.prog X.w) (kvs := vs) (ep := ep) lo) (I.ok.hd hc) hat (by rw [← hl]; exact z) fun h' tk acc kp it => ?_
  have rl : Vals (kvs.map fun kv => kV kv.1) acc.toList := by
    refine vals_of_at (by rw [List.length_map, hl, ← it.1]; exact Array.length_toList.symm) fun j x w h1 h2 => ?_
    obtain ⟨k, y, e1, e2⟩ := it.2 j w (by rw [← Array.getElem?_toList]; exact h2)
    rw [show (kvs.map fun kv => kV kv.1) = (kvs.map (·.1)).map kV by rw [List.map_map]; rfl, KV.keys rk, List.getElem?_map, List.getElem?_map, e1] at h1
    cases h1
    exact keyIs_rel e2
  have I1 : Inv X pins σ H { s with heap := h', toks := tk } := I.kept kp
  refine ⟨.ref h'.objs.size, _, I1.laid (t' := tk) (fun b o e => Heap.get?_push_of_some _ e) (Nat.le_refl _) (show ObjOk X.prog X.w _ _ _ (.tup (kvs.map fun kv => kV kv.1)) from ⟨by rw [List.length_map]; exact z, acc.toList, rl, ?_⟩), rfl, q _ (I1.hok.fresh (Nat.le_refl _))⟩
  rw [Array.toArray_toList]
  exact IsTup.new _ _
theorem call_tuple_dT (hc : X.calm = true) : CallR X (.type "tuple") (fun xs H Q => ∃ d kvs, xs = [.ref d] ∧ H d = some (.dT kvs) ∧ ∀ q bs, H q = none → IsKeys H kvs bs → Q (.ref q) (upd H q (.tup (bs.map V.ref)))) := by
  rintro pins s σ H xs us Q I r ⟨d, kvs, rfl, hd, q⟩
  obtain ⟨u, rfl, rx⟩ := vals1 r
  cases rx
  obtain ⟨z, hs, ks, pr, o, es, ep, ho, hx, hdt, he, hn⟩ := (show ObjOk X.prog X.w H s.heap d (.dT kvs) from I.hok d _ hd)
  have l1 : es.size = ks.length := size_of_entries he
  have l2 : kvs.length = ks.length := Paired.length pr
  refine tuple_src (kdl_raw hs hx hdt) (I.ok.hd hc) ho (by omega) fun h' tk acc kp it => ?_
  have ea : acc.toList = (ks.map fun x => x.2.1).map Value.ref := by
    apply List.ext_getElem?
    intro j
    rw [List.getElem?_map, List.getElem?_map]
    have qe := entry_at he j
    cases hj : acc.toList[j]? with
    | none =>
      have h1 := List.getElem?_eq_none_iff.mp hj
      rw [Array.length_toList, it.1] at h1
      rw [List.getElem?_eq_none (by omega)]
      rfl
    | some v =>
      obtain ⟨en, hen, rfl⟩ := it.2 j v (by rw [← Array.getElem?_toList]; exact hj)
      rw [hen] at qe
      cases hb : ks[j]? with
      | none =>
        rw [hb] at qe
        exact nomatch (show some en = none from qe)
      | some b =>
        rw [hb] at qe
        rw [show en = entryOfKey (tupleKind (mixKind X.prog X.w)) b from Option.some.inj qe]
        rfl
  have rv : Vals ((ks.map fun x => x.2.1).map V.ref) acc.toList := ea ▸ vals_refs _
  have I1 : Inv X pins σ H { s with heap := h', toks := tk } := I.kept kp
  refine ⟨.ref h'.objs.size, _, I1.laid (t' := tk) (fun b o e => Heap.get?_push_of_some _ e) (Nat.le_refl _) (show ObjOk X.prog X.w _ _ _ (.tup ((ks.map fun x => x.2.1).map V.ref)) from ⟨by rw [List.length_map, List.length_map]; omega, acc.toList, rv, ?_⟩), rfl, q _ _ (I1.hok.fresh (Nat.le_refl _)) (isKeys_of pr)⟩
  rw [Array.toArray_toList]
  exact IsTup.new _ _
/-- dict(d), an empty one too that is of the kind of tuples -/
theorem call_dictT : CallR X (.type "dict") (fun xs H Q => ∃ a, xs = [.ref a] ∧ H a = some (.dT []) ∧ ∀ p, H p = none → Q (.ref p) (upd H p (.dK []))) := by
  rintro pins s σ H xs us Q I r ⟨a, rfl, ha, q⟩
  refine wpAny_mono (call_dictD pins s σ (upd H a (.dK [])) [.ref a] us (fun v H' => ∃ p, p ≠ a ∧ v = .ref p ∧ H p = none ∧ H' = upd (upd H a (.dK [])) p (.dK [])) (emptyTK I ha) r ⟨a, [], rfl, .inl upd_same, fun p hp => ?_⟩) (fun v s' h => ?_) fun _ _ z => z
  · have ne : p ≠ a := fun z => by
      subst z
      rw [upd_same] at hp
      cases hp
    rw [upd_ne ne] at hp
    exact ⟨p, ne, rfl, hp, rfl⟩
  · obtain ⟨x, H', I', rx, p, ne, rfl, hp, rfl⟩ := h
    have e : upd (upd (upd H a (.dK [])) p (.dK [])) a (.dT []) = upd H p (.dK []) := by
      funext b
      by_cases e1 : b = a
      · subst e1
        rw [upd_same, upd_ne (Ne.symm ne), ha]
      · rw [upd_ne e1]
        by_cases e2 : b = p
        · subst e2
          rw [upd_same, upd_same]
        · rw [upd_ne e2, upd_ne e2, upd_ne e1]
    have I2 := emptyKT I' (show upd (upd H a (.dK [])) p (.dK []) a = some (.dK []) from by rw [upd_ne (Ne.symm ne), upd_same])
    rw [e] at I2
    exact ⟨.ref p, _, I2, rx, q p hp⟩
end
end Sd
set_option maxHeartbeats 1000000
/-! SdF: built-in functions over data. -/
namespace Sd
open PySem PySem.Spec PyProof.Rows L2
variable [Tb]

theorem Res.one {K : PySem.W.Frag} {F H : Hp} {σ : L2.St} {s : S} {φ : SLg} {m : M} {vs : List V} (r : Res K F H σ s (star (rvs K σ [m] vs) φ)) (h : vs.length = 1) : ∃ v, vs = [v] ∧ Res K F H σ s (star (rv K σ m v) φ) := by
  match vs, h with
  | [v], _ =>
    refine ⟨v, rfl, ?_⟩
    exact (Res.assoc r).swap.dropL
theorem Res.two {K : PySem.W.Frag} {F H : Hp} {σ : L2.St} {s : S} {φ : SLg} {m n : M} {vs : List V} (r : Res K F H σ s (star (rvs K σ [m, n] vs) φ)) (h : vs.length = 2) : ∃ v u, vs = [v, u] ∧ Res K F H σ s (star (rv K σ m v) (star (rv K σ n u) φ)) := by
  match vs, h with
  | [v, u], _ =>
    refine ⟨v, u, rfl, ?_⟩
    have r' := (Res.assoc r).swap
    have r2 := (Res.assoc r').swap.dropL
    exact r2.swap
abbrev WF := S → List M → (M → Prop) → Prop
/-- what makes a built-in function's rule one over data -/
structure CallD (X : Cx) (r : List V → Hp → VK → Prop) (o : WF) : Prop where
  mono : ∀ s ms P P', (∀ m, P m → P' m) → o s ms P → o s ms P'
  to : ∀ (F H : Hp) (σ : L2.St) (s : S) (φ : SLg) (ms : List M) (vs : List V) (P : M → Prop) (Q : VK), Res X.K F H σ s (star (rvs X.K σ ms vs) φ) → vs.length = ms.length → o s ms P →
    (∀ m, P m → ∀ v F' H', Same F F' → Res X.K F' H' σ s (star (rv X.K σ m v) φ) → Q v H') → r vs H Q
def eFn (o : WF) (wa : WA) : WE := fun s P R => wa s (fun ms s1 => o s1 ms fun m => P m s1) R
theorem eFn.mono {o : WF} {wa : WA} (ho : ∀ s ms P P', (∀ m, P m → P' m) → o s ms P → o s ms P') (ha : MonoA wa) : MonoE (eFn o wa) := fun s P P' R R' hp hR q =>
  ha s _ _ _ _ (fun ms s1 q1 => ho _ _ _ _ (fun m => hp m s1) q1) hR q
section
variable {X : Cx} {cv : CV} {E : L2.St → XK} {x : Str} {p pos : Pos} {e : Expr} {es : List Expr} {wa : WA} {id T : String} {r : List V → Hp → VK → Prop} {o : WF}
theorem eFn.to (cd : CallD X r o) (ha : DA X cv E es wa) {σ : L2.St} {H : Hp} {Q : VK} (q : liE X.K cv E (eFn o wa) σ H Q) : tCB r (liA X.K cv E wa) σ H Q := by
  obtain ⟨F, s, φ, rs, q⟩ := q
  refine liA.mk ha.mono rs q (fun ms s1 q1 vs F1 H1 sm1 hl r1 => ?_) fun _ _ z => z
  exact cd.to F1 H1 σ s1 φ ms vs _ Q r1 hl q1 fun m q2 v F' H' sm r' => q2 v F' H' (sm1.trans sm) r'
theorem de_callB (hc : CallR X (.builtin id) r) (cd : CallD X r o) (hg : Gl X x) (hm : X.mg x = none) (hv : bootBuiltins x = some (.builtin id)) (ha : DA X cv E (e :: es) wa) (hn : x ≠ "__name__" := by decide) (hdb : (x == ("__debug__" : Str)) = false := by decide)
    (he : starEach (e :: es) X.env = (false, eval e X.env) :: starEach es X.env := by rfl) (hpl : (backTo pos (starEach es X.env)).any (·.1) = false := by rfl) : DE X cv E (.Call (.Name x p) (e :: es) [] pos) (eFn o wa) :=
  ⟨PE.imp (pe_callB hc hg hm hv ha.pa hn hdb he hpl) fun _ _ _ q => eFn.to cd ha q, eFn.mono cd.mono ha.mono⟩
theorem de_callTy (hc : CallR X (.type T) r) (cd : CallD X r o) (hg : Gl X x) (hm : X.mg x = none) (hv : bootBuiltins x = some (.type T)) (ha : DA X cv E (e :: es) wa) (hn : x ≠ "__name__" := by decide) (hdb : (x == ("__debug__" : Str)) = false := by decide)
    (he : starEach (e :: es) X.env = (false, eval e X.env) :: starEach es X.env := by rfl) (hpl : (backTo pos (starEach es X.env)).any (·.1) = false := by rfl) : DE X cv E (.Call (.Name x p) (e :: es) [] pos) (eFn o wa) :=
  ⟨PE.imp (pe_callTy hc hg hm hv ha.pa hn hdb he hpl) fun _ _ _ q => eFn.to cd ha q, eFn.mono cd.mono ha.mono⟩
end
/-! ### len -/
def lenM (s : S) (m : M) : Option Nat := match m with
  | .p (.str x) => if x.length ≤ sizeLine then some x.length else none
  | m => match seqA s m with
    | some l => some l.length
    | none => match dicM s m with
      | some kvs => some kvs.length
      | none => match lk s m with
        | some (.mm ms) => some ms.length
        | _ => none
def oLen : WF := fun s ms P => match ms with
  | [m] => match lenM s m with
    | some n => P (.p (.int n))
    | none => False
  | _ => False
def rLenA (K : PySem.W.Frag) : List V → Hp → VK → Prop := fun xs H Q => (((∃ x n, xs = [x] ∧ LenV K x H n ∧ Q (.int n) H) ∨ (∃ a kvs, xs = [V.ref a] ∧ H a = some (.dK kvs) ∧ Q (.int kvs.length) H)) ∨ rLenT xs H Q)
theorem call_lenA {X : Cx} : CallR X (.builtin "len") (rLenA X.K) := (call_len.or call_lenD).or call_len_dT
theorem CallD.fin {K : PySem.W.Frag} {F H : Hp} {σ : L2.St} {s : S} {φ ψ : SLg} {P : M → Prop} {Q : VK} {d : D} {v : V} (r : Res K F H σ s (star ψ φ)) (k : ∀ m, P m → ∀ v F' H', Same F F' → Res K F' H' σ s (star (rv K σ m v) φ) → Q v H') (p : P (.p d)) (h : RD K F d v) : Q v H :=
  k _ p v F H (Same.refl F) (r.dropL.pushP h)

section
variable {X : Cx}
theorem cd_len : CallD X (rLenA X.K) oLen := by
  refine ⟨fun s ms P P' h q => ?_, fun F H σ s φ ms vs P Q r hl q k => ?_⟩
  · unfold oLen at q ⊢
    split at q
    · split at q
      · exact h _ q
      · exact q
    · exact q
  · unfold oLen at q
    split at q
    · rename_i m
      split at q
      · rename_i n e
        have r0 := r.one hl
        clear r
        obtain ⟨v, rfl, r⟩ := r0
        have fin := fun (z : RD X.K F (.int n) (.int n)) => CallD.fin r k q z
        have fin := fin rfl
        unfold lenM at e
        split at e
        · have rd := r.getP
          split at e
          · rename_i hz
            cases e
            cases rd
            exact .inl (.inl ⟨_, _, rfl, ⟨hz, rfl⟩, fin⟩)
          · cases e
        · split at e
          · rename_i l el
            cases e
            obtain ⟨a, xs, rfl, h1, h2⟩ := r.seqA el
            rw [← h2.length] at fin
            refine .inl (.inl ⟨_, _, rfl, ?_, fin⟩)
            rcases h1 with h1 | h1
            · exact .inl ⟨xs, h1, rfl⟩
            · exact .inr ⟨xs, h1, rfl⟩
          · split at e
            · rename_i kvs ek
              cases e
              obtain ⟨a, rfl, ⟨ks, h1, h2⟩ | ⟨ks, h1, h2⟩⟩ := r.dicM ek
              · rw [← h2.length] at fin
                exact .inl (.inr ⟨_, _, rfl, h1, fin⟩)
              · rw [← h2.length] at fin
                exact .inr ⟨_, _, rfl, h1, fin⟩
            · split at e
              · rename_i ms el
                cases e
                obtain ⟨f, a, xs, f', rfl, h1, _, h2, _⟩ := r.lk el
                rw [← h2.length] at fin
                exact .inl (.inl ⟨_, _, rfl, .inl ⟨xs, SqL.of h1, rfl⟩, fin⟩)
              · cases e
      · exact q.elim
    · exact q.elim

/-! ### all, any -/
def blsD : List D → Option (List Bool)
  | [] => some []
  | .bl b :: l => (blsD l).map (b :: ·)
  | _ => none
theorem blsD.vals {K : PySem.W.Frag} {F : Hp} : ∀ {l : List D} {xs : List V} {bs : List Bool}, RDs K F l xs → blsD l = some bs → xs = bs.map V.bl
  | [], _, _, h, e => by cases e; exact h
  | d :: l, _, bs, h, e => by
    obtain ⟨x, r, rfl, h1, h2⟩ := h
    cases d with
    | bl b =>
      simp only [blsD, Option.map_eq_some_iff] at e
      obtain ⟨bs', e1, rfl⟩ := e
      rw [blsD.vals h2 e1, show x = .bl b from h1]
      rfl
    | _ => cases e
def oAll : WF := fun s ms P => match ms with
  | [m] => match (seqL s m).bind blsD with
    | some bs => P (.p (.bl (bs.all id)))
    | none => False
  | _ => False
def oAny : WF := fun s ms P => match ms with
  | [m] => match (seqL s m).bind blsD with
    | some bs => P (.p (.bl (bs.any id)))
    | none => False
  | _ => False
theorem cd_all : CallD X (rAll X.K) oAll := by
  refine ⟨fun s ms P P' h q => ?_, fun F H σ s φ ms vs P Q r hl q k => ?_⟩
  · unfold oAll at q ⊢
    split at q
    · split at q
      · exact h _ q
      · exact q
    · exact q
  · unfold oAll at q
    split at q
    · split at q
      · rename_i bs e
        have r0 := r.one hl
        clear r
        obtain ⟨v, rfl, r⟩ := r0
        rw [Option.bind_eq_some_iff] at e
        obtain ⟨l, e1, e2⟩ := e
        obtain ⟨a, xs, rfl, h1, h2⟩ := r.seqL e1
        rw [blsD.vals h2 e2] at h1
        exact ⟨a, bs, rfl, h1, CallD.fin r k q rfl⟩
      · exact q.elim
    · exact q.elim
theorem cd_any : CallD X (rAny X.K) oAny := by
  refine ⟨fun s ms P P' h q => ?_, fun F H σ s φ ms vs P Q r hl q k => ?_⟩
  · unfold oAny at q ⊢
    split at q
    · split at q
      · exact h _ q
      · exact q
    · exact q
  · unfold oAny at q
    split at q
    · split at q
      · rename_i bs e
        have r0 := r.one hl
        clear r
        obtain ⟨v, rfl, r⟩ := r0
        rw [Option.bind_eq_some_iff] at e
        obtain ⟨l, e1, e2⟩ := e
        obtain ⟨a, xs, rfl, h1, h2⟩ := r.seqL e1
        rw [blsD.vals h2 e2] at h1
        exact ⟨a, bs, rfl, h1, CallD.fin r k q rfl⟩
      · exact q.elim
    · exact q.elim

/-! ### tuple, list, dict -/
theorem RDk.keys {K : PySem.W.Frag} {F : Hp} : ∀ {kvs : List (D × D)} {ks : List (Key × V)}, RDk K F kvs ks → RDs K F (kvs.map (·.1)) (ks.map fun kv => kV kv.1)
  | [], _, h => by rw [show _ = [] from h]; exact rfl
  | (k, d) :: kvs, _, h => by
    obtain ⟨i, x, r, rfl, rfl, h1, h2⟩ := h
    exact ⟨kV i, _, rfl, by cases i <;> exact rfl, RDk.keys h2⟩
theorem RDs.kV {K : PySem.W.Frag} {F : Hp} : ∀ j : List Key, RDs K F (j.map dKey) (j.map L2.kV)
  | [] => rfl
  | k :: j => ⟨_, _, rfl, by cases k <;> exact rfl, RDs.kV j⟩
/-- a dict's key tuples, from now on known -/
theorem Res.keysT {K : PySem.W.Frag} {σ : L2.St} {H : Hp} {s : S} {φ : SLg} : ∀ {kvs : List (D × D)} {ks : List (List Key × V)} {bs : List Addr} {F : Hp}, Res K F H σ s φ → RDt K F kvs ks → IsKeys H ks bs → ∃ F', Same F F' ∧ Res K F' H σ s φ ∧ RDs K F' (kvs.map (·.1)) (bs.map V.ref)
  | [], _, bs, F, r, h, i => by
    rw [show _ = [] from h] at i
    cases i
    exact ⟨F, Same.refl F, r, rfl⟩
  | (k, d) :: kvs, _, bs, F, r, h, i => by
    obtain ⟨j, x, t, rfl, rfl, h1, h2⟩ := h
    cases i with
    | cons e i =>
      rename_i b bs
      obtain ⟨sm1, r1⟩ := r.frz e
      obtain ⟨F', sm2, r2, h3⟩ := Res.keysT r1 (RDt.mono sm1 h2) i
      exact ⟨F', sm1.trans sm2, r2, .ref b, _, rfl, ⟨b, _, rfl, sm2 _ _ upd_same, RDs.kV j⟩, h3⟩
def oTuple : WF := fun s ms P => match ms with
  | [m] => match seqA s m with
    | some l => P (.p (.tup l))
    | none => match dicM s m with
      | some kvs => P (.p (.tup (kvs.map (·.1))))
      | none => False
  | _ => False
def rTupA (K : PySem.W.Frag) : List V → Hp → VK → Prop := fun xs H Q => ((∃ p ys, xs = [.ref p] ∧ ((SqL K H p ys ∧ ∀ l, H l = none → Q (.ref l) (upd H l (.tup ys))) ∨ (SqT K H p ys ∧ Q (.ref p) H))) ∨
  (∃ d kvs, xs = [.ref d] ∧ H d = some (.dK kvs) ∧ ∀ q, H q = none → Q (.ref q) (upd H q (.tup (kvs.map fun kv => kV kv.1))))) ∨
  (∃ d kvs, xs = [.ref d] ∧ H d = some (.dT kvs) ∧ ∀ q bs, H q = none → IsKeys H kvs bs → Q (.ref q) (upd H q (.tup (bs.map V.ref))))
theorem call_tupA (hc : X.calm = true) : CallR X (.type "tuple") (rTupA X.K) := (call_tuple_of.or (call_tuple_dK hc)).or (call_tuple_dT hc)
theorem cd_tuple : CallD X (rTupA X.K) oTuple := by
  refine ⟨fun s ms P P' h q => ?_, fun F H σ s φ ms vs P Q r hl q k => ?_⟩
  · unfold oTuple at q ⊢
    split at q
    · split at q
      · exact h _ q
      · split at q
        · exact h _ q
        · exact q
    · exact q
  · unfold oTuple at q
    split at q
    · have r0 := r.one hl
      clear r
      obtain ⟨v, rfl, r⟩ := r0
      have new : ∀ {l : List D} {xs : List V} {p : Addr} {F1 : Hp} {m0 : M}, Same F F1 → Res X.K F1 H σ s (star (rv X.K σ m0 v) φ) → P (.p (.tup l)) → RDs X.K F1 l xs → H p = none → Q (.ref p) (upd H p (.tup xs)) := fun {l xs p F1 m0} sm1 r1 hp rd hn => by
        obtain ⟨sm, r'⟩ := r1.dropL.newF (o := .tup xs) hn
        exact k _ hp _ _ _ (sm1.trans sm) (r'.pushP ⟨p, xs, rfl, upd_same, rd.mono sm⟩)
      split at q
      · rename_i l e
        unfold seqA at e
        split at e
        · rename_i e1
          cases e
          obtain ⟨f, h, _⟩ := r.lk e1
          obtain ⟨a, xs, rfl, h1, h2⟩ := h
          exact .inl (.inl ⟨a, xs, rfl, .inl ⟨r.ff.seq h1, fun p hp => new (Same.refl F) r q h2 hp⟩⟩)
        · rename_i e1
          cases e
          obtain ⟨f, h⟩ := r.lk e1
          obtain ⟨a, xs, rfl, h1, _, h2, _⟩ := h
          exact .inl (.inl ⟨a, xs, rfl, .inl ⟨SqL.of h1, fun p hp => new (Same.refl F) r q h2 hp⟩⟩)
        · rename_i e1
          cases e
          obtain ⟨f, h, _⟩ := r.lk e1
          have rd := h
          obtain ⟨a, xs, rfl, h1, h2⟩ := h
          exact .inl (.inl ⟨a, xs, rfl, .inr ⟨SqT.of (r.ff _ _ h1), CallD.fin r k q rd⟩⟩)
        · cases e
      · split at q
        · rename_i kvs ek
          obtain ⟨a, rfl, ⟨ks, h1, h2⟩ | ⟨ks, h1, h2⟩⟩ := r.dicM ek
          · exact .inl (.inr ⟨a, ks, rfl, h1, fun p hp => new (Same.refl F) r q h2.keys hp⟩)
          · refine .inr ⟨a, ks, rfl, h1, fun p bs hp hk => ?_⟩
            obtain ⟨F1, sm1, r1, h3⟩ := r.keysT h2 hk
            exact new sm1 r1 q h3 hp
        · exact q.elim
    · exact q.elim
def oList : WF := fun s ms P => match ms with
  | [m] => match seqA s m with
    | some l => P (.ml l)
    | none => match dicM s m with
      | some kvs => P (.ml (kvs.map (·.1)))
      | none => False
  | _ => False
def rLstA (K : PySem.W.Frag) : List V → Hp → VK → Prop := fun xs H Q => ((∃ p ys, xs = [.ref p] ∧ (SqL K H p ys ∨ SqT K H p ys) ∧ ∀ l, H l = none → Q (.ref l) (upd H l (.lst ys))) ∨ rListD xs H Q) ∨
  (∃ d kvs, xs = [V.ref d] ∧ Rd H d (.dT kvs) ∧ ∀ p bs, H p = none → IsKeys H kvs bs → Q (.ref p) (upd H p (.lst (bs.map V.ref))))
theorem call_lstA (hc : X.calm = true) : CallR X (.type "list") (rLstA X.K) := (call_list_of.or (call_list_dK hc)).or (call_list_dT hc)
theorem Res.newL {K : PySem.W.Frag} {F H : Hp} {σ : L2.St} {s : S} {φ : SLg} {l : List D} {xs : List V} {p : Addr} (r : Res K F H σ s φ) (rd : RDs K F l xs) (hp : H p = none) : Res K F (upd H p (.lst xs)) σ s (star (rv K σ (.ml l) (.ref p)) φ) :=
  r.newO hp fun hF => ⟨Sd.one p, .inr ⟨p, xs, rfl, upd_same, hF, rd, fun _ => rfl⟩, fun _ => Nat.le_refl _⟩
theorem cd_list : CallD X (rLstA X.K) oList := by
  refine ⟨fun s ms P P' h q => ?_, fun F H σ s φ ms vs P Q r hl q k => ?_⟩
  · unfold oList at q ⊢
    split at q
    · split at q
      · exact h _ q
      · split at q
        · exact h _ q
        · exact q
    · exact q
  · unfold oList at q
    split at q
    · have r0 := r.one hl
      clear r
      obtain ⟨v, rfl, r⟩ := r0
      split at q
      · rename_i l e
        obtain ⟨a, xs, rfl, h1, h2⟩ := r.seqA e
        exact .inl (.inl ⟨a, xs, rfl, h1, fun p hp => k _ q _ _ _ (Same.refl F) (r.dropL.newL h2 hp)⟩)
      · split at q
        · rename_i kvs ek
          obtain ⟨a, rfl, ⟨ks, h1, h2⟩ | ⟨ks, h1, h2⟩⟩ := r.dicM ek
          · exact .inl (.inr ⟨a, ks, rfl, h1, fun p hp => k _ q _ _ _ (Same.refl F) (r.dropL.newL h2.keys hp)⟩)
          · refine .inr ⟨a, ks, rfl, .inl h1, fun p bs hp hk => ?_⟩
            obtain ⟨F1, sm1, r1, h3⟩ := r.keysT h2 hk
            exact k _ q _ _ _ sm1 (r1.dropL.newL h3 hp)
        · exact q.elim
    · exact q.elim
/-- dict(d) of a dict whose keys are scalars; dict(pairs) of a list of pairs -/
def pairsD : List D → Option (List (D × D))
  | [] => some []
  | .tup [k, v] :: l => if scaK k = true then (pairsD l).map ((k, v) :: ·) else none
  | _ => none
def oDict : WF := fun s ms P => match ms with
  | [m] => match dicM s m with
    | some kvs => (kvs.all fun p => !isTup p.1) = true ∧ P (.md kvs)
    | none => match (seqL s m).bind pairsD with
      | some kvs => P (.md (kvs.foldl (fun a p => dput a p.1 p.2) []))
      | none => False
  | _ => False
def rDctA (K : PySem.W.Frag) : List V → Hp → VK → Prop := fun xs H Q => ((∃ (a : Addr) (kvs : List (Key × V)), xs = [.ref a] ∧ Rd H a (.dK kvs) ∧ ∀ p, H p = none → Q (.ref p) (upd H p (.dK kvs))) ∨
  (∃ (a : Addr) (ps : List Addr) (kvs : List (Key × V)), xs = [.ref a] ∧ SqL K H a (ps.map V.ref) ∧ Paired (fun p kv => SqT K H p [kV kv.1, kv.2]) ps kvs ∧ ∀ p, H p = none → Q (.ref p) (upd H p (.dK (mergeK [] kvs))))) ∨
  (∃ a, xs = [.ref a] ∧ H a = some (.dT []) ∧ ∀ p, H p = none → Q (.ref p) (upd H p (.dK [])))
theorem call_dctA (hc : X.calm = true) : CallR X (.type "dict") (rDctA X.K) := (call_dictD.or (call_dictP hc)).or call_dictT
theorem Res.newD {K : PySem.W.Frag} {F H : Hp} {σ : L2.St} {s : S} {φ : SLg} {l : List (D × D)} {ks : List (Key × V)} {p : Addr} (r : Res K F H σ s φ) (rd : RDk K F l ks) (hp : H p = none) : Res K F (upd H p (.dK ks)) σ s (star (rv K σ (.md l) (.ref p)) φ) :=
  r.newO hp fun hF => ⟨Sd.one p, .inr ⟨p, rfl, hF, .inl ⟨ks, upd_same, rd⟩, fun _ => rfl⟩, fun _ => Nat.le_refl _⟩
theorem pairsD.vals {K : PySem.W.Frag} {F : Hp} : ∀ {l : List D} {xs : List V} {kvs : List (D × D)}, RDs K F l xs → pairsD l = some kvs → ∃ ps ks, xs = ps.map V.ref ∧ Paired (fun p kv => F p = some (.tup [kV kv.1, kv.2])) ps ks ∧ RDk K F kvs ks
  | [], _, _, h, e => by cases e; exact ⟨[], [], h, .nil, rfl⟩
  | d :: l, _, kvs, h, e => by
    obtain ⟨x, r, rfl, h1, h2⟩ := h
    unfold pairsD at e
    split at e
    · rename_i heq
      cases heq
    · rename_i k v l' heq
      cases heq
      split at e
      · rename_i hk
        rw [Option.map_eq_some_iff] at e
        obtain ⟨kvs', e1, rfl⟩ := e
        obtain ⟨j, rfl⟩ := scaK_key hk
        obtain ⟨ps, ks, rfl, g1, g2⟩ := pairsD.vals h2 e1
        obtain ⟨a, ys, rfl, ha, y1, r1, rfl, k1, y2, r2, rfl, k2, k3⟩ := h1
        cases (show r2 = [] from k3)
        rw [k1.key] at ha
        exact ⟨a :: ps, (j, y2) :: ks, rfl, .cons ha g1, j, y2, ks, rfl, rfl, k2, g2⟩
      · cases e
    · cases e
theorem mergeK_rd {K : PySem.W.Frag} {F : Hp} : ∀ {kvs : List (D × D)} {ks : List (Key × V)} {acc : List (D × D)} {ac : List (Key × V)}, RDk K F kvs ks → RDk K F acc ac → RDk K F (kvs.foldl (fun a p => dput a p.1 p.2) acc) (mergeK ac ks)
  | [], _, _, _, h, g => by rw [show _ = [] from h]; exact g
  | (k, d) :: kvs, _, _, _, h, g => by
    obtain ⟨i, x, r, rfl, rfl, h1, h2⟩ := h
    exact mergeK_rd (kvs := kvs) (ks := r) (acc := dput _ _ _) (ac := putK _ _ _) h2 (RDk.put h1 g)
theorem Paired.sq {K : PySem.W.Frag} {F H : Hp} (ff : Same F H) : ∀ {ps : List Addr} {ks : List (Key × V)}, Paired (fun p (kv : Key × V) => F p = some (.tup [kV kv.1, kv.2])) ps ks → Paired (fun p (kv : Key × V) => SqT K H p [kV kv.1, kv.2]) ps ks
  | _, _, .nil => .nil
  | _, _, .cons h t => .cons (SqT.of (ff _ _ h)) (Paired.sq ff t)
theorem cd_dict : CallD X (rDctA X.K) oDict := by
  refine ⟨fun s ms P P' h q => ?_, fun F H σ s φ ms vs P Q r hl q k => ?_⟩
  · unfold oDict at q ⊢
    split at q
    · split at q
      · exact ⟨q.1, h _ q.2⟩
      · split at q
        · exact h _ q
        · exact q
    · exact q
  · unfold oDict at q
    split at q
    · have r0 := r.one hl
      clear r
      obtain ⟨v, rfl, r⟩ := r0
      split at q
      · rename_i kvs ek
        obtain ⟨nt, q⟩ := q
        obtain ⟨a, rfl, ⟨ks, h1, h2⟩ | ⟨ks, h1, h2⟩⟩ := r.dicM ek
        · exact .inl (.inl ⟨a, ks, rfl, .inl h1, fun p hp => k _ q _ _ _ (Same.refl F) (r.dropL.newD h2 hp)⟩)
        · cases kvs with
          | cons p t =>
            have z := RDt.isTup h2 p List.mem_cons_self
            rw [List.all_cons, z] at nt
            cases nt
          | nil =>
            rw [show ks = [] from h2] at h1
            exact .inr ⟨a, rfl, h1, fun p hp => k _ q _ _ _ (Same.refl F) (r.dropL.newD (l := []) (ks := []) rfl hp)⟩
      · split at q
        · rename_i kvs e
          rw [Option.bind_eq_some_iff] at e
          obtain ⟨l, e1, e2⟩ := e
          obtain ⟨a, xs, rfl, h1, h2⟩ := r.seqL e1
          obtain ⟨ps, ks, rfl, g1, g2⟩ := pairsD.vals h2 e2
          exact .inl (.inr ⟨a, ps, ks, rfl, h1, Paired.sq r.ff g1, fun p hp => k _ q _ _ _ (Same.refl F) (r.dropL.newD (mergeK_rd g2 rfl) hp)⟩)
        · exact q.elim
    · exact q.elim

/-! ### int, str -/
def oInt : WF := fun s ms P => match ms with
  | [.p (.int i)] => P (.p (.int i))
  | [.p (.bl b)] => P (.p (.int (if b then 1 else 0)))
  | _ => False
theorem cd_int : CallD X (fun xs H Q => (∃ i, xs = [.int i] ∧ Q (.int i) H) ∨ ∃ k, xs = [.bl k] ∧ Q (.int (if k then 1 else 0)) H) oInt := by
  refine ⟨fun s ms P P' h q => ?_, fun F H σ s φ ms vs P Q r hl q k => ?_⟩
  · unfold oInt at q ⊢
    split at q
    · exact h _ q
    · exact h _ q
    · exact q
  · unfold oInt at q
    split at q
    · have r0 := r.one hl
      clear r
      obtain ⟨v, rfl, r⟩ := r0
      cases (show v = _ from r.getP)
      exact .inl ⟨_, rfl, CallD.fin r k q rfl⟩
    · have r0 := r.one hl
      clear r
      obtain ⟨v, rfl, r⟩ := r0
      cases (show v = _ from r.getP)
      exact .inr ⟨_, rfl, CallD.fin r k q rfl⟩
    · exact q.elim
def oStr : WF := fun s ms P => match ms with
  | [.p (.int i)] => i.natAbs.log2 < 1920 ∧ P (.p (.str (toString i)))
  | _ => False
theorem cd_str : CallD X (fun xs H Q => ∃ i, xs = [.int i] ∧ i.natAbs.log2 < 1920 ∧ Q (.str (toString i)) H) oStr := by
  refine ⟨fun s ms P P' h q => ?_, fun F H σ s φ ms vs P Q r hl q k => ?_⟩
  · unfold oStr at q ⊢
    split at q
    · exact ⟨q.1, h _ q.2⟩
    · exact q
  · unfold oStr at q
    split at q
    · have r0 := r.one hl
      clear r
      obtain ⟨v, rfl, r⟩ := r0
      cases (show v = _ from r.getP)
      exact ⟨_, rfl, q.1, CallD.fin r k q.2 rfl⟩
    · exact q.elim
/-! ### sum, max, min -/
def intsD : List D → Option (List Int)
  | [] => some []
  | .int b :: l => (intsD l).map (b :: ·)
  | _ => none
theorem intsD.vals {K : PySem.W.Frag} {F : Hp} : ∀ {l : List D} {xs : List V} {bs : List Int}, RDs K F l xs → intsD l = some bs → xs = bs.map V.int
  | [], _, _, h, e => by cases e; exact h
  | d :: l, _, bs, h, e => by
    obtain ⟨x, r, rfl, h1, h2⟩ := h
    cases d with
    | int b =>
      simp only [intsD, Option.map_eq_some_iff] at e
      obtain ⟨bs', e1, rfl⟩ := e
      rw [intsD.vals h2 e1, show x = .int b from h1]
      rfl
    | _ => cases e
def oSum : WF := fun s ms P => match ms with
  | [m] => match (seqL s m).bind intsD with
    | some ns => P (.p (.int ns.sum))
    | none => False
  | _ => False
theorem cd_sum : CallD X (rSum X.K) oSum := by
  refine ⟨fun s ms P P' h q => ?_, fun F H σ s φ ms vs P Q r hl q k => ?_⟩
  · unfold oSum at q ⊢
    split at q
    · split at q
      · exact h _ q
      · exact q
    · exact q
  · unfold oSum at q
    split at q
    · split at q
      · rename_i bs e
        have r0 := r.one hl
        clear r
        obtain ⟨v, rfl, r⟩ := r0
        rw [Option.bind_eq_some_iff] at e
        obtain ⟨l, e1, e2⟩ := e
        obtain ⟨a, xs, rfl, h1, h2⟩ := r.seqL e1
        rw [intsD.vals h2 e2] at h1
        exact ⟨a, bs, rfl, h1, CallD.fin r k q rfl⟩
      · exact q.elim
    · exact q.elim
def oMax : WF := fun s ms P => match ms with
  | [.p (.int i), .p (.int j)] => P (.p (.int (if j > i then j else i)))
  | [m] => match (seqL s m).bind intsD with
    | some ns => 0 < ns.length ∧ ∀ b, b ∈ ns → (∀ y, y ∈ ns → y ≤ b) → P (.p (.int b))
    | none => False
  | _ => False
def rMaxA (K : PySem.W.Frag) : List V → Hp → VK → Prop := fun xs H Q => (∃ i j, xs = [.int i, .int j] ∧ Q (.int (if j > i then j else i)) H) ∨ rMax K xs H Q
theorem call_maxA (hc : X.calm = true) : CallR X (.builtin "max") (rMaxA X.K) := (call_max2 hc).or (cr_max hc)
theorem cd_max : CallD X (rMaxA X.K) oMax := by
  refine ⟨fun s ms P P' h q => ?_, fun F H σ s φ ms vs P Q r hl q k => ?_⟩
  · unfold oMax at q ⊢
    split at q
    · exact h _ q
    · split at q
      · exact ⟨q.1, fun b h1 h2 => h _ (q.2 b h1 h2)⟩
      · exact q
    · exact q
  · unfold oMax at q
    split at q
    · have r0 := r.two hl
      clear r
      obtain ⟨v, u, rfl, r⟩ := r0
      have e1 : v = _ := r.getP
      have e2 : u = _ := r.dropL.getP
      subst e1 e2
      exact .inl ⟨_, _, rfl, CallD.fin r.dropL k q rfl⟩
    · split at q
      · rename_i bs e
        have r0 := r.one hl
        clear r
        obtain ⟨v, rfl, r⟩ := r0
        rw [Option.bind_eq_some_iff] at e
        obtain ⟨l, e1, e2⟩ := e
        obtain ⟨a, xs, rfl, h1, h2⟩ := r.seqL e1
        rw [intsD.vals h2 e2] at h1
        exact .inr ⟨a, bs, rfl, h1, q.1, fun m h1 h2 => CallD.fin r k (q.2 m h1 h2) rfl⟩
      · exact q.elim
    · exact q.elim
def oMin : WF := fun s ms P => match ms with
  | [.p (.int i), .p (.int j)] => P (.p (.int (if j < i then j else i)))
  | [m] => match (seqL s m).bind intsD with
    | some ns => 0 < ns.length ∧ ∀ b, b ∈ ns → (∀ y, y ∈ ns → b ≤ y) → P (.p (.int b))
    | none => False
  | _ => False
def rMinA (K : PySem.W.Frag) : List V → Hp → VK → Prop := fun xs H Q => (∃ i j, xs = [.int i, .int j] ∧ Q (.int (if j < i then j else i)) H) ∨ rMin K xs H Q
theorem call_minA (hc : X.calm = true) : CallR X (.builtin "min") (rMinA X.K) := (call_min2 hc).or (cr_min hc)
theorem cd_min : CallD X (rMinA X.K) oMin := by
  refine ⟨fun s ms P P' h q => ?_, fun F H σ s φ ms vs P Q r hl q k => ?_⟩
  · unfold oMin at q ⊢
    split at q
    · exact h _ q
    · split at q
      · exact ⟨q.1, fun b h1 h2 => h _ (q.2 b h1 h2)⟩
      · exact q
    · exact q
  · unfold oMin at q
    split at q
    · have r0 := r.two hl
      clear r
      obtain ⟨v, u, rfl, r⟩ := r0
      have e1 : v = _ := r.getP
      have e2 : u = _ := r.dropL.getP
      subst e1 e2
      exact .inl ⟨_, _, rfl, CallD.fin r.dropL k q rfl⟩
    · split at q
      · rename_i bs e
        have r0 := r.one hl
        clear r
        obtain ⟨v, rfl, r⟩ := r0
        rw [Option.bind_eq_some_iff] at e
        obtain ⟨l, e1, e2⟩ := e
        obtain ⟨a, xs, rfl, h1, h2⟩ := r.seqL e1
        rw [intsD.vals h2 e2] at h1
        exact .inr ⟨a, bs, rfl, h1, q.1, fun m h1 h2 => CallD.fin r k (q.2 m h1 h2) rfl⟩
      · exact q.elim
    · exact q.elim
end
/-! ### isinstance -/
inductive Ty where
  | str | tup | int | bl | lst
def Ty.nm : Ty → String
  | .str => "str"
  | .tup => "tuple"
  | .int => "int"
  | .bl => "bool"
  | .lst => "list"
def isD : Ty → D → Bool
  | .str, .str _ => true
  | .tup, .tup _ => true
  | .int, .int _ => true
  | .int, .bl _ => true
  | .bl, .bl _ => true
  | .lst, .lst _ => true
  | _, _ => false
def isM : Ty → M → Option Bool
  | t, .p d => some (isD t d)
  | .lst, .ml _ => some true
  | .lst, .mm _ => some true
  | _, .ml _ => some false
  | _, .mm _ => some false
  | _, .md _ => some false
  | _, .mdm _ => some false
  | _, _ => none
def nmD : D → String
  | .non => "NoneType"
  | .bl _ => "bool"
  | .int _ => "int"
  | .str _ => "str"
  | .tup _ => "tuple"
  | .lst _ => "list"
  | .dic _ => "dict"
def ixN : String → Ty → Bool := fun n t => n == t.nm || (n == "bool" && t.nm == "int")
theorem kit_all : ∀ n ∈ (["NoneType", "bool", "int", "str", "tuple", "list", "dict"] : List String), ∀ t ∈ [Ty.str, .tup, .int, .bl, .lst], kitB n t.nm = some (ixN n t) := by decide +kernel
theorem kit_t {n : String} (t : Ty) (h : n ∈ (["NoneType", "bool", "int", "str", "tuple", "list", "dict"] : List String)) : kitB n t.nm = some (ixN n t) := kit_all n h t (by cases t <;> simp)
theorem kit_d (t : Ty) (d : D) : kitB (nmD d) t.nm = some (isD t d) := by
  rw [kit_t t (by cases d <;> simp [nmD])]
  cases t <;> cases d <;> rfl
theorem RD.ty {K : PySem.W.Frag} {F H : Hp} {d : D} {v : V} (ff : Same F H) (h : RD K F d v) : TyX K H v (.type (nmD d)) := by
  cases d with
  | non => cases h; exact .base .non
  | bl b => cases h; exact .base (.bl b)
  | int b => cases h; exact .base (.int b)
  | str b => cases h; exact .base (.str b)
  | tup l =>
    obtain ⟨a, xs, rfl, h1, h2⟩ := h
    exact .base (.tup (ff _ _ h1))
  | lst l =>
    obtain ⟨a, xs, rfl, h1, h2⟩ := h
    rcases h1 with (h1 | ⟨o, h1⟩) | ⟨o, its, n, h1, h3, _⟩
    · exact .base (.lst (ff _ _ h1))
    · exact .base (.frz (ff _ _ h1))
    · exact .kList h1 h3
  | dic l =>
    obtain ⟨a, rfl, ⟨ks, h1, h2⟩ | ⟨ks, h1, h2⟩⟩ := h
    · exact .base (.dK (ff _ _ h1))
    · exact .base (.dT (ff _ _ h1))
theorem RM.ty {K : PySem.W.Frag} {F H : Hp} {m : M} {v : V} {f : FP} {t : Ty} {b : Bool} (ff : Same F H) (h : RM K F H m v f) (e : isM t m = some b) : ∃ n, TyX K H v (.type n) ∧ kitB n t.nm = some b := by
  have lst : ∀ {a : Addr} {xs : List V}, v = .ref a → H a = some (.lst xs) → ixN "list" t = b → ∃ n, TyX K H v (.type n) ∧ kitB n t.nm = some b := fun {a xs} ev h1 e => ⟨"list", ev ▸ .base (.lst h1), e ▸ kit_t t (by simp)⟩
  cases m with
  | p d =>
    cases e
    exact ⟨nmD d, h.1.ty ff, kit_d t d⟩
  | ml l =>
    obtain ⟨a, xs, ev, h1, _⟩ := h
    exact lst ev h1 (by cases t <;> cases e <;> rfl)
  | mm l =>
    obtain ⟨a, xs, f', ev, h1, _⟩ := h
    exact lst ev h1 (by cases t <;> cases e <;> rfl)
  | md l =>
    obtain ⟨a, rfl, _, ⟨ks, h1, _⟩ | ⟨ks, h1, _⟩, _⟩ := h
    · exact ⟨"dict", .base (.dK h1), by rw [kit_t t (by simp)]; cases t <;> cases e <;> rfl⟩
    · exact ⟨"dict", .base (.dT h1), by rw [kit_t t (by simp)]; cases t <;> cases e <;> rfl⟩
  | mdm l =>
    obtain ⟨a, ks, f', rfl, h1, _⟩ := h
    exact ⟨"dict", .base (.dK h1), by rw [kit_t t (by simp)]; cases t <;> cases e <;> rfl⟩
  | ob C fs => cases t <;> cases e
  | «at» i => cases t <;> cases e
  | any => cases t <;> cases e
  | rf a x => cases t <;> cases e
def eIsi (t : Ty) (w : WE) : WE := fun s P R => w s (fun m s1 => match (lk s1 m).bind (isM t) with
  | some b => P (.p (.bl b)) s1
  | none => False) R
section
variable {X : Cx} {cv : CV} {E : L2.St → XK} {e : Expr} {w : WE} {x : Str} {p p2 pos : Pos}
theorem de_isi (t : Ty) (hg : Gl X "isinstance") (hm : X.mg "isinstance" = none) (hgt : Gl X x) (hmt : X.mg x = none) (hv : bootBuiltins x = some (.type t.nm)) (ha : DE X cv E e w) (hn : x ≠ "__name__" := by decide) (hd : (x == ("__debug__" : Str)) = false := by decide) 
    (he : starEach [e, .Name x p2] X.env = (false, eval e X.env) :: starEach [.Name x p2] X.env := by rfl) (hpl : (backTo pos (starEach [e, .Name x p2] X.env)).any (·.1) = false := by rfl) (hpl2 : (backTo pos (starEach [.Name x p2] X.env)).any (·.1) = false := by rfl) : DE X cv E (.Call (.Name "isinstance" p) [e, .Name x p2] [] pos) (eIsi t w) := by
  refine ⟨PE.imp (pe_callB call_isi hg hm boot_isinstance (pa_cons ha.pe (pa_cons (pe_bltn hgt hmt hv (v := .ty t.nm) rfl hn hd) pa_nil) he) (by decide) (by decide) he hpl2) fun σ H Q q => ?_, fun s P P' R R' hp hR q => ha.mono s _ _ _ _ (fun m s1 q1 => ?_) hR q⟩
  · obtain ⟨F, s, φ, r, q⟩ := q
    refine liE.mk ha.mono r q (fun m s1 q1 v F1 H1 sm1 r1 => ?_) fun _ _ z => z
    split at q1
    · rename_i b e1
      rw [Option.bind_eq_some_iff] at e1
      obtain ⟨m', e1, e2⟩ := e1
      obtain ⟨f, h⟩ := r1.lk e1
      obtain ⟨n, h1, h2⟩ := h.ty r1.ff e2
      exact ⟨v, .ty t.nm, .type n, .type t.nm, b, rfl, .ty _, h1, kit_ty h2, q1 _ F1 H1 sm1 (r1.dropL.pushP rfl)⟩
    · exact q1.elim
  · split at q1
    · exact hp _ _ q1
    · exact q1
end
end Sd
set_option maxHeartbeats 1000000
/-! SdG: methods; what lies in slots is written. -/
namespace Sd
open PySem PySem.Spec PyProof.Rows L2
variable [Tb]
section
variable {K : PySem.W.Frag} {F H : Hp} {σ : L2.St} {s : S} {φ : SLg} {i : Nat} {v : V}
theorem Res.atV (r : Res K F H σ s (star (rv K σ (.at i) v) φ)) : σ[i]? = some (some v) := by
  obtain ⟨f, hf⟩ := r.get
  rcases hf with ⟨j, e, h, _⟩ | h
  · cases e
    exact h
  · exact h.elim
theorem get_lt {α : Type} {l : List α} {i : Nat} {a : α} (e : l[i]? = some a) : i < l.length := by
  rw [List.getElem?_eq_some_iff] at e
  exact e.1
/-- an owned list in a slot: what it holds, and how it is changed -/
theorem Res.lstAt {l : List D} (r : Res K F H σ s φ) (e : s[i]? = some (some (.ml l))) (ev : σ[i]? = some (some v)) :
    ∃ a xs, v = .ref a ∧ H a = some (.lst xs) ∧ RDs K F l xs ∧ ∀ l' ys, RDs K F l' ys → Res K F (upd H a (.lst ys)) σ (s.set i (some (.ml l'))) φ := by
  obtain ⟨v, e1, r1⟩ := r.out e
  rw [ev] at e1
  cases e1
  obtain ⟨f, hf⟩ := r1.get
  rcases hf with ⟨_, e2, _⟩ | hf
  · cases e2
  obtain ⟨a, xs, rfl, h1, h2, h3, h4⟩ := hf
  refine ⟨a, xs, rfl, h1, h3, fun l' ys rd => ?_⟩
  refine Res.back (m := .ml l') rfl (Res.write r1 fun f' hf' => ?_) (get_lt e) ev
  rcases hf' with ⟨_, e2, _⟩ | hf'
  · cases e2
  obtain ⟨a', xs', e2, g1, g2, g3, g4⟩ := hf'
  cases e2
  exact ⟨by rw [g4 a, one_self]; decide, fun _ => ⟨f', .inr ⟨a, ys, rfl, upd_same, g2, rd, g4⟩, fun _ => Nat.le_refl _⟩⟩
/-- an owned dict in a slot -/
theorem Res.dicAt {kvs : List (D × D)} (r : Res K F H σ s φ) (e : s[i]? = some (some (.md kvs))) (ev : σ[i]? = some (some v)) :
    ∃ a, v = .ref a ∧ DicAt K F H a kvs ∧ ∀ k d y z, RD K F k y → RD K F d z → fitK kvs k = true → kvs.length < sizeLine → ∃ H', PutE H a y z H' ∧ Res K F H' σ (s.set i (some (.md (Sd.dput kvs k d)))) φ := by
  obtain ⟨v, e1, r1⟩ := r.out e
  rw [ev] at e1
  cases e1
  have hd : ∃ a, v = .ref a ∧ DicAt K F H a kvs := by
    obtain ⟨f, hf⟩ := r1.get
    rcases hf with ⟨_, e2, _⟩ | hf
    · cases e2
    obtain ⟨a, e2, h2, h3, _⟩ := hf
    exact ⟨a, e2, h3⟩
  obtain ⟨a, rfl, hd⟩ := hd
  refine ⟨a, rfl, hd, fun k d y z hk hz fit hl => ?_⟩
  have r2 : Res K F H σ (s.set i none) (star (rv K [] (.md kvs) (.ref a)) φ) := r1.imp fun f ⟨f1, f2, q1, q2, q3⟩ => ⟨f, ⟨f1, f2, rv_noAt rfl q1, q2, q3⟩, fun _ => Nat.le_refl _⟩
  obtain ⟨H', pu, r3⟩ := r2.dput hk hz fit hl
  exact ⟨H', pu, Res.back (m := .md (Sd.dput kvs k d)) rfl (r3.imp fun f ⟨f1, f2, q1, q2, q3⟩ => ⟨f, ⟨f1, f2, rv_noAt rfl q1, q2, q3⟩, fun _ => Nat.le_refl _⟩) (get_lt e) ev⟩
end
/-! ### methods -/
inductive Tm where
  | str | lst | dic
def Tm.nm : Tm → String
  | .str => "str"
  | .lst => "list"
  | .dic => "dict"
def tmM : Tm → S → M → Bool
  | .str, _, .p (.str _) => true
  | .lst, s, m => match lk s m with
    | some (.p (.lst _)) => true
    | some (.ml _) => true
    | some (.mm _) => true
    | _ => false
  | .dic, s, m => match lk s m with
    | some (.p (.dic _)) => true
    | some (.md _) => true
    | some (.mdm _) => true
    | _ => false
  | _, _, _ => false
theorem Res.tm {K : PySem.W.Frag} {F H : Hp} {σ : L2.St} {s : S} {φ : SLg} {m : M} {v : V} {t : Tm} (r : Res K F H σ s (star (rv K σ m v) φ)) (e : tmM t s m = true) : tyV K t.nm v H := by
  cases t with
  | str =>
    unfold tmM at e
    split at e
    · rw [show v = .str _ from r.getP]
      rfl
    · cases ‹_ = Tm.lst›
    · cases ‹_ = Tm.dic›
    · cases e
  | lst =>
    have e : (match Sd.lk s m with
      | some (.p (.lst _)) => true
      | some (.ml _) => true
      | some (.mm _) => true
      | _ => false) = true := e
    split at e
    · rename_i e1
      obtain ⟨f, h, _⟩ := r.lk e1
      obtain ⟨a, xs, rfl, h1, h2⟩ := h
      exact .inl ⟨rfl, xs, r.ff.seq h1⟩
    · rename_i e1
      obtain ⟨f, h⟩ := r.lk e1
      obtain ⟨a, xs, rfl, h1, _⟩ := h
      exact .inl ⟨rfl, xs, SqL.of h1⟩
    · rename_i e1
      obtain ⟨f, h⟩ := r.lk e1
      obtain ⟨a, xs, f', rfl, h1, _⟩ := h
      exact .inl ⟨rfl, xs, SqL.of h1⟩
    · cases e
  | dic =>
    have e : (match Sd.lk s m with
      | some (.p (.dic _)) => true
      | some (.md _) => true
      | some (.mdm _) => true
      | _ => false) = true := e
    split at e
    · rename_i e1
      obtain ⟨f, h, _⟩ := r.lk e1
      obtain ⟨a, rfl, ⟨ks, h1, _⟩ | ⟨ks, h1, _⟩⟩ := h
      · exact .inr (.inr (.inl ⟨rfl, .inl ⟨ks, r.ff _ _ h1⟩⟩))
      · exact .inr (.inr (.inl ⟨rfl, .inr ⟨ks, r.ff _ _ h1⟩⟩))
    · rename_i e1
      obtain ⟨f, h⟩ := r.lk e1
      obtain ⟨a, rfl, _, ⟨ks, h1, _⟩ | ⟨ks, h1, _⟩, _⟩ := h
      · exact .inr (.inr (.inl ⟨rfl, .inl ⟨ks, h1⟩⟩))
      · exact .inr (.inr (.inl ⟨rfl, .inr ⟨ks, h1⟩⟩))
    · rename_i e1
      obtain ⟨f, h⟩ := r.lk e1
      obtain ⟨a, ks, f', rfl, h1, _⟩ := h
      exact .inr (.inr (.inl ⟨rfl, .inl ⟨ks, h1⟩⟩))
    · cases e
abbrev WM := S → M → List M → (M → S → Prop) → Prop
/-- what makes a method's rule one over data -/
structure MthD (X : Cx) (r : V → List V → Hp → VK → Prop) (o : WM) : Prop where
  mono : ∀ s x ms P P', (∀ m s, P m s → P' m s) → o s x ms P → o s x ms P'
  to : ∀ (F H : Hp) (σ : L2.St) (s : S) (φ : SLg) (x : M) (ms : List M) (v : V) (vs : List V) (P : M → S → Prop) (Q : VK), Res X.K F H σ s (star (rvs X.K σ ms vs) (star (rv X.K σ x v) φ)) → vs.length = ms.length → o s x ms P →
    (∀ m s', P m s' → ∀ u F' H', Same F F' → Res X.K F' H' σ s' (star (rv X.K σ m u) φ) → Q u H') → r v vs H Q
def eMt (t : Tm) (o : WM) (wo : WE) (wa : WA) : WE := fun s P R => wo s (fun x s1 => tmM t s1 x = true ∧ wa s1 (fun ms s2 => o s2 x ms P) R) R
theorem eMt.mono {t : Tm} {o : WM} {wo : WE} {wa : WA} (ho : ∀ s x ms P P', (∀ m s, P m s → P' m s) → o s x ms P → o s x ms P') (hw : MonoE wo) (ha : MonoA wa) : MonoE (eMt t o wo wa) := fun s P P' R R' hp hR q =>
  hw s _ _ _ _ (fun x s1 q1 => ⟨q1.1, ha s1 _ _ _ _ (fun ms s2 q2 => ho _ _ _ _ _ hp q2) hR q1.2⟩) hR q
section
variable {X : Cx} {cv : CV} {E : L2.St → XK} {o e : Expr} {es : List Expr} {wo : WE} {wa : WA} {name : Str} {apos cpos : Pos} {t : Tm} {id : String} {r : V → List V → Hp → VK → Prop} {om : WM}
theorem eMt.to (md : MthD X r om) (hw : DE X cv E o wo) (ha : DA X cv E es wa) {σ : L2.St} {H : Hp} {Q : VK} (q : liE X.K cv E (eMt t om wo wa) σ H Q) : tBM X.K t.nm r (liE X.K cv E wo) (liA X.K cv E wa) σ H Q := by
  obtain ⟨F, s, φ, rs, q⟩ := q
  refine liE.mk hw.mono rs q (fun x s1 q1 v F1 H1 sm1 r1 => ?_) fun _ _ z => z
  refine ⟨r1.tm q1.1, liA.mk ha.mono r1 q1.2 (fun ms s2 q2 vs F2 H2 sm2 hl r2 => ?_) fun x s2 z => okX.push z sm1⟩
  exact md.to F2 H2 σ s2 φ x ms v vs _ Q r2 hl q2 fun m s' q3 u F' H' sm r' => q3 u F' H' (sm1.trans (sm2.trans sm)) r'
theorem de_mt (pa : PlainAttrs t.nm) (slot : Slot t.nm name id) (hty : typeOf (.builtin id) = pure (.type "method_descriptor")) (hm : MtR X id r) (md : MthD X r om) (hw : DE X cv E o wo) (ha : DA X cv E (e :: es) wa)
    (hbase : attributeBase o name X.env (eval o X.env) = eval o X.env := by rfl)
    (hfew : ((backTo cpos (starEach (e :: es) X.env)).all (fun x => !x.1) && (backToKw cpos (keywordEach [] X.env)).all (fun x => x.1.isSome)
      && decide ((e :: es).length + ([] : List Keyword).length + (if ([] : List Keyword).isEmpty then 0 else 1) < 30)) = true := by rfl)
    (hline : (apos.endLine == cpos.line) = true := by rfl) (hs : starEach (e :: es) X.env = (false, eval e X.env) :: starEach es X.env := by rfl) (hplain : (backTo cpos (starEach es X.env)).any (·.1) = false := by rfl) :
    DE X cv E (.Call (.Attribute o name apos) (e :: es) [] cpos) (eMt t om wo wa) :=
  ⟨PE.imp (pe_bm pa slot hty hm hw.pe ha.pa hbase hfew hline hs hplain) fun _ _ _ q => eMt.to md hw ha q, eMt.mono md.mono hw.mono ha.mono⟩
theorem de_mt0 (pa : PlainAttrs t.nm) (slot : Slot t.nm name id) (hty : typeOf (.builtin id) = pure (.type "method_descriptor")) (hm : MtR X id r) (md : MthD X r om) (hw : DE X cv E o wo)
    (hbase : attributeBase o name X.env (eval o X.env) = eval o X.env := by rfl) (hline : (apos.endLine == cpos.line) = true := by rfl) : DE X cv E (.Call (.Attribute o name apos) [] [] cpos) (eMt t om wo aN) := by
  refine ⟨PE.imp (pe_bm0 pa slot hty hm hw.pe hbase hline) fun σ H Q q => ?_, eMt.mono md.mono hw.mono (da_nil (X := X) (cv := cv) (E := E)).mono⟩
  obtain ⟨F, s, φ, rs, q⟩ := q
  refine liE.mk hw.mono rs q (fun x s1 q1 v F1 H1 sm1 r1 => ?_) fun _ _ z => z
  exact ⟨r1.tm q1.1, md.to F1 H1 σ s1 φ x [] v [] _ Q (r1.with fun _ => rfl) rfl q1.2 fun m s' q3 u F' H' sm r' => q3 u F' H' (sm1.trans sm) r'⟩
end
end Sd
set_option maxHeartbeats 1000000
/-! SdM: the methods of lists, dicts, texts. -/
namespace Sd
open PySem PySem.Spec PyProof.Rows L2
variable [Tb]
section
variable {X : Cx}
theorem MthD.fin {K : PySem.W.Frag} {F H : Hp} {σ : L2.St} {s : S} {φ : SLg} {P : M → S → Prop} {Q : VK} {d : D} {v : V} (k : ∀ m s', P m s' → ∀ u F' H', Same F F' → Res K F' H' σ s' (star (rv K σ m u) φ) → Q u H') (r : Res K F H σ s φ) (p : P (.p d) s) (h : RD K F d v) : Q v H :=
  k _ _ p v F H (Same.refl F) (r.pushP h)
theorem Res.one' {K : PySem.W.Frag} {F H : Hp} {σ : L2.St} {s : S} {φ : SLg} {m : M} {vs : List V} (r : Res K F H σ s (star (rvs K σ [m] vs) φ)) (h : vs.length = [m].length) : ∃ v, vs = [v] ∧ Res K F H σ s (star (rv K σ m v) φ) := r.one h
theorem Res.two' {K : PySem.W.Frag} {F H : Hp} {σ : L2.St} {s : S} {φ : SLg} {m n : M} {vs : List V} (r : Res K F H σ s (star (rvs K σ [m, n] vs) φ)) (h : vs.length = [m, n].length) : ∃ v u, vs = [v, u] ∧ Res K F H σ s (star (rv K σ m v) (star (rv K σ n u) φ)) := r.two h
/-! ### lists -/
def oApp : WM := fun s x ms P => match x, ms with
  | .at i, [.p d] => match s[i]? with
    | some (some (.ml l)) => l.length < sizeLine ∧ P (.p .non) (s.set i (some (.ml (l ++ [d]))))
    | _ => False
  | _, _ => False
theorem md_append : MthD X rAppend oApp := by
  refine ⟨fun s x ms P P' h q => ?_, fun F H σ s φ x ms v vs P Q r hl q k => ?_⟩
  · unfold oApp at q ⊢
    split at q
    · split at q
      · exact ⟨q.1, h _ _ q.2⟩
      · exact q
    · exact q
  · unfold oApp at q
    split at q
    · split at q
      · rename_i i d _ l e
        obtain ⟨u, rfl, r1⟩ := r.one' hl
        have rd := r1.getP
        obtain ⟨a, xs, rfl, h1, h2, w⟩ := r1.dropL.dropL.lstAt e r1.dropL.atV
        refine ⟨a, xs, u, rfl, rfl, h1, by rw [h2.length]; exact q.1, ?_⟩
        exact MthD.fin k (w (l ++ [d]) _ (h2.append ⟨u, [], rfl, rd, rfl⟩)) q.2 rfl
      · exact q.elim
    · exact q.elim
def oExt : WM := fun s x ms P => match x, ms with
  | .at i, [m] => match s[i]?, seqA s m with
    | some (some (.ml l)), some l2 => l.length + l2.length ≤ sizeLine ∧ P (.p .non) (s.set i (some (.ml (l ++ l2))))
    | _, _ => False
  | _, _ => False
theorem md_extend : MthD X (rExtG X.K) oExt := by
  refine ⟨fun s x ms P P' h q => ?_, fun F H σ s φ x ms v vs P Q r hl q k => ?_⟩
  · unfold oExt at q ⊢
    split at q
    · split at q
      · exact ⟨q.1, h _ _ q.2⟩
      · exact q
    · exact q
  · unfold oExt at q
    split at q
    · split at q
      · rename_i i m l l2 e e2
        obtain ⟨u, rfl, r1⟩ := r.one' hl
        obtain ⟨b, ys, rfl, g1, g2⟩ := r1.seqA e2
        obtain ⟨a, xs, rfl, h1, h2, w⟩ := r1.dropL.dropL.lstAt e r1.dropL.atV
        refine ⟨a, b, xs, ys, rfl, rfl, h1, g1, by rw [h2.length, g2.length]; exact q.1, ?_⟩
        exact MthD.fin k (w _ _ (h2.append g2)) q.2 rfl
      · exact q.elim
    · exact q.elim
def oPop : WM := fun s x ms P => match x, ms with
  | .at i, [] => match s[i]? with
    | some (some (.ml l)) => match l.getLast? with
      | some d => P (.p d) (s.set i (some (.ml l.dropLast)))
      | none => False
    | _ => False
  | _, _ => False
theorem md_pop : MthD X rPop oPop := by
  refine ⟨fun s x ms P P' h q => ?_, fun F H σ s φ x ms v vs P Q r hl q k => ?_⟩
  · unfold oPop at q ⊢
    split at q
    · split at q
      · split at q
        · exact h _ _ q
        · exact q
      · exact q
    · exact q
  · unfold oPop at q
    split at q
    · split at q
      · split at q
        · rename_i i _ l e _ d ed
          have e0 := List.eq_nil_of_length_eq_zero hl
          subst e0
          have r1 := r.dropL
          obtain ⟨a, xs, rfl, h1, h2, w⟩ := r1.dropL.lstAt e r1.atV
          rw [List.getLast?_eq_getElem?] at ed
          obtain ⟨y, e1, rd⟩ := h2.get ed
          refine ⟨a, xs, y, rfl, rfl, h1, by rw [h2.length]; exact e1, ?_⟩
          exact MthD.fin k (w _ _ h2.dropLast) q rd
        · exact q.elim
      · exact q.elim
    · exact q.elim

/-! ### dicts -/
def rDget2 (K : PySem.W.Frag) : V → List V → Hp → VK → Prop := fun x xs H Q => ∃ F kvs k a y z, Same F H ∧ x = .ref a ∧ xs = [y, z] ∧ DicAt K F H a kvs ∧ RD K F k y ∧ fitK kvs k = true ∧ (∀ d, dget kvs k = some d → ∀ v, RD K F d v → Q v H) ∧ (dget kvs k = none → Q z H)
theorem mt_dget2 (hu : X.A.units + 1 < cLine) : MtR X "dict.get" (rDget2 X.K) := by
  rintro pins s σ H x xs v us Q I rx rxs ⟨F, kvs, k, a, y, z, ff, rfl, rfl, hd, hk, fit, q1, q2⟩
  cases rx
  obtain ⟨w1, w2, rfl, ry, rz⟩ := rxs.two
  obtain ⟨H1, o, I1, g, f, back⟩ := dict_look I ff hd hk fit
  refine d_get2 hu I1 g ry rz fun w' s' I' rw' => ?_
  cases e : dget kvs k with
  | some d =>
    obtain ⟨v, rfl, rd⟩ := f.yes d e
    exact ⟨v, H, back _ I', rw', q1 d e v rd⟩
  | none =>
    have := f.no e
    subst this
    exact ⟨z, H, back _ I', rw', q2 e⟩
def oGet : WM := fun s x ms P => match ms with
  | [.p k, m] => match dicM s x with
    | some kvs => fitK kvs k = true ∧ match dget kvs k with
      | some d => P (.p d) s
      | none => P m s
    | none => False
  | _ => False
theorem md_get : MthD X (rDget2 X.K) oGet := by
  refine ⟨fun s x ms P P' h q => ?_, fun F H σ s φ x ms v vs P Q r hl q k => ?_⟩
  · unfold oGet at q ⊢
    split at q
    · split at q
      · refine ⟨q.1, ?_⟩
        have q2 := q.2
        split at q2
        · exact h _ _ q2
        · exact h _ _ q2
      · exact q
    · exact q
  · unfold oGet at q
    split at q
    · rename_i k' m
      split at q
      · rename_i kvs ek
        obtain ⟨y, z, rfl, r1⟩ := r.two' hl
        have rk := r1.getP
        have r2 := r1.dropL
        obtain ⟨a, rfl, hd⟩ := r2.dropL.dicM ek
        refine ⟨F, kvs, k', a, y, z, r.ff, rfl, rfl, hd, rk, q.1, fun d e u rd => ?_, fun e => ?_⟩
        · have q2 := q.2
          rw [e] at q2
          exact MthD.fin k r2.dropL.dropL q2 rd
        · have q2 := q.2
          rw [e] at q2
          exact k _ _ q2 z F H (Same.refl F) r2.swap.dropL
      · exact q.elim
    · exact q.elim
/-- d.setdefault(k, v), keys scalars -/
def rDsetd (K : PySem.W.Frag) : V → List V → Hp → VK → Prop := fun x xs H Q => ∃ F kvs k a y z, Same F H ∧ x = .ref a ∧ xs = [y, z] ∧ DicAt K F H a kvs ∧ RD K F k y ∧ fitK kvs k = true ∧ isTup k = false ∧ kvs.length < sizeLine ∧
  (∀ d, dget kvs k = some d → ∀ v, RD K F d v → Q v H) ∧ (dget kvs k = none → ∃ H', PutE H a y z H' ∧ Q z H')
theorem kV_inj {a b : Key} (e : kV a = kV b) : a = b := by
  cases a <;> cases b <;> simp [kV] at e <;> simp [e]
theorem kV_ref {a : Key} {b : Addr} (e : kV a = .ref b) : False := by cases a <;> cases e
theorem DPut.only {H H' : Hp} {a : Addr} {j : Key} {z : V} {ks : List (Key × V)} (p : DPut H a (kV j) z H') (e : H a = some (.dK ks)) : H' = upd H a (.dK (putK ks j z)) := by
  rcases p with ⟨kvs, k, e1, ey, _, rfl⟩ | ⟨kvs, k, b, e1, ey, _⟩
  · rw [e] at e1
    cases e1
    rw [kV_inj ey]
  · exact (kV_ref ey).elim
theorem PutE.k {H H' : Hp} {a : Addr} {j : Key} {z : V} {ks : List (Key × V)} (p : PutE H a (kV j) z H') (e : H a = some (.dK ks)) : H' = upd H a (.dK (putK ks j z)) := by
  rcases p with p | ⟨e1, p⟩ | ⟨e1, _⟩
  · exact DPut.only p e
  · rcases p with ⟨kvs, k, e2, _⟩ | ⟨kvs, k, b, e2, ey, _⟩
    · rw [upd_same] at e2
      cases e2
    · exact (kV_ref ey).elim
  · rw [e] at e1
    cases e1
theorem PutE.t {H H' : Hp} {a : Addr} {j : Key} {z : V} (p : PutE H a (kV j) z H') (e : H a = some (.dT [])) : H' = upd (upd H a (.dK [])) a (.dK (putK [] j z)) := by
  rcases p with p | ⟨e1, p⟩ | ⟨e1, p⟩
  · rcases p with ⟨kvs, k, e2, _⟩ | ⟨kvs, k, b, e2, ey, _⟩
    · rw [e] at e2
      cases e2
    · exact (kV_ref ey).elim
  · rw [e] at e1
    cases e1
  · exact DPut.only p upd_same
theorem mt_dsetd : MtR X "dict.setdefault" (rDsetd X.K) := by
  rintro pins s σ H x xs v us Q I rx rxs ⟨F, kvs, k, a, y, z, ff, rfl, rfl, hd, hk, fit, nt, hl, q1, q2⟩
  cases rx
  obtain ⟨w1, w2, rfl, ry, rz⟩ := rxs.two
  obtain ⟨ok, al⟩ := fit_all fit
  have hj : ∃ j, k = dKey j := by
    cases k with
    | int i => exact ⟨.inl i, rfl⟩
    | str i => exact ⟨.inr i, rfl⟩
    | tup l => cases nt
    | _ => cases ok
  obtain ⟨j, rfl⟩ := hj
  have ey := hk.key
  subst ey
  rcases hd with ⟨ks, h1, h2⟩ | ⟨ks, h1, h2⟩
  · obtain ⟨g1, g2⟩ := RDk.get j h2
    have hl' : ks.length < sizeLine := by rw [h2.length]; exact hl
    refine d_setd I h1 ry rz hl' (fun v hv w' s' I' rv' => ?_) fun hv w' s' I' rv' => ?_
    · cases e : dget kvs (dKey j) with
      | some d =>
        obtain ⟨v', e2, rd⟩ := g1 d e
        rw [hv] at e2
        cases e2
        exact ⟨v, H, I', rv', q1 d e v rd⟩
      | none =>
        rw [g2 e] at hv
        cases hv
    · cases e : dget kvs (dKey j) with
      | some d =>
        obtain ⟨v', e2, rd⟩ := g1 d e
        rw [hv] at e2
        cases e2
      | none =>
        obtain ⟨H', pu, q3⟩ := q2 e
        rw [PutE.k pu h1] at q3
        exact ⟨z, _, I', rv', q3⟩
  · cases kvs with
    | cons p t =>
      have z1 := RDt.isTup h2 p List.mem_cons_self
      have z2 := al p List.mem_cons_self
      rw [z1, nt] at z2
      cases z2
    | nil =>
      rw [show ks = [] from h2] at h1
      have I1 := emptyTK I h1
      refine d_setd I1 (kvs := []) (k := j) upd_same ry rz (by rw [sizeLine_eq]; decide) (fun v hv => by cases hv) fun hv w' s' I' rv' => ?_
      obtain ⟨H', pu, q3⟩ := q2 rfl
      rw [PutE.t pu h1] at q3
      exact ⟨z, _, I', rv', q3⟩
def oSetd : WM := fun s x ms P => match x, ms with
  | .at i, [.p k, .p d] => match s[i]? with
    | some (some (.md kvs)) => fitK kvs k = true ∧ isTup k = false ∧ kvs.length < sizeLine ∧ match dget kvs k with
      | some d' => P (.p d') s
      | none => P (.p d) (s.set i (some (.md (dput kvs k d))))
    | _ => False
  | _, _ => False
theorem md_setd : MthD X (rDsetd X.K) oSetd := by
  refine ⟨fun s x ms P P' h q => ?_, fun F H σ s φ x ms v vs P Q r hl q k => ?_⟩
  · unfold oSetd at q ⊢
    split at q
    · split at q
      · refine ⟨q.1, q.2.1, q.2.2.1, ?_⟩
        have q2 := q.2.2.2
        split at q2
        · exact h _ _ q2
        · exact h _ _ q2
      · exact q
    · exact q
  · unfold oSetd at q
    split at q
    · rename_i i k' d
      split at q
      · rename_i kvs e
        obtain ⟨y, z, rfl, r1⟩ := r.two' hl
        have rk := r1.getP
        have rd := r1.dropL.getP
        have r2 := r1.dropL.dropL
        obtain ⟨a, rfl, hd, w⟩ := r2.dropL.dicAt e r2.atV
        refine ⟨F, kvs, k', a, y, z, r.ff, rfl, rfl, hd, rk, q.1, q.2.1, q.2.2.1, fun d' e' u rd' => ?_, fun e' => ?_⟩
        · have q2 := q.2.2.2
          rw [e'] at q2
          exact MthD.fin k r2.dropL q2 rd'
        · have q2 := q.2.2.2
          rw [e'] at q2
          obtain ⟨H2, pu2, r3⟩ := w k' d y z rk rd q.1 q.2.2.1
          exact ⟨H2, pu2, MthD.fin k r3 q2 rd⟩
      · exact q.elim
    · exact q.elim
end
end Sd
set_option maxHeartbeats 1000000
/-! SdS: stores by subscript; is; texts' methods. -/
namespace Sd
open PySem PySem.Spec PyProof.Rows L2
variable [Tb]
section
variable {X : Cx}
/-! ### is -/
def oIs (neg : Bool) : WO := fun s x y P => match x, y with
  | .p (.bl a), .p (.bl b) => P (.p (.bl (neg != decide (a = b))))
  | x, .p .non => match lk s x with
    | some m => P (.p (.bl (neg != isNon m)))
    | none => False
  | _, _ => False
def rIsG (neg : Bool) : R2 := fun x y H Q => (∃ a b : Bool, x = .bl a ∧ y = .bl b ∧ Q (.bl (neg != decide (a = b))) H) ∨ (y = .non ∧ Q (.bl (neg != decide (x = .non))) H)
theorem op_isG : OpR X (compareOp .Is) (rIsG false) := fun pins s σ H x y v u Q I rx ry h => by
  rcases h with ⟨a, b, e1, e2, q⟩ | ⟨e, q⟩
  · exact op_isBl pins s σ H x y v u Q I rx ry ⟨a, b, e1, e2, by simpa using q⟩
  · exact op_isN pins s σ H x y v u Q I rx ry ⟨e, by simpa using q⟩
theorem op_notG : OpR X (compareOp .IsNot) (rIsG true) := fun pins s σ H x y v u Q I rx ry h => by
  rcases h with ⟨a, b, e1, e2, q⟩ | ⟨e, q⟩
  · exact op_notBl pins s σ H x y v u Q I rx ry ⟨a, b, e1, e2, by simpa using q⟩
  · exact op_notN pins s σ H x y v u Q I rx ry ⟨e, by simpa using q⟩
theorem od_is {neg : Bool} : OpD X (rIsG neg) (oIs neg) := by
  refine ⟨fun s x y P P' h q => ?_, fun F H σ s φ x y vx vy P Q r q k => ?_⟩
  · unfold oIs at q ⊢
    split at q
    · exact h _ q
    · split at q
      · exact h _ q
      · exact q
    · exact q
  · unfold oIs at q
    split at q
    · exact .inl ⟨_, _, r.dropL.getP, r.getP, OpD.fin r.cossa k q rfl⟩
    · split at q
      · rename_i m e
        obtain ⟨f, h⟩ := r.dropL.lk e
        exact .inr ⟨r.getP, OpD.fin r.cossa k q (by rw [h.non (fun z => lk_any (z ▸ e))]; rfl)⟩
      · exact q.elim
    · exact q.elim
/-! ### stores by subscript -/
abbrev WSt := S → M → M → M → (S → Prop) → Prop
structure StD (X : Cx) (t : TSet) (o : WSt) : Prop where
  mono : ∀ s x y z Q Q', (∀ s, Q s → Q' s) → o s x y z Q → o s x y z Q'
  to : ∀ (F H : Hp) (σ : L2.St) (s : S) (φ : SLg) (x y z : M) (vx vy vz : V) (P : S → Prop) (Q : Hp → Prop), Res X.K F H σ s (star (rv X.K σ y vy) (star (rv X.K σ x vx) (star (rv X.K σ z vz) φ))) → o s x y z P →
    (∀ s', P s' → ∀ H', Res X.K F H' σ s' φ → Q H') → t vx vy vz H Q
def gSb (o : WSt) (wo wi : WE) : WG := fun m s Q => wo s (fun x s1 => wi s1 (fun y s2 => o s2 x y m Q) noR) noR
theorem gSb.mono {o : WSt} {wo wi : WE} (h1 : MonoE wo) (h2 : MonoE wi) (ho : ∀ s x y z Q Q', (∀ s, Q s → Q' s) → o s x y z Q → o s x y z Q') : MonoG' (gSb o wo wi) := fun m s Q Q' h q =>
  h1 _ _ _ _ _ (fun x s1 q1 => h2 _ _ _ _ _ (fun y s2 q2 => ho _ _ _ _ _ _ h q2) (fun _ _ z => z) q1) (fun _ _ z => z) q
theorem dg_sub {cv : CV} {E : L2.St → XK} {P : List Nat} {t : TSet} {os : WSt} {o i : Expr} {wo wi : WE} {pos : Pos} (ho : DE X cv E o wo) (hi : DE X cv E i wi) (hs : PSet X t) (sd : StD X t os)
    (ha : ∀ v, assign (.Subscript o i pos) X.env v = (do
      let ov ← holding [v] (eval o X.env)
      let iv ← holding [v, ov] (eval i X.env)
      standAt pos
      holding [v, ov, iv] (setItem ov iv v)
      release [v, ov, iv] []) := by intro _; rfl) : DG X P (.Subscript o i pos) (gSb os wo wi) := by
  refine ⟨PG.imp (pg_sub (t := t) ho.pe hi.pe hs ha) fun v σ H Q q => ?_, gSb.mono ho.mono hi.mono sd.mono⟩
  obtain ⟨F, s, φ, pv, m, ep, po, r, q⟩ := q
  refine liE.mk ho.mono r q (fun x s1 q1 vx F1 H1 sm1 r1 => ?_) (fun _ _ z => z.elim)
  refine liE.mk hi.mono r1 q1 (fun y s2 q2 vy F2 H2 sm2 r2 => ?_) (fun _ _ z => z.elim)
  exact sd.to F2 H2 σ s2 φ x y m vx vy v _ _ r2 q2 fun s' q3 H' r' => q3 σ F2 H' po (sm1.trans sm2) r'
/-- of a list or a dict in a slot -/
def oSt : WSt := fun s x y z Q => match x, z with
  | .at i, .p d => match s[i]?, y with
    | some (some (.ml l)), .p (.int k) => match L2.ixN l.length k with
      | some j => Q (s.set i (some (.ml (l.set j d))))
      | none => False
    | some (some (.md kvs)), .p k => fitK kvs k = true ∧ kvs.length < sizeLine ∧ Q (s.set i (some (.md (dput kvs k d))))
    | _, _ => False
  | _, _ => False
def rSetA : TSet := fun o i v H Q => rSetL o i v H Q ∨ (∃ a H', o = .ref a ∧ PutE H a i v H' ∧ Q H')
theorem set_any (hu : X.A.units + 1 < cLine) : PSet X rSetA := fun pins s σ H o i v ov iv u Q I ro ri rv h => by
  rcases h with h | ⟨a, H', rfl, pu, q⟩
  · exact set_list pins s σ H o i v ov iv u Q I ro ri rv h
  · cases ro
    exact putE_set hu I pu ri rv fun s' I' => ⟨H', I', q⟩
theorem sd_any : StD X rSetA oSt := by
  refine ⟨fun s x y z Q Q' h q => ?_, fun F H σ s φ x y z vx vy vz P Q r q k => ?_⟩
  · unfold oSt at q ⊢
    split at q
    · split at q
      · split at q
        · exact h _ q
        · exact q
      · exact ⟨q.1, q.2.1, h _ q.2.2⟩
      · exact q
    · exact q
  · unfold oSt at q
    split at q
    · split at q
      · rename_i i d _ _ l k' e
        split at q
        · rename_i j ej
          have ry := r.getP
          have rz := r.dropL.dropL.getP
          have ev := r.dropL.atV
          obtain ⟨a, xs, rfl, h1, h2, w⟩ := r.dropL.dropL.dropL.lstAt e ev
          refine .inl ⟨a, xs, k', j, rfl, ry, h1, by rw [h2.length]; exact ej, k _ q _ (w (l.set j d) _ (h2.set rz j))⟩
        · exact q.elim
      · rename_i i d _ _ kvs k' e
        have ry := r.getP
        have rz := r.dropL.dropL.getP
        have ev := r.dropL.atV
        obtain ⟨a, rfl, _, w⟩ := r.dropL.dropL.dropL.dicAt e ev
        obtain ⟨H', pu, r'⟩ := w k' d vy vz ry rz q.1 q.2.1
        exact .inr ⟨a, H', rfl, pu, k _ q.2.2 _ r'⟩
      · exact q.elim
    · exact q.elim
/-! ### texts' methods -/
def oSS (c : Str → Str → Prop) (f : Str → Str → D) : WM := fun s x ms P => match x, ms with
  | .p (.str a), [.p (.str b)] => c a b ∧ P (.p (f a b)) s
  | _, _ => False
theorem oSS.mono {c : Str → Str → Prop} {f : Str → Str → D} : ∀ s x ms P P', (∀ m s, P m s → P' m s) → oSS c f s x ms P → oSS c f s x ms P' := fun s x ms P P' h q => by
  unfold oSS at q ⊢
  split at q
  · exact ⟨q.1, h _ _ q.2⟩
  · exact q
abbrev oEnds : WM := oSS (fun _ _ => True) fun a b => .bl (Txt.endswith a b)
theorem md_ends : MthD X (fun x xs H Q => ∃ a b, x = .str a ∧ xs = [.str b] ∧ Q (.bl (Txt.endswith a b)) H) oEnds := by
  refine ⟨oSS.mono, fun F H σ s φ x ms v vs P Q r hl q k => ?_⟩
  unfold oEnds oSS at q
  split at q
  · obtain ⟨u, rfl, r1⟩ := r.one' hl
    exact ⟨_, _, r1.dropL.getP, by rw [show u = .str _ from r1.getP], MthD.fin k r1.dropL.dropL q.2 rfl⟩
  · exact q.elim
end
end Sd
set_option maxHeartbeats 1000000
/-! SdZ: owned things that are to stay as they are from now on; {}. -/
namespace Sd
open PySem PySem.Spec PyProof.Rows L2
variable [Tb]
section
variable {K : PySem.W.Frag} {F H : Hp} {σ : L2.St} {s : S} {φ : SLg} {v : V}
/-- an owned object from now on known -/
theorem Res.fz {m : M} {d : D} {a : Addr} {o : HO} (r : Res K F H σ s (star (rv K σ m v) φ)) (ho : H a = some o) (hF : F a = none) (hf : ∀ f, (rv K σ m v).holds F H f → f a ≠ 0) (hd : RD K (upd F a o) d v) (hnt : ∀ ps, o ≠ .tbl ps := by intro ps z; cases z) :
    ∃ F', Same F F' ∧ Res K F' H σ s (star (rv K σ (.p d) v) φ) := by
  obtain ⟨f1, f2, h1, ⟨g1, g2, q1, q2, q3⟩, h3⟩ := r.ex
  have na := hf g1 q1
  have e := h3 a
  rw [q3 a] at e
  have n1 : f1 a = 0 := by omega
  have n2 : g2 a = 0 := by omega
  have sm : Same F (upd F a o) := fun b x e => by rw [upd_ne (ne_of_none e hF)]; exact e
  have kp : ∀ f : FP, f a = 0 → Kp F H (upd F a o) H f := fun f hz => ⟨sm, fun b n => ⟨rfl, fun hb => by
    rw [upd_ne (show b ≠ a from fun z => n (by rw [z]; exact hz))]
    exact hb⟩⟩
  refine ⟨upd F a o, sm, fun b x e => ?_, .upd r.tb.n r.tb.t hnt, f1, g2, RS.keep (kp f1 n1) h1, ⟨fun _ => 0, g2, .inr ⟨hd, fun _ => rfl⟩, φ.keep (kp g2 n2) q2, fun b => (Nat.zero_add _).symm⟩, fun b => by have := h3 b; have := q3 b; omega⟩
  by_cases eb : b = a
  · subst eb
    rw [upd_same] at e
    cases e
    exact ho
  · rw [upd_ne eb] at e
    exact r.ff _ _ e
theorem Res.fzL {l : List D} (r : Res K F H σ s (star (rv K σ (.ml l) v) φ)) : ∃ F', Same F F' ∧ Res K F' H σ s (star (rv K σ (.p (.lst l)) v) φ) := by
  obtain ⟨f, hf⟩ := r.get
  rcases hf with ⟨_, e, _⟩ | hf
  · cases e
  obtain ⟨a, xs, rfl, h1, h2, h3, h4⟩ := hf
  refine r.fz h1 h2 (fun f' hf' => ?_) ⟨a, xs, rfl, SqL.of upd_same, h3.mono fun b x e => by rw [upd_ne (ne_of_none e h2)]; exact e⟩
  rcases hf' with ⟨_, e, _⟩ | hf'
  · cases e
  obtain ⟨a', xs', e, _, _, _, g4⟩ := hf'
  cases e
  rw [g4 a, one_self]
  decide
theorem Res.fzD {l : List (D × D)} (r : Res K F H σ s (star (rv K σ (.md l) v) φ)) : ∃ F', Same F F' ∧ Res K F' H σ s (star (rv K σ (.p (.dic l)) v) φ) := by
  obtain ⟨f, hf⟩ := r.get
  rcases hf with ⟨_, e, _⟩ | hf
  · cases e
  obtain ⟨a, rfl, h2, h1, h4⟩ := hf
  have sm : ∀ o, Same F (upd F a o) := fun o b x e => by rw [upd_ne (ne_of_none e h2)]; exact e
  have nz : ∀ f', (rv K σ (.md l) (.ref a)).holds F H f' → f' a ≠ 0 := fun f' hf' => by
    rcases hf' with ⟨_, e, _⟩ | hf'
    · cases e
    exact hf'.md_at
  rcases h1 with ⟨ks, h1, h3⟩ | ⟨ks, h1, h3⟩
  · exact r.fz h1 h2 nz ⟨a, rfl, .inl ⟨ks, upd_same, h3.mono (sm _)⟩⟩
  · exact r.fz h1 h2 nz ⟨a, rfl, .inr ⟨ks, upd_same, h3.mono (sm _)⟩⟩
end
def fzM : M → Option D
  | .p d => some d
  | .ml l => some (.lst l)
  | .md l => some (.dic l)
  | _ => none
theorem Res.fzM {K : PySem.W.Frag} {F H : Hp} {σ : L2.St} {s : S} {φ : SLg} {v : V} {m : M} {d : D} (r : Res K F H σ s (star (rv K σ m v) φ)) (e : fzM m = some d) : ∃ F', Same F F' ∧ Res K F' H σ s (star (rv K σ (.p d) v) φ) := by
  cases m with
  | p d => cases e; exact ⟨F, Same.refl F, r⟩
  | ml l => cases e; exact r.fzL
  | md l => cases e; exact r.fzD
  | _ => cases e
def fzW (m : M) (s : S) (P : M → S → Prop) : Prop := match m with
  | .at i => match s[i]? with
    | some (some c) => match fzM c with
      | some d => P (.p d) (s.set i (some (.p d)))
      | none => False
    | _ => False
  | m => match fzM m with
    | some d => P (.p d) s
    | none => False
/-- the value stays as it is from now on -/
def eFz (w : WE) : WE := fun s P R => w s (fun m s1 => fzW m s1 P) R
theorem fzW.mono {m : M} {s : S} {P P' : M → S → Prop} (h : ∀ m s, P m s → P' m s) (q : fzW m s P) : fzW m s P' := by
  unfold fzW at q ⊢
  split at q
  · split at q
    · split at q
      · exact h _ _ q
      · exact q
    · exact q
  · split at q
    · exact h _ _ q
    · exact q
theorem fzW.to {K : PySem.W.Frag} {F H : Hp} {σ : L2.St} {s : S} {φ : SLg} {v : V} {m : M} {P : M → S → Prop} (r : Res K F H σ s (star (rv K σ m v) φ)) (q : fzW m s P) : ∃ m' s' F', P m' s' ∧ Same F F' ∧ Res K F' H σ s' (star (rv K σ m' v) φ) := by
  unfold fzW at q
  split at q
  · rename_i i
    split at q
    · rename_i c e
      split at q
      · rename_i d ed
        have ev := r.atV
        obtain ⟨v', e1, r1⟩ := r.dropL.out e
        rw [ev] at e1
        cases e1
        obtain ⟨F', sm, r2⟩ := r1.fzM ed
        have rd := r2.getP
        exact ⟨.p d, _, F', q, sm, (Res.back (m := .p d) rfl r2 (get_lt e) ev).pushP rd⟩
      · exact q.elim
    · exact q.elim
  · split at q
    · rename_i d ed
      obtain ⟨F', sm, r2⟩ := r.fzM ed
      exact ⟨.p d, s, F', q, sm, r2⟩
    · exact q.elim
section
variable {X : Cx} {cv : CV} {E : L2.St → XK} {e : Expr} {w : WE}
theorem de_fz (h : DE X cv E e w) : DE X cv E e (eFz w) := by
  refine ⟨PE.imp h.pe fun σ H Q q => ?_, fun s P P' R R' hp hR q => h.mono s _ _ _ _ (fun m s1 q1 => fzW.mono hp q1) hR q⟩
  obtain ⟨F, s, φ, r, q⟩ := q
  refine liE.mk h.mono r q (fun m s1 q1 v F1 H1 sm1 r1 => ?_) fun _ _ z => z
  obtain ⟨m', s', F', q2, sm2, r2⟩ := fzW.to r1 q1
  exact q2 v F' H1 (sm1.trans sm2) r2
/-- {} -/
def eDn : WE := fun s P _ => P (.md []) s
theorem de_dn {pos : Pos} : DE X cv E (.Dict [] [] pos) eDn := by
  refine ⟨PE.imp pe_dnewK fun σ H Q q => ?_, fun s P P' R R' hp _ q => hp _ _ q⟩
  obtain ⟨F, s, φ, r, q⟩ := q
  intro d hd
  exact q (.ref d) F _ (Same.refl F) (r.newD (l := []) (ks := []) rfl hd)
end
end Sd
set_option maxHeartbeats 1000000
/-! SdP: the program's defs, bundled. -/
namespace Sd
open PySem PySem.Spec PyProof.Rows L2
variable [Tb]

/-- the program in which the defs stand -/
structure Pg where
  pr : Program
  w : World
  K : PySem.W.Frag
  mg : Str → Option Value
  base : Heap
  cv : CV
/-- what the def x of the parameters ps is worth, at level k -/
structure Df (G : Pg) (x : Str) (ps : List Str) (k : Nat) (P : List Nat) (g : SpecD) : Prop where
  mono : MonoG g
  ex : ∃ f fd, G.mg x = some (.ref f) ∧ PySem.W.keepIn G.K (.ref f) = true ∧ Binds G.K fd ps [] ∧ (∃ oc od sl, G.K.lookup f = some ⟨oc, od, .func fd, sl⟩) ∧ FnOk G.pr G.w G.K G.mg G.base (L2.CX G.pr G.w) k f fd ps (spOf G.K G.cv P g)
theorem Df.le {G : Pg} {x : Str} {ps : List Str} {j k : Nat} {P : List Nat} {g : SpecD} (D : Df G x ps j P g) (h : j ≤ k) : Df G x ps k P g := by
  obtain ⟨m, f, fd, h1, h2, h3, l, h4⟩ := D
  exact ⟨m, f, fd, h1, h2, h3, l, h4.mono h⟩
/-- a weaker promise -/
theorem Df.imp {G : Pg} {x : Str} {ps : List Str} {k : Nat} {P : List Nat} {g g' : SpecD} (D : Df G x ps k P g) (hm : MonoG g') (h : ∀ ms Q R, g' ms Q R → g ms Q R) : Df G x ps k P g' := by
  obtain ⟨m, f, fd, h1, h2, h3, l, h4⟩ := D
  exact ⟨hm, f, fd, h1, h2, h3, l, h4.imp fun vs H Q E ⟨F, ms, φ, a, b, c, d, e⟩ => ⟨F, ms, φ, a, b, c, d, h _ _ _ e⟩⟩
/-- the def x stands there as the text st says -/
def Stands (G : Pg) (x : Str) (st : Stmt) (ps : List Str) : Prop := ∃ f fd, G.mg x = some (.ref f) ∧ Binds G.K fd ps [] ∧ Fun G.K x x st f fd
abbrev cxG (G : Pg) (N : List Str) (x : Str) (st : Stmt) (f : Addr) (cdv : Value) (A : Around) (outer : List Env) (s : Shared) (H : Hp) (E : XK) : Cx := cxOf (L2.CX G.pr G.w) G.pr G.w G.K G.mg G.base N x (defScope st) f cdv A outer s H E
theorem _root_.L2.Fun.look {K : PySem.W.Frag} {x qual : Str} {st : Stmt} {f : Addr} {fd : FuncData} (F : Fun K x qual st f fd) : ∃ oc od sl, K.lookup f = some ⟨oc, od, .func fd, sl⟩ := by
  obtain ⟨oc, od, _, _, _, _, _, _, sl, _, l, _⟩ := F.ex
  exact ⟨oc, od, sl, l⟩
/-- the rule for a def -/
theorem Df.mk' {G : Pg} {x : Str} {st : Stmt} {N ps : List Str} {k : Nat} {P : List Nat} {g : SpecD} {w : WS} (a : Stands G x st ps) (Sc : FnScope N ps (defScope st)) (mono : MonoG g) (len : ∀ ms Q R, g ms Q R → ms.length = ps.length) (inP : ∀ i ∈ P, i < ps.length)
    (hbody : ∀ (f : Addr) (cdv : Value) (A : Around) (outer : List Env) (s : Shared) (H : Hp) (E : XK), Room k (cxG G N x st f cdv A outer s H E).A → DSs (cxG G N x st f cdv A outer s H E) G.cv (fun _ => E) P (defBody st) w)
    (hw : ∀ ms Q R, g ms Q R → w (endN P Q R) (startD N.length ms)) : Df G x ps (k + 1) P g := by
  obtain ⟨f, fd, h1, h2, h3⟩ := a
  exact ⟨mono, f, fd, h1, h3.kp, h2, h3.look, fnD h3 Sc len inP (fun cdv A outer s H E hr => hbody f cdv A outer s H E hr) hw⟩
/-- with no level there is no call -/
theorem Df.none {G : Pg} {x : Str} {st : Stmt} {ps : List Str} {k : Nat} {P : List Nat} (a : Stands G x st ps) : Df G x ps k P (fun _ _ _ => False) := by
  obtain ⟨f, fd, h1, h2, h3⟩ := a
  refine ⟨fun ms Q Q' R R' _ _ q => q, f, fd, h1, h3.kp, h2, h3.look, ⟨fun vs H Q E h => ?_, fun A outer s H args us vs Q E _ _ _ _ h => ?_⟩⟩
  · obtain ⟨F, ms, φ, a, b, c, d, e⟩ := h
    exact e.elim
  · obtain ⟨F, ms, φ, a, b, c, d, e⟩ := h
    exact e.elim
/-- what a block lets out: nothing -/
theorem passNo {X : Cx} (σ : L2.St) : PassesAt (L2.CX X.prog X.w) X σ (noE σ) := fun pins H s e s' I c => by
  obtain ⟨a, B, H', cls, d, _, _, _, _, _, _, _, z⟩ := c
  exact z.elim
section
variable {X : Cx} {G : Pg} {E : L2.St → XK} {wa : WA} {P : List Nat} {g : SpecD} {k j : Nat} {ps : List Str} {x : Str} {p pos : Pos} {e : Expr} {es : List Expr}
/-- f(e, ..), f a def of the program -/
theorem de_f (D : Df G x ps j P g) (hr : Room k X.A) (hx : ∀ σ, PassesAt (L2.CX X.prog X.w) X σ (E σ)) (ha : DA X G.cv E (e :: es) wa) (le : j ≤ k := by omega) (eG : (⟨X.prog, X.w, X.K, X.mg, X.base⟩ : Program × World × PySem.W.Frag × (Str → Option Value) × Heap) = ⟨G.pr, G.w, G.K, G.mg, G.base⟩ := by rfl) (hgl : Gl X x := by rfl)
    (hdb : (x == ("__debug__" : Str)) = false := by decide) (he : starEach (e :: es) X.env = (false, eval e X.env) :: starEach es X.env := by rfl) (hpl : (backTo pos (starEach es X.env)).any (·.1) = false := by rfl) :
    DE X G.cv E (.Call (.Name x p) (e :: es) [] pos) (eCall P g wa) := by
  obtain ⟨pr, w, K, mg, base, cv⟩ := G
  simp only [Prod.mk.injEq] at eG
  obtain ⟨rfl, rfl, rfl, rfl, rfl⟩ := eG
  obtain ⟨m, f, fd, h1, h2, h3, _, h4⟩ := D
  exact de_call h4 m (hr.mono le) hgl h1 h2 h3 hx ha hdb he hpl
end

/-! ### what the printed proofs use -/
theorem hu182 {k : Nat} {A : Around} (hr : Room k A) : A.units + 182 < cLine := by have := hr.un; omega
theorem hu65 {k : Nat} {A : Around} (hr : Room k A) : A.units + 65 < cLine := by
  have := hr.un
  omega
section
variable {X : Cx} {cv : CV} {E : L2.St → XK}
theorem de_gl {mg : Str → Option Value} {x : Str} {v : V} {d : D} {pos : Pos} (h : ∃ u, mg x = some u ∧ RelV v u) (hd : ∀ F, RD X.K F d v) (em : X.mg = mg := by rfl) (hgl : Gl X x := by rfl) (hdb : (x == ("__debug__" : Str)) = false := by decide) : DE X cv E (.Name x pos) (eC d) := by
  subst em
  obtain ⟨u, h1, h2⟩ := h
  exact de_con (pe_glob hgl h1 h2 hdb) hd
variable {elt kx vx tg iter : Expr} {ifs : List Expr} {scope : Scope} {own : List (Str × Nat)} {pos : Pos} {wi : WI} {wg : WG} {wt : WT} {we wk wv : WE}
theorem de_lcN (hc : X.calm = true) (hN : X.N.Nodup) (hi : DI X cv E (fun j => decide (j ∉ own.map (·.2))) tg iter wi) (ok : BlkOk X.N X.env.scope scope own) (nd : (own.map (·.2)).Nodup)
    (hg : ∀ (s : Shared) (H : Hp) (C : Addr) (cl : List (Str × Addr)) (fp : List Addr), DGo (X.blk s H scope (compEnvC scope cl C X.env) fp) (own.map (·.2)) tg wg)
    (ht : ∀ (s : Shared) (H : Hp) (C : Addr) (cl : List (Str × Addr)) (fp : List Addr), DTs (X.blk s H scope (compEnvC scope cl C X.env) fp) cv noE ifs wt)
    (he : ∀ (s : Shared) (H : Hp) (C : Addr) (cl : List (Str × Addr)) (fp : List Addr), DE (X.blk s H scope (compEnvC scope cl C X.env) fp) cv noE elt we)
    (hs : ∀ x, foldedSetIterable iter X.env x = pure x := by intro _; rfl) : DE X cv E (.ListComp elt [⟨tg, iter, ifs, 0⟩] scope pos) (eLc (own.map (·.2)) wi wg wt we) :=
  de_lc hc hN hi ok nd hg ht he (hg X.s_0 X.H_0 0 [] []).mono (ht X.s_0 X.H_0 0 [] []).mono (he X.s_0 X.H_0 0 [] []).mono hs
theorem ds_setLcN {P : List Nat} {i : Nat} {y : Str} {py spos : Pos} (hN : X.N.Nodup) (hy : X.N[i]? = some y) (hyl : X.env.scope.names.lookup y = some .local) (hP : i ∉ P) (hc : X.calm = true) (hN' : X.N.Nodup)
    (hi : DI X cv E (fun j => decide (j ∉ own.map (·.2))) tg iter wi) (ok : BlkOk X.N X.env.scope scope own) (nd : (own.map (·.2)).Nodup)
    (hg : ∀ (s : Shared) (H : Hp) (C : Addr) (cl : List (Str × Addr)) (fp : List Addr), DGo (X.blk s H scope (compEnvC scope cl C X.env) fp) (own.map (·.2)) tg wg)
    (ht : ∀ (s : Shared) (H : Hp) (C : Addr) (cl : List (Str × Addr)) (fp : List Addr), DTs (X.blk s H scope (compEnvC scope cl C X.env) fp) cv noE ifs wt)
    (he : ∀ (s : Shared) (H : Hp) (C : Addr) (cl : List (Str × Addr)) (fp : List Addr), DE (X.blk s H scope (compEnvC scope cl C X.env) fp) cv noE elt we)
    (hsw : swapsWith (.ListComp elt [⟨tg, iter, ifs, 0⟩] scope pos) (some (.Name y py)) spos.line X.env = pure true := by rfl)
    (hs : ∀ x, foldedSetIterable iter X.env x = pure x := by intro _; rfl) : DS X cv E P (.Assign [.Name y py] (.ListComp elt [⟨tg, iter, ifs, 0⟩] scope pos) spos) (sAsg (eLc (own.map (·.2)) wi wg wt we) (gN i)) :=
  ds_setLc hc hN hy hyl hP hsw hi ok nd hg ht he (hg X.s_0 X.H_0 0 [] []).mono (ht X.s_0 X.H_0 0 [] []).mono (he X.s_0 X.H_0 0 [] []).mono hs
theorem de_dcN (hu : X.A.units + 1 < cLine) (hc : X.calm = true) (hN : X.N.Nodup) (hi : DI X cv E (fun j => decide (j ∉ own.map (·.2))) tg iter wi) (ok : BlkOk X.N X.env.scope scope own) (nd : (own.map (·.2)).Nodup)
    (hg : ∀ (s : Shared) (H : Hp) (C : Addr) (cl : List (Str × Addr)) (fp : List Addr), DGo (X.blk s H scope (compEnvC scope cl C X.env) fp) (own.map (·.2)) tg wg)
    (ht : ∀ (s : Shared) (H : Hp) (C : Addr) (cl : List (Str × Addr)) (fp : List Addr), DTs (X.blk s H scope (compEnvC scope cl C X.env) fp) cv noE ifs wt)
    (hk : ∀ (s : Shared) (H : Hp) (C : Addr) (cl : List (Str × Addr)) (fp : List Addr), DE (X.blk s H scope (compEnvC scope cl C X.env) fp) cv noE kx wk)
    (he : ∀ (s : Shared) (H : Hp) (C : Addr) (cl : List (Str × Addr)) (fp : List Addr), DE (X.blk s H scope (compEnvC scope cl C X.env) fp) cv noE vx wv)
    (hs : ∀ x, foldedSetIterable iter X.env x = pure x := by intro _; rfl) : DE X cv E (.DictComp kx vx [⟨tg, iter, ifs, 0⟩] scope pos) (eDc (own.map (·.2)) wi wg wt wk wv) :=
  de_dc hu hc hN hi ok nd hg ht hk he (hg X.s_0 X.H_0 0 [] []).mono (ht X.s_0 X.H_0 0 [] []).mono (hk X.s_0 X.H_0 0 [] []).mono (he X.s_0 X.H_0 0 [] []).mono hs
end

/-! ### the end -/
/-- what a law is to be worth: of a list of at most n ints it answers True -/
def gLaw (n : Nat) : SpecD := fun ms Q _ => ∃ ns : List Int, ms = [.p (.lst (ns.map D.int))] ∧ ns.length ≤ n ∧ Q (.p (.bl true)) []
theorem gLaw.mono (n : Nat) : MonoG (gLaw n) := fun ms Q Q' R R' h _ ⟨ns, e, l, q⟩ => ⟨ns, e, l, h _ _ q⟩
def spLaw (n : Nat) (K : PySem.W.Frag) : Sp := fun vs H Q _ => ∃ (a : Addr) (ns : List Int), vs = [.ref a] ∧ LamX.Tabs Tb.T H ∧ SqL K H a (ns.map V.int) ∧ ns.length ≤ n ∧ ∀ H', Q (.bl true) H'
theorem RDs.ints {K : PySem.W.Frag} {F : Hp} : ∀ ns : List Int, RDs K F (ns.map D.int) (ns.map V.int)
  | [] => rfl
  | n :: ns => ⟨_, _, rfl, rfl, RDs.ints ns⟩
/-- all but the tables -/
def offT (H : Hp) : Hp := fun b => match H b with
  | some (.tbl _) => none
  | o => o
theorem offT_same (H : Hp) : Same (offT H) H := fun b x e => by
  unfold offT at e
  split at e
  · cases e
  · exact e
theorem offT_tbl (H : Hp) : ∀ b ps, offT H b ≠ some (.tbl ps) := fun b ps e => by
  unfold offT at e
  split at e
  · cases e
  · rename_i h
    exact h ps e
theorem offT_at {H : Hp} {b : Addr} {o : HO} (h : H b = some o) (n : ∀ ps, o ≠ .tbl ps) : offT H b = some o := by
  unfold offT
  rw [h]
  cases o <;> first | rfl | exact absurd rfl (n _)
theorem offT_seq {K : PySem.W.Frag} {H : Hp} {a : Addr} {xs : List V} (h : SqL K H a xs) : SqL K (offT H) a xs := by
  rcases h with (h | ⟨o, h⟩) | h
  · exact .inl (.inl (offT_at h (by intro ps z; cases z)))
  · exact .inl (.inr ⟨o, offT_at h (by intro ps z; cases z)⟩)
  · exact .inr h
theorem spLaw.to {n : Nat} {K : PySem.W.Frag} {cv : CV} {vs : List V} {H : Hp} {Q : VK} {E : XK} (h : spLaw n K vs H Q E) : spOf K cv [] (gLaw n) vs H Q E := by
  obtain ⟨a, ns, rfl, hT, hS, hl, q⟩ := h
  refine ⟨offT H, [.p (.lst (ns.map D.int))], emp, rfl, fun m hm => ?_, fun i m e _ => ?_, ?_, ns, rfl, hl, fun v F' H' sm _ _ r => ?_⟩
  · rw [List.mem_singleton.mp hm]
    rfl
  · cases i with
    | zero =>
      cases e
      rfl
    | succ i => cases e
  · refine ⟨offT_same H, ⟨hT, offT_tbl H⟩, fun _ => 0, fun _ => 0, ⟨rfl, fun _ => rfl⟩, ⟨fun _ => 0, fun _ => 0, ⟨fun _ => 0, fun _ => 0, .inr ⟨⟨a, _, rfl, offT_seq hS, RDs.ints ns⟩, fun _ => rfl⟩, fun _ => rfl, fun _ => rfl⟩, fun _ => rfl, fun _ => rfl⟩, fun _ => Nat.zero_le _⟩
  · rw [show v = .bl true from r.getP]
    exact q H'
end Sd
namespace Sd
open PySem PySem.Spec PyProof.Rows L2
/-- the tables of the defs that make lambdas -/
abbrev tabsOf (cs : List (Str × Addr × Addr)) : Tb := ⟨cs.map fun p => (p.2.2, (p.1 ++ ".<locals>.") ++ "<lambda>")⟩
theorem walkD {l : PySem.W.OpenLaw} {n k : Nat} {q : Program} {loose : List Str} {XP : (Str → Option Value) → Heap → Prop} {YP : World → Heap → Prop} {d : DefRec} {K : Params → PySem.W.Frag} {x : Str} (hn : l.most = some n) (hn2 : n ≤ sizeLine) (hdf : d.params.defaults = []) (hr : Room k callerA)
    (hY : ∀ (w : World) (h : Heap), YP w h → (K w.params).In h)
    (F : ∀ (w : World) (mg : Str → Option Value) (fa : Addr) (h : Heap), (K w.params).In h → h.Ns mainGlobals mg → mg d.name = some (.ref fa) →
      ∃ (fd : FuncData) (cs : List (Str × Addr × Addr)), (∀ (s : Shared) (u : Value), BindsTo s fd ⟨[u], []⟩ [(x, u)]) ∧ (∃ oc od sl, (K w.params).lookup fa = some ⟨oc, od, .func fd, sl⟩) ∧
        (∀ p ∈ cs, PySem.W.tabIn (K w.params) p.1 = some p.2 ∧ ((recsOf q).find? fun e => e.name == p.1).isSome = true ∧ (K w.params).lookup p.2.2 = none) ∧
        ∀ base : Heap, (∀ p ∈ cs, LamX.TabB base mg p.2.1 p.2.2) → ∃ cv, @Df (tabsOf cs) ⟨l.prog, w, K w.params, mg, base, cv⟩ d.name [x] k [] (gLaw n)) :
    PySem.W.WalkO q loose XP YP l.row.toRowW d [] (fun f vs => PySem.call f vs) := by
  refine Att.attach_callB hn hdf fun w s₀ s₁ mg mb fa o pm cd doc a vs ns G Y ho hd hcd hmg hobj hints hlen hbits hg => ?_
  have KX := hY w _ Y
  obtain ⟨fd, cs, hb, ⟨oc, od, sl, lk⟩, hc, hD⟩ := F w mg fa _ KX G.T.g hmg
  have tab : ∀ p ∈ cs, PySem.W.CodeHd s₁.heap p.2.1 p.2.2 ∧ s₁.heap.get? p.2.2 = some { cls := .none, data := .fields #[] } := fun p hp => by
    obtain ⟨h1, h2, _⟩ := hc p hp
    obtain ⟨dr, hdr⟩ := Option.isSome_iff_exists.mp h2
    exact PySem.W.tab_of G.T KX hdr h1
  have mem : ∀ p ∈ cs.map (·.2), ∃ p' ∈ cs, p'.2 = p := fun p hp => by
    obtain ⟨p', h1, h2⟩ := List.mem_map.mp hp
    exact ⟨p', h1, h2⟩
  refine LamX.law_callTs (cs := cs.map (·.2)) (sp := @spLaw (tabsOf cs) n (K w.params)) (CX := L2.CX l.prog w) KX G.T.g G.T.b G.T.builtins G.T.nolimit hg (fun p hp => ?_) (fun p hp => ?_) (fun p hp => ?_) G.T.bmain hobj hints (Nat.le_trans hlen hn2) hr (fun base _ _ TB => ?_) hb (fun H hH hS => ?_) fun H e s' z => ?_
  · obtain ⟨p', h1, rfl⟩ := mem p hp
    exact (tab p' h1).2
  · obtain ⟨p', h1, rfl⟩ := mem p hp
    exact (hc p' h1).2.2
  · obtain ⟨p', h1, rfl⟩ := mem p hp
    exact (tab p' h1).1
  · obtain ⟨cv, D⟩ := hD base fun p hp => TB p.2 (List.mem_map.mpr ⟨p, hp, rfl⟩)
    obtain ⟨m, f', fd', h1, h2, h3, ⟨oc', od', sl', lk'⟩, h4⟩ := D
    have h1 : mg d.name = some (.ref f') := h1
    rw [hmg] at h1
    cases h1
    have lk' : (K w.params).lookup fa = _ := lk'
    rw [lk] at lk'
    cases lk'
    exact FnOk.imp h4 fun vs H Q E z => @spLaw.to (tabsOf cs) _ _ _ _ _ _ _ z
  · refine ⟨a, ns, rfl, fun p hp => ?_, hS, hlen, fun _ => rfl⟩
    obtain ⟨p', h1, rfl⟩ := List.mem_map.mp hp
    exact LamX.TabS.nil (hH p'.2 (List.mem_map.mpr ⟨p', h1, rfl⟩))
  · obtain ⟨a, B, H', cls, d, _, _, _, _, _, _, _, z⟩ := z
    exact z
end Sd
set_option maxHeartbeats 1000000
/-! SdK: how readings over data are shown: loops, comprehensions, promises. -/
namespace Sd
open PySem PySem.Spec PyProof.Rows L2
variable [Tb]

theorem gRng_fix (lo st : Int) (n : Nat) : gRng lo st n = gFix ((List.range n).map fun i : Nat => D.int (lo + (i : Int) * st)) := by
  funext s i
  unfold gRng gFix
  rw [List.getElem?_map]
  by_cases h : i < n
  · rw [List.getElem?_range h]
    simp [h]
  · rw [List.getElem?_eq_none (by simpa using h)]
    simp [h]
/-- a loop over fixed items: I i holds ahead of the i-th turn -/
theorem for_fix {l : List D} {wg : WG} {w : WS} {N : WN} {s1 : S} (I : Nat → S → Prop) (h0 : I 0 s1)
    (step : ∀ (i : Nat) (d : D) (s : S), l[i]? = some d → I i s → wg (.p d) s fun s2 => w { N with nx := I (i + 1), ct := I (i + 1), bk := N.nx } s2) (fin : ∀ s, I l.length s → N.nx s) :
    ∃ W : Nat → Nat → S → Prop, (∃ m, W 0 m s1) ∧ ∀ i m s, W i m s → turnW wg w N W i m s (gFix l s i) := by
  refine ⟨fun i m s => m = l.length - i ∧ i ≤ l.length ∧ I i s, ⟨l.length, by omega, by omega, h0⟩, ?_⟩
  rintro i m s ⟨rfl, hi, h⟩
  show turnW wg w N _ i _ s (some ((l[i]?).map M.p))
  by_cases hl : i < l.length
  · have e : l[i]? = some l[i] := List.getElem?_eq_getElem hl
    have q := step i _ s e h
    rw [e]
    have e2 : (fun s' => ∃ m', m' < l.length - i ∧ (m' = l.length - (i + 1) ∧ i + 1 ≤ l.length ∧ I (i + 1) s')) = I (i + 1) := by
      funext s'
      apply propext
      exact ⟨fun ⟨_, _, _, _, z⟩ => z, fun z => ⟨_, by omega, rfl, hl, z⟩⟩
    show wg (.p l[i]) s fun s2 => w { N with nx := _, ct := _, bk := N.nx } s2
    rw [e2]
    exact q
  · have e : i = l.length := by omega
    subst e
    rw [List.getElem?_eq_none (Nat.le_refl _)]
    exact fin s h
/-- a while loop: I m holds ahead of a turn, m falls -/
theorem while_by {tc : WT} {w : WS} {N : WN} {s : S} (I : Nat → S → Prop) (m0 : Nat) (h0 : I m0 s)
    (step : ∀ m s, I m s → tc s (fun b s1 => if b = true then w { N with nx := fun s' => ∃ m', m' < m ∧ I m' s', ct := fun s' => ∃ m', m' < m ∧ I m' s', bk := N.nx } s1 else N.nx s1) N.er) : sWhile tc w N s := ⟨I, ⟨m0, h0⟩, step⟩
/-! ### comprehensions over one name -/
theorem rest1 {s : S} {j : Nat} (hj : j < s.length) : restD s (s.set j none) [j] = s := by
  show (match s[j]? with | some (some m) => (s.set j none).set j (some m) | _ => s.set j none) = s
  have e : s[j]? = some s[j] := List.getElem?_eq_getElem hj
  rw [e]
  cases h : s[j] with
  | none =>
    rw [h] at e
    exact set_same e
  | some m =>
    rw [h] at e
    show (s.set j none).set j (some m) = s
    rw [set_set, set_same e]
/-- [f d for d in l if c d] -/
theorem lc_fix {j : Nat} {l : List D} {wt : WT} {we : WE} {s1 : S} {P : M → S → Prop} (c : D → Bool) (f : D → D) (hl : l.length ≤ sizeLine) (op : ownP s1 [j]) (hj : j < s1.length)
    (ht : ∀ (i : Nat) (d : D), l[i]? = some d → ∀ Q : Bool → S → Prop, Q (c d) (s1.set j (some (.p d))) → wt (s1.set j (some (.p d))) Q noR)
    (he : ∀ (i : Nat) (d : D), l[i]? = some d → c d = true → ∀ Q : M → S → Prop, Q (.p (f d)) (s1.set j (some (.p d))) → we (s1.set j (some (.p d))) Q noR) (hP : P (.ml ((l.filter c).map f)) s1) :
    ownP s1 [j] ∧ ∃ W : Nat → Nat → List D → S → Prop, (∃ m, W 0 m [] (wipeD s1 [j])) ∧ ∀ i m acc s, W i m acc s → (∀ v ∈ [j], v < s1.length → s[v]? = some none) ∧ lcTurn [j] (gN j) wt we s1 P W i m acc s (gFix l s i) := by
  refine ⟨op, fun i m acc s => m = l.length - i ∧ i ≤ l.length ∧ acc = ((l.take i).filter c).map f ∧ s = s1.set j none, ⟨l.length, by omega, by omega, rfl, rfl⟩, ?_⟩
  rintro i m acc s ⟨rfl, hi, rfl, rfl⟩
  refine ⟨fun v hv h => ?_, ?_⟩
  · rw [List.mem_singleton.mp hv, List.getElem?_set_self hj]
  show lcTurn [j] (gN j) wt we s1 P _ i _ _ _ (some ((l[i]?).map M.p))
  by_cases hi2 : i < l.length
  · have e : l[i]? = some l[i] := List.getElem?_eq_getElem hi2
    rw [e]
    have es : (s1.set j none).set j (some (.p l[i])) = s1.set j (some (.p l[i])) := set_set _ _ _ _
    have ew : wipeD (s1.set j (some (.p l[i]))) [j] = s1.set j none := set_set _ _ _ _
    have et : l.take (i + 1) = l.take i ++ [l[i]] := by rw [List.take_add_one, e]; rfl
    show j < (s1.set j none).length ∧ _
    refine ⟨by rw [List.length_set]; exact hj, ?_⟩
    rw [es]
    refine ht i _ e _ ?_
    show if c l[i] = true then _ else _
    by_cases hc : c l[i] = true
    · rw [if_pos hc]
      refine he i _ e hc _ ?_
      refine ⟨?_, l.length - (i + 1), by omega, rfl, hi2, ?_, ew⟩
      · rw [List.length_map]
        have h1 := List.length_filter_le c (l.take i)
        rw [List.length_take] at h1
        omega
      · rw [et, List.filter_append, List.map_append, List.filter_cons_of_pos hc]
        rfl
    · rw [if_neg hc]
      refine ⟨l.length - (i + 1), by omega, rfl, hi2, ?_, ew⟩
      rw [et, List.filter_append, List.map_append, List.filter_cons_of_neg hc]
      simp
  · have ei : i = l.length := by omega
    subst ei
    rw [List.getElem?_eq_none (Nat.le_refl _)]
    show P (.ml _) (restD s1 (s1.set j none) [j])
    rw [rest1 hj, List.take_length]
    exact hP
/-- [f d for d in l] -/
theorem lc_map {j : Nat} {l : List D} {we : WE} {s1 : S} {P : M → S → Prop} (f : D → D) (hl : l.length ≤ sizeLine) (op : ownP s1 [j]) (hj : j < s1.length)
    (he : ∀ (i : Nat) (d : D), l[i]? = some d → ∀ Q : M → S → Prop, Q (.p (f d)) (s1.set j (some (.p d))) → we (s1.set j (some (.p d))) Q noR) (hP : P (.ml (l.map f)) s1) :
    ownP s1 [j] ∧ ∃ W : Nat → Nat → List D → S → Prop, (∃ m, W 0 m [] (wipeD s1 [j])) ∧ ∀ i m acc s, W i m acc s → (∀ v ∈ [j], v < s1.length → s[v]? = some none) ∧ lcTurn [j] (gN j) tYs we s1 P W i m acc s (gFix l s i) :=
  lc_fix (fun _ => true) f hl op hj (fun _ _ _ _ q => q) (fun i d e _ => he i d e) (by rw [List.filter_eq_self.mpr fun _ _ => rfl]; exact hP)
/-- a list comprehension that changes other slots: I i acc s holds ahead of the i-th turn, slot j being empty -/
theorem lc_st {j : Nat} {l : List D} {wt : WT} {we : WE} {s1 : S} {P : M → S → Prop} (I : Nat → List D → S → Prop) (op : ownP s1 [j]) (h0 : I 0 [] (s1.set j none)) (hn : ∀ i acc s, I i acc s → s[j]? = some none)
    (step : ∀ (i : Nat) (d : D) (acc : List D) (s : S), l[i]? = some d → I i acc s → wt (s.set j (some (.p d))) (fun b s3 => if b = true then we s3 (fun y s4 => match y with
      | .p e => acc.length < sizeLine ∧ I (i + 1) (acc ++ [e]) (s4.set j none)
      | _ => False) noR else I (i + 1) acc (s3.set j none)) noR)
    (fin : ∀ acc s, I l.length acc s → P (.ml acc) (restD s1 s [j])) :
    ownP s1 [j] ∧ ∃ W : Nat → Nat → List D → S → Prop, (∃ m, W 0 m [] (wipeD s1 [j])) ∧ ∀ i m acc s, W i m acc s → (∀ v ∈ [j], v < s1.length → s[v]? = some none) ∧ lcTurn [j] (gN j) wt we s1 P W i m acc s (gFix l s i) := by
  refine ⟨op, fun i m acc s => m = l.length - i ∧ i ≤ l.length ∧ I i acc s, ⟨l.length, by omega, by omega, h0⟩, ?_⟩
  rintro i m acc s ⟨rfl, hi, h⟩
  have hj := hn i acc s h
  refine ⟨fun v hv _ => by rw [List.mem_singleton.mp hv]; exact hj, ?_⟩
  show lcTurn [j] (gN j) wt we s1 P _ i _ _ _ (some ((l[i]?).map M.p))
  by_cases hi2 : i < l.length
  · have e : l[i]? = some l[i] := List.getElem?_eq_getElem hi2
    rw [e]
    have e2 : ∀ (acc : List D) (s : S), (∃ m', m' < l.length - i ∧ (m' = l.length - (i + 1) ∧ i + 1 ≤ l.length ∧ I (i + 1) acc s)) = I (i + 1) acc s := fun acc s => by
      apply propext
      exact ⟨fun ⟨_, _, _, _, z⟩ => z, fun z => ⟨_, by omega, rfl, hi2, z⟩⟩
    refine ⟨get_lt hj, ?_⟩
    have q := step i _ acc s e h
    simp only [e2]
    exact q
  · have ei : i = l.length := by omega
    subst ei
    rw [List.getElem?_eq_none (Nat.le_refl _)]
    exact fin acc s h
/-- {k d: v d for d in l if c d} -/
theorem dc_fix {j : Nat} {l : List D} {wt : WT} {wk wv : WE} {s1 : S} {P : M → S → Prop} (c : D → Bool) (fk fv : D → D) (hl : l.length ≤ sizeLine) (op : ownP s1 [j]) (hj : j < s1.length)
    (ht : ∀ (i : Nat) (d : D), l[i]? = some d → ∀ Q : Bool → S → Prop, Q (c d) (s1.set j (some (.p d))) → wt (s1.set j (some (.p d))) Q noR)
    (hk : ∀ (i : Nat) (d : D), l[i]? = some d → c d = true → ∀ Q : M → S → Prop, Q (.p (fk d)) (s1.set j (some (.p d))) → wk (s1.set j (some (.p d))) Q noR)
    (hv : ∀ (i : Nat) (d : D), l[i]? = some d → c d = true → ∀ Q : M → S → Prop, Q (.p (fv d)) (s1.set j (some (.p d))) → wv (s1.set j (some (.p d))) Q noR)
    (fit : ∀ (i : Nat) (d : D), l[i]? = some d → c d = true → fitK (((l.take i).filter c).foldl (fun a d => dput a (fk d) (fv d)) []) (fk d) = true) (hP : P (.md ((l.filter c).foldl (fun a d => dput a (fk d) (fv d)) [])) s1) :
    ownP s1 [j] ∧ ∃ W : Nat → Nat → List (D × D) → S → Prop, (∃ m, W 0 m [] (wipeD s1 [j])) ∧ ∀ i m acc s, W i m acc s → (∀ v ∈ [j], v < s1.length → s[v]? = some none) ∧ dcTurn [j] (gN j) wt wk wv s1 P W i m acc s (gFix l s i) := by
  have len : ∀ (k : List D), (k.foldl (fun a d => dput a (fk d) (fv d)) []).length ≤ k.length := fun k => by
    have : ∀ (k : List D) (a : List (D × D)), (k.foldl (fun a d => dput a (fk d) (fv d)) a).length ≤ a.length + k.length := fun k => by
      induction k with
      | nil => intro a; exact Nat.le_refl _
      | cons d k ih =>
        intro a
        rw [List.foldl_cons, List.length_cons]
        have h1 := ih (dput a (fk d) (fv d))
        have h2 : (dput a (fk d) (fv d)).length ≤ a.length + 1 := by
          unfold dput
          split
          · rw [List.length_map]; omega
          · rw [List.length_append]; exact Nat.le_refl _
        omega
    simpa using this k []
  refine ⟨op, fun i m acc s => m = l.length - i ∧ i ≤ l.length ∧ acc = ((l.take i).filter c).foldl (fun a d => dput a (fk d) (fv d)) [] ∧ s = s1.set j none, ⟨l.length, by omega, by omega, rfl, rfl⟩, ?_⟩
  rintro i m acc s ⟨rfl, hi, rfl, rfl⟩
  refine ⟨fun v hv h => ?_, ?_⟩
  · rw [List.mem_singleton.mp hv, List.getElem?_set_self hj]
  show dcTurn [j] (gN j) wt wk wv s1 P _ i _ _ _ (some ((l[i]?).map M.p))
  by_cases hi2 : i < l.length
  · have e : l[i]? = some l[i] := List.getElem?_eq_getElem hi2
    rw [e]
    have es : (s1.set j none).set j (some (.p l[i])) = s1.set j (some (.p l[i])) := set_set _ _ _ _
    have ew : wipeD (s1.set j (some (.p l[i]))) [j] = s1.set j none := set_set _ _ _ _
    have et : l.take (i + 1) = l.take i ++ [l[i]] := by rw [List.take_add_one, e]; rfl
    show j < (s1.set j none).length ∧ _
    refine ⟨by rw [List.length_set]; exact hj, ?_⟩
    rw [es]
    refine ht i _ e _ ?_
    show if c l[i] = true then _ else _
    by_cases hc : c l[i] = true
    · rw [if_pos hc]
      refine hk i _ e hc _ (hv i _ e hc _ ?_)
      refine ⟨fit i _ e hc, ?_, l.length - (i + 1), by omega, rfl, hi2, ?_, ew⟩
      · have h0 := len ((l.take i).filter c)
        have h1 := List.length_filter_le c (l.take i)
        rw [List.length_take] at h1
        omega
      · rw [et, List.filter_append, List.foldl_append, List.filter_cons_of_pos hc]
        rfl
    · rw [if_neg hc]
      refine ⟨l.length - (i + 1), by omega, rfl, hi2, ?_, ew⟩
      rw [et, List.filter_append, List.foldl_append, List.filter_cons_of_neg hc]
      rfl
  · have ei : i = l.length := by omega
    subst ei
    rw [List.getElem?_eq_none (Nat.le_refl _)]
    show P (.md _) (restD s1 (s1.set j none) [j])
    rw [rest1 hj, List.take_length]
    exact hP
/-! ### promises -/
/-- a def of one argument, data, that is worth a value of it -/
def gD (pre : D → Prop) (f : D → D) : SpecD := fun ms Q _ => ∃ d, ms = [.p d] ∧ pre d ∧ Q (.p (f d)) []
theorem gD.mono (pre : D → Prop) (f : D → D) : MonoG (gD pre f) := fun ms Q Q' R R' h _ ⟨d, e, p, q⟩ => ⟨d, e, p, h _ _ q⟩
theorem gD.len {pre : D → Prop} {f : D → D} : ∀ ms Q R, gD pre f ms Q R → ms.length = 1 := fun ms Q R ⟨d, e, _⟩ => by rw [e]; rfl
end Sd
set_option maxHeartbeats 1000000
/-! SdU: x += e, x -= e of ints. -/
namespace Sd
open PySem PySem.Spec PyProof.Rows L2
variable [Tb]
def sAug (f : Int → Int → Int) (i : Nat) (we : WE) : WS := fun N s => match s[i]? with
  | some (some (.p (.int a))) => we s (fun m s1 => match m with
    | .p (.int b) => i < s1.length ∧ N.nx (s1.set i (some (.p (.int (f a b)))))
    | _ => False) N.er
  | _ => False
section
variable {X : Cx} {cv : CV} {E : L2.St → XK} {P : List Nat} {we : WE} {e : Expr} {pos : Pos}
theorem ds_aug {i : Nat} {x : Str} {op : Operator} {f : Int → Int → Int} {p : Pos} (hN : X.N.Nodup) (hi : X.N[i]? = some x) (hx : Loc X.env.scope x) (he : DE X cv E e we) (ho : PIp X op (ipI f)) (hP : i ∉ P := by decide) (hf : X.fn x = true ∨ X.env.scope.names.lookup x = some .local := by first | exact .inl rfl | exact .inr rfl | assumption) :
    DS X cv E P (.AugAssign (.Name x p) op e pos) (sAug f i we) := by
  refine ⟨PS.imp (ps_aug hN hi hx he.pe ho hf) fun D σ H q => ?_, fun N N' s le q => ?_⟩
  · obtain ⟨F, s, φ, pv, ep, po, r, q⟩ := q
    unfold sAug at q
    split at q
    · rename_i a ea
      obtain ⟨f1, f2, h1, h2, h3⟩ := r.ex
      obtain ⟨v, g1, g2, e1, p1, p2, p3⟩ := h1.out ea
      have ev : v = .int a := p1.1
      subst ev
      refine ⟨_, e1, liE.mk he.mono r q (fun m s1 q1 v F1 H1 sm1 r1 => ?_) fun x s1 z => okS.er_ok po z⟩
      split at q1
      · rename_i b
        have e2 : v = .int b := r1.getP
        refine ⟨a, b, rfl, e2, ?_⟩
        have r2 : Res X.K F1 H1 σ s1 (star (rv X.K σ (.p (.int (f a b))) (.int (f a b))) φ) := r1.dropL.pushP rfl
        exact q1.2 _ F1 H1 (po.set ep hP) sm1 (r2.store rfl q1.1)
      · exact q1.elim
    · exact q.elim
  · unfold sAug at q ⊢
    split at q
    · exact he.mono _ _ _ _ _ (fun m s1 q1 => by
        split at q1
        · exact ⟨q1.1, le.nx _ q1.2⟩
        · exact q1) le.er q
    · exact q
end
end Sd
set_option maxHeartbeats 1000000
/-! SdV: raise X(). -/
namespace Sd
open PySem PySem.Spec PyProof.Rows L2
variable [Tb]
section
variable {X : Cx}
/-- X(), X an own class of errors without an __init__ of its own -/
theorem pmk_own0 {C : Addr} {bmB : List Value} {B newId initId : String} {x : Str} {p pos : Pos} (F : ExcBaseFacts B newId initId bmB) (q : PySem.W.excIn X.K C bmB newId = true) (gC : X.mg x = some (.ref C)) (kC : PySem.W.keepIn X.K (.ref C) = true) (r : Raises X (.ref C)) (hg : Gl X x)
    (hdb : (x == ("__debug__" : Str)) = false := by decide) : PMk X (.Call (.Name x p) [] [] pos) (fun _ H Q => Q (.ref C) none H) := by
  intro pins s σ H Q I h
  refine wpAny_Call_Name_kw (ld_glob I hg gC ?_ hdb)
  refine PySem.W.callWith_K0 I.kIn kC ?_
  obtain ⟨bm, N, nm, qn, bs, hdct, sn, sub, ab, col, dd, k0, k1, k2, k3, k5, mN, hC, hN, hni, T⟩ := exc_obj I.kIn q
  show wpAny _ _ (call (.ref C) []) _ _ _
  refine wpAny_call_exc_subT F T hC hN hni (fun h' e hm => ?_) (by show 0 ≤ sizeLine; exact Nat.zero_le _)
  exact mk_of I hm r h (I.hok.gone hm.new)
/-- raise X() -/
def sRaise (x : Exc) : WS := fun N s => N.er x s
theorem ds_raise {cv : CV} {E : L2.St → XK} {P : List Nat} {x : Exc} {c : Value} {e : Expr} {pos : Pos} (hc : X.calm = true) (tk : Takes X fun cls d σ H => E σ cls d H) (he : PMk X e (fun _ H Q => Q c none H)) (hx : ∀ F, ExcR cv F x c none) : DS X cv E P (.Raise (some e) none pos) (sRaise x) := by
  refine ⟨PS.imp (ps_raise hc tk he) fun D σ H q => ?_, fun N N' s le q => le.er _ _ q⟩
  obtain ⟨F, s, φ, pv, ep, po, r, q⟩ := q
  exact q c none σ F H po (Same.refl F) r (hx F)
end
end Sd
set_option maxHeartbeats 1000000
/-! SdX: try, except; isinstance of a caught error. -/
namespace Sd
open PySem PySem.Spec PyProof.Rows L2
variable [Tb]
/-! ### several clauses, with names or without -/
def endO (o : Option Nat) (D : Ends) : Ends := match o with
  | none => D
  | some i => { nx := fun σ H => D.nx (σ.set i none) H, rt := D.rt, bk := fun σ H => D.bk (σ.set i none) H, ct := fun σ H => D.ct (σ.set i none) H }
def setO (o : Option Nat) (σ : L2.St) (a : Addr) : L2.St := match o with
  | none => σ
  | some i => σ.set i (some (.ref a))
abbrev Cls := Value × Option Nat × (Addr → Value → Option Addr → TS)
def wManyG (K : PySem.W.Frag) (Wout : WX) (D : Ends) : List Cls → WX
  | [] => Wout
  | (c, o, ts) :: r => fun cls d σ H => ∃ b, PySem.W.exmOne K cls c = some b ∧ (b = true → ∀ a, H a = none → ts a cls d (endO o D) (setO o σ a) H) ∧ (b = false → wManyG K Wout D r cls d σ H)
/-- the clause's name and its slot -/
def NmOk (X : Cx) (P : List Nat) : Option Str → Option Nat → Prop
  | none, none => True
  | some n, some i => X.N.Nodup ∧ X.N[i]? = some n ∧ X.env.kindOf n = some .local ∧ i ∉ P
  | _, _ => False
inductive HdsG (X : Cx) : List ExceptHandler → List Cls → Prop
  | nil : HdsG X [] []
  | cons {x : Str} {c : Value} {o : Option Nat} {nm : Option Str} {ts : Addr → Value → Option Addr → TS} {b₀ : Stmt} {suite : List Stmt} {np pos' : Pos} {hds : List ExceptHandler} {l : List Cls} (hc : Names X x c) (hn : NmOk X [] nm o)
      (hsu : ∀ (a : Addr) (oe : Obj) (cls : Value) (d : Option Addr) (pn : List (Addr × Obj)), Zc cls d oe → (∃ vs, oe.data = .fields vs) → PSs (X.suite a ((a, oe) :: pn)) (b₀ :: suite) (ts a cls d)) (r : HdsG X hds l) :
      HdsG X (.ExceptHandler (some (.Name x np)) nm (b₀ :: suite) pos' :: hds) ((c, o, ts) :: l)
section
variable {X : Cx} {body : List Stmt} {h₀ : ExceptHandler} {hds : List ExceptHandler} {l : List Cls} {pos : Pos} {tb : WX → TS} {Wout : WX}
omit [Tb] in
theorem ps_try_g (hs : X.stack = X.env :: X.outer) (hf : X.env.frame = some X.env.locals) (tk : Takes X Wout)
    (hb : ∀ (W : WX) (pn : List (Addr × Obj)) (xe : Value → Shared → Prop), Takes (X.tr pn xe) W → PassesOwn (model X.prog X.w) X.A X.env xe → PSs (X.tr pn xe) body (tb W))
    (hh : HdsG X (h₀ :: hds) l) : PS X (.Try body (h₀ :: hds) [] [] pos) (fun D σ H => tb (wManyG X.K Wout D l) D σ H) := by
  refine ⟨fun pins s σ H D I h => ?_⟩
  have ok := I.ok
  have hfr : X.A.frames = some (X.env :: X.outer) := by rw [ok.frames, hs]
  refine wpAny_Try_except ?_
  refine wpAny_mono ((hb (wManyG X.K Wout D l) (X.pn ++ pins) (fun e s₁ => wpAny (model X.prog X.w) X.A (noteFrame e X.env) (fun _ s₂ => wpAny (model X.prog X.w) X.A (setFlight e none) (fun _ s₃ =>
    wpAny (model X.prog X.w) X.A (handleBy e X.env (h₀ :: hds)) (SP X pins D) X.xe s₃) X.xe s₂) X.xe s₁) (fun u s' xx => ?_) PassesOwn.looking).run [] s σ H D (I.toTry _) h) (fun f s1 hsp => ?_) (fun e s1 he => he)
  · obtain ⟨a, B, sI, pins', σ', H', cls, d, rfl, J', nb, up, sky, na, os, ag, w⟩ := xx
    have J : Inv X pins σ' H' sI := J'.ofTry ok
    have sky' : Sky B (X.env :: X.outer) a (Zc cls d) X.env.locals s'.heap := by rw [← hs]; exact sky
    show wpAny (model X.prog X.w) X.A (noteFrame (.ref a) X.env) _ _ _
    refine Sky.land Zc.steady hfr hf sky' fun h3 fl3 up3 => ?_
    have J3 : Inv X pins σ' H' { s' with heap := h3 } := J.landed nb fl3.1 (up.trans up3) os ag
    obtain ⟨oe3, vs3, he3, hz3, hd3⟩ := fl3.there
    have notFr : ∀ {h : Heap} {o : Obj} {vs : Array Value}, h.FunFrames B (X.env :: X.outer) → h.get? a = some o → o.data = .fields vs → a ∉ frs (X.env :: X.outer) := fun {h o vs} ff e dd hm => by
      obtain ⟨_, o', e', hnf⟩ := ff.mem hm
      rw [e] at e'; cases e'
      exact hnf _ dd
    have nfr := notFr fl3.2.2.1 he3 hd3
    have nL : a ≠ X.env.locals := fun z => nfr (List.mem_filterMap.mpr ⟨X.env, List.mem_cons_self, by rw [hf, z]⟩)
    have nF : a ∉ X.fs := fun hm => by
      obtain ⟨e, he, q⟩ := List.mem_filterMap.mp hm
      exact nfr (List.mem_filterMap.mpr ⟨e, List.mem_cons_of_mem _ he, q⟩)
    have S3 := J3.suite he3 hd3 na nL nF
    have go : ∀ {hds' : List ExceptHandler} {l' : List Cls}, HdsG X hds' l' → wManyG X.K Wout D l' cls d σ' H' →
        wpAny (model X.prog X.w) X.A (handleBy (.ref a) X.env hds') (SP X pins D) X.xe { s' with heap := h3 } := by
      intro hds' l' hk
      induction hk with
      | nil =>
        intro w
        refine wpAny_handleBy_nil ?_
        obtain ⟨k1, k2, k3, oe, vs, T, oT, ts', he, hz, hd, h1, hr⟩ := id fl3
        unfold PySem.passOn
        refine wpAny_bind (wpAny_field he hd h1 ?_)
        rw [if_neg (show ¬ ((Value.ref T == Value.none) = true) from by simp)]
        have fin : wpAny (model X.prog X.w) X.A (setFlight (.ref a) X.env.frame) (fun _ s4 => wpAny (model X.prog X.w) X.A (throw (.ref a) : Sem Flow) (SP X pins D) X.xe s4) X.xe { s' with heap := h3 } := by
          rw [hf]
          refine HandSPX.setFlight_upZ fl3 fun h4 hh4 up4 => wpAny_throw (tk _ _ ?_)
          exact ⟨a, B, sI, pins, σ', H', cls, d, rfl, J, nb, (up.trans up3).trans up4, .inr (.inr (by rw [hs]; exact hh4)), na, os, ag, w⟩
        first
          | exact wpAny_bind (wpAny_pure (wpAny_bind fin))
          | exact wpAny_bind fin
      | @cons x c o nm ts b₀ suite np pos' hds2 l2 hc hn hsu r ih =>
        intro w
        obtain ⟨b, hb1, hyes, hno⟩ := w
        refine wpAny_handleBy_cons (codeAny_handlers_test ?_) (by intro q; cases q)
        have LT : PySem.W.Looks (model X.prog X.w) h3 (typeOf (.ref a)) cls := fun A Q E s k q => wpAny_typeOf_ref (k _ _ he3) (by rw [hz3.1]; exact q)
        have LM := PySem.W.exm_one (M := model X.prog X.w) (J3.kIn) LT hb1
        have test : ∀ {Q : Value → Shared → Prop} {E : Value → Shared → Prop}, Q c { s' with heap := h3 } → wpAny (model X.prog X.w) (X.A.mark (some (.ref a))) (eval (.Name x np) X.env) Q E { s' with heap := h3 } := fun {Q E} q => by
          obtain ⟨hg, hdbg, hm | ⟨hm, hv, hnn⟩⟩ := hc
          · exact ld_glob (X := X.suite a ((a, oe3) :: (X.pn ++ pins))) S3 hg hm q hdbg
          · exact ld_blt (X := X.suite a ((a, oe3) :: (X.pn ++ pins))) S3 hg hm hv q hnn hdbg
        refine test (LM.here ?_)
        cases b with
        | true =>
          cases nm with
          | none =>
            cases o with
            | some i => exact hn.elim
            | none =>
              refine codeAny_handlers_suite ?_
              refine HandSPX.lands_againZ fl3 fun h4 fl4 up4 => ?_
              have J4 : Inv X pins σ' H' { s' with heap := h4 } := J.landed nb fl4.1 ((up.trans up3).trans up4) os ag
              obtain ⟨oe4, vs4, he4, hz4, hd4⟩ := fl4.there
              have S4 := J4.suite he4 hd4 na nL nF
              refine wpAny_mono ((hsu a oe4 cls d (X.pn ++ pins) hz4 ⟨_, hd4⟩).run [] _ _ H' _ S4 (hyes rfl a na)) (fun f s6 hsp => ?_) (fun _ _ z => False.elim z)
              cases f with
              | next =>
                obtain ⟨σ6, H6, S6, q6⟩ := hsp
                exact ⟨_, _, S6.unsuite ok, q6⟩
              | brk =>
                obtain ⟨σ6, H6, S6, q6⟩ := hsp
                exact ⟨_, _, S6.unsuite ok, q6⟩
              | cont =>
                obtain ⟨σ6, H6, S6, q6⟩ := hsp
                exact ⟨_, _, S6.unsuite ok, q6⟩
              | ret u =>
                obtain ⟨v6, σ6, H6, S6, r6, q6⟩ := hsp
                exact ⟨_, _, _, S6.unsuite ok, r6, q6⟩
          | some n =>
            cases o with
            | none => exact hn.elim
            | some i =>
              obtain ⟨hN, hi, hln, _⟩ := hn
              have hloc : Loc X.env.scope n := .inl hln
              refine codeAny_handlers_suite_as ?_
              refine HandSPX.lands_againZ fl3 fun h4 fl4 up4 => ?_
              have J4 : Inv X pins σ' H' { s' with heap := h4 } := J.landed nb fl4.1 ((up.trans up3).trans up4) os ag
              obtain ⟨oe4, vs4, he4, hz4, hd4⟩ := fl4.there
              have S4 := J4.suite he4 hd4 na nL nF
              refine store_ok (X := X.suite a ((a, oe4) :: (X.pn ++ pins))) (v := .ref a) S4 hN hi hloc rfl (fun s5 S5 => ?_) (.inr hln)
              refine wpAny_mono ((hsu a oe4 cls d (X.pn ++ pins) hz4 ⟨_, hd4⟩).run [] s5 _ H' _ S5 (hyes rfl a na)) (fun f s6 hsp => ?_) (fun _ _ z => False.elim z)
              have end_ : ∀ {σ6 : L2.St} {H6 : Hp} {Q : Shared → Prop}, Inv (X.suite a ((a, oe4) :: (X.pn ++ pins))) [] σ6 H6 s6 → (∀ s7, Inv X pins (σ6.set i none) H6 s7 → Q s7) →
                  wpAny (model X.prog X.w) X.A (do bindName X.env n .none; unbindBehindTheSuite X.env n pos') (fun _ s7 => Q s7) X.xe s6 := fun {σ6 H6 Q} S6 hq => gone_ok (S6.unsuite ok) hN hi hln hq
              cases f with
              | next =>
                obtain ⟨σ6, H6, S6, q6⟩ := hsp
                exact end_ S6 fun s7 J7 => ⟨_, _, J7, q6⟩
              | brk =>
                obtain ⟨σ6, H6, S6, q6⟩ := hsp
                exact end_ S6 fun s7 J7 => ⟨_, _, J7, q6⟩
              | cont =>
                obtain ⟨σ6, H6, S6, q6⟩ := hsp
                exact end_ S6 fun s7 J7 => ⟨_, _, J7, q6⟩
              | ret u =>
                obtain ⟨v6, σ6, H6, S6, r6, q6⟩ := hsp
                exact end_ S6 fun s7 J7 => ⟨_, _, _, J7, r6, q6⟩
        | false =>
          show wpAny _ X.A (handleBy (.ref a) X.env hds2) _ _ _
          exact ih (hno rfl)
    exact go hh w
  · cases f with
    | next =>
      obtain ⟨σ', H', J', q⟩ := hsp
      exact wpAny_execs_nil ⟨σ', H', J'.ofTry ok, q⟩
    | brk =>
      obtain ⟨σ', H', J', q⟩ := hsp
      exact ⟨σ', H', J'.ofTry ok, q⟩
    | cont =>
      obtain ⟨σ', H', J', q⟩ := hsp
      exact ⟨σ', H', J'.ofTry ok, q⟩
    | ret u =>
      obtain ⟨v, σ', H', J', r, q⟩ := hsp
      exact ⟨v, σ', H', J'.ofTry ok, r, q⟩
end
/-! ### over data -/
def clsE (cv : CV) : Exc → Value
  | .lim => cv.lim
  | .stp => cv.stp
  | .txt _ => cv.txt
theorem ExcR.cls {cv : CV} {F : Hp} {x : Exc} {c : Value} {d : Option Addr} (h : ExcR cv F x c d) : c = clsE cv x := by
  cases x <;> exact h.1
/-- an error's own dict -/
def dOk : Exc → Option Addr → Prop
  | .txt _, d => d ≠ none
  | _, d => d = none
def lnE : Exc → Option Addr → Fct
  | .txt n, some d => .line d n
  | _, _ => .no
theorem ExcR.dok {cv : CV} {K : PySem.W.Frag} {F : Hp} {x : Exc} {c : Value} {d : Option Addr} (h : ExcR cv F x c d) : dOk x d ∧ FctOk K F (lnE x d) := by
  cases x with
  | lim =>
    obtain ⟨_, rfl⟩ := h
    exact ⟨rfl, True.intro⟩
  | stp =>
    obtain ⟨_, rfl⟩ := h
    exact ⟨rfl, True.intro⟩
  | txt k =>
    obtain ⟨_, a, rfl, h2⟩ := h
    exact ⟨(fun z => by cases z), h2⟩
structure Hd where
  cl : Exc → Bool
  sl : Option Nat
  w : Exc → Addr → Option Addr → WS
def endS (o : Option Nat) (N : WN) : WN := match o with
  | none => { N with er := noR }
  | some i => { nx := fun s => N.nx (s.set i none), rt := N.rt, bk := fun s => N.bk (s.set i none), ct := fun s => N.ct (s.set i none), er := noR }
def bindS (o : Option Nat) (s : S) (a : Addr) (l : Fct) : S := match o with
  | none => s
  | some i => s.set i (some (.rf a l))
def inS (o : Option Nat) (s : S) : Prop := match o with
  | none => True
  | some i => i < s.length
def hdW (N : WN) : List Hd → WR
  | [] => N.er
  | h :: r => fun x s => if h.cl x = true then inS h.sl s ∧ ∀ a d, dOk x d → h.w x a d (endS h.sl N) (bindS h.sl s a (lnE x d)) else hdW N r x s
def sTry (w : WS) (hs : List Hd) : WS := fun N s => w { N with er := hdW N hs } s
theorem endS.le {N N' : WN} {o : Option Nat} (le : N.Le N') : (endS o N).Le (endS o N') := by
  cases o with
  | none => exact ⟨le.nx, le.rt, le.bk, le.ct, fun _ _ z => z⟩
  | some i => exact ⟨fun s => le.nx _, le.rt, fun s => le.bk _, fun s => le.ct _, fun _ _ z => z⟩
theorem hdW.mono {N N' : WN} (le : N.Le N') : ∀ {hs : List Hd}, (∀ h ∈ hs, ∀ x a d, h.cl x = true → dOk x d → MonoS (h.w x a d)) → ∀ x s, hdW N hs x s → hdW N' hs x s
  | [], _, x, s, q => le.er x s q
  | h :: r, hm, x, s, q => by
    unfold hdW at q ⊢
    split
    · rename_i e
      rw [if_pos e] at q
      exact ⟨q.1, fun a d k => hm h List.mem_cons_self x a d e k _ _ _ (endS.le le) (q.2 a d k)⟩
    · rename_i e
      rw [if_neg e] at q
      exact hdW.mono le (fun h' hh => hm h' (List.mem_cons_of_mem _ hh)) x s q
inductive HdsD (X : Cx) (cv : CV) (P : List Nat) : List ExceptHandler → List Hd → Prop
  | nil : HdsD X cv P [] []
  | cons {x : Str} {c : Value} {h : Hd} {nm : Option Str} {b₀ : Stmt} {suite : List Stmt} {np pos' : Pos} {hds : List ExceptHandler} {l : List Hd} (hc : Names X x c) (hn : NmOk X P nm h.sl) (hx : ∀ e, PySem.W.exmOne X.K (clsE cv e) c = some (h.cl e))
      (hsu : ∀ (e : Exc) (a : Addr) (oe : Obj) (d : Option Addr) (pn : List (Addr × Obj)), Zc (clsE cv e) d oe → (∃ vs, oe.data = .fields vs) → dOk e d → h.cl e = true → DSs (X.suite a ((a, oe) :: pn)) cv noE P (b₀ :: suite) (h.w e a d)) (r : HdsD X cv P hds l) :
      HdsD X cv P (.ExceptHandler (some (.Name x np)) nm (b₀ :: suite) pos' :: hds) (h :: l)
section
variable {X : Cx} {cv : CV} {E : L2.St → XK} {P : List Nat} {body : List Stmt} {h₀ : ExceptHandler} {hds : List ExceptHandler} {hs : List Hd} {pos : Pos} {w : WS}
theorem HdsD.mono {hds : List ExceptHandler} {hs : List Hd} (h : HdsD X cv P hds hs) : ∀ h ∈ hs, ∀ x a d, h.cl x = true → dOk x d → MonoS (h.w x a d) := by
  induction h with
  | nil => exact fun _ z => nomatch z
  | cons hc hn hx hsu r ih =>
    intro h' hh
    rcases List.mem_cons.mp hh with rfl | hh
    · exact fun x a d hc dk => (hsu x a { cls := clsE cv x, dict := d, data := .fields #[] } d [] ⟨rfl, rfl⟩ ⟨_, rfl⟩ dk hc).mono
    · exact ih h' hh
theorem suiteN {K : PySem.W.Frag} {pv : List (Nat × V)} {F F' : Hp} {φ : SLg} {D : Ends} {o : Option Nat} (sm : Same F F') (ep : ∀ p ∈ pv, p.1 ∈ P) (hP : ∀ i, o = some i → i ∉ P) : (endS o (okS K cv E pv F φ D)).Le (okS K cv noE pv F' φ (endO o D)) := by
  cases o with
  | none => exact ⟨fun s' z σ2 F2 H2 p2 s2 r2 => z σ2 F2 H2 p2 (sm.trans s2) r2, fun m s' z v σ2 F2 H2 p2 s2 r2 => z v σ2 F2 H2 p2 (sm.trans s2) r2, fun s' z σ2 F2 H2 p2 s2 r2 => z σ2 F2 H2 p2 (sm.trans s2) r2, fun s' z σ2 F2 H2 p2 s2 r2 => z σ2 F2 H2 p2 (sm.trans s2) r2, fun _ _ z => z.elim⟩
  | some i =>
    have hi := hP i rfl
    exact ⟨fun s' z σ2 F2 H2 p2 s2 r2 => z (σ2.set i none) F2 H2 (p2.set ep hi) (sm.trans s2) (r2.forget i none), fun m s' z v σ2 F2 H2 p2 s2 r2 => z v σ2 F2 H2 p2 (sm.trans s2) r2, fun s' z σ2 F2 H2 p2 s2 r2 => z (σ2.set i none) F2 H2 (p2.set ep hi) (sm.trans s2) (r2.forget i none), fun s' z σ2 F2 H2 p2 s2 r2 => z (σ2.set i none) F2 H2 (p2.set ep hi) (sm.trans s2) (r2.forget i none), fun _ _ z => z.elim⟩
theorem pinO {pv : List (Nat × V)} {σ : L2.St} {o : Option Nat} {a : Addr} (po : PinOk pv σ) (ep : ∀ p ∈ pv, p.1 ∈ P) (hP : ∀ i, o = some i → i ∉ P) : PinOk pv (setO o σ a) := by
  cases o with
  | none => exact po
  | some i => exact po.set ep (hP i rfl)
theorem resO {K : PySem.W.Frag} {F H : Hp} {σ : L2.St} {s : S} {φ : SLg} {o : Option Nat} {a : Addr} {l : Fct} (r : Res K F H σ s φ) (ln : FctOk K F l) (hi : inS o s) : Res K F H (setO o σ a) (bindS o s a l) φ := by
  cases o with
  | none => exact r
  | some i => exact (r.with (φ := rv K σ (.rf a l) (.ref a)) (.inr ⟨rfl, ln, fun _ => rfl⟩)).store rfl hi
theorem HdsD.toG {hds : List ExceptHandler} {hs : List Hd} (h : HdsD X cv P hds hs) : ∃ l, HdsG X hds l ∧ ∀ (pv : List (Nat × V)) (F : Hp) (φ : SLg) (D : Ends), (∀ p ∈ pv, p.1 ∈ P) → ∀ x s, hdW (okS X.K cv E pv F φ D) hs x s →
    (okS X.K cv (fun σ c d H => wManyG X.K (fun cls d σ H => E σ cls d H) D l c d σ H) pv F φ D).er x s := by
  induction h with
  | nil => exact ⟨[], .nil, fun pv F φ D ep x s q => q⟩
  | @cons x c h nm b₀ suite np pos' hds2 l2 hc hn hx hsu r ih =>
    obtain ⟨l, g, ih⟩ := ih
    refine ⟨(c, h.sl, fun a cls d D σ H => ∃ e, clsE cv e = cls ∧ dOk e d ∧ h.cl e = true ∧ liS X.K cv noE P (h.w e a d) D σ H) :: l, .cons hc ?_ (fun a oe cls d pn hz hf => ⟨fun pins s σ H D I q => ?_⟩) g, fun pv F φ D ep x s q c' d σ' F' H' po sm rs ex => ?_⟩
    · revert hn
      cases nm <;> cases h.sl
      · exact fun z => z
      · exact fun z => z
      · exact fun z => z
      · exact fun z => ⟨z.1, z.2.1, z.2.2.1, by simp⟩
    · obtain ⟨e, rfl, dk, hcl, q⟩ := q
      exact (hsu e a oe d pn hz hf dk hcl).pss.run pins s σ H D I q
    · have ec := ex.cls
      subst ec
      obtain ⟨dk, ln⟩ := ex.dok (K := X.K)
      unfold hdW at q
      refine ⟨h.cl x, hx x, fun hb a na => ⟨x, rfl, dk, hb, ?_⟩, fun hb => ?_⟩
      · rw [if_pos hb] at q
        obtain ⟨hi, q⟩ := q
        have q := q a d dk
        have hP : ∀ i, h.sl = some i → i ∉ P := fun i e => by
          rw [e] at hn
          cases nm with
          | none => exact hn.elim
          | some n => exact hn.2.2.2
        exact ⟨F', bindS h.sl s a (lnE x d), φ, pv, ep, pinO po ep hP, resO rs ln hi, (hsu x a { cls := clsE cv x, dict := d, data := .fields #[] } d [] ⟨rfl, rfl⟩ ⟨_, rfl⟩ dk hb).mono _ _ _ (suiteN sm ep hP) q⟩
      · rw [if_neg (by rw [hb]; decide)] at q
        exact ih pv F φ D ep x s q _ _ _ _ _ po sm rs ex
/-- try: .. except X: .. except Y as e: .. -/
theorem ds_try (hst : X.stack = X.env :: X.outer) (hf : X.env.frame = some X.env.locals) (tk : Takes X fun cls d σ H => E σ cls d H)
    (hb : ∀ (W : WX) (pn : List (Addr × Obj)) (xe : Value → Shared → Prop), Takes (X.tr pn xe) W → PassesOwn (model X.prog X.w) X.A X.env xe → DSs (X.tr pn xe) cv (fun σ c d H => W c d σ H) P body w)
    (hh : HdsD X cv P (h₀ :: hds) hs) : DS X cv E P (.Try body (h₀ :: hds) [] [] pos) (sTry w hs) := by
  obtain ⟨l, g, hl⟩ := hh.toG (E := E)
  have mw : MonoS w := (hb (fun _ _ _ _ => False) [] (fun _ _ => False) L2.takes0 PassesOwn.never).mono
  refine ⟨PS.imp (ps_try_g (tb := fun W => liS X.K cv (fun σ c d H => W c d σ H) P w) hst hf tk (fun W pn xe tk' po' => (hb W pn xe tk' po').pss) g) fun D σ H q => ?_, fun N N' s le q => mw { N with er := hdW N hs } _ _ ⟨le.nx, le.rt, le.bk, le.ct, hdW.mono le hh.mono⟩ q⟩
  obtain ⟨F, s, φ, pv, ep, po, r, q⟩ := q
  exact ⟨F, s, φ, pv, ep, po, r, mw { okS X.K cv E pv F φ D with er := hdW (okS X.K cv E pv F φ D) hs } _ _ ⟨fun _ z => z, fun _ _ z => z, fun _ z => z, fun _ z => z, fun x s' z => hl pv F φ D ep x s' z⟩ q⟩
end
/-! ### isinstance of a caught error; its line -/
def eIsE (i : Nat) (a : Addr) (b : Bool) : WE := fun s P _ => match s[i]? with
  | some (some (.rf a' _)) => a' = a ∧ P (.p (.bl b)) s
  | _ => False
section
variable {X : Cx} {cv : CV} {E : L2.St → XK}
theorem eIsE.mono {i : Nat} {a : Addr} {b : Bool} : MonoE (eIsE i a b) := fun s P P' R R' hp _ q => by
  unfold eIsE at q ⊢
  split at q
  · exact ⟨q.1, hp _ _ q.2⟩
  · exact q
theorem de_isE {a D : Addr} {oe : Obj} {pn : List (Addr × Obj)} {i : Nat} {b : Bool} {c : V} {cu : Value} {e ce : Expr} {p pos : Pos} (C : ExcC X.K D) (hz : Zc (.ref D) none oe) (hf : ∃ vs, oe.data = .fields vs) (he : PE (X.suite a ((a, oe) :: pn)) e (tVar i)) (hc : PE (X.suite a ((a, oe) :: pn)) ce (tC c)) (hcu : ∀ u, RelV c u → u = cu)
    (hk : PySem.W.kitOne X.K (.ref D) cu = some b) (hg : Gl X "isinstance") (hm : X.mg "isinstance" = none)
    (hs1 : starEach [e, ce] X.env = (false, eval e X.env) :: starEach [ce] X.env := by rfl) (hs2 : starEach [ce] X.env = (false, eval ce X.env) :: starEach [] X.env := by rfl) (hpl2 : (backTo pos (starEach [ce] X.env)).any (·.1) = false := by rfl) :
    DE (X.suite a ((a, oe) :: pn)) cv E (.Call (.Name "isinstance" p) [e, ce] [] pos) (eIsE i a b) := by
  refine ⟨PE.imp (pe_callB (call_isE C hz hf) hg hm boot_isinstance (pa_cons he (pa_cons hc pa_nil hs2) hs1) (by decide) (by decide) hs1 hpl2) fun σ H Q q => ?_, eIsE.mono⟩
  obtain ⟨F, s, φ, r, q⟩ := q
  unfold eIsE at q
  split at q
  · rename_i a' l e1
    obtain ⟨rfl, q⟩ := q
    obtain ⟨f1, f2, h1, h2, h3⟩ := r.ex
    obtain ⟨v, g1, g2, e2, p1, p2, p3⟩ := h1.out e1
    have ev : v = .ref a' := p1.1
    subst ev
    exact ⟨_, e2, c, cu, b, rfl, hcu, hk, q _ F H (Same.refl F) (r.pushP rfl)⟩
  · exact q.elim
end
/-! ### the classes of a program -/
def clOf (l s t : Bool) : Exc → Bool
  | .lim => l
  | .stp => s
  | .txt _ => t
/-- X(), X an own class of errors without an own __init__ -/
def XcR (G : Pg) (x : Str) (v : Value) : Prop := ∃ C, v = .ref C ∧ G.mg x = some (.ref C) ∧ PySem.W.keepIn G.K (.ref C) = true ∧ PySem.W.excIn G.K C [.type "ValueError", .type "Exception", .type "BaseException", .type "object"] "ValueError.__new__" = true ∧
  PySem.W.subIn G.K (.ref C) (.type "BaseException") = some true ∧ PySem.W.typeIn G.K (.ref C) = some (.type "type")
/-- what an except clause asks of the class x, whose value is v -/
structure XcM (G : Pg) (x : Str) (v : Value) (cl : Exc → Bool) : Prop where
  mg : G.mg x = some v
  ex : ∀ e, PySem.W.exmOne G.K (clsE G.cv e) v = some (cl e)
/-- isinstance of errors of the class v by the class x -/
def XcI (G : Pg) (v : Value) (x : Str) (b : Bool) : Prop := ∃ D, v = .ref D ∧ ExcC G.K D ∧ ((∃ C, G.mg x = some (.ref C) ∧ PySem.W.kitOne G.K v (.ref C) = some b) ∨ (∃ t, G.mg x = none ∧ bootBuiltins x = some (.type t) ∧ x ≠ "__name__" ∧ PySem.W.kitOne G.K v (.type t) = some b))
theorem XcR.mk {G : Pg} {x : Str} {v : Value} (h : XcR G x v) {X : Cx} {p pos : Pos} (hg : Gl X x) (eK : X.K = G.K := by rfl) (em : X.mg = G.mg := by rfl) (hdb : (x == ("__debug__" : Str)) = false := by decide) : PMk X (.Call (.Name x p) [] [] pos) (fun _ H Q => Q v none H) := by
  obtain ⟨C, rfl, h1, h2, h3, h4, h5⟩ := h
  rw [← eK] at h2 h3 h4 h5
  rw [← em] at h1
  exact pmk_own0 PySem.F.excBase_ValueError h3 h1 h2 (raises_own h4 h5) hg hdb
theorem XcM.names {G : Pg} {x : Str} {v : Value} {cl : Exc → Bool} (h : XcM G x v cl) {X : Cx} (hg : Gl X x) (em : X.mg = G.mg := by rfl) (hdb : (x == ("__debug__" : Str)) = false := by decide) : Names X x v :=
  ⟨hg, hdb, .inl (by rw [em]; exact h.mg)⟩
theorem de_isG {G : Pg} {v : Value} {x : Str} {b : Bool} (h : XcI G v x b) {X : Cx} {cv : CV} {E : L2.St → XK} {a : Addr} {oe : Obj} {pn : List (Addr × Obj)} {i : Nat} {e : Expr} {p p2 pos : Pos} (hz : Zc v none oe) (hf : ∃ vs, oe.data = .fields vs) (he : PE (X.suite a ((a, oe) :: pn)) e (tVar i)) (hgx : Gl X x) (hg : Gl X "isinstance") (hm : X.mg "isinstance" = none)
    (hs1 : starEach [e, .Name x p2] X.env = (false, eval e X.env) :: starEach [.Name x p2] X.env := by rfl) (eK : X.K = G.K := by rfl) (em : X.mg = G.mg := by rfl) (hdb : (x == ("__debug__" : Str)) = false := by decide) :
    DE (X.suite a ((a, oe) :: pn)) cv E (.Call (.Name "isinstance" p) [e, .Name x p2] [] pos) (eIsE i a b) := by
  obtain ⟨D, rfl, hD, h⟩ := h
  rw [← eK] at hD h
  rw [← em] at h
  have hgx : Gl (X.suite a ((a, oe) :: pn)) x := hgx
  rcases h with ⟨C, h1, h2⟩ | ⟨t, h1, h2, h3, h4⟩
  · exact de_isE hD hz hf he (pe_glob (v := .ref C) hgx h1 rfl hdb) (fun u r => r) h2 hg hm hs1 (by rfl) (by rfl)
  · exact de_isE hD hz hf he (pe_bltn (v := .ty t) hgx h1 h2 rfl h3 hdb) (fun u r => r) h4 hg hm hs1 (by rfl) (by rfl)
omit [Tb] in
theorem kit_ref {K : PySem.W.Frag} {C : Addr} {t : Value} {b : Bool} (hd : PySem.W.hasDictIn K C = true) (ht : PySem.W.typeIn K (.ref C) = some (.type "type")) (hs : PySem.W.subIn K t (.ref C) = some b) (he : t = .ref C → b = true) : PySem.W.kitOne K t (.ref C) = some b := by
  unfold PySem.W.kitOne
  split
  · rename_i z
    rw [he (beq_iff_eq.mp z)]
  · obtain ⟨cd, hc, _⟩ := PySem.W.any_some hd
    unfold PySem.W.kitCls
    dsimp only
    rw [hc, ht]
    exact hs
omit [Tb] in
theorem kit_ty' {K : PySem.W.Frag} {t : String} {D : Addr} {b : Bool} (hm : PySem.W.kitMeta t = true) (hs : PySem.W.subIn K (.ref D) (.type t) = some b) : PySem.W.kitOne K (.ref D) (.type t) = some b := by
  unfold PySem.W.kitOne
  rw [if_neg (by intro z; cases beq_iff_eq.mp z)]
  unfold PySem.W.kitCls
  dsimp only
  rw [if_pos hm]
  exact hs
end Sd
set_option maxHeartbeats 1000000
/-! SdL: loops and comprehensions over what a list of anything stands for. -/
namespace Sd
open PySem PySem.Spec PyProof.Rows L2
variable [Tb]
theorem ifB {b : Bool} {A B : Prop} (h1 : b = true → A) (h2 : b = false → B) : if b = true then A else B := by
  cases b
  · exact h2 rfl
  · exact h1 rfl
theorem own_none {s : S} {j : Nat} (h : s[j]? = some none) : ownP s [j] := fun v hv m e => by
  rw [List.mem_singleton.mp hv, h] at e
  cases e
theorem own_none2 {s : S} {j k : Nat} (h : s[j]? = some none) (h2 : s[k]? = some none) : ownP s [j, k] := fun v hv m e => by
  rcases List.mem_cons.mp hv with rfl | hv
  · rw [h] at e
    cases e
  · rw [List.mem_singleton.mp hv, h2] at e
    cases e
theorem for_x {α : Type} {xs : List α} {en : α → D} {l : List D} {wg : WG} {w : WS} {N : WN} {s1 : S} (I : Nat → S → Prop) (el : l = xs.map en) (h0 : I 0 s1)
    (step : ∀ (i : Nat) (x : α) (s : S), xs[i]? = some x → I i s → wg (.p (en x)) s fun s2 => w { N with nx := I (i + 1), ct := I (i + 1), bk := N.nx } s2) (fin : ∀ s, I xs.length s → N.nx s) :
    ∃ W : Nat → Nat → S → Prop, (∃ m, W 0 m s1) ∧ ∀ i m s, W i m s → turnW wg w N W i m s (gFix l s i) := by
  subst el
  refine for_fix I h0 (fun i d s e h => ?_) (by rw [List.length_map]; exact fin)
  rw [List.getElem?_map, Option.map_eq_some_iff] at e
  obtain ⟨x, e, rfl⟩ := e
  exact step i x s e h
/-- over a range from 0 -/
theorem for_r {n : Nat} {wg : WG} {w : WS} {N : WN} {s1 : S} (I : Nat → S → Prop) (h0 : I 0 s1)
    (step : ∀ (i : Nat) (s : S), i < n → I i s → wg (.p (.int i)) s fun s2 => w { N with nx := I (i + 1), ct := I (i + 1), bk := N.nx } s2) (fin : ∀ s, I n s → N.nx s) :
    ∃ W : Nat → Nat → S → Prop, (∃ m, W 0 m s1) ∧ ∀ i m s, W i m s → turnW wg w N W i m s (gRng 0 1 n s i) := by
  rw [show (fun (W : Nat → Nat → S → Prop) => (∃ m, W 0 m s1) ∧ ∀ i m s, W i m s → turnW wg w N W i m s (gRng 0 1 n s i)) = fun W => (∃ m, W 0 m s1) ∧ ∀ i m s, W i m s → turnW wg w N W i m s (gFix ((List.range n).map fun i : Nat => D.int (0 + (i : Int) * 1)) s i) by rw [← gRng_fix]]
  refine for_x (xs := List.range n) (en := fun i : Nat => D.int (0 + (i : Int) * 1)) I rfl h0 (fun i x s e h => ?_) (by rw [List.length_range]; exact fin)
  have hi := List.getElem?_eq_some_iff.mp e
  obtain ⟨h1, h2⟩ := hi
  rw [List.length_range] at h1
  rw [List.getElem_range] at h2
  subst h2
  have := step i s h1 h
  rw [show (0 : Int) + (i : Int) * 1 = i by omega]
  exact this
theorem wipeD_get {s : S} : ∀ {vs : List Nat} {v : Nat}, v ∉ vs → (wipeD s vs)[v]? = s[v]?
  | [], _, _ => rfl
  | w :: vs, v, h => by
    show ((wipeD s vs).set w none)[v]? = _
    rw [List.getElem?_set_ne (fun z => h (by rw [z]; exact List.mem_cons_self)), wipeD_get fun z => h (List.mem_cons_of_mem _ z)]
theorem rest_wipe {s : S} : ∀ {vs : List Nat}, vs.Nodup → (∀ v ∈ vs, v < s.length) → restD s (wipeD s vs) vs = s
  | [], _, _ => rfl
  | v :: vs, nd, hl => by
    obtain ⟨n1, n2⟩ := List.nodup_cons.mp nd
    have ih := rest_wipe (s := s) n2 fun u hu => hl u (List.mem_cons_of_mem _ hu)
    have hv := hl v List.mem_cons_self
    have g := wipeD_get (s := s) n1
    have e : s[v]? = some s[v] := List.getElem?_eq_getElem hv
    show restD s (match s[v]? with | some (some m) => ((wipeD s vs).set v none).set v (some m) | _ => (wipeD s vs).set v none) vs = s
    rw [e] at g ⊢
    cases h : s[v] with
    | none =>
      rw [h] at g
      show restD s ((wipeD s vs).set v none) vs = s
      rw [set_same g]
      exact ih
    | some m =>
      rw [h] at g
      show restD s (((wipeD s vs).set v none).set v (some m)) vs = s
      rw [set_set, set_same g]
      exact ih
/-- [f x for .. in l if c x], the list standing for xs -/
theorem lc_g {α : Type} {own : List Nat} {xs : List α} {en f : α → D} {c : α → Bool} {l : List D} {wg : WG} {wt : WT} {we : WE} {s1 : S} {P : M → S → Prop} (st : α → S) (el : l = xs.map en) (hl : xs.length ≤ sizeLine) (nd : own.Nodup) (op : ownP s1 own) (hj : ∀ v ∈ own, v < s1.length)
    (hg : ∀ x ∈ xs, ∀ Q : S → Prop, Q (st x) → wg (.p (en x)) (wipeD s1 own) Q) (hw : ∀ x ∈ xs, wipeD (st x) own = wipeD s1 own)
    (ht : ∀ x ∈ xs, ∀ Q : Bool → S → Prop, Q (c x) (st x) → wt (st x) Q noR)
    (he : ∀ x ∈ xs, c x = true → ∀ Q : M → S → Prop, Q (.p (f x)) (st x) → we (st x) Q noR) (hP : P (.ml ((xs.filter c).map f)) s1) :
    ownP s1 own ∧ ∃ W : Nat → Nat → List D → S → Prop, (∃ m, W 0 m [] (wipeD s1 own)) ∧ ∀ i m acc s, W i m acc s → (∀ v ∈ own, v < s1.length → s[v]? = some none) ∧ lcTurn own wg wt we s1 P W i m acc s (gFix l s i) := by
  subst el
  refine ⟨op, fun i m acc s => m = xs.length - i ∧ i ≤ xs.length ∧ acc = ((xs.take i).filter c).map f ∧ s = wipeD s1 own, ⟨xs.length, by omega, by omega, rfl, rfl⟩, ?_⟩
  rintro i m acc s ⟨rfl, hi, rfl, rfl⟩
  refine ⟨fun v hv h => wipeD_none hv h, ?_⟩
  show lcTurn own wg wt we s1 P _ i _ _ _ (some (((xs.map en)[i]?).map M.p))
  rw [List.getElem?_map]
  by_cases hi2 : i < xs.length
  · have e : xs[i]? = some xs[i] := List.getElem?_eq_getElem hi2
    have hm : xs[i] ∈ xs := List.getElem_mem hi2
    rw [e]
    have et : xs.take (i + 1) = xs.take i ++ [xs[i]] := by rw [List.take_add_one, e]; rfl
    refine hg _ hm _ (ht _ hm _ ?_)
    by_cases hc : c xs[i] = true
    · rw [if_pos hc]
      refine he _ hm hc _ ⟨?_, xs.length - (i + 1), by omega, rfl, hi2, ?_, hw _ hm⟩
      · rw [List.length_map]
        have h1 := List.length_filter_le c (xs.take i)
        rw [List.length_take] at h1
        omega
      · rw [et, List.filter_append, List.map_append, List.filter_cons_of_pos hc]
        rfl
    · rw [if_neg hc]
      refine ⟨xs.length - (i + 1), by omega, rfl, hi2, ?_, hw _ hm⟩
      rw [et, List.filter_append, List.map_append, List.filter_cons_of_neg hc]
      simp
  · have ei : i = xs.length := by omega
    subst ei
    rw [List.getElem?_eq_none (Nat.le_refl _)]
    show P (.ml _) (restD s1 (wipeD s1 own) own)
    rw [rest_wipe nd hj, List.take_length]
    exact hP
/-- [f x for x in l if c x] -/
theorem lc_x {α : Type} {j : Nat} {xs : List α} {en : α → D} {l : List D} {wt : WT} {we : WE} {s1 : S} {P : M → S → Prop} (c : α → Bool) (f : α → D) (el : l = xs.map en) (hl : xs.length ≤ sizeLine) (op : ownP s1 [j]) (hj : j < s1.length)
    (ht : ∀ x ∈ xs, ∀ Q : Bool → S → Prop, Q (c x) (s1.set j (some (.p (en x)))) → wt (s1.set j (some (.p (en x)))) Q noR)
    (he : ∀ x ∈ xs, c x = true → ∀ Q : M → S → Prop, Q (.p (f x)) (s1.set j (some (.p (en x)))) → we (s1.set j (some (.p (en x)))) Q noR) (hP : P (.ml ((xs.filter c).map f)) s1) :
    ownP s1 [j] ∧ ∃ W : Nat → Nat → List D → S → Prop, (∃ m, W 0 m [] (wipeD s1 [j])) ∧ ∀ i m acc s, W i m acc s → (∀ v ∈ [j], v < s1.length → s[v]? = some none) ∧ lcTurn [j] (gN j) wt we s1 P W i m acc s (gFix l s i) :=
  lc_g (fun x => s1.set j (some (.p (en x)))) el hl (by simp) op (fun v hv => by rw [List.mem_singleton.mp hv]; exact hj) (fun x _ Q q => by
    show j < (s1.set j none).length ∧ Q ((s1.set j none).set j (some (.p (en x))))
    rw [set_set]
    exact ⟨by rw [List.length_set]; exact hj, q⟩) (fun x _ => set_set _ _ _ _) ht he hP
theorem lc_xm {α : Type} {j : Nat} {xs : List α} {en : α → D} {l : List D} {we : WE} {s1 : S} {P : M → S → Prop} (f : α → D) (el : l = xs.map en) (hl : xs.length ≤ sizeLine) (op : ownP s1 [j]) (hj : j < s1.length)
    (he : ∀ x ∈ xs, ∀ Q : M → S → Prop, Q (.p (f x)) (s1.set j (some (.p (en x)))) → we (s1.set j (some (.p (en x)))) Q noR) (hP : P (.ml (xs.map f)) s1) :
    ownP s1 [j] ∧ ∃ W : Nat → Nat → List D → S → Prop, (∃ m, W 0 m [] (wipeD s1 [j])) ∧ ∀ i m acc s, W i m acc s → (∀ v ∈ [j], v < s1.length → s[v]? = some none) ∧ lcTurn [j] (gN j) tYs we s1 P W i m acc s (gFix l s i) :=
  lc_x (fun _ => true) f el hl op hj (fun _ _ _ q => q) (fun x hx _ => he x hx) (by rw [List.filter_eq_self.mpr fun _ _ => rfl]; exact hP)
/-- [f a b for a, b in l if c]: two names -/
theorem lc_2 {α : Type} {j k : Nat} {xs : List α} {en1 en2 : α → D} {l : List D} {wt : WT} {we : WE} {s1 : S} {P : M → S → Prop} (c : α → Bool) (f : α → D) (el : l = xs.map fun x => D.tup [en1 x, en2 x]) (hl : xs.length ≤ sizeLine) (op : ownP s1 [j, k]) (hj : j < s1.length) (hk : k < s1.length) (hjk : j ≠ k)
    (ht : ∀ x ∈ xs, ∀ Q : Bool → S → Prop, Q (c x) ((s1.set j (some (.p (en1 x)))).set k (some (.p (en2 x)))) → wt ((s1.set j (some (.p (en1 x)))).set k (some (.p (en2 x)))) Q noR)
    (he : ∀ x ∈ xs, c x = true → ∀ Q : M → S → Prop, Q (.p (f x)) ((s1.set j (some (.p (en1 x)))).set k (some (.p (en2 x)))) → we ((s1.set j (some (.p (en1 x)))).set k (some (.p (en2 x)))) Q noR) (hP : P (.ml ((xs.filter c).map f)) s1) :
    ownP s1 [j, k] ∧ ∃ W : Nat → Nat → List D → S → Prop, (∃ m, W 0 m [] (wipeD s1 [j, k])) ∧ ∀ i m acc s, W i m acc s → (∀ v ∈ [j, k], v < s1.length → s[v]? = some none) ∧ lcTurn [j, k] (gTup 2 (gCons (gN j) (gCons (gN k) gNil))) wt we s1 P W i m acc s (gFix l s i) := by
  have cm : ∀ (s : S) (a b : Option M), (s.set j a).set k b = (s.set k b).set j a := fun s a b => List.set_comm _ _ hjk
  refine lc_g (fun x => (s1.set j (some (.p (en1 x)))).set k (some (.p (en2 x)))) el hl (by simp [hjk]) op (fun v hv => ?_) (fun x _ Q q => ⟨rfl, ?_, ?_, ?_⟩) (fun x _ => ?_) ht he hP
  · rcases List.mem_cons.mp hv with rfl | hv
    · exact hj
    · rw [List.mem_singleton.mp hv]; exact hk
  · show j < ((s1.set k none).set j none).length
    simp [hj]
  · show k < (((s1.set k none).set j none).set j _).length
    simp [hk]
  · show Q ((((s1.set k none).set j none).set j (some (.p (en1 x)))).set k (some (.p (en2 x))))
    rw [set_set, cm, set_set, ← cm]
    exact q
  · show ((((s1.set j (some (.p (en1 x)))).set k (some (.p (en2 x)))).set k none).set j none) = (s1.set k none).set j none
    rw [set_set, cm, set_set]
theorem dput_len {a : List (D × D)} {k d : D} : (dput a k d).length ≤ a.length + 1 := by
  unfold dput
  split
  · rw [List.length_map]; omega
  · rw [List.length_append]; exact Nat.le_refl _
/-- the dict that is made of a list -/
def mkD {α : Type} (fk fv : α → D) (l : List α) : List (D × D) := l.foldl (fun a x => dput a (fk x) (fv x)) []
theorem mkD_app {α : Type} {fk fv : α → D} {l : List α} {x : α} : mkD fk fv (l ++ [x]) = dput (mkD fk fv l) (fk x) (fv x) := by
  unfold mkD
  rw [List.foldl_append]
  rfl
theorem mkD_len {α : Type} {fk fv : α → D} (l : List α) : (mkD fk fv l).length ≤ l.length := by
  have : ∀ (k : List α) (a : List (D × D)), (k.foldl (fun a x => dput a (fk x) (fv x)) a).length ≤ a.length + k.length := fun k => by
    induction k with
    | nil => intro a; exact Nat.le_refl _
    | cons d k ih =>
      intro a
      rw [List.foldl_cons, List.length_cons]
      have h1 := ih (dput a (fk d) (fv d))
      have h2 := dput_len (a := a) (k := fk d) (d := fv d)
      omega
  simpa [mkD] using this l []
/-- {fk x: fv x for .. in l if c x} -/
theorem dc_g {α : Type} {own : List Nat} {xs : List α} {en fk fv : α → D} {c : α → Bool} {l : List D} {wg : WG} {wt : WT} {wk wv : WE} {s1 : S} {P : M → S → Prop} (st : α → S) (el : l = xs.map en) (hl : xs.length ≤ sizeLine) (nd : own.Nodup) (op : ownP s1 own) (hj : ∀ v ∈ own, v < s1.length)
    (hg : ∀ x ∈ xs, ∀ Q : S → Prop, Q (st x) → wg (.p (en x)) (wipeD s1 own) Q) (hw : ∀ x ∈ xs, wipeD (st x) own = wipeD s1 own)
    (ht : ∀ x ∈ xs, ∀ Q : Bool → S → Prop, Q (c x) (st x) → wt (st x) Q noR)
    (hk : ∀ x ∈ xs, c x = true → ∀ Q : M → S → Prop, Q (.p (fk x)) (st x) → wk (st x) Q noR)
    (hv : ∀ x ∈ xs, c x = true → ∀ Q : M → S → Prop, Q (.p (fv x)) (st x) → wv (st x) Q noR)
    (fit : ∀ (i : Nat) (x : α), xs[i]? = some x → c x = true → fitK (mkD fk fv ((xs.take i).filter c)) (fk x) = true) (hP : P (.md (mkD fk fv (xs.filter c))) s1) :
    ownP s1 own ∧ ∃ W : Nat → Nat → List (D × D) → S → Prop, (∃ m, W 0 m [] (wipeD s1 own)) ∧ ∀ i m acc s, W i m acc s → (∀ v ∈ own, v < s1.length → s[v]? = some none) ∧ dcTurn own wg wt wk wv s1 P W i m acc s (gFix l s i) := by
  subst el
  refine ⟨op, fun i m acc s => m = xs.length - i ∧ i ≤ xs.length ∧ acc = mkD fk fv ((xs.take i).filter c) ∧ s = wipeD s1 own, ⟨xs.length, by omega, by omega, rfl, rfl⟩, ?_⟩
  rintro i m acc s ⟨rfl, hi, rfl, rfl⟩
  refine ⟨fun v hv h => wipeD_none hv h, ?_⟩
  show dcTurn own wg wt wk wv s1 P _ i _ _ _ (some (((xs.map en)[i]?).map M.p))
  rw [List.getElem?_map]
  by_cases hi2 : i < xs.length
  · have e : xs[i]? = some xs[i] := List.getElem?_eq_getElem hi2
    have hm : xs[i] ∈ xs := List.getElem_mem hi2
    rw [e]
    have et : xs.take (i + 1) = xs.take i ++ [xs[i]] := by rw [List.take_add_one, e]; rfl
    refine hg _ hm _ (ht _ hm _ ?_)
    by_cases hc : c xs[i] = true
    · rw [if_pos hc]
      refine hk _ hm hc _ (hv _ hm hc _ ⟨fit i _ e hc, ?_, xs.length - (i + 1), by omega, rfl, hi2, ?_, hw _ hm⟩)
      · have h0 := mkD_len (fk := fk) (fv := fv) ((xs.take i).filter c)
        have h1 := List.length_filter_le c (xs.take i)
        rw [List.length_take] at h1
        omega
      · rw [et, List.filter_append, List.filter_cons_of_pos hc]
        exact mkD_app.symm
    · rw [if_neg hc]
      refine ⟨xs.length - (i + 1), by omega, rfl, hi2, ?_, hw _ hm⟩
      rw [et, List.filter_append, List.filter_cons_of_neg hc]
      simp
  · have ei : i = xs.length := by omega
    subst ei
    rw [List.getElem?_eq_none (Nat.le_refl _)]
    show P (.md _) (restD s1 (wipeD s1 own) own)
    rw [rest_wipe nd hj, List.take_length]
    exact hP
theorem dc_x {α : Type} {j : Nat} {xs : List α} {en : α → D} {l : List D} {wt : WT} {wk wv : WE} {s1 : S} {P : M → S → Prop} (c : α → Bool) (fk fv : α → D) (el : l = xs.map en) (hl : xs.length ≤ sizeLine) (op : ownP s1 [j]) (hj : j < s1.length)
    (ht : ∀ x ∈ xs, ∀ Q : Bool → S → Prop, Q (c x) (s1.set j (some (.p (en x)))) → wt (s1.set j (some (.p (en x)))) Q noR)
    (hk : ∀ x ∈ xs, c x = true → ∀ Q : M → S → Prop, Q (.p (fk x)) (s1.set j (some (.p (en x)))) → wk (s1.set j (some (.p (en x)))) Q noR)
    (hv : ∀ x ∈ xs, c x = true → ∀ Q : M → S → Prop, Q (.p (fv x)) (s1.set j (some (.p (en x)))) → wv (s1.set j (some (.p (en x)))) Q noR)
    (fit : ∀ (i : Nat) (x : α), xs[i]? = some x → c x = true → fitK (mkD fk fv ((xs.take i).filter c)) (fk x) = true) (hP : P (.md (mkD fk fv (xs.filter c))) s1) :
    ownP s1 [j] ∧ ∃ W : Nat → Nat → List (D × D) → S → Prop, (∃ m, W 0 m [] (wipeD s1 [j])) ∧ ∀ i m acc s, W i m acc s → (∀ v ∈ [j], v < s1.length → s[v]? = some none) ∧ dcTurn [j] (gN j) wt wk wv s1 P W i m acc s (gFix l s i) :=
  dc_g (fun x => s1.set j (some (.p (en x)))) el hl (by simp) op (fun v hv => by rw [List.mem_singleton.mp hv]; exact hj) (fun x _ Q q => by
    show j < (s1.set j none).length ∧ Q ((s1.set j none).set j (some (.p (en x))))
    rw [set_set]
    exact ⟨by rw [List.length_set]; exact hj, q⟩) (fun x _ => set_set _ _ _ _) ht hk hv fit hP
end Sd
set_option maxHeartbeats 2000000
/-! SdY: list(zip(t, u)) of two tuples. -/
namespace Sd
open PySem PySem.Spec PyProof.Rows L2
theorem zip_no_len : typeLookup (.type "zip") "__len__" = pure none := am_miss_of_fast (by decide +kernel)
theorem zip_no_hint : typeLookup (.type "zip") "__length_hint__" = pure none := am_miss_of_fast (by decide +kernel)
section
variable {prog : Program} {w : World} {A : Around} {E : Value → Shared → Prop} {s : Shared} {z TI TO T i1 i2 l1 l2 : Nat} {f : Bool} {oT : Obj} {k1 k2 : Nat} {xs ys : Array Value} {x y : Value}
/-- next of a zip over tuples whose last pair is still in use -/
theorem zipT_held {Q : Value → Shared → Prop} (D : ZipApart z TI TO i1 i2 l1 l2) (hz : IsZipHeld s.heap z TI TO T f) (hT : s.heap.get? T = some oT) (hTI : IsPair s.heap TI (.ref i1) (.ref i2))
    (h1 : s.heap.IsTupleIter i1 l1 k1) (h2 : s.heap.IsTupleIter i2 l2 k2) (hl1 : s.heap.IsTuple l1 xs) (hl2 : s.heap.IsTuple l2 ys) (hx : xs[k1]? = some x) (hy : ys[k2]? = some y)
    (hQ : ∀ h', IsZipHeld h' z TI TO T true → h'.IsTupleIter i1 l1 (k1 + 1) → h'.IsTupleIter i2 l2 (k2 + 1) → IsPair h' s.heap.objs.size x y → h'.objs.size = s.heap.objs.size + 1 →
      (∀ c o, c ≠ z → c ≠ i1 → c ≠ i2 → s.heap.get? c = some o → h'.get? c = some o) → Q (.ref s.heap.objs.size) { s with heap := h' }) :
    wpAny (model prog w) A (Builtin.«zip.__next__» ⟨[.ref z], []⟩) (fun fin s' => ∃ v, fin = .done (.ret v) ∧ Q v s') E s := by
  show wpAny _ _ (field (.ref z) 2 >>= _) _ _ _
  refine wpAny_bind (wpAny_field hz rfl (x := .bool false) rfl ?_)
  show wpAny _ _ (field (.ref z) 3 >>= _) _ _ _
  refine wpAny_bind (wpAny_field hz rfl (x := .ref TI) rfl (wpAny_bind (wpAny_seqItems hTI rfl ?_)))
  show wpAny _ _ (Builtin.SmallTypes.ownedTupleIsFree (.ref z) >>= _) _ _ _
  refine wpAny_bind (wpAny_tupleHeld_zip hz hT fun g1 gz gs => ?_)
  simp only [Bool.false_eq_true, if_false]
  refine wpAny_bind ?_
  rw [← Array.forIn_toList]
  simp only [List.forIn_cons, List.forIn_nil]
  refine wpAny_bind (wpAny_bind (wpAny_holding ?_))
  show wpAny _ _ (Builtin.SmallTypes.nextOf (.ref i1) >>= _) _ _ _
  refine wpAny_bind (RZ.nextOf_tuple_item (s := { s with heap := g1 }) (h1.extBut gs.extBut D.i1z) (hl1.extBut gs.extBut D.l1z) hx fun g2 a1 as => wpAny_pure (wpAny_pure (wpAny_bind (wpAny_bind (wpAny_holding ?_)))))
  show wpAny _ _ (Builtin.SmallTypes.nextOf (.ref i2) >>= _) _ _ _
  refine wpAny_bind (RZ.nextOf_tuple_item (s := { s with heap := g2 }) ((h2.extBut gs.extBut D.i2z).extBut as.extBut D.i12.symm) ((hl2.extBut gs.extBut D.l2z).extBut as.extBut D.l2i1) hy fun g3 b1 bs => wpAny_pure (wpAny_pure (wpAny_pure ?_)))
  show wpAny _ _ (newTuple [x, y] >>= _) _ _ _
  have sz : g3.objs.size = s.heap.objs.size := by rw [bs.1, as.1, gs.1]
  have z3 : IsZipHeld g3 z TI TO T true := bs.extBut _ _ D.i2z.symm (as.extBut _ _ D.i1z.symm gz)
  have k3 : ∀ c o, c ≠ z → c ≠ i1 → c ≠ i2 → s.heap.get? c = some o → g3.get? c = some o := fun c o c1 c2 c3 e => bs.extBut _ _ c3 (as.extBut _ _ c2 (gs.extBut _ _ c1 e))
  refine wpAny_bind (wpAny_newTuple (wpAny_pure ⟨_, rfl, ?_⟩))
  show Q (.ref g3.objs.size) _
  have p : IsPair (g3.push { cls := .type "tuple", data := .seq #[x, y] }) g3.objs.size x y := Heap.get?_push_size _ rfl
  have z4 : (g3.push { cls := .type "tuple", data := .seq #[x, y] }).objs.size = g3.objs.size + 1 := Heap.size_push ..
  rw [sz] at p z4 ⊢
  exact hQ _ (Heap.get?_push_of_some _ z3) ((a1.extBut bs.extBut D.i12).at fun o e => Heap.get?_push_of_some _ e) (b1.at fun o e => Heap.get?_push_of_some _ e) p z4 fun c o c1 c2 c3 e => Heap.get?_push_of_some _ (k3 c o c1 c2 c3 e)
theorem zipT_held_end {Q : Fin → Shared → Prop} (hh : A.handled = none) (D : ZipApart z TI TO i1 i2 l1 l2) (hz : IsZipHeld s.heap z TI TO T f) (hT : s.heap.get? T = some oT) (hTI : IsPair s.heap TI (.ref i1) (.ref i2))
    (h1 : s.heap.IsTupleIter i1 l1 k1) (h2 : s.heap.IsTupleIter i2 l2 k2) (hl1 : s.heap.IsTuple l1 xs) (hl2 : s.heap.IsTuple l2 ys) (hend : xs[k1]? = none ∨ ys[k2]? = none)
    (hE : ∀ h' e, (∀ c o, c ≠ z → c ≠ i1 → c ≠ i2 → s.heap.get? c = some o → h'.get? c = some o) → (∃ o, h'.get? e = some o ∧ o.cls = .type "StopIteration") → E (.ref e) { s with heap := h' }) :
    wpAny (model prog w) A (Builtin.«zip.__next__» ⟨[.ref z], []⟩) Q E s := by
  show wpAny _ _ (field (.ref z) 2 >>= _) _ _ _
  refine wpAny_bind (wpAny_field hz rfl (x := .bool false) rfl ?_)
  show wpAny _ _ (field (.ref z) 3 >>= _) _ _ _
  refine wpAny_bind (wpAny_field hz rfl (x := .ref TI) rfl (wpAny_bind (wpAny_seqItems hTI rfl ?_)))
  show wpAny _ _ (Builtin.SmallTypes.ownedTupleIsFree (.ref z) >>= _) _ _ _
  refine wpAny_bind (wpAny_tupleHeld_zip hz hT fun g1 gz gs => ?_)
  simp only [Bool.false_eq_true, if_false]
  refine wpAny_bind ?_
  rw [← Array.forIn_toList]
  simp only [List.forIn_cons, List.forIn_nil]
  refine wpAny_bind (wpAny_bind (wpAny_holding ?_))
  show wpAny _ _ (Builtin.SmallTypes.nextOf (.ref i1) >>= _) _ _ _
  cases hx : xs[k1]? with
  | none => exact wpAny_bind (RZ.nextOf_tuple_end (s := { s with heap := g1 }) hh (h1.extBut gs.extBut D.i1z) (hl1.extBut gs.extBut D.l1z) hx fun g2 e as he => hE g2 e (fun c o c1 c2 _ x => as _ _ c2 (gs.extBut _ _ c1 x)) he)
  | some x =>
    have hy : ys[k2]? = none := hend.resolve_left fun q => by rw [hx] at q; cases q
    refine wpAny_bind (RZ.nextOf_tuple_item (s := { s with heap := g1 }) (h1.extBut gs.extBut D.i1z) (hl1.extBut gs.extBut D.l1z) hx fun g2 a1 as => wpAny_pure (wpAny_pure (wpAny_bind (wpAny_bind (wpAny_holding ?_)))))
    show wpAny _ _ (Builtin.SmallTypes.nextOf (.ref i2) >>= _) _ _ _
    exact wpAny_bind (RZ.nextOf_tuple_end (s := { s with heap := g2 }) hh ((h2.extBut gs.extBut D.i2z).extBut as.extBut D.i12.symm) ((hl2.extBut gs.extBut D.l2z).extBut as.extBut D.l2i1) hy fun g3 e bs he =>
      hE g3 e (fun c o c1 c2 c3 x => bs _ _ c3 (as.extBut _ _ c2 (gs.extBut _ _ c1 x))) he)
/-- a zip over two tuples that has given out i pairs, all of them in use -/
structure ZS (h : Heap) (z TI TO i1 i2 l1 l2 b0 i : Nat) (xs ys : Array Value) : Prop where
  zip : (i = 0 ∧ IsZip h z TI TO .none ∧ ∃ a b, IsPair h TO a b) ∨ (0 < i ∧ ∃ f, IsZipHeld h z TI TO b0 f)
  ti : IsPair h TI (.ref i1) (.ref i2)
  t1 : h.IsTupleIter i1 l1 i
  t2 : h.IsTupleIter i2 l2 i
  l1 : h.IsTuple l1 xs
  l2 : h.IsTuple l2 ys
  sz : h.objs.size = b0 + i
  ps : ∀ j, j < i → ∃ x y, xs[j]? = some x ∧ ys[j]? = some y ∧ IsPair h (b0 + j) x y
theorem zs_next {b0 i : Nat} {Q : Option Value → Shared → Prop} (D : ZipApart z TI TO i1 i2 l1 l2) (lo : z < b0 ∧ TI < b0 ∧ TO < b0 ∧ i1 < b0 ∧ i2 < b0 ∧ l1 < b0 ∧ l2 < b0) (Z : ZS s.heap z TI TO i1 i2 l1 l2 b0 i xs ys) (hx : xs[i]? = some x) (hy : ys[i]? = some y)
    (hQ : ∀ h', ZS h' z TI TO i1 i2 l1 l2 b0 (i + 1) xs ys → (∀ c o, c ≠ z → c ≠ TO → c ≠ i1 → c ≠ i2 → s.heap.get? c = some o → h'.get? c = some o) → Q (some (.ref (b0 + i))) { s with heap := h' }) :
    wpAny (model prog w) A (pyNext (.ref z)) Q E s := by
  obtain ⟨lz, lTI, lTO, li1, li2, ll1, ll2⟩ := lo
  have up : ∀ (h' : Heap), (∀ c o, c ≠ z → c ≠ TO → c ≠ i1 → c ≠ i2 → s.heap.get? c = some o → h'.get? c = some o) → (∀ j, j < i + 1 → j = i → IsPair h' (b0 + j) x y) → ∀ j, j < i + 1 → ∃ x y, xs[j]? = some x ∧ ys[j]? = some y ∧ IsPair h' (b0 + j) x y := fun h' k n j hj => by
    by_cases e : j = i
    · subst e
      exact ⟨x, y, hx, hy, n j hj rfl⟩
    · obtain ⟨x', y', e1, e2, e3⟩ := Z.ps j (by omega)
      exact ⟨x', y', e1, e2, k _ _ (by omega) (by omega) (by omega) (by omega) e3⟩
  have tup : ∀ {l : Addr} {vs : Array Value} (h' : Heap), (∀ c o, c ≠ z → c ≠ TO → c ≠ i1 → c ≠ i2 → s.heap.get? c = some o → h'.get? c = some o) → s.heap.IsTuple l vs → l ≠ z → l ≠ TO → l ≠ i1 → l ≠ i2 → h'.IsTuple l vs := fun {l vs} h' k t n1 n2 n3 n4 => by
    obtain ⟨o, ho, r⟩ := t
    exact ⟨o, k _ _ n1 n2 n3 n4 ho, r⟩
  rcases Z.zip with ⟨rfl, hz, a, b, hTO⟩ | ⟨h0, f, hz⟩
  · refine RZ.pyNext_zipT_item D hz Z.ti hTO Z.t1 Z.t2 Z.l1 Z.l2 hx hy fun h' q1 q2 q3 q4 q5 q6 q7 => ?_
    have e : s.heap.objs.size = b0 + 0 := Z.sz
    rw [e] at q1 q5 q6 ⊢
    exact hQ h' ⟨.inr ⟨Nat.succ_pos _, false, q1⟩, q7 _ _ D.TIz D.TITO D.TIi1 D.TIi2 Z.ti, q3, q4, tup h' q7 Z.l1 D.l1z D.l1TO D.l1i1 D.l1i2, tup h' q7 Z.l2 D.l2z D.l2TO D.l2i1 D.l2i2, by omega, up h' q7 fun j _ ej => by subst ej; exact q5⟩ q7
  · obtain ⟨x0, y0, _, _, hT⟩ := Z.ps 0 h0
    have hTy : s.TypeIs (.ref z) "zip" := ⟨_, hz, rfl⟩
    unfold pyNext
    refine wpAny_bind (wpAny_attempt (wpAny_callSpecial?_slot (name := Str.ofString "__next__") hTy F.slot_zip_next (wpAny_call_entry F.slot_zip_next hTy F.entry_zip_next
      (zipT_held D hz hT Z.ti Z.t1 Z.t2 Z.l1 Z.l2 hx hy fun h' q1 q3 q4 q5 q6 q7 => ?_) (F.args_zip_next_1 _))))
    have e : s.heap.objs.size = b0 + i := Z.sz
    rw [e] at q5 q6 ⊢
    have q7' : ∀ c o, c ≠ z → c ≠ TO → c ≠ i1 → c ≠ i2 → s.heap.get? c = some o → h'.get? c = some o := fun c o n1 _ n3 n4 => q7 c o n1 n3 n4
    exact wpAny_pure (hQ h' ⟨.inr ⟨Nat.succ_pos _, true, q1⟩, q7 _ _ D.TIz D.TIi1 D.TIi2 Z.ti, q3, q4, tup h' q7' Z.l1 D.l1z D.l1TO D.l1i1 D.l1i2, tup h' q7' Z.l2 D.l2z D.l2TO D.l2i1 D.l2i2, by omega, up h' q7' fun j _ ej => by subst ej; exact q5⟩ q7')
theorem zs_end {b0 i : Nat} {Q : Option Value → Shared → Prop} (hh : A.handled = none) (D : ZipApart z TI TO i1 i2 l1 l2) (Z : ZS s.heap z TI TO i1 i2 l1 l2 b0 i xs ys) (hend : xs[i]? = none ∨ ys[i]? = none)
    (hQ : ∀ h', (∀ c o, c ≠ z → c ≠ TO → c ≠ i1 → c ≠ i2 → s.heap.get? c = some o → h'.get? c = some o) → Q none { s with heap := h' }) :
    wpAny (model prog w) A (pyNext (.ref z)) Q E s := by
  rcases Z.zip with ⟨rfl, hz, a, b, hTO⟩ | ⟨h0, f, hz⟩
  · exact RZ.pyNext_zipT_end hh D hz Z.ti hTO Z.t1 Z.t2 Z.l1 Z.l2 hend hQ
  · obtain ⟨x0, y0, _, _, hT⟩ := Z.ps 0 h0
    have hTy : s.TypeIs (.ref z) "zip" := ⟨_, hz, rfl⟩
    unfold pyNext
    refine wpAny_bind (wpAny_attempt (wpAny_callSpecial?_slot (name := Str.ofString "__next__") hTy F.slot_zip_next (wpAny_call_entry F.slot_zip_next hTy F.entry_zip_next
      (zipT_held_end hh D hz hT Z.ti Z.t1 Z.t2 Z.l1 Z.l2 hend fun h' e k he => ?_) (F.args_zip_next_1 _))))
    obtain ⟨o, ho, hc⟩ := he
    exact wpAny_bind (wpAny_isInstance (T := "StopIteration") (b := true) ⟨o, ho, hc⟩ isSubtype_stop (wpAny_pure (hQ h' fun c o n1 _ n3 n4 => k c o n1 n3 n4)))
theorem zs_touch {b0 i S : Nat} {h h' : Heap} (Z : ZS h z TI TO i1 i2 l1 l2 b0 i xs ys) (k : ∀ c o, c ≠ S → h.get? c = some o → h'.get? c = some o) (hs : h'.objs.size = h.objs.size) (n : S ≠ z ∧ S ≠ TI ∧ S ≠ TO ∧ S ≠ i1 ∧ S ≠ i2 ∧ S ≠ l1 ∧ S ≠ l2 ∧ S < b0) : ZS h' z TI TO i1 i2 l1 l2 b0 i xs ys := by
  obtain ⟨n1, n2, n3, n4, n5, n6, n7, n8⟩ := n
  refine ⟨?_, k _ _ n2.symm Z.ti, Z.t1.at fun o e => k _ o n4.symm e, Z.t2.at fun o e => k _ o n5.symm e, ?_, ?_, by rw [hs, Z.sz], fun j hj => ?_⟩
  · rcases Z.zip with ⟨e, hz, a, b, hTO⟩ | ⟨h0, f, hz⟩
    · exact .inl ⟨e, k _ _ n1.symm hz, a, b, k _ _ n3.symm hTO⟩
    · exact .inr ⟨h0, f, k _ _ n1.symm hz⟩
  · obtain ⟨o, ho, r⟩ := Z.l1
    exact ⟨o, k _ _ n6.symm ho, r⟩
  · obtain ⟨o, ho, r⟩ := Z.l2
    exact ⟨o, k _ _ n7.symm ho, r⟩
  · obtain ⟨x, y, e1, e2, e3⟩ := Z.ps j hj
    exact ⟨x, y, e1, e2, k _ _ (by omega) e3⟩
/-- the list's end of the walk -/
theorem zs_loop {b0 S n : Nat} {res : Value} {R : Result → Shared → Prop} (hh : A.handled = none) (D : ZipApart z TI TO i1 i2 l1 l2) (lo : z < b0 ∧ TI < b0 ∧ TO < b0 ∧ i1 < b0 ∧ i2 < b0 ∧ l1 < b0 ∧ l2 < b0) (nS : S ≠ z ∧ S ≠ TI ∧ S ≠ TO ∧ S ≠ i1 ∧ S ≠ i2 ∧ S ≠ l1 ∧ S ≠ l2 ∧ S < b0) (hn : n = min xs.size ys.size) (hl : n ≤ sizeLine) :
    ∀ (k i : Nat) (s : Shared) (acc : Array Value) (c : Nat), n - i = k → i ≤ n → ZS s.heap z TI TO i1 i2 l1 l2 b0 i xs ys → s.heap.get? S = some { cls := .type "list", dict := none, data := .seq acc c, slots := #[] } → acc.toList = (List.range i).map (fun j => Value.ref (b0 + j)) →
      (∀ h' c', (∀ b o, b ≠ S → b ≠ z → b ≠ TO → b ≠ i1 → b ≠ i2 → s.heap.get? b = some o → h'.get? b = some o) → h'.get? S = some { cls := .type "list", dict := none, data := .seq ((List.range n).map (fun j => Value.ref (b0 + j))).toArray c', slots := #[] } →
        (∀ j, j < n → ∃ x y, xs[j]? = some x ∧ ys[j]? = some y ∧ IsPair h' (b0 + j) x y) → R (.ok (.ret res)) { s with heap := h' }) →
      codeAny (model prog w) A (.builtin "list.extend.loop" ⟨[.ref S, .ref z, res], []⟩) R s := by
  intro k
  induction k with
  | zero =>
    intro i s acc c hk hi Z hS ha hR
    have e : i = n := by omega
    subst e
    refine codeAny_builtin F.entry_extend_loop ?_
    rw [Around.under_plainId F.plain_extend_loop _]
    show wpAny _ A.in1 (pyNext (.ref z) >>= _) _ _ s
    refine wpAny_bind (zs_end hh D Z ?_ fun h' kp => ?_)
    · rw [hn]
      by_cases q : xs.size ≤ ys.size
      · exact .inl (Array.getElem?_eq_none (by omega))
      · exact .inr (Array.getElem?_eq_none (by omega))
    · obtain ⟨n1, n2, n3, n4, n5, n6, n7, n8⟩ := nS
      have ea : acc = ((List.range i).map fun j => Value.ref (b0 + j)).toArray := by rw [← ha, Array.toArray_toList]
      refine wpAny_pure (hR h' c (fun b o _ q1 q2 q3 q4 e => kp b o q1 q2 q3 q4 e) (by rw [← ea]; exact kp _ _ n1 n3 n4 n5 hS) fun j hj => ?_)
      obtain ⟨x, y, e1, e2, e3⟩ := Z.ps j hj
      exact ⟨x, y, e1, e2, kp _ _ (by omega) (by omega) (by omega) (by omega) e3⟩
  | succ k ih =>
    intro i s acc c hk hi Z hS ha hR
    have hlt : i < n := by omega
    have hx : xs[i]? = some (xs[i]'(by omega)) := Array.getElem?_eq_getElem (by omega)
    have hy : ys[i]? = some (ys[i]'(by omega)) := Array.getElem?_eq_getElem (by omega)
    have hsz : acc.size = i := by rw [← Array.length_toList, ha]; simp
    refine codeAny_builtin F.entry_extend_loop ?_
    rw [Around.under_plainId F.plain_extend_loop _]
    show wpAny _ A.in1 (pyNext (.ref z) >>= _) _ _ s
    refine wpAny_bind (zs_next D lo Z hx hy fun h' Z' kp => ?_)
    obtain ⟨n1, n2, n3, n4, n5, n6, n7, n8⟩ := id nS
    have hS' := kp _ _ n1 n3 n4 n5 hS
    show wpAny _ A.in1 (updateSeq S (·.push (.ref (b0 + i))) >>= _) _ _ _
    refine wpAny_bind (wpAny_updateSeq (hz := ?_) hS' rfl (wpAny_pure ⟨plainId_quiet F.plain_extend_loop _, ih (i + 1) _ (acc.push (.ref (b0 + i))) _ (by omega) (by omega) (zs_touch Z' (fun c o nc e => (Heap.get?_update_other _ _ (Ne.symm nc)).trans e) (Heap.size_update ..) nS) (Heap.get?_update_self _ hS' rfl) ?_ fun h2 c' k2 e2 p2 => ?_⟩))
    · rw [Array.toList_push, ha, List.range_succ, List.map_append]
      rfl
    · exact hR h2 c' (fun b o q0 q1 q2 q3 q4 e => k2 b o q0 q1 q2 q3 q4 ((Heap.get?_update_other _ _ (Ne.symm q0)).trans (kp b o q1 q2 q3 q4 e))) e2 p2
    · rw [hsz]; omega
/-- list(zip(t, u)) of two tuples -/
theorem call_lzip {Q : Value → Shared → Prop} (hh : A.handled = none) (hx : s.heap.IsTuple l1 xs) (hy : s.heap.IsTuple l2 ys) (hl : min xs.size ys.size ≤ sizeLine)
    (hQ : ∀ h' c', (∀ b o, s.heap.get? b = some o → h'.get? b = some o) → h'.get? (s.heap.objs.size + 5) = some { cls := .type "list", dict := none, data := .seq ((List.range (min xs.size ys.size)).map (fun j => Value.ref (s.heap.objs.size + 6 + j))).toArray c', slots := #[] } →
      (∀ j, j < min xs.size ys.size → ∃ x y, xs[j]? = some x ∧ ys[j]? = some y ∧ IsPair h' (s.heap.objs.size + 6 + j) x y) → Q (.ref (s.heap.objs.size + 5)) { s with heap := h' }) :
    wpAny (model prog w) A (call (.type "zip") [.ref l1, .ref l2]) (fun v s' => wpAny (model prog w) A (call (.type "list") [v]) Q E s') E s := by
  have lt1 : l1 < s.heap.objs.size := by obtain ⟨o, e, _⟩ := hx; exact Heap.lt_size e
  have lt2 : l2 < s.heap.objs.size := by obtain ⟨o, e, _⟩ := hy; exact Heap.lt_size e
  refine RZ.call_zipT hx hy fun h1 hz hTI hTO hi1 hi2 hsz hk => ?_
  generalize hn : s.heap.objs.size = n at *
  have D : ZipApart (n + 4) (n + 2) (n + 3) n (n + 1) l1 l2 := PySem.W.ktu_apart n l1 l2 lt1 lt2
  refine callType_codes (Q₁ := fun obj s₁ => obj = .ref (n + 5) ∧ s₁ = { s with heap := h1.push { cls := .type "list", data := .seq #[] } }) F.called_list (F.typeCall_list_1 _) F.entry_list_init
    (code_list_new _ ⟨by show Value.ref h1.objs.size = _; rw [hsz], rfl⟩) fun obj s₁ h₁ => ?_
  obtain ⟨rfl, rfl⟩ := h₁
  have hS : (h1.push { cls := .type "list", data := .seq #[] }).get? (n + 5) = some { cls := .type "list", data := .seq #[] } := by rw [← hsz]; exact Heap.get?_push_size _ rfl
  refine ⟨⟨_, hS, rfl⟩, F.args_list_init_2 _ _, ?_⟩
  show wpAny _ A.in1.in1 (do let old ← Builtin.List.listItems (.ref (n + 5)); Builtin.List.listUpdate (.ref (n + 5)) (fun _ => #[]); letGo old.toList.reverse; Builtin.List.listExtendWith (.ref (n + 5)) (.ref (n + 4)) .none) _ _ _
  refine wpAny_bind ?_
  unfold Builtin.List.listItems
  refine wpAny_bind (wpAny_seqItems hS rfl (wpAny_pure ?_))
  show wpAny _ A.in1.in1 (updateSeq (n + 5) (fun _ => #[]) >>= fun _ => letGo (#[] : Array Value).toList.reverse >>= fun _ => Builtin.List.listExtendWith (.ref (n + 5)) (.ref (n + 4)) .none) _ _ _
  refine wpAny_bind (wpAny_updateSeq hS rfl ?_)
  have hS2 := Heap.get?_update_self (Obj.mapSeq (fun _ => (#[] : Array Value))) hS rfl
  refine wpAny_bind (wpAny_letGo ?_)
  unfold Builtin.List.listExtendWith
  have up : ∀ (h : Heap) (f : Obj → Obj), (∀ b o, h1.get? b = some o → h.get? b = some o) → ∀ b o, h1.get? b = some o → (h.update (n + 5) f).get? b = some o := fun h f q b o e =>
    (Heap.get?_update_other _ _ (Ne.symm (Nat.ne_of_lt (by rw [← hsz]; exact Heap.lt_size e)))).trans (q b o e)
  have k1 : ∀ b o, h1.get? b = some o → (h1.push { cls := .type "list", data := .seq #[] }).get? b = some o := fun b o e => Heap.get?_push_of_some _ e
  have k2 := up _ (Obj.mapSeq (fun _ => (#[] : Array Value))) k1
  have gty : ∀ {s' : Shared}, (∀ b o, h1.get? b = some o → s'.heap.get? b = some o) → s'.TypeIs (.ref (n + 4)) "zip" := fun {s'} q => ⟨_, q _ _ hz, rfl⟩
  refine wpAny_bind (wpAny_typeOf (gty (s' := { s with heap := _ }) k2) ?_)
  have e1 : Builtin.List.listSameRef (.ref (n + 5)) (.ref (n + 4)) = false := by
    have : (n + 5 : Nat) ≠ n + 4 := by omega
    simp [Builtin.List.listSameRef, this]
  have e2 : (Value.type "zip" == Value.type "list") = false := by decide
  have e3 : (Value.type "zip" == Value.type "tuple") = false := by decide
  simp only [e1, e2, e3, Bool.or_false, Bool.false_eq_true, if_false]
  refine wpAny_bind (wpAny_pyIter_zip (s := { s with heap := _ }) (k2 _ _ hz) ?_)
  refine wpAny_bind (wpAny_holding ?_)
  unfold Builtin.List.listLengthHint
  refine wpAny_bind (wpAny_specialOf (gty (s' := { s with heap := _ }) k2) zip_no_len ?_)
  show wpAny _ A.in1.in1 (specialOf (Value.ref (n + 4)) (Str.ofString "__length_hint__") >>= _) _ _ _
  refine wpAny_bind (wpAny_specialOf (gty (s' := { s with heap := _ }) k2) zip_no_hint ?_)
  refine wpAny_pure ?_
  show wpAny _ A.in1.in1 (rule "list.extend.makes-room" >>= fun _ => Builtin.List.listTouch (.ref (n + 5)) >>= fun _ =>
    again (.builtin "list.extend.loop" ⟨[.ref (n + 5), .ref (n + 4), .none], []⟩)) _ _ _
  refine wpAny_bind (wpAny_rule ?_)
  refine wpAny_bind ?_
  show wpAny _ A.in1.in1 (updateSeq (n + 5) (·.push .none) >>= fun _ => updateSeq (n + 5) (·.pop)) _ _ _
  refine wpAny_bind (wpAny_updateSeq hS2 rfl ?_)
  have hS3 := Heap.get?_update_self (Obj.mapSeq (·.push Value.none)) hS2 rfl
  refine wpAny_updateSeq (hz := by seq_fits) hS3 rfl ?_
  have hS4 := Heap.get?_update_self (Obj.mapSeq (·.pop)) hS3 rfl
  have k4 := up _ (Obj.mapSeq (·.pop)) (up _ (Obj.mapSeq (·.push Value.none)) k2)
  refine wpAny_pure ⟨plainId_quiet F.plain_extend_loop _, ?_⟩
  have kt : ∀ {l : Addr} {vs : Array Value} (h' : Heap), (∀ b o, h1.get? b = some o → h'.get? b = some o) → s.heap.IsTuple l vs → h'.IsTuple l vs := fun {l vs} h' k t => by
    obtain ⟨o, ho, r⟩ := t
    exact ⟨o, k _ _ (hk _ _ ho), r⟩
  have sz4 : ∀ (h : Heap) (f : Obj → Obj), (h.update (n + 5) f).objs.size = h.objs.size := fun h f => Heap.size_update ..
  refine zs_loop (A := A.in1) (res := .none) (b0 := n + 6) (S := n + 5) hh D ⟨by omega, by omega, by omega, by omega, by omega, by omega, by omega⟩ ⟨by omega, by omega, by omega, by omega, by omega, by omega, by omega, by omega⟩ rfl hl _ 0 _ _ _ rfl (Nat.zero_le _)
    ⟨.inl ⟨rfl, k4 _ _ hz, _, _, k4 _ _ hTO⟩, k4 _ _ hTI, hi1.at fun o e => k4 _ o e, hi2.at fun o e => k4 _ o e, kt _ k4 hx, kt _ k4 hy, ?_, fun j hj => absurd hj (Nat.not_lt_zero _)⟩ hS4 rfl fun h' c' kp e ps => ?_
  · rw [sz4, sz4, sz4]
    show (h1.push _).objs.size = _
    rw [Heap.size_push, hsz]
  · refine ⟨rfl, hQ h' c' (fun b o q => ?_) e ps⟩
    have lt : b < n := by rw [← hn]; exact Heap.lt_size q
    have lk : ∀ k, b ≠ n + k := fun k => Nat.ne_of_lt (Nat.lt_of_lt_of_le lt (Nat.le_add_right n k))
    exact kp b o (lk 5) (lk 4) (lk 3) (Nat.ne_of_lt lt) (lk 1) (k4 _ _ (hk _ _ q))
end
/-! ### over the abstract heap -/
variable [Tb]
/-- pairs laid from b on -/
def tupsAt (H : Hp) (b : Nat) : List (V × V) → Hp
  | [] => H
  | p :: r => tupsAt (upd H b (.tup [p.1, p.2])) (b + 1) r
def refsAt (b : Nat) (n : Nat) : List V := (List.range n).map fun j => V.ref (b + j)
theorem refsAt_succ (b n : Nat) : refsAt b (n + 1) = .ref b :: refsAt (b + 1) n := by
  unfold refsAt
  rw [List.range_succ_eq_map, List.map_cons, List.map_map]
  congr 1
  apply List.map_congr_left
  intro j _
  have e : (b + (j + 1) : Nat) = b + 1 + j := by omega
  show V.ref (b + (j + 1)) = V.ref (b + 1 + j)
  rw [e]
theorem Inv.tups {X : Cx} {pins : List (Addr × Obj)} {σ : L2.St} {s0 : Shared} {H0 : Hp} (I0 : Inv X pins σ H0 s0) : ∀ (ps : List (V × V)) (b : Nat) (H : Hp) (s : Shared), Inv X pins σ H s → s0.heap.objs.size ≤ b → (∀ j, H (b + j) = none) →
    (∀ (j : Nat) (p : V × V), ps[j]? = some p → ∃ x y, RelV p.1 x ∧ RelV p.2 y ∧ IsPair s.heap (b + j) x y) → Inv X pins σ (tupsAt H b ps) s
  | [], b, H, s, I, _, _, _ => I
  | p :: ps, b, H, s, I, hb, hn, hp => by
    obtain ⟨x, y, r1, r2, e⟩ := hp 0 p rfl
    have f : FpOk X pins H b := I0.fpOk hb (hn 0)
    have new : ObjOk X.prog X.w (upd H b (.tup [p.1, p.2])) s.heap b (.tup [p.1, p.2]) := ⟨by show 2 ≤ sizeLine; decide, [x, y], .cons r1 (.cons r2 .nil), ⟨_, e, rfl, _, rfl⟩⟩
    refine Inv.tups I0 ps (b + 1) _ s (Inv.take (t' := s.toks) I (fun _ _ _ q => q) f new) (Nat.le_trans hb (Nat.le_succ b)) (fun j => ?_) fun j q e' => ?_
    · have e1 : b + 1 + j = b + (j + 1) := by omega
      have ne : (b + (j + 1) : Nat) ≠ b := by omega
      rw [e1, upd_ne ne]
      exact hn (j + 1)
    · have e1 : b + 1 + j = b + (j + 1) := by omega
      rw [e1]
      exact hp (j + 1) q e'
theorem tupsAt_free : ∀ {ps : List (V × V)} {b : Nat} {H : Hp} {a : Nat}, a < b → tupsAt H b ps a = H a
  | [], _, _, _, _ => rfl
  | p :: ps, b, H, a, h => by
    have ne : a ≠ b := Nat.ne_of_lt h
    exact (tupsAt_free (ps := ps) (Nat.lt_succ_of_lt h)).trans (upd_ne ne)
theorem Res.tups {K : PySem.W.Frag} {σ : L2.St} {s : S} {φ : SLg} : ∀ (l1 l2 : List D) (x1 x2 : List V) (b : Nat) (F H : Hp), Res K F H σ s φ → (∀ j, H (b + j) = none) → RDs K F l1 x1 → RDs K F l2 x2 →
    ∃ F', Same F F' ∧ Res K F' (tupsAt H b (x1.zip x2)) σ s φ ∧ RDs K F' ((l1.zip l2).map fun p => .tup [p.1, p.2]) (refsAt b (x1.zip x2).length)
  | [], l2, x1, x2, b, F, H, r, hn, h1, h2 => by
    have e : x1 = [] := h1
    subst e
    exact ⟨F, Same.refl F, r, rfl⟩
  | d1 :: l1, [], x1, x2, b, F, H, r, hn, h1, h2 => by
    have e : x2 = [] := h2
    subst e
    exact ⟨F, Same.refl F, by rw [List.zip_nil_right]; exact r, by rw [List.zip_nil_right, List.zip_nil_right]; rfl⟩
  | d1 :: l1, d2 :: l2, x1, x2, b, F, H, r, hn, h1, h2 => by
    obtain ⟨y1, z1, rfl, q1, t1⟩ := h1
    obtain ⟨y2, z2, rfl, q2, t2⟩ := h2
    obtain ⟨sm, r1⟩ := r.newF (o := .tup [y1, y2]) (hn 0)
    obtain ⟨F', sm', r', rd⟩ := Res.tups l1 l2 z1 z2 (b + 1) _ _ r1 (fun j => by
      have e1 : b + 1 + j = b + (j + 1) := by omega
      have ne : (b + (j + 1) : Nat) ≠ b := by omega
      rw [e1, upd_ne (show (b + (j + 1) : Nat) ≠ b + 0 from ne)]
      exact hn (j + 1)) (t1.mono sm) (t2.mono sm)
    refine ⟨F', sm.trans sm', r', ?_⟩
    show RDs K F' (_ :: _) (refsAt b ((z1.zip z2).length + 1))
    rw [refsAt_succ]
    exact ⟨_, _, rfl, ⟨b, [y1, y2], rfl, sm' _ _ upd_same, y1, [y2], rfl, (q1.mono sm).mono sm', y2, [], rfl, (q2.mono sm).mono sm', rfl⟩, rd⟩
def rLz : List V → Hp → VK → Prop := fun xs H Q => ∃ a b us vs, xs = [.ref a, .ref b] ∧ H a = some (.tup us) ∧ H b = some (.tup vs) ∧
  ∀ S b0, S < b0 → H S = none → (∀ j, H (b0 + j) = none) → Q (.ref S) (upd (tupsAt H b0 (us.zip vs)) S (.lst (refsAt b0 (us.zip vs).length)))
theorem vals_refsAt (b : Nat) : ∀ n, Vals (refsAt b n) ((List.range n).map fun j => Value.ref (b + j)) := fun n => by
  unfold refsAt
  induction (List.range n) with
  | nil => exact .nil
  | cons j l ih => exact .cons rfl ih
section
variable {X : Cx} {cv : CV} {E : L2.St → XK} {e e2 : Expr} {ta : TA} {p p2 pos pos2 : Pos} {wa : WA}
theorem pe_lzip (hc : X.calm = true) (hgl : Gl X "list") (hml : X.mg "list" = none) (hg : Gl X "zip") (hm : X.mg "zip" = none) (ha : PA X [e, e2] ta)
    (hs : starEach [e, e2] X.env = (false, eval e X.env) :: starEach [e2] X.env := by rfl) (hpl : (backTo pos2 (starEach [e2] X.env)).any (·.1) = false := by rfl) :
    PE X (.Call (.Name "list" p) [.Call (.Name "zip" p2) [e, e2] [] pos2] [] pos) (tCB rLz ta) := by
  refine ⟨fun pins s σ H Q I h => ?_⟩
  refine Call_ (ld_blt I hgl hml PyProof.Rows.boot_list (PyProof.Rows.callWith_type1 (Calls.spliced_cons (Call_ (ld_blt I hg hm PyProof.Rows.boot_zip (PyProof.Rows.callWith_type1 (wpAny_mono (ha.run pos2 pins s σ H _ I h) (fun us s1 ⟨vs, H1, I1, r1, q1⟩ => ?_) fun _ _ z => z) hs hpl)))) rfl rfl))
  obtain ⟨a, b, xs, ys, ex, hqx, hqy, q⟩ := q1
  subst ex
  cases r1 with
  | cons r rr =>
    cases rr with
    | cons r' rr =>
      cases rr
      cases r
      cases r'
      obtain ⟨its, rv, p1, z1⟩ := I1.tuple (SqT.of hqx)
      obtain ⟨its2, rv2, p3, z2⟩ := I1.tuple (SqT.of hqy)
      have hl1 := rv.length
      have hl2 := rv2.length
      refine wpAny_mono (call_lzip (I1.ok.hd hc) (show s1.heap.IsTuple a its.toArray from p1) (show s1.heap.IsTuple b its2.toArray from p3) (by simp; omega) fun h' c' kp e ps => ?_) (fun v s' hv => Calls.spliced_nil hv) fun _ _ z => z
      have I2 : Inv X pins σ H1 { s1 with heap := h' } := I1.kept (t' := s1.toks) kp
      have fr : ∀ k, H1 (s1.heap.objs.size + k) = none := fun k => I1.hok.fresh (Nat.le_add_right _ _)
      have en : min its.toArray.size its2.toArray.size = (xs.zip ys).length := by simp [List.length_zip]; omega
      rw [en] at e ps
      have I3 := Inv.tups I1 (xs.zip ys) (s1.heap.objs.size + 6) H1 _ I2 (Nat.le_add_right _ _) (fun j => by
        rw [show s1.heap.objs.size + 6 + j = s1.heap.objs.size + (6 + j) from Nat.add_assoc _ _ _]; exact fr _) fun j q ej => by
        have hj : j < (xs.zip ys).length := by
          obtain ⟨h, _⟩ := List.getElem?_eq_some_iff.mp ej
          exact h
        obtain ⟨u1, u2, e1, e2, e3⟩ := ps j hj
        obtain ⟨q1, q2⟩ := List.getElem?_zip_eq_some.mp ej
        obtain ⟨w1, f1, g1⟩ := rv.get q1
        obtain ⟨w2, f2, g2⟩ := rv2.get q2
        have k1 : its[j]? = some u1 := by simpa using e1
        have k2 : its2[j]? = some u2 := by simpa using e2
        rw [f1] at k1
        rw [f2] at k2
        cases k1
        cases k2
        exact ⟨_, _, g1, g2, e3⟩
      have f5 : FpOk X pins (tupsAt H1 (s1.heap.objs.size + 6) (xs.zip ys)) (s1.heap.objs.size + 5) := I1.fpOk (Nat.le_add_right _ _) (by rw [tupsAt_free (Nat.lt_succ_self _)]; exact fr 5)
      have I4 := Inv.take (t' := s1.toks) (o := .lst (refsAt (s1.heap.objs.size + 6) (xs.zip ys).length)) I3 (fun _ _ _ q => q) f5 ⟨by
        unfold refsAt
        rw [List.length_map, List.length_range, List.length_zip]
        omega, _, c', vals_refsAt _ _, e⟩
      exact ⟨.ref (s1.heap.objs.size + 5), _, I4, rfl, q _ _ (Nat.lt_succ_self _) (fr 5) fun j => by
        rw [show s1.heap.objs.size + 6 + j = s1.heap.objs.size + (6 + j) from Nat.add_assoc _ _ _]; exact fr _⟩
def oLz : WF := fun s ms P => match allP ms with
  | some [.tup l1, .tup l2] => P (.ml ((l1.zip l2).map fun p => .tup [p.1, p.2]))
  | _ => False
theorem cd_lz : CallD X rLz oLz := by
  refine ⟨fun s ms P P' h q => ?_, fun F H σ s φ ms vs P Q r hl q k => ?_⟩
  · unfold oLz at q ⊢
    split at q
    · exact h _ q
    · exact q
  · unfold oLz at q
    split at q
    · rename_i l1 l2 e
      obtain ⟨v1, r1, rfl, ⟨a, us, rfl, e1, d1⟩, v2, r2, rfl, ⟨b, ws, rfl, e2, d2⟩, rfl⟩ := r.allP hl e
      refine ⟨a, b, us, ws, rfl, r.ff _ _ e1, r.ff _ _ e2, fun S b0 lt hS hb => ?_⟩
      obtain ⟨F', sm, r', rd⟩ := Res.tups l1 l2 us ws b0 F H r.dropL hb d1 d2
      have hS' : tupsAt H b0 (us.zip ws) S = none := by rw [tupsAt_free lt]; exact hS
      exact k _ q _ F' _ sm (r'.newO hS' fun hF => ⟨one S, .inr ⟨S, _, rfl, upd_same, hF, rd, fun _ => rfl⟩, fun _ => Nat.le_refl _⟩)
    · exact q.elim
theorem de_lzip (hc : X.calm = true) (hgl : Gl X "list") (hml : X.mg "list" = none) (hg : Gl X "zip") (hm : X.mg "zip" = none) (ha : DA X cv E [e, e2] wa)
    (hs : starEach [e, e2] X.env = (false, eval e X.env) :: starEach [e2] X.env := by rfl) (hpl : (backTo pos2 (starEach [e2] X.env)).any (·.1) = false := by rfl) :
    DE X cv E (.Call (.Name "list" p) [.Call (.Name "zip" p2) [e, e2] [] pos2] [] pos) (eFn oLz wa) :=
  ⟨PE.imp (pe_lzip hc hgl hml hg hm ha.pa hs hpl) fun _ _ _ q => eFn.to cd_lz ha q, eFn.mono (cd_lz (X := X)).mono ha.mono⟩
end
end Sd
set_option maxHeartbeats 2000000
/-! SdW: a lambda of one parameter handed to a def. -/
namespace Sd
open PySem PySem.Spec PyProof.Rows L2 LamX
/-- one parameter, no other name of its own: captured ones and globals -/
structure LamS1 (sc scope : Scope) (x : Str) : Prop where
  kind : scope.kind = .function
  co : scope.isCoroutine = false
  gen : scope.isGenerator = false
  par : scope.names.lookup x = some .local
  nc : ∀ y ∈ scope.names, y.2 ≠ .cell
  own : ∀ y ∈ scope.names, y.2 = .local → y.1 = x
  free : ∀ y ∈ scope.names, y.2 = .free → sc.names.lookup y.1 = some .cell ∨ sc.names.lookup y.1 = some .free
def lamS1B (sc scope : Scope) (x : Str) : Bool :=
  decide (scope.kind = .function) && !scope.isCoroutine && !scope.isGenerator && decide (scope.names.lookup x = some .local) && scope.names.all fun y => !decide (y.2 = .cell) && (!decide (y.2 = .local) || decide (y.1 = x)) && (!decide (y.2 = .free) || decide (sc.names.lookup y.1 = some .cell) || decide (sc.names.lookup y.1 = some .free))
theorem lamS1_by {sc scope : Scope} {x : Str} (h : lamS1B sc scope x = true) : LamS1 sc scope x := by
  unfold lamS1B at h
  simp only [Bool.and_eq_true, Bool.or_eq_true, Bool.not_eq_true', decide_eq_true_eq, decide_eq_false_iff_not, List.all_eq_true] at h
  obtain ⟨⟨⟨⟨h1, h2⟩, h3⟩, h4⟩, h5⟩ := h
  refine ⟨h1, h2, h3, h4, fun y hy => (h5 y hy).1.1, fun y hy e => ?_, fun y hy e => ?_⟩
  · rcases (h5 y hy).1.2 with z | z
    · exact absurd e z
    · exact z
  · rcases (h5 y hy).2 with (z | z) | z
    · exact absurd e z
    · exact .inl z
    · exact .inr z
theorem LamS1.has {X : Cx} {scope : Scope} {x : Str} (L : LamS1 X.env.scope scope x) (ok : X.Ok) : ∀ y ∈ scope.names, y.2 = .free → ∃ c, X.env.cells.lookup y.1 = some c := fun y hy e => by
  rcases L.free y hy e with k | k
  · exact ok.has _ (.inl k)
  · exact ok.has _ (.inr k)
/-- the context of the lambda's body, entered at s from the frames outer -/
def lamCx1 (X : Cx) (A : Around) (outer : List Env) (s : Shared) (H : Hp) (E : XK) (scope : Scope) (x : Str) (f c' : Addr) : Cx := { lamCx X A outer s H E scope f c' with N := X.N ++ [x] }
section
variable {X : Cx} {pins : List (Addr × Obj)} {σ : L2.St} {H HZ : Hp} {s s1 : Shared}
theorem lam_start1 {A : Around} {outer : List Env} {E : XK} {scope : Scope} {x : Str} {f c' : Addr} {h₁ : Heap} {tk : Nat} {v : V} {u : Value} (I : Inv X pins σ H s) (L : LamS1 X.env.scope scope x) (e0 : Env0 X.prog X.w X.K X.mg X.base A outer s1 HZ) (hd : A.handled = none) (hx : x ∉ X.N) (rv : RelV v u)
    (un : Un (frs X.stack) [] H HZ s.heap s1.heap) (hns : h₁.Ns s1.heap.objs.size fun y => [(x, u)].reverse.lookup y) (kp : ∀ b o, s1.heap.get? b = some o → h₁.get? b = some o) :
    Inv (lamCx1 X A outer s1 HZ E scope x f c') [] (σ ++ [some v]) HZ { s1 with heap := h₁, toks := tk } := by
  have hfree := L.has I.ok
  have cm : ∀ {y c}, (cloFrom X.env.cells scope.names []).lookup y = some c → X.env.cells.lookup y = some c := fun {y c} e => by
    rcases cloFrom_mem (PySem.mem_of_lookup e) with hm | ⟨h1, h2⟩
    · cases hm
    · obtain ⟨c1, hc⟩ := hfree _ h1 rfl
      have hc : X.env.cells.lookup y = some c1 := hc
      have e2 : c = c1 := by
        rw [h2, hc] <;> rfl
      rw [e2]
      exact hc
  have look : ∀ {y}, scope.names.lookup y = some .free → ∃ c, (cloFrom X.env.cells scope.names []).lookup y = some c := fun {y} hl => by
    have hy : (y, NameKind.free) ∈ scope.names := PySem.mem_of_lookup hl
    exact mem_lookup (cloFrom_has (cells := X.env.cells) (acc := []) hy)
  have cellK : ∀ {c : Addr} {v : Option Value}, H c = none → s.heap.IsCell c v → h₁.IsCell c v := fun {c v} n ⟨o, ho, hd⟩ => by
    obtain ⟨sl, q⟩ := un.any ho n (by simp)
    exact ⟨_, kp _ _ q, hd⟩
  have noA : ∀ b : Addr, b ∉ (lamCx1 X A outer s1 HZ E scope x f c').ex := fun b z => absurd (show b ∈ ([] : List Addr) from z) (by simp)
  have hlen := I.len
  refine ⟨⟨e0.mod, L.kind, rfl, rfl, Nat.le_refl _, fun y z c e1 e2 => I.ok.inj y z c (cm e1) (cm e2), fun y hy => ?_, fun y c z _ => ?_, fun _ => hd, Around.frames_deeper e0.frames, .inr ⟨rfl, rfl⟩, fun b z => absurd z (noA b), e0.bs, e0.bsz, fun b _ _ => noA b,
      fun b z => absurd z (noA b), e0.funs, e0.frf⟩,
    rfl, e0.bare, Un.kept kp, ⟨_, hns, fun i y w e1 e2 e3 => ?_⟩, fun y c e => ?_, e0.hok.fresh (Nat.le_refl _), fun y c e => ?_, fun q hq => absurd (show q ∈ ([] : List (Addr × Obj)) ++ [] from hq) (by simp), e0.hok.kept kp, ?_⟩
  · have hy : scope.names.lookup y = some .cell ∨ scope.names.lookup y = some .free := hy
    rcases hy with hy | hy
    · exact absurd rfl (L.nc _ (PySem.mem_of_lookup hy))
    · exact look hy
  · have z : false = true := z
    cases z
  · have e1 : (X.N ++ [x])[i]? = some y := e1
    have e3 : Vis scope y := e3
    by_cases hi : i < X.N.length
    · rw [List.getElem?_append_left hi] at e1
      rw [List.getElem?_append_left (by omega)] at e2
      have yx : y ≠ x := fun z => hx (z ▸ List.mem_of_getElem? e1)
      rcases e3 with k | k | k
      · exact absurd (L.own _ (PySem.mem_of_lookup k) rfl) yx
      · exact absurd rfl (L.nc _ (PySem.mem_of_lookup k))
      · obtain ⟨m, hn, hl⟩ := I.loc
        have hvis : Vis X.env.scope y := (L.free _ (PySem.mem_of_lookup k) rfl).elim (fun k => .inr (.inl k)) (fun k => .inr (.inr k))
        obtain ⟨w', r, q⟩ := hl i y w e1 e2 hvis
        obtain ⟨c2, h2⟩ := look k
        refine ⟨w', r, .inr ⟨.inr k, c2, h2, ?_⟩⟩
        have c1 := cm h2
        rcases q with ⟨k', _⟩ | ⟨_, c3, e', z⟩
        · have k' : X.env.scope.names.lookup y = some .local := k'
          rcases L.free _ (PySem.mem_of_lookup k) rfl with k2 | k2 <;> rw [show X.env.scope.names.lookup y = _ from k2] at k' <;> cases k'
        · rw [c1] at e'
          cases e'
          exact cellK (I.freeC y _ c1) z
    · have hi2 : i = X.N.length := by
        have h2 := (List.getElem?_eq_some_iff.mp e1).1
        rw [List.length_append] at h2
        simp at h2
        omega
      subst hi2
      rw [List.getElem?_append_right (Nat.le_refl _), Nat.sub_self] at e1
      rw [← hlen, List.getElem?_append_right (Nat.le_refl _), Nat.sub_self] at e2
      cases e1
      cases e2
      exact ⟨u, rv, .inl ⟨L.par, by simp [List.lookup]⟩⟩
  · obtain ⟨w', z⟩ := I.cell y c (cm e)
    exact ⟨w', cellK (I.freeC y c (cm e)) z⟩
  · obtain ⟨v, o, ho, hd⟩ := I.cell y c (cm e)
    exact un.free c o ho (I.freeC y c (cm e)) (by simp)
  · show (σ ++ [some v]).length = (X.N ++ [x]).length
    rw [List.length_append, List.length_append, hlen]
    rfl
end
variable [Tb]
/-- a lambda: function, code object, its name, its maker's slots, the data in them, what it is worth -/
structure Lam where
  f : Addr
  c : Addr
  q : Str
  σ : List (Option V)
  ds : List (Option D)
  W : List (Option D) → D → (D → Prop) → Prop
def Lam.fct (L : Lam) : Fct := .lam L.c L.q L.σ L.ds
def Lam.m (L : Lam) : M := .rf L.f L.fct
def MonoL (W : List (Option D) → D → (D → Prop) → Prop) : Prop := ∀ ds d (Q Q' : D → Prop), (∀ d', Q d' → Q' d') → W ds d Q → W ds d Q'
/-- it lies there, and may be called from any depth of what is entered at s from the frames outer -/
structure LamRun (P : Program) (w : World) (K : PySem.W.Frag) (mg : Str → Option Value) (base : Heap) (j : Nat) (outer : List Env) (s : Shared) (H : Hp) (L : Lam) : Prop where
  mono : MonoL L.W
  at_ : ∃ oc od fd sl, s.heap.get? L.f = some ⟨oc, od, .func fd, sl⟩
  free : H L.f = none
  nofr : L.f ∉ frs outer
  run : ∀ (A : Around) (outer' : List Env) (s1 : Shared) (HZ : Hp) (v : V) (u : Value) (Q : VK) (F : Hp) (φ : SLg) (d : D), Room j A → Env0 P w K mg base A outer' s1 HZ → Un (frs outer) [] H HZ s.heap s1.heap → RelV v u → Res K F HZ [] [] φ → FctOk K F L.fct → RD K F d v →
    L.W L.ds d (fun d' => ∀ v' F' H', Same F F' → Res K F' H' [] [] φ → RD K F' d' v' → Q v' H') → codeAny (model P w) A (.call (.ref L.f) ⟨[u], []⟩) (CR (L2.CX P w) outer' P w HZ s1 Q (fun _ _ _ => False)) s1
def eAct (L : Lam) (i : Nat) (wa : WA) : WE := fun s P R => s[i]? = some (some L.m) ∧ wa s (fun ms s1 => match ms with
  | [.p d] => L.W L.ds d fun d' => P (.p d') s1
  | _ => False) R
theorem Res.slotF {K : PySem.W.Frag} {F H : Hp} {σ : L2.St} {s : S} {φ : SLg} {i : Nat} {L : Lam} (r : Res K F H σ s φ) (e : s[i]? = some (some L.m)) : σ[i]? = some (some (.ref L.f)) ∧ FctOk K F L.fct := by
  obtain ⟨f1, f2, h1, h2, h3⟩ := r.ex
  obtain ⟨v, g1, g2, e1, q1, q2, q3⟩ := h1.out e
  have q1 : v = .ref L.f ∧ FctOk K F L.fct ∧ ∀ b, g1 b = 0 := q1
  obtain ⟨rfl, q, _⟩ := q1
  exact ⟨e1, q⟩
section
variable {P : Program} {w : World} {K : PySem.W.Frag} {mg : Str → Option Value} {base : Heap} {N : List Str} {qual : Str} {scope : Scope} {g : Addr} {cdg : Value} {A : Around} {outer : List Env} {s : Shared} {H : Hp} {Eg : XK} {L : Lam} {j i : Nat} {cv : CV} {E : L2.St → XK} {e : Expr} {wa : WA} {a : Str} {p1 p2 : Pos}
/-- x(e), in the def that got the lambda -/
theorem de_act (lr : LamRun P w K mg base j outer s H L) (hr : Room j (A.deeper (envOfC qual scope s.heap.objs.size g cdg))) (ha : DA (cxOf (L2.CX P w) P w K mg base N qual scope g cdg A outer s H Eg) cv E [e] wa) (hN : N[i]? = some a) (hv : Vis scope a) (hd : (a == ("__debug__" : Str)) = false := by decide) (hcd : (a == ("__classdict__" : Str)) = false := by decide)
    (he : starEach [e] (envOfC qual scope s.heap.objs.size g cdg) = (false, eval e (envOfC qual scope s.heap.objs.size g cdg)) :: starEach [] (envOfC qual scope s.heap.objs.size g cdg) := by rfl) :
    DE (cxOf (L2.CX P w) P w K mg base N qual scope g cdg A outer s H Eg) cv E (.Call (.Name a p1) [e] [] p2) (eAct L i wa) := by
  refine ⟨⟨fun pinsZ sZ σZ HZ Q IZ h => ?_⟩, fun s P P' R R' hp hR q => ⟨q.1, ha.mono _ _ _ _ _ (fun ms s1 q1 => ?_) hR q.2⟩⟩
  · obtain ⟨F, s0, φ, r, e0, q⟩ := h
    obtain ⟨eσ, fc⟩ := r.slotF e0
    refine wpAny_Call_Name_kw (thn ((pe_var (X := cxOf (L2.CX P w) P w K mg base N qual scope g cdg A outer s H Eg) (pos := p1) (i := i) hN hv hd hcd).run pinsZ sZ σZ HZ (fun v H1 => v = .ref L.f ∧ H1 = HZ) IZ ⟨.ref L.f, eσ, rfl, rfl⟩) fun u s1 ⟨v, H1, I1, r1, q1⟩ => ?_)
    obtain ⟨ev, eH⟩ := q1
    subst ev
    rw [eH] at I1
    obtain rfl : u = Value.ref L.f := r1
    have fnAt : ∀ {HX : Hp} {sX : Shared} {σX : L2.St}, Inv (cxOf (L2.CX P w) P w K mg base N qual scope g cdg A outer s H Eg) pinsZ σX HX sX → PySem.W.FnAt L.f sX.heap := fun {HX sX σX} IX => by
      obtain ⟨oc, od, fd, sl, e1⟩ := lr.at_
      exact ⟨oc, od, fd, sl, IX.base.keep L.f _ e1 lr.free lr.nofr (fun z => nomatch (show L.f ∈ ([] : List Addr) from z))⟩
    refine PySem.W.callWith_F (first := []) (fnAt I1) (wpAny_mono (ha.pa.run p2 pinsZ s1 σZ HZ (fun vs H2 => ∃ F2 v d s2, vs = [v] ∧ Same F F2 ∧ Res K F2 H2 σZ s2 φ ∧ RD K F2 d v ∧ L.W L.ds d fun d' => okE K σZ F φ Q (.p d') s2) I1 ⟨F, s0, φ, r, ha.mono _ _ _ _ _ (fun ms s2 q2 vs F2 H2 sm hl r2 => ?_) (fun _ _ z => z) q⟩)
      (fun us s2 ⟨vs, H2, I2, rv, F2, v, d, s3, ev, sm, r2, rd, q2⟩ => ⟨fnAt I2, ?_⟩) fun _ _ z => z) he
    · split at q2
      · rename_i d
        match vs, hl with
        | [v], _ =>
          have r3 := (Res.assoc r2).dropL.dropL
          obtain ⟨f9, h9⟩ := r2.get
          obtain ⟨g1, g2, k1, _, _⟩ := h9
          have rd : RD K F2 d v := by
            rcases k1 with ⟨_, z, _⟩ | k1
            · cases z
            · exact k1.1
          exact ⟨F2, v, d, s2, rfl, sm, r3, rd, q2⟩
      · exact q2.elim
    · subst ev
      cases rv with
      | cons rv1 rvr =>
        cases rvr
        have un : Un (frs outer) [] H H2 s.heap s2.heap := I2.base
        have rc := lr.run _ _ s2 H2 v _ Q F2 (star (sls K σZ s3) φ) d hr I2.env0 un rv1 r2.close (fc.mono sm) rd (lr.mono _ _ _ _ (fun d' q3 v' F' H' sm' r' rd' => q3 v' F' H' (sm.trans sm') (Res.pushP r'.open rd')) q2)
        refine wpAny_call (codeAny_mono rc fun r s' hq => ?_)
        cases r with
        | error e => exact passNo (X := cxOf (L2.CX P w) P w K mg base N qual scope g cdg A outer s H Eg) σZ pinsZ H2 s2 e s' I2 hq
        | ok fl =>
          cases fl with
          | ret u => exact I2.after hq
          | next => exact False.elim hq
          | brk => exact False.elim hq
          | cont => exact False.elim hq
  · split at q1
    · exact lr.mono _ _ _ _ (fun d' => hp _ _) q1
    · exact q1
end
/-! ### the def that gets the lambda -/
structure DfL (G : Pg) (x : Str) (ps : List Str) (k : Nat) (P : List Nat) (g : Lam → SpecD) : Prop where
  mono : ∀ L, MonoL L.W → MonoG (g L)
  ex : ∃ f fd, G.mg x = some (.ref f) ∧ PySem.W.keepIn G.K (.ref f) = true ∧ Binds G.K fd ps [] ∧ ∀ (L : Lam) (A : Around) (outer : List Env) (s : Shared) (H : Hp) (args : Args) (us : List Value) (vs : List V) (Q : VK) (E : XK), Room k A → Env0 G.pr G.w G.K G.mg G.base A outer s H → LamRun G.pr G.w G.K G.mg G.base 1 outer s H L →
    BindsTo s fd args (ps.zip us) → Vals vs us → vs.length = ps.length → spOf G.K G.cv P (g L) vs H Q E → codeAny (model G.pr G.w) A (.call (.ref f) args) (CR (L2.CX G.pr G.w) outer G.pr G.w H s Q E) s
theorem DfL.le {G : Pg} {x : Str} {ps : List Str} {j k : Nat} {P : List Nat} {g : Lam → SpecD} (D : DfL G x ps j P g) (h : j ≤ k) : DfL G x ps k P g := by
  obtain ⟨m, f, fd, h1, h2, h3, h4⟩ := D
  exact ⟨m, f, fd, h1, h2, h3, fun L A outer s H args us vs Q E hr => h4 L A outer s H args us vs Q E (hr.mono h)⟩
theorem DfL.mk' {G : Pg} {x : Str} {st : Stmt} {N ps : List Str} {k : Nat} {P : List Nat} {g : Lam → SpecD} {w : Lam → WS} (hk : 1 ≤ k) (a : Stands G x st ps) (Sc : FnScope N ps (defScope st)) (mono : ∀ L, MonoL L.W → MonoG (g L)) (len : ∀ L ms Q R, g L ms Q R → ms.length = ps.length) (inP : ∀ i ∈ P, i < ps.length)
    (hbody : ∀ (L : Lam) (f : Addr) (cdv : Value) (A : Around) (outer : List Env) (s : Shared) (H : Hp) (E : XK), Room k (cxG G N x st f cdv A outer s H E).A → Room 1 (cxG G N x st f cdv A outer s H E).A → LamRun G.pr G.w G.K G.mg G.base 1 outer s H L → DSs (cxG G N x st f cdv A outer s H E) G.cv (fun _ => E) P (defBody st) (w L))
    (hw : ∀ L, MonoL L.W → ∀ ms Q R, g L ms Q R → w L (endN P Q R) (startD N.length ms)) : DfL G x ps (k + 1) P g := by
  obtain ⟨f, fd, h1, h2, h3⟩ := a
  refine ⟨mono, f, fd, h1, h3.kp, h2, fun L A outer s H args us vs Q E hr e0 lr hb rv hl h => ?_⟩
  obtain ⟨oc, od, kV, doc, pm, an, cdv, ct, osl, rfl, lk, hcd⟩ := h3.ex
  exact run_ofS lk hcd Sc hr e0 hb rv hl fun hr' => coreD (len L) inP (hbody L f cdv A outer s H E hr' (hr'.mono hk) lr) (hw L lr.mono) h
/-- a def that makes lambdas stands there: its code object, its table -/
def StandsM (G : Pg) (x : Str) (st : Stmt) (ps : List Str) : Prop := ∃ f fd c P, G.mg x = some (.ref f) ∧ Binds G.K fd ps [] ∧ Fun G.K x x st f fd ∧ fd.code = .ref c ∧ TabB G.base G.mg c P ∧ (P, (x ++ ".<locals>.") ++ "<lambda>") ∈ Tb.T ∧ ∀ p ∈ Tb.T, p.1 = P → p.2 = (x ++ ".<locals>.") ++ "<lambda>"
theorem Df.mkM {G : Pg} {x : Str} {st : Stmt} {N ps : List Str} {k : Nat} {P : List Nat} {g : SpecD} {w : WS} (a : StandsM G x st ps) (Sc : FnScope N ps (defScope st)) (mono : MonoG g) (len : ∀ ms Q R, g ms Q R → ms.length = ps.length) (inP : ∀ i ∈ P, i < ps.length)
    (hbody : ∀ (f c T : Addr) (A : Around) (outer : List Env) (s : Shared) (H : Hp) (E : XK), TabB G.base G.mg c T → (T, (x ++ ".<locals>.") ++ "<lambda>") ∈ Tb.T → (∀ p ∈ Tb.T, p.1 = T → p.2 = (x ++ ".<locals>.") ++ "<lambda>") → Room k (cxG G N x st f (.ref c) A outer s H E).A → DSs (cxG G N x st f (.ref c) A outer s H E) G.cv (fun _ => E) P (defBody st) w)
    (hw : ∀ ms Q R, g ms Q R → w (endN P Q R) (startD N.length ms)) : Df G x ps (k + 1) P g := by
  obtain ⟨f, fd, c, T, h1, h2, h3, h4, h5, h6, h7⟩ := a
  refine ⟨mono, f, fd, h1, h3.kp, h2, h3.look, ⟨fun vs H Q E h => ?_, fun A outer s H args us vs Q E hr e0 hb rv h => ?_⟩⟩
  · obtain ⟨F, ms, φ, hl, _, _, _, q⟩ := h
    rw [← hl]
    exact len _ _ _ q
  · obtain ⟨oc, od, kV, doc, pm, an, cdv, ct, osl, rfl, lk, hcd⟩ := h3.ex
    obtain rfl : cdv = .ref c := h4
    have hl : vs.length = ps.length := by
      obtain ⟨F, ms, φ, hl, _, _, _, q⟩ := id h
      rw [← hl]
      exact len _ _ _ q
    exact run_ofS lk hcd Sc hr e0 hb rv hl fun hr' => coreD len inP (hbody f c T A outer s H E h5 h6 h7 hr') hw h
omit [Tb] in
theorem tabIn_of {K : PySem.W.Frag} {x : Str} {f c P : Addr} {oc mo : Value} {od md : Option Addr} {fd : FuncData} {sl ms : Array (Option Value)} {vs : Array Value} (a : PySem.W.nsIn K mainGlobals x = some (some (.ref f))) (l : K.lookup f = some ⟨oc, od, .func fd, sl⟩) (hc : fd.code = .ref c)
    (m : K.lookup c = some ⟨mo, md, .fields vs, ms⟩) (p : vs[11]? = some (.ref P)) : PySem.W.tabIn K x = some (c, P) := by
  unfold PySem.W.tabIn
  simp only [a, l, hc, m, p]
/-! ### the def that makes it -/
def capD (s : S) : List (Option D) := s.map fun o => match o with
  | some (.p d) => some d
  | _ => none
theorem RS.cap {K : PySem.W.Frag} {F H : Hp} : ∀ {s : S} {σ : L2.St} {f : FP}, RS K F H s σ f → RDo K F (capD s) σ
  | [], _, _, h => h.1
  | none :: s, _, _, h => by
    obtain ⟨o, r, rfl, h⟩ := h
    exact ⟨o, r, rfl, RS.cap h⟩
  | some m :: s, _, _, h => by
    obtain ⟨v, r, f1, f2, rfl, h1, h2, h3⟩ := h
    have q := RS.cap h2
    cases m with
    | p d => exact ⟨v, r, rfl, h1.1, q⟩
    | _ => exact ⟨_, r, rfl, q⟩
theorem RDo.slots {K : PySem.W.Frag} {F H : Hp} {d : D} {v : V} (hv : RD K F d v) : ∀ {ds : List (Option D)} {σ : L2.St}, RDo K F ds σ → RS K F H (ds.map (Option.map M.p) ++ [some (.p d)]) (σ ++ [some v]) fun _ => 0
  | [], _, h => by
    have h : _ = [] := h
    subst h
    exact ⟨v, [], _, _, rfl, ⟨hv, fun _ => rfl⟩, ⟨rfl, fun _ => rfl⟩, fun _ => rfl⟩
  | none :: ds, _, h => by
    obtain ⟨o, r, rfl, h⟩ := h
    exact ⟨o, _, rfl, RDo.slots hv h⟩
  | some e :: ds, _, h => by
    obtain ⟨u, r, rfl, h1, h⟩ := h
    exact ⟨u, _, _, _, rfl, ⟨h1, fun _ => rfl⟩, RDo.slots hv h, fun _ => rfl⟩
theorem Res.made {K : PySem.W.Frag} {F H H1 : Hp} {σ : L2.St} {s : S} {φ : SLg} {c : Addr} {q : Str} (r : Res K F H σ s φ) (e : ExtN H H1) (t : Tabs Tb.T H1) (hc : H1 c = some (CodeO c q)) : ∃ F1, Same F F1 ∧ Res K F1 H1 σ s φ ∧ F1 c = some (CodeO c q) := by
  have up : ∀ b o, F b = some o → H1 b = some o := fun b o h => e b o (r.ff _ _ h) fun ps z => r.tb.n b ps (z ▸ h)
  have sm : Same F (upd F c (CodeO c q)) := fun b o h => by
    by_cases hb : b = c
    · subst hb
      have := up _ _ h
      rw [hc] at this
      rw [upd_same]
      exact this
    · rw [upd_ne hb]
      exact h
  obtain ⟨f1, f2, h1, h2, h3⟩ := r.ex
  have kp : ∀ f : FP, (∀ a, f a ≠ 0 → Mut H a ∧ F a = none) → Kp F H (upd F c (CodeO c q)) H1 f := fun f al => ⟨sm, fun a n => by
    obtain ⟨⟨o, e1, e2⟩, e3⟩ := al a n
    have e4 := e a o e1 fun ps z => by rw [z] at e2; cases e2
    refine ⟨by rw [e4, e1], fun _ => ?_⟩
    rw [upd_ne]
    · exact e3
    · rintro rfl
      rw [hc] at e4
      cases e4
      cases e2⟩
  refine ⟨_, sm, ⟨fun b o h => ?_, .upd r.tb.n t codeO_ne, f1, f2, RS.keep (kp f1 h1.alive) h1, φ.keep (kp f2 (φ.alive h2)) h2, h3⟩, upd_same⟩
  by_cases hb : b = c
  · subst hb
    rw [upd_same] at h
    rw [hc]
    exact h
  · rw [upd_ne hb] at h
    exact up _ _ h
/-- what a lambda's body is worth -/
def lamW (wl : WE) : List (Option D) → D → (D → Prop) → Prop := fun ds d Q => wl (ds.map (Option.map M.p) ++ [some (.p d)]) (fun m _ => ∃ d', m = .p d' ∧ Q d') noR
theorem lamW.mono {wl : WE} (h : MonoE wl) : MonoL (lamW wl) := fun ds d Q Q' i q => h _ _ _ _ _ (fun m _ ⟨d', e, z⟩ => ⟨d', e, i _ z⟩) (fun _ _ z => z) q
def eLam (q : Str) (g : Lam → SpecD) (W : List (Option D) → D → (D → Prop) → Prop) (wa : WE) : WE := fun s P R => wa s (fun m s1 => match m with
  | .p d => ∀ (f c : Addr) (σ : L2.St), g ⟨f, c, q, σ, capD s1, W⟩ [.p d, Lam.m ⟨f, c, q, σ, capD s1, W⟩] (fun r _ => P r s1) (fun x _ => R x s1)
  | _ => False) R
theorem eLam.mono {q : Str} {g : Lam → SpecD} {W : List (Option D) → D → (D → Prop) → Prop} {wa : WE} (hg : ∀ L, MonoL L.W → MonoG (g L)) (hW : MonoL W) (ha : MonoE wa) : MonoE (eLam q g W wa) := fun s P P' R R' hp hR z => ha s _ _ _ _ (fun m s1 q1 => by
  split at q1
  · exact fun f c σ => hg _ hW _ _ _ _ _ (fun r _ => hp _ _) (fun x _ => hR _ _) (q1 f c σ)
  · exact q1) hR z
section
variable {X : Cx} {G : Pg} {E : L2.St → XK} {wa wl : WE} {g : Lam → SpecD} {k j : Nat} {ps : List Str} {x y : Str} {p lpos pos : Pos} {e body : Expr} {params : Arguments} {scope : Scope} {c P : Addr}
/-- x(e, lambda y: body) -/
theorem de_lam (D : DfL G x ps k [1] g) (hr : Room k X.A) (hx : ∀ σ, PassesAt (L2.CX X.prog X.w) X σ (E σ)) (ha : DE X G.cv E e wa) (hps : ps.length = 2) (hk : 1 ≤ k)
    (TB : TabB X.base X.mg c P) (hcode : X.env.code = .ref c) (hmT : (P, X.env.qual ++ "<lambda>") ∈ Tb.T) (hu : ∀ p ∈ Tb.T, p.1 = P → p.2 = X.env.qual ++ "<lambda>") (L : LamS1 X.env.scope scope y) (hyN : y ∉ X.N) (hdef : defaultsOf params X.env = ([], []))
    (hbind : ∀ (q : Str) (cl : List (Str × Addr)) (pm cv ctv u : Value), bindArgs (PySem.W.kla_fn "<lambda>" q params body scope cl pm cv ctv) ⟨[u], []⟩ = pure [(y, u)])
    (hbody : ∀ (A : Around) (outer : List Env) (s : Shared) (H : Hp) (f c' : Addr), Room 0 (A.deeper (lamEnv X scope s.heap.objs.size f c')) → DE (lamCx1 X A outer s H (fun _ _ _ => False) scope y f c') G.cv noE body wl)
    (eG : (⟨X.prog, X.w, X.K, X.mg, X.base⟩ : Program × World × PySem.W.Frag × (Str → Option Value) × Heap) = ⟨G.pr, G.w, G.K, G.mg, G.base⟩ := by rfl) (hgl : Gl X x := by rfl)
    (hdb : (x == ("__debug__" : Str)) = false := by decide) (he : starEach [e, .Lambda params body scope lpos] X.env = (false, eval e X.env) :: starEach [.Lambda params body scope lpos] X.env := by rfl) (hpl : (backTo pos (starEach [.Lambda params body scope lpos] X.env)).any (·.1) = false := by rfl) :
    DE X G.cv E (.Call (.Name x p) [e, .Lambda params body scope lpos] [] pos) (eLam (X.env.qual ++ "<lambda>") g (lamW wl) wa) := by
  obtain ⟨pr, w, K, mg, base, cv⟩ := G
  simp only [Prod.mk.injEq] at eG
  obtain ⟨rfl, rfl, rfl, rfl, rfl⟩ := eG
  have mW : MonoE wl := (hbody X.A X.stack X.s_0 X.H_0 0 0 (Room.deeper (hr.mono hk) _)).mono
  obtain ⟨mG, fg, fd, h1, h2, h3, h4⟩ := D
  refine ⟨⟨fun pins s σ H Q I q => ?_⟩, eLam.mono mG (lamW.mono mW) ha.mono⟩
  obtain ⟨F, s0, φ, r, q⟩ := q
  refine wpAny_Call_Name_kw (ld_glob I hgl h1 ?_ hdb)
  refine PySem.W.callWith_K (h₀ := X.base) I.ok.mod.kin h2 ?_ he hpl
  rw [he]
  show wpAny _ _ (spliced ((false, eval e X.env) :: (false, eval (.Lambda params body scope lpos) X.env) :: backTo pos (starEach [] X.env))) _ _ s
  refine Calls.spliced_cons (wpAny_mono (ha.pe.run pins s σ H (fun v H1 => ∃ F1 d s1, Same F F1 ∧ Res X.K F1 H1 σ s1 (star (rv X.K σ (.p d) v) φ) ∧ ∀ (f c : Addr) (σ' : L2.St), g ⟨f, c, X.env.qual ++ "<lambda>", σ', capD s1, lamW wl⟩ [.p d, Lam.m ⟨f, c, X.env.qual ++ "<lambda>", σ', capD s1, lamW wl⟩] (fun r _ => okE X.K σ F φ Q r s1) (fun x _ => okX X.K cv E σ F φ x s1)) I
    ⟨F, s0, φ, r, ha.mono _ _ _ _ _ (fun m s1 q1 v F1 H1 sm r1 => ?_) (fun _ _ z => z) q⟩) (fun u1 s1 ⟨v1, H1, I1, rv1, F1, d, s2, sm1, r1, q1⟩ => ?_) fun _ _ z => z)
  · split at q1
    · exact ⟨F1, _, s1, sm, r1, q1⟩
    · exact q1.elim
  refine Calls.spliced_cons (lam_make2 I1 TB hcode hmT hu r1.tb.t hdef (L.has I1.ok) fun f c' pm ctv H2 s3 I2 eN T2 hf hfn hfr hco => ?_)
  refine Calls.spliced_nil ⟨I2.kIn, ?_⟩
  obtain ⟨F2, sm2, r2, hF2⟩ := r1.made eN T2 hco
  have q2 := q1 f c' σ
  have cap : RDo X.K F2 (capD s2) σ := by
    obtain ⟨f1, f2, k1, _⟩ := r2.ex
    exact k1.cap
  have lr : LamRun X.prog X.w X.K X.mg X.base 1 X.stack s3 H2 ⟨f, c', X.env.qual ++ "<lambda>", σ, capD s2, lamW wl⟩ := by
    refine ⟨lamW.mono mW, ⟨_, _, _, _, hf⟩, hfn, hfr, fun A outer' s4 HZ v u Q' F' φ' d' hrA e0 un rvu rZ fc rd z => ?_⟩
    have fc : F' c' = some (CodeO c' (X.env.qual ++ "<lambda>")) ∧ RDo X.K F' (capD s2) σ := fc
    have of1 : s4.heap.get? f = some (PySem.W.kla_obj "<lambda>" (X.env.qual ++ "<lambda>") params body scope (cloFrom X.env.cells scope.names []) pm c' ctv) := un.keep f _ hf hfn hfr (fun z => nomatch (show f ∈ ([] : List Addr) from z))
    obtain ⟨⟨oc, vs, t, hoc, hdc, hvc⟩, _, _⟩ := e0.hok c' _ (rZ.ff _ _ fc.1)
    refine PySem.W.kla_callFunE hrA.depth of1 rfl L.co L.gen rfl ⟨c', oc, vs, t, rfl, hoc, hdc, hvc⟩ ?_
    rw [hbind]
    refine wpAny_pure (wpAny_newFunctionEnv (fun y hy => L.nc y hy) (fun y hy => by rw [List.mem_singleton.mp hy]; exact L.par) (fun h₁ hns hsb => ⟨(e0.mod.nolimit.keeps fun b o e => (e0.bs b o e).1).fresh _ hsb, ?_⟩) L.kind)
    show codeAny _ _ (.expr body (lamEnv X scope s4.heap.objs.size f c')) _ _
    have kp : ∀ b o, s4.heap.get? b = some o → h₁.get? b = some o := fun b o e => hsb.extBut b o (Nat.ne_of_lt (Heap.lt_size e)) (Heap.get?_push_of_some _ e)
    have J := lam_start1 (E := fun _ _ _ => False) (f := f) (c' := c') (tk := s4.toks + [(y, u)].length) I2 L e0 hrA.hd hyN rvu un hns kp
    have rs : Res X.K F' HZ (σ ++ [some v]) ((capD s2).map (Option.map M.p) ++ [some (.p d')]) φ' := by
      obtain ⟨g1, g2, k1, k2, k3⟩ := rZ.ex
      exact ⟨rZ.ff, rZ.tb, fun _ => 0, g2, RDo.slots rd fc.2, k2, fun b => by have := k3 b; dsimp only; omega⟩
    have zz : liE X.K cv noE wl (σ ++ [some v]) HZ Q' := by
      refine ⟨F', _, φ', rs, mW _ _ _ _ _ (fun m s9 q9 v9 F9 H9 sm9 r9 => ?_) (fun _ _ z => z.elim) z⟩
      obtain ⟨d9, em, z9⟩ := q9
      subst em
      exact z9 v9 F9 H9 sm9 r9.dropL.close.dropL r9.getP
    refine PySem.W.kla_codeExpr (wpAny_mono ((hbody A outer' s4 HZ f c' (hrA.deeper _)).pe.run [] _ _ HZ Q' J zz) (fun v s' hq => ?_) fun e s' hq => hq)
    obtain ⟨w', H', J', rv, q⟩ := hq
    exact ⟨w', H', J'.os, J'.bare, J'.base, J'.hok, rv, q⟩
  have rc := h4 ⟨f, c', X.env.qual ++ "<lambda>", σ, capD s2, lamW wl⟩ X.A X.stack s3 H2 ⟨[u1, .ref f], []⟩ [u1, .ref f] [v1, .ref f] Q (E σ) hr I2.env0 lr (by
    have := h3 s3 [u1, .ref f] I2.kIn (by rw [hps]; rfl)
    simpa using this) (.cons rv1 (.cons rfl .nil)) hps.symm ?_
  · refine wpAny_call (codeAny_mono rc fun r s' hq => ?_)
    cases r with
    | error e => exact hx σ pins H2 s3 e s' I2 hq
    | ok fl =>
      cases fl with
      | ret u => exact I2.after hq
      | next => exact False.elim hq
      | brk => exact False.elim hq
      | cont => exact False.elim hq
  · have rd := r2.getP
    have rX : Res X.K F2 H2 [] [] (star (rvs X.K [] [.p d, Lam.m ⟨f, c', X.env.qual ++ "<lambda>", σ, capD s2, lamW wl⟩] [v1, .ref f]) (star (sls X.K σ s2) φ)) := by
      have r3 := r2.dropL.close
      refine r3.with ⟨_, _, .inr ⟨rd, fun _ => rfl⟩, ⟨_, _, .inr ⟨rfl, ⟨hF2, cap⟩, fun _ => rfl⟩, fun _ => rfl, fun _ => rfl⟩, fun _ => rfl⟩
    refine ⟨F2, _, _, rfl, fun m hm => ?_, fun i m hm hi => ?_, rX, mG _ (lamW.mono mW) _ _ _ _ _ (fun m os q3 v F' H' sm' ol na r' => ?_) (fun x os q3 c d F' H' sm' ol r' ex => ?_) q2⟩
    · rcases List.mem_cons.mp hm with rfl | hm
      · rfl
      · rw [List.mem_singleton.mp hm]
        rfl
    · match i, hm, hi with
      | 0, hm, _ => cases hm; rfl
      | 1, _, hi => exact absurd (by simp) hi
    · have r5 := r'.swap.dropL.swap.open
      refine q3 v F' H' (sm1.trans (sm2.trans sm')) (r5.imp fun f9 ⟨a1, a2, b1, b2, b3⟩ => ⟨f9, ⟨a1, a2, rv_noAt na b1, b2, b3⟩, fun _ => Nat.le_refl _⟩)
    · exact q3 c d F' H' (sm1.trans (sm2.trans sm')) r'.dropL.open ex
end
end Sd
set_option maxHeartbeats 1000000
/-! SdQ: == and != of dicts. -/
namespace Sd
open PySem PySem.Spec PyProof.Rows L2
variable [Tb]
theorem hu184 {k : Nat} {A : Around} (hr : Room k A) : A.units + 184 < cLine := by
  have := hr.un
  omega
def hitsD (b : List (D × D)) : List (D × D) → Bool
  | [] => true
  | (k, d) :: r => match dget b k with
    | none => false
    | some e => eqD d e && hitsD b r
def eqDic (a b : List (D × D)) : Bool := a.length == b.length && hitsD b a
def shpK (l : List (D × D)) : Bool := l.all fun p => scaK p.1 && shp p.2
def rEqX (K : PySem.W.Frag) (f : Bool → Bool) : R2 := fun x y H Q => ∃ (F : Hp) (a b : Addr) (la lb : List (D × D)), Same F H ∧ x = .ref a ∧ y = .ref b ∧ DicAt K F H a la ∧ DicAt K F H b lb ∧ shpK la = true ∧ shpK lb = true ∧ Q (.bl (f (eqDic la lb))) H
theorem dget_mem {l : List (D × D)} {k e : D} (h : dget l k = some e) : ∃ p ∈ l, p.2 = e := by
  unfold dget at h
  rw [Option.map_eq_some_iff] at h
  obtain ⟨p, h1, h2⟩ := h
  exact ⟨p, List.mem_of_find?_eq_some h1, h2⟩
theorem shp_dp {K : PySem.W.Frag} {F H : Hp} {d : D} {v : V} (ff : Same F H) (h : RD K F d v) (n : shp d = true) : Dp K H v (toPy d) ∧ shpd (toPy d) = true := by
  unfold shp at n
  rw [Bool.and_eq_true] at n
  exact ⟨h.dp ff n.1, n.2⟩
section
variable {X : Cx} {pins : List (Addr × Obj)} {σ : L2.St} {H F : Hp} {s : Shared}
theorem hitsX (I : Inv X pins σ H s) (ff : Same F H) {A : Around} (hu : A.units + 182 < cLine) {lb : List (D × D)} {kb : List (Key × V)} {vb : List (Key × Value)} (hb : RDk X.K F lb kb) (rb : KV kb vb) (sb : shpK lb = true) :
    ∀ {la : List (D × D)} {ka : List (Key × V)} {va : List (Key × Value)}, RDk X.K F la ka → KV ka va → shpK la = true → PySem.W.KeqHits A s vb va (hitsD lb la)
  | [], ka, va, ha, ra, _ => by
    have e : ka = [] := ha
    subst e
    cases ra
    exact .nil
  | (k, d) :: la, ka, va, ha, ra, sa => by
    obtain ⟨j, x, r, rfl, rfl, hd, hr⟩ := ha
    cases ra with
    | @cons _ q _ vr h t =>
      obtain ⟨h1, h2⟩ := h
      obtain ⟨j', v⟩ := q
      have h1 : j = j' := h1
      subst h1
      have sa' : (scaK (dKey j) && shp d) = true ∧ shpK la = true := by
        unfold shpK at sa ⊢
        rw [List.all_cons, Bool.and_eq_true] at sa
        exact sa
      rw [Bool.and_eq_true] at sa'
      obtain ⟨g1, g2⟩ := RDk.get j hb
      have rr := rb.val j
      unfold hitsD
      cases e : dget lb (dKey j) with
      | none =>
        rw [g2 e] at rr
        have e3 : valueAt vb j = none := by
          cases e4 : valueAt vb j with
          | none => rfl
          | some y => rw [e4] at rr; exact rr.elim
        exact .miss e3
      | some f =>
        obtain ⟨y, e1, e2⟩ := g1 f e
        rw [e1] at rr
        obtain ⟨u, hu1, ru⟩ := rr.some_of
        obtain ⟨p, pm, pe⟩ := dget_mem e
        have sf : shp f = true := by
          unfold shpK at sb
          have := List.all_eq_true.mp sb p pm
          rw [Bool.and_eq_true, pe] at this
          exact this.2
        obtain ⟨d1, s1⟩ := shp_dp ff hd sa'.1.2
        obtain ⟨d2, s2⟩ := shp_dp ff e2 sf
        obtain ⟨as, r1⟩ := Dp.reads I _ _ v d1 h2
        obtain ⟨bs, r2⟩ := Dp.reads I _ _ u d2 ru
        exact .hit hu1 (SeqAt.eqAt_reads _ _ A s v u as bs r1 r2 (canLay_of_shpd s1) (canLay_of_shpd s2) (room_of_shpd s1 hu)) (hitsX I ff hu hb rb sb hr t sa'.2)
theorem dic_lay (I : Inv X pins σ H s) {a : Addr} {la : List (D × D)} (h : DicAt X.K F H a la) (sa : shpK la = true) : ∃ (ka : List (Key × V)) (va : List (Key × Value)), RDk X.K F la ka ∧ KV ka va ∧ (a == sysModules) = false ∧ s.heap.DictOf (mixKind X.prog X.w) a va := by
  rcases h with ⟨ks, h1, h2⟩ | ⟨ks, h1, h2⟩
  · obtain ⟨_, ya, va, ra, da⟩ := (show ObjOk X.prog X.w H s.heap a (.dK ks) from I.hok a _ h1)
    exact ⟨ks, va, h2, ra, ya, da⟩
  · cases la with
    | nil =>
      have e : ks = [] := h2
      subst e
      obtain ⟨_, ya, va, ra, da⟩ := (show ObjOk X.prog X.w _ s.heap a (.dK []) from (emptyTK I h1).hok a _ upd_same)
      exact ⟨[], va, rfl, ra, ya, da⟩
    | cons p la =>
      obtain ⟨k, d⟩ := p
      obtain ⟨j, x, r, _, rfl, _⟩ := h2
      unfold shpK at sa
      rw [List.all_cons] at sa
      simp [scaK] at sa
theorem op_eqX (hu : X.A.units + 184 < cLine) : OpR X (compareOp .Eq) (rEqX X.K id) := by
  intro pins s σ H x y v u Q I rx ry h
  obtain ⟨F, a, b, la, lb, ff, rfl, rfl, ha, hb, sa, sb, q⟩ := h
  cases (show v = Value.ref a from rx)
  cases (show u = Value.ref b from ry)
  obtain ⟨ka, va, h1, ra, ya, da⟩ := dic_lay I ha sa
  obtain ⟨kb, vb, h2, rb, yb, db⟩ := dic_lay I hb sb
  refine PySem.W.keq_eq (r := hitsD lb la) ya yb da db (by omega) (fun _ => hitsX I ff (A := X.A.in1) (by show X.A.units + 1 + 182 < cLine; omega) h2 rb sb h1 ra sa) ⟨.bl _, H, I, ?_, q⟩
  have e1 : va.length = la.length := by rw [← ra.length, h1.length]
  have e2 : vb.length = lb.length := by rw [← rb.length, h2.length]
  rw [e1, e2]
  rfl
theorem op_neX (hu : X.A.units + 184 < cLine) : OpR X (compareOp .NotEq) (rEqX X.K not) := by
  intro pins s σ H x y v u Q I rx ry h
  obtain ⟨F, a, b, la, lb, ff, rfl, rfl, ha, hb, sa, sb, q⟩ := h
  cases (show v = Value.ref a from rx)
  cases (show u = Value.ref b from ry)
  obtain ⟨ka, va, h1, ra, ya, da⟩ := dic_lay I ha sa
  obtain ⟨kb, vb, h2, rb, yb, db⟩ := dic_lay I hb sb
  refine PySem.W.keq_ne (r := hitsD lb la) ya yb da db (by omega) (fun _ => hitsX I ff (A := X.A.in1) (by show X.A.units + 1 + 182 < cLine; omega) h2 rb sb h1 ra sa) ⟨.bl _, H, I, ?_, q⟩
  have e1 : va.length = la.length := by rw [← ra.length, h1.length]
  have e2 : vb.length = lb.length := by rw [← rb.length, h2.length]
  rw [e1, e2]
  rfl
def oEqX (f : Bool → Bool) : WO := fun s x y P => match dicM s x, dicM s y with
  | some a, some b => shpK a = true ∧ shpK b = true ∧ P (.p (.bl (f (eqDic a b))))
  | _, _ => False
theorem od_eqX {f : Bool → Bool} : OpD X (rEqX X.K f) (oEqX f) := by
  refine ⟨fun s x y P P' h q => ?_, fun F H σ s φ x y vx vy P Q r q k => ?_⟩
  · unfold oEqX at q ⊢
    split at q
    · exact ⟨q.1, q.2.1, h _ q.2.2⟩
    · exact q
  · unfold oEqX at q
    split at q
    · rename_i a b ea eb
      obtain ⟨h1, h2, q⟩ := q
      obtain ⟨b', e2, d2⟩ := r.dicM eb
      obtain ⟨a', e1, d1⟩ := r.dropL.dicM ea
      exact ⟨F, a', b', a, b, r.ff, e1, e2, d1, d2, h1, h2, OpD.fin r.cossa k q rfl⟩
    · exact q.elim
end
/-! ### name = {..} on one line -/
section
variable {X : Cx} {cv : CV} {E : L2.St → XK} {kx vx tg iter : Expr} {ifs : List Expr} {scope : Scope} {own : List (Str × Nat)} {pos : Pos} {wi : WI} {wg : WG} {wt : WT} {wk wv : WE}
theorem ds_setDcN {P : List Nat} {i : Nat} {y : Str} {py spos : Pos} (hN : X.N.Nodup) (hy : X.N[i]? = some y) (hyl : X.env.scope.names.lookup y = some .local) (hP : i ∉ P) (hu : X.A.units + 1 < cLine) (hc : X.calm = true) (hN' : X.N.Nodup)
    (hi : DI X cv E (fun j => decide (j ∉ own.map (·.2))) tg iter wi) (ok : BlkOk X.N X.env.scope scope own) (nd : (own.map (·.2)).Nodup)
    (hg : ∀ (s : Shared) (H : Hp) (C : Addr) (cl : List (Str × Addr)) (fp : List Addr), DGo (X.blk s H scope (compEnvC scope cl C X.env) fp) (own.map (·.2)) tg wg)
    (ht : ∀ (s : Shared) (H : Hp) (C : Addr) (cl : List (Str × Addr)) (fp : List Addr), DTs (X.blk s H scope (compEnvC scope cl C X.env) fp) cv noE ifs wt)
    (hk : ∀ (s : Shared) (H : Hp) (C : Addr) (cl : List (Str × Addr)) (fp : List Addr), DE (X.blk s H scope (compEnvC scope cl C X.env) fp) cv noE kx wk)
    (he : ∀ (s : Shared) (H : Hp) (C : Addr) (cl : List (Str × Addr)) (fp : List Addr), DE (X.blk s H scope (compEnvC scope cl C X.env) fp) cv noE vx wv)
    (hsw : swapsWith (.DictComp kx vx [⟨tg, iter, ifs, 0⟩] scope pos) (some (.Name y py)) spos.line X.env = pure true := by rfl)
    (hs : ∀ x, foldedSetIterable iter X.env x = pure x := by intro _; rfl) : DS X cv E P (.Assign [.Name y py] (.DictComp kx vx [⟨tg, iter, ifs, 0⟩] scope pos) spos) (sAsg (eDc (own.map (·.2)) wi wg wt wk wv) (gN i)) := by
  have mg := (hg X.s_0 X.H_0 0 [] []).mono
  have mt := (ht X.s_0 X.H_0 0 [] []).mono
  have mk := (hk X.s_0 X.H_0 0 [] []).mono
  have mv := (he X.s_0 X.H_0 0 [] []).mono
  refine ⟨PS.imp (ps_setDg (g := liGo X.K (own.map (·.2)) wg) (tt := liT X.K cv noE wt) (tk := liE X.K cv noE wk) (tv := liE X.K cv noE wv) hu hy hyl hc hN hi.pi ok (fun s H C cl fp => (hg s H C cl fp).pg) (fun s H C cl fp => (ht s H C cl fp).pts) (fun s H C cl fp => (hk s H C cl fp).pe) (fun s H C cl fp => (he s H C cl fp).pe) hsw hs) fun D σ H q => ?_, sAsg.mono (eDc.mono hi.mono) gN.mono⟩
  have q := sAsg.to (eDc.mono hi.mono) gN.mono q
  obtain ⟨F, s, φ, r, q⟩ := q
  refine eDc.to nd hi.mono mg mt mk mv ⟨F, s, φ, r, eDc.mono hi.mono _ _ _ _ _ (fun m s1 q1 v F1 H1 sm1 r1 => ?_) (fun _ _ z => z) q⟩
  obtain ⟨F2, s2, φ2, pv, m2, ep, po, r2, q2⟩ := q1 v F1 H1 sm1 r1
  obtain ⟨s', q3, r'⟩ := gN.to r2 q2
  exact q3 _ F2 H1 (po.set ep hP) (Same.refl F2) r'
end
end Sd
set_option maxHeartbeats 1000000
/-! SdN: enumerate(..) of lists and of tuples. -/
namespace Sd
open PySem PySem.Spec PyProof.Rows L2
section
open AutoSeq1 (wpAny_loadPart')
theorem meets_enumerate_newT (l : Addr) (items : Array Value) (n : Nat) (dct : Option Addr) (sl : Array (Option Value)) :
    Meets (Builtin.«enumerate.__new__» ⟨[.type "enumerate", .ref l], []⟩) (fun _ R s => s.heap.get? l = some { cls := .type "tuple", data := .seq items n, dict := dct, slots := sl } ∧
      R (.ok (.ret (.ref (s.heap.push { cls := .type "tuple_iterator", data := .fields #[.ref l, .int 0 0] }).objs.size)))
        { s with heap := (s.heap.push { cls := .type "tuple_iterator", data := .fields #[.ref l, .int 0 0] }).push { cls := .type "enumerate", data := .fields #[.none, .bool false, .ref s.heap.objs.size, rawInt 0, .none, .none] } }) :=
  .of_wp fun prog w A R s h => by
    obtain ⟨hp, g, d, tk, os⟩ := s; obtain ⟨hl, h⟩ := h
    have hsub := sub_enumerate
    have hL : Heap.IsTuple (Shared.heap ⟨hp, g, d, tk, os⟩) l items := ⟨_, hl, rfl, n, rfl⟩
    wp_walk using wpAny_loadPart' hl
    refine wpAny_stack_any fun st => wpAny_pure ?_
    split
    · rename_i c _ _ _ _ _
      cases (c == Value.type "enumerate")
      · wp_walk using wpAny_loadPart' hl, wpAny_pyIter_tuple hL
        exact ⟨_, rfl, h⟩
      · wp_walk using wpAny_loadPart' hl, wpAny_pyIter_tuple hL
        exact ⟨_, rfl, h⟩
    · wp_walk using wpAny_loadPart' hl, wpAny_pyIter_tuple hL
      exact ⟨_, rfl, h⟩
end
section
variable {prog : Program} {w : World} {A : Around} {E : Value → Shared → Prop} {s : Shared}
theorem call_enumerate_tuple {l : Addr} {items : Array Value} {Q : Value → Shared → Prop} (hL : s.heap.IsTuple l items)
    (h : ∀ h', IsEnum h' (s.heap.objs.size + 1) s.heap.objs.size 0 .none → h'.IsTupleIter s.heap.objs.size l 0 → h'.objs.size = s.heap.objs.size + 2 →
      (∀ b o, s.heap.get? b = some o → h'.get? b = some o) → Q (.ref (s.heap.objs.size + 1)) { s with heap := h' }) :
    wpAny (model prog w) A (call (.type "enumerate") [.ref l]) Q E s := by
  obtain ⟨⟨c, dct, dt, sl⟩, hl, hc, n, hd⟩ := hL
  replace hc : c = .type "tuple" := hc
  replace hd : dt = .seq items n := hd
  subst hc hd
  refine callType_new F.called_enumerate (by decide) (F.typeCall_enumerate_1 _) (F.newCall_enumerate_1 _) (fun obj => F.args_object_init_2 obj _) F.entry_enumerate_new
    (meets_enumerate_newT l items n dct sl) ⟨hl, ?_⟩
  have hz : (s.heap.push { cls := .type "tuple_iterator", data := .fields #[.ref l, .int 0 0] }).objs.size = s.heap.objs.size + 1 := Heap.size_push ..
  show _ ∧ _
  rw [hz]
  have he : IsEnum ((s.heap.push { cls := .type "tuple_iterator", data := .fields #[.ref l, .int 0 0] }).push
      { cls := .type "enumerate", data := .fields #[.none, .bool false, .ref s.heap.objs.size, rawInt 0, .none, .none] }) (s.heap.objs.size + 1) s.heap.objs.size 0 .none := by
    have := Heap.get?_push_size (s.heap.push { cls := .type "tuple_iterator", data := .fields #[.ref l, .int 0 0] })
      (o := { cls := .type "enumerate", data := .fields #[.none, .bool false, .ref s.heap.objs.size, rawInt 0, .none, .none] }) rfl
    rw [hz] at this; exact this
  refine ⟨⟨_, he, rfl⟩, h _ he ⟨_, Heap.get?_push_of_some _ (Heap.get?_push_size _ rfl), rfl, rfl⟩ (by rw [Heap.size_push, hz]) fun b o x => Heap.get?_push_of_some _ (Heap.get?_push_of_some _ x)⟩
theorem draws_tuple (hh : A.handled = none) (I t : Addr) (hne : t ≠ I) (items : Array Value) : Draws prog w A I [I, t] items.size (fun i v => items[i]? = some v) (fun i h => h.IsTupleIter I t i ∧ h.IsTuple t items) where
  live := fun i h st => let ⟨⟨o, ho, _⟩, _⟩ := st; ⟨o, ho⟩
  frame := fun i h h' st k => ⟨st.1.at fun o e => k I (by simp) o e, let ⟨o, ho, r⟩ := st.2; ⟨o, k t (by simp) o ho, r⟩⟩
  item := fun i s Q E hi st hQ => RZ.nextOf_tuple_item st.1 st.2 (x := items[i]) (Array.getElem?_eq_getElem hi) fun h' q1 q2 =>
    hQ _ h' s.toks (Array.getElem?_eq_getElem hi) ⟨q1, let ⟨o, ho, r⟩ := st.2; ⟨o, (q2.2 t hne).trans ho, r⟩⟩ q2
  done := fun s Q E st hE => RZ.nextOf_tuple_end hh st.1 st.2 (Array.getElem?_eq_none (Nat.le_refl _)) fun h' e k he => hE h' e k he
end
section
variable {prog : Program} {w : World} {A : Around} {E : Value → Shared → Prop} {s : Shared}
theorem pyNext_enumT_end {e it l : Addr} {i : Nat} {items : Array Value} {old : Value} {Q : Option Value → Shared → Prop} (hh : A.handled = none) (he : IsEnum s.heap e it i old) (hit : s.heap.IsTupleIter it l i) (hl : s.heap.IsTuple l items) (hx : items[i]? = none)
    (hQ : ∀ h', Heap.ExtBut it s.heap h' → Q none { s with heap := h' }) : wpAny (model prog w) A (pyNext (.ref e)) Q E s := by
  have hT : s.TypeIs (.ref e) "enumerate" := ⟨_, he, rfl⟩
  unfold pyNext
  refine wpAny_bind (wpAny_attempt (wpAny_callSpecial?_slot (name := Str.ofString "__next__") hT F.slot_enumerate_next
    (wpAny_call_entry F.slot_enumerate_next hT F.entry_enumerate_next ?_ (F.args_enumerate_next_1 _))))
  show wpAny _ _ (field (.ref e) 2 >>= _) _ _ _
  refine wpAny_bind (wpAny_field he rfl (x := .ref it) rfl ?_)
  refine wpAny_bind (RZ.nextOf_tuple_end hh hit hl hx fun h' x he' hx' => ?_)
  obtain ⟨o, ho, hc⟩ := hx'
  refine wpAny_bind (wpAny_isInstance (T := "StopIteration") (b := true) ⟨o, ho, hc⟩ isSubtype_stop ?_)
  exact wpAny_pure (hQ _ he')
end
/-- the tuple at a as it stands at each turn, each item in a new pair -/
def IteT (K : PySem.W.Frag) (a : Addr) : It :=
  ⟨fun i H => ∃ (xs : List V) (x : V), SqT K H a xs ∧ xs[i]? = some x, fun i H v H' => ∃ T x, v = .ref T ∧ H T = none ∧ H' = upd H T (.tup [.int (i : Nat), x]) ∧ ∀ xs, SqT K H a xs → xs[i]? = some x, fun i H => ∃ xs : List V, SqT K H a xs ∧ xs.length ≤ i⟩
theorem turn_enumT {P : Program} {w : World} {K : PySem.W.Frag} {elts : List Expr} {kk : Nat} {tpos : Pos} (a e it : Addr) (hai : a ≠ it) (hae : a ≠ e) :
    Turn P w K (.Tuple elts kk tpos) (IteT K a) [e, it] e (fun i h => (∃ old, IsEnum h e it ((i : Nat) : Int) old) ∧ h.IsTupleIter it a i ∧ e ≠ it) where
  mem := by simp
  obj := fun i h st b hb => by
    obtain ⟨⟨old, he⟩, ⟨o, ho, hc, hd⟩, _⟩ := st
    have e' : b = e ∨ b = it := by simpa using hb
    rcases e' with z | z
    · rw [z]; exact ⟨_, he, fun v q => nomatch q⟩
    · rw [z]; exact ⟨o, ho, fun v q => by rw [hd] at q; cases q⟩
  keep := fun i h h' st k => let ⟨⟨old, he⟩, hi, hne⟩ := st; ⟨⟨old, k e (by simp) _ he⟩, hi.at fun o q => k it (by simp) o q, hne⟩
  item := by
    intro X hP hw hK hc i pins s σ H E I hf st hg
    subst hP hw hK
    obtain ⟨⟨old, he⟩, hit, hne⟩ := st
    obtain ⟨xs, x, hq, hx⟩ := hg
    obtain ⟨its, rv, p, hz⟩ := I.tuple hq
    obtain ⟨u, hu, ru⟩ := rv.get hx
    have hel : e < s.heap.objs.size := Heap.lt_size he
    have hil : it < s.heap.objs.size := by obtain ⟨_, q, _⟩ := hit; exact Heap.lt_size q
    have hlt : i < its.toArray.size := by
      have := (List.getElem?_eq_some_iff.mp hu).1
      simpa using this
    refine wpAny_pyNext_enum_itemD (draws_tuple (prog := X.prog) (w := X.w) (A := X.A.in1) (I.ok.hd hc) it a hai its.toArray) he ⟨hit, p⟩ hlt hne (by simp [hne, hae.symm]) fun y h' tk hy ho hst hT hsz hk => ?_
    have ey : y = u := by
      have h2 : its.toArray[i]? = some u := by simpa using hu
      rw [h2] at hy
      exact (Option.some.inj hy).symm
    subst ey
    refine ⟨_, rfl, wpAny_letOwnedTupleGo_enum (s := { s with heap := h', toks := tk + 1 }) ho fun h'' he' sb => ?_⟩
    have hT2 : h''.get? s.heap.objs.size = some { cls := .type "tuple", data := .seq #[.int i tk, y] } := (sb.2 _ (Nat.ne_of_gt hel)).trans hT
    have new : ObjOk X.prog X.w (upd H s.heap.objs.size (.tup [.int (i : Nat), x])) h'' s.heap.objs.size (.tup [.int (i : Nat), x]) :=
      ⟨by show 2 ≤ sizeLine; decide, [.int i tk, y], .cons ⟨_, rfl⟩ (.cons ru .nil), ⟨_, hT2, rfl, _, rfl⟩⟩
    have I1 : Inv X pins σ (upd H s.heap.objs.size (.tup [.int (i : Nat), x])) { s with heap := h'', toks := tk + 1 } :=
      I.turnedNew (ch := [e, it]) (fun b ob hb q => (sb.2 b (fun z => hb (by simp [z]))).trans (hk b ob (fun z => hb (by simp [z])) (fun z => hb (by simp [z])) q)) hf (Nat.le_refl _) new
    refine ⟨.ref s.heap.objs.size, _, I1, rfl, ⟨_, x, rfl, I.hok.fresh (Nat.le_refl _), rfl, fun ys hy => by rw [I.tuple_inj hy hq]; exact hx⟩, ⟨⟨y, ?_⟩, hst.1.at fun o q => (sb.2 it (Ne.symm hne)).trans q, hne⟩, fun b hb => ?_⟩
    · have e1 : ((i + 1 : Nat) : Int) = (i : Int) + 1 := by omega
      rw [e1]; exact he'
    · have hb' : b < s.heap.objs.size := by
        have e' : b = e ∨ b = it := by simpa using hb
        rcases e' with z | z
        · rw [z]; exact hel
        · rw [z]; exact hil
      rw [upd_ne (Nat.ne_of_lt hb')]
      exact (hf b hb).1
  done := by
    intro X hP hw hK hc i pins s σ H E I hf st hg
    subst hP hw hK
    obtain ⟨⟨old, he⟩, hit, hne⟩ := st
    obtain ⟨xs, hq, hx⟩ := hg
    obtain ⟨its, rv, p, hz⟩ := I.tuple hq
    obtain ⟨f0, f1, f2, f3, f4, f5⟩ := hf it (by simp)
    have hl := rv.length
    exact pyNext_enumT_end (I.ok.hd hc) he hit p (by simp; omega) fun h' eb => ⟨rfl, I.turned (t' := s.toks) (fun b o hb q => eb b o hb q) f0 f1 f3 f4 f5⟩
  self := fun A i s Q E st h => let ⟨⟨_, he⟩, _⟩ := st; wpAny_pyIter_enum he h
/-- enumerate of a list or a tuple -/
def iEnumA (K : PySem.W.Frag) (ta : TA) : TI := fun σ H R => ta σ H fun vs H1 => ∃ a xs, vs = [.ref a] ∧ ((SqL K H1 a xs ∧ R (Ite K a) H1) ∨ (SqT K H1 a xs ∧ R (IteT K a) H1))
theorem pi_enumA {X : Cx} {e : Expr} {ta : TA} {p pos tpos : Pos} {elts : List Expr} {kk : Nat} (hg : Gl X "enumerate") (hm : X.mg "enumerate" = none) (ha : PA X [e] ta) (hs : starEach [e] X.env = [(false, eval e X.env)] := by rfl) :
    PI X (.Tuple elts kk tpos) (.Call (.Name "enumerate" p) [e] [] pos) (iEnumA X.K ta) := by
  refine ⟨fun pins s σ H R I h => ?_⟩
  refine Call_ (ld_blt I hg hm boot_enumerate (PyProof.Rows.callWith_type1 (thn (ha.run pos pins s σ H _ I h) fun us s1 ⟨vs, H1, I1, r1, q1⟩ => ?_) hs rfl))
  obtain ⟨a, xs, ex, q⟩ := q1
  subst ex
  cases r1 with
  | cons r rr =>
    cases rr
    cases r
    have fresh : ∀ b ∈ [s1.heap.objs.size + 1, s1.heap.objs.size], FpOk X pins H1 b := fun b hb => by
      have e' : b = s1.heap.objs.size + 1 ∨ b = s1.heap.objs.size := by simpa using hb
      have hle : s1.heap.objs.size ≤ b := by
        rcases e' with z | z
        · rw [z]; exact Nat.le_add_right _ _
        · rw [z]; exact Nat.le_refl _
      exact I1.fpOk hle (I1.hok.fresh hle)
    rcases q with ⟨hq, q⟩ | ⟨hq, q⟩
    · obtain ⟨its, rv, p', hz⟩ := I1.list hq
      refine call_enumerate_list p'.isList fun h' he hit hsz hk => wpAny_pyIter_enum he ?_
      have I2 : Inv X pins σ H1 { s1 with heap := h' } := I1.kept (t' := s1.toks) hk
      exact ⟨s1.heap.objs.size + 1, [s1.heap.objs.size + 1, s1.heap.objs.size], _, _, H1, rfl, I2, turn_enum a (s1.heap.objs.size + 1) s1.heap.objs.size, ⟨⟨.none, he⟩, hit, Nat.succ_ne_self _⟩, fresh, q⟩
    · obtain ⟨its, rv, p', hz⟩ := I1.tuple hq
      obtain ⟨o1, ho1, _⟩ := id p'
      have lt := Heap.lt_size ho1
      refine call_enumerate_tuple (show s1.heap.IsTuple a its.toArray from p') fun h' he hit hsz hk => wpAny_pyIter_enum he ?_
      have I2 : Inv X pins σ H1 { s1 with heap := h' } := I1.kept (t' := s1.toks) hk
      exact ⟨s1.heap.objs.size + 1, [s1.heap.objs.size + 1, s1.heap.objs.size], _, _, H1, rfl, I2, turn_enumT a (s1.heap.objs.size + 1) s1.heap.objs.size (Nat.ne_of_lt lt) (Nat.ne_of_lt (Nat.lt_succ_of_lt lt)), ⟨⟨.none, he⟩, hit, Nat.succ_ne_self _⟩, fresh, q⟩
variable [Tb]
/-- the items with their numbers -/
def enL (k : Nat) : List D → List D
  | [] => []
  | d :: l => .tup [.int k, d] :: enL (k + 1) l
theorem enL_get : ∀ (l : List D) (k i : Nat), (enL k l)[i]? = (l[i]?).map fun d => D.tup [.int ((k + i : Nat) : Int), d]
  | [], _, _ => by simp [enL]
  | d :: l, k, 0 => rfl
  | d :: l, k, i + 1 => by
    show (enL (k + 1) l)[i]? = _
    rw [enL_get l (k + 1) i, List.getElem?_cons_succ, show k + 1 + i = k + (i + 1) by omega]
theorem enL_len : ∀ (l : List D) (k : Nat), (enL k l).length = l.length
  | [], _ => rfl
  | d :: l, k => by simp [enL, enL_len l (k + 1)]
def iEn (wa : WE) : WI := fun s Q R => wa s (fun m s1 => match m with
  | .p (.tup l) => Q (gFix (enL 0 l)) s1
  | .p (.lst l) => Q (gFix (enL 0 l)) s1
  | _ => False) R
section
variable {X : Cx} {cv : CV} {E : L2.St → XK} {ok : Nat → Bool} {a : Expr} {wa : WE} {p pos tpos : Pos} {elts : List Expr} {kk : Nat}
theorem gFix_en {l : List D} {s : S} {i : Nat} {m : M} (e : gFix (enL 0 l) s i = some (some m)) : ∃ d, l[i]? = some d ∧ m = .p (.tup [.int (i : Nat), d]) := by
  obtain ⟨d, e1, rfl⟩ := opt_map e
  rw [enL_get, Option.map_eq_some_iff] at e1
  obtain ⟨x, h1, rfl⟩ := e1
  exact ⟨x, h1, by rw [Nat.zero_add]⟩
theorem gFix_end {l : List D} {s : S} {i : Nat} (e : gFix (enL 0 l) s i = some none) : l.length ≤ i := by
  have := List.getElem?_eq_none_iff.mp (opt_none e)
  rw [enL_len] at this
  exact this
theorem Res.pair {K : PySem.W.Frag} {σ : L2.St} {F H : Hp} {s : S} {φ : SLg} {T : Addr} {i : Nat} {x : V} {d : D} (r : Res K F H σ s φ) (hT : H T = none) (hx : RD K F d x) :
    ∃ F', Same F F' ∧ Res K F' (upd H T (.tup [.int (i : Nat), x])) σ s (star (rv K σ (.p (.tup [.int (i : Nat), d])) (.ref T)) φ) := by
  obtain ⟨sm, r1⟩ := r.newF (o := .tup [.int (i : Nat), x]) hT
  exact ⟨_, sm, r1.pushP ⟨T, _, rfl, upd_same, _, _, rfl, rfl, x, [], rfl, hx.mono sm, rfl⟩⟩
theorem di_en (hg : Gl X "enumerate") (hm : X.mg "enumerate" = none) (ha : DE X cv E a wa) (hs : starEach [a] X.env = (false, eval a X.env) :: starEach [] X.env := by rfl) : DI X cv E ok (.Tuple elts kk tpos) (.Call (.Name "enumerate" p) [a] [] pos) (iEn wa) := by
  refine ⟨PI.imp (pi_enumA hg hm (pa_cons ha.pe pa_nil hs) (hs.trans rfl)) fun σ H R q => ?_, fun s Q Q' R R' hp hR q => ha.mono s _ _ _ _ (fun m s1 q1 => ?_) hR q⟩
  · obtain ⟨F, s, φ, r, q⟩ := q
    refine liE.mk ha.mono r q (fun m s1 q1 v F1 H1 sm1 r1 => ?_) fun _ _ z => z
    split at q1
    · rename_i l
      obtain ⟨b, xs, rfl, h1, h2⟩ := r1.getP
      refine ⟨b, xs, rfl, .inr ⟨SqT.of (r1.ff _ _ h1), q1 (IteT X.K b) F1 H1 φ sm1 (Weaker.refl φ) r1.dropL ⟨fun F2 H2 σ2 s2 i m ψ sm _ wk r2 e => ?_, fun F2 H2 σ2 s2 i sm _ r2 e => ?_⟩⟩⟩
      · obtain ⟨d, e1, rfl⟩ := gFix_en e
        obtain ⟨x, p1, p2⟩ := h2.get e1
        have hq := SqT.of (K := X.K) (r2.ff _ _ (sm _ _ h1))
        refine ⟨⟨xs, x, hq, p1⟩, fun v H' y => ?_⟩
        obtain ⟨T, x', rfl, hT, rfl, hy⟩ := y
        have := hy xs hq
        rw [p1] at this
        cases this
        exact r2.pair hT (p2.mono sm)
      · exact ⟨xs, SqT.of (r2.ff _ _ (sm _ _ h1)), by rw [h2.length]; exact gFix_end e⟩
    · rename_i l
      obtain ⟨b, xs, rfl, h1, h2⟩ := r1.getP
      refine ⟨b, xs, rfl, .inl ⟨r1.ff.seq h1, q1 (Ite X.K b) F1 H1 φ sm1 (Weaker.refl φ) r1.dropL ⟨fun F2 H2 σ2 s2 i m ψ sm _ wk r2 e => ?_, fun F2 H2 σ2 s2 i sm _ r2 e => ?_⟩⟩⟩
      · obtain ⟨d, e1, rfl⟩ := gFix_en e
        obtain ⟨x, p1, p2⟩ := h2.get e1
        have hq := r2.ff.seq (sm.seq h1)
        refine ⟨⟨xs, x, hq, p1⟩, fun v H' y => ?_⟩
        obtain ⟨T, x', rfl, hT, rfl, hy⟩ := y
        have := hy xs hq
        rw [p1] at this
        cases this
        exact r2.pair hT (p2.mono sm)
      · exact ⟨xs, r2.ff.seq (sm.seq h1), by rw [h2.length]; exact gFix_end e⟩
    · exact q1.elim
  · split at q1
    · exact hp _ _ q1
    · exact hp _ _ q1
    · exact q1
end
end Sd
set_option maxHeartbeats 1000000
/-! SdO: a list several times; dict comprehensions over two names. -/
namespace Sd
open PySem PySem.Spec PyProof.Rows L2
variable [Tb]
def oRep : WO := fun _ x y P => match x, y with
  | .ml l, .p (.int k) => -(2 ^ 63) ≤ k ∧ k < 2 ^ 63 ∧ l.length * k.toNat ≤ sizeLine ∧ P (.ml (List.replicate k.toNat l).flatten)
  | _, _ => False
theorem RDs.rep {K : PySem.W.Frag} {F : Hp} {l : List D} {xs : List V} (h : RDs K F l xs) : ∀ n, RDs K F (List.replicate n l).flatten (List.replicate n xs).flatten
  | 0 => rfl
  | n + 1 => by
    rw [List.replicate_succ, List.replicate_succ, List.flatten_cons, List.flatten_cons]
    exact h.append (RDs.rep h n)
theorem od_rep {X : Cx} : OpD X rRep oRep := by
  refine ⟨fun s x y P P' h q => ?_, fun F H σ s φ x y vx vy P Q r q k => ?_⟩
  · unfold oRep at q ⊢
    split at q
    · exact ⟨q.1, q.2.1, q.2.2.1, h _ q.2.2.2⟩
    · exact q
  · unfold oRep at q
    split at q
    · rename_i l n
      obtain ⟨h1, h2, h3, q⟩ := q
      have ey : vy = .int n := r.getP
      obtain ⟨f, hf⟩ := r.dropL.get
      rcases hf with ⟨_, e, _⟩ | ⟨a, xs, rfl, e1, e2, e3, e4⟩
      · cases e
      · refine ⟨a, n, xs, rfl, ey, e1, h1, h2, by rw [e3.length]; exact h3, fun p hp => ?_⟩
        exact k _ q _ F _ (Same.refl F) (r.dropL.dropL.newO hp fun hF => ⟨one p, .inr ⟨p, _, rfl, upd_same, hF, e3.rep _, fun _ => rfl⟩, fun _ => Nat.le_refl _⟩)
    · exact q.elim
/-- {fk x: fv x for a, b in l if c x}: two names -/
theorem dc_2 {α : Type} {j k : Nat} {xs : List α} {en1 en2 fk fv : α → D} {l : List D} {wt : WT} {wk wv : WE} {s1 : S} {P : M → S → Prop} (c : α → Bool) (el : l = xs.map fun x => D.tup [en1 x, en2 x]) (hl : xs.length ≤ sizeLine) (op : ownP s1 [j, k]) (hj : j < s1.length) (hk : k < s1.length) (ne : j ≠ k)
    (ht : ∀ x ∈ xs, ∀ Q : Bool → S → Prop, Q (c x) ((s1.set j (some (.p (en1 x)))).set k (some (.p (en2 x)))) → wt ((s1.set j (some (.p (en1 x)))).set k (some (.p (en2 x)))) Q noR)
    (hk1 : ∀ x ∈ xs, c x = true → ∀ Q : M → S → Prop, Q (.p (fk x)) ((s1.set j (some (.p (en1 x)))).set k (some (.p (en2 x)))) → wk ((s1.set j (some (.p (en1 x)))).set k (some (.p (en2 x)))) Q noR)
    (hv : ∀ x ∈ xs, c x = true → ∀ Q : M → S → Prop, Q (.p (fv x)) ((s1.set j (some (.p (en1 x)))).set k (some (.p (en2 x)))) → wv ((s1.set j (some (.p (en1 x)))).set k (some (.p (en2 x)))) Q noR)
    (fit : ∀ (i : Nat) (x : α), xs[i]? = some x → c x = true → fitK (mkD fk fv ((xs.take i).filter c)) (fk x) = true) (hP : P (.md (mkD fk fv (xs.filter c))) s1) :
    ownP s1 [j, k] ∧ ∃ W : Nat → Nat → List (D × D) → S → Prop, (∃ m, W 0 m [] (wipeD s1 [j, k])) ∧ ∀ i m acc s, W i m acc s → (∀ v ∈ [j, k], v < s1.length → s[v]? = some none) ∧ dcTurn [j, k] (gTup 2 (gCons (gN j) (gCons (gN k) gNil))) wt wk wv s1 P W i m acc s (gFix l s i) := by
  have cm : ∀ (s : S) (a b : Option M), (s.set j a).set k b = (s.set k b).set j a := fun s a b => List.set_comm _ _ ne
  refine dc_g (fun x => (s1.set j (some (.p (en1 x)))).set k (some (.p (en2 x)))) el hl (by simp [ne]) op (fun v hv => ?_) (fun x _ Q q => ⟨rfl, ?_, ?_, ?_⟩) (fun x _ => ?_) ht hk1 hv fit hP
  · rcases List.mem_cons.mp hv with rfl | hv
    · exact hj
    · rw [List.mem_singleton.mp hv]; exact hk
  · show j < ((s1.set k none).set j none).length
    simp [hj]
  · show k < (((s1.set k none).set j none).set j _).length
    simp [hk]
  · show Q ((((s1.set k none).set j none).set j (some (.p (en1 x)))).set k (some (.p (en2 x))))
    rw [set_set, cm, set_set, ← cm]
    exact q
  · show ((((s1.set j (some (.p (en1 x)))).set k (some (.p (en2 x)))).set k none).set j none) = (s1.set k none).set j none
    rw [set_set, cm, set_set]
end Sd
set_option maxHeartbeats 1000000
/-! T1: terms. -/
namespace Sd
open PySem PySem.Spec PyProof.Rows L2
variable [Tb]
inductive Tr where
  | v (x : Str) | f (s : Str) (as : List Tr)
mutual
def Tr.d : Tr → D
  | .v x => .str x
  | .f s as => .tup [.str s, .tup (dL as)]
def dL : List Tr → List D
  | [] => []
  | t :: l => t.d :: dL l
end
theorem dL_map : ∀ l : List Tr, dL l = l.map Tr.d
  | [] => rfl
  | t :: l => by rw [dL, dL_map l]; rfl
theorem d_v (x : Str) : (Tr.v x).d = .str x := rfl
theorem d_f (s : Str) (as : List Tr) : (Tr.f s as).d = .tup [.str s, .tup (as.map Tr.d)] := by rw [← dL_map]; rfl
mutual
theorem Tr.d_inj : ∀ {a b : Tr}, a.d = b.d → a = b
  | .v x, .v y, h => by cases h; rfl
  | .v x, .f s as, h => by cases h
  | .f s as, .v y, h => by cases h
  | .f s as, .f s' as', h => by
    simp only [Tr.d, D.tup.injEq, List.cons.injEq, D.str.injEq, and_true] at h
    rw [h.1, dL_inj h.2]
theorem dL_inj : ∀ {a b : List Tr}, dL a = dL b → a = b
  | [], [], _ => rfl
  | [], _ :: _, h => by cases h
  | _ :: _, [], h => by cases h
  | a :: l, b :: m, h => by
    simp only [dL, List.cons.injEq] at h
    rw [Tr.d_inj h.1, dL_inj h.2]
end
instance : DecidableEq Tr := fun a b => decidable_of_iff (a.d = b.d) ⟨Tr.d_inj, fun h => by rw [h]⟩
/-! ### equality of data without True, False, floats -/
mutual
def pl : D → Bool
  | .non => true
  | .int _ => true
  | .str _ => true
  | .tup l => pls l
  | .lst l => pls l
  | _ => false
def pls : List D → Bool
  | [] => true
  | d :: l => pl d && pls l
end
mutual
theorem eqv_pl : ∀ {a b : D}, pl a = true → pl b = true → (PyData.eqv (toPy a) (toPy b) = true ↔ a = b)
  | .non, b, _, hb => by cases b <;> simp_all [toPy, PyData.eqv, pl]
  | .int i, b, _, hb => by cases b <;> simp_all [toPy, PyData.eqv, pl]
  | .str i, b, _, hb => by cases b <;> simp_all [toPy, PyData.eqv, pl]
  | .tup l, b, ha, hb => by
    cases b with
    | tup m => simpa [toPy, PyData.eqv] using eqvs_pl (a := l) (b := m) ha hb
    | _ => simp_all [toPy, PyData.eqv, pl]
  | .lst l, b, ha, hb => by
    cases b with
    | lst m => simpa [toPy, PyData.eqv] using eqvs_pl (a := l) (b := m) ha hb
    | _ => simp_all [toPy, PyData.eqv, pl]
  | .bl _, _, ha, _ => by cases ha
  | .dic _, _, ha, _ => by cases ha
theorem eqvs_pl : ∀ {a b : List D}, pls a = true → pls b = true → (PyData.eqvAll (toPys a) (toPys b) = true ↔ a = b)
  | [], [], _, _ => by simp [toPys, PyData.eqvAll]
  | [], _ :: _, _, _ => by simp [toPys, PyData.eqvAll]
  | _ :: _, [], _, _ => by simp [toPys, PyData.eqvAll]
  | d :: l, e :: m, ha, hb => by
    simp only [pls, Bool.and_eq_true] at ha hb
    simp only [toPys, PyData.eqvAll, Bool.and_eq_true, List.cons.injEq]
    rw [eqv_pl ha.1 hb.1, eqvs_pl ha.2 hb.2]
end
theorem eqD_pl {a b : D} (ha : pl a = true) (hb : pl b = true) : eqD a b = decide (a = b) := by
  have h := eqv_pl ha hb
  unfold eqD
  by_cases z : a = b
  · rw [decide_eq_true z, h.mpr z]
  · rw [decide_eq_false z]
    exact Bool.eq_false_iff.mpr fun w => z (h.mp w)
mutual
theorem pl_tm : ∀ t : Tr, pl t.d = true
  | .v x => rfl
  | .f s as => by
    show (true && ((pls (dL as)) && true)) = true
    rw [pl_tms as]
    rfl
theorem pl_tms : ∀ l : List Tr, pls (dL l) = true
  | [] => rfl
  | t :: l => by
    show (pl t.d && pls (dL l)) = true
    rw [pl_tm t, pl_tms l]
    rfl
end
theorem eqD_tm (a b : Tr) : eqD a.d b.d = decide (a = b) := by
  rw [eqD_pl (pl_tm a) (pl_tm b)]
  by_cases h : a = b
  · rw [decide_eq_true h, decide_eq_true (by rw [h])]
  · rw [decide_eq_false h, decide_eq_false fun z => h (Tr.d_inj z)]
theorem pls_all : ∀ {l : List D}, (∀ d ∈ l, pl d = true) → pls l = true
  | [], _ => rfl
  | d :: l, h => by
    show (pl d && pls l) = true
    rw [h d List.mem_cons_self, pls_all fun e he => h e (List.mem_cons_of_mem _ he)]
    rfl
theorem eqD_comm_pl {a b : D} (ha : pl a = true) (hb : pl b = true) : eqD a b = eqD b a := by
  rw [eqD_pl ha hb, eqD_pl hb ha]
  by_cases h : a = b
  · rw [h]
  · rw [decide_eq_false h, decide_eq_false fun z => h z.symm]
/-- a look for d among plain data -/
theorem any_pl {l : List D} {d : D} (hl : ∀ e ∈ l, pl e = true) (hd : pl d = true) : (l.any fun z => eqD z d) = decide (d ∈ l) := by
  by_cases h : d ∈ l
  · rw [decide_eq_true h, List.any_eq_true]
    exact ⟨d, h, by rw [eqD_pl hd hd]; simp⟩
  · rw [decide_eq_false h, List.any_eq_false]
    intro e he z
    rw [eqD_pl (hl e he) hd, decide_eq_true_eq] at z
    exact h (z ▸ he)
/-! ### fit for ==, by depth -/
/-- a text's signs are signs -/
def sgn (x : Str) : Prop := (PyData.str x).canLay0 = true
def sp (n : Nat) (d : D) : Prop := noDic d = true ∧ (toPy d).canLay0 = true ∧ (toPy d).depth ≤ n
theorem sp.shp {n : Nat} {d : D} (h : sp n d) (hn : n ≤ 180) : shp d = true := by
  unfold Sd.shp shpd
  rw [h.1, h.2.1, decide_eq_true (Nat.le_trans h.2.2 hn)]
  rfl
theorem sp.le {n m : Nat} {d : D} (h : sp n d) (hn : n ≤ m) : sp m d := ⟨h.1, h.2.1, Nat.le_trans h.2.2 hn⟩
theorem sp_str {n : Nat} {x : Str} (h : sgn x) : sp n (.str x) := ⟨rfl, h, Nat.zero_le _⟩
theorem sp_int {n : Nat} {i : Int} : sp n (.int i) := ⟨rfl, rfl, Nat.zero_le _⟩
theorem sp_bl {n : Nat} {i : Bool} : sp n (.bl i) := ⟨rfl, rfl, Nat.zero_le _⟩
theorem sp_non {n : Nat} : sp n .non := ⟨rfl, rfl, Nat.zero_le _⟩
theorem sp_all : ∀ {n : Nat} {l : List D}, (∀ d ∈ l, sp n d) → noDics l = true ∧ PyData.canLayAll0 (toPys l) = true ∧ PyData.depthAll (toPys l) ≤ n
  | n, [], _ => ⟨rfl, rfl, Nat.zero_le _⟩
  | n, d :: l, h => by
    obtain ⟨a1, a2, a3⟩ := h d List.mem_cons_self
    obtain ⟨b1, b2, b3⟩ := sp_all (l := l) fun e he => h e (List.mem_cons_of_mem _ he)
    refine ⟨?_, ?_, ?_⟩
    · show (noDic d && noDics l) = true
      rw [a1, b1]; rfl
    · show ((toPy d).canLay0 && PyData.canLayAll0 (toPys l)) = true
      rw [a2, b2]; rfl
    · show max (toPy d).depth (PyData.depthAll (toPys l)) ≤ n
      exact Nat.max_le.mpr ⟨a3, b3⟩
theorem sp_tup {n : Nat} {l : List D} (h : ∀ d ∈ l, sp n d) : sp (n + 1) (.tup l) := by
  obtain ⟨a, b, c⟩ := sp_all h
  exact ⟨a, b, Nat.succ_le_succ c⟩
theorem sp_lst {n : Nat} {l : List D} (h : ∀ d ∈ l, sp n d) : sp (n + 1) (.lst l) := by
  obtain ⟨a, b, c⟩ := sp_all h
  exact ⟨a, b, Nat.succ_le_succ c⟩
/-! ### measures -/
mutual
def Tr.n : Tr → Nat
  | .v _ => 1
  | .f _ as => 1 + nL as
def nL : List Tr → Nat
  | [] => 0
  | t :: l => t.n + nL l
end
mutual
def Tr.h : Tr → Nat
  | .v _ => 1
  | .f _ as => 1 + hL as
def hL : List Tr → Nat
  | [] => 0
  | t :: l => max t.h (hL l)
end
mutual
/-- all texts in a term are of signs -/
def Tr.ok : Tr → Prop
  | .v x => sgn x
  | .f s as => sgn s ∧ okL as
def okL : List Tr → Prop
  | [] => True
  | t :: l => t.ok ∧ okL l
end
theorem okL_iff : ∀ {l : List Tr}, okL l ↔ ∀ t ∈ l, t.ok
  | [] => by simp [okL]
  | t :: l => by simp [okL, okL_iff (l := l)]
theorem nL_app : ∀ (a b : List Tr), nL (a ++ b) = nL a + nL b
  | [], b => by simp [nL]
  | d :: a, b => by simp [nL, nL_app a b]; omega
theorem hL_app : ∀ (a b : List Tr), hL (a ++ b) = max (hL a) (hL b)
  | [], b => by simp [hL]
  | d :: a, b => by simp [hL, hL_app a b, Nat.max_assoc]
theorem n_pos (t : Tr) : 1 ≤ t.n := by cases t <;> simp [Tr.n]
theorem h_pos (t : Tr) : 1 ≤ t.h := by cases t <;> simp [Tr.h]
theorem nL_len : ∀ l : List Tr, l.length ≤ nL l
  | [] => Nat.le_refl _
  | t :: l => by
    have := nL_len l
    have := n_pos t
    simp [nL]
    omega
theorem nL_mem : ∀ {l : List Tr} {t : Tr}, t ∈ l → t.n ≤ nL l
  | u :: l, t, h => by
    simp only [nL]
    rcases List.mem_cons.mp h with rfl | h
    · omega
    · have := nL_mem h
      omega
theorem hL_mem : ∀ {l : List Tr} {t : Tr}, t ∈ l → t.h ≤ hL l
  | u :: l, t, h => by
    simp only [hL]
    rcases List.mem_cons.mp h with rfl | h
    · omega
    · have := hL_mem h
      omega
theorem hL_le : ∀ {l : List Tr} {m : Nat}, (∀ t ∈ l, t.h ≤ m) → hL l ≤ m
  | [], m, _ => Nat.zero_le _
  | u :: l, m, h => by
    have h1 := h u List.mem_cons_self
    have h2 := hL_le (l := l) fun t ht => h t (List.mem_cons_of_mem _ ht)
    simp only [hL]
    omega
mutual
theorem sp_tm : ∀ {t : Tr}, t.ok → sp (2 * t.h) t.d
  | .v x, h => sp_str h
  | .f s as, h => by
    have h2 := sp_tms (l := as) h.2
    have h3 : sp (2 * hL as + 2) (Tr.f s as).d := sp_tup (n := 2 * hL as + 1) fun d hd => by
      rcases List.mem_cons.mp hd with rfl | hd
      · exact sp_str h.1
      · rw [List.mem_singleton.mp hd]
        exact sp_tup h2
    have : 2 * hL as + 2 = 2 * (Tr.f s as).h := by simp only [Tr.h]; omega
    rw [← this]
    exact h3
theorem sp_tms : ∀ {l : List Tr}, okL l → ∀ d ∈ dL l, sp (2 * hL l) d
  | [], _, d, hd => nomatch hd
  | t :: l, h, d, hd => by
    simp only [dL] at hd
    rcases List.mem_cons.mp hd with rfl | hd
    · exact (sp_tm h.1).le (by simp only [hL]; omega)
    · exact (sp_tms h.2 d hd).le (by simp only [hL]; omega)
end
theorem shp_tm {t : Tr} (h : t.ok) (hh : t.h ≤ 80) : shp t.d = true := (sp_tm h).shp (by omega)
/-! ### parts -/
def Tr.as : Tr → List Tr
  | .v _ => []
  | .f _ as => as
theorem nL_as (t : Tr) : nL t.as + 1 = t.n := by cases t <;> simp [Tr.as, Tr.n, nL]; omega
theorem hL_as (t : Tr) : hL t.as + 1 = t.h := by cases t <;> simp [Tr.as, Tr.h, hL]; omega
def Tr.isV : Tr → Bool
  | .v _ => true
  | .f _ _ => false
theorem isD_str (t : Tr) : isD .str t.d = t.isV := by cases t <;> rfl
theorem isD_tup (t : Tr) : isD .tup t.d = !t.isV := by cases t <;> rfl
mutual
def Tr.parts : Tr → List Tr
  | .v x => [.v x]
  | .f s as => .f s as :: psL as
def psL : List Tr → List Tr
  | [] => []
  | t :: l => t.parts ++ psL l
end
theorem parts_eq (t : Tr) : t.parts = t :: psL t.as := by cases t <;> rfl
theorem psL_app : ∀ (a b : List Tr), psL (a ++ b) = psL a ++ psL b
  | [], b => by simp [psL]
  | d :: a, b => by simp [psL, psL_app a b]
mutual
theorem parts_len' : ∀ t : Tr, t.parts.length = t.n
  | .v _ => rfl
  | .f s as => by
    simp only [Tr.parts, Tr.n, List.length_cons, psL_len as]
    omega
theorem psL_len : ∀ l : List Tr, (psL l).length = nL l
  | [] => rfl
  | t :: l => by
    simp only [psL, nL, List.length_append, parts_len' t, psL_len l]
end
mutual
theorem part_ok : ∀ {t : Tr}, t.ok → ∀ u ∈ t.parts, u.ok
  | .v x, h, u, hu => by rw [List.mem_singleton.mp hu]; exact h
  | .f s as, h, u, hu => by
    rcases List.mem_cons.mp hu with rfl | hu
    · exact h
    · exact psL_ok h.2 u hu
theorem psL_ok : ∀ {l : List Tr}, okL l → ∀ u ∈ psL l, u.ok
  | [], _, u, hu => nomatch hu
  | t :: l, h, u, hu => by
    rcases List.mem_append.mp hu with hu | hu
    · exact part_ok h.1 u hu
    · exact psL_ok h.2 u hu
end
mutual
theorem part_h : ∀ {t u : Tr}, u ∈ t.parts → u.h ≤ t.h ∧ u.n ≤ t.n
  | .v x, u, hu => by rw [List.mem_singleton.mp hu]; exact ⟨Nat.le_refl _, Nat.le_refl _⟩
  | .f s as, u, hu => by
    rcases List.mem_cons.mp hu with rfl | hu
    · exact ⟨Nat.le_refl _, Nat.le_refl _⟩
    · have := psL_h hu
      simp only [Tr.h, Tr.n]
      omega
theorem psL_h : ∀ {l : List Tr} {u : Tr}, u ∈ psL l → u.h ≤ hL l ∧ u.n ≤ nL l
  | t :: l, u, hu => by
    simp only [hL, nL]
    rcases List.mem_append.mp hu with hu | hu
    · have := part_h hu
      omega
    · have := psL_h hu
      omega
end
/-! ### positions -/
mutual
def Tr.poss : Tr → List (List Nat)
  | .v _ => [[]]
  | .f _ as => [] :: poL 0 as
def poL : Nat → List Tr → List (List Nat)
  | _, [] => []
  | k, t :: l => t.poss.map (k :: ·) ++ poL (k + 1) l
end
def arg (t : Tr) (k : Int) : Option Tr := if 0 ≤ k then t.as[k.toNat]? else none
def atT (t : Tr) : List Int → Option Tr
  | [] => some t
  | k :: p => (arg t k).bind fun a => atT a p
def setA (t : Tr) (k : Int) (a : Tr) : Tr := match t with
  | .v x => .v x
  | .f g as => .f g (as.set k.toNat a)
def putT (t : Tr) : List Int → Tr → Option Tr
  | [], s => some s
  | k :: p, s => (arg t k).bind fun a => (putT a p s).map fun a' => setA t k a'
theorem atT_app : ∀ (p q : List Int) (t : Tr), atT t (p ++ q) = (atT t p).bind fun u => atT u q
  | [], q, t => rfl
  | k :: p, q, t => by
    show (arg t k).bind (fun a => atT a (p ++ q)) = ((arg t k).bind fun a => atT a p).bind _
    cases arg t k with
    | none => rfl
    | some a => exact atT_app p q a
theorem arg_lt {t a : Tr} {k : Int} (h : arg t k = some a) : 0 ≤ k ∧ k < t.as.length ∧ t.as[k.toNat]? = some a := by
  unfold arg at h
  split at h
  · rename_i h0
    have := (List.getElem?_eq_some_iff.mp h).1
    exact ⟨h0, by omega, h⟩
  · cases h
theorem arg_none {t : Tr} {k : Int} (h : arg t k = none) : ¬ (0 ≤ k ∧ k < t.as.length) := by
  unfold arg at h
  split at h
  · rename_i h0
    have := List.getElem?_eq_none_iff.mp h
    omega
  · rename_i h0
    omega
theorem arg_mem {t a : Tr} {k : Int} (h : arg t k = some a) : a ∈ t.as := List.mem_of_getElem? (arg_lt h).2.2
theorem arg_h {t a : Tr} {k : Int} (h : arg t k = some a) : a.h < t.h ∧ a.n < t.n := by
  have h1 := hL_mem (arg_mem h)
  have h2 := nL_mem (arg_mem h)
  have h3 := nL_as t
  have h4 := hL_as t
  omega
theorem ok_as {t : Tr} (h : t.ok) : ∀ a ∈ t.as, a.ok := by
  cases t with
  | v x => exact fun _ z => nomatch z
  | f s as => exact okL_iff.mp h.2
theorem atT_ok : ∀ {p : List Int} {t u : Tr}, t.ok → atT t p = some u → u.ok ∧ u.h + p.length ≤ t.h ∧ u.n ≤ t.n
  | [], t, u, h, e => by cases e; exact ⟨h, Nat.le_refl _, Nat.le_refl _⟩
  | k :: p, t, u, h, e => by
    simp only [atT, Option.bind_eq_some_iff] at e
    obtain ⟨a, e1, e2⟩ := e
    obtain ⟨q1, q2, q3⟩ := atT_ok (ok_as h a (arg_mem e1)) e2
    have := arg_h e1
    simp only [List.length_cons]
    exact ⟨q1, by omega, by omega⟩
theorem atT_mem : ∀ {p : List Int} {t u : Tr}, atT t p = some u → u ∈ t.parts
  | [], t, u, e => by cases e; rw [parts_eq]; exact List.mem_cons_self
  | k :: p, t, u, e => by
    simp only [atT, Option.bind_eq_some_iff] at e
    obtain ⟨a, e1, e2⟩ := e
    have h1 := atT_mem e2
    rw [parts_eq]
    refine List.mem_cons_of_mem _ ?_
    have h2 := arg_mem e1
    generalize t.as = l at h2
    induction l with
    | nil => cases h2
    | cons b l ih =>
      rcases List.mem_cons.mp h2 with rfl | h2
      · exact List.mem_append_left _ h1
      · exact List.mem_append_right _ (ih h2)
theorem nL_set : ∀ {l : List Tr} {k : Nat} {a : Tr} (b : Tr), l[k]? = some a → nL (l.set k b) + a.n = nL l + b.n
  | [], _, _, _, h => by simp at h
  | t :: l, 0, a, b, h => by
    simp at h
    subst h
    simp [nL]
    omega
  | t :: l, k + 1, a, b, h => by
    have := nL_set (l := l) (k := k) b (by simpa using h)
    simp [nL]
    omega
theorem hL_set : ∀ {l : List Tr} {k : Nat} {b : Tr}, hL (l.set k b) ≤ max (hL l) b.h
  | [], _, _ => by simp [hL]
  | t :: l, 0, b => by simp [hL]; omega
  | t :: l, k + 1, b => by
    have := hL_set (l := l) (k := k) (b := b)
    simp [hL]
    omega
theorem putT_some : ∀ {p : List Int} {t u : Tr} (s : Tr), atT t p = some u → ∃ r, putT t p s = some r ∧ r.n + u.n = t.n + s.n ∧ r.h ≤ max t.h (p.length + s.h) ∧ (t.ok → s.ok → r.ok)
  | [], t, u, s, e => by
    cases e
    exact ⟨s, rfl, by omega, by simp; omega, fun _ h => h⟩
  | k :: p, t, u, s, e => by
    simp only [atT, Option.bind_eq_some_iff] at e
    obtain ⟨a, e1, e2⟩ := e
    obtain ⟨r, h1, h2, h3, h4⟩ := putT_some s e2
    refine ⟨setA t k r, by simp [putT, e1, h1], ?_, ?_, fun ht hs => ?_⟩
    · cases t with
      | v x => simp [arg, Tr.as] at e1
      | f g as =>
        have := nL_set r (arg_lt e1).2.2
        simp only [setA, Tr.n]
        simp only [Tr.as] at this
        omega
    · cases t with
      | v x => simp [arg, Tr.as] at e1
      | f g as =>
        have q := hL_set (l := as) (k := k.toNat) (b := r)
        have q2 := hL_mem (arg_mem e1)
        simp only [Tr.as] at q2
        simp only [setA, Tr.h, List.length_cons]
        omega
    · cases t with
      | v x => simp [arg, Tr.as] at e1
      | f g as =>
        refine ⟨ht.1, okL_iff.mpr fun b hb => ?_⟩
        rcases List.mem_or_eq_of_mem_set hb with hb | rfl
        · exact okL_iff.mp ht.2 b hb
        · exact h4 (ok_as ht a (arg_mem e1)) hs
theorem putT_none : ∀ {p : List Int} {t : Tr} {s : Tr}, atT t p = none → putT t p s = none
  | k :: p, t, s, e => by
    unfold atT at e
    unfold putT
    cases e1 : arg t k with
    | none => rfl
    | some a =>
      rw [e1] at e
      rw [Option.bind_some, putT_none (p := p) (t := a) e]
      rfl
def iL (p : List Nat) : List Int := p.map fun k : Nat => (k : Int)
theorem arg_nat {t : Tr} {k : Nat} : arg t (k : Int) = t.as[k]? := by
  unfold arg
  rw [if_pos (Int.natCast_nonneg k)]
  rfl
mutual
theorem poss_at : ∀ t : Tr, (t.poss.map fun p => atT t (iL p)) = t.parts.map some
  | .v x => rfl
  | .f s as => by
    show (some _ :: (poL 0 as).map fun p => atT (.f s as) (iL p)) = some _ :: (psL as).map some
    have := poL_at s as as 0 (by simp)
    rw [this]
theorem poL_at : ∀ (s : Str) (all l : List Tr) (k : Nat), all.drop k = l → ((poL k l).map fun p => atT (.f s all) (iL p)) = (psL l).map some
  | s, all, [], k, _ => rfl
  | s, all, t :: l, k, h => by
    have hk : all[k]? = some t := by
      have := congrArg (·[0]?) h
      simpa using this
    have h2 : all.drop (k + 1) = l := by
      rw [← List.drop_drop, h]
      rfl
    show ((t.poss.map (k :: ·) ++ poL (k + 1) l).map fun p => atT (.f s all) (iL p)) = (t.parts ++ psL l).map some
    rw [List.map_append, List.map_append, poL_at s all l (k + 1) h2, List.map_map, ← poss_at t]
    congr 1
    refine List.map_congr_left fun p _ => ?_
    show (arg (.f s all) (k : Int)).bind (fun a => atT a (iL p)) = _
    rw [arg_nat]
    show (all[k]?).bind _ = _
    rw [hk]
    rfl
end
theorem poss_len (t : Tr) : t.poss.length = t.n := by
  have := congrArg List.length (poss_at t)
  simpa [parts_len'] using this
theorem poss_mem {t : Tr} {p : List Nat} (h : p ∈ t.poss) : ∃ u, atT t (iL p) = some u ∧ u ∈ t.parts := by
  have h1 : atT t (iL p) ∈ t.poss.map fun p => atT t (iL p) := List.mem_map.mpr ⟨p, h, rfl⟩
  rw [poss_at] at h1
  obtain ⟨u, h2, h3⟩ := List.mem_map.mp h1
  exact ⟨u, h3.symm, h2⟩
theorem poss_nil (t : Tr) : [] ∈ t.poss := by cases t <;> exact List.mem_cons_self
theorem poss_bound {t : Tr} {p : List Nat} (h : p ∈ t.poss) (ok : t.ok) : p.length < t.h := by
  obtain ⟨u, h1, _⟩ := poss_mem h
  obtain ⟨_, h2, _⟩ := atT_ok ok h1
  have := h_pos u
  simp only [iL, List.length_map] at h2
  omega
/-! ### names without doubles -/
def addN {α : Type} [DecidableEq α] (acc : List α) (x : α) : List α := if x ∈ acc then acc else acc ++ [x]
def ded {α : Type} [DecidableEq α] (l : List α) : List α := l.foldl addN []
theorem ded_app {α : Type} [DecidableEq α] (l : List α) (x : α) : ded (l ++ [x]) = addN (ded l) x := by
  unfold ded
  rw [List.foldl_append]
  rfl
theorem addN_mem {α : Type} [DecidableEq α] {acc : List α} {x y : α} : y ∈ addN acc x ↔ y ∈ acc ∨ y = x := by
  unfold addN
  split
  · rename_i h
    exact ⟨.inl, fun h2 => h2.elim id fun e => e ▸ h⟩
  · simp
theorem ded_mem {α : Type} [DecidableEq α] (l : List α) (y : α) : y ∈ ded l ↔ y ∈ l := by
  have : ∀ (l acc : List α), y ∈ l.foldl addN acc ↔ y ∈ acc ∨ y ∈ l := fun l => by
    induction l with
    | nil => intro acc; simp
    | cons x l ih =>
      intro acc
      rw [List.foldl_cons, ih, addN_mem, List.mem_cons]
      exact ⟨fun h => by rcases h with (h | h) | h <;> simp [h], fun h => by rcases h with h | h | h <;> simp [h]⟩
  simpa [ded] using this l []
theorem addN_nodup {α : Type} [DecidableEq α] {acc : List α} {x : α} (h : acc.Nodup) : (addN acc x).Nodup := by
  unfold addN
  split
  · exact h
  · rename_i n
    rw [List.nodup_append]
    refine ⟨h, by simp, fun a ha b hb => ?_⟩
    rw [List.mem_singleton.mp hb]
    exact fun e => n (e ▸ ha)
theorem ded_nodup {α : Type} [DecidableEq α] (l : List α) : (ded l).Nodup := by
  have : ∀ (l acc : List α), acc.Nodup → (l.foldl addN acc).Nodup := fun l => by
    induction l with
    | nil => intro acc h; exact h
    | cons x l ih => intro acc h; exact ih _ (addN_nodup h)
  exact this l [] List.nodup_nil
theorem addN_len {α : Type} [DecidableEq α] (acc : List α) (x : α) : (addN acc x).length ≤ acc.length + 1 := by
  unfold addN
  split
  · omega
  · simp
theorem ded_len {α : Type} [DecidableEq α] (l : List α) : (ded l).length ≤ l.length := by
  have : ∀ (l acc : List α), (l.foldl addN acc).length ≤ acc.length + l.length := fun l => by
    induction l with
    | nil => intro acc; exact Nat.le_refl _
    | cons x l ih =>
      intro acc
      have h1 := ih (addN acc x)
      have h2 := addN_len acc x
      rw [List.foldl_cons, List.length_cons]
      omega
  simpa [ded] using this l []
def nameV : Tr → Option Str
  | .v x => some x
  | .f _ _ => none
def headF : Tr → Option (Str × Nat)
  | .v _ => none
  | .f s as => some (s, as.length)
def Tr.vars (t : Tr) : List Str := ded (t.parts.filterMap nameV)
def Tr.syms (t : Tr) : List (Str × Nat) := ded (t.parts.filterMap headF)
theorem vars_le (t : Tr) : t.vars.length ≤ t.n := by
  have h1 := ded_len (t.parts.filterMap nameV)
  have h2 := List.length_filterMap_le nameV t.parts
  rw [parts_len'] at h2
  exact Nat.le_trans h1 h2
theorem syms_le (t : Tr) : t.syms.length ≤ t.n := by
  have h1 := ded_len (t.parts.filterMap headF)
  have h2 := List.length_filterMap_le headF t.parts
  rw [parts_len'] at h2
  exact Nat.le_trans h1 h2
theorem vars_mem {t : Tr} {x : Str} : x ∈ t.vars ↔ Tr.v x ∈ t.parts := by
  unfold Tr.vars
  rw [ded_mem, List.mem_filterMap]
  constructor
  · rintro ⟨u, h1, h2⟩
    cases u with
    | v y => cases h2; exact h1
    | f s as => cases h2
  · exact fun h => ⟨_, h, rfl⟩
theorem vars_ok {t : Tr} (h : t.ok) {x : Str} (hx : x ∈ t.vars) : sgn x := part_ok h _ (vars_mem.mp hx)
def prT (p : Str × Nat) : D := .tup [.str p.1, .int p.2]
theorem prT_inj {p q : Str × Nat} (e : prT p = prT q) : p = q := by
  unfold prT at e
  simp only [D.tup.injEq, List.cons.injEq, D.str.injEq, D.int.injEq, and_true] at e
  exact Prod.ext e.1 (by omega)
/-- the keys of a dict made of a list -/
theorem mkD_keys {α β : Type} [DecidableEq β] {en : β → D} (hi : ∀ a b, en a = en b → a = b) {fv : α → D} {g : α → β} (l : List α) : (mkD (fun x => en (g x)) fv l).map (·.1) = (ded (l.map g)).map en := by
  have key : ∀ (acc : List (D × D)) (bs : List β) (x : α), acc.map (·.1) = bs.map en → (dput acc (en (g x)) (fv x)).map (·.1) = (addN bs (g x)).map en := fun acc bs x h => by
    have hm : (acc.any fun p => decide (p.1 = en (g x))) = decide (g x ∈ bs) := by
      by_cases hx : g x ∈ bs
      · rw [decide_eq_true hx, List.any_eq_true]
        have : en (g x) ∈ acc.map (·.1) := by rw [h]; exact List.mem_map.mpr ⟨_, hx, rfl⟩
        obtain ⟨p, h1, h2⟩ := List.mem_map.mp this
        exact ⟨p, h1, decide_eq_true h2⟩
      · rw [decide_eq_false hx, List.any_eq_false]
        intro p hp z
        have : p.1 ∈ bs.map en := by rw [← h]; exact List.mem_map.mpr ⟨p, hp, rfl⟩
        obtain ⟨b, h1, h2⟩ := List.mem_map.mp this
        rw [decide_eq_true_eq] at z
        exact hx (hi _ _ (h2.trans z) ▸ h1)
    unfold dput addN
    rw [hm]
    by_cases hx : g x ∈ bs
    · rw [if_pos (decide_eq_true hx), if_pos hx, List.map_map, ← h]
      refine List.map_congr_left fun p _ => ?_
      show (if p.1 = en (g x) then (p.1, fv x) else p).1 = p.1
      split <;> rfl
    · rw [if_neg (by simp [hx]), if_neg hx, List.map_append, List.map_append, h]
      rfl
  have : ∀ (l : List α) (acc : List (D × D)) (bs : List β), acc.map (·.1) = bs.map en → (l.foldl (fun a x => dput a (en (g x)) (fv x)) acc).map (·.1) = ((l.map g).foldl addN bs).map en := fun l => by
    induction l with
    | nil => intro acc bs h; exact h
    | cons x l ih => intro acc bs h; exact ih _ _ (key acc bs x h)
  exact this l [] [] rfl
end Sd
set_option maxHeartbeats 1000000
/-! T2: lists of terms as data; loops; promises. -/
namespace Sd
open PySem PySem.Spec PyProof.Rows L2
variable [Tb]
theorem dL_app (a b : List Tr) : dL (a ++ b) = dL a ++ dL b := by rw [dL_map, dL_map, dL_map, List.map_append]
theorem dL_snoc (a : List Tr) (t : Tr) : dL (a ++ [t]) = dL a ++ [t.d] := dL_app a [t]
theorem dL_rev (a : List Tr) : dL a.reverse = (dL a).reverse := by rw [dL_map, dL_map, List.map_reverse]
theorem dL_len (a : List Tr) : (dL a).length = a.length := by rw [dL_map, List.length_map]
theorem dL_get (a : List Tr) (i : Nat) : (dL a)[i]? = (a[i]?).map Tr.d := by rw [dL_map, List.getElem?_map]
theorem dL_take (a : List Tr) (i : Nat) : dL (a.take i) = (dL a).take i := by rw [dL_map, dL_map, List.map_take]
theorem dL_drop (a : List Tr) (i : Nat) : dL (a.drop i) = (dL a).drop i := by rw [dL_map, dL_map, List.map_drop]
theorem dL_set (a : List Tr) (i : Nat) (t : Tr) : dL (a.set i t) = (dL a).set i t.d := by rw [dL_map, dL_map, List.map_set]
theorem at_dL {a : List Tr} {t : Tr} {k : Int} (h0 : 0 ≤ k) (h : a[k.toNat]? = some t) : atI (dL a) k = some t.d := by
  have := atI_nat (xs := dL a) (j := k.toNat) (v := t.d) (by rw [dL_get, h]; rfl)
  rw [Int.toNat_of_nonneg h0] at this
  exact this
theorem last_app {α : Type} (l : List α) (d : α) : (l ++ [d]).getLast? = some d := by simp
theorem dropLast_app {α : Type} (l : List α) (d : α) : (l ++ [d]).dropLast = l := by simp
theorem take_snoc {α : Type} {l : List α} {i : Nat} {d : α} (e : l[i]? = some d) : l.take (i + 1) = l.take i ++ [d] := by
  rw [List.take_add_one, e]
  rfl
theorem cut_to {α : Type} (l : List α) (k : Nat) (h : k ≤ l.length) : cutD l none (some (k : Int)) = l.take k := by
  unfold cutD
  rw [HT.sIx_nat, HT.sIx_none, Nat.min_eq_left h]
  simp
theorem cut_from {α : Type} (l : List α) (k : Nat) (h : k ≤ l.length) : cutD l (some (k : Int)) none = l.drop k := by
  unfold cutD
  rw [HT.sIx_nat, HT.sIx_none, Nat.min_eq_left h]
  rw [List.take_of_length_le]
  rw [List.length_drop]
  omega
theorem cut_len' {α : Type} (l : List α) (lo hi : Option Int) : (cutD l lo hi).length ≤ l.length := by
  unfold cutD
  rw [List.length_take, List.length_drop]
  omega
theorem cut_map' {α β : Type} (f : α → β) (l : List α) (lo hi : Option Int) : cutD (l.map f) lo hi = (cutD l lo hi).map f := by
  unfold cutD
  rw [List.length_map, List.map_take, List.map_drop]
theorem set_cut {α : Type} {l : List α} {k : Nat} {a b : α} (h : l[k]? = some b) : l.take k ++ [a] ++ l.drop (k + 1) = l.set k a := by
  have hk := (List.getElem?_eq_some_iff.mp h).1
  rw [List.set_eq_take_append_cons_drop, if_pos hk]
  simp
/-- a loop over the list in slot j, which stays -/
theorem for_slot {α : Type} {j : Nat} {xs : List α} {en : α → D} {wg : WG} {w : WS} {N : WN} {s1 : S} (I : Nat → S → Prop) (hj : ∀ i s, I i s → s[j]? = some (some (.ml (xs.map en)))) (h0 : I 0 s1)
    (step : ∀ (i : Nat) (x : α) (s : S), xs[i]? = some x → I i s → wg (.p (en x)) s fun s2 => w { N with nx := I (i + 1), ct := I (i + 1), bk := N.nx } s2) (fin : ∀ s, I xs.length s → N.nx s) :
    ∃ W : Nat → Nat → S → Prop, (∃ m, W 0 m s1) ∧ ∀ i m s, W i m s → turnW wg w N W i m s (gSlot j s i) := by
  refine ⟨fun i m s => m = xs.length - i ∧ i ≤ xs.length ∧ I i s, ⟨xs.length, by omega, by omega, h0⟩, ?_⟩
  rintro i m s ⟨rfl, hi, h⟩
  have eg : gSlot j s i = some (((xs.map en)[i]?).map M.p) := by
    unfold gSlot
    rw [hj i s h]
  rw [eg, List.getElem?_map]
  by_cases hl : i < xs.length
  · have e : xs[i]? = some xs[i] := List.getElem?_eq_getElem hl
    have q := step i _ s e h
    rw [e]
    have e2 : (fun s' => ∃ m', m' < xs.length - i ∧ (m' = xs.length - (i + 1) ∧ i + 1 ≤ xs.length ∧ I (i + 1) s')) = I (i + 1) := by
      funext s'
      apply propext
      exact ⟨fun ⟨_, _, _, _, z⟩ => z, fun z => ⟨_, by omega, rfl, hl, z⟩⟩
    show wg (.p (en xs[i])) s fun s2 => w { N with nx := _, ct := _, bk := N.nx } s2
    rw [e2]
    exact q
  · have e : i = xs.length := by omega
    subst e
    rw [List.getElem?_eq_none (Nat.le_refl _)]
    exact fin s h
/-- over range(n - 1, -1, -1) -/
theorem for_d {n : Nat} {wg : WG} {w : WS} {N : WN} {s1 : S} {lo : Int} {c : Nat} (I : Nat → S → Prop) (el : lo = (n : Int) - 1) (ec : c = n) (h0 : I 0 s1)
    (step : ∀ (i : Nat) (s : S), i < n → I i s → wg (.p (.int ((n - 1 - i : Nat) : Int))) s fun s2 => w { N with nx := I (i + 1), ct := I (i + 1), bk := N.nx } s2) (fin : ∀ s, I n s → N.nx s) :
    ∃ W : Nat → Nat → S → Prop, (∃ m, W 0 m s1) ∧ ∀ i m s, W i m s → turnW wg w N W i m s (gRng lo (-1) c s i) := by
  subst el ec
  rw [show (fun (W : Nat → Nat → S → Prop) => (∃ m, W 0 m s1) ∧ ∀ i m s, W i m s → turnW wg w N W i m s (gRng ((c : Int) - 1) (-1) c s i)) = fun W => (∃ m, W 0 m s1) ∧ ∀ i m s, W i m s → turnW wg w N W i m s (gFix ((List.range c).map fun i : Nat => D.int (((c : Int) - 1) + (i : Int) * (-1))) s i) by rw [← gRng_fix]]
  refine for_x (xs := List.range c) (en := fun i : Nat => D.int (((c : Int) - 1) + (i : Int) * (-1))) I rfl h0 (fun i x s e h => ?_) (by rw [List.length_range]; exact fin)
  obtain ⟨h1, h2⟩ := List.getElem?_eq_some_iff.mp e
  rw [List.length_range] at h1
  rw [List.getElem_range] at h2
  subst h2
  have := step i s h1 h
  rw [show ((c : Int) - 1) + (i : Int) * (-1) = ((c - 1 - i : Nat) : Int) by omega]
  exact this
/-- positions as data -/
def posI (p : List Int) : D := .tup (p.map .int)
def posD (p : List Nat) : D := posI (iL p)
theorem map_inj {α β : Type} {f : α → β} (hf : ∀ a b, f a = f b → a = b) : ∀ {l m : List α}, l.map f = m.map f → l = m
  | [], [], _ => rfl
  | [], _ :: _, h => by cases h
  | _ :: _, [], h => by cases h
  | a :: l, b :: m, h => by
    simp only [List.map_cons, List.cons.injEq] at h
    rw [hf _ _ h.1, map_inj hf h.2]
theorem posI_inj {p q : List Int} (h : posI p = posI q) : p = q := by
  unfold posI at h
  simp only [D.tup.injEq] at h
  exact map_inj (fun a b e => by cases e; rfl) h
theorem iL_inj {p q : List Nat} (h : iL p = iL q) : p = q := map_inj (fun a b e => Int.ofNat.inj e) h
theorem posD_inj {p q : List Nat} (h : posD p = posD q) : p = q := iL_inj (posI_inj h)
theorem pl_posI (p : List Int) : pl (posI p) = true := pls_all fun d hd => by
  obtain ⟨i, _, rfl⟩ := List.mem_map.mp hd
  rfl
theorem sp_posI (p : List Int) : sp 1 (posI p) := sp_tup fun d hd => by
  obtain ⟨i, _, rfl⟩ := List.mem_map.mp hd
  exact sp_int
theorem iL_app (p q : List Nat) : iL (p ++ q) = iL p ++ iL q := List.map_append
/-- keys of one kind fit -/
theorem mkD_fit {α : Type} {fk fv : α → D} {l : List α} {k : D} (hk : keyOk k = true) (h : ∀ x ∈ l, isTup (fk x) = isTup k) : fitK (mkD fk fv l) k = true := by
  unfold fitK
  rw [Bool.and_eq_true, List.all_eq_true]
  refine ⟨hk, ?_⟩
  have : ∀ (l : List α) (a : List (D × D)), (∀ x ∈ l, isTup (fk x) = isTup k) → (∀ p ∈ a, isTup p.1 = isTup k) → ∀ p ∈ l.foldl (fun a x => dput a (fk x) (fv x)) a, isTup p.1 = isTup k := fun l => by
    induction l with
    | nil => intro a _ h; exact h
    | cons x l ih =>
      intro a hl ha
      refine ih _ (fun y hy => hl y (List.mem_cons_of_mem _ hy)) fun p hp => ?_
      replace hp : p ∈ dput a (fk x) (fv x) := hp
      unfold dput at hp
      split at hp
      · obtain ⟨q, hq, rfl⟩ := List.mem_map.mp hp
        split
        · exact ha q hq
        · exact ha q hq
      · rcases List.mem_append.mp hp with hp | hp
        · exact ha p hp
        · rw [List.mem_singleton.mp hp]
          exact hl x List.mem_cons_self
  intro p hp
  rw [this l [] h (fun _ z => nomatch z) p hp]
  exact beq_self_eq_true _
/-! ### promises -/
/-- a def of a term -/
def gTm (pre : Tr → Prop) (f : Tr → M) : SpecD := fun ms Q _ => ∃ t : Tr, ms = [.p t.d] ∧ pre t ∧ Q (f t) []
theorem gTm.mono (pre : Tr → Prop) (f : Tr → M) : MonoG (gTm pre f) := fun ms Q Q' R R' h _ ⟨t, e, p, q⟩ => ⟨t, e, p, h _ _ q⟩
theorem gTm.len {pre : Tr → Prop} {f : Tr → M} : ∀ ms Q R, gTm pre f ms Q R → ms.length = 1 := fun ms Q R ⟨t, e, _⟩ => by rw [e]; rfl
abbrev gIsVar : SpecD := gTm (fun _ => True) fun t => .p (.bl t.isV)
abbrev gInner : SpecD := gTm (fun _ => True) fun t => .p (.tup (dL t.as))
abbrev gParts : SpecD := gTm (fun t => t.n ≤ sizeLine) fun t => .ml (dL t.parts)
abbrev gSize : SpecD := gTm (fun t => t.n ≤ sizeLine) fun t => .p (.int t.n)
abbrev gDepth : SpecD := gTm (fun t => t.n ≤ sizeLine) fun t => .p (.int t.h)
abbrev gPoss : SpecD := gTm (fun t => t.n ≤ sizeLine ∧ t.ok) fun t => .ml (t.poss.map posD)
abbrev gVars : SpecD := gTm (fun t => t.n ≤ sizeLine) fun t => .p (.tup (t.vars.map .str))
abbrev gSyms : SpecD := gTm (fun t => t.n ≤ sizeLine) fun t => .p (.tup (t.syms.map prT))
def gAt : SpecD := fun ms Q R => ∃ (t : Tr) (p : List Int), ms = [.p t.d, .p (posI p)] ∧ (∀ u, atT t p = some u → Q (.p u.d) []) ∧ (atT t p = none → R .stp [])
theorem gAt.mono : MonoG gAt := fun ms Q Q' R R' h h2 ⟨t, p, e, q, r⟩ => ⟨t, p, e, fun u eu => h _ _ (q u eu), fun z => h2 _ _ (r z)⟩
theorem gAt.len : ∀ ms Q R, gAt ms Q R → ms.length = 2 := fun ms Q R ⟨t, p, e, _⟩ => by rw [e]; rfl
def gNeed : SpecD := fun ms Q R => ∃ n h : Nat, ms = [.p (.int n), .p (.int h)] ∧ (n ≤ 400 → h ≤ 40 → Q (.p .non) []) ∧ (400 < n ∨ 40 < h → R .lim [])
theorem gNeed.mono : MonoG gNeed := fun ms Q Q' R R' h h2 ⟨t, p, e, q, r⟩ => ⟨t, p, e, fun a b => h _ _ (q a b), fun z => h2 _ _ (r z)⟩
theorem gNeed.len : ∀ ms Q R, gNeed ms Q R → ms.length = 2 := fun ms Q R ⟨t, p, e, _⟩ => by rw [e]; rfl
def gPut : SpecD := fun ms Q R => ∃ (t : Tr) (p : List Int) (s : Tr), ms = [.p t.d, .p (posI p), .p s.d] ∧ t.n + s.n ≤ sizeLine ∧ p.length < sizeLine ∧ (∀ r, putT t p s = some r → r.n ≤ 400 → r.h ≤ 40 → Q (.p r.d) []) ∧ (∀ r, putT t p s = some r → 400 < r.n ∨ 40 < r.h → R .lim []) ∧ (atT t p = none → R .stp [])
theorem gPut.mono : MonoG gPut := fun ms Q Q' R R' h h2 ⟨t, p, s, e, b, b2, q, q2, r⟩ => ⟨t, p, s, e, b, b2, fun u eu a c => h _ _ (q u eu a c), fun u eu a => h2 _ _ (q2 u eu a), fun z => h2 _ _ (r z)⟩
theorem gPut.len : ∀ ms Q R, gPut ms Q R → ms.length = 3 := fun ms Q R ⟨t, p, s, e, _⟩ => by rw [e]; rfl
/-! ### the way to a position -/
def wayT (t : Tr) : List Int → Option (List (Tr × Int))
  | [] => some []
  | k :: p => (arg t k).bind fun a => (wayT a p).map ((t, k) :: ·)
def upW (way : List (Tr × Int)) (s : Tr) : Tr := way.foldr (fun w s => setA w.1 w.2 s) s
theorem putT_way : ∀ (p : List Int) (t s : Tr), putT t p s = (wayT t p).map fun w => upW w s
  | [], t, s => rfl
  | k :: p, t, s => by
    show (arg t k).bind (fun a => (putT a p s).map fun a' => setA t k a') = ((arg t k).bind fun a => (wayT a p).map ((t, k) :: ·)).map _
    cases arg t k with
    | none => rfl
    | some a =>
      show (putT a p s).map (fun a' => setA t k a') = ((wayT a p).map ((t, k) :: ·)).map _
      rw [putT_way p a s]
      cases wayT a p <;> rfl
theorem wayT_snoc : ∀ {p : List Int} {t u a : Tr} {k : Int} {way : List (Tr × Int)}, wayT t p = some way → atT t p = some u → arg u k = some a → wayT t (p ++ [k]) = some (way ++ [(u, k)])
  | [], t, u, a, k, way, h1, h2, h3 => by
    cases h1
    cases h2
    show (arg t k).bind (fun a => some [(t, k)]) = _
    rw [h3]
    rfl
  | j :: p, t, u, a, k, way, h1, h2, h3 => by
    simp only [wayT, atT, Option.bind_eq_some_iff, Option.map_eq_some_iff] at h1 h2
    obtain ⟨b, e1, w, e2, rfl⟩ := h1
    obtain ⟨b', e1', e3⟩ := h2
    rw [e1] at e1'
    cases e1'
    show (arg t j).bind (fun a => (wayT a (p ++ [k])).map ((t, j) :: ·)) = _
    rw [e1, Option.bind_some, wayT_snoc e2 e3 h3]
    rfl
theorem wayT_arg : ∀ {p : List Int} {t : Tr} {way : List (Tr × Int)}, wayT t p = some way → ∀ w ∈ way, (∃ a, arg w.1 w.2 = some a) ∧ w.1.n ≤ t.n
  | [], t, way, h, w, hw => by cases h; cases hw
  | k :: p, t, way, h, w, hw => by
    simp only [wayT, Option.bind_eq_some_iff, Option.map_eq_some_iff] at h
    obtain ⟨a, e1, w', e2, rfl⟩ := h
    rcases List.mem_cons.mp hw with rfl | hw
    · exact ⟨⟨a, e1⟩, Nat.le_refl _⟩
    · obtain ⟨h1, h2⟩ := wayT_arg e2 w hw
      have := (arg_h e1).2
      exact ⟨h1, by omega⟩
theorem upW_rev (way : List (Tr × Int)) (s : Tr) : upW way s = way.reverse.foldl (fun s w => setA w.1 w.2 s) s := by
  unfold upW
  rw [List.foldl_reverse]
/-! ### children with their places -/
def kidsF (p : List Nat) (k : Nat) (as : List Tr) : List (List Nat × Tr) := (as.zipIdx k).map fun q => (p ++ [q.2], q.1)
def posF (q : List Nat × Tr) : List (List Nat) := q.2.poss.map (q.1 ++ ·)
theorem kids_pos : ∀ (as : List Tr) (p : List Nat) (k : Nat), (kidsF p k as).flatMap posF = (poL k as).map (p ++ ·)
  | [], p, k => rfl
  | a :: as, p, k => by
    have h := kids_pos as p (k + 1)
    show ((p ++ [k], a) :: kidsF p (k + 1) as).flatMap posF = (a.poss.map (k :: ·) ++ poL (k + 1) as).map (p ++ ·)
    rw [List.flatMap_cons, h, List.map_append]
    congr 1
    show a.poss.map (p ++ [k] ++ ·) = (a.poss.map (k :: ·)).map (p ++ ·)
    rw [List.map_map]
    refine List.map_congr_left fun q _ => ?_
    show p ++ [k] ++ q = p ++ (k :: q)
    simp
theorem posF_kids (p : List Nat) (t : Tr) : posF (p, t) = p :: (kidsF p 0 t.as).flatMap posF := by
  rw [kids_pos]
  cases t with
  | v x => show [p ++ []] = [p]; rw [List.append_nil]
  | f s as => show (([] :: poL 0 as).map (p ++ ·)) = _; rw [List.map_cons, List.append_nil]; rfl
theorem kids_len (p : List Nat) (k : Nat) (as : List Tr) : (kidsF p k as).length = as.length := by
  unfold kidsF
  rw [List.length_map, List.length_zipIdx]
theorem kids_get {p : List Nat} {as : List Tr} {i : Nat} {a : Tr} (h : as[i]? = some a) : (kidsF p 0 as)[i]? = some (p ++ [i], a) := by
  unfold kidsF
  rw [List.getElem?_map, List.getElem?_zipIdx, h]
  simp
def nm : Tr → Str
  | .v x => x
  | .f s _ => s
def hdF : Tr → Str × Nat
  | .v x => (x, 0)
  | .f s as => (s, as.length)
theorem nm_filter (l : List Tr) : (l.filter Tr.isV).map nm = l.filterMap nameV := by
  induction l with
  | nil => rfl
  | cons t l ih =>
    cases t with
    | v x =>
      rw [List.filter_cons_of_pos (by rfl), List.map_cons, ih, List.filterMap_cons_some (b := x) (by rfl)]
      rfl
    | f s as => rw [List.filter_cons_of_neg (by simp [Tr.isV]), ih, List.filterMap_cons_none (by rfl)]
theorem hd_filter (l : List Tr) : (l.filter fun u => !u.isV).map hdF = l.filterMap headF := by
  induction l with
  | nil => rfl
  | cons t l ih =>
    cases t with
    | f s as =>
      rw [List.filter_cons_of_pos (by rfl), List.map_cons, ih, List.filterMap_cons_some (b := (s, as.length)) (by rfl)]
      rfl
    | v x => rw [List.filter_cons_of_neg (by simp [Tr.isV]), ih, List.filterMap_cons_none (by rfl)]
/-- promises for several cases, one for all -/
theorem Df.any {G : Pg} {x : Str} {ps : List Str} {k N : Nat} {P : List Nat} {g : Nat → SpecD} (D : ∀ n, n ≤ N → Df G x ps k P (g n)) : Df G x ps k P (fun ms Q R => ∃ n, n ≤ N ∧ g n ms Q R) := by
  refine ⟨fun ms Q Q' R R' h1 h2 ⟨n, hn, q⟩ => ⟨n, hn, (D n hn).mono _ _ _ _ _ h1 h2 q⟩, ?_⟩
  obtain ⟨_, f, fd, h1, h2, h3, ⟨oc, od, sl, l⟩, h4⟩ := D 0 (Nat.zero_le _)
  have all : ∀ n, n ≤ N → FnOk G.pr G.w G.K G.mg G.base (L2.CX G.pr G.w) k f fd ps (spOf G.K G.cv P (g n)) := fun n hn => by
    obtain ⟨_, f', fd', h1', h2', h3', ⟨oc', od', sl', l'⟩, h4'⟩ := D n hn
    rw [h1] at h1'
    cases h1'
    rw [l] at l'
    cases l'
    exact h4'
  refine ⟨f, fd, h1, h2, h3, ⟨oc, od, sl, l⟩, ⟨fun vs H Q E h => ?_, fun A outer s H args us vs Q E a b c d h => ?_⟩⟩
  · obtain ⟨F, ms, φ, e1, e2, e3, e4, n, hn, q⟩ := h
    exact (all n hn).len vs H Q E ⟨F, ms, φ, e1, e2, e3, e4, q⟩
  · obtain ⟨F, ms, φ, e1, e2, e3, e4, n, hn, q⟩ := h
    exact (all n hn).run A outer s H args us vs Q E a b c d ⟨F, ms, φ, e1, e2, e3, e4, q⟩
end Sd
set_option maxHeartbeats 1000000
/-! T3: substitutions, matching. -/
namespace Sd
open PySem PySem.Spec PyProof.Rows L2
variable [Tb]
theorem psL_mem {u : Tr} : ∀ {l : List Tr}, u ∈ psL l ↔ ∃ t ∈ l, u ∈ t.parts
  | [] => by simp [psL]
  | t :: l => by simp [psL, psL_mem (l := l)]
/-- x occurs in t -/
def vin (x : Str) (t : Tr) : Prop := Tr.v x ∈ t.parts
theorem vin_v {x y : Str} : vin x (.v y) ↔ x = y := by simp [vin, Tr.parts]
theorem vin_f {x s : Str} {as : List Tr} : vin x (.f s as) ↔ ∃ a ∈ as, vin x a := by
  unfold vin
  rw [Tr.parts, List.mem_cons, psL_mem]
  exact ⟨fun h => h.elim (fun z => by cases z) id, .inr⟩
theorem vars_vin {t : Tr} {x : Str} : x ∈ t.vars ↔ vin x t := vars_mem
/-! ### a map of variables -/
mutual
def mp (h : Str → Tr) : Tr → Tr
  | .v x => h x
  | .f s as => .f s (mpL h as)
def mpL (h : Str → Tr) : List Tr → List Tr
  | [] => []
  | t :: l => mp h t :: mpL h l
end
theorem mpL_map (h : Str → Tr) : ∀ l : List Tr, mpL h l = l.map (mp h)
  | [] => rfl
  | t :: l => by rw [mpL, mpL_map h l]; rfl
theorem mpL_len (h : Str → Tr) (l : List Tr) : (mpL h l).length = l.length := by rw [mpL_map, List.length_map]
mutual
theorem mp_ext {h g : Str → Tr} : ∀ {t : Tr}, (∀ x, vin x t → h x = g x) → mp h t = mp g t
  | .v x, e => e x (vin_v.mpr rfl)
  | .f s as, e => by rw [mp, mp, mpL_ext fun a ha x hx => e x (vin_f.mpr ⟨a, ha, hx⟩)]
theorem mpL_ext {h g : Str → Tr} : ∀ {l : List Tr}, (∀ t ∈ l, ∀ x, vin x t → h x = g x) → mpL h l = mpL g l
  | [], _ => rfl
  | t :: l, e => by rw [mpL, mpL, mp_ext (e t List.mem_cons_self), mpL_ext fun a ha => e a (List.mem_cons_of_mem _ ha)]
end
mutual
theorem mp_ok {h : Str → Tr} : ∀ {t : Tr}, t.ok → (∀ x, vin x t → (h x).ok) → (mp h t).ok
  | .v x, _, e => e x (vin_v.mpr rfl)
  | .f s as, k, e => ⟨k.1, mpL_ok k.2 fun a ha x hx => e x (vin_f.mpr ⟨a, ha, hx⟩)⟩
theorem mpL_ok {h : Str → Tr} : ∀ {l : List Tr}, okL l → (∀ t ∈ l, ∀ x, vin x t → (h x).ok) → okL (mpL h l)
  | [], _, _ => trivial
  | t :: l, k, e => ⟨mp_ok k.1 (e t List.mem_cons_self), mpL_ok k.2 fun a ha => e a (List.mem_cons_of_mem _ ha)⟩
end
mutual
theorem mp_n {h : Str → Tr} {N : Nat} (hN : 1 ≤ N) : ∀ {t : Tr}, (∀ x, vin x t → (h x).n ≤ N) → (mp h t).n ≤ t.n * N
  | .v x, e => by
    have := e x (vin_v.mpr rfl)
    show (h x).n ≤ 1 * N
    omega
  | .f s as, e => by
    have := mpL_n hN fun a ha x hx => e x (vin_f.mpr ⟨a, ha, hx⟩)
    show 1 + nL (mpL h as) ≤ (1 + nL as) * N
    rw [Nat.add_mul]
    omega
theorem mpL_n {h : Str → Tr} {N : Nat} (hN : 1 ≤ N) : ∀ {l : List Tr}, (∀ t ∈ l, ∀ x, vin x t → (h x).n ≤ N) → nL (mpL h l) ≤ nL l * N
  | [], _ => by simp [mpL, nL]
  | t :: l, e => by
    have h1 := mp_n hN (e t List.mem_cons_self)
    have h2 := mpL_n hN fun a ha => e a (List.mem_cons_of_mem _ ha)
    show (mp h t).n + nL (mpL h l) ≤ (t.n + nL l) * N
    rw [Nat.add_mul]
    omega
end
mutual
theorem mp_h {h : Str → Tr} {N : Nat} : ∀ {t : Tr}, (∀ x, vin x t → (h x).h ≤ N) → (mp h t).h ≤ t.h + N
  | .v x, e => by
    have := e x (vin_v.mpr rfl)
    show (h x).h ≤ 1 + N
    omega
  | .f s as, e => by
    have := mpL_h fun a ha x hx => e x (vin_f.mpr ⟨a, ha, hx⟩)
    show 1 + hL (mpL h as) ≤ 1 + hL as + N
    omega
theorem mpL_h {h : Str → Tr} {N : Nat} : ∀ {l : List Tr}, (∀ t ∈ l, ∀ x, vin x t → (h x).h ≤ N) → hL (mpL h l) ≤ hL l + N
  | [], _ => by simp [mpL, hL]
  | t :: l, e => by
    have h1 := mp_h (e t List.mem_cons_self)
    have h2 := mpL_h fun a ha => e a (List.mem_cons_of_mem _ ha)
    show max (mp h t).h (hL (mpL h l)) ≤ max t.h (hL l) + N
    omega
end
/-! ### substitutions as they are held -/
abbrev Sb := List (Str × Tr)
def sD (s : Sb) : List (D × D) := s.map fun p => (.str p.1, p.2.d)
def sget (s : Sb) (x : Str) : Option Tr := (s.find? fun p => decide (p.1 = x)).map (·.2)
def sput (s : Sb) (x : Str) (t : Tr) : Sb := if (s.any fun p => decide (p.1 = x)) = true then s.map fun p => if p.1 = x then (p.1, t) else p else s ++ [(x, t)]
def shOf (s : Sb) (x : Str) : Tr := (sget s x).getD (.v x)
def sub (s : Sb) (t : Tr) : Tr := mp (shOf s) t
theorem str_dec (a b : Str) : decide (D.str a = D.str b) = decide (a = b) := by
  by_cases h : a = b
  · rw [decide_eq_true h, decide_eq_true (by rw [h])]
  · rw [decide_eq_false h, decide_eq_false fun z => h (by cases z; rfl)]
theorem dget_sD (s : Sb) (x : Str) : dget (sD s) (.str x) = (sget s x).map Tr.d := by
  unfold dget sget sD
  induction s with
  | nil => rfl
  | cons p s ih =>
    rw [List.map_cons]
    by_cases h : p.1 = x
    · rw [List.find?_cons_of_pos (by simpa using h), List.find?_cons_of_pos (by simpa using h)]
      rfl
    · rw [List.find?_cons_of_neg (by simp only [str_dec]; simpa using h), List.find?_cons_of_neg (by simpa using h)]
      exact ih
theorem dput_sD (s : Sb) (x : Str) (t : Tr) : dput (sD s) (.str x) t.d = sD (sput s x t) := by
  unfold dput sput
  have e : ((sD s).any fun p => decide (p.1 = D.str x)) = s.any fun p => decide (p.1 = x) := by
    unfold sD
    rw [List.any_map]
    congr 1
    funext p
    exact str_dec _ _
  rw [e]
  split
  · unfold sD
    rw [List.map_map, List.map_map]
    apply List.map_congr_left
    intro p _
    by_cases h : p.1 = x
    · simp [h]
    · have h2 : ¬ (D.str p.1 = D.str x) := fun z => h (by cases z; rfl)
      simp [h, h2]
  · unfold sD
    rw [List.map_append]
    rfl
theorem sget_none {s : Sb} {x : Str} (h : sget s x = none) : (s.any fun p => decide (p.1 = x)) = false := by
  unfold sget at h
  rw [Option.map_eq_none_iff, List.find?_eq_none] at h
  rw [List.any_eq_false]
  exact h
theorem sput_new {s : Sb} {x : Str} {t : Tr} (h : sget s x = none) : sput s x t = s ++ [(x, t)] := by
  unfold sput
  rw [if_neg (by rw [sget_none h]; decide)]
theorem sget_mem {s : Sb} {x : Str} {t : Tr} (h : sget s x = some t) : (x, t) ∈ s := by
  unfold sget at h
  rw [Option.map_eq_some_iff] at h
  obtain ⟨p, h1, h2⟩ := h
  have h3 := List.find?_some h1
  have h3 : p.1 = x := by simpa using h3
  have := List.mem_of_find?_eq_some h1
  rw [← h2, ← h3]
  exact this
theorem sput_mem {s : Sb} {x : Str} {t : Tr} {p : Str × Tr} (h : p ∈ sput s x t) : p ∈ s ∨ p.2 = t := by
  unfold sput at h
  split at h
  · obtain ⟨q, hq, e⟩ := List.mem_map.mp h
    by_cases z : q.1 = x
    · rw [if_pos z] at e
      exact .inr (by rw [← e])
    · rw [if_neg z] at e
      exact .inl (e ▸ hq)
  · rcases List.mem_append.mp h with h | h
    · exact .inl h
    · rw [List.mem_singleton.mp h]
      exact .inr rfl
theorem sput_len (s : Sb) (x : Str) (t : Tr) : (sput s x t).length ≤ s.length + 1 := by
  unfold sput
  split
  · rw [List.length_map]; omega
  · rw [List.length_append]; exact Nat.le_refl _
theorem sD_len (s : Sb) : (sD s).length = s.length := List.length_map ..
theorem fit_sD (s : Sb) (x : Str) : fitK (sD s) (.str x) = true := by
  unfold fitK sD
  rw [Bool.and_eq_true]
  refine ⟨rfl, List.all_eq_true.mpr fun p hp => ?_⟩
  obtain ⟨q, _, rfl⟩ := List.mem_map.mp hp
  rfl
theorem dic_sD (s : Sb) : ((sD s).all fun p => !isTup p.1) = true := List.all_eq_true.mpr fun p hp => by
  obtain ⟨q, _, rfl⟩ := List.mem_map.mp hp
  rfl
theorem shpK_sD {s : Sb} (h : ∀ p ∈ s, p.2.ok ∧ p.2.h ≤ 80) : shpK (sD s) = true := List.all_eq_true.mpr fun p hp => by
  obtain ⟨q, hq, rfl⟩ := List.mem_map.mp hp
  obtain ⟨h1, h2⟩ := h q hq
  rw [Bool.and_eq_true]
  exact ⟨rfl, shp_tm h1 h2⟩
theorem shOf_all {s : Sb} {P : Tr → Prop} (h : ∀ p ∈ s, P p.2) {x : Str} (hv : P (.v x)) : P (shOf s x) := by
  unfold shOf
  cases e : sget s x with
  | none => exact hv
  | some t => exact h _ (sget_mem e)
/-- a dict is equal to itself -/
theorem hits_self {s : Sb} : ∀ {r : Sb}, (∀ p ∈ r, ∃ u, sget s p.1 = some u ∧ u = p.2) → hitsD (sD s) (sD r) = true
  | [], _ => rfl
  | p :: r, h => by
    obtain ⟨u, h1, rfl⟩ := h p List.mem_cons_self
    show (match dget (sD s) (.str p.1) with | none => false | some e => eqD p.2.d e && hitsD (sD s) (sD r)) = true
    rw [dget_sD, h1]
    show (eqD p.2.d p.2.d && hitsD (sD s) (sD r)) = true
    rw [eqD_tm, decide_eq_true rfl, hits_self fun q hq => h q (List.mem_cons_of_mem _ hq)]
    rfl
/-- the names are apart -/
def sND (s : Sb) : Prop := (s.map (·.1)).Nodup
theorem sget_of_mem {s : Sb} (hn : sND s) {p : Str × Tr} (h : p ∈ s) : sget s p.1 = some p.2 := by
  unfold sND at hn
  unfold sget
  induction s with
  | nil => cases h
  | cons q s ih =>
    rw [List.map_cons, List.nodup_cons] at hn
    rcases List.mem_cons.mp h with rfl | h
    · rw [List.find?_cons_of_pos (by simp)]
      rfl
    · have ne : q.1 ≠ p.1 := fun z => hn.1 (z ▸ List.mem_map.mpr ⟨p, h, rfl⟩)
      rw [List.find?_cons_of_neg (by simpa using ne)]
      exact ih hn.2 h
theorem eqDic_self {s : Sb} (hn : sND s) : eqDic (sD s) (sD s) = true := by
  unfold eqDic
  rw [hits_self fun p hp => ⟨_, sget_of_mem hn hp, rfl⟩]
  simp
theorem sND_put {s : Sb} (hn : sND s) (x : Str) (t : Tr) : sND (sput s x t) := by
  unfold sput
  split
  · unfold sND at hn ⊢
    rw [List.map_map]
    rw [show ((fun p : Str × Tr => p.1) ∘ fun p => if p.1 = x then (p.1, t) else p) = fun p : Str × Tr => p.1 by
      funext p
      show (if p.1 = x then (p.1, t) else p).1 = p.1
      split <;> rfl]
    exact hn
  · rename_i h
    unfold sND at hn ⊢
    rw [List.map_append, List.nodup_append]
    refine ⟨hn, by simp, fun a ha b hb => ?_⟩
    rw [List.map_singleton, List.mem_singleton] at hb
    subst hb
    intro z
    subst z
    obtain ⟨p, hp, rfl⟩ := List.mem_map.mp ha
    exact h (List.any_eq_true.mpr ⟨p, hp, by simp⟩)
/-! ### the machine that rebuilds -/
abbrev Wk := Tr × Bool
def wkD (w : Wk) : D := .tup [w.1.d, .bl w.2]
def runR (h : Str → Tr) : List Wk → List Tr → List Tr
  | [], d => d
  | (t, false) :: r, d => runR h r (d ++ [mp h t])
  | (.v x, true) :: r, d => runR h r (d ++ [h x])
  | (.f s as, true) :: r, d => runR h r (d.take (d.length - as.length) ++ [.f s (d.drop (d.length - as.length))])
def fitR : List Wk → Nat → Prop
  | [], _ => True
  | (_, false) :: r, n => fitR r (n + 1)
  | (.v _, true) :: r, n => fitR r (n + 1)
  | (.f _ as, true) :: r, n => as.length ≤ n ∧ fitR r (n - as.length + 1)
def wkN : List Wk → Nat
  | [] => 0
  | (t, false) :: r => 2 * t.n + wkN r
  | (_, true) :: r => 1 + wkN r
theorem runR_kids (h : Str → Tr) (r : List Wk) : ∀ (as : List Tr) (d : List Tr), runR h (as.map (fun a => (a, false)) ++ r) d = runR h r (d ++ mpL h as)
  | [], d => by simp [mpL]
  | a :: as, d => by
    show runR h (as.map (fun a => (a, false)) ++ r) (d ++ [mp h a]) = _
    rw [runR_kids h r as]
    simp [mpL]
theorem fitR_kids (r : List Wk) : ∀ (as : List Tr) (n : Nat), fitR (as.map (fun a => (a, false)) ++ r) n ↔ fitR r (n + as.length)
  | [], n => by simp
  | a :: as, n => by
    show fitR (as.map (fun a => (a, false)) ++ r) (n + 1) ↔ _
    rw [fitR_kids r as (n + 1), List.length_cons, show n + 1 + as.length = n + (as.length + 1) by omega]
theorem wkN_kids (r : List Wk) : ∀ as : List Tr, wkN (as.map (fun a => (a, false)) ++ r) = 2 * nL as + wkN r
  | [] => by simp [nL]
  | a :: as => by
    show 2 * a.n + wkN (as.map (fun a => (a, false)) ++ r) = 2 * (a.n + nL as) + wkN r
    rw [wkN_kids r as]
    omega
theorem wkN_len : ∀ st : List Wk, st.length ≤ wkN st
  | [] => Nat.le_refl _
  | (t, false) :: r => by
    have := wkN_len r
    have := n_pos t
    simp only [wkN, List.length_cons]
    omega
  | (t, true) :: r => by
    have := wkN_len r
    simp only [wkN, List.length_cons]
    omega
/-! ### the machine that measures -/
abbrev Ms := Tr × Nat
def msD (w : Ms) : D := .tup [w.1.d, .int w.2]
def msN (h : Str → Tr) : List Ms → Nat
  | [] => 0
  | (t, _) :: r => (mp h t).n + msN h r
def msH (h : Str → Tr) : List Ms → Nat
  | [] => 0
  | (t, k) :: r => max (k + (mp h t).h) (msH h r)
theorem msN_app (h : Str → Tr) : ∀ a b : List Ms, msN h (a ++ b) = msN h a + msN h b
  | [], b => by simp [msN]
  | (t, k) :: a, b => by simp only [List.cons_append, msN, msN_app h a b]; omega
theorem msH_app (h : Str → Tr) : ∀ a b : List Ms, msH h (a ++ b) = max (msH h a) (msH h b)
  | [], b => by simp [msH]
  | (t, k) :: a, b => by simp only [List.cons_append, msH, msH_app h a b]; omega
theorem msN_rev (h : Str → Tr) : ∀ a : List Ms, msN h a.reverse = msN h a
  | [] => rfl
  | (t, k) :: a => by rw [List.reverse_cons, msN_app, msN_rev h a]; simp [msN]; omega
theorem msH_rev (h : Str → Tr) : ∀ a : List Ms, msH h a.reverse = msH h a
  | [] => rfl
  | (t, k) :: a => by rw [List.reverse_cons, msH_app, msH_rev h a]; simp [msH]; omega
theorem msN_kids (h : Str → Tr) (k : Nat) : ∀ as : List Tr, msN h (as.map fun a => (a, k)) = nL (mpL h as)
  | [] => rfl
  | a :: as => by simp only [List.map_cons, msN, mpL, nL, msN_kids h k as]
theorem msH_kids (h : Str → Tr) (k : Nat) : ∀ as : List Tr, as ≠ [] → msH h (as.map fun a => (a, k)) = k + hL (mpL h as)
  | [], z => absurd rfl z
  | [a], _ => by simp [msH, mpL, hL]
  | a :: b :: as, _ => by
    have := msH_kids h k (b :: as) (by simp)
    simp only [List.map_cons, msH, mpL, hL] at this ⊢
    omega
def fsN : List Ms → Nat
  | [] => 0
  | (t, _) :: r => t.n + fsN r
theorem fsN_app : ∀ a b : List Ms, fsN (a ++ b) = fsN a + fsN b
  | [], b => by simp [fsN]
  | (t, k) :: a, b => by simp only [List.cons_append, fsN, fsN_app a b]; omega
theorem fsN_rev : ∀ a : List Ms, fsN a.reverse = fsN a
  | [] => rfl
  | (t, k) :: a => by rw [List.reverse_cons, fsN_app, fsN_rev a]; simp [fsN]; omega
theorem fsN_kids (k : Nat) : ∀ as : List Tr, fsN (as.map fun a => (a, k)) = nL as
  | [] => rfl
  | a :: as => by simp only [List.map_cons, fsN, nL, fsN_kids k as]
theorem fsN_len : ∀ st : List Ms, st.length ≤ fsN st
  | [] => Nat.le_refl _
  | (t, k) :: r => by
    have := fsN_len r
    have := n_pos t
    simp only [fsN, List.length_cons]
    omega
/-! ### pairs -/
abbrev P2 := Tr × Tr
def p2D (w : P2) : D := .tup [w.1.d, w.2.d]
def sameS : List P2 → Bool
  | [] => true
  | (a, b) :: r => decide (a = b) && sameS r
theorem sameS_app : ∀ a b : List P2, sameS (a ++ b) = (sameS a && sameS b)
  | [], b => by simp [sameS]
  | (x, y) :: a, b => by simp only [List.cons_append, sameS, sameS_app a b, Bool.and_assoc]
theorem sameS_rev : ∀ a : List P2, sameS a.reverse = sameS a
  | [] => rfl
  | (x, y) :: a => by rw [List.reverse_cons, sameS_app, sameS_rev a]; simp only [sameS, Bool.and_true]; rw [Bool.and_comm]
theorem sameS_zip : ∀ {as bs : List Tr}, as.length = bs.length → sameS (as.zip bs) = decide (as = bs)
  | [], [], _ => rfl
  | [], _ :: _, h => by simp at h
  | _ :: _, [], h => by simp at h
  | a :: as, b :: bs, h => by
    have ih := sameS_zip (as := as) (bs := bs) (by simpa using h)
    show (decide (a = b) && sameS (as.zip bs)) = _
    rw [ih]
    by_cases h1 : a = b
    · by_cases h2 : as = bs
      · simp [h1, h2]
      · simp [h1, h2]
    · simp [h1]
def p2N : List P2 → Nat
  | [] => 0
  | (a, _) :: r => a.n + p2N r
theorem p2N_app : ∀ a b : List P2, p2N (a ++ b) = p2N a + p2N b
  | [], b => by simp [p2N]
  | (t, k) :: a, b => by simp only [List.cons_append, p2N, p2N_app a b]; omega
theorem p2N_rev : ∀ a : List P2, p2N a.reverse = p2N a
  | [] => rfl
  | (t, k) :: a => by rw [List.reverse_cons, p2N_app, p2N_rev a]; simp [p2N]; omega
theorem p2N_zip : ∀ as bs : List Tr, p2N (as.zip bs) ≤ nL as
  | [], _ => by simp [p2N]
  | _ :: _, [] => by simp [p2N]
  | a :: as, b :: bs => by
    have := p2N_zip as bs
    simp only [List.zip_cons_cons, p2N, nL]
    omega
theorem p2N_len : ∀ st : List P2, st.length ≤ p2N st
  | [] => Nat.le_refl _
  | (t, k) :: r => by
    have := p2N_len r
    have := n_pos t
    simp only [p2N, List.length_cons]
    omega
theorem zip_d : ∀ as bs : List Tr, ((dL as).zip (dL bs)).map (fun p => D.tup [p.1, p.2]) = (as.zip bs).map p2D
  | [], _ => by simp [dL]
  | _ :: _, [] => by simp [dL]
  | a :: as, b :: bs => by
    rw [dL, dL, List.zip_cons_cons, List.map_cons, List.zip_cons_cons, List.map_cons, zip_d as bs]
    rfl
/-! ### matching -/
mutual
def mB : Tr → Tr → Sb → Bool × Sb
  | .v x, t, s => match sget s x with
    | some u => (decide (u = t), s)
    | none => (true, s ++ [(x, t)])
  | .f g as, .f h bs, s => if g = h ∧ as.length = bs.length then mBL as bs s else (false, s)
  | .f _ _, .v _, s => (false, s)
def mBL : List Tr → List Tr → Sb → Bool × Sb
  | a :: as, b :: bs, s => ((mB a b s).1 && (mBL as bs (mB a b s).2).1, (mBL as bs (mB a b s).2).2)
  | _, _, s => (true, s)
end
def mS : List P2 → Sb → Option Sb
  | [], s => some s
  | (a, b) :: r, s => if (mB a b s).1 = true then mS r (mB a b s).2 else none
theorem mS_zip (r : List P2) : ∀ {as bs : List Tr} (s : Sb), as.length = bs.length → mS (as.zip bs ++ r) s = if (mBL as bs s).1 = true then mS r (mBL as bs s).2 else none
  | [], [], s, _ => rfl
  | [], _ :: _, _, h => by simp at h
  | _ :: _, [], _, h => by simp at h
  | a :: as, b :: bs, s, h => by
    have ih := mS_zip r (as := as) (bs := bs) (mB a b s).2 (by simpa using h)
    show (if (mB a b s).1 = true then mS (as.zip bs ++ r) (mB a b s).2 else none) = if ((mB a b s).1 && (mBL as bs (mB a b s).2).1) = true then mS r (mBL as bs (mB a b s).2).2 else none
    rw [ih]
    cases (mB a b s).1 <;> simp
mutual
/-- what is bound is found in the term -/
theorem mB_mem : ∀ {p t : Tr} {s : Sb}, ∀ q ∈ (mB p t s).2, q ∈ s ∨ q.2 ∈ t.parts
  | .v x, t, s, q, h => by
    unfold mB at h
    split at h
    · exact .inl h
    · rcases List.mem_append.mp h with h | h
      · exact .inl h
      · rw [List.mem_singleton.mp h]
        right
        rw [parts_eq]
        exact List.mem_cons_self
  | .f g as, .f h' bs, s, q, h => by
    unfold mB at h
    split at h
    · rcases mBL_mem q h with h | ⟨b, hb, h⟩
      · exact .inl h
      · right
        rw [Tr.parts, List.mem_cons, psL_mem]
        exact .inr ⟨b, hb, h⟩
    · exact .inl h
  | .f _ _, .v _, s, q, h => .inl h
theorem mBL_mem : ∀ {as bs : List Tr} {s : Sb}, ∀ q ∈ (mBL as bs s).2, q ∈ s ∨ ∃ b ∈ bs, q.2 ∈ b.parts
  | a :: as, b :: bs, s, q, h => by
    have h : q ∈ (mBL as bs (mB a b s).2).2 := h
    rcases mBL_mem q h with h | ⟨b', hb, h⟩
    · rcases mB_mem q h with h | h
      · exact .inl h
      · exact .inr ⟨b, List.mem_cons_self, h⟩
    · exact .inr ⟨b', List.mem_cons_of_mem _ hb, h⟩
  | [], _, s, q, h => .inl h
  | _ :: _, [], s, q, h => .inl h
end
mutual
theorem mB_nd : ∀ {p t : Tr} {s : Sb}, sND s → sND (mB p t s).2
  | .v x, t, s, h => by
    unfold mB
    split
    · exact h
    · rename_i e
      have := sND_put h x t
      rw [sput_new e] at this
      exact this
  | .f g as, .f h' bs, s, h => by
    unfold mB
    split
    · exact mBL_nd h
    · exact h
  | .f _ _, .v _, s, h => h
theorem mBL_nd : ∀ {as bs : List Tr} {s : Sb}, sND s → sND (mBL as bs s).2
  | a :: as, b :: bs, s, h => mBL_nd (as := as) (bs := bs) (mB_nd h)
  | [], _, s, h => h
  | _ :: _, [], s, h => h
end
mutual
theorem mB_len : ∀ {p t : Tr} {s : Sb}, (mB p t s).2.length ≤ s.length + p.n
  | .v x, t, s => by
    unfold mB
    split
    · exact Nat.le_add_right _ _
    · rw [List.length_append]
      exact Nat.le_refl _
  | .f g as, .f h' bs, s => by
    unfold mB
    split
    · have := mBL_len (as := as) (bs := bs) (s := s)
      simp only [Tr.n]
      omega
    · exact Nat.le_add_right _ _
  | .f _ _, .v _, s => Nat.le_add_right _ _
theorem mBL_len : ∀ {as bs : List Tr} {s : Sb}, (mBL as bs s).2.length ≤ s.length + nL as
  | a :: as, b :: bs, s => by
    have h1 := mB_len (p := a) (t := b) (s := s)
    have h2 := mBL_len (as := as) (bs := bs) (s := (mB a b s).2)
    show (mBL as bs (mB a b s).2).2.length ≤ s.length + (a.n + nL as)
    omega
  | [], _, s => Nat.le_add_right _ _
  | _ :: _, [], s => Nat.le_add_right _ _
end
end Sd
set_option maxHeartbeats 1000000
/-! T4: variables renamed. -/
namespace Sd
open PySem PySem.Spec PyProof.Rows L2
variable [Tb]
section
variable {α β : Type} [DecidableEq α] [DecidableEq β]
theorem rev_ind {γ : Type} {P : List γ → Prop} (h0 : P []) (h1 : ∀ l a, P l → P (l ++ [a])) (l : List γ) : P l := by
  have : ∀ r : List γ, P r.reverse := fun r => by
    induction r with
    | nil => exact h0
    | cons a r ih => rw [List.reverse_cons]; exact h1 _ _ ih
  have := this l.reverse
  rw [List.reverse_reverse] at this
  exact this
theorem addN_in {acc : List α} {x : α} (h : x ∈ acc) : addN acc x = acc := by unfold addN; rw [if_pos h]
theorem addN_out {acc : List α} {x : α} (h : x ∉ acc) : addN acc x = acc ++ [x] := by unfold addN; rw [if_neg h]
theorem ded_map (h : α → β) (l : List α) : ded (l.map h) = ded ((ded l).map h) := by
  induction l using rev_ind with
  | h0 => rfl
  | h1 l a ih =>
    rw [List.map_append, List.map_singleton, ded_app, ded_app, ih]
    by_cases ha : a ∈ ded l
    · rw [addN_in ha, addN_in]
      rw [ded_mem]
      exact List.mem_map.mpr ⟨a, ha, rfl⟩
    · rw [addN_out ha, List.map_append, List.map_singleton, ded_app]
theorem ded_of_nodup {l : List α} (h : l.Nodup) : ded l = l := by
  induction l using rev_ind with
  | h0 => rfl
  | h1 l a ih =>
    rw [List.nodup_append] at h
    rw [ded_app, ih h.1, addN_out]
    intro z
    exact h.2.2 a z a (by simp) rfl
theorem nodup_of_ded {l : List α} (h : (ded l).length = l.length) : l.Nodup := by
  induction l using rev_ind with
  | h0 => exact List.nodup_nil
  | h1 l a ih =>
    rw [ded_app, List.length_append] at h
    have h1 := ded_len l
    by_cases ha : a ∈ ded l
    · rw [addN_in ha] at h
      simp only [List.length_cons, List.length_nil] at h
      omega
    · rw [addN_out ha, List.length_append] at h
      simp only [List.length_cons, List.length_nil] at h
      rw [List.nodup_append]
      refine ⟨ih (by omega), by simp, fun x hx y hy => ?_⟩
      rw [List.mem_singleton.mp hy]
      intro z
      subst z
      exact ha ((ded_mem l x).mpr hx)
theorem map_nodup {h : α → β} {l : List α} (nd : l.Nodup) (inj : ∀ a ∈ l, ∀ b ∈ l, h a = h b → a = b) : (l.map h).Nodup := by
  induction l with
  | nil => exact List.nodup_nil
  | cons a l ih =>
    rw [List.nodup_cons] at nd
    rw [List.map_cons, List.nodup_cons]
    refine ⟨fun z => ?_, ih nd.2 fun x hx y hy => inj x (List.mem_cons_of_mem _ hx) y (List.mem_cons_of_mem _ hy)⟩
    obtain ⟨b, hb, e⟩ := List.mem_map.mp z
    exact nd.1 (inj b (List.mem_cons_of_mem _ hb) a List.mem_cons_self e ▸ hb)
theorem inj_of_nodup {h : α → β} {l : List α} (nd : (l.map h).Nodup) : ∀ a ∈ l, ∀ b ∈ l, h a = h b → a = b := by
  induction l with
  | nil => exact fun a ha => by cases ha
  | cons c l ih =>
    rw [List.map_cons, List.nodup_cons] at nd
    intro a ha b hb e
    rcases List.mem_cons.mp ha with rfl | ha2
    · rcases List.mem_cons.mp hb with rfl | hb
      · rfl
      · exact absurd (show h a ∈ l.map h from List.mem_map.mpr ⟨b, hb, e.symm⟩) nd.1
    · rcases List.mem_cons.mp hb with rfl | hb2
      · exact absurd (show h b ∈ l.map h from List.mem_map.mpr ⟨a, ha2, e⟩) nd.1
      · exact ih nd.2 a ha2 b hb2 e
theorem idxOf_map {h : α → β} {l : List α} (inj : ∀ a ∈ l, ∀ b ∈ l, h a = h b → a = b) {x : α} (hx : x ∈ l) : (l.map h).idxOf (h x) = l.idxOf x := by
  induction l with
  | nil => cases hx
  | cons a l ih =>
    rw [List.map_cons, List.idxOf_cons, List.idxOf_cons]
    by_cases e : a = x
    · subst e
      simp
    · have e2 : h a ≠ h x := fun z => e (inj a List.mem_cons_self x hx z)
      have hx' : x ∈ l := by
        rcases List.mem_cons.mp hx with z | z
        · exact absurd z.symm e
        · exact z
      have b1 : (h a == h x) = false := by simpa using e2
      have b2 : (a == x) = false := by simpa using e
      rw [b1, b2, ih (fun p hp q hq => inj p (List.mem_cons_of_mem _ hp) q (List.mem_cons_of_mem _ hq)) hx']
end
/-! ### a term with its variables renamed -/
def rn (g : Str → Str) (t : Tr) : Tr := mp (fun x => .v (g x)) t
mutual
theorem names_rn (g : Str → Str) : ∀ t : Tr, (rn g t).parts.filterMap nameV = (t.parts.filterMap nameV).map g
  | .v x => rfl
  | .f s as => by
    show (Tr.f s (mpL _ as) :: psL (mpL _ as)).filterMap nameV = ((Tr.f s as :: psL as).filterMap nameV).map g
    rw [List.filterMap_cons, List.filterMap_cons]
    exact names_rnL g as
theorem names_rnL (g : Str → Str) : ∀ l : List Tr, (psL (mpL (fun x => .v (g x)) l)).filterMap nameV = ((psL l).filterMap nameV).map g
  | [] => rfl
  | t :: l => by
    show ((rn g t).parts ++ psL (mpL _ l)).filterMap nameV = ((t.parts ++ psL l).filterMap nameV).map g
    rw [List.filterMap_append, List.filterMap_append, List.map_append, names_rn g t, names_rnL g l]
end
theorem vars_rn (g : Str → Str) (t : Tr) : (rn g t).vars = ded (t.vars.map g) := by
  unfold Tr.vars
  rw [names_rn, ded_map]
mutual
theorem rn_rn (g h : Str → Str) : ∀ t : Tr, rn g (rn h t) = rn (fun x => g (h x)) t
  | .v x => rfl
  | .f s as => by
    show Tr.f s (mpL _ (mpL _ as)) = Tr.f s (mpL _ as)
    rw [rn_rnL g h as]
theorem rn_rnL (g h : Str → Str) : ∀ l : List Tr, mpL (fun x => .v (g x)) (mpL (fun x => .v (h x)) l) = mpL (fun x => .v (g (h x))) l
  | [] => rfl
  | t :: l => by
    show rn g (rn h t) :: mpL _ (mpL _ l) = _
    rw [rn_rn g h t, rn_rnL g h l]
    rfl
end
theorem rn_ext {g h : Str → Str} {t : Tr} (e : ∀ x ∈ t.vars, g x = h x) : rn g t = rn h t := mp_ext fun x hx => by rw [e x (vars_vin.mpr hx)]
mutual
theorem rn_n (g : Str → Str) : ∀ t : Tr, (rn g t).n = t.n ∧ (rn g t).h = t.h
  | .v x => ⟨rfl, rfl⟩
  | .f s as => by
    obtain ⟨h1, h2⟩ := rn_nL g as
    exact ⟨by show 1 + nL (mpL _ as) = 1 + nL as; rw [h1], by show 1 + hL (mpL _ as) = 1 + hL as; rw [h2]⟩
theorem rn_nL (g : Str → Str) : ∀ l : List Tr, nL (mpL (fun x => .v (g x)) l) = nL l ∧ hL (mpL (fun x => .v (g x)) l) = hL l
  | [] => ⟨rfl, rfl⟩
  | t :: l => by
    obtain ⟨h1, h2⟩ := rn_n g t
    obtain ⟨h3, h4⟩ := rn_nL g l
    exact ⟨by show (rn g t).n + nL (mpL _ l) = t.n + nL l; rw [h1, h3], by show max (rn g t).h (hL (mpL _ l)) = max t.h (hL l); rw [h2, h4]⟩
end
/-! ### u0, u1, .. -/
def us (k : Nat) : Str := ("u" : Str) ++ (toString (k : Int) : Str)
theorem us_inj : ∀ i, i < 32 → ∀ j, j < 32 → us i = us j → i = j := by decide +kernel
theorem us_ok : ∀ i, i < 32 → (PyData.str (us i)).canLay0 = true ∧ (us i).length ≤ 4 := by decide +kernel
def cn (vs : List Str) (x : Str) : Str := us (vs.idxOf x)
def canon (t : Tr) : Tr := rn (cn t.vars) t
theorem idxOf_lt {l : List Str} {x : Str} (h : x ∈ l) : l.idxOf x < l.length := List.idxOf_lt_length_of_mem h
theorem cn_inj {vs : List Str} (hv : vs.length ≤ 32) : ∀ a ∈ vs, ∀ b ∈ vs, cn vs a = cn vs b → a = b := fun a ha b hb e => by
  have h1 := idxOf_lt ha
  have h2 := idxOf_lt hb
  have := us_inj _ (by omega) _ (by omega) e
  have e1 := List.getElem_idxOf h1
  have e2 := List.getElem_idxOf h2
  rw [← e1, ← e2]
  congr 1
theorem canon_vars {t : Tr} (hv : t.vars.length ≤ 32) : (canon t).vars.length = t.vars.length := by
  have nd : (t.vars.map (cn t.vars)).Nodup := map_nodup (ded_nodup _) (cn_inj hv)
  unfold canon
  rw [vars_rn, ded_of_nodup nd, List.length_map]
/-- renamed one to one: the same canonical form; otherwise another one -/
theorem canon_iff {t : Tr} (h : Str → Str) (hv : t.vars.length ≤ 32) : decide (canon (rn h t) = canon t) = decide ((rn h t).vars.length = t.vars.length) := by
  have hl : (rn h t).vars.length ≤ t.vars.length := by
    rw [vars_rn]
    have := ded_len (t.vars.map h)
    rw [List.length_map] at this
    exact this
  by_cases e : (rn h t).vars.length = t.vars.length
  · rw [decide_eq_true e, decide_eq_true]
    have nd : (t.vars.map h).Nodup := nodup_of_ded (by rw [← vars_rn, e, List.length_map])
    have inj := inj_of_nodup nd
    unfold canon
    rw [rn_rn]
    refine rn_ext fun x hx => ?_
    unfold cn
    rw [vars_rn, ded_of_nodup nd, idxOf_map inj hx]
  · rw [decide_eq_false e, decide_eq_false]
    intro z
    have : (canon (rn h t)).vars.length = (canon t).vars.length := by rw [z]
    rw [canon_vars (by omega), canon_vars hv] at this
    exact e this
/-- a substitution by new names -/
def nS (vs : List Str) (g : Nat → Str) (k : Nat) : Sb := match vs with
  | [] => []
  | x :: r => (x, .v (g k)) :: nS r g (k + 1)
theorem nS_keys (g : Nat → Str) : ∀ (vs : List Str) (k : Nat), (nS vs g k).map (·.1) = vs
  | [], _ => rfl
  | x :: r, k => by rw [nS, List.map_cons, nS_keys g r (k + 1)]
theorem nS_get (g : Nat → Str) {x : Str} : ∀ (vs : List Str) (k : Nat), x ∈ vs → sget (nS vs g k) x = some (.v (g (k + vs.idxOf x)))
  | [], _, h => by cases h
  | y :: r, k, h => by
    unfold nS sget
    by_cases e : y = x
    · subst e
      rw [List.find?_cons_of_pos (by simp), List.idxOf_cons_self]
      rfl
    · have h' : x ∈ r := by
        rcases List.mem_cons.mp h with z | z
        · exact absurd z.symm e
        · exact z
      have b2 : (y == x) = false := by simpa using e
      rw [List.find?_cons_of_neg (by simpa using e), List.idxOf_cons, b2]
      have := nS_get g r (k + 1) h'
      unfold sget at this
      rw [this, show k + 1 + r.idxOf x = k + (r.idxOf x + 1) by omega]
      rfl
theorem nS_mem (g : Nat → Str) {p : Str × Tr} : ∀ (vs : List Str) (k : Nat), p ∈ nS vs g k → ∃ j, k ≤ j ∧ j < k + vs.length ∧ p.2 = .v (g j)
  | [], _, h => by cases h
  | y :: r, k, h => by
    rcases List.mem_cons.mp h with rfl | h
    · exact ⟨k, Nat.le_refl _, by simp, rfl⟩
    · obtain ⟨j, h1, h2, h3⟩ := nS_mem g r (k + 1) h
      exact ⟨j, by omega, by simp only [List.length_cons]; omega, h3⟩
theorem nS_len (g : Nat → Str) : ∀ (vs : List Str) (k : Nat), (nS vs g k).length = vs.length
  | [], _ => rfl
  | x :: r, k => by rw [nS, List.length_cons, nS_len g r (k + 1), List.length_cons]
theorem sub_nS (g : Nat → Str) (t : Tr) : sub (nS t.vars g 0) t = rn (fun x => g (t.vars.idxOf x)) t := by
  unfold sub rn
  refine mp_ext fun x hx => ?_
  unfold shOf
  rw [nS_get g _ 0 (vars_vin.mpr hx), Nat.zero_add]
  rfl
theorem canon_sub (t : Tr) : canon t = sub (nS t.vars us 0) t := by rw [sub_nS]; rfl
/-- a dict made of pairs whose keys are apart -/
theorem dput_new {a : List (D × D)} {k d : D} (h : k ∉ a.map (·.1)) : dput a k d = a ++ [(k, d)] := by
  unfold dput
  rw [if_neg]
  intro z
  obtain ⟨p, hp, e⟩ := List.any_eq_true.mp z
  exact h (List.mem_map.mpr ⟨p, hp, by simpa using e⟩)
theorem mkD_apart {α : Type} {fk fv : α → D} {l : List α} (nd : (l.map fk).Nodup) : mkD fk fv l = l.map fun x => (fk x, fv x) := by
  induction l using rev_ind with
  | h0 => rfl
  | h1 l a ih =>
    rw [List.map_append, List.nodup_append] at nd
    rw [mkD_app, ih nd.1, dput_new, List.map_append]
    · rfl
    · rw [List.map_map]
      intro z
      exact nd.2.2 (fk a) (by
        obtain ⟨x, hx, e⟩ := List.mem_map.mp z
        exact List.mem_map.mpr ⟨x, hx, e⟩) (fk a) (by simp) rfl
end Sd
set_option maxHeartbeats 1000000
/-! T5: rules, steps, normal forms. -/
namespace Sd
open PySem PySem.Spec PyProof.Rows L2
variable [Tb]
/-- a rule -/
structure Rl where
  l : Tr
  r : Tr
def Rl.d (ru : Rl) : D := .tup [ru.l.d, ru.r.d]
def sysD (s : List Rl) : D := .tup (s.map Rl.d)
/-- a rule as it is drawn -/
structure RlOk (ru : Rl) : Prop where
  lok : ru.l.ok
  rok : ru.r.ok
  lf : ru.l.isV = false
  ln : ru.l.n ≤ 20
  rn : ru.r.n ≤ 20
  lh : ru.l.h ≤ 6
  rh : ru.r.h ≤ 6
def SysOk (s : List Rl) : Prop := s.length ≤ 10 ∧ ∀ ru ∈ s, RlOk ru
/-- too large -/
def big (t : Tr) : Bool := decide (400 < t.n) || decide (40 < t.h)
theorem big_iff {t : Tr} : big t = true ↔ 400 < t.n ∨ 40 < t.h := by simp [big]
theorem big_not {t : Tr} : big t = false ↔ t.n ≤ 400 ∧ t.h ≤ 40 := by simp [big]
def hit (ru : Rl) (u : Tr) : Option Tr := if (mB ru.l u []).1 = true then some (sub (mB ru.l u []).2 ru.r) else none
theorem hit_v {ru : Rl} (h : RlOk ru) (x : Str) : hit ru (.v x) = none := by
  unfold hit
  have := h.lf
  cases e : ru.l with
  | v y => rw [e] at this; cases this
  | f g as => rfl
theorem hit_val {ru : Rl} {u : Tr} {P : Tr → Prop} (h : ∀ w ∈ u.parts, P w) : ∀ p ∈ (mB ru.l u []).2, P p.2 := fun p hp => by
  rcases mB_mem p hp with z | z
  · cases z
  · exact h _ z
theorem hit_some {ru : Rl} (h : RlOk ru) {u w : Tr} (hu : u.ok) (e : hit ru u = some w) : w.ok ∧ w.n ≤ 20 * u.n ∧ w.h ≤ 6 + u.h := by
  unfold hit at e
  split at e
  · cases e
    have hp := n_pos u
    have hh := h_pos u
    refine ⟨mp_ok h.rok fun x hx => ?_, ?_, ?_⟩
    · have hx : (Tr.v x).ok := part_ok h.rok _ hx
      exact shOf_all (P := Tr.ok) (hit_val fun w hw => part_ok hu w hw) hx
    · have := mp_n (h := shOf (mB ru.l u []).2) (N := u.n) hp (t := ru.r) fun x _ => shOf_all (P := fun w => w.n ≤ u.n) (hit_val fun w hw => (part_h hw).2) (by show 1 ≤ u.n; omega)
      have h2 : ru.r.n * u.n ≤ 20 * u.n := Nat.mul_le_mul_right _ h.rn
      unfold sub
      omega
    · have := mp_h (h := shOf (mB ru.l u []).2) (N := u.h) (t := ru.r) fun x _ => shOf_all (P := fun w => w.h ≤ u.h) (hit_val fun w hw => (part_h hw).1) (by show 1 ≤ u.h; omega)
      have := h.rh
      unfold sub
      omega
  · cases e
/-- the step at p with rule k -/
def stepR (s : List Rl) (t : Tr) (p : List Int) (k : Nat) : Option Tr := (atT t p).bind fun u => (s[k]?).bind fun ru => (hit ru u).bind fun w => putT t p w
theorem stepR_of {s : List Rl} {t u : Tr} {p : List Int} {k : Nat} {ru : Rl} (h1 : atT t p = some u) (h2 : s[k]? = some ru) : stepR s t p k = (hit ru u).bind fun w => putT t p w := by
  unfold stepR
  rw [h1, h2]
  rfl
theorem stepR_none {s : List Rl} {t u : Tr} {p : List Int} {k : Nat} {ru : Rl} (h1 : atT t p = some u) (h2 : s[k]? = some ru) (h3 : hit ru u = none) : stepR s t p k = none := by
  rw [stepR_of h1 h2, h3]
  rfl
theorem stepR_some {s : List Rl} {t u w : Tr} {p : List Int} {k : Nat} {ru : Rl} (h1 : atT t p = some u) (h2 : s[k]? = some ru) (h3 : hit ru u = some w) : stepR s t p k = putT t p w := by
  rw [stepR_of h1 h2, h3]
  rfl
theorem atT_put : ∀ {p : List Int} {t s r : Tr}, putT t p s = some r → t.ok → s.ok → atT r p = some s
  | [], t, s, r, h, _, _ => by cases h; rfl
  | k :: p, t, s, r, h, ht, hs => by
    simp only [putT, Option.bind_eq_some_iff, Option.map_eq_some_iff] at h
    obtain ⟨a, ha, r', hr', rfl⟩ := h
    cases t with
    | v x =>
      unfold arg at ha
      split at ha
      · simp [Tr.as] at ha
      · cases ha
    | f g as =>
      have ha' := ha
      unfold arg at ha
      split at ha
      · rename_i h0
        have ha : as[k.toNat]? = some a := ha
        have hlt := (List.getElem?_eq_some_iff.mp ha).1
        have ih := atT_put hr' (okL_iff.mp ht.2 a (List.mem_of_getElem? ha)) hs
        show (arg (.f g (as.set k.toNat r')) k).bind (fun a => atT a p) = some s
        unfold arg
        rw [if_pos h0]
        show ((as.set k.toNat r')[k.toNat]?).bind _ = _
        rw [List.getElem?_set_self hlt]
        exact ih
      · cases ha
theorem put_big {t s r : Tr} {p : List Int} (h : putT t p s = some r) (ht : t.ok) (hs : s.ok) (hr : r.ok) (b : big s = true) : big r = true := by
  obtain ⟨_, h2, h3⟩ := atT_ok hr (atT_put h ht hs)
  rw [big_iff] at b ⊢
  omega
/-- what a step gives -/
theorem step_ok {s : List Rl} (hs : SysOk s) {t res : Tr} {p : List Int} {k : Nat} (ht : t.ok) (e : stepR s t p k = some res) : res.ok ∧ res.n ≤ 21 * t.n ∧ res.h ≤ t.h + 6 := by
  unfold stepR at e
  rw [Option.bind_eq_some_iff] at e
  obtain ⟨u, hu, e⟩ := e
  rw [Option.bind_eq_some_iff] at e
  obtain ⟨ru, hk, e⟩ := e
  rw [Option.bind_eq_some_iff] at e
  obtain ⟨w, hw, e⟩ := e
  have rk := hs.2 ru (List.mem_of_getElem? hk)
  obtain ⟨a1, a2, a3⟩ := atT_ok ht hu
  obtain ⟨b1, b2, b3⟩ := hit_some rk a1 hw
  obtain ⟨r', hr, c1, c2, c3⟩ := putT_some w hu
  rw [e] at hr
  cases hr
  have := n_pos u
  exact ⟨c3 ht b1, by omega, by omega⟩
/-! ### the order of normal forms -/
mutual
def ordT : Tr → List (List Nat)
  | .v _ => [[]]
  | .f _ as => ordL 0 as ++ [[]]
def ordL : Nat → List Tr → List (List Nat)
  | _, [] => []
  | k, t :: l => (ordT t).map (k :: ·) ++ ordL (k + 1) l
end
theorem ordT_as (t : Tr) : ordT t = ordL 0 t.as ++ [[]] := by cases t <;> rfl
mutual
theorem ordT_len : ∀ t : Tr, (ordT t).length = t.n
  | .v _ => rfl
  | .f _ as => by
    show (ordL 0 as ++ [[]]).length = 1 + nL as
    rw [List.length_append, ordL_len 0 as]
    simp only [List.length_cons, List.length_nil]
    omega
theorem ordL_len : ∀ (k : Nat) (l : List Tr), (ordL k l).length = nL l
  | _, [] => rfl
  | k, t :: l => by
    show ((ordT t).map (k :: ·) ++ ordL (k + 1) l).length = t.n + nL l
    rw [List.length_append, List.length_map, ordT_len t, ordL_len (k + 1) l]
end
theorem ordL_snoc : ∀ (l : List Tr) (t : Tr) (k : Nat), ordL k (l ++ [t]) = ordL k l ++ (ordT t).map ((k + l.length) :: ·)
  | [], t, k => by simp [ordL]
  | a :: l, t, k => by
    show (ordT a).map (k :: ·) ++ ordL (k + 1) (l ++ [t]) = ((ordT a).map (k :: ·) ++ ordL (k + 1) l) ++ _
    rw [ordL_snoc l t (k + 1), List.append_assoc, show k + 1 + l.length = k + (a :: l).length by simp; omega]
mutual
theorem ord_at : ∀ {t : Tr} {p : List Nat}, p ∈ ordT t → ∃ u, atT t (iL p) = some u
  | .v x, p, h => by
    rw [List.mem_singleton.mp h]
    exact ⟨_, rfl⟩
  | .f s as, p, h => by
    have h : p ∈ ordL 0 as ++ [[]] := h
    rcases List.mem_append.mp h with h | h
    · obtain ⟨i, a, q, e, rfl, h2⟩ := ordL_at h
      obtain ⟨u, hu⟩ := h2
      refine ⟨u, ?_⟩
      show (arg (.f s as) ((0 + i : Nat) : Int)).bind (fun a => atT a (iL q)) = some u
      unfold arg
      rw [if_pos (Int.natCast_nonneg _)]
      show (as[((0 + i : Nat) : Int).toNat]?).bind _ = _
      rw [Int.toNat_natCast, Nat.zero_add, e]
      exact hu
    · rw [List.mem_singleton.mp h]
      exact ⟨_, rfl⟩
theorem ordL_at : ∀ {l : List Tr} {k : Nat} {p : List Nat}, p ∈ ordL k l → ∃ (i : Nat) (a : Tr) (q : List Nat), l[i]? = some a ∧ p = (k + i) :: q ∧ ∃ u, atT a (iL q) = some u
  | [], _, _, h => by cases h
  | t :: l, k, p, h => by
    have h : p ∈ (ordT t).map (k :: ·) ++ ordL (k + 1) l := h
    rcases List.mem_append.mp h with h | h
    · obtain ⟨q, hq, rfl⟩ := List.mem_map.mp h
      exact ⟨0, t, q, rfl, rfl, ord_at hq⟩
    · obtain ⟨i, a, q, e, rfl, h2⟩ := ordL_at h
      exact ⟨i + 1, a, q, e, by rw [show k + 1 + i = k + (i + 1) by omega], h2⟩
end
/-! ### the first step -/
def firstK (s : List Rl) (t : Tr) (p : List Nat) : Option (Nat × Tr) := (List.range s.length).findSome? fun k => (stepR s t (iL p) k).map fun r => (k, r)
def firstR (s : List Rl) (t : Tr) : Option (List Nat × Nat × Tr) := (ordT t).findSome? fun p => (firstK s t p).map fun q => (p, q)
theorem find_hit {α β : Type} {f : α → Option β} {l : List α} {i : Nat} {a : α} {b : β} (h : (l.take i).findSome? f = none) (e : l[i]? = some a) (hb : f a = some b) : l.findSome? f = some b := by
  have el : l = l.take i ++ a :: l.drop (i + 1) := by
    have hi := (List.getElem?_eq_some_iff.mp e).1
    have := List.take_append_drop i l
    rw [List.drop_eq_getElem_cons hi, (List.getElem?_eq_some_iff.mp e).2] at this
    exact this.symm
  rw [el, List.findSome?_append, h, List.findSome?_cons, hb]
  rfl
theorem find_step {α β : Type} {f : α → Option β} {l : List α} {i : Nat} {a : α} (h : (l.take i).findSome? f = none) (e : l[i]? = some a) (hb : f a = none) : (l.take (i + 1)).findSome? f = none := by
  rw [List.take_add_one, e]
  show (l.take i ++ [a]).findSome? f = none
  rw [List.findSome?_append, h, List.findSome?_cons, hb]
  rfl
theorem firstR_ok {s : List Rl} (hs : SysOk s) {t r : Tr} {p : List Nat} {k : Nat} (ht : t.ok) (e : firstR s t = some (p, k, r)) : r.ok ∧ r.n ≤ 21 * t.n ∧ r.h ≤ t.h + 6 := by
  unfold firstR at e
  obtain ⟨q, hq, e⟩ := List.exists_of_findSome?_eq_some e
  rw [Option.map_eq_some_iff] at e
  obtain ⟨z, hz, e⟩ := e
  cases e
  unfold firstK at hz
  obtain ⟨j, hj, hz⟩ := List.exists_of_findSome?_eq_some hz
  rw [Option.map_eq_some_iff] at hz
  obtain ⟨w, hw, hz⟩ := hz
  cases hz
  exact step_ok hs ht hw
theorem firstK_v {s : List Rl} (hs : SysOk s) {t : Tr} {p : List Nat} {x : Str} (h : atT t (iL p) = some (.v x)) : firstK s t p = none := by
  unfold firstK
  rw [List.findSome?_eq_none_iff]
  intro k hk
  have hk := List.mem_range.mp hk
  have e : s[k]? = some s[k] := List.getElem?_eq_getElem hk
  rw [stepR_none h e (hit_v (hs.2 _ (List.getElem_mem hk)) x)]
  rfl
/-! ### normal forms -/
abbrev St2 := List Nat × Nat
def s2D (w : St2) : D := .tup [.tup ((iL w.1).map .int), .int w.2]
def nfR (s : List Rl) : Nat → Tr → List St2 → Option (Tr × List St2)
  | n, t, acc => match firstR s t with
    | none => some (t, acc)
    | some (p, k, r) => if big r = true then none else match n with
      | 0 => none
      | n + 1 => nfR s n r (acc ++ [(p, k)])
end Sd
set_option maxHeartbeats 1000000
/-! T6: all steps, derivations. -/
namespace Sd
open PySem PySem.Spec PyProof.Rows L2
variable [Tb]
theorem sp_s2 (w : St2) : sp 2 (s2D w) := sp_tup (n := 1) fun d hd => by
  rcases List.mem_cons.mp hd with rfl | hd
  · exact sp_tup (n := 0) fun d hd => by
      obtain ⟨i, _, rfl⟩ := List.mem_map.mp hd
      exact sp_int
  · rw [List.mem_singleton.mp hd]
    exact sp_int
theorem pl_s2 (w : St2) : pl (s2D w) = true := pls_all fun d hd => by
  rcases List.mem_cons.mp hd with rfl | hd
  · exact pls_all fun d hd => by
      obtain ⟨i, _, rfl⟩ := List.mem_map.mp hd
      rfl
  · rw [List.mem_singleton.mp hd]
    rfl
/-- a step as it is asked for: any place, any number -/
abbrev Ask := List Int × Int
def askD (a : Ask) : D := .tup [posI a.1, .int a.2]
theorem s2_ask (w : St2) : s2D w = askD (iL w.1, (w.2 : Int)) := rfl
theorem askD_inj {a b : Ask} (h : askD a = askD b) : a = b := by
  obtain ⟨p, n⟩ := a
  obtain ⟨q, m⟩ := b
  unfold askD at h
  simp only [D.tup.injEq, List.cons.injEq, and_true, D.int.injEq] at h
  rw [posI_inj h.1, h.2]
theorem sp_ask (w : Ask) : sp 2 (askD w) := sp_tup (n := 1) fun d hd => by
  rcases List.mem_cons.mp hd with rfl | hd
  · exact sp_posI _
  · rw [List.mem_singleton.mp hd]
    exact sp_int
theorem pl_ask (w : Ask) : pl (askD w) = true := pls_all fun d hd => by
  rcases List.mem_cons.mp hd with rfl | hd
  · exact pl_posI _
  · rw [List.mem_singleton.mp hd]
    rfl
def stepI (s : List Rl) (t : Tr) (a : Ask) : Option Tr := if 0 ≤ a.2 ∧ a.2 < (s.length : Int) then stepR s t a.1 a.2.toNat else none
/-! ### all steps -/
abbrev Sc := St2 × Tr
def scD (w : Sc) : D := .tup [s2D w.1, w.2.d]
def succK (s : List Rl) (t : Tr) (p : List Nat) : List Sc := (List.range s.length).filterMap fun k => (stepR s t (iL p) k).map fun r => ((p, k), r)
def succR (s : List Rl) (t : Tr) : List Sc := t.poss.flatMap (succK s t)
theorem succ_mem {s : List Rl} {t : Tr} {w : Sc} : w ∈ succR s t ↔ w.1.1 ∈ t.poss ∧ w.1.2 < s.length ∧ stepR s t (iL w.1.1) w.1.2 = some w.2 := by
  unfold succR succK
  rw [List.mem_flatMap]
  constructor
  · rintro ⟨p, hp, hw⟩
    rw [List.mem_filterMap] at hw
    obtain ⟨k, hk, e⟩ := hw
    rw [Option.map_eq_some_iff] at e
    obtain ⟨r, e, rfl⟩ := e
    exact ⟨hp, List.mem_range.mp hk, e⟩
  · rintro ⟨h1, h2, h3⟩
    refine ⟨w.1.1, h1, ?_⟩
    rw [List.mem_filterMap]
    exact ⟨w.1.2, List.mem_range.mpr h2, by rw [h3]; rfl⟩
mutual
theorem pos_of : ∀ {p : List Int} {t u : Tr}, atT t p = some u → ∃ q ∈ t.poss, p = iL q
  | [], t, u, _ => ⟨[], poss_nil t, rfl⟩
  | k :: p, t, u, h => by
    have h : (arg t k).bind (fun a => atT a p) = some u := h
    rw [Option.bind_eq_some_iff] at h
    obtain ⟨a, ha, h⟩ := h
    obtain ⟨q, hq, rfl⟩ := pos_of h
    unfold arg at ha
    split at ha
    · rename_i h0
      refine ⟨k.toNat :: q, ?_, by show k :: iL q = (k.toNat : Int) :: iL q; rw [Int.toNat_of_nonneg h0]⟩
      have poss_as : t.poss = [] :: poL 0 t.as := by cases t <;> rfl
      rw [poss_as]
      refine List.mem_cons_of_mem _ ?_
      have : ∀ (l : List Tr) (j i : Nat), l[i]? = some a → (j + i) :: q ∈ poL j l := fun l => by
        induction l with
        | nil => intro j i h; simp at h
        | cons b l ih =>
          intro j i h
          show (j + i) :: q ∈ b.poss.map (j :: ·) ++ poL (j + 1) l
          cases i with
          | zero =>
            simp at h
            subst h
            exact List.mem_append_left _ (List.mem_map.mpr ⟨q, hq, rfl⟩)
          | succ i =>
            have := ih (j + 1) i (by simpa using h)
            rw [show j + (i + 1) = j + 1 + i by omega]
            exact List.mem_append_right _ this
      have := this t.as 0 k.toNat ha
      rw [Nat.zero_add] at this
      exact this
    · cases ha
end
theorem stepR_at {s : List Rl} {t r : Tr} {p : List Int} {k : Nat} (h : stepR s t p k = some r) : ∃ u, atT t p = some u := by
  unfold stepR at h
  rw [Option.bind_eq_some_iff] at h
  obtain ⟨u, hu, _⟩ := h
  exact ⟨u, hu⟩
/-- a step that is asked for is among all steps, or none -/
theorem stepI_mem {s : List Rl} {t r : Tr} {a : Ask} : stepI s t a = some r ↔ ∃ w ∈ succR s t, askD a = s2D w.1 ∧ w.2 = r := by
  constructor
  · intro h
    unfold stepI at h
    split at h
    · rename_i hc
      obtain ⟨u, hu⟩ := stepR_at h
      obtain ⟨q, hq, e⟩ := pos_of hu
      refine ⟨((q, a.2.toNat), r), succ_mem.mpr ⟨hq, by dsimp only; omega, by rw [← e]; exact h⟩, ?_, rfl⟩
      rw [s2_ask]
      dsimp only
      rw [← e, Int.toNat_of_nonneg hc.1]
    · cases h
  · rintro ⟨w, hw, e, rfl⟩
    obtain ⟨h1, h2, h3⟩ := succ_mem.mp hw
    have := askD_inj (e.trans (s2_ask w.1))
    subst this
    unfold stepI
    rw [if_pos ⟨Int.natCast_nonneg _, by dsimp only; omega⟩]
    exact h3
/-- the answers among all steps -/
def asked (s : List Rl) (t : Tr) (a : Ask) (c : Tr → Bool) : List Tr := ((succR s t).filter fun w => decide (s2D w.1 = askD a) && c w.2).map (·.2)
theorem asked_all {s : List Rl} {t : Tr} {a : Ask} {c : Tr → Bool} : ∀ u ∈ asked s t a c, stepI s t a = some u ∧ c u = true := fun u hu => by
  unfold asked at hu
  obtain ⟨w, hw, rfl⟩ := List.mem_map.mp hu
  obtain ⟨h1, h2⟩ := List.mem_filter.mp hw
  rw [Bool.and_eq_true, decide_eq_true_eq] at h2
  exact ⟨stepI_mem.mpr ⟨w, h1, h2.1.symm, rfl⟩, h2.2⟩
theorem asked_in {s : List Rl} {t u : Tr} {a : Ask} {c : Tr → Bool} (h : stepI s t a = some u) (hc : c u = true) : u ∈ asked s t a c := by
  obtain ⟨w, hw, e, rfl⟩ := stepI_mem.mp h
  unfold asked
  exact List.mem_map.mpr ⟨w, List.mem_filter.mpr ⟨hw, by rw [Bool.and_eq_true, decide_eq_true_eq]; exact ⟨e.symm, hc⟩⟩, rfl⟩
/-! ### derivations -/
inductive Dr where
  | ok (t : Tr) | stp | lim
def derR (s : List Rl) (t : Tr) : List Ask → Dr
  | [] => .ok t
  | a :: r => match stepI s t a with
    | none => .stp
    | some u => if big u = true then .lim else derR s u r
def ledR (s : List Rl) (t : Tr) : List Ask → Option Tr
  | [] => some t
  | a :: r => match stepI s t a with
    | none => none
    | some u => ledR s u r
theorem stepI_ok {s : List Rl} (hs : SysOk s) {t r : Tr} {a : Ask} (ht : t.ok) (h : stepI s t a = some r) : r.ok ∧ r.n ≤ 21 * t.n ∧ r.h ≤ t.h + 6 := by
  unfold stepI at h
  split at h
  · exact step_ok hs ht h
  · cases h
/-! ### comprehensions over the list in a slot -/
section
theorem lc_gs {α : Type} {own : List Nat} {xs : List α} {en f : α → D} {c : α → Bool} {k : Nat} {wg : WG} {wt : WT} {we : WE} {s1 : S} {P : M → S → Prop} (st : α → S) (hk : (wipeD s1 own)[k]? = some (some (.ml (xs.map en)))) (hl : xs.length ≤ sizeLine) (nd : own.Nodup) (op : ownP s1 own) (hj : ∀ v ∈ own, v < s1.length)
    (hg : ∀ x ∈ xs, ∀ Q : S → Prop, Q (st x) → wg (.p (en x)) (wipeD s1 own) Q) (hw : ∀ x ∈ xs, wipeD (st x) own = wipeD s1 own)
    (ht : ∀ x ∈ xs, ∀ Q : Bool → S → Prop, Q (c x) (st x) → wt (st x) Q noR)
    (he : ∀ x ∈ xs, c x = true → ∀ Q : M → S → Prop, Q (.p (f x)) (st x) → we (st x) Q noR) (hP : P (.ml ((xs.filter c).map f)) s1) :
    ownP s1 own ∧ ∃ W : Nat → Nat → List D → S → Prop, (∃ m, W 0 m [] (wipeD s1 own)) ∧ ∀ i m acc s, W i m acc s → (∀ v ∈ own, v < s1.length → s[v]? = some none) ∧ lcTurn own wg wt we s1 P W i m acc s (gSlot k s i) := by
  refine ⟨op, fun i m acc s => m = xs.length - i ∧ i ≤ xs.length ∧ acc = ((xs.take i).filter c).map f ∧ s = wipeD s1 own, ⟨xs.length, by omega, by omega, rfl, rfl⟩, ?_⟩
  rintro i m acc s ⟨rfl, hi, rfl, rfl⟩
  refine ⟨fun v hv h => wipeD_none hv h, ?_⟩
  rw [show gSlot k (wipeD s1 own) i = some (((xs.map en)[i]?).map M.p) by unfold gSlot; rw [hk]]
  rw [List.getElem?_map]
  by_cases hi2 : i < xs.length
  · have e : xs[i]? = some xs[i] := List.getElem?_eq_getElem hi2
    have hm : xs[i] ∈ xs := List.getElem_mem hi2
    rw [e]
    have et : xs.take (i + 1) = xs.take i ++ [xs[i]] := by rw [List.take_add_one, e]; rfl
    refine hg _ hm _ (ht _ hm _ ?_)
    by_cases hc : c xs[i] = true
    · rw [if_pos hc]
      refine he _ hm hc _ ⟨?_, xs.length - (i + 1), by omega, rfl, hi2, ?_, hw _ hm⟩
      · rw [List.length_map]
        have h1 := List.length_filter_le c (xs.take i)
        rw [List.length_take] at h1
        omega
      · rw [et, List.filter_append, List.map_append, List.filter_cons_of_pos hc]
        rfl
    · rw [if_neg hc]
      refine ⟨xs.length - (i + 1), by omega, rfl, hi2, ?_, hw _ hm⟩
      rw [et, List.filter_append, List.map_append, List.filter_cons_of_neg hc]
      simp
  · have ei : i = xs.length := by omega
    subst ei
    rw [List.getElem?_eq_none (Nat.le_refl _)]
    show P (.ml _) (restD s1 (wipeD s1 own) own)
    rw [rest_wipe nd hj, List.take_length]
    exact hP
theorem lc_xs {α : Type} {j : Nat} {xs : List α} {en : α → D} {k : Nat} {wt : WT} {we : WE} {s1 : S} {P : M → S → Prop} (c : α → Bool) (f : α → D) (hk : (s1.set j none)[k]? = some (some (.ml (xs.map en)))) (hl : xs.length ≤ sizeLine) (op : ownP s1 [j]) (hj : j < s1.length)
    (ht : ∀ x ∈ xs, ∀ Q : Bool → S → Prop, Q (c x) (s1.set j (some (.p (en x)))) → wt (s1.set j (some (.p (en x)))) Q noR)
    (he : ∀ x ∈ xs, c x = true → ∀ Q : M → S → Prop, Q (.p (f x)) (s1.set j (some (.p (en x)))) → we (s1.set j (some (.p (en x)))) Q noR) (hP : P (.ml ((xs.filter c).map f)) s1) :
    ownP s1 [j] ∧ ∃ W : Nat → Nat → List D → S → Prop, (∃ m, W 0 m [] (wipeD s1 [j])) ∧ ∀ i m acc s, W i m acc s → (∀ v ∈ [j], v < s1.length → s[v]? = some none) ∧ lcTurn [j] (gN j) wt we s1 P W i m acc s (gSlot k s i) :=
  lc_gs (fun x => s1.set j (some (.p (en x)))) hk hl (by simp) op (fun v hv => by rw [List.mem_singleton.mp hv]; exact hj) (fun x _ Q q => by
    show j < (s1.set j none).length ∧ Q ((s1.set j none).set j (some (.p (en x))))
    rw [set_set]
    exact ⟨by rw [List.length_set]; exact hj, q⟩) (fun x _ => set_set _ _ _ _) ht he hP
theorem lc_xms {α : Type} {j : Nat} {xs : List α} {en : α → D} {k : Nat} {we : WE} {s1 : S} {P : M → S → Prop} (f : α → D) (hk : (s1.set j none)[k]? = some (some (.ml (xs.map en)))) (hl : xs.length ≤ sizeLine) (op : ownP s1 [j]) (hj : j < s1.length)
    (he : ∀ x ∈ xs, ∀ Q : M → S → Prop, Q (.p (f x)) (s1.set j (some (.p (en x)))) → we (s1.set j (some (.p (en x)))) Q noR) (hP : P (.ml (xs.map f)) s1) :
    ownP s1 [j] ∧ ∃ W : Nat → Nat → List D → S → Prop, (∃ m, W 0 m [] (wipeD s1 [j])) ∧ ∀ i m acc s, W i m acc s → (∀ v ∈ [j], v < s1.length → s[v]? = some none) ∧ lcTurn [j] (gN j) tYs we s1 P W i m acc s (gSlot k s i) :=
  lc_xs (fun _ => true) f hk hl op hj (fun _ _ _ q => q) (fun x hx _ => he x hx) (by rw [List.filter_eq_self.mpr fun _ _ => rfl]; exact hP)
/-- [f a b for a, b in l if c]: two names -/
theorem lc_2s {α : Type} {j k : Nat} {xs : List α} {en1 en2 : α → D} {kk : Nat} {wt : WT} {we : WE} {s1 : S} {P : M → S → Prop} (c : α → Bool) (f : α → D) (hkk : ((s1.set k none).set j none)[kk]? = some (some (.ml (xs.map fun x => D.tup [en1 x, en2 x])))) (hl : xs.length ≤ sizeLine) (op : ownP s1 [j, k]) (hj : j < s1.length) (hk : k < s1.length) (hjk : j ≠ k)
    (ht : ∀ x ∈ xs, ∀ Q : Bool → S → Prop, Q (c x) ((s1.set j (some (.p (en1 x)))).set k (some (.p (en2 x)))) → wt ((s1.set j (some (.p (en1 x)))).set k (some (.p (en2 x)))) Q noR)
    (he : ∀ x ∈ xs, c x = true → ∀ Q : M → S → Prop, Q (.p (f x)) ((s1.set j (some (.p (en1 x)))).set k (some (.p (en2 x)))) → we ((s1.set j (some (.p (en1 x)))).set k (some (.p (en2 x)))) Q noR) (hP : P (.ml ((xs.filter c).map f)) s1) :
    ownP s1 [j, k] ∧ ∃ W : Nat → Nat → List D → S → Prop, (∃ m, W 0 m [] (wipeD s1 [j, k])) ∧ ∀ i m acc s, W i m acc s → (∀ v ∈ [j, k], v < s1.length → s[v]? = some none) ∧ lcTurn [j, k] (gTup 2 (gCons (gN j) (gCons (gN k) gNil))) wt we s1 P W i m acc s (gSlot kk s i) := by
  have cm : ∀ (s : S) (a b : Option M), (s.set j a).set k b = (s.set k b).set j a := fun s a b => List.set_comm _ _ hjk
  refine lc_gs (fun x => (s1.set j (some (.p (en1 x)))).set k (some (.p (en2 x)))) hkk hl (by simp [hjk]) op (fun v hv => ?_) (fun x _ Q q => ⟨rfl, ?_, ?_, ?_⟩) (fun x _ => ?_) ht he hP
  · rcases List.mem_cons.mp hv with rfl | hv
    · exact hj
    · rw [List.mem_singleton.mp hv]; exact hk
  · show j < ((s1.set k none).set j none).length
    simp [hj]
  · show k < (((s1.set k none).set j none).set j _).length
    simp [hk]
  · show Q ((((s1.set k none).set j none).set j (some (.p (en1 x)))).set k (some (.p (en2 x))))
    rw [set_set, cm, set_set, ← cm]
    exact q
  · show ((((s1.set j (some (.p (en1 x)))).set k (some (.p (en2 x)))).set k none).set j none) = (s1.set k none).set j none
    rw [set_set, cm, set_set]
end
end Sd
set_option maxHeartbeats 1000000
namespace Sd
open PySem PySem.Spec PyProof.Rows L2
variable [Tb]
def topS (i : Nat) : Stmt := PySem.Challenge.pw_subside_k10_steps_and_derivations.main.body.getD i (.Pass ⟨0, 0, 0, 0⟩)
abbrev s_is_variable : Stmt := topS 8
abbrev s_inner : Stmt := topS 9
abbrev s_same : Stmt := topS 10
abbrev s_parts : Stmt := topS 11
abbrev s_size : Stmt := topS 12
abbrev s_depth : Stmt := topS 13
abbrev s_positions : Stmt := topS 14
abbrev s_at : Stmt := topS 15
abbrev s_put : Stmt := topS 16
abbrev s_need_small : Stmt := topS 17
abbrev s_variables : Stmt := topS 18
abbrev s_rebuilt : Stmt := topS 19
abbrev s_measure : Stmt := topS 20
abbrev s_apply : Stmt := topS 21
abbrev s_match : Stmt := topS 22
abbrev s_rewritten : Stmt := topS 24
abbrev s_step : Stmt := topS 25
abbrev s_derive : Stmt := topS 26
abbrev s_successors : Stmt := topS 27
abbrev s__law_start : Stmt := topS 29
abbrev s__law_fill : Stmt := topS 30
abbrev s__law_take : Stmt := topS 31
abbrev s__law_signature : Stmt := topS 32
abbrev s__law_term : Stmt := topS 33
abbrev s__law_places : Stmt := topS 34
abbrev s__law_at : Stmt := topS 35
abbrev s__law_put : Stmt := topS 36
abbrev s__law_names : Stmt := topS 37
abbrev s__law_apply : Stmt := topS 38
abbrev s__law_match : Stmt := topS 39
abbrev s__law_rule : Stmt := topS 41
abbrev s__law_system : Stmt := topS 42
abbrev s__law_steps : Stmt := topS 43
abbrev s__law_led : Stmt := topS 44
abbrev s__law_large : Stmt := topS 45
abbrev s__law_all : Stmt := topS 46
abbrev s__law_told : Stmt := topS 47
abbrev s_law : Stmt := topS 48
/-- what stands in the program -/
structure Tk (G : Pg) : Prop where
  b_ValueError : G.mg "ValueError" = none
  b_all : G.mg "all" = none
  b_any : G.mg "any" = none
  b_int : G.mg "int" = none
  b_isinstance : G.mg "isinstance" = none
  b_len : G.mg "len" = none
  b_list : G.mg "list" = none
  b_max : G.mg "max" = none
  b_range : G.mg "range" = none
  b_str : G.mg "str" = none
  b_tuple : G.mg "tuple" = none
  b_zip : G.mg "zip" = none
  g_MOST_DEPTH : ∃ u, G.mg "MOST_DEPTH" = some u ∧ RelV (.int 40) u
  g_MOST_NODES : ∃ u, G.mg "MOST_NODES" = some u ∧ RelV (.int 400) u
  x_LimitError : XcR G "LimitError" G.cv.lim
  r_LimitError : ∀ F, ExcR G.cv F .lim G.cv.lim none
  x_StepError : XcR G "StepError" G.cv.stp
  r_StepError : ∀ F, ExcR G.cv F .stp G.cv.stp none
  n_LimitError : XcM G "LimitError" G.cv.lim (clOf true false false)
  n_StepError : XcM G "StepError" G.cv.stp (clOf false true false)
  i_LimitError_StepError : XcI G G.cv.lim "StepError" false
  i_LimitError_SubsideError : XcI G G.cv.lim "SubsideError" true
  i_StepError_LimitError : XcI G G.cv.stp "LimitError" false
  i_StepError_SubsideError : XcI G G.cv.stp "SubsideError" true
  i_StepError_TextError : XcI G G.cv.stp "TextError" false
  i_StepError_ValueError : XcI G G.cv.stp "ValueError" true
  at_is_variable : Stands G "is_variable" s_is_variable ["t"]
  at_inner : Stands G "inner" s_inner ["t"]
  at_same : Stands G "same" s_same ["s", "t"]
  at_parts : Stands G "parts" s_parts ["t"]
  at_size : Stands G "size" s_size ["t"]
  at_depth : Stands G "depth" s_depth ["t"]
  at_positions : Stands G "positions" s_positions ["t"]
  at_at : Stands G "at" s_at ["t", "p"]
  at_put : Stands G "put" s_put ["t", "p", "s"]
  at_need_small : Stands G "need_small" s_need_small ["nodes", "deep"]
  at_variables : Stands G "variables" s_variables ["t"]
  at_rebuilt : Stands G "rebuilt" s_rebuilt ["t", "change"]
  at_measure : Stands G "measure" s_measure ["s", "t"]
  m_apply : StandsM G "apply" s_apply ["s", "t"]
  at_match : Stands G "match" s_match ["pattern", "t"]
  at_rewritten : Stands G "rewritten" s_rewritten ["system", "t", "place", "number"]
  at_step : Stands G "step" s_step ["system", "t", "one"]
  at_derive : Stands G "derive" s_derive ["system", "t", "steps"]
  at_successors : Stands G "successors" s_successors ["system", "t"]
  at__law_start : Stands G "_law_start" s__law_start ["_law_script"]
  at__law_fill : Stands G "_law_fill" s__law_fill ["_law_c"]
  at__law_take : Stands G "_law_take" s__law_take ["_law_c", "_law_many"]
  at__law_signature : Stands G "_law_signature" s__law_signature ["_law_c"]
  at__law_term : Stands G "_law_term" s__law_term ["_law_c", "_law_sig", "_law_names_here", "_law_depth"]
  at__law_places : Stands G "_law_places" s__law_places ["_law_t"]
  at__law_at : Stands G "_law_at" s__law_at ["_law_t", "_law_p"]
  at__law_put : Stands G "_law_put" s__law_put ["_law_t", "_law_p", "_law_s"]
  at__law_names : Stands G "_law_names" s__law_names ["_law_t"]
  at__law_apply : Stands G "_law_apply" s__law_apply ["_law_s", "_law_t"]
  at__law_match : Stands G "_law_match" s__law_match ["_law_pattern", "_law_t", "_law_s"]
  at__law_rule : Stands G "_law_rule" s__law_rule ["_law_c", "_law_sig", "_law_names_here", "_law_depth"]
  at__law_system : Stands G "_law_system" s__law_system ["_law_c", "_law_sig", "_law_most"]
  at__law_steps : Stands G "_law_steps" s__law_steps ["_law_system_here", "_law_t"]
  at__law_led : Stands G "_law_led" s__law_led ["_law_system_here", "_law_t", "_law_steps_here"]
  at__law_large : Stands G "_law_large" s__law_large ["_law_t"]
  at__law_all : Stands G "_law_all" s__law_all ["_law_system_here", "_law_t"]
  at__law_told : Stands G "_law_told" s__law_told ["_law_system_here", "_law_t", "_law_steps_here", "_law_single"]
  at_law : Stands G "law" s_law ["_law_script"]
/-! ### is_variable -/
theorem sc_is_variable : FnScope ["t"] ["t"] (defScope s_is_variable) := ⟨rfl, rfl, rfl, by decide +kernel, rfl, by decide +kernel, by decide +kernel⟩
def w_is_variable : WS := (sRet (eIsi .str (eV 0)))
theorem ok_is_variable {G : Pg} (T : Tk G) {k : Nat} {g : SpecD} (mono : MonoG g) (len : ∀ ms Q R, g ms Q R → ms.length = 1) (hw : ∀ ms Q R, g ms Q R → w_is_variable (endN [] Q R) (startD 1 ms)) : Df G "is_variable" ["t"] (k + 1) [] g :=
  Df.mk' T.at_is_variable sc_is_variable mono len (by decide) (fun f cdv A outer s H E hr => by
    have hN := sc_is_variable.nd
    have hx : ∀ σ, PassesAt (L2.CX G.pr G.w) (cxG G ["t"] "is_variable" s_is_variable f cdv A outer s H E) σ E := passAt (takes_of rfl rfl rfl rfl)
    exact (dss_one (ds_ret (de_isi .str (by rfl) T.b_isinstance (by rfl) T.b_str boot_str (de_pv (pv 0)))))) hw
/-! ### inner -/
theorem sc_inner : FnScope ["t"] ["t"] (defScope s_inner) := ⟨rfl, rfl, rfl, by decide +kernel, rfl, by decide +kernel, by decide +kernel⟩
def w_inner (gis_variable : SpecD) : WS := (sRet (eIf (tN (eCall [] gis_variable (aC (eV 0) aN))) (eTup aN) (eB oIx (eV 0) (eC (.int 1)))))
theorem ok_inner {G : Pg} (T : Tk G) {gis_variable : SpecD} {k : Nat} (Dis_variable : Df G "is_variable" ["t"] k [] gis_variable) {g : SpecD} (mono : MonoG g) (len : ∀ ms Q R, g ms Q R → ms.length = 1) (hw : ∀ ms Q R, g ms Q R → w_inner gis_variable (endN [] Q R) (startD 1 ms)) : Df G "inner" ["t"] (k + 1) [] g :=
  Df.mk' T.at_inner sc_inner mono len (by decide) (fun f cdv A outer s H E hr => by
    have hN := sc_inner.nd
    have hx : ∀ σ, PassesAt (L2.CX G.pr G.w) (cxG G ["t"] "inner" s_inner f cdv A outer s H E) σ E := passAt (takes_of rfl rfl rfl rfl)
    exact (dss_one (ds_ret (de_if (dt_tru (de_f Dis_variable hr hx (da_cons (de_pv (pv 0)) da_nil))) (de_tup da_nil) (de_ix (hu_of hr) (de_pv (pv 0)) (de_int)))))) hw
/-! ### same -/
theorem sc_same : FnScope ["s", "t", "left", "one", "other"] ["s", "t"] (defScope s_same) := ⟨rfl, rfl, rfl, by decide +kernel, rfl, by decide +kernel, by decide +kernel⟩
def w_same (gis_variable : SpecD) : WS := (sSeq (sAsg (eLst (aC (eTup (aC (eV 0) (aC (eV 1) aN))) aN)) (gN 2)) (sSeq (sWhile (tN (eV 2)) (sSeq (sAsg (eMt .lst oPop (eV 2) aN) (gTup 2 (gCons (gN 3) (gCons (gN 4) gNil)))) (sIf (tOr (tN (eCall [] gis_variable (aC (eV 3) aN))) (tN (eCall [] gis_variable (aC (eV 4) aN)))) (sIf (tOr (tB (eB oNe (eCall [] gis_variable (aC (eV 3) aN)) (eCall [] gis_variable (aC (eV 4) aN)))) (tB (eB oNe (eV 3) (eV 4)))) (sRet (eC (.bl false))) sNx) (sIf (tOr (tB (eB oNe (eB oIx (eV 3) (eC (.int 0))) (eB oIx (eV 4) (eC (.int 0))))) (tB (eB oNe (eFn oLen (aC (eB oIx (eV 3) (eC (.int 1))) aN)) (eFn oLen (aC (eB oIx (eV 4) (eC (.int 1))) aN))))) (sRet (eC (.bl false))) (sExp (eMt .lst oExt (eV 2) (aC (eFn oLz (aC (eB oIx (eV 3) (eC (.int 1))) (aC (eB oIx (eV 4) (eC (.int 1))) aN))) aN))))))) (sRet (eC (.bl true)))))
theorem ok_same {G : Pg} (T : Tk G) {gis_variable : SpecD} {k : Nat} (Dis_variable : Df G "is_variable" ["t"] k [] gis_variable) {g : SpecD} (mono : MonoG g) (len : ∀ ms Q R, g ms Q R → ms.length = 2) (hw : ∀ ms Q R, g ms Q R → w_same gis_variable (endN [] Q R) (startD 5 ms)) : Df G "same" ["s", "t"] (k + 1) [] g :=
  Df.mk' T.at_same sc_same mono len (by decide) (fun f cdv A outer s H E hr => by
    have hN := sc_same.nd
    have hx : ∀ σ, PassesAt (L2.CX G.pr G.w) (cxG G ["s", "t", "left", "one", "other"] "same" s_same f cdv A outer s H E) σ E := passAt (takes_of rfl rfl rfl rfl)
    exact (dss_cons (ds_set (i := 2) hN rfl (by first | exact .inl rfl | exact .inr rfl) (de_lst (da_cons (de_tup (da_cons (de_pv (pv 0)) (da_cons (de_pv (pv 1)) da_nil))) da_nil))) (dss_cons (ds_while (passes_of rfl) (dt_tru (de_pv (pv 2))) (dss_cons (ds_asg (de_mt0 (t := .lst) PySem.F.plainAttrs_list PySem.F.slot_list_pop PySem.F.type_list_pop mt_pop md_pop (de_pv (pv 2))) (dg_tup rfl (dgs_cons (dg_name hN (i := 3) rfl (by first | exact .inl rfl | exact .inr rfl)) (dgs_cons (dg_name hN (i := 4) rfl (by first | exact .inl rfl | exact .inr rfl)) dgs_nil)))) (dss_one (ds_if (DW.dt (dw_or (dt_tru (de_f Dis_variable hr hx (da_cons (de_pv (pv 3)) da_nil))) (dw_or1 (dt_tru (de_f Dis_variable hr hx (da_cons (de_pv (pv 4)) da_nil)))))) (dss_one (ds_if (DW.dt (dw_or (dt_cmp (op_neQ (hu182 hr)) od_ne (de_f Dis_variable hr hx (da_cons (de_pv (pv 3)) da_nil)) (de_f Dis_variable hr hx (da_cons (de_pv (pv 4)) da_nil)) (nomark _)) (dw_or1 (dt_cmp (op_neQ (hu182 hr)) od_ne (de_pv (pv 3)) (de_pv (pv 4)) (nomark _))))) (dss_one (ds_ret (de_bl))) dss_nil)) (dss_one (ds_if (DW.dt (dw_or (dt_cmp (op_neQ (hu182 hr)) od_ne (de_ix (hu_of hr) (de_pv (pv 3)) (de_int)) (de_ix (hu_of hr) (de_pv (pv 4)) (de_int)) (nomark _)) (dw_or1 (dt_cmp (op_neQ (hu182 hr)) od_ne (de_callB call_lenA cd_len (by rfl) T.b_len boot_len (da_cons (de_ix (hu_of hr) (de_pv (pv 3)) (de_int)) da_nil)) (de_callB call_lenA cd_len (by rfl) T.b_len boot_len (da_cons (de_ix (hu_of hr) (de_pv (pv 4)) (de_int)) da_nil)) (nomark _))))) (dss_one (ds_ret (de_bl))) (dss_one (ds_expr (de_mt (t := .lst) PySem.F.plainAttrs_list PySem.F.slot_list_extend PySem.F.type_list_extend mt_extG md_extend (de_pv (pv 2)) (da_cons (de_lzip rfl (by rfl) T.b_list (by rfl) T.b_zip (da_cons (de_ix (hu_of hr) (de_pv (pv 3)) (de_int)) (da_cons (de_ix (hu_of hr) (de_pv (pv 4)) (de_int)) da_nil))) da_nil)))))))))) (dss_one (ds_ret (de_bl)))))) hw
/-! ### parts -/
theorem sc_parts : FnScope ["t", "found", "left", "one"] ["t"] (defScope s_parts) := ⟨rfl, rfl, rfl, by decide +kernel, rfl, by decide +kernel, by decide +kernel⟩
def w_parts (ginner : SpecD) : WS := (sSeq (sAsg (eLst aN) (gN 1)) (sSeq (sAsg (eLst (aC (eV 0) aN)) (gN 2)) (sSeq (sWhile (tN (eV 2)) (sSeq (sAsg (eMt .lst oPop (eV 2) aN) (gN 3)) (sSeq (sExp (eMt .lst oApp (eV 1) (aC (eV 3) aN))) (sExp (eMt .lst oExt (eV 2) (aC (eRev (eCall [] ginner (aC (eV 3) aN))) aN)))))) (sRet (eV 1)))))
theorem ok_parts {G : Pg} (T : Tk G) {ginner : SpecD} {k : Nat} (Dinner : Df G "inner" ["t"] k [] ginner) {g : SpecD} (mono : MonoG g) (len : ∀ ms Q R, g ms Q R → ms.length = 1) (hw : ∀ ms Q R, g ms Q R → w_parts ginner (endN [] Q R) (startD 4 ms)) : Df G "parts" ["t"] (k + 1) [] g :=
  Df.mk' T.at_parts sc_parts mono len (by decide) (fun f cdv A outer s H E hr => by
    have hN := sc_parts.nd
    have hx : ∀ σ, PassesAt (L2.CX G.pr G.w) (cxG G ["t", "found", "left", "one"] "parts" s_parts f cdv A outer s H E) σ E := passAt (takes_of rfl rfl rfl rfl)
    exact (dss_cons (ds_set (i := 1) hN rfl (by first | exact .inl rfl | exact .inr rfl) (de_lst da_nil)) (dss_cons (ds_set (i := 2) hN rfl (by first | exact .inl rfl | exact .inr rfl) (de_lst (da_cons (de_pv (pv 0)) da_nil))) (dss_cons (ds_while (passes_of rfl) (dt_tru (de_pv (pv 2))) (dss_cons (ds_set (i := 3) hN rfl (by first | exact .inl rfl | exact .inr rfl) (de_mt0 (t := .lst) PySem.F.plainAttrs_list PySem.F.slot_list_pop PySem.F.type_list_pop mt_pop md_pop (de_pv (pv 2)))) (dss_cons (ds_expr (de_mt (t := .lst) PySem.F.plainAttrs_list PySem.F.slot_list_append PySem.F.type_list_append mt_append md_append (de_pv (pv 1)) (da_cons (de_pv (pv 3)) da_nil))) (dss_one (ds_expr (de_mt (t := .lst) PySem.F.plainAttrs_list PySem.F.slot_list_extend PySem.F.type_list_extend mt_extG md_extend (de_pv (pv 2)) (da_cons (de_rev (de_f Dinner hr hx (da_cons (de_pv (pv 3)) da_nil))) da_nil))))))) (dss_one (ds_ret (de_pv (pv 1)))))))) hw
/-! ### size -/
theorem sc_size : FnScope ["t"] ["t"] (defScope s_size) := ⟨rfl, rfl, rfl, by decide +kernel, rfl, by decide +kernel, by decide +kernel⟩
def w_size (gparts : SpecD) : WS := (sRet (eFn oLen (aC (eCall [] gparts (aC (eV 0) aN)) aN)))
theorem ok_size {G : Pg} (T : Tk G) {gparts : SpecD} {k : Nat} (Dparts : Df G "parts" ["t"] k [] gparts) {g : SpecD} (mono : MonoG g) (len : ∀ ms Q R, g ms Q R → ms.length = 1) (hw : ∀ ms Q R, g ms Q R → w_size gparts (endN [] Q R) (startD 1 ms)) : Df G "size" ["t"] (k + 1) [] g :=
  Df.mk' T.at_size sc_size mono len (by decide) (fun f cdv A outer s H E hr => by
    have hN := sc_size.nd
    have hx : ∀ σ, PassesAt (L2.CX G.pr G.w) (cxG G ["t"] "size" s_size f cdv A outer s H E) σ E := passAt (takes_of rfl rfl rfl rfl)
    exact (dss_one (ds_ret (de_callB call_lenA cd_len (by rfl) T.b_len boot_len (da_cons (de_f Dparts hr hx (da_cons (de_pv (pv 0)) da_nil)) da_nil))))) hw
/-! ### depth -/
theorem sc_depth : FnScope ["t", "level", "count", "below", "one"] ["t"] (defScope s_depth) := ⟨rfl, rfl, rfl, by decide +kernel, rfl, by decide +kernel, by decide +kernel⟩
def w_depth (ginner : SpecD) : WS := (sSeq (sAsg (eLst (aC (eV 0) aN)) (gN 1)) (sSeq (sAsg (eC (.int 0)) (gN 2)) (sSeq (sWhile (tN (eV 1)) (sSeq (sAug (fun i j => i + j) 2 (eC (.int 1))) (sSeq (sAsg (eLst aN) (gN 3)) (sSeq (sFor (iSeq (fun j => decide (j ∈ ([1] : List Nat))) (eV 1)) (gN 4) (sExp (eMt .lst oExt (eV 3) (aC (eCall [] ginner (aC (eV 4) aN)) aN)))) (sAsg (eV 3) (gN 1)))))) (sRet (eV 2)))))
theorem ok_depth {G : Pg} (T : Tk G) {ginner : SpecD} {k : Nat} (Dinner : Df G "inner" ["t"] k [] ginner) {g : SpecD} (mono : MonoG g) (len : ∀ ms Q R, g ms Q R → ms.length = 1) (hw : ∀ ms Q R, g ms Q R → w_depth ginner (endN [] Q R) (startD 5 ms)) : Df G "depth" ["t"] (k + 1) [] g :=
  Df.mk' T.at_depth sc_depth mono len (by decide) (fun f cdv A outer s H E hr => by
    have hN := sc_depth.nd
    have hx : ∀ σ, PassesAt (L2.CX G.pr G.w) (cxG G ["t", "level", "count", "below", "one"] "depth" s_depth f cdv A outer s H E) σ E := passAt (takes_of rfl rfl rfl rfl)
    exact (dss_cons (ds_set (i := 1) hN rfl (by first | exact .inl rfl | exact .inr rfl) (de_lst (da_cons (de_pv (pv 0)) da_nil))) (dss_cons (ds_set (i := 2) hN rfl (by first | exact .inl rfl | exact .inr rfl) (de_int)) (dss_cons (ds_while (passes_of rfl) (dt_tru (de_pv (pv 1))) (dss_cons (ds_aug (i := 2) hN rfl (by first | exact .inl rfl | exact .inr rfl) (de_int) ip_add) (dss_cons (ds_set (i := 3) hN rfl (by first | exact .inl rfl | exact .inr rfl) (de_lst da_nil)) (dss_cons (ds_for [1] (passes_of rfl) rfl (di_seq (de_pv (pv 1))) (dg_name hN (i := 4) rfl (by first | exact .inl rfl | exact .inr rfl)) (dss_one (ds_expr (de_mt (t := .lst) PySem.F.plainAttrs_list PySem.F.slot_list_extend PySem.F.type_list_extend mt_extG md_extend (de_pv (pv 3)) (da_cons (de_f Dinner hr hx (da_cons (de_pv (pv 4)) da_nil)) da_nil))))) (dss_one (ds_set (i := 1) hN rfl (by first | exact .inl rfl | exact .inr rfl) (de_pv (pv 3)))))))) (dss_one (ds_ret (de_pv (pv 2)))))))) hw
/-! ### positions -/
theorem sc_positions : FnScope ["t", "found", "left", "arguments", "k", "place", "one"] ["t"] (defScope s_positions) := ⟨rfl, rfl, rfl, by decide +kernel, rfl, by decide +kernel, by decide +kernel⟩
def w_positions (ginner : SpecD) : WS := (sSeq (sAsg (eLst aN) (gN 1)) (sSeq (sAsg (eLst (aC (eTup (aC (eTup aN) (aC (eV 0) aN))) aN)) (gN 2)) (sSeq (sWhile (tN (eV 2)) (sSeq (sAsg (eMt .lst oPop (eV 2) aN) (gTup 2 (gCons (gN 5) (gCons (gN 6) gNil)))) (sSeq (sExp (eMt .lst oApp (eV 1) (aC (eV 5) aN))) (sSeq (sAsg (eCall [] ginner (aC (eV 6) aN)) (gN 3)) (sFor (iRg3 (aC (eB oSub (eFn oLen (aC (eV 3) aN)) (eC (.int 1))) (aC (eNeg (eC (.int 1))) (aC (eNeg (eC (.int 1))) aN)))) (gN 4) (sExp (eMt .lst oApp (eV 2) (aC (eTup (aC (eB oAdd (eV 5) (eTup (aC (eV 4) aN))) (aC (eB oIx (eV 3) (eV 4)) aN))) aN)))))))) (sRet (eV 1)))))
theorem ok_positions {G : Pg} (T : Tk G) {ginner : SpecD} {k : Nat} (Dinner : Df G "inner" ["t"] k [] ginner) {g : SpecD} (mono : MonoG g) (len : ∀ ms Q R, g ms Q R → ms.length = 1) (hw : ∀ ms Q R, g ms Q R → w_positions ginner (endN [] Q R) (startD 7 ms)) : Df G "positions" ["t"] (k + 1) [] g :=
  Df.mk' T.at_positions sc_positions mono len (by decide) (fun f cdv A outer s H E hr => by
    have hN := sc_positions.nd
    have hx : ∀ σ, PassesAt (L2.CX G.pr G.w) (cxG G ["t", "found", "left", "arguments", "k", "place", "one"] "positions" s_positions f cdv A outer s H E) σ E := passAt (takes_of rfl rfl rfl rfl)
    exact (dss_cons (ds_set (i := 1) hN rfl (by first | exact .inl rfl | exact .inr rfl) (de_lst da_nil)) (dss_cons (ds_set (i := 2) hN rfl (by first | exact .inl rfl | exact .inr rfl) (de_lst (da_cons (de_tup (da_cons (de_tup da_nil) (da_cons (de_pv (pv 0)) da_nil))) da_nil))) (dss_cons (ds_while (passes_of rfl) (dt_tru (de_pv (pv 2))) (dss_cons (ds_asg (de_mt0 (t := .lst) PySem.F.plainAttrs_list PySem.F.slot_list_pop PySem.F.type_list_pop mt_pop md_pop (de_pv (pv 2))) (dg_tup rfl (dgs_cons (dg_name hN (i := 5) rfl (by first | exact .inl rfl | exact .inr rfl)) (dgs_cons (dg_name hN (i := 6) rfl (by first | exact .inl rfl | exact .inr rfl)) dgs_nil)))) (dss_cons (ds_expr (de_mt (t := .lst) PySem.F.plainAttrs_list PySem.F.slot_list_append PySem.F.type_list_append mt_append md_append (de_pv (pv 1)) (da_cons (de_pv (pv 5)) da_nil))) (dss_cons (ds_set (i := 3) hN rfl (by first | exact .inl rfl | exact .inr rfl) (de_f Dinner hr hx (da_cons (de_pv (pv 6)) da_nil))) (dss_one (ds_for [] (passes_of rfl) rfl (di_rg3 (by rfl) T.b_range (da_cons (de_op op_sub od_sub (de_callB call_lenA cd_len (by rfl) T.b_len boot_len (da_cons (de_pv (pv 3)) da_nil)) (de_int)) (da_cons (de_neg (de_int)) (da_cons (de_neg (de_int)) da_nil)))) (dg_name hN (i := 4) rfl (by first | exact .inl rfl | exact .inr rfl)) (dss_one (ds_expr (de_mt (t := .lst) PySem.F.plainAttrs_list PySem.F.slot_list_append PySem.F.type_list_append mt_append md_append (de_pv (pv 2)) (da_cons (de_tup (da_cons (de_op op_addG od_add (de_pv (pv 5)) (de_tup (da_cons (de_pv (pv 4)) da_nil))) (da_cons (de_ix (hu_of hr) (de_pv (pv 3)) (de_pv (pv 4))) da_nil))) da_nil)))))))))) (dss_one (ds_ret (de_pv (pv 1)))))))) hw
/-! ### at -/
theorem sc_at : FnScope ["t", "p", "k", "arguments"] ["t", "p"] (defScope s_at) := ⟨rfl, rfl, rfl, by decide +kernel, rfl, by decide +kernel, by decide +kernel⟩
def w_at (ginner : SpecD) : WS := (sSeq (sFor (iSeq (fun j => decide (j ∈ ([1] : List Nat))) (eV 1)) (gN 2) (sSeq (sAsg (eCall [] ginner (aC (eV 0) aN)) (gN 3)) (sSeq (sIf (tNot (tB (eCh oLe oLt (eC (.int 0)) (eV 2) (eFn oLen (aC (eV 3) aN))))) (sRaise .stp) sNx) (sAsg (eB oIx (eV 3) (eV 2)) (gN 0))))) (sRet (eV 0)))
theorem ok_at {G : Pg} (T : Tk G) {ginner : SpecD} {k : Nat} (Dinner : Df G "inner" ["t"] k [] ginner) {g : SpecD} (mono : MonoG g) (len : ∀ ms Q R, g ms Q R → ms.length = 2) (hw : ∀ ms Q R, g ms Q R → w_at ginner (endN [] Q R) (startD 4 ms)) : Df G "at" ["t", "p"] (k + 1) [] g :=
  Df.mk' T.at_at sc_at mono len (by decide) (fun f cdv A outer s H E hr => by
    have hN := sc_at.nd
    have hx : ∀ σ, PassesAt (L2.CX G.pr G.w) (cxG G ["t", "p", "k", "arguments"] "at" s_at f cdv A outer s H E) σ E := passAt (takes_of rfl rfl rfl rfl)
    exact (dss_cons (ds_for [1] (passes_of rfl) rfl (di_seq (de_pv (pv 1))) (dg_name hN (i := 2) rfl (by first | exact .inl rfl | exact .inr rfl)) (dss_cons (ds_set (i := 3) hN rfl (by first | exact .inl rfl | exact .inr rfl) (de_f Dinner hr hx (da_cons (de_pv (pv 0)) da_nil))) (dss_cons (ds_if (dt_not (dt_chain op_le op_lt od_le od_lt (de_int) (de_pv (pv 2)) (de_callB call_lenA cd_len (by rfl) T.b_len boot_len (da_cons (de_pv (pv 3)) da_nil)))) (dss_one (ds_raise rfl (takes_of rfl rfl rfl rfl) (T.x_StepError.mk (by rfl)) T.r_StepError)) dss_nil) (dss_one (ds_set (i := 0) hN rfl (by first | exact .inl rfl | exact .inr rfl) (de_ix (hu_of hr) (de_pv (pv 3)) (de_pv (pv 2)))))))) (dss_one (ds_ret (de_pv (pv 0)))))) hw
/-! ### put -/
theorem sc_put : FnScope ["t", "p", "s", "way", "k", "arguments", "one"] ["t", "p", "s"] (defScope s_put) := ⟨rfl, rfl, rfl, by decide +kernel, rfl, by decide +kernel, by decide +kernel⟩
def w_put (gdepth : SpecD) (ginner : SpecD) (gneed_small : SpecD) (gsize : SpecD) : WS := (sSeq (sAsg (eLst aN) (gN 3)) (sSeq (sFor (iSeq (fun j => decide (j ∈ ([1] : List Nat))) (eV 1)) (gN 4) (sSeq (sAsg (eCall [] ginner (aC (eV 0) aN)) (gN 5)) (sSeq (sIf (tNot (tB (eCh oLe oLt (eC (.int 0)) (eV 4) (eFn oLen (aC (eV 5) aN))))) (sRaise .stp) sNx) (sSeq (sExp (eMt .lst oApp (eV 3) (aC (eTup (aC (eV 0) (aC (eV 4) aN))) aN))) (sAsg (eB oIx (eV 5) (eV 4)) (gN 0)))))) (sSeq (sFor (iSeq (fun j => decide (j ∈ ([] : List Nat))) (eRev (eV 3))) (gTup 2 (gCons (gN 6) (gCons (gN 4) gNil))) (sAsg (eTup (aC (eB oIx (eV 6) (eC (.int 0))) (aC (eB oAdd (eB oAdd (eSl (eB oIx (eV 6) (eC (.int 1))) pN (pS (eV 4))) (eTup (aC (eV 2) aN))) (eSl (eB oIx (eV 6) (eC (.int 1))) (pS (eB oAdd (eV 4) (eC (.int 1)))) pN)) aN))) (gN 2))) (sSeq (sExp (eCall [] gneed_small (aC (eCall [] gsize (aC (eV 2) aN)) (aC (eCall [] gdepth (aC (eV 2) aN)) aN)))) (sRet (eV 2))))))
theorem ok_put {G : Pg} (T : Tk G) {gdepth : SpecD} {ginner : SpecD} {gneed_small : SpecD} {gsize : SpecD} {k : Nat} (Ddepth : Df G "depth" ["t"] k [] gdepth) (Dinner : Df G "inner" ["t"] k [] ginner) (Dneed_small : Df G "need_small" ["nodes", "deep"] k [] gneed_small) (Dsize : Df G "size" ["t"] k [] gsize) {g : SpecD} (mono : MonoG g) (len : ∀ ms Q R, g ms Q R → ms.length = 3) (hw : ∀ ms Q R, g ms Q R → w_put gdepth ginner gneed_small gsize (endN [] Q R) (startD 7 ms)) : Df G "put" ["t", "p", "s"] (k + 1) [] g :=
  Df.mk' T.at_put sc_put mono len (by decide) (fun f cdv A outer s H E hr => by
    have hN := sc_put.nd
    have hx : ∀ σ, PassesAt (L2.CX G.pr G.w) (cxG G ["t", "p", "s", "way", "k", "arguments", "one"] "put" s_put f cdv A outer s H E) σ E := passAt (takes_of rfl rfl rfl rfl)
    exact (dss_cons (ds_set (i := 3) hN rfl (by first | exact .inl rfl | exact .inr rfl) (de_lst da_nil)) (dss_cons (ds_for [1] (passes_of rfl) rfl (di_seq (de_pv (pv 1))) (dg_name hN (i := 4) rfl (by first | exact .inl rfl | exact .inr rfl)) (dss_cons (ds_set (i := 5) hN rfl (by first | exact .inl rfl | exact .inr rfl) (de_f Dinner hr hx (da_cons (de_pv (pv 0)) da_nil))) (dss_cons (ds_if (dt_not (dt_chain op_le op_lt od_le od_lt (de_int) (de_pv (pv 4)) (de_callB call_lenA cd_len (by rfl) T.b_len boot_len (da_cons (de_pv (pv 5)) da_nil)))) (dss_one (ds_raise rfl (takes_of rfl rfl rfl rfl) (T.x_StepError.mk (by rfl)) T.r_StepError)) dss_nil) (dss_cons (ds_expr (de_mt (t := .lst) PySem.F.plainAttrs_list PySem.F.slot_list_append PySem.F.type_list_append mt_append md_append (de_pv (pv 3)) (da_cons (de_tup (da_cons (de_pv (pv 0)) (da_cons (de_pv (pv 4)) da_nil))) da_nil))) (dss_one (ds_set (i := 0) hN rfl (by first | exact .inl rfl | exact .inr rfl) (de_ix (hu_of hr) (de_pv (pv 5)) (de_pv (pv 4))))))))) (dss_cons (ds_for [] (passes_of rfl) rfl (di_seq (de_rev (de_pv (pv 3)))) (dg_tup rfl (dgs_cons (dg_name hN (i := 6) rfl (by first | exact .inl rfl | exact .inr rfl)) (dgs_cons (dg_name hN (i := 4) rfl (by first | exact .inl rfl | exact .inr rfl)) dgs_nil))) (dss_one (ds_set (i := 2) hN rfl (by first | exact .inl rfl | exact .inr rfl) (de_tup (da_cons (de_ix (hu_of hr) (de_pv (pv 6)) (de_int)) (da_cons (de_op op_addG od_add (de_op op_addG od_add (de_sl (de_ix (hu_of hr) (de_pv (pv 6)) (de_int)) dp_none (dp_some (de_pv (pv 4)))) (de_tup (da_cons (de_pv (pv 2)) da_nil))) (de_sl (de_ix (hu_of hr) (de_pv (pv 6)) (de_int)) (dp_some (de_op op_addG od_add (de_pv (pv 4)) (de_int))) dp_none)) da_nil)))))) (dss_cons (ds_expr (de_f Dneed_small hr hx (da_cons (de_f Dsize hr hx (da_cons (de_pv (pv 2)) da_nil)) (da_cons (de_f Ddepth hr hx (da_cons (de_pv (pv 2)) da_nil)) da_nil)))) (dss_one (ds_ret (de_pv (pv 2))))))))) hw
/-! ### need_small -/
theorem sc_need_small : FnScope ["nodes", "deep"] ["nodes", "deep"] (defScope s_need_small) := ⟨rfl, rfl, rfl, by decide +kernel, rfl, by decide +kernel, by decide +kernel⟩
def w_need_small : WS := (sIf (tOr (tB (eB oGt (eV 0) (eC (.int 400)))) (tB (eB oGt (eV 1) (eC (.int 40))))) (sRaise .lim) sNx)
theorem ok_need_small {G : Pg} (T : Tk G) {k : Nat} {g : SpecD} (mono : MonoG g) (len : ∀ ms Q R, g ms Q R → ms.length = 2) (hw : ∀ ms Q R, g ms Q R → w_need_small (endN [] Q R) (startD 2 ms)) : Df G "need_small" ["nodes", "deep"] (k + 1) [] g :=
  Df.mk' T.at_need_small sc_need_small mono len (by decide) (fun f cdv A outer s H E hr => by
    have hN := sc_need_small.nd
    have hx : ∀ σ, PassesAt (L2.CX G.pr G.w) (cxG G ["nodes", "deep"] "need_small" s_need_small f cdv A outer s H E) σ E := passAt (takes_of rfl rfl rfl rfl)
    exact (dss_one (ds_if (DW.dt (dw_or (dt_cmp op_gt od_gt (de_pv (pv 0)) (de_gl (d := .int 400) T.g_MOST_NODES (fun _ => rfl)) (nomark _)) (dw_or1 (dt_cmp op_gt od_gt (de_pv (pv 1)) (de_gl (d := .int 40) T.g_MOST_DEPTH (fun _ => rfl)) (nomark _))))) (dss_one (ds_raise rfl (takes_of rfl rfl rfl rfl) (T.x_LimitError.mk (by rfl)) T.r_LimitError)) dss_nil))) hw
/-! ### variables -/
theorem sc_variables : FnScope ["t", "one"] ["t"] (defScope s_variables) := ⟨rfl, rfl, rfl, by decide +kernel, rfl, by decide +kernel, by decide +kernel⟩
def w_variables (gis_variable : SpecD) (gparts : SpecD) : WS := (sRet (eFn oTuple (aC (eDc [1] (iSeq (fun j => decide (j ∉ ([1] : List Nat))) (eCall [] gparts (aC (eV 0) aN))) (gN 1) (tN (eCall [] gis_variable (aC (eV 1) aN))) (eV 1) (eC (.bl true))) aN)))
theorem ok_variables {G : Pg} (T : Tk G) {gis_variable : SpecD} {gparts : SpecD} {k : Nat} (Dis_variable : Df G "is_variable" ["t"] k [] gis_variable) (Dparts : Df G "parts" ["t"] k [] gparts) {g : SpecD} (mono : MonoG g) (len : ∀ ms Q R, g ms Q R → ms.length = 1) (hw : ∀ ms Q R, g ms Q R → w_variables gis_variable gparts (endN [] Q R) (startD 2 ms)) : Df G "variables" ["t"] (k + 1) [] g :=
  Df.mk' T.at_variables sc_variables mono len (by decide) (fun f cdv A outer s H E hr => by
    have hN := sc_variables.nd
    have hx : ∀ σ, PassesAt (L2.CX G.pr G.w) (cxG G ["t", "one"] "variables" s_variables f cdv A outer s H E) σ E := passAt (takes_of rfl rfl rfl rfl)
    exact (dss_one (ds_ret (de_callTy (call_tupA rfl) cd_tuple (by rfl) T.b_tuple boot_tuple (da_cons (de_dcN (own := [("one", 1)]) (hu_of hr) rfl hN (di_seq (de_f Dparts hr hx (da_cons (de_pv (pv 0)) da_nil))) (blkOk_by (by rfl)) (by decide) (fun _ _ _ _ _ => (dgo_name hN (i := 1) rfl (by first | exact .inl rfl | exact .inr rfl))) (fun _ _ _ _ _ => (dts_one (dt_tru (de_f Dis_variable hr passNo (da_cons (de_pv (pv 1)) da_nil))))) (fun _ _ _ _ _ => (de_pv (pv 1))) (fun _ _ _ _ _ => (de_bl))) da_nil))))) hw
/-! ### rebuilt -/
theorem sc_rebuilt : FnScope ["t", "change", "done", "left", "one", "ready", "many", "arguments", "part"] ["t", "change"] (defScope s_rebuilt) := ⟨rfl, rfl, rfl, by decide +kernel, rfl, by decide +kernel, by decide +kernel⟩
def w_rebuilt (gis_variable : SpecD) (L : Lam) : WS := (sSeq (sAsg (eLst aN) (gN 2)) (sSeq (sAsg (eLst (aC (eTup (aC (eV 0) (aC (eC (.bl false)) aN))) aN)) (gN 3)) (sSeq (sWhile (tN (eV 3)) (sSeq (sAsg (eMt .lst oPop (eV 3) aN) (gTup 2 (gCons (gN 4) (gCons (gN 5) gNil)))) (sIf (tN (eCall [] gis_variable (aC (eV 4) aN))) (sExp (eMt .lst oApp (eV 2) (aC (eAct L 1 (aC (eV 4) aN)) aN))) (sIf (tN (eV 5)) (sSeq (sAsg (eFn oLen (aC (eB oIx (eV 4) (eC (.int 1))) aN)) (gN 6)) (sSeq (sAsg (eSl (eV 2) (pS (eB oSub (eFn oLen (aC (eV 2) aN)) (eV 6))) pN) (gN 7)) (sSeq (sAsg (eSl (eV 2) pN (pS (eB oSub (eFn oLen (aC (eV 2) aN)) (eV 6)))) (gN 2)) (sExp (eMt .lst oApp (eV 2) (aC (eTup (aC (eB oIx (eV 4) (eC (.int 0))) (aC (eFn oTuple (aC (eV 7) aN)) aN))) aN)))))) (sSeq (sExp (eMt .lst oApp (eV 3) (aC (eTup (aC (eV 4) (aC (eC (.bl true)) aN))) aN))) (sExp (eMt .lst oExt (eV 3) (aC (eLc [8] (iSeq (fun j => decide (j ∉ ([8] : List Nat))) (eRev (eB oIx (eV 4) (eC (.int 1))))) (gN 8) tYs (eTup (aC (eV 8) (aC (eC (.bl false)) aN)))) aN)))))))) (sRet (eB oIx (eV 2) (eC (.int 0)))))))
theorem ok_rebuilt {G : Pg} (T : Tk G) {gis_variable : SpecD} {k : Nat} (hk : 1 ≤ k) (Dis_variable : Df G "is_variable" ["t"] k [] gis_variable) {g : Lam → SpecD} (mono : ∀ L, MonoL L.W → MonoG (g L)) (len : ∀ L ms Q R, g L ms Q R → ms.length = 2) (hw : ∀ L, MonoL L.W → ∀ ms Q R, g L ms Q R → w_rebuilt gis_variable L (endN [1] Q R) (startD 9 ms)) : DfL G "rebuilt" ["t", "change"] (k + 1) [1] g :=
  DfL.mk' hk T.at_rebuilt sc_rebuilt mono len (by decide) (fun L f cdv A outer s H E hr hr1 lr => by
    have hN := sc_rebuilt.nd
    have hx : ∀ σ, PassesAt (L2.CX G.pr G.w) (cxG G ["t", "change", "done", "left", "one", "ready", "many", "arguments", "part"] "rebuilt" s_rebuilt f cdv A outer s H E) σ E := passAt (takes_of rfl rfl rfl rfl)
    exact (dss_cons (ds_set (i := 2) hN rfl (by first | exact .inl rfl | exact .inr rfl) (de_lst da_nil)) (dss_cons (ds_set (i := 3) hN rfl (by first | exact .inl rfl | exact .inr rfl) (de_lst (da_cons (de_tup (da_cons (de_pv (pv 0)) (da_cons (de_bl) da_nil))) da_nil))) (dss_cons (ds_while (passes_of rfl) (dt_tru (de_pv (pv 3))) (dss_cons (ds_asg (de_mt0 (t := .lst) PySem.F.plainAttrs_list PySem.F.slot_list_pop PySem.F.type_list_pop mt_pop md_pop (de_pv (pv 3))) (dg_tup rfl (dgs_cons (dg_name hN (i := 4) rfl (by first | exact .inl rfl | exact .inr rfl)) (dgs_cons (dg_name hN (i := 5) rfl (by first | exact .inl rfl | exact .inr rfl)) dgs_nil)))) (dss_one (ds_if (dt_tru (de_f Dis_variable hr hx (da_cons (de_pv (pv 4)) da_nil))) (dss_one (ds_expr (de_mt (t := .lst) PySem.F.plainAttrs_list PySem.F.slot_list_append PySem.F.type_list_append mt_append md_append (de_pv (pv 2)) (da_cons (de_act lr hr1 (da_cons (de_pv (pv 4)) da_nil) rfl (by first | exact .inl rfl | exact .inr (.inl rfl) | exact .inr (.inr rfl))) da_nil)))) (dss_one (ds_if (dt_tru (de_pv (pv 5))) (dss_cons (ds_set (i := 6) hN rfl (by first | exact .inl rfl | exact .inr rfl) (de_callB call_lenA cd_len (by rfl) T.b_len boot_len (da_cons (de_ix (hu_of hr) (de_pv (pv 4)) (de_int)) da_nil))) (dss_cons (ds_set (i := 7) hN rfl (by first | exact .inl rfl | exact .inr rfl) (de_sl (de_pv (pv 2)) (dp_some (de_op op_sub od_sub (de_callB call_lenA cd_len (by rfl) T.b_len boot_len (da_cons (de_pv (pv 2)) da_nil)) (de_pv (pv 6)))) dp_none)) (dss_cons (ds_set (i := 2) hN rfl (by first | exact .inl rfl | exact .inr rfl) (de_sl (de_pv (pv 2)) dp_none (dp_some (de_op op_sub od_sub (de_callB call_lenA cd_len (by rfl) T.b_len boot_len (da_cons (de_pv (pv 2)) da_nil)) (de_pv (pv 6)))))) (dss_one (ds_expr (de_mt (t := .lst) PySem.F.plainAttrs_list PySem.F.slot_list_append PySem.F.type_list_append mt_append md_append (de_pv (pv 2)) (da_cons (de_tup (da_cons (de_ix (hu_of hr) (de_pv (pv 4)) (de_int)) (da_cons (de_callTy (call_tupA rfl) cd_tuple (by rfl) T.b_tuple boot_tuple (da_cons (de_pv (pv 7)) da_nil)) da_nil))) da_nil))))))) (dss_cons (ds_expr (de_mt (t := .lst) PySem.F.plainAttrs_list PySem.F.slot_list_append PySem.F.type_list_append mt_append md_append (de_pv (pv 3)) (da_cons (de_tup (da_cons (de_pv (pv 4)) (da_cons (de_bl) da_nil))) da_nil))) (dss_one (ds_expr (de_mt (t := .lst) PySem.F.plainAttrs_list PySem.F.slot_list_extend PySem.F.type_list_extend mt_extG md_extend (de_pv (pv 3)) (da_cons (de_lcN (own := [("part", 8)]) rfl hN (di_seq (de_rev (de_ix (hu_of hr) (de_pv (pv 4)) (de_int)))) (blkOk_by (by rfl)) (by decide) (fun _ _ _ _ _ => (dgo_name hN (i := 8) rfl (by first | exact .inl rfl | exact .inr rfl))) (fun _ _ _ _ _ => dts_nil) (fun _ _ _ _ _ => (de_tup (da_cons (de_pv (pv 8)) (da_cons (de_bl) da_nil))))) da_nil))))))))))) (dss_one (ds_ret (de_ix (hu_of hr) (de_pv (pv 2)) (de_int)))))))) hw
/-! ### measure -/
theorem sc_measure : FnScope ["s", "t", "nodes", "deep", "sizes", "left", "more", "x", "one", "level", "part"] ["s", "t"] (defScope s_measure) := ⟨rfl, rfl, rfl, by decide +kernel, rfl, by decide +kernel, by decide +kernel⟩
def w_measure (gdepth : SpecD) (ginner : SpecD) (gis_variable : SpecD) (gsize : SpecD) (gvariables : SpecD) : WS := (sSeq (sAsg (eC (.int 0)) (gN 2)) (sSeq (sAsg (eC (.int 0)) (gN 3)) (sSeq (sAsg (eDc [7] (iSeq (fun j => decide (j ∉ ([7] : List Nat))) (eCall [] gvariables (aC (eV 1) aN))) (gN 7) (tB (eB oIn (eV 7) (eV 0))) (eV 7) (eTup (aC (eCall [] gsize (aC (eB oIx (eV 0) (eV 7)) aN)) (aC (eCall [] gdepth (aC (eB oIx (eV 0) (eV 7)) aN)) aN)))) (gN 4)) (sSeq (sAsg (eLst (aC (eTup (aC (eV 1) (aC (eC (.int 0)) aN))) aN)) (gN 5)) (sSeq (sWhile (tN (eV 5)) (sSeq (sAsg (eMt .lst oPop (eV 5) aN) (gTup 2 (gCons (gN 8) (gCons (gN 9) gNil)))) (sSeq (sAsg (eIf (tN (eCall [] gis_variable (aC (eV 8) aN))) (eMt .dic oGet (eV 4) (aC (eV 8) (aC (eTup (aC (eC (.int 1)) (aC (eC (.int 1)) aN))) aN))) (eTup (aC (eC (.int 1)) (aC (eC (.int 1)) aN)))) (gN 6)) (sSeq (sAug (fun i j => i + j) 2 (eB oIx (eV 6) (eC (.int 0)))) (sSeq (sAsg (eFn oMax (aC (eV 3) (aC (eB oAdd (eV 9) (eB oIx (eV 6) (eC (.int 1)))) aN))) (gN 3)) (sExp (eMt .lst oExt (eV 5) (aC (eLc [10] (iSeq (fun j => decide (j ∉ ([10] : List Nat))) (eCall [] ginner (aC (eV 8) aN))) (gN 10) tYs (eTup (aC (eV 10) (aC (eB oAdd (eV 9) (eC (.int 1))) aN)))) aN)))))))) (sRet (eTup (aC (eV 2) (aC (eV 3) aN)))))))))
theorem ok_measure {G : Pg} (T : Tk G) {gdepth : SpecD} {ginner : SpecD} {gis_variable : SpecD} {gsize : SpecD} {gvariables : SpecD} {k : Nat} (Ddepth : Df G "depth" ["t"] k [] gdepth) (Dinner : Df G "inner" ["t"] k [] ginner) (Dis_variable : Df G "is_variable" ["t"] k [] gis_variable) (Dsize : Df G "size" ["t"] k [] gsize) (Dvariables : Df G "variables" ["t"] k [] gvariables) {g : SpecD} (mono : MonoG g) (len : ∀ ms Q R, g ms Q R → ms.length = 2) (hw : ∀ ms Q R, g ms Q R → w_measure gdepth ginner gis_variable gsize gvariables (endN [] Q R) (startD 11 ms)) : Df G "measure" ["s", "t"] (k + 1) [] g :=
  Df.mk' T.at_measure sc_measure mono len (by decide) (fun f cdv A outer s H E hr => by
    have hN := sc_measure.nd
    have hx : ∀ σ, PassesAt (L2.CX G.pr G.w) (cxG G ["s", "t", "nodes", "deep", "sizes", "left", "more", "x", "one", "level", "part"] "measure" s_measure f cdv A outer s H E) σ E := passAt (takes_of rfl rfl rfl rfl)
    exact (dss_cons (ds_set (i := 2) hN rfl (by first | exact .inl rfl | exact .inr rfl) (de_int)) (dss_cons (ds_set (i := 3) hN rfl (by first | exact .inl rfl | exact .inr rfl) (de_int)) (dss_cons (ds_setDcN (i := 4) hN rfl rfl (by decide) (own := [("x", 7)]) (hu_of hr) rfl hN (di_seq (de_f Dvariables hr hx (da_cons (de_pv (pv 1)) da_nil))) (blkOk_by (by rfl)) (by decide) (fun _ _ _ _ _ => (dgo_name hN (i := 7) rfl (by first | exact .inl rfl | exact .inr rfl))) (fun _ _ _ _ _ => (dts_one (dt_cmp (op_inA (hu182 hr)) od_in (de_pv (pv 7)) (de_pv (pv 0)) (by rfl)))) (fun _ _ _ _ _ => (de_pv (pv 7))) (fun _ _ _ _ _ => (de_tup (da_cons (de_f Dsize hr passNo (da_cons (de_ix (hu_of hr) (de_pv (pv 0)) (de_pv (pv 7))) da_nil)) (da_cons (de_f Ddepth hr passNo (da_cons (de_ix (hu_of hr) (de_pv (pv 0)) (de_pv (pv 7))) da_nil)) da_nil))))) (dss_cons (ds_set (i := 5) hN rfl (by first | exact .inl rfl | exact .inr rfl) (de_lst (da_cons (de_tup (da_cons (de_pv (pv 1)) (da_cons (de_int) da_nil))) da_nil))) (dss_cons (ds_while (passes_of rfl) (dt_tru (de_pv (pv 5))) (dss_cons (ds_asg (de_mt0 (t := .lst) PySem.F.plainAttrs_list PySem.F.slot_list_pop PySem.F.type_list_pop mt_pop md_pop (de_pv (pv 5))) (dg_tup rfl (dgs_cons (dg_name hN (i := 8) rfl (by first | exact .inl rfl | exact .inr rfl)) (dgs_cons (dg_name hN (i := 9) rfl (by first | exact .inl rfl | exact .inr rfl)) dgs_nil)))) (dss_cons (ds_set (i := 6) hN rfl (by first | exact .inl rfl | exact .inr rfl) (de_if (dt_tru (de_f Dis_variable hr hx (da_cons (de_pv (pv 8)) da_nil))) (de_mt (t := .dic) PySem.F.plainAttrs_dict PySem.F.slot_dict_get PySem.F.type_dict_get (mt_dget2 (hu_of hr)) md_get (de_pv (pv 4)) (da_cons (de_pv (pv 8)) (da_cons (de_tup (da_cons (de_int) (da_cons (de_int) da_nil))) da_nil))) (de_tup (da_cons (de_int) (da_cons (de_int) da_nil))))) (dss_cons (ds_aug (i := 2) hN rfl (by first | exact .inl rfl | exact .inr rfl) (de_ix (hu_of hr) (de_pv (pv 6)) (de_int)) ip_add) (dss_cons (ds_set (i := 3) hN rfl (by first | exact .inl rfl | exact .inr rfl) (de_callB (call_maxA rfl) cd_max (by rfl) T.b_max boot_max (da_cons (de_pv (pv 3)) (da_cons (de_op op_addG od_add (de_pv (pv 9)) (de_ix (hu_of hr) (de_pv (pv 6)) (de_int))) da_nil)))) (dss_one (ds_expr (de_mt (t := .lst) PySem.F.plainAttrs_list PySem.F.slot_list_extend PySem.F.type_list_extend mt_extG md_extend (de_pv (pv 5)) (da_cons (de_lcN (own := [("part", 10)]) rfl hN (di_seq (de_f Dinner hr hx (da_cons (de_pv (pv 8)) da_nil))) (blkOk_by (by rfl)) (by decide) (fun _ _ _ _ _ => (dgo_name hN (i := 10) rfl (by first | exact .inl rfl | exact .inr rfl))) (fun _ _ _ _ _ => dts_nil) (fun _ _ _ _ _ => (de_tup (da_cons (de_pv (pv 10)) (da_cons (de_op op_addG od_add (de_pv (pv 9)) (de_int)) da_nil))))) da_nil))))))))) (dss_one (ds_ret (de_tup (da_cons (de_pv (pv 2)) (da_cons (de_pv (pv 3)) da_nil))))))))))) hw
/-! ### apply -/
theorem sc_apply : FnScope ["s", "t", "nodes", "deep"] ["s", "t"] (defScope s_apply) := ⟨rfl, rfl, rfl, by decide +kernel, rfl, by decide +kernel, by decide +kernel⟩
def w_apply (gmeasure : SpecD) (gneed_small : SpecD) (grebuilt : Lam → SpecD) : WS := (sSeq (sAsg (eCall [] gmeasure (aC (eV 0) (aC (eV 1) aN))) (gTup 2 (gCons (gN 2) (gCons (gN 3) gNil)))) (sSeq (sExp (eCall [] gneed_small (aC (eV 2) (aC (eV 3) aN)))) (sRet (eLam ("apply.<locals>." ++ "<lambda>") grebuilt (lamW (eMt .dic oGet (eV 0) (aC (eV 4) (aC (eV 4) aN)))) (eV 1)))))
theorem ok_apply {G : Pg} (T : Tk G) {gmeasure : SpecD} {gneed_small : SpecD} {grebuilt : Lam → SpecD} {k : Nat} (hk : 1 ≤ k) (Dmeasure : Df G "measure" ["s", "t"] k [] gmeasure) (Dneed_small : Df G "need_small" ["nodes", "deep"] k [] gneed_small) (Drebuilt : DfL G "rebuilt" ["t", "change"] k [1] grebuilt) {g : SpecD} (mono : MonoG g) (len : ∀ ms Q R, g ms Q R → ms.length = 2) (hw : ∀ ms Q R, g ms Q R → w_apply gmeasure gneed_small grebuilt (endN [] Q R) (startD 4 ms)) : Df G "apply" ["s", "t"] (k + 1) [] g :=
  Df.mkM T.m_apply sc_apply mono len (by decide) (fun f c T9 A outer s H E TB hmT huT hr => by
    have hN := sc_apply.nd
    have hx : ∀ σ, PassesAt (L2.CX G.pr G.w) (cxG G ["s", "t", "nodes", "deep"] "apply" s_apply f (.ref c) A outer s H E) σ E := passAt (takes_of rfl rfl rfl rfl)
    exact (dss_cons (ds_asg (de_f Dmeasure hr hx (da_cons (de_pv (pv 0)) (da_cons (de_pv (pv 1)) da_nil))) (dg_tup rfl (dgs_cons (dg_name hN (i := 2) rfl (by first | exact .inl rfl | exact .inr rfl)) (dgs_cons (dg_name hN (i := 3) rfl (by first | exact .inl rfl | exact .inr rfl)) dgs_nil)))) (dss_cons (ds_expr (de_f Dneed_small hr hx (da_cons (de_pv (pv 2)) (da_cons (de_pv (pv 3)) da_nil)))) (dss_one (ds_ret (de_lam Drebuilt hr hx (de_pv (pv 1)) rfl hk TB rfl hmT huT (lamS1_by (by rfl)) (show ("x" : Str) ∉ (["s", "t", "nodes", "deep"] : List Str) by decide) rfl (fun _ _ _ _ _ _ => rfl) (fun _ _ _ _ _ _ hr => (de_mt (t := .dic) PySem.F.plainAttrs_dict PySem.F.slot_dict_get PySem.F.type_dict_get (mt_dget2 (hu_of hr)) md_get (de_pv (pv 0)) (da_cons (de_pv (pv 4)) (da_cons (de_pv (pv 4)) da_nil)))))))))) hw
/-! ### match -/
theorem sc_match : FnScope ["pattern", "t", "found", "left", "one", "other"] ["pattern", "t"] (defScope s_match) := ⟨rfl, rfl, rfl, by decide +kernel, rfl, by decide +kernel, by decide +kernel⟩
def w_match (gis_variable : SpecD) (gsame : SpecD) : WS := (sSeq (sAsg (eDn) (gN 2)) (sSeq (sAsg (eLst (aC (eTup (aC (eV 0) (aC (eV 1) aN))) aN)) (gN 3)) (sSeq (sWhile (tN (eV 3)) (sSeq (sAsg (eMt .lst oPop (eV 3) aN) (gTup 2 (gCons (gN 4) (gCons (gN 5) gNil)))) (sIf (tN (eCall [] gis_variable (aC (eV 4) aN))) (sIf (tB (eB oIn (eV 4) (eV 2))) (sIf (tNot (tN (eCall [] gsame (aC (eB oIx (eV 2) (eV 4)) (aC (eV 5) aN))))) (sRet (eC .non)) sNx) (sAsg (eV 5) (gSb oSt (eV 2) (eV 4)))) (sIf (tOr (tN (eCall [] gis_variable (aC (eV 5) aN))) (tOr (tB (eB oNe (eB oIx (eV 4) (eC (.int 0))) (eB oIx (eV 5) (eC (.int 0))))) (tB (eB oNe (eFn oLen (aC (eB oIx (eV 4) (eC (.int 1))) aN)) (eFn oLen (aC (eB oIx (eV 5) (eC (.int 1))) aN)))))) (sRet (eC .non)) (sExp (eMt .lst oExt (eV 3) (aC (eRev (eFn oLz (aC (eB oIx (eV 4) (eC (.int 1))) (aC (eB oIx (eV 5) (eC (.int 1))) aN)))) aN))))))) (sRet (eV 2)))))
theorem ok_match {G : Pg} (T : Tk G) {gis_variable : SpecD} {gsame : SpecD} {k : Nat} (Dis_variable : Df G "is_variable" ["t"] k [] gis_variable) (Dsame : Df G "same" ["s", "t"] k [] gsame) {g : SpecD} (mono : MonoG g) (len : ∀ ms Q R, g ms Q R → ms.length = 2) (hw : ∀ ms Q R, g ms Q R → w_match gis_variable gsame (endN [] Q R) (startD 6 ms)) : Df G "match" ["pattern", "t"] (k + 1) [] g :=
  Df.mk' T.at_match sc_match mono len (by decide) (fun f cdv A outer s H E hr => by
    have hN := sc_match.nd
    have hx : ∀ σ, PassesAt (L2.CX G.pr G.w) (cxG G ["pattern", "t", "found", "left", "one", "other"] "match" s_match f cdv A outer s H E) σ E := passAt (takes_of rfl rfl rfl rfl)
    exact (dss_cons (ds_set (i := 2) hN rfl (by first | exact .inl rfl | exact .inr rfl) (de_dn)) (dss_cons (ds_set (i := 3) hN rfl (by first | exact .inl rfl | exact .inr rfl) (de_lst (da_cons (de_tup (da_cons (de_pv (pv 0)) (da_cons (de_pv (pv 1)) da_nil))) da_nil))) (dss_cons (ds_while (passes_of rfl) (dt_tru (de_pv (pv 3))) (dss_cons (ds_asg (de_mt0 (t := .lst) PySem.F.plainAttrs_list PySem.F.slot_list_pop PySem.F.type_list_pop mt_pop md_pop (de_pv (pv 3))) (dg_tup rfl (dgs_cons (dg_name hN (i := 4) rfl (by first | exact .inl rfl | exact .inr rfl)) (dgs_cons (dg_name hN (i := 5) rfl (by first | exact .inl rfl | exact .inr rfl)) dgs_nil)))) (dss_one (ds_if (dt_tru (de_f Dis_variable hr hx (da_cons (de_pv (pv 4)) da_nil))) (dss_one (ds_if (dt_cmp (op_inA (hu182 hr)) od_in (de_pv (pv 4)) (de_pv (pv 2)) (by rfl)) (dss_one (ds_if (dt_not (dt_tru (de_f Dsame hr hx (da_cons (de_ix (hu_of hr) (de_pv (pv 2)) (de_pv (pv 4))) (da_cons (de_pv (pv 5)) da_nil))))) (dss_one (ds_ret (de_non))) dss_nil)) (dss_one (ds_asg (de_pv (pv 5)) (dg_sub (cv := G.cv) (E := fun _ => E) (de_pv (pv 2)) (de_pv (pv 4)) (set_any (hu_of hr)) sd_any))))) (dss_one (ds_if (DW.dt (dw_or (dt_tru (de_f Dis_variable hr hx (da_cons (de_pv (pv 5)) da_nil))) (dw_or (dt_cmp (op_neQ (hu182 hr)) od_ne (de_ix (hu_of hr) (de_pv (pv 4)) (de_int)) (de_ix (hu_of hr) (de_pv (pv 5)) (de_int)) (nomark _)) (dw_or1 (dt_cmp (op_neQ (hu182 hr)) od_ne (de_callB call_lenA cd_len (by rfl) T.b_len boot_len (da_cons (de_ix (hu_of hr) (de_pv (pv 4)) (de_int)) da_nil)) (de_callB call_lenA cd_len (by rfl) T.b_len boot_len (da_cons (de_ix (hu_of hr) (de_pv (pv 5)) (de_int)) da_nil)) (nomark _)))))) (dss_one (ds_ret (de_non))) (dss_one (ds_expr (de_mt (t := .lst) PySem.F.plainAttrs_list PySem.F.slot_list_extend PySem.F.type_list_extend mt_extG md_extend (de_pv (pv 3)) (da_cons (de_rev (de_lzip rfl (by rfl) T.b_list (by rfl) T.b_zip (da_cons (de_ix (hu_of hr) (de_pv (pv 4)) (de_int)) (da_cons (de_ix (hu_of hr) (de_pv (pv 5)) (de_int)) da_nil)))) da_nil)))))))))) (dss_one (ds_ret (de_pv (pv 2)))))))) hw
/-! ### rewritten -/
theorem sc_rewritten : FnScope ["system", "t", "place", "number", "found", "left", "right"] ["system", "t", "place", "number"] (defScope s_rewritten) := ⟨rfl, rfl, rfl, by decide +kernel, rfl, by decide +kernel, by decide +kernel⟩
def w_rewritten (gapply : SpecD) (gat : SpecD) (gmatch : SpecD) (gput : SpecD) : WS := (sSeq (sAsg (eB oIx (eV 0) (eV 3)) (gTup 2 (gCons (gN 5) (gCons (gN 6) gNil)))) (sSeq (sAsg (eCall [] gmatch (aC (eV 5) (aC (eCall [] gat (aC (eV 1) (aC (eV 2) aN))) aN))) (gN 4)) (sSeq (sIf (tB (eB (oIs false) (eV 4) (eC .non))) (sRet (eC .non)) sNx) (sRet (eCall [] gput (aC (eV 1) (aC (eV 2) (aC (eCall [] gapply (aC (eFz (eV 4)) (aC (eV 6) aN))) aN))))))))
theorem ok_rewritten {G : Pg} (T : Tk G) {gapply : SpecD} {gat : SpecD} {gmatch : SpecD} {gput : SpecD} {k : Nat} (Dapply : Df G "apply" ["s", "t"] k [] gapply) (Dat : Df G "at" ["t", "p"] k [] gat) (Dmatch : Df G "match" ["pattern", "t"] k [] gmatch) (Dput : Df G "put" ["t", "p", "s"] k [] gput) {g : SpecD} (mono : MonoG g) (len : ∀ ms Q R, g ms Q R → ms.length = 4) (hw : ∀ ms Q R, g ms Q R → w_rewritten gapply gat gmatch gput (endN [] Q R) (startD 7 ms)) : Df G "rewritten" ["system", "t", "place", "number"] (k + 1) [] g :=
  Df.mk' T.at_rewritten sc_rewritten mono len (by decide) (fun f cdv A outer s H E hr => by
    have hN := sc_rewritten.nd
    have hx : ∀ σ, PassesAt (L2.CX G.pr G.w) (cxG G ["system", "t", "place", "number", "found", "left", "right"] "rewritten" s_rewritten f cdv A outer s H E) σ E := passAt (takes_of rfl rfl rfl rfl)
    exact (dss_cons (ds_asg (de_ix (hu_of hr) (de_pv (pv 0)) (de_pv (pv 3))) (dg_tup rfl (dgs_cons (dg_name hN (i := 5) rfl (by first | exact .inl rfl | exact .inr rfl)) (dgs_cons (dg_name hN (i := 6) rfl (by first | exact .inl rfl | exact .inr rfl)) dgs_nil)))) (dss_cons (ds_set (i := 4) hN rfl (by first | exact .inl rfl | exact .inr rfl) (de_f Dmatch hr hx (da_cons (de_pv (pv 5)) (da_cons (de_f Dat hr hx (da_cons (de_pv (pv 1)) (da_cons (de_pv (pv 2)) da_nil))) da_nil)))) (dss_cons (ds_if (dt_cmp op_isG od_is (de_pv (pv 4)) (de_non) (nomark _)) (dss_one (ds_ret (de_non))) dss_nil) (dss_one (ds_ret (de_f Dput hr hx (da_cons (de_pv (pv 1)) (da_cons (de_pv (pv 2)) (da_cons (de_f Dapply hr hx (da_cons (de_fz (de_pv (pv 4))) (da_cons (de_pv (pv 6)) da_nil))) da_nil)))))))))) hw
/-! ### step -/
theorem sc_step : FnScope ["system", "t", "one", "result", "place", "number"] ["system", "t", "one"] (defScope s_step) := ⟨rfl, rfl, rfl, by decide +kernel, rfl, by decide +kernel, by decide +kernel⟩
def w_step (grewritten : SpecD) : WS := (sSeq (sAsg (eV 2) (gTup 2 (gCons (gN 4) (gCons (gN 5) gNil)))) (sSeq (sIf (tNot (tB (eCh oLe oLt (eC (.int 0)) (eV 5) (eFn oLen (aC (eV 0) aN))))) (sRaise .stp) sNx) (sSeq (sAsg (eCall [] grewritten (aC (eV 0) (aC (eV 1) (aC (eV 4) (aC (eV 5) aN))))) (gN 3)) (sSeq (sIf (tB (eB (oIs false) (eV 3) (eC .non))) (sRaise .stp) sNx) (sRet (eV 3))))))
theorem ok_step {G : Pg} (T : Tk G) {grewritten : SpecD} {k : Nat} (Drewritten : Df G "rewritten" ["system", "t", "place", "number"] k [] grewritten) {g : SpecD} (mono : MonoG g) (len : ∀ ms Q R, g ms Q R → ms.length = 3) (hw : ∀ ms Q R, g ms Q R → w_step grewritten (endN [] Q R) (startD 6 ms)) : Df G "step" ["system", "t", "one"] (k + 1) [] g :=
  Df.mk' T.at_step sc_step mono len (by decide) (fun f cdv A outer s H E hr => by
    have hN := sc_step.nd
    have hx : ∀ σ, PassesAt (L2.CX G.pr G.w) (cxG G ["system", "t", "one", "result", "place", "number"] "step" s_step f cdv A outer s H E) σ E := passAt (takes_of rfl rfl rfl rfl)
    exact (dss_cons (ds_asg (de_pv (pv 2)) (dg_tup rfl (dgs_cons (dg_name hN (i := 4) rfl (by first | exact .inl rfl | exact .inr rfl)) (dgs_cons (dg_name hN (i := 5) rfl (by first | exact .inl rfl | exact .inr rfl)) dgs_nil)))) (dss_cons (ds_if (dt_not (dt_chain op_le op_lt od_le od_lt (de_int) (de_pv (pv 5)) (de_callB call_lenA cd_len (by rfl) T.b_len boot_len (da_cons (de_pv (pv 0)) da_nil)))) (dss_one (ds_raise rfl (takes_of rfl rfl rfl rfl) (T.x_StepError.mk (by rfl)) T.r_StepError)) dss_nil) (dss_cons (ds_set (i := 3) hN rfl (by first | exact .inl rfl | exact .inr rfl) (de_f Drewritten hr hx (da_cons (de_pv (pv 0)) (da_cons (de_pv (pv 1)) (da_cons (de_pv (pv 4)) (da_cons (de_pv (pv 5)) da_nil)))))) (dss_cons (ds_if (dt_cmp op_isG od_is (de_pv (pv 3)) (de_non) (nomark _)) (dss_one (ds_raise rfl (takes_of rfl rfl rfl rfl) (T.x_StepError.mk (by rfl)) T.r_StepError)) dss_nil) (dss_one (ds_ret (de_pv (pv 3))))))))) hw
/-! ### derive -/
theorem sc_derive : FnScope ["system", "t", "steps", "one"] ["system", "t", "steps"] (defScope s_derive) := ⟨rfl, rfl, rfl, by decide +kernel, rfl, by decide +kernel, by decide +kernel⟩
def w_derive (gstep : SpecD) : WS := (sSeq (sFor (iSeq (fun j => decide (j ∈ ([2] : List Nat))) (eV 2)) (gN 3) (sAsg (eCall [] gstep (aC (eV 0) (aC (eV 1) (aC (eV 3) aN)))) (gN 1))) (sRet (eV 1)))
theorem ok_derive {G : Pg} (T : Tk G) {gstep : SpecD} {k : Nat} (Dstep : Df G "step" ["system", "t", "one"] k [] gstep) {g : SpecD} (mono : MonoG g) (len : ∀ ms Q R, g ms Q R → ms.length = 3) (hw : ∀ ms Q R, g ms Q R → w_derive gstep (endN [] Q R) (startD 4 ms)) : Df G "derive" ["system", "t", "steps"] (k + 1) [] g :=
  Df.mk' T.at_derive sc_derive mono len (by decide) (fun f cdv A outer s H E hr => by
    have hN := sc_derive.nd
    have hx : ∀ σ, PassesAt (L2.CX G.pr G.w) (cxG G ["system", "t", "steps", "one"] "derive" s_derive f cdv A outer s H E) σ E := passAt (takes_of rfl rfl rfl rfl)
    exact (dss_cons (ds_for [2] (passes_of rfl) rfl (di_seq (de_pv (pv 2))) (dg_name hN (i := 3) rfl (by first | exact .inl rfl | exact .inr rfl)) (dss_one (ds_set (i := 1) hN rfl (by first | exact .inl rfl | exact .inr rfl) (de_f Dstep hr hx (da_cons (de_pv (pv 0)) (da_cons (de_pv (pv 1)) (da_cons (de_pv (pv 3)) da_nil))))))) (dss_one (ds_ret (de_pv (pv 1)))))) hw
/-! ### successors -/
theorem sc_successors : FnScope ["system", "t", "found", "place", "number", "result"] ["system", "t"] (defScope s_successors) := ⟨rfl, rfl, rfl, by decide +kernel, rfl, by decide +kernel, by decide +kernel⟩
def w_successors (gat : SpecD) (gis_variable : SpecD) (gpositions : SpecD) (grewritten : SpecD) : WS := (sSeq (sAsg (eLst aN) (gN 2)) (sSeq (sFor (iSeq (fun j => decide (j ∈ ([] : List Nat))) (eCall [] gpositions (aC (eV 1) aN))) (gN 3) (sIf (tNot (tN (eCall [] gis_variable (aC (eCall [] gat (aC (eV 1) (aC (eV 3) aN))) aN)))) (sFor (iRg1 (aC (eFn oLen (aC (eV 0) aN)) aN)) (gN 4) (sSeq (sAsg (eCall [] grewritten (aC (eV 0) (aC (eV 1) (aC (eV 3) (aC (eV 4) aN))))) (gN 5)) (sIf (tB (eB (oIs true) (eV 5) (eC .non))) (sExp (eMt .lst oApp (eV 2) (aC (eTup (aC (eTup (aC (eV 3) (aC (eV 4) aN))) (aC (eV 5) aN))) aN))) sNx))) sNx)) (sRet (eV 2))))
theorem ok_successors {G : Pg} (T : Tk G) {gat : SpecD} {gis_variable : SpecD} {gpositions : SpecD} {grewritten : SpecD} {k : Nat} (Dat : Df G "at" ["t", "p"] k [] gat) (Dis_variable : Df G "is_variable" ["t"] k [] gis_variable) (Dpositions : Df G "positions" ["t"] k [] gpositions) (Drewritten : Df G "rewritten" ["system", "t", "place", "number"] k [] grewritten) {g : SpecD} (mono : MonoG g) (len : ∀ ms Q R, g ms Q R → ms.length = 2) (hw : ∀ ms Q R, g ms Q R → w_successors gat gis_variable gpositions grewritten (endN [] Q R) (startD 6 ms)) : Df G "successors" ["system", "t"] (k + 1) [] g :=
  Df.mk' T.at_successors sc_successors mono len (by decide) (fun f cdv A outer s H E hr => by
    have hN := sc_successors.nd
    have hx : ∀ σ, PassesAt (L2.CX G.pr G.w) (cxG G ["system", "t", "found", "place", "number", "result"] "successors" s_successors f cdv A outer s H E) σ E := passAt (takes_of rfl rfl rfl rfl)
    exact (dss_cons (ds_set (i := 2) hN rfl (by first | exact .inl rfl | exact .inr rfl) (de_lst da_nil)) (dss_cons (ds_for [] (passes_of rfl) rfl (di_seq (de_f Dpositions hr hx (da_cons (de_pv (pv 1)) da_nil))) (dg_name hN (i := 3) rfl (by first | exact .inl rfl | exact .inr rfl)) (dss_one (ds_if (dt_not (dt_tru (de_f Dis_variable hr hx (da_cons (de_f Dat hr hx (da_cons (de_pv (pv 1)) (da_cons (de_pv (pv 3)) da_nil))) da_nil)))) (dss_one (ds_for [] (passes_of rfl) rfl (di_rg1 (by rfl) T.b_range (da_cons (de_callB call_lenA cd_len (by rfl) T.b_len boot_len (da_cons (de_pv (pv 0)) da_nil)) da_nil)) (dg_name hN (i := 4) rfl (by first | exact .inl rfl | exact .inr rfl)) (dss_cons (ds_set (i := 5) hN rfl (by first | exact .inl rfl | exact .inr rfl) (de_f Drewritten hr hx (da_cons (de_pv (pv 0)) (da_cons (de_pv (pv 1)) (da_cons (de_pv (pv 3)) (da_cons (de_pv (pv 4)) da_nil)))))) (dss_one (ds_if (dt_cmp op_notG od_is (de_pv (pv 5)) (de_non) (nomark _)) (dss_one (ds_expr (de_mt (t := .lst) PySem.F.plainAttrs_list PySem.F.slot_list_append PySem.F.type_list_append mt_append md_append (de_pv (pv 2)) (da_cons (de_tup (da_cons (de_tup (da_cons (de_pv (pv 3)) (da_cons (de_pv (pv 4)) da_nil))) (da_cons (de_pv (pv 5)) da_nil))) da_nil)))) dss_nil))))) dss_nil))) (dss_one (ds_ret (de_pv (pv 2))))))) hw
/-! ### _law_start -/
theorem sc__law_start : FnScope ["_law_script", "_law_cell"] ["_law_script"] (defScope s__law_start) := ⟨rfl, rfl, rfl, by decide +kernel, rfl, by decide +kernel, by decide +kernel⟩
def w__law_start : WS := (sRet (eLst (aC (eFz (eLc [1] (iSeq (fun j => decide (j ∉ ([1] : List Nat))) (eSl (eV 0) pN (pS (eC (.int 63))))) (gN 1) tYs (eFn oInt (aC (eV 1) aN)))) (aC (eC (.int 0)) (aC (eC (.int 0)) (aC (eC (.int 0)) (aC (eC (.int 14)) aN)))))))
theorem ok__law_start {G : Pg} (T : Tk G) {k : Nat} {g : SpecD} (mono : MonoG g) (len : ∀ ms Q R, g ms Q R → ms.length = 1) (hw : ∀ ms Q R, g ms Q R → w__law_start (endN [] Q R) (startD 2 ms)) : Df G "_law_start" ["_law_script"] (k + 1) [] g :=
  Df.mk' T.at__law_start sc__law_start mono len (by decide) (fun f cdv A outer s H E hr => by
    have hN := sc__law_start.nd
    have hx : ∀ σ, PassesAt (L2.CX G.pr G.w) (cxG G ["_law_script", "_law_cell"] "_law_start" s__law_start f cdv A outer s H E) σ E := passAt (takes_of rfl rfl rfl rfl)
    exact (dss_one (ds_ret (de_lst (da_cons (de_fz (de_lcN (own := [("_law_cell", 1)]) rfl hN (di_seq (de_sl (de_pv (pv 0)) dp_none (dp_some (de_int)))) (blkOk_by (by rfl)) (by decide) (fun _ _ _ _ _ => (dgo_name hN (i := 1) rfl (by first | exact .inl rfl | exact .inr rfl))) (fun _ _ _ _ _ => dts_nil) (fun _ _ _ _ _ => (de_callTy call_int1 cd_int (by rfl) T.b_int boot_int (da_cons (de_pv (pv 1)) da_nil))))) (da_cons (de_int) (da_cons (de_int) (da_cons (de_int) (da_cons (de_int) da_nil))))))))) hw
/-! ### _law_fill -/
theorem sc__law_fill : FnScope ["_law_c", "_law_number"] ["_law_c"] (defScope s__law_fill) := ⟨rfl, rfl, rfl, by decide +kernel, rfl, by decide +kernel, by decide +kernel⟩
def w__law_fill : WS := (sSeq (sAsg (eB oAdd (eB oIx (eV 0) (eC (.int 3))) (eC (.int 1))) (gSb oSt (eV 0) (eC (.int 3)))) (sSeq (sAsg (eB oAdd (eB oMul (eB oIx (eV 0) (eC (.int 3))) (eC (.int 69621))) (eC (.int 12345))) (gN 1)) (sSeq (sIf (tB (eB oLt (eB oIx (eV 0) (eC (.int 1))) (eFn oLen (aC (eB oIx (eV 0) (eC (.int 0))) aN)))) (sSeq (sAsg (eB oIx (eB oIx (eV 0) (eC (.int 0))) (eB oIx (eV 0) (eC (.int 1)))) (gN 1)) (sSeq (sAsg (eB oAdd (eB oIx (eV 0) (eC (.int 1))) (eC (.int 1))) (gSb oSt (eV 0) (eC (.int 1)))) (sSeq (sIf (tB (eB oLt (eV 1) (eC (.int 0)))) (sAsg (eB oSub (eB oSub (eC (.int 0)) (eC (.int 1))) (eV 1)) (gN 1)) sNx) (sIf (tB (eB oGe (eV 1) (eB oPow (eC (.int 10)) (eC (.int 18))))) (sRet (eV 1)) sNx)))) sNx) (sSeq (sIf (tAnd (tN (eB oIx (eV 0) (eC (.int 0)))) (tB (eB oGe (eB oIx (eV 0) (eC (.int 1))) (eFn oLen (aC (eB oIx (eV 0) (eC (.int 0))) aN))))) (sAsg (eB oAdd (eV 1) (eB oMod (eFn oInt (aC (eB oIx (eB oIx (eV 0) (eC (.int 0))) (eNeg (eC (.int 1)))) aN)) (eC (.int 1000003)))) (gN 1)) sNx) (sSeq (sAsg (eB oMod (eFn oInt (aC (eB oAdd (eB oMul (eV 1) (eC (.int 48271))) (eB oMul (eB oIx (eV 0) (eC (.int 3))) (eC (.int 69621)))) aN)) (eC (.int 2147483647))) (gN 1)) (sRet (eB oAdd (eB oMod (eFn oInt (aC (eB oAdd (eB oAdd (eB oMul (eV 1) (eV 1)) (eB oMul (eB oIx (eV 0) (eC (.int 3))) (eC (.int 7919)))) (eC (.int 11))) aN)) (eC (.int 2305843009213693951))) (eC (.int 2305843009213693951)))))))))
theorem ok__law_fill {G : Pg} (T : Tk G) {k : Nat} {g : SpecD} (mono : MonoG g) (len : ∀ ms Q R, g ms Q R → ms.length = 1) (hw : ∀ ms Q R, g ms Q R → w__law_fill (endN [0] Q R) (startD 2 ms)) : Df G "_law_fill" ["_law_c"] (k + 1) [0] g :=
  Df.mk' T.at__law_fill sc__law_fill mono len (by decide) (fun f cdv A outer s H E hr => by
    have hN := sc__law_fill.nd
    have hx : ∀ σ, PassesAt (L2.CX G.pr G.w) (cxG G ["_law_c", "_law_number"] "_law_fill" s__law_fill f cdv A outer s H E) σ E := passAt (takes_of rfl rfl rfl rfl)
    exact (dss_cons (ds_asg (de_op op_addG od_add (de_ix (hu_of hr) (de_pv (pv 0)) (de_int)) (de_int)) (dg_sub (cv := G.cv) (E := fun _ => E) (de_pv (pv 0)) (de_int) (set_any (hu_of hr)) sd_any)) (dss_cons (ds_set (i := 1) hN rfl (by first | exact .inl rfl | exact .inr rfl) (de_op op_addG od_add (de_op op_mulI od_mul (de_ix (hu_of hr) (de_pv (pv 0)) (de_int)) (de_int)) (de_int))) (dss_cons (ds_if (dt_cmp op_lt od_lt (de_ix (hu_of hr) (de_pv (pv 0)) (de_int)) (de_callB call_lenA cd_len (by rfl) T.b_len boot_len (da_cons (de_ix (hu_of hr) (de_pv (pv 0)) (de_int)) da_nil)) (nomark _)) (dss_cons (ds_set (i := 1) hN rfl (by first | exact .inl rfl | exact .inr rfl) (de_ix (hu_of hr) (de_ix (hu_of hr) (de_pv (pv 0)) (de_int)) (de_ix (hu_of hr) (de_pv (pv 0)) (de_int)))) (dss_cons (ds_asg (de_op op_addG od_add (de_ix (hu_of hr) (de_pv (pv 0)) (de_int)) (de_int)) (dg_sub (cv := G.cv) (E := fun _ => E) (de_pv (pv 0)) (de_int) (set_any (hu_of hr)) sd_any)) (dss_cons (ds_if (dt_cmp op_lt od_lt (de_pv (pv 1)) (de_int) (nomark _)) (dss_one (ds_set (i := 1) hN rfl (by first | exact .inl rfl | exact .inr rfl) (de_op op_sub od_sub (de_op op_sub od_sub (de_int) (de_int)) (de_pv (pv 1))))) dss_nil) (dss_one (ds_if (dt_cmp op_ge od_ge (de_pv (pv 1)) (de_op op_pow od_pow (de_int) (de_int)) (nomark _)) (dss_one (ds_ret (de_pv (pv 1)))) dss_nil))))) dss_nil) (dss_cons (ds_if (DW.dt (dw_and (dt_tru (de_ix (hu_of hr) (de_pv (pv 0)) (de_int))) (dw_and1 (dt_cmp op_ge od_ge (de_ix (hu_of hr) (de_pv (pv 0)) (de_int)) (de_callB call_lenA cd_len (by rfl) T.b_len boot_len (da_cons (de_ix (hu_of hr) (de_pv (pv 0)) (de_int)) da_nil)) (nomark _))))) (dss_one (ds_set (i := 1) hN rfl (by first | exact .inl rfl | exact .inr rfl) (de_op op_addG od_add (de_pv (pv 1)) (de_op op_mod od_mod (de_callTy call_int1 cd_int (by rfl) T.b_int boot_int (da_cons (de_ix (hu_of hr) (de_ix (hu_of hr) (de_pv (pv 0)) (de_int)) (de_neg (de_int))) da_nil)) (de_int))))) dss_nil) (dss_cons (ds_set (i := 1) hN rfl (by first | exact .inl rfl | exact .inr rfl) (de_op op_mod od_mod (de_callTy call_int1 cd_int (by rfl) T.b_int boot_int (da_cons (de_op op_addG od_add (de_op op_mulI od_mul (de_pv (pv 1)) (de_int)) (de_op op_mulI od_mul (de_ix (hu_of hr) (de_pv (pv 0)) (de_int)) (de_int))) da_nil)) (de_int))) (dss_one (ds_ret (de_op op_addG od_add (de_op op_mod od_mod (de_callTy call_int1 cd_int (by rfl) T.b_int boot_int (da_cons (de_op op_addG od_add (de_op op_addG od_add (de_op op_mulI od_mul (de_pv (pv 1)) (de_pv (pv 1))) (de_op op_mulI od_mul (de_ix (hu_of hr) (de_pv (pv 0)) (de_int)) (de_int))) (de_int)) da_nil)) (de_int)) (de_int)))))))))) hw
/-! ### _law_take -/
theorem sc__law_take : FnScope ["_law_c", "_law_many", "_law_digit"] ["_law_c", "_law_many"] (defScope s__law_take) := ⟨rfl, rfl, rfl, by decide +kernel, rfl, by decide +kernel, by decide +kernel⟩
def w__law_take (g_law_fill : SpecD) : WS := (sSeq (sIf (tB (eB oLt (eB oIx (eV 0) (eC (.int 2))) (eV 1))) (sAsg (eCall [0] g_law_fill (aC (eV 0) aN)) (gSb oSt (eV 0) (eC (.int 2)))) sNx) (sSeq (sAsg (eB oMod (eFn oInt (aC (eB oIx (eV 0) (eC (.int 2))) aN)) (eV 1)) (gN 2)) (sSeq (sAsg (eB oDiv (eB oIx (eV 0) (eC (.int 2))) (eV 1)) (gSb oSt (eV 0) (eC (.int 2)))) (sRet (eV 2)))))
theorem ok__law_take {G : Pg} (T : Tk G) {g_law_fill : SpecD} {k : Nat} (D_law_fill : Df G "_law_fill" ["_law_c"] k [0] g_law_fill) {g : SpecD} (mono : MonoG g) (len : ∀ ms Q R, g ms Q R → ms.length = 2) (hw : ∀ ms Q R, g ms Q R → w__law_take g_law_fill (endN [0] Q R) (startD 3 ms)) : Df G "_law_take" ["_law_c", "_law_many"] (k + 1) [0] g :=
  Df.mk' T.at__law_take sc__law_take mono len (by decide) (fun f cdv A outer s H E hr => by
    have hN := sc__law_take.nd
    have hx : ∀ σ, PassesAt (L2.CX G.pr G.w) (cxG G ["_law_c", "_law_many", "_law_digit"] "_law_take" s__law_take f cdv A outer s H E) σ E := passAt (takes_of rfl rfl rfl rfl)
    exact (dss_cons (ds_if (dt_cmp op_lt od_lt (de_ix (hu_of hr) (de_pv (pv 0)) (de_int)) (de_pv (pv 1)) (nomark _)) (dss_one (ds_asg (de_f D_law_fill hr hx (da_cons (de_pv (pv 0)) da_nil)) (dg_sub (cv := G.cv) (E := fun _ => E) (de_pv (pv 0)) (de_int) (set_any (hu_of hr)) sd_any))) dss_nil) (dss_cons (ds_set (i := 2) hN rfl (by first | exact .inl rfl | exact .inr rfl) (de_op op_mod od_mod (de_callTy call_int1 cd_int (by rfl) T.b_int boot_int (da_cons (de_ix (hu_of hr) (de_pv (pv 0)) (de_int)) da_nil)) (de_pv (pv 1)))) (dss_cons (ds_asg (de_op op_fdiv od_div (de_ix (hu_of hr) (de_pv (pv 0)) (de_int)) (de_pv (pv 1))) (dg_sub (cv := G.cv) (E := fun _ => E) (de_pv (pv 0)) (de_int) (set_any (hu_of hr)) sd_any)) (dss_one (ds_ret (de_pv (pv 2)))))))) hw
/-! ### _law_signature -/
theorem sc__law_signature : FnScope ["_law_c", "_law_found"] ["_law_c"] (defScope s__law_signature) := ⟨rfl, rfl, rfl, by decide +kernel, rfl, by decide +kernel, by decide +kernel⟩
def w__law_signature (g_law_take : SpecD) : WS := (sSeq (sAsg (eLst (aC (eTup (aC (eC (.str "a")) (aC (eC (.int 0)) aN))) (aC (eTup (aC (eC (.str "f")) (aC (eC (.int 1)) aN))) (aC (eTup (aC (eC (.str "g")) (aC (eC (.int 2)) aN))) aN)))) (gN 1)) (sSeq (sIf (tB (eB oEq (eCall [0] g_law_take (aC (eV 0) (aC (eC (.int 2)) aN))) (eC (.int 0)))) (sExp (eMt .lst oApp (eV 1) (aC (eTup (aC (eC (.str "b")) (aC (eC (.int 0)) aN))) aN))) sNx) (sSeq (sIf (tB (eB oEq (eCall [0] g_law_take (aC (eV 0) (aC (eC (.int 3)) aN))) (eC (.int 0)))) (sExp (eMt .lst oApp (eV 1) (aC (eTup (aC (eC (.str "h")) (aC (eB oIx (eLst (aC (eC (.int 1)) (aC (eC (.int 1)) (aC (eC (.int 2)) (aC (eC (.int 3)) aN))))) (eCall [0] g_law_take (aC (eV 0) (aC (eC (.int 4)) aN)))) aN))) aN))) sNx) (sSeq (sIf (tB (eB oEq (eCall [0] g_law_take (aC (eV 0) (aC (eC (.int 4)) aN))) (eC (.int 0)))) (sExp (eMt .lst oApp (eV 1) (aC (eTup (aC (eC (.str "k")) (aC (eB oAdd (eC (.int 3)) (eFn oInt (aC (eB oEq (eCall [0] g_law_take (aC (eV 0) (aC (eC (.int 3)) aN))) (eC (.int 0))) aN))) aN))) aN))) sNx) (sRet (eV 1))))))
theorem ok__law_signature {G : Pg} (T : Tk G) {g_law_take : SpecD} {k : Nat} (D_law_take : Df G "_law_take" ["_law_c", "_law_many"] k [0] g_law_take) {g : SpecD} (mono : MonoG g) (len : ∀ ms Q R, g ms Q R → ms.length = 1) (hw : ∀ ms Q R, g ms Q R → w__law_signature g_law_take (endN [0] Q R) (startD 2 ms)) : Df G "_law_signature" ["_law_c"] (k + 1) [0] g :=
  Df.mk' T.at__law_signature sc__law_signature mono len (by decide) (fun f cdv A outer s H E hr => by
    have hN := sc__law_signature.nd
    have hx : ∀ σ, PassesAt (L2.CX G.pr G.w) (cxG G ["_law_c", "_law_found"] "_law_signature" s__law_signature f cdv A outer s H E) σ E := passAt (takes_of rfl rfl rfl rfl)
    exact (dss_cons (ds_set (i := 1) hN rfl (by first | exact .inl rfl | exact .inr rfl) (de_lst (da_cons (de_tup (da_cons (de_str) (da_cons (de_int) da_nil))) (da_cons (de_tup (da_cons (de_str) (da_cons (de_int) da_nil))) (da_cons (de_tup (da_cons (de_str) (da_cons (de_int) da_nil))) da_nil))))) (dss_cons (ds_if (dt_cmp (op_eqQ (hu182 hr)) od_eq (de_f D_law_take hr hx (da_cons (de_pv (pv 0)) (da_cons (de_int) da_nil))) (de_int) (nomark _)) (dss_one (ds_expr (de_mt (t := .lst) PySem.F.plainAttrs_list PySem.F.slot_list_append PySem.F.type_list_append mt_append md_append (de_pv (pv 1)) (da_cons (de_tup (da_cons (de_str) (da_cons (de_int) da_nil))) da_nil)))) dss_nil) (dss_cons (ds_if (dt_cmp (op_eqQ (hu182 hr)) od_eq (de_f D_law_take hr hx (da_cons (de_pv (pv 0)) (da_cons (de_int) da_nil))) (de_int) (nomark _)) (dss_one (ds_expr (de_mt (t := .lst) PySem.F.plainAttrs_list PySem.F.slot_list_append PySem.F.type_list_append mt_append md_append (de_pv (pv 1)) (da_cons (de_tup (da_cons (de_str) (da_cons (de_ix (hu_of hr) (de_lst (da_cons (de_int) (da_cons (de_int) (da_cons (de_int) (da_cons (de_int) da_nil))))) (de_f D_law_take hr hx (da_cons (de_pv (pv 0)) (da_cons (de_int) da_nil)))) da_nil))) da_nil)))) dss_nil) (dss_cons (ds_if (dt_cmp (op_eqQ (hu182 hr)) od_eq (de_f D_law_take hr hx (da_cons (de_pv (pv 0)) (da_cons (de_int) da_nil))) (de_int) (nomark _)) (dss_one (ds_expr (de_mt (t := .lst) PySem.F.plainAttrs_list PySem.F.slot_list_append PySem.F.type_list_append mt_append md_append (de_pv (pv 1)) (da_cons (de_tup (da_cons (de_str) (da_cons (de_op op_addG od_add (de_int) (de_callTy call_int1 cd_int (by rfl) T.b_int boot_int (da_cons (de_cmp (op_eqQ (hu182 hr)) od_eq (de_f D_law_take hr hx (da_cons (de_pv (pv 0)) (da_cons (de_int) da_nil))) (de_int) (nomark _)) da_nil))) da_nil))) da_nil)))) dss_nil) (dss_one (ds_ret (de_pv (pv 1))))))))) hw
/-! ### _law_term -/
theorem sc__law_term : FnScope ["_law_c", "_law_sig", "_law_names_here", "_law_depth", "_law_flat", "_law_name", "_law_many", "_law_k"] ["_law_c", "_law_sig", "_law_names_here", "_law_depth"] (defScope s__law_term) := ⟨rfl, rfl, rfl, by decide +kernel, rfl, by decide +kernel, by decide +kernel⟩
def w__law_term (g_law_take : SpecD) (g_law_term : SpecD) : WS := (sSeq (sAsg (eB oSub (eB oIx (eV 0) (eC (.int 4))) (eC (.int 1))) (gSb oSt (eV 0) (eC (.int 4)))) (sSeq (sIf (tOr (tAnd (tN (eV 2)) (tB (eB oEq (eCall [0] g_law_take (aC (eV 0) (aC (eC (.int 4)) aN))) (eC (.int 0))))) (tOr (tB (eB oEq (eV 3) (eC (.int 0)))) (tB (eB oLt (eB oIx (eV 0) (eC (.int 4))) (eC (.int 1)))))) (sSeq (sAsg (eB oAdd (eFn oList (aC (eV 2) aN)) (eLc [5, 6] (iSeq (fun j => decide (j ∉ ([5, 6] : List Nat))) (eV 1)) (gTup 2 (gCons (gN 5) (gCons (gN 6) gNil))) (tB (eB oEq (eV 6) (eC (.int 0)))) (eTup (aC (eV 5) (aC (eTup aN) aN))))) (gN 4)) (sRet (eB oIx (eV 4) (eCall [0] g_law_take (aC (eV 0) (aC (eFn oLen (aC (eV 4) aN)) aN)))))) sNx) (sSeq (sAsg (eB oIx (eV 1) (eCall [0] g_law_take (aC (eV 0) (aC (eFn oLen (aC (eV 1) aN)) aN)))) (gTup 2 (gCons (gN 5) (gCons (gN 6) gNil)))) (sRet (eTup (aC (eV 5) (aC (eFn oTuple (aC (eLc [7] (iRg1 (aC (eV 6) aN)) (gN 7) tYs (eCall [0] g_law_term (aC (eV 0) (aC (eV 1) (aC (eV 2) (aC (eB oSub (eV 3) (eC (.int 1))) aN)))))) aN)) aN)))))))
theorem ok__law_term {G : Pg} (T : Tk G) {g_law_take : SpecD} {g_law_term : SpecD} {k : Nat} (D_law_take : Df G "_law_take" ["_law_c", "_law_many"] k [0] g_law_take) (D_law_term : Df G "_law_term" ["_law_c", "_law_sig", "_law_names_here", "_law_depth"] k [0] g_law_term) {g : SpecD} (mono : MonoG g) (len : ∀ ms Q R, g ms Q R → ms.length = 4) (hw : ∀ ms Q R, g ms Q R → w__law_term g_law_take g_law_term (endN [0] Q R) (startD 8 ms)) : Df G "_law_term" ["_law_c", "_law_sig", "_law_names_here", "_law_depth"] (k + 1) [0] g :=
  Df.mk' T.at__law_term sc__law_term mono len (by decide) (fun f cdv A outer s H E hr => by
    have hN := sc__law_term.nd
    have hx : ∀ σ, PassesAt (L2.CX G.pr G.w) (cxG G ["_law_c", "_law_sig", "_law_names_here", "_law_depth", "_law_flat", "_law_name", "_law_many", "_law_k"] "_law_term" s__law_term f cdv A outer s H E) σ E := passAt (takes_of rfl rfl rfl rfl)
    exact (dss_cons (ds_asg (de_op op_sub od_sub (de_ix (hu_of hr) (de_pv (pv 0)) (de_int)) (de_int)) (dg_sub (cv := G.cv) (E := fun _ => E) (de_pv (pv 0)) (de_int) (set_any (hu_of hr)) sd_any)) (dss_cons (ds_if (DW.dt (dw_or (DW.dt (dw_and (dt_tru (de_pv (pv 2))) (dw_and1 (dt_cmp (op_eqQ (hu182 hr)) od_eq (de_f D_law_take hr hx (da_cons (de_pv (pv 0)) (da_cons (de_int) da_nil))) (de_int) (nomark _))))) (dw_or (dt_cmp (op_eqQ (hu182 hr)) od_eq (de_pv (pv 3)) (de_int) (nomark _)) (dw_or1 (dt_cmp op_lt od_lt (de_ix (hu_of hr) (de_pv (pv 0)) (de_int)) (de_int) (nomark _)))))) (dss_cons (ds_set (i := 4) hN rfl (by first | exact .inl rfl | exact .inr rfl) (de_op op_addG od_add (de_callTy (call_lstA rfl) cd_list (by rfl) T.b_list boot_list (da_cons (de_pv (pv 2)) da_nil)) (de_lcN (own := [("_law_name", 5), ("_law_many", 6)]) rfl hN (di_seq (de_pv (pv 1))) (blkOk_by (by rfl)) (by decide) (fun _ _ _ _ _ => (dgo_tup rfl (dgos_cons (dgo_name hN (i := 5) rfl (by first | exact .inl rfl | exact .inr rfl)) (dgos_cons (dgo_name hN (i := 6) rfl (by first | exact .inl rfl | exact .inr rfl)) dgos_nil)))) (fun _ _ _ _ _ => (dts_one (dt_cmp (op_eqQ (hu182 hr)) od_eq (de_pv (pv 6)) (de_int) (nomark _)))) (fun _ _ _ _ _ => (de_tup (da_cons (de_pv (pv 5)) (da_cons (de_tup da_nil) da_nil))))))) (dss_one (ds_ret (de_ix (hu_of hr) (de_pv (pv 4)) (de_f D_law_take hr hx (da_cons (de_pv (pv 0)) (da_cons (de_callB call_lenA cd_len (by rfl) T.b_len boot_len (da_cons (de_pv (pv 4)) da_nil)) da_nil))))))) dss_nil) (dss_cons (ds_asg (de_ix (hu_of hr) (de_pv (pv 1)) (de_f D_law_take hr hx (da_cons (de_pv (pv 0)) (da_cons (de_callB call_lenA cd_len (by rfl) T.b_len boot_len (da_cons (de_pv (pv 1)) da_nil)) da_nil)))) (dg_tup rfl (dgs_cons (dg_name hN (i := 5) rfl (by first | exact .inl rfl | exact .inr rfl)) (dgs_cons (dg_name hN (i := 6) rfl (by first | exact .inl rfl | exact .inr rfl)) dgs_nil)))) (dss_one (ds_ret (de_tup (da_cons (de_pv (pv 5)) (da_cons (de_callTy (call_tupA rfl) cd_tuple (by rfl) T.b_tuple boot_tuple (da_cons (de_lcN (own := [("_law_k", 7)]) rfl hN (di_rg1 (by rfl) T.b_range (da_cons (de_pv (pv 6)) da_nil)) (blkOk_by (by rfl)) (by decide) (fun _ _ _ _ _ => (dgo_name hN (i := 7) rfl (by first | exact .inl rfl | exact .inr rfl))) (fun _ _ _ _ _ => dts_nil) (fun _ _ _ _ _ => (de_f D_law_term hr passNo (da_cons (de_pv (pv 0)) (da_cons (de_pv (pv 1)) (da_cons (de_pv (pv 2)) (da_cons (de_op op_sub od_sub (de_pv (pv 3)) (de_int)) da_nil))))))) da_nil)) da_nil))))))))) hw
/-! ### _law_places -/
theorem sc__law_places : FnScope ["_law_t", "_law_found", "_law_k", "_law_p"] ["_law_t"] (defScope s__law_places) := ⟨rfl, rfl, rfl, by decide +kernel, rfl, by decide +kernel, by decide +kernel⟩
def w__law_places (g_law_places : SpecD) : WS := (sSeq (sAsg (eLst (aC (eTup aN) aN)) (gN 1)) (sSeq (sIf (tN (eIsi .tup (eV 0))) (sFor (iRg1 (aC (eFn oLen (aC (eB oIx (eV 0) (eC (.int 1))) aN)) aN)) (gN 2) (sAsg (eB oAdd (eV 1) (eLc [3] (iSeq (fun j => decide (j ∉ ([3] : List Nat))) (eCall [] g_law_places (aC (eB oIx (eB oIx (eV 0) (eC (.int 1))) (eV 2)) aN))) (gN 3) tYs (eB oAdd (eTup (aC (eV 2) aN)) (eV 3)))) (gN 1))) sNx) (sRet (eV 1))))
theorem ok__law_places {G : Pg} (T : Tk G) {g_law_places : SpecD} {k : Nat} (D_law_places : Df G "_law_places" ["_law_t"] k [] g_law_places) {g : SpecD} (mono : MonoG g) (len : ∀ ms Q R, g ms Q R → ms.length = 1) (hw : ∀ ms Q R, g ms Q R → w__law_places g_law_places (endN [] Q R) (startD 4 ms)) : Df G "_law_places" ["_law_t"] (k + 1) [] g :=
  Df.mk' T.at__law_places sc__law_places mono len (by decide) (fun f cdv A outer s H E hr => by
    have hN := sc__law_places.nd
    have hx : ∀ σ, PassesAt (L2.CX G.pr G.w) (cxG G ["_law_t", "_law_found", "_law_k", "_law_p"] "_law_places" s__law_places f cdv A outer s H E) σ E := passAt (takes_of rfl rfl rfl rfl)
    exact (dss_cons (ds_set (i := 1) hN rfl (by first | exact .inl rfl | exact .inr rfl) (de_lst (da_cons (de_tup da_nil) da_nil))) (dss_cons (ds_if (dt_tru (de_isi .tup (by rfl) T.b_isinstance (by rfl) T.b_tuple boot_tuple (de_pv (pv 0)))) (dss_one (ds_for [] (passes_of rfl) rfl (di_rg1 (by rfl) T.b_range (da_cons (de_callB call_lenA cd_len (by rfl) T.b_len boot_len (da_cons (de_ix (hu_of hr) (de_pv (pv 0)) (de_int)) da_nil)) da_nil)) (dg_name hN (i := 2) rfl (by first | exact .inl rfl | exact .inr rfl)) (dss_one (ds_set (i := 1) hN rfl (by first | exact .inl rfl | exact .inr rfl) (de_op op_addG od_add (de_pv (pv 1)) (de_lcN (own := [("_law_p", 3)]) rfl hN (di_seq (de_f D_law_places hr hx (da_cons (de_ix (hu_of hr) (de_ix (hu_of hr) (de_pv (pv 0)) (de_int)) (de_pv (pv 2))) da_nil))) (blkOk_by (by rfl)) (by decide) (fun _ _ _ _ _ => (dgo_name hN (i := 3) rfl (by first | exact .inl rfl | exact .inr rfl))) (fun _ _ _ _ _ => dts_nil) (fun _ _ _ _ _ => (de_op op_addG od_add (de_tup (da_cons (de_pv (pv 2)) da_nil)) (de_pv (pv 3)))))))))) dss_nil) (dss_one (ds_ret (de_pv (pv 1))))))) hw
/-! ### _law_at -/
theorem sc__law_at : FnScope ["_law_t", "_law_p", "_law_k"] ["_law_t", "_law_p"] (defScope s__law_at) := ⟨rfl, rfl, rfl, by decide +kernel, rfl, by decide +kernel, by decide +kernel⟩
def w__law_at : WS := (sSeq (sFor (iSeq (fun j => decide (j ∈ ([1] : List Nat))) (eV 1)) (gN 2) (sSeq (sIf (tOr (tN (eIsi .str (eV 0))) (tOr (tNot (tN (eIsi .int (eV 2)))) (tOr (tB (eB oLt (eV 2) (eC (.int 0)))) (tB (eB oGe (eV 2) (eFn oLen (aC (eB oIx (eV 0) (eC (.int 1))) aN))))))) (sRet (eC .non)) sNx) (sAsg (eB oIx (eB oIx (eV 0) (eC (.int 1))) (eV 2)) (gN 0)))) (sRet (eV 0)))
theorem ok__law_at {G : Pg} (T : Tk G) {k : Nat} {g : SpecD} (mono : MonoG g) (len : ∀ ms Q R, g ms Q R → ms.length = 2) (hw : ∀ ms Q R, g ms Q R → w__law_at (endN [] Q R) (startD 3 ms)) : Df G "_law_at" ["_law_t", "_law_p"] (k + 1) [] g :=
  Df.mk' T.at__law_at sc__law_at mono len (by decide) (fun f cdv A outer s H E hr => by
    have hN := sc__law_at.nd
    have hx : ∀ σ, PassesAt (L2.CX G.pr G.w) (cxG G ["_law_t", "_law_p", "_law_k"] "_law_at" s__law_at f cdv A outer s H E) σ E := passAt (takes_of rfl rfl rfl rfl)
    exact (dss_cons (ds_for [1] (passes_of rfl) rfl (di_seq (de_pv (pv 1))) (dg_name hN (i := 2) rfl (by first | exact .inl rfl | exact .inr rfl)) (dss_cons (ds_if (DW.dt (dw_or (dt_tru (de_isi .str (by rfl) T.b_isinstance (by rfl) T.b_str boot_str (de_pv (pv 0)))) (dw_or (dt_not (dt_tru (de_isi .int (by rfl) T.b_isinstance (by rfl) T.b_int boot_int (de_pv (pv 2))))) (dw_or (dt_cmp op_lt od_lt (de_pv (pv 2)) (de_int) (nomark _)) (dw_or1 (dt_cmp op_ge od_ge (de_pv (pv 2)) (de_callB call_lenA cd_len (by rfl) T.b_len boot_len (da_cons (de_ix (hu_of hr) (de_pv (pv 0)) (de_int)) da_nil)) (nomark _))))))) (dss_one (ds_ret (de_non))) dss_nil) (dss_one (ds_set (i := 0) hN rfl (by first | exact .inl rfl | exact .inr rfl) (de_ix (hu_of hr) (de_ix (hu_of hr) (de_pv (pv 0)) (de_int)) (de_pv (pv 2))))))) (dss_one (ds_ret (de_pv (pv 0)))))) hw
/-! ### _law_put -/
theorem sc__law_put : FnScope ["_law_t", "_law_p", "_law_s"] ["_law_t", "_law_p", "_law_s"] (defScope s__law_put) := ⟨rfl, rfl, rfl, by decide +kernel, rfl, by decide +kernel, by decide +kernel⟩
def w__law_put (g_law_put : SpecD) : WS := (sSeq (sIf (tB (eB oEq (eV 1) (eTup aN))) (sRet (eV 2)) sNx) (sRet (eTup (aC (eB oIx (eV 0) (eC (.int 0))) (aC (eB oAdd (eB oAdd (eSl (eB oIx (eV 0) (eC (.int 1))) pN (pS (eB oIx (eV 1) (eC (.int 0))))) (eTup (aC (eCall [] g_law_put (aC (eB oIx (eB oIx (eV 0) (eC (.int 1))) (eB oIx (eV 1) (eC (.int 0)))) (aC (eFz (eSl (eV 1) (pS (eC (.int 1))) pN)) (aC (eV 2) aN)))) aN))) (eSl (eB oIx (eV 0) (eC (.int 1))) (pS (eB oAdd (eB oIx (eV 1) (eC (.int 0))) (eC (.int 1)))) pN)) aN)))))
theorem ok__law_put {G : Pg} (T : Tk G) {g_law_put : SpecD} {k : Nat} (D_law_put : Df G "_law_put" ["_law_t", "_law_p", "_law_s"] k [] g_law_put) {g : SpecD} (mono : MonoG g) (len : ∀ ms Q R, g ms Q R → ms.length = 3) (hw : ∀ ms Q R, g ms Q R → w__law_put g_law_put (endN [] Q R) (startD 3 ms)) : Df G "_law_put" ["_law_t", "_law_p", "_law_s"] (k + 1) [] g :=
  Df.mk' T.at__law_put sc__law_put mono len (by decide) (fun f cdv A outer s H E hr => by
    have hN := sc__law_put.nd
    have hx : ∀ σ, PassesAt (L2.CX G.pr G.w) (cxG G ["_law_t", "_law_p", "_law_s"] "_law_put" s__law_put f cdv A outer s H E) σ E := passAt (takes_of rfl rfl rfl rfl)
    exact (dss_cons (ds_if (dt_cmp (op_eqQ (hu182 hr)) od_eq (de_pv (pv 1)) (de_tup da_nil) (nomark _)) (dss_one (ds_ret (de_pv (pv 2)))) dss_nil) (dss_one (ds_ret (de_tup (da_cons (de_ix (hu_of hr) (de_pv (pv 0)) (de_int)) (da_cons (de_op op_addG od_add (de_op op_addG od_add (de_sl (de_ix (hu_of hr) (de_pv (pv 0)) (de_int)) dp_none (dp_some (de_ix (hu_of hr) (de_pv (pv 1)) (de_int)))) (de_tup (da_cons (de_f D_law_put hr hx (da_cons (de_ix (hu_of hr) (de_ix (hu_of hr) (de_pv (pv 0)) (de_int)) (de_ix (hu_of hr) (de_pv (pv 1)) (de_int))) (da_cons (de_fz (de_sl (de_pv (pv 1)) (dp_some (de_int)) dp_none)) (da_cons (de_pv (pv 2)) da_nil)))) da_nil))) (de_sl (de_ix (hu_of hr) (de_pv (pv 0)) (de_int)) (dp_some (de_op op_addG od_add (de_ix (hu_of hr) (de_pv (pv 1)) (de_int)) (de_int))) dp_none)) da_nil))))))) hw
/-! ### _law_names -/
theorem sc__law_names : FnScope ["_law_t", "_law_found", "_law_p", "_law_one"] ["_law_t"] (defScope s__law_names) := ⟨rfl, rfl, rfl, by decide +kernel, rfl, by decide +kernel, by decide +kernel⟩
def w__law_names (g_law_at : SpecD) (g_law_places : SpecD) : WS := (sSeq (sAsg (eLst aN) (gN 1)) (sSeq (sFor (iSeq (fun j => decide (j ∈ ([] : List Nat))) (eCall [] g_law_places (aC (eV 0) aN))) (gN 2) (sSeq (sAsg (eCall [] g_law_at (aC (eV 0) (aC (eV 2) aN))) (gN 3)) (sIf (tAnd (tN (eIsi .str (eV 3))) (tB (eB oNin (eV 3) (eV 1)))) (sExp (eMt .lst oApp (eV 1) (aC (eV 3) aN))) sNx))) (sRet (eFn oTuple (aC (eV 1) aN)))))
theorem ok__law_names {G : Pg} (T : Tk G) {g_law_at : SpecD} {g_law_places : SpecD} {k : Nat} (D_law_at : Df G "_law_at" ["_law_t", "_law_p"] k [] g_law_at) (D_law_places : Df G "_law_places" ["_law_t"] k [] g_law_places) {g : SpecD} (mono : MonoG g) (len : ∀ ms Q R, g ms Q R → ms.length = 1) (hw : ∀ ms Q R, g ms Q R → w__law_names g_law_at g_law_places (endN [] Q R) (startD 4 ms)) : Df G "_law_names" ["_law_t"] (k + 1) [] g :=
  Df.mk' T.at__law_names sc__law_names mono len (by decide) (fun f cdv A outer s H E hr => by
    have hN := sc__law_names.nd
    have hx : ∀ σ, PassesAt (L2.CX G.pr G.w) (cxG G ["_law_t", "_law_found", "_law_p", "_law_one"] "_law_names" s__law_names f cdv A outer s H E) σ E := passAt (takes_of rfl rfl rfl rfl)
    exact (dss_cons (ds_set (i := 1) hN rfl (by first | exact .inl rfl | exact .inr rfl) (de_lst da_nil)) (dss_cons (ds_for [] (passes_of rfl) rfl (di_seq (de_f D_law_places hr hx (da_cons (de_pv (pv 0)) da_nil))) (dg_name hN (i := 2) rfl (by first | exact .inl rfl | exact .inr rfl)) (dss_cons (ds_set (i := 3) hN rfl (by first | exact .inl rfl | exact .inr rfl) (de_f D_law_at hr hx (da_cons (de_pv (pv 0)) (da_cons (de_pv (pv 2)) da_nil)))) (dss_one (ds_if (DW.dt (dw_and (dt_tru (de_isi .str (by rfl) T.b_isinstance (by rfl) T.b_str boot_str (de_pv (pv 3)))) (dw_and1 (dt_cmp (op_ninA (hu182 hr)) od_nin (de_pv (pv 3)) (de_pv (pv 1)) (by rfl))))) (dss_one (ds_expr (de_mt (t := .lst) PySem.F.plainAttrs_list PySem.F.slot_list_append PySem.F.type_list_append mt_append md_append (de_pv (pv 1)) (da_cons (de_pv (pv 3)) da_nil)))) dss_nil)))) (dss_one (ds_ret (de_callTy (call_tupA rfl) cd_tuple (by rfl) T.b_tuple boot_tuple (da_cons (de_pv (pv 1)) da_nil))))))) hw
/-! ### _law_apply -/
theorem sc__law_apply : FnScope ["_law_s", "_law_t", "_law_part"] ["_law_s", "_law_t"] (defScope s__law_apply) := ⟨rfl, rfl, rfl, by decide +kernel, rfl, by decide +kernel, by decide +kernel⟩
def w__law_apply (g_law_apply : SpecD) : WS := (sSeq (sIf (tN (eIsi .str (eV 1))) (sRet (eMt .dic oGet (eV 0) (aC (eV 1) (aC (eV 1) aN)))) sNx) (sRet (eTup (aC (eB oIx (eV 1) (eC (.int 0))) (aC (eFn oTuple (aC (eLc [2] (iSeq (fun j => decide (j ∉ ([2] : List Nat))) (eB oIx (eV 1) (eC (.int 1)))) (gN 2) tYs (eCall [] g_law_apply (aC (eV 0) (aC (eV 2) aN)))) aN)) aN)))))
theorem ok__law_apply {G : Pg} (T : Tk G) {g_law_apply : SpecD} {k : Nat} (D_law_apply : Df G "_law_apply" ["_law_s", "_law_t"] k [] g_law_apply) {g : SpecD} (mono : MonoG g) (len : ∀ ms Q R, g ms Q R → ms.length = 2) (hw : ∀ ms Q R, g ms Q R → w__law_apply g_law_apply (endN [] Q R) (startD 3 ms)) : Df G "_law_apply" ["_law_s", "_law_t"] (k + 1) [] g :=
  Df.mk' T.at__law_apply sc__law_apply mono len (by decide) (fun f cdv A outer s H E hr => by
    have hN := sc__law_apply.nd
    have hx : ∀ σ, PassesAt (L2.CX G.pr G.w) (cxG G ["_law_s", "_law_t", "_law_part"] "_law_apply" s__law_apply f cdv A outer s H E) σ E := passAt (takes_of rfl rfl rfl rfl)
    exact (dss_cons (ds_if (dt_tru (de_isi .str (by rfl) T.b_isinstance (by rfl) T.b_str boot_str (de_pv (pv 1)))) (dss_one (ds_ret (de_mt (t := .dic) PySem.F.plainAttrs_dict PySem.F.slot_dict_get PySem.F.type_dict_get (mt_dget2 (hu_of hr)) md_get (de_pv (pv 0)) (da_cons (de_pv (pv 1)) (da_cons (de_pv (pv 1)) da_nil))))) dss_nil) (dss_one (ds_ret (de_tup (da_cons (de_ix (hu_of hr) (de_pv (pv 1)) (de_int)) (da_cons (de_callTy (call_tupA rfl) cd_tuple (by rfl) T.b_tuple boot_tuple (da_cons (de_lcN (own := [("_law_part", 2)]) rfl hN (di_seq (de_ix (hu_of hr) (de_pv (pv 1)) (de_int))) (blkOk_by (by rfl)) (by decide) (fun _ _ _ _ _ => (dgo_name hN (i := 2) rfl (by first | exact .inl rfl | exact .inr rfl))) (fun _ _ _ _ _ => dts_nil) (fun _ _ _ _ _ => (de_f D_law_apply hr passNo (da_cons (de_pv (pv 0)) (da_cons (de_pv (pv 2)) da_nil))))) da_nil)) da_nil))))))) hw
/-! ### _law_match -/
theorem sc__law_match : FnScope ["_law_pattern", "_law_t", "_law_s", "_law_k"] ["_law_pattern", "_law_t", "_law_s"] (defScope s__law_match) := ⟨rfl, rfl, rfl, by decide +kernel, rfl, by decide +kernel, by decide +kernel⟩
def w__law_match (g_law_match : SpecD) : WS := (sSeq (sIf (tN (eIsi .str (eV 0))) (sSeq (sIf (tB (eB oIn (eV 0) (eV 2))) (sRet (eB oEq (eB oIx (eV 2) (eV 0)) (eV 1))) sNx) (sSeq (sAsg (eV 1) (gSb oSt (eV 2) (eV 0))) (sRet (eC (.bl true))))) sNx) (sSeq (sIf (tOr (tN (eIsi .str (eV 1))) (tOr (tB (eB oNe (eB oIx (eV 1) (eC (.int 0))) (eB oIx (eV 0) (eC (.int 0))))) (tB (eB oNe (eFn oLen (aC (eB oIx (eV 1) (eC (.int 1))) aN)) (eFn oLen (aC (eB oIx (eV 0) (eC (.int 1))) aN)))))) (sRet (eC (.bl false))) sNx) (sRet (eFn oAll (aC (eLc [3] (iRg1 (aC (eFn oLen (aC (eB oIx (eV 1) (eC (.int 1))) aN)) aN)) (gN 3) tYs (eCall [2] g_law_match (aC (eB oIx (eB oIx (eV 0) (eC (.int 1))) (eV 3)) (aC (eB oIx (eB oIx (eV 1) (eC (.int 1))) (eV 3)) (aC (eV 2) aN))))) aN)))))
theorem ok__law_match {G : Pg} (T : Tk G) {g_law_match : SpecD} {k : Nat} (D_law_match : Df G "_law_match" ["_law_pattern", "_law_t", "_law_s"] k [2] g_law_match) {g : SpecD} (mono : MonoG g) (len : ∀ ms Q R, g ms Q R → ms.length = 3) (hw : ∀ ms Q R, g ms Q R → w__law_match g_law_match (endN [2] Q R) (startD 4 ms)) : Df G "_law_match" ["_law_pattern", "_law_t", "_law_s"] (k + 1) [2] g :=
  Df.mk' T.at__law_match sc__law_match mono len (by decide) (fun f cdv A outer s H E hr => by
    have hN := sc__law_match.nd
    have hx : ∀ σ, PassesAt (L2.CX G.pr G.w) (cxG G ["_law_pattern", "_law_t", "_law_s", "_law_k"] "_law_match" s__law_match f cdv A outer s H E) σ E := passAt (takes_of rfl rfl rfl rfl)
    exact (dss_cons (ds_if (dt_tru (de_isi .str (by rfl) T.b_isinstance (by rfl) T.b_str boot_str (de_pv (pv 0)))) (dss_cons (ds_if (dt_cmp (op_inA (hu182 hr)) od_in (de_pv (pv 0)) (de_pv (pv 2)) (by rfl)) (dss_one (ds_ret (de_cmp (op_eqQ (hu182 hr)) od_eq (de_ix (hu_of hr) (de_pv (pv 2)) (de_pv (pv 0))) (de_pv (pv 1)) (nomark _)))) dss_nil) (dss_cons (ds_asg (de_pv (pv 1)) (dg_sub (cv := G.cv) (E := fun _ => E) (de_pv (pv 2)) (de_pv (pv 0)) (set_any (hu_of hr)) sd_any)) (dss_one (ds_ret (de_bl))))) dss_nil) (dss_cons (ds_if (DW.dt (dw_or (dt_tru (de_isi .str (by rfl) T.b_isinstance (by rfl) T.b_str boot_str (de_pv (pv 1)))) (dw_or (dt_cmp (op_neQ (hu182 hr)) od_ne (de_ix (hu_of hr) (de_pv (pv 1)) (de_int)) (de_ix (hu_of hr) (de_pv (pv 0)) (de_int)) (nomark _)) (dw_or1 (dt_cmp (op_neQ (hu182 hr)) od_ne (de_callB call_lenA cd_len (by rfl) T.b_len boot_len (da_cons (de_ix (hu_of hr) (de_pv (pv 1)) (de_int)) da_nil)) (de_callB call_lenA cd_len (by rfl) T.b_len boot_len (da_cons (de_ix (hu_of hr) (de_pv (pv 0)) (de_int)) da_nil)) (nomark _)))))) (dss_one (ds_ret (de_bl))) dss_nil) (dss_one (ds_ret (de_callB (cr_all rfl) cd_all (by rfl) T.b_all boot_all (da_cons (de_lcN (own := [("_law_k", 3)]) rfl hN (di_rg1 (by rfl) T.b_range (da_cons (de_callB call_lenA cd_len (by rfl) T.b_len boot_len (da_cons (de_ix (hu_of hr) (de_pv (pv 1)) (de_int)) da_nil)) da_nil)) (blkOk_by (by rfl)) (by decide) (fun _ _ _ _ _ => (dgo_name hN (i := 3) rfl (by first | exact .inl rfl | exact .inr rfl))) (fun _ _ _ _ _ => dts_nil) (fun _ _ _ _ _ => (de_f D_law_match hr passNo (da_cons (de_ix (hu_of hr) (de_ix (hu_of hr) (de_pv (pv 0)) (de_int)) (de_pv (pv 3))) (da_cons (de_ix (hu_of hr) (de_ix (hu_of hr) (de_pv (pv 1)) (de_int)) (de_pv (pv 3))) (da_cons (de_pv (pv 2)) da_nil)))))) da_nil))))))) hw
/-! ### _law_rule -/
theorem sc__law_rule : FnScope ["_law_c", "_law_sig", "_law_names_here", "_law_depth", "_law_left", "_law_own"] ["_law_c", "_law_sig", "_law_names_here", "_law_depth"] (defScope s__law_rule) := ⟨rfl, rfl, rfl, by decide +kernel, rfl, by decide +kernel, by decide +kernel⟩
def w__law_rule (g_law_names : SpecD) (g_law_take : SpecD) (g_law_term : SpecD) : WS := (sSeq (sAsg (eCall [0] g_law_term (aC (eV 0) (aC (eV 1) (aC (eV 2) (aC (eV 3) aN))))) (gN 4)) (sSeq (sIf (tN (eIsi .str (eV 4))) (sAsg (eTup (aC (eC (.str "f")) (aC (eTup (aC (eV 4) aN)) aN))) (gN 4)) sNx) (sSeq (sAsg (eC (.int 7)) (gSb oSt (eV 0) (eC (.int 4)))) (sSeq (sAsg (eFn oList (aC (eCall [] g_law_names (aC (eV 4) aN)) aN)) (gN 5)) (sRet (eTup (aC (eV 4) (aC (eCall [0] g_law_term (aC (eV 0) (aC (eV 1) (aC (eFz (eV 5)) (aC (eB oAdd (eB oSub (eV 3) (eC (.int 1))) (eCall [0] g_law_take (aC (eV 0) (aC (eC (.int 2)) aN)))) aN))))) aN))))))))
theorem ok__law_rule {G : Pg} (T : Tk G) {g_law_names : SpecD} {g_law_take : SpecD} {g_law_term : SpecD} {k : Nat} (D_law_names : Df G "_law_names" ["_law_t"] k [] g_law_names) (D_law_take : Df G "_law_take" ["_law_c", "_law_many"] k [0] g_law_take) (D_law_term : Df G "_law_term" ["_law_c", "_law_sig", "_law_names_here", "_law_depth"] k [0] g_law_term) {g : SpecD} (mono : MonoG g) (len : ∀ ms Q R, g ms Q R → ms.length = 4) (hw : ∀ ms Q R, g ms Q R → w__law_rule g_law_names g_law_take g_law_term (endN [0] Q R) (startD 6 ms)) : Df G "_law_rule" ["_law_c", "_law_sig", "_law_names_here", "_law_depth"] (k + 1) [0] g :=
  Df.mk' T.at__law_rule sc__law_rule mono len (by decide) (fun f cdv A outer s H E hr => by
    have hN := sc__law_rule.nd
    have hx : ∀ σ, PassesAt (L2.CX G.pr G.w) (cxG G ["_law_c", "_law_sig", "_law_names_here", "_law_depth", "_law_left", "_law_own"] "_law_rule" s__law_rule f cdv A outer s H E) σ E := passAt (takes_of rfl rfl rfl rfl)
    exact (dss_cons (ds_set (i := 4) hN rfl (by first | exact .inl rfl | exact .inr rfl) (de_f D_law_term hr hx (da_cons (de_pv (pv 0)) (da_cons (de_pv (pv 1)) (da_cons (de_pv (pv 2)) (da_cons (de_pv (pv 3)) da_nil)))))) (dss_cons (ds_if (dt_tru (de_isi .str (by rfl) T.b_isinstance (by rfl) T.b_str boot_str (de_pv (pv 4)))) (dss_one (ds_set (i := 4) hN rfl (by first | exact .inl rfl | exact .inr rfl) (de_tup (da_cons (de_str) (da_cons (de_tup (da_cons (de_pv (pv 4)) da_nil)) da_nil))))) dss_nil) (dss_cons (ds_asg (de_int) (dg_sub (cv := G.cv) (E := fun _ => E) (de_pv (pv 0)) (de_int) (set_any (hu_of hr)) sd_any)) (dss_cons (ds_set (i := 5) hN rfl (by first | exact .inl rfl | exact .inr rfl) (de_callTy (call_lstA rfl) cd_list (by rfl) T.b_list boot_list (da_cons (de_f D_law_names hr hx (da_cons (de_pv (pv 4)) da_nil)) da_nil))) (dss_one (ds_ret (de_tup (da_cons (de_pv (pv 4)) (da_cons (de_f D_law_term hr hx (da_cons (de_pv (pv 0)) (da_cons (de_pv (pv 1)) (da_cons (de_fz (de_pv (pv 5))) (da_cons (de_op op_addG od_add (de_op op_sub od_sub (de_pv (pv 3)) (de_int)) (de_f D_law_take hr hx (da_cons (de_pv (pv 0)) (da_cons (de_int) da_nil)))) da_nil))))) da_nil)))))))))) hw
/-! ### _law_system -/
theorem sc__law_system : FnScope ["_law_c", "_law_sig", "_law_most", "_law_rows", "_law_k", "_law_names_here"] ["_law_c", "_law_sig", "_law_most"] (defScope s__law_system) := ⟨rfl, rfl, rfl, by decide +kernel, rfl, by decide +kernel, by decide +kernel⟩
def w__law_system (g_law_rule : SpecD) (g_law_take : SpecD) : WS := (sSeq (sAsg (eLst aN) (gN 3)) (sSeq (sFor (iRg1 (aC (eCall [0] g_law_take (aC (eV 0) (aC (eB oAdd (eV 2) (eC (.int 1))) aN))) aN)) (gN 4) (sSeq (sAsg (eC (.int 7)) (gSb oSt (eV 0) (eC (.int 4)))) (sSeq (sAsg (eB oIx (eLst (aC (eFz (eLst (aC (eC (.str "x")) (aC (eC (.str "y")) (aC (eC (.str "z")) (aC (eC (.str "w")) (aC (eC (.str "v")) aN))))))) (aC (eFz (eLst (aC (eC (.str "x")) (aC (eC (.str "x1")) (aC (eC (.str "x12")) (aC (eC (.str "x2")) (aC (eC (.str "zero")) aN))))))) (aC (eFz (eLst (aC (eC (.str "u1")) (aC (eC (.str "u0")) (aC (eC (.str "u")) (aC (eC (.str "u2")) (aC (eC (.str "y")) aN))))))) (aC (eFz (eLst (aC (eC (.str "y")) (aC (eC (.str "x2")) (aC (eC (.str "x")) (aC (eC (.str "value")) (aC (eC (.str "z9")) aN))))))) aN))))) (eCall [0] g_law_take (aC (eV 0) (aC (eC (.int 4)) aN)))) (gN 5)) (sExp (eMt .lst oApp (eV 3) (aC (eCall [0] g_law_rule (aC (eV 0) (aC (eV 1) (aC (eFz (eSl (eV 5) pN (pS (eB oAdd (eC (.int 1)) (eB oIx (eLst (aC (eCall [0] g_law_take (aC (eV 0) (aC (eC (.int 3)) aN))) (aC (eCall [0] g_law_take (aC (eV 0) (aC (eC (.int 5)) aN))) aN))) (eCall [0] g_law_take (aC (eV 0) (aC (eC (.int 2)) aN)))))))) (aC (eB oAdd (eC (.int 1)) (eCall [0] g_law_take (aC (eV 0) (aC (eC (.int 3)) aN)))) aN))))) aN)))))) (sRet (eFn oTuple (aC (eV 3) aN)))))
theorem ok__law_system {G : Pg} (T : Tk G) {g_law_rule : SpecD} {g_law_take : SpecD} {k : Nat} (D_law_rule : Df G "_law_rule" ["_law_c", "_law_sig", "_law_names_here", "_law_depth"] k [0] g_law_rule) (D_law_take : Df G "_law_take" ["_law_c", "_law_many"] k [0] g_law_take) {g : SpecD} (mono : MonoG g) (len : ∀ ms Q R, g ms Q R → ms.length = 3) (hw : ∀ ms Q R, g ms Q R → w__law_system g_law_rule g_law_take (endN [0] Q R) (startD 6 ms)) : Df G "_law_system" ["_law_c", "_law_sig", "_law_most"] (k + 1) [0] g :=
  Df.mk' T.at__law_system sc__law_system mono len (by decide) (fun f cdv A outer s H E hr => by
    have hN := sc__law_system.nd
    have hx : ∀ σ, PassesAt (L2.CX G.pr G.w) (cxG G ["_law_c", "_law_sig", "_law_most", "_law_rows", "_law_k", "_law_names_here"] "_law_system" s__law_system f cdv A outer s H E) σ E := passAt (takes_of rfl rfl rfl rfl)
    exact (dss_cons (ds_set (i := 3) hN rfl (by first | exact .inl rfl | exact .inr rfl) (de_lst da_nil)) (dss_cons (ds_for [] (passes_of rfl) rfl (di_rg1 (by rfl) T.b_range (da_cons (de_f D_law_take hr hx (da_cons (de_pv (pv 0)) (da_cons (de_op op_addG od_add (de_pv (pv 2)) (de_int)) da_nil))) da_nil)) (dg_name hN (i := 4) rfl (by first | exact .inl rfl | exact .inr rfl)) (dss_cons (ds_asg (de_int) (dg_sub (cv := G.cv) (E := fun _ => E) (de_pv (pv 0)) (de_int) (set_any (hu_of hr)) sd_any)) (dss_cons (ds_set (i := 5) hN rfl (by first | exact .inl rfl | exact .inr rfl) (de_ix (hu_of hr) (de_lst (da_cons (de_fz (de_lst (da_cons (de_str) (da_cons (de_str) (da_cons (de_str) (da_cons (de_str) (da_cons (de_str) da_nil))))))) (da_cons (de_fz (de_lst (da_cons (de_str) (da_cons (de_str) (da_cons (de_str) (da_cons (de_str) (da_cons (de_str) da_nil))))))) (da_cons (de_fz (de_lst (da_cons (de_str) (da_cons (de_str) (da_cons (de_str) (da_cons (de_str) (da_cons (de_str) da_nil))))))) (da_cons (de_fz (de_lst (da_cons (de_str) (da_cons (de_str) (da_cons (de_str) (da_cons (de_str) (da_cons (de_str) da_nil))))))) da_nil))))) (de_f D_law_take hr hx (da_cons (de_pv (pv 0)) (da_cons (de_int) da_nil))))) (dss_one (ds_expr (de_mt (t := .lst) PySem.F.plainAttrs_list PySem.F.slot_list_append PySem.F.type_list_append mt_append md_append (de_pv (pv 3)) (da_cons (de_f D_law_rule hr hx (da_cons (de_pv (pv 0)) (da_cons (de_pv (pv 1)) (da_cons (de_fz (de_sl (de_pv (pv 5)) dp_none (dp_some (de_op op_addG od_add (de_int) (de_ix (hu_of hr) (de_lst (da_cons (de_f D_law_take hr hx (da_cons (de_pv (pv 0)) (da_cons (de_int) da_nil))) (da_cons (de_f D_law_take hr hx (da_cons (de_pv (pv 0)) (da_cons (de_int) da_nil))) da_nil))) (de_f D_law_take hr hx (da_cons (de_pv (pv 0)) (da_cons (de_int) da_nil)))))))) (da_cons (de_op op_addG od_add (de_int) (de_f D_law_take hr hx (da_cons (de_pv (pv 0)) (da_cons (de_int) da_nil)))) da_nil))))) da_nil))))))) (dss_one (ds_ret (de_callTy (call_tupA rfl) cd_tuple (by rfl) T.b_tuple boot_tuple (da_cons (de_pv (pv 3)) da_nil))))))) hw
/-! ### _law_steps -/
theorem sc__law_steps : FnScope ["_law_system_here", "_law_t", "_law_found", "_law_p", "_law_one", "_law_k", "_law_s"] ["_law_system_here", "_law_t"] (defScope s__law_steps) := ⟨rfl, rfl, rfl, by decide +kernel, rfl, by decide +kernel, by decide +kernel⟩
def w__law_steps (g_law_apply : SpecD) (g_law_at : SpecD) (g_law_match : SpecD) (g_law_places : SpecD) (g_law_put : SpecD) : WS := (sSeq (sAsg (eLst aN) (gN 2)) (sSeq (sFor (iSeq (fun j => decide (j ∈ ([] : List Nat))) (eCall [] g_law_places (aC (eV 1) aN))) (gN 3) (sSeq (sAsg (eCall [] g_law_at (aC (eV 1) (aC (eV 3) aN))) (gN 4)) (sFor (iRg1 (aC (eFn oLen (aC (eV 0) aN)) aN)) (gN 5) (sSeq (sAsg (eDn) (gN 6)) (sIf (tN (eCall [2] g_law_match (aC (eB oIx (eB oIx (eV 0) (eV 5)) (eC (.int 0))) (aC (eV 4) (aC (eV 6) aN))))) (sExp (eMt .lst oApp (eV 2) (aC (eTup (aC (eTup (aC (eV 3) (aC (eV 5) aN))) (aC (eCall [] g_law_put (aC (eV 1) (aC (eV 3) (aC (eCall [] g_law_apply (aC (eFz (eV 6)) (aC (eB oIx (eB oIx (eV 0) (eV 5)) (eC (.int 1))) aN))) aN)))) aN))) aN))) sNx))))) (sRet (eV 2))))
theorem ok__law_steps {G : Pg} (T : Tk G) {g_law_apply : SpecD} {g_law_at : SpecD} {g_law_match : SpecD} {g_law_places : SpecD} {g_law_put : SpecD} {k : Nat} (D_law_apply : Df G "_law_apply" ["_law_s", "_law_t"] k [] g_law_apply) (D_law_at : Df G "_law_at" ["_law_t", "_law_p"] k [] g_law_at) (D_law_match : Df G "_law_match" ["_law_pattern", "_law_t", "_law_s"] k [2] g_law_match) (D_law_places : Df G "_law_places" ["_law_t"] k [] g_law_places) (D_law_put : Df G "_law_put" ["_law_t", "_law_p", "_law_s"] k [] g_law_put) {g : SpecD} (mono : MonoG g) (len : ∀ ms Q R, g ms Q R → ms.length = 2) (hw : ∀ ms Q R, g ms Q R → w__law_steps g_law_apply g_law_at g_law_match g_law_places g_law_put (endN [] Q R) (startD 7 ms)) : Df G "_law_steps" ["_law_system_here", "_law_t"] (k + 1) [] g :=
  Df.mk' T.at__law_steps sc__law_steps mono len (by decide) (fun f cdv A outer s H E hr => by
    have hN := sc__law_steps.nd
    have hx : ∀ σ, PassesAt (L2.CX G.pr G.w) (cxG G ["_law_system_here", "_law_t", "_law_found", "_law_p", "_law_one", "_law_k", "_law_s"] "_law_steps" s__law_steps f cdv A outer s H E) σ E := passAt (takes_of rfl rfl rfl rfl)
    exact (dss_cons (ds_set (i := 2) hN rfl (by first | exact .inl rfl | exact .inr rfl) (de_lst da_nil)) (dss_cons (ds_for [] (passes_of rfl) rfl (di_seq (de_f D_law_places hr hx (da_cons (de_pv (pv 1)) da_nil))) (dg_name hN (i := 3) rfl (by first | exact .inl rfl | exact .inr rfl)) (dss_cons (ds_set (i := 4) hN rfl (by first | exact .inl rfl | exact .inr rfl) (de_f D_law_at hr hx (da_cons (de_pv (pv 1)) (da_cons (de_pv (pv 3)) da_nil)))) (dss_one (ds_for [] (passes_of rfl) rfl (di_rg1 (by rfl) T.b_range (da_cons (de_callB call_lenA cd_len (by rfl) T.b_len boot_len (da_cons (de_pv (pv 0)) da_nil)) da_nil)) (dg_name hN (i := 5) rfl (by first | exact .inl rfl | exact .inr rfl)) (dss_cons (ds_set (i := 6) hN rfl (by first | exact .inl rfl | exact .inr rfl) (de_dn)) (dss_one (ds_if (dt_tru (de_f D_law_match hr hx (da_cons (de_ix (hu_of hr) (de_ix (hu_of hr) (de_pv (pv 0)) (de_pv (pv 5))) (de_int)) (da_cons (de_pv (pv 4)) (da_cons (de_pv (pv 6)) da_nil))))) (dss_one (ds_expr (de_mt (t := .lst) PySem.F.plainAttrs_list PySem.F.slot_list_append PySem.F.type_list_append mt_append md_append (de_pv (pv 2)) (da_cons (de_tup (da_cons (de_tup (da_cons (de_pv (pv 3)) (da_cons (de_pv (pv 5)) da_nil))) (da_cons (de_f D_law_put hr hx (da_cons (de_pv (pv 1)) (da_cons (de_pv (pv 3)) (da_cons (de_f D_law_apply hr hx (da_cons (de_fz (de_pv (pv 6))) (da_cons (de_ix (hu_of hr) (de_ix (hu_of hr) (de_pv (pv 0)) (de_pv (pv 5))) (de_int)) da_nil))) da_nil)))) da_nil))) da_nil)))) dss_nil))))))) (dss_one (ds_ret (de_pv (pv 2))))))) hw
/-! ### _law_led -/
theorem sc__law_led : FnScope ["_law_system_here", "_law_t", "_law_steps_here", "_law_one", "_law_found", "_law_told_here", "_law_result"] ["_law_system_here", "_law_t", "_law_steps_here"] (defScope s__law_led) := ⟨rfl, rfl, rfl, by decide +kernel, rfl, by decide +kernel, by decide +kernel⟩
def w__law_led (g_law_steps : SpecD) : WS := (sSeq (sIf (tNot (tN (eIsi .tup (eV 2)))) (sRet (eC .non)) sNx) (sSeq (sFor (iSeq (fun j => decide (j ∈ ([2] : List Nat))) (eV 2)) (gN 3) (sSeq (sAsg (eLc [5, 6] (iSeq (fun j => decide (j ∉ ([5, 6] : List Nat))) (eCall [] g_law_steps (aC (eV 0) (aC (eV 1) aN)))) (gTup 2 (gCons (gN 5) (gCons (gN 6) gNil))) (tB (eB oEq (eV 5) (eV 3))) (eV 6)) (gN 4)) (sSeq (sIf (tB (eB oEq (eFn oLen (aC (eV 4) aN)) (eC (.int 0)))) (sRet (eC .non)) sNx) (sAsg (eB oIx (eV 4) (eC (.int 0))) (gN 1))))) (sRet (eV 1))))
theorem ok__law_led {G : Pg} (T : Tk G) {g_law_steps : SpecD} {k : Nat} (D_law_steps : Df G "_law_steps" ["_law_system_here", "_law_t"] k [] g_law_steps) {g : SpecD} (mono : MonoG g) (len : ∀ ms Q R, g ms Q R → ms.length = 3) (hw : ∀ ms Q R, g ms Q R → w__law_led g_law_steps (endN [] Q R) (startD 7 ms)) : Df G "_law_led" ["_law_system_here", "_law_t", "_law_steps_here"] (k + 1) [] g :=
  Df.mk' T.at__law_led sc__law_led mono len (by decide) (fun f cdv A outer s H E hr => by
    have hN := sc__law_led.nd
    have hx : ∀ σ, PassesAt (L2.CX G.pr G.w) (cxG G ["_law_system_here", "_law_t", "_law_steps_here", "_law_one", "_law_found", "_law_told_here", "_law_result"] "_law_led" s__law_led f cdv A outer s H E) σ E := passAt (takes_of rfl rfl rfl rfl)
    exact (dss_cons (ds_if (dt_not (dt_tru (de_isi .tup (by rfl) T.b_isinstance (by rfl) T.b_tuple boot_tuple (de_pv (pv 2))))) (dss_one (ds_ret (de_non))) dss_nil) (dss_cons (ds_for [2] (passes_of rfl) rfl (di_seq (de_pv (pv 2))) (dg_name hN (i := 3) rfl (by first | exact .inl rfl | exact .inr rfl)) (dss_cons (ds_setLcN (i := 4) hN rfl rfl (by decide) (own := [("_law_told_here", 5), ("_law_result", 6)]) rfl hN (di_seq (de_f D_law_steps hr hx (da_cons (de_pv (pv 0)) (da_cons (de_pv (pv 1)) da_nil)))) (blkOk_by (by rfl)) (by decide) (fun _ _ _ _ _ => (dgo_tup rfl (dgos_cons (dgo_name hN (i := 5) rfl (by first | exact .inl rfl | exact .inr rfl)) (dgos_cons (dgo_name hN (i := 6) rfl (by first | exact .inl rfl | exact .inr rfl)) dgos_nil)))) (fun _ _ _ _ _ => (dts_one (dt_cmp (op_eqQ (hu182 hr)) od_eq (de_pv (pv 5)) (de_pv (pv 3)) (nomark _)))) (fun _ _ _ _ _ => (de_pv (pv 6)))) (dss_cons (ds_if (dt_cmp (op_eqQ (hu182 hr)) od_eq (de_callB call_lenA cd_len (by rfl) T.b_len boot_len (da_cons (de_pv (pv 4)) da_nil)) (de_int) (nomark _)) (dss_one (ds_ret (de_non))) dss_nil) (dss_one (ds_set (i := 1) hN rfl (by first | exact .inl rfl | exact .inr rfl) (de_ix (hu_of hr) (de_pv (pv 4)) (de_int))))))) (dss_one (ds_ret (de_pv (pv 1))))))) hw
/-! ### _law_large -/
theorem sc__law_large : FnScope ["_law_t", "_law_places_here", "_law_p"] ["_law_t"] (defScope s__law_large) := ⟨rfl, rfl, rfl, by decide +kernel, rfl, by decide +kernel, by decide +kernel⟩
def w__law_large (g_law_places : SpecD) : WS := (sSeq (sAsg (eCall [] g_law_places (aC (eV 0) aN)) (gN 1)) (sRet (eOr (eB oGt (eFn oLen (aC (eV 1) aN)) (eC (.int 400))) (eB oGt (eFn oMax (aC (eLc [2] (iSeq (fun j => decide (j ∉ ([2] : List Nat))) (eV 1)) (gN 2) tYs (eFn oLen (aC (eV 2) aN))) aN)) (eC (.int 39))))))
theorem ok__law_large {G : Pg} (T : Tk G) {g_law_places : SpecD} {k : Nat} (D_law_places : Df G "_law_places" ["_law_t"] k [] g_law_places) {g : SpecD} (mono : MonoG g) (len : ∀ ms Q R, g ms Q R → ms.length = 1) (hw : ∀ ms Q R, g ms Q R → w__law_large g_law_places (endN [] Q R) (startD 3 ms)) : Df G "_law_large" ["_law_t"] (k + 1) [] g :=
  Df.mk' T.at__law_large sc__law_large mono len (by decide) (fun f cdv A outer s H E hr => by
    have hN := sc__law_large.nd
    have hx : ∀ σ, PassesAt (L2.CX G.pr G.w) (cxG G ["_law_t", "_law_places_here", "_law_p"] "_law_large" s__law_large f cdv A outer s H E) σ E := passAt (takes_of rfl rfl rfl rfl)
    exact (dss_cons (ds_set (i := 1) hN rfl (by first | exact .inl rfl | exact .inr rfl) (de_f D_law_places hr hx (da_cons (de_pv (pv 0)) da_nil))) (dss_one (ds_ret (de_or (de_cmp op_gt od_gt (de_callB call_lenA cd_len (by rfl) T.b_len boot_len (da_cons (de_pv (pv 1)) da_nil)) (de_int) (nomark _)) (de_one (de_cmp op_gt od_gt (de_callB (call_maxA rfl) cd_max (by rfl) T.b_max boot_max (da_cons (de_lcN (own := [("_law_p", 2)]) rfl hN (di_seq (de_pv (pv 1))) (blkOk_by (by rfl)) (by decide) (fun _ _ _ _ _ => (dgo_name hN (i := 2) rfl (by first | exact .inl rfl | exact .inr rfl))) (fun _ _ _ _ _ => dts_nil) (fun _ _ _ _ _ => (de_callB call_lenA cd_len (by rfl) T.b_len boot_len (da_cons (de_pv (pv 2)) da_nil)))) da_nil)) (de_int) (nomark _)))))))) hw
/-! ### _law_all -/
theorem sc__law_all : FnScope ["_law_system_here", "_law_t"] ["_law_system_here", "_law_t"] (defScope s__law_all) := ⟨rfl, rfl, rfl, by decide +kernel, rfl, by decide +kernel, by decide +kernel⟩
def w__law_all (gsuccessors : SpecD) : WS := (sTry (sRet (eCall [] gsuccessors (aC (eV 0) (aC (eV 1) aN)))) [⟨clOf true false false, none, fun _ a _ => (sRet (eC (.str "limit")))⟩])
theorem ok__law_all {G : Pg} (T : Tk G) {gsuccessors : SpecD} {k : Nat} (Dsuccessors : Df G "successors" ["system", "t"] k [] gsuccessors) {g : SpecD} (mono : MonoG g) (len : ∀ ms Q R, g ms Q R → ms.length = 2) (hw : ∀ ms Q R, g ms Q R → w__law_all gsuccessors (endN [] Q R) (startD 2 ms)) : Df G "_law_all" ["_law_system_here", "_law_t"] (k + 1) [] g :=
  Df.mk' T.at__law_all sc__law_all mono len (by decide) (fun f cdv A outer s H E hr => by
    have hN := sc__law_all.nd
    have hx : ∀ σ, PassesAt (L2.CX G.pr G.w) (cxG G ["_law_system_here", "_law_t"] "_law_all" s__law_all f cdv A outer s H E) σ E := passAt (takes_of rfl rfl rfl rfl)
    exact (dss_one (ds_try rfl rfl (takes_of rfl rfl rfl rfl) (fun W pn xe tk po => by
    have hx := fun σ => passAt tk σ
    exact (dss_one (ds_ret (de_f Dsuccessors hr hx (da_cons (de_pv (pv 0)) (da_cons (de_pv (pv 1)) da_nil)))))) (.cons (T.n_LimitError.names (by rfl)) trivial T.n_LimitError.ex (fun e a oe d pn hz hf dk hc => by cases e with | lim => (cases dk; exact (dss_one (ds_ret (de_str)))) | stp => cases hc | txt n => cases hc) .nil)))) hw
/-! ### _law_told -/
theorem sc__law_told : FnScope ["_law_system_here", "_law_t", "_law_steps_here", "_law_single", "e"] ["_law_system_here", "_law_t", "_law_steps_here", "_law_single"] (defScope s__law_told) := ⟨rfl, rfl, rfl, by decide +kernel, rfl, by decide +kernel, by decide +kernel⟩
def w__law_told (gderive : SpecD) (gstep : SpecD) : WS := (sTry (sSeq (sIf (tN (eV 3)) (sRet (eLst (aC (eCall [] gstep (aC (eV 0) (aC (eV 1) (aC (eV 2) aN)))) aN))) sNx) (sRet (eLst (aC (eCall [] gderive (aC (eV 0) (aC (eV 1) (aC (eV 2) aN)))) aN)))) [⟨clOf true false false, some 4, fun _ a _ => (sRet (eLst (aC (eC (.str "limit")) (aC (eAnd (eIsE 4 a true) (eNot (eIsE 4 a false))) aN))))⟩, ⟨clOf false true false, some 4, fun _ a _ => (sRet (eAnd (eIsE 4 a true) (eAnd (eIsE 4 a true) (eAnd (eNot (eIsE 4 a false)) (eNot (eIsE 4 a false))))))⟩])
theorem ok__law_told {G : Pg} (T : Tk G) {gderive : SpecD} {gstep : SpecD} {k : Nat} (Dderive : Df G "derive" ["system", "t", "steps"] k [] gderive) (Dstep : Df G "step" ["system", "t", "one"] k [] gstep) {g : SpecD} (mono : MonoG g) (len : ∀ ms Q R, g ms Q R → ms.length = 4) (hw : ∀ ms Q R, g ms Q R → w__law_told gderive gstep (endN [] Q R) (startD 5 ms)) : Df G "_law_told" ["_law_system_here", "_law_t", "_law_steps_here", "_law_single"] (k + 1) [] g :=
  Df.mk' T.at__law_told sc__law_told mono len (by decide) (fun f cdv A outer s H E hr => by
    have hN := sc__law_told.nd
    have hx : ∀ σ, PassesAt (L2.CX G.pr G.w) (cxG G ["_law_system_here", "_law_t", "_law_steps_here", "_law_single", "e"] "_law_told" s__law_told f cdv A outer s H E) σ E := passAt (takes_of rfl rfl rfl rfl)
    exact (dss_one (ds_try rfl rfl (takes_of rfl rfl rfl rfl) (fun W pn xe tk po => by
    have hx := fun σ => passAt tk σ
    exact (dss_cons (ds_if (dt_tru (de_pv (pv 3))) (dss_one (ds_ret (de_lst (da_cons (de_f Dstep hr hx (da_cons (de_pv (pv 0)) (da_cons (de_pv (pv 1)) (da_cons (de_pv (pv 2)) da_nil)))) da_nil)))) dss_nil) (dss_one (ds_ret (de_lst (da_cons (de_f Dderive hr hx (da_cons (de_pv (pv 0)) (da_cons (de_pv (pv 1)) (da_cons (de_pv (pv 2)) da_nil)))) da_nil)))))) (.cons (T.n_LimitError.names (by rfl)) ⟨hN, rfl, rfl, by decide⟩ T.n_LimitError.ex (fun e a oe d pn hz hf dk hc => by cases e with | lim => (cases dk; exact (dss_one (ds_ret (de_lst (da_cons (de_str) (da_cons (de_and (de_isG T.i_LimitError_SubsideError hz hf (pv 4) (by rfl) (by rfl) T.b_isinstance) (de_one (de_not (de_isG T.i_LimitError_StepError hz hf (pv 4) (by rfl) (by rfl) T.b_isinstance)))) da_nil)))))) | stp => cases hc | txt n => cases hc) (.cons (T.n_StepError.names (by rfl)) ⟨hN, rfl, rfl, by decide⟩ T.n_StepError.ex (fun e a oe d pn hz hf dk hc => by cases e with | lim => cases hc | stp => (cases dk; exact (dss_one (ds_ret (de_and (de_isG T.i_StepError_SubsideError hz hf (pv 4) (by rfl) (by rfl) T.b_isinstance) (de_and (de_isG T.i_StepError_ValueError hz hf (pv 4) (by rfl) (by rfl) T.b_isinstance) (de_and (de_not (de_isG T.i_StepError_LimitError hz hf (pv 4) (by rfl) (by rfl) T.b_isinstance)) (de_one (de_not (de_isG T.i_StepError_TextError hz hf (pv 4) (by rfl) (by rfl) T.b_isinstance))))))))) | txt n => cases hc) .nil))))) hw
/-! ### law -/
theorem sc_law : FnScope ["_law_script", "_law_c", "_law_sig", "_law_system_here", "_law_t", "_law_due", "_law_places_here", "_law_one", "_law_found", "_law_steps_here", "_law_now", "_law_k", "_law_led_here", "_law_told_here", "_law_result", "_law_rows", "_law_row"] ["_law_script"] (defScope s_law) := ⟨rfl, rfl, rfl, by decide +kernel, rfl, by decide +kernel, by decide +kernel⟩
def w_law (g_law_all : SpecD) (g_law_large : SpecD) (g_law_led : SpecD) (g_law_places : SpecD) (g_law_signature : SpecD) (g_law_start : SpecD) (g_law_steps : SpecD) (g_law_system : SpecD) (g_law_take : SpecD) (g_law_term : SpecD) (g_law_told : SpecD) : WS := (sSeq (sAsg (eCall [] g_law_start (aC (eV 0) aN)) (gN 1)) (sSeq (sAsg (eCall [0] g_law_signature (aC (eV 1) aN)) (gN 2)) (sSeq (sAsg (eCall [0] g_law_system (aC (eV 1) (aC (eFz (eV 2)) (aC (eC (.int 4)) aN)))) (gN 3)) (sSeq (sAsg (eCall [0] g_law_term (aC (eV 1) (aC (eFz (eV 2)) (aC (eFz (eLst (aC (eC (.str "x")) (aC (eC (.str "y")) aN)))) (aC (eC (.int 4)) aN))))) (gN 4)) (sSeq (sAsg (eCall [] g_law_steps (aC (eV 3) (aC (eV 4) aN))) (gN 5)) (sSeq (sIf (tN (eFn oAny (aC (eLc [7, 14] (iSeq (fun j => decide (j ∉ ([7, 14] : List Nat))) (eV 5)) (gTup 2 (gCons (gN 7) (gCons (gN 14) gNil))) tYs (eCall [] g_law_large (aC (eV 14) aN))) aN))) (sIf (tB (eB oNe (eCall [] g_law_all (aC (eV 3) (aC (eV 4) aN))) (eC (.str "limit")))) (sRet (eC (.bl false))) sNx) (sIf (tB (eB oNe (eCall [] g_law_all (aC (eV 3) (aC (eV 4) aN))) (eV 5))) (sRet (eC (.bl false))) sNx)) (sSeq (sFor (iSeq (fun j => decide (j ∈ ([] : List Nat))) (eSl (eV 5) pN (pS (eC (.int 3))))) (gTup 2 (gCons (gN 7) (gCons (gN 14) gNil))) (sIf (tB (eB oNe (eCall [] g_law_told (aC (eV 3) (aC (eV 4) (aC (eV 7) (aC (eC (.bl true)) aN))))) (eB oIx (eLst (aC (eFz (eLst (aC (eV 14) aN))) (aC (eFz (eLst (aC (eC (.str "limit")) (aC (eC (.bl true)) aN)))) aN))) (eFn oInt (aC (eCall [] g_law_large (aC (eV 14) aN)) aN))))) (sRet (eC (.bl false))) sNx)) (sSeq (sAsg (eCall [] g_law_places (aC (eV 4) aN)) (gN 6)) (sSeq (sAsg (eTup (aC (eB oAdd (eB oIx (eV 6) (eCall [0] g_law_take (aC (eV 1) (aC (eFn oLen (aC (eV 6) aN)) aN)))) (eB oIx (eTup (aC (eTup aN) (aC (eTup (aC (eC (.int 0)) aN)) (aC (eTup (aC (eB oSub (eC (.int 0)) (eC (.int 1))) aN)) aN)))) (eCall [0] g_law_take (aC (eV 1) (aC (eC (.int 3)) aN))))) (aC (eB oSub (eCall [0] g_law_take (aC (eV 1) (aC (eC (.int 6)) aN))) (eC (.int 1))) aN))) (gN 7)) (sSeq (sAsg (eLc [13, 14] (iSeq (fun j => decide (j ∉ ([13, 14] : List Nat))) (eV 5)) (gTup 2 (gCons (gN 13) (gCons (gN 14) gNil))) (tAnd (tB (eB oEq (eV 13) (eV 7))) (tNot (tN (eCall [] g_law_large (aC (eV 14) aN))))) (eV 14)) (gN 8)) (sSeq (sIf (tN (eFn oAny (aC (eLc [13, 14] (iSeq (fun j => decide (j ∉ ([13, 14] : List Nat))) (eV 5)) (gTup 2 (gCons (gN 13) (gCons (gN 14) gNil))) tYs (eAnd (eB oEq (eV 13) (eV 7)) (eCall [] g_law_large (aC (eV 14) aN)))) aN))) (sRet (eB oEq (eCall [] g_law_told (aC (eV 3) (aC (eV 4) (aC (eV 7) (aC (eC (.bl true)) aN))))) (eLst (aC (eC (.str "limit")) (aC (eC (.bl true)) aN))))) sNx) (sSeq (sIf (tOr (tAnd (tN (eV 8)) (tB (eB oNe (eCall [] g_law_told (aC (eV 3) (aC (eV 4) (aC (eV 7) (aC (eC (.bl true)) aN))))) (eLst (aC (eB oIx (eV 8) (eC (.int 0))) aN))))) (tAnd (tNot (tN (eV 8))) (tB (eB (oIs true) (eCall [] g_law_told (aC (eV 3) (aC (eV 4) (aC (eV 7) (aC (eC (.bl true)) aN))))) (eC (.bl true)))))) (sRet (eC (.bl false))) sNx) (sSeq (sAsg (eLst aN) (gN 9)) (sSeq (sAsg (eV 4) (gN 10)) (sSeq (sFor (iRg1 (aC (eCall [0] g_law_take (aC (eV 1) (aC (eC (.int 5)) aN))) aN)) (gN 11) (sSeq (sAsg (eCall [] g_law_steps (aC (eV 3) (aC (eV 10) aN))) (gN 15)) (sSeq (sAsg (eB oIx (eB oAdd (eV 15) (eLst (aC (eTup (aC (eTup (aC (eTup aN) (aC (eC (.int 0)) aN))) (aC (eV 10) aN))) aN))) (eCall [0] g_law_take (aC (eV 1) (aC (eFn oMax (aC (eC (.int 1)) (aC (eFn oLen (aC (eV 15) aN)) aN))) aN)))) (gN 16)) (sIf (tAnd (tN (eV 15)) (tB (eB oLt (eFn oLen (aC (eCall [] g_law_places (aC (eB oIx (eV 16) (eC (.int 1))) aN)) aN)) (eC (.int 60))))) (sSeq (sExp (eMt .lst oApp (eV 9) (aC (eB oIx (eV 16) (eC (.int 0))) aN))) (sAsg (eB oIx (eV 16) (eC (.int 1))) (gN 10))) sNx)))) (sSeq (sIf (tAnd (tN (eV 9)) (tB (eB oEq (eCall [0] g_law_take (aC (eV 1) (aC (eC (.int 3)) aN))) (eC (.int 0))))) (sSeq (sAsg (eCall [0] g_law_take (aC (eV 1) (aC (eFn oLen (aC (eV 9) aN)) aN))) (gN 11)) (sAsg (eTup (aC (eB oIx (eB oIx (eV 9) (eV 11)) (eC (.int 0))) (aC (eB oAdd (eB oIx (eB oIx (eV 9) (eV 11)) (eC (.int 1))) (eC (.int 1))) aN))) (gSb oSt (eV 9) (eV 11)))) sNx) (sSeq (sFor (iRg1 (aC (eB oAdd (eFn oLen (aC (eV 9) aN)) (eC (.int 1))) aN)) (gN 11) (sSeq (sAsg (eCall [] g_law_led (aC (eV 3) (aC (eV 4) (aC (eFn oTuple (aC (eSl (eV 9) pN (pS (eV 11))) aN)) aN)))) (gN 10)) (sIf (tAnd (tB (eB (oIs true) (eV 10) (eC .non))) (tN (eCall [] g_law_large (aC (eV 10) aN)))) (sRet (eC (.bl true))) sNx))) (sSeq (sAsg (eCall [] g_law_led (aC (eV 3) (aC (eV 4) (aC (eFn oTuple (aC (eV 9) aN)) aN)))) (gN 12)) (sSeq (sAsg (eCall [] g_law_told (aC (eV 3) (aC (eV 4) (aC (eFn oTuple (aC (eV 9) aN)) (aC (eC (.bl false)) aN))))) (gN 13)) (sSeq (sIf (tB (eB (oIs false) (eV 12) (eC .non))) (sRet (eB (oIs false) (eV 13) (eC (.bl true)))) sNx) (sRet (eB oEq (eV 13) (eLst (aC (eV 12) aN))))))))))))))))))))))))
theorem ok_law {G : Pg} (T : Tk G) {g_law_all : SpecD} {g_law_large : SpecD} {g_law_led : SpecD} {g_law_places : SpecD} {g_law_signature : SpecD} {g_law_start : SpecD} {g_law_steps : SpecD} {g_law_system : SpecD} {g_law_take : SpecD} {g_law_term : SpecD} {g_law_told : SpecD} {k : Nat} (D_law_all : Df G "_law_all" ["_law_system_here", "_law_t"] k [] g_law_all) (D_law_large : Df G "_law_large" ["_law_t"] k [] g_law_large) (D_law_led : Df G "_law_led" ["_law_system_here", "_law_t", "_law_steps_here"] k [] g_law_led) (D_law_places : Df G "_law_places" ["_law_t"] k [] g_law_places) (D_law_signature : Df G "_law_signature" ["_law_c"] k [0] g_law_signature) (D_law_start : Df G "_law_start" ["_law_script"] k [] g_law_start) (D_law_steps : Df G "_law_steps" ["_law_system_here", "_law_t"] k [] g_law_steps) (D_law_system : Df G "_law_system" ["_law_c", "_law_sig", "_law_most"] k [0] g_law_system) (D_law_take : Df G "_law_take" ["_law_c", "_law_many"] k [0] g_law_take) (D_law_term : Df G "_law_term" ["_law_c", "_law_sig", "_law_names_here", "_law_depth"] k [0] g_law_term) (D_law_told : Df G "_law_told" ["_law_system_here", "_law_t", "_law_steps_here", "_law_single"] k [] g_law_told) {g : SpecD} (mono : MonoG g) (len : ∀ ms Q R, g ms Q R → ms.length = 1) (hw : ∀ ms Q R, g ms Q R → w_law g_law_all g_law_large g_law_led g_law_places g_law_signature g_law_start g_law_steps g_law_system g_law_take g_law_term g_law_told (endN [] Q R) (startD 17 ms)) : Df G "law" ["_law_script"] (k + 1) [] g :=
  Df.mk' T.at_law sc_law mono len (by decide) (fun f cdv A outer s H E hr => by
    have hN := sc_law.nd
    have hx : ∀ σ, PassesAt (L2.CX G.pr G.w) (cxG G ["_law_script", "_law_c", "_law_sig", "_law_system_here", "_law_t", "_law_due", "_law_places_here", "_law_one", "_law_found", "_law_steps_here", "_law_now", "_law_k", "_law_led_here", "_law_told_here", "_law_result", "_law_rows", "_law_row"] "law" s_law f cdv A outer s H E) σ E := passAt (takes_of rfl rfl rfl rfl)
    exact (dss_cons (ds_set (i := 1) hN rfl (by first | exact .inl rfl | exact .inr rfl) (de_f D_law_start hr hx (da_cons (de_pv (pv 0)) da_nil))) (dss_cons (ds_set (i := 2) hN rfl (by first | exact .inl rfl | exact .inr rfl) (de_f D_law_signature hr hx (da_cons (de_pv (pv 1)) da_nil))) (dss_cons (ds_set (i := 3) hN rfl (by first | exact .inl rfl | exact .inr rfl) (de_f D_law_system hr hx (da_cons (de_pv (pv 1)) (da_cons (de_fz (de_pv (pv 2))) (da_cons (de_int) da_nil))))) (dss_cons (ds_set (i := 4) hN rfl (by first | exact .inl rfl | exact .inr rfl) (de_f D_law_term hr hx (da_cons (de_pv (pv 1)) (da_cons (de_fz (de_pv (pv 2))) (da_cons (de_fz (de_lst (da_cons (de_str) (da_cons (de_str) da_nil)))) (da_cons (de_int) da_nil)))))) (dss_cons (ds_set (i := 5) hN rfl (by first | exact .inl rfl | exact .inr rfl) (de_f D_law_steps hr hx (da_cons (de_pv (pv 3)) (da_cons (de_pv (pv 4)) da_nil)))) (dss_cons (ds_if (dt_tru (de_callB (cr_any rfl) cd_any (by rfl) T.b_any boot_any (da_cons (de_lcN (own := [("_law_one", 7), ("_law_result", 14)]) rfl hN (di_seq (de_pv (pv 5))) (blkOk_by (by rfl)) (by decide) (fun _ _ _ _ _ => (dgo_tup rfl (dgos_cons (dgo_name hN (i := 7) rfl (by first | exact .inl rfl | exact .inr rfl)) (dgos_cons (dgo_name hN (i := 14) rfl (by first | exact .inl rfl | exact .inr rfl)) dgos_nil)))) (fun _ _ _ _ _ => dts_nil) (fun _ _ _ _ _ => (de_f D_law_large hr passNo (da_cons (de_pv (pv 14)) da_nil)))) da_nil))) (dss_one (ds_if (dt_cmp (op_neQ (hu182 hr)) od_ne (de_f D_law_all hr hx (da_cons (de_pv (pv 3)) (da_cons (de_pv (pv 4)) da_nil))) (de_str) (nomark _)) (dss_one (ds_ret (de_bl))) dss_nil)) (dss_one (ds_if (dt_cmp (op_neQ (hu182 hr)) od_ne (de_f D_law_all hr hx (da_cons (de_pv (pv 3)) (da_cons (de_pv (pv 4)) da_nil))) (de_pv (pv 5)) (nomark _)) (dss_one (ds_ret (de_bl))) dss_nil))) (dss_cons (ds_for [] (passes_of rfl) rfl (di_seq (de_sl (de_pv (pv 5)) dp_none (dp_some (de_int)))) (dg_tup rfl (dgs_cons (dg_name hN (i := 7) rfl (by first | exact .inl rfl | exact .inr rfl)) (dgs_cons (dg_name hN (i := 14) rfl (by first | exact .inl rfl | exact .inr rfl)) dgs_nil))) (dss_one (ds_if (dt_cmp (op_neQ (hu182 hr)) od_ne (de_f D_law_told hr hx (da_cons (de_pv (pv 3)) (da_cons (de_pv (pv 4)) (da_cons (de_pv (pv 7)) (da_cons (de_bl) da_nil))))) (de_ix (hu_of hr) (de_lst (da_cons (de_fz (de_lst (da_cons (de_pv (pv 14)) da_nil))) (da_cons (de_fz (de_lst (da_cons (de_str) (da_cons (de_bl) da_nil)))) da_nil))) (de_callTy call_int1 cd_int (by rfl) T.b_int boot_int (da_cons (de_f D_law_large hr hx (da_cons (de_pv (pv 14)) da_nil)) da_nil))) (nomark _)) (dss_one (ds_ret (de_bl))) dss_nil))) (dss_cons (ds_set (i := 6) hN rfl (by first | exact .inl rfl | exact .inr rfl) (de_f D_law_places hr hx (da_cons (de_pv (pv 4)) da_nil))) (dss_cons (ds_set (i := 7) hN rfl (by first | exact .inl rfl | exact .inr rfl) (de_tup (da_cons (de_op op_addG od_add (de_ix (hu_of hr) (de_pv (pv 6)) (de_f D_law_take hr hx (da_cons (de_pv (pv 1)) (da_cons (de_callB call_lenA cd_len (by rfl) T.b_len boot_len (da_cons (de_pv (pv 6)) da_nil)) da_nil)))) (de_ix (hu_of hr) (de_tup (da_cons (de_tup da_nil) (da_cons (de_tup (da_cons (de_int) da_nil)) (da_cons (de_tup (da_cons (de_op op_sub od_sub (de_int) (de_int)) da_nil)) da_nil)))) (de_f D_law_take hr hx (da_cons (de_pv (pv 1)) (da_cons (de_int) da_nil))))) (da_cons (de_op op_sub od_sub (de_f D_law_take hr hx (da_cons (de_pv (pv 1)) (da_cons (de_int) da_nil))) (de_int)) da_nil)))) (dss_cons (ds_setLcN (i := 8) hN rfl rfl (by decide) (own := [("_law_told_here", 13), ("_law_result", 14)]) rfl hN (di_seq (de_pv (pv 5))) (blkOk_by (by rfl)) (by decide) (fun _ _ _ _ _ => (dgo_tup rfl (dgos_cons (dgo_name hN (i := 13) rfl (by first | exact .inl rfl | exact .inr rfl)) (dgos_cons (dgo_name hN (i := 14) rfl (by first | exact .inl rfl | exact .inr rfl)) dgos_nil)))) (fun _ _ _ _ _ => (dts_one (DW.dt (dw_and (dt_cmp (op_eqQ (hu182 hr)) od_eq (de_pv (pv 13)) (de_pv (pv 7)) (nomark _)) (dw_and1 (dt_not (dt_tru (de_f D_law_large hr passNo (da_cons (de_pv (pv 14)) da_nil))))))))) (fun _ _ _ _ _ => (de_pv (pv 14)))) (dss_cons (ds_if (dt_tru (de_callB (cr_any rfl) cd_any (by rfl) T.b_any boot_any (da_cons (de_lcN (own := [("_law_told_here", 13), ("_law_result", 14)]) rfl hN (di_seq (de_pv (pv 5))) (blkOk_by (by rfl)) (by decide) (fun _ _ _ _ _ => (dgo_tup rfl (dgos_cons (dgo_name hN (i := 13) rfl (by first | exact .inl rfl | exact .inr rfl)) (dgos_cons (dgo_name hN (i := 14) rfl (by first | exact .inl rfl | exact .inr rfl)) dgos_nil)))) (fun _ _ _ _ _ => dts_nil) (fun _ _ _ _ _ => (de_and (de_cmp (op_eqQ (hu182 hr)) od_eq (de_pv (pv 13)) (de_pv (pv 7)) (nomark _)) (de_one (de_f D_law_large hr passNo (da_cons (de_pv (pv 14)) da_nil)))))) da_nil))) (dss_one (ds_ret (de_cmp (op_eqQ (hu182 hr)) od_eq (de_f D_law_told hr hx (da_cons (de_pv (pv 3)) (da_cons (de_pv (pv 4)) (da_cons (de_pv (pv 7)) (da_cons (de_bl) da_nil))))) (de_lst (da_cons (de_str) (da_cons (de_bl) da_nil))) (nomark _)))) dss_nil) (dss_cons (ds_if (DW.dt (dw_or (DW.dt (dw_and (dt_tru (de_pv (pv 8))) (dw_and1 (dt_cmp (op_neQ (hu182 hr)) od_ne (de_f D_law_told hr hx (da_cons (de_pv (pv 3)) (da_cons (de_pv (pv 4)) (da_cons (de_pv (pv 7)) (da_cons (de_bl) da_nil))))) (de_lst (da_cons (de_ix (hu_of hr) (de_pv (pv 8)) (de_int)) da_nil)) (nomark _))))) (dw_or1 (DW.dt (dw_and (dt_not (dt_tru (de_pv (pv 8)))) (dw_and1 (dt_cmp op_notG od_is (de_f D_law_told hr hx (da_cons (de_pv (pv 3)) (da_cons (de_pv (pv 4)) (da_cons (de_pv (pv 7)) (da_cons (de_bl) da_nil))))) (de_bl) (nomark _)))))))) (dss_one (ds_ret (de_bl))) dss_nil) (dss_cons (ds_set (i := 9) hN rfl (by first | exact .inl rfl | exact .inr rfl) (de_lst da_nil)) (dss_cons (ds_set (i := 10) hN rfl (by first | exact .inl rfl | exact .inr rfl) (de_pv (pv 4))) (dss_cons (ds_for [] (passes_of rfl) rfl (di_rg1 (by rfl) T.b_range (da_cons (de_f D_law_take hr hx (da_cons (de_pv (pv 1)) (da_cons (de_int) da_nil))) da_nil)) (dg_name hN (i := 11) rfl (by first | exact .inl rfl | exact .inr rfl)) (dss_cons (ds_set (i := 15) hN rfl (by first | exact .inl rfl | exact .inr rfl) (de_f D_law_steps hr hx (da_cons (de_pv (pv 3)) (da_cons (de_pv (pv 10)) da_nil)))) (dss_cons (ds_set (i := 16) hN rfl (by first | exact .inl rfl | exact .inr rfl) (de_ix (hu_of hr) (de_op op_addG od_add (de_pv (pv 15)) (de_lst (da_cons (de_tup (da_cons (de_tup (da_cons (de_tup da_nil) (da_cons (de_int) da_nil))) (da_cons (de_pv (pv 10)) da_nil))) da_nil))) (de_f D_law_take hr hx (da_cons (de_pv (pv 1)) (da_cons (de_callB (call_maxA rfl) cd_max (by rfl) T.b_max boot_max (da_cons (de_int) (da_cons (de_callB call_lenA cd_len (by rfl) T.b_len boot_len (da_cons (de_pv (pv 15)) da_nil)) da_nil))) da_nil))))) (dss_one (ds_if (DW.dt (dw_and (dt_tru (de_pv (pv 15))) (dw_and1 (dt_cmp op_lt od_lt (de_callB call_lenA cd_len (by rfl) T.b_len boot_len (da_cons (de_f D_law_places hr hx (da_cons (de_ix (hu_of hr) (de_pv (pv 16)) (de_int)) da_nil)) da_nil)) (de_int) (nomark _))))) (dss_cons (ds_expr (de_mt (t := .lst) PySem.F.plainAttrs_list PySem.F.slot_list_append PySem.F.type_list_append mt_append md_append (de_pv (pv 9)) (da_cons (de_ix (hu_of hr) (de_pv (pv 16)) (de_int)) da_nil))) (dss_one (ds_set (i := 10) hN rfl (by first | exact .inl rfl | exact .inr rfl) (de_ix (hu_of hr) (de_pv (pv 16)) (de_int))))) dss_nil))))) (dss_cons (ds_if (DW.dt (dw_and (dt_tru (de_pv (pv 9))) (dw_and1 (dt_cmp (op_eqQ (hu182 hr)) od_eq (de_f D_law_take hr hx (da_cons (de_pv (pv 1)) (da_cons (de_int) da_nil))) (de_int) (nomark _))))) (dss_cons (ds_set (i := 11) hN rfl (by first | exact .inl rfl | exact .inr rfl) (de_f D_law_take hr hx (da_cons (de_pv (pv 1)) (da_cons (de_callB call_lenA cd_len (by rfl) T.b_len boot_len (da_cons (de_pv (pv 9)) da_nil)) da_nil)))) (dss_one (ds_asg (de_tup (da_cons (de_ix (hu_of hr) (de_ix (hu_of hr) (de_pv (pv 9)) (de_pv (pv 11))) (de_int)) (da_cons (de_op op_addG od_add (de_ix (hu_of hr) (de_ix (hu_of hr) (de_pv (pv 9)) (de_pv (pv 11))) (de_int)) (de_int)) da_nil))) (dg_sub (cv := G.cv) (E := fun _ => E) (de_pv (pv 9)) (de_pv (pv 11)) (set_any (hu_of hr)) sd_any)))) dss_nil) (dss_cons (ds_for [] (passes_of rfl) rfl (di_rg1 (by rfl) T.b_range (da_cons (de_op op_addG od_add (de_callB call_lenA cd_len (by rfl) T.b_len boot_len (da_cons (de_pv (pv 9)) da_nil)) (de_int)) da_nil)) (dg_name hN (i := 11) rfl (by first | exact .inl rfl | exact .inr rfl)) (dss_cons (ds_set (i := 10) hN rfl (by first | exact .inl rfl | exact .inr rfl) (de_f D_law_led hr hx (da_cons (de_pv (pv 3)) (da_cons (de_pv (pv 4)) (da_cons (de_callTy (call_tupA rfl) cd_tuple (by rfl) T.b_tuple boot_tuple (da_cons (de_sl (de_pv (pv 9)) dp_none (dp_some (de_pv (pv 11)))) da_nil)) da_nil))))) (dss_one (ds_if (DW.dt (dw_and (dt_cmp op_notG od_is (de_pv (pv 10)) (de_non) (nomark _)) (dw_and1 (dt_tru (de_f D_law_large hr hx (da_cons (de_pv (pv 10)) da_nil)))))) (dss_one (ds_ret (de_bl))) dss_nil)))) (dss_cons (ds_set (i := 12) hN rfl (by first | exact .inl rfl | exact .inr rfl) (de_f D_law_led hr hx (da_cons (de_pv (pv 3)) (da_cons (de_pv (pv 4)) (da_cons (de_callTy (call_tupA rfl) cd_tuple (by rfl) T.b_tuple boot_tuple (da_cons (de_pv (pv 9)) da_nil)) da_nil))))) (dss_cons (ds_set (i := 13) hN rfl (by first | exact .inl rfl | exact .inr rfl) (de_f D_law_told hr hx (da_cons (de_pv (pv 3)) (da_cons (de_pv (pv 4)) (da_cons (de_callTy (call_tupA rfl) cd_tuple (by rfl) T.b_tuple boot_tuple (da_cons (de_pv (pv 9)) da_nil)) (da_cons (de_bl) da_nil)))))) (dss_cons (ds_if (dt_cmp op_isG od_is (de_pv (pv 12)) (de_non) (nomark _)) (dss_one (ds_ret (de_cmp op_isG od_is (de_pv (pv 13)) (de_bl) (nomark _)))) dss_nil) (dss_one (ds_ret (de_cmp (op_eqQ (hu182 hr)) od_eq (de_pv (pv 13)) (de_lst (da_cons (de_pv (pv 12)) da_nil)) (nomark _))))))))))))))))))))))))) hw
end Sd
set_option maxHeartbeats 1000000
/-! U1: the program's defs of terms. -/
namespace Sd
open PySem PySem.Spec PyProof.Rows L2
variable [Tb]
theorem D_is_variable {G : Pg} (T : Tk G) (k : Nat) : Df G "is_variable" ["t"] (k + 1) [] gIsVar :=
  ok_is_variable T (gTm.mono _ _) gTm.len (by
    rintro ms Q R ⟨t, rfl, _, q⟩
    dsimp only at q
    rw [← isD_str] at q
    exact q)
theorem D_inner {G : Pg} (T : Tk G) (k : Nat) : Df G "inner" ["t"] (k + 2) [] gInner :=
  ok_inner T (D_is_variable T k) (gTm.mono _ _) gTm.len (by
    rintro ms Q R ⟨t, rfl, _, q⟩
    dsimp only at q
    refine ⟨t, rfl, trivial, ?_⟩
    cases t with
    | v x => exact ⟨Nat.zero_le _, q⟩
    | f s as => exact q)
theorem D_parts {G : Pg} (T : Tk G) (k : Nat) : Df G "parts" ["t"] (k + 3) [] gParts :=
  ok_parts T (D_inner T k) (gTm.mono _ _) gTm.len (by
    rintro ms Q R ⟨t, rfl, hn, q⟩
    dsimp only at q
    refine ⟨Nat.zero_le _, by show 1 < 4; decide, by show 1 ≤ sizeLine; decide, by show 2 < 4; decide, ?_⟩
    refine while_by (fun m s => ∃ found left x3, s = [some (.p t.d), some (.ml (dL found)), some (.ml (dL left)), x3] ∧ m = nL left ∧ found ++ psL left.reverse = t.parts) (nL [t])
      ⟨[], [t], none, rfl, rfl, by simp [psL]⟩ ?_
    rintro m s ⟨found, left, x3, rfl, rfl, he⟩
    have hlen := congrArg List.length he
    rw [List.length_append, psL_len, parts_len'] at hlen
    rcases List.eq_nil_or_concat left with rfl | ⟨l', u, rfl⟩
    · rw [show t.parts = found by rw [← he]; simp [psL]] at q
      exact q
    · rw [List.concat_eq_append] at *
      rw [dL_snoc]
      show if (!(dL l' ++ [u.d]).isEmpty) = true then _ else _
      rw [if_pos (by simp)]
      refine ⟨rfl, ?_⟩
      show match (dL l' ++ [u.d]).getLast? with | some _ => _ | none => False
      rw [last_app, dropLast_app]
      have e1 : (l' ++ [u]).reverse = u :: l'.reverse := by simp
      rw [e1] at he hlen
      simp only [psL, nL] at he hlen
      rw [parts_eq] at he
      have hnl : ∀ l : List Tr, nL l.reverse = nL l := fun l => by
        induction l with
        | nil => rfl
        | cons a l ih => rw [List.reverse_cons, nL_app, ih]; simp [nL]; omega
      have hl' := nL_len l'
      have ha := nL_as u
      have hb := nL_len u.as
      rw [hnl] at hlen
      refine ⟨by show 3 < 4; decide, rfl, ?_, rfl, u, rfl, trivial, ?_⟩
      · show (dL found).length < sizeLine
        rw [dL_len]; omega
      · show (dL l').length + (dL u.as).reverse.length ≤ sizeLine ∧ _
        rw [List.length_reverse, dL_len, dL_len]
        refine ⟨by omega, nL (l' ++ u.as.reverse), ?_, found ++ [u], l' ++ u.as.reverse, some (.p u.d), ?_, rfl, ?_⟩
        · rw [nL_app, nL_app, hnl]; simp only [nL]; omega
        · rw [dL_snoc, dL_app, dL_rev]
          rfl
        · rw [← he, List.reverse_append, List.reverse_reverse, psL_app]; simp)
theorem D_size {G : Pg} (T : Tk G) (k : Nat) : Df G "size" ["t"] (k + 4) [] gSize :=
  ok_size T (D_parts T k) (gTm.mono _ _) gTm.len (by
    rintro ms Q R ⟨t, rfl, hn, q⟩
    dsimp only at q
    refine ⟨t, rfl, hn, ?_⟩
    show Q (.p (.int ((dL t.parts).length : Nat))) []
    rw [dL_len, parts_len']
    exact q)
theorem D_depth {G : Pg} (T : Tk G) (k : Nat) : Df G "depth" ["t"] (k + 3) [] gDepth :=
  ok_depth T (D_inner T k) (gTm.mono _ _) gTm.len (by
    rintro ms Q R ⟨t, rfl, hn, q⟩
    dsimp only at q
    refine ⟨by show 1 ≤ sizeLine; decide, by show 1 < 5; decide, by show 2 < 5; decide, ?_⟩
    refine while_by (fun m s => ∃ (level : List Tr) (c : Nat) (x3 x4 : Option M), s = [some (.p t.d), some (.ml (dL level)), some (.p (.int c)), x3, x4] ∧ m = hL level ∧ c + hL level = t.h ∧ nL level ≤ t.n) (hL [t])
      ⟨[t], 0, none, none, rfl, rfl, by simp [hL], by simp [nL]⟩ ?_
    rintro m s ⟨level, c, x3, x4, rfl, rfl, hc, hl⟩
    cases level with
    | nil =>
      rw [show t.h = c by simpa [hL] using hc.symm] at q
      exact q
    | cons u l =>
      refine ⟨by show 2 < 5; decide, Nat.zero_le _, by show 3 < 5; decide, ?_⟩
      refine ⟨rfl, ⟨dL (u :: l), rfl⟩, ?_⟩
      generalize hL9 : u :: l = lv at *
      refine for_slot (xs := lv) (en := Tr.d) (fun i s => ∃ (x4 : Option M), s = [some (.p t.d), some (.ml (dL lv)), some (.p (.int ((c : Int) + 1))), some (.ml (dL ((lv.take i).flatMap Tr.as))), x4]) (fun i s ⟨x4, e⟩ => by rw [e, dL_map]; rfl) ⟨x4, rfl⟩ ?_ ?_
      · rintro i a s ei ⟨x4, rfl⟩
        refine ⟨by show 4 < 5; decide, rfl, a, rfl, trivial, ?_, some (.p a.d), ?_⟩
        · show (dL ((lv.take i).flatMap Tr.as)).length + (dL a.as).length ≤ sizeLine
          rw [dL_len, dL_len]
          have e1 : (lv.take (i + 1)).flatMap Tr.as = (lv.take i).flatMap Tr.as ++ a.as := by rw [take_snoc ei, List.flatMap_append]; simp
          have h1 : ((lv.take (i + 1)).flatMap Tr.as).length ≤ nL (lv.take (i + 1)) := by
            generalize lv.take (i + 1) = z
            induction z with
            | nil => exact Nat.le_refl _
            | cons b z ih =>
              rw [List.flatMap_cons, List.length_append]
              have := nL_len b.as
              have := nL_as b
              simp only [nL]
              omega
          have h2 : nL (lv.take (i + 1)) ≤ nL lv := by
            have := nL_app (lv.take (i + 1)) (lv.drop (i + 1))
            rw [List.take_append_drop] at this
            omega
          rw [e1, List.length_append] at h1
          omega
        · show [_, _, _, some (M.ml (dL ((lv.take i).flatMap Tr.as) ++ dL a.as)), _] = _
          rw [take_snoc ei, List.flatMap_append, dL_app]
          simp
      · rintro s ⟨x4, rfl⟩
        have hm : hL (lv.flatMap Tr.as) + 1 = hL lv := by
          have : ∀ z : List Tr, z ≠ [] → hL (z.flatMap Tr.as) + 1 = hL z := fun z => by
            induction z with
            | nil => intro h; exact absurd rfl h
            | cons b z ih =>
              intro _
              rw [List.flatMap_cons, hL_app]
              have hb := hL_as b
              simp only [hL]
              cases z with
              | nil => simp [hL]; omega
              | cons b2 z2 =>
                have := ih (by simp)
                omega
          exact this lv (by rw [← hL9]; simp)
        have hk : nL (lv.flatMap Tr.as) ≤ nL lv := by
          generalize lv = z
          induction z with
          | nil => exact Nat.le_refl _
          | cons b z ih =>
            rw [List.flatMap_cons, nL_app]
            have := nL_as b
            simp only [nL]
            omega
        rw [List.take_length]
        refine ⟨by show 1 < 5; decide, hL (lv.flatMap Tr.as), by omega, lv.flatMap Tr.as, c + 1, none, x4, rfl, rfl, by omega, by omega⟩)
theorem D_positions {G : Pg} (T : Tk G) (k : Nat) : Df G "positions" ["t"] (k + 3) [] gPoss :=
  ok_positions T (D_inner T k) (gTm.mono _ _) gTm.len (by
    rintro ms Q R ⟨t, rfl, ⟨hn, hok⟩, q⟩
    dsimp only at q
    refine ⟨Nat.zero_le _, by show 1 < 7; decide, Nat.zero_le _, by show 2 ≤ sizeLine; decide, by show 1 ≤ sizeLine; decide, by show 2 < 7; decide, ?_⟩
    let en : List Nat × Tr → D := fun x => .tup [posD x.1, x.2.d]
    refine while_by (fun m s => ∃ (found : List (List Nat)) (left : List (List Nat × Tr)) (x3 x4 x5 x6 : Option M), s = [some (.p t.d), some (.ml (found.map posD)), some (.ml (left.map en)), x3, x4, x5, x6] ∧ m = nL (left.map (·.2)) ∧ found ++ left.reverse.flatMap posF = t.poss ∧ ∀ x ∈ left, x.1.length + x.2.h ≤ t.h) (nL [t])
      ⟨[], [([], t)], none, none, none, none, rfl, rfl, by simp [posF], fun x hx => by rw [List.mem_singleton.mp hx]; simp⟩ ?_
    rintro m s ⟨found, left, x3, x4, x5, x6, rfl, rfl, he, hb⟩
    have hlen := congrArg List.length he
    have flen : ∀ z : List (List Nat × Tr), (z.flatMap posF).length = nL (z.map (·.2)) := fun z => by
      induction z with
      | nil => rfl
      | cons x z ih => rw [List.flatMap_cons, List.length_append, ih]; simp [posF, poss_len, nL]
    rw [List.length_append, flen, poss_len, List.map_reverse] at hlen
    have hnl : ∀ l : List Tr, nL l.reverse = nL l := fun l => by
      induction l with
      | nil => rfl
      | cons a l ih => rw [List.reverse_cons, nL_app, ih]; simp [nL]; omega
    rw [hnl] at hlen
    rcases List.eq_nil_or_concat left with rfl | ⟨l', u, rfl⟩
    · rw [show t.poss = found by rw [← he]; simp] at q
      exact q
    · rw [List.concat_eq_append] at *
      rw [List.map_append] at hlen
      obtain ⟨p, u⟩ := u
      have em : (l' ++ [(p, u)]).map en = l'.map en ++ [en (p, u)] := by simp
      rw [em]
      show if (!(l'.map en ++ [en (p, u)]).isEmpty) = true then _ else _
      rw [if_pos (by simp)]
      refine ⟨rfl, ?_⟩
      show match (l'.map en ++ [en (p, u)]).getLast? with | some _ => _ | none => False
      rw [last_app, dropLast_app]
      have e1 : (l' ++ [(p, u)]).reverse.flatMap posF = p :: ((kidsF p 0 u.as).flatMap posF ++ l'.reverse.flatMap posF) := by
        rw [List.reverse_append]
        show posF (p, u) ++ l'.reverse.flatMap posF = _
        rw [posF_kids]
        rfl
      rw [e1] at he
      have hbu := hb (p, u) (List.mem_append_right _ List.mem_cons_self)
      dsimp only at hbu
      have ha := nL_as u
      have hb2 := nL_len u.as
      have hl' := nL_len (l'.map (·.2))
      rw [List.length_map] at hl'
      have hth : t.h ≤ t.n := by
        have : ∀ (n : Nat) (t : Tr), t.n ≤ n → t.h ≤ t.n := fun n => by
          induction n with
          | zero => intro t h; have := n_pos t; omega
          | succ n ih =>
            intro t h
            have h1 := nL_as t
            have h2 := hL_as t
            have : ∀ l : List Tr, nL l ≤ n → hL l ≤ nL l := fun l => by
              induction l with
              | nil => intro _; exact Nat.le_refl _
              | cons a l ih2 =>
                intro h
                simp only [nL] at h
                have := ih a (by omega)
                have := ih2 (by omega)
                simp only [nL, hL]
                omega
            have := this t.as (by omega)
            omega
        exact this t.n t (Nat.le_refl _)
      rw [nL_app] at hlen
      simp only [List.map_cons, List.map_nil, nL] at hlen
      refine ⟨rfl, by show 5 < 7; decide, by show 6 < 7; decide, rfl, by show (found.map posD).length < sizeLine; rw [List.length_map]; omega, u, rfl, trivial, by show 3 < 7; decide, ?_⟩
      show (-(2 ^ 62) ≤ ((dL u.as).length : Int) - 1 ∧ ((dL u.as).length : Int) - 1 < 2 ^ 62 ∧ (-(2 ^ 62) : Int) ≤ -1 ∧ (-1 : Int) < 2 ^ 62) ∧ _
      have hs : sizeLine < 2 ^ 30 := by decide
      rw [dL_len]
      refine ⟨⟨by omega, by omega, by decide, by decide⟩, ?_⟩
      have fe : found.map posD ++ [posD p] = (found ++ [p]).map posD := by simp
      refine for_d (n := u.as.length) (fun i s => ∃ (x4 : Option M), s = [some (.p t.d), some (.ml ((found ++ [p]).map posD)), some (.ml ((l' ++ (kidsF p 0 u.as).reverse.take i).map en)), some (.p (.tup (dL u.as))), x4, some (.p (posD p)), some (.p u.d)]) rfl (by show ((u.as.length : Int) - 1 - -1).toNat = _; omega) ⟨x4, ?_⟩ ?_ ?_
      · rw [← fe]
        simp
        rfl
      · rintro i s hi ⟨x4, rfl⟩
        obtain ⟨a, hae⟩ : ∃ a, u.as[u.as.length - 1 - i]? = some a := ⟨u.as[u.as.length - 1 - i]'(by omega), List.getElem?_eq_getElem (by omega)⟩
        have hk : (kidsF p 0 u.as).reverse[i]? = some (p ++ [u.as.length - 1 - i], a) := by
          rw [List.getElem?_reverse (by rw [kids_len]; exact hi), kids_len]
          exact kids_get hae
        refine ⟨by show 4 < 7; decide, rfl, by show 1 ≤ sizeLine; decide, ?_, ?_⟩
        · show ((iL p).map D.int).length + 1 ≤ sizeLine
          have := h_pos u
          simp only [iL, List.length_map]
          omega
        · show match atI (dL u.as) ((u.as.length - 1 - i : Nat) : Int) with | some d => _ | none => False
          rw [at_dL (t := a) (Int.natCast_nonneg _) (by rw [Int.toNat_natCast]; exact hae)]
          refine ⟨by show 2 ≤ sizeLine; decide, ?_, some (.p (.int ((u.as.length - 1 - i : Nat) : Int))), ?_⟩
          · show ((l' ++ (kidsF p 0 u.as).reverse.take i).map en).length < sizeLine
            rw [List.length_map, List.length_append, List.length_take, List.length_reverse, kids_len]
            omega
          · show [_, _, some (M.ml ((l' ++ (kidsF p 0 u.as).reverse.take i).map en ++ [.tup [.tup ((iL p).map D.int ++ [.int ((u.as.length - 1 - i : Nat) : Int)]), a.d]])), _, some (M.p (.int ((u.as.length - 1 - i : Nat) : Int))), _, _] = _
            rw [take_snoc hk, ← List.append_assoc, List.map_append (l₁ := l' ++ _)]
            simp [en, posD, posI, iL]
      · rintro s ⟨x4, rfl⟩
        rw [List.take_of_length_le (by rw [List.length_reverse, kids_len]; exact Nat.le_refl _)]
        have km : ∀ (k : Nat) (as : List Tr), (kidsF p k as).map (·.2) = as := fun k as => by
          unfold kidsF
          rw [List.map_map]
          exact List.zipIdx_map_fst k as
        refine ⟨nL ((l' ++ (kidsF p 0 u.as).reverse).map (·.2)), ?_, found ++ [p], l' ++ (kidsF p 0 u.as).reverse, some (.p (.tup (dL u.as))), x4, some (.p (posD p)), some (.p u.d), rfl, rfl, ?_, fun x hx => ?_⟩
        · rw [List.map_append, List.map_reverse, km, nL_app, hnl, List.map_append, nL_app]
          simp only [List.map_cons, List.map_nil, nL]
          omega
        · rw [← he, List.reverse_append, List.reverse_reverse, List.flatMap_append]
          simp
        · rcases List.mem_append.mp hx with hx | hx
          · exact hb x (List.mem_append_left _ hx)
          · rw [List.mem_reverse] at hx
            unfold kidsF at hx
            obtain ⟨⟨a, i⟩, h1, rfl⟩ := List.mem_map.mp hx
            have h2 := hL_mem (List.fst_mem_of_mem_zipIdx h1)
            have h3 := hL_as u
            dsimp only at h2 ⊢
            rw [List.length_append]
            simp only [List.length_cons, List.length_nil]
            omega)
end Sd
set_option maxHeartbeats 1000000
/-! U2: the program's defs of terms: places, variables, symbols. -/
namespace Sd
open PySem PySem.Spec PyProof.Rows L2
variable [Tb]
theorem D_at {G : Pg} (T : Tk G) (k : Nat) : Df G "at" ["t", "p"] (k + 3) [] gAt :=
  ok_at T (D_inner T k) gAt.mono gAt.len (by
    rintro ms Q R ⟨t, p, rfl, q, qn⟩
    refine for_x (xs := p) (en := .int) (fun i s => ∃ (u : Tr) (x2 x3 : Option M), s = [some (.p u.d), some (.p (posI p)), x2, x3] ∧ atT t (p.take i) = some u) rfl ⟨t, none, none, rfl, rfl⟩ ?_ ?_
    · rintro i j s ei ⟨u, x2, x3, rfl, hu⟩
      have et := take_snoc ei
      refine ⟨by show 2 < 4; decide, u, rfl, trivial, by show 3 < 4; decide, ?_⟩
      have bad : arg u j = none → R .stp [] := fun h => by
        refine qn ?_
        rw [← List.take_append_drop (i + 1) p, et, List.append_assoc, atT_app, hu]
        show (arg u j).bind _ = none
        rw [h]
        rfl
      show match (M.p (.bl (decide ((0 : Int) ≤ j)))) with | .p (.bl true) => _ | .p (.bl false) => _ | _ => False
      by_cases h0 : 0 ≤ j
      · rw [decide_eq_true h0]
        refine ifB (fun h => ?_) fun h => ?_
        · have h : (!decide (j < ((dL u.as).length : Int))) = true := h
          rw [dL_len] at h
          refine bad ?_
          unfold arg
          rw [if_pos h0]
          simp at h
          exact List.getElem?_eq_none (by omega)
        · have h : (!decide (j < ((dL u.as).length : Int))) = false := h
          rw [dL_len] at h
          simp at h
          obtain ⟨a, ha⟩ : ∃ a, u.as[j.toNat]? = some a := ⟨u.as[j.toNat]'(by omega), List.getElem?_eq_getElem (by omega)⟩
          show match atI (dL u.as) j with | some d => _ | none => False
          rw [at_dL h0 ha]
          refine ⟨by show 0 < 4; decide, a, _, _, rfl, ?_⟩
          rw [et, atT_app, hu]
          show (arg u j).bind (fun a => some a) = some a
          unfold arg
          rw [if_pos h0, ha]
          rfl
      · rw [decide_eq_false h0]
        exact bad (by unfold arg; rw [if_neg h0])
    · rintro s ⟨u, x2, x3, rfl, hu⟩
      rw [List.take_length] at hu
      exact q u hu)
theorem D_need_small {G : Pg} (T : Tk G) (k : Nat) : Df G "need_small" ["nodes", "deep"] (k + 1) [] gNeed :=
  ok_need_small T gNeed.mono gNeed.len (by
    rintro ms Q R ⟨n, h, rfl, q, q2⟩
    refine ifB (fun h1 => ?_) fun h1 => ?_
    · have h1 : decide ((400 : Int) < n) = true := h1
      rw [decide_eq_true_eq] at h1
      exact q2 (.inl (by omega))
    · have h1 : decide ((400 : Int) < n) = false := h1
      rw [decide_eq_false_iff_not] at h1
      refine ifB (fun h2 => ?_) fun h2 => ?_
      · have h2 : decide ((40 : Int) < h) = true := h2
        rw [decide_eq_true_eq] at h2
        exact q2 (.inr (by omega))
      · have h2 : decide ((40 : Int) < h) = false := h2
        rw [decide_eq_false_iff_not] at h2
        exact q (by omega) (by omega))
theorem D_put {G : Pg} (T : Tk G) (k : Nat) : Df G "put" ["t", "p", "s"] (k + 5) [] gPut :=
  ok_put T ((D_depth T k).le (by omega)) ((D_inner T k).le (by omega)) ((D_need_small T k).le (by omega)) (D_size T k) gPut.mono gPut.len (by
    rintro ms Q R ⟨t, p, s0, rfl, hb, hp, q, qx, qn⟩
    let en : Tr × Int → D := fun w => .tup [w.1.d, .int w.2]
    refine ⟨Nat.zero_le _, by show 3 < 7; decide, ?_⟩
    refine for_x (xs := p) (en := .int) (fun i s => ∃ (u : Tr) (way : List (Tr × Int)) (x4 x5 : Option M), s = [some (.p u.d), some (.p (posI p)), some (.p s0.d), some (.ml (way.map en)), x4, x5, none] ∧ atT t (p.take i) = some u ∧ wayT t (p.take i) = some way ∧ way.length = i) rfl ⟨t, [], none, none, rfl, rfl, rfl, rfl⟩ ?_ ?_
    · rintro i j s ei ⟨u, way, x4, x5, rfl, hu, hw, hl⟩
      have et := take_snoc ei
      have hi := get_lt ei
      refine ⟨by show 4 < 7; decide, u, rfl, trivial, by show 5 < 7; decide, ?_⟩
      have bad : arg u j = none → R .stp [] := fun h => by
        refine qn ?_
        rw [← List.take_append_drop (i + 1) p, et, List.append_assoc, atT_app, hu]
        show (arg u j).bind _ = none
        rw [h]
        rfl
      show match (M.p (.bl (decide ((0 : Int) ≤ j)))) with | .p (.bl true) => _ | .p (.bl false) => _ | _ => False
      by_cases h0 : 0 ≤ j
      · rw [decide_eq_true h0]
        refine ifB (fun h => ?_) fun h => ?_
        · have h : (!decide (j < ((dL u.as).length : Int))) = true := h
          rw [dL_len] at h
          refine bad ?_
          unfold arg
          rw [if_pos h0]
          simp at h
          exact List.getElem?_eq_none (by omega)
        · have h : (!decide (j < ((dL u.as).length : Int))) = false := h
          rw [dL_len] at h
          simp at h
          obtain ⟨a, ha⟩ : ∃ a, u.as[j.toNat]? = some a := ⟨u.as[j.toNat]'(by omega), List.getElem?_eq_getElem (by omega)⟩
          have harg : arg u j = some a := by
            unfold arg
            rw [if_pos h0, ha]
          refine ⟨rfl, by show 2 ≤ sizeLine; decide, by show (way.map en).length < sizeLine; rw [List.length_map]; omega, ?_⟩
          show match atI (dL u.as) j with | some d => _ | none => False
          rw [at_dL h0 ha]
          refine ⟨by show 0 < 7; decide, a, way ++ [(u, j)], some (.p (.int j)), some (.p (.tup (dL u.as))), ?_, ?_, ?_, by simp [hl]⟩
          · rw [List.map_append]
            rfl
          · rw [et, atT_app, hu]
            show (arg u j).bind (fun a => some a) = some a
            rw [harg]
            rfl
          · rw [et]
            exact wayT_snoc hw hu harg
      · rw [decide_eq_false h0]
        exact bad (by unfold arg; rw [if_neg h0])
    · rintro s ⟨u, way, x4, x5, rfl, hu, hw, hl⟩
      rw [List.take_length] at hu hw
      obtain ⟨r, hr, hn, hh, _⟩ := putT_some s0 hu
      have er : r = upW way s0 := by
        rw [putT_way, hw] at hr
        cases hr
        rfl
      have ht := n_pos u
      have hd : (way.map en).reverse = way.reverse.map en := by rw [List.map_reverse]
      show ∃ W : Nat → Nat → S → Prop, (∃ m, W 0 m _) ∧ ∀ i m s, W i m s → turnW _ _ _ W i m s (gFix (way.map en).reverse s i)
      refine for_x (xs := way.reverse) (en := en) (fun i s => ∃ (x4 x6 : Option M), s = [some (.p u.d), some (.p (posI p)), some (.p ((way.reverse.take i).foldl (fun s w => setA w.1 w.2 s) s0).d), some (.ml (way.map en)), x4, x5, x6]) hd ⟨x4, none, rfl⟩ ?_ ?_
      · rintro i ⟨w, j⟩ s ei ⟨x4, x6, rfl⟩
        obtain ⟨⟨a, harg⟩, hwn⟩ := wayT_arg hw (w, j) (List.mem_reverse.mp (List.mem_of_getElem? ei))
        dsimp only at harg hwn
        obtain ⟨h0, h1, h2⟩ := arg_lt harg
        rw [take_snoc ei, List.foldl_append]
        generalize (way.reverse.take i).foldl (fun s w => setA w.1 w.2 s) s0 = z
        cases w with
        | v x =>
          simp [Tr.as] at h1
          omega
        | f g as =>
          simp only [Tr.as] at h1 h2
          have hal := nL_len as
          have hwn : 1 + nL as ≤ t.n := hwn
          have hz := n_pos s0
          have ej : j = ((j.toNat : Nat) : Int) := by omega
          refine ⟨rfl, by show 6 < 7; decide, by show 4 < 7; decide, ?_⟩
          refine ⟨by show 1 ≤ sizeLine; decide, ?_⟩
          have c1 : cutD (dL as) none (some j) = dL (as.take j.toNat) := by
            rw [ej, cut_to _ _ (by rw [dL_len]; omega), dL_take, Int.toNat_natCast]
          have c2 : cutD (dL as) (some (j + 1)) none = dL (as.drop (j.toNat + 1)) := by
            rw [show j + 1 = ((j.toNat + 1 : Nat) : Int) by omega, cut_from _ _ (by rw [dL_len]; omega), dL_drop]
          have c3 : dL (as.take j.toNat) ++ [z.d] ++ dL (as.drop (j.toNat + 1)) = dL (as.set j.toNat z) := by
            rw [← dL_snoc, ← dL_app, set_cut h2]
          refine ⟨?_, ?_, by show 2 ≤ sizeLine; decide, by show 2 < 7; decide, some (.p (.int j)), some (.p (Tr.f g as).d), ?_⟩
          · show (cutD (dL as) none (some j)).length + 1 ≤ sizeLine
            have := cut_len' (dL as) none (some j)
            rw [dL_len] at this
            omega
          · show (cutD (dL as) none (some j) ++ [z.d]).length + (cutD (dL as) (some (j + 1)) none).length ≤ sizeLine
            rw [c1, c2, List.length_append, dL_len, dL_len, List.length_take, List.length_drop]
            simp only [List.length_cons, List.length_nil]
            omega
          · show [_, _, some (M.p (.tup [.str g, .tup (cutD (dL as) none (some j) ++ [z.d] ++ cutD (dL as) (some (j + 1)) none)])), _, some (M.p (.int j)), _, some (M.p (Tr.f g as).d)] = _
            rw [c1, c2, c3]
            rfl
      · rintro s ⟨x4, x6, rfl⟩
        rw [List.take_of_length_le (Nat.le_refl _), ← upW_rev, ← er]
        have hrn : r.n ≤ sizeLine := by omega
        refine ⟨r, rfl, hrn, r, rfl, hrn, r.n, r.h, rfl, fun h1 h2 => ?_, fun h => ?_⟩
        · exact q r hr h1 h2
        · exact qx r hr h)
theorem D_variables {G : Pg} (T : Tk G) (k : Nat) : Df G "variables" ["t"] (k + 4) [] gVars :=
  ok_variables T ((D_is_variable T k).le (by omega)) (D_parts T k) (gTm.mono _ _) gTm.len (by
    rintro ms Q R ⟨t, rfl, hn, q⟩
    dsimp only at q
    refine ⟨t, rfl, hn, ?_⟩
    refine dc_x (xs := t.parts) (en := Tr.d) Tr.isV (fun u => .str (nm u)) (fun _ => .bl true) (dL_map _) (by rw [parts_len']; exact hn) (own_none rfl) (by show 1 < 2; decide) (fun u _ Q hq => ⟨u, rfl, trivial, hq⟩) (fun u _ c Q hq => ?_) (fun u _ c Q hq => hq) (fun i u ei c => mkD_fit rfl fun _ _ => rfl) ?_
    · cases u with
      | v x => exact hq
      | f s as => cases c
    · show Q (.p (.tup ((mkD (fun u => D.str (nm u)) (fun _ => D.bl true) (t.parts.filter Tr.isV)).map (·.1)))) []
      rw [mkD_keys (en := D.str) (g := nm) (fun a b h => by cases h; rfl), nm_filter]
      exact q)
end Sd
set_option maxHeartbeats 1000000
/-! U3: same, rebuilt, measure, apply, match. -/
namespace Sd
open PySem PySem.Spec PyProof.Rows L2
variable [Tb]
def gSame : SpecD := fun ms Q _ => ∃ s t : Tr, ms = [.p s.d, .p t.d] ∧ s.ok ∧ t.ok ∧ s.n ≤ 1000000 ∧ Q (.p (.bl (decide (s = t)))) []
theorem gSame.mono : MonoG gSame := fun ms Q Q' R R' h _ ⟨s, t, e, a, b, c, q⟩ => ⟨s, t, e, a, b, c, h _ _ q⟩
theorem gSame.len : ∀ ms Q R, gSame ms Q R → ms.length = 2 := fun ms Q R ⟨s, t, e, _⟩ => by rw [e]; rfl
theorem eqD_str (x y : Str) : eqD (.str x) (.str y) = decide (x = y) := by
  rw [eqD_pl rfl rfl]
  by_cases h : x = y
  · rw [decide_eq_true h, decide_eq_true (by rw [h])]
  · rw [decide_eq_false h, decide_eq_false fun z => h (by cases z; rfl)]
theorem eqD_nat (a b : Nat) : eqD (.int a) (.int b) = decide (a = b) := by
  rw [eqD_pl rfl rfl]
  by_cases h : a = b
  · rw [decide_eq_true h, decide_eq_true (by rw [h])]
  · rw [decide_eq_false h, decide_eq_false fun z => h (by injection z with z; omega)]
theorem eqD_bl (a b : Bool) : eqD (.bl a) (.bl b) = decide (a = b) := by cases a <;> cases b <;> decide +kernel
theorem shp_str {x : Str} (h : sgn x) : shp (.str x) = true := (sp_str (n := 0) h).shp (by decide)
theorem snocR {α β : Type} (f : α → β) (a : α) (r : List α) : (a :: r).reverse.map f = r.reverse.map f ++ [f a] := by rw [List.reverse_cons, List.map_append]; rfl
theorem D_same {G : Pg} (T : Tk G) (k : Nat) : Df G "same" ["s", "t"] (k + 2) [] gSame :=
  ok_same T (D_is_variable T k) gSame.mono gSame.len (by
    rintro ms Q R ⟨s, t, rfl, hs, ht, hn, q⟩
    have hz : 1000000 < sizeLine := by decide
    refine ⟨by show 2 ≤ sizeLine; decide, by show 1 ≤ sizeLine; decide, by show 2 < 5; decide, ?_⟩
    refine while_by (fun m st => ∃ (w : List P2) (x3 x4 : Option M), st = [some (.p s.d), some (.p t.d), some (.ml (w.reverse.map p2D)), x3, x4] ∧ m = p2N w ∧ sameS w = decide (s = t) ∧ (∀ q ∈ w, q.1.ok ∧ q.2.ok) ∧ p2N w ≤ s.n) s.n
      ⟨[(s, t)], none, none, rfl, rfl, by simp [sameS], fun q hq => by rw [List.mem_singleton.mp hq]; exact ⟨hs, ht⟩, Nat.le_refl _⟩ ?_
    rintro m st ⟨w, x3, x4, rfl, rfl, he, hok, hw⟩
    cases w with
    | nil =>
      rw [← he] at q
      exact q
    | cons p r =>
      obtain ⟨a, b⟩ := p
      have hr : ∀ q ∈ r, q.1.ok ∧ q.2.ok := fun q hq => hok q (List.mem_cons_of_mem _ hq)
      obtain ⟨ha, hb⟩ := hok (a, b) List.mem_cons_self
      have hap := n_pos a
      have hw : a.n + p2N r ≤ s.n := hw
      have he : (decide (a = b) && sameS r) = decide (s = t) := he
      rw [snocR]
      show if (!(r.reverse.map p2D ++ [p2D (a, b)]).isEmpty) = true then _ else _
      rw [if_pos (by simp)]
      refine ⟨rfl, ?_⟩
      show match (r.reverse.map p2D ++ [p2D (a, b)]).getLast? with | some _ => _ | none => False
      rw [last_app, dropLast_app]
      have no : a ≠ b → Q (.p (.bl false)) [] := fun h => by
        rw [decide_eq_false h] at he
        rw [← he] at q
        exact q
      refine ⟨rfl, by show 3 < 5; decide, by show 4 < 5; decide, a, rfl, trivial, ?_⟩
      cases a with
      | v x =>
        refine ⟨.v x, rfl, trivial, b, rfl, trivial, rfl, rfl, ?_⟩
        show if (!eqD (.bl true) (.bl b.isV)) = true then _ else _
        rw [eqD_bl]
        cases b with
        | v y =>
          rw [if_neg (by simp [Tr.isV])]
          show shp (.str x) = true ∧ shp (.str y) = true ∧ if (!eqD (.str x) (.str y)) = true then _ else _
          refine ⟨shp_str ha, shp_str hb, ?_⟩
          rw [eqD_str]
          by_cases e : x = y
          · rw [decide_eq_true e]
            subst e
            exact ⟨p2N r, by show p2N r < (Tr.v x).n + p2N r; omega, r, some (.p (.str x)), some (.p (.str x)), rfl, rfl, by simpa using he, hr, by omega⟩
          · rw [decide_eq_false e]
            exact no fun z => e (by cases z; rfl)
        | f h bs =>
          rw [if_pos (by simp [Tr.isV])]
          exact no fun z => by cases z
      | f g as =>
        refine ⟨b, rfl, trivial, ?_⟩
        cases b with
        | v y =>
          refine ⟨.f g as, rfl, trivial, .v y, rfl, trivial, rfl, rfl, ?_⟩
          show if (!eqD (.bl false) (.bl true)) = true then _ else _
          rw [eqD_bl, if_pos (by decide)]
          exact no fun z => by cases z
        | f h bs =>
          show shp (.str g) = true ∧ shp (.str h) = true ∧ if (!eqD (.str g) (.str h)) = true then _ else _
          refine ⟨shp_str ha.1, shp_str hb.1, ?_⟩
          rw [eqD_str]
          by_cases e : g = h
          · rw [decide_eq_true e]
            subst e
            refine ifB (fun z => by cases z) fun _ => ?_
            show shp (.int ((dL as).length : Nat)) = true ∧ shp (.int ((dL bs).length : Nat)) = true ∧ if (!eqD (.int ((dL as).length : Nat)) (.int ((dL bs).length : Nat))) = true then _ else _
            refine ⟨sp_int.shp (Nat.zero_le _), sp_int.shp (Nat.zero_le _), ?_⟩
            rw [eqD_nat, dL_len, dL_len]
            by_cases e2 : as.length = bs.length
            · rw [decide_eq_true e2]
              refine ifB (fun z => by cases z) fun _ => ?_
              have h1 := p2N_len r
              have h2 := nL_len as
              have h3 := p2N_zip as bs
              have hw : 1 + nL as + p2N r ≤ s.n := hw
              refine ⟨rfl, ?_, p2N ((as.zip bs).reverse ++ r), ?_, (as.zip bs).reverse ++ r, some (.p (Tr.f g as).d), some (.p (Tr.f g bs).d), ?_, rfl, ?_, fun q hq => ?_, ?_⟩
              · show (r.reverse.map p2D).length + (((dL as).zip (dL bs)).map fun p => D.tup [p.1, p.2]).length ≤ sizeLine
                rw [zip_d, List.length_map, List.length_map, List.length_reverse, List.length_zip]
                omega
              · show p2N ((as.zip bs).reverse ++ r) < 1 + nL as + p2N r
                rw [p2N_app, p2N_rev]
                omega
              · show [_, _, some (M.ml (r.reverse.map p2D ++ ((dL as).zip (dL bs)).map fun p => D.tup [p.1, p.2])), _, _] = _
                rw [zip_d, List.reverse_append, List.reverse_reverse, List.map_append]
              · have e4 : decide (as = bs) = decide (Tr.f g as = Tr.f g bs) := by
                  by_cases e3 : as = bs
                  · rw [decide_eq_true e3, decide_eq_true (by rw [e3])]
                  · rw [decide_eq_false e3, decide_eq_false fun z => e3 (by cases z; rfl)]
                rw [sameS_app, sameS_rev, sameS_zip e2, e4]
                exact he
              · rcases List.mem_append.mp hq with hq | hq
                · have hq := List.mem_reverse.mp hq
                  obtain ⟨x, y⟩ := q
                  obtain ⟨m1, m2⟩ := List.of_mem_zip hq
                  exact ⟨okL_iff.mp ha.2 _ m1, okL_iff.mp hb.2 _ m2⟩
                · exact hr q hq
              · rw [p2N_app, p2N_rev]
                omega
            · rw [decide_eq_false e2]
              refine ifB (fun _ => ?_) fun z => by cases z
              exact no fun z => e2 (by cases z; rfl)
          · rw [decide_eq_false e]
            refine ifB (fun _ => ?_) fun z => by cases z
            exact no fun z => e (by cases z; rfl))
def gRebuilt (L : Lam) : SpecD := fun ms Q _ => ∃ (t : Tr) (h : Str → Tr), ms = [.p t.d, L.m] ∧ t.n ≤ 1000000 ∧ (∀ x, vin x t → ∀ P : D → Prop, P (h x).d → L.W L.ds (.str x) P) ∧ Q (.p (mp h t).d) [L.m]
theorem gRebuilt.mono (L : Lam) : MonoG (gRebuilt L) := fun ms Q Q' R R' h _ ⟨t, g, e, a, b, q⟩ => ⟨t, g, e, a, b, h _ _ q⟩
theorem gRebuilt.len (L : Lam) : ∀ ms Q R, gRebuilt L ms Q R → ms.length = 2 := fun ms Q R ⟨t, h, e, _⟩ => by rw [e]; rfl
theorem D_rebuilt {G : Pg} (T : Tk G) (k : Nat) : DfL G "rebuilt" ["t", "change"] (k + 2) [1] gRebuilt :=
  ok_rebuilt T (Nat.succ_le_succ (Nat.zero_le k)) (D_is_variable T k) (fun L _ => gRebuilt.mono L) gRebuilt.len (by
    rintro L mL ms Q R ⟨t, h, rfl, hn, hh, q⟩
    have hz : 2 * 1000000 + 10 < sizeLine := by decide
    have htp := n_pos t
    refine ⟨Nat.zero_le _, by show 2 < 9; decide, by show 2 ≤ sizeLine; decide, by show 1 ≤ sizeLine; decide, by show 3 < 9; decide, ?_⟩
    refine while_by (fun m st => ∃ (done : List Tr) (w : List Wk) (x4 x5 x6 x7 : Option M), st = [some (.p t.d), some L.m, some (.ml (dL done)), some (.ml (w.reverse.map wkD)), x4, x5, x6, x7, none] ∧ m = wkN w ∧ runR h w done = [mp h t] ∧ fitR w done.length ∧ done.length + wkN w ≤ 2 * t.n ∧ ∀ u ∈ w, ∀ x, vin x u.1 → vin x t) (wkN [(t, false)])
      ⟨[], [(t, false)], none, none, none, none, rfl, rfl, rfl, trivial, by simp [wkN], fun u hu x hx => by rw [List.mem_singleton.mp hu] at hx; exact hx⟩ ?_
    rintro m st ⟨done, w, x4, x5, x6, x7, rfl, rfl, hr, hf, hb, hv⟩
    cases w with
    | nil =>
      have hr : done = [mp h t] := hr
      subst hr
      exact q
    | cons p r =>
      obtain ⟨a, b⟩ := p
      have hv' : ∀ u ∈ r, ∀ x, vin x u.1 → vin x t := fun u hu => hv u (List.mem_cons_of_mem _ hu)
      have hva : ∀ x, vin x a → vin x t := hv (a, b) List.mem_cons_self
      rw [snocR]
      show if (!(r.reverse.map wkD ++ [wkD (a, b)]).isEmpty) = true then _ else _
      rw [if_pos (by simp)]
      refine ⟨rfl, ?_⟩
      show match (r.reverse.map wkD ++ [wkD (a, b)]).getLast? with | some _ => _ | none => False
      rw [last_app, dropLast_app]
      have hap := n_pos a
      have hl := wkN_len r
      refine ⟨rfl, by show 4 < 9; decide, by show 5 < 9; decide, a, rfl, trivial, ?_⟩
      cases a with
      | v x =>
        refine ⟨rfl, rfl, ?_⟩
        refine hh x (hva x (vin_v.mpr rfl)) _ ?_
        have lt : wkN r < wkN ((Tr.v x, b) :: r) := by
          cases b
          · show wkN r < 2 * 1 + wkN r
            omega
          · show wkN r < 1 + wkN r
            omega
        refine ⟨by show (dL done).length < sizeLine; rw [dL_len]; omega, wkN r, lt, done ++ [h x], r, some (.p (.str x)), some (.p (.bl b)), x6, x7, ?_, rfl, ?_, ?_, ?_, hv'⟩
        · rw [dL_snoc]
          rfl
        · cases b <;> exact hr
        · rw [List.length_append]
          cases b <;> exact hf
        · rw [List.length_append]
          show done.length + 1 + wkN r ≤ _
          omega
      | f g as =>
        cases b with
        | true =>
          obtain ⟨h1, h2⟩ : as.length ≤ done.length ∧ fitR r (done.length - as.length + 1) := hf
          have hb : done.length + (1 + wkN r) ≤ 2 * t.n := hb
          refine ⟨by show 6 < 9; decide, ?_⟩
          have c1 : cutD (dL done) (some (((dL done).length : Int) - ((dL as).length : Int))) none = dL (done.drop (done.length - as.length)) := by
            rw [dL_len, dL_len, show ((done.length : Int) - (as.length : Int)) = ((done.length - as.length : Nat) : Int) by omega, cut_from _ _ (by rw [dL_len]; omega), dL_drop]
          have c2 : cutD (dL done) none (some (((dL done).length : Int) - ((dL as).length : Int))) = dL (done.take (done.length - as.length)) := by
            rw [dL_len, dL_len, show ((done.length : Int) - (as.length : Int)) = ((done.length - as.length : Nat) : Int) by omega, cut_to _ _ (by rw [dL_len]; omega), dL_take]
          refine ⟨by show 7 < 9; decide, by show 2 < 9; decide, rfl, by show 2 ≤ sizeLine; decide, ?_⟩
          show (cutD (dL done) none (some (((dL done).length : Int) - ((dL as).length : Int)))).length < sizeLine ∧ ∃ m', m' < wkN ((Tr.f g as, true) :: r) ∧ _
          rw [c2]
          refine ⟨?_, wkN r, by show wkN r < 1 + wkN r; omega, done.take (done.length - as.length) ++ [Tr.f g (done.drop (done.length - as.length))], r, some (.p (Tr.f g as).d), some (.p (.bl true)), some (.p (.int ((dL as).length : Nat))), some (.ml (dL (done.drop (done.length - as.length)))), ?_, rfl, hr, ?_, ?_, hv'⟩
          · rw [dL_len, List.length_take]
            omega
          · show [_, _, some (M.ml (dL (done.take (done.length - as.length)) ++ [D.tup [.str g, .tup (cutD (dL done) (some (((dL done).length : Int) - ((dL as).length : Int))) none)]])), _, _, _, _, some (M.ml (cutD (dL done) (some (((dL done).length : Int) - ((dL as).length : Int))) none)), _] = _
            rw [c1, dL_snoc]
            rfl
          · rw [List.length_append, List.length_take]
            rw [Nat.min_eq_left (Nat.sub_le _ _)]
            exact h2
          · rw [List.length_append, List.length_take]
            simp only [List.length_cons, List.length_nil]
            omega
        | false =>
          have hb : done.length + (2 * (1 + nL as) + wkN r) ≤ 2 * t.n := hb
          have hal := nL_len as
          refine ⟨rfl, by show 2 ≤ sizeLine; decide, ?_, ?_⟩
          · show (r.reverse.map wkD).length < sizeLine
            rw [List.length_map, List.length_reverse]
            omega
          have er : ((dL as).reverse) = as.reverse.map Tr.d := by rw [dL_map, List.map_reverse]
          refine ⟨rfl, ?_⟩
          refine lc_xm (xs := as.reverse) (en := Tr.d) (fun a => wkD (a, false)) er (by rw [List.length_reverse]; omega) (own_none rfl) (by show 8 < 9; decide) (fun a ha Q hq => ⟨by show 2 ≤ sizeLine; decide, hq⟩) ?_
          refine ⟨?_, wkN (as.map (fun a => (a, false)) ++ (Tr.f g as, true) :: r), ?_, done, as.map (fun a => (a, false)) ++ (Tr.f g as, true) :: r, some (.p (Tr.f g as).d), some (.p (.bl false)), x6, x7, ?_, rfl, ?_, ?_, ?_, ?_⟩
          · show (r.reverse.map wkD ++ [wkD (Tr.f g as, true)]).length + (as.reverse.map fun a => wkD (a, false)).length ≤ sizeLine
            rw [List.length_append, List.length_map, List.length_map, List.length_reverse, List.length_reverse]
            simp only [List.length_cons, List.length_nil]
            omega
          · rw [wkN_kids]
            show 2 * nL as + (1 + wkN r) < 2 * (1 + nL as) + wkN r
            omega
          · rw [List.reverse_append, List.map_append, snocR, ← List.map_reverse, List.map_map]
            rfl
          · rw [runR_kids]
            show runR h r ((done ++ mpL h as).take ((done ++ mpL h as).length - as.length) ++ [.f g ((done ++ mpL h as).drop ((done ++ mpL h as).length - as.length))]) = _
            rw [List.length_append, mpL_len, Nat.add_sub_cancel, List.take_left, List.drop_left]
            exact hr
          · rw [fitR_kids]
            show as.length ≤ done.length + as.length ∧ fitR r (done.length + as.length - as.length + 1)
            rw [Nat.add_sub_cancel]
            exact ⟨Nat.le_add_left _ _, hf⟩
          · rw [wkN_kids]
            show done.length + (2 * nL as + (1 + wkN r)) ≤ _
            omega
          · intro u hu x hx
            rcases List.mem_append.mp hu with hu | hu
            · obtain ⟨c, hc, rfl⟩ := List.mem_map.mp hu
              exact hva x (vin_f.mpr ⟨c, hc, hx⟩)
            · rcases List.mem_cons.mp hu with rfl | hu
              · exact hva x hx
              · exact hv' u hu x hx)
end Sd
set_option maxHeartbeats 1000000
/-! U4: measure, apply, match. -/
namespace Sd
open PySem PySem.Spec PyProof.Rows L2
variable [Tb]
theorem dget_map (k k' v : D) : ∀ a : List (D × D), dget (a.map fun p => if p.1 = k then (p.1, v) else p) k' = if k' = k then (dget a k').map (fun _ => v) else dget a k'
  | [] => by
    unfold dget
    split <;> rfl
  | p :: a => by
    have ih := dget_map k k' v a
    unfold dget at ih ⊢
    rw [List.map_cons]
    by_cases h : p.1 = k'
    · have e1 : (if p.1 = k then (p.1, v) else p).1 = k' := by
        split <;> exact h
      rw [List.find?_cons_of_pos (by rw [e1]; simp), List.find?_cons_of_pos (by simpa using h)]
      by_cases hk : k' = k
      · rw [if_pos hk, if_pos (h.trans hk)]
        rfl
      · rw [if_neg hk, if_neg (fun z => hk (h.symm.trans z))]
    · have e1 : (if p.1 = k then (p.1, v) else p).1 ≠ k' := by
        split <;> exact h
      rw [List.find?_cons_of_neg (by simpa using e1), List.find?_cons_of_neg (by simpa using h)]
      exact ih
theorem dget_dput (a : List (D × D)) (k v k' : D) : dget (dput a k v) k' = if k' = k then some v else dget a k' := by
  unfold dput
  split
  · rename_i h
    rw [dget_map]
    by_cases hk : k' = k
    · rw [if_pos hk, if_pos hk]
      subst hk
      obtain ⟨p, hp, e⟩ := List.any_eq_true.mp h
      cases e2 : dget a k' with
      | none =>
        unfold dget at e2
        rw [Option.map_eq_none_iff, List.find?_eq_none] at e2
        exact absurd e (e2 p hp)
      | some d => rfl
    · rw [if_neg hk, if_neg hk]
  · rename_i h
    have h : ∀ p ∈ a, ¬ (decide (p.1 = k) = true) := fun p hp e => h (List.any_eq_true.mpr ⟨p, hp, e⟩)
    unfold dget
    rw [List.find?_append]
    by_cases hk : k' = k
    · subst hk
      rw [if_pos rfl, List.find?_eq_none.mpr h]
      simp
    · rw [if_neg hk]
      have : ([(k, v)] : List (D × D)).find? (fun p => decide (p.1 = k')) = none := by
        rw [List.find?_cons_of_neg (by simpa using fun z => hk z.symm)]
        rfl
      rw [this, Option.or_none]
theorem mkD_get {α : Type} [DecidableEq α] {fk fv : α → D} (inj : ∀ a b, fk a = fk b → a = b) (x : α) (l : List α) : dget (mkD fk fv l) (fk x) = if x ∈ l then some (fv x) else none := by
  have : ∀ r : List α, dget (mkD fk fv r.reverse) (fk x) = if x ∈ r.reverse then some (fv x) else none := fun r => by
    induction r with
    | nil => rfl
    | cons a r ih =>
      rw [List.reverse_cons, mkD_app, dget_dput, ih]
      by_cases h : x = a
      · subst h
        rw [if_pos rfl, if_pos (by simp)]
      · rw [if_neg fun z => h (inj _ _ z)]
        by_cases h2 : x ∈ r.reverse
        · rw [if_pos h2, if_pos (by simp at h2 ⊢; exact .inl h2)]
        · rw [if_neg h2, if_neg (by simp at h2 ⊢; exact ⟨h2, h⟩)]
  have := this l.reverse
  rw [List.reverse_reverse] at this
  exact this
/-- what a node counts -/
def nW (h : Str → Tr) : Tr → Nat
  | .v x => (h x).n
  | .f _ _ => 1
def hW (h : Str → Tr) : Tr → Nat
  | .v x => (h x).h
  | .f _ _ => 1
theorem nW_step (h : Str → Tr) (a : Tr) : nW h a + nL (mpL h a.as) = (mp h a).n := by
  cases a with
  | v x => rfl
  | f g as => rfl
theorem hW_step (h : Str → Tr) (a : Tr) (k : Nat) : max (k + hW h a) (msH h (a.as.map fun b => (b, k + 1))) = k + (mp h a).h := by
  cases a with
  | v x => show max (k + (h x).h) 0 = k + (h x).h; omega
  | f g as =>
    show max (k + 1) (msH h (as.map fun b => (b, k + 1))) = k + (1 + hL (mpL h as))
    cases as with
    | nil => rfl
    | cons a as =>
      rw [msH_kids h (k + 1) (a :: as) (by simp)]
      omega
def gMeasure : SpecD := fun ms Q _ => ∃ (s : Sb) (t : Tr), ms = [.p (.dic (sD s)), .p t.d] ∧ t.n ≤ 1000000 ∧ (∀ p ∈ s, p.2.n ≤ 1000000) ∧ Q (.p (.tup [.int (sub s t).n, .int (sub s t).h])) []
theorem gMeasure.mono : MonoG gMeasure := fun ms Q Q' R R' h _ ⟨s, t, e, a, b, q⟩ => ⟨s, t, e, a, b, h _ _ q⟩
theorem gMeasure.len : ∀ ms Q R, gMeasure ms Q R → ms.length = 2 := fun ms Q R ⟨s, t, e, _⟩ => by rw [e]; rfl
theorem D_measure {G : Pg} (T : Tk G) (k : Nat) : Df G "measure" ["s", "t"] (k + 5) [] gMeasure :=
  ok_measure T ((D_depth T k).le (by omega)) ((D_inner T k).le (by omega)) ((D_is_variable T k).le (by omega)) (D_size T k) (D_variables T k) gMeasure.mono gMeasure.len (by
    rintro ms Q R ⟨s, t, rfl, hn, hs, q⟩
    have hz : 2 * 1000000 + 10 < sizeLine := by decide
    have htp := n_pos t
    have hvl := vars_le t
    refine ⟨by show 2 < 11; decide, by show 3 < 11; decide, t, rfl, by omega, ?_⟩
    have sgetN : ∀ {x u}, sget s x = some u → u.n ≤ 1000000 := fun e => hs _ (sget_mem e)
    refine dc_x (xs := t.vars) (en := .str) (fun x => (sget s x).isSome) .str (fun x => .tup [.int (shOf s x).n, .int (shOf s x).h]) rfl (by omega) (own_none rfl) (by show 7 < 11; decide) (fun x _ Q hq => ?_) (fun x _ c Q hq => hq) (fun x _ c Q hq => ?_) (fun i u ei c => mkD_fit rfl fun _ _ => rfl) ?_
    · refine ⟨fit_sD s x, ?_⟩
      rw [dget_sD, Option.isSome_map]
      exact hq
    · obtain ⟨u, eu⟩ := Option.isSome_iff_exists.mp c
      have es : shOf s x = u := by unfold shOf; rw [eu]; rfl
      have hu := sgetN eu
      have look : ∀ P : D → Prop, P u.d → match dget (sD s) (.str x) with | some d => P d | none => False := fun P h => by rw [dget_sD, eu]; exact h
      refine ⟨fit_sD s x, look (fun d => _) ⟨u, rfl, by omega, fit_sD s x, look (fun d => _) ⟨u, rfl, by omega, by show 2 ≤ sizeLine; decide, ?_⟩⟩⟩
      rw [es] at hq
      exact hq
    generalize hZ : mkD D.str (fun x => D.tup [.int (shOf s x).n, .int (shOf s x).h]) (t.vars.filter fun x => (sget s x).isSome) = Z
    have zfit : ∀ x, fitK Z (.str x) = true := fun x => by rw [← hZ]; exact mkD_fit rfl fun _ _ => rfl
    have zget : ∀ x, vin x t → ∀ (P : M → Prop), P (.p (.tup [.int (shOf s x).n, .int (shOf s x).h])) → match dget Z (.str x) with | some d => P (.p d) | none => P (.p (.tup [.int 1, .int 1])) := fun x hx P h => by
      rw [← hZ, mkD_get fun a b e => by cases e; rfl]
      by_cases hc : (sget s x).isSome = true
      · rw [if_pos (List.mem_filter.mpr ⟨vars_vin.mpr hx, hc⟩)]
        exact h
      · rw [if_neg (show ¬ x ∈ t.vars.filter fun x => (sget s x).isSome from fun z => hc (List.mem_filter.mp z).2)]
        have e : sget s x = none := by
          cases e : sget s x with
          | none => rfl
          | some u => rw [e] at hc; exact absurd rfl hc
        have e2 : shOf s x = .v x := by unfold shOf; rw [e]; rfl
        rw [e2] at h
        exact h
    refine ⟨by show 4 < 11; decide, by show 2 ≤ sizeLine; decide, by show 1 ≤ sizeLine; decide, by show 5 < 11; decide, ?_⟩
    refine while_by (fun m st => ∃ (c dp : Nat) (w : List Ms) (x6 x8 x9 : Option M), st = [some (.p (.dic (sD s))), some (.p t.d), some (.p (.int c)), some (.p (.int dp)), some (.md Z), some (.ml (w.reverse.map msD)), x6, none, x8, x9, none] ∧ m = fsN w ∧ c + msN (shOf s) w = (sub s t).n ∧ max dp (msH (shOf s) w) = (sub s t).h ∧ fsN w ≤ t.n ∧ ∀ u ∈ w, ∀ x, vin x u.1 → vin x t) (fsN [(t, 0)])
      ⟨0, 0, [(t, 0)], none, none, none, rfl, rfl, by simp [msN, sub], by simp [msH, sub], by simp [fsN], fun u hu x hx => by rw [List.mem_singleton.mp hu] at hx; exact hx⟩ ?_
    rintro m st ⟨c, dp, w, x6, x8, x9, rfl, rfl, hc, hd, hf, hv⟩
    cases w with
    | nil =>
      have hc : c = (sub s t).n := by simpa [msN] using hc
      have hd : dp = (sub s t).h := by simpa [msH] using hd
      rw [← hc, ← hd] at q
      exact ⟨by show 2 ≤ sizeLine; decide, q⟩
    | cons p r =>
      obtain ⟨a, lv⟩ := p
      have hv' : ∀ u ∈ r, ∀ x, vin x u.1 → vin x t := fun u hu => hv u (List.mem_cons_of_mem _ hu)
      have hva : ∀ x, vin x a → vin x t := hv (a, lv) List.mem_cons_self
      rw [snocR]
      show if (!(r.reverse.map msD ++ [msD (a, lv)]).isEmpty) = true then _ else _
      rw [if_pos (by simp)]
      refine ⟨rfl, ?_⟩
      show match (r.reverse.map msD ++ [msD (a, lv)]).getLast? with | some _ => _ | none => False
      rw [last_app, dropLast_app]
      have hl := fsN_len r
      have hla := nL_len a.as
      have hna := nL_as a
      have hf : a.n + fsN r ≤ t.n := hf
      have hc : c + ((mp (shOf s) a).n + msN (shOf s) r) = (sub s t).n := hc
      have hd : max dp (max (lv + (mp (shOf s) a).h) (msH (shOf s) r)) = (sub s t).h := hd
      refine ⟨rfl, by show 8 < 11; decide, by show 9 < 11; decide, ?_⟩
      have key : ∀ (P : M → S → Prop) (R' : WR), P (.p (.tup [.int (nW (shOf s) a), .int (hW (shOf s) a)])) [some (.p (.dic (sD s))), some (.p t.d), some (.p (.int c)), some (.p (.int dp)), some (.md Z), some (.ml (r.reverse.map msD)), x6, none, some (.p a.d), some (.p (.int lv)), none] →
          (eIf (tN (eCall [] gIsVar (aC (eV 8) aN))) (eMt .dic oGet (eV 4) (aC (eV 8) (aC (eTup (aC (eC (.int 1)) (aC (eC (.int 1)) aN))) aN))) (eTup (aC (eC (.int 1)) (aC (eC (.int 1)) aN)))) [some (.p (.dic (sD s))), some (.p t.d), some (.p (.int c)), some (.p (.int dp)), some (.md Z), some (.ml (r.reverse.map msD)), x6, none, some (.p a.d), some (.p (.int lv)), none] P R' := fun P R' h => by
        refine ⟨a, rfl, trivial, ?_⟩
        cases a with
        | v x =>
          refine ⟨rfl, by show 2 ≤ sizeLine; decide, zfit x, ?_⟩
          exact zget x (hva x (vin_v.mpr rfl)) (fun m => P m _) h
        | f g as => exact ⟨by show 2 ≤ sizeLine; decide, h⟩
      refine key _ _ ⟨by show 6 < 11; decide, by show 2 < 11; decide, by show 3 < 11; decide, rfl, a, rfl, trivial, ?_⟩
      refine lc_xm (xs := a.as) (en := Tr.d) (fun b => msD (b, lv + 1)) (dL_map _) (by omega) (own_none rfl) (by show 10 < 11; decide) (fun b hb Q hq => ⟨by show 2 ≤ sizeLine; decide, hq⟩) ?_
      have hstep := hW_step (shOf s) a lv
      have nstep := nW_step (shOf s) a
      refine ⟨?_, fsN ((a.as.map fun b => (b, lv + 1)).reverse ++ r), ?_, c + nW (shOf s) a, max dp (lv + hW (shOf s) a), (a.as.map fun b => (b, lv + 1)).reverse ++ r, some (.p (.tup [.int (nW (shOf s) a), .int (hW (shOf s) a)])), some (.p a.d), some (.p (.int lv)), ?_, rfl, ?_, ?_, ?_, ?_⟩
      · show (r.reverse.map msD).length + (a.as.map fun b => msD (b, lv + 1)).length ≤ sizeLine
        rw [List.length_map, List.length_map, List.length_reverse]
        omega
      · rw [fsN_app, fsN_rev, fsN_kids]
        show nL a.as + fsN r < a.n + fsN r
        omega
      · show [_, _, some (M.p (.int ((c : Int) + (nW (shOf s) a : Nat)))), some (M.p (.int (if ((lv : Int) + (hW (shOf s) a : Nat)) > (dp : Int) then ((lv : Int) + (hW (shOf s) a : Nat)) else (dp : Int)))), _, some (M.ml (r.reverse.map msD ++ a.as.map fun b => msD (b, lv + 1))), _, _, _, _, _] = _
        rw [show (if ((lv : Int) + (hW (shOf s) a : Nat)) > (dp : Int) then ((lv : Int) + (hW (shOf s) a : Nat)) else (dp : Int)) = ((max dp (lv + hW (shOf s) a) : Nat) : Int) by split <;> omega, List.reverse_append, List.reverse_reverse, List.map_append, List.map_map]
        rfl
      · rw [msN_app, msN_rev, msN_kids]
        omega
      · rw [msH_app, msH_rev]
        omega
      · rw [fsN_app, fsN_rev, fsN_kids]
        omega
      · intro u hu x hx
        rcases List.mem_append.mp hu with hu | hu
        · obtain ⟨b, hb, rfl⟩ := List.mem_map.mp (List.mem_reverse.mp hu)
          cases a with
          | v y => cases hb
          | f g as => exact hva x (vin_f.mpr ⟨b, hb, hx⟩)
        · exact hv' u hu x hx)
def gApply : SpecD := fun ms Q R => ∃ (s : Sb) (t : Tr), ms = [.p (.dic (sD s)), .p t.d] ∧ t.n ≤ 1000000 ∧ (∀ p ∈ s, p.2.n ≤ 1000000) ∧ ((sub s t).n ≤ 400 → (sub s t).h ≤ 40 → Q (.p (sub s t).d) []) ∧ (400 < (sub s t).n ∨ 40 < (sub s t).h → R .lim [])
theorem gApply.mono : MonoG gApply := fun ms Q Q' R R' h h2 ⟨s, t, e, a, b, q, r⟩ => ⟨s, t, e, a, b, fun h1 h3 => h _ _ (q h1 h3), fun z => h2 _ _ (r z)⟩
theorem gApply.len : ∀ ms Q R, gApply ms Q R → ms.length = 2 := fun ms Q R ⟨s, t, e, _⟩ => by rw [e]; rfl
theorem D_apply {G : Pg} (T : Tk G) (k : Nat) : Df G "apply" ["s", "t"] (k + 6) [] gApply :=
  ok_apply T (Nat.succ_le_succ (Nat.zero_le _)) (D_measure T k) ((D_need_small T k).le (by omega)) ((D_rebuilt T k).le (by omega)) gApply.mono gApply.len (by
    rintro ms Q R ⟨s, t, rfl, hn, hs, q, qx⟩
    refine ⟨s, t, rfl, hn, hs, rfl, by show 2 < 4; decide, by show 3 < 4; decide, (sub s t).n, (sub s t).h, rfl, fun h1 h2 => ?_, qx⟩
    intro f c σ
    refine ⟨t, shOf s, rfl, hn, fun x hx P hP => ?_, q h1 h2⟩
    refine ⟨rfl, fit_sD s x, ?_⟩
    show match dget (sD s) (.str x) with | some d => _ | none => _
    rw [dget_sD]
    unfold shOf at hP
    cases e : sget s x with
    | none =>
      rw [e] at hP
      exact ⟨_, rfl, hP⟩
    | some u =>
      rw [e] at hP
      exact ⟨_, rfl, hP⟩)
def gMatch : SpecD := fun ms Q _ => ∃ p t : Tr, ms = [.p p.d, .p t.d] ∧ p.ok ∧ t.ok ∧ p.n ≤ 1000000 ∧ t.n ≤ 1000000 ∧ ((mB p t []).1 = true → Q (.md (sD (mB p t []).2)) []) ∧ ((mB p t []).1 = false → Q (.p .non) [])
theorem gMatch.mono : MonoG gMatch := fun ms Q Q' R R' h _ ⟨p, t, e, a, b, c, d, q, r⟩ => ⟨p, t, e, a, b, c, d, fun z => h _ _ (q z), fun z => h _ _ (r z)⟩
theorem gMatch.len : ∀ ms Q R, gMatch ms Q R → ms.length = 2 := fun ms Q R ⟨s, t, e, _⟩ => by rw [e]; rfl
theorem D_match {G : Pg} (T : Tk G) (k : Nat) : Df G "match" ["pattern", "t"] (k + 3) [] gMatch :=
  ok_match T ((D_is_variable T k).le (by omega)) (D_same T k) gMatch.mono gMatch.len (by
    rintro ms Q R ⟨p, t, rfl, hp, ht, hpn, htn, q, qn⟩
    have hz : 2 * 1000000 + 10 < sizeLine := by decide
    refine ⟨by show 2 < 6; decide, by show 2 ≤ sizeLine; decide, by show 1 ≤ sizeLine; decide, by show 3 < 6; decide, ?_⟩
    have fin : mS [(p, t)] [] = none → Q (.p .non) [] := fun h => by
      cases e : (mB p t []).1 with
      | false => exact qn e
      | true =>
        have h : (if (mB p t []).1 = true then some (mB p t []).2 else none) = none := h
        rw [e] at h
        cases h
    refine while_by (fun m st => ∃ (fs : Sb) (w : List P2) (x4 x5 : Option M), st = [some (.p p.d), some (.p t.d), some (.md (sD fs)), some (.ml (w.reverse.map p2D)), x4, x5] ∧ m = p2N w ∧ mS w fs = mS [(p, t)] [] ∧ (∀ q ∈ w, q.1.ok ∧ q.2.ok ∧ q.2.n ≤ t.n) ∧ (∀ q ∈ fs, q.2.ok ∧ q.2.n ≤ t.n) ∧ fs.length + p2N w ≤ p.n) (p2N [(p, t)])
      ⟨[], [(p, t)], none, none, rfl, rfl, rfl, fun q hq => by rw [List.mem_singleton.mp hq]; exact ⟨hp, ht, Nat.le_refl _⟩, (fun q hq => by cases hq), by simp [p2N]⟩ ?_
    rintro m st ⟨fs, w, x4, x5, rfl, rfl, he, hok, hfs, hw⟩
    cases w with
    | nil =>
      have he : some fs = if (mB p t []).1 = true then some (mB p t []).2 else none := he
      cases e : (mB p t []).1 with
      | false =>
        rw [e] at he
        cases he
      | true =>
        rw [e, if_pos rfl] at he
        have q := q e
        rw [← Option.some.inj he] at q
        exact q
    | cons pr r =>
      obtain ⟨a, b⟩ := pr
      have hr : ∀ q ∈ r, q.1.ok ∧ q.2.ok ∧ q.2.n ≤ t.n := fun q hq => hok q (List.mem_cons_of_mem _ hq)
      obtain ⟨ha, hb, hbn⟩ := hok (a, b) List.mem_cons_self
      have hap := n_pos a
      have hw : fs.length + (a.n + p2N r) ≤ p.n := hw
      have he : (if (mB a b fs).1 = true then mS r (mB a b fs).2 else none) = mS [(p, t)] [] := he
      have hl := p2N_len r
      rw [snocR]
      show if (!(r.reverse.map p2D ++ [p2D (a, b)]).isEmpty) = true then _ else _
      rw [if_pos (by simp)]
      refine ⟨rfl, ?_⟩
      show match (r.reverse.map p2D ++ [p2D (a, b)]).getLast? with | some _ => _ | none => False
      rw [last_app, dropLast_app]
      refine ⟨rfl, by show 4 < 6; decide, by show 5 < 6; decide, a, rfl, trivial, ?_⟩
      cases a with
      | v x =>
        have hw : fs.length + (1 + p2N r) ≤ p.n := hw
        refine ⟨fit_sD fs x, ?_⟩
        show if (dget (sD fs) (.str x)).isSome = true then _ else _
        rw [dget_sD, Option.isSome_map]
        cases e : sget fs x with
        | some u =>
          rw [if_pos (show (some u).isSome = true from rfl)]
          obtain ⟨hu, hun⟩ := hfs _ (sget_mem e)
          have hun : u.n ≤ t.n := hun
          refine ⟨fit_sD fs x, ?_⟩
          show match dget (sD fs) (.str x) with | some d => _ | none => False
          rw [dget_sD, e]
          refine ⟨u, b, rfl, hu, hb, by omega, ?_⟩
          have em : mB (.v x) b fs = (decide (u = b), fs) := by unfold mB; rw [e]
          rw [em] at he
          by_cases h : u = b
          · rw [decide_eq_true h] at he ⊢
            exact ⟨p2N r, by show p2N r < 1 + p2N r; omega, fs, r, some (.p (.str x)), some (.p b.d), rfl, rfl, he, hr, hfs, by omega⟩
          · rw [decide_eq_false h] at he ⊢
            exact fin he.symm
        | none =>
          rw [if_neg (by simp)]
          have em : mB (.v x) b fs = (true, fs ++ [(x, b)]) := by unfold mB; rw [e]
          rw [em, if_pos rfl] at he
          refine ⟨fit_sD fs x, by show (sD fs).length < sizeLine; rw [sD_len]; omega, p2N r, by show p2N r < 1 + p2N r; omega, fs ++ [(x, b)], r, some (.p (.str x)), some (.p b.d), ?_, rfl, he, hr, fun q hq => ?_, ?_⟩
          · show [_, _, some (M.md (dput (sD fs) (.str x) b.d)), _, _, _] = _
            rw [dput_sD, sput_new e]
            rfl
          · rcases List.mem_append.mp hq with hq | hq
            · exact hfs q hq
            · rw [List.mem_singleton.mp hq]
              exact ⟨hb, hbn⟩
          · rw [List.length_append]
            show fs.length + 1 + p2N r ≤ p.n
            omega
      | f g as =>
        have hw : fs.length + (1 + nL as + p2N r) ≤ p.n := hw
        refine ⟨b, rfl, trivial, ?_⟩
        cases b with
        | v y => exact fin he.symm
        | f h bs =>
          show shp (.str g) = true ∧ shp (.str h) = true ∧ if (!eqD (.str g) (.str h)) = true then _ else _
          refine ⟨shp_str ha.1, shp_str hb.1, ?_⟩
          rw [eqD_str]
          have em : mB (.f g as) (.f h bs) fs = if g = h ∧ as.length = bs.length then mBL as bs fs else (false, fs) := rfl
          by_cases e : g = h
          · rw [decide_eq_true e]
            subst e
            show shp (.int ((dL as).length : Nat)) = true ∧ shp (.int ((dL bs).length : Nat)) = true ∧ if (!eqD (.int ((dL as).length : Nat)) (.int ((dL bs).length : Nat))) = true then _ else _
            refine ⟨sp_int.shp (Nat.zero_le _), sp_int.shp (Nat.zero_le _), ?_⟩
            rw [eqD_nat, dL_len, dL_len]
            by_cases e2 : as.length = bs.length
            · rw [decide_eq_true e2]
              rw [show mB (.f g as) (.f g bs) fs = mBL as bs fs by rw [em, if_pos ⟨rfl, e2⟩]] at he
              have h2 := nL_len as
              have h3 := p2N_zip as bs
              have ez : (((dL as).zip (dL bs)).map fun p => D.tup [p.1, p.2]).reverse = ((as.zip bs).reverse).map p2D := by rw [zip_d, List.map_reverse]
              refine ⟨rfl, ?_, p2N (as.zip bs ++ r), ?_, fs, as.zip bs ++ r, some (.p (Tr.f g as).d), some (.p (Tr.f g bs).d), ?_, rfl, ?_, fun q hq => ?_, hfs, ?_⟩
              · show (r.reverse.map p2D).length + ((((dL as).zip (dL bs)).map fun p => D.tup [p.1, p.2]).reverse).length ≤ sizeLine
                rw [ez, List.length_map, List.length_map, List.length_reverse, List.length_reverse, List.length_zip]
                omega
              · rw [p2N_app]
                show p2N (as.zip bs) + p2N r < 1 + nL as + p2N r
                omega
              · show [_, _, _, some (M.ml (r.reverse.map p2D ++ (((dL as).zip (dL bs)).map fun p => D.tup [p.1, p.2]).reverse)), _, _] = _
                rw [ez, List.reverse_append, List.map_append]
              · rw [mS_zip r fs e2]
                exact he
              · rcases List.mem_append.mp hq with hq | hq
                · obtain ⟨x, y⟩ := q
                  obtain ⟨m1, m2⟩ := List.of_mem_zip hq
                  have := nL_mem m2
                  have hbn : 1 + nL bs ≤ t.n := hbn
                  exact ⟨okL_iff.mp ha.2 _ m1, okL_iff.mp hb.2 _ m2, by dsimp only; omega⟩
                · exact hr q hq
              · rw [p2N_app]
                omega
            · rw [decide_eq_false e2]
              rw [show mB (.f g as) (.f g bs) fs = (false, fs) by rw [em, if_neg (fun z => e2 z.2)]] at he
              exact fin he.symm
          · rw [decide_eq_false e]
            rw [show mB (.f g as) (.f h bs) fs = (false, fs) by rw [em, if_neg (fun z => e z.1)]] at he
            exact fin he.symm)
end Sd
set_option maxHeartbeats 1000000
/-! U6: rewritten, inner_positions, first_step, normalized, normalize. -/
namespace Sd
open PySem PySem.Spec PyProof.Rows L2
variable [Tb]
theorem at_sys {s : List Rl} {k : Nat} {ru : Rl} (h : s[k]? = some ru) : atI (s.map Rl.d) (k : Int) = some ru.d := atI_nat (by rw [List.getElem?_map, h]; rfl)
def gRewritten : SpecD := fun ms Q R => ∃ (s : List Rl) (t : Tr) (p : List Int) (k : Nat), ms = [.p (sysD s), .p t.d, .p (posI p), .p (.int k)] ∧ SysOk s ∧ k < s.length ∧ t.ok ∧ t.n ≤ 1000 ∧ t.h ≤ 1000 ∧ p.length < 10000 ∧
  (atT t p = none → R .stp []) ∧ (∀ u, atT t p = some u → stepR s t p k = none → Q (.p .non) []) ∧ (∀ res, stepR s t p k = some res → big res = false → Q (.p res.d) []) ∧ (∀ res, stepR s t p k = some res → big res = true → R .lim [])
theorem gRewritten.mono : MonoG gRewritten := fun ms Q Q' R R' h h2 ⟨s, t, p, k, e, a, b, c, d, d2, f, q1, q2, q3, q4⟩ => ⟨s, t, p, k, e, a, b, c, d, d2, f, fun z => h2 _ _ (q1 z), fun u z y => h _ _ (q2 u z y), fun u z y => h _ _ (q3 u z y), fun u z y => h2 _ _ (q4 u z y)⟩
theorem gRewritten.len : ∀ ms Q R, gRewritten ms Q R → ms.length = 4 := fun ms Q R ⟨s, t, p, k, e, _⟩ => by rw [e]; rfl
theorem D_rewritten {G : Pg} (T : Tk G) (k : Nat) : Df G "rewritten" ["system", "t", "place", "number"] (k + 7) [] gRewritten :=
  ok_rewritten T (D_apply T k) ((D_at T k).le (by omega)) ((D_match T k).le (by omega)) ((D_put T k).le (by omega)) gRewritten.mono gRewritten.len (by
    rintro ms Q R ⟨s, t, p, k, rfl, hs, hk, ht, htn, hth, hp, qs, qn, q, qx⟩
    have hz : 3000000 < sizeLine := by decide
    have er : s[k]? = some s[k] := List.getElem?_eq_getElem hk
    generalize s[k] = ru at er
    have rk := hs.2 ru (List.mem_of_getElem? er)
    show match atI (s.map Rl.d) (k : Int) with | some d => _ | none => False
    rw [at_sys er]
    refine ⟨rfl, by show 5 < 7; decide, by show 6 < 7; decide, t, p, rfl, fun u hu => ?_, qs⟩
    obtain ⟨a1, a2, a3⟩ := atT_ok ht hu
    have hln := rk.ln
    have hrn := rk.rn
    cases e : (mB ru.l u []).1 with
    | false =>
      have eh : hit ru u = none := by
        unfold hit
        rw [if_neg (by rw [e]; decide)]
      refine ⟨ru.l, u, rfl, rk.lok, a1, by omega, by omega, (fun z => by rw [e] at z; cases z), fun _ => ⟨by show 4 < 7; decide, ?_⟩⟩
      exact qn u hu (stepR_none hu er eh)
    | true =>
      have eh : hit ru u = some (sub (mB ru.l u []).2 ru.r) := by
        unfold hit
        rw [if_pos e]
      obtain ⟨b1, b2, b3⟩ := hit_some rk a1 eh
      have est := stepR_some hu er eh
      obtain ⟨res, hr, c1, c2, c3⟩ := putT_some (sub (mB ru.l u []).2 ru.r) hu
      rw [hr] at est
      have resok := c3 ht b1
      refine ⟨ru.l, u, rfl, rk.lok, a1, by omega, by omega, (fun _ => ⟨by show 4 < 7; decide, ?_⟩), fun z => by rw [e] at z; cases z⟩
      have vn : ∀ q ∈ (mB ru.l u []).2, q.2.n ≤ 1000000 := hit_val (P := fun w => w.n ≤ 1000000) fun w hw => by
        have := (part_h hw).2
        omega
      refine ⟨(mB ru.l u []).2, ru.r, rfl, by omega, vn, fun h1 h2 => ?_, fun z => ?_⟩
      · refine ⟨t, p, _, rfl, by omega, by omega, fun r hr' g1 g2 => ?_, fun r hr' g => ?_, fun z => by rw [z] at hu; cases hu⟩
        · rw [hr] at hr'
          cases hr'
          exact q res est (big_not.mpr ⟨g1, g2⟩)
        · rw [hr] at hr'
          cases hr'
          exact qx res est (big_iff.mpr g)
      · exact qx res est (put_big hr ht b1 resok (big_iff.mpr z)))
/-- the machine of inner_positions -/
abbrev Iw := List Nat × Tr × Bool
def iwD (w : Iw) : D := .tup [posD w.1, w.2.1.d, .bl w.2.2]
def iwO (w : Iw) : List (List Nat) := if w.2.2 then [w.1] else (ordT w.2.1).map (w.1 ++ ·)
def iwN : List Iw → Nat
  | [] => 0
  | (_, t, b) :: r => (if b then 1 else 2 * t.n) + iwN r
theorem iwN_app : ∀ a b : List Iw, iwN (a ++ b) = iwN a + iwN b
  | [], b => by simp [iwN]
  | (p, t, c) :: a, b => by simp only [List.cons_append, iwN, iwN_app a b]; omega
theorem iwN_len : ∀ st : List Iw, st.length ≤ iwN st
  | [] => Nat.le_refl _
  | (p, t, b) :: r => by
    have := iwN_len r
    have := n_pos t
    simp only [iwN, List.length_cons]
    split <;> omega
def kidI (p : List Nat) (k : Nat) (as : List Tr) : List Iw := (as.zipIdx k).map fun q => (p ++ [q.2], q.1, false)
theorem kidI_len (p : List Nat) (k : Nat) (as : List Tr) : (kidI p k as).length = as.length := by simp [kidI]
theorem kidI_out (p : List Nat) : ∀ (as : List Tr) (k : Nat), (kidI p k as).flatMap iwO = (ordL k as).map (p ++ ·)
  | [], _ => rfl
  | a :: as, k => by
    have ih := kidI_out p as (k + 1)
    unfold kidI at ih ⊢
    rw [List.zipIdx_cons, List.map_cons, List.flatMap_cons, ih]
    show (ordT a).map ((p ++ [k]) ++ ·) ++ (ordL (k + 1) as).map (p ++ ·) = ((ordT a).map (k :: ·) ++ ordL (k + 1) as).map (p ++ ·)
    rw [List.map_append, List.map_map]
    congr 1
    apply List.map_congr_left
    intro x _
    simp
theorem kidI_N (p : List Nat) : ∀ (as : List Tr) (k : Nat), iwN (kidI p k as) = 2 * nL as
  | [], _ => rfl
  | a :: as, k => by
    have ih := kidI_N p as (k + 1)
    unfold kidI at ih ⊢
    rw [List.zipIdx_cons, List.map_cons]
    simp only [iwN, nL]
    rw [ih]
    simp
    omega
theorem kidI_get {p : List Nat} {as : List Tr} {i : Nat} {a : Tr} (h : as[i]? = some a) : (kidI p 0 as)[i]? = some (p ++ [i], a, false) := by
  unfold kidI
  rw [List.getElem?_map, List.getElem?_zipIdx, h]
  simp
abbrev gInPos : SpecD := gTm (fun t => t.n ≤ 1000000 ∧ t.h ≤ 1000000 ∧ t.ok) fun t => .ml ((ordT t).map posD)
end Sd
set_option maxHeartbeats 1000000
/-! U8: step, derive, successors. -/
namespace Sd
open PySem PySem.Spec PyProof.Rows L2
variable [Tb]
def gStep : SpecD := fun ms Q R => ∃ (s : List Rl) (t : Tr) (a : Ask), ms = [.p (sysD s), .p t.d, .p (askD a)] ∧ SysOk s ∧ t.ok ∧ t.n ≤ 1000 ∧ t.h ≤ 1000 ∧ a.1.length < 10000 ∧
  (stepI s t a = none → R .stp []) ∧ (∀ u, stepI s t a = some u → big u = false → Q (.p u.d) []) ∧ (∀ u, stepI s t a = some u → big u = true → R .lim [])
theorem gStep.mono : MonoG gStep := fun ms Q Q' R R' h h2 ⟨s, t, a, e, b, c, d, f, g, q1, q2, q3⟩ => ⟨s, t, a, e, b, c, d, f, g, fun z => h2 _ _ (q1 z), fun u z y => h _ _ (q2 u z y), fun u z y => h2 _ _ (q3 u z y)⟩
theorem gStep.len : ∀ ms Q R, gStep ms Q R → ms.length = 3 := fun ms Q R ⟨s, t, a, e, _⟩ => by rw [e]; rfl
theorem D_step {G : Pg} (T : Tk G) (k : Nat) : Df G "step" ["system", "t", "one"] (k + 8) [] gStep :=
  ok_step T (D_rewritten T k) gStep.mono gStep.len (by
    rintro ms Q R ⟨s, t, ⟨p, n⟩, rfl, hs, ht, htn, hth, hp, qs, q, qx⟩
    have hp : p.length < 10000 := hp
    refine ⟨rfl, by show 4 < 6; decide, by show 5 < 6; decide, ?_⟩
    have bad : ¬ (0 ≤ n ∧ n < (s.length : Int)) → R .stp [] := fun h => qs (by unfold stepI; rw [if_neg h])
    show match (M.p (.bl (decide ((0 : Int) ≤ n)))) with | .p (.bl true) => _ | .p (.bl false) => _ | _ => False
    by_cases h0 : 0 ≤ n
    · rw [decide_eq_true h0]
      refine ifB (fun h => ?_) fun h => ?_
      · have h : (!decide (n < (((s.map Rl.d).length : Nat) : Int))) = true := h
        rw [List.length_map] at h
        simp at h
        exact bad fun z => by omega
      · have h : (!decide (n < (((s.map Rl.d).length : Nat) : Int))) = false := h
        rw [List.length_map] at h
        simp at h
        have en : n = ((n.toNat : Nat) : Int) := by omega
        have es : stepI s t (p, n) = stepR s t p n.toNat := by unfold stepI; rw [if_pos ⟨h0, h⟩]
        rw [es] at qs q qx
        generalize n.toNat = j at en qs q qx es
        subst en
        refine ⟨s, t, p, j, rfl, hs, by omega, ht, htn, hth, hp, fun z => qs (by unfold stepR; rw [z]; rfl), fun u _ he => ?_, fun res he hb => ?_, fun res he hb => qx res he hb⟩
        · exact ⟨by show 3 < 6; decide, qs he⟩
        · refine ⟨by show 3 < 6; decide, ?_⟩
          cases res with
          | v y => exact q _ he hb
          | f g bs => exact q _ he hb
    · rw [decide_eq_false h0]
      exact bad fun z => h0 z.1)
def gDerive : SpecD := fun ms Q R => ∃ (s : List Rl) (t : Tr) (as : List Ask), ms = [.p (sysD s), .p t.d, .p (.tup (as.map askD))] ∧ SysOk s ∧ t.ok ∧ big t = false ∧ (∀ a ∈ as, a.1.length < 10000) ∧
  (derR s t as = .stp → R .stp []) ∧ (∀ u, derR s t as = .ok u → Q (.p u.d) []) ∧ (derR s t as = .lim → R .lim [])
theorem gDerive.mono : MonoG gDerive := fun ms Q Q' R R' h h2 ⟨s, t, a, e, b, c, d, f, q1, q2, q3⟩ => ⟨s, t, a, e, b, c, d, f, fun z => h2 _ _ (q1 z), fun u z => h _ _ (q2 u z), fun z => h2 _ _ (q3 z)⟩
theorem gDerive.len : ∀ ms Q R, gDerive ms Q R → ms.length = 3 := fun ms Q R ⟨s, t, a, e, _⟩ => by rw [e]; rfl
theorem D_derive {G : Pg} (T : Tk G) (k : Nat) : Df G "derive" ["system", "t", "steps"] (k + 9) [] gDerive :=
  ok_derive T (D_step T k) gDerive.mono gDerive.len (by
    rintro ms Q R ⟨s, t, as, rfl, hs, ht, hb, hp, qs, q, qx⟩
    refine for_x (xs := as) (en := askD) (fun i st => ∃ (u : Tr) (x3 : Option M), st = [some (.p (sysD s)), some (.p u.d), some (.p (.tup (as.map askD))), x3] ∧ u.ok ∧ big u = false ∧ derR s u (as.drop i) = derR s t as) rfl ⟨t, none, rfl, ht, hb, rfl⟩ ?_ ?_
    · rintro i a st ei ⟨u, x3, rfl, hu, hub, hd⟩
      have hi := get_lt ei
      have ed : as.drop i = a :: as.drop (i + 1) := by
        rw [List.drop_eq_getElem_cons hi, (List.getElem?_eq_some_iff.mp ei).2]
      rw [ed] at hd
      have hub' := big_not.mp hub
      refine ⟨by show 3 < 4; decide, s, u, a, rfl, hs, hu, by omega, by omega, hp a (List.mem_of_getElem? ei), fun z => ?_, fun w z y => ?_, fun w z y => ?_⟩
      · refine qs ?_
        rw [← hd]
        simp only [derR, z]
      · refine ⟨by show 1 < 4; decide, w, _, rfl, (stepI_ok hs hu z).1, y, ?_⟩
        rw [← hd]
        simp only [derR, z, y]
        simp
      · refine qx ?_
        rw [← hd]
        simp only [derR, z, y]
        simp
    · rintro st ⟨u, x3, rfl, hu, hub, hd⟩
      rw [List.drop_length] at hd
      exact q u hd.symm)
def gSucc : SpecD := fun ms Q R => ∃ (s : List Rl) (t : Tr), ms = [.p (sysD s), .p t.d] ∧ SysOk s ∧ t.ok ∧ t.n ≤ 1000 ∧ t.h ≤ 1000 ∧ ((∀ w ∈ succR s t, big w.2 = false) → Q (.ml ((succR s t).map scD)) []) ∧ ((∃ w ∈ succR s t, big w.2 = true) → R .lim [])
theorem gSucc.mono : MonoG gSucc := fun ms Q Q' R R' h h2 ⟨s, t, e, b, c, d, f, q1, q2⟩ => ⟨s, t, e, b, c, d, f, fun z => h _ _ (q1 z), fun z => h2 _ _ (q2 z)⟩
theorem gSucc.len : ∀ ms Q R, gSucc ms Q R → ms.length = 2 := fun ms Q R ⟨s, t, e, _⟩ => by rw [e]; rfl
theorem succ_v {s : List Rl} (hs : SysOk s) {t : Tr} {p : List Nat} {x : Str} (h : atT t (iL p) = some (.v x)) : succK s t p = [] := by
  unfold succK
  rw [List.filterMap_eq_nil_iff]
  intro k hk
  have hk := List.mem_range.mp hk
  have e : s[k]? = some s[k] := List.getElem?_eq_getElem hk
  rw [stepR_none h e (hit_v (hs.2 _ (List.getElem_mem hk)) x)]
  rfl
def succJ (s : List Rl) (t : Tr) (p : List Nat) (j : Nat) : List Sc := (List.range j).filterMap fun k => (stepR s t (iL p) k).map fun r => ((p, k), r)
theorem succJ_step {s : List Rl} {t : Tr} {p : List Nat} {j : Nat} : succJ s t p (j + 1) = succJ s t p j ++ ((stepR s t (iL p) j).map fun r => ((p, j), r)).toList := by
  unfold succJ
  rw [List.range_succ, List.filterMap_append]
  congr 1
theorem succJ_len {s : List Rl} {t : Tr} {p : List Nat} {j : Nat} : (succJ s t p j).length ≤ j := by
  unfold succJ
  have := List.length_filterMap_le (fun k => (stepR s t (iL p) k).map fun r => (((p, k), r) : Sc)) (List.range j)
  rw [List.length_range] at this
  exact this
theorem flat_len {s : List Rl} {t : Tr} : ∀ l : List (List Nat), (l.flatMap (succK s t)).length ≤ l.length * s.length
  | [] => by simp
  | p :: l => by
    have h1 := flat_len (s := s) (t := t) l
    have h2 := succJ_len (s := s) (t := t) (p := p) (j := s.length)
    have h2 : (succK s t p).length ≤ s.length := h2
    rw [List.flatMap_cons, List.length_append, List.length_cons, Nat.add_mul]
    omega
theorem D_successors {G : Pg} (T : Tk G) (k : Nat) : Df G "successors" ["system", "t"] (k + 8) [] gSucc :=
  ok_successors T ((D_at T k).le (by omega)) ((D_is_variable T k).le (by omega)) ((D_positions T k).le (by omega)) (D_rewritten T k) gSucc.mono gSucc.len (by
    rintro ms Q R ⟨s, t, rfl, hs, ht, htn, hth, q, qx⟩
    have hz : 20000 < sizeLine := by decide
    have hsl := hs.1
    refine ⟨Nat.zero_le _, by show 2 < 6; decide, t, rfl, ⟨by omega, ht⟩, ?_⟩
    refine for_x (xs := t.poss) (en := posD) (fun i st => ∃ (x3 x4 x5 : Option M), st = [some (.p (sysD s)), some (.p t.d), some (.ml (((t.poss.take i).flatMap (succK s t)).map scD)), x3, x4, x5] ∧ ∀ w ∈ (t.poss.take i).flatMap (succK s t), big w.2 = false) rfl ⟨none, none, none, rfl, (fun w hw => by cases hw)⟩ ?_ ?_
    · rintro i p st ei ⟨x3, x4, x5, rfl, hi⟩
      have mp := List.mem_of_getElem? ei
      obtain ⟨u, hu⟩ : ∃ u, atT t (iL p) = some u := by
        have hm : atT t (iL p) ∈ t.parts.map some := by
          rw [← poss_at]
          exact List.mem_map.mpr ⟨p, mp, rfl⟩
        obtain ⟨u, _, e⟩ := List.mem_map.mp hm
        exact ⟨u, e.symm⟩
      have et := take_snoc ei
      have el := flat_len (s := s) (t := t) (t.poss.take i)
      have hti : (t.poss.take i).length ≤ t.n := by rw [List.length_take, poss_len]; exact Nat.min_le_right _ _
      have hm2 : (t.poss.take i).length * s.length ≤ 1000 * 10 := Nat.mul_le_mul (by omega) hsl
      refine ⟨by show 3 < 6; decide, t, iL p, rfl, fun u' hu' => ?_, fun z => by rw [hu] at z; cases z⟩
      rw [hu] at hu'
      cases hu'
      refine ⟨u, rfl, trivial, ?_⟩
      cases u with
      | v x =>
        refine ⟨some (.p (posD p)), x4, x5, ?_, ?_⟩
        · rw [et, List.flatMap_append]
          simp only [List.flatMap_cons, List.flatMap_nil, succ_v hs hu, List.append_nil]
          rfl
        · rw [et, List.flatMap_append]
          simp only [List.flatMap_cons, List.flatMap_nil, succ_v hs hu, List.append_nil]
          exact hi
      | f g as =>
        show (-(2 ^ 62) ≤ (((s.map Rl.d).length : Nat) : Int) ∧ (((s.map Rl.d).length : Nat) : Int) < 2 ^ 62 ∧ _)
        rw [List.length_map]
        refine ⟨by omega, by omega, ?_⟩
        rw [show (((s.length : Nat) : Int)).toNat = s.length by omega]
        refine for_r (n := s.length) (fun j st => ∃ (x4 x5 : Option M), st = [some (.p (sysD s)), some (.p t.d), some (.ml (((t.poss.take i).flatMap (succK s t) ++ succJ s t p j).map scD)), some (.p (posD p)), x4, x5] ∧ ∀ w ∈ (t.poss.take i).flatMap (succK s t) ++ succJ s t p j, big w.2 = false) ⟨x4, x5, by simp [succJ]; rfl, by simpa [succJ] using hi⟩ ?_ ?_
        · rintro j st hj ⟨x4, x5, rfl, hjb⟩
          have pl : (iL p).length < 10000 := by
            have := (atT_ok ht hu).2.1
            omega
          have jl := succJ_len (s := s) (t := t) (p := p) (j := j)
          refine ⟨by show 4 < 6; decide, s, t, iL p, j, rfl, hs, hj, ht, htn, hth, pl, (fun z => by rw [hu] at z; cases z), fun u' hu' he => ?_, fun res he hb => ?_, fun res he hb => ?_⟩
          · refine ⟨by show 5 < 6; decide, some (.p (.int j)), some (.p .non), ?_, ?_⟩
            · rw [succJ_step, he]
              simp
              rfl
            · rw [succJ_step, he]
              simpa using hjb
          · have ea : succJ s t p (j + 1) = succJ s t p j ++ [((p, j), res)] := by rw [succJ_step, he]; rfl
            have fin : ((((t.poss.take i).flatMap (succK s t) ++ succJ s t p j).map scD).length < sizeLine ∧ ∃ (x4 x5' : Option M), [some (M.p (sysD s)), some (.p t.d), some (.ml (((t.poss.take i).flatMap (succK s t) ++ succJ s t p j).map scD ++ [scD ((p, j), res)])), some (.p (posD p)), some (.p (.int j)), some (.p res.d)] = [some (.p (sysD s)), some (.p t.d), some (.ml (((t.poss.take i).flatMap (succK s t) ++ succJ s t p (j + 1)).map scD)), some (.p (posD p)), x4, x5'] ∧ ∀ w ∈ (t.poss.take i).flatMap (succK s t) ++ succJ s t p (j + 1), big w.2 = false) := by
              refine ⟨by rw [List.length_map, List.length_append]; omega, some (.p (.int j)), some (.p res.d), ?_, ?_⟩
              · rw [ea, ← List.append_assoc, List.map_append (l₁ := _ ++ succJ s t p j)]
                rfl
              · rw [ea, ← List.append_assoc]
                intro w hw
                rcases List.mem_append.mp hw with hw | hw
                · exact hjb w hw
                · rw [List.mem_singleton.mp hw]
                  exact hb
            refine ⟨by show 5 < 6; decide, ?_⟩
            cases res with
            | v y => exact ⟨rfl, by show 2 ≤ sizeLine; decide, by show 2 ≤ sizeLine; decide, fin⟩
            | f g' bs => exact ⟨rfl, by show 2 ≤ sizeLine; decide, by show 2 ≤ sizeLine; decide, fin⟩
          · exact qx ⟨((p, j), res), succ_mem.mpr ⟨mp, hj, he⟩, hb⟩
        · rintro st ⟨x4, x5, rfl, hjb⟩
          refine ⟨some (.p (posD p)), x4, x5, ?_, ?_⟩
          · rw [et, List.flatMap_append]
            simp only [List.flatMap_cons, List.flatMap_nil, List.append_nil]
            rfl
          · rw [et, List.flatMap_append]
            simp only [List.flatMap_cons, List.flatMap_nil, List.append_nil]
            exact hjb
    · rintro st ⟨x3, x4, x5, rfl, hi⟩
      rw [List.take_length] at hi ⊢
      exact q hi)
end Sd
set_option maxHeartbeats 1000000
/-! L1: draws, signatures, terms as they are drawn. -/
namespace Sd
open PySem PySem.Spec PyProof.Rows L2
variable [Tb]
theorem mulR {a b : Int} (h1 : -(2 ^ 64) < b) (h2 : b < 2 ^ 64) : IntMulOk a b := CMul.ok (.inr ⟨h1, h2⟩)
theorem mulL {a b : Int} (h1 : -(2 ^ 64) < a) (h2 : a < 2 ^ 64) : IntMulOk a b := CMul.ok (.inl ⟨h1, h2⟩)
/-- the state of the draws; c is what is left of nodes -/
def dr (ns : List Int) (i a b c : Int) : List D := [.lst (ns.map .int), .int i, .int a, .int b, .int c]
def DrOk (c : Int) (l : List D) : Prop := ∃ ns i a b, l = dr ns i a b c ∧ 0 ≤ i ∧ ns.length ≤ 63
theorem DrOk.set {c e : Int} {l : List D} (h : DrOk c l) : ∃ l', DrOk e l' ∧ l.set 4 (.int e) = l' ∧ l.length = 5 := by
  obtain ⟨ns, i, a, b, rfl, h0, hl⟩ := h
  exact ⟨_, ⟨ns, i, a, b, rfl, h0, hl⟩, rfl, rfl⟩
def gStart (c : Int) : SpecD := fun ms Q _ => ∃ ns : List Int, ms = [.p (.lst (ns.map .int))] ∧ ns.length ≤ 63 ∧ ∀ l, DrOk c l → Q (.ml l) []
theorem gStart.mono (c : Int) : MonoG (gStart c) := fun ms Q Q' R R' h _ ⟨ns, e, p, q⟩ => ⟨ns, e, p, fun l hl => h _ _ (q l hl)⟩
theorem gStart.len {c : Int} : ∀ ms Q R, gStart c ms Q R → ms.length = 1 := fun ms Q R ⟨d, e, _⟩ => by rw [e]; rfl
theorem D__law_start {G : Pg} (T : Tk G) (k : Nat) : Df G "_law_start" ["_law_script"] (k + 1) [] (gStart 14) :=
  ok__law_start T (gStart.mono _) gStart.len (by
    rintro ms Q R ⟨ns, rfl, hl, q⟩
    have h1 := cut_len' ns none (some 63)
    have h63 : (63 : Nat) ≤ sizeLine := by decide
    refine lc_xm (xs := cutD ns none (some 63)) (en := .int) (fun d => .int d) (cut_map' _ _ _ _) (by omega) (own_none rfl) (by show 1 < 2; decide) (fun i d Q hq => hq) ?_
    exact ⟨by show 5 ≤ sizeLine; decide, q _ ⟨_, 0, 0, 0, rfl, Int.le_refl 0, by omega⟩⟩)
def gFill : SpecD := fun ms Q _ => ∃ l c, ms = [.ml l] ∧ DrOk c l ∧ ∀ (r : Int) l', DrOk c l' → Q (.p (.int r)) [.ml l']
theorem gFill.mono : MonoG gFill := fun ms Q Q' R R' h _ ⟨l, c, e, p, q⟩ => ⟨l, c, e, p, fun r l' hl => h _ _ (q r l' hl)⟩
theorem gFill.len : ∀ ms Q R, gFill ms Q R → ms.length = 1 := fun ms Q R ⟨d, c, e, _⟩ => by rw [e]; rfl
def w_fillT : WS := (sSeq (sIf (tAnd (tN (eB oIx (eV 0) (eC (.int 0)))) (tB (eB oGe (eB oIx (eV 0) (eC (.int 1))) (eFn oLen (aC (eB oIx (eV 0) (eC (.int 0))) aN))))) (sAsg (eB oAdd (eV 1) (eB oMod (eFn oInt (aC (eB oIx (eB oIx (eV 0) (eC (.int 0))) (eNeg (eC (.int 1)))) aN)) (eC (.int 1000003)))) (gN 1)) sNx) (sSeq (sAsg (eB oMod (eFn oInt (aC (eB oAdd (eB oMul (eV 1) (eC (.int 48271))) (eB oMul (eB oIx (eV 0) (eC (.int 3))) (eC (.int 69621)))) aN)) (eC (.int 2147483647))) (gN 1)) (sRet (eB oAdd (eB oMod (eFn oInt (aC (eB oAdd (eB oAdd (eB oMul (eV 1) (eV 1)) (eB oMul (eB oIx (eV 0) (eC (.int 3))) (eC (.int 7919)))) (eC (.int 11))) aN)) (eC (.int 2305843009213693951))) (eC (.int 2305843009213693951))))))
theorem at_int {ns : List Int} {i : Int} (h0 : 0 ≤ i) (h : i < ns.length) : ∃ v : Int, atI (ns.map D.int) i = some (.int v) := by
  refine ⟨ns[i.toNat]'(by omega), ?_⟩
  have := atI_nat (xs := ns.map D.int) (j := i.toNat) (v := .int (ns[i.toNat]'(by omega))) (by rw [List.getElem?_map, List.getElem?_eq_getElem (by omega)]; rfl)
  rw [Int.toNat_of_nonneg h0] at this
  exact this
theorem at_neg1 {ns : List Int} (h : ns ≠ []) : ∃ v : Int, atI (ns.map D.int) (-1) = some (.int v) := by
  refine ⟨ns.getLast h, ?_⟩
  have e : ns.map D.int = ns.dropLast.map D.int ++ [.int (ns.getLast h)] := by
    rw [← List.map_singleton, ← List.map_append, List.dropLast_concat_getLast]
  rw [e]
  exact atI_last _ _
theorem fill_tail {Q : M → List M → Prop} {R : Exc → List M → Prop} {ns : List Int} {i a b c num : Int} (h0 : 0 ≤ i) (hl : ns.length ≤ 63) (q : ∀ (r : Int) l', DrOk c l' → Q (.p (.int r)) [.ml l']) : w_fillT (endN [0] Q R) [some (.ml (dr ns i a b c)), some (.p (.int num))] := by
  have ok : DrOk c (dr ns i a b c) := ⟨ns, i, a, b, rfl, h0, hl⟩
  have last : ∀ num : Int, (sSeq (sAsg (eB oMod (eFn oInt (aC (eB oAdd (eB oMul (eV 1) (eC (.int 48271))) (eB oMul (eB oIx (eV 0) (eC (.int 3))) (eC (.int 69621)))) aN)) (eC (.int 2147483647))) (gN 1)) (sRet (eB oAdd (eB oMod (eFn oInt (aC (eB oAdd (eB oAdd (eB oMul (eV 1) (eV 1)) (eB oMul (eB oIx (eV 0) (eC (.int 3))) (eC (.int 7919)))) (eC (.int 11))) aN)) (eC (.int 2305843009213693951))) (eC (.int 2305843009213693951))))) (endN [0] Q R) [some (.ml (dr ns i a b c)), some (.p (.int num))] := fun num => by
    refine ⟨mulR (by decide) (by decide), mulR (by decide) (by decide), by show (0 : Int) < 2147483647; decide, by show 1 < 2; decide, ?_⟩
    have m0 := Int.emod_nonneg (num * 48271 + b * 69621) (b := 2147483647) (by decide)
    have m1 := Int.emod_lt_of_pos (num * 48271 + b * 69621) (b := 2147483647) (by decide)
    exact ⟨mulL (by show -(2 ^ 64) < (num * 48271 + b * 69621) % 2147483647; omega) (by show (num * 48271 + b * 69621) % 2147483647 < 2 ^ 64; omega), mulR (by decide) (by decide), by show (0 : Int) < 2305843009213693951; decide, q _ _ ok⟩
  refine ifB (fun h => ?_) fun h => ?_
  · refine ifB (fun h2 => ?_) fun h2 => last num
    have hne : ns ≠ [] := fun z => by
      subst z
      cases h
    obtain ⟨v, hv⟩ := at_neg1 hne
    show match atI (ns.map D.int) (-1) with | some d => _ | none => False
    rw [hv]
    exact ⟨by show (0 : Int) < 1000003; decide, by show 1 < 2; decide, last _⟩
  · exact last num
theorem D__law_fill {G : Pg} (T : Tk G) (k : Nat) : Df G "_law_fill" ["_law_c"] (k + 1) [0] gFill :=
  ok__law_fill T gFill.mono gFill.len (by
    rintro ms Q R ⟨_, c, rfl, ⟨ns, i, a, b, rfl, h0, hl⟩, q⟩
    refine ⟨mulR (by decide) (by decide), by show 1 < 2; decide, ?_⟩
    refine ifB (fun h => ?_) fun h => ?_
    · have h : decide (i < ((ns.map D.int).length : Int)) = true := h
      rw [List.length_map, decide_eq_true_eq] at h
      obtain ⟨v, hv⟩ := at_int h0 h
      show match atI (ns.map D.int) i with | some d => _ | none => False
      rw [hv]
      refine ⟨by show 1 < 2; decide, ?_⟩
      have go : ∀ num : Int, (sSeq (sIf (tB (eB oGe (eV 1) (eB oPow (eC (.int 10)) (eC (.int 18))))) (sRet (eV 1)) sNx) w_fillT) (endN [0] Q R) [some (.ml (dr ns (i + 1) a (b + 1) c)), some (.p (.int num))] := fun num => by
        refine ⟨⟨by decide, by decide, by decide⟩, ?_⟩
        refine ifB (fun h => ?_) fun h => ?_
        · exact q _ _ ⟨ns, i + 1, a, b + 1, rfl, by omega, hl⟩
        · exact fill_tail (by omega) hl q
      refine ifB (fun h => ?_) fun h => ?_
      · exact ⟨by show 1 < 2; decide, go _⟩
      · exact go _
    · exact fill_tail h0 hl q)
def gTake : SpecD := fun ms Q _ => ∃ l c n, ms = [.ml l, .p (.int n)] ∧ DrOk c l ∧ 0 < n ∧ n < 1073741824 ∧ ∀ (r : Int) l', 0 ≤ r → r < n → DrOk c l' → Q (.p (.int r)) [.ml l']
theorem gTake.mono : MonoG gTake := fun ms Q Q' R R' h _ ⟨l, c, n, e, p1, p2, p3, q⟩ => ⟨l, c, n, e, p1, p2, p3, fun r l' h1 h2 hl => h _ _ (q r l' h1 h2 hl)⟩
theorem gTake.len : ∀ ms Q R, gTake ms Q R → ms.length = 2 := fun ms Q R ⟨l, c, n, e, _⟩ => by rw [e]; rfl
theorem D__law_take {G : Pg} (T : Tk G) (k : Nat) : Df G "_law_take" ["_law_c", "_law_many"] (k + 2) [0] gTake :=
  ok__law_take T (D__law_fill T k) gTake.mono gTake.len (by
    rintro ms Q R ⟨_, c, n, rfl, ⟨ns, i, a, b, rfl, h0, hl⟩, hn, hn2, q⟩
    have fin : ∀ (ns : List Int) (i a b : Int), 0 ≤ i → ns.length ≤ 63 → (sSeq (sAsg (eB oMod (eFn oInt (aC (eB oIx (eV 0) (eC (.int 2))) aN)) (eV 1)) (gN 2)) (sSeq (sAsg (eB oDiv (eB oIx (eV 0) (eC (.int 2))) (eV 1)) (gSb oSt (eV 0) (eC (.int 2)))) (sRet (eV 2)))) (endN [0] Q R) [some (.ml (dr ns i a b c)), some (.p (.int n)), none] := fun ns i a b h0 hl => by
      refine ⟨hn, by show 2 < 3; decide, ⟨hn, hn2⟩, q _ _ (Int.emod_nonneg _ (by omega)) (Int.emod_lt_of_pos _ hn) ⟨ns, i, _, b, rfl, h0, hl⟩⟩
    refine ifB (fun h => ?_) fun h => fin ns i a b h0 hl
    refine ⟨_, c, rfl, ⟨ns, i, a, b, rfl, h0, hl⟩, fun r l' hl' => ?_⟩
    obtain ⟨ns, i, a, b, rfl, h0, hl⟩ := hl'
    exact fin ns i r b h0 hl)
/-! ### signatures -/
abbrev sy (f : Str) (n : Nat) : Str × Nat := (f, n)
abbrev sg0 : List (Str × Nat) := [sy "a" 0, sy "f" 1, sy "g" 2]
/-- what a signature must be for terms to be drawn -/
structure SgW (sg : List (Str × Nat)) : Prop where
  ar : ∀ p ∈ sg, p.2 ≤ 4 ∧ sgn p.1
  a0 : sy "a" 0 ∈ sg
  len : sg.length ≤ 1000
/-- a signature as it is drawn -/
def SgOk (sg : List (Str × Nat)) : Prop := ∃ x y z, sg = sg0 ++ x ++ y ++ z ∧ (x = [] ∨ x = [sy "b" 0]) ∧ (y = [] ∨ ∃ m : Nat, 1 ≤ m ∧ m ≤ 3 ∧ y = [sy "h" m]) ∧ (z = [] ∨ ∃ m : Nat, 3 ≤ m ∧ m ≤ 4 ∧ z = [sy "k" m])
theorem sgn_h : sgn "h" := by unfold sgn; decide +kernel
theorem sgn_k : sgn "k" := by unfold sgn; decide +kernel
theorem SgOk.w {sg : List (Str × Nat)} (h : SgOk sg) : SgW sg := by
  obtain ⟨x, y, z, rfl, hx, hy, hz⟩ := h
  refine ⟨fun p hp => ?_, by simp, ?_⟩
  · rcases List.mem_append.mp hp with hp | hp
    · rcases List.mem_append.mp hp with hp | hp
      · rcases List.mem_append.mp hp with hp | hp
        · simp only [List.mem_cons, List.not_mem_nil, or_false] at hp
          rcases hp with rfl | rfl | rfl <;> exact ⟨by decide, by unfold sgn; decide +kernel⟩
        · rcases hx with rfl | rfl
          · cases hp
          · rw [List.mem_singleton.mp hp]; exact ⟨by decide, by unfold sgn; decide +kernel⟩
      · rcases hy with rfl | ⟨m, h1, h2, rfl⟩
        · cases hp
        · rw [List.mem_singleton.mp hp]; exact ⟨by show m ≤ 4; omega, sgn_h⟩
    · rcases hz with rfl | ⟨m, h1, h2, rfl⟩
      · cases hp
      · rw [List.mem_singleton.mp hp]; exact ⟨by show m ≤ 4; omega, sgn_k⟩
  · rcases hx with rfl | rfl <;> rcases hy with rfl | ⟨m, h1, h2, rfl⟩ <;> rcases hz with rfl | ⟨m2, h3, h4, rfl⟩ <;> simp
def gSig : SpecD := fun ms Q _ => ∃ l c, ms = [.ml l] ∧ DrOk c l ∧ ∀ sg l', SgOk sg → DrOk c l' → Q (.ml (sg.map prT)) [.ml l']
theorem gSig.mono : MonoG gSig := fun ms Q Q' R R' h _ ⟨l, c, e, p, q⟩ => ⟨l, c, e, p, fun n l' h1 hl => h _ _ (q n l' h1 hl)⟩
theorem gSig.len : ∀ ms Q R, gSig ms Q R → ms.length = 1 := fun ms Q R ⟨l, c, e, _⟩ => by rw [e]; rfl
theorem D__law_signature {G : Pg} (T : Tk G) (k : Nat) : Df G "_law_signature" ["_law_c"] (k + 3) [0] gSig :=
  ok__law_signature T (D__law_take T k) gSig.mono gSig.len (by
    rintro ms Q R ⟨l, c, rfl, hl, q⟩
    refine ⟨by show 2 ≤ sizeLine; decide, by show 2 ≤ sizeLine; decide, by show 2 ≤ sizeLine; decide, by show 3 ≤ sizeLine; decide, by show 1 < 2; decide, ?_⟩
    refine ⟨l, c, 2, rfl, hl, by decide, by decide, fun r1 l1 _ _ hl1 => ?_⟩
    have third : ∀ (x y : List (Str × Nat)) (l2 : List D), DrOk c l2 → (x = [] ∨ x = [sy "b" 0]) → (y = [] ∨ ∃ m : Nat, 1 ≤ m ∧ m ≤ 3 ∧ y = [sy "h" m]) → (sSeq (sIf (tB (eB oEq (eCall [0] gTake (aC (eV 0) (aC (eC (.int 4)) aN))) (eC (.int 0)))) (sExp (eMt .lst oApp (eV 1) (aC (eTup (aC (eC (.str "k")) (aC (eB oAdd (eC (.int 3)) (eFn oInt (aC (eB oEq (eCall [0] gTake (aC (eV 0) (aC (eC (.int 3)) aN))) (eC (.int 0))) aN))) aN))) aN))) sNx) (sRet (eV 1))) (endN [0] Q R) [some (.ml l2), some (.ml ((sg0 ++ x ++ y).map prT))] := fun x y l2 hl2 hx hy => by
      refine ⟨l2, c, 4, rfl, hl2, by decide, by decide, fun r l3 _ _ hl3 => ?_⟩
      have hlen : ((sg0 ++ x ++ y).map prT).length < sizeLine := by
        have : (10 : Nat) < sizeLine := by decide
        rcases hx with rfl | rfl <;> rcases hy with rfl | ⟨m, _, _, rfl⟩ <;> simp <;> omega
      refine ⟨rfl, rfl, ifB (fun h => ?_) fun h => ?_⟩
      · refine ⟨rfl, l3, c, 3, rfl, hl3, by decide, by decide, fun r2 l4 _ _ hl4 => ⟨rfl, rfl, ?_⟩⟩
        refine ⟨by show 2 ≤ sizeLine; decide, hlen, ?_⟩
        have fin : ∀ m : Nat, 3 ≤ m → m ≤ 4 → Q (.ml (((sg0 ++ x ++ y).map prT) ++ [prT (sy "k" m)])) [.ml l4] := fun m h1 h2 => by
          have := q (sg0 ++ x ++ y ++ [sy "k" m]) l4 ⟨x, y, _, rfl, hx, hy, .inr ⟨m, h1, h2, rfl⟩⟩ hl4
          rw [List.map_append] at this
          exact this
        show Q (.ml (((sg0 ++ x ++ y).map prT) ++ [.tup [.str "k", .int (3 + (if (r2 == 0) = true then 1 else 0))]])) [.ml l4]
        by_cases hr : (r2 == 0) = true
        · rw [if_pos hr]
          exact fin 4 (by decide) (by decide)
        · rw [if_neg hr]
          exact fin 3 (by decide) (by decide)
      · have := q (sg0 ++ x ++ y ++ []) l3 ⟨x, y, _, rfl, hx, hy, .inl rfl⟩ hl3
        rw [List.append_nil] at this
        exact this
    have second : ∀ (x : List (Str × Nat)) (l2 : List D), DrOk c l2 → (x = [] ∨ x = [sy "b" 0]) → (sSeq (sIf (tB (eB oEq (eCall [0] gTake (aC (eV 0) (aC (eC (.int 3)) aN))) (eC (.int 0)))) (sExp (eMt .lst oApp (eV 1) (aC (eTup (aC (eC (.str "h")) (aC (eB oIx (eLst (aC (eC (.int 1)) (aC (eC (.int 1)) (aC (eC (.int 2)) (aC (eC (.int 3)) aN))))) (eCall [0] gTake (aC (eV 0) (aC (eC (.int 4)) aN)))) aN))) aN))) sNx) (sSeq (sIf (tB (eB oEq (eCall [0] gTake (aC (eV 0) (aC (eC (.int 4)) aN))) (eC (.int 0)))) (sExp (eMt .lst oApp (eV 1) (aC (eTup (aC (eC (.str "k")) (aC (eB oAdd (eC (.int 3)) (eFn oInt (aC (eB oEq (eCall [0] gTake (aC (eV 0) (aC (eC (.int 3)) aN))) (eC (.int 0))) aN))) aN))) aN))) sNx) (sRet (eV 1)))) (endN [0] Q R) [some (.ml l2), some (.ml ((sg0 ++ x).map prT))] := fun x l2 hl2 hx => by
      refine ⟨l2, c, 3, rfl, hl2, by decide, by decide, fun r l3 _ _ hl3 => ?_⟩
      have hlen : ((sg0 ++ x).map prT).length < sizeLine := by
        have : (10 : Nat) < sizeLine := by decide
        rcases hx with rfl | rfl <;> simp <;> omega
      refine ⟨rfl, rfl, ifB (fun h => ?_) fun h => ?_⟩
      · refine ⟨rfl, by show 4 ≤ sizeLine; decide, l3, c, 4, rfl, hl3, by decide, by decide, fun r2 l4 h0 h4 hl4 => ?_⟩
        have go : ∀ m : Nat, 1 ≤ m → m ≤ 3 → (sSeq (sIf (tB (eB oEq (eCall [0] gTake (aC (eV 0) (aC (eC (.int 4)) aN))) (eC (.int 0)))) (sExp (eMt .lst oApp (eV 1) (aC (eTup (aC (eC (.str "k")) (aC (eB oAdd (eC (.int 3)) (eFn oInt (aC (eB oEq (eCall [0] gTake (aC (eV 0) (aC (eC (.int 3)) aN))) (eC (.int 0))) aN))) aN))) aN))) sNx) (sRet (eV 1))) (endN [0] Q R) [some (.ml l4), some (.ml (((sg0 ++ x).map prT) ++ [prT (sy "h" m)]))] := fun m h1 h2 => by
          have := third x [sy "h" m] l4 hl4 hx (.inr ⟨m, h1, h2, rfl⟩)
          rw [List.map_append (l₁ := sg0 ++ x)] at this
          exact this
        rcases (show r2 = 0 ∨ r2 = 1 ∨ r2 = 2 ∨ r2 = 3 by omega) with rfl | rfl | rfl | rfl
        · exact ⟨by show 2 ≤ sizeLine; decide, hlen, go 1 (by decide) (by decide)⟩
        · exact ⟨by show 2 ≤ sizeLine; decide, hlen, go 1 (by decide) (by decide)⟩
        · exact ⟨by show 2 ≤ sizeLine; decide, hlen, go 2 (by decide) (by decide)⟩
        · exact ⟨by show 2 ≤ sizeLine; decide, hlen, go 3 (by decide) (by decide)⟩
      · have := third x [] l3 hl3 hx (.inl rfl)
        rw [List.append_nil] at this
        exact this
    refine ⟨rfl, rfl, ifB (fun h => ?_) fun h => ?_⟩
    · refine ⟨rfl, by show 2 ≤ sizeLine; decide, by show 3 < sizeLine; decide, ?_⟩
      exact second [sy "b" 0] l1 hl1 (.inr rfl)
    · exact second [] l1 hl1 (.inl rfl))
/-! ### terms as they are drawn -/
mutual
/-- a term over a signature and variables -/
def Tw (sg : List (Str × Nat)) (vs : List Str) : Tr → Prop
  | .v x => x ∈ vs
  | .f s as => (s, as.length) ∈ sg ∧ TwL sg vs as
def TwL (sg : List (Str × Nat)) (vs : List Str) : List Tr → Prop
  | [] => True
  | t :: l => Tw sg vs t ∧ TwL sg vs l
end
theorem TwL_iff {sg : List (Str × Nat)} {vs : List Str} : ∀ {l : List Tr}, TwL sg vs l ↔ ∀ t ∈ l, Tw sg vs t
  | [] => by simp [TwL]
  | t :: l => by simp [TwL, TwL_iff (l := l)]
mutual
theorem Tw.ok {sg : List (Str × Nat)} {vs : List Str} (h1 : ∀ p ∈ sg, sgn p.1) (h2 : ∀ x ∈ vs, sgn x) : ∀ {t : Tr}, Tw sg vs t → t.ok
  | .v x, h => h2 x h
  | .f s as, h => ⟨h1 _ h.1, TwL.ok h1 h2 h.2⟩
theorem TwL.ok {sg : List (Str × Nat)} {vs : List Str} (h1 : ∀ p ∈ sg, sgn p.1) (h2 : ∀ x ∈ vs, sgn x) : ∀ {l : List Tr}, TwL sg vs l → okL l
  | [], _ => trivial
  | t :: l, h => ⟨Tw.ok h1 h2 h.1, TwL.ok h1 h2 h.2⟩
end
theorem at_pos {α : Type} {l : List α} {r : Int} (h0 : 0 ≤ r) (h : r < l.length) : ∃ d, atI l r = some d ∧ d ∈ l := by
  refine ⟨l[r.toNat]'(by omega), ?_, List.getElem_mem _⟩
  have := atI_nat (xs := l) (j := r.toNat) (v := l[r.toNat]'(by omega)) (List.getElem?_eq_getElem (by omega))
  rw [Int.toNat_of_nonneg h0] at this
  exact this
def gTerm (n : Nat) : SpecD := fun ms Q _ => ∃ l c sg vs, ms = [.ml l, .p (.lst (sg.map prT)), .p (.lst (vs.map .str)), .p (.int n)] ∧ DrOk c l ∧ SgW sg ∧ vs.length ≤ 1000 ∧
  ∀ (t : Tr) l', Tw sg vs t → t.h ≤ n + 1 → (c ≤ 1 → t.n = 1) → (1 ≤ c → (t.n : Int) ≤ c + 3 * n) → DrOk (c - t.n) l' → Q (.p t.d) [.ml l']
theorem gTerm.mono (n : Nat) : MonoG (gTerm n) := fun ms Q Q' R R' h _ ⟨l, c, sg, vs, e, p, p2, p3, q⟩ => ⟨l, c, sg, vs, e, p, p2, p3, fun t l' h1 h2 h3 h4 hl => h _ _ (q t l' h1 h2 h3 h4 hl)⟩
theorem gTerm.len (n : Nat) : ∀ ms Q R, gTerm n ms Q R → ms.length = 4 := fun ms Q R ⟨l, c, sg, vs, e, _⟩ => by rw [e]; rfl
theorem term_tail {gs : SpecD} {n : Nat} (hs : ∀ m, n = m + 1 → ∀ ms Q R, gTerm m ms Q R → gs ms Q R) {Q : M → List M → Prop} {R : Exc → List M → Prop} {l : List D} {c : Int} {sg : List (Str × Nat)} {vs : List Str} {f : Str} {a : Nat} (hl : DrOk (c - 1) l) (hsg : SgW sg) (hvs : vs.length ≤ 1000) (hf : (f, a) ∈ sg) (hn : n ≠ 0) (hc : 2 ≤ c)
    (q : ∀ (t : Tr) l', Tw sg vs t → t.h ≤ n + 1 → (c ≤ 1 → t.n = 1) → (1 ≤ c → (t.n : Int) ≤ c + 3 * n) → DrOk (c - t.n) l' → Q (.p t.d) [.ml l']) :
    (sRet (eTup (aC (eV 5) (aC (eFn oTuple (aC (eLc [7] (iRg1 (aC (eV 6) aN)) (gN 7) tYs (eCall [0] gs (aC (eV 0) (aC (eV 1) (aC (eV 2) (aC (eB oSub (eV 3) (eC (.int 1))) aN)))))) aN)) aN)))) (endN [0] Q R) [some (.ml l), some (.p (.lst (sg.map prT))), some (.p (.lst (vs.map .str))), some (.p (.int n)), none, some (.p (.str f)), some (.p (.int a)), none] := by
  obtain ⟨m, rfl⟩ : ∃ m, n = m + 1 := ⟨n - 1, by omega⟩
  have ha := (hsg.ar _ hf).1
  dsimp only at ha
  refine ⟨by show -(2 ^ 62) ≤ (a : Int); omega, by show (a : Int) < 2 ^ 62; omega, ?_⟩
  rw [gRng_fix]
  have hlen : ((List.range (a : Int).toNat).map fun i : Nat => D.int (0 + (i : Int) * 1)).length = a := by simp
  refine lc_st (fun i acc s => ∃ (l' : List D) (ts : List Tr), s = [some (.ml l'), some (.p (.lst (sg.map prT))), some (.p (.lst (vs.map .str))), some (.p (.int ((m + 1 : Nat) : Int))), none, some (.p (.str f)), some (.p (.int a)), none] ∧ acc = dL ts ∧ ts.length = i ∧ DrOk (c - 1 - nL ts) l' ∧ (∀ t ∈ ts, Tw sg vs t ∧ t.h ≤ m + 1) ∧
    ((nL ts : Int) ≤ c - 2 ∨ (1 ≤ i ∧ (nL ts : Int) ≤ c - 1 + 3 * m + (i - 1)))) (own_none rfl) ⟨l, [], rfl, rfl, rfl, by simpa [nL] using hl, (fun _ z => nomatch z), .inl (by simp [nL]; omega)⟩ ?_ ?_ ?_
  · rintro i acc s ⟨l', ts, rfl, _⟩
    rfl
  · rintro i d acc s e ⟨l', ts, rfl, rfl, hacc, hdr, hts, hb⟩
    have hi := get_lt e
    rw [hlen] at hi
    refine hs m rfl _ _ _ ⟨l', c - 1 - nL ts, sg, vs, ?_, hdr, hsg, hvs, fun t l2 ht hh h1 h2 hl2 => ⟨?_, l2, ts ++ [t], rfl, by rw [dL_snoc], by simp [hacc], ?_, fun u hu => ?_, ?_⟩⟩
    · show [M.ml l', .p (.lst (sg.map prT)), .p (.lst (vs.map .str)), .p (.int (((m + 1 : Nat) : Int) - 1))] = _
      rw [show (((m + 1 : Nat) : Int) - 1) = (m : Int) by omega]
    · have : (4 : Nat) ≤ sizeLine := by decide
      rw [dL_len]
      omega
    · rw [nL_app]
      simp only [nL]
      rw [show c - 1 - ((nL ts + (t.n + 0) : Nat) : Int) = c - 1 - (nL ts : Int) - (t.n : Int) by omega]
      exact hl2
    · rcases List.mem_append.mp hu with hu | hu
      · exact hts u hu
      · rw [List.mem_singleton.mp hu]
        exact ⟨ht, hh⟩
    · rw [nL_app]
      simp only [nL]
      rcases hb with hb | ⟨hb1, hb2⟩
      · have := h2 (by omega)
        exact .inr ⟨by omega, by omega⟩
      · by_cases z : c - 1 - (nL ts : Int) ≤ 1
        · have := h1 z
          exact .inr ⟨by omega, by omega⟩
        · have := h2 (by omega)
          exact .inr ⟨by omega, by omega⟩
  · rintro acc s ⟨l', ts, rfl, rfl, hacc, hdr, hts, hb⟩
    rw [hlen] at hacc hb
    refine ⟨by show 2 ≤ sizeLine; decide, ?_⟩
    have hn := nL_as (.f f ts)
    refine q (.f f ts) l' ⟨by rw [hacc]; exact hf, TwL_iff.mpr fun t ht => (hts t ht).1⟩ ?_ (fun z => by omega) (fun z => ?_) ?_
    · show 1 + hL ts ≤ m + 1 + 1
      have := hL_le fun t ht => (hts t ht).2
      omega
    · show ((1 + nL ts : Nat) : Int) ≤ c + 3 * ((m + 1 : Nat) : Int)
      rcases hb with hb | ⟨hb1, hb2⟩ <;> omega
    · show DrOk (c - ((1 + nL ts : Nat) : Int)) l'
      rw [show c - ((1 + nL ts : Nat) : Int) = c - 1 - (nL ts : Int) by omega]
      exact hdr
theorem term_read {gs : SpecD} {n : Nat} (hs : ∀ m, n = m + 1 → ∀ ms Q R, gTerm m ms Q R → gs ms Q R) : ∀ ms Q R, gTerm n ms Q R → w__law_term gTake gs (endN [0] Q R) (startD 8 ms) := by
  rintro ms Q R ⟨_, c, sg, vs, rfl, ⟨ns, i, a, b, rfl, h0, hl⟩, hsg, hvs, q⟩
  have dl : DrOk (c - 1) (dr ns i a b (c - 1)) := ⟨ns, i, a, b, rfl, h0, hl⟩
  have flat : ∀ (l : List D), DrOk (c - 1) l → (sSeq (sAsg (eB oAdd (eFn oList (aC (eV 2) aN)) (eLc [5, 6] (iSeq (fun j => decide (j ∉ ([5, 6] : List Nat))) (eV 1)) (gTup 2 (gCons (gN 5) (gCons (gN 6) gNil))) (tB (eB oEq (eV 6) (eC (.int 0)))) (eTup (aC (eV 5) (aC (eTup aN) aN))))) (gN 4)) (sRet (eB oIx (eV 4) (eCall [0] gTake (aC (eV 0) (aC (eFn oLen (aC (eV 4) aN)) aN)))))) (endN [0] Q R) [some (.ml l), some (.p (.lst (sg.map prT))), some (.p (.lst (vs.map .str))), some (.p (.int n)), none, none, none, none] := fun l hdl => by
    have k0 : (2000 : Nat) < sizeLine := by decide
    have hsl := hsg.len
    refine lc_2 (xs := sg) (fun p => p.2 == 0) (fun p => .tup [.str p.1, .tup []]) rfl (by omega) (own_none2 rfl rfl) (by show 5 < 8; decide) (by show 6 < 8; decide) (by decide) (fun p hp Q hq => ?_) (fun p hp hc Q hq => ⟨Nat.zero_le _, by show 2 ≤ sizeLine; decide, hq⟩) ?_
    · refine ⟨rfl, rfl, ?_⟩
      have e : ((p.2 : Int) == 0) = (p.2 == 0) := by
        cases p.2 <;> simp
        omega
      show Q ((p.2 : Int) == 0) _
      rw [e]
      exact hq
    · have fl := List.length_filter_le (fun p : Str × Nat => p.2 == 0) sg
      have hmem : sy "a" 0 ∈ sg.filter fun p : Str × Nat => p.2 == 0 := List.mem_filter.mpr ⟨hsg.a0, rfl⟩
      have hpos := List.length_pos_of_mem hmem
      refine ⟨?_, by show 4 < 8; decide, ?_⟩
      · show (vs.map D.str).length + ((sg.filter fun p : Str × Nat => p.2 == 0).map fun p : Str × Nat => D.tup [.str p.1, .tup []]).length ≤ sizeLine
        rw [List.length_map, List.length_map]
        omega
      generalize hF : vs.map D.str ++ (sg.filter fun p : Str × Nat => p.2 == 0).map (fun p : Str × Nat => D.tup [.str p.1, .tup []]) = F
      have hFl : F.length = vs.length + (sg.filter fun p : Str × Nat => p.2 == 0).length := by rw [← hF]; simp
      refine ⟨l, c - 1, (F.length : Int), rfl, hdl, by omega, by omega, fun r l' r0 r1 hl' => ?_⟩
      obtain ⟨d, hd, hm⟩ := at_pos r0 r1
      show match atI F r with | some d => _ | none => False
      rw [hd]
      rw [← hF] at hm
      rcases List.mem_append.mp hm with hm | hm
      · obtain ⟨x, hx, rfl⟩ := List.mem_map.mp hm
        exact q (.v x) l' hx (by show 1 ≤ n + 1; omega) (fun _ => rfl) (fun z => by show (1 : Int) ≤ c + 3 * n; omega) hl'
      · obtain ⟨p, hp, rfl⟩ := List.mem_map.mp hm
        obtain ⟨hp1, hp2⟩ := List.mem_filter.mp hp
        have hp2 : p.2 = 0 := by simpa using hp2
        refine q (.f p.1 []) l' ⟨?_, trivial⟩ (by show 1 + 0 ≤ n + 1; omega) (fun _ => rfl) (fun z => by show ((1 + 0 : Nat) : Int) ≤ c + 3 * n; omega) hl'
        show (p.1, 0) ∈ sg
        rw [← hp2]
        exact hp1
  have inner : ∀ (l : List D), DrOk (c - 1) l → n ≠ 0 → 2 ≤ c → (sSeq (sAsg (eB oIx (eV 1) (eCall [0] gTake (aC (eV 0) (aC (eFn oLen (aC (eV 1) aN)) aN)))) (gTup 2 (gCons (gN 5) (gCons (gN 6) gNil)))) (sRet (eTup (aC (eV 5) (aC (eFn oTuple (aC (eLc [7] (iRg1 (aC (eV 6) aN)) (gN 7) tYs (eCall [0] gs (aC (eV 0) (aC (eV 1) (aC (eV 2) (aC (eB oSub (eV 3) (eC (.int 1))) aN)))))) aN)) aN))))) (endN [0] Q R) [some (.ml l), some (.p (.lst (sg.map prT))), some (.p (.lst (vs.map .str))), some (.p (.int n)), none, none, none, none] := fun l hdl hn hc => by
    have hsl := hsg.len
    have hpos := List.length_pos_of_mem hsg.a0
    refine ⟨l, c - 1, ((sg.map prT).length : Int), rfl, hdl, by rw [List.length_map]; omega, by rw [List.length_map]; omega, fun r l' r0 r1 hl' => ?_⟩
    obtain ⟨d, hd, hm⟩ := at_pos r0 r1
    show match atI (sg.map prT) r with | some d => _ | none => False
    rw [hd]
    obtain ⟨p, hp, rfl⟩ := List.mem_map.mp hm
    exact ⟨rfl, by show 5 < 8; decide, by show 6 < 8; decide, term_tail hs hl' hsg hvs hp hn hc q⟩
  have rest : ∀ l, DrOk (c - 1) l → (sSeq (sIf (tOr (tB (eB oEq (eV 3) (eC (.int 0)))) (tB (eB oLt (eB oIx (eV 0) (eC (.int 4))) (eC (.int 1))))) (sSeq (sAsg (eB oAdd (eFn oList (aC (eV 2) aN)) (eLc [5, 6] (iSeq (fun j => decide (j ∉ ([5, 6] : List Nat))) (eV 1)) (gTup 2 (gCons (gN 5) (gCons (gN 6) gNil))) (tB (eB oEq (eV 6) (eC (.int 0)))) (eTup (aC (eV 5) (aC (eTup aN) aN))))) (gN 4)) (sRet (eB oIx (eV 4) (eCall [0] gTake (aC (eV 0) (aC (eFn oLen (aC (eV 4) aN)) aN)))))) sNx) (sSeq (sAsg (eB oIx (eV 1) (eCall [0] gTake (aC (eV 0) (aC (eFn oLen (aC (eV 1) aN)) aN)))) (gTup 2 (gCons (gN 5) (gCons (gN 6) gNil)))) (sRet (eTup (aC (eV 5) (aC (eFn oTuple (aC (eLc [7] (iRg1 (aC (eV 6) aN)) (gN 7) tYs (eCall [0] gs (aC (eV 0) (aC (eV 1) (aC (eV 2) (aC (eB oSub (eV 3) (eC (.int 1))) aN)))))) aN)) aN)))))) (endN [0] Q R) [some (.ml l), some (.p (.lst (sg.map prT))), some (.p (.lst (vs.map .str))), some (.p (.int n)), none, none, none, none] := fun l hdl => by
    refine ⟨rfl, rfl, ifB (fun h => flat l hdl) fun h => ?_⟩
    have hn : n ≠ 0 := fun z => by
      subst z
      cases h
    have hdl' := hdl
    obtain ⟨ns, i, a, b, rfl, h0, hl⟩ := hdl'
    refine ifB (fun h2 => flat _ hdl) fun h2 => ?_
    have h2 : decide (c - 1 < 1) = false := h2
    rw [decide_eq_false_iff_not] at h2
    exact inner _ hdl hn (by omega)
  refine ifB (fun h => ?_) fun h => rest _ dl
  refine ⟨_, c - 1, 4, rfl, dl, by decide, by decide, fun r l' r0 r1 hl' => ⟨rfl, rfl, ifB (fun h2 => flat _ hl') fun h2 => rest _ hl'⟩⟩
theorem D__law_term {G : Pg} (T : Tk G) : ∀ (n k : Nat), Df G "_law_term" ["_law_c", "_law_sig", "_law_names_here", "_law_depth"] (k + 3 + n) [0] (gTerm n)
  | 0, k => ok__law_term T (D__law_take T k) (Df.none (k := k + 2) T.at__law_term) (gTerm.mono 0) (gTerm.len 0) (term_read fun m e => by omega)
  | n + 1, k => ok__law_term T ((D__law_take T k).le (by omega)) (D__law_term T n k) (gTerm.mono (n + 1)) (gTerm.len (n + 1)) (term_read fun m e ms Q R h => by
    cases e
    exact h)
def gTermN (N : Nat) : SpecD := fun ms Q R => ∃ n, n ≤ N ∧ gTerm n ms Q R
theorem D_term_N {G : Pg} (T : Tk G) (N k : Nat) : Df G "_law_term" ["_law_c", "_law_sig", "_law_names_here", "_law_depth"] (k + 3 + N) [0] (gTermN N) :=
  Df.any fun n hn => (D__law_term T n k).le (by omega)
end Sd
set_option maxHeartbeats 1000000
/-! L2: the law's places, at, put, names. -/
namespace Sd
open PySem PySem.Spec PyProof.Rows L2
variable [Tb]
theorem poL_snoc : ∀ (l : List Tr) (t : Tr) (k : Nat), poL k (l ++ [t]) = poL k l ++ t.poss.map ((k + l.length) :: ·)
  | [], t, k => by simp [poL]
  | a :: l, t, k => by
    show a.poss.map (k :: ·) ++ poL (k + 1) (l ++ [t]) = (a.poss.map (k :: ·) ++ poL (k + 1) l) ++ _
    rw [poL_snoc l t (k + 1), List.append_assoc]
    rw [show k + 1 + l.length = k + (a :: l).length by simp; omega]
theorem poss_as (t : Tr) : t.poss = [] :: poL 0 t.as := by cases t <;> rfl
def gPlaces (n : Nat) : SpecD := gTm (fun t => t.h ≤ n ∧ t.n ≤ 1000000 ∧ t.ok) fun t => .ml (t.poss.map posD)
theorem places_read {gs : SpecD} {n : Nat} (hs : ∀ m, n = m + 1 → ∀ ms Q R, gPlaces m ms Q R → gs ms Q R) : ∀ ms Q R, gPlaces n ms Q R → w__law_places gs (endN [] Q R) (startD 4 ms) := by
  rintro ms Q R ⟨t, rfl, ⟨hh, hn, hok⟩, q⟩
  dsimp only at q
  rw [poss_as] at q
  refine ⟨Nat.zero_le _, by show 1 ≤ sizeLine; decide, by show 1 < 4; decide, ?_⟩
  show if isD .tup t.d = true then _ else _
  rw [isD_tup]
  cases t with
  | v x => exact q
  | f s as =>
    obtain ⟨m, rfl⟩ : ∃ m, n = m + 1 := ⟨n - 1, by simp only [Tr.h] at hh; omega⟩
    have hh : 1 + hL as ≤ m + 1 := hh
    have hn : 1 + nL as ≤ 1000000 := hn
    have hal := nL_len as
    have hz : 1000000 < sizeLine := by decide
    refine ifB (fun _ => ?_) fun z => by cases z
    show (-(2 ^ 62) ≤ ((dL as).length : Int) ∧ ((dL as).length : Int) < 2 ^ 62 ∧ _)
    rw [dL_len]
    refine ⟨by omega, by omega, ?_⟩
    rw [show ((as.length : Int)).toNat = as.length by omega]
    refine for_r (fun i st => ∃ (x2 : Option M), st = [some (.p (Tr.f s as).d), some (.ml (([] :: poL 0 (as.take i)).map posD)), x2, none]) ⟨none, by simp [poL]; rfl⟩ ?_ ?_
    · rintro i st hi ⟨x2, rfl⟩
      obtain ⟨a, ha⟩ : ∃ a, as[i]? = some a := ⟨as[i]'hi, List.getElem?_eq_getElem hi⟩
      have et := take_snoc ha
      have hm := List.mem_of_getElem? ha
      have h1 := hL_mem hm
      have h2 := nL_mem hm
      have hlen : (poL 0 (as.take (i + 1))).length ≤ nL as := by
        have h3 := poss_len (.f s (as.take (i + 1)))
        simp only [Tr.poss, Tr.n, List.length_cons] at h3
        have h4 := nL_app (as.take (i + 1)) (as.drop (i + 1))
        rw [List.take_append_drop] at h4
        omega
      rw [et, poL_snoc] at hlen
      rw [et, poL_snoc]
      rw [List.length_take, Nat.min_eq_left (by omega), Nat.zero_add] at *
      rw [List.length_append, List.length_map] at hlen
      refine ⟨by show 2 < 4; decide, ?_⟩
      show match atI (dL as) (i : Int) with | some d => _ | none => False
      rw [at_dL (t := a) (Int.natCast_nonneg i) (by rw [Int.toNat_natCast]; exact ha)]
      refine hs m rfl _ _ _ ⟨a, rfl, ⟨by omega, by omega, okL_iff.mp hok.2 a hm⟩, ?_⟩
      refine lc_xm (xs := a.poss) (en := posD) (fun p => posD (i :: p)) rfl (by omega) (own_none rfl) (by show 3 < 4; decide) (fun p hp Q hq => ?_) ?_
      · have hb := poss_bound hp (okL_iff.mp hok.2 a hm)
        have : ∀ (k : Nat) (t : Tr), t.n ≤ k → t.h ≤ t.n := fun k => by
          induction k with
          | zero => intro t h; have := n_pos t; omega
          | succ k ih =>
            intro t h
            have h1 := nL_as t
            have h2 := hL_as t
            have : ∀ l : List Tr, nL l ≤ k → hL l ≤ nL l := fun l => by
              induction l with
              | nil => intro _; exact Nat.le_refl _
              | cons a l ih2 =>
                intro h
                simp only [nL] at h
                have := ih a (by omega)
                have := ih2 (by omega)
                simp only [nL, hL]
                omega
            have := this t.as (by omega)
            omega
        have := this _ a (Nat.le_refl _)
        refine ⟨by show 1 ≤ sizeLine; decide, ?_, hq⟩
        show 1 + ((iL p).map D.int).length ≤ sizeLine
        simp only [iL, List.length_map]
        omega
      · refine ⟨?_, by show 1 < 4; decide, some (.p (.int i)), ?_⟩
        · show ((([] : List Nat) :: poL 0 (as.take i)).map posD).length + (a.poss.map fun p => posD (i :: p)).length ≤ sizeLine
          rw [List.length_map, List.length_map, List.length_cons]
          omega
        · show [_, some (M.ml ((([] : List Nat) :: poL 0 (as.take i)).map posD ++ a.poss.map fun p => posD (i :: p))), _, _] = _
          rw [← List.cons_append, List.map_append, List.map_map]
          rfl
    · rintro st ⟨x2, rfl⟩
      rw [List.take_length]
      exact q
theorem D__law_places {G : Pg} (T : Tk G) : ∀ (n k : Nat), Df G "_law_places" ["_law_t"] (k + 1 + n) [] (gPlaces n)
  | 0, k => ok__law_places T (Df.none (k := k) T.at__law_places) (gTm.mono _ _) gTm.len (places_read fun m e => by omega)
  | n + 1, k => ok__law_places T (D__law_places T n k) (gTm.mono _ _) gTm.len (places_read fun m e ms Q R h => by
    cases e
    exact h)
def gLawAt : SpecD := fun ms Q _ => ∃ (t : Tr) (p : List Int), ms = [.p t.d, .p (posI p)] ∧ (∀ u, atT t p = some u → Q (.p u.d) []) ∧ (atT t p = none → Q (.p .non) [])
theorem gLawAt.mono : MonoG gLawAt := fun ms Q Q' R R' h h2 ⟨t, p, e, q, r⟩ => ⟨t, p, e, fun u eu => h _ _ (q u eu), fun z => h _ _ (r z)⟩
theorem gLawAt.len : ∀ ms Q R, gLawAt ms Q R → ms.length = 2 := fun ms Q R ⟨t, p, e, _⟩ => by rw [e]; rfl
theorem D__law_at {G : Pg} (T : Tk G) (k : Nat) : Df G "_law_at" ["_law_t", "_law_p"] (k + 1) [] gLawAt :=
  ok__law_at T gLawAt.mono gLawAt.len (by
    rintro ms Q R ⟨t, p, rfl, q, qn⟩
    refine for_x (xs := p) (en := .int) (fun i s => ∃ (u : Tr) (x2 : Option M), s = [some (.p u.d), some (.p (posI p)), x2] ∧ atT t (p.take i) = some u) rfl ⟨t, none, rfl, rfl⟩ ?_ ?_
    · rintro i j s ei ⟨u, x2, rfl, hu⟩
      have et := take_snoc ei
      refine ⟨by show 2 < 3; decide, ?_⟩
      have bad : arg u j = none → Q (.p .non) [] := fun h => by
        refine qn ?_
        rw [← List.take_append_drop (i + 1) p, et, List.append_assoc, atT_app, hu]
        show (arg u j).bind _ = none
        rw [h]
        rfl
      show if isD .str u.d = true then _ else _
      rw [isD_str]
      cases u with
      | v x =>
        refine ifB (fun _ => ?_) fun z => by cases z
        refine bad ?_
        unfold arg
        split
        · exact List.getElem?_eq_none (Nat.zero_le _)
        · rfl
      | f g as =>
        refine ifB (fun z => by cases z) fun _ => ?_
        refine ifB (fun h => ?_) fun h => ?_
        · have h : decide (j < 0) = true := h
          rw [decide_eq_true_eq] at h
          exact bad (by unfold arg; rw [if_neg (by omega)])
        · have h : decide (j < 0) = false := h
          rw [decide_eq_false_iff_not] at h
          have h0 : 0 ≤ j := by omega
          refine ifB (fun h2 => ?_) fun h2 => ?_
          · have h2 : decide (((dL as).length : Int) ≤ j) = true := h2
            rw [decide_eq_true_eq, dL_len] at h2
            refine bad ?_
            unfold arg
            rw [if_pos h0]
            exact List.getElem?_eq_none (by show as.length ≤ _; omega)
          · have h2 : decide (((dL as).length : Int) ≤ j) = false := h2
            rw [decide_eq_false_iff_not, dL_len] at h2
            obtain ⟨a, ha⟩ : ∃ a, as[j.toNat]? = some a := ⟨as[j.toNat]'(by omega), List.getElem?_eq_getElem (by omega)⟩
            show match atI (dL as) j with | some d => _ | none => False
            rw [at_dL h0 ha]
            refine ⟨by show 0 < 3; decide, a, some (.p (.int j)), rfl, ?_⟩
            rw [et, atT_app, hu]
            show (arg (.f g as) j).bind (fun a => some a) = some a
            unfold arg
            rw [if_pos h0]
            show (as[j.toNat]?).bind _ = _
            rw [ha]
            rfl
    · rintro s ⟨u, x2, rfl, hu⟩
      rw [List.take_length] at hu
      exact q u hu)
def gLawPut (n : Nat) : SpecD := fun ms Q _ => ∃ (t : Tr) (p : List Int) (s r : Tr), ms = [.p t.d, .p (posI p), .p s.d] ∧ p.length ≤ n ∧ t.n + s.n ≤ 1000000 ∧ putT t p s = some r ∧ Q (.p r.d) []
theorem gLawPut.mono (n : Nat) : MonoG (gLawPut n) := fun ms Q Q' R R' h h2 ⟨t, p, s, r, e, a, b, c, q⟩ => ⟨t, p, s, r, e, a, b, c, h _ _ q⟩
theorem gLawPut.len {n : Nat} : ∀ ms Q R, gLawPut n ms Q R → ms.length = 3 := fun ms Q R ⟨t, p, s, r, e, _⟩ => by rw [e]; rfl
theorem put_read {gs : SpecD} {n : Nat} (hs : ∀ m, n = m + 1 → ∀ ms Q R, gLawPut m ms Q R → gs ms Q R) : ∀ ms Q R, gLawPut n ms Q R → w__law_put gs (endN [] Q R) (startD 3 ms) := by
  rintro ms Q R ⟨t, p, s, r, rfl, hp, hn, hr, q⟩
  refine ⟨Nat.zero_le _, ?_⟩
  show shp (posI p) = true ∧ shp (.tup []) = true ∧ if eqD (posI p) (.tup []) = true then _ else _
  rw [eqD_pl (pl_posI p) rfl]
  refine ⟨(sp_posI p).shp (by decide), by decide +kernel, ?_⟩
  cases p with
  | nil =>
    rw [decide_eq_true (show posI [] = .tup [] from rfl)]
    cases hr
    exact q
  | cons j p =>
    rw [decide_eq_false (show posI (j :: p) ≠ .tup [] from fun z => by cases z)]
    obtain ⟨m, rfl⟩ : ∃ m, n = m + 1 := ⟨n - 1, by simp only [List.length_cons] at hp; omega⟩
    simp only [putT, Option.bind_eq_some_iff, Option.map_eq_some_iff] at hr
    obtain ⟨a, ha, r', hr', rfl⟩ := hr
    obtain ⟨h0, h1, h2⟩ := arg_lt ha
    cases t with
    | v x =>
      simp [Tr.as] at h1
      omega
    | f g as =>
      simp only [Tr.as] at h1 h2
      have hal := nL_len as
      have hn : (1 + nL as) + s.n ≤ 1000000 := hn
      have hz : 1000000 < sizeLine := by decide
      have han := (arg_h ha).2
      have han : a.n < 1 + nL as := han
      have ej : j = ((j.toNat : Nat) : Int) := by omega
      have c1 : cutD (dL as) none (some j) = dL (as.take j.toNat) := by
        rw [ej, cut_to _ _ (by rw [dL_len]; omega), dL_take, Int.toNat_natCast]
      have c2 : cutD (dL as) (some (j + 1)) none = dL (as.drop (j.toNat + 1)) := by
        rw [show j + 1 = ((j.toNat + 1 : Nat) : Int) by omega, cut_from _ _ (by rw [dL_len]; omega), dL_drop]
      have c4 : cutD ((j :: p).map D.int) (some 1) none = p.map D.int := by
        rw [show (1 : Int) = ((1 : Nat) : Int) by rfl, cut_from _ _ (by simp)]
        rfl
      refine ifB (fun z => by cases z) fun _ => ?_
      have h00 : atI ((j :: p).map D.int) 0 = some (.int j) := atI_nat (j := 0) rfl
      show match atI ((j :: p).map D.int) 0 with | some d => _ | none => False
      rw [h00]
      show match atI ((j :: p).map D.int) 0 with | some d => _ | none => False
      rw [h00]
      show match atI (dL as) j with | some d => _ | none => False
      rw [at_dL h0 h2]
      refine hs m rfl _ _ _ ⟨a, p, s, r', ?_, by simp only [List.length_cons] at hp; omega, by omega, hr', ?_⟩
      · show [M.p a.d, .p (.tup (cutD ((j :: p).map D.int) (some 1) none)), .p s.d] = _
        rw [c4]
        rfl
      · have c3 : dL (as.take j.toNat) ++ [r'.d] ++ dL (as.drop (j.toNat + 1)) = dL (as.set j.toNat r') := by
          rw [← dL_snoc, ← dL_app, set_cut h2]
        refine ⟨by show 1 ≤ sizeLine; decide, ?_, ?_⟩
        · show (cutD (dL as) none (some j)).length + 1 ≤ sizeLine
          have := cut_len' (dL as) none (some j)
          rw [dL_len] at this
          omega
        show match atI ((j :: p).map D.int) 0 with | some d => _ | none => False
        rw [h00]
        refine ⟨?_, by show 2 ≤ sizeLine; decide, ?_⟩
        · show (cutD (dL as) none (some j) ++ [r'.d]).length + (cutD (dL as) (some (j + 1)) none).length ≤ sizeLine
          rw [c1, c2, List.length_append, dL_len, dL_len, List.length_take, List.length_drop]
          simp only [List.length_cons, List.length_nil]
          omega
        · show Q (.p (.tup [.str g, .tup (cutD (dL as) none (some j) ++ [r'.d] ++ cutD (dL as) (some (j + 1)) none)])) []
          rw [c1, c2, c3]
          exact q
theorem D__law_put {G : Pg} (T : Tk G) : ∀ (n k : Nat), Df G "_law_put" ["_law_t", "_law_p", "_law_s"] (k + 1 + n) [] (gLawPut n)
  | 0, k => ok__law_put T (Df.none (k := k) T.at__law_put) (gLawPut.mono _) gLawPut.len (put_read fun m e => by omega)
  | n + 1, k => ok__law_put T (D__law_put T n k) (gLawPut.mono _) gLawPut.len (put_read fun m e ms Q R h => by
    cases e
    exact h)
def gNames (n : Nat) : SpecD := gTm (fun t => t.h ≤ n ∧ t.n ≤ 1000000 ∧ t.ok) fun t => .p (.tup (t.vars.map .str))
theorem strs_in {l : List Str} {x : Str} : ((l.map D.str).any fun z => eqD z (.str x)) = decide (x ∈ l) := by
  rw [any_pl (fun e he => by obtain ⟨y, _, rfl⟩ := List.mem_map.mp he; rfl) rfl]
  by_cases h : x ∈ l
  · rw [decide_eq_true h, decide_eq_true (List.mem_map.mpr ⟨x, h, rfl⟩)]
  · rw [decide_eq_false h, decide_eq_false fun z => by
      obtain ⟨y, hy, e⟩ := List.mem_map.mp z
      cases e
      exact h hy]
theorem sp_strs {n : Nat} {l : List Str} (h : ∀ x ∈ l, sgn x) : ∀ d ∈ l.map D.str, sp n d := fun d hd => by
  obtain ⟨x, hx, rfl⟩ := List.mem_map.mp hd
  exact sp_str (h x hx)
theorem D__law_names {G : Pg} (T : Tk G) (n k : Nat) : Df G "_law_names" ["_law_t"] (k + 2 + n) [] (gNames n) :=
  Df.le (j := k + 1 + n + 1) (ok__law_names T ((D__law_at T k).le (by omega)) (D__law_places T n k) (gTm.mono _ _) gTm.len (by
    rintro ms Q R ⟨t, rfl, ⟨hh, hn, hok⟩, q⟩
    dsimp only at q
    have hz : 1000000 < sizeLine := by decide
    refine ⟨Nat.zero_le _, by show 1 < 4; decide, t, rfl, ⟨hh, hn, hok⟩, ?_⟩
    refine for_x (xs := t.poss) (en := posD) (fun i s => ∃ (x2 x3 : Option M), s = [some (.p t.d), some (.ml ((ded ((t.parts.take i).filterMap nameV)).map .str)), x2, x3]) rfl ⟨none, none, rfl⟩ ?_ ?_
    · rintro i p s ei ⟨x2, x3, rfl⟩
      have hpa : (t.parts.map some)[i]? = some (atT t (iL p)) := by
        rw [← poss_at, List.getElem?_map, ei]
        rfl
      rw [List.getElem?_map, Option.map_eq_some_iff] at hpa
      obtain ⟨u, hu, ea⟩ := hpa
      have et := take_snoc hu
      have hui := get_lt hu
      rw [parts_len'] at hui
      have hd := ded_len ((t.parts.take i).filterMap nameV)
      have hf := List.length_filterMap_le nameV (t.parts.take i)
      rw [List.length_take, parts_len'] at hf
      refine ⟨by show 2 < 4; decide, t, iL p, rfl, fun u' eu => ?_, fun z => by rw [← ea] at z; cases z⟩
      rw [← ea] at eu
      cases eu
      refine ⟨by show 3 < 4; decide, ?_⟩
      show if isD .str u.d = true then _ else _
      rw [isD_str, et, List.filterMap_append]
      cases u with
      | f g as =>
        refine ifB (fun z => by cases z) fun _ => ⟨some (.p (posD p)), some (.p (Tr.f g as).d), ?_⟩
        show [_, some (M.ml _), some (M.p (posD p)), some (M.p (Tr.f g as).d)] = _
        rw [show [Tr.f g as].filterMap nameV = [] from rfl, List.append_nil]
      | v x =>
        refine ifB (fun _ => ?_) fun z => by cases z
        have sx : sgn x := part_ok hok _ (List.mem_of_getElem? hu)
        have sl : ∀ y ∈ ded ((t.parts.take i).filterMap nameV), sgn y := fun y hy => by
          rw [ded_mem, List.mem_filterMap] at hy
          obtain ⟨w, hw, e⟩ := hy
          cases w with
          | v z => cases e; exact part_ok hok _ (List.mem_of_mem_take hw)
          | f _ _ => cases e
        show shp (.str x) = true ∧ shp (.lst ((ded ((t.parts.take i).filterMap nameV)).map .str)) = true ∧ if (!(((ded ((t.parts.take i).filterMap nameV)).map D.str).any fun z => eqD z (.str x))) = true then _ else _
        rw [strs_in]
        refine ⟨(sp_str (n := 0) sx).shp (by decide), (sp_lst (n := 0) (sp_strs sl)).shp (by decide), ?_⟩
        have ed : ded ((t.parts.take i).filterMap nameV ++ [Tr.v x].filterMap nameV) = addN (ded ((t.parts.take i).filterMap nameV)) x := ded_app _ x
        rw [ed]
        unfold addN
        by_cases hx : x ∈ ded ((t.parts.take i).filterMap nameV)
        · rw [decide_eq_true hx, if_pos hx]
          exact ⟨some (.p (posD p)), some (.p (.str x)), rfl⟩
        · rw [decide_eq_false hx, if_neg hx]
          refine ⟨rfl, by show ((ded ((t.parts.take i).filterMap nameV)).map D.str).length < sizeLine; rw [List.length_map]; omega, some (.p (posD p)), some (.p (.str x)), ?_⟩
          rw [List.map_append]
          rfl
    · rintro s ⟨x2, x3, rfl⟩
      rw [List.take_of_length_le (by rw [poss_len, parts_len']; exact Nat.le_refl _)]
      exact q)) (by omega)
def gLawDepth (n : Nat) : SpecD := gTm (fun t => t.h ≤ n ∧ t.n ≤ 1000000) fun t => .p (.int t.h)
theorem intsD_map : ∀ l : List Int, intsD (l.map D.int) = some l
  | [] => rfl
  | i :: l => by
    show (intsD (l.map D.int)).map (i :: ·) = _
    rw [intsD_map l]
    rfl
end Sd
set_option maxHeartbeats 1000000
/-! L3: the law's apply, match. -/
namespace Sd
open PySem PySem.Spec PyProof.Rows L2
variable [Tb]
def gLawApply (n : Nat) : SpecD := fun ms Q _ => ∃ (s : Sb) (t : Tr), ms = [.p (.dic (sD s)), .p t.d] ∧ t.h ≤ n ∧ t.n ≤ 1000000 ∧ Q (.p (sub s t).d) []
theorem gLawApply.mono (n : Nat) : MonoG (gLawApply n) := fun ms Q Q' R R' h _ ⟨s, t, e, a, b, q⟩ => ⟨s, t, e, a, b, h _ _ q⟩
theorem gLawApply.len (n : Nat) : ∀ ms Q R, gLawApply n ms Q R → ms.length = 2 := fun ms Q R ⟨s, t, e, _⟩ => by rw [e]; rfl
theorem lawApply_read {gs : SpecD} {n : Nat} (hs : ∀ m, n = m + 1 → ∀ ms Q R, gLawApply m ms Q R → gs ms Q R) : ∀ ms Q R, gLawApply n ms Q R → w__law_apply gs (endN [] Q R) (startD 3 ms) := by
  rintro ms Q R ⟨s, t, rfl, hh, hn, q⟩
  have hz : 1000000 + 10 < sizeLine := by decide
  show if isD .str t.d = true then _ else _
  rw [isD_str]
  cases t with
  | v x =>
    refine ifB (fun _ => ?_) fun z => by cases z
    refine ⟨rfl, fit_sD s x, ?_⟩
    show match dget (sD s) (.str x) with | some d => _ | none => _
    rw [dget_sD]
    have q : Q (.p (shOf s x).d) [] := q
    unfold shOf at q
    cases e : sget s x with
    | none =>
      rw [e] at q
      exact q
    | some u =>
      rw [e] at q
      exact q
  | f g as =>
    refine ifB (fun z => by cases z) fun _ => ?_
    have hh : 1 + hL as ≤ n := hh
    have hn : 1 + nL as ≤ 1000000 := hn
    have hl := nL_len as
    refine lc_xm (xs := as) (en := Tr.d) (fun a => (sub s a).d) (dL_map _) (by omega) (own_none rfl) (by show 2 < 3; decide) (fun a ha Q hq => ?_) ?_
    · have h1 := hL_mem ha
      have h2 := nL_mem ha
      obtain ⟨m, rfl⟩ : ∃ m, n = m + 1 := ⟨n - 1, by omega⟩
      exact hs m rfl _ _ _ ⟨s, a, rfl, by omega, by omega, hq⟩
    · refine ⟨by show 2 ≤ sizeLine; decide, ?_⟩
      show Q (.p (.tup [.str g, .tup (as.map fun a => (sub s a).d)])) []
      have e : (as.map fun a => (sub s a).d) = dL (mpL (shOf s) as) := by rw [mpL_map, dL_map, List.map_map]; rfl
      rw [e]
      exact q
theorem D__law_apply {G : Pg} (T : Tk G) : ∀ (n k : Nat), Df G "_law_apply" ["_law_s", "_law_t"] (k + 1 + n) [] (gLawApply n)
  | 0, k => ok__law_apply T (Df.none (k := k) T.at__law_apply) (gLawApply.mono _) (gLawApply.len _) (lawApply_read fun m e => by omega)
  | n + 1, k => ok__law_apply T (D__law_apply T n k) (gLawApply.mono _) (gLawApply.len _) (lawApply_read fun m e ms Q R h => by
    cases e
    exact h)
theorem mBL_snoc : ∀ {as bs : List Tr} {a b : Tr} {s : Sb}, as.length = bs.length → mBL (as ++ [a]) (bs ++ [b]) s = ((mBL as bs s).1 && (mB a b (mBL as bs s).2).1, (mB a b (mBL as bs s).2).2)
  | [], [], a, b, s, _ => by simp [mBL]
  | [], _ :: _, _, _, _, h => by simp at h
  | _ :: _, [], _, _, _, h => by simp at h
  | x :: as, y :: bs, a, b, s, h => by
    have ih := mBL_snoc (as := as) (bs := bs) (a := a) (b := b) (s := (mB x y s).2) (by simpa using h)
    show ((mB x y s).1 && (mBL (as ++ [a]) (bs ++ [b]) (mB x y s).2).1, (mBL (as ++ [a]) (bs ++ [b]) (mB x y s).2).2) = (((mB x y s).1 && (mBL as bs (mB x y s).2).1) && (mB a b (mBL as bs (mB x y s).2).2).1, (mB a b (mBL as bs (mB x y s).2).2).2)
    rw [ih, Bool.and_assoc]
theorem bls_map : ∀ l : List Bool, blsD (l.map D.bl) = some l
  | [] => rfl
  | b :: l => by
    show (blsD (l.map D.bl)).map (b :: ·) = _
    rw [bls_map l]
    rfl
def gLawMatch (n : Nat) : SpecD := fun ms Q _ => ∃ (p t : Tr) (s : Sb), ms = [.p p.d, .p t.d, .md (sD s)] ∧ p.h ≤ n ∧ p.ok ∧ t.ok ∧ t.h ≤ 80 ∧ t.n ≤ 1000000 ∧ (∀ q ∈ s, q.2.ok ∧ q.2.h ≤ 80) ∧ s.length + p.n ≤ 1000000 ∧ Q (.p (.bl (mB p t s).1)) [.md (sD (mB p t s).2)]
theorem gLawMatch.mono (n : Nat) : MonoG (gLawMatch n) := fun ms Q Q' R R' h _ ⟨p, t, s, e, a, b, c, d, f, g, i, q⟩ => ⟨p, t, s, e, a, b, c, d, f, g, i, h _ _ q⟩
theorem gLawMatch.len (n : Nat) : ∀ ms Q R, gLawMatch n ms Q R → ms.length = 3 := fun ms Q R ⟨p, t, s, e, _⟩ => by rw [e]; rfl
theorem mB_fit {p t : Tr} {s : Sb} (ht : t.ok) (hh : t.h ≤ 80) (hs : ∀ q ∈ s, q.2.ok ∧ q.2.h ≤ 80) : ∀ q ∈ (mB p t s).2, q.2.ok ∧ q.2.h ≤ 80 := fun q hq => by
  rcases mB_mem q hq with h | h
  · exact hs q h
  · have := (part_h h).1
    exact ⟨part_ok ht _ h, by omega⟩
theorem mBL_fit {as bs : List Tr} {s : Sb} (ht : okL bs) (hh : hL bs ≤ 80) (hs : ∀ q ∈ s, q.2.ok ∧ q.2.h ≤ 80) : ∀ q ∈ (mBL as bs s).2, q.2.ok ∧ q.2.h ≤ 80 := fun q hq => by
  rcases mBL_mem q hq with h | ⟨b, hb, h⟩
  · exact hs q h
  · have := (part_h h).1
    have := hL_mem hb
    exact ⟨part_ok (okL_iff.mp ht b hb) _ h, by omega⟩
theorem lawMatch_read {gs : SpecD} {n : Nat} (hs : ∀ m, n = m + 1 → ∀ ms Q R, gLawMatch m ms Q R → gs ms Q R) : ∀ ms Q R, gLawMatch n ms Q R → w__law_match gs (endN [2] Q R) (startD 4 ms) := by
  rintro ms Q R ⟨p, t, s, rfl, hh, hp, ht, hth, htn, hss, hl, q⟩
  have hz : 1000000 + 10 < sizeLine := by decide
  show if isD .str p.d = true then _ else _
  rw [isD_str]
  cases p with
  | v x =>
    refine ifB (fun _ => ?_) fun z => by cases z
    have hl : s.length + 1 ≤ 1000000 := hl
    refine ⟨fit_sD s x, ?_⟩
    show if (dget (sD s) (.str x)).isSome = true then _ else _
    rw [dget_sD, Option.isSome_map]
    cases e : sget s x with
    | some u =>
      rw [if_pos (show (some u).isSome = true from rfl)]
      have em : mB (.v x) t s = (decide (u = t), s) := by unfold mB; rw [e]
      rw [em] at q
      obtain ⟨hu, huh⟩ := hss _ (sget_mem e)
      refine ⟨fit_sD s x, ?_⟩
      show match dget (sD s) (.str x) with | some d => _ | none => False
      rw [dget_sD, e]
      show shp u.d = true ∧ shp t.d = true ∧ Q (.p (.bl (eqD u.d t.d))) [.md (sD s)]
      rw [eqD_tm]
      exact ⟨shp_tm hu huh, shp_tm ht hth, q⟩
    | none =>
      rw [if_neg (by simp)]
      have em : mB (.v x) t s = (true, s ++ [(x, t)]) := by unfold mB; rw [e]
      rw [em] at q
      refine ⟨fit_sD s x, by show (sD s).length < sizeLine; rw [sD_len]; omega, ?_⟩
      show Q (.p (.bl true)) [.md (dput (sD s) (.str x) t.d)]
      rw [dput_sD, sput_new e]
      exact q
  | f g as =>
    refine ifB (fun z => by cases z) fun _ => ?_
    show if isD .str t.d = true then _ else _
    rw [isD_str]
    cases t with
    | v y =>
      refine ifB (fun _ => ?_) fun z => by cases z
      exact q
    | f h bs =>
      refine ifB (fun z => by cases z) fun _ => ?_
      have em : mB (.f g as) (.f h bs) s = if g = h ∧ as.length = bs.length then mBL as bs s else (false, s) := rfl
      show shp (.str h) = true ∧ shp (.str g) = true ∧ if (!eqD (.str h) (.str g)) = true then _ else _
      refine ⟨shp_str ht.1, shp_str hp.1, ?_⟩
      rw [eqD_str]
      by_cases e : h = g
      · rw [decide_eq_true e]
        subst e
        refine ifB (fun z => by cases z) fun _ => ?_
        show shp (.int ((dL bs).length : Nat)) = true ∧ shp (.int ((dL as).length : Nat)) = true ∧ if (!eqD (.int ((dL bs).length : Nat)) (.int ((dL as).length : Nat))) = true then _ else _
        refine ⟨sp_int.shp (Nat.zero_le _), sp_int.shp (Nat.zero_le _), ?_⟩
        rw [eqD_nat, dL_len, dL_len]
        by_cases e2 : bs.length = as.length
        · rw [decide_eq_true e2]
          refine ifB (fun z => by cases z) fun _ => ?_
          rw [show mB (.f h as) (.f h bs) s = mBL as bs s by rw [em, if_pos ⟨rfl, e2.symm⟩]] at q
          have hh : 1 + hL as ≤ n := hh
          have hth : 1 + hL bs ≤ 80 := hth
          have htn : 1 + nL bs ≤ 1000000 := htn
          have hl : s.length + (1 + nL as) ≤ 1000000 := hl
          have hbl := nL_len bs
          refine ⟨by show -(2 ^ 62) ≤ ((dL bs).length : Int); omega, by show ((dL bs).length : Int) < 2 ^ 62; rw [dL_len]; omega, ?_⟩
          rw [gRng_fix]
          have hlen : ((List.range ((dL bs).length : Int).toNat).map fun i : Nat => D.int (0 + (i : Int) * 1)).length = bs.length := by simp [dL_len]
          refine lc_st (fun i acc st => ∃ l : List Bool, st = [some (.p (Tr.f h as).d), some (.p (Tr.f h bs).d), some (.md (sD (mBL (as.take i) (bs.take i) s).2)), none] ∧ acc = l.map D.bl ∧ l.all id = (mBL (as.take i) (bs.take i) s).1 ∧ l.length = i) (own_none rfl) ⟨[], by simp [mBL]; rfl, rfl, by simp [mBL], rfl⟩ ?_ ?_ ?_
          · rintro i acc st ⟨l, rfl, _⟩
            rfl
          · rintro i d acc st e3 ⟨l, rfl, rfl, hal, hll⟩
            have hi := get_lt e3
            rw [hlen] at hi
            have ed : d = .int (i : Int) := by
              rw [List.getElem?_map, List.getElem?_range (by rw [Int.toNat_natCast, dL_len]; exact hi)] at e3
              have e4 : D.int (0 + (i : Int) * 1) = d := Option.some.inj e3
              rw [← e4, Int.zero_add, Int.mul_one]
            subst ed
            obtain ⟨a, ha⟩ : ∃ a, as[i]? = some a := ⟨as[i]'(by omega), List.getElem?_eq_getElem (by omega)⟩
            obtain ⟨b, hb⟩ : ∃ b, bs[i]? = some b := ⟨bs[i]'hi, List.getElem?_eq_getElem hi⟩
            have ma := List.mem_of_getElem? ha
            have mb := List.mem_of_getElem? hb
            have ea := take_snoc ha
            have eb := take_snoc hb
            have el : (as.take i).length = (bs.take i).length := by rw [List.length_take, List.length_take]; omega
            have hsn := mBL_snoc (a := a) (b := b) (s := s) el
            rw [← ea, ← eb] at hsn
            have na : nL (as.take i) + a.n ≤ nL as := by
              have h4 := nL_app (as.take (i + 1)) (as.drop (i + 1))
              rw [List.take_append_drop, ea, nL_app] at h4
              simp only [nL] at h4
              omega
            have hml := mBL_len (as := as.take i) (bs := bs.take i) (s := s)
            have h1 := hL_mem ma
            have h2 := hL_mem mb
            have h3 := nL_mem mb
            obtain ⟨m, rfl⟩ : ∃ m, n = m + 1 := ⟨n - 1, by omega⟩
            show match atI (dL as) (i : Int) with | some d => _ | none => False
            rw [at_dL (t := a) (Int.natCast_nonneg i) (by rw [Int.toNat_natCast]; exact ha)]
            show match atI (dL bs) (i : Int) with | some d => _ | none => False
            rw [at_dL (t := b) (Int.natCast_nonneg i) (by rw [Int.toNat_natCast]; exact hb)]
            have ob : ∀ q ∈ (mBL (as.take i) (bs.take i) s).2, q.2.ok ∧ q.2.h ≤ 80 := fun q hq => by
              rcases mBL_mem q hq with z | ⟨b', hb', z⟩
              · exact hss q z
              · have mb' := List.mem_of_mem_take hb'
                have := (part_h z).1
                have := hL_mem mb'
                exact ⟨part_ok (okL_iff.mp ht.2 b' mb') _ z, by omega⟩
            refine hs m rfl _ _ _ ⟨a, b, _, rfl, by omega, okL_iff.mp hp.2 a ma, okL_iff.mp ht.2 b mb, by omega, by omega, ob, by omega, ?_⟩
            refine ⟨by show (l.map D.bl).length < sizeLine; rw [List.length_map]; omega, l ++ [(mB a b (mBL (as.take i) (bs.take i) s).2).1], ?_, by rw [List.map_append]; rfl, ?_, by simp [hll]⟩
            · rw [hsn]
              rfl
            · rw [hsn, List.all_append, hal]
              simp
          · rintro acc st ⟨l, rfl, rfl, hal, hll⟩
            rw [hlen] at hal hll ⊢
            rw [List.take_of_length_le (by omega), List.take_of_length_le (Nat.le_refl _)] at hal ⊢
            show match (some (l.map D.bl)).bind blsD with | some bs => _ | none => False
            rw [Option.bind_some, bls_map]
            show Q (.p (.bl (l.all id))) _
            rw [hal]
            exact q
        · rw [decide_eq_false e2]
          refine ifB (fun _ => ?_) fun z => by cases z
          rw [show mB (.f h as) (.f h bs) s = (false, s) by rw [em, if_neg (fun z => e2 z.2.symm)]] at q
          exact q
      · rw [decide_eq_false e]
        refine ifB (fun _ => ?_) fun z => by cases z
        rw [show mB (.f g as) (.f h bs) s = (false, s) by rw [em, if_neg (fun z => e z.1.symm)]] at q
        exact q
theorem D__law_match {G : Pg} (T : Tk G) : ∀ (n k : Nat), Df G "_law_match" ["_law_pattern", "_law_t", "_law_s"] (k + 1 + n) [2] (gLawMatch n)
  | 0, k => ok__law_match T (Df.none (k := k) T.at__law_match) (gLawMatch.mono _) (gLawMatch.len _) (lawMatch_read fun m e => by omega)
  | n + 1, k => ok__law_match T (D__law_match T n k) (gLawMatch.mono _) (gLawMatch.len _) (lawMatch_read fun m e ms Q R h => by
    cases e
    exact h)
end Sd
set_option maxHeartbeats 1000000
/-! L4: rules and systems as they are drawn; the law's order and first step. -/
namespace Sd
open PySem PySem.Spec PyProof.Rows L2
variable [Tb]
theorem sgns {l : List Str} (h : (l.all fun x => (PyData.str x).canLay0) = true) : ∀ x ∈ l, sgn x := fun x hx => List.all_eq_true.mp h x hx
mutual
theorem Tw_vin {sg : List (Str × Nat)} {vs : List Str} : ∀ {t : Tr}, Tw sg vs t → ∀ x, vin x t → x ∈ vs
  | .v y, h, x, hx => by
    rw [vin_v.mp hx]
    exact h
  | .f s as, h, x, hx => TwL_vin h.2 x (vin_f.mp hx)
theorem TwL_vin {sg : List (Str × Nat)} {vs : List Str} : ∀ {l : List Tr}, TwL sg vs l → ∀ x, (∃ t ∈ l, vin x t) → x ∈ vs
  | [], _, x, e => by
    obtain ⟨_, h, _⟩ := e
    cases h
  | a :: l, h, x, e => by
    by_cases e1 : vin x a
    · exact Tw_vin h.1 x e1
    · refine TwL_vin h.2 x ?_
      obtain ⟨t, ht, hx⟩ := e
      rcases List.mem_cons.mp ht with z | z
      · rw [z] at hx
        exact absurd hx e1
      · exact ⟨t, z, hx⟩
end
def VarOk (ru : Rl) : Prop := ∀ x, vin x ru.r → vin x ru.l
def gRule : SpecD := fun ms Q _ => ∃ (l : List D) (sg : List (Str × Nat)) (vs : List Str) (n : Nat), ms = [.ml l, .p (.lst (sg.map prT)), .p (.lst (vs.map .str)), .p (.int ((n : Nat) : Int))] ∧ DrOk 7 l ∧ SgW sg ∧ vs.length ≤ 10 ∧ (∀ x ∈ vs, sgn x) ∧ 1 ≤ n ∧ n ≤ 3 ∧
  ∀ ru l' c', RlOk ru → VarOk ru → DrOk c' l' → c' ≤ 7 → Q (.p ru.d) [.ml l']
theorem gRule.mono : MonoG gRule := fun ms Q Q' R R' h _ ⟨l, sg, vs, n, e, a, b, c, d, f, g, q⟩ => ⟨l, sg, vs, n, e, a, b, c, d, f, g, fun ru l' c' h1 h2 h3 h4 => h _ _ (q ru l' c' h1 h2 h3 h4)⟩
theorem gRule.len : ∀ ms Q R, gRule ms Q R → ms.length = 4 := fun ms Q R ⟨l, sg, vs, n, e, _⟩ => by rw [e]; rfl
theorem D__law_rule {G : Pg} (T : Tk G) (k : Nat) : Df G "_law_rule" ["_law_c", "_law_sig", "_law_names_here", "_law_depth"] (k + 9) [0] gRule :=
  ok__law_rule T ((D__law_names T 6 k).le (by omega)) ((D__law_take T k).le (by omega)) ((D_term_N T 4 k).le (by omega)) gRule.mono gRule.len (by
    rintro ms Q R ⟨l, sg, vs, n, rfl, hl, hsg, hvs, hvo, h1, h3, q⟩
    have hz : 1000 < sizeLine := by decide
    have tail : ∀ (left : Tr) (l1 : List D) (c1 : Int), DrOk c1 l1 → left.ok → left.isV = false → left.n ≤ 16 → left.h ≤ 5 → (sSeq (sAsg (eC (.int 7)) (gSb oSt (eV 0) (eC (.int 4)))) (sSeq (sAsg (eFn oList (aC (eCall [] (gNames 6) (aC (eV 4) aN)) aN)) (gN 5)) (sRet (eTup (aC (eV 4) (aC (eCall [0] (gTermN 4) (aC (eV 0) (aC (eV 1) (aC (eFz (eV 5)) (aC (eB oAdd (eB oSub (eV 3) (eC (.int 1))) (eCall [0] gTake (aC (eV 0) (aC (eC (.int 2)) aN)))) aN))))) aN)))))) (endN [0] Q R) [some (.ml l1), some (.p (.lst (sg.map prT))), some (.p (.lst (vs.map .str))), some (.p (.int (n : Nat))), some (.p left.d), none] := fun left l1 c1 hl1 okl hv hn hh => by
      obtain ⟨l2, hl2, es, el⟩ := hl1.set (e := 7)
      suffices mid : (sSeq (sAsg (eFn oList (aC (eCall [] (gNames 6) (aC (eV 4) aN)) aN)) (gN 5)) (sRet (eTup (aC (eV 4) (aC (eCall [0] (gTermN 4) (aC (eV 0) (aC (eV 1) (aC (eFz (eV 5)) (aC (eB oAdd (eB oSub (eV 3) (eC (.int 1))) (eCall [0] gTake (aC (eV 0) (aC (eC (.int 2)) aN)))) aN))))) aN))))) (endN [0] Q R) [some (.ml l2), some (.p (.lst (sg.map prT))), some (.p (.lst (vs.map .str))), some (.p (.int (n : Nat))), some (.p left.d), none] by
        obtain ⟨ns', i, a, b, rfl, h0, hl9⟩ := hl1
        subst es
        exact mid
      refine ⟨left, rfl, ⟨by omega, by omega, okl⟩, by show 5 < 6; decide, l2, 7, 2, rfl, hl2, by decide, by decide, fun r l3 r0 r1 hl3 => ?_⟩
      have hvl := vars_le left
      have er : (n : Int) - 1 + r = ((n - 1 + r.toNat : Nat) : Int) := by omega
      refine ⟨n - 1 + r.toNat, by omega, l3, 7, sg, left.vars, ?_, hl3, hsg, by omega, fun u l4 hu huh _ h4 hl4 => ⟨by show 2 ≤ sizeLine; decide, ?_⟩⟩
      · show [M.ml l3, .p (.lst (sg.map prT)), .p (.lst (left.vars.map .str)), .p (.int ((n : Int) - 1 + r))] = _
        rw [er]
      have h4 := h4 (by decide)
      have oku := Tw.ok (fun p hp => (hsg.ar p hp).2) (fun x hx => vars_ok okl hx) hu
      exact q ⟨left, u⟩ l4 _ ⟨okl, oku, hv, by dsimp only; omega, by dsimp only; omega, by dsimp only; omega, by dsimp only; omega⟩ (fun x hx => vars_vin.mp (Tw_vin hu x hx)) hl4 (by have := n_pos u; omega)
    refine ⟨n, by omega, l, 7, sg, vs, rfl, hl, hsg, by omega, fun t l1 ht hth _ h4 hl1 => ⟨by show 4 < 6; decide, ?_⟩⟩
    have h4 := h4 (by decide)
    have okt := Tw.ok (fun p hp => (hsg.ar p hp).2) hvo ht
    show if isD .str t.d = true then _ else _
    rw [isD_str]
    cases t with
    | v x =>
      refine ifB (fun _ => ?_) fun z => by cases z
      refine ⟨by show 1 ≤ sizeLine; decide, by show 2 ≤ sizeLine; decide, by show 4 < 6; decide, ?_⟩
      have okx : sgn x := okt
      exact tail (.f "f" [.v x]) l1 _ hl1 ⟨by unfold sgn; decide +kernel, okx, trivial⟩ rfl (by show 1 + (1 + 0) ≤ 16; decide) (by show 1 + max 1 0 ≤ 5; decide)
    | f g as =>
      refine ifB (fun z => by cases z) fun _ => ?_
      exact tail (.f g as) l1 _ hl1 okt rfl (by omega) (by omega))
def nmS : List (List Str) := [["x", "y", "z", "w", "v"], ["x", "x1", "x12", "x2", "zero"], ["u1", "u0", "u", "u2", "y"], ["y", "x2", "x", "value", "z9"]]
theorem nmS_ok : ∀ vs ∈ nmS, vs.length = 5 ∧ ∀ x ∈ vs, sgn x := fun vs h => by
  have := List.all_eq_true.mp (show (nmS.all fun vs => decide (vs.length = 5) && vs.all fun x => (PyData.str x).canLay0) = true by decide +kernel) vs h
  rw [Bool.and_eq_true, decide_eq_true_eq] at this
  exact ⟨this.1, sgns this.2⟩
def gSystem (m : Nat) : SpecD := fun ms Q _ => ∃ (l : List D) (c : Int) (sg : List (Str × Nat)), ms = [.ml l, .p (.lst (sg.map prT)), .p (.int ((m : Nat) : Int))] ∧ DrOk c l ∧ c ≤ 14 ∧ SgW sg ∧ ∀ s l' c', SysOk s → s.length ≤ m → (∀ ru ∈ s, VarOk ru) → DrOk c' l' → c' ≤ 14 → Q (.p (sysD s)) [.ml l']
theorem gSystem.mono (m : Nat) : MonoG (gSystem m) := fun ms Q Q' R R' h _ ⟨l, c, sg, e, a, a2, b, q⟩ => ⟨l, c, sg, e, a, a2, b, fun s l' c' h1 h2 h3 h4 h5 => h _ _ (q s l' c' h1 h2 h3 h4 h5)⟩
theorem gSystem.len (m : Nat) : ∀ ms Q R, gSystem m ms Q R → ms.length = 3 := fun ms Q R ⟨l, c, sg, e, _⟩ => by rw [e]; rfl
theorem D__law_system {G : Pg} (T : Tk G) (m : Nat) (hm : m ≤ 5) (k : Nat) : Df G "_law_system" ["_law_c", "_law_sig", "_law_most"] (k + 10) [0] (gSystem m) :=
  ok__law_system T (D__law_rule T k) ((D__law_take T k).le (by omega)) (gSystem.mono m) (gSystem.len m) (by
    rintro ms Q R ⟨l, c, sg, rfl, hl, hc14, hsg, q⟩
    have hz : 1000 < sizeLine := by decide
    refine ⟨Nat.zero_le _, by show 3 < 6; decide, l, c, (m : Int) + 1, rfl, hl, by omega, by omega, fun r l1 r0 r1 hl1 => ⟨by omega, by omega, ?_⟩⟩
    refine for_r (n := r.toNat) (fun i st => ∃ (l : List D) (c : Int) (s : List Rl) (x4 x5 : Option M), st = [some (.ml l), some (.p (.lst (sg.map prT))), some (.p (.int (m : Nat))), some (.ml (s.map Rl.d)), x4, x5] ∧ DrOk c l ∧ c ≤ 14 ∧ (∀ ru ∈ s, RlOk ru ∧ VarOk ru) ∧ s.length = i) ⟨l1, c, [], none, none, rfl, hl1, hc14, (fun ru h => by cases h), rfl⟩ ?_ ?_
    · rintro i st hi ⟨l, c, s, x4, x5, rfl, hl, hc, hs, hsl⟩
      obtain ⟨l2, hl2, es, el⟩ := hl.set (e := 7)
      refine ⟨by show 4 < 6; decide, ?_⟩
      suffices mid : ∀ N : WN, (∀ l' c' ru x5, DrOk c' l' → c' ≤ 14 → RlOk ru → VarOk ru → N.nx [some (.ml l'), some (.p (.lst (sg.map prT))), some (.p (.int (m : Nat))), some (.ml ((s ++ [ru]).map Rl.d)), some (.p (.int i)), x5]) → (sSeq (sAsg (eB oIx (eLst (aC (eFz (eLst (aC (eC (.str "x")) (aC (eC (.str "y")) (aC (eC (.str "z")) (aC (eC (.str "w")) (aC (eC (.str "v")) aN))))))) (aC (eFz (eLst (aC (eC (.str "x")) (aC (eC (.str "x1")) (aC (eC (.str "x12")) (aC (eC (.str "x2")) (aC (eC (.str "zero")) aN))))))) (aC (eFz (eLst (aC (eC (.str "u1")) (aC (eC (.str "u0")) (aC (eC (.str "u")) (aC (eC (.str "u2")) (aC (eC (.str "y")) aN))))))) (aC (eFz (eLst (aC (eC (.str "y")) (aC (eC (.str "x2")) (aC (eC (.str "x")) (aC (eC (.str "value")) (aC (eC (.str "z9")) aN))))))) aN))))) (eCall [0] gTake (aC (eV 0) (aC (eC (.int 4)) aN)))) (gN 5)) (sExp (eMt .lst oApp (eV 3) (aC (eCall [0] gRule (aC (eV 0) (aC (eV 1) (aC (eFz (eSl (eV 5) pN (pS (eB oAdd (eC (.int 1)) (eB oIx (eLst (aC (eCall [0] gTake (aC (eV 0) (aC (eC (.int 3)) aN))) (aC (eCall [0] gTake (aC (eV 0) (aC (eC (.int 5)) aN))) aN))) (eCall [0] gTake (aC (eV 0) (aC (eC (.int 2)) aN)))))))) (aC (eB oAdd (eC (.int 1)) (eCall [0] gTake (aC (eV 0) (aC (eC (.int 3)) aN)))) aN))))) aN)))) N [some (.ml l2), some (.p (.lst (sg.map prT))), some (.p (.int (m : Nat))), some (.ml (s.map Rl.d)), some (.p (.int i)), x5] by
        obtain ⟨ns', i', a, b, rfl, h0, hl9⟩ := hl
        subst es
        refine mid _ fun l' c' ru x5 h1 h14 h2 h3 => ⟨l', c', s ++ [ru], _, x5, rfl, h1, h14, fun w hw => ?_, by simp [hsl]⟩
        rcases List.mem_append.mp hw with hw | hw
        · exact hs w hw
        · rw [List.mem_singleton.mp hw]
          exact ⟨h2, h3⟩
      intro N hN
      refine ⟨by show 5 ≤ sizeLine; decide, by show 5 ≤ sizeLine; decide, by show 5 ≤ sizeLine; decide, by show 5 ≤ sizeLine; decide, by show 4 ≤ sizeLine; decide, l2, 7, 4, rfl, hl2, by decide, by decide, fun r3 l3 h0 h1 hl3 => ?_⟩
      obtain ⟨d, hd, hmem⟩ := at_pos (l := nmS.map fun vs => D.lst (vs.map D.str)) h0 h1
      show match atI (nmS.map fun vs => D.lst (vs.map D.str)) r3 with | some d => _ | none => False
      rw [hd]
      obtain ⟨vs, hvs, rfl⟩ := List.mem_map.mp hmem
      obtain ⟨hv5, hvo⟩ := nmS_ok vs hvs
      refine ⟨by show 5 < 6; decide, rfl, l3, 7, 3, rfl, hl3, by decide, by decide, fun r1' l4 _ _ hl4 => ⟨l4, 7, 5, rfl, hl4, by decide, by decide, fun r2' l5 _ _ hl5 => ⟨by show 2 ≤ sizeLine; decide, l5, 7, 2, rfl, hl5, by decide, by decide, fun r3' l6 g0 g1 hl6 => ?_⟩⟩⟩
      obtain ⟨v, hv⟩ := at_int (ns := [r1', r2']) g0 g1
      show match atI [D.int r1', .int r2'] r3' with | some d => _ | none => False
      rw [show atI [D.int r1', .int r2'] r3' = some (.int v) from hv]
      have ev : cutD (vs.map D.str) none (some (1 + v)) = (cutD vs none (some (1 + v))).map D.str := cut_map' D.str vs none (some (1 + v))
      have lv := cut_len' vs none (some (1 + v))
      refine ⟨l6, 7, 3, rfl, hl6, by decide, by decide, fun r4 l7 k0 k1 hl7 => ?_⟩
      have er : (1 : Int) + r4 = ((1 + r4.toNat : Nat) : Int) := by omega
      refine ⟨l7, sg, cutD vs none (some (1 + v)), 1 + r4.toNat, ?_, hl7, hsg, by omega, fun x hx => hvo x (List.mem_of_mem_drop (List.mem_of_mem_take hx)), by omega, by omega, fun ru l8 c8 h1 h2 h3 h9 => ⟨?_, ?_⟩⟩
      · show [M.ml l7, .p (.lst (sg.map prT)), .p (.lst (cutD (vs.map D.str) none (some (1 + v)))), .p (.int (1 + r4))] = _
        rw [ev, er]
      · show (s.map Rl.d).length < sizeLine
        rw [List.length_map]
        omega
      · have := hN l8 c8 ru (some (.p (.lst (vs.map D.str)))) h3 (by omega) h1 h2
        rw [List.map_append] at this
        exact this
    · rintro st ⟨l, c, s, x4, x5, rfl, hl, hc, hs, hsl⟩
      exact q s l c ⟨by omega, fun ru h => (hs ru h).1⟩ (by omega) (fun ru h => (hs ru h).2) hl hc)
def gOrder (n : Nat) : SpecD := gTm (fun t => t.h ≤ n ∧ t.n ≤ 1000000 ∧ t.h ≤ 1000000) fun t => .ml ((ordT t).map posD)
theorem ordL_take {as : List Tr} {i : Nat} {a : Tr} (h : as[i]? = some a) : ordL 0 (as.take (i + 1)) = ordL 0 (as.take i) ++ (ordT a).map (i :: ·) := by
  rw [take_snoc h, ordL_snoc, List.length_take, Nat.min_eq_left (by have := (List.getElem?_eq_some_iff.mp h).1; omega), Nat.zero_add]
mutual
theorem ord_bound : ∀ {t : Tr} {p : List Nat}, p ∈ ordT t → p.length < t.h
  | .v x, p, h => by
    rw [List.mem_singleton.mp h]
    exact Nat.lt_succ_self 0
  | .f s as, p, h => by
    have h : p ∈ ordL 0 as ++ [[]] := h
    show p.length < 1 + hL as
    rcases List.mem_append.mp h with h | h
    · have := ordL_bound h
      omega
    · rw [List.mem_singleton.mp h]
      show 0 < _
      omega
theorem ordL_bound : ∀ {l : List Tr} {k : Nat} {p : List Nat}, p ∈ ordL k l → p.length ≤ hL l
  | [], _, _, h => by cases h
  | t :: l, k, p, h => by
    have h : p ∈ (ordT t).map (k :: ·) ++ ordL (k + 1) l := h
    show p.length ≤ max t.h (hL l)
    rcases List.mem_append.mp h with h | h
    · obtain ⟨q, hq, rfl⟩ := List.mem_map.mp h
      have := ord_bound hq
      simp only [List.length_cons]
      omega
    · have := ordL_bound h
      omega
end
end Sd
set_option maxHeartbeats 1000000
/-! L6: the law's steps, derivations. -/
namespace Sd
open PySem PySem.Spec PyProof.Rows L2
variable [Tb]
def gLawSteps : SpecD := fun ms Q _ => ∃ (s : List Rl) (t : Tr), ms = [.p (sysD s), .p t.d] ∧ SysOk s ∧ t.ok ∧ t.n ≤ 1000 ∧ t.h ≤ 60 ∧ Q (.ml ((succR s t).map scD)) []
theorem gLawSteps.mono : MonoG gLawSteps := fun ms Q Q' R R' h h2 ⟨s, t, e, b, c, d, f, q1⟩ => ⟨s, t, e, b, c, d, f, h _ _ q1⟩
theorem gLawSteps.len : ∀ ms Q R, gLawSteps ms Q R → ms.length = 2 := fun ms Q R ⟨s, t, e, _⟩ => by rw [e]; rfl
theorem D__law_steps {G : Pg} (T : Tk G) (k : Nat) : Df G "_law_steps" ["_law_system_here", "_law_t"] (k + 110) [] gLawSteps :=
  ok__law_steps T (k := k + 109) ((D__law_apply T 6 0).le (by omega)) ((D__law_at T 0).le (by omega)) ((D__law_match T 6 0).le (by omega)) ((D__law_places T 100 0).le (by omega)) ((D__law_put T 100 0).le (by omega)) gLawSteps.mono gLawSteps.len (by
    rintro ms Q R ⟨s, t, rfl, hs, ht, htn, hth, q⟩
    have hz : 20000 < sizeLine := by decide
    have hsl := hs.1
    refine ⟨Nat.zero_le _, by show 2 < 7; decide, t, rfl, ⟨by omega, by omega, ht⟩, ?_⟩
    refine for_x (xs := t.poss) (en := posD) (fun i st => ∃ (x3 x4 x5 x6 : Option M), st = [some (.p (sysD s)), some (.p t.d), some (.ml (((t.poss.take i).flatMap (succK s t)).map scD)), x3, x4, x5, x6]) rfl ⟨none, none, none, none, rfl⟩ ?_ ?_
    · rintro i p st ei ⟨x3, x4, x5, x6, rfl⟩
      have mp := List.mem_of_getElem? ei
      obtain ⟨u, hu⟩ : ∃ u, atT t (iL p) = some u := by
        have hm : atT t (iL p) ∈ t.parts.map some := by
          rw [← poss_at]
          exact List.mem_map.mpr ⟨p, mp, rfl⟩
        obtain ⟨u, _, e⟩ := List.mem_map.mp hm
        exact ⟨u, e.symm⟩
      have pb := poss_bound mp ht
      have il : (iL p).length = p.length := by simp [iL]
      obtain ⟨a1, a2, a3⟩ := atT_ok ht hu
      have et := take_snoc ei
      have el := flat_len (s := s) (t := t) (t.poss.take i)
      have hti : (t.poss.take i).length ≤ t.n := by rw [List.length_take, poss_len]; exact Nat.min_le_right _ _
      have hm2 : (t.poss.take i).length * s.length ≤ 1000 * 10 := Nat.mul_le_mul (by omega) hsl
      refine ⟨by show 3 < 7; decide, t, iL p, rfl, fun u' hu' => ⟨by show 4 < 7; decide, ?_⟩, fun z => by rw [hu] at z; cases z⟩
      rw [hu] at hu'
      cases hu'
      show (-(2 ^ 62) ≤ (((s.map Rl.d).length : Nat) : Int) ∧ (((s.map Rl.d).length : Nat) : Int) < 2 ^ 62 ∧ _)
      rw [List.length_map]
      refine ⟨by omega, by omega, ?_⟩
      rw [show (((s.length : Nat) : Int)).toNat = s.length by omega]
      refine for_r (n := s.length) (fun j st => ∃ (x5 x6 : Option M), st = [some (.p (sysD s)), some (.p t.d), some (.ml (((t.poss.take i).flatMap (succK s t) ++ succJ s t p j).map scD)), some (.p (posD p)), some (.p u.d), x5, x6]) ⟨x5, x6, by simp [succJ]; rfl⟩ ?_ ?_
      · rintro j st hj ⟨x5, x6, rfl⟩
        have er : s[j]? = some s[j] := List.getElem?_eq_getElem hj
        generalize s[j] = ru at er
        have rk := hs.2 ru (List.mem_of_getElem? er)
        have hln := rk.ln
        have hlh := rk.lh
        have hrn := rk.rn
        have hrh := rk.rh
        have jl := succJ_len (s := s) (t := t) (p := p) (j := j)
        refine ⟨by show 5 < 7; decide, by show 6 < 7; decide, ?_⟩
        show match atI (s.map Rl.d) (j : Int) with | some d => _ | none => False
        rw [at_sys er]
        refine ⟨ru.l, u, [], rfl, by omega, rk.lok, a1, by omega, by omega, (fun q hq => by cases hq), by show 0 + ru.l.n ≤ _; omega, ?_⟩
        cases e : (mB ru.l u []).1 with
        | false =>
          have eh : hit ru u = none := by
            unfold hit
            rw [if_neg (by rw [e]; decide)]
          refine ⟨some (.p (.int j)), some (.md (sD (mB ru.l u []).2)), ?_⟩
          rw [succJ_step, stepR_none hu er eh]
          simp
          rfl
        | true =>
          have eh : hit ru u = some (sub (mB ru.l u []).2 ru.r) := by
            unfold hit
            rw [if_pos e]
          obtain ⟨b1, b2, b3⟩ := hit_some rk a1 eh
          obtain ⟨res, hr, c1, c2, c3⟩ := putT_some (sub (mB ru.l u []).2 ru.r) hu
          have est := stepR_some hu er eh
          rw [hr] at est
          have ea : succJ s t p (j + 1) = succJ s t p j ++ [((p, j), res)] := by rw [succJ_step, est]; rfl
          refine ⟨rfl, by show 2 ≤ sizeLine; decide, ?_⟩
          show match atI (s.map Rl.d) (j : Int) with | some d => _ | none => False
          rw [at_sys er]
          refine ⟨(mB ru.l u []).2, ru.r, rfl, by omega, by omega, t, iL p, _, res, rfl, by omega, by omega, hr, by show 2 ≤ sizeLine; decide, ?_, some (.p (.int j)), some (.p (.dic (sD (mB ru.l u []).2))), ?_⟩
          · show (((t.poss.take i).flatMap (succK s t) ++ succJ s t p j).map scD).length < sizeLine
            rw [List.length_map, List.length_append]
            omega
          · rw [ea, ← List.append_assoc, List.map_append (l₁ := _ ++ succJ s t p j)]
            rfl
      · rintro st ⟨x5, x6, rfl⟩
        refine ⟨some (.p (posD p)), some (.p u.d), x5, x6, ?_⟩
        rw [et, List.flatMap_append]
        simp only [List.flatMap_cons, List.flatMap_nil, List.append_nil]
        rfl
    · rintro st ⟨x3, x4, x5, x6, rfl⟩
      rw [List.take_length]
      exact q)
mutual
theorem poss_max : ∀ t : Tr, ∃ p ∈ t.poss, p.length + 1 = t.h
  | .v x => ⟨[], by simp [Tr.poss], rfl⟩
  | .f s as => by
    by_cases h : as = []
    · subst h
      exact ⟨[], by simp [Tr.poss], rfl⟩
    · obtain ⟨p, hp, e⟩ := poL_max as h 0
      exact ⟨p, by rw [poss_as]; exact List.mem_cons_of_mem _ hp, by show p.length + 1 = 1 + hL as; omega⟩
theorem poL_max : ∀ l : List Tr, l ≠ [] → ∀ k : Nat, ∃ p ∈ poL k l, p.length = hL l
  | [], h, _ => absurd rfl h
  | t :: l, _, k => by
    by_cases h : hL l ≤ t.h
    · obtain ⟨p, hp, e⟩ := poss_max t
      refine ⟨k :: p, List.mem_append_left _ (List.mem_map.mpr ⟨p, hp, rfl⟩), ?_⟩
      show p.length + 1 = max t.h (hL l)
      omega
    · have hl : l ≠ [] := fun z => by
        rw [z] at h
        exact h (Nat.zero_le _)
      obtain ⟨p, hp, e⟩ := poL_max l hl (k + 1)
      refine ⟨p, List.mem_append_right _ hp, ?_⟩
      show p.length = max t.h (hL l)
      omega
end
theorem ints_map {α : Type} (f : α → Int) : ∀ l : List α, intsD (l.map fun x => D.int (f x)) = some (l.map f)
  | [] => rfl
  | x :: l => by
    show (intsD (l.map fun x => D.int (f x))).map (f x :: ·) = _
    rw [ints_map f l]
    rfl
/-- the law's look whether a term is too large -/
theorem large_max {t : Tr} (ok : t.ok) {b : Int} (h1 : b ∈ t.poss.map fun p => (p.length : Int)) (h2 : ∀ y ∈ t.poss.map fun p => (p.length : Int), y ≤ b) : b + 1 = t.h := by
  obtain ⟨p, hp, rfl⟩ := List.mem_map.mp h1
  have := poss_bound hp ok
  obtain ⟨q, hq, e⟩ := poss_max t
  have := h2 _ (List.mem_map.mpr ⟨q, hq, rfl⟩)
  omega
abbrev gLarge : SpecD := gTm (fun t => t.h ≤ 100 ∧ t.n ≤ 100000 ∧ t.ok) fun t => .p (.bl (big t))
theorem D__law_large {G : Pg} (T : Tk G) (k : Nat) : Df G "_law_large" ["_law_t"] (k + 110) [] gLarge :=
  ok__law_large T (k := k + 109) ((D__law_places T 100 0).le (by omega)) (gTm.mono _ _) gTm.len (by
    rintro ms Q R ⟨r, rfl, ⟨hh, hn, rok⟩, q⟩
    dsimp only at q
    have hz : 200000 < sizeLine := by decide
    have hpl := poss_len r
    refine ⟨r, rfl, ⟨hh, by omega, rok⟩, by show 1 < 3; decide, ?_⟩
    show match (M.p (.bl (decide ((400 : Int) < ((r.poss.map posD).length : Nat))))) with | .p (.bl false) => _ | .p (.bl true) => _ | _ => False
    by_cases hb : (400 : Int) < ((r.poss.map posD).length : Nat)
    · rw [decide_eq_true hb]
      rw [List.length_map, hpl] at hb
      have e : big r = true := big_iff.mpr (.inl (by omega))
      rw [e] at q
      exact q
    · rw [decide_eq_false hb]
      rw [List.length_map, hpl] at hb
      show (eB oGt (eFn oMax (aC (eLc [2] (iSeq (fun j => decide (j ∉ ([2] : List Nat))) (eV 1)) (gN 2) tYs (eFn oLen (aC (eV 2) aN))) aN)) (eC (.int 39))) [some (.p r.d), some (.ml (r.poss.map posD)), none] _ noR
      refine ⟨rfl, ⟨_, rfl⟩, ?_⟩
      refine lc_xms (j := 2) (k := 1) (s1 := [some (.p r.d), some (.ml (r.poss.map posD)), none]) (xs := r.poss) (en := posD) (fun p => .int (p.length : Int)) rfl (by omega) (own_none rfl) (by show 2 < 3; decide) (fun p hp Q hq => ?_) ?_
      · have e : ((iL p).map D.int).length = p.length := by simp [iL]
        show Q (.p (.int ((((iL p).map D.int).length : Nat) : Int))) _
        rw [e]
        exact hq
      · show match (some (r.poss.map fun p => D.int (p.length : Int))).bind intsD with | some ns => _ | none => False
        rw [Option.bind_some, ints_map]
        refine ⟨by rw [List.length_map]; exact List.length_pos_of_mem (poss_nil r), fun b h1 h2 => ?_⟩
        have hb2 := large_max rok h1 h2
        show Q (.p (.bl (decide ((39 : Int) < b)))) []
        by_cases hc : (39 : Int) < b
        · rw [decide_eq_true hc]
          have e : big r = true := big_iff.mpr (.inr (by omega))
          rw [e] at q
          exact q
        · rw [decide_eq_false hc]
          have e : big r = false := big_not.mpr ⟨by omega, by omega⟩
          rw [e] at q
          exact q)
def gLawAll : SpecD := fun ms Q _ => ∃ (s : List Rl) (t : Tr), ms = [.p (sysD s), .p t.d] ∧ SysOk s ∧ t.ok ∧ t.n ≤ 1000 ∧ t.h ≤ 1000 ∧ ((∀ w ∈ succR s t, big w.2 = false) → Q (.ml ((succR s t).map scD)) []) ∧ ((∃ w ∈ succR s t, big w.2 = true) → Q (.p (.str "limit")) [])
theorem gLawAll.mono : MonoG gLawAll := fun ms Q Q' R R' h h2 ⟨s, t, e, b, c, d, f, q1, q2⟩ => ⟨s, t, e, b, c, d, f, fun z => h _ _ (q1 z), fun z => h _ _ (q2 z)⟩
theorem gLawAll.len : ∀ ms Q R, gLawAll ms Q R → ms.length = 2 := fun ms Q R ⟨s, t, e, _⟩ => by rw [e]; rfl
theorem D__law_all {G : Pg} (T : Tk G) (k : Nat) : Df G "_law_all" ["_law_system_here", "_law_t"] (k + 9) [] gLawAll :=
  ok__law_all T (D_successors T k) gLawAll.mono gLawAll.len (by
    rintro ms Q R ⟨s, t, rfl, hs, ht, htn, hth, q, qx⟩
    exact ⟨s, t, rfl, hs, ht, htn, hth, q, fun z => ⟨trivial, fun x d hd => qx z⟩⟩)
def limD : List D := [.str "limit", .bl true]
def gTold : SpecD := fun ms Q _ => (∃ (s : List Rl) (t : Tr) (a : Ask), ms = [.p (sysD s), .p t.d, .p (askD a), .p (.bl true)] ∧ SysOk s ∧ t.ok ∧ t.n ≤ 1000 ∧ t.h ≤ 1000 ∧ a.1.length < 10000 ∧
    (stepI s t a = none → Q (.p (.bl true)) []) ∧ (∀ u, stepI s t a = some u → big u = false → Q (.ml [u.d]) []) ∧ (∀ u, stepI s t a = some u → big u = true → Q (.ml limD) [])) ∨
  (∃ (s : List Rl) (t : Tr) (as : List Ask), ms = [.p (sysD s), .p t.d, .p (.tup (as.map askD)), .p (.bl false)] ∧ SysOk s ∧ t.ok ∧ big t = false ∧ (∀ a ∈ as, a.1.length < 10000) ∧
    (derR s t as = .stp → Q (.p (.bl true)) []) ∧ (∀ u, derR s t as = .ok u → Q (.ml [u.d]) []) ∧ (derR s t as = .lim → Q (.ml limD) []))
theorem gTold.mono : MonoG gTold := fun ms Q Q' R R' h h2 g => g.elim (fun ⟨s, t, a, e, b, c, d, f, g, q1, q2, q3⟩ => .inl ⟨s, t, a, e, b, c, d, f, g, fun z => h _ _ (q1 z), fun u z y => h _ _ (q2 u z y), fun u z y => h _ _ (q3 u z y)⟩)
  fun ⟨s, t, a, e, b, c, d, f, q1, q2, q3⟩ => .inr ⟨s, t, a, e, b, c, d, f, fun z => h _ _ (q1 z), fun u z => h _ _ (q2 u z), fun z => h _ _ (q3 z)⟩
theorem gTold.len : ∀ ms Q R, gTold ms Q R → ms.length = 4 := fun ms Q R g => g.elim (fun ⟨s, t, a, e, _⟩ => by rw [e]; rfl) fun ⟨s, t, a, e, _⟩ => by rw [e]; rfl
theorem D__law_told {G : Pg} (T : Tk G) (k : Nat) : Df G "_law_told" ["_law_system_here", "_law_t", "_law_steps_here", "_law_single"] (k + 10) [] gTold :=
  ok__law_told T (D_derive T k) ((D_step T k).le (by omega)) gTold.mono gTold.len (by
    rintro ms Q R (⟨s, t, a, rfl, hs, ht, htn, hth, hp, q1, q2, q3⟩ | ⟨s, t, as, rfl, hs, ht, hb, hp, q1, q2, q3⟩)
    · refine ⟨s, t, a, rfl, hs, ht, htn, hth, hp, fun z => ?_, fun u z y => ⟨by show 1 ≤ sizeLine; decide, q2 u z y⟩, fun u z y => ?_⟩
      · exact ⟨by show 4 < 5; decide, fun x d hd => ⟨rfl, rfl, rfl, rfl, q1 z⟩⟩
      · exact ⟨by show 4 < 5; decide, fun x d hd => ⟨rfl, rfl, by show 2 ≤ sizeLine; decide, q3 u z y⟩⟩
    · refine ⟨s, t, as, rfl, hs, ht, hb, hp, fun z => ?_, fun u z => ⟨by show 1 ≤ sizeLine; decide, q2 u z⟩, fun z => ?_⟩
      · exact ⟨by show 4 < 5; decide, fun x d hd => ⟨rfl, rfl, rfl, rfl, q1 z⟩⟩
      · exact ⟨by show 4 < 5; decide, fun x d hd => ⟨rfl, rfl, by show 2 ≤ sizeLine; decide, q3 z⟩⟩)
/-- the terms on the way are not too large -/
def WayOk (s : List Rl) (t : Tr) (as : List Ask) : Prop := ∀ i, i < as.length → ∀ u, ledR s t (as.take i) = some u → big u = false
def optD (o : Option Tr) : D := match o with
  | none => .non
  | some u => u.d
def gLed : SpecD := fun ms Q _ => ∃ (s : List Rl) (t : Tr) (as : List Ask), ms = [.p (sysD s), .p t.d, .p (.tup (as.map askD))] ∧ SysOk s ∧ t.ok ∧ WayOk s t as ∧ Q (.p (optD (ledR s t as))) []
theorem gLed.mono : MonoG gLed := fun ms Q Q' R R' h h2 ⟨s, t, a, e, b, c, d, q1⟩ => ⟨s, t, a, e, b, c, d, h _ _ q1⟩
theorem gLed.len : ∀ ms Q R, gLed ms Q R → ms.length = 3 := fun ms Q R ⟨s, t, a, e, _⟩ => by rw [e]; rfl
theorem ledR_snoc {s : List Rl} : ∀ {as : List Ask} {t : Tr} {a : Ask}, ledR s t (as ++ [a]) = (ledR s t as).bind fun u => stepI s u a
  | [], t, a => by
    show (match stepI s t a with | none => none | some u => some u) = stepI s t a
    cases stepI s t a <;> rfl
  | b :: as, t, a => by
    show (match stepI s t b with | none => none | some u => ledR s u (as ++ [a])) = (match stepI s t b with | none => none | some u => ledR s u as).bind _
    cases stepI s t b with
    | none => rfl
    | some u => exact ledR_snoc
theorem rev_ind2 {γ : Type} {P : List γ → Prop} (h0 : P []) (h1 : ∀ l a, P l → P (l ++ [a])) (l : List γ) : P l := by
  have : ∀ r : List γ, P r.reverse := fun r => by
    induction r with
    | nil => exact h0
    | cons a r ih => rw [List.reverse_cons]; exact h1 _ _ ih
  have := this l.reverse
  rw [List.reverse_reverse] at this
  exact this
theorem ledR_none {s : List Rl} {as : List Ask} {t : Tr} {i : Nat} (h : ledR s t (as.take i) = none) : ledR s t as = none := by
  rw [← List.take_append_drop i as]
  generalize as.drop i = r
  induction r using rev_ind2 with
  | h0 => rw [List.append_nil]; exact h
  | h1 r a ih => rw [← List.append_assoc, ledR_snoc, ih]; rfl
theorem succR_len {s : List Rl} (hs : SysOk s) {t : Tr} (hn : t.n ≤ 1000) : (succR s t).length ≤ 10000 := by
  have h1 := flat_len (s := s) (t := t) t.poss
  have h2 : t.poss.length * s.length ≤ 1000 * 10 := Nat.mul_le_mul (by rw [poss_len]; exact hn) hs.1
  show (t.poss.flatMap (succK s t)).length ≤ 10000
  omega
theorem eq_ask (w : St2) (a : Ask) {P : M → Prop} (h : P (.p (.bl (decide (s2D w = askD a))))) : shp (s2D w) = true ∧ shp (askD a) = true ∧ P (.p (.bl (eqD (s2D w) (askD a)))) := by
  rw [eqD_pl (pl_s2 w) (pl_ask a)]
  exact ⟨(sp_s2 w).shp (by decide), (sp_ask a).shp (by decide), h⟩
theorem D__law_led {G : Pg} (T : Tk G) (k : Nat) : Df G "_law_led" ["_law_system_here", "_law_t", "_law_steps_here"] (k + 111) [] gLed :=
  ok__law_led T (k := k + 110) (D__law_steps T k) gLed.mono gLed.len (by
    rintro ms Q R ⟨s, t, as, rfl, hs, ht, hw, q⟩
    have hz : 20000 < sizeLine := by decide
    refine for_x (xs := as) (en := askD) (fun i st => ∃ (u : Tr) (x3 x4 : Option M), st = [some (.p (sysD s)), some (.p u.d), some (.p (.tup (as.map askD))), x3, x4, none, none] ∧ u.ok ∧ ledR s t (as.take i) = some u) rfl ⟨t, none, none, rfl, ht, rfl⟩ ?_ ?_
    · rintro i a st ei ⟨u, x3, x4, rfl, hu, hd⟩
      have hi := get_lt ei
      have ub := big_not.mp (hw i hi u hd)
      have et := take_snoc ei
      have hsl := succR_len hs (t := u) (by omega)
      have hl1 : ledR s t (as.take (i + 1)) = stepI s u a := by rw [et, ledR_snoc, hd]; rfl
      have ef : ((succR s u).filter fun w => decide (s2D w.1 = askD a)).map (fun w => w.2.d) = (asked s u a fun _ => true).map Tr.d := by
        unfold asked
        rw [List.map_map]
        simp only [Bool.and_true]
        rfl
      refine ⟨by show 3 < 7; decide, s, u, rfl, hs, hu, by omega, by omega, ?_⟩
      refine lc_2 (xs := succR s u) (en1 := fun w => s2D w.1) (en2 := fun w => w.2.d) (fun w => decide (s2D w.1 = askD a)) (fun w => w.2.d) rfl (by omega) (own_none2 rfl rfl) (by show 5 < 7; decide) (by show 6 < 7; decide) (by decide) (fun w _ Q hq => eq_ask w.1 a (P := fun m => match m with | .p (.bl b) => Q b _ | _ => False) hq) (fun w _ _ Q hq => hq) ?_
      rw [ef]
      cases hst : stepI s u a with
      | none =>
        have e0 : (asked s u a fun _ => true) = [] := List.eq_nil_iff_forall_not_mem.mpr fun v hv => by
          rw [(asked_all v hv).1] at hst
          cases hst
        rw [e0]
        refine ⟨by show 4 < 7; decide, rfl, rfl, ?_⟩
        rw [hst] at hl1
        have := ledR_none hl1
        rw [this] at q
        exact q
      | some v =>
        obtain ⟨l, e0⟩ : ∃ l, (asked s u a fun _ => true) = v :: l := by
          have hm := asked_in (c := fun _ => true) hst rfl
          cases e : (asked s u a fun _ => true) with
          | nil => rw [e] at hm; cases hm
          | cons x l =>
            have := (asked_all x (by rw [e]; exact List.mem_cons_self)).1
            rw [hst] at this
            cases this
            exact ⟨l, rfl⟩
        rw [e0]
        rw [hst] at hl1
        refine ⟨by show 4 < 7; decide, rfl, rfl, ?_⟩
        refine ifB (fun hc => ?_) fun hc => ?_
        · have hc : eqD (.int (((Tr.d v :: l.map Tr.d).length : Nat) : Int)) (.int 0) = true := hc
          rw [eqD_pl rfl rfl, decide_eq_true_eq] at hc
          rw [List.length_cons] at hc
          injection hc with hc
          omega
        · have e1 : atI ((v :: l).map Tr.d) 0 = some v.d := by
            have := atI_nat (xs := (v :: l).map Tr.d) (j := 0) (v := v.d) rfl
            exact this
          show match atI ((v :: l).map Tr.d) 0 with | some d => _ | none => False
          rw [e1]
          exact ⟨by show 1 < 7; decide, v, _, _, rfl, (stepI_ok hs hu hst).1, hl1⟩
    · rintro st ⟨u, x3, x4, rfl, hu, hd⟩
      rw [List.take_length] at hd
      rw [hd] at q
      exact q)
/-- the derivation's answer, when no term on the way (the last one included) is too large -/
theorem der_led {s : List Rl} : ∀ {as : List Ask} {t : Tr}, (∀ i, i ≤ as.length → ∀ u, ledR s t (as.take i) = some u → big u = false) → derR s t as = match ledR s t as with
    | none => .stp
    | some u => .ok u
  | [], t, _ => rfl
  | a :: as, t, h => by
    show (match stepI s t a with | none => Dr.stp | some u => if big u = true then .lim else derR s u as) = match (match stepI s t a with | none => none | some u => ledR s u as) with | none => .stp | some u => .ok u
    cases e : stepI s t a with
    | none => rfl
    | some u =>
      have hb : big u = false := h 1 (by simp) u (by
        show (match stepI s t a with | none => none | some u => ledR s u (as.take 0)) = some u
        rw [e]
        rfl)
      dsimp only
      rw [if_neg (by rw [hb]; decide)]
      exact der_led fun i hi w hw => h (i + 1) (by simp; omega) w (by
        show (match stepI s t a with | none => none | some u => ledR s u (as.take i)) = some w
        rw [e]
        exact hw)
end Sd
set_option maxHeartbeats 1000000
/-! K10: the law of steps and derivations. -/
namespace Sd
open PySem PySem.Spec PyProof.Rows L2
variable [Tb]
theorem led_size {s : List Rl} (hs : SysOk s) {t : Tr} (ht : t.ok) (tb : big t = false) {as : List Ask} {k : Nat} (hk : k ≤ as.length) (h : ∀ j, j < k → ∀ u, ledR s t (as.take j) = some u → big u = false) : ∀ u, ledR s t (as.take k) = some u → u.ok ∧ u.n ≤ 8400 ∧ u.h ≤ 46 := by
  have go : ∀ k, k ≤ as.length → (∀ j, j < k → ∀ u, ledR s t (as.take j) = some u → big u = false) → ∀ u, ledR s t (as.take k) = some u → u.ok ∧ u.n ≤ 8400 ∧ u.h ≤ 46 := by
    intro k
    induction k with
    | zero =>
      intro _ _ u hu
      have hu : some t = some u := hu
      cases hu
      have := big_not.mp tb
      exact ⟨ht, by omega, by omega⟩
    | succ k ih =>
      intro hk h u hu
      have e : as[k]? = some as[k] := List.getElem?_eq_getElem (by omega)
      rw [take_snoc e, ledR_snoc] at hu
      cases hv : ledR s t (as.take k) with
      | none => rw [hv] at hu; cases hu
      | some v =>
        rw [hv] at hu
        have hu : stepI s v as[k] = some u := hu
        have hb := big_not.mp (h k (by omega) v hv)
        have hvo := (ih (by omega) (fun j hj => h j (by omega)) v hv).1
        obtain ⟨a, b, c⟩ := stepI_ok hs hvo hu
        exact ⟨a, by omega, by omega⟩
  exact go k hk h
theorem sp_tms1 {u : Tr} (hu : u.ok) : sp (2 * u.h + 1) (.lst [u.d]) := sp_lst fun d hd => by
  rw [List.mem_singleton.mp hd]
  exact sp_tm hu
theorem law_J {Q : M → List M → Prop} {R : Exc → List M → Prop} {s : List Rl} {t : Tr} {as : List Ask} {x0 x1 x2 x5 x6 x7 x8 x10 x11 x12 x13 x14 x15 x16 : Option M} (hs : SysOk s) (okt : t.ok) (tb : big t = false) (hp : ∀ a ∈ as, a.1.length < 10000) (way : ∀ i, i ≤ as.length → ∀ u, ledR s t (as.take i) = some u → big u = false) (q : Q (.p (.bl true)) []) :
    (sSeq (sAsg (eCall [] gLed (aC (eV 3) (aC (eV 4) (aC (eFn oTuple (aC (eV 9) aN)) aN)))) (gN 12)) (sSeq (sAsg (eCall [] gTold (aC (eV 3) (aC (eV 4) (aC (eFn oTuple (aC (eV 9) aN)) (aC (eC (.bl false)) aN))))) (gN 13)) (sSeq (sIf (tB (eB (oIs false) (eV 12) (eC .non))) (sRet (eB (oIs false) (eV 13) (eC (.bl true)))) sNx) (sRet (eB oEq (eV 13) (eLst (aC (eV 12) aN))))))) (endN [] Q R) [x0, x1, x2, some (.p (sysD s)), some (.p t.d), x5, x6, x7, x8, some (.ml (as.map askD)), x10, x11, x12, x13, x14, x15, x16] := by
  have hd := der_led way
  refine ⟨s, t, as, rfl, hs, okt, fun i hi => way i (by omega), by show 12 < 17; decide, .inr ⟨s, t, as, rfl, hs, okt, tb, hp, fun z => ⟨by show 13 < 17; decide, ?_⟩, fun u z => ⟨by show 13 < 17; decide, ?_⟩, fun z => ?_⟩⟩
  · cases e : ledR s t as with
    | none => exact q
    | some u => rw [e, z] at hd; cases hd
  · cases e : ledR s t as with
    | none => rw [e, z] at hd; cases hd
    | some v =>
      rw [e, z] at hd
      cases hd
      have hv := led_size hs okt tb (Nat.le_refl _) (fun j hj => way j (by omega)) u (by rw [List.take_length]; exact e)
      have sh := (sp_tms1 hv.1).shp (by omega)
      have fin : shp (.lst [u.d]) = true ∧ shp (.lst [u.d]) = true ∧ Q (.p (.bl (eqD (.lst [u.d]) (.lst [u.d])))) [] := by
        have e : eqD (.lst [u.d]) (.lst [u.d]) = true := by
          show (eqD u.d u.d && true) = true
          rw [eqD_tm, decide_eq_true rfl]
          rfl
        rw [e]
        exact ⟨sh, sh, q⟩
      cases u with
      | v x => exact ⟨by show 1 ≤ sizeLine; decide, fin⟩
      | f g bs => exact ⟨by show 1 ≤ sizeLine; decide, fin⟩
  · cases e : ledR s t as with
    | none => rw [e, z] at hd; cases hd
    | some v => rw [e, z] at hd; cases hd
theorem law_I {Q : M → List M → Prop} {R : Exc → List M → Prop} {s : List Rl} {t : Tr} {as : List Ask} {x0 x1 x2 x5 x6 x7 x8 x10 x11 x12 x13 x14 x15 x16 : Option M} (hs : SysOk s) (okt : t.ok) (tb : big t = false) (hp : ∀ a ∈ as, a.1.length < 10000) (hl : as.length ≤ 10000) (q : Q (.p (.bl true)) []) :
    (sSeq (sFor (iRg1 (aC (eB oAdd (eFn oLen (aC (eV 9) aN)) (eC (.int 1))) aN)) (gN 11) (sSeq (sAsg (eCall [] gLed (aC (eV 3) (aC (eV 4) (aC (eFn oTuple (aC (eSl (eV 9) pN (pS (eV 11))) aN)) aN)))) (gN 10)) (sIf (tAnd (tB (eB (oIs true) (eV 10) (eC .non))) (tN (eCall [] gLarge (aC (eV 10) aN)))) (sRet (eC (.bl true))) sNx))) (sSeq (sAsg (eCall [] gLed (aC (eV 3) (aC (eV 4) (aC (eFn oTuple (aC (eV 9) aN)) aN)))) (gN 12)) (sSeq (sAsg (eCall [] gTold (aC (eV 3) (aC (eV 4) (aC (eFn oTuple (aC (eV 9) aN)) (aC (eC (.bl false)) aN))))) (gN 13)) (sSeq (sIf (tB (eB (oIs false) (eV 12) (eC .non))) (sRet (eB (oIs false) (eV 13) (eC (.bl true)))) sNx) (sRet (eB oEq (eV 13) (eLst (aC (eV 12) aN)))))))) (endN [] Q R) [x0, x1, x2, some (.p (sysD s)), some (.p t.d), x5, x6, x7, x8, some (.ml (as.map askD)), x10, x11, x12, x13, x14, x15, x16] := by
  show (-(2 ^ 62) ≤ (((as.map askD).length : Nat) : Int) + 1 ∧ (((as.map askD).length : Nat) : Int) + 1 < 2 ^ 62 ∧ _)
  rw [List.length_map]
  refine ⟨by omega, by omega, ?_⟩
  rw [show ((as.length : Int) + 1).toNat = as.length + 1 by omega]
  refine for_r (n := as.length + 1) (fun k st => ∃ (x10 x11 : Option M), st = [x0, x1, x2, some (.p (sysD s)), some (.p t.d), x5, x6, x7, x8, some (.ml (as.map askD)), x10, x11, x12, x13, x14, x15, x16] ∧ ∀ j, j < k → ∀ u, ledR s t (as.take j) = some u → big u = false) ⟨x10, x11, rfl, fun j hj => by omega⟩ ?_ ?_
  · rintro k st hk ⟨x10, x11, rfl, way⟩
    have hsz := led_size hs okt tb (k := k) (by omega) way
    refine ⟨by show 11 < 17; decide, ?_⟩
    have ec : cutD (as.map askD) none (some (k : Int)) = (as.take k).map askD := by
      rw [cut_to _ _ (by rw [List.length_map]; omega), List.map_take]
    refine ⟨s, t, as.take k, ?_, hs, okt, fun i hi u hu => ?_, by show 10 < 17; decide, ?_⟩
    · show [M.p (sysD s), .p t.d, .p (.tup (cutD (as.map askD) none (some (k : Int))))] = _
      rw [ec]
    · rw [List.length_take] at hi
      rw [List.take_take, Nat.min_eq_left (by omega)] at hu
      exact way i (by omega) u hu
    · have next : (∀ u, ledR s t (as.take k) = some u → big u = false) → ∀ j, j < k + 1 → ∀ u, ledR s t (as.take j) = some u → big u = false := fun h j hj u hu => by
        by_cases e : j = k
        · subst e
          exact h u hu
        · exact way j (by omega) u hu
      cases e : ledR s t (as.take k) with
      | none => exact ⟨some (.p .non), some (.p (.int k)), rfl, next (fun u hu => by rw [e] at hu; cases hu)⟩
      | some u =>
        obtain ⟨a, b, c⟩ := hsz u e
        have fin : gLarge [.p u.d] (fun m _ => truN [x0, x1, x2, some (.p (sysD s)), some (.p t.d), x5, x6, x7, x8, some (.ml (as.map askD)), some (.p u.d), some (.p (.int k)), x12, x13, x14, x15, x16] m fun b => if b = true then Q (.p (.bl true)) [] else ∃ (y10 y11 : Option M), [x0, x1, x2, some (.p (sysD s)), some (.p t.d), x5, x6, x7, x8, some (.ml (as.map askD)), some (.p u.d), some (.p (.int k)), x12, x13, x14, x15, x16] = [x0, x1, x2, some (.p (sysD s)), some (.p t.d), x5, x6, x7, x8, some (.ml (as.map askD)), y10, y11, x12, x13, x14, x15, x16] ∧ ∀ j, j < k + 1 → ∀ u, ledR s t (as.take j) = some u → big u = false) (fun _ _ => False) := by
          refine ⟨u, rfl, ⟨by omega, by omega, a⟩, ?_⟩
          show if big u = true then _ else _
          cases hb : big u with
          | true => exact q
          | false => exact ⟨_, _, rfl, next (fun v hv => by rw [e] at hv; cases hv; exact hb)⟩
        cases u with
        | v x => exact fin
        | f g bs => exact fin
  · rintro st ⟨x10, x11, rfl, way⟩
    exact law_J hs okt tb hp (fun i hi => way i (by omega)) q
theorem ix_pos {n : Nat} {r : Int} (h0 : 0 ≤ r) (h : r < n) : L2.ixN n r = some r.toNat := by
  unfold L2.ixN
  rw [if_pos h0, if_pos h]
theorem law_H {Q : M → List M → Prop} {R : Exc → List M → Prop} {s : List Rl} {t : Tr} {as : List Ask} {l : List D} {c : Int} {x0 x2 x5 x6 x7 x8 x10 x11 x12 x13 x14 x15 x16 : Option M} (hs : SysOk s) (okt : t.ok) (tb : big t = false) (hp : ∀ a ∈ as, a.1.length < 10000) (hl : as.length ≤ 10000) (hd : DrOk c l) (q : Q (.p (.bl true)) []) :
    (sSeq (sIf (tAnd (tN (eV 9)) (tB (eB oEq (eCall [0] gTake (aC (eV 1) (aC (eC (.int 3)) aN))) (eC (.int 0))))) (sSeq (sAsg (eCall [0] gTake (aC (eV 1) (aC (eFn oLen (aC (eV 9) aN)) aN))) (gN 11)) (sAsg (eTup (aC (eB oIx (eB oIx (eV 9) (eV 11)) (eC (.int 0))) (aC (eB oAdd (eB oIx (eB oIx (eV 9) (eV 11)) (eC (.int 1))) (eC (.int 1))) aN))) (gSb oSt (eV 9) (eV 11)))) sNx) (sSeq (sFor (iRg1 (aC (eB oAdd (eFn oLen (aC (eV 9) aN)) (eC (.int 1))) aN)) (gN 11) (sSeq (sAsg (eCall [] gLed (aC (eV 3) (aC (eV 4) (aC (eFn oTuple (aC (eSl (eV 9) pN (pS (eV 11))) aN)) aN)))) (gN 10)) (sIf (tAnd (tB (eB (oIs true) (eV 10) (eC .non))) (tN (eCall [] gLarge (aC (eV 10) aN)))) (sRet (eC (.bl true))) sNx))) (sSeq (sAsg (eCall [] gLed (aC (eV 3) (aC (eV 4) (aC (eFn oTuple (aC (eV 9) aN)) aN)))) (gN 12)) (sSeq (sAsg (eCall [] gTold (aC (eV 3) (aC (eV 4) (aC (eFn oTuple (aC (eV 9) aN)) (aC (eC (.bl false)) aN))))) (gN 13)) (sSeq (sIf (tB (eB (oIs false) (eV 12) (eC .non))) (sRet (eB (oIs false) (eV 13) (eC (.bl true)))) sNx) (sRet (eB oEq (eV 13) (eLst (aC (eV 12) aN))))))))) (endN [] Q R) [x0, some (.ml l), x2, some (.p (sysD s)), some (.p t.d), x5, x6, x7, x8, some (.ml (as.map askD)), x10, x11, x12, x13, x14, x15, x16] := by
  have hz : 20000 < sizeLine := by decide
  cases as with
  | nil => exact law_I (as := []) hs okt tb hp (by decide) q
  | cons a r =>
    refine ⟨l, c, 3, rfl, hd, by decide, by decide, fun r1 l1 a0 a1 hl1 => ⟨rfl, rfl, ?_⟩⟩
    refine ifB (fun _ => ?_) fun _ => ?_
    · refine ⟨l1, _, ((((a :: r).map askD).length : Nat) : Int), rfl, hl1, by rw [List.length_map, List.length_cons]; omega, by rw [List.length_map]; omega, fun k l2 k0 k1 hl2 => ⟨by show 11 < 17; decide, ?_⟩⟩
      rw [List.length_map] at k1
      have hk : k.toNat < (a :: r).length := by omega
      have ea : (a :: r)[k.toNat]? = some (a :: r)[k.toNat] := List.getElem?_eq_getElem hk
      have ma : (a :: r)[k.toNat] ∈ a :: r := List.getElem_mem hk
      generalize (a :: r)[k.toNat] = b at ea ma
      have eat : atI ((a :: r).map askD) k = some (askD b) := by
        have := atI_nat (xs := (a :: r).map askD) (j := k.toNat) (v := askD b) (by rw [List.getElem?_map, ea]; rfl)
        rw [Int.toNat_of_nonneg k0] at this
        exact this
      show match atI ((a :: r).map askD) k with | some d => _ | none => False
      rw [eat]
      show match atI ((a :: r).map askD) k with | some d => _ | none => False
      rw [eat]
      refine ⟨by show 2 ≤ sizeLine; decide, ?_⟩
      show match L2.ixN ((a :: r).map askD).length k with | some j => _ | none => False
      rw [List.length_map, ix_pos k0 k1]
      have es : ((a :: r).map askD).set k.toNat (askD (b.1, b.2 + 1)) = ((a :: r).set k.toNat (b.1, b.2 + 1)).map askD := by rw [List.map_set]
      suffices mid : (sSeq (sFor (iRg1 (aC (eB oAdd (eFn oLen (aC (eV 9) aN)) (eC (.int 1))) aN)) (gN 11) (sSeq (sAsg (eCall [] gLed (aC (eV 3) (aC (eV 4) (aC (eFn oTuple (aC (eSl (eV 9) pN (pS (eV 11))) aN)) aN)))) (gN 10)) (sIf (tAnd (tB (eB (oIs true) (eV 10) (eC .non))) (tN (eCall [] gLarge (aC (eV 10) aN)))) (sRet (eC (.bl true))) sNx))) (sSeq (sAsg (eCall [] gLed (aC (eV 3) (aC (eV 4) (aC (eFn oTuple (aC (eV 9) aN)) aN)))) (gN 12)) (sSeq (sAsg (eCall [] gTold (aC (eV 3) (aC (eV 4) (aC (eFn oTuple (aC (eV 9) aN)) (aC (eC (.bl false)) aN))))) (gN 13)) (sSeq (sIf (tB (eB (oIs false) (eV 12) (eC .non))) (sRet (eB (oIs false) (eV 13) (eC (.bl true)))) sNx) (sRet (eB oEq (eV 13) (eLst (aC (eV 12) aN)))))))) (endN [] Q R) [x0, some (.ml l2), x2, some (.p (sysD s)), some (.p t.d), x5, x6, x7, x8, some (.ml (((a :: r).map askD).set k.toNat (askD (b.1, b.2 + 1)))), x10, some (.p (.int k)), x12, x13, x14, x15, x16] from mid
      rw [es]
      refine law_I hs okt tb (fun y hy => ?_) (by rw [List.length_set]; exact hl) q
      rcases List.mem_or_eq_of_mem_set hy with hy | hy
      · exact hp y hy
      · rw [hy]
        exact hp b ma
    · exact law_I (as := a :: r) hs okt tb hp hl q
theorem law_G {Q : M → List M → Prop} {R : Exc → List M → Prop} {s : List Rl} {t : Tr} {l : List D} {c : Int} {x0 x2 x5 x6 x7 x8 x11 x12 x13 x14 x15 x16 : Option M} (hs : SysOk s) (okt : t.ok) (htn : t.n ≤ 30) (hth : t.h ≤ 6) (hd : DrOk c l) (q : Q (.p (.bl true)) []) :
    (sSeq (sFor (iRg1 (aC (eCall [0] gTake (aC (eV 1) (aC (eC (.int 5)) aN))) aN)) (gN 11) (sSeq (sAsg (eCall [] gLawSteps (aC (eV 3) (aC (eV 10) aN))) (gN 15)) (sSeq (sAsg (eB oIx (eB oAdd (eV 15) (eLst (aC (eTup (aC (eTup (aC (eTup aN) (aC (eC (.int 0)) aN))) (aC (eV 10) aN))) aN))) (eCall [0] gTake (aC (eV 1) (aC (eFn oMax (aC (eC (.int 1)) (aC (eFn oLen (aC (eV 15) aN)) aN))) aN)))) (gN 16)) (sIf (tAnd (tN (eV 15)) (tB (eB oLt (eFn oLen (aC (eCall [] (gPlaces 100) (aC (eB oIx (eV 16) (eC (.int 1))) aN)) aN)) (eC (.int 60))))) (sSeq (sExp (eMt .lst oApp (eV 9) (aC (eB oIx (eV 16) (eC (.int 0))) aN))) (sAsg (eB oIx (eV 16) (eC (.int 1))) (gN 10))) sNx)))) (sSeq (sIf (tAnd (tN (eV 9)) (tB (eB oEq (eCall [0] gTake (aC (eV 1) (aC (eC (.int 3)) aN))) (eC (.int 0))))) (sSeq (sAsg (eCall [0] gTake (aC (eV 1) (aC (eFn oLen (aC (eV 9) aN)) aN))) (gN 11)) (sAsg (eTup (aC (eB oIx (eB oIx (eV 9) (eV 11)) (eC (.int 0))) (aC (eB oAdd (eB oIx (eB oIx (eV 9) (eV 11)) (eC (.int 1))) (eC (.int 1))) aN))) (gSb oSt (eV 9) (eV 11)))) sNx) (sSeq (sFor (iRg1 (aC (eB oAdd (eFn oLen (aC (eV 9) aN)) (eC (.int 1))) aN)) (gN 11) (sSeq (sAsg (eCall [] gLed (aC (eV 3) (aC (eV 4) (aC (eFn oTuple (aC (eSl (eV 9) pN (pS (eV 11))) aN)) aN)))) (gN 10)) (sIf (tAnd (tB (eB (oIs true) (eV 10) (eC .non))) (tN (eCall [] gLarge (aC (eV 10) aN)))) (sRet (eC (.bl true))) sNx))) (sSeq (sAsg (eCall [] gLed (aC (eV 3) (aC (eV 4) (aC (eFn oTuple (aC (eV 9) aN)) aN)))) (gN 12)) (sSeq (sAsg (eCall [] gTold (aC (eV 3) (aC (eV 4) (aC (eFn oTuple (aC (eV 9) aN)) (aC (eC (.bl false)) aN))))) (gN 13)) (sSeq (sIf (tB (eB (oIs false) (eV 12) (eC .non))) (sRet (eB (oIs false) (eV 13) (eC (.bl true)))) sNx) (sRet (eB oEq (eV 13) (eLst (aC (eV 12) aN)))))))))) (endN [] Q R) [x0, some (.ml l), x2, some (.p (sysD s)), some (.p t.d), x5, x6, x7, x8, some (.ml []), some (.p t.d), x11, x12, x13, x14, x15, x16] := by
  have hz : 20000 < sizeLine := by decide
  have tb : big t = false := big_not.mpr ⟨by omega, by omega⟩
  refine ⟨l, c, 5, rfl, hd, by decide, by decide, fun r l' r0 r1 hl' => ?_⟩
  show (-(2 ^ 62) ≤ r ∧ r < 2 ^ 62 ∧ _)
  refine ⟨by omega, by omega, ?_⟩
  refine for_r (n := r.toNat) (fun i st => ∃ (l : List D) (c : Int) (as : List Ask) (u : Tr) (x11 x15 x16 : Option M), st = [x0, some (.ml l), x2, some (.p (sysD s)), some (.p t.d), x5, x6, x7, x8, some (.ml (as.map askD)), some (.p u.d), x11, x12, x13, x14, x15, x16] ∧ DrOk c l ∧ as.length ≤ i ∧ (∀ a ∈ as, a.1.length < 10000) ∧ u.ok ∧ u.n ≤ 60 ∧ u.h ≤ 6 + 6 * i) ⟨l', _, [], t, x11, x15, x16, rfl, hl', Nat.le_refl _, (fun a ha => by cases ha), okt, by omega, by omega⟩ ?_ ?_
  · rintro i st hi ⟨l, c, as, u, x11, x15, x16, rfl, hd, ha, hp, hu, hun, huh⟩
    have sl := succR_len hs (t := u) (by omega)
    refine ⟨by show 11 < 17; decide, s, u, rfl, hs, hu, by omega, by omega, by show 15 < 17; decide, ?_⟩
    suffices mid : ∀ N : WN, (∀ l c (w : Sc), DrOk c l → w.1.1.length < 10000 → w.2.ok → w.2.n ≤ 1260 → w.2.h ≤ u.h + 6 → N.nx [x0, some (.ml l), x2, some (.p (sysD s)), some (.p t.d), x5, x6, x7, x8, some (.ml (as.map askD)), some (.p u.d), some (.p (.int i)), x12, x13, x14, some (.ml ((succR s u).map scD)), some (.p (scD w))]) → (sAsg (eB oIx (eB oAdd (eV 15) (eLst (aC (eTup (aC (eTup (aC (eTup aN) (aC (eC (.int 0)) aN))) (aC (eV 10) aN))) aN))) (eCall [0] gTake (aC (eV 1) (aC (eFn oMax (aC (eC (.int 1)) (aC (eFn oLen (aC (eV 15) aN)) aN))) aN)))) (gN 16)) N [x0, some (.ml l), x2, some (.p (sysD s)), some (.p t.d), x5, x6, x7, x8, some (.ml (as.map askD)), some (.p u.d), some (.p (.int i)), x12, x13, x14, some (.ml ((succR s u).map scD)), x16] by
      refine mid _ fun l c w hd wp wo wn wh => ?_
      have keep : ∃ (l' : List D) (c : Int) (as' : List Ask) (u' : Tr) (x11 x15 x16 : Option M), [x0, some (.ml l), x2, some (.p (sysD s)), some (.p t.d), x5, x6, x7, x8, some (.ml (as.map askD)), some (.p u.d), some (.p (.int i)), x12, x13, x14, some (.ml ((succR s u).map scD)), some (.p (scD w))] = [x0, some (.ml l'), x2, some (.p (sysD s)), some (.p t.d), x5, x6, x7, x8, some (.ml (as'.map askD)), some (.p u'.d), x11, x12, x13, x14, x15, x16] ∧ DrOk c l' ∧ as'.length ≤ i + 1 ∧ (∀ a ∈ as', a.1.length < 10000) ∧ u'.ok ∧ u'.n ≤ 60 ∧ u'.h ≤ 6 + 6 * (i + 1) := ⟨l, c, as, u, _, _, _, rfl, hd, by omega, hp, hu, hun, by omega⟩
      refine ifB (fun hc => ?_) fun hc => ?_
      · have hpl := poss_len w.2
        refine ⟨w.2, rfl, ⟨by omega, by omega, wo⟩, ifB (fun hc2 => ?_) fun hc2 => ?_⟩
        · have hc2 : decide ((((w.2.poss.map posD).length : Nat) : Int) < 60) = true := hc2
          rw [decide_eq_true_eq, List.length_map, hpl] at hc2
          refine ⟨rfl, by show (as.map askD).length < sizeLine; rw [List.length_map]; omega, by show 10 < 17; decide, l, c, as ++ [(iL w.1.1, (w.1.2 : Int))], w.2, some (.p (.int i)), some (.ml ((succR s u).map scD)), some (.p (scD w)), ?_, hd, ?_, ?_, wo, by omega, by omega⟩
          · rw [List.map_append]
            rfl
          · rw [List.length_append]
            show as.length + 1 ≤ i + 1
            omega
          · intro a ha
            rcases List.mem_append.mp ha with ha | ha
            · exact hp a ha
            · rw [List.mem_singleton.mp ha]
              show (iL w.1.1).length < 10000
              rw [show (iL w.1.1).length = w.1.1.length by simp [iL]]
              exact wp
        · exact keep
      · exact keep
    intro N hN
    have e : ((succR s u).map scD ++ [D.tup [.tup [.tup [], .int 0], u.d]]).length = (succR s u).length + 1 := by rw [List.length_append, List.length_map]; rfl
    refine ⟨by show 0 ≤ sizeLine; decide, by show 2 ≤ sizeLine; decide, by show 2 ≤ sizeLine; decide, by show 1 ≤ sizeLine; decide, ?_⟩
    refine ⟨by show ((succR s u).map scD).length + 1 ≤ sizeLine; rw [List.length_map]; omega, l, c, (if (((succR s u).map scD).length : Int) > 1 then (((succR s u).map scD).length : Int) else 1), rfl, hd, ?_, ?_, fun r l' r0 r1 hl' => ?_⟩
    · split <;> omega
    · rw [List.length_map]
      split <;> omega
    · have r1 : r < (((succR s u).map scD ++ [D.tup [.tup [.tup [], .int 0], u.d]]).length : Nat) := by
        rw [e]
        rw [List.length_map] at r1
        split at r1 <;> omega
      obtain ⟨d, hat, hmem⟩ := at_pos (l := (succR s u).map scD ++ [D.tup [.tup [.tup [], .int 0], u.d]]) r0 r1
      show match atI ((succR s u).map scD ++ [D.tup [.tup [.tup [], .int 0], u.d]]) r with | some d => _ | none => False
      rw [hat]
      refine ⟨by show 16 < 17; decide, ?_⟩
      rcases List.mem_append.mp hmem with hm | hm
      · obtain ⟨w, hw, rfl⟩ := List.mem_map.mp hm
        obtain ⟨w1, w2, w3⟩ := succ_mem.mp hw
        have hst : stepI s u (iL w.1.1, (w.1.2 : Int)) = some w.2 := stepI_mem.mpr ⟨w, hw, (s2_ask w.1).symm, rfl⟩
        obtain ⟨a, b, c'⟩ := stepI_ok hs hu hst
        have := poss_bound w1 hu
        exact hN _ _ w hl' (by omega) a (by omega) c'
      · rw [List.mem_singleton.mp hm]
        exact hN _ _ (([], 0), u) hl' (by show 0 < 10000; decide) hu (by show u.n ≤ 1260; omega) (by show u.h ≤ u.h + 6; omega)
  · rintro st ⟨l, c, as, u, x11, x15, x16, rfl, hd, ha, hp, hu, hun, huh⟩
    exact law_H hs okt tb hp (by omega) hd q
theorem lim_shp : shp (.lst limD) = true := by decide +kernel
theorem lim_eq : eqD (.lst limD) (.lst limD) = true := by decide +kernel
theorem succ_size {s : List Rl} (hs : SysOk s) {t : Tr} (okt : t.ok) {w : Sc} (hw : w ∈ succR s t) : w.2.ok ∧ w.2.n ≤ 21 * t.n ∧ w.2.h ≤ t.h + 6 :=
  stepI_ok hs okt (stepI_mem.mpr ⟨w, hw, (s2_ask w.1).symm, rfl⟩ : stepI s t (iL w.1.1, (w.1.2 : Int)) = some w.2)
theorem law_F {Q : M → List M → Prop} {R : Exc → List M → Prop} {s : List Rl} {t : Tr} {a : Ask} {l : List D} {c : Int} {x0 x2 x6 x14 : Option M} (h14 : ∀ m, x14 = some m → isP m = true) (hs : SysOk s) (okt : t.ok) (htn : t.n ≤ 30) (hth : t.h ≤ 6) (hp : a.1.length < 10000) (hd : DrOk c l) (q : Q (.p (.bl true)) []) :
    (sSeq (sAsg (eLc [13, 14] (iSeq (fun j => decide (j ∉ ([13, 14] : List Nat))) (eV 5)) (gTup 2 (gCons (gN 13) (gCons (gN 14) gNil))) (tAnd (tB (eB oEq (eV 13) (eV 7))) (tNot (tN (eCall [] gLarge (aC (eV 14) aN))))) (eV 14)) (gN 8)) (sSeq (sIf (tN (eFn oAny (aC (eLc [13, 14] (iSeq (fun j => decide (j ∉ ([13, 14] : List Nat))) (eV 5)) (gTup 2 (gCons (gN 13) (gCons (gN 14) gNil))) tYs (eAnd (eB oEq (eV 13) (eV 7)) (eCall [] gLarge (aC (eV 14) aN)))) aN))) (sRet (eB oEq (eCall [] gTold (aC (eV 3) (aC (eV 4) (aC (eV 7) (aC (eC (.bl true)) aN))))) (eLst (aC (eC (.str "limit")) (aC (eC (.bl true)) aN))))) sNx) (sSeq (sIf (tOr (tAnd (tN (eV 8)) (tB (eB oNe (eCall [] gTold (aC (eV 3) (aC (eV 4) (aC (eV 7) (aC (eC (.bl true)) aN))))) (eLst (aC (eB oIx (eV 8) (eC (.int 0))) aN))))) (tAnd (tNot (tN (eV 8))) (tB (eB (oIs true) (eCall [] gTold (aC (eV 3) (aC (eV 4) (aC (eV 7) (aC (eC (.bl true)) aN))))) (eC (.bl true)))))) (sRet (eC (.bl false))) sNx) (sSeq (sAsg (eLst aN) (gN 9)) (sSeq (sAsg (eV 4) (gN 10)) (sSeq (sFor (iRg1 (aC (eCall [0] gTake (aC (eV 1) (aC (eC (.int 5)) aN))) aN)) (gN 11) (sSeq (sAsg (eCall [] gLawSteps (aC (eV 3) (aC (eV 10) aN))) (gN 15)) (sSeq (sAsg (eB oIx (eB oAdd (eV 15) (eLst (aC (eTup (aC (eTup (aC (eTup aN) (aC (eC (.int 0)) aN))) (aC (eV 10) aN))) aN))) (eCall [0] gTake (aC (eV 1) (aC (eFn oMax (aC (eC (.int 1)) (aC (eFn oLen (aC (eV 15) aN)) aN))) aN)))) (gN 16)) (sIf (tAnd (tN (eV 15)) (tB (eB oLt (eFn oLen (aC (eCall [] (gPlaces 100) (aC (eB oIx (eV 16) (eC (.int 1))) aN)) aN)) (eC (.int 60))))) (sSeq (sExp (eMt .lst oApp (eV 9) (aC (eB oIx (eV 16) (eC (.int 0))) aN))) (sAsg (eB oIx (eV 16) (eC (.int 1))) (gN 10))) sNx)))) (sSeq (sIf (tAnd (tN (eV 9)) (tB (eB oEq (eCall [0] gTake (aC (eV 1) (aC (eC (.int 3)) aN))) (eC (.int 0))))) (sSeq (sAsg (eCall [0] gTake (aC (eV 1) (aC (eFn oLen (aC (eV 9) aN)) aN))) (gN 11)) (sAsg (eTup (aC (eB oIx (eB oIx (eV 9) (eV 11)) (eC (.int 0))) (aC (eB oAdd (eB oIx (eB oIx (eV 9) (eV 11)) (eC (.int 1))) (eC (.int 1))) aN))) (gSb oSt (eV 9) (eV 11)))) sNx) (sSeq (sFor (iRg1 (aC (eB oAdd (eFn oLen (aC (eV 9) aN)) (eC (.int 1))) aN)) (gN 11) (sSeq (sAsg (eCall [] gLed (aC (eV 3) (aC (eV 4) (aC (eFn oTuple (aC (eSl (eV 9) pN (pS (eV 11))) aN)) aN)))) (gN 10)) (sIf (tAnd (tB (eB (oIs true) (eV 10) (eC .non))) (tN (eCall [] gLarge (aC (eV 10) aN)))) (sRet (eC (.bl true))) sNx))) (sSeq (sAsg (eCall [] gLed (aC (eV 3) (aC (eV 4) (aC (eFn oTuple (aC (eV 9) aN)) aN)))) (gN 12)) (sSeq (sAsg (eCall [] gTold (aC (eV 3) (aC (eV 4) (aC (eFn oTuple (aC (eV 9) aN)) (aC (eC (.bl false)) aN))))) (gN 13)) (sSeq (sIf (tB (eB (oIs false) (eV 12) (eC .non))) (sRet (eB (oIs false) (eV 13) (eC (.bl true)))) sNx) (sRet (eB oEq (eV 13) (eLst (aC (eV 12) aN))))))))))))))) (endN [] Q R) [x0, some (.ml l), x2, some (.p (sysD s)), some (.p t.d), some (.ml ((succR s t).map scD)), x6, some (.p (askD a)), none, none, none, none, none, none, x14, none, none] := by
  have hz : 20000 < sizeLine := by decide
  have sl := succR_len hs (t := t) (by omega)
  have own : ownP [x0, some (.ml l), x2, some (.p (sysD s)), some (.p t.d), some (.ml ((succR s t).map scD)), x6, some (.p (askD a)), none, none, none, none, none, none, x14, none, none] [13, 14] := by
    intro v hv m e
    rcases List.mem_cons.mp hv with rfl | hv
    · cases e
    · rw [List.mem_singleton.mp hv] at e
      have e : some x14 = some (some m) := e
      cases e
      exact h14 m rfl
  refine ⟨rfl, ⟨_, rfl⟩, ?_⟩
  refine lc_2s (j := 13) (k := 14) (kk := 5) (xs := succR s t) (en1 := fun w => s2D w.1) (en2 := fun w => w.2.d) (fun w => decide (s2D w.1 = askD a) && !big w.2) (fun w => w.2.d) rfl (by omega) own (by show 13 < 17; decide) (by show 14 < 17; decide) (by decide) (fun w hw Q hq => ?_) (fun w _ _ Q hq => hq) ?_
  · obtain ⟨w1, w2, w3⟩ := succ_size hs okt hw
    refine ⟨(sp_s2 w.1).shp (by decide), (sp_ask a).shp (by decide), ?_⟩
    refine ifB (fun hc => ?_) fun hc => ?_
    · rw [eqD_pl (pl_s2 w.1) (pl_ask a)] at hc
      rw [hc] at hq
      exact ⟨w.2, rfl, ⟨by omega, by omega, w1⟩, hq⟩
    · rw [eqD_pl (pl_s2 w.1) (pl_ask a)] at hc
      rw [hc] at hq
      exact hq
  · have ef : ((succR s t).filter fun w => decide (s2D w.1 = askD a) && !big w.2).map (fun w => w.2.d) = (asked s t a fun u => !big u).map Tr.d := by
      unfold asked
      rw [List.map_map]
      rfl
    rw [ef]
    refine ⟨by show 8 < 17; decide, rfl, ⟨_, rfl⟩, ?_⟩
    refine lc_2s (j := 13) (k := 14) (kk := 5) (xs := succR s t) (en1 := fun w => s2D w.1) (en2 := fun w => w.2.d) (fun _ => true) (fun w => .bl (decide (s2D w.1 = askD a) && big w.2)) rfl (by omega) ?_ (by show 13 < 17; decide) (by show 14 < 17; decide) (by decide) (fun w hw Q hq => hq) (fun w hw _ Q hq => ?_) ?_
    · intro v hv m e
      rcases List.mem_cons.mp hv with rfl | hv
      · cases e
      · rw [List.mem_singleton.mp hv] at e
        have e : some x14 = some (some m) := e
        cases e
        exact h14 m rfl
    · obtain ⟨w1, w2, w3⟩ := succ_size hs okt hw
      refine ⟨(sp_s2 w.1).shp (by decide), (sp_ask a).shp (by decide), ?_⟩
      show match (M.p (.bl (eqD (s2D w.1) (askD a)))) with | .p (.bl true) => _ | .p (.bl false) => _ | _ => False
      rw [eqD_pl (pl_s2 w.1) (pl_ask a)]
      cases hc : decide (s2D w.1 = askD a) with
      | true =>
        rw [hc] at hq
        exact ⟨w.2, rfl, ⟨by omega, by omega, w1⟩, hq⟩
      | false =>
        rw [hc] at hq
        exact hq
    · rw [List.filter_eq_self.mpr fun _ _ => rfl]
      have eb : blsD ((succR s t).map fun w => D.bl (decide (s2D w.1 = askD a) && big w.2)) = some ((succR s t).map fun w => decide (s2D w.1 = askD a) && big w.2) := by
        have := bls_map ((succR s t).map fun w => decide (s2D w.1 = askD a) && big w.2)
        rw [List.map_map] at this
        exact this
      show match (some ((succR s t).map fun w => D.bl (decide (s2D w.1 = askD a) && big w.2))).bind blsD with | some bs => _ | none => False
      rw [Option.bind_some, eb]
      refine ifB (fun hc => ?_) fun hc => ?_
      · have hc : (((succR s t).map fun w => decide (s2D w.1 = askD a) && big w.2).any id) = true := hc
        rw [List.any_map, List.any_eq_true] at hc
        obtain ⟨w, hw, hc⟩ := hc
        have hc : (decide (s2D w.1 = askD a) && big w.2) = true := hc
        rw [Bool.and_eq_true, decide_eq_true_eq] at hc
        have hst : stepI s t a = some w.2 := stepI_mem.mpr ⟨w, hw, hc.1.symm, rfl⟩
        refine .inl ⟨s, t, a, rfl, hs, okt, by omega, by omega, hp, fun z => (by rw [hst] at z; cases z), fun u z y => ?_, fun u z y => ⟨by show 2 ≤ sizeLine; decide, lim_shp, lim_shp, ?_⟩⟩
        · rw [hst] at z
          cases z
          rw [hc.2] at y
          cases y
        · show Q (.p (.bl (eqD (.lst limD) (.lst limD)))) []
          rw [lim_eq]
          exact q
      · have hc : (((succR s t).map fun w => decide (s2D w.1 = askD a) && big w.2).any id) = false := hc
        have hn : ∀ u, stepI s t a = some u → big u = false := fun u hu => by
          obtain ⟨w, hw, e, rfl⟩ := stepI_mem.mp hu
          cases hb : big w.2 with
          | false => rfl
          | true =>
            exfalso
            rw [List.any_map, List.any_eq_false] at hc
            exact hc w hw (by
              show (decide (s2D w.1 = askD a) && big w.2) = true
              rw [hb, decide_eq_true e.symm]
              rfl)
        cases hst : stepI s t a with
        | none =>
          have e0 : (asked s t a fun u => !big u) = [] := List.eq_nil_iff_forall_not_mem.mpr fun v hv => by
            rw [(asked_all v hv).1] at hst
            cases hst
          rw [e0]
          refine .inl ⟨s, t, a, rfl, hs, okt, by omega, by omega, hp, fun _ => ?_, fun u z => (by rw [hst] at z; cases z), fun u z => (by rw [hst] at z; cases z)⟩
          exact ⟨Nat.zero_le _, by show 9 < 17; decide, by show 10 < 17; decide, law_G hs okt htn hth hd q⟩
        | some u =>
          obtain ⟨r, e0⟩ : ∃ r, (asked s t a fun u => !big u) = u :: r := by
            have hm := asked_in (c := fun u => !big u) hst (by rw [hn u hst]; rfl)
            cases e : (asked s t a fun u => !big u) with
            | nil => rw [e] at hm; cases hm
            | cons x r =>
              have := (asked_all x (by rw [e]; exact List.mem_cons_self)).1
              rw [hst] at this
              cases this
              exact ⟨r, rfl⟩
          rw [e0]
          refine .inl ⟨s, t, a, rfl, hs, okt, by omega, by omega, hp, fun z => (by rw [hst] at z; cases z), fun v z y => ?_, fun v z y => (by rw [hn v z] at y; cases y)⟩
          rw [hst] at z
          cases z
          have e1 : atI ((u :: r).map Tr.d) 0 = some u.d := atI_nat (xs := (u :: r).map Tr.d) (j := 0) (v := u.d) rfl
          show match atI ((u :: r).map Tr.d) 0 with | some d => _ | none => False
          rw [e1]
          obtain ⟨uo, un, uh⟩ := stepI_ok hs okt hst
          have sh := (sp_tms1 uo).shp (by omega)
          refine ⟨by show 1 ≤ sizeLine; decide, sh, sh, ?_⟩
          have ee : eqD (.lst [u.d]) (.lst [u.d]) = true := by
            show (eqD u.d u.d && true) = true
            rw [eqD_tm, decide_eq_true rfl]
            rfl
          refine ifB (fun hc => ?_) fun _ => ?_
          · have hc : (!eqD (.lst [u.d]) (.lst [u.d])) = true := hc
            rw [ee] at hc
            cases hc
          · exact ⟨Nat.zero_le _, by show 9 < 17; decide, by show 10 < 17; decide, law_G hs okt htn hth hd q⟩
theorem law_D {Q : M → List M → Prop} {R : Exc → List M → Prop} {s : List Rl} {t : Tr} {l : List D} {c : Int} {x0 x2 x6 x7 x14 : Option M} (h14 : ∀ m, x14 = some m → isP m = true) (hs : SysOk s) (okt : t.ok) (htn : t.n ≤ 30) (hth : t.h ≤ 6) (hd : DrOk c l) (q : Q (.p (.bl true)) []) :
    (sSeq (sAsg (eCall [] (gPlaces 100) (aC (eV 4) aN)) (gN 6)) (sSeq (sAsg (eTup (aC (eB oAdd (eB oIx (eV 6) (eCall [0] gTake (aC (eV 1) (aC (eFn oLen (aC (eV 6) aN)) aN)))) (eB oIx (eTup (aC (eTup aN) (aC (eTup (aC (eC (.int 0)) aN)) (aC (eTup (aC (eB oSub (eC (.int 0)) (eC (.int 1))) aN)) aN)))) (eCall [0] gTake (aC (eV 1) (aC (eC (.int 3)) aN))))) (aC (eB oSub (eCall [0] gTake (aC (eV 1) (aC (eC (.int 6)) aN))) (eC (.int 1))) aN))) (gN 7)) (sSeq (sAsg (eLc [13, 14] (iSeq (fun j => decide (j ∉ ([13, 14] : List Nat))) (eV 5)) (gTup 2 (gCons (gN 13) (gCons (gN 14) gNil))) (tAnd (tB (eB oEq (eV 13) (eV 7))) (tNot (tN (eCall [] gLarge (aC (eV 14) aN))))) (eV 14)) (gN 8)) (sSeq (sIf (tN (eFn oAny (aC (eLc [13, 14] (iSeq (fun j => decide (j ∉ ([13, 14] : List Nat))) (eV 5)) (gTup 2 (gCons (gN 13) (gCons (gN 14) gNil))) tYs (eAnd (eB oEq (eV 13) (eV 7)) (eCall [] gLarge (aC (eV 14) aN)))) aN))) (sRet (eB oEq (eCall [] gTold (aC (eV 3) (aC (eV 4) (aC (eV 7) (aC (eC (.bl true)) aN))))) (eLst (aC (eC (.str "limit")) (aC (eC (.bl true)) aN))))) sNx) (sSeq (sIf (tOr (tAnd (tN (eV 8)) (tB (eB oNe (eCall [] gTold (aC (eV 3) (aC (eV 4) (aC (eV 7) (aC (eC (.bl true)) aN))))) (eLst (aC (eB oIx (eV 8) (eC (.int 0))) aN))))) (tAnd (tNot (tN (eV 8))) (tB (eB (oIs true) (eCall [] gTold (aC (eV 3) (aC (eV 4) (aC (eV 7) (aC (eC (.bl true)) aN))))) (eC (.bl true)))))) (sRet (eC (.bl false))) sNx) (sSeq (sAsg (eLst aN) (gN 9)) (sSeq (sAsg (eV 4) (gN 10)) (sSeq (sFor (iRg1 (aC (eCall [0] gTake (aC (eV 1) (aC (eC (.int 5)) aN))) aN)) (gN 11) (sSeq (sAsg (eCall [] gLawSteps (aC (eV 3) (aC (eV 10) aN))) (gN 15)) (sSeq (sAsg (eB oIx (eB oAdd (eV 15) (eLst (aC (eTup (aC (eTup (aC (eTup aN) (aC (eC (.int 0)) aN))) (aC (eV 10) aN))) aN))) (eCall [0] gTake (aC (eV 1) (aC (eFn oMax (aC (eC (.int 1)) (aC (eFn oLen (aC (eV 15) aN)) aN))) aN)))) (gN 16)) (sIf (tAnd (tN (eV 15)) (tB (eB oLt (eFn oLen (aC (eCall [] (gPlaces 100) (aC (eB oIx (eV 16) (eC (.int 1))) aN)) aN)) (eC (.int 60))))) (sSeq (sExp (eMt .lst oApp (eV 9) (aC (eB oIx (eV 16) (eC (.int 0))) aN))) (sAsg (eB oIx (eV 16) (eC (.int 1))) (gN 10))) sNx)))) (sSeq (sIf (tAnd (tN (eV 9)) (tB (eB oEq (eCall [0] gTake (aC (eV 1) (aC (eC (.int 3)) aN))) (eC (.int 0))))) (sSeq (sAsg (eCall [0] gTake (aC (eV 1) (aC (eFn oLen (aC (eV 9) aN)) aN))) (gN 11)) (sAsg (eTup (aC (eB oIx (eB oIx (eV 9) (eV 11)) (eC (.int 0))) (aC (eB oAdd (eB oIx (eB oIx (eV 9) (eV 11)) (eC (.int 1))) (eC (.int 1))) aN))) (gSb oSt (eV 9) (eV 11)))) sNx) (sSeq (sFor (iRg1 (aC (eB oAdd (eFn oLen (aC (eV 9) aN)) (eC (.int 1))) aN)) (gN 11) (sSeq (sAsg (eCall [] gLed (aC (eV 3) (aC (eV 4) (aC (eFn oTuple (aC (eSl (eV 9) pN (pS (eV 11))) aN)) aN)))) (gN 10)) (sIf (tAnd (tB (eB (oIs true) (eV 10) (eC .non))) (tN (eCall [] gLarge (aC (eV 10) aN)))) (sRet (eC (.bl true))) sNx))) (sSeq (sAsg (eCall [] gLed (aC (eV 3) (aC (eV 4) (aC (eFn oTuple (aC (eV 9) aN)) aN)))) (gN 12)) (sSeq (sAsg (eCall [] gTold (aC (eV 3) (aC (eV 4) (aC (eFn oTuple (aC (eV 9) aN)) (aC (eC (.bl false)) aN))))) (gN 13)) (sSeq (sIf (tB (eB (oIs false) (eV 12) (eC .non))) (sRet (eB (oIs false) (eV 13) (eC (.bl true)))) sNx) (sRet (eB oEq (eV 13) (eLst (aC (eV 12) aN))))))))))))))))) (endN [] Q R) [x0, some (.ml l), x2, some (.p (sysD s)), some (.p t.d), some (.ml ((succR s t).map scD)), x6, x7, none, none, none, none, none, none, x14, none, none] := by
  have hz : 20000 < sizeLine := by decide
  have hpl := poss_len t
  have htp := List.length_pos_of_mem (poss_nil t)
  refine ⟨t, rfl, ⟨by omega, by omega, okt⟩, by show 6 < 17; decide, ?_⟩
  refine ⟨l, c, (((t.poss.map posD).length : Nat) : Int), rfl, hd, by rw [List.length_map]; omega, by rw [List.length_map]; omega, fun r1 l1 a0 a1 hl1 => ?_⟩
  obtain ⟨d, hat, hm⟩ := at_pos (l := t.poss.map posD) a0 a1
  obtain ⟨p, hp, rfl⟩ := List.mem_map.mp hm
  show match atI (t.poss.map posD) r1 with | some d => _ | none => False
  rw [hat]
  refine ⟨Nat.zero_le _, by show 1 ≤ sizeLine; decide, by show 1 ≤ sizeLine; decide, by show 3 ≤ sizeLine; decide, l1, _, 3, rfl, hl1, by decide, by decide, fun r2 l2 b0 b1 hl2 => ?_⟩
  obtain ⟨d, hat2, hm2⟩ := at_pos (l := [D.tup [], .tup [.int 0], .tup [.int (0 - 1)]]) b0 b1
  show match atI [D.tup [], .tup [.int 0], .tup [.int (0 - 1)]] r2 with | some d => _ | none => False
  rw [hat2]
  obtain ⟨e, rfl, he⟩ : ∃ e : List Int, d = .tup (e.map .int) ∧ e.length ≤ 1 := by
    rcases List.mem_cons.mp hm2 with rfl | hm2
    · exact ⟨[], rfl, by decide⟩
    · rcases List.mem_cons.mp hm2 with rfl | hm2
      · exact ⟨[0], rfl, by decide⟩
      · rw [List.mem_singleton.mp hm2]
        exact ⟨[0 - 1], rfl, by decide⟩
  have il : (iL p).length = p.length := by simp [iL]
  have pb := poss_bound hp okt
  refine ⟨by rw [List.length_map, List.length_map]; omega, l2, _, 6, rfl, hl2, by decide, by decide, fun r3 l3 c0 c1 hl3 => ⟨by show 2 ≤ sizeLine; decide, by show 7 < 17; decide, ?_⟩⟩
  suffices mid : (sSeq (sAsg (eLc [13, 14] (iSeq (fun j => decide (j ∉ ([13, 14] : List Nat))) (eV 5)) (gTup 2 (gCons (gN 13) (gCons (gN 14) gNil))) (tAnd (tB (eB oEq (eV 13) (eV 7))) (tNot (tN (eCall [] gLarge (aC (eV 14) aN))))) (eV 14)) (gN 8)) (sSeq (sIf (tN (eFn oAny (aC (eLc [13, 14] (iSeq (fun j => decide (j ∉ ([13, 14] : List Nat))) (eV 5)) (gTup 2 (gCons (gN 13) (gCons (gN 14) gNil))) tYs (eAnd (eB oEq (eV 13) (eV 7)) (eCall [] gLarge (aC (eV 14) aN)))) aN))) (sRet (eB oEq (eCall [] gTold (aC (eV 3) (aC (eV 4) (aC (eV 7) (aC (eC (.bl true)) aN))))) (eLst (aC (eC (.str "limit")) (aC (eC (.bl true)) aN))))) sNx) (sSeq (sIf (tOr (tAnd (tN (eV 8)) (tB (eB oNe (eCall [] gTold (aC (eV 3) (aC (eV 4) (aC (eV 7) (aC (eC (.bl true)) aN))))) (eLst (aC (eB oIx (eV 8) (eC (.int 0))) aN))))) (tAnd (tNot (tN (eV 8))) (tB (eB (oIs true) (eCall [] gTold (aC (eV 3) (aC (eV 4) (aC (eV 7) (aC (eC (.bl true)) aN))))) (eC (.bl true)))))) (sRet (eC (.bl false))) sNx) (sSeq (sAsg (eLst aN) (gN 9)) (sSeq (sAsg (eV 4) (gN 10)) (sSeq (sFor (iRg1 (aC (eCall [0] gTake (aC (eV 1) (aC (eC (.int 5)) aN))) aN)) (gN 11) (sSeq (sAsg (eCall [] gLawSteps (aC (eV 3) (aC (eV 10) aN))) (gN 15)) (sSeq (sAsg (eB oIx (eB oAdd (eV 15) (eLst (aC (eTup (aC (eTup (aC (eTup aN) (aC (eC (.int 0)) aN))) (aC (eV 10) aN))) aN))) (eCall [0] gTake (aC (eV 1) (aC (eFn oMax (aC (eC (.int 1)) (aC (eFn oLen (aC (eV 15) aN)) aN))) aN)))) (gN 16)) (sIf (tAnd (tN (eV 15)) (tB (eB oLt (eFn oLen (aC (eCall [] (gPlaces 100) (aC (eB oIx (eV 16) (eC (.int 1))) aN)) aN)) (eC (.int 60))))) (sSeq (sExp (eMt .lst oApp (eV 9) (aC (eB oIx (eV 16) (eC (.int 0))) aN))) (sAsg (eB oIx (eV 16) (eC (.int 1))) (gN 10))) sNx)))) (sSeq (sIf (tAnd (tN (eV 9)) (tB (eB oEq (eCall [0] gTake (aC (eV 1) (aC (eC (.int 3)) aN))) (eC (.int 0))))) (sSeq (sAsg (eCall [0] gTake (aC (eV 1) (aC (eFn oLen (aC (eV 9) aN)) aN))) (gN 11)) (sAsg (eTup (aC (eB oIx (eB oIx (eV 9) (eV 11)) (eC (.int 0))) (aC (eB oAdd (eB oIx (eB oIx (eV 9) (eV 11)) (eC (.int 1))) (eC (.int 1))) aN))) (gSb oSt (eV 9) (eV 11)))) sNx) (sSeq (sFor (iRg1 (aC (eB oAdd (eFn oLen (aC (eV 9) aN)) (eC (.int 1))) aN)) (gN 11) (sSeq (sAsg (eCall [] gLed (aC (eV 3) (aC (eV 4) (aC (eFn oTuple (aC (eSl (eV 9) pN (pS (eV 11))) aN)) aN)))) (gN 10)) (sIf (tAnd (tB (eB (oIs true) (eV 10) (eC .non))) (tN (eCall [] gLarge (aC (eV 10) aN)))) (sRet (eC (.bl true))) sNx))) (sSeq (sAsg (eCall [] gLed (aC (eV 3) (aC (eV 4) (aC (eFn oTuple (aC (eV 9) aN)) aN)))) (gN 12)) (sSeq (sAsg (eCall [] gTold (aC (eV 3) (aC (eV 4) (aC (eFn oTuple (aC (eV 9) aN)) (aC (eC (.bl false)) aN))))) (gN 13)) (sSeq (sIf (tB (eB (oIs false) (eV 12) (eC .non))) (sRet (eB (oIs false) (eV 13) (eC (.bl true)))) sNx) (sRet (eB oEq (eV 13) (eLst (aC (eV 12) aN))))))))))))))) (endN [] Q R) [x0, some (.ml l3), x2, some (.p (sysD s)), some (.p t.d), some (.ml ((succR s t).map scD)), some (.ml (t.poss.map posD)), some (.p (.tup [.tup ((iL p).map D.int ++ e.map D.int), .int (r3 - 1)])), none, none, none, none, none, none, x14, none, none] from mid
  rw [← List.map_append]
  exact law_F (a := (iL p ++ e, r3 - 1)) h14 hs okt htn hth (by show (iL p ++ e).length < 10000; rw [List.length_append]; omega) hl3 q
theorem law_C {Q : M → List M → Prop} {R : Exc → List M → Prop} {s : List Rl} {t : Tr} {l : List D} {c : Int} {x0 x2 x6 : Option M} (hs : SysOk s) (okt : t.ok) (htn : t.n ≤ 30) (hth : t.h ≤ 6) (hd : DrOk c l) (q : Q (.p (.bl true)) []) :
    (sSeq (sFor (iSeq (fun j => decide (j ∈ ([] : List Nat))) (eSl (eV 5) pN (pS (eC (.int 3))))) (gTup 2 (gCons (gN 7) (gCons (gN 14) gNil))) (sIf (tB (eB oNe (eCall [] gTold (aC (eV 3) (aC (eV 4) (aC (eV 7) (aC (eC (.bl true)) aN))))) (eB oIx (eLst (aC (eFz (eLst (aC (eV 14) aN))) (aC (eFz (eLst (aC (eC (.str "limit")) (aC (eC (.bl true)) aN)))) aN))) (eFn oInt (aC (eCall [] gLarge (aC (eV 14) aN)) aN))))) (sRet (eC (.bl false))) sNx)) (sSeq (sAsg (eCall [] (gPlaces 100) (aC (eV 4) aN)) (gN 6)) (sSeq (sAsg (eTup (aC (eB oAdd (eB oIx (eV 6) (eCall [0] gTake (aC (eV 1) (aC (eFn oLen (aC (eV 6) aN)) aN)))) (eB oIx (eTup (aC (eTup aN) (aC (eTup (aC (eC (.int 0)) aN)) (aC (eTup (aC (eB oSub (eC (.int 0)) (eC (.int 1))) aN)) aN)))) (eCall [0] gTake (aC (eV 1) (aC (eC (.int 3)) aN))))) (aC (eB oSub (eCall [0] gTake (aC (eV 1) (aC (eC (.int 6)) aN))) (eC (.int 1))) aN))) (gN 7)) (sSeq (sAsg (eLc [13, 14] (iSeq (fun j => decide (j ∉ ([13, 14] : List Nat))) (eV 5)) (gTup 2 (gCons (gN 13) (gCons (gN 14) gNil))) (tAnd (tB (eB oEq (eV 13) (eV 7))) (tNot (tN (eCall [] gLarge (aC (eV 14) aN))))) (eV 14)) (gN 8)) (sSeq (sIf (tN (eFn oAny (aC (eLc [13, 14] (iSeq (fun j => decide (j ∉ ([13, 14] : List Nat))) (eV 5)) (gTup 2 (gCons (gN 13) (gCons (gN 14) gNil))) tYs (eAnd (eB oEq (eV 13) (eV 7)) (eCall [] gLarge (aC (eV 14) aN)))) aN))) (sRet (eB oEq (eCall [] gTold (aC (eV 3) (aC (eV 4) (aC (eV 7) (aC (eC (.bl true)) aN))))) (eLst (aC (eC (.str "limit")) (aC (eC (.bl true)) aN))))) sNx) (sSeq (sIf (tOr (tAnd (tN (eV 8)) (tB (eB oNe (eCall [] gTold (aC (eV 3) (aC (eV 4) (aC (eV 7) (aC (eC (.bl true)) aN))))) (eLst (aC (eB oIx (eV 8) (eC (.int 0))) aN))))) (tAnd (tNot (tN (eV 8))) (tB (eB (oIs true) (eCall [] gTold (aC (eV 3) (aC (eV 4) (aC (eV 7) (aC (eC (.bl true)) aN))))) (eC (.bl true)))))) (sRet (eC (.bl false))) sNx) (sSeq (sAsg (eLst aN) (gN 9)) (sSeq (sAsg (eV 4) (gN 10)) (sSeq (sFor (iRg1 (aC (eCall [0] gTake (aC (eV 1) (aC (eC (.int 5)) aN))) aN)) (gN 11) (sSeq (sAsg (eCall [] gLawSteps (aC (eV 3) (aC (eV 10) aN))) (gN 15)) (sSeq (sAsg (eB oIx (eB oAdd (eV 15) (eLst (aC (eTup (aC (eTup (aC (eTup aN) (aC (eC (.int 0)) aN))) (aC (eV 10) aN))) aN))) (eCall [0] gTake (aC (eV 1) (aC (eFn oMax (aC (eC (.int 1)) (aC (eFn oLen (aC (eV 15) aN)) aN))) aN)))) (gN 16)) (sIf (tAnd (tN (eV 15)) (tB (eB oLt (eFn oLen (aC (eCall [] (gPlaces 100) (aC (eB oIx (eV 16) (eC (.int 1))) aN)) aN)) (eC (.int 60))))) (sSeq (sExp (eMt .lst oApp (eV 9) (aC (eB oIx (eV 16) (eC (.int 0))) aN))) (sAsg (eB oIx (eV 16) (eC (.int 1))) (gN 10))) sNx)))) (sSeq (sIf (tAnd (tN (eV 9)) (tB (eB oEq (eCall [0] gTake (aC (eV 1) (aC (eC (.int 3)) aN))) (eC (.int 0))))) (sSeq (sAsg (eCall [0] gTake (aC (eV 1) (aC (eFn oLen (aC (eV 9) aN)) aN))) (gN 11)) (sAsg (eTup (aC (eB oIx (eB oIx (eV 9) (eV 11)) (eC (.int 0))) (aC (eB oAdd (eB oIx (eB oIx (eV 9) (eV 11)) (eC (.int 1))) (eC (.int 1))) aN))) (gSb oSt (eV 9) (eV 11)))) sNx) (sSeq (sFor (iRg1 (aC (eB oAdd (eFn oLen (aC (eV 9) aN)) (eC (.int 1))) aN)) (gN 11) (sSeq (sAsg (eCall [] gLed (aC (eV 3) (aC (eV 4) (aC (eFn oTuple (aC (eSl (eV 9) pN (pS (eV 11))) aN)) aN)))) (gN 10)) (sIf (tAnd (tB (eB (oIs true) (eV 10) (eC .non))) (tN (eCall [] gLarge (aC (eV 10) aN)))) (sRet (eC (.bl true))) sNx))) (sSeq (sAsg (eCall [] gLed (aC (eV 3) (aC (eV 4) (aC (eFn oTuple (aC (eV 9) aN)) aN)))) (gN 12)) (sSeq (sAsg (eCall [] gTold (aC (eV 3) (aC (eV 4) (aC (eFn oTuple (aC (eV 9) aN)) (aC (eC (.bl false)) aN))))) (gN 13)) (sSeq (sIf (tB (eB (oIs false) (eV 12) (eC .non))) (sRet (eB (oIs false) (eV 13) (eC (.bl true)))) sNx) (sRet (eB oEq (eV 13) (eLst (aC (eV 12) aN)))))))))))))))))) (endN [] Q R) [x0, some (.ml l), x2, some (.p (sysD s)), some (.p t.d), some (.ml ((succR s t).map scD)), x6, none, none, none, none, none, none, none, none, none, none] := by
  have hz : 20000 < sizeLine := by decide
  refine for_x (xs := cutD (succR s t) none (some 3)) (en := scD) (fun i st => ∃ (x7 x14 : Option M), st = [x0, some (.ml l), x2, some (.p (sysD s)), some (.p t.d), some (.ml ((succR s t).map scD)), x6, x7, none, none, none, none, none, none, x14, none, none] ∧ ∀ m, x14 = some m → isP m = true) (cut_map' _ _ _ _) ⟨none, none, rfl, fun m e => by cases e⟩ ?_ ?_
  · rintro i w st ei ⟨x7, x14, rfl, h14⟩
    have hw : w ∈ succR s t := List.mem_of_mem_drop (List.mem_of_mem_take (List.mem_of_getElem? ei))
    obtain ⟨w1, w2, w3⟩ := succ_size hs okt hw
    have hst : stepI s t (iL w.1.1, (w.1.2 : Int)) = some w.2 := stepI_mem.mpr ⟨w, hw, (s2_ask w.1).symm, rfl⟩
    have il : (iL w.1.1).length < 10000 := by
      have := poss_bound (succ_mem.mp hw).1 okt
      rw [show (iL w.1.1).length = w.1.1.length by simp [iL]]
      omega
    have keep : ∃ (x7 x14 : Option M), [x0, some (M.ml l), x2, some (.p (sysD s)), some (.p t.d), some (.ml ((succR s t).map scD)), x6, some (.p (s2D w.1)), none, none, none, none, none, none, some (.p w.2.d), none, none] = [x0, some (.ml l), x2, some (.p (sysD s)), some (.p t.d), some (.ml ((succR s t).map scD)), x6, x7, none, none, none, none, none, none, x14, none, none] ∧ ∀ m, x14 = some m → isP m = true := ⟨_, _, rfl, fun m e => by cases e; rfl⟩
    refine ⟨rfl, by show 7 < 17; decide, by show 14 < 17; decide, ?_⟩
    refine .inl ⟨s, t, (iL w.1.1, (w.1.2 : Int)), rfl, hs, okt, by omega, by omega, il, fun z => (by rw [hst] at z; cases z), fun u z y => ?_, fun u z y => ?_⟩
    · rw [hst] at z
      cases z
      refine ⟨by show 1 ≤ sizeLine; decide, by show 2 ≤ sizeLine; decide, by show 2 ≤ sizeLine; decide, w.2, rfl, ⟨by omega, by omega, w1⟩, ?_⟩
      have e0 : (if big w.2 = true then (1 : Int) else 0) = 0 := by rw [y]; rfl
      have sh := (sp_tms1 w1).shp (by omega)
      have ee : eqD (.lst [w.2.d]) (.lst [w.2.d]) = true := by
        show (eqD w.2.d w.2.d && true) = true
        rw [eqD_tm, decide_eq_true rfl]
        rfl
      show match atI [D.lst [w.2.d], D.lst limD] (if big w.2 = true then 1 else 0) with | some d => _ | none => False
      rw [e0]
      refine ⟨sh, sh, ifB (fun hc => ?_) fun _ => keep⟩
      have hc : (!eqD (.lst [w.2.d]) (.lst [w.2.d])) = true := hc
      rw [ee] at hc
      cases hc
    · rw [hst] at z
      cases z
      refine ⟨by show 1 ≤ sizeLine; decide, by show 2 ≤ sizeLine; decide, by show 2 ≤ sizeLine; decide, w.2, rfl, ⟨by omega, by omega, w1⟩, ?_⟩
      have e0 : (if big w.2 = true then (1 : Int) else 0) = 1 := by rw [y]; rfl
      show match atI [D.lst [w.2.d], D.lst limD] (if big w.2 = true then 1 else 0) with | some d => _ | none => False
      rw [e0]
      refine ⟨lim_shp, lim_shp, ifB (fun hc => ?_) fun _ => keep⟩
      have hc : (!eqD (.lst limD) (.lst limD)) = true := hc
      rw [lim_eq] at hc
      cases hc
  · rintro st ⟨x7, x14, rfl, h14⟩
    exact law_D h14 hs okt htn hth hd q
theorem sp_scs {s : List Rl} (hs : SysOk s) {t : Tr} (okt : t.ok) (hth : t.h ≤ 6) : shp (.lst ((succR s t).map scD)) = true := (sp_lst (n := 25) fun d hd => by
  obtain ⟨w, hw, rfl⟩ := List.mem_map.mp hd
  obtain ⟨w1, w2, w3⟩ := succ_size hs okt hw
  refine sp_tup (n := 24) fun d hd => ?_
  rcases List.mem_cons.mp hd with rfl | hd
  · exact (sp_s2 _).le (by omega)
  · rw [List.mem_singleton.mp hd]
    exact (sp_tm w1).le (by omega)).shp (by omega)
theorem pl_scs (l : List Sc) : pl (.lst (l.map scD)) = true := pls_all fun d hd => by
  obtain ⟨w, _, rfl⟩ := List.mem_map.mp hd
  refine pls_all fun d hd => ?_
  rcases List.mem_cons.mp hd with rfl | hd
  · exact pl_s2 _
  · rw [List.mem_singleton.mp hd]
    exact pl_tm _
theorem law_B {Q : M → List M → Prop} {R : Exc → List M → Prop} {s : List Rl} {t : Tr} {l : List D} {c : Int} {x0 x2 : Option M} (hs : SysOk s) (okt : t.ok) (htn : t.n ≤ 30) (hth : t.h ≤ 6) (hd : DrOk c l) (q : Q (.p (.bl true)) []) :
    (sSeq (sIf (tN (eFn oAny (aC (eLc [7, 14] (iSeq (fun j => decide (j ∉ ([7, 14] : List Nat))) (eV 5)) (gTup 2 (gCons (gN 7) (gCons (gN 14) gNil))) tYs (eCall [] gLarge (aC (eV 14) aN))) aN))) (sIf (tB (eB oNe (eCall [] gLawAll (aC (eV 3) (aC (eV 4) aN))) (eC (.str "limit")))) (sRet (eC (.bl false))) sNx) (sIf (tB (eB oNe (eCall [] gLawAll (aC (eV 3) (aC (eV 4) aN))) (eV 5))) (sRet (eC (.bl false))) sNx)) (sSeq (sFor (iSeq (fun j => decide (j ∈ ([] : List Nat))) (eSl (eV 5) pN (pS (eC (.int 3))))) (gTup 2 (gCons (gN 7) (gCons (gN 14) gNil))) (sIf (tB (eB oNe (eCall [] gTold (aC (eV 3) (aC (eV 4) (aC (eV 7) (aC (eC (.bl true)) aN))))) (eB oIx (eLst (aC (eFz (eLst (aC (eV 14) aN))) (aC (eFz (eLst (aC (eC (.str "limit")) (aC (eC (.bl true)) aN)))) aN))) (eFn oInt (aC (eCall [] gLarge (aC (eV 14) aN)) aN))))) (sRet (eC (.bl false))) sNx)) (sSeq (sAsg (eCall [] (gPlaces 100) (aC (eV 4) aN)) (gN 6)) (sSeq (sAsg (eTup (aC (eB oAdd (eB oIx (eV 6) (eCall [0] gTake (aC (eV 1) (aC (eFn oLen (aC (eV 6) aN)) aN)))) (eB oIx (eTup (aC (eTup aN) (aC (eTup (aC (eC (.int 0)) aN)) (aC (eTup (aC (eB oSub (eC (.int 0)) (eC (.int 1))) aN)) aN)))) (eCall [0] gTake (aC (eV 1) (aC (eC (.int 3)) aN))))) (aC (eB oSub (eCall [0] gTake (aC (eV 1) (aC (eC (.int 6)) aN))) (eC (.int 1))) aN))) (gN 7)) (sSeq (sAsg (eLc [13, 14] (iSeq (fun j => decide (j ∉ ([13, 14] : List Nat))) (eV 5)) (gTup 2 (gCons (gN 13) (gCons (gN 14) gNil))) (tAnd (tB (eB oEq (eV 13) (eV 7))) (tNot (tN (eCall [] gLarge (aC (eV 14) aN))))) (eV 14)) (gN 8)) (sSeq (sIf (tN (eFn oAny (aC (eLc [13, 14] (iSeq (fun j => decide (j ∉ ([13, 14] : List Nat))) (eV 5)) (gTup 2 (gCons (gN 13) (gCons (gN 14) gNil))) tYs (eAnd (eB oEq (eV 13) (eV 7)) (eCall [] gLarge (aC (eV 14) aN)))) aN))) (sRet (eB oEq (eCall [] gTold (aC (eV 3) (aC (eV 4) (aC (eV 7) (aC (eC (.bl true)) aN))))) (eLst (aC (eC (.str "limit")) (aC (eC (.bl true)) aN))))) sNx) (sSeq (sIf (tOr (tAnd (tN (eV 8)) (tB (eB oNe (eCall [] gTold (aC (eV 3) (aC (eV 4) (aC (eV 7) (aC (eC (.bl true)) aN))))) (eLst (aC (eB oIx (eV 8) (eC (.int 0))) aN))))) (tAnd (tNot (tN (eV 8))) (tB (eB (oIs true) (eCall [] gTold (aC (eV 3) (aC (eV 4) (aC (eV 7) (aC (eC (.bl true)) aN))))) (eC (.bl true)))))) (sRet (eC (.bl false))) sNx) (sSeq (sAsg (eLst aN) (gN 9)) (sSeq (sAsg (eV 4) (gN 10)) (sSeq (sFor (iRg1 (aC (eCall [0] gTake (aC (eV 1) (aC (eC (.int 5)) aN))) aN)) (gN 11) (sSeq (sAsg (eCall [] gLawSteps (aC (eV 3) (aC (eV 10) aN))) (gN 15)) (sSeq (sAsg (eB oIx (eB oAdd (eV 15) (eLst (aC (eTup (aC (eTup (aC (eTup aN) (aC (eC (.int 0)) aN))) (aC (eV 10) aN))) aN))) (eCall [0] gTake (aC (eV 1) (aC (eFn oMax (aC (eC (.int 1)) (aC (eFn oLen (aC (eV 15) aN)) aN))) aN)))) (gN 16)) (sIf (tAnd (tN (eV 15)) (tB (eB oLt (eFn oLen (aC (eCall [] (gPlaces 100) (aC (eB oIx (eV 16) (eC (.int 1))) aN)) aN)) (eC (.int 60))))) (sSeq (sExp (eMt .lst oApp (eV 9) (aC (eB oIx (eV 16) (eC (.int 0))) aN))) (sAsg (eB oIx (eV 16) (eC (.int 1))) (gN 10))) sNx)))) (sSeq (sIf (tAnd (tN (eV 9)) (tB (eB oEq (eCall [0] gTake (aC (eV 1) (aC (eC (.int 3)) aN))) (eC (.int 0))))) (sSeq (sAsg (eCall [0] gTake (aC (eV 1) (aC (eFn oLen (aC (eV 9) aN)) aN))) (gN 11)) (sAsg (eTup (aC (eB oIx (eB oIx (eV 9) (eV 11)) (eC (.int 0))) (aC (eB oAdd (eB oIx (eB oIx (eV 9) (eV 11)) (eC (.int 1))) (eC (.int 1))) aN))) (gSb oSt (eV 9) (eV 11)))) sNx) (sSeq (sFor (iRg1 (aC (eB oAdd (eFn oLen (aC (eV 9) aN)) (eC (.int 1))) aN)) (gN 11) (sSeq (sAsg (eCall [] gLed (aC (eV 3) (aC (eV 4) (aC (eFn oTuple (aC (eSl (eV 9) pN (pS (eV 11))) aN)) aN)))) (gN 10)) (sIf (tAnd (tB (eB (oIs true) (eV 10) (eC .non))) (tN (eCall [] gLarge (aC (eV 10) aN)))) (sRet (eC (.bl true))) sNx))) (sSeq (sAsg (eCall [] gLed (aC (eV 3) (aC (eV 4) (aC (eFn oTuple (aC (eV 9) aN)) aN)))) (gN 12)) (sSeq (sAsg (eCall [] gTold (aC (eV 3) (aC (eV 4) (aC (eFn oTuple (aC (eV 9) aN)) (aC (eC (.bl false)) aN))))) (gN 13)) (sSeq (sIf (tB (eB (oIs false) (eV 12) (eC .non))) (sRet (eB (oIs false) (eV 13) (eC (.bl true)))) sNx) (sRet (eB oEq (eV 13) (eLst (aC (eV 12) aN))))))))))))))))))) (endN [] Q R) [x0, some (.ml l), x2, some (.p (sysD s)), some (.p t.d), some (.ml ((succR s t).map scD)), none, none, none, none, none, none, none, none, none, none, none] := by
  have hz : 20000 < sizeLine := by decide
  have sl := succR_len hs (t := t) (by omega)
  have next := law_C (x0 := x0) (x2 := x2) (x6 := none) (R := R) hs okt htn hth hd q
  refine ⟨rfl, ⟨_, rfl⟩, ?_⟩
  refine lc_2s (j := 7) (k := 14) (kk := 5) (xs := succR s t) (en1 := fun w => s2D w.1) (en2 := fun w => w.2.d) (fun _ => true) (fun w => .bl (big w.2)) rfl (by omega) (own_none2 rfl rfl) (by show 7 < 17; decide) (by show 14 < 17; decide) (by decide) (fun w hw Q hq => hq) (fun w hw _ Q hq => ?_) ?_
  · obtain ⟨w1, w2, w3⟩ := succ_size hs okt hw
    exact ⟨w.2, rfl, ⟨by omega, by omega, w1⟩, hq⟩
  · rw [List.filter_eq_self.mpr fun _ _ => rfl]
    have eb : blsD ((succR s t).map fun w => D.bl (big w.2)) = some ((succR s t).map fun w => big w.2) := by
      have := bls_map ((succR s t).map fun w => big w.2)
      rw [List.map_map] at this
      exact this
    show match (some ((succR s t).map fun w => D.bl (big w.2))).bind blsD with | some bs => _ | none => False
    rw [Option.bind_some, eb]
    refine ifB (fun hc => ?_) fun hc => ?_
    · have hc : (((succR s t).map fun w => big w.2).any id) = true := hc
      rw [List.any_map, List.any_eq_true] at hc
      obtain ⟨w, hw, hc⟩ := hc
      have hc : big w.2 = true := hc
      refine ⟨s, t, rfl, hs, okt, by omega, by omega, fun z => (by rw [z w hw] at hc; cases hc), fun _ => ⟨by decide +kernel, by decide +kernel, ?_⟩⟩
      refine ifB (fun hc => ?_) fun _ => next
      have e : (!eqD (.str "limit") (.str "limit")) = false := by decide +kernel
      have hc : (!eqD (.str "limit") (.str "limit")) = true := hc
      rw [e] at hc
      cases hc
    · have hc : (((succR s t).map fun w => big w.2).any id) = false := hc
      rw [List.any_map, List.any_eq_false] at hc
      have hb : ∀ w ∈ succR s t, big w.2 = false := fun w hw => by
        have := hc w hw
        cases h : big w.2 with
        | false => rfl
        | true => exact absurd h this
      refine ⟨s, t, rfl, hs, okt, by omega, by omega, fun _ => ⟨sp_scs hs okt hth, sp_scs hs okt hth, ?_⟩, fun ⟨w, hw, z⟩ => (by rw [hb w hw] at z; cases z)⟩
      refine ifB (fun hc => ?_) fun _ => next
      have hc : (!eqD (.lst ((succR s t).map scD)) (.lst ((succR s t).map scD))) = true := hc
      rw [eqD_pl (pl_scs _) (pl_scs _), decide_eq_true rfl] at hc
      cases hc
theorem law_read : ∀ ms Q R, gLaw 63 ms Q R → w_law gLawAll gLarge gLed (gPlaces 100) gSig (gStart 14) gLawSteps (gSystem 4) gTake (gTermN 4) gTold (endN [] Q R) (startD 17 ms) := by
  rintro ms Q R ⟨ns, rfl, hns, q⟩
  refine ⟨ns, rfl, hns, fun l1 hl1 => ⟨by show 1 < 17; decide, l1, 14, rfl, hl1, fun sg l2 hsg hl2 => ⟨by show 2 < 17; decide, l2, 14, sg, rfl, hl2, by decide, hsg.w, fun s l3 c3 hs _ _ hl3 hc3 => ⟨by show 3 < 17; decide, ?_⟩⟩⟩⟩
  suffices mid : (sSeq (sAsg (eCall [0] (gTermN 4) (aC (eV 1) (aC (eFz (eV 2)) (aC (eFz (eLst (aC (eC (.str "x")) (aC (eC (.str "y")) aN)))) (aC (eC (.int 4)) aN))))) (gN 4)) (sSeq (sAsg (eCall [] gLawSteps (aC (eV 3) (aC (eV 4) aN))) (gN 5)) (sSeq (sIf (tN (eFn oAny (aC (eLc [7, 14] (iSeq (fun j => decide (j ∉ ([7, 14] : List Nat))) (eV 5)) (gTup 2 (gCons (gN 7) (gCons (gN 14) gNil))) tYs (eCall [] gLarge (aC (eV 14) aN))) aN))) (sIf (tB (eB oNe (eCall [] gLawAll (aC (eV 3) (aC (eV 4) aN))) (eC (.str "limit")))) (sRet (eC (.bl false))) sNx) (sIf (tB (eB oNe (eCall [] gLawAll (aC (eV 3) (aC (eV 4) aN))) (eV 5))) (sRet (eC (.bl false))) sNx)) (sSeq (sFor (iSeq (fun j => decide (j ∈ ([] : List Nat))) (eSl (eV 5) pN (pS (eC (.int 3))))) (gTup 2 (gCons (gN 7) (gCons (gN 14) gNil))) (sIf (tB (eB oNe (eCall [] gTold (aC (eV 3) (aC (eV 4) (aC (eV 7) (aC (eC (.bl true)) aN))))) (eB oIx (eLst (aC (eFz (eLst (aC (eV 14) aN))) (aC (eFz (eLst (aC (eC (.str "limit")) (aC (eC (.bl true)) aN)))) aN))) (eFn oInt (aC (eCall [] gLarge (aC (eV 14) aN)) aN))))) (sRet (eC (.bl false))) sNx)) (sSeq (sAsg (eCall [] (gPlaces 100) (aC (eV 4) aN)) (gN 6)) (sSeq (sAsg (eTup (aC (eB oAdd (eB oIx (eV 6) (eCall [0] gTake (aC (eV 1) (aC (eFn oLen (aC (eV 6) aN)) aN)))) (eB oIx (eTup (aC (eTup aN) (aC (eTup (aC (eC (.int 0)) aN)) (aC (eTup (aC (eB oSub (eC (.int 0)) (eC (.int 1))) aN)) aN)))) (eCall [0] gTake (aC (eV 1) (aC (eC (.int 3)) aN))))) (aC (eB oSub (eCall [0] gTake (aC (eV 1) (aC (eC (.int 6)) aN))) (eC (.int 1))) aN))) (gN 7)) (sSeq (sAsg (eLc [13, 14] (iSeq (fun j => decide (j ∉ ([13, 14] : List Nat))) (eV 5)) (gTup 2 (gCons (gN 13) (gCons (gN 14) gNil))) (tAnd (tB (eB oEq (eV 13) (eV 7))) (tNot (tN (eCall [] gLarge (aC (eV 14) aN))))) (eV 14)) (gN 8)) (sSeq (sIf (tN (eFn oAny (aC (eLc [13, 14] (iSeq (fun j => decide (j ∉ ([13, 14] : List Nat))) (eV 5)) (gTup 2 (gCons (gN 13) (gCons (gN 14) gNil))) tYs (eAnd (eB oEq (eV 13) (eV 7)) (eCall [] gLarge (aC (eV 14) aN)))) aN))) (sRet (eB oEq (eCall [] gTold (aC (eV 3) (aC (eV 4) (aC (eV 7) (aC (eC (.bl true)) aN))))) (eLst (aC (eC (.str "limit")) (aC (eC (.bl true)) aN))))) sNx) (sSeq (sIf (tOr (tAnd (tN (eV 8)) (tB (eB oNe (eCall [] gTold (aC (eV 3) (aC (eV 4) (aC (eV 7) (aC (eC (.bl true)) aN))))) (eLst (aC (eB oIx (eV 8) (eC (.int 0))) aN))))) (tAnd (tNot (tN (eV 8))) (tB (eB (oIs true) (eCall [] gTold (aC (eV 3) (aC (eV 4) (aC (eV 7) (aC (eC (.bl true)) aN))))) (eC (.bl true)))))) (sRet (eC (.bl false))) sNx) (sSeq (sAsg (eLst aN) (gN 9)) (sSeq (sAsg (eV 4) (gN 10)) (sSeq (sFor (iRg1 (aC (eCall [0] gTake (aC (eV 1) (aC (eC (.int 5)) aN))) aN)) (gN 11) (sSeq (sAsg (eCall [] gLawSteps (aC (eV 3) (aC (eV 10) aN))) (gN 15)) (sSeq (sAsg (eB oIx (eB oAdd (eV 15) (eLst (aC (eTup (aC (eTup (aC (eTup aN) (aC (eC (.int 0)) aN))) (aC (eV 10) aN))) aN))) (eCall [0] gTake (aC (eV 1) (aC (eFn oMax (aC (eC (.int 1)) (aC (eFn oLen (aC (eV 15) aN)) aN))) aN)))) (gN 16)) (sIf (tAnd (tN (eV 15)) (tB (eB oLt (eFn oLen (aC (eCall [] (gPlaces 100) (aC (eB oIx (eV 16) (eC (.int 1))) aN)) aN)) (eC (.int 60))))) (sSeq (sExp (eMt .lst oApp (eV 9) (aC (eB oIx (eV 16) (eC (.int 0))) aN))) (sAsg (eB oIx (eV 16) (eC (.int 1))) (gN 10))) sNx)))) (sSeq (sIf (tAnd (tN (eV 9)) (tB (eB oEq (eCall [0] gTake (aC (eV 1) (aC (eC (.int 3)) aN))) (eC (.int 0))))) (sSeq (sAsg (eCall [0] gTake (aC (eV 1) (aC (eFn oLen (aC (eV 9) aN)) aN))) (gN 11)) (sAsg (eTup (aC (eB oIx (eB oIx (eV 9) (eV 11)) (eC (.int 0))) (aC (eB oAdd (eB oIx (eB oIx (eV 9) (eV 11)) (eC (.int 1))) (eC (.int 1))) aN))) (gSb oSt (eV 9) (eV 11)))) sNx) (sSeq (sFor (iRg1 (aC (eB oAdd (eFn oLen (aC (eV 9) aN)) (eC (.int 1))) aN)) (gN 11) (sSeq (sAsg (eCall [] gLed (aC (eV 3) (aC (eV 4) (aC (eFn oTuple (aC (eSl (eV 9) pN (pS (eV 11))) aN)) aN)))) (gN 10)) (sIf (tAnd (tB (eB (oIs true) (eV 10) (eC .non))) (tN (eCall [] gLarge (aC (eV 10) aN)))) (sRet (eC (.bl true))) sNx))) (sSeq (sAsg (eCall [] gLed (aC (eV 3) (aC (eV 4) (aC (eFn oTuple (aC (eV 9) aN)) aN)))) (gN 12)) (sSeq (sAsg (eCall [] gTold (aC (eV 3) (aC (eV 4) (aC (eFn oTuple (aC (eV 9) aN)) (aC (eC (.bl false)) aN))))) (gN 13)) (sSeq (sIf (tB (eB (oIs false) (eV 12) (eC .non))) (sRet (eB (oIs false) (eV 13) (eC (.bl true)))) sNx) (sRet (eB oEq (eV 13) (eLst (aC (eV 12) aN))))))))))))))))))))) (endN [] Q R) [some (.p (.lst (ns.map D.int))), some (.ml l3), some (.p (.lst (sg.map prT))), some (.p (sysD s)), none, none, none, none, none, none, none, none, none, none, none, none, none] from mid
  refine ⟨by show 2 ≤ sizeLine; decide, 4, by decide, l3, c3, sg, ["x", "y"], rfl, hl3, hsg.w, by decide, fun t l4 ht hth h1 h2 hl4 => ⟨by show 4 < 17; decide, ?_⟩⟩
  have htn : t.n ≤ 30 := by
    by_cases h : c3 ≤ 1
    · rw [h1 h]
      decide
    · have := h2 (by omega)
      omega
  have okt := Tw.ok (fun p hp => (hsg.w.ar p hp).2) (sgns (l := ["x", "y"]) (by decide +kernel)) ht
  suffices mid : (sSeq (sAsg (eCall [] gLawSteps (aC (eV 3) (aC (eV 4) aN))) (gN 5)) (sSeq (sIf (tN (eFn oAny (aC (eLc [7, 14] (iSeq (fun j => decide (j ∉ ([7, 14] : List Nat))) (eV 5)) (gTup 2 (gCons (gN 7) (gCons (gN 14) gNil))) tYs (eCall [] gLarge (aC (eV 14) aN))) aN))) (sIf (tB (eB oNe (eCall [] gLawAll (aC (eV 3) (aC (eV 4) aN))) (eC (.str "limit")))) (sRet (eC (.bl false))) sNx) (sIf (tB (eB oNe (eCall [] gLawAll (aC (eV 3) (aC (eV 4) aN))) (eV 5))) (sRet (eC (.bl false))) sNx)) (sSeq (sFor (iSeq (fun j => decide (j ∈ ([] : List Nat))) (eSl (eV 5) pN (pS (eC (.int 3))))) (gTup 2 (gCons (gN 7) (gCons (gN 14) gNil))) (sIf (tB (eB oNe (eCall [] gTold (aC (eV 3) (aC (eV 4) (aC (eV 7) (aC (eC (.bl true)) aN))))) (eB oIx (eLst (aC (eFz (eLst (aC (eV 14) aN))) (aC (eFz (eLst (aC (eC (.str "limit")) (aC (eC (.bl true)) aN)))) aN))) (eFn oInt (aC (eCall [] gLarge (aC (eV 14) aN)) aN))))) (sRet (eC (.bl false))) sNx)) (sSeq (sAsg (eCall [] (gPlaces 100) (aC (eV 4) aN)) (gN 6)) (sSeq (sAsg (eTup (aC (eB oAdd (eB oIx (eV 6) (eCall [0] gTake (aC (eV 1) (aC (eFn oLen (aC (eV 6) aN)) aN)))) (eB oIx (eTup (aC (eTup aN) (aC (eTup (aC (eC (.int 0)) aN)) (aC (eTup (aC (eB oSub (eC (.int 0)) (eC (.int 1))) aN)) aN)))) (eCall [0] gTake (aC (eV 1) (aC (eC (.int 3)) aN))))) (aC (eB oSub (eCall [0] gTake (aC (eV 1) (aC (eC (.int 6)) aN))) (eC (.int 1))) aN))) (gN 7)) (sSeq (sAsg (eLc [13, 14] (iSeq (fun j => decide (j ∉ ([13, 14] : List Nat))) (eV 5)) (gTup 2 (gCons (gN 13) (gCons (gN 14) gNil))) (tAnd (tB (eB oEq (eV 13) (eV 7))) (tNot (tN (eCall [] gLarge (aC (eV 14) aN))))) (eV 14)) (gN 8)) (sSeq (sIf (tN (eFn oAny (aC (eLc [13, 14] (iSeq (fun j => decide (j ∉ ([13, 14] : List Nat))) (eV 5)) (gTup 2 (gCons (gN 13) (gCons (gN 14) gNil))) tYs (eAnd (eB oEq (eV 13) (eV 7)) (eCall [] gLarge (aC (eV 14) aN)))) aN))) (sRet (eB oEq (eCall [] gTold (aC (eV 3) (aC (eV 4) (aC (eV 7) (aC (eC (.bl true)) aN))))) (eLst (aC (eC (.str "limit")) (aC (eC (.bl true)) aN))))) sNx) (sSeq (sIf (tOr (tAnd (tN (eV 8)) (tB (eB oNe (eCall [] gTold (aC (eV 3) (aC (eV 4) (aC (eV 7) (aC (eC (.bl true)) aN))))) (eLst (aC (eB oIx (eV 8) (eC (.int 0))) aN))))) (tAnd (tNot (tN (eV 8))) (tB (eB (oIs true) (eCall [] gTold (aC (eV 3) (aC (eV 4) (aC (eV 7) (aC (eC (.bl true)) aN))))) (eC (.bl true)))))) (sRet (eC (.bl false))) sNx) (sSeq (sAsg (eLst aN) (gN 9)) (sSeq (sAsg (eV 4) (gN 10)) (sSeq (sFor (iRg1 (aC (eCall [0] gTake (aC (eV 1) (aC (eC (.int 5)) aN))) aN)) (gN 11) (sSeq (sAsg (eCall [] gLawSteps (aC (eV 3) (aC (eV 10) aN))) (gN 15)) (sSeq (sAsg (eB oIx (eB oAdd (eV 15) (eLst (aC (eTup (aC (eTup (aC (eTup aN) (aC (eC (.int 0)) aN))) (aC (eV 10) aN))) aN))) (eCall [0] gTake (aC (eV 1) (aC (eFn oMax (aC (eC (.int 1)) (aC (eFn oLen (aC (eV 15) aN)) aN))) aN)))) (gN 16)) (sIf (tAnd (tN (eV 15)) (tB (eB oLt (eFn oLen (aC (eCall [] (gPlaces 100) (aC (eB oIx (eV 16) (eC (.int 1))) aN)) aN)) (eC (.int 60))))) (sSeq (sExp (eMt .lst oApp (eV 9) (aC (eB oIx (eV 16) (eC (.int 0))) aN))) (sAsg (eB oIx (eV 16) (eC (.int 1))) (gN 10))) sNx)))) (sSeq (sIf (tAnd (tN (eV 9)) (tB (eB oEq (eCall [0] gTake (aC (eV 1) (aC (eC (.int 3)) aN))) (eC (.int 0))))) (sSeq (sAsg (eCall [0] gTake (aC (eV 1) (aC (eFn oLen (aC (eV 9) aN)) aN))) (gN 11)) (sAsg (eTup (aC (eB oIx (eB oIx (eV 9) (eV 11)) (eC (.int 0))) (aC (eB oAdd (eB oIx (eB oIx (eV 9) (eV 11)) (eC (.int 1))) (eC (.int 1))) aN))) (gSb oSt (eV 9) (eV 11)))) sNx) (sSeq (sFor (iRg1 (aC (eB oAdd (eFn oLen (aC (eV 9) aN)) (eC (.int 1))) aN)) (gN 11) (sSeq (sAsg (eCall [] gLed (aC (eV 3) (aC (eV 4) (aC (eFn oTuple (aC (eSl (eV 9) pN (pS (eV 11))) aN)) aN)))) (gN 10)) (sIf (tAnd (tB (eB (oIs true) (eV 10) (eC .non))) (tN (eCall [] gLarge (aC (eV 10) aN)))) (sRet (eC (.bl true))) sNx))) (sSeq (sAsg (eCall [] gLed (aC (eV 3) (aC (eV 4) (aC (eFn oTuple (aC (eV 9) aN)) aN)))) (gN 12)) (sSeq (sAsg (eCall [] gTold (aC (eV 3) (aC (eV 4) (aC (eFn oTuple (aC (eV 9) aN)) (aC (eC (.bl false)) aN))))) (gN 13)) (sSeq (sIf (tB (eB (oIs false) (eV 12) (eC .non))) (sRet (eB (oIs false) (eV 13) (eC (.bl true)))) sNx) (sRet (eB oEq (eV 13) (eLst (aC (eV 12) aN)))))))))))))))))))) (endN [] Q R) [some (.p (.lst (ns.map D.int))), some (.ml l4), some (.p (.lst (sg.map prT))), some (.p (sysD s)), some (.p t.d), none, none, none, none, none, none, none, none, none, none, none, none] from mid
  refine ⟨s, t, rfl, hs, okt, by omega, by omega, by show 5 < 17; decide, ?_⟩
  exact law_B hs okt htn (by omega) hl4 q
def law_k : Nat := 140
theorem law_Df {G : Pg} (T : Tk G) : Df G "law" ["_law_script"] law_k [] (gLaw 63) :=
  ok_law T (k := 139) ((D__law_all T 0).le (by decide)) ((D__law_large T 0).le (by decide)) ((D__law_led T 0).le (by decide)) ((D__law_places T 100 0).le (by decide)) ((D__law_signature T 0).le (by decide)) ((D__law_start T 0).le (by decide)) ((D__law_steps T 0).le (by decide)) ((D__law_system T 4 (by decide) 0).le (by decide)) ((D__law_take T 0).le (by decide)) ((D_term_N T 4 0).le (by decide)) ((D__law_told T 0).le (by decide)) (gLaw.mono 63) (fun ms Q R ⟨ns, e, _⟩ => by rw [e]; rfl) law_read
end Sd
namespace Sd
open PySem PySem.Spec PyProof.Rows L2
theorem all_mk {pr : Program} {w : World} {K : PySem.W.Frag} {h : Heap} {mg : Str → Option Value} {fa : Addr} (X : K.In h) (Gm : h.Ns mainGlobals mg) (hfa : mg "law" = some (.ref fa))
    {f0 : Addr} {od0 an0 : Option Addr} {sl0 : Array (Option Value)} {oc0 kV0 dc0 pm0 cd0 ct0 : Value}
    {f1 : Addr} {od1 an1 : Option Addr} {sl1 : Array (Option Value)} {oc1 kV1 dc1 pm1 cd1 ct1 : Value}
    {f2 : Addr} {od2 an2 : Option Addr} {sl2 : Array (Option Value)} {oc2 kV2 dc2 pm2 cd2 ct2 : Value}
    {f3 : Addr} {od3 an3 : Option Addr} {sl3 : Array (Option Value)} {oc3 kV3 dc3 pm3 cd3 ct3 : Value}
    {f4 : Addr} {od4 an4 : Option Addr} {sl4 : Array (Option Value)} {oc4 kV4 dc4 pm4 cd4 ct4 : Value}
    {f5 : Addr} {od5 an5 : Option Addr} {sl5 : Array (Option Value)} {oc5 kV5 dc5 pm5 cd5 ct5 : Value}
    {f6 : Addr} {od6 an6 : Option Addr} {sl6 : Array (Option Value)} {oc6 kV6 dc6 pm6 cd6 ct6 : Value}
    {f7 : Addr} {od7 an7 : Option Addr} {sl7 : Array (Option Value)} {oc7 kV7 dc7 pm7 cd7 ct7 : Value}
    {f8 : Addr} {od8 an8 : Option Addr} {sl8 : Array (Option Value)} {oc8 kV8 dc8 pm8 cd8 ct8 : Value}
    {f9 : Addr} {od9 an9 : Option Addr} {sl9 : Array (Option Value)} {oc9 kV9 dc9 pm9 cd9 ct9 : Value}
    {f10 : Addr} {od10 an10 : Option Addr} {sl10 : Array (Option Value)} {oc10 kV10 dc10 pm10 cd10 ct10 : Value}
    {f11 : Addr} {od11 an11 : Option Addr} {sl11 : Array (Option Value)} {oc11 kV11 dc11 pm11 cd11 ct11 : Value}
    {f12 : Addr} {od12 an12 : Option Addr} {sl12 : Array (Option Value)} {oc12 kV12 dc12 pm12 cd12 ct12 : Value}
    {f13 K13 P13 : Addr} {od13 an13 : Option Addr} {sl13 : Array (Option Value)} {oc13 kV13 dc13 pm13 ct13 : Value} {mo13 : Value} {md13 : Option Addr} {mv13 : Array Value} {ms13 : Array (Option Value)}
    {f14 : Addr} {od14 an14 : Option Addr} {sl14 : Array (Option Value)} {oc14 kV14 dc14 pm14 cd14 ct14 : Value}
    {f15 : Addr} {od15 an15 : Option Addr} {sl15 : Array (Option Value)} {oc15 kV15 dc15 pm15 cd15 ct15 : Value}
    {f16 : Addr} {od16 an16 : Option Addr} {sl16 : Array (Option Value)} {oc16 kV16 dc16 pm16 cd16 ct16 : Value}
    {f17 : Addr} {od17 an17 : Option Addr} {sl17 : Array (Option Value)} {oc17 kV17 dc17 pm17 cd17 ct17 : Value}
    {f18 : Addr} {od18 an18 : Option Addr} {sl18 : Array (Option Value)} {oc18 kV18 dc18 pm18 cd18 ct18 : Value}
    {f19 : Addr} {od19 an19 : Option Addr} {sl19 : Array (Option Value)} {oc19 kV19 dc19 pm19 cd19 ct19 : Value}
    {f20 : Addr} {od20 an20 : Option Addr} {sl20 : Array (Option Value)} {oc20 kV20 dc20 pm20 cd20 ct20 : Value}
    {f21 : Addr} {od21 an21 : Option Addr} {sl21 : Array (Option Value)} {oc21 kV21 dc21 pm21 cd21 ct21 : Value}
    {f22 : Addr} {od22 an22 : Option Addr} {sl22 : Array (Option Value)} {oc22 kV22 dc22 pm22 cd22 ct22 : Value}
    {f23 : Addr} {od23 an23 : Option Addr} {sl23 : Array (Option Value)} {oc23 kV23 dc23 pm23 cd23 ct23 : Value}
    {f24 : Addr} {od24 an24 : Option Addr} {sl24 : Array (Option Value)} {oc24 kV24 dc24 pm24 cd24 ct24 : Value}
    {f25 : Addr} {od25 an25 : Option Addr} {sl25 : Array (Option Value)} {oc25 kV25 dc25 pm25 cd25 ct25 : Value}
    {f26 : Addr} {od26 an26 : Option Addr} {sl26 : Array (Option Value)} {oc26 kV26 dc26 pm26 cd26 ct26 : Value}
    {f27 : Addr} {od27 an27 : Option Addr} {sl27 : Array (Option Value)} {oc27 kV27 dc27 pm27 cd27 ct27 : Value}
    {f28 : Addr} {od28 an28 : Option Addr} {sl28 : Array (Option Value)} {oc28 kV28 dc28 pm28 cd28 ct28 : Value}
    {f29 : Addr} {od29 an29 : Option Addr} {sl29 : Array (Option Value)} {oc29 kV29 dc29 pm29 cd29 ct29 : Value}
    {f30 : Addr} {od30 an30 : Option Addr} {sl30 : Array (Option Value)} {oc30 kV30 dc30 pm30 cd30 ct30 : Value}
    {f31 : Addr} {od31 an31 : Option Addr} {sl31 : Array (Option Value)} {oc31 kV31 dc31 pm31 cd31 ct31 : Value}
    {f32 : Addr} {od32 an32 : Option Addr} {sl32 : Array (Option Value)} {oc32 kV32 dc32 pm32 cd32 ct32 : Value}
    {f33 : Addr} {od33 an33 : Option Addr} {sl33 : Array (Option Value)} {oc33 kV33 dc33 pm33 cd33 ct33 : Value}
    {f34 : Addr} {od34 an34 : Option Addr} {sl34 : Array (Option Value)} {oc34 kV34 dc34 pm34 cd34 ct34 : Value}
    {f35 : Addr} {od35 an35 : Option Addr} {sl35 : Array (Option Value)} {oc35 kV35 dc35 pm35 cd35 ct35 : Value}
    {f36 : Addr} {od36 an36 : Option Addr} {sl36 : Array (Option Value)} {oc36 kV36 dc36 pm36 cd36 ct36 : Value}
    {f37 : Addr} {od37 an37 : Option Addr} {sl37 : Array (Option Value)} {oc37 kV37 dc37 pm37 cd37 ct37 : Value}
    {t0 : Tok}
    {t1 : Tok}
    {C_LimitError : Addr}
    {C_StepError : Addr}
    {C_SubsideError : Addr}
    {C_TextError : Addr}
    (a0 : PySem.W.nsIn K mainGlobals "is_variable" = some (some (.ref f0))) (l0 : K.lookup f0 = some ⟨oc0, od0, .func (PySem.W.fnOf "is_variable" "is_variable" (defArgs s_is_variable) (defBody s_is_variable) (defScope s_is_variable) .none kV0 dc0 pm0 an0 cd0 ct0), sl0⟩) (c0 : PySem.W.codeIn K cd0 "is_variable" = true) (k0 : PySem.W.keepIn K (.ref f0) = true)
    (a1 : PySem.W.nsIn K mainGlobals "inner" = some (some (.ref f1))) (l1 : K.lookup f1 = some ⟨oc1, od1, .func (PySem.W.fnOf "inner" "inner" (defArgs s_inner) (defBody s_inner) (defScope s_inner) .none kV1 dc1 pm1 an1 cd1 ct1), sl1⟩) (c1 : PySem.W.codeIn K cd1 "inner" = true) (k1 : PySem.W.keepIn K (.ref f1) = true)
    (a2 : PySem.W.nsIn K mainGlobals "same" = some (some (.ref f2))) (l2 : K.lookup f2 = some ⟨oc2, od2, .func (PySem.W.fnOf "same" "same" (defArgs s_same) (defBody s_same) (defScope s_same) .none kV2 dc2 pm2 an2 cd2 ct2), sl2⟩) (c2 : PySem.W.codeIn K cd2 "same" = true) (k2 : PySem.W.keepIn K (.ref f2) = true)
    (a3 : PySem.W.nsIn K mainGlobals "parts" = some (some (.ref f3))) (l3 : K.lookup f3 = some ⟨oc3, od3, .func (PySem.W.fnOf "parts" "parts" (defArgs s_parts) (defBody s_parts) (defScope s_parts) .none kV3 dc3 pm3 an3 cd3 ct3), sl3⟩) (c3 : PySem.W.codeIn K cd3 "parts" = true) (k3 : PySem.W.keepIn K (.ref f3) = true)
    (a4 : PySem.W.nsIn K mainGlobals "size" = some (some (.ref f4))) (l4 : K.lookup f4 = some ⟨oc4, od4, .func (PySem.W.fnOf "size" "size" (defArgs s_size) (defBody s_size) (defScope s_size) .none kV4 dc4 pm4 an4 cd4 ct4), sl4⟩) (c4 : PySem.W.codeIn K cd4 "size" = true) (k4 : PySem.W.keepIn K (.ref f4) = true)
    (a5 : PySem.W.nsIn K mainGlobals "depth" = some (some (.ref f5))) (l5 : K.lookup f5 = some ⟨oc5, od5, .func (PySem.W.fnOf "depth" "depth" (defArgs s_depth) (defBody s_depth) (defScope s_depth) .none kV5 dc5 pm5 an5 cd5 ct5), sl5⟩) (c5 : PySem.W.codeIn K cd5 "depth" = true) (k5 : PySem.W.keepIn K (.ref f5) = true)
    (a6 : PySem.W.nsIn K mainGlobals "positions" = some (some (.ref f6))) (l6 : K.lookup f6 = some ⟨oc6, od6, .func (PySem.W.fnOf "positions" "positions" (defArgs s_positions) (defBody s_positions) (defScope s_positions) .none kV6 dc6 pm6 an6 cd6 ct6), sl6⟩) (c6 : PySem.W.codeIn K cd6 "positions" = true) (k6 : PySem.W.keepIn K (.ref f6) = true)
    (a7 : PySem.W.nsIn K mainGlobals "at" = some (some (.ref f7))) (l7 : K.lookup f7 = some ⟨oc7, od7, .func (PySem.W.fnOf "at" "at" (defArgs s_at) (defBody s_at) (defScope s_at) .none kV7 dc7 pm7 an7 cd7 ct7), sl7⟩) (c7 : PySem.W.codeIn K cd7 "at" = true) (k7 : PySem.W.keepIn K (.ref f7) = true)
    (a8 : PySem.W.nsIn K mainGlobals "put" = some (some (.ref f8))) (l8 : K.lookup f8 = some ⟨oc8, od8, .func (PySem.W.fnOf "put" "put" (defArgs s_put) (defBody s_put) (defScope s_put) .none kV8 dc8 pm8 an8 cd8 ct8), sl8⟩) (c8 : PySem.W.codeIn K cd8 "put" = true) (k8 : PySem.W.keepIn K (.ref f8) = true)
    (a9 : PySem.W.nsIn K mainGlobals "need_small" = some (some (.ref f9))) (l9 : K.lookup f9 = some ⟨oc9, od9, .func (PySem.W.fnOf "need_small" "need_small" (defArgs s_need_small) (defBody s_need_small) (defScope s_need_small) .none kV9 dc9 pm9 an9 cd9 ct9), sl9⟩) (c9 : PySem.W.codeIn K cd9 "need_small" = true) (k9 : PySem.W.keepIn K (.ref f9) = true)
    (a10 : PySem.W.nsIn K mainGlobals "variables" = some (some (.ref f10))) (l10 : K.lookup f10 = some ⟨oc10, od10, .func (PySem.W.fnOf "variables" "variables" (defArgs s_variables) (defBody s_variables) (defScope s_variables) .none kV10 dc10 pm10 an10 cd10 ct10), sl10⟩) (c10 : PySem.W.codeIn K cd10 "variables" = true) (k10 : PySem.W.keepIn K (.ref f10) = true)
    (a11 : PySem.W.nsIn K mainGlobals "rebuilt" = some (some (.ref f11))) (l11 : K.lookup f11 = some ⟨oc11, od11, .func (PySem.W.fnOf "rebuilt" "rebuilt" (defArgs s_rebuilt) (defBody s_rebuilt) (defScope s_rebuilt) .none kV11 dc11 pm11 an11 cd11 ct11), sl11⟩) (c11 : PySem.W.codeIn K cd11 "rebuilt" = true) (k11 : PySem.W.keepIn K (.ref f11) = true)
    (a12 : PySem.W.nsIn K mainGlobals "measure" = some (some (.ref f12))) (l12 : K.lookup f12 = some ⟨oc12, od12, .func (PySem.W.fnOf "measure" "measure" (defArgs s_measure) (defBody s_measure) (defScope s_measure) .none kV12 dc12 pm12 an12 cd12 ct12), sl12⟩) (c12 : PySem.W.codeIn K cd12 "measure" = true) (k12 : PySem.W.keepIn K (.ref f12) = true)
    (a13 : PySem.W.nsIn K mainGlobals "apply" = some (some (.ref f13))) (l13 : K.lookup f13 = some ⟨oc13, od13, .func (PySem.W.fnOf "apply" "apply" (defArgs s_apply) (defBody s_apply) (defScope s_apply) .none kV13 dc13 pm13 an13 (.ref K13) ct13), sl13⟩) (c13 : PySem.W.codeIn K (.ref K13) "apply" = true) (k13 : PySem.W.keepIn K (.ref f13) = true) (m13 : K.lookup K13 = some ⟨mo13, md13, .fields mv13, ms13⟩) (p13 : mv13[11]? = some (.ref P13)) (n13 : K.lookup P13 = none) (r13 : ((recsOf PySem.Challenge.pw_subside_k10_steps_and_derivations).find? fun e => e.name == ("apply" : Str)).isSome = true)
    (a14 : PySem.W.nsIn K mainGlobals "match" = some (some (.ref f14))) (l14 : K.lookup f14 = some ⟨oc14, od14, .func (PySem.W.fnOf "match" "match" (defArgs s_match) (defBody s_match) (defScope s_match) .none kV14 dc14 pm14 an14 cd14 ct14), sl14⟩) (c14 : PySem.W.codeIn K cd14 "match" = true) (k14 : PySem.W.keepIn K (.ref f14) = true)
    (a15 : PySem.W.nsIn K mainGlobals "rewritten" = some (some (.ref f15))) (l15 : K.lookup f15 = some ⟨oc15, od15, .func (PySem.W.fnOf "rewritten" "rewritten" (defArgs s_rewritten) (defBody s_rewritten) (defScope s_rewritten) .none kV15 dc15 pm15 an15 cd15 ct15), sl15⟩) (c15 : PySem.W.codeIn K cd15 "rewritten" = true) (k15 : PySem.W.keepIn K (.ref f15) = true)
    (a16 : PySem.W.nsIn K mainGlobals "step" = some (some (.ref f16))) (l16 : K.lookup f16 = some ⟨oc16, od16, .func (PySem.W.fnOf "step" "step" (defArgs s_step) (defBody s_step) (defScope s_step) .none kV16 dc16 pm16 an16 cd16 ct16), sl16⟩) (c16 : PySem.W.codeIn K cd16 "step" = true) (k16 : PySem.W.keepIn K (.ref f16) = true)
    (a17 : PySem.W.nsIn K mainGlobals "derive" = some (some (.ref f17))) (l17 : K.lookup f17 = some ⟨oc17, od17, .func (PySem.W.fnOf "derive" "derive" (defArgs s_derive) (defBody s_derive) (defScope s_derive) .none kV17 dc17 pm17 an17 cd17 ct17), sl17⟩) (c17 : PySem.W.codeIn K cd17 "derive" = true) (k17 : PySem.W.keepIn K (.ref f17) = true)
    (a18 : PySem.W.nsIn K mainGlobals "successors" = some (some (.ref f18))) (l18 : K.lookup f18 = some ⟨oc18, od18, .func (PySem.W.fnOf "successors" "successors" (defArgs s_successors) (defBody s_successors) (defScope s_successors) .none kV18 dc18 pm18 an18 cd18 ct18), sl18⟩) (c18 : PySem.W.codeIn K cd18 "successors" = true) (k18 : PySem.W.keepIn K (.ref f18) = true)
    (a19 : PySem.W.nsIn K mainGlobals "_law_start" = some (some (.ref f19))) (l19 : K.lookup f19 = some ⟨oc19, od19, .func (PySem.W.fnOf "_law_start" "_law_start" (defArgs s__law_start) (defBody s__law_start) (defScope s__law_start) .none kV19 dc19 pm19 an19 cd19 ct19), sl19⟩) (c19 : PySem.W.codeIn K cd19 "_law_start" = true) (k19 : PySem.W.keepIn K (.ref f19) = true)
    (a20 : PySem.W.nsIn K mainGlobals "_law_fill" = some (some (.ref f20))) (l20 : K.lookup f20 = some ⟨oc20, od20, .func (PySem.W.fnOf "_law_fill" "_law_fill" (defArgs s__law_fill) (defBody s__law_fill) (defScope s__law_fill) .none kV20 dc20 pm20 an20 cd20 ct20), sl20⟩) (c20 : PySem.W.codeIn K cd20 "_law_fill" = true) (k20 : PySem.W.keepIn K (.ref f20) = true)
    (a21 : PySem.W.nsIn K mainGlobals "_law_take" = some (some (.ref f21))) (l21 : K.lookup f21 = some ⟨oc21, od21, .func (PySem.W.fnOf "_law_take" "_law_take" (defArgs s__law_take) (defBody s__law_take) (defScope s__law_take) .none kV21 dc21 pm21 an21 cd21 ct21), sl21⟩) (c21 : PySem.W.codeIn K cd21 "_law_take" = true) (k21 : PySem.W.keepIn K (.ref f21) = true)
    (a22 : PySem.W.nsIn K mainGlobals "_law_signature" = some (some (.ref f22))) (l22 : K.lookup f22 = some ⟨oc22, od22, .func (PySem.W.fnOf "_law_signature" "_law_signature" (defArgs s__law_signature) (defBody s__law_signature) (defScope s__law_signature) .none kV22 dc22 pm22 an22 cd22 ct22), sl22⟩) (c22 : PySem.W.codeIn K cd22 "_law_signature" = true) (k22 : PySem.W.keepIn K (.ref f22) = true)
    (a23 : PySem.W.nsIn K mainGlobals "_law_term" = some (some (.ref f23))) (l23 : K.lookup f23 = some ⟨oc23, od23, .func (PySem.W.fnOf "_law_term" "_law_term" (defArgs s__law_term) (defBody s__law_term) (defScope s__law_term) .none kV23 dc23 pm23 an23 cd23 ct23), sl23⟩) (c23 : PySem.W.codeIn K cd23 "_law_term" = true) (k23 : PySem.W.keepIn K (.ref f23) = true)
    (a24 : PySem.W.nsIn K mainGlobals "_law_places" = some (some (.ref f24))) (l24 : K.lookup f24 = some ⟨oc24, od24, .func (PySem.W.fnOf "_law_places" "_law_places" (defArgs s__law_places) (defBody s__law_places) (defScope s__law_places) .none kV24 dc24 pm24 an24 cd24 ct24), sl24⟩) (c24 : PySem.W.codeIn K cd24 "_law_places" = true) (k24 : PySem.W.keepIn K (.ref f24) = true)
    (a25 : PySem.W.nsIn K mainGlobals "_law_at" = some (some (.ref f25))) (l25 : K.lookup f25 = some ⟨oc25, od25, .func (PySem.W.fnOf "_law_at" "_law_at" (defArgs s__law_at) (defBody s__law_at) (defScope s__law_at) .none kV25 dc25 pm25 an25 cd25 ct25), sl25⟩) (c25 : PySem.W.codeIn K cd25 "_law_at" = true) (k25 : PySem.W.keepIn K (.ref f25) = true)
    (a26 : PySem.W.nsIn K mainGlobals "_law_put" = some (some (.ref f26))) (l26 : K.lookup f26 = some ⟨oc26, od26, .func (PySem.W.fnOf "_law_put" "_law_put" (defArgs s__law_put) (defBody s__law_put) (defScope s__law_put) .none kV26 dc26 pm26 an26 cd26 ct26), sl26⟩) (c26 : PySem.W.codeIn K cd26 "_law_put" = true) (k26 : PySem.W.keepIn K (.ref f26) = true)
    (a27 : PySem.W.nsIn K mainGlobals "_law_names" = some (some (.ref f27))) (l27 : K.lookup f27 = some ⟨oc27, od27, .func (PySem.W.fnOf "_law_names" "_law_names" (defArgs s__law_names) (defBody s__law_names) (defScope s__law_names) .none kV27 dc27 pm27 an27 cd27 ct27), sl27⟩) (c27 : PySem.W.codeIn K cd27 "_law_names" = true) (k27 : PySem.W.keepIn K (.ref f27) = true)
    (a28 : PySem.W.nsIn K mainGlobals "_law_apply" = some (some (.ref f28))) (l28 : K.lookup f28 = some ⟨oc28, od28, .func (PySem.W.fnOf "_law_apply" "_law_apply" (defArgs s__law_apply) (defBody s__law_apply) (defScope s__law_apply) .none kV28 dc28 pm28 an28 cd28 ct28), sl28⟩) (c28 : PySem.W.codeIn K cd28 "_law_apply" = true) (k28 : PySem.W.keepIn K (.ref f28) = true)
    (a29 : PySem.W.nsIn K mainGlobals "_law_match" = some (some (.ref f29))) (l29 : K.lookup f29 = some ⟨oc29, od29, .func (PySem.W.fnOf "_law_match" "_law_match" (defArgs s__law_match) (defBody s__law_match) (defScope s__law_match) .none kV29 dc29 pm29 an29 cd29 ct29), sl29⟩) (c29 : PySem.W.codeIn K cd29 "_law_match" = true) (k29 : PySem.W.keepIn K (.ref f29) = true)
    (a30 : PySem.W.nsIn K mainGlobals "_law_rule" = some (some (.ref f30))) (l30 : K.lookup f30 = some ⟨oc30, od30, .func (PySem.W.fnOf "_law_rule" "_law_rule" (defArgs s__law_rule) (defBody s__law_rule) (defScope s__law_rule) .none kV30 dc30 pm30 an30 cd30 ct30), sl30⟩) (c30 : PySem.W.codeIn K cd30 "_law_rule" = true) (k30 : PySem.W.keepIn K (.ref f30) = true)
    (a31 : PySem.W.nsIn K mainGlobals "_law_system" = some (some (.ref f31))) (l31 : K.lookup f31 = some ⟨oc31, od31, .func (PySem.W.fnOf "_law_system" "_law_system" (defArgs s__law_system) (defBody s__law_system) (defScope s__law_system) .none kV31 dc31 pm31 an31 cd31 ct31), sl31⟩) (c31 : PySem.W.codeIn K cd31 "_law_system" = true) (k31 : PySem.W.keepIn K (.ref f31) = true)
    (a32 : PySem.W.nsIn K mainGlobals "_law_steps" = some (some (.ref f32))) (l32 : K.lookup f32 = some ⟨oc32, od32, .func (PySem.W.fnOf "_law_steps" "_law_steps" (defArgs s__law_steps) (defBody s__law_steps) (defScope s__law_steps) .none kV32 dc32 pm32 an32 cd32 ct32), sl32⟩) (c32 : PySem.W.codeIn K cd32 "_law_steps" = true) (k32 : PySem.W.keepIn K (.ref f32) = true)
    (a33 : PySem.W.nsIn K mainGlobals "_law_led" = some (some (.ref f33))) (l33 : K.lookup f33 = some ⟨oc33, od33, .func (PySem.W.fnOf "_law_led" "_law_led" (defArgs s__law_led) (defBody s__law_led) (defScope s__law_led) .none kV33 dc33 pm33 an33 cd33 ct33), sl33⟩) (c33 : PySem.W.codeIn K cd33 "_law_led" = true) (k33 : PySem.W.keepIn K (.ref f33) = true)
    (a34 : PySem.W.nsIn K mainGlobals "_law_large" = some (some (.ref f34))) (l34 : K.lookup f34 = some ⟨oc34, od34, .func (PySem.W.fnOf "_law_large" "_law_large" (defArgs s__law_large) (defBody s__law_large) (defScope s__law_large) .none kV34 dc34 pm34 an34 cd34 ct34), sl34⟩) (c34 : PySem.W.codeIn K cd34 "_law_large" = true) (k34 : PySem.W.keepIn K (.ref f34) = true)
    (a35 : PySem.W.nsIn K mainGlobals "_law_all" = some (some (.ref f35))) (l35 : K.lookup f35 = some ⟨oc35, od35, .func (PySem.W.fnOf "_law_all" "_law_all" (defArgs s__law_all) (defBody s__law_all) (defScope s__law_all) .none kV35 dc35 pm35 an35 cd35 ct35), sl35⟩) (c35 : PySem.W.codeIn K cd35 "_law_all" = true) (k35 : PySem.W.keepIn K (.ref f35) = true)
    (a36 : PySem.W.nsIn K mainGlobals "_law_told" = some (some (.ref f36))) (l36 : K.lookup f36 = some ⟨oc36, od36, .func (PySem.W.fnOf "_law_told" "_law_told" (defArgs s__law_told) (defBody s__law_told) (defScope s__law_told) .none kV36 dc36 pm36 an36 cd36 ct36), sl36⟩) (c36 : PySem.W.codeIn K cd36 "_law_told" = true) (k36 : PySem.W.keepIn K (.ref f36) = true)
    (a37 : PySem.W.nsIn K mainGlobals "law" = some (some (.ref f37))) (l37 : K.lookup f37 = some ⟨oc37, od37, .func (PySem.W.fnOf "law" "law" (defArgs s_law) (defBody s_law) (defScope s_law) .none kV37 dc37 pm37 an37 cd37 ct37), sl37⟩) (c37 : PySem.W.codeIn K cd37 "law" = true) (k37 : PySem.W.keepIn K (.ref f37) = true)
    (z0 : PySem.W.nsIn K mainGlobals "ValueError" = some none)
    (z1 : PySem.W.nsIn K mainGlobals "all" = some none)
    (z2 : PySem.W.nsIn K mainGlobals "any" = some none)
    (z3 : PySem.W.nsIn K mainGlobals "int" = some none)
    (z4 : PySem.W.nsIn K mainGlobals "isinstance" = some none)
    (z5 : PySem.W.nsIn K mainGlobals "len" = some none)
    (z6 : PySem.W.nsIn K mainGlobals "list" = some none)
    (z7 : PySem.W.nsIn K mainGlobals "max" = some none)
    (z8 : PySem.W.nsIn K mainGlobals "range" = some none)
    (z9 : PySem.W.nsIn K mainGlobals "str" = some none)
    (z10 : PySem.W.nsIn K mainGlobals "tuple" = some none)
    (z11 : PySem.W.nsIn K mainGlobals "zip" = some none)
    (q0 : PySem.W.nsIn K mainGlobals "MOST_DEPTH" = some (some (.int 40 t0)))
    (q1 : PySem.W.nsIn K mainGlobals "MOST_NODES" = some (some (.int 400 t1)))
    (e_LimitError : PySem.W.nsIn K mainGlobals "LimitError" = some (some (.ref C_LimitError))) (eb_LimitError : PySem.W.subIn K (.ref C_LimitError) (.type "BaseException") = some true) (et_LimitError : PySem.W.typeIn K (.ref C_LimitError) = some (.type "type")) (ed_LimitError : PySem.W.hasDictIn K C_LimitError = true)
    (e_StepError : PySem.W.nsIn K mainGlobals "StepError" = some (some (.ref C_StepError))) (eb_StepError : PySem.W.subIn K (.ref C_StepError) (.type "BaseException") = some true) (et_StepError : PySem.W.typeIn K (.ref C_StepError) = some (.type "type")) (ed_StepError : PySem.W.hasDictIn K C_StepError = true)
    (e_SubsideError : PySem.W.nsIn K mainGlobals "SubsideError" = some (some (.ref C_SubsideError))) (eb_SubsideError : PySem.W.subIn K (.ref C_SubsideError) (.type "BaseException") = some true) (et_SubsideError : PySem.W.typeIn K (.ref C_SubsideError) = some (.type "type")) (ed_SubsideError : PySem.W.hasDictIn K C_SubsideError = true)
    (e_TextError : PySem.W.nsIn K mainGlobals "TextError" = some (some (.ref C_TextError))) (eb_TextError : PySem.W.subIn K (.ref C_TextError) (.type "BaseException") = some true) (et_TextError : PySem.W.typeIn K (.ref C_TextError) = some (.type "type")) (ed_TextError : PySem.W.hasDictIn K C_TextError = true)
    (ek_LimitError : PySem.W.keepIn K (.ref C_LimitError) = true) (ex_LimitError : PySem.W.excIn K C_LimitError [.type "ValueError", .type "Exception", .type "BaseException", .type "object"] "ValueError.__new__" = true)
    (ek_StepError : PySem.W.keepIn K (.ref C_StepError) = true) (ex_StepError : PySem.W.excIn K C_StepError [.type "ValueError", .type "Exception", .type "BaseException", .type "object"] "ValueError.__new__" = true)
    (s_LimitError_LimitError : PySem.W.subIn K (.ref C_LimitError) (.ref C_LimitError) = some true)
    (s_StepError_LimitError : PySem.W.subIn K (.ref C_StepError) (.ref C_LimitError) = some false)
    (s_TextError_LimitError : PySem.W.subIn K (.ref C_TextError) (.ref C_LimitError) = some false)
    (s_LimitError_StepError : PySem.W.subIn K (.ref C_LimitError) (.ref C_StepError) = some false)
    (s_StepError_StepError : PySem.W.subIn K (.ref C_StepError) (.ref C_StepError) = some true)
    (s_TextError_StepError : PySem.W.subIn K (.ref C_TextError) (.ref C_StepError) = some false)
    (ig_LimitError : PySem.W.findIn K (.ref C_LimitError) "__getattribute__" = some (some (.builtin "BaseException.__getattribute__"))) (ih_LimitError : PySem.W.findIn K (.ref C_LimitError) "__getattr__" = some none) (ia_LimitError : PySem.W.findIn K (.ref C_LimitError) "__class__" = some (some (.builtin "object.__class__"))) (im_LimitError : PySem.W.mroIn K C_LimitError (.type "object") = some true)
    (in_ : PySem.W.specialIn K (.builtin "object.__class__") "__get__" = some (some (.builtin "getset_descriptor.__get__"))) (it_ : PySem.W.takesIn K (.builtin "object.__class__") = some true)
    (s_LimitError_SubsideError : PySem.W.subIn K (.ref C_LimitError) (.ref C_SubsideError) = some true)
    (ig_StepError : PySem.W.findIn K (.ref C_StepError) "__getattribute__" = some (some (.builtin "BaseException.__getattribute__"))) (ih_StepError : PySem.W.findIn K (.ref C_StepError) "__getattr__" = some none) (ia_StepError : PySem.W.findIn K (.ref C_StepError) "__class__" = some (some (.builtin "object.__class__"))) (im_StepError : PySem.W.mroIn K C_StepError (.type "object") = some true)
    (s_StepError_SubsideError : PySem.W.subIn K (.ref C_StepError) (.ref C_SubsideError) = some true)
    (s_StepError_TextError : PySem.W.subIn K (.ref C_StepError) (.ref C_TextError) = some false)
    (s_TextError_TextError : PySem.W.subIn K (.ref C_TextError) (.ref C_TextError) = some true)
    (s_StepError_ValueError : PySem.W.subIn K (.ref C_StepError) (.type "ValueError") = some true) :
    ∃ (fd : FuncData) (cs : List (Str × Addr × Addr)), (∀ (s : Shared) (v : Value), BindsTo s fd ⟨[v], []⟩ [("_law_script", v)]) ∧ (∃ oc od sl, K.lookup fa = some ⟨oc, od, .func fd, sl⟩) ∧ (∀ p ∈ cs, PySem.W.tabIn K p.1 = some p.2 ∧ ((recsOf PySem.Challenge.pw_subside_k10_steps_and_derivations).find? fun e => e.name == p.1).isSome = true ∧ K.lookup p.2.2 = none) ∧ ∀ base : Heap, (∀ p ∈ cs, LamX.TabB base mg p.2.1 p.2.2) → ∃ cv, @Df (tabsOf cs) ⟨pr, w, K, mg, base, cv⟩ "law" ["_law_script"] law_k [] (gLaw 63) := by
  have e := hfa.symm.trans (PySem.W.mg_of X Gm a37)
  cases e
  refine ⟨PySem.W.fnOf "law" "law" (defArgs s_law) (defBody s_law) (defScope s_law) .none kV37 dc37 pm37 an37 cd37 ct37, [("apply", K13, P13)], fun s v => .of_eq rfl, ⟨_, _, _, l37⟩, (fun p hp => ?_), fun base tb => ⟨⟨.ref C_LimitError, .ref C_StepError, .ref C_TextError⟩, @law_Df (tabsOf [("apply", K13, P13)]) _ ?_⟩⟩
  · simp only [List.mem_cons, List.not_mem_nil, or_false] at hp
    subst hp
    · exact ⟨tabIn_of a13 l13 rfl m13 p13, r13, n13⟩
  letI I9 : Tb := tabsOf [("apply", K13, P13)]
  exact ⟨PySem.W.mg_none_of X Gm z0, PySem.W.mg_none_of X Gm z1, PySem.W.mg_none_of X Gm z2, PySem.W.mg_none_of X Gm z3, PySem.W.mg_none_of X Gm z4, PySem.W.mg_none_of X Gm z5, PySem.W.mg_none_of X Gm z6, PySem.W.mg_none_of X Gm z7, PySem.W.mg_none_of X Gm z8, PySem.W.mg_none_of X Gm z9, PySem.W.mg_none_of X Gm z10, PySem.W.mg_none_of X Gm z11, ⟨_, PySem.W.mg_of X Gm q0, _, rfl⟩, ⟨_, PySem.W.mg_of X Gm q1, _, rfl⟩, ⟨_, rfl, PySem.W.mg_of X Gm e_LimitError, ek_LimitError, ex_LimitError, eb_LimitError, et_LimitError⟩, fun _ => ⟨rfl, rfl⟩, ⟨_, rfl, PySem.W.mg_of X Gm e_StepError, ek_StepError, ex_StepError, eb_StepError, et_StepError⟩, fun _ => ⟨rfl, rfl⟩, ⟨PySem.W.mg_of X Gm e_LimitError, fun e => match e with | .lim => PySem.W.exm_ref eb_LimitError ed_LimitError et_LimitError s_LimitError_LimitError | .stp => PySem.W.exm_ref eb_LimitError ed_LimitError et_LimitError s_StepError_LimitError | .txt _ => PySem.W.exm_ref eb_LimitError ed_LimitError et_LimitError s_TextError_LimitError⟩, ⟨PySem.W.mg_of X Gm e_StepError, fun e => match e with | .lim => PySem.W.exm_ref eb_StepError ed_StepError et_StepError s_LimitError_StepError | .stp => PySem.W.exm_ref eb_StepError ed_StepError et_StepError s_StepError_StepError | .txt _ => PySem.W.exm_ref eb_StepError ed_StepError et_StepError s_TextError_StepError⟩, ⟨_, rfl, ⟨ig_LimitError, ih_LimitError, eb_LimitError, ed_LimitError, ia_LimitError, in_, it_, im_LimitError⟩, .inl ⟨_, PySem.W.mg_of X Gm e_StepError, kit_ref ed_StepError et_StepError s_LimitError_StepError (fun z => absurd z (by intro z; have h9 := Value.ref.inj z; subst h9; exact absurd (s_LimitError_StepError.symm.trans s_StepError_StepError) (by decide)))⟩⟩, ⟨_, rfl, ⟨ig_LimitError, ih_LimitError, eb_LimitError, ed_LimitError, ia_LimitError, in_, it_, im_LimitError⟩, .inl ⟨_, PySem.W.mg_of X Gm e_SubsideError, kit_ref ed_SubsideError et_SubsideError s_LimitError_SubsideError (fun _ => rfl)⟩⟩, ⟨_, rfl, ⟨ig_StepError, ih_StepError, eb_StepError, ed_StepError, ia_StepError, in_, it_, im_StepError⟩, .inl ⟨_, PySem.W.mg_of X Gm e_LimitError, kit_ref ed_LimitError et_LimitError s_StepError_LimitError (fun z => absurd z (by intro z; have h9 := Value.ref.inj z; subst h9; exact absurd (s_StepError_LimitError.symm.trans s_LimitError_LimitError) (by decide)))⟩⟩, ⟨_, rfl, ⟨ig_StepError, ih_StepError, eb_StepError, ed_StepError, ia_StepError, in_, it_, im_StepError⟩, .inl ⟨_, PySem.W.mg_of X Gm e_SubsideError, kit_ref ed_SubsideError et_SubsideError s_StepError_SubsideError (fun _ => rfl)⟩⟩, ⟨_, rfl, ⟨ig_StepError, ih_StepError, eb_StepError, ed_StepError, ia_StepError, in_, it_, im_StepError⟩, .inl ⟨_, PySem.W.mg_of X Gm e_TextError, kit_ref ed_TextError et_TextError s_StepError_TextError (fun z => absurd z (by intro z; have h9 := Value.ref.inj z; subst h9; exact absurd (s_StepError_TextError.symm.trans s_TextError_TextError) (by decide)))⟩⟩, ⟨_, rfl, ⟨ig_StepError, ih_StepError, eb_StepError, ed_StepError, ia_StepError, in_, it_, im_StepError⟩, .inr ⟨"ValueError", PySem.W.mg_none_of X Gm z0, (by rfl : bootBuiltins "ValueError" = _), by decide, kit_ty' (by decide +kernel) s_StepError_ValueError⟩⟩, ⟨f0, _, PySem.W.mg_of X Gm a0, (fun_mk (st := s_is_variable) l0 c0 k0).binds (ps := ["t"]) fun _ _ _ _ _ _ us hl => match us, hl with | [_], _ => rfl, fun_mk (st := s_is_variable) l0 c0 k0⟩, ⟨f1, _, PySem.W.mg_of X Gm a1, (fun_mk (st := s_inner) l1 c1 k1).binds (ps := ["t"]) fun _ _ _ _ _ _ us hl => match us, hl with | [_], _ => rfl, fun_mk (st := s_inner) l1 c1 k1⟩, ⟨f2, _, PySem.W.mg_of X Gm a2, (fun_mk (st := s_same) l2 c2 k2).binds (ps := ["s", "t"]) fun _ _ _ _ _ _ us hl => match us, hl with | [_, _], _ => rfl, fun_mk (st := s_same) l2 c2 k2⟩, ⟨f3, _, PySem.W.mg_of X Gm a3, (fun_mk (st := s_parts) l3 c3 k3).binds (ps := ["t"]) fun _ _ _ _ _ _ us hl => match us, hl with | [_], _ => rfl, fun_mk (st := s_parts) l3 c3 k3⟩, ⟨f4, _, PySem.W.mg_of X Gm a4, (fun_mk (st := s_size) l4 c4 k4).binds (ps := ["t"]) fun _ _ _ _ _ _ us hl => match us, hl with | [_], _ => rfl, fun_mk (st := s_size) l4 c4 k4⟩, ⟨f5, _, PySem.W.mg_of X Gm a5, (fun_mk (st := s_depth) l5 c5 k5).binds (ps := ["t"]) fun _ _ _ _ _ _ us hl => match us, hl with | [_], _ => rfl, fun_mk (st := s_depth) l5 c5 k5⟩, ⟨f6, _, PySem.W.mg_of X Gm a6, (fun_mk (st := s_positions) l6 c6 k6).binds (ps := ["t"]) fun _ _ _ _ _ _ us hl => match us, hl with | [_], _ => rfl, fun_mk (st := s_positions) l6 c6 k6⟩, ⟨f7, _, PySem.W.mg_of X Gm a7, (fun_mk (st := s_at) l7 c7 k7).binds (ps := ["t", "p"]) fun _ _ _ _ _ _ us hl => match us, hl with | [_, _], _ => rfl, fun_mk (st := s_at) l7 c7 k7⟩, ⟨f8, _, PySem.W.mg_of X Gm a8, (fun_mk (st := s_put) l8 c8 k8).binds (ps := ["t", "p", "s"]) fun _ _ _ _ _ _ us hl => match us, hl with | [_, _, _], _ => rfl, fun_mk (st := s_put) l8 c8 k8⟩, ⟨f9, _, PySem.W.mg_of X Gm a9, (fun_mk (st := s_need_small) l9 c9 k9).binds (ps := ["nodes", "deep"]) fun _ _ _ _ _ _ us hl => match us, hl with | [_, _], _ => rfl, fun_mk (st := s_need_small) l9 c9 k9⟩, ⟨f10, _, PySem.W.mg_of X Gm a10, (fun_mk (st := s_variables) l10 c10 k10).binds (ps := ["t"]) fun _ _ _ _ _ _ us hl => match us, hl with | [_], _ => rfl, fun_mk (st := s_variables) l10 c10 k10⟩, ⟨f11, _, PySem.W.mg_of X Gm a11, (fun_mk (st := s_rebuilt) l11 c11 k11).binds (ps := ["t", "change"]) fun _ _ _ _ _ _ us hl => match us, hl with | [_, _], _ => rfl, fun_mk (st := s_rebuilt) l11 c11 k11⟩, ⟨f12, _, PySem.W.mg_of X Gm a12, (fun_mk (st := s_measure) l12 c12 k12).binds (ps := ["s", "t"]) fun _ _ _ _ _ _ us hl => match us, hl with | [_, _], _ => rfl, fun_mk (st := s_measure) l12 c12 k12⟩, ⟨f13, _, K13, P13, PySem.W.mg_of X Gm a13, (fun_mk (st := s_apply) l13 c13 k13).binds (ps := ["s", "t"]) fun _ _ _ _ _ _ us hl => match us, hl with | [_, _], _ => rfl, fun_mk (st := s_apply) l13 c13 k13, rfl, tb ("apply", K13, P13) (.head _), List.mem_map.mpr ⟨("apply", K13, P13), (.head _), rfl⟩, by intro p hp e; obtain ⟨p9, h9, rfl⟩ := List.mem_map.mp hp; rw [List.mem_singleton.mp h9]⟩, ⟨f14, _, PySem.W.mg_of X Gm a14, (fun_mk (st := s_match) l14 c14 k14).binds (ps := ["pattern", "t"]) fun _ _ _ _ _ _ us hl => match us, hl with | [_, _], _ => rfl, fun_mk (st := s_match) l14 c14 k14⟩, ⟨f15, _, PySem.W.mg_of X Gm a15, (fun_mk (st := s_rewritten) l15 c15 k15).binds (ps := ["system", "t", "place", "number"]) fun _ _ _ _ _ _ us hl => match us, hl with | [_, _, _, _], _ => rfl, fun_mk (st := s_rewritten) l15 c15 k15⟩, ⟨f16, _, PySem.W.mg_of X Gm a16, (fun_mk (st := s_step) l16 c16 k16).binds (ps := ["system", "t", "one"]) fun _ _ _ _ _ _ us hl => match us, hl with | [_, _, _], _ => rfl, fun_mk (st := s_step) l16 c16 k16⟩, ⟨f17, _, PySem.W.mg_of X Gm a17, (fun_mk (st := s_derive) l17 c17 k17).binds (ps := ["system", "t", "steps"]) fun _ _ _ _ _ _ us hl => match us, hl with | [_, _, _], _ => rfl, fun_mk (st := s_derive) l17 c17 k17⟩, ⟨f18, _, PySem.W.mg_of X Gm a18, (fun_mk (st := s_successors) l18 c18 k18).binds (ps := ["system", "t"]) fun _ _ _ _ _ _ us hl => match us, hl with | [_, _], _ => rfl, fun_mk (st := s_successors) l18 c18 k18⟩, ⟨f19, _, PySem.W.mg_of X Gm a19, (fun_mk (st := s__law_start) l19 c19 k19).binds (ps := ["_law_script"]) fun _ _ _ _ _ _ us hl => match us, hl with | [_], _ => rfl, fun_mk (st := s__law_start) l19 c19 k19⟩, ⟨f20, _, PySem.W.mg_of X Gm a20, (fun_mk (st := s__law_fill) l20 c20 k20).binds (ps := ["_law_c"]) fun _ _ _ _ _ _ us hl => match us, hl with | [_], _ => rfl, fun_mk (st := s__law_fill) l20 c20 k20⟩, ⟨f21, _, PySem.W.mg_of X Gm a21, (fun_mk (st := s__law_take) l21 c21 k21).binds (ps := ["_law_c", "_law_many"]) fun _ _ _ _ _ _ us hl => match us, hl with | [_, _], _ => rfl, fun_mk (st := s__law_take) l21 c21 k21⟩, ⟨f22, _, PySem.W.mg_of X Gm a22, (fun_mk (st := s__law_signature) l22 c22 k22).binds (ps := ["_law_c"]) fun _ _ _ _ _ _ us hl => match us, hl with | [_], _ => rfl, fun_mk (st := s__law_signature) l22 c22 k22⟩, ⟨f23, _, PySem.W.mg_of X Gm a23, (fun_mk (st := s__law_term) l23 c23 k23).binds (ps := ["_law_c", "_law_sig", "_law_names_here", "_law_depth"]) fun _ _ _ _ _ _ us hl => match us, hl with | [_, _, _, _], _ => rfl, fun_mk (st := s__law_term) l23 c23 k23⟩, ⟨f24, _, PySem.W.mg_of X Gm a24, (fun_mk (st := s__law_places) l24 c24 k24).binds (ps := ["_law_t"]) fun _ _ _ _ _ _ us hl => match us, hl with | [_], _ => rfl, fun_mk (st := s__law_places) l24 c24 k24⟩, ⟨f25, _, PySem.W.mg_of X Gm a25, (fun_mk (st := s__law_at) l25 c25 k25).binds (ps := ["_law_t", "_law_p"]) fun _ _ _ _ _ _ us hl => match us, hl with | [_, _], _ => rfl, fun_mk (st := s__law_at) l25 c25 k25⟩, ⟨f26, _, PySem.W.mg_of X Gm a26, (fun_mk (st := s__law_put) l26 c26 k26).binds (ps := ["_law_t", "_law_p", "_law_s"]) fun _ _ _ _ _ _ us hl => match us, hl with | [_, _, _], _ => rfl, fun_mk (st := s__law_put) l26 c26 k26⟩, ⟨f27, _, PySem.W.mg_of X Gm a27, (fun_mk (st := s__law_names) l27 c27 k27).binds (ps := ["_law_t"]) fun _ _ _ _ _ _ us hl => match us, hl with | [_], _ => rfl, fun_mk (st := s__law_names) l27 c27 k27⟩, ⟨f28, _, PySem.W.mg_of X Gm a28, (fun_mk (st := s__law_apply) l28 c28 k28).binds (ps := ["_law_s", "_law_t"]) fun _ _ _ _ _ _ us hl => match us, hl with | [_, _], _ => rfl, fun_mk (st := s__law_apply) l28 c28 k28⟩, ⟨f29, _, PySem.W.mg_of X Gm a29, (fun_mk (st := s__law_match) l29 c29 k29).binds (ps := ["_law_pattern", "_law_t", "_law_s"]) fun _ _ _ _ _ _ us hl => match us, hl with | [_, _, _], _ => rfl, fun_mk (st := s__law_match) l29 c29 k29⟩, ⟨f30, _, PySem.W.mg_of X Gm a30, (fun_mk (st := s__law_rule) l30 c30 k30).binds (ps := ["_law_c", "_law_sig", "_law_names_here", "_law_depth"]) fun _ _ _ _ _ _ us hl => match us, hl with | [_, _, _, _], _ => rfl, fun_mk (st := s__law_rule) l30 c30 k30⟩, ⟨f31, _, PySem.W.mg_of X Gm a31, (fun_mk (st := s__law_system) l31 c31 k31).binds (ps := ["_law_c", "_law_sig", "_law_most"]) fun _ _ _ _ _ _ us hl => match us, hl with | [_, _, _], _ => rfl, fun_mk (st := s__law_system) l31 c31 k31⟩, ⟨f32, _, PySem.W.mg_of X Gm a32, (fun_mk (st := s__law_steps) l32 c32 k32).binds (ps := ["_law_system_here", "_law_t"]) fun _ _ _ _ _ _ us hl => match us, hl with | [_, _], _ => rfl, fun_mk (st := s__law_steps) l32 c32 k32⟩, ⟨f33, _, PySem.W.mg_of X Gm a33, (fun_mk (st := s__law_led) l33 c33 k33).binds (ps := ["_law_system_here", "_law_t", "_law_steps_here"]) fun _ _ _ _ _ _ us hl => match us, hl with | [_, _, _], _ => rfl, fun_mk (st := s__law_led) l33 c33 k33⟩, ⟨f34, _, PySem.W.mg_of X Gm a34, (fun_mk (st := s__law_large) l34 c34 k34).binds (ps := ["_law_t"]) fun _ _ _ _ _ _ us hl => match us, hl with | [_], _ => rfl, fun_mk (st := s__law_large) l34 c34 k34⟩, ⟨f35, _, PySem.W.mg_of X Gm a35, (fun_mk (st := s__law_all) l35 c35 k35).binds (ps := ["_law_system_here", "_law_t"]) fun _ _ _ _ _ _ us hl => match us, hl with | [_, _], _ => rfl, fun_mk (st := s__law_all) l35 c35 k35⟩, ⟨f36, _, PySem.W.mg_of X Gm a36, (fun_mk (st := s__law_told) l36 c36 k36).binds (ps := ["_law_system_here", "_law_t", "_law_steps_here", "_law_single"]) fun _ _ _ _ _ _ us hl => match us, hl with | [_, _, _, _], _ => rfl, fun_mk (st := s__law_told) l36 c36 k36⟩, ⟨fa, _, PySem.W.mg_of X Gm a37, (fun_mk (st := s_law) l37 c37 k37).binds (ps := ["_law_script"]) fun _ _ _ _ _ _ us hl => match us, hl with | [_], _ => rfl, fun_mk (st := s_law) l37 c37 k37⟩⟩
end Sd
open PySem PySem.W PyProof.Rows
set_option maxHeartbeats 0 in
theorem PySem.Challenge.cw_subside_k10_steps_and_derivations_holds : PySem.Challenge.rw_subside_k10_steps_and_derivations.Holds := by
  w_on; o_law; k_head; (case hw => w_witness2)
  k_fill
  refine Sd.walkD (l := PySem.Challenge.rw_subside_k10_steps_and_derivations) (n := 63) (k := Sd.law_k) (x := "_law_script") rfl (by decide) rfl ⟨rfl, by decide, by decide⟩ (fun w h Y => PySem.W.km_in_of Y) ?F
  case F =>
    intro w mg fa h KX G hmg
    refine' Sd.all_mk KX G hmg (a0 := ?a0) (l0 := ?l0) (c0 := ?c0) (k0 := ?k0) (a1 := ?a1) (l1 := ?l1) (c1 := ?c1) (k1 := ?k1) (a2 := ?a2) (l2 := ?l2) (c2 := ?c2) (k2 := ?k2) (a3 := ?a3) (l3 := ?l3) (c3 := ?c3) (k3 := ?k3) (a4 := ?a4) (l4 := ?l4) (c4 := ?c4) (k4 := ?k4) (a5 := ?a5) (l5 := ?l5) (c5 := ?c5) (k5 := ?k5) (a6 := ?a6) (l6 := ?l6) (c6 := ?c6) (k6 := ?k6) (a7 := ?a7) (l7 := ?l7) (c7 := ?c7) (k7 := ?k7) (a8 := ?a8) (l8 := ?l8) (c8 := ?c8) (k8 := ?k8) (a9 := ?a9) (l9 := ?l9) (c9 := ?c9) (k9 := ?k9) (a10 := ?a10) (l10 := ?l10) (c10 := ?c10) (k10 := ?k10) (a11 := ?a11) (l11 := ?l11) (c11 := ?c11) (k11 := ?k11) (a12 := ?a12) (l12 := ?l12) (c12 := ?c12) (k12 := ?k12) (a13 := ?a13) (l13 := ?l13) (c13 := ?c13) (k13 := ?k13) (a14 := ?a14) (l14 := ?l14) (c14 := ?c14) (k14 := ?k14) (a15 := ?a15) (l15 := ?l15) (c15 := ?c15) (k15 := ?k15) (a16 := ?a16) (l16 := ?l16) (c16 := ?c16) (k16 := ?k16) (a17 := ?a17) (l17 := ?l17) (c17 := ?c17) (k17 := ?k17) (a18 := ?a18) (l18 := ?l18) (c18 := ?c18) (k18 := ?k18) (a19 := ?a19) (l19 := ?l19) (c19 := ?c19) (k19 := ?k19) (a20 := ?a20) (l20 := ?l20) (c20 := ?c20) (k20 := ?k20) (a21 := ?a21) (l21 := ?l21) (c21 := ?c21) (k21 := ?k21) (a22 := ?a22) (l22 := ?l22) (c22 := ?c22) (k22 := ?k22) (a23 := ?a23) (l23 := ?l23) (c23 := ?c23) (k23 := ?k23) (a24 := ?a24) (l24 := ?l24) (c24 := ?c24) (k24 := ?k24) (a25 := ?a25) (l25 := ?l25) (c25 := ?c25) (k25 := ?k25) (a26 := ?a26) (l26 := ?l26) (c26 := ?c26) (k26 := ?k26) (a27 := ?a27) (l27 := ?l27) (c27 := ?c27) (k27 := ?k27) (a28 := ?a28) (l28 := ?l28) (c28 := ?c28) (k28 := ?k28) (a29 := ?a29) (l29 := ?l29) (c29 := ?c29) (k29 := ?k29) (a30 := ?a30) (l30 := ?l30) (c30 := ?c30) (k30 := ?k30) (a31 := ?a31) (l31 := ?l31) (c31 := ?c31) (k31 := ?k31) (a32 := ?a32) (l32 := ?l32) (c32 := ?c32) (k32 := ?k32) (a33 := ?a33) (l33 := ?l33) (c33 := ?c33) (k33 := ?k33) (a34 := ?a34) (l34 := ?l34) (c34 := ?c34) (k34 := ?k34) (a35 := ?a35) (l35 := ?l35) (c35 := ?c35) (k35 := ?k35) (a36 := ?a36) (l36 := ?l36) (c36 := ?c36) (k36 := ?k36) (a37 := ?a37) (l37 := ?l37) (c37 := ?c37) (k37 := ?k37) (m13 := ?m13) (z0 := ?z0) (z1 := ?z1) (z2 := ?z2) (z3 := ?z3) (z4 := ?z4) (z5 := ?z5) (z6 := ?z6) (z7 := ?z7) (z8 := ?z8) (z9 := ?z9) (z10 := ?z10) (z11 := ?z11) (q0 := ?q0) (q1 := ?q1) (e_LimitError := ?e_LimitError) (eb_LimitError := ?eb_LimitError) (et_LimitError := ?et_LimitError) (ed_LimitError := ?ed_LimitError) (e_StepError := ?e_StepError) (eb_StepError := ?eb_StepError) (et_StepError := ?et_StepError) (ed_StepError := ?ed_StepError) (e_SubsideError := ?e_SubsideError) (eb_SubsideError := ?eb_SubsideError) (et_SubsideError := ?et_SubsideError) (ed_SubsideError := ?ed_SubsideError) (e_TextError := ?e_TextError) (eb_TextError := ?eb_TextError) (et_TextError := ?et_TextError) (ed_TextError := ?ed_TextError) (ek_LimitError := ?ek_LimitError) (ek_StepError := ?ek_StepError) (s_LimitError_LimitError := ?s_LimitError_LimitError) (s_StepError_LimitError := ?s_StepError_LimitError) (s_TextError_LimitError := ?s_TextError_LimitError) (s_LimitError_StepError := ?s_LimitError_StepError) (s_StepError_StepError := ?s_StepError_StepError) (s_TextError_StepError := ?s_TextError_StepError) (ig_LimitError := ?ig_LimitError) (ih_LimitError := ?ih_LimitError) (ia_LimitError := ?ia_LimitError) (im_LimitError := ?im_LimitError) (in_ := ?in_) (it_ := ?it_) (s_LimitError_SubsideError := ?s_LimitError_SubsideError) (ig_StepError := ?ig_StepError) (ih_StepError := ?ih_StepError) (ia_StepError := ?ia_StepError) (im_StepError := ?im_StepError) (s_StepError_SubsideError := ?s_StepError_SubsideError) (s_StepError_TextError := ?s_StepError_TextError) (s_TextError_TextError := ?s_TextError_TextError) (s_StepError_ValueError := ?s_StepError_ValueError) (ex_LimitError := ?ex_LimitError) (ex_StepError := ?ex_StepError) (p13 := ?p13) (n13 := ?n13) (r13 := ?r13)
    (case a0 => k_is); (case l0 => k_is); (case c0 => k_is); (case k0 => k_is); (case a1 => k_is); (case l1 => k_is); (case c1 => k_is); (case k1 => k_is); (case a2 => k_is); (case l2 => k_is); (case c2 => k_is); (case k2 => k_is); (case a3 => k_is); (case l3 => k_is); (case c3 => k_is); (case k3 => k_is); (case a4 => k_is); (case l4 => k_is); (case c4 => k_is); (case k4 => k_is); (case a5 => k_is); (case l5 => k_is); (case c5 => k_is); (case k5 => k_is); (case a6 => k_is); (case l6 => k_is); (case c6 => k_is); (case k6 => k_is); (case a7 => k_is); (case l7 => k_is); (case c7 => k_is); (case k7 => k_is); (case a8 => k_is); (case l8 => k_is); (case c8 => k_is); (case k8 => k_is); (case a9 => k_is); (case l9 => k_is); (case c9 => k_is); (case k9 => k_is); (case a10 => k_is); (case l10 => k_is); (case c10 => k_is); (case k10 => k_is); (case a11 => k_is); (case l11 => k_is); (case c11 => k_is); (case k11 => k_is); (case a12 => k_is); (case l12 => k_is); (case c12 => k_is); (case k12 => k_is); (case a13 => k_is); (case l13 => k_is); (case c13 => k_is); (case k13 => k_is); (case a14 => k_is); (case l14 => k_is); (case c14 => k_is); (case k14 => k_is); (case a15 => k_is); (case l15 => k_is); (case c15 => k_is); (case k15 => k_is); (case a16 => k_is); (case l16 => k_is); (case c16 => k_is); (case k16 => k_is); (case a17 => k_is); (case l17 => k_is); (case c17 => k_is); (case k17 => k_is); (case a18 => k_is); (case l18 => k_is); (case c18 => k_is); (case k18 => k_is); (case a19 => k_is); (case l19 => k_is); (case c19 => k_is); (case k19 => k_is); (case a20 => k_is); (case l20 => k_is); (case c20 => k_is); (case k20 => k_is); (case a21 => k_is); (case l21 => k_is); (case c21 => k_is); (case k21 => k_is); (case a22 => k_is); (case l22 => k_is); (case c22 => k_is); (case k22 => k_is); (case a23 => k_is); (case l23 => k_is); (case c23 => k_is); (case k23 => k_is); (case a24 => k_is); (case l24 => k_is); (case c24 => k_is); (case k24 => k_is); (case a25 => k_is); (case l25 => k_is); (case c25 => k_is); (case k25 => k_is); (case a26 => k_is); (case l26 => k_is); (case c26 => k_is); (case k26 => k_is); (case a27 => k_is); (case l27 => k_is); (case c27 => k_is); (case k27 => k_is); (case a28 => k_is); (case l28 => k_is); (case c28 => k_is); (case k28 => k_is); (case a29 => k_is); (case l29 => k_is); (case c29 => k_is); (case k29 => k_is); (case a30 => k_is); (case l30 => k_is); (case c30 => k_is); (case k30 => k_is); (case a31 => k_is); (case l31 => k_is); (case c31 => k_is); (case k31 => k_is); (case a32 => k_is); (case l32 => k_is); (case c32 => k_is); (case k32 => k_is); (case a33 => k_is); (case l33 => k_is); (case c33 => k_is); (case k33 => k_is); (case a34 => k_is); (case l34 => k_is); (case c34 => k_is); (case k34 => k_is); (case a35 => k_is); (case l35 => k_is); (case c35 => k_is); (case k35 => k_is); (case a36 => k_is); (case l36 => k_is); (case c36 => k_is); (case k36 => k_is); (case a37 => k_is); (case l37 => k_is); (case c37 => k_is); (case k37 => k_is); (case m13 => k_is); (case z0 => k_is); (case z1 => k_is); (case z2 => k_is); (case z3 => k_is); (case z4 => k_is); (case z5 => k_is); (case z6 => k_is); (case z7 => k_is); (case z8 => k_is); (case z9 => k_is); (case z10 => k_is); (case z11 => k_is); (case q0 => k_is); (case q1 => k_is); (case e_LimitError => k_is); (case eb_LimitError => k_is); (case et_LimitError => k_is); (case ed_LimitError => k_is); (case e_StepError => k_is); (case eb_StepError => k_is); (case et_StepError => k_is); (case ed_StepError => k_is); (case e_SubsideError => k_is); (case eb_SubsideError => k_is); (case et_SubsideError => k_is); (case ed_SubsideError => k_is); (case e_TextError => k_is); (case eb_TextError => k_is); (case et_TextError => k_is); (case ed_TextError => k_is); (case ek_LimitError => k_is); (case ek_StepError => k_is); (case s_LimitError_LimitError => k_is); (case s_StepError_LimitError => k_is); (case s_TextError_LimitError => k_is); (case s_LimitError_StepError => k_is); (case s_StepError_StepError => k_is); (case s_TextError_StepError => k_is); (case ig_LimitError => k_is); (case ih_LimitError => k_is); (case ia_LimitError => k_is); (case im_LimitError => k_is); (case in_ => k_is); (case it_ => k_is); (case s_LimitError_SubsideError => k_is); (case ig_StepError => k_is); (case ih_StepError => k_is); (case ia_StepError => k_is); (case im_StepError => k_is); (case s_StepError_SubsideError => k_is); (case s_StepError_TextError => k_is); (case s_TextError_TextError => k_is); (case s_StepError_ValueError => k_is); (case ex_LimitError => k_exc); (case ex_StepError => k_exc); (case p13 => rfl); (case n13 => kernel_rfl); (case r13 => decide +kernel)

