import PyProof.Rows.All
import Wide.All
import OpenK.AllK
import Wide.FinOn
import Lean
import HandS.ForMost
import HandS.ForExc
import HandS.Zip
import HandS.IsInst
import HandS.Defaults
import HandS.CallSlots
import HandS.NoneIn
import HandS.Wide
import HandS.Lambda
import HandS.HotCalls
import HandS.ExcIs
import HandS.HeadHook1
import HandS.HeadHook2
import HandS.HeadHook3
import HandS.HeadHook4
import HandS.TupAny
import HandS.TupMul
import HandS.Style
import HandS.Deep
import HandS.Iter
import HandS.Dict
import HandS.Head0
import HandS.Head1
import HandS.Head2
import HandS.HeadEnd
import HandS.WordsExc
import HandS.EndTab
import HandS.Nested
import KE.SortKeyHeap
import HandS.ExcCtx
import HandS.SuiteRaise
import HandS.SetFor
import PyProof.ExcBaseAll.ValueError
import PySem.Challenge.RW_marketworks_k11_cheats_refused
import HandS.Conv
import KE.SortData
import HandS.SetBool
import HandS.SetKeys
import KE.GoesEnum
import KE.KDictZip
import KE.KDictList
set_option Elab.async false
set_option linter.all false
set_option maxRecDepth 100000
/-! Mw, part A: pure data, frames whose slots own mutable lists, the readings of combinators. -/
namespace Mw
open PySem PySem.Spec PyProof.Rows L2
abbrev St := L2.St

mutual
/-- data: trees; lists in it are never changed any more -/
inductive D where
  | non | bl (b : Bool) | int (i : Int) | str (x : Str)
  | tup (xs : List D) | lst (xs : List D) | dct (kvs : List (Key × D))
  | scr (ns : List Int) | fn (x : Str)
  /-- a tuple whose object is known: it has no dict -/
  | row (xs : List D)
  /-- an object that is not changed any more -/
  | obj (fs : List (Str × At))
/-- an attribute of an object: data, a list or a dict of its own -/
inductive At where
  | d (x : D) | l (xs : List D) | m (kvs : List (Key × D))
end
def At.own : At → Bool
  | .d _ => false
  | _ => true
/-- what stands at a slot of a frame: nothing, data, a list that this frame changes (b: lent by the caller), a dict likewise, an object likewise, an object to be read only -/
inductive Sl where
  | no | d (x : D) | l (b : Bool) (xs : List D) | m (b : Bool) (kvs : List (Key × D)) | v (a : Addr)
  | o (b : Bool) (fs : List (Str × At)) | r (fs : List (Str × At))
  /-- a list of lists, all this frame's own -/
  | t (xss : List (List D))
abbrev Sg := List Sl

inductive Res (α : Type) where
  | ok (a : α) (S : Sg) | exc (c : Str) (S : Sg) | bad

/-- what an expression gives: data, or the thing that slot i owns -/
inductive P where
  | d (x : D) | s (i : Nat)

inductive Fl where
  | nx | rt (x : D) | bk | ct

def Sub (G H : Hp) : Prop := ∀ a o, G a = some o → H a = some o
theorem Sub.refl (G : Hp) : Sub G G := fun _ _ h => h
theorem Sub.trans {A B C : Hp} (h : Sub A B) (k : Sub B C) : Sub A C := fun a o e => k a o (h a o e)
theorem Sub.sqT {K : PySem.W.Frag} {G H : Hp} {a : Addr} {vs : List V} (s : Sub G H) (h : SqT K G a vs) : SqT K H a vs := by
  rcases h with h | h
  · rcases h with h | ⟨o, h⟩
    · exact .inl (.inl (s _ _ h))
    · exact .inl (.inr ⟨o, s _ _ h⟩)
  · exact .inr h
theorem Sub.sqL {K : PySem.W.Frag} {G H : Hp} {a : Addr} {vs : List V} (s : Sub G H) (h : SqL K G a vs) : SqL K H a vs := by
  rcases h with h | h
  · rcases h with h | ⟨o, h⟩
    · exact .inl (.inl (s _ _ h))
    · exact .inl (.inr ⟨o, s _ _ h⟩)
  · exact .inr h
theorem Sub.non {G H : Hp} (s : Sub G H) {a : Addr} (h : H a = none) : G a = none := by
  cases e : G a with
  | none => rfl
  | some o => rw [s _ _ e] at h; cases h
theorem Sub.upd_r {G H : Hp} (s : Sub G H) {a : Addr} {o : HO} (h : G a = none) : Sub G (upd H a o) := fun b u e => by
  rw [upd_ne (show b ≠ a from fun z => by rw [z, h] at e; cases e)]
  exact s b u e
theorem Sub.upd_b {G H : Hp} (s : Sub G H) (a : Addr) (o : HO) : Sub (upd G a o) (upd H a o) := fun b u e => by
  by_cases hb : b = a
  · subst hb; rw [upd_same] at e ⊢; exact e
  · rw [upd_ne hb] at e ⊢; exact s b u e
theorem Sub.upd_new (G : Hp) {a : Addr} {o : HO} (h : G a = none) : Sub G (upd G a o) := Sub.upd_r (Sub.refl G) h
theorem Sub.upd_have {G H : Hp} (s : Sub G H) {a : Addr} {o : HO} (h : H a = some o) : Sub (upd G a o) H := fun b u e => by
  by_cases hb : b = a
  · subst hb; rw [upd_same] at e; rw [h]; exact e
  · rw [upd_ne hb] at e; exact s b u e

section
variable (K : PySem.W.Frag) (mg : Str → Option Value)
mutual
/-- the value v stands for x, by the part G of the heap that is not changed any more -/
inductive RV (G : Hp) : D → V → Prop
  | non : RV G .non .non
  | bl (b : Bool) : RV G (.bl b) (.bl b)
  | int (i : Int) : RV G (.int i) (.int i)
  | str (x : Str) : RV G (.str x) (.str x)
  | tup {xs : List D} {a : Addr} {vs : List V} (h : SqT K G a vs) (r : RVs G xs vs) : RV G (.tup xs) (.ref a)
  | lst {xs : List D} {a : Addr} {vs : List V} (h : G a = some (.lst vs)) (r : RVs G xs vs) : RV G (.lst xs) (.ref a)
  | dct {kvs : List (Key × D)} {a : Addr} {o : Obj} {ws : List (Key × V)} (h : G a = some (.frz o (.dK ws))) (r : RVk G kvs ws) : RV G (.dct kvs) (.ref a)
  | scr {ns : List Int} {a : Addr} (h : SqL K G a (ns.map V.int)) : RV G (.scr ns) (.ref a)
  | fn {x : Str} {a : Addr} (h : mg x = some (.ref a)) : RV G (.fn x) (.ref a)
  | row {xs : List D} {a : Addr} {vs : List V} {o : Obj} (h : G a = some (.frz o (.tup vs))) (hc : o.cls = .type "tuple") (hd : o.dict = none) (r : RVs G xs vs) : RV G (.row xs) (.ref a)
  | obj {fs : List (Str × At)} {a C dx : Addr} {vs : List (Str × V)} (hm : mg "Floor" = some (.ref C)) (h : G a = some (.ins C dx vs)) (r : RVa G fs vs) : RV G (.obj fs) (.ref a)
inductive RVs (G : Hp) : List D → List V → Prop
  | nil : RVs G [] []
  | cons {x : D} {v : V} {xs : List D} {vs : List V} (h : RV G x v) (t : RVs G xs vs) : RVs G (x :: xs) (v :: vs)
inductive RVk (G : Hp) : List (Key × D) → List (Key × V) → Prop
  | nil : RVk G [] []
  | cons {k : Key} {x : D} {v : V} {xs : List (Key × D)} {vs : List (Key × V)} (h : RV G x v) (t : RVk G xs vs) : RVk G ((k, x) :: xs) ((k, v) :: vs)
inductive RVa (G : Hp) : List (Str × At) → List (Str × V) → Prop
  | nil : RVa G [] []
  | d {nm : Str} {x : D} {v : V} {fs : List (Str × At)} {vs : List (Str × V)} (h : RV G x v) (t : RVa G fs vs) : RVa G ((nm, .d x) :: fs) ((nm, v) :: vs)
  | l {nm : Str} {xs : List D} {p : Addr} {ws : List V} {fs : List (Str × At)} {vs : List (Str × V)} (h : G p = some (.lst ws)) (r : RVs G xs ws) (t : RVa G fs vs) : RVa G ((nm, .l xs) :: fs) ((nm, .ref p) :: vs)
  | m {nm : Str} {xs : List (Key × D)} {p : Addr} {ws : List (Key × V)} {fs : List (Str × At)} {vs : List (Str × V)} (h : G p = some (.dK ws)) (r : RVk G xs ws) (t : RVa G fs vs) : RVa G ((nm, .m xs) :: fs) ((nm, .ref p) :: vs)
end
end

section
variable {K : PySem.W.Frag} {mg : Str → Option Value} {G G' : Hp}
mutual
theorem RV.mono (s : Sub G G') : ∀ {x : D} {v : V}, RV K mg G x v → RV K mg G' x v
  | _, _, .non => .non
  | _, _, .bl b => .bl b
  | _, _, .int i => .int i
  | _, _, .str x => .str x
  | _, _, .tup h r => .tup (s.sqT h) (RVs.mono s r)
  | _, _, .lst h r => .lst (s _ _ h) (RVs.mono s r)
  | _, _, .dct h r => .dct (s _ _ h) (RVk.mono s r)
  | _, _, .scr h => .scr (s.sqL h)
  | _, _, .fn h => .fn h
  | _, _, .row h hc hd r => .row (s _ _ h) hc hd (RVs.mono s r)
  | _, _, .obj hm h r => .obj hm (s _ _ h) (RVa.mono s r)
theorem RVs.mono (s : Sub G G') : ∀ {xs : List D} {vs : List V}, RVs K mg G xs vs → RVs K mg G' xs vs
  | _, _, .nil => .nil
  | _, _, .cons h t => .cons (RV.mono s h) (RVs.mono s t)
theorem RVk.mono (s : Sub G G') : ∀ {xs : List (Key × D)} {vs : List (Key × V)}, RVk K mg G xs vs → RVk K mg G' xs vs
  | _, _, .nil => .nil
  | _, _, .cons h t => .cons (RV.mono s h) (RVk.mono s t)
theorem RVa.mono (s : Sub G G') : ∀ {fs : List (Str × At)} {vs : List (Str × V)}, RVa K mg G fs vs → RVa K mg G' fs vs
  | _, _, .nil => .nil
  | _, _, .d h t => .d (RV.mono s h) (RVa.mono s t)
  | _, _, .l h r t => .l (s _ _ h) (RVs.mono s r) (RVa.mono s t)
  | _, _, .m h r t => .m (s _ _ h) (RVk.mono s r) (RVa.mono s t)
end
theorem RVs.length : ∀ {xs : List D} {vs : List V}, RVs K mg G xs vs → xs.length = vs.length
  | _, _, .nil => rfl
  | _, _, .cons _ t => by rw [List.length_cons, List.length_cons, t.length]
theorem RVs.append : ∀ {xs ys : List D} {vs ws : List V}, RVs K mg G xs vs → RVs K mg G ys ws → RVs K mg G (xs ++ ys) (vs ++ ws)
  | _, _, _, _, .nil, k => k
  | _, _, _, _, .cons h t, k => .cons h (t.append k)
theorem RVs.get : ∀ {xs : List D} {vs : List V} {i : Nat} {x : D}, RVs K mg G xs vs → xs[i]? = some x → ∃ v, vs[i]? = some v ∧ RV K mg G x v
  | _, _, _, _, .nil, e => by simp at e
  | _, _, 0, _, .cons h _, e => by
    have e' := Option.some.inj (show some _ = some _ from e)
    subst e'
    exact ⟨_, rfl, h⟩
  | _, _, i + 1, _, .cons _ t, e => by
    obtain ⟨v, h1, h2⟩ := RVs.get (i := i) t (by simpa using e)
    exact ⟨v, by simpa using h1, h2⟩
theorem RVs.getV : ∀ {xs : List D} {vs : List V} {i : Nat} {v : V}, RVs K mg G xs vs → vs[i]? = some v → ∃ x, xs[i]? = some x ∧ RV K mg G x v
  | _, _, _, _, .nil, e => by simp at e
  | _, _, 0, _, .cons h _, e => by
    have e' := Option.some.inj (show some _ = some _ from e)
    subst e'
    exact ⟨_, rfl, h⟩
  | _, _, i + 1, _, .cons _ t, e => by
    obtain ⟨v, h1, h2⟩ := RVs.getV (i := i) t (by simpa using e)
    exact ⟨v, by simpa using h1, h2⟩
theorem RVs.take : ∀ {xs : List D} {vs : List V} (n : Nat), RVs K mg G xs vs → RVs K mg G (xs.take n) (vs.take n)
  | _, _, 0, _ => .nil
  | _, _, _ + 1, .nil => .nil
  | _, _, n + 1, .cons h t => .cons h (RVs.take n t)
theorem RVs.drop : ∀ {xs : List D} {vs : List V} (n : Nat), RVs K mg G xs vs → RVs K mg G (xs.drop n) (vs.drop n)
  | _, _, 0, r => r
  | _, _, _ + 1, .nil => .nil
  | _, _, n + 1, .cons _ t => RVs.drop n t
theorem RVs.set {x : D} {v : V} (h : RV K mg G x v) : ∀ {xs : List D} {vs : List V} (n : Nat), RVs K mg G xs vs → RVs K mg G (xs.set n x) (vs.set n v)
  | _, _, _, .nil => .nil
  | _, _, 0, .cons _ t => .cons h t
  | _, _, n + 1, .cons q t => .cons q (RVs.set h n t)
theorem RVs.eraseIdx : ∀ {xs : List D} {vs : List V} (n : Nat), RVs K mg G xs vs → RVs K mg G (xs.eraseIdx n) (vs.eraseIdx n)
  | _, _, _, .nil => .nil
  | _, _, 0, .cons _ t => t
  | _, _, n + 1, .cons q t => .cons q (RVs.eraseIdx n t)
theorem RVs.reverse {xs : List D} {vs : List V} (r : RVs K mg G xs vs) : RVs K mg G xs.reverse vs.reverse := by
  induction xs generalizing vs with
  | nil => cases r; exact .nil
  | cons x xs ih =>
    cases r with
    | cons h t =>
      rw [List.reverse_cons, List.reverse_cons]
      exact (ih t).append (.cons h .nil)
theorem RVs.ints : ∀ (ns : List Int), RVs K mg G (ns.map D.int) (ns.map V.int)
  | [] => .nil
  | n :: r => .cons (.int n) (RVs.ints r)
end

/-- the ghosts of a run of a def: the part of the heap that stood and is not changed, the heap at the entry, what must stay, what is not to become data -/
structure Gh where
  G0 : Hp
  H0 : Hp
  R : Hp
  M : Addr → Prop
  A : Nat → Option Addr
  /-- what was lent at the entry -/
  B : Nat → Addr → Prop := fun _ _ => False

/-- the addresses of an object's own attributes -/
def inn : List (Str × At) → List (Str × V) → List Addr
  | (_, t) :: fs, (_, v) :: vs => match t.own, v with
    | true, .ref p => p :: inn fs vs
    | _, _ => inn fs vs
  | _, _ => []
section
variable (K : PySem.W.Frag) (mg : Str → Option Value)
/-- an address that is this frame's alone -/
def Pv (g : Gh) (G : Hp) (i : Nat) (b : Bool) (p : Addr) : Prop := G p = none ∧ g.R p = none ∧ (b = false → g.H0 p = none) ∧ (b = true → g.H0 p = none ∨ g.B i p)
def AtR (g : Gh) (G H : Hp) (i : Nat) (b : Bool) (t : At) (v : V) : Prop := match t with
  | .d x => RV K mg G x v
  | .l xs => ∃ p ws, v = .ref p ∧ H p = some (.lst ws) ∧ RVs K mg G xs ws ∧ Pv g G i b p
  | .m kvs => ∃ p ws, v = .ref p ∧ H p = some (.dK ws) ∧ RVk K mg G kvs ws ∧ Pv g G i b p
inductive AtsR (g : Gh) (G H : Hp) (i : Nat) (b : Bool) : List (Str × At) → List (Str × V) → Prop
  | nil : AtsR g G H i b [] []
  | cons {nm : Str} {t : At} {v : V} {fs : List (Str × At)} {vs : List (Str × V)} (h : AtR K mg g G H i b t v) (tl : AtsR g G H i b fs vs) : AtsR g G H i b ((nm, t) :: fs) ((nm, v) :: vs)
/-- an attribute that is read only: it stood at the entry; it stands in R, or is known data -/
def RaR (R H0 G : Hp) (t : At) (v : V) : Prop := match t with
  | .d x => RV K mg G x v
  | .l xs => ∃ p ws, v = .ref p ∧ R p = some (.lst ws) ∧ RVs K mg G xs ws ∧ H0 p ≠ none
  | .m kvs => ∃ p ws, v = .ref p ∧ (R p = some (.dK ws) ∨ ∃ o, G p = some (.frz o (.dK ws))) ∧ RVk K mg G kvs ws ∧ H0 p ≠ none
inductive RasR (R H0 G : Hp) : List (Str × At) → List (Str × V) → Prop
  | nil : RasR R H0 G [] []
  | cons {nm : Str} {t : At} {v : V} {fs : List (Str × At)} {vs : List (Str × V)} (h : RaR K mg R H0 G t v) (tl : RasR R H0 G fs vs) : RasR R H0 G ((nm, t) :: fs) ((nm, v) :: vs)
/-- the lists in a list of lists -/
inductive TsR (g : Gh) (G H : Hp) : List (List D) → List V → Prop
  | nil : TsR g G H [] []
  | cons {p : Addr} {xs : List D} {us : List V} {xss : List (List D)} {vs : List V} (h : H p = some (.lst us)) (r : RVs K mg G xs us) (q : G p = none ∧ g.R p = none ∧ g.H0 p = none) (tl : TsR g G H xss vs) : TsR g G H (xs :: xss) (.ref p :: vs)
def SlR (g : Gh) (G H : Hp) (i : Nat) (s : Sl) (o : Option (Option V)) : Prop := match s with
  | .no => True
  | .v a => o = some (some (.ref a))
  | .d x => ∃ v, o = some (some v) ∧ RV K mg G x v
  | .l b xs => ∃ a vs, o = some (some (.ref a)) ∧ H a = some (.lst vs) ∧ RVs K mg G xs vs ∧ G a = none ∧ g.R a = none ∧ (b = false → g.H0 a = none) ∧ (b = true → g.A i = some a)
  | .m b kvs => ∃ a vs, o = some (some (.ref a)) ∧ H a = some (.dK vs) ∧ RVk K mg G kvs vs ∧ G a = none ∧ g.R a = none ∧ (b = false → g.H0 a = none) ∧ (b = true → g.A i = some a)
  | .o b fs => ∃ a C dx vs, o = some (some (.ref a)) ∧ mg "Floor" = some (.ref C) ∧ H a = some (.ins C dx vs) ∧ AtsR K mg g G H i b fs vs ∧ (inn fs vs).Nodup ∧ G a = none ∧ g.R a = none ∧ (b = false → g.H0 a = none) ∧ (b = true → g.A i = some a)
  | .r fs => ∃ a C dx vs, o = some (some (.ref a)) ∧ mg "Floor" = some (.ref C) ∧ g.R a = some (.ins C dx vs) ∧ RasR K mg g.R g.H0 G fs vs ∧ g.H0 a ≠ none
  | .t xss => ∃ a vs, o = some (some (.ref a)) ∧ H a = some (.lst vs) ∧ TsR K mg g G H xss vs ∧ (V.ref a :: vs).Nodup ∧ G a = none ∧ g.R a = none ∧ g.H0 a = none
def Sl.own : Sl → Bool
  | .l _ _ => true
  | .m _ _ => true
  | .o _ _ => true
  | .t _ => true
  | _ => false
/-- the slot's thing with root at r owns the object at a -/
def Ft (H : Hp) (s : Sl) (r a : Addr) : Prop := match s with
  | .l _ _ => a = r
  | .m _ _ => a = r
  | .o _ fs => a = r ∨ ∃ C dx vs, H r = some (.ins C dx vs) ∧ a ∈ inn fs vs
  | .t _ => a = r ∨ ∃ vs, H r = some (.lst vs) ∧ V.ref a ∈ vs
  | _ => False
/-- slot i owns the object at a -/
def OwnAt (H : Hp) (σ : St) (S : Sg) (i : Nat) (a : Addr) : Prop := ∃ s r, S[i]? = some s ∧ σ[i]? = some (some (.ref r)) ∧ Ft H s r a

/-- the defs that hold a lambda: their code objects' tables, the lambda's name -/
def lamDefs : List Str := ["standing", "subsets"]
def tbs (K : PySem.W.Frag) : List (Addr × Str) := lamDefs.filterMap fun x => if (He.Fa.glo x).ok K then some ((He.cT K (x, none)).2, x ++ ".<locals>.<lambda>") else none
structure Rep (g : Gh) (G : Hp) (σ : St) (H : Hp) (S : Sg) : Prop where
  g0 : Sub g.G0 G
  fresh : ∀ a, G a ≠ none → g.G0 a ≠ none ∨ g.H0 a = none
  sub : Sub G H
  keep : Sub g.R H
  nof : ∀ a, g.M a → G a = none
  rm : ∀ a, g.M a → g.R a ≠ none
  dom : ∀ a, g.H0 a ≠ none → H a ≠ none
  sl : ∀ i s, S[i]? = some s → SlR K mg g G H i s σ[i]?
  inj : ∀ i j a, OwnAt H σ S i a → OwnAt H σ S j a → i = j
  len : S.length = σ.length
  tabs : LamX.Tabs (tbs K) H
  ntG : ∀ a ps, G a ≠ some (.tbl ps)
  ntR : ∀ a ps, g.R a ≠ some (.tbl ps)

def RP (G : Hp) (σ : St) (p : P) (v : V) : Prop := match p with
  | .d x => RV K mg G x v
  | .s i => σ[i]? = some (some v)

def clsV (c : Str) : Value := (mg c).getD .none

/-- what is wanted behind an expression -/
def PoE (W : WX) (g : Gh) (G : Hp) (σ : St) (r : Res P) (Q : VK) : Prop := match r with
  | .ok p S' => ∀ G' H' v, Sub G G' → Rep K mg g G' σ H' S' → RP K mg G' σ p v → Q v H'
  | .exc c S' => ∀ G' H', Sub G G' → Rep K mg g G' σ H' S' → W (clsV mg c) none σ H'
  | .bad => False
def PoT (W : WX) (g : Gh) (G : Hp) (σ : St) (r : Res Bool) (Q : Bool → Hp → Prop) : Prop := match r with
  | .ok b S' => ∀ G' H', Sub G G' → Rep K mg g G' σ H' S' → Q b H'
  | .exc c S' => ∀ G' H', Sub G G' → Rep K mg g G' σ H' S' → W (clsV mg c) none σ H'
  | .bad => False
inductive RPs (G : Hp) (σ : St) : List P → List V → Prop
  | nil : RPs G σ [] []
  | cons {p : P} {v : V} {ps : List P} {vs : List V} (h : RP K mg G σ p v) (t : RPs G σ ps vs) : RPs G σ (p :: ps) (v :: vs)
def PoA (W : WX) (g : Gh) (G : Hp) (σ : St) (r : Res (List P)) (Q : List V → Hp → Prop) : Prop := match r with
  | .ok ps S' => ∀ G' H' vs, Sub G G' → Rep K mg g G' σ H' S' → RPs K mg G' σ ps vs → Q vs H'
  | .exc c S' => ∀ G' H', Sub G G' → Rep K mg g G' σ H' S' → W (clsV mg c) none σ H'
  | .bad => False
/-- a new list at p that nothing else names -/
structure NewAt (g : Gh) (G H : Hp) (σ : St) (S : Sg) (p : Addr) : Prop where
  g0 : G p = none
  h0 : g.H0 p = none
  r : g.R p = none
  o : ∀ i, ¬ OwnAt H σ S i p
def PoN (W : WX) (g : Gh) (G : Hp) (σ : St) (r : Res (List D)) (Q : VK) : Prop := match r with
  | .ok xs S' => ∀ G' H' p vs, Sub G G' → Rep K mg g G' σ H' S' → H' p = some (.lst vs) → RVs K mg G' xs vs → NewAt g G' H' σ S' p → Q (.ref p) H'
  | .exc c S' => ∀ G' H', Sub G G' → Rep K mg g G' σ H' S' → W (clsV mg c) none σ H'
  | .bad => False
def PoS (W : WX) (g : Gh) (G : Hp) (r : Res Fl) (E : Ends) : Prop := match r with
  | .ok .nx S' => ∀ G' σ' H', Sub G G' → Rep K mg g G' σ' H' S' → E.nx σ' H'
  | .ok (.rt x) S' => ∀ G' σ' H' v, Sub G G' → Rep K mg g G' σ' H' S' → RV K mg G' x v → E.rt v H'
  | .ok .bk S' => ∀ G' σ' H', Sub G G' → Rep K mg g G' σ' H' S' → E.bk σ' H'
  | .ok .ct S' => ∀ G' σ' H', Sub G G' → Rep K mg g G' σ' H' S' → E.ct σ' H'
  | .exc c S' => ∀ G' σ' H', Sub G G' → Rep K mg g G' σ' H' S' → W (clsV mg c) none σ' H'
  | .bad => False
end
end Mw

set_option Elab.async false
set_option linter.all false
set_option maxRecDepth 100000
/-! Mw, part B: how a frame's picture stays true. -/
namespace Mw
open PySem PySem.Spec PyProof.Rows L2
section
variable {K : PySem.W.Frag} {mg : Str → Option Value} {g : Gh} {G G' H : Hp} {σ : St} {S : Sg}

theorem RP.mono (s : Sub G G') {p : P} {v : V} (h : RP K mg G σ p v) : RP K mg G' σ p v := by
  cases p with
  | d x => exact RV.mono s h
  | s i => exact h
theorem RPs.mono (s : Sub G G') : ∀ {ps : List P} {vs : List V}, RPs K mg G σ ps vs → RPs K mg G' σ ps vs
  | _, _, .nil => .nil
  | _, _, .cons h t => .cons (h.mono s) (RPs.mono s t)

theorem PoE.mono {W : WX} {r : Res P} {Q : VK} (s : Sub G G') (h : PoE K mg W g G σ r Q) : PoE K mg W g G' σ r Q := by
  cases r with
  | ok p S' => exact fun G2 H2 v s2 => h G2 H2 v (s.trans s2)
  | exc c S' => exact fun G2 H2 s2 => h G2 H2 (s.trans s2)
  | bad => exact h
theorem PoT.mono {W : WX} {r : Res Bool} {Q : Bool → Hp → Prop} (s : Sub G G') (h : PoT K mg W g G σ r Q) : PoT K mg W g G' σ r Q := by
  cases r with
  | ok p S' => exact fun G2 H2 s2 => h G2 H2 (s.trans s2)
  | exc c S' => exact fun G2 H2 s2 => h G2 H2 (s.trans s2)
  | bad => exact h
theorem PoA.mono {W : WX} {r : Res (List P)} {Q : List V → Hp → Prop} (s : Sub G G') (h : PoA K mg W g G σ r Q) : PoA K mg W g G' σ r Q := by
  cases r with
  | ok p S' => exact fun G2 H2 v s2 => h G2 H2 v (s.trans s2)
  | exc c S' => exact fun G2 H2 s2 => h G2 H2 (s.trans s2)
  | bad => exact h
theorem PoN.mono {W : WX} {r : Res (List D)} {Q : VK} (s : Sub G G') (h : PoN K mg W g G σ r Q) : PoN K mg W g G' σ r Q := by
  cases r with
  | ok p S' => exact fun G2 H2 p vs s2 => h G2 H2 p vs (s.trans s2)
  | exc c S' => exact fun G2 H2 s2 => h G2 H2 (s.trans s2)
  | bad => exact h
theorem PoS.mono {W : WX} {r : Res Fl} {E : Ends} (s : Sub G G') (h : PoS K mg W g G r E) : PoS K mg W g G' r E := by
  cases r with
  | ok f S' =>
    cases f with
    | nx => exact fun G2 s2 H2 q => h G2 s2 H2 (s.trans q)
    | rt x => exact fun G2 s2 H2 v q => h G2 s2 H2 v (s.trans q)
    | bk => exact fun G2 s2 H2 q => h G2 s2 H2 (s.trans q)
    | ct => exact fun G2 s2 H2 q => h G2 s2 H2 (s.trans q)
  | exc c S' => exact fun G2 s2 H2 q => h G2 s2 H2 (s.trans q)
  | bad => exact h

theorem Rep.hnone (r : Rep K mg g G σ H S) {p : Addr} (h : H p = none) : g.H0 p = none ∧ g.R p = none ∧ G p = none ∧ ¬ g.M p := by
  refine ⟨?_, r.keep.non h, r.sub.non h, fun z => r.rm p z (r.keep.non h)⟩
  cases e : g.H0 p with
  | none => rfl
  | some o => exact absurd h (r.dom p (by rw [e]; intro z; cases z))
theorem tabs_new {T : List (Addr × Str)} {H : Hp} (t : LamX.Tabs T H) {p : Addr} (h : H p = none) (o : HO) : LamX.Tabs T (upd H p o) := t.ext fun b u e => by rw [upd_ne (ne_of_none e h)]; exact e
theorem tabs_upd {T : List (Addr × Str)} {H : Hp} (t : LamX.Tabs T H) {p : Addr} {v : HO} (h : H p = some v) (n1 : ∀ ps, v ≠ .tbl ps) (n2 : ∀ φ, v ≠ .ext φ) (o : HO) : LamX.Tabs T (upd H p o) := fun q hq => by
  obtain ⟨ps, h1, h2, h3⟩ := t q hq
  refine ⟨ps, by rw [upd_ne (ne_of h1 h fun z => n1 ps z.symm)]; exact h1, h2, fun pos cv hc => ?_⟩
  obtain ⟨c, e1, e2⟩ := h3 pos cv hc
  exact ⟨c, e1, by rw [upd_ne (ne_of e2 h fun z => n2 _ z.symm)]; exact e2⟩
theorem nt_upd {G : Hp} (h : ∀ a ps, G a ≠ some (.tbl ps)) {p : Addr} {o : HO} (n : ∀ ps, o ≠ .tbl ps) : ∀ a ps, upd G p o a ≠ some (.tbl ps) := fun a ps e => by
  by_cases ha : a = p
  · subst ha; rw [upd_same] at e; exact n ps (Option.some.inj e)
  · rw [upd_ne ha] at e; exact h a ps e
/-- a list, a dict, an object -/
def LD (o : HO) : Prop := (∃ vs, o = .lst vs) ∨ (∃ kvs, o = .dK kvs) ∨ ∃ C dx fs, o = .ins C dx fs
theorem LD.nt {o : HO} (h : LD o) (ps : Array Value) : o ≠ .tbl ps := by rcases h with ⟨_, rfl⟩ | ⟨_, rfl⟩ | ⟨_, _, _, rfl⟩ <;> (intro z; cases z)
theorem LD.ne {o : HO} (h : LD o) (φ : Heap → Prop) : o ≠ .ext φ := by rcases h with ⟨_, rfl⟩ | ⟨_, rfl⟩ | ⟨_, _, _, rfl⟩ <;> (intro z; cases z)
theorem Ft.own {s : Sl} {r a : Addr} (h : Ft H s r a) : s.own = true := by cases s <;> first | rfl | exact h.elim
theorem Ft.root {s : Sl} {a : Addr} (h : s.own = true) : Ft H s a a := by
  cases s with
  | l b xs => rfl
  | m b xs => rfl
  | o b fs => exact .inl rfl
  | t xss => exact .inl rfl
  | _ => cases h
theorem Ft.of_eq {H' : Hp} {s : Sl} {r a : Addr} (e : H' r = H r) (h : Ft H' s r a) : Ft H s r a := by
  cases s with
  | l b xs => exact h
  | m b xs => exact h
  | o b fs => exact h.imp id fun ⟨C, dx, vs, q, m⟩ => ⟨C, dx, vs, by rw [← e]; exact q, m⟩
  | t xss => exact h.imp id fun ⟨vs, q, m⟩ => ⟨vs, by rw [← e]; exact q, m⟩
  | _ => exact h
theorem OwnAt.rt {i : Nat} {s : Sl} {a : Addr} (e : S[i]? = some s) (o : s.own = true) (q : σ[i]? = some (some (.ref a))) : OwnAt H σ S i a := ⟨s, a, e, q, Ft.root o⟩
/-- roots that stay -/
theorem OwnAt.of {H' : Hp} {i : Nat} {a : Addr} (h : OwnAt H' σ S i a) (hr : ∀ s r, S[i]? = some s → s.own = true → σ[i]? = some (some (.ref r)) → H' r = H r) : OwnAt H σ S i a := by
  obtain ⟨s, r, e, q, f⟩ := h
  exact ⟨s, r, e, q, f.of_eq (hr s r e f.own q)⟩
theorem AtsR.inn {i : Nat} {b : Bool} : ∀ {fs : List (Str × At)} {vs : List (Str × V)} {a : Addr}, AtsR K mg g G H i b fs vs → a ∈ Mw.inn fs vs → (∃ o, H a = some o ∧ ((∃ ws, o = .lst ws) ∨ ∃ ws, o = .dK ws)) ∧ Pv g G i b a
  | _, _, _, .nil, h => by cases h
  | (_, t) :: _, (_, v) :: _, a, .cons h tl, m => by
    cases t with
    | d x =>
      have m : a ∈ Mw.inn _ _ := m
      exact AtsR.inn tl m
    | l xs =>
      obtain ⟨p, ws, rfl, h1, h2, h3⟩ := h
      rcases List.mem_cons.mp (show a ∈ p :: Mw.inn _ _ from m) with rfl | m
      · exact ⟨⟨_, h1, .inl ⟨_, rfl⟩⟩, h3⟩
      · exact AtsR.inn tl m
    | m xs =>
      obtain ⟨p, ws, rfl, h1, h2, h3⟩ := h
      rcases List.mem_cons.mp (show a ∈ p :: Mw.inn _ _ from m) with rfl | m
      · exact ⟨⟨_, h1, .inr ⟨_, rfl⟩⟩, h3⟩
      · exact AtsR.inn tl m
theorem AtsR.mono {i : Nat} {b : Bool} {H' : Hp} (sg : Sub G G') : ∀ {fs : List (Str × At)} {vs : List (Str × V)}, AtsR K mg g G H i b fs vs → (∀ a ∈ Mw.inn fs vs, H' a = H a ∧ G' a = G a) → AtsR K mg g G' H' i b fs vs
  | _, _, .nil, _ => .nil
  | (_, t) :: _, (_, v) :: _, .cons h tl, hh => by
    cases t with
    | d x => exact .cons (RV.mono sg h) (AtsR.mono sg tl hh)
    | l xs =>
      obtain ⟨p, ws, rfl, h1, h2, h3, h4⟩ := h
      obtain ⟨e1, e2⟩ := hh p (List.mem_cons_self (a := p))
      exact .cons ⟨p, ws, rfl, by rw [e1]; exact h1, RVs.mono sg h2, by rw [e2]; exact h3, h4⟩ (AtsR.mono sg tl fun a m => hh a (List.mem_cons_of_mem _ m))
    | m xs =>
      obtain ⟨p, ws, rfl, h1, h2, h3, h4⟩ := h
      obtain ⟨e1, e2⟩ := hh p (List.mem_cons_self (a := p))
      exact .cons ⟨p, ws, rfl, by rw [e1]; exact h1, RVk.mono sg h2, by rw [e2]; exact h3, h4⟩ (AtsR.mono sg tl fun a m => hh a (List.mem_cons_of_mem _ m))
theorem TsR.mem : ∀ {xss : List (List D)} {vs : List V} {a : Addr}, TsR K mg g G H xss vs → V.ref a ∈ vs → (∃ us, H a = some (.lst us)) ∧ G a = none ∧ g.R a = none ∧ g.H0 a = none
  | _, _, _, .nil, h => by cases h
  | _, _, a, .cons h r q tl, m => by
    rcases List.mem_cons.mp m with e | m
    · cases e
      exact ⟨⟨_, h⟩, q⟩
    · exact tl.mem m
theorem TsR.mono {H' : Hp} (sg : Sub G G') : ∀ {xss : List (List D)} {vs : List V}, TsR K mg g G H xss vs → (∀ a, V.ref a ∈ vs → H' a = H a ∧ G' a = G a) → TsR K mg g G' H' xss vs
  | _, _, .nil, _ => .nil
  | _, _, .cons h r q tl, hh => by
    obtain ⟨e1, e2⟩ := hh _ List.mem_cons_self
    exact .cons (by rw [e1]; exact h) (r.mono sg) ⟨by rw [e2]; exact q.1, q.2⟩ (tl.mono sg fun a m => hh a (List.mem_cons_of_mem _ m))
theorem TsR.gh {g' : Gh} (eh : g'.H0 = g.H0) : ∀ {xss : List (List D)} {vs : List V}, TsR K mg g G H xss vs → (∀ a, V.ref a ∈ vs → g'.R a = none) → TsR K mg g' G H xss vs
  | _, _, .nil, _ => .nil
  | _, _, .cons h r q tl, hh => .cons h r ⟨q.1, hh _ List.mem_cons_self, by rw [eh]; exact q.2.2⟩ (tl.gh eh fun a m => hh a (List.mem_cons_of_mem _ m))
theorem RaR.mono {R H0 : Hp} (sg : Sub G G') {t : At} {v : V} (h : RaR K mg R H0 G t v) : RaR K mg R H0 G' t v := by
  cases t with
  | d x => exact RV.mono sg h
  | l xs =>
    obtain ⟨p, ws, e, h1, h2, h3⟩ := h
    exact ⟨p, ws, e, h1, h2.mono sg, h3⟩
  | m xs =>
    obtain ⟨p, ws, e, h1, h2, h3⟩ := h
    exact ⟨p, ws, e, h1.imp id fun ⟨o, q⟩ => ⟨o, sg _ _ q⟩, h2.mono sg, h3⟩
theorem RasR.mono {R H0 : Hp} (sg : Sub G G') : ∀ {fs : List (Str × At)} {vs : List (Str × V)}, RasR K mg R H0 G fs vs → RasR K mg R H0 G' fs vs
  | _, _, .nil => .nil
  | _, _, .cons h tl => .cons (h.mono sg) (RasR.mono sg tl)
/-- under another R that is alike where things stood at the entry -/
theorem RaR.re {R R' H0 : Hp} {t : At} {v : V} (h : RaR K mg R H0 G t v) (hh : ∀ a, H0 a ≠ none → R' a = R a) : RaR K mg R' H0 G t v := by
  cases t with
  | d x => exact h
  | l xs =>
    obtain ⟨p, ws, e, h1, h2, h3⟩ := h
    exact ⟨p, ws, e, (hh p h3).trans h1, h2, h3⟩
  | m xs =>
    obtain ⟨p, ws, e, h1, h2, h3⟩ := h
    exact ⟨p, ws, e, h1.imp (hh p h3).trans id, h2, h3⟩
theorem RasR.re {R R' H0 : Hp} (hh : ∀ a, H0 a ≠ none → R' a = R a) : ∀ {fs : List (Str × At)} {vs : List (Str × V)}, RasR K mg R H0 G fs vs → RasR K mg R' H0 G fs vs
  | _, _, .nil => .nil
  | _, _, .cons h tl => .cons (h.re hh) (RasR.re hh tl)
theorem Rep.ownL (r : Rep K mg g G σ H S) {i : Nat} {a : Addr} (h : OwnAt H σ S i a) : ∃ o, H a = some o ∧ LD o := by
  obtain ⟨s, rt, e, q, f⟩ := h
  have z := r.sl i s e
  cases s with
  | no => exact f.elim
  | d x => exact f.elim
  | v a => exact f.elim
  | r fs => exact f.elim
  | l b xs =>
    obtain ⟨a', vs, e1, e2, _⟩ := z
    rw [q] at e1
    cases e1
    cases (show a = _ from f)
    exact ⟨_, e2, .inl ⟨_, rfl⟩⟩
  | m b xs =>
    obtain ⟨a', vs, e1, e2, _⟩ := z
    rw [q] at e1
    cases e1
    cases (show a = _ from f)
    exact ⟨_, e2, .inr (.inl ⟨_, rfl⟩)⟩
  | o b fs =>
    obtain ⟨a', C, dx, vs, e1, _, e2, e3, _⟩ := z
    rw [q] at e1
    cases e1
    rcases f with rfl | ⟨C', dx', vs', e4, m⟩
    · exact ⟨_, e2, .inr (.inr ⟨_, _, _, rfl⟩)⟩
    · rw [e2] at e4
      cases e4
      obtain ⟨⟨o, h1, h2⟩, _⟩ := e3.inn m
      exact ⟨o, h1, h2.imp id .inl⟩
  | t xss =>
    obtain ⟨a', vs, e1, e2, e3, _⟩ := z
    rw [q] at e1
    cases e1
    rcases f with rfl | ⟨vs', e4, m⟩
    · exact ⟨_, e2, .inl ⟨_, rfl⟩⟩
    · rw [e2] at e4
      cases e4
      obtain ⟨⟨us, h1⟩, _⟩ := e3.mem m
      exact ⟨_, h1, .inl ⟨_, rfl⟩⟩
theorem Rep.ownH (r : Rep K mg g G σ H S) {i : Nat} {a : Addr} (h : OwnAt H σ S i a) : H a ≠ none ∧ G a = none ∧ g.R a = none := by
  obtain ⟨o, h1, _⟩ := r.ownL h
  refine ⟨(by rw [h1]; intro z; cases z), ?_⟩
  obtain ⟨s, rt, e, q, f⟩ := h
  have z := r.sl i s e
  cases s with
  | no => exact f.elim
  | d x => exact f.elim
  | v a => exact f.elim
  | r fs => exact f.elim
  | l b xs =>
    obtain ⟨a', vs, e1, e2, _, e4, e5, _⟩ := z
    rw [q] at e1
    cases e1
    cases (show a = _ from f)
    exact ⟨e4, e5⟩
  | m b xs =>
    obtain ⟨a', vs, e1, e2, _, e4, e5, _⟩ := z
    rw [q] at e1
    cases e1
    cases (show a = _ from f)
    exact ⟨e4, e5⟩
  | o b fs =>
    obtain ⟨a', C, dx, vs, e1, _, e2, e3, _, e4, e5, _⟩ := z
    rw [q] at e1
    cases e1
    rcases f with rfl | ⟨C', dx', vs', e6, m⟩
    · exact ⟨e4, e5⟩
    · rw [e2] at e6
      cases e6
      exact ⟨(e3.inn m).2.1, (e3.inn m).2.2.1⟩
  | t xss =>
    obtain ⟨a', vs, e1, e2, e3, _, e4, e5, _⟩ := z
    rw [q] at e1
    cases e1
    rcases f with rfl | ⟨vs', e6, m⟩
    · exact ⟨e4, e5⟩
    · rw [e2] at e6
      cases e6
      exact ⟨(e3.mem m).2.1, (e3.mem m).2.2.1⟩
theorem Rep.rootH (r : Rep K mg g G σ H S) {i : Nat} {s : Sl} {a : Addr} (e : S[i]? = some s) (o : s.own = true) (q : σ[i]? = some (some (.ref a))) : H a ≠ none := (r.ownH (OwnAt.rt e o q)).1
/-- what is owned does not change by a new object -/
theorem Rep.ownNew (r : Rep K mg g G σ H S) {p : Addr} {o : HO} (h : H p = none) {i : Nat} {a : Addr} (z : OwnAt (upd H p o) σ S i a) : OwnAt H σ S i a := z.of fun s rt e ow q => upd_ne fun w => by
  subst w
  exact r.rootH e ow q h
/-- .. nor by a change of what nobody owns -/
theorem OwnAt.upd {p : Addr} {o : HO} (n : ∀ j, ¬ OwnAt H σ S j p) {i : Nat} {a : Addr} (z : OwnAt (L2.upd H p o) σ S i a) : OwnAt H σ S i a := z.of fun s rt e ow q => upd_ne fun w => by
  subst w
  exact n i (OwnAt.rt e ow q)
theorem SlR.mono {i : Nat} {s : Sl} {o : Option (Option V)} {H' : Hp} (sg : Sub G G') (h : SlR K mg g G H i s o) (hh : ∀ r a, o = some (some (.ref r)) → Ft H s r a → H' a = H a ∧ G' a = G a) : SlR K mg g G' H' i s o := by
  cases s with
  | no => trivial
  | v a => exact h
  | d x =>
    obtain ⟨v, e, r⟩ := h
    exact ⟨v, e, r.mono sg⟩
  | l b xs =>
    obtain ⟨a, vs, e1, e2, e3, e4, e5⟩ := h
    obtain ⟨q1, q2⟩ := hh a a e1 rfl
    exact ⟨a, vs, e1, by rw [q1]; exact e2, e3.mono sg, by rw [q2]; exact e4, e5⟩
  | m b xs =>
    obtain ⟨a, vs, e1, e2, e3, e4, e5⟩ := h
    obtain ⟨q1, q2⟩ := hh a a e1 rfl
    exact ⟨a, vs, e1, by rw [q1]; exact e2, e3.mono sg, by rw [q2]; exact e4, e5⟩
  | o b fs =>
    obtain ⟨a, C, dx, vs, e1, em, e2, e3, nd, e4, e5⟩ := h
    obtain ⟨q1, q2⟩ := hh a a e1 (.inl rfl)
    exact ⟨a, C, dx, vs, e1, em, by rw [q1]; exact e2, e3.mono sg fun p m => hh a p e1 (.inr ⟨C, dx, vs, e2, m⟩), nd, by rw [q2]; exact e4, e5⟩
  | r fs =>
    obtain ⟨a, C, dx, vs, e1, em, e2, e3⟩ := h
    exact ⟨a, C, dx, vs, e1, em, e2, e3.1.mono sg, e3.2⟩
  | t xss =>
    obtain ⟨a, vs, e1, e2, e3, nd, e4, e5⟩ := h
    obtain ⟨q1, q2⟩ := hh a a e1 (.inl rfl)
    exact ⟨a, vs, e1, by rw [q1]; exact e2, e3.mono sg fun p m => hh a p e1 (.inr ⟨vs, e2, m⟩), nd, by rw [q2]; exact e4, e5⟩
/-- a new object that is data from now on -/
theorem Rep.newF (r : Rep K mg g G σ H S) {p : Addr} (h : H p = none) (o : HO) (ho : ∀ ps, o ≠ .tbl ps := by intro _ z; cases z) : Rep K mg g (upd G p o) σ (upd H p o) S := by
  obtain ⟨z1, z2, z3, z4⟩ := r.hnone h
  refine ⟨r.g0.upd_r (r.g0.non z3), fun a e => ?_, r.sub.upd_b p o, r.keep.upd_r z2, fun a e => ?_, r.rm, fun a e => ?_, fun i s e => ?_, fun i j a h1 h2 => r.inj i j a (r.ownNew h h1) (r.ownNew h h2), r.len, tabs_new r.tabs h o, nt_upd r.ntG ho, r.ntR⟩
  · by_cases ha : a = p
    · subst ha; exact .inr z1
    · rw [upd_ne ha] at e; exact r.fresh a e
  · rw [upd_ne (fun z => by subst z; exact z4 e)]; exact r.nof a e
  · by_cases ha : a = p
    · subst ha; rw [upd_same]; intro z; cases z
    · rw [upd_ne ha]; exact r.dom a e
  · refine (r.sl i s e).mono (Sub.upd_new G z3) fun rt a oa f => ?_
    have q := r.ownH (i := i) (a := a) ⟨s, rt, e, oa, f⟩
    have ha : a ≠ p := fun z => by subst z; exact q.1 h
    exact ⟨upd_ne ha, upd_ne ha⟩
/-- a new object that is not data yet -/
theorem Rep.newO (r : Rep K mg g G σ H S) {p : Addr} (h : H p = none) (o : HO) : Rep K mg g G σ (upd H p o) S ∧ NewAt g G (upd H p o) σ S p := by
  obtain ⟨z1, z2, z3, z4⟩ := r.hnone h
  refine ⟨⟨r.g0, r.fresh, r.sub.upd_r z3, r.keep.upd_r z2, r.nof, r.rm, fun a e => ?_, fun i s e => ?_, fun i j a h1 h2 => r.inj i j a (r.ownNew h h1) (r.ownNew h h2), r.len, tabs_new r.tabs h o, r.ntG, r.ntR⟩, z3, z1, z2, fun i z => (r.ownH (r.ownNew h z)).1 h⟩
  · by_cases ha : a = p
    · subst ha; rw [upd_same]; intro z; cases z
    · rw [upd_ne ha]; exact r.dom a e
  · refine (r.sl i s e).mono (Sub.refl G) fun rt a oa f => ?_
    have q := r.ownH (i := i) (a := a) ⟨s, rt, e, oa, f⟩
    exact ⟨upd_ne (fun z => by subst z; exact q.1 h), rfl⟩
/-- such an object becomes data -/
theorem Rep.data (r : Rep K mg g G σ H S) {p : Addr} {o : HO} (h : H p = some o) (n : NewAt g G H σ S p) (ho : ∀ ps, o ≠ .tbl ps := by intro _ z; cases z) : Rep K mg g (upd G p o) σ H S := by
  refine ⟨r.g0.upd_r (r.g0.non n.g0), fun a e => ?_, r.sub.upd_have h, r.keep, fun a e => ?_, r.rm, r.dom, fun i s e => ?_, r.inj, r.len, r.tabs, nt_upd r.ntG ho, r.ntR⟩
  · by_cases ha : a = p
    · subst ha; exact .inr n.h0
    · rw [upd_ne ha] at e; exact r.fresh a e
  · rw [upd_ne (fun z => by subst z; exact r.rm a e n.r)]; exact r.nof a e
  · refine (r.sl i s e).mono (Sub.upd_new G n.g0) fun rt a oa f => ?_
    exact ⟨rfl, upd_ne (fun z => by subst z; exact n.o i ⟨s, rt, e, oa, f⟩)⟩
theorem get_set {α : Type} {l : List α} {i j : Nat} {x y : α} (h : (l.set i x)[j]? = some y) : (i = j ∧ y = x ∧ i < l.length) ∨ (i ≠ j ∧ l[j]? = some y) := by
  by_cases e : i = j
  · subst e
    by_cases hl : i < l.length
    · rw [List.getElem?_set_self hl] at h
      exact .inl ⟨rfl, (Option.some.inj h).symm, hl⟩
    · rw [List.getElem?_eq_none (by simpa using hl)] at h
      cases h
  · rw [List.getElem?_set_ne e] at h
    exact .inr ⟨e, h⟩
theorem Rep.setG (r : Rep K mg g G σ H S) {i : Nat} {v : V} {s : Sl} (hs : SlR K mg g G H i s (some (some v))) (ho : ∀ rt a j, v = .ref rt → Ft H s rt a → ¬ OwnAt H σ S j a) : Rep K mg g G (σ.set i (some v)) H (S.set i s) := by
  have own : ∀ j a, OwnAt H (σ.set i (some v)) (S.set i s) j a → (j = i ∧ ∃ rt, v = .ref rt ∧ Ft H s rt a) ∨ (j ≠ i ∧ OwnAt H σ S j a) := by
    rintro j a ⟨s', rt, e, q, f⟩
    rcases get_set e with ⟨rfl, rfl, hl⟩ | ⟨hij, e⟩
    · rcases get_set q with ⟨_, e2, _⟩ | ⟨z, _⟩
      · exact .inl ⟨rfl, rt, (Option.some.inj e2).symm, f⟩
      · exact absurd rfl z
    · rcases get_set q with ⟨z, _⟩ | ⟨_, q⟩
      · exact absurd z hij
      · exact .inr ⟨Ne.symm hij, s', rt, e, q, f⟩
  refine ⟨r.g0, r.fresh, r.sub, r.keep, r.nof, r.rm, r.dom, fun j s' e => ?_, fun j k a h1 h2 => ?_, by rw [List.length_set, List.length_set]; exact r.len, r.tabs, r.ntG, r.ntR⟩
  · rcases get_set e with ⟨rfl, rfl, hl⟩ | ⟨hij, e⟩
    · rw [List.getElem?_set_self (by rw [← r.len]; exact hl)]
      exact hs
    · rw [List.getElem?_set_ne hij]
      exact r.sl j s' e
  · rcases own j a h1 with ⟨rfl, rt, z, f⟩ | ⟨n1, q1⟩
    · rcases own k a h2 with ⟨rfl, _⟩ | ⟨n2, q2⟩
      · rfl
      · exact absurd q2 (ho rt a k z f)
    · rcases own k a h2 with ⟨rfl, rt, z, f⟩ | ⟨n2, q2⟩
      · exact absurd q1 (ho rt a j z f)
      · exact r.inj j k a q1 q2
/-- data is stored -/
theorem Rep.setD (r : Rep K mg g G σ H S) (i : Nat) {v : V} {x : D} (h : RV K mg G x v) : Rep K mg g G (σ.set i (some v)) H (S.set i (.d x)) :=
  r.setG ⟨v, rfl, h⟩ fun _ _ _ _ z => z.elim
/-- a new list is stored -/
theorem Rep.setL (r : Rep K mg g G σ H S) (i : Nat) {p : Addr} {vs : List V} {xs : List D} (h : H p = some (.lst vs)) (rv : RVs K mg G xs vs) (n : NewAt g G H σ S p) : Rep K mg g G (σ.set i (some (.ref p))) H (S.set i (.l false xs)) :=
  r.setG ⟨p, vs, rfl, h, rv, n.g0, n.r, fun _ => n.h0, fun z => by cases z⟩ fun _ a j e f => by cases e; cases (show a = _ from f); exact n.o j
theorem Rep.setM (r : Rep K mg g G σ H S) (i : Nat) {p : Addr} {vs : List (Key × V)} {xs : List (Key × D)} (h : H p = some (.dK vs)) (rv : RVk K mg G xs vs) (n : NewAt g G H σ S p) : Rep K mg g G (σ.set i (some (.ref p))) H (S.set i (.m false xs)) :=
  r.setG ⟨p, vs, rfl, h, rv, n.g0, n.r, fun _ => n.h0, fun z => by cases z⟩ fun _ a j e f => by cases e; cases (show a = _ from f); exact n.o j
/-- the slot's own thing -/
theorem Rep.lAt (r : Rep K mg g G σ H S) {i : Nat} {b : Bool} {xs : List D} (e : S[i]? = some (.l b xs)) : ∃ a vs, σ[i]? = some (some (.ref a)) ∧ H a = some (.lst vs) ∧ RVs K mg G xs vs ∧ G a = none ∧ g.R a = none ∧ (b = false → g.H0 a = none) ∧ (b = true → g.A i = some a) := r.sl i _ e
theorem Rep.mAt (r : Rep K mg g G σ H S) {i : Nat} {b : Bool} {xs : List (Key × D)} (e : S[i]? = some (.m b xs)) : ∃ a vs, σ[i]? = some (some (.ref a)) ∧ H a = some (.dK vs) ∧ RVk K mg G xs vs ∧ G a = none ∧ g.R a = none ∧ (b = false → g.H0 a = none) ∧ (b = true → g.A i = some a) := r.sl i _ e
theorem Rep.dAt (r : Rep K mg g G σ H S) {i : Nat} {x : D} (e : S[i]? = some (.d x)) : ∃ v, σ[i]? = some (some v) ∧ RV K mg G x v := r.sl i _ e
/-- the thing of slot i (its part at a) is changed, and nothing else; what it owns then, it owned before, or nobody did -/
theorem Rep.updG (r : Rep K mg g G σ H S) {i : Nat} {a rt : Addr} {o : HO} {s : Sl} (ha : OwnAt H σ S i a) (hrt : σ[i]? = some (some (.ref rt))) (hs : SlR K mg g G (upd H a o) i s (some (some (.ref rt)))) (os : ∀ b, Ft (upd H a o) s rt b → OwnAt H σ S i b ∨ ∀ j, ¬ OwnAt H σ S j b) : Rep K mg g G σ (upd H a o) (S.set i s) := by
  obtain ⟨q1, q2, q3⟩ := r.ownH ha
  have hl : i < S.length := by
    obtain ⟨s', _, e, _⟩ := ha
    exact (List.getElem?_eq_some_iff.mp e).1
  have own : ∀ j b, OwnAt (upd H a o) σ (S.set i s) j b → OwnAt H σ S j b ∨ (j = i ∧ ∀ j, ¬ OwnAt H σ S j b) := by
    rintro j b ⟨s', rt', e, q, f⟩
    rcases get_set e with ⟨rfl, rfl, _⟩ | ⟨hij, e⟩
    · rw [hrt] at q
      cases q
      exact (os b f).imp id fun z => ⟨rfl, z⟩
    · refine .inl ⟨s', rt', e, q, f.of_eq (upd_ne fun z => ?_)⟩
      subst z
      exact hij (r.inj i j _ ha (OwnAt.rt e f.own q))
  refine ⟨r.g0, r.fresh, r.sub.upd_r q2, r.keep.upd_r q3, r.nof, r.rm, fun b e => ?_, fun j s' e => ?_, fun j k b h1 h2 => ?_, by rw [List.length_set]; exact r.len, (by obtain ⟨v, hv, ld⟩ := r.ownL ha; exact tabs_upd r.tabs hv ld.nt ld.ne o), r.ntG, r.ntR⟩
  · by_cases hb : b = a
    · subst hb; rw [upd_same]; intro z; cases z
    · rw [upd_ne hb]; exact r.dom b e
  · rcases get_set e with ⟨rfl, rfl, _⟩ | ⟨hij, e⟩
    · rw [hrt]; exact hs
    · refine (r.sl j s' e).mono (Sub.refl G) fun rt' b ob f => ⟨upd_ne (fun z => ?_), rfl⟩
      subst z
      exact hij (r.inj i j b ha ⟨s', rt', e, ob, f⟩)
  · rcases own j b h1 with p1 | ⟨e1, n1⟩
    · rcases own k b h2 with p2 | ⟨e2, n2⟩
      · exact r.inj j k b p1 p2
      · exact absurd p1 (n2 j)
    · rcases own k b h2 with p2 | ⟨e2, _⟩
      · exact absurd p2 (n1 k)
      · exact e1.trans e2.symm
theorem Rep.updL (r : Rep K mg g G σ H S) {i : Nat} {b : Bool} {xs ys : List D} {a : Addr} {ws : List V} (e : S[i]? = some (.l b xs)) (ea : σ[i]? = some (some (.ref a))) (rv : RVs K mg G ys ws) : Rep K mg g G σ (upd H a (.lst ws)) (S.set i (.l b ys)) := by
  obtain ⟨a', vs, e1, e2, e3, e4, e5, e6, e7⟩ := r.lAt e
  rw [ea] at e1
  cases e1
  exact r.updG (OwnAt.rt e rfl ea) ea ⟨a, ws, rfl, upd_same, rv, e4, e5, e6, e7⟩ fun b f => .inl (by cases (show b = _ from f); exact OwnAt.rt e rfl ea)
theorem Rep.updM (r : Rep K mg g G σ H S) {i : Nat} {b : Bool} {xs ys : List (Key × D)} {a : Addr} {ws : List (Key × V)} (e : S[i]? = some (.m b xs)) (ea : σ[i]? = some (some (.ref a))) (rv : RVk K mg G ys ws) : Rep K mg g G σ (upd H a (.dK ws)) (S.set i (.m b ys)) := by
  obtain ⟨a', vs, e1, e2, e3, e4, e5, e6, e7⟩ := r.mAt e
  rw [ea] at e1
  cases e1
  exact r.updG (OwnAt.rt e rfl ea) ea ⟨a, ws, rfl, upd_same, rv, e4, e5, e6, e7⟩ fun b f => .inl (by cases (show b = _ from f); exact OwnAt.rt e rfl ea)
/-- a slot's own thing becomes data (a list, a dict) -/
theorem Rep.frzG (r : Rep K mg g G σ H S) {i : Nat} {a : Addr} {o : HO} {x : D} (ha : OwnAt H σ S i a) (hq : σ[i]? = some (some (.ref a))) (ho : H a = some o) (h0 : g.H0 a = none) (rx : RV K mg (upd G a o) x (.ref a)) : Rep K mg g (upd G a o) σ H (S.set i (.d x)) := by
  obtain ⟨q1, q2, q3⟩ := r.ownH ha
  have own : ∀ j b, OwnAt H σ (S.set i (.d x)) j b → j ≠ i ∧ OwnAt H σ S j b := by
    rintro j b ⟨s', rt, e, q, f⟩
    rcases get_set e with ⟨rfl, rfl, _⟩ | ⟨h, e⟩
    · exact f.elim
    · exact ⟨Ne.symm h, s', rt, e, q, f⟩
  refine ⟨r.g0.upd_r (r.g0.non q2), fun b e => ?_, r.sub.upd_have ho, r.keep, fun b e => ?_, r.rm, r.dom, fun j s' e => ?_, fun j k b h1 h2 => r.inj j k b (own j b h1).2 (own k b h2).2, by rw [List.length_set]; exact r.len, r.tabs, nt_upd r.ntG (by obtain ⟨v, hv, ld⟩ := r.ownL ha; rw [ho] at hv; cases hv; exact ld.nt), r.ntR⟩
  · by_cases hb : b = a
    · subst hb; exact .inr h0
    · rw [upd_ne hb] at e; exact r.fresh b e
  · rw [upd_ne (fun z => by subst z; exact r.rm b e q3)]; exact r.nof b e
  · rcases get_set e with ⟨rfl, rfl, _⟩ | ⟨hij, e⟩
    · exact ⟨_, hq, rx⟩
    · refine (r.sl j s' e).mono (Sub.upd_new G q2) fun rt b ob f => ⟨rfl, upd_ne (fun z => ?_)⟩
      subst z
      exact hij (r.inj i j b ha ⟨s', rt, e, ob, f⟩)
theorem Rep.frzL (r : Rep K mg g G σ H S) {i : Nat} {xs : List D} (e : S[i]? = some (.l false xs)) : ∃ a vs, σ[i]? = some (some (.ref a)) ∧ Sub G (upd G a (.lst vs)) ∧ Rep K mg g (upd G a (.lst vs)) σ H (S.set i (.d (.lst xs))) ∧ RV K mg (upd G a (.lst vs)) (.lst xs) (.ref a) := by
  obtain ⟨a, vs, e1, e2, e3, e4, e5, e6, e7⟩ := r.lAt e
  have s := Sub.upd_new (o := .lst vs) G e4
  have rx : RV K mg (upd G a (.lst vs)) (.lst xs) (.ref a) := .lst upd_same (e3.mono s)
  exact ⟨a, vs, e1, s, r.frzG (OwnAt.rt e rfl e1) e1 e2 (e6 rfl) rx, rx⟩
/-- a slot's own thing becomes data, in another form -/
theorem Rep.frzO (r : Rep K mg g G σ H S) {i : Nat} {a : Addr} {o : HO} {x : D} (ha : OwnAt H σ S i a) (hq : σ[i]? = some (some (.ref a))) (h0 : g.H0 a = none) (no : ∀ ps, o ≠ .tbl ps) (rx : RV K mg (upd G a o) x (.ref a)) : Rep K mg g (upd G a o) σ (upd H a o) (S.set i (.d x)) := by
  obtain ⟨q1, q2, q3⟩ := r.ownH ha
  have own : ∀ j b, OwnAt (upd H a o) σ (S.set i (.d x)) j b → j ≠ i ∧ OwnAt H σ S j b := by
    rintro j b ⟨s', rt, e, q, f⟩
    rcases get_set e with ⟨rfl, rfl, _⟩ | ⟨h, e⟩
    · exact f.elim
    · refine ⟨Ne.symm h, s', rt, e, q, f.of_eq (upd_ne fun z => ?_)⟩
      subst z
      exact h (r.inj i j _ ha (OwnAt.rt e f.own q))
  refine ⟨r.g0.upd_r (r.g0.non q2), fun b e => ?_, r.sub.upd_b a o, r.keep.upd_r q3, fun b e => ?_, r.rm, fun b e => ?_, fun j s' e => ?_, fun j k b h1 h2 => r.inj j k b (own j b h1).2 (own k b h2).2, by rw [List.length_set]; exact r.len, (by obtain ⟨v, hv, ld⟩ := r.ownL ha; exact tabs_upd r.tabs hv ld.nt ld.ne o), nt_upd r.ntG no, r.ntR⟩
  · by_cases hb : b = a
    · subst hb; exact .inr h0
    · rw [upd_ne hb] at e; exact r.fresh b e
  · rw [upd_ne (fun z => by subst z; exact r.rm b e q3)]; exact r.nof b e
  · by_cases hb : b = a
    · subst hb; rw [upd_same]; intro z; cases z
    · rw [upd_ne hb]; exact r.dom b e
  · rcases get_set e with ⟨rfl, rfl, _⟩ | ⟨hij, e⟩
    · exact ⟨_, hq, rx⟩
    · refine (r.sl j s' e).mono (Sub.upd_new G q2) fun rt b ob f => ?_
      have hb : b ≠ a := fun z => by
        subst z
        exact hij (r.inj i j b ha ⟨s', rt, e, ob, f⟩)
      exact ⟨upd_ne hb, upd_ne hb⟩
theorem Rep.frzM (r : Rep K mg g G σ H S) {i : Nat} {xs : List (Key × D)} (e : S[i]? = some (.m false xs)) : ∃ a vs, σ[i]? = some (some (.ref a)) ∧ H a = some (.dK vs) ∧ ∀ od, Sub G (upd G a (.frz od (.dK vs))) ∧ Rep K mg g (upd G a (.frz od (.dK vs))) σ (upd H a (.frz od (.dK vs))) (S.set i (.d (.dct xs))) ∧ RV K mg (upd G a (.frz od (.dK vs))) (.dct xs) (.ref a) := by
  obtain ⟨a, vs, e1, e2, e3, e4, e5, e6, e7⟩ := r.mAt e
  refine ⟨a, vs, e1, e2, fun od => ?_⟩
  have s := Sub.upd_new (o := .frz od (.dK vs)) G e4
  have rx : RV K mg (upd G a (.frz od (.dK vs))) (.dct xs) (.ref a) := .dct upd_same (e3.mono s)
  exact ⟨s, r.frzO (OwnAt.rt e rfl e1) e1 (e6 rfl) (fun _ z => by cases z) rx, rx⟩
/-- what is known of the attributes under other ghosts -/
theorem AtsR.gh {g' : Gh} {i : Nat} {b : Bool} (h0 : g'.H0 = g.H0) (hB : g'.B = g.B) : ∀ {fs : List (Str × At)} {vs : List (Str × V)}, AtsR K mg g G H i b fs vs → (∀ a ∈ Mw.inn fs vs, g'.R a = none) → AtsR K mg g' G H i b fs vs
  | _, _, .nil, _ => .nil
  | (_, t) :: _, (_, v) :: _, .cons h tl, hh => by
    cases t with
    | d x => exact .cons h (AtsR.gh h0 hB tl hh)
    | l xs =>
      obtain ⟨p, ws, rfl, h1, h2, h3, h4, h5, h6⟩ := h
      exact .cons ⟨p, ws, rfl, h1, h2, h3, hh p (List.mem_cons_self (a := p)), by rw [h0]; exact h5, by rw [h0, hB]; exact h6⟩ (AtsR.gh h0 hB tl fun a m => hh a (List.mem_cons_of_mem _ m))
    | m xs =>
      obtain ⟨p, ws, rfl, h1, h2, h3, h4, h5, h6⟩ := h
      exact .cons ⟨p, ws, rfl, h1, h2, h3, hh p (List.mem_cons_self (a := p)), by rw [h0]; exact h5, by rw [h0, hB]; exact h6⟩ (AtsR.gh h0 hB tl fun a m => hh a (List.mem_cons_of_mem _ m))
/-- a thing that nobody owns changes -/
theorem Rep.upNew (r : Rep K mg g G σ H S) {p : Addr} {u : HO} (o : HO) (h : H p = some u) (ld : LD u) (n : NewAt g G H σ S p) : Rep K mg g G σ (upd H p o) S := by
  refine ⟨r.g0, r.fresh, r.sub.upd_r n.g0, r.keep.upd_r n.r, r.nof, r.rm, fun a e => ?_, fun j t e => ?_, fun i j a h1 h2 => r.inj i j a (OwnAt.upd n.o h1) (OwnAt.upd n.o h2), r.len, tabs_upd r.tabs h ld.nt ld.ne _, r.ntG, r.ntR⟩
  · by_cases ha : a = p
    · subst ha; rw [upd_same]; intro z; cases z
    · rw [upd_ne ha]; exact r.dom a e
  · refine (r.sl j t e).mono (Sub.refl _) fun rt a oa f => ⟨upd_ne (fun z => ?_), rfl⟩
    subst z
    exact n.o j ⟨t, rt, e, oa, f⟩
theorem NewAt.upd {p q : Addr} {o : HO} (n : NewAt g G H σ S p) (m : ∀ j, ¬ OwnAt H σ S j q) : NewAt g G (L2.upd H q o) σ S p := ⟨n.g0, n.h0, n.r, fun i z => n.o i (OwnAt.upd m z)⟩
end
end Mw

set_option Elab.async false
set_option linter.all false
set_option maxRecDepth 100000
/-! Mw, part C: combinators, the judgements, expressions. -/
namespace Mw
open PySem PySem.Spec PyProof.Rows L2

abbrev ME := Sg → Res P
abbrev MT := Sg → Res Bool
abbrev MA := Sg → Res (List P)
abbrev MN := Sg → Res (List D)
abbrev MS := Sg → Res Fl
def Res.bind {α β : Type} (r : Res α) (f : α → Sg → Res β) : Res β := match r with
  | .ok a S => f a S
  | .exc c S => .exc c S
  | .bad => .bad

section
variable (X : Cx) (W : WX)
def tE (g : Gh) (m : ME) : TE := fun σ H Q => ∃ S G, Rep X.K X.mg g G σ H S ∧ PoE X.K X.mg W g G σ (m S) Q
def tT (g : Gh) (m : MT) : TT := fun σ H Q => ∃ S G, Rep X.K X.mg g G σ H S ∧ PoT X.K X.mg W g G σ (m S) Q
def tA (g : Gh) (m : MA) : TA := fun σ H Q => ∃ S G, Rep X.K X.mg g G σ H S ∧ PoA X.K X.mg W g G σ (m S) Q
def tN (g : Gh) (m : MN) : TE := fun σ H Q => ∃ S G, Rep X.K X.mg g G σ H S ∧ PoN X.K X.mg W g G σ (m S) Q
def tS (g : Gh) (m : MS) : TS := fun E σ H => ∃ S G, Rep X.K X.mg g G σ H S ∧ PoS X.K X.mg W g G (m S) E
def JE (e : Expr) (m : ME) : Prop := ∀ g, PE X e (tE X W g m)
def JT (e : Expr) (m : MT) : Prop := ∀ g, PT X e (tT X W g m)
def JW (e : Expr) (m : MT) : Prop := ∀ g, PW X e (tT X W g m)
def JA (es : List Expr) (m : MA) : Prop := ∀ g, PA X es (tA X W g m)
def JN (e : Expr) (m : MN) : Prop := ∀ g, PE X e (tN X W g m)
def JS (st : Stmt) (m : MS) : Prop := ∀ g, PS X st (tS X W g m)
def JSs (st : List Stmt) (m : MS) : Prop := ∀ g, PSs X st (tS X W g m)
end

section
variable {X : Cx} {W : WX}
theorem pe_imp {e : Expr} {t t' : TE} (h : PE X e t) (k : ∀ σ H Q, t' σ H Q → t σ H Q) : PE X e t' := ⟨fun pins s σ H Q I q => h.run pins s σ H Q I (k σ H Q q)⟩
theorem pt_imp {e : Expr} {t t' : TT} (h : PT X e t) (k : ∀ σ H Q, t' σ H Q → t σ H Q) : PT X e t' := ⟨fun pins s σ H Q I q => h.run pins s σ H Q I (k σ H Q q)⟩
theorem pw_imp {e : Expr} {t t' : TT} (h : PW X e t) (k : ∀ σ H Q, t' σ H Q → t σ H Q) : PW X e t' := ⟨fun wh pins s σ H Q I q => h.run wh pins s σ H Q I (k σ H Q q)⟩
theorem pa_imp {e : List Expr} {t t' : TA} (h : PA X e t) (k : ∀ σ H Q, t' σ H Q → t σ H Q) : PA X e t' := ⟨fun pos pins s σ H Q I q => h.run pos pins s σ H Q I (k σ H Q q)⟩
theorem ps_imp {e : Stmt} {t t' : TS} (h : PS X e t) (k : ∀ E σ H, t' E σ H → t E σ H) : PS X e t' := ⟨fun pins s σ H E I q => h.run pins s σ H E I (k E σ H q)⟩
theorem pss_imp {e : List Stmt} {t t' : TS} (h : PSs X e t) (k : ∀ E σ H, t' E σ H → t E σ H) : PSs X e t' := ⟨fun pins s σ H E I q => h.run pins s σ H E I (k E σ H q)⟩

/-- behind an expression: the next one -/
theorem po_bindE {g : Gh} {G : Hp} {σ : St} {r : Res P} {f : P → Sg → Res P} {Q R : VK} (h : PoE X.K X.mg W g G σ (r.bind f) Q)
    (k : ∀ p S1 G1 H1 v, Sub G G1 → Rep X.K X.mg g G1 σ H1 S1 → RP X.K X.mg G1 σ p v → PoE X.K X.mg W g G1 σ (f p S1) Q → R v H1) : PoE X.K X.mg W g G σ r R := by
  cases r with
  | ok p S1 => exact fun G1 H1 v s r1 rp => k p S1 G1 H1 v s r1 rp (PoE.mono s h)
  | exc c S1 => exact h
  | bad => exact h

/-! ### names, constants -/
def mVar (i : Nat) : ME := fun S => match S[i]? with
  | some (.d x) => .ok (.d x) S
  | some (.l _ _) => .ok (.s i) S
  | some (.m _ _) => .ok (.s i) S
  | some (.o _ _) => .ok (.s i) S
  | _ => .bad
theorem je_var (i : Nat) {x : Str} {pos : Pos} (hN : X.N[i]? = some x := by rfl) (hv : Vis X.env.scope x := by first | exact Or.inl rfl | exact Or.inr (Or.inl rfl) | exact Or.inr (Or.inr rfl)) (hd : (x == ("__debug__" : Str)) = false := by decide)
    (hc : (x == ("__classdict__" : Str)) = false := by decide) : JE X W (.Name x pos) (mVar i) := fun g => by
  refine pe_imp (pe_var hN hv hd hc) fun σ H Q h => ?_
  obtain ⟨S, G, r, h⟩ := h
  unfold mVar at h
  split at h
  · rename_i x e
    obtain ⟨v, e1, rv⟩ := r.dAt e
    exact ⟨v, e1, h G H v (Sub.refl G) r rv⟩
  · rename_i b xs e
    obtain ⟨a, vs, e1, _⟩ := r.lAt e
    exact ⟨_, e1, h G H _ (Sub.refl G) r e1⟩
  · rename_i b xs e
    obtain ⟨a, vs, e1, _⟩ := r.mAt e
    exact ⟨_, e1, h G H _ (Sub.refl G) r e1⟩
  · rename_i b xs e
    obtain ⟨a, _, _, vs, e1, _⟩ := r.sl i _ e
    exact ⟨_, e1, h G H _ (Sub.refl G) r e1⟩
  · exact h.elim
/-- the name's own list becomes data -/
def mFrz (i : Nat) : ME := fun S => match S[i]? with
  | some (.d x) => .ok (.d x) S
  | some (.l false xs) => .ok (.d (.lst xs)) (S.set i (.d (.lst xs)))
  | some (.m false xs) => .ok (.d (.dct xs)) (S.set i (.d (.dct xs)))
  | _ => .bad
theorem je_frz (i : Nat) {x : Str} {pos : Pos} (hN : X.N[i]? = some x := by rfl) (hv : Vis X.env.scope x := by first | exact Or.inl rfl | exact Or.inr (Or.inl rfl) | exact Or.inr (Or.inr rfl)) (hd : (x == ("__debug__" : Str)) = false := by decide)
    (hc : (x == ("__classdict__" : Str)) = false := by decide) : JE X W (.Name x pos) (mFrz i) := fun g => by
  refine ⟨fun pins s σ H Q I h => ?_⟩
  obtain ⟨S, G, r, h⟩ := h
  unfold mFrz at h
  split at h
  · rename_i x e
    obtain ⟨v, e1, rv⟩ := r.dAt e
    exact (pe_var hN hv hd hc).run pins s σ H Q I ⟨v, e1, h G H v (Sub.refl G) r rv⟩
  · rename_i xs e
    obtain ⟨a, vs, e1, s, r1, rv⟩ := r.frzL e
    exact (pe_var hN hv hd hc).run pins _ σ H Q I ⟨_, e1, h _ H _ s r1 rv⟩
  · rename_i xs e
    obtain ⟨a, vs, e1, e2, k⟩ := r.frzM e
    refine thn ((pe_var hN hv hd hc).run pins s σ H (fun x H1 => x = .ref a ∧ H1 = H) I ⟨_, e1, rfl, rfl⟩) fun u s1 ⟨x, H1, I1, rx, ex, eh⟩ => ?_
    subst ex eh
    obtain ⟨od, I2⟩ := I1.lock e2 trivial
    obtain ⟨sb, r1, rv⟩ := k od
    exact ⟨_, _, I2, rx, h _ _ _ sb r1 rv⟩
  · exact h.elim
def mC (x : D) : ME := fun S => .ok (.d x) S
theorem je_c {e : Expr} {v : V} {x : D} (h : PE X e (tC v)) (r : ∀ G, RV X.K X.mg G x v) : JE X W e (mC x) := fun g =>
  pe_imp h fun σ H Q ⟨S, G, rp, q⟩ => q G H v (Sub.refl G) rp (r G)
theorem je_int {i : Int} {j} {pos : Pos} : JE X W (.Constant (.int i) j pos) (mC (.int i)) := je_c pe_int fun _ => .int i
theorem je_bl {b : Bool} {j} {pos : Pos} : JE X W (.Constant (.bool b) j pos) (mC (.bl b)) := je_c pe_bl fun _ => .bl b
theorem je_non {j} {pos : Pos} : JE X W (.Constant .none j pos) (mC .non) := je_c pe_non fun _ => .non
theorem je_str {x : Str} {j} {pos : Pos} : JE X W (.Constant (.str x) j pos) (mC (.str x)) := je_c pe_str fun _ => .str x
/-- a def of the module as a value -/
theorem je_fn {x : Str} {a : Addr} {pos : Pos} (hg : Gl X x) (hm : X.mg x = some (.ref a)) (hd : (x == ("__debug__" : Str)) = false := by decide) : JE X W (.Name x pos) (mC (.fn x)) := je_c (pe_glob (v := .ref a) hg hm rfl hd) fun _ => .fn hm
/-- a module's int or text -/
theorem je_glob {x : Str} {v : V} {u : Value} {y : D} {pos : Pos} (hg : Gl X x) (hm : X.mg x = some u) (r : RelV v u) (ry : ∀ G, RV X.K X.mg G y v) (hd : (x == ("__debug__" : Str)) = false := by decide) : JE X W (.Name x pos) (mC y) := je_c (pe_glob hg hm r hd) ry

/-! ### operators -/
/-- an operator on values: its reading -/
def rO (X : Cx) (f : Sg → P → P → Option D) : R2 := fun x y H Q => ∃ (g : Gh) (G : Hp) (σ : St) (S : Sg) (p q : P) (d : D), Rep X.K X.mg g G σ H S ∧ RP X.K X.mg G σ p x ∧ RP X.K X.mg G σ q y ∧ f S p q = some d ∧
  ∀ G' H' v, Sub G G' → Rep X.K X.mg g G' σ H' S → RV X.K X.mg G' d v → Q v H'
def mBin (f : Sg → P → P → Option D) (a b : ME) : ME := fun S => (a S).bind fun p S1 => (b S1).bind fun q S2 => match f S2 p q with
  | some d => .ok (.d d) S2
  | none => .bad
theorem op_of {f : Sg → P → P → Option D} {a b : ME} {g : Gh} {σ : St} {H : Hp} {Q : VK} (h : tE X W g (mBin f a b) σ H Q) : tOp (rO X f) (tE X W g a) (tE X W g b) σ H Q := by
  obtain ⟨S, G, r, h⟩ := h
  refine ⟨S, G, r, po_bindE h fun p S1 G1 H1 x s1 r1 rp h => ?_⟩
  refine ⟨S1, G1, r1, po_bindE h fun q S2 G2 H2 y s2 r2 rq h => ?_⟩
  cases e : f S2 p q with
  | none => rw [e] at h; exact h.elim
  | some d =>
    rw [e] at h
    exact ⟨g, G2, σ, S2, p, q, d, r2, rp.mono s2, rq, e, fun G' H' v s r' rv => h G' H' v s r' rv⟩
theorem je_bin {op : Operator} {f : Sg → P → P → Option D} {ea eb : Expr} {a b : ME} {pos : Pos} (ho : OpR X (binaryOp op) (rO X f)) (ha : JE X W ea a) (hb : JE X W eb b) : JE X W (.BinOp ea op eb pos) (mBin f a b) := fun g =>
  pe_imp (pe_op ho (ha g) (hb g)) fun _ _ _ h => op_of h
theorem je_cmp {op : CmpOp} {f : Sg → P → P → Option D} {ea eb : Expr} {a b : ME} {pos : Pos} (ho : OpR X (compareOp op) (rO X f)) (ha : JE X W ea a) (hb : JE X W eb b) (hm : behindInMarks op eb = false) : JE X W (.Compare ea [op] [eb] pos) (mBin f a b) := fun g =>
  pe_imp (pe_cmpR ho (ha g) (hb g) hm) fun _ _ _ h => op_of h
def rO1 (X : Cx) (f : Sg → P → Option D) : V → Hp → VK → Prop := fun x H Q => ∃ (g : Gh) (G : Hp) (σ : St) (S : Sg) (p : P) (d : D), Rep X.K X.mg g G σ H S ∧ RP X.K X.mg G σ p x ∧ f S p = some d ∧
  ∀ G' H' v, Sub G G' → Rep X.K X.mg g G' σ H' S → RV X.K X.mg G' d v → Q v H'
def mUn (f : Sg → P → Option D) (a : ME) : ME := fun S => (a S).bind fun p S1 => match f S1 p with
  | some d => .ok (.d d) S1
  | none => .bad
theorem je_un {op : UnaryOp} {f : Sg → P → Option D} {ea : Expr} {a : ME} {pos : Pos} (ho : UnR X (unaryOp op) (rO1 X f)) (ha : JE X W ea a) : JE X W (.UnaryOp op ea pos) (mUn f a) := fun g => by
  refine pe_imp (pe_un ho (ha g)) fun σ H Q h => ?_
  obtain ⟨S, G, r, h⟩ := h
  refine ⟨S, G, r, po_bindE h fun p S1 G1 H1 x s1 r1 rp h => ?_⟩
  cases e : f S1 p with
  | none => rw [e] at h; exact h.elim
  | some d =>
    rw [e] at h
    exact ⟨g, G1, σ, S1, p, d, r1, rp, e, fun G' H' v s r' rv => h G' H' v s r' rv⟩

/-! ### argument lists -/
def mNil : MA := fun S => .ok [] S
def mCons (a : ME) (b : MA) : MA := fun S => (a S).bind fun p S1 => (b S1).bind fun ps S2 => .ok (p :: ps) S2
theorem ja_nil : JA X W [] mNil := fun g => pa_imp pa_nil fun σ H Q ⟨S, G, r, h⟩ => h G H [] (Sub.refl G) r .nil
theorem ja_cons {e : Expr} {es : List Expr} {a : ME} {b : MA} (ha : JE X W e a) (hb : JA X W es b) (hs : starEach (e :: es) X.env = (false, eval e X.env) :: starEach es X.env := by rfl) : JA X W (e :: es) (mCons a b) := fun g => by
  refine pa_imp (pa_cons (ha g) (hb g) hs) fun σ H Q h => ?_
  obtain ⟨S, G, r, h⟩ := h
  refine ⟨S, G, r, ?_⟩
  unfold mCons at h
  cases e1 : a S with
  | bad => rw [e1] at h; exact h.elim
  | exc c S1 => rw [e1] at h; exact h
  | ok p S1 =>
    rw [e1] at h
    have h : PoA X.K X.mg W g G σ ((b S1).bind fun ps S2 => .ok (p :: ps) S2) Q := h
    intro G1 H1 x s1 r1 rp
    refine ⟨S1, G1, r1, ?_⟩
    cases e2 : b S1 with
    | bad => rw [e2] at h; exact h.elim
    | exc c S2 => rw [e2] at h; exact fun G2 H2 s2 r2 => h G2 H2 (s1.trans s2) r2
    | ok ps S2 =>
      rw [e2] at h
      exact fun G2 H2 vs s2 r2 rps => h G2 H2 (x :: vs) (s1.trans s2) r2 (.cons (rp.mono s2) rps)
/-- all are data -/
def allD : List P → Option (List D)
  | [] => some []
  | .d x :: r => (allD r).map (x :: ·)
  | _ :: _ => none
theorem allD_ok {K : PySem.W.Frag} {mg : Str → Option Value} {G : Hp} {σ : St} : ∀ {ps : List P} {xs : List D} {vs : List V}, allD ps = some xs → RPs K mg G σ ps vs → RVs K mg G xs vs
  | [], _, _, e, .nil => by cases e; exact .nil
  | .d x :: r, _, _, e, .cons h t => by
    obtain ⟨ys, e1, rfl⟩ := Option.map_eq_some_iff.mp e
    exact .cons h (allD_ok e1 t)
  | .s i :: r, _, _, e, _ => by cases e

/-! ### displays -/
def sizeOk (n : Nat) : Bool := Nat.ble n 16777216
theorem sizeOk_le {n : Nat} (h : sizeOk n = true) : n ≤ sizeLine := by
  rw [sizeLine_eq]
  exact Nat.le_of_ble_eq_true h
def mTup (a : MA) : ME := fun S => (a S).bind fun ps S1 => match allD ps with
  | some xs => if sizeOk xs.length then .ok (.d (.tup xs)) S1 else .bad
  | none => .bad
theorem je_tup {es : List Expr} {a : MA} {k} {pos : Pos} (ha : JA X W es a) : JE X W (.Tuple es k pos) (mTup a) := fun g => by
  refine pe_imp (pe_tup (ha g)) fun σ H Q h => ?_
  obtain ⟨S, G, r, h⟩ := h
  refine ⟨S, G, r, ?_⟩
  unfold mTup at h
  cases e1 : a S with
  | bad => rw [e1] at h; exact h.elim
  | exc c S1 => rw [e1] at h; exact h
  | ok ps S1 =>
    rw [e1] at h
    intro G1 H1 vs s1 r1 rps
    cases e2 : allD ps with
    | none => simp only [Res.bind, e2] at h; exact h.elim
    | some xs =>
      simp only [Res.bind, e2] at h
      have rv := allD_ok e2 rps
      split at h
      · rename_i hz
        refine ⟨by rw [← rv.length]; exact sizeOk_le hz, fun p np => ?_⟩
        have sb : Sub G1 (upd G1 p (.tup vs)) := Sub.upd_new G1 (r1.sub.non np)
        exact h _ _ _ (s1.trans sb) (r1.newF np _) (.tup (.inl (.inl upd_same)) (rv.mono sb))
      · exact h.elim
/-- a new list -/
def mLst (a : MA) : MN := fun S => (a S).bind fun ps S1 => match allD ps with
  | some xs => if sizeOk xs.length then .ok xs S1 else .bad
  | none => .bad
theorem jn_lst {es : List Expr} {a : MA} {pos : Pos} (ha : JA X W es a) : JN X W (.List es pos) (mLst a) := fun g => by
  refine pe_imp (pe_lst (ha g)) fun σ H Q h => ?_
  obtain ⟨S, G, r, h⟩ := h
  refine ⟨S, G, r, ?_⟩
  unfold mLst at h
  cases e1 : a S with
  | bad => rw [e1] at h; exact h.elim
  | exc c S1 => rw [e1] at h; exact h
  | ok ps S1 =>
    rw [e1] at h
    intro G1 H1 vs s1 r1 rps
    cases e2 : allD ps with
    | none => simp only [Res.bind, e2] at h; exact h.elim
    | some xs =>
      simp only [Res.bind, e2] at h
      have rv := allD_ok e2 rps
      split at h
      · rename_i hz
        refine ⟨by rw [← rv.length]; exact sizeOk_le hz, fun p np => ?_⟩
        obtain ⟨r2, nw⟩ := r1.newO np (.lst vs)
        exact h _ _ _ vs s1 r2 upd_same rv nw
      · exact h.elim
/-- a new list as data -/
def mDat (m : MN) : ME := fun S => (m S).bind fun xs S1 => .ok (.d (.lst xs)) S1
theorem je_dat {e : Expr} {m : MN} (h : JN X W e m) : JE X W e (mDat m) := fun g => by
  refine pe_imp (h g) fun σ H Q h => ?_
  obtain ⟨S, G, r, h⟩ := h
  refine ⟨S, G, r, ?_⟩
  unfold mDat at h
  cases e1 : m S with
  | bad => rw [e1] at h; exact h.elim
  | exc c S1 => rw [e1] at h; exact h
  | ok xs S1 =>
    rw [e1] at h
    intro G1 H1 p vs s1 r1 hp rv nw
    have sb : Sub G1 (upd G1 p (.lst vs)) := Sub.upd_new G1 nw.g0
    exact h _ _ _ (s1.trans sb) (r1.data hp nw) (.lst upd_same (rv.mono sb))

/-! ### tests -/
def mTruth (f : Sg → P → Option Bool) (a : ME) : MT := fun S => (a S).bind fun p S1 => match f S1 p with
  | some b => .ok b S1
  | none => .bad
/-- a value's truth -/
def truP (S : Sg) : P → Option Bool
  | .d .non => some false
  | .d (.bl b) => some b
  | .d (.int i) => some (i != 0)
  | .d (.str x) => if sizeOk x.length then some ((x.length : Int) != 0) else none
  | .d (.tup xs) => some (!xs.isEmpty)
  | .d (.lst xs) => some (!xs.isEmpty)
  | .d (.dct _) => none
  | .d (.scr ns) => some (!ns.isEmpty)
  | .d (.fn _) => none
  | .d (.row xs) => some (!xs.isEmpty)
  | .d (.obj _) => none
  | .s i => match S[i]? with
    | some (.l _ xs) => some (!xs.isEmpty)
    | some (.m _ xs) => some (!xs.isEmpty)
    | _ => none
theorem RVs.isEmpty {K : PySem.W.Frag} {mg : Str → Option Value} {G : Hp} {xs : List D} {vs : List V} (r : RVs K mg G xs vs) : xs.isEmpty = vs.isEmpty := by cases r <;> rfl
theorem RVk.isEmpty {K : PySem.W.Frag} {mg : Str → Option Value} {G : Hp} {xs : List (Key × D)} {vs : List (Key × V)} (r : RVk K mg G xs vs) : xs.isEmpty = vs.isEmpty := by cases r <;> rfl
theorem truP_ok {g : Gh} {G H : Hp} {σ : St} {S : Sg} {p : P} {v : V} {b : Bool} (r : Rep X.K X.mg g G σ H S) (rp : RP X.K X.mg G σ p v) (e : truP S p = some b) : TruV X.K v H b := by
  cases p with
  | d x =>
    cases rp with
    | non => exact (Option.some.inj e).symm
    | bl b => exact (Option.some.inj e).symm
    | int i => exact (Option.some.inj e).symm
    | str x =>
      dsimp only [truP] at e
      split at e
      · rename_i hz
        exact ⟨sizeOk_le hz, (Option.some.inj e).symm⟩
      · cases e
    | tup h q => exact .inr (.inl ⟨_, r.sub.sqT h, by rw [← q.isEmpty]; exact (Option.some.inj e).symm⟩)
    | lst h q => exact .inl ⟨_, .inl (.inl (r.sub _ _ h)), by rw [← q.isEmpty]; exact (Option.some.inj e).symm⟩
    | dct h q => cases e
    | scr h => exact .inl ⟨_, r.sub.sqL h, by rw [← Option.some.inj e, List.isEmpty_map]⟩
    | fn h => cases e
    | obj _ _ _ => cases e
    | row h _ _ q => exact .inr (.inl ⟨_, .inl (.inr ⟨_, r.sub _ _ h⟩), by rw [← q.isEmpty]; exact (Option.some.inj e).symm⟩)
  | s i =>
    dsimp only [truP] at e
    split at e
    · rename_i b' xs q
      obtain ⟨a, vs, e1, e2, e3, _⟩ := r.lAt q
      have z : some (some v) = some (some (V.ref a)) := (show σ[i]? = _ from rp).symm.trans e1
      cases z
      exact .inl ⟨_, .inl (.inl e2), by rw [← e3.isEmpty]; exact (Option.some.inj e).symm⟩
    · rename_i b' xs q
      obtain ⟨a, vs, e1, e2, e3, _⟩ := r.mAt q
      have z : some (some v) = some (some (V.ref a)) := (show σ[i]? = _ from rp).symm.trans e1
      cases z
      exact .inr (.inr ⟨_, e2, by rw [← e3.isEmpty]; exact (Option.some.inj e).symm⟩)
    · cases e
theorem jt_val {e : Expr} {a : ME} (ha : JE X W e a) (he : ∀ whole, isTrue e X.env whole = (do let v ← whole; standAt e.pos; holding [v] (truthy v)) := by intro _; rfl) : JT X W e (mTruth truP a) := fun g => by
  refine pt_imp (pt_truth (ha g) he) fun σ H Q h => ?_
  obtain ⟨S, G, r, h⟩ := h
  refine ⟨S, G, r, ?_⟩
  unfold mTruth at h
  cases e1 : a S with
  | bad => rw [e1] at h; exact h.elim
  | exc c S1 => rw [e1] at h; exact h
  | ok p S1 =>
    rw [e1] at h
    intro G1 H1 v s1 r1 rp
    cases e2 : truP S1 p with
    | none => simp only [Res.bind, e2] at h; exact h.elim
    | some b =>
      simp only [Res.bind, e2] at h
      exact ⟨b, truP_ok r1 rp e2, h G1 H1 s1 r1⟩
/-- a comparison as a test: its value is a bool -/
def boolP (S : Sg) : P → Option Bool
  | .d (.bl b) => some b
  | _ => none
theorem jt_cmp {op : CmpOp} {f : Sg → P → P → Option D} {ea eb : Expr} {a b : ME} {pos : Pos} (ho : OpR X (compareOp op) (rO X f)) (ha : JE X W ea a) (hb : JE X W eb b) (hm : behindInMarks op eb = false) : JT X W (.Compare ea [op] [eb] pos) (mTruth boolP (mBin f a b)) := fun g => by
  refine pt_imp (pt_cmpR ho (ha g) (hb g) hm) fun σ H Q h => ?_
  refine op_of (Q := fun x H' => ∃ k, x = V.bl k ∧ Q k H') ?_
  obtain ⟨S, G, r, h⟩ := h
  refine ⟨S, G, r, ?_⟩
  unfold mTruth at h
  cases e1 : mBin f a b S with
  | bad => rw [e1] at h; exact h.elim
  | exc c S1 => rw [e1] at h; exact h
  | ok p S1 =>
    rw [e1] at h
    intro G1 H1 v s1 r1 rp
    cases e2 : boolP S1 p with
    | none => simp only [Res.bind, e2] at h; exact h.elim
    | some k =>
      simp only [Res.bind, e2] at h
      cases p with
      | s i => cases e2
      | d x =>
        cases rp with
        | bl b =>
          have := Option.some.inj e2
          subst this
          exact ⟨_, rfl, h G1 H1 s1 r1⟩
        | _ => cases e2
theorem jw_pt {e : Expr} {m : MT} (h : JW X W e m) : JT X W e m := fun g => (h g).pt
def mAndT (a b : MT) : MT := fun S => (a S).bind fun c S1 => if c then b S1 else .ok false S1
def mOrT (a b : MT) : MT := fun S => (a S).bind fun c S1 => if c then .ok true S1 else b S1
def mNotT (a : MT) : MT := fun S => (a S).bind fun c S1 => .ok (!c) S1
theorem jw_and1 {e : Expr} {a : MT} {pos : Pos} (ha : JT X W e a) : JW X W (.BoolOp .And [e] pos) a := fun g => pw_and1 (ha g)
theorem jw_or1 {e : Expr} {a : MT} {pos : Pos} (ha : JT X W e a) : JW X W (.BoolOp .Or [e] pos) a := fun g => pw_or1 (ha g)
theorem jw_and {e e2 : Expr} {es : List Expr} {a b : MT} {pos : Pos} (ha : JT X W e a) (hb : JW X W (.BoolOp .And (e2 :: es) pos) b) : JW X W (.BoolOp .And (e :: e2 :: es) pos) (mAndT a b) := fun g => by
  refine pw_imp (pw_and (ha g) (hb g)) fun σ H Q h => ?_
  obtain ⟨S, G, r, h⟩ := h
  refine ⟨S, G, r, ?_⟩
  unfold mAndT at h
  cases e1 : a S with
  | bad => rw [e1] at h; exact h.elim
  | exc c S1 => rw [e1] at h; exact h
  | ok c S1 =>
    rw [e1] at h
    intro G1 H1 s1 r1
    cases c with
    | true => exact ⟨S1, G1, r1, PoT.mono s1 h⟩
    | false => exact h G1 H1 s1 r1
theorem jw_or {e e2 : Expr} {es : List Expr} {a b : MT} {pos : Pos} (ha : JT X W e a) (hb : JW X W (.BoolOp .Or (e2 :: es) pos) b) : JW X W (.BoolOp .Or (e :: e2 :: es) pos) (mOrT a b) := fun g => by
  refine pw_imp (pw_or (ha g) (hb g)) fun σ H Q h => ?_
  obtain ⟨S, G, r, h⟩ := h
  refine ⟨S, G, r, ?_⟩
  unfold mOrT at h
  cases e1 : a S with
  | bad => rw [e1] at h; exact h.elim
  | exc c S1 => rw [e1] at h; exact h
  | ok c S1 =>
    rw [e1] at h
    intro G1 H1 s1 r1
    cases c with
    | true => exact h G1 H1 s1 r1
    | false => exact ⟨S1, G1, r1, PoT.mono s1 h⟩
theorem jt_not {e : Expr} {a : MT} {pos : Pos} (ha : JT X W e a) : JT X W (.UnaryOp .Not e pos) (mNotT a) := fun g => by
  refine pt_imp (pt_not (ha g)) fun σ H Q h => ?_
  obtain ⟨S, G, r, h⟩ := h
  refine ⟨S, G, r, ?_⟩
  unfold mNotT at h
  cases e1 : a S with
  | bad => rw [e1] at h; exact h.elim
  | exc c S1 => rw [e1] at h; exact h
  | ok c S1 =>
    rw [e1] at h
    exact fun G1 H1 s1 r1 => h G1 H1 s1 r1
/-! ### and, or, not as values (bools), a if t else b -/
def mAndV (a b : ME) : ME := fun S => (a S).bind fun p S1 => match boolP S1 p with
  | some true => b S1
  | some false => .ok (.d (.bl false)) S1
  | none => .bad
def mOrV (a b : ME) : ME := fun S => (a S).bind fun p S1 => match boolP S1 p with
  | some true => .ok (.d (.bl true)) S1
  | some false => b S1
  | none => .bad
theorem boolP_ok {K : PySem.W.Frag} {mg : Str → Option Value} {G : Hp} {σ : St} {S : Sg} {p : P} {v : V} {b : Bool} (rp : RP K mg G σ p v) (e : boolP S p = some b) : v = .bl b := by
  cases p with
  | s i => cases e
  | d x =>
    cases rp with
    | bl b => rw [Option.some.inj e]
    | _ => cases e
theorem je_one {op} {e : Expr} {a : ME} {pos : Pos} (ha : JE X W e a) : JE X W (.BoolOp op [e] pos) a := fun g => pe_one (ha g)
theorem je_and {e e2 : Expr} {es : List Expr} {a b : ME} {pos : Pos} (ha : JE X W e a) (hb : JE X W (.BoolOp .And (e2 :: es) pos) b) : JE X W (.BoolOp .And (e :: e2 :: es) pos) (mAndV a b) := fun g => by
  refine pe_imp (pe_and (ha g) (hb g)) fun σ H Q h => ?_
  obtain ⟨S, G, r, h⟩ := h
  refine ⟨S, G, r, po_bindE h fun p S1 G1 H1 v s1 r1 rp h => ?_⟩
  cases e : boolP S1 p with
  | none => rw [e] at h; exact h.elim
  | some k =>
    rw [e] at h
    refine ⟨k, boolP_ok rp e, ?_⟩
    cases k with
    | true => exact ⟨S1, G1, r1, h⟩
    | false => exact h G1 H1 _ (Sub.refl _) r1 (.bl false)
theorem je_or {e e2 : Expr} {es : List Expr} {a b : ME} {pos : Pos} (ha : JE X W e a) (hb : JE X W (.BoolOp .Or (e2 :: es) pos) b) : JE X W (.BoolOp .Or (e :: e2 :: es) pos) (mOrV a b) := fun g => by
  refine pe_imp (pe_or (ha g) (hb g)) fun σ H Q h => ?_
  obtain ⟨S, G, r, h⟩ := h
  refine ⟨S, G, r, po_bindE h fun p S1 G1 H1 v s1 r1 rp h => ?_⟩
  cases e : boolP S1 p with
  | none => rw [e] at h; exact h.elim
  | some k =>
    rw [e] at h
    refine ⟨k, boolP_ok rp e, ?_⟩
    cases k with
    | true => exact h G1 H1 _ (Sub.refl _) r1 (.bl true)
    | false => exact ⟨S1, G1, r1, h⟩
def notP (S : Sg) (p : P) : Option D := (boolP S p).map fun b => .bl (!b)
theorem je_not {e : Expr} {a : ME} {pos : Pos} (ha : JE X W e a) : JE X W (.UnaryOp .Not e pos) (mUn notP a) := fun g => by
  refine pe_imp (pe_not (ha g)) fun σ H Q h => ?_
  obtain ⟨S, G, r, h⟩ := h
  refine ⟨S, G, r, po_bindE h fun p S1 G1 H1 v s1 r1 rp h => ?_⟩
  unfold notP at h
  cases e : boolP S1 p with
  | none => rw [e] at h; exact h.elim
  | some k =>
    rw [e] at h
    exact ⟨k, boolP_ok rp e, h G1 H1 _ (Sub.refl _) r1 (.bl _)⟩
def mIf (c : MT) (a b : ME) : ME := fun S => (c S).bind fun k S1 => if k then a S1 else b S1
theorem je_if {ec ea eb : Expr} {c : MT} {a b : ME} {pos : Pos} (hc : JT X W ec c) (ha : JE X W ea a) (hb : JE X W eb b) : JE X W (.IfExp ec ea eb pos) (mIf c a b) := fun g => by
  refine pe_imp (pe_ifExp (hc g) (ha g) (hb g)) fun σ H Q h => ?_
  obtain ⟨S, G, r, h⟩ := h
  refine ⟨S, G, r, ?_⟩
  unfold mIf at h
  cases e1 : c S with
  | bad => rw [e1] at h; exact h.elim
  | exc c S1 => rw [e1] at h; exact h
  | ok k S1 =>
    rw [e1] at h
    intro G1 H1 s1 r1
    cases k with
    | true => exact ⟨S1, G1, r1, PoE.mono s1 h⟩
    | false => exact ⟨S1, G1, r1, PoE.mono s1 h⟩
end
end Mw

set_option Elab.async false
set_option linter.all false
set_option maxRecDepth 100000
/-! Mw, part D: operators. -/
namespace Mw
open PySem PySem.Spec PyProof.Rows L2
section
variable {X : Cx}
/-! ### what may be read of a thing -/
def lstOf (S : Sg) : P → Option (List D)
  | .d (.lst xs) => some xs
  | .s i => match S[i]? with
    | some (.l _ xs) => some xs
    | _ => none
  | _ => none
def seqOf (S : Sg) : P → Option (List D)
  | .d (.lst xs) => some xs
  | .d (.tup xs) => some xs
  | .d (.scr ns) => some (ns.map D.int)
  | .d (.row xs) => some xs
  | .s i => match S[i]? with
    | some (.l _ xs) => some xs
    | _ => none
  | _ => none
theorem lstOf_ok {g : Gh} {G H : Hp} {σ : St} {S : Sg} {p : P} {v : V} {xs : List D} (r : Rep X.K X.mg g G σ H S) (rp : RP X.K X.mg G σ p v) (e : lstOf S p = some xs) : ∃ a vs, v = .ref a ∧ H a = some (.lst vs) ∧ RVs X.K X.mg G xs vs := by
  cases p with
  | d x =>
    cases rp with
    | lst h q => cases e; exact ⟨_, _, rfl, r.sub _ _ h, q⟩
    | _ => cases e
  | s i =>
    dsimp only [lstOf] at e
    split at e
    · rename_i b' xs q
      cases e
      obtain ⟨a, vs, e1, e2, e3, _⟩ := r.lAt q
      have z : some (some v) = some (some (V.ref a)) := (show σ[i]? = _ from rp).symm.trans e1
      cases z
      exact ⟨_, _, rfl, e2, e3⟩
    · cases e
theorem seqOf_ok {g : Gh} {G H : Hp} {σ : St} {S : Sg} {p : P} {v : V} {xs : List D} (r : Rep X.K X.mg g G σ H S) (rp : RP X.K X.mg G σ p v) (e : seqOf S p = some xs) : ∃ a vs, v = .ref a ∧ (SqL X.K H a vs ∨ SqT X.K H a vs) ∧ RVs X.K X.mg G xs vs := by
  cases p with
  | d x =>
    cases rp with
    | lst h q => cases e; exact ⟨_, _, rfl, .inl (.inl (.inl (r.sub _ _ h))), q⟩
    | tup h q => cases e; exact ⟨_, _, rfl, .inr (r.sub.sqT h), q⟩
    | @scr ns a h => cases e; exact ⟨_, _, rfl, .inl (r.sub.sqL h), RVs.ints ns⟩
    | row h _ _ q => cases e; exact ⟨_, _, rfl, .inr (.inl (.inr ⟨_, r.sub _ _ h⟩)), q⟩
    | _ => cases e
  | s i =>
    dsimp only [seqOf] at e
    split at e
    · rename_i b' xs q
      cases e
      obtain ⟨a, vs, e1, e2, e3, _⟩ := r.lAt q
      have z : some (some v) = some (some (V.ref a)) := (show σ[i]? = _ from rp).symm.trans e1
      cases z
      exact ⟨_, _, rfl, .inl (.inl (.inl e2)), e3⟩
    · cases e

/-! ### arithmetic -/
def mulOk (i j : Int) : Bool := (decide (-(2 ^ 64) < i) && decide (i < 2 ^ 64)) || (decide (-(2 ^ 64) < j) && decide (j < 2 ^ 64))
theorem mulOk_ok {i j : Int} (h : mulOk i j = true) : CMul i j := by
  unfold mulOk at h
  simp only [Bool.or_eq_true, Bool.and_eq_true, decide_eq_true_eq] at h
  exact h
def opAdd (S : Sg) : P → P → Option D
  | .d (.int i), .d (.int j) => some (.int (i + j))
  | .d (.str x), .d (.str y) => if sizeOk (x.length + y.length) then some (.str (x ++ y)) else none
  | .d (.tup xs), .d (.tup ys) => if sizeOk (xs.length + ys.length) then some (.tup (xs ++ ys)) else none
  | p, q => match lstOf S p, lstOf S q with
    | some xs, some ys => if sizeOk (xs.length + ys.length) then some (.lst (xs ++ ys)) else none
    | _, _ => none
def opSub (_ : Sg) : P → P → Option D
  | .d (.int i), .d (.int j) => some (.int (i - j))
  | _, _ => none
def opMul (S : Sg) : P → P → Option D
  | .d (.int i), .d (.int j) => if mulOk i j then some (.int (i * j)) else none
  | .d (.tup xs), .d (.int k) => if !xs.isEmpty && (decide (2 ≤ k) && (decide (k ≤ 1000) && Nat.ble xs.length 1000)) then some (.tup (List.replicate k.toNat xs).flatten) else if decide (k = 1) then some (.tup xs) else none
  | p, .d (.int k) => match lstOf S p with
    | some xs => if decide (-(2 ^ 63) ≤ k) && (decide (k < 2 ^ 63) && sizeOk (xs.length * k.toNat)) then some (.lst (List.replicate k.toNat xs).flatten) else none
    | none => none
  | _, _ => none
def opFdiv (_ : Sg) : P → P → Option D
  | .d (.int i), .d (.int j) => if decide (j ≠ 0) && Nat.blt j.natAbs 1073741824 then some (.int (i.fdiv j)) else none
  | _, _ => none
def opMod (_ : Sg) : P → P → Option D
  | .d (.int i), .d (.int j) => if decide (j ≠ 0) then some (.int (i.fmod j)) else none
  | _, _ => none
def opPow (_ : Sg) : P → P → Option D
  | .d (.int i), .d (.int j) => if decide (0 ≤ j) && (decide (j ≤ 1000000) && Nat.blt i.natAbs (2 ^ 64)) then some (.int (i ^ j.toNat)) else none
  | _, _ => none
def opNeg (_ : Sg) : P → Option D
  | .d (.int i) => some (.int (-i))
  | _ => none

/-- a binary operator on data, no new object -/
theorem opD_of {f : Value → Value → Sem Value} {op : Sg → P → P → Option D} (h : ∀ (g : Gh) (G H : Hp) (σ : St) (S : Sg) (p q : P) (d : D) (x y : V), Rep X.K X.mg g G σ H S → RP X.K X.mg G σ p x → RP X.K X.mg G σ q y → op S p q = some d →
    ∀ (Q : VK), (∀ G' H' v, Sub G G' → Rep X.K X.mg g G' σ H' S → RV X.K X.mg G' d v → Q v H') → ∃ r : R2, OpR X f r ∧ r x y H Q) : OpR X f (rO X op) := by
  intro pins s σ H x y v u Q I rx ry k
  obtain ⟨g, G, σ', S, p, q, d, r, rp, rq, e, k⟩ := k
  obtain ⟨r2, h1, h2⟩ := h g G H σ' S p q d x y r rp rq e Q k
  exact h1 pins s σ H x y v u Q I rx ry h2
theorem new_lst {g : Gh} {G H : Hp} {σ : St} {S : Sg} {xs : List D} {vs : List V} {Q : VK} (r : Rep X.K X.mg g G σ H S) (rv : RVs X.K X.mg G xs vs) (k : ∀ G' H' v, Sub G G' → Rep X.K X.mg g G' σ H' S → RV X.K X.mg G' (.lst xs) v → Q v H') :
    ∀ p, H p = none → Q (.ref p) (upd H p (.lst vs)) := fun p np => by
  have sb : Sub G (upd G p (.lst vs)) := Sub.upd_new G (r.sub.non np)
  exact k _ _ _ sb (r.newF np _) (.lst upd_same (rv.mono sb))
theorem new_tup {g : Gh} {G H : Hp} {σ : St} {S : Sg} {xs : List D} {vs : List V} {Q : VK} (r : Rep X.K X.mg g G σ H S) (rv : RVs X.K X.mg G xs vs) (k : ∀ G' H' v, Sub G G' → Rep X.K X.mg g G' σ H' S → RV X.K X.mg G' (.tup xs) v → Q v H') :
    ∀ p, H p = none → Q (.ref p) (upd H p (.tup vs)) := fun p np => by
  have sb : Sub G (upd G p (.tup vs)) := Sub.upd_new G (r.sub.non np)
  exact k _ _ _ sb (r.newF np _) (.tup (.inl (.inl upd_same)) (rv.mono sb))
theorem o_add : OpR X (binaryOp .Add) (rO X opAdd) := by
  refine opD_of fun g G H σ S p q d x y r rp rq e Q k => ?_
  unfold opAdd at e
  split at e
  · cases e; cases rp; cases rq
    exact ⟨_, op_add, _, _, rfl, rfl, k G H _ (Sub.refl _) r (.int _)⟩
  · split at e
    · rename_i hz
      cases e; cases rp; cases rq
      exact ⟨_, op_add_str, _, _, rfl, rfl, sizeOk_le hz, k G H _ (Sub.refl _) r (.str _)⟩
    · cases e
  · split at e
    · rename_i hz
      cases e
      cases rp with
      | tup h1 r1 =>
        cases rq with
        | tup h2 r2 =>
          refine ⟨_, op_catA, _, _, _, _, rfl, rfl, r.sub.sqT h1, r.sub.sqT h2, ?_, fun e1 => ?_, fun e1 e2 => ?_, fun _ _ => new_tup r (r1.append r2) k⟩
          · rw [← r1.length, ← r2.length]; exact sizeOk_le hz
          · subst e1
            cases r1
            exact k G H _ (Sub.refl _) r (.tup h2 r2)
          · subst e2
            cases r2
            rw [List.append_nil] at k
            exact k G H _ (Sub.refl _) r (.tup h1 r1)
    · cases e
  · split at e
    · rename_i xs ys e1 e2
      split at e
      · rename_i hz
        cases e
        obtain ⟨a, vs, rfl, h1, r1⟩ := lstOf_ok r rp e1
        obtain ⟨b, ws, rfl, h2, r2⟩ := lstOf_ok r rq e2
        exact ⟨_, op_cat, _, _, _, _, rfl, rfl, h1, h2, by rw [← r1.length, ← r2.length]; exact sizeOk_le hz, new_lst r (r1.append r2) k⟩
      · cases e
    · cases e
theorem o_sub : OpR X (binaryOp .Sub) (rO X opSub) := by
  refine opD_of fun g G H σ S p q d x y r rp rq e Q k => ?_
  unfold opSub at e
  split at e
  · cases e; cases rp; cases rq
    exact ⟨_, op_sub, _, _, rfl, rfl, k G H _ (Sub.refl _) r (.int _)⟩
  · cases e
theorem RVs.rep {K : PySem.W.Frag} {mg : Str → Option Value} {G : Hp} {xs : List D} {vs : List V} (r : RVs K mg G xs vs) : ∀ n : Nat, RVs K mg G (List.replicate n xs).flatten (List.replicate n vs).flatten
  | 0 => .nil
  | n + 1 => by
    rw [List.replicate_succ, List.replicate_succ, List.flatten_cons, List.flatten_cons]
    exact r.append (RVs.rep r n)
theorem tuple_mul1 (l : Addr) (items : Array Value) (n : Nat) (dd : Option Addr) (sl : Array (Option Value)) (u : Tok) :
    Meets (Builtin.«tuple.__mul__» ⟨[.ref l, .int 1 u], []⟩) (fun _ R s => s.heap.get? l = some { cls := .type "tuple", dict := dd, data := .seq items n, slots := sl } ∧ R (.ok (.ret (Value.ref l))) s) :=
  .of_wp fun prog w A R s h => by
    obtain ⟨hp, g, d, tk, os⟩ := s
    obtain ⟨hl, h⟩ := h
    have f1 := AutoSeq1.idx_int
    wp_walk using wpAny_loadPart' hl
    exact ⟨_, rfl, h⟩
def rRepT1 (K : PySem.W.Frag) : R2 := fun x y H Q => ∃ l xs, x = .ref l ∧ y = .int 1 ∧ SqT K H l xs ∧ Q (.ref l) H
theorem op_repT1 : OpR X (binaryOp .Mult) (rRepT1 X.K) := by
  intro pins s σ H x y v u Q I rx ry h
  obtain ⟨l, xs, rfl, rfl, hT, q⟩ := h
  cases rx
  obtain ⟨t, rfl⟩ := ry
  obtain ⟨its, r, ⟨⟨cls, dd, data, sl⟩, ho, hc, n, hd⟩, hs⟩ := I.tuple hT
  simp only at hc hd
  subst hc hd
  exact wpAny_binaryOp_repeat_ref (T := "tuple") (U := "int") (by decide) ⟨_, ho, rfl⟩ (fun s' => typeIs_int s' 1 t) noFill_tuple_mul F.fills_int_mul F.slot_int_rmul repeat_tuple F.slot_int_index.lookup
    (call_meets F.slot_int_rmul (typeIs_int s 1 t) F.entry_int_rmul (F.args_int_rmul_2 _ _) (int_rmul_tuple 1 t l its.toArray n dd sl)
      ⟨ho, rfl, ⟨_, ho, rfl⟩, call_meets F.slot_tuple_mul ⟨_, ho, rfl⟩ F.entry_tuple_mul (F.args_tuple_mul_2 _ _) (tuple_mul1 l its.toArray n dd sl t) ⟨ho, ⟨.ref l, H, I, rfl, q⟩⟩⟩)
theorem o_mul : OpR X (binaryOp .Mult) (rO X opMul) := by
  refine opD_of fun g G H σ S p q d x y r rp rq e Q k => ?_
  unfold opMul at e
  split at e
  · split at e
    · rename_i hz
      cases e; cases rp; cases rq
      exact ⟨_, op_mul, _, _, rfl, rfl, mulOk_ok hz, k G H _ (Sub.refl _) r (.int _)⟩
    · cases e
  · split at e
    · rename_i hz
      cases e
      simp only [Bool.and_eq_true, decide_eq_true_eq, Bool.not_eq_true'] at hz
      obtain ⟨z1, z2, z3, z4⟩ := hz
      cases rp with
      | tup h1 r1 =>
        cases rq
        refine ⟨_, op_repT, _, _, _, rfl, rfl, r.sub.sqT h1, fun e0 => ?_, z2, z3, ?_, new_tup r (r1.rep _) k⟩
        · subst e0; cases r1; cases z1
        · rw [← r1.length]; exact Nat.le_of_ble_eq_true z4
    · split at e
      · rename_i hk
        cases e
        rw [decide_eq_true_eq] at hk
        subst hk
        cases rp with
        | tup h1 r1 =>
          cases rq
          exact ⟨_, op_repT1, _, _, rfl, rfl, r.sub.sqT h1, k G H _ (Sub.refl _) r (.tup h1 r1)⟩
      · cases e
  · split at e
    · rename_i xs e1
      split at e
      · rename_i hz
        cases e
        simp only [Bool.and_eq_true, decide_eq_true_eq] at hz
        obtain ⟨z1, z2, z3⟩ := hz
        obtain ⟨a, vs, rfl, h1, r1⟩ := lstOf_ok r rp e1
        cases rq
        exact ⟨_, op_rep, _, _, _, rfl, rfl, h1, z1, z2, by rw [← r1.length]; exact sizeOk_le z3, new_lst r (r1.rep _) k⟩
      · cases e
    · cases e
  · cases e
theorem o_fdiv : OpR X (binaryOp .FloorDiv) (rO X opFdiv) := by
  refine opD_of fun g G H σ S p q d x y r rp rq e Q k => ?_
  unfold opFdiv at e
  split at e
  · split at e
    · rename_i hz
      cases e; cases rp; cases rq
      simp only [Bool.and_eq_true, decide_eq_true_eq, Nat.blt_eq] at hz
      exact ⟨_, op_fdivN, _, _, rfl, rfl, hz, k G H _ (Sub.refl _) r (.int _)⟩
    · cases e
  · cases e
theorem o_mod : OpR X (binaryOp .Mod) (rO X opMod) := by
  refine opD_of fun g G H σ S p q d x y r rp rq e Q k => ?_
  unfold opMod at e
  split at e
  · split at e
    · rename_i hz
      cases e; cases rp; cases rq
      exact ⟨_, op_modN, _, _, rfl, rfl, of_decide_eq_true hz, k G H _ (Sub.refl _) r (.int _)⟩
    · cases e
  · cases e
theorem o_pow : OpR X (binaryOp .Pow) (rO X opPow) := by
  refine opD_of fun g G H σ S p q d x y r rp rq e Q k => ?_
  unfold opPow at e
  split at e
  · split at e
    · rename_i hz
      cases e; cases rp; cases rq
      simp only [Bool.and_eq_true, decide_eq_true_eq, Nat.blt_eq] at hz
      exact ⟨_, op_pow, _, _, rfl, rfl, hz, k G H _ (Sub.refl _) r (.int _)⟩
    · cases e
  · cases e
theorem o_neg : UnR X (unaryOp .USub) (rO1 X opNeg) := by
  intro pins s σ H x v Q I rx h
  obtain ⟨g, G, σ', S, p, d, r, rp, e, k⟩ := h
  unfold opNeg at e
  split at e
  · cases e; cases rp
    exact un_neg pins s σ H _ v Q I rx ⟨_, rfl, k G H _ (Sub.refl _) r (.int _)⟩
  · cases e

/-! ### comparisons -/
def cInt (f : Int → Int → Bool) (_ : Sg) : P → P → Option D
  | .d (.int i), .d (.int j) => some (.bl (f i j))
  | _, _ => none
abbrev cLt : Sg → P → P → Option D := cInt fun i j => decide (i < j)
abbrev cLe : Sg → P → P → Option D := cInt fun i j => decide (i ≤ j)
abbrev cGt : Sg → P → P → Option D := cInt fun i j => decide (j < i)
abbrev cGe : Sg → P → P → Option D := cInt fun i j => decide (j ≤ i)
theorem o_cInt {op : CmpOp} {f : Int → Int → Bool} (h : OpR X (compareOp op) (rI0 fun i j => .bl (f i j))) : OpR X (compareOp op) (rO X (cInt f)) := by
  refine opD_of fun g G H σ S p q d x y r rp rq e Q k => ?_
  unfold cInt at e
  split at e
  · cases e; cases rp; cases rq
    exact ⟨_, h, _, _, rfl, rfl, k G H _ (Sub.refl _) r (.bl _)⟩
  · cases e
theorem o_lt : OpR X (compareOp .Lt) (rO X cLt) := o_cInt op_lt
theorem o_le : OpR X (compareOp .LtE) (rO X cLe) := o_cInt op_le
theorem o_gt : OpR X (compareOp .Gt) (rO X cGt) := o_cInt op_gt
theorem o_ge : OpR X (compareOp .GtE) (rO X cGe) := o_cInt op_ge
/- data as the library's -/
mutual
def D.py : D → PyData
  | .non => .none
  | .bl b => .bool b
  | .int i => .int i
  | .str x => .str x
  | .tup xs => .tuple (pys xs)
  | .lst xs => .list (pys xs)
  | .dct _ => .dict []
  | .scr ns => .list (ns.map PyData.int)
  | .fn _ => .dict []
  | .row xs => .tuple (pys xs)
  | .obj _ => .dict []
def pys : List D → List PyData
  | [] => []
  | x :: r => x.py :: pys r
end
section
variable {K : PySem.W.Frag} {mg : Str → Option Value} {G H : Hp}
theorem dpAll_ints : ∀ ns : List Int, DpAll K H (ns.map V.int) (ns.map PyData.int)
  | [] => .nil
  | n :: r => .cons (.int n) (dpAll_ints r)
mutual
theorem RV.dp (s : Sub G H) : ∀ {x : D} {v : V}, RV K mg G x v → x.py.canLay0 = true → Dp K H v x.py
  | _, _, .non, _ => .non
  | _, _, .bl b, _ => .bl b
  | _, _, .int i, _ => .int i
  | _, _, .str x, _ => .str x
  | _, _, .tup (xs := xs) h r, c => by
    have c' : PyData.canLayAll0 (pys xs) = true := by simpa only [D.py, PyData.canLay0] using c
    simp only [D.py]
    exact .tup (s.sqT h) (RVs.dp s r c')
  | _, _, .lst (xs := xs) h r, c => by
    have c' : PyData.canLayAll0 (pys xs) = true := by simpa only [D.py, PyData.canLay0] using c
    simp only [D.py]
    exact .lst (.inl (.inl (s _ _ h))) (RVs.dp s r c')
  | _, _, .dct _ _, c => by simp only [D.py, PyData.canLay0] at c; cases c
  | _, _, .scr (ns := ns) h, _ => by
    simp only [D.py]
    exact .lst (s.sqL h) (dpAll_ints ns)
  | _, _, .fn _, c => by simp only [D.py, PyData.canLay0] at c; cases c
  | _, _, .row (xs := xs) h _ _ r, c => by
    have c' : PyData.canLayAll0 (pys xs) = true := by simpa only [D.py, PyData.canLay0] using c
    simp only [D.py]
    exact .tup (.inl (.inr ⟨_, s _ _ h⟩)) (RVs.dp s r c')
  | _, _, .obj _ _ _, c => by simp only [D.py, PyData.canLay0] at c; cases c
theorem RVs.dp (s : Sub G H) : ∀ {xs : List D} {vs : List V}, RVs K mg G xs vs → PyData.canLayAll0 (pys xs) = true → DpAll K H vs (pys xs)
  | _, _, .nil, _ => by simp only [pys]; exact .nil
  | _, _, .cons (x := x) (xs := xs) h t, c => by
    have c' : x.py.canLay0 = true ∧ PyData.canLayAll0 (pys xs) = true := by simpa only [pys, PyData.canLayAll0, Bool.and_eq_true] using c
    simp only [pys]
    exact .cons (RV.dp s h c'.1) (RVs.dp s t c'.2)
end
end
/-- a thing as data: a slot's own list as a list -/
def datOf (S : Sg) : P → Option D
  | .d x => some x
  | .s i => match S[i]? with
    | some (.l _ xs) => some (.lst xs)
    | _ => none
theorem datOf_dp {g : Gh} {G H : Hp} {σ : St} {S : Sg} {p : P} {v : V} {x : D} (r : Rep X.K X.mg g G σ H S) (rp : RP X.K X.mg G σ p v) (e : datOf S p = some x) (c : x.py.canLay0 = true) : Dp X.K H v x.py := by
  cases p with
  | d y => cases e; exact RV.dp r.sub rp c
  | s i =>
    dsimp only [datOf] at e
    split at e
    · rename_i b' xs q
      cases e
      obtain ⟨a, vs, e1, e2, e3, _⟩ := r.lAt q
      have z : some (some v) = some (some (V.ref a)) := (show σ[i]? = _ from rp).symm.trans e1
      cases z
      have c' : PyData.canLayAll0 (pys xs) = true := by simpa only [D.py, PyData.canLay0] using c
      simp only [D.py]
      exact .lst (.inl (.inl e2)) (RVs.dp r.sub e3 c')
    · cases e
def cEqP (neg : Bool) (S : Sg) (p q : P) : Option D := match datOf S p, datOf S q with
  | some x, some y => if SeqAt.shaped x.py && SeqAt.shaped y.py then some (.bl (neg ^^ PyData.eqv x.py y.py)) else none
  | _, _ => none
theorem o_eq (hu : X.A.units + 64 < cLine) : OpR X (compareOp .Eq) (rO X (cEqP false)) := by
  refine opD_of fun g G H σ S p q d x y r rp rq e Q k => ?_
  unfold cEqP at e
  split at e
  · rename_i x1 y1 e1 e2
    split at e
    · rename_i hz
      cases e
      rw [Bool.and_eq_true] at hz
      exact ⟨_, op_eqD hu, _, _, datOf_dp r rp e1 (SeqAt.canLay_of_shaped hz.1), datOf_dp r rq e2 (SeqAt.canLay_of_shaped hz.2), hz.1, hz.2, by have z := k G H (.bl (PyData.eqv x1.py y1.py)) (Sub.refl _) r (by rw [Bool.false_xor]; exact .bl _); exact z⟩
    · cases e
  · cases e
theorem o_ne (hu : X.A.units + 64 < cLine) : OpR X (compareOp .NotEq) (rO X (cEqP true)) := by
  refine opD_of fun g G H σ S p q d x y r rp rq e Q k => ?_
  unfold cEqP at e
  split at e
  · rename_i x1 y1 e1 e2
    split at e
    · rename_i hz
      cases e
      rw [Bool.and_eq_true] at hz
      exact ⟨_, op_neD hu, _, _, datOf_dp r rp e1 (SeqAt.canLay_of_shaped hz.1), datOf_dp r rq e2 (SeqAt.canLay_of_shaped hz.2), hz.1, hz.2, by have z := k G H (.bl (!PyData.eqv x1.py y1.py)) (Sub.refl _) r (by rw [Bool.true_xor]; exact .bl _); exact z⟩
    · cases e
  · cases e
def D.isNon : D → Bool
  | .non => true
  | _ => false
/-- is None, is True, is False -/
def cIsP (neg : Bool) (S : Sg) : P → P → Option D
  | .d x, .d .non => some (.bl (neg ^^ x.isNon))
  | .s _, .d .non => some (.bl (neg ^^ false))
  | .d (.bl a), .d (.bl b) => some (.bl (neg ^^ decide (a = b)))
  | _, _ => none
theorem RV.non_iff {K : PySem.W.Frag} {mg : Str → Option Value} {G : Hp} {x : D} {v : V} (r : RV K mg G x v) : decide (v = .non) = x.isNon := by cases r <;> rfl
theorem own_ref {g : Gh} {G H : Hp} {σ : St} {S : Sg} {i : Nat} {v : V} (r : Rep X.K X.mg g G σ H S) (rp : RP X.K X.mg G σ (.s i) v) (h : ∃ s, S[i]? = some s ∧ s.own = true) : ∃ a, v = .ref a := by
  obtain ⟨s, e, o⟩ := h
  cases s with
  | no => cases o
  | d x => cases o
  | v a => cases o
  | l b xs =>
    obtain ⟨a, vs, e1, _⟩ := r.lAt e
    exact ⟨a, by have := (show σ[i]? = _ from rp).symm.trans e1; cases this; rfl⟩
  | m b xs =>
    obtain ⟨a, vs, e1, _⟩ := r.mAt e
    exact ⟨a, by have := (show σ[i]? = _ from rp).symm.trans e1; cases this; rfl⟩
  | o b fs =>
    obtain ⟨a, C, dx, vs, e1, _⟩ := r.sl i _ e
    exact ⟨a, by have := (show σ[i]? = _ from rp).symm.trans e1; cases this; rfl⟩
  | r fs => cases o
  | t xss =>
    obtain ⟨a, vs, e1, _⟩ := r.sl i _ e
    exact ⟨a, by have := (show σ[i]? = _ from rp).symm.trans e1; cases this; rfl⟩
def cIsQ (neg : Bool) (S : Sg) (p q : P) : Option D := match p with
  | .s i => match S[i]? with
    | some (.l _ _) => cIsP neg S (.s i) q
    | some (.m _ _) => cIsP neg S (.s i) q
    | _ => none
  | .d x => cIsP neg S (.d x) q
theorem cIsQ_cases {neg : Bool} {S : Sg} {p q : P} {d : D} (e : cIsQ neg S p q = some d) : (∃ x, p = .d x ∧ q = .d .non ∧ d = .bl (neg ^^ x.isNon)) ∨ (∃ i, p = .s i ∧ q = .d .non ∧ d = .bl neg ∧ ∃ s, S[i]? = some s ∧ s.own = true) ∨ (∃ a b, p = .d (.bl a) ∧ q = .d (.bl b) ∧ d = .bl (neg ^^ decide (a = b))) := by
  unfold cIsQ at e
  split at e
  · rename_i i
    split at e
    · rename_i b xs hs
      unfold cIsP at e
      split at e
      · rename_i h; cases h
      · rename_i h; cases h; cases e; exact .inr (.inl ⟨i, rfl, rfl, by rw [Bool.xor_false], _, hs, rfl⟩)
      · rename_i h; cases h
      · cases e
    · rename_i b xs hs
      unfold cIsP at e
      split at e
      · rename_i h; cases h
      · rename_i h; cases h; cases e; exact .inr (.inl ⟨i, rfl, rfl, by rw [Bool.xor_false], _, hs, rfl⟩)
      · rename_i h; cases h
      · cases e
    · cases e
  · unfold cIsP at e
    split at e
    · rename_i h; cases h; cases e; exact .inl ⟨_, rfl, rfl, rfl⟩
    · rename_i h; cases h
    · rename_i h; cases h; cases e; exact .inr (.inr ⟨_, _, rfl, rfl, rfl⟩)
    · cases e
theorem o_is : OpR X (compareOp .Is) (rO X (cIsQ false)) := by
  refine opD_of fun g G H σ S p q d x y r rp rq e Q k => ?_
  rcases cIsQ_cases e with ⟨z, rfl, rfl, rfl⟩ | ⟨i, rfl, rfl, rfl, o⟩ | ⟨a, b, rfl, rfl, rfl⟩
  · cases rq
    refine ⟨_, op_isN, rfl, ?_⟩
    have rp' : RV X.K X.mg G z x := rp
    rw [rp'.non_iff]
    have q := k G H (.bl z.isNon) (Sub.refl _) r (by rw [Bool.false_xor]; exact .bl _)
    exact q
  · cases rq
    refine ⟨_, op_isN, rfl, ?_⟩
    obtain ⟨a, rfl⟩ := own_ref r rp o
    exact k G H (.bl false) (Sub.refl _) r (.bl _)
  · cases rp; cases rq
    refine ⟨_, op_isBl, _, _, rfl, rfl, ?_⟩
    exact k G H (.bl (decide (a = b))) (Sub.refl _) r (by rw [Bool.false_xor]; exact .bl _)
theorem o_isnot : OpR X (compareOp .IsNot) (rO X (cIsQ true)) := by
  refine opD_of fun g G H σ S p q d x y r rp rq e Q k => ?_
  rcases cIsQ_cases e with ⟨z, rfl, rfl, rfl⟩ | ⟨i, rfl, rfl, rfl, o⟩ | ⟨a, b, rfl, rfl, rfl⟩
  · cases rq
    refine ⟨_, op_notN, rfl, ?_⟩
    have rp' : RV X.K X.mg G z x := rp
    rw [rp'.non_iff]
    have q := k G H (.bl (!z.isNon)) (Sub.refl _) r (by rw [Bool.true_xor]; exact .bl _)
    exact q
  · cases rq
    refine ⟨_, op_notN, rfl, ?_⟩
    obtain ⟨a, rfl⟩ := own_ref r rp o
    exact k G H (.bl true) (Sub.refl _) r (.bl _)
  · cases rp; cases rq
    refine ⟨_, op_notBl, _, _, rfl, rfl, ?_⟩
    exact k G H (.bl (!decide (a = b))) (Sub.refl _) r (by rw [Bool.true_xor]; exact .bl _)
/-! ### subscripts -/
def opIdx (S : Sg) (p : P) : P → Option D
  | .d (.int i) => (seqOf S p).bind fun xs => atI xs i
  | _ => none
theorem RVs.atI {K : PySem.W.Frag} {mg : Str → Option Value} {G : Hp} {xs : List D} {vs : List V} {i : Int} {x : D} (r : RVs K mg G xs vs) (e : L2.atI xs i = some x) : ∃ v, L2.atI vs i = some v ∧ RV K mg G x v := by
  unfold L2.atI at e ⊢
  rw [← r.length]
  cases h : ixN xs.length i with
  | none => rw [h] at e; cases e
  | some j =>
    rw [h] at e
    obtain ⟨v, h1, h2⟩ := r.get (show xs[j]? = some x from e)
    exact ⟨v, h1, h2⟩
theorem ix_any : IxR X (rO X opIdx) := by
  intro value slice pins s σ H x y v u Q I rx ry h hs
  obtain ⟨g, G, σ', S, p, q, d, r, rp, rq, e, k⟩ := h
  unfold opIdx at e
  split at e
  · rename_i i
    cases rq
    obtain ⟨xs, e1, e2⟩ := Option.bind_eq_some_iff.mp e
    obtain ⟨a, vs, rfl, hq, rv⟩ := seqOf_ok r rp e1
    obtain ⟨w, e3, rw'⟩ := rv.atI e2
    have z := k G H w (Sub.refl _) r rw'
    rcases hq with hq | hq
    · exact ix_list value slice pins s σ H _ _ v u Q I rx ry ⟨a, vs, i, w, rfl, rfl, hq, e3, z⟩ hs
    · exact ix_tup value slice pins s σ H _ _ v u Q I rx ry ⟨a, vs, i, w, rfl, rfl, hq, e3, z⟩ hs
  · cases e
end
section
variable {X : Cx} {W : WX}
theorem je_ix {ea eb : Expr} {a b : ME} {pos : Pos} (ha : JE X W ea a) (hb : JE X W eb b) (hs : PlainIx eb := by intro _ _; rfl) : JE X W (.Subscript ea eb pos) (mBin opIdx a b) := fun g =>
  pe_imp (pe_ix ix_any (ha g) (hb g) hs) fun _ _ _ h => op_of h
/-- a < b < c, b once -/
def mChain (f f' : Sg → P → P → Option D) (a b c : ME) : ME := fun S => (a S).bind fun p S1 => (b S1).bind fun q S2 => match f S2 p q with
  | some (.bl true) => (c S2).bind fun q' S3 => match f' S3 q q' with
    | some d => .ok (.d d) S3
    | none => .bad
  | some (.bl false) => .ok (.d (.bl false)) S2
  | _ => .bad
end
end Mw

set_option Elab.async false
set_option linter.all false
set_option maxRecDepth 100000
/-! Mw, part E: chains, built-ins, slices. -/
namespace Mw
open PySem PySem.Spec PyProof.Rows L2
section
variable {X : Cx} {W : WX}
/-! ### a < b < c -/
theorem chain_of {f f' : Sg → P → P → Option D} {a b c : ME} {g : Gh} {σ : St} {H : Hp} {Q : VK} (h : tE X W g (mChain f f' a b c) σ H Q) : tChain (rO X f) (rO X f') (tE X W g a) (tE X W g b) (tE X W g c) σ H Q := by
  obtain ⟨S, G, r, h⟩ := h
  refine ⟨S, G, r, po_bindE h fun p S1 G1 H1 x s1 r1 rp h => ?_⟩
  refine ⟨S1, G1, r1, po_bindE h fun q S2 G2 H2 y s2 r2 rq h => ?_⟩
  have rp2 := rp.mono s2
  split at h
  · rename_i e
    refine ⟨g, G2, σ, S2, p, q, .bl true, r2, rp2, rq, e, fun G' H' v s r' rv => ?_⟩
    cases rv
    refine ⟨true, rfl, ?_⟩
    rw [if_pos rfl]
    refine ⟨S2, G', r', po_bindE (PoE.mono s h) fun q' S3 G3 H3 z s3 r3 rq' h => ?_⟩
    split at h
    · rename_i d e'
      exact ⟨g, G3, σ, S3, q, q', d, r3, (rq.mono s).mono s3, rq', e', fun G' H' v s r' rv => h G' H' v s r' rv⟩
    · exact h.elim
  · rename_i e
    refine ⟨g, G2, σ, S2, p, q, .bl false, r2, rp2, rq, e, fun G' H' v s r' rv => ?_⟩
    cases rv
    refine ⟨false, rfl, ?_⟩
    rw [if_neg Bool.false_ne_true]
    exact h G' H' _ s r' (.bl false)
  · exact h.elim
theorem je_chain {op op' : CmpOp} {f f' : Sg → P → P → Option D} {ea eb ec : Expr} {a b c : ME} {pos : Pos} (ho : OpR X (compareOp op) (rO X f)) (ho' : OpR X (compareOp op') (rO X f')) (ha : JE X W ea a) (hb : JE X W eb b) (hc : JE X W ec c)
    (hm : lastMarks [op, op'] [eb, ec] = false := by with_unfolding_all rfl) : JE X W (.Compare ea [op, op'] [eb, ec] pos) (mChain f f' a b c) := fun g =>
  pe_imp (pe_chain ho ho' (ha g) (hb g) (hc g) hm) fun _ _ _ h => chain_of h
theorem test_bool {m : ME} {g : Gh} {σ : St} {H : Hp} {Q : Bool → Hp → Prop} (h : tT X W g (mTruth boolP m) σ H Q) : tE X W g m σ H (fun x H' => ∃ k, x = V.bl k ∧ Q k H') := by
  obtain ⟨S, G, r, h⟩ := h
  refine ⟨S, G, r, ?_⟩
  unfold mTruth at h
  cases e1 : m S with
  | bad => rw [e1] at h; exact h.elim
  | exc c S1 => rw [e1] at h; exact h
  | ok p S1 =>
    rw [e1] at h
    intro G1 H1 v s1 r1 rp
    cases e2 : boolP S1 p with
    | none => simp only [Res.bind, e2] at h; exact h.elim
    | some k =>
      simp only [Res.bind, e2] at h
      exact ⟨k, boolP_ok rp e2, h G1 H1 s1 r1⟩
theorem jt_chain {op op' : CmpOp} {f f' : Sg → P → P → Option D} {ea eb ec : Expr} {a b c : ME} {pos : Pos} (ho : OpR X (compareOp op) (rO X f)) (ho' : OpR X (compareOp op') (rO X f')) (ha : JE X W ea a) (hb : JE X W eb b) (hc : JE X W ec c)
    (hm : lastMarks [op, op'] [eb, ec] = false := by with_unfolding_all rfl) : JT X W (.Compare ea [op, op'] [eb, ec] pos) (mTruth boolP (mChain f f' a b c)) := fun g =>
  pt_imp (pt_chain ho ho' (ha g) (hb g) (hc g) hm) fun _ _ _ h => chain_of (test_bool h)

/-! ### calls of built-ins -/
def rC (X : Cx) (f : Sg → List P → Option D) : List V → Hp → VK → Prop := fun vs H Q => ∃ (g : Gh) (G : Hp) (σ : St) (S : Sg) (ps : List P) (d : D), Rep X.K X.mg g G σ H S ∧ RPs X.K X.mg G σ ps vs ∧ f S ps = some d ∧
  ∀ G' H' v, Sub G G' → Rep X.K X.mg g G' σ H' S → RV X.K X.mg G' d v → Q v H'
def mCB (f : Sg → List P → Option D) (a : MA) : ME := fun S => (a S).bind fun ps S1 => match f S1 ps with
  | some d => .ok (.d d) S1
  | none => .bad
theorem cb_of {f : Sg → List P → Option D} {a : MA} {g : Gh} {σ : St} {H : Hp} {Q : VK} (h : tE X W g (mCB f a) σ H Q) : tCB (rC X f) (tA X W g a) σ H Q := by
  obtain ⟨S, G, r, h⟩ := h
  refine ⟨S, G, r, ?_⟩
  unfold mCB at h
  cases e1 : a S with
  | bad => rw [e1] at h; exact h.elim
  | exc c S1 => rw [e1] at h; exact h
  | ok ps S1 =>
    rw [e1] at h
    intro G1 H1 vs s1 r1 rps
    cases e2 : f S1 ps with
    | none => simp only [Res.bind, e2] at h; exact h.elim
    | some d =>
      simp only [Res.bind, e2] at h
      exact ⟨g, G1, σ, S1, ps, d, r1, rps, e2, fun G' H' v s r' rv => h G' H' v (s1.trans s) r' rv⟩
section
variable {x : Str} {p pos : Pos} {e : Expr} {es : List Expr} {a : MA} {id T : String} {f : Sg → List P → Option D}
theorem je_callB (hc : CallR X (.builtin id) (rC X f)) (hg : Gl X x) (hm : X.mg x = none) (hv : bootBuiltins x = some (.builtin id)) (ha : JA X W (e :: es) a) (hn : x ≠ "__name__" := by decide) (hdb : (x == ("__debug__" : Str)) = false := by decide)
    (he : starEach (e :: es) X.env = (false, eval e X.env) :: starEach es X.env := by rfl) (hpl : (backTo pos (starEach es X.env)).any (·.1) = false := by rfl) : JE X W (.Call (.Name x p) (e :: es) [] pos) (mCB f a) := fun g =>
  pe_imp (pe_callB hc hg hm hv (ha g) hn hdb he hpl) fun _ _ _ h => cb_of h
theorem je_callTy (hc : CallR X (.type T) (rC X f)) (hg : Gl X x) (hm : X.mg x = none) (hv : bootBuiltins x = some (.type T)) (ha : JA X W (e :: es) a) (hn : x ≠ "__name__" := by decide) (hdb : (x == ("__debug__" : Str)) = false := by decide)
    (he : starEach (e :: es) X.env = (false, eval e X.env) :: starEach es X.env := by rfl) (hpl : (backTo pos (starEach es X.env)).any (·.1) = false := by rfl) : JE X W (.Call (.Name x p) (e :: es) [] pos) (mCB f a) := fun g =>
  pe_imp (pe_callTy hc hg hm hv (ha g) hn hdb he hpl) fun _ _ _ h => cb_of h
end
theorem callD_of {fv : Value} {f : Sg → List P → Option D} (h : ∀ (g : Gh) (G H : Hp) (σ : St) (S : Sg) (ps : List P) (d : D) (vs : List V), Rep X.K X.mg g G σ H S → RPs X.K X.mg G σ ps vs → f S ps = some d →
    ∀ (Q : VK), (∀ G' H' v, Sub G G' → Rep X.K X.mg g G' σ H' S → RV X.K X.mg G' d v → Q v H') → ∃ r : List V → Hp → VK → Prop, CallR X fv r ∧ r vs H Q) : CallR X fv (rC X f) := by
  intro pins s σ H vs us Q I rx k
  obtain ⟨g, G, σ', S, ps, d, r, rps, e, k⟩ := k
  obtain ⟨r2, h1, h2⟩ := h g G H σ' S ps d vs r rps e Q k
  exact h1 pins s σ H vs us Q I rx h2
def bLen (S : Sg) : List P → Option D
  | [.d (.str x)] => if sizeOk x.length then some (.int x.length) else none
  | [p] => (seqOf S p).map fun xs => .int xs.length
  | _ => none
theorem c_len : CallR X (.builtin "len") (rC X bLen) := by
  refine callD_of fun g G H σ S ps d vs r rps e Q k => ?_
  unfold bLen at e
  split at e
  · split at e
    · rename_i hz
      cases e
      cases rps with
      | cons h t =>
        cases t
        cases h
        exact ⟨_, call_len_str, _, rfl, sizeOk_le hz, k G H _ (Sub.refl _) r (.int _)⟩
    · cases e
  · obtain ⟨xs, e1, rfl⟩ := Option.map_eq_some_iff.mp e
    cases rps with
    | cons h t =>
      cases t
      obtain ⟨a, ws, rfl, hq, rv⟩ := seqOf_ok r h e1
      exact ⟨_, call_len_seq, _, _, rfl, hq, by rw [← rv.length]; exact k G H _ (Sub.refl _) r (.int _)⟩
  · cases e
def bAbs (_ : Sg) : List P → Option D
  | [.d (.int i)] => some (.int (if i < 0 then -i else i))
  | _ => none
theorem c_abs : CallR X (.builtin "abs") (rC X bAbs) := by
  refine callD_of fun g G H σ S ps d vs r rps e Q k => ?_
  unfold bAbs at e
  split at e
  · cases e
    cases rps with
    | cons h t =>
      cases t
      cases h
      exact ⟨_, call_abs, _, rfl, k G H _ (Sub.refl _) r (.int _)⟩
  · cases e
/-- the ints of a list of ints -/
def intsOf : List D → Option (List Int)
  | [] => some []
  | .int i :: r => (intsOf r).map (i :: ·)
  | _ :: _ => none
theorem intsOf_ok : ∀ {xs : List D} {ns : List Int}, intsOf xs = some ns → xs = ns.map D.int
  | [], _, e => by cases e; rfl
  | .int i :: r, _, e => by
    obtain ⟨ms, e1, rfl⟩ := Option.map_eq_some_iff.mp e
    rw [intsOf_ok e1]; rfl
  | .non :: _, _, e => by cases e
  | .bl _ :: _, _, e => by cases e
  | .str _ :: _, _, e => by cases e
  | .tup _ :: _, _, e => by cases e
  | .lst _ :: _, _, e => by cases e
  | .dct _ :: _, _, e => by cases e
  | .scr _ :: _, _, e => by cases e
  | .fn _ :: _, _, e => by cases e
  | .row _ :: _, _, e => by cases e
  | .obj _ :: _, _, e => by cases e
theorem intsOf_map (ns : List Int) : intsOf (ns.map D.int) = some ns := by
  induction ns with
  | nil => rfl
  | cons n r ih => show (intsOf (r.map D.int)).map (n :: ·) = _; rw [ih]; rfl
theorem RVs.of_ints {K : PySem.W.Frag} {mg : Str → Option Value} {G : Hp} : ∀ {ns : List Int} {vs : List V}, RVs K mg G (ns.map D.int) vs → vs = ns.map V.int
  | [], _, .nil => rfl
  | n :: r, _, .cons h t => by cases h; rw [RVs.of_ints t]; rfl
/-- the greatest, the least -/
def maxL : Int → List Int → Int
  | m, [] => m
  | m, x :: r => maxL (if x > m then x else m) r
def minL : Int → List Int → Int
  | m, [] => m
  | m, x :: r => minL (if x < m then x else m) r
theorem maxL_spec : ∀ (r : List Int) (m : Int), (maxL m r = m ∨ maxL m r ∈ r) ∧ m ≤ maxL m r ∧ ∀ y ∈ r, y ≤ maxL m r
  | [], m => ⟨.inl rfl, Int.le_refl _, fun y h => by cases h⟩
  | x :: r, m => by
    have ih := maxL_spec r (if x > m then x else m)
    show (maxL (if x > m then x else m) r = m ∨ maxL (if x > m then x else m) r ∈ x :: r) ∧ m ≤ maxL (if x > m then x else m) r ∧ ∀ y ∈ x :: r, y ≤ maxL (if x > m then x else m) r
    generalize maxL (if x > m then x else m) r = z at ih ⊢
    obtain ⟨h1, h2, h3⟩ := ih
    refine ⟨?_, ?_, fun y hy => ?_⟩
    · rcases h1 with h1 | h1
      · split at h1
        · exact .inr (by rw [h1]; exact List.mem_cons_self)
        · exact .inl h1
      · exact .inr (List.mem_cons_of_mem _ h1)
    · split at h2 <;> omega
    · rcases List.mem_cons.mp hy with rfl | hy
      · split at h2 <;> omega
      · exact h3 y hy
theorem minL_spec : ∀ (r : List Int) (m : Int), (minL m r = m ∨ minL m r ∈ r) ∧ minL m r ≤ m ∧ ∀ y ∈ r, minL m r ≤ y
  | [], m => ⟨.inl rfl, Int.le_refl _, fun y h => by cases h⟩
  | x :: r, m => by
    have ih := minL_spec r (if x < m then x else m)
    show (minL (if x < m then x else m) r = m ∨ minL (if x < m then x else m) r ∈ x :: r) ∧ minL (if x < m then x else m) r ≤ m ∧ ∀ y ∈ x :: r, minL (if x < m then x else m) r ≤ y
    generalize minL (if x < m then x else m) r = z at ih ⊢
    obtain ⟨h1, h2, h3⟩ := ih
    refine ⟨?_, ?_, fun y hy => ?_⟩
    · rcases h1 with h1 | h1
      · split at h1
        · exact .inr (by rw [h1]; exact List.mem_cons_self)
        · exact .inl h1
      · exact .inr (List.mem_cons_of_mem _ h1)
    · split at h2 <;> omega
    · rcases List.mem_cons.mp hy with rfl | hy
      · split at h2 <;> omega
      · exact h3 y hy
def bMax (S : Sg) : List P → Option D
  | [.d (.int i), .d (.int j)] => some (.int (if j > i then j else i))
  | [p] => match (lstOf S p).bind intsOf with
    | some (n :: r) => some (.int (maxL n r))
    | _ => none
  | _ => none
def bMin (S : Sg) : List P → Option D
  | [.d (.int i), .d (.int j)] => some (.int (if j < i then j else i))
  | [p] => match (lstOf S p).bind intsOf with
    | some (n :: r) => some (.int (minL n r))
    | _ => none
  | _ => none
theorem c_max (hc : X.calm = true) : CallR X (.builtin "max") (rC X bMax) := by
  refine callD_of fun g G H σ S ps d vs r rps e Q k => ?_
  unfold bMax at e
  split at e
  · cases e
    cases rps with
    | cons h t =>
      cases t with
      | cons h2 t2 =>
        cases t2; cases h; cases h2
        exact ⟨_, call_max2 hc, _, _, rfl, k G H _ (Sub.refl _) r (.int _)⟩
  · split at e
    · rename_i n rr e0
      cases e
      obtain ⟨xs, e1, e2⟩ := Option.bind_eq_some_iff.mp e0
      cases rps with
      | cons h t =>
        cases t
        obtain ⟨a, ws, rfl, hq, rv⟩ := lstOf_ok r h e1
        rw [intsOf_ok e2] at rv
        rw [rv.of_ints] at hq
        refine ⟨_, cr_max hc, _, n :: rr, rfl, .inl (.inl hq), Nat.succ_pos _, fun m hm hle => ?_⟩
        have sp := maxL_spec rr n
        have e3 : m = maxL n rr := by
          have h1 : m ≤ maxL n rr := by
            rcases List.mem_cons.mp hm with rfl | hm
            · exact sp.2.1
            · exact sp.2.2 m hm
          have h2 : maxL n rr ≤ m := by
            rcases sp.1 with z | z
            · rw [z]; exact hle n List.mem_cons_self
            · exact hle _ (List.mem_cons_of_mem _ z)
          omega
        rw [e3]
        exact k G H _ (Sub.refl _) r (.int _)
    · cases e
  · cases e
theorem c_min (hc : X.calm = true) : CallR X (.builtin "min") (rC X bMin) := by
  refine callD_of fun g G H σ S ps d vs r rps e Q k => ?_
  unfold bMin at e
  split at e
  · cases e
    cases rps with
    | cons h t =>
      cases t with
      | cons h2 t2 =>
        cases t2; cases h; cases h2
        exact ⟨_, call_min2 hc, _, _, rfl, k G H _ (Sub.refl _) r (.int _)⟩
  · split at e
    · rename_i n rr e0
      cases e
      obtain ⟨xs, e1, e2⟩ := Option.bind_eq_some_iff.mp e0
      cases rps with
      | cons h t =>
        cases t
        obtain ⟨a, ws, rfl, hq, rv⟩ := lstOf_ok r h e1
        rw [intsOf_ok e2] at rv
        rw [rv.of_ints] at hq
        refine ⟨_, cr_min hc, _, n :: rr, rfl, .inl (.inl hq), Nat.succ_pos _, fun m hm hle => ?_⟩
        have sp := minL_spec rr n
        have e3 : m = minL n rr := by
          have h1 : minL n rr ≤ m := by
            rcases List.mem_cons.mp hm with rfl | hm
            · exact sp.2.1
            · exact sp.2.2 m hm
          have h2 : m ≤ minL n rr := by
            rcases sp.1 with z | z
            · rw [z]; exact hle n List.mem_cons_self
            · exact hle _ (List.mem_cons_of_mem _ z)
          omega
        rw [e3]
        exact k G H _ (Sub.refl _) r (.int _)
    · cases e
  · cases e
def bSum (S : Sg) : List P → Option D
  | [p] => ((lstOf S p).bind intsOf).map fun ns => .int ns.sum
  | _ => none
theorem c_sum (hc : X.calm = true) : CallR X (.builtin "sum") (rC X bSum) := by
  refine callD_of fun g G H σ S ps d vs r rps e Q k => ?_
  unfold bSum at e
  split at e
  · obtain ⟨ns, e0, rfl⟩ := Option.map_eq_some_iff.mp e
    obtain ⟨xs, e1, e2⟩ := Option.bind_eq_some_iff.mp e0
    cases rps with
    | cons h t =>
      cases t
      obtain ⟨a, ws, rfl, hq, rv⟩ := lstOf_ok r h e1
      rw [intsOf_ok e2] at rv
      rw [rv.of_ints] at hq
      exact ⟨_, cr_sum hc, _, ns, rfl, .inl (.inl hq), k G H _ (Sub.refl _) r (.int _)⟩
  · cases e
def blsOf : List D → Option (List Bool)
  | [] => some []
  | .bl i :: r => (blsOf r).map (i :: ·)
  | _ :: _ => none
theorem blsOf_ok : ∀ {xs : List D} {ns : List Bool}, blsOf xs = some ns → xs = ns.map D.bl
  | [], _, e => by cases e; rfl
  | .bl i :: r, _, e => by
    obtain ⟨ms, e1, rfl⟩ := Option.map_eq_some_iff.mp e
    rw [blsOf_ok e1]; rfl
  | .non :: _, _, e => by cases e
  | .int _ :: _, _, e => by cases e
  | .str _ :: _, _, e => by cases e
  | .tup _ :: _, _, e => by cases e
  | .lst _ :: _, _, e => by cases e
  | .dct _ :: _, _, e => by cases e
  | .scr _ :: _, _, e => by cases e
  | .fn _ :: _, _, e => by cases e
  | .row _ :: _, _, e => by cases e
  | .obj _ :: _, _, e => by cases e
theorem blsOf_map (ns : List Bool) : blsOf (ns.map D.bl) = some ns := by
  induction ns with
  | nil => rfl
  | cons n r ih => show (blsOf (r.map D.bl)).map (n :: ·) = _; rw [ih]; rfl
theorem RVs.of_bls {K : PySem.W.Frag} {mg : Str → Option Value} {G : Hp} : ∀ {ns : List Bool} {vs : List V}, RVs K mg G (ns.map D.bl) vs → vs = ns.map V.bl
  | [], _, .nil => rfl
  | n :: r, _, .cons h t => by cases h; rw [RVs.of_bls t]; rfl
def bAll (S : Sg) : List P → Option D
  | [p] => ((lstOf S p).bind blsOf).map fun ns => .bl (ns.all id)
  | _ => none
def bAny (S : Sg) : List P → Option D
  | [p] => ((lstOf S p).bind blsOf).map fun ns => .bl (ns.any id)
  | _ => none
theorem c_all (hc : X.calm = true) : CallR X (.builtin "all") (rC X bAll) := by
  refine callD_of fun g G H σ S ps d vs r rps e Q k => ?_
  unfold bAll at e
  split at e
  · obtain ⟨ns, e0, rfl⟩ := Option.map_eq_some_iff.mp e
    obtain ⟨xs, e1, e2⟩ := Option.bind_eq_some_iff.mp e0
    cases rps with
    | cons h t =>
      cases t
      obtain ⟨a, ws, rfl, hq, rv⟩ := lstOf_ok r h e1
      rw [blsOf_ok e2] at rv
      rw [rv.of_bls] at hq
      exact ⟨_, cr_all hc, _, ns, rfl, .inl (.inl hq), k G H _ (Sub.refl _) r (.bl _)⟩
  · cases e
theorem c_any (hc : X.calm = true) : CallR X (.builtin "any") (rC X bAny) := by
  refine callD_of fun g G H σ S ps d vs r rps e Q k => ?_
  unfold bAny at e
  split at e
  · obtain ⟨ns, e0, rfl⟩ := Option.map_eq_some_iff.mp e
    obtain ⟨xs, e1, e2⟩ := Option.bind_eq_some_iff.mp e0
    cases rps with
    | cons h t =>
      cases t
      obtain ⟨a, ws, rfl, hq, rv⟩ := lstOf_ok r h e1
      rw [blsOf_ok e2] at rv
      rw [rv.of_bls] at hq
      exact ⟨_, cr_any hc, _, ns, rfl, .inl (.inl hq), k G H _ (Sub.refl _) r (.bl _)⟩
  · cases e
def bInt (_ : Sg) : List P → Option D
  | [.d (.int i)] => some (.int i)
  | [.d (.bl k)] => some (.int (if k then 1 else 0))
  | _ => none
theorem c_int : CallR X (.type "int") (rC X bInt) := by
  refine callD_of fun g G H σ S ps d vs r rps e Q k => ?_
  unfold bInt at e
  split at e
  · cases e
    cases rps with
    | cons h t =>
      cases t; cases h
      exact ⟨_, call_int1, .inl ⟨_, rfl, k G H _ (Sub.refl _) r (.int _)⟩⟩
  · cases e
    cases rps with
    | cons h t =>
      cases t; cases h
      exact ⟨_, call_int1, .inr ⟨_, rfl, k G H _ (Sub.refl _) r (.int _)⟩⟩
  · cases e
def bTuple (S : Sg) : List P → Option D
  | [.d (.tup xs)] => some (.tup xs)
  | [p] => (lstOf S p).map fun xs => .tup xs
  | _ => none
theorem c_tuple : CallR X (.type "tuple") (rC X bTuple) := by
  refine callD_of fun g G H σ S ps d vs r rps e Q k => ?_
  unfold bTuple at e
  split at e
  · cases e
    cases rps with
    | cons h t =>
      cases t
      cases h with
      | tup h1 r1 => exact ⟨_, call_tuple_of, _, _, rfl, .inr ⟨r.sub.sqT h1, k G H _ (Sub.refl _) r (.tup h1 r1)⟩⟩
  · obtain ⟨xs, e1, rfl⟩ := Option.map_eq_some_iff.mp e
    cases rps with
    | cons h t =>
      cases t
      obtain ⟨a, ws, rfl, hq, rv⟩ := lstOf_ok r h e1
      exact ⟨_, call_tuple_of, _, ws, rfl, .inl ⟨.inl (.inl hq), new_tup r rv k⟩⟩
  · cases e
/-! ### new lists by calls and slices -/
def rCN (X : Cx) (f : Sg → List P → Option (List D)) : List V → Hp → VK → Prop := fun vs H Q => ∃ (g : Gh) (G : Hp) (σ : St) (S : Sg) (ps : List P) (xs : List D), Rep X.K X.mg g G σ H S ∧ RPs X.K X.mg G σ ps vs ∧ f S ps = some xs ∧
  ∀ G' H' p ws, Sub G G' → Rep X.K X.mg g G' σ H' S → H' p = some (.lst ws) → RVs X.K X.mg G' xs ws → NewAt g G' H' σ S p → Q (.ref p) H'
def mCN (f : Sg → List P → Option (List D)) (a : MA) : MN := fun S => (a S).bind fun ps S1 => match f S1 ps with
  | some xs => .ok xs S1
  | none => .bad
theorem cn_of {f : Sg → List P → Option (List D)} {a : MA} {g : Gh} {σ : St} {H : Hp} {Q : VK} (h : tN X W g (mCN f a) σ H Q) : tCB (rCN X f) (tA X W g a) σ H Q := by
  obtain ⟨S, G, r, h⟩ := h
  refine ⟨S, G, r, ?_⟩
  unfold mCN at h
  cases e1 : a S with
  | bad => rw [e1] at h; exact h.elim
  | exc c S1 => rw [e1] at h; exact h
  | ok ps S1 =>
    rw [e1] at h
    intro G1 H1 vs s1 r1 rps
    cases e2 : f S1 ps with
    | none => simp only [Res.bind, e2] at h; exact h.elim
    | some d =>
      simp only [Res.bind, e2] at h
      exact ⟨g, G1, σ, S1, ps, d, r1, rps, e2, fun G' H' p ws s r' hp rv nw => h G' H' p ws (s1.trans s) r' hp rv nw⟩
section
variable {x : Str} {p pos : Pos} {e : Expr} {es : List Expr} {a : MA} {id T : String} {f : Sg → List P → Option (List D)}
theorem jn_callB (hc : CallR X (.builtin id) (rCN X f)) (hg : Gl X x) (hm : X.mg x = none) (hv : bootBuiltins x = some (.builtin id)) (ha : JA X W (e :: es) a) (hn : x ≠ "__name__" := by decide) (hdb : (x == ("__debug__" : Str)) = false := by decide)
    (he : starEach (e :: es) X.env = (false, eval e X.env) :: starEach es X.env := by rfl) (hpl : (backTo pos (starEach es X.env)).any (·.1) = false := by rfl) : JN X W (.Call (.Name x p) (e :: es) [] pos) (mCN f a) := fun g =>
  pe_imp (pe_callB hc hg hm hv (ha g) hn hdb he hpl) fun _ _ _ h => cn_of h
theorem jn_callTy (hc : CallR X (.type T) (rCN X f)) (hg : Gl X x) (hm : X.mg x = none) (hv : bootBuiltins x = some (.type T)) (ha : JA X W (e :: es) a) (hn : x ≠ "__name__" := by decide) (hdb : (x == ("__debug__" : Str)) = false := by decide)
    (he : starEach (e :: es) X.env = (false, eval e X.env) :: starEach es X.env := by rfl) (hpl : (backTo pos (starEach es X.env)).any (·.1) = false := by rfl) : JN X W (.Call (.Name x p) (e :: es) [] pos) (mCN f a) := fun g =>
  pe_imp (pe_callTy hc hg hm hv (ha g) hn hdb he hpl) fun _ _ _ h => cn_of h
end
theorem callN_of {fv : Value} {f : Sg → List P → Option (List D)} (h : ∀ (g : Gh) (G H : Hp) (σ : St) (S : Sg) (ps : List P) (xs : List D) (vs : List V), Rep X.K X.mg g G σ H S → RPs X.K X.mg G σ ps vs → f S ps = some xs →
    ∀ (Q : VK), (∀ ws, RVs X.K X.mg G xs ws → ∀ p, H p = none → Q (.ref p) (upd H p (.lst ws))) → ∃ r : List V → Hp → VK → Prop, CallR X fv r ∧ r vs H Q) : CallR X fv (rCN X f) := by
  intro pins s σ H vs us Q I rx k
  obtain ⟨g, G, σ', S, ps, d, r, rps, e, k⟩ := k
  obtain ⟨r2, h1, h2⟩ := h g G H σ' S ps d vs r rps e Q fun ws rv p np => by
    obtain ⟨r2, nw⟩ := r.newO np (.lst ws)
    exact k G _ p ws (Sub.refl _) r2 upd_same rv nw
  exact h1 pins s σ H vs us Q I rx h2
def bList (S : Sg) : List P → Option (List D)
  | [p] => seqOf S p
  | _ => none
theorem c_list : CallR X (.type "list") (rCN X bList) := by
  refine callN_of fun g G H σ S ps xs vs r rps e Q k => ?_
  unfold bList at e
  split at e
  · cases rps with
    | cons h t =>
      cases t
      obtain ⟨a, ws, rfl, hq, rv⟩ := seqOf_ok r h e
      exact ⟨_, call_list_of, _, _, rfl, hq, k ws rv⟩
  · cases e
/-- an optional part of a slice -/
def JO (X : Cx) (W : WX) (o : Option Expr) (m : Option ME) : Prop := match o, m with
  | none, none => True
  | some e, some a => JE X W e a
  | _, _ => False
def cutD (xs : List D) (lo hi : Option Int) : List D := (xs.drop (HT.sIx xs.length 0 lo)).take (HT.sIx xs.length xs.length hi - HT.sIx xs.length 0 lo)
theorem RVs.cut {K : PySem.W.Frag} {mg : Str → Option Value} {G : Hp} {xs : List D} {vs : List V} (r : RVs K mg G xs vs) (lo hi : Option Int) : RVs K mg G (cutD xs lo hi) (cutV vs lo hi) := by
  unfold cutD cutV
  rw [r.length]
  exact (r.drop _).take _
def mPart (o : Option ME) (S : Sg) : Res (Option Int) := match o with
  | none => .ok none S
  | some a => (a S).bind fun p S1 => match p with
    | .d (.int i) => .ok (some i) S1
    | _ => .bad
def PoO (K : PySem.W.Frag) (mg : Str → Option Value) (W : WX) (g : Gh) (G : Hp) (σ : St) (r : Res (Option Int)) (Q : Option Int → Hp → Prop) : Prop := match r with
  | .ok o S' => ∀ G' H', Sub G G' → Rep K mg g G' σ H' S' → Q o H'
  | .exc c S' => ∀ G' H', Sub G G' → Rep K mg g G' σ H' S' → W (clsV mg c) none σ H'
  | .bad => False
theorem jo_part {o : Option Expr} {m : Option ME} (h : JO X W o m) (g : Gh) : PO X o (fun σ H Q => ∃ S G, Rep X.K X.mg g G σ H S ∧ PoO X.K X.mg W g G σ (mPart m S) Q) := by
  cases o with
  | none =>
    cases m with
    | some a => exact h.elim
    | none => exact ⟨fun pins s σ H Q I ⟨S, G, r, q⟩ => po_none.run pins s σ H Q I (q G H (Sub.refl _) r)⟩
  | some e =>
    cases m with
    | none => exact h.elim
    | some a =>
      refine ⟨fun pins s σ H Q I ⟨S, G, r, q⟩ => (po_some (h g)).run pins s σ H Q I ⟨S, G, r, ?_⟩⟩
      unfold mPart at q
      cases e1 : a S with
      | bad => simp only [e1, Res.bind] at q; exact q.elim
      | exc c S1 => simp only [e1, Res.bind] at q; exact q
      | ok p S1 =>
        simp only [e1, Res.bind] at q
        intro G1 H1 v s1 r1 rp
        split at q
        · cases rp
          exact ⟨_, rfl, q G1 H1 s1 r1⟩
        · exact q.elim
def mSl (f : Sg → P → Option Int → Option Int → Option D) (a : ME) (lo hi : Option ME) : ME := fun S => (a S).bind fun p S1 => (mPart lo S1).bind fun l S2 => (mPart hi S2).bind fun u S3 => match f S3 p l u with
  | some d => .ok (.d d) S3
  | none => .bad
/-- x[lo:hi] of a list, a tuple, a text, as data -/
def opSl (S : Sg) (p : P) (lo hi : Option Int) : Option D := match p with
  | .d (.tup xs) => some (.tup (cutD xs lo hi))
  | .d (.str z) => if sizeOk z.length then some (.str (cutS z lo hi)) else none
  | p => (lstOf S p).map fun xs => .lst (cutD xs lo hi)
def rS (X : Cx) (f : Sg → P → Option Int → Option Int → Option D) : V → Option Int → Option Int → Hp → VK → Prop := fun x lo hi H Q => ∃ (g : Gh) (G : Hp) (σ : St) (S : Sg) (p : P) (d : D), Rep X.K X.mg g G σ H S ∧ RP X.K X.mg G σ p x ∧ f S p lo hi = some d ∧
  ∀ G' H' v, Sub G G' → Rep X.K X.mg g G' σ H' S → RV X.K X.mg G' d v → Q v H'
theorem sl_any : L2.SlR X (rS X opSl) := by
  intro pins s σ H x v vl vu lo hi sl Q I rx hs pl pu h
  obtain ⟨g, G, σ', S, p, d, r, rp, e, k⟩ := h
  unfold opSl at e
  split at e
  · cases e
    cases rp with
    | tup h1 r1 =>
      refine sl_tupA pins s σ H _ v vl vu lo hi sl Q I rx hs pl pu ⟨_, _, rfl, r.sub.sqT h1, fun hw => ?_, fun _ => new_tup r (r1.cut lo hi) k⟩
      have hw' := hw
      rename_i xs a ws
      rw [← r1.length] at hw'
      have e : cutD xs lo hi = xs := by
        unfold cutD
        rw [hw'.1, hw'.2, Nat.sub_zero, List.drop_zero, List.take_length]
      rw [e] at k
      exact k G H _ (Sub.refl _) r (.tup h1 r1)
  · split at e
    · rename_i hz
      cases e
      cases rp
      exact sl_str pins s σ H _ v vl vu lo hi sl Q I rx hs pl pu ⟨_, rfl, sizeOk_le hz, k G H _ (Sub.refl _) r (.str _)⟩
    · cases e
  · obtain ⟨xs, e1, rfl⟩ := Option.map_eq_some_iff.mp e
    obtain ⟨a, ws, rfl, hq, rv⟩ := lstOf_ok r rp e1
    exact sl_list pins s σ H _ v vl vu lo hi sl Q I rx hs pl pu ⟨_, _, rfl, .inl (.inl hq), new_lst r (rv.cut lo hi) k⟩
theorem je_slice {e : Expr} {a : ME} {lo hi : Option Expr} {ml mh : Option ME} {p2 pos : Pos} (ha : JE X W e a) (hl : JO X W lo ml) (hh : JO X W hi mh) : JE X W (.Subscript e (.Slice lo hi none p2) pos) (mSl opSl a ml mh) := fun g => by
  refine pe_imp (pe_slice sl_any (ha g) (jo_part hl g) (jo_part hh g)) fun σ H Q h => ?_
  obtain ⟨S, G, r, h⟩ := h
  refine ⟨S, G, r, po_bindE h fun p S1 G1 H1 x s1 r1 rp h => ?_⟩
  refine ⟨S1, G1, r1, ?_⟩
  cases e1 : mPart ml S1 with
  | bad => rw [e1] at h; exact h.elim
  | exc c S2 => rw [e1] at h; exact h
  | ok l S2 =>
    rw [e1] at h
    intro G2 H2 s2 r2
    refine ⟨S2, G2, r2, ?_⟩
    have h : PoE X.K X.mg W g G1 σ ((mPart mh S2).bind fun u S3 => match opSl S3 p l u with | some d => .ok (.d d) S3 | none => .bad) Q := h
    cases e2 : mPart mh S2 with
    | bad => rw [e2] at h; exact h.elim
    | exc c S3 => rw [e2] at h; exact fun G3 H3 s3 r3 => h G3 H3 (s2.trans s3) r3
    | ok u S3 =>
      rw [e2] at h
      intro G3 H3 s3 r3
      have h : PoE X.K X.mg W g G1 σ (match opSl S3 p l u with | some d => .ok (.d d) S3 | none => .bad) Q := h
      cases e3 : opSl S3 p l u with
      | none => rw [e3] at h; exact h.elim
      | some d =>
        rw [e3] at h
        exact ⟨g, G3, σ, S3, p, d, r3, (rp.mono s2).mono s3, e3, fun G' H' v s r' rv => h G' H' v ((s2.trans s3).trans s) r' rv⟩
/-! ### isinstance -/
inductive Ty where
  | non | bool | int | str | tuple | list | dict
def Ty.nm : Ty → String
  | .non => "NoneType" | .bool => "bool" | .int => "int" | .str => "str" | .tuple => "tuple" | .list => "list" | .dict => "dict"
def Ty.sub : Ty → Ty → Bool
  | .non, .non => true | .bool, .bool => true | .bool, .int => true | .int, .int => true | .str, .str => true | .tuple, .tuple => true | .list, .list => true | .dict, .dict => true
  | _, _ => false
theorem Ty.kit (a b : Ty) : kitB a.nm b.nm = some (a.sub b) := by
  cases a <;> cases b <;> decide +kernel
def tyOf (S : Sg) : P → Option Ty
  | .d .non => some .non
  | .d (.bl _) => some .bool
  | .d (.int _) => some .int
  | .d (.str _) => some .str
  | .d (.tup _) => some .tuple
  | .d (.lst _) => some .list
  | .d (.dct _) => some .dict
  | .d (.scr _) => some .list
  | .d (.fn _) => none
  | .d (.row _) => some .tuple
  | .d (.obj _) => none
  | .s i => match S[i]? with
    | some (.l _ _) => some .list
    | some (.m _ _) => some .dict
    | _ => none
theorem tyOf_ok {g : Gh} {G H : Hp} {σ : St} {S : Sg} {p : P} {v : V} {t : Ty} (r : Rep X.K X.mg g G σ H S) (rp : RP X.K X.mg G σ p v) (e : tyOf S p = some t) : TyX X.K H v (.type t.nm) := by
  cases p with
  | d x =>
    cases rp with
    | non => cases e; exact .base .non
    | bl b => cases e; exact .base (.bl b)
    | int i => cases e; exact .base (.int i)
    | str x => cases e; exact .base (.str x)
    | tup h q =>
      cases e
      rcases h with h | ⟨o, its, n, hk, hc, _⟩
      · rcases h with h | ⟨o, h⟩
        · exact .base (.tup (r.sub _ _ h))
        · exact .fTuple (r.sub _ _ h)
      · exact .kTuple hk hc
    | lst h q => cases e; exact .base (.lst (r.sub _ _ h))
    | dct h q => cases e; exact .fDict (r.sub _ _ h)
    | scr h =>
      cases e
      rcases h with h | ⟨o, its, n, hk, hc, _⟩
      · rcases h with h | ⟨o, h⟩
        · exact .base (.lst (r.sub _ _ h))
        · exact .base (.frz (r.sub _ _ h))
      · exact .kList hk hc
    | fn h => cases e
    | row h _ _ q => cases e; exact .fTuple (r.sub _ _ h)
    | obj _ _ _ => cases e
  | s i =>
    dsimp only [tyOf] at e
    split at e
    · rename_i b' xs q
      cases e
      obtain ⟨a, vs, e1, e2, e3, _⟩ := r.lAt q
      have z : some (some v) = some (some (V.ref a)) := (show σ[i]? = _ from rp).symm.trans e1
      cases z
      exact .base (.lst e2)
    · rename_i b' xs q
      cases e
      obtain ⟨a, vs, e1, e2, e3, _⟩ := r.mAt q
      have z : some (some v) = some (some (V.ref a)) := (show σ[i]? = _ from rp).symm.trans e1
      cases z
      exact .base (.dK e2)
    · cases e
def isiP (T : Ty) (S : Sg) (p : P) : Option D := (tyOf S p).map fun t => .bl (t.sub T)
theorem je_isi {T : Ty} {e : Expr} {a : ME} {tn : Str} {p p2 pos : Pos} (hg : Gl X "isinstance") (hm : X.mg "isinstance" = none) (hg2 : Gl X tn) (hm2 : X.mg tn = none) (hv2 : bootBuiltins tn = some (.type T.nm)) (ha : JE X W e a)
    (hn2 : tn ≠ "__name__" := by decide) (hd2 : (tn == ("__debug__" : Str)) = false := by decide)
    (hs : starEach [e, .Name tn p2] X.env = (false, eval e X.env) :: starEach [.Name tn p2] X.env := by rfl) (hs2 : starEach [.Name tn p2] X.env = (false, eval (.Name tn p2) X.env) :: starEach [] X.env := by rfl)
    (hpl : (backTo pos (starEach [.Name tn p2] X.env)).any (·.1) = false := by rfl) (hv : bootBuiltins "isinstance" = some (.builtin "isinstance") := by decide +kernel) : JE X W (.Call (.Name "isinstance" p) [e, .Name tn p2] [] pos) (mUn (isiP T) a) := fun g => by
  refine pe_imp (pe_callB call_isi hg hm hv (pa_cons (ha g) (pa_cons (pe_bltn (v := .ty T.nm) hg2 hm2 hv2 rfl hn2 hd2) pa_nil hs2) hs) (by decide) (by decide) hs hpl) fun σ H Q h => ?_
  obtain ⟨S, G, r, h⟩ := h
  refine ⟨S, G, r, po_bindE h fun q S1 G1 H1 x s1 r1 rp h => ?_⟩
  unfold isiP at h
  cases e2 : tyOf S1 q with
  | none => rw [e2] at h; exact h.elim
  | some t =>
    rw [e2] at h
    exact ⟨x, _, _, _, _, rfl, .ty _, tyOf_ok r1 rp e2, kit_ty (Ty.kit t T), h G1 H1 _ (Sub.refl _) r1 (.bl _)⟩
end
end Mw

set_option Elab.async false
set_option linter.all false
set_option maxRecDepth 100000
/-! Mw, part F: statements, targets, loops. -/
namespace Mw
open PySem PySem.Spec PyProof.Rows L2
section
variable {X : Cx} {W : WX}
def mSkip : MS := fun S => .ok .nx S
def mSeq (a b : MS) : MS := fun S => (a S).bind fun f S1 => match f with
  | .nx => b S1
  | .rt x => .ok (.rt x) S1
  | .bk => .ok .bk S1
  | .ct => .ok .ct S1
def mBad : MS := fun _ => .bad
theorem jss_nil : JSs X W [] mSkip := fun g => pss_imp pss_nil fun E σ H ⟨S, G, r, h⟩ => h G σ H (Sub.refl _) r
theorem jss_cons {st : Stmt} {rest : List Stmt} {a b : MS} (ha : JS X W st a) (hb : JSs X W rest b) : JSs X W (st :: rest) (mSeq a b) := fun g => by
  refine pss_imp (pss_cons (ha g) (hb g)) fun E σ H h => ?_
  obtain ⟨S, G, r, h⟩ := h
  refine ⟨S, G, r, ?_⟩
  unfold mSeq at h
  cases e1 : a S with
  | bad => rw [e1] at h; exact h.elim
  | exc c S1 => rw [e1] at h; exact h
  | ok f S1 =>
    rw [e1] at h
    cases f with
    | nx => exact fun G1 σ1 H1 s1 r1 => ⟨S1, G1, r1, PoS.mono s1 h⟩
    | rt x => exact h
    | bk => exact h
    | ct => exact h
theorem jss_one {st : Stmt} {a : MS} (ha : JS X W st a) : JSs X W [st] a := fun g => pss_one (ha g)
theorem js_pass {pos : Pos} : JS X W (.Pass pos) mSkip := fun g => ps_imp ps_pass fun E σ H ⟨S, G, r, h⟩ => h G σ H (Sub.refl _) r
theorem js_bad {st : Stmt} : JS X W st mBad := fun g => ⟨fun _ _ _ _ _ _ ⟨_, _, _, h⟩ => h.elim⟩
theorem js_break {pos : Pos} : JS X W (.Break pos) (fun S => .ok .bk S) := fun g => ps_imp ps_break fun E σ H ⟨S, G, r, h⟩ => h G σ H (Sub.refl _) r
theorem js_continue {pos : Pos} : JS X W (.Continue pos) (fun S => .ok .ct S) := fun g => ps_imp ps_continue fun E σ H ⟨S, G, r, h⟩ => h G σ H (Sub.refl _) r
def mExpr (a : ME) : MS := fun S => (a S).bind fun _ S1 => .ok .nx S1
theorem js_expr {e : Expr} {a : ME} {pos : Pos} (ha : JE X W e a) (hs : swapsWith e none pos.line X.env = pure false := by rfl) : JS X W (.Expr e pos) (mExpr a) := fun g => by
  refine ps_imp (ps_expr (ha g) hs) fun E σ H h => ?_
  obtain ⟨S, G, r, h⟩ := h
  refine ⟨S, G, r, ?_⟩
  unfold mExpr at h
  cases e1 : a S with
  | bad => rw [e1] at h; exact h.elim
  | exc c S1 => rw [e1] at h; exact fun G1 H1 => h G1 σ H1
  | ok p S1 => rw [e1] at h; exact fun G1 H1 v s1 r1 _ => h G1 σ H1 s1 r1
def mRet (a : ME) : MS := fun S => (a S).bind fun p S1 => match p with
  | .d x => .ok (.rt x) S1
  | .s _ => .bad
theorem js_ret {e : Expr} {a : ME} {pos : Pos} (ha : JE X W e a) : JS X W (.Return (some e) pos) (mRet a) := fun g => by
  refine ps_imp (ps_ret (ha g)) fun E σ H h => ?_
  obtain ⟨S, G, r, h⟩ := h
  refine ⟨S, G, r, ?_⟩
  unfold mRet at h
  cases e1 : a S with
  | bad => rw [e1] at h; exact h.elim
  | exc c S1 => rw [e1] at h; exact fun G1 H1 => h G1 σ H1
  | ok p S1 =>
    rw [e1] at h
    cases p with
    | d x => exact fun G1 H1 v s1 r1 rp => h G1 σ H1 v s1 r1 rp
    | s i => exact h.elim
theorem js_retN {pos : Pos} : JS X W (.Return none pos) (fun S => .ok (.rt .non) S) := fun g => ps_imp ps_retN fun E σ H ⟨S, G, r, h⟩ => h G σ H _ (Sub.refl _) r .non
def mIfS (c : MT) (a b : MS) : MS := fun S => (c S).bind fun k S1 => if k then a S1 else b S1
theorem js_if {ec : Expr} {sa sb : List Stmt} {c : MT} {a b : MS} {pos : Pos} (hc : JT X W ec c) (ha : JSs X W sa a) (hb : JSs X W sb b) : JS X W (.If ec sa sb pos) (mIfS c a b) := fun g => by
  refine ps_imp (ps_if (hc g) (ha g) (hb g)) fun E σ H h => ?_
  obtain ⟨S, G, r, h⟩ := h
  refine ⟨S, G, r, ?_⟩
  unfold mIfS at h
  cases e1 : c S with
  | bad => rw [e1] at h; exact h.elim
  | exc c S1 => rw [e1] at h; exact fun G1 H1 => h G1 σ H1
  | ok k S1 =>
    rw [e1] at h
    intro G1 H1 s1 r1
    cases k with
    | true => exact ⟨S1, G1, r1, PoS.mono s1 h⟩
    | false => exact ⟨S1, G1, r1, PoS.mono s1 h⟩
def mSet (i : Nat) (a : ME) : MS := fun S => (a S).bind fun p S1 => match p with
  | .d x => .ok .nx (S1.set i (.d x))
  | .s _ => .bad
theorem js_set {i : Nat} {x : Str} {e : Expr} {a : ME} {pos pos' : Pos} (hN : X.N.Nodup) (ha : JE X W e a) (hi : X.N[i]? = some x := by rfl) (hx : Loc X.env.scope x := by first | exact Or.inl rfl | exact Or.inr rfl)
    (hs : swapsWith e (some (.Name x pos')) pos.line X.env = pure false := by rfl) (hf : X.fn x = true ∨ X.env.scope.names.lookup x = some .local := by first | exact .inl rfl | exact .inr rfl) : JS X W (.Assign [.Name x pos'] e pos) (mSet i a) := fun g => by
  refine ps_imp (ps_set hN hi hx (ha g) hs hf) fun E σ H h => ?_
  obtain ⟨S, G, r, h⟩ := h
  refine ⟨S, G, r, ?_⟩
  unfold mSet at h
  cases e1 : a S with
  | bad => rw [e1] at h; exact h.elim
  | exc c S1 => rw [e1] at h; exact fun G1 H1 => h G1 σ H1
  | ok p S1 =>
    rw [e1] at h
    cases p with
    | d x => exact fun G1 H1 v s1 r1 rp => h G1 _ H1 s1 (r1.setD i rp)
    | s i => exact h.elim
/-- x = a new list that this def changes -/
def mSetN (i : Nat) (m : MN) : MS := fun S => (m S).bind fun xs S1 => .ok .nx (S1.set i (.l false xs))
theorem js_setN {i : Nat} {x : Str} {e : Expr} {m : MN} {pos pos' : Pos} (hN : X.N.Nodup) (hm : JN X W e m) (hi : X.N[i]? = some x := by rfl) (hx : Loc X.env.scope x := by first | exact Or.inl rfl | exact Or.inr rfl)
    (hs : swapsWith e (some (.Name x pos')) pos.line X.env = pure false := by rfl) (hf : X.fn x = true ∨ X.env.scope.names.lookup x = some .local := by first | exact .inl rfl | exact .inr rfl) : JS X W (.Assign [.Name x pos'] e pos) (mSetN i m) := fun g => by
  refine ps_imp (ps_set hN hi hx (hm g) hs hf) fun E σ H h => ?_
  obtain ⟨S, G, r, h⟩ := h
  refine ⟨S, G, r, ?_⟩
  unfold mSetN at h
  cases e1 : m S with
  | bad => rw [e1] at h; exact h.elim
  | exc c S1 => rw [e1] at h; exact fun G1 H1 => h G1 σ H1
  | ok xs S1 =>
    rw [e1] at h
    exact fun G1 H1 p vs s1 r1 hp rv nw => h G1 _ H1 s1 (r1.setL i hp rv nw)

/-! ### targets -/
/-- outside vs nothing is changed -/
def Off (vs : List Nat) (σ σ' : St) : Prop := σ'.length = σ.length ∧ ∀ j, j ∉ vs → σ'[j]? = σ[j]?
theorem Off.refl (vs : List Nat) (σ : St) : Off vs σ σ := ⟨rfl, fun _ _ => rfl⟩
theorem Off.trans {vs : List Nat} {a b c : St} (h : Off vs a b) (k : Off vs b c) : Off vs a c := ⟨k.1.trans h.1, fun j hj => (k.2 j hj).trans (h.2 j hj)⟩
theorem Off.mono {vs ws : List Nat} {a b : St} (h : Off vs a b) (k : ∀ i ∈ vs, i ∈ ws) : Off ws a b := ⟨h.1, fun j hj => h.2 j fun z => hj (k j z)⟩
theorem Off.set (σ : St) (i : Nat) (v : Option V) : Off [i] σ (σ.set i v) := ⟨List.length_set, fun j hj => List.getElem?_set_ne (fun z => hj (by rw [z]; exact List.mem_singleton_self _))⟩
def tG (X : Cx) (W : WX) (g : Gh) (vs : List Nat) (mt : D → Sg → Option Sg) : TG := fun v σ H Q => ∃ S G x, Rep X.K X.mg g G σ H S ∧ RV X.K X.mg G x v ∧ match mt x S with
  | some S' => ∀ G' σ' H', Sub G G' → Rep X.K X.mg g G' σ' H' S' → Off vs σ σ' → Q σ' H'
  | none => False
def JG (X : Cx) (W : WX) (tg : Expr) (vs : List Nat) (mt : D → Sg → Option Sg) : Prop := ∀ g, PG X tg (tG X W g vs mt)
def tGs (X : Cx) (W : WX) (g : Gh) (vs : List Nat) (mt : List D → Sg → Option Sg) : TGs := fun ws σ H Q => ∃ S G xs, Rep X.K X.mg g G σ H S ∧ RVs X.K X.mg G xs ws ∧ match mt xs S with
  | some S' => ∀ G' σ' H', Sub G G' → Rep X.K X.mg g G' σ' H' S' → Off vs σ σ' → Q σ' H'
  | none => False
def JGs (X : Cx) (W : WX) (ts : List Expr) (vs : List Nat) (mt : List D → Sg → Option Sg) : Prop := ∀ g, PGs X ts (tGs X W g vs mt)
def gtName (i : Nat) : D → Sg → Option Sg := fun x S => some (S.set i (.d x))
theorem pg_imp {tg : Expr} {t t' : TG} (h : PG X tg t) (k : ∀ v σ H Q, t' v σ H Q → t v σ H Q) : PG X tg t' := ⟨fun pins s σ H v u Q I r q => h.run pins s σ H v u Q I r (k v σ H Q q)⟩
theorem pgs_imp {tg : List Expr} {t t' : TGs} (h : PGs X tg t) (k : ∀ v σ H Q, t' v σ H Q → t v σ H Q) : PGs X tg t' := ⟨fun pins s σ H v u Q I r q => h.run pins s σ H v u Q I r (k v σ H Q q)⟩
theorem jg_name {i : Nat} {x : Str} {pos : Pos} (hN : X.N.Nodup) (hi : X.N[i]? = some x := by rfl) (hx : Loc X.env.scope x := by first | exact Or.inl rfl | exact Or.inr rfl)
    (hf : X.fn x = true ∨ X.env.scope.names.lookup x = some .local := by first | exact .inl rfl | exact .inr rfl) : JG X W (.Name x pos) [i] (gtName i) := fun g =>
  pg_imp (pg_name hN hi hx hf) fun v σ H Q ⟨S, G, x, r, rv, h⟩ => h G _ H (Sub.refl _) (r.setD i rv) (Off.set σ i _)
def gtNil : List D → Sg → Option Sg
  | [], S => some S
  | _ :: _, _ => none
def gtCons (a : D → Sg → Option Sg) (b : List D → Sg → Option Sg) : List D → Sg → Option Sg
  | [], _ => none
  | x :: xs, S => (a x S).bind fun S1 => b xs S1
theorem jgs_nil : JGs X W [] [] gtNil := fun g => pgs_imp pgs_nil fun v σ H Q ⟨S, G, xs, r, rv, h⟩ => by
  cases rv with
  | nil => exact ⟨rfl, h G σ H (Sub.refl _) r (Off.refl _ _)⟩
  | cons _ _ => exact h.elim
theorem jgs_cons {e : Expr} {es : List Expr} {vs ws : List Nat} {a : D → Sg → Option Sg} {b : List D → Sg → Option Sg} (ha : JG X W e vs a) (hb : JGs X W es ws b)
    (hs : (assignEach (e :: es) X.env).map (·.2) = assign e X.env :: (assignEach es X.env).map (·.2) := by rfl) : JGs X W (e :: es) (vs ++ ws) (gtCons a b) := fun g => by
  refine pgs_imp (pgs_cons (ha g) (hb g) hs) fun v σ H Q ⟨S, G, xs, r, rv, h⟩ => ?_
  cases rv with
  | nil => exact h.elim
  | @cons x v0 xs vr hx t =>
    refine ⟨v0, vr, rfl, S, G, x, r, hx, ?_⟩
    have h : match (a x S).bind fun S1 => b xs S1 with
      | some S' => ∀ G' σ' H', Sub G G' → Rep X.K X.mg g G' σ' H' S' → Off (vs ++ ws) σ σ' → Q σ' H'
      | none => False := h
    cases e1 : a x S with
    | none => rw [e1] at h; exact h.elim
    | some S1 =>
      rw [e1] at h
      intro G1 σ1 H1 s1 r1 o1
      refine ⟨S1, G1, xs, r1, t.mono s1, ?_⟩
      have h : match b xs S1 with
        | some S' => ∀ G' σ' H', Sub G G' → Rep X.K X.mg g G' σ' H' S' → Off (vs ++ ws) σ σ' → Q σ' H'
        | none => False := h
      cases e2 : b xs S1 with
      | none => rw [e2] at h; exact h.elim
      | some S2 =>
        rw [e2] at h
        exact fun G2 σ2 H2 s2 r2 o2 => h G2 σ2 H2 (s1.trans s2) r2 ((o1.mono fun i hi => List.mem_append_left _ hi).trans (o2.mono fun i hi => List.mem_append_right _ hi))
def gtTup (n : Nat) (a : List D → Sg → Option Sg) : D → Sg → Option Sg
  | .tup xs, S => if xs.length = n then a xs S else none
  | .lst xs, S => if xs.length = n then a xs S else none
  | _, _ => none
theorem jg_tup {es : List Expr} {k n : Nat} {vs : List Nat} {a : List D → Sg → Option Sg} {pos : Pos} (hc : X.calm = true) (h : JGs X W es vs a) (hn : (assignEach es X.env).length = n := by rfl) (hst : (assignEach es X.env).findIdx? (·.1) = none := by rfl) :
    JG X W (.Tuple es k pos) vs (gtTup n a) := fun g => by
  refine ⟨fun pins s σ H v u Q I rv q => ?_⟩
  obtain ⟨S, G, x, r, rx, q⟩ := q
  cases rx with
  | tup hq rr =>
    dsimp only [gtTup] at q
    split at q
    · rename_i S' e
      split at e
      · rename_i hl
        refine (pg_tup hc (h g) hn hst).run pins s σ H _ u Q I rv ⟨_, _, rfl, r.sub.sqT hq, by rw [← rr.length]; exact hl, S, G, _, r, rr, ?_⟩
        rw [e]
        exact q
      · cases e
    · exact q.elim
  | lst hq rr =>
    dsimp only [gtTup] at q
    split at q
    · rename_i S' e
      split at e
      · rename_i hl
        refine (pg_unl hc (h g) hn hst).run pins s σ H _ u Q I rv ⟨_, _, rfl, .inl (.inl (r.sub _ _ hq)), by rw [← rr.length]; exact hl, S, G, _, r, rr, ?_⟩
        rw [e]
        exact q
      · cases e
    · exact q.elim
  | _ => exact q.elim
/-- target = e -/
def mAsg (a : ME) (mt : D → Sg → Option Sg) : MS := fun S => (a S).bind fun p S1 => match p with
  | .d x => match mt x S1 with
    | some S2 => .ok .nx S2
    | none => .bad
  | .s _ => .bad
theorem js_asg {tg e : Expr} {a : ME} {vs : List Nat} {mt : D → Sg → Option Sg} {pos : Pos} (ha : JE X W e a) (hg : JG X W tg vs mt) (hs : swapsWithSole [tg] e pos.line X.env = pure false := by rfl) (hw : swappedStores [tg] e X.env = pure none := by rfl)
    (h1 : (assignEach [tg] X.env).map (·.2) = [assign tg X.env] := by rfl) : JS X W (.Assign [tg] e pos) (mAsg a mt) := fun g => by
  refine ps_imp (ps_asg (ha g) (hg g) hs hw h1) fun E σ H h => ?_
  obtain ⟨S, G, r, h⟩ := h
  refine ⟨S, G, r, ?_⟩
  unfold mAsg at h
  cases e1 : a S with
  | bad => rw [e1] at h; exact h.elim
  | exc c S1 => rw [e1] at h; exact fun G1 H1 => h G1 σ H1
  | ok p S1 =>
    rw [e1] at h
    cases p with
    | s i => exact h.elim
    | d x =>
      intro G1 H1 v s1 r1 rp
      refine ⟨S1, G1, x, r1, rp, ?_⟩
      have h : PoS X.K X.mg W g G (match mt x S1 with | some S2 => .ok .nx S2 | none => .bad) E := h
      cases e2 : mt x S1 with
      | none => rw [e2] at h; exact h.elim
      | some S2 =>
        rw [e2] at h
        exact fun G2 σ2 H2 s2 r2 _ => h G2 σ2 H2 (s1.trans s2) r2

/-! ### what is walked -/
def ItOk (K : PySem.W.Frag) (mg : Str → Option Value) (G : Hp) (J : It) (ds : List D) : Prop :=
  (∀ i H, Sub G H → i < ds.length → J.go i H) ∧ (∀ i H, Sub G H → i = ds.length → J.stop i H) ∧
  ∀ i H x H' d, Sub G H → ds[i]? = some d → J.yld i H x H' → (H' = H ∧ RV K mg G d x) ∨ ∃ T vs es, H T = none ∧ H' = upd H T (.tup vs) ∧ x = .ref T ∧ d = .tup es ∧ RVs K mg G es vs
abbrev MI := Sg → Res (List D)
def PoI (K : PySem.W.Frag) (mg : Str → Option Value) (W : WX) (g : Gh) (G : Hp) (σ : St) (r : Res (List D)) (R : It → Hp → Prop) : Prop := match r with
  | .ok ds S' => ∀ G' H' J, Sub G G' → Rep K mg g G' σ H' S' → ItOk K mg G' J ds → R J H'
  | .exc c S' => ∀ G' H', Sub G G' → Rep K mg g G' σ H' S' → W (clsV mg c) none σ H'
  | .bad => False
def tI (X : Cx) (W : WX) (g : Gh) (m : MI) : TI := fun σ H R => ∃ S G, Rep X.K X.mg g G σ H S ∧ PoI X.K X.mg W g G σ (m S) R
def JI (X : Cx) (W : WX) (tg iter : Expr) (m : MI) : Prop := ∀ g, PI X tg iter (tI X W g m)
theorem pi_imp {tg it : Expr} {t t' : TI} (h : PI X tg it t) (k : ∀ σ H R, t' σ H R → t σ H R) : PI X tg it t' := ⟨fun pins s σ H R I q => h.run pins s σ H R I (k σ H R q)⟩
/-- x and what it draws, for a new one at each turn -/
theorem ItOk.go_rep {g : Gh} {G G1 H H' : Hp} {σ : St} {S : Sg} {J : It} {ds : List D} {i : Nat} {d : D} {x : V} (ok : ItOk X.K X.mg G1 J ds) (s : Sub G1 G) (r : Rep X.K X.mg g G σ H S) (e : ds[i]? = some d) (y : J.yld i H x H') :
    ∃ G2, Sub G G2 ∧ Rep X.K X.mg g G2 σ H' S ∧ RV X.K X.mg G2 d x := by
  rcases ok.2.2 i H x H' d (s.trans r.sub) e y with ⟨rfl, rv⟩ | ⟨T, vs, es, nT, rfl, rfl, rfl, rv⟩
  · exact ⟨G, Sub.refl _, r, rv.mono s⟩
  · have sb : Sub G (upd G T (.tup vs)) := Sub.upd_new G (r.sub.non nT)
    exact ⟨_, sb, r.newF nT _, .tup (.inl (.inl upd_same)) ((rv.mono s).mono sb)⟩
def chars (x : Str) : List D := x.cps.toList.map fun c => D.str ⟨#[c]⟩
def seqItems : P → Option (List D)
  | .d (.lst xs) => some xs
  | .d (.tup xs) => some xs
  | .d (.str x) => some (chars x)
  | _ => none
/-- a dict's key as data -/
def keyD : Key → D
  | .inl i => .int i
  | .inr x => .str x
/-- .. and the keys of a dict -/
def walkItems : P → Option (List D)
  | .d (.lst xs) => some xs
  | .d (.tup xs) => some xs
  | .d (.str x) => some (chars x)
  | .d (.dct kvs) => some (kvs.map fun kv => keyD kv.1)
  | _ => none
def mItSeq (a : ME) : MI := fun S => (a S).bind fun p S1 => match walkItems p with
  | some xs => .ok xs S1
  | none => .bad
theorem itok_list {G : Hp} {a : Addr} {vs : List V} {xs : List D} (h : G a = some (.lst vs)) (r : RVs X.K X.mg G xs vs) : ItOk X.K X.mg G (Itl X.K a) xs := by
  refine ⟨fun i H s hi => ?_, fun i H s hi => ?_, fun i H x H' d s e y => ?_⟩
  · have hi' : i < vs.length := by rw [← r.length]; exact hi
    exact ⟨vs, vs[i], .inl (.inl (s _ _ h)), List.getElem?_eq_getElem hi'⟩
  · exact ⟨vs, .inl (.inl (s _ _ h)), by rw [hi, r.length]; exact Nat.le_refl _⟩
  · obtain ⟨rfl, y⟩ := y
    obtain ⟨v, e1, rv⟩ := r.get e
    have := y vs (.inl (.inl (s _ _ h)))
    rw [e1] at this
    cases this
    exact .inl ⟨rfl, rv⟩
theorem itok_tup {G : Hp} {a : Addr} {vs : List V} {xs : List D} (h : SqT X.K G a vs) (r : RVs X.K X.mg G xs vs) : ItOk X.K X.mg G (Itt X.K a) xs := by
  refine ⟨fun i H s hi => ?_, fun i H s hi => ?_, fun i H x H' d s e y => ?_⟩
  · have hi' : i < vs.length := by rw [← r.length]; exact hi
    exact ⟨vs, vs[i], s.sqT h, List.getElem?_eq_getElem hi'⟩
  · exact ⟨vs, s.sqT h, by rw [hi, r.length]; exact Nat.le_refl _⟩
  · obtain ⟨rfl, y⟩ := y
    obtain ⟨v, e1, rv⟩ := r.get e
    have := y vs (s.sqT h)
    rw [e1] at this
    cases this
    exact .inl ⟨rfl, rv⟩
theorem chars_len (x : Str) : (chars x).length = x.cps.size := by unfold chars; rw [List.length_map, Array.length_toList]
theorem itok_str {G : Hp} (x : Str) : ItOk X.K X.mg G (Its x) (chars x) := by
  refine ⟨fun i H s hi => by rw [chars_len] at hi; exact hi, fun i H s hi => by rw [chars_len] at hi; show x.cps.size ≤ i; omega, fun i H v H' d s e y => ?_⟩
  obtain ⟨rfl, c, ec, rfl⟩ := y
  unfold chars at e
  rw [List.getElem?_map, Array.getElem?_toList, ec] at e
  cases e
  exact .inl ⟨rfl, .str _⟩
theorem RVk.keyAt {K : PySem.W.Frag} {mg : Str → Option Value} {G : Hp} : ∀ {xs : List (Key × D)} {ws : List (Key × V)} {i : Nat} {k : Key} {v : V}, RVk K mg G xs ws → ws[i]? = some (k, v) → (xs.map fun kv => keyD kv.1)[i]? = some (keyD k)
  | _, _, _, _, _, .nil, e => by simp at e
  | _, _, 0, _, _, .cons h t, e => by cases e; rfl
  | _, _, i + 1, _, _, .cons h t, e => RVk.keyAt (i := i) t e
theorem RVk.len {K : PySem.W.Frag} {mg : Str → Option Value} {G : Hp} : ∀ {xs : List (Key × D)} {ws : List (Key × V)}, RVk K mg G xs ws → xs.length = ws.length
  | _, _, .nil => rfl
  | _, _, .cons _ t => by rw [List.length_cons, List.length_cons, t.len]
theorem itok_keys {G : Hp} {a : Addr} {o : Obj} {ws : List (Key × V)} {xs : List (Key × D)} (h : G a = some (.frz o (.dK ws))) (r : RVk X.K X.mg G xs ws) : ItOk X.K X.mg G (Itk a o ws) (xs.map fun kv => keyD kv.1) := by
  have hl := r.len
  refine ⟨fun i H s hi => ⟨s _ _ h, by rw [List.length_map] at hi; omega⟩, fun i H s hi => ⟨s _ _ h, by rw [List.length_map] at hi; omega⟩, fun i H x H' d s e y => ?_⟩
  obtain ⟨rfl, k, v, e1, rfl⟩ := y
  rw [r.keyAt e1] at e
  cases e
  refine .inl ⟨rfl, ?_⟩
  cases k with
  | inl i => exact .int i
  | inr x => exact .str x
theorem ji_seq {tg e : Expr} {a : ME} (ha : JE X W e a) : JI X W tg e (mItSeq a) := fun g => by
  refine ⟨fun pins s σ H R I h => ?_⟩
  obtain ⟨S, G, r, h⟩ := h
  unfold mItSeq at h
  cases e1 : a S with
  | bad => rw [e1] at h; exact h.elim
  | exc c S1 =>
    rw [e1] at h
    refine (pi_list (tg := tg) (ha g)).run pins s σ H R I ⟨S, G, r, ?_⟩
    rw [e1]
    exact h
  | ok p S1 =>
    rw [e1] at h
    simp only [Res.bind] at h
    cases p with
    | s i => exact h.elim
    | d x =>
      cases x with
      | lst xs =>
        refine (pi_list (tg := tg) (ha g)).run pins s σ H R I ⟨S, G, r, ?_⟩
        rw [e1]
        intro G1 H1 v s1 r1 rp
        cases rp with
        | lst hq rr => exact ⟨_, rfl, ⟨_, .inl (.inl (r1.sub _ _ hq))⟩, h G1 H1 _ s1 r1 (itok_list hq rr)⟩
      | tup xs =>
        refine (pi_tup (tg := tg) (ha g)).run pins s σ H R I ⟨S, G, r, ?_⟩
        rw [e1]
        intro G1 H1 v s1 r1 rp
        cases rp with
        | tup hq rr => exact ⟨_, rfl, ⟨_, r1.sub.sqT hq⟩, h G1 H1 _ s1 r1 (itok_tup hq rr)⟩
      | str x =>
        refine (pi_str (tg := tg) (ha g)).run pins s σ H R I ⟨S, G, r, ?_⟩
        rw [e1]
        intro G1 H1 v s1 r1 rp
        cases rp
        exact ⟨_, rfl, h G1 H1 _ s1 r1 (itok_str x)⟩
      | dct kvs =>
        refine (pi_keys (tg := tg) (ha g)).run pins s σ H R I ⟨S, G, r, ?_⟩
        rw [e1]
        intro G1 H1 v s1 r1 rp
        cases rp with
        | dct hq rr => exact ⟨_, _, rfl, .inl ⟨_, r1.sub _ _ hq, h G1 H1 _ s1 r1 (itok_keys hq rr)⟩⟩
      | _ => exact h.elim
def rngD (lo : Int) : Nat → List D
  | 0 => []
  | n + 1 => .int lo :: rngD (lo + 1) n
theorem rngD_length : ∀ (n : Nat) (lo : Int), (rngD lo n).length = n
  | 0, _ => rfl
  | n + 1, lo => by show (rngD (lo + 1) n).length + 1 = n + 1; rw [rngD_length n]
theorem rngD_get : ∀ (n : Nat) (lo : Int) (i : Nat) (d : D), (rngD lo n)[i]? = some d → d = .int (lo + i)
  | 0, _, _, _, e => by cases e
  | n + 1, lo, 0, d, e => by cases e; simp
  | n + 1, lo, i + 1, d, e => by
    have := rngD_get n (lo + 1) i d e
    rw [this]
    congr 1
    omega
def rngOk (i : Int) : Bool := decide (-(2 ^ 62) ≤ i) && decide (i < 2 ^ 62)
theorem rngOk_ok {i : Int} (h : rngOk i = true) : -(2 ^ 62) ≤ i ∧ i < 2 ^ 62 := by
  unfold rngOk at h
  simpa only [Bool.and_eq_true, decide_eq_true_eq] using h
def rng1 : List P → Option (List D)
  | [.d (.int j)] => if rngOk j then some (rngD 0 j.toNat) else none
  | _ => none
def rng2 : List P → Option (List D)
  | [.d (.int i), .d (.int j)] => if rngOk i && rngOk j then some (rngD i (j - i).toNat) else none
  | _ => none
def mItA (f : List P → Option (List D)) (a : MA) : MI := fun S => (a S).bind fun ps S1 => match f ps with
  | some ds => .ok ds S1
  | none => .bad
theorem po_itA {f : List P → Option (List D)} {a : MA} {g : Gh} {G : Hp} {σ : St} {S : Sg} {R : It → Hp → Prop} {Q : List V → Hp → Prop} (h : PoI X.K X.mg W g G σ (mItA f a S) R)
    (k : ∀ ps ds S1 G1 H1 vs, f ps = some ds → Sub G G1 → Rep X.K X.mg g G1 σ H1 S1 → RPs X.K X.mg G1 σ ps vs → (∀ J, ItOk X.K X.mg G1 J ds → R J H1) → Q vs H1) : PoA X.K X.mg W g G σ (a S) Q := by
  unfold mItA at h
  cases e1 : a S with
  | bad => rw [e1] at h; exact h.elim
  | exc c S1 => rw [e1] at h; exact h
  | ok ps S1 =>
    rw [e1] at h
    simp only [Res.bind] at h
    intro G1 H1 vs s1 r1 rps
    cases e2 : f ps with
    | none => rw [e2] at h; exact h.elim
    | some ds =>
      rw [e2] at h
      exact k ps ds S1 G1 H1 vs e2 s1 r1 rps fun J ok => h G1 H1 J s1 r1 ok
theorem itok_rng {G : Hp} (lo : Int) (n : Nat) : ItOk X.K X.mg G (Itr lo n) (rngD lo n) := by
  refine ⟨fun i H s hi => ?_, fun i H s hi => ?_, fun i H x H' d s e y => ?_⟩
  · rw [rngD_length] at hi; exact hi
  · rw [rngD_length] at hi; exact Nat.le_of_eq hi.symm
  · obtain ⟨rfl, rfl⟩ := y
    rw [rngD_get n lo i d e]
    exact .inl ⟨rfl, .int _⟩
theorem ji_range1 {tg e : Expr} {a : MA} {p pos : Pos} (hg : Gl X "range") (hm : X.mg "range" = none) (ha : JA X W [e] a) (hs : starEach [e] X.env = [(false, eval e X.env)] := by rfl) : JI X W tg (.Call (.Name "range" p) [e] [] pos) (mItA rng1 a) := fun g => by
  refine pi_imp (pi_range1 hg hm (ha g) hs) fun σ H R h => ?_
  obtain ⟨S, G, r, h⟩ := h
  refine ⟨S, G, r, po_itA h fun ps ds S1 G1 H1 vs e s1 r1 rps h => ?_⟩
  unfold rng1 at e
  split at e
  · split at e
    · rename_i hz
      cases e
      cases rps with
      | cons hx t =>
        cases t; cases hx
        have z := rngOk_ok hz
        exact ⟨_, rfl, z.1, z.2, h _ (itok_rng 0 _)⟩
    · cases e
  · cases e
theorem ji_range2 {tg e e2 : Expr} {a : MA} {p pos : Pos} (hg : Gl X "range") (hm : X.mg "range" = none) (ha : JA X W [e, e2] a) (hs : starEach [e, e2] X.env = [(false, eval e X.env), (false, eval e2 X.env)] := by rfl) (hs2 : starEach [e2] X.env = [(false, eval e2 X.env)] := by rfl) :
    JI X W tg (.Call (.Name "range" p) [e, e2] [] pos) (mItA rng2 a) := fun g => by
  refine pi_imp (pi_range2 hg hm (ha g) hs hs2) fun σ H R h => ?_
  obtain ⟨S, G, r, h⟩ := h
  refine ⟨S, G, r, po_itA h fun ps ds S1 G1 H1 vs e s1 r1 rps h => ?_⟩
  unfold rng2 at e
  split at e
  · split at e
    · rename_i hz
      cases e
      rw [Bool.and_eq_true] at hz
      cases rps with
      | cons hx t =>
        cases t with
        | cons hy t2 =>
          cases t2; cases hx; cases hy
          have z := rngOk_ok hz.1
          have z2 := rngOk_ok hz.2
          exact ⟨_, _, rfl, ⟨z.1, z.2, z2.1, z2.2⟩, h _ (itok_rng _ _)⟩
    · cases e
  · cases e
/-! ### for, while -/
def forL (mt : D → Sg → Option Sg) (b : MS) : List D → Sg → Res Fl
  | [], S => .ok .nx S
  | d :: ds, S => match mt d S with
    | none => .bad
    | some S1 => (b S1).bind fun f S2 => match f with
      | .nx => forL mt b ds S2
      | .ct => forL mt b ds S2
      | .bk => .ok .nx S2
      | .rt x => .ok (.rt x) S2
def mFor (mi : MI) (mt : D → Sg → Option Sg) (b : MS) : MS := fun S => (mi S).bind fun ds S1 => forL mt b ds S1
theorem drop_cons {α : Type} {l : List α} {i : Nat} (h : i < l.length) : l.drop i = l[i] :: l.drop (i + 1) := List.drop_eq_getElem_cons h
theorem js_for {tg iter : Expr} {body : List Stmt} {mi : MI} {vs : List Nat} {mt : D → Sg → Option Sg} {b : MS} {pos : Pos} (hp : PassesOwn (model X.prog X.w) X.A X.env X.xe) (hc : X.calm = true) (hi : JI X W tg iter mi) (hg : JG X W tg vs mt) (hb : JSs X W body b)
    (hs : ∀ x, foldedSetIterable iter X.env x = pure x := by intro _; rfl) : JS X W (.For tg iter body [] pos) (mFor mi mt b) := fun g => by
  refine ps_imp (ps_for hp hc (hi g) (hg g) (hb g) hs) fun E σ H h => ?_
  obtain ⟨S, G, r, h⟩ := h
  refine ⟨S, G, r, ?_⟩
  unfold mFor at h
  cases e1 : mi S with
  | bad => rw [e1] at h; exact h.elim
  | exc c S1 => rw [e1] at h; exact fun G1 H1 => h G1 σ H1
  | ok ds S1 =>
    rw [e1] at h
    simp only [Res.bind] at h
    intro G1 H1 J s1 r1 ok
    have h1 := PoS.mono s1 h
    refine ⟨fun i m σ H => i + m = ds.length ∧ ∃ S G, Sub G1 G ∧ Rep X.K X.mg g G σ H S ∧ PoS X.K X.mg W g G (forL mt b (ds.drop i) S) E, ⟨ds.length, by omega, S1, G1, Sub.refl _, r1, h1⟩, ?_⟩
    rintro i m σ H ⟨em, S, G, s, r, h⟩
    by_cases hl : i < ds.length
    · refine .inr ⟨ok.1 i H (s.trans r.sub) hl, fun σ' H' => ∃ S G, Sub G1 G ∧ Rep X.K X.mg g G σ' H' S ∧ PoS X.K X.mg W g G (forL mt b (ds.drop (i + 1)) S) E, ?_, fun x H' y => ?_⟩
      · rintro σ' H' ⟨S, G, s, r, h⟩
        exact ⟨m - 1, by omega, by omega, S, G, s, r, h⟩
      · obtain ⟨G2, s2, r2, rv⟩ := ok.go_rep (i := i) (d := ds[i]) s r (List.getElem?_eq_getElem hl) y
        refine ⟨S, G2, ds[i], r2, rv, ?_⟩
        rw [drop_cons hl] at h
        dsimp only [forL] at h
        cases e2 : mt ds[i] S with
        | none => rw [e2] at h; exact h.elim
        | some S2 =>
          rw [e2] at h
          intro G3 σ3 H3 s3 r3 _
          refine ⟨S2, G3, r3, ?_⟩
          have h := PoS.mono (s2.trans s3) h
          cases e3 : b S2 with
          | bad => simp only [e3, Res.bind] at h; exact h.elim
          | exc c S4 => simp only [e3, Res.bind] at h; exact h
          | ok f S4 =>
            simp only [e3, Res.bind] at h
            cases f with
            | nx => exact fun G4 σ4 H4 s4 r4 => ⟨S4, G4, ((s.trans s2).trans s3).trans s4, r4, PoS.mono s4 h⟩
            | ct => exact fun G4 σ4 H4 s4 r4 => ⟨S4, G4, ((s.trans s2).trans s3).trans s4, r4, PoS.mono s4 h⟩
            | bk => exact h
            | rt x => exact h
    · have ei : i = ds.length := by omega
      refine .inl ⟨ok.2.1 i H (s.trans r.sub) ei, ?_⟩
      rw [List.drop_eq_nil_of_le (by omega)] at h
      exact h G σ H (Sub.refl _) r
def whileL (c : MT) (b : MS) : Nat → Sg → Res Fl
  | 0, _ => .bad
  | n + 1, S => (c S).bind fun k S1 => if k then (b S1).bind fun f S2 => match f with
      | .nx => whileL c b n S2
      | .ct => whileL c b n S2
      | .bk => .ok .nx S2
      | .rt x => .ok (.rt x) S2
    else .ok .nx S1
theorem js_while {ec : Expr} {body : List Stmt} {c : MT} {b : MS} {pos : Pos} (n : Nat) (hp : PassesOwn (model X.prog X.w) X.A X.env X.xe) (hc : JT X W ec c) (hb : JSs X W body b) : JS X W (.While ec body [] pos) (whileL c b n) := fun g => by
  refine ps_imp (ps_while hp (hc g) (hb g)) fun E σ H h => ?_
  obtain ⟨S, G, r, h⟩ := h
  refine ⟨fun m σ H => ∃ S G, Rep X.K X.mg g G σ H S ∧ PoS X.K X.mg W g G (whileL c b m S) E, ⟨n, S, G, r, h⟩, ?_⟩
  rintro m σ H ⟨S, G, r, h⟩
  cases m with
  | zero => exact h.elim
  | succ m =>
    refine ⟨S, G, r, ?_⟩
    dsimp only [whileL] at h
    cases e1 : c S with
    | bad => rw [e1] at h; exact h.elim
    | exc c S1 => rw [e1] at h; exact fun G1 H1 => h G1 σ H1
    | ok k S1 =>
      rw [e1] at h
      intro G1 H1 s1 r1
      have h := PoS.mono s1 h
      cases k with
      | false =>
        rw [if_neg Bool.false_ne_true]
        exact h G1 σ H1 (Sub.refl _) r1
      | true =>
        rw [if_pos rfl]
        simp only [Res.bind, if_true] at h
        refine ⟨fun σ' H' => ∃ S G, Rep X.K X.mg g G σ' H' S ∧ PoS X.K X.mg W g G (whileL c b m S) E, ?_, S1, G1, r1, ?_⟩
        · exact fun σ' H' z => ⟨m, Nat.lt_succ_self _, z⟩
        · cases e3 : b S1 with
          | bad => simp only [e3] at h; exact h.elim
          | exc c S4 => simp only [e3] at h; exact h
          | ok f S4 =>
            simp only [e3] at h
            cases f with
            | nx => exact fun G4 σ4 H4 s4 r4 => ⟨S4, G4, r4, PoS.mono s4 h⟩
            | ct => exact fun G4 σ4 H4 s4 r4 => ⟨S4, G4, r4, PoS.mono s4 h⟩
            | bk => exact h
            | rt x => exact h
end
end Mw

set_option Elab.async false
set_option linter.all false
set_option maxRecDepth 100000
/-! Mw, part G: list comprehensions. -/
namespace Mw
open PySem PySem.Spec PyProof.Rows L2
/-- a thing that nobody else names is kept while others run -/
def Gh.res (g : Gh) (p : Addr) (o : HO) : Gh := { g with R := upd g.R p o, M := fun a => g.M a ∨ a = p }
section
variable {K : PySem.W.Frag} {mg : Str → Option Value} {g : Gh} {G H : Hp} {σ : St} {S : Sg}
theorem Rep.reserve (r : Rep K mg g G σ H S) {p : Addr} {o : HO} (h : H p = some o) (n : NewAt g G H σ S p) (ho : ∀ ps, o ≠ .tbl ps := by intro _ z; cases z) : Rep K mg (g.res p o) G σ H S := by
  refine ⟨r.g0, r.fresh, r.sub, r.keep.upd_have h, fun a e => ?_, fun a e => ?_, r.dom, fun i s e => ?_, r.inj, r.len, r.tabs, r.ntG, nt_upd r.ntR ho⟩
  · rcases e with e | rfl
    · exact r.nof a e
    · exact n.g0
  · rcases e with e | rfl
    · show upd g.R p o a ≠ none
      by_cases ha : a = p
      · subst ha; rw [upd_same]; intro z; cases z
      · rw [upd_ne ha]; exact r.rm a e
    · show upd g.R a o a ≠ none
      rw [upd_same]; intro z; cases z
  · have q := r.sl i s e
    have own : ∀ rt a, σ[i]? = some (some (.ref rt)) → Ft H s rt a → upd g.R p o a = g.R a := fun rt a oa f => upd_ne fun z => by
      subst z
      exact n.o i ⟨s, rt, e, oa, f⟩
    cases s with
    | no => trivial
    | v a => exact q
    | d x => exact q
    | l b xs =>
      obtain ⟨a, vs, e1, e2, e3, e4, e5, e6⟩ := q
      exact ⟨a, vs, e1, e2, e3, e4, (own a a e1 rfl).trans e5, e6⟩
    | m b xs =>
      obtain ⟨a, vs, e1, e2, e3, e4, e5, e6⟩ := q
      exact ⟨a, vs, e1, e2, e3, e4, (own a a e1 rfl).trans e5, e6⟩
    | o b fs =>
      obtain ⟨a, C, dx, vs, e1, em, e2, e3, nd, e4, e5, e6⟩ := q
      exact ⟨a, C, dx, vs, e1, em, e2, AtsR.gh (g := g) (g' := g.res p o) rfl rfl e3 fun b m => (own a b e1 (.inr ⟨C, dx, vs, e2, m⟩)).trans (e3.inn m).2.2.1, nd, e4, (own a a e1 (.inl rfl)).trans e5, e6⟩
    | r fs =>
      obtain ⟨a, C, dx, vs, e1, em, e2, e3⟩ := q
      have sb : Sub g.R (upd g.R p o) := Sub.upd_new g.R n.r
      exact ⟨a, C, dx, vs, e1, em, sb _ _ e2, e3.1.re fun a q => upd_ne fun z => q (by rw [z]; exact n.h0), e3.2⟩
    | t xss =>
      obtain ⟨a, vs, e1, e2, e3, nd, e4, e5, e6⟩ := q
      exact ⟨a, vs, e1, e2, TsR.gh (g := g) (g' := g.res p o) rfl e3 fun b m => (own a b e1 (.inr ⟨vs, e2, m⟩)).trans (e3.mem m).2.2.1, nd, e4, (own a a e1 (.inl rfl)).trans e5, e6⟩
theorem Rep.unres {p : Addr} {o : HO} (r : Rep K mg (g.res p o) G σ H S) (h1 : g.R p = none) (h2 : g.H0 p = none) (h3 : ¬ g.M p) : Rep K mg g G σ H S ∧ H p = some o ∧ NewAt g G H σ S p := by
  have own : ∀ i a, OwnAt H σ S i a → a ≠ p ∧ g.R a = none := fun i a h => by
    have q := (r.ownH h).2.2
    have ha : a ≠ p := fun z => by
      subst z
      have q : upd g.R a o a = none := q
      rw [upd_same] at q; cases q
    exact ⟨ha, by have q : upd g.R p o a = none := q; rw [upd_ne ha] at q; exact q⟩
  refine ⟨⟨r.g0, r.fresh, r.sub, fun a u e => r.keep a u ?_, fun a e => r.nof a (.inl e), fun a e => ?_, r.dom, fun i s e => ?_, r.inj, r.len, r.tabs, r.ntG, fun a ps e => r.ntR a ps ?_⟩, r.keep p o ?_, r.nof p (.inr rfl), h2, h1, fun i z => (own i p z).1 rfl⟩
  · show upd g.R p o a = some u
    rw [upd_ne (fun z => by subst z; rw [h1] at e; cases e)]
    exact e
  · have q := r.rm a (.inl e)
    by_cases ha : a = p
    · subst ha
      exact absurd e h3
    · have q : upd g.R p o a ≠ none := q
      rw [upd_ne ha] at q; exact q
  · have q := r.sl i s e
    cases s with
    | no => trivial
    | v a => exact q
    | d x => exact q
    | l b xs =>
      obtain ⟨a, vs, e1, e2, e3, e4, e5, e6⟩ := q
      exact ⟨a, vs, e1, e2, e3, e4, (own i a (OwnAt.rt e rfl e1)).2, e6⟩
    | m b xs =>
      obtain ⟨a, vs, e1, e2, e3, e4, e5, e6⟩ := q
      exact ⟨a, vs, e1, e2, e3, e4, (own i a (OwnAt.rt e rfl e1)).2, e6⟩
    | o b fs =>
      obtain ⟨a, C, dx, vs, e1, em, e2, e3, nd, e4, e5, e6⟩ := q
      exact ⟨a, C, dx, vs, e1, em, e2, AtsR.gh (g := g.res p o) (g' := g) rfl rfl e3 fun b m => (own i b ⟨_, a, e, e1, .inr ⟨C, dx, vs, e2, m⟩⟩).2, nd, e4, (own i a (OwnAt.rt e rfl e1)).2, e6⟩
    | r fs =>
      obtain ⟨a, C, dx, vs, e1, em, e2, e3⟩ := q
      have ne : a ≠ p := fun z => e3.2 (by rw [z]; exact h2)
      exact ⟨a, C, dx, vs, e1, em, (upd_ne ne).symm.trans e2, e3.1.re fun a q => (upd_ne fun z => q (by rw [z]; exact h2)).symm, e3.2⟩
    | t xss =>
      obtain ⟨a, vs, e1, e2, e3, nd, e4, e5, e6⟩ := q
      exact ⟨a, vs, e1, e2, TsR.gh (g := g.res p o) (g' := g) rfl e3 fun b m => (own i b ⟨_, a, e, e1, .inr ⟨vs, e2, m⟩⟩).2, nd, e4, (own i a (OwnAt.rt e rfl e1)).2, e6⟩
  · show upd g.R p o a = some _
    rw [upd_ne (fun z => by subst z; rw [h1] at e; cases e)]
    exact e
  · show upd g.R p o p = some o
    exact upd_same
/-- the slots of a block's own names forgotten -/
def wipeS (S : Sg) : List Nat → Sg
  | [] => S
  | v :: vs => (wipeS S vs).set v .no
theorem wipeS_length (S : Sg) : ∀ vs : List Nat, (wipeS S vs).length = S.length
  | [] => rfl
  | v :: vs => by show ((wipeS S vs).set v .no).length = _; rw [List.length_set, wipeS_length S vs]
theorem wipeS_out {S : Sg} {i : Nat} : ∀ {vs : List Nat}, i ∉ vs → (wipeS S vs)[i]? = S[i]?
  | [], _ => rfl
  | v :: vs, h => by
    simp only [List.mem_cons, not_or] at h
    show ((wipeS S vs).set v .no)[i]? = _
    rw [List.getElem?_set_ne (Ne.symm h.1), wipeS_out h.2]
theorem wipeS_in {S : Sg} {i : Nat} {s : Sl} : ∀ {vs : List Nat}, i ∈ vs → (wipeS S vs)[i]? = some s → s = .no
  | [], h, _ => by cases h
  | v :: vs, h, e => by
    have e : ((wipeS S vs).set v .no)[i]? = some s := e
    rcases get_set e with ⟨_, e, _⟩ | ⟨hv, e⟩
    · exact e
    · rcases List.mem_cons.mp h with rfl | h
      · exact absurd rfl hv
      · exact wipeS_in h e
theorem wipe_in {σ : St} {i : Nat} {o : Option V} : ∀ {vs : List Nat}, i ∈ vs → (wipe σ vs)[i]? = some o → o = none
  | [], h, _ => by cases h
  | v :: vs, h, e => by
    have e : ((wipe σ vs).set v none)[i]? = some o := e
    rcases get_set e with ⟨_, e, _⟩ | ⟨hv, e⟩
    · exact e
    · rcases List.mem_cons.mp h with rfl | h
      · exact absurd rfl hv
      · exact wipe_in h e
theorem OwnAt.wipe {vs : List Nat} {i : Nat} {a : Addr} (h : OwnAt H (L2.wipe σ vs) (wipeS S vs) i a) : OwnAt H σ S i a := by
  obtain ⟨s, rt, e, q, f⟩ := h
  by_cases hi : i ∈ vs
  · rw [wipeS_in hi e] at f; exact f.elim
  · rw [wipeS_out hi] at e
    rw [wipe_out hi] at q
    exact ⟨s, rt, e, q, f⟩
theorem NewAt.wipe {vs : List Nat} {p : Addr} (n : NewAt g G H σ S p) : NewAt g G H (L2.wipe σ vs) (wipeS S vs) p := ⟨n.g0, n.h0, n.r, fun i z => n.o i z.wipe⟩
theorem Rep.wipe (r : Rep K mg g G σ H S) (vs : List Nat) : Rep K mg g G (L2.wipe σ vs) H (wipeS S vs) := by
  have own : ∀ i a, OwnAt H (L2.wipe σ vs) (wipeS S vs) i a → OwnAt H σ S i a := fun i a => OwnAt.wipe
  refine ⟨r.g0, r.fresh, r.sub, r.keep, r.nof, r.rm, r.dom, fun i s e => ?_, fun i j a h1 h2 => r.inj i j a (own i a h1) (own j a h2), by rw [wipeS_length, wipe_length]; exact r.len, r.tabs, r.ntG, r.ntR⟩
  by_cases hi : i ∈ vs
  · rw [wipeS_in hi e]; trivial
  · rw [wipeS_out hi] at e
    rw [wipe_out hi]
    exact r.sl i s e
theorem Off.wipe {vs : List Nat} {σ' : St} (h : Off vs σ σ') : L2.wipe σ' vs = L2.wipe σ vs := by
  refine List.ext_getElem? fun i => ?_
  by_cases hi : i ∈ vs
  · cases e1 : (L2.wipe σ' vs)[i]? with
    | none =>
      have hl := List.getElem?_eq_none_iff.mp e1
      rw [wipe_length, h.1] at hl
      exact (List.getElem?_eq_none_iff.mpr (by rw [wipe_length]; exact hl)).symm
    | some o =>
      rw [wipe_in hi e1]
      have hl := (List.getElem?_eq_some_iff.mp e1).1
      rw [wipe_length, h.1] at hl
      have e2 : (L2.wipe σ vs)[i]? = some ((L2.wipe σ vs)[i]'(by rw [wipe_length]; exact hl)) := List.getElem?_eq_getElem _
      rw [e2, wipe_in hi e2]
  · rw [wipe_out hi, wipe_out hi, h.2 i hi]
theorem Off.of_wipe {vs : List Nat} : Off vs σ (L2.wipe σ vs) := ⟨wipe_length σ vs, fun _ hj => wipe_out hj⟩
/-- behind the block: its names as they were (data), or nothing -/
def backS (S0 S : Sg) : List Nat → Sg
  | [] => S
  | v :: vs => (backS S0 S vs).set v (match S0[v]? with
    | some (.d x) => .d x
    | _ => .no)
theorem backS_length (S0 S : Sg) : ∀ vs : List Nat, (backS S0 S vs).length = S.length
  | [] => rfl
  | v :: vs => by show ((backS S0 S vs).set v _).length = _; rw [List.length_set, backS_length S0 S vs]
theorem backS_out {S0 S : Sg} {i : Nat} : ∀ {vs : List Nat}, i ∉ vs → (backS S0 S vs)[i]? = S[i]?
  | [], _ => rfl
  | v :: vs, h => by
    simp only [List.mem_cons, not_or] at h
    show ((backS S0 S vs).set v _)[i]? = _
    rw [List.getElem?_set_ne (Ne.symm h.1), backS_out h.2]
theorem backS_in {S0 S : Sg} {i : Nat} {s : Sl} : ∀ {vs : List Nat}, i ∈ vs → (backS S0 S vs)[i]? = some s → s = .no ∨ ∃ x, s = .d x ∧ S0[i]? = some (.d x)
  | [], h, _ => by cases h
  | v :: vs, h, e => by
    have e : ((backS S0 S vs).set v (match S0[v]? with | some (.d x) => .d x | _ => .no))[i]? = some s := e
    rcases get_set e with ⟨rfl, e, _⟩ | ⟨hv, e⟩
    · split at e
      · rename_i x q
        exact .inr ⟨x, e, q⟩
      · exact .inl e
    · rcases List.mem_cons.mp h with rfl | h
      · exact absurd rfl hv
      · exact backS_in h e
theorem OwnAt.back {S0 : Sg} {vs : List Nat} {i : Nat} {a : Addr} (h : OwnAt H σ (backS S0 S vs) i a) : OwnAt H (L2.wipe σ vs) S i a := by
  obtain ⟨s, rt, e, q, f⟩ := h
  by_cases hi : i ∈ vs
  · rcases backS_in hi e with rfl | ⟨x, rfl, _⟩ <;> exact f.elim
  · rw [backS_out hi] at e
    exact ⟨s, rt, e, by rw [wipe_out hi]; exact q, f⟩
theorem NewAt.back {S0 : Sg} {vs : List Nat} {p : Addr} (n : NewAt g G H (L2.wipe σ vs) S p) : NewAt g G H σ (backS S0 S vs) p := ⟨n.g0, n.h0, n.r, fun i z => n.o i z.back⟩
theorem Rep.back {S0 : Sg} {G0 H0' : Hp} (r0 : Rep K mg g G0 σ H0' S0) {vs : List Nat} (s : Sub G0 G) (r : Rep K mg g G (L2.wipe σ vs) H S) : Rep K mg g G σ H (backS S0 S vs) := by
  have own : ∀ i a, OwnAt H σ (backS S0 S vs) i a → OwnAt H (L2.wipe σ vs) S i a := fun i a => OwnAt.back
  refine ⟨r.g0, r.fresh, r.sub, r.keep, r.nof, r.rm, r.dom, fun i t e => ?_, fun i j a h1 h2 => r.inj i j a (own i a h1) (own j a h2), by rw [backS_length, r.len, wipe_length], r.tabs, r.ntG, r.ntR⟩
  by_cases hi : i ∈ vs
  · rcases backS_in hi e with rfl | ⟨x, rfl, q⟩
    · trivial
    · obtain ⟨v, e1, rv⟩ := r0.dAt q
      exact ⟨v, e1, rv.mono s⟩
  · rw [backS_out hi] at e
    have := r.sl i t e
    rw [wipe_out hi] at this
    exact this
end
def noW : WX := fun _ _ _ _ => False
def Res.nox {α : Type} : Res α → Res α
  | .ok a S => .ok a S
  | _ => .bad
/-- the block's turns -/
def lcL (mt : D → Sg → Option Sg) (tt : MT) (te : ME) (vs : List Nat) : List D → Sg → Res (List D)
  | [], S => .ok [] S
  | d :: ds, S => match mt d S with
    | none => .bad
    | some S1 => (tt S1).nox.bind fun k S2 => if k then (te S2).nox.bind fun p S3 => match p with
        | .d x => (lcL mt tt te vs ds (wipeS S3 vs)).bind fun xs S4 => .ok (x :: xs) S4
        | .s _ => .bad
      else lcL mt tt te vs ds (wipeS S2 vs)
def mLc (mi : MI) (mt : D → Sg → Option Sg) (tt : MT) (te : ME) (vs : List Nat) : MN := fun S => (mi S).bind fun ds S1 => if sizeOk ds.length then (lcL mt tt te vs ds (wipeS S1 vs)).bind fun xs S2 => .ok xs (backS S1 S2 vs) else .bad
def mYes : MT := fun S => .ok true S
section
variable {X : Cx} {W : WX}
def JTs (X : Cx) (W : WX) (ifs : List Expr) (m : MT) : Prop := ∀ g, PTs X ifs (tT X W g m)
theorem jts_nil : JTs X W [] mYes := fun g => ⟨fun pins s σ H Q I ⟨S, G, r, h⟩ => pts_nil.run pins s σ H Q I (h G H (Sub.refl _) r)⟩
theorem jts_one {e : Expr} {m : MT} (h : JT X W e m) : JTs X W [e] m := fun g => pts_one (h g)
theorem PoT.nox {g : Gh} {G : Hp} {σ : St} {r : Res Bool} {Q : Bool → Hp → Prop} (h : PoT X.K X.mg W g G σ r.nox Q) : PoT X.K X.mg noW g G σ r Q := by
  cases r with
  | ok a S => exact h
  | exc c S => exact h.elim
  | bad => exact h.elim
/-- the reading of a comprehension over the combinators; W': the wish within (none) -/
theorem lc_of {mi : MI} {mt : D → Sg → Option Sg} {tt : MT} {te : ME} {vs ts : List Nat} (hts : ∀ i ∈ ts, i ∈ vs) {g : Gh} {σ : St} {H : Hp} {Q : VK} (h : tN X W g (mLc mi mt tt te vs) σ H Q) {wi : TI}
    (hwi : ∀ σ H R, tI X W g mi σ H R → wi σ H R) {gg : TG} (hgg : ∀ g' v σ H R, tG X noW g' ts mt v σ H R → gg v σ H R) {tt' : TT} (htt : ∀ g' σ H R, tT X noW g' tt σ H R → tt' σ H R) {te' : TE} (hte : ∀ g' σ H R, tE X noW g' te σ H R → te' σ H R) :
    tLc wi gg tt' te' vs σ H Q := by
  obtain ⟨S, G, r, h⟩ := h
  refine hwi σ H _ ⟨S, G, r, ?_⟩
  unfold mLc at h
  cases e1 : mi S with
  | bad => rw [e1] at h; exact h.elim
  | exc c S1 => rw [e1] at h; exact h
  | ok ds S1 =>
    rw [e1] at h
    simp only [Res.bind] at h
    intro G1 H1 J s1 r1 ok Dd nD
    split at h
    case isFalse => exact h.elim
    case isTrue hz =>
    have hsz := sizeOk_le hz
    obtain ⟨z1, z2, z3, z4⟩ := r1.hnone nD
    obtain ⟨r2, nw2⟩ := r1.newO nD (.lst [])
    have r2' := (r2.wipe vs).reserve (p := Dd) (o := .lst []) upd_same nw2.wipe
    have nwW : ∀ {G' H' : Hp} {σ' : St} {S' : Sg} {va : List V}, Rep X.K X.mg (g.res Dd (.lst va)) G' σ' H' S' → Rep X.K X.mg g G' σ' H' S' ∧ H' Dd = some (.lst va) ∧ NewAt g G' H' σ' S' Dd := fun r => r.unres z2 z1 z4
    refine ⟨fun i m H => i + m = ds.length ∧ ∃ S G xa va, Sub G1 G ∧ Rep X.K X.mg (g.res Dd (.lst va)) G (L2.wipe σ vs) H S ∧ RVs X.K X.mg G xa va ∧ xa.length ≤ i ∧
        lcL mt tt te vs ds (wipeS S1 vs) = (lcL mt tt te vs (ds.drop i) S).bind (fun xs S2 => .ok (xa ++ xs) S2),
      ⟨ds.length, by omega, wipeS S1 vs, G1, [], [], Sub.refl _, r2', .nil, Nat.zero_le _, ?_⟩, ?_⟩
    · rw [List.drop_zero]
      cases lcL mt tt te vs ds (wipeS S1 vs) <;> rfl
    rintro i m H ⟨em, S, G, xa, va, s, r, ra, hla, heq⟩
    by_cases hl : i < ds.length
    · refine .inr ⟨ok.1 i H (s.trans r.sub) hl, fun H => ∃ S G xa va, Sub G1 G ∧ Rep X.K X.mg (g.res Dd (.lst va)) G (L2.wipe σ vs) H S ∧ RVs X.K X.mg G xa va ∧ xa.length ≤ i + 1 ∧
        lcL mt tt te vs ds (wipeS S1 vs) = (lcL mt tt te vs (ds.drop (i + 1)) S).bind (fun xs S2 => .ok (xa ++ xs) S2), ?_, fun x H' y => ?_⟩
      · rintro H' ⟨S, G, xa, va, q1, q2, q3, q4, q5⟩
        exact ⟨m - 1, by omega, by omega, S, G, xa, va, q1, q2, q3, q4, q5⟩
      · obtain ⟨G2, s2, r2, rv⟩ := ok.go_rep (i := i) (d := ds[i]) s r (List.getElem?_eq_getElem hl) y
        rw [drop_cons hl] at heq
        dsimp only [lcL] at heq
        refine hgg (g.res Dd (.lst va)) _ _ _ _ ⟨S, G2, ds[i], r2, rv, ?_⟩
        cases e2 : mt ds[i] S with
        | none =>
          rw [e2] at heq
          rw [heq] at h
          exact h.elim
        | some S2 =>
          rw [e2] at heq
          simp only at heq
          intro G3 σ3 H3 s3 r3 off
          have off' : Off vs (L2.wipe σ vs) σ3 := off.mono hts
          have ew : L2.wipe σ3 vs = L2.wipe σ vs := by
            rw [off'.wipe]
            exact (Off.of_wipe (σ := σ) (vs := vs)).wipe
          refine ⟨ew, htt (g.res Dd (.lst va)) _ _ _ ⟨S2, G3, r3, ?_⟩⟩
          cases e3 : tt S2 with
          | bad => rw [e3] at heq; rw [heq] at h; exact h.elim
          | exc c S3 => rw [e3] at heq; rw [heq] at h; exact h.elim
          | ok k S3 =>
            rw [e3] at heq
            simp only [Res.nox, Res.bind] at heq
            intro G4 H4 s4 r4
            have sG : Sub G1 G4 := ((s.trans s2).trans s3).trans s4
            have sA : Sub G G4 := (s2.trans s3).trans s4
            cases k with
            | false =>
              rw [if_neg Bool.false_ne_true]
              simp only [Bool.false_eq_true, if_false] at heq
              refine ⟨wipeS S3 vs, G4, xa, va, sG, ?_, ra.mono sA, Nat.le_succ_of_le hla, heq⟩
              have := r4.wipe vs
              rw [ew] at this
              exact this
            | true =>
              rw [if_pos rfl]
              simp only [if_true] at heq
              refine hte (g.res Dd (.lst va)) _ _ _ ⟨S3, G4, r4, ?_⟩
              cases e4 : te S3 with
              | bad => rw [e4] at heq; rw [heq] at h; exact h.elim
              | exc c S5 => rw [e4] at heq; rw [heq] at h; exact h.elim
              | ok p S5 =>
                rw [e4] at heq
                simp only [Res.bind] at heq
                cases p with
                | s j => rw [heq] at h; exact h.elim
                | d xd =>
                  simp only at heq
                  intro G5 H5 yv s5 r5 rp
                  obtain ⟨r6, hD6, nw6⟩ := nwW r5
                  refine ⟨va, hD6, ?_, wipeS S5 vs, G5, xa ++ [xd], va ++ [yv], sG.trans s5, ?_, (ra.mono (sA.trans s5)).append (.cons rp .nil), ?_, ?_⟩
                  · rw [← ra.length]; omega
                  · have r7 := r6.upNew (.lst (va ++ [yv])) hD6 (.inl ⟨_, rfl⟩) nw6
                    have r8 := (r7.reserve (p := Dd) (o := .lst (va ++ [yv])) upd_same (nw6.upd nw6.o)).wipe vs
                    rw [ew] at r8
                    exact r8
                  · rw [List.length_append, List.length_singleton]; omega
                  · rw [heq]
                    cases lcL mt tt te vs (ds.drop (i + 1)) (wipeS S5 vs) with
                    | bad => rfl
                    | exc c S => rfl
                    | ok xs S => show Res.ok (xa ++ (xd :: xs)) S = Res.ok ((xa ++ [xd]) ++ xs) S; rw [List.append_assoc]; rfl
    · have ei : i = ds.length := by omega
      refine .inl ⟨ok.2.1 i H (s.trans r.sub) ei, ?_⟩
      rw [List.drop_eq_nil_of_le (by omega)] at heq
      simp only [lcL, Res.bind, List.append_nil] at heq
      rw [heq] at h
      obtain ⟨r6, hD6, nw6⟩ := nwW r
      have rb : Rep X.K X.mg g G σ H (backS S1 S vs) := r1.back s r6
      exact h G H Dd va (s1.trans s) rb hD6 ra nw6.back
/-- [e for t in it if ..] -/
theorem jn_lc {elt tg iter : Expr} {ifs : List Expr} {scope : Scope} {own : List (Str × Nat)} {pos : Pos} {mi : MI} {ts : List Nat} {mt : D → Sg → Option Sg} {tt : MT} {te : ME} (hc : X.calm = true) (hN : X.N.Nodup) (hi : JI X W tg iter mi) (ok : BlkOk X.N X.env.scope scope own)
    (hg : ∀ (s : Shared) (H : Hp) (C : Addr) (cl : List (Str × Addr)) (fp : List Addr), JG (X.blk s H scope (compEnvC scope cl C X.env) fp) noW tg ts mt) (ht : ∀ (s : Shared) (H : Hp) (C : Addr) (cl : List (Str × Addr)) (fp : List Addr), JTs (X.blk s H scope (compEnvC scope cl C X.env) fp) noW ifs tt)
    (he : ∀ (s : Shared) (H : Hp) (C : Addr) (cl : List (Str × Addr)) (fp : List Addr), JE (X.blk s H scope (compEnvC scope cl C X.env) fp) noW elt te) (hts : ∀ i ∈ ts, i ∈ own.map (·.2) := by decide) (hs : ∀ x, foldedSetIterable iter X.env x = pure x := by intro _; rfl) :
    JN X W (.ListComp elt [⟨tg, iter, ifs, 0⟩] scope pos) (mLc mi mt tt te (own.map (·.2))) := fun g => by
  refine ⟨fun pins s σ H Q I h => ?_⟩
  refine (pe_lc (wi := tI X W g mi) (g := fun v σ H R => ∃ g', tG X noW g' ts mt v σ H R) (tt := fun σ H R => ∃ g', tT X noW g' tt σ H R) (te := fun σ H R => ∃ g', tE X noW g' te σ H R) hc hN (hi g) ok ?_ ?_ ?_ hs).run pins s σ H Q I ?_
  · exact fun s H C cl fp => ⟨fun pins s σ H v u Q I r ⟨g', q⟩ => (hg _ _ _ _ _ g').run pins s σ H v u Q I r q⟩
  · exact fun s H C cl fp => ⟨fun pins s σ H Q I ⟨g', q⟩ => (ht _ _ _ _ _ g').run pins s σ H Q I q⟩
  · exact fun s H C cl fp => ⟨fun pins s σ H Q I ⟨g', q⟩ => (he _ _ _ _ _ g').run pins s σ H Q I q⟩
  · exact lc_of hts h (fun _ _ _ z => z) (fun g' _ _ _ _ z => ⟨g', z⟩) (fun g' _ _ _ z => ⟨g', z⟩) (fun g' _ _ _ z => ⟨g', z⟩)
/-- y = [..] on one line: as data -/
theorem js_setLcD {i : Nat} {y : Str} {py : Pos} {elt tg iter : Expr} {ifs : List Expr} {scope : Scope} {own : List (Str × Nat)} {pos spos : Pos} {mi : MI} {ts : List Nat} {mt : D → Sg → Option Sg} {tt : MT} {te : ME} (hc : X.calm = true) (hN : X.N.Nodup) (hi : JI X W tg iter mi) (ok : BlkOk X.N X.env.scope scope own)
    (hg : ∀ (s : Shared) (H : Hp) (C : Addr) (cl : List (Str × Addr)) (fp : List Addr), JG (X.blk s H scope (compEnvC scope cl C X.env) fp) noW tg ts mt) (ht : ∀ (s : Shared) (H : Hp) (C : Addr) (cl : List (Str × Addr)) (fp : List Addr), JTs (X.blk s H scope (compEnvC scope cl C X.env) fp) noW ifs tt)
    (he : ∀ (s : Shared) (H : Hp) (C : Addr) (cl : List (Str × Addr)) (fp : List Addr), JE (X.blk s H scope (compEnvC scope cl C X.env) fp) noW elt te) (hsw : swapsWith (.ListComp elt [⟨tg, iter, ifs, 0⟩] scope pos) (some (.Name y py)) spos.line X.env = pure true)
    (hy : X.N[i]? = some y := by rfl) (hyl : X.env.scope.names.lookup y = some .local := by rfl)
    (hts : ∀ i ∈ ts, i ∈ own.map (·.2) := by decide) (hs : ∀ x, foldedSetIterable iter X.env x = pure x := by intro _; rfl) :
    JS X W (.Assign [.Name y py] (.ListComp elt [⟨tg, iter, ifs, 0⟩] scope pos) spos) (mSet i (mDat (mLc mi mt tt te (own.map (·.2))))) := fun g => by
  refine ⟨fun pins s σ H E I h => ?_⟩
  refine (ps_setLc (i := i) (wi := tI X W g mi) (g := fun v σ H R => ∃ g', tG X noW g' ts mt v σ H R) (tt := fun σ H R => ∃ g', tT X noW g' tt σ H R) (te := fun σ H R => ∃ g', tE X noW g' te σ H R) hc hN hy hyl hsw (hi g) ok ?_ ?_ ?_ hs).run pins s σ H E I ?_
  · exact fun s H C cl fp => ⟨fun pins s σ H v u Q I r ⟨g', q⟩ => (hg _ _ _ _ _ g').run pins s σ H v u Q I r q⟩
  · exact fun s H C cl fp => ⟨fun pins s σ H Q I ⟨g', q⟩ => (ht _ _ _ _ _ g').run pins s σ H Q I q⟩
  · exact fun s H C cl fp => ⟨fun pins s σ H Q I ⟨g', q⟩ => (he _ _ _ _ _ g').run pins s σ H Q I q⟩
  · refine lc_of (W := W) hts (Q := fun x H1 => gName i x σ H1 E.nx) ?_ (fun _ _ _ z => z) (fun g' _ _ _ _ z => ⟨g', z⟩) (fun g' _ _ _ z => ⟨g', z⟩) (fun g' _ _ _ z => ⟨g', z⟩)
    obtain ⟨S, G, r, h⟩ := h
    refine ⟨S, G, r, ?_⟩
    unfold mSet mDat at h
    cases e1 : mLc mi mt tt te (own.map (·.2)) S with
    | bad => rw [e1] at h; exact h.elim
    | exc c S1 => rw [e1] at h; exact fun G1 H1 => h G1 σ H1
    | ok xs S1 =>
      rw [e1] at h
      intro G1 H1 p vs s1 r1 hp rv nw
      have sb : Sub G1 (upd G1 p (.lst vs)) := Sub.upd_new G1 nw.g0
      exact h _ _ _ (s1.trans sb) ((r1.data hp nw).setD i (.lst upd_same (rv.mono sb)))
/-- .. as a list that this def changes -/
theorem js_setLcN {i : Nat} {y : Str} {py : Pos} {elt tg iter : Expr} {ifs : List Expr} {scope : Scope} {own : List (Str × Nat)} {pos spos : Pos} {mi : MI} {ts : List Nat} {mt : D → Sg → Option Sg} {tt : MT} {te : ME} (hc : X.calm = true) (hN : X.N.Nodup) (hi : JI X W tg iter mi) (ok : BlkOk X.N X.env.scope scope own)
    (hg : ∀ (s : Shared) (H : Hp) (C : Addr) (cl : List (Str × Addr)) (fp : List Addr), JG (X.blk s H scope (compEnvC scope cl C X.env) fp) noW tg ts mt) (ht : ∀ (s : Shared) (H : Hp) (C : Addr) (cl : List (Str × Addr)) (fp : List Addr), JTs (X.blk s H scope (compEnvC scope cl C X.env) fp) noW ifs tt)
    (he : ∀ (s : Shared) (H : Hp) (C : Addr) (cl : List (Str × Addr)) (fp : List Addr), JE (X.blk s H scope (compEnvC scope cl C X.env) fp) noW elt te) (hsw : swapsWith (.ListComp elt [⟨tg, iter, ifs, 0⟩] scope pos) (some (.Name y py)) spos.line X.env = pure true)
    (hy : X.N[i]? = some y := by rfl) (hyl : X.env.scope.names.lookup y = some .local := by rfl)
    (hts : ∀ i ∈ ts, i ∈ own.map (·.2) := by decide) (hs : ∀ x, foldedSetIterable iter X.env x = pure x := by intro _; rfl) :
    JS X W (.Assign [.Name y py] (.ListComp elt [⟨tg, iter, ifs, 0⟩] scope pos) spos) (mSetN i (mLc mi mt tt te (own.map (·.2)))) := fun g => by
  refine ⟨fun pins s σ H E I h => ?_⟩
  refine (ps_setLc (i := i) (wi := tI X W g mi) (g := fun v σ H R => ∃ g', tG X noW g' ts mt v σ H R) (tt := fun σ H R => ∃ g', tT X noW g' tt σ H R) (te := fun σ H R => ∃ g', tE X noW g' te σ H R) hc hN hy hyl hsw (hi g) ok ?_ ?_ ?_ hs).run pins s σ H E I ?_
  · exact fun s H C cl fp => ⟨fun pins s σ H v u Q I r ⟨g', q⟩ => (hg _ _ _ _ _ g').run pins s σ H v u Q I r q⟩
  · exact fun s H C cl fp => ⟨fun pins s σ H Q I ⟨g', q⟩ => (ht _ _ _ _ _ g').run pins s σ H Q I q⟩
  · exact fun s H C cl fp => ⟨fun pins s σ H Q I ⟨g', q⟩ => (he _ _ _ _ _ g').run pins s σ H Q I q⟩
  · refine lc_of (W := W) hts (Q := fun x H1 => gName i x σ H1 E.nx) ?_ (fun _ _ _ z => z) (fun g' _ _ _ _ z => ⟨g', z⟩) (fun g' _ _ _ z => ⟨g', z⟩) (fun g' _ _ _ z => ⟨g', z⟩)
    obtain ⟨S, G, r, h⟩ := h
    refine ⟨S, G, r, ?_⟩
    unfold mSetN at h
    cases e1 : mLc mi mt tt te (own.map (·.2)) S with
    | bad => rw [e1] at h; exact h.elim
    | exc c S1 => rw [e1] at h; exact fun G1 H1 => h G1 σ H1
    | ok xs S1 =>
      rw [e1] at h
      intro G1 H1 p vs s1 r1 hp rv nw
      exact h _ _ _ s1 (r1.setL i hp rv nw)
end
end Mw

set_option Elab.async false
set_option linter.all false
set_option maxRecDepth 100000
/-! Mw, part H: defs and their calls. -/
namespace Mw
open PySem PySem.Spec PyProof.Rows L2
abbrev Fn := Sg → Res D
section
variable (K : PySem.W.Frag) (mg : Str → Option Value)
/-- an attribute that is lent -/
def AtA (G H : Hp) (t : At) (v : V) : Prop := match t with
  | .d x => RV K mg G x v
  | .l xs => ∃ p ws, v = .ref p ∧ H p = some (.lst ws) ∧ RVs K mg G xs ws ∧ G p = none
  | .m xs => ∃ p ws, v = .ref p ∧ H p = some (.dK ws) ∧ RVk K mg G xs ws ∧ G p = none
inductive AtsA (G H : Hp) : List (Str × At) → List (Str × V) → Prop
  | nil : AtsA G H [] []
  | cons {nm : Str} {t : At} {v : V} {fs : List (Str × At)} {vs : List (Str × V)} (h : AtA K mg G H t v) (tl : AtsA G H fs vs) : AtsA G H ((nm, t) :: fs) ((nm, v) :: vs)
/-- an argument: data, or a thing that is lent, or an object to be read -/
def ArgR (G H : Hp) (s : Sl) (v : V) : Prop := match s with
  | .d x => RV K mg G x v
  | .l true xs => ∃ a vs, v = .ref a ∧ H a = some (.lst vs) ∧ RVs K mg G xs vs ∧ G a = none
  | .m true xs => ∃ a vs, v = .ref a ∧ H a = some (.dK vs) ∧ RVk K mg G xs vs ∧ G a = none
  | .o true fs => ∃ a C dx vs, v = .ref a ∧ mg "Floor" = some (.ref C) ∧ H a = some (.ins C dx vs) ∧ AtsA K mg G H fs vs ∧ (inn fs vs).Nodup ∧ G a = none
  | .r fs => ∃ a C dx vs, v = .ref a ∧ mg "Floor" = some (.ref C) ∧ H a = some (.ins C dx vs) ∧ RasR K mg H H G fs vs
  | _ => False
/-- the object at a is lent by argument i -/
def BorAt (H : Hp) (args : Sg) (vs : List V) (i : Nat) (a : Addr) : Prop := ∃ s r, args[i]? = some s ∧ vs[i]? = some (V.ref r) ∧ Ft H s r a
/-- the object at a is lent -/
def Bor (H : Hp) (args : Sg) (vs : List V) (a : Addr) : Prop := ∃ i, BorAt H args vs i a
structure ArgsR (G H : Hp) (args : Sg) (vs : List V) : Prop where
  len : args.length = vs.length
  sub : Sub G H
  get : ∀ (i : Nat) (s : Sl), args[i]? = some s → ∃ v, vs[i]? = some v ∧ ArgR K mg G H s v
  inj : ∀ (i j : Nat) (a : Addr), BorAt H args vs i a → BorAt H args vs j a → i = j
  ro : (∃ (i : Nat) (fs : List (Str × At)), args[i]? = some (.r fs)) → ∀ a, ¬ Bor H args vs a
  tabs : LamX.Tabs (tbs K) H
  ntG : ∀ a ps, G a ≠ some (.tbl ps)
def _root_.Mw.Sl.lent : Sl → Bool
  | .l true _ => true
  | .m true _ => true
  | .o true _ => true
  | _ => false
/-- what a thing that comes back owns -/
def OutAt (H' : Hp) (args : Sg) (vs : List V) (outs : Sg) (i : Nat) (a : Addr) : Prop := ∃ s t r, args[i]? = some s ∧ s.own = true ∧ outs[i]? = some t ∧ t.lent = true ∧ vs[i]? = some (V.ref r) ∧ Ft H' t r a
/-- behind a call: what stands there now -/
structure After (G H : Hp) (args : Sg) (vs : List V) (outs : Sg) (G' H' : Hp) : Prop where
  sub : Sub G G'
  fresh : ∀ a, G' a ≠ none → G a ≠ none ∨ H a = none
  in_ : Sub G' H'
  keep : ∀ a o, H a = some o → ¬ Bor H args vs a → (∀ ps, o ≠ .tbl ps) → H' a = some o
  dom : ∀ a, H a ≠ none → H' a ≠ none
  tabs : LamX.Tabs (tbs K) H'
  ntG : ∀ a ps, G' a ≠ some (.tbl ps)
  out : ∀ (i : Nat) (s : Sl), args[i]? = some s → s.own = true → ∀ t, outs[i]? = some t → t.lent = true → ArgR K mg G' H' t (vs.getD i .non)
  own : ∀ i a, OutAt H' args vs outs i a → H a = none ∨ BorAt H args vs i a
  inj : ∀ i j a, OutAt H' args vs outs i a → OutAt H' args vs outs j a → i = j
def spF (n : Nat) (F : Fn) : Sp := fun vs H Q E => ∃ G args, args.length = n ∧ ArgsR K mg G H args vs ∧ match F args with
  | .ok x outs => ∀ G' H' v, After K mg G H args vs outs G' H' → RV K mg G' x v → Q v H'
  | .exc c outs => ∀ G' H', After K mg G H args vs outs G' H' → E (clsV mg c) none H'
  | .bad => False
end
/-- what comes back of the things that were lent -/
def outsOf : Sg → Sg → Sg
  | [], _ => []
  | a :: r, S => (if a.own then S.headD .no else .no) :: outsOf r S.tail
theorem outsOf_get : ∀ {args S : Sg} {i : Nat} {s t : Sl}, args[i]? = some s → s.own = true → (outsOf args S)[i]? = some t → S[i]? = some t ∨ t = .no
  | [], _, _, _, _, e, _, _ => by cases e
  | a :: r, S, 0, s, t, e, o, h => by
    cases e
    have h : some (if a.own then S.headD .no else .no) = some t := h
    rw [show a.own = true from o] at h
    cases S with
    | nil => exact .inr (Option.some.inj h).symm
    | cons x S => exact .inl h
  | a :: r, S, i + 1, s, t, e, o, h => by
    rcases outsOf_get (args := r) (S := S.tail) (i := i) e o h with h | h
    · cases S with
      | nil => cases h
      | cons x S => exact .inl h
    · exact .inr h
/-- a def by its body's combinator: N slots -/
def mkFn (n : Nat) (b : MS) : Fn := fun args => match b (args ++ List.replicate (n - args.length) .no) with
  | .ok (.rt x) S => .ok x (outsOf args S)
  | .ok .nx S => .ok .non (outsOf args S)
  | .exc c S => .exc c (outsOf args S)
  | _ => .bad
open Classical in
noncomputable def ghOf (G H : Hp) (args : Sg) (vs : List V) : Gh where
  G0 := G
  H0 := H
  R := fun a => if Bor H args vs a ∨ ∃ ps, H a = some (.tbl ps) then none else H a
  M := fun _ => False
  A := fun i => match vs[i]? with
    | some (.ref a) => some a
    | _ => none
  B := fun i a => BorAt H args vs i a
section
open Classical
variable {K : PySem.W.Frag} {mg : Str → Option Value} {G H : Hp} {args : Sg} {vs : List V}
theorem start_get {N : List Str} {vs : List V} {i : Nat} {v : V} (h : vs[i]? = some v) : (L2.start N vs)[i]? = some (some v) := by
  unfold L2.start
  have hi : i < vs.length := (List.getElem?_eq_some_iff.mp h).1
  rw [List.getElem?_append_left (by simpa using hi), List.getElem?_map, h]
  rfl
theorem start_out {N : List Str} {vs : List V} {i : Nat} {v : V} (h : (L2.start N vs)[i]? = some (some v)) : vs[i]? = some v := by
  unfold L2.start at h
  by_cases hi : i < vs.length
  · rw [List.getElem?_append_left (by simpa using hi), List.getElem?_map] at h
    cases e : vs[i]? with
    | none => rw [e] at h; cases h
    | some a => rw [e] at h; cases h; rfl
  · rw [List.getElem?_append_right (by simpa using hi), List.getElem?_replicate] at h
    split at h <;> cases h
theorem args_get {args : Sg} {n i : Nat} {s : Sl} (h : (args ++ List.replicate n Sl.no)[i]? = some s) : args[i]? = some s ∨ s = .no := by
  by_cases hi : i < args.length
  · rw [List.getElem?_append_left hi] at h
    exact .inl h
  · rw [List.getElem?_append_right (by omega), List.getElem?_replicate] at h
    split at h
    · exact .inr (Option.some.inj h).symm
    · cases h
theorem AtsA.start {i : Nat} {r : Addr} {fs0 : List (Str × At)} {C dx : Addr} {vs0 : List (Str × V)} (ea : args[i]? = some (.o true fs0)) (ev : vs[i]? = some (V.ref r)) (eH : H r = some (.ins C dx vs0)) : ∀ {fs : List (Str × At)} {ws : List (Str × V)}, AtsA K mg G H fs ws → (∀ a ∈ inn fs ws, a ∈ inn fs0 vs0) → AtsR K mg (ghOf G H args vs) G H i true fs ws
  | _, _, .nil, _ => .nil
  | (_, t) :: _, (_, v) :: _, .cons h tl, hh => by
    have bor : ∀ p, p ∈ inn fs0 vs0 → BorAt H args vs i p := fun p m => ⟨_, r, ea, ev, .inr ⟨C, dx, vs0, eH, m⟩⟩
    have pv : ∀ p, p ∈ inn fs0 vs0 → G p = none → Pv (ghOf G H args vs) G i true p := fun p m hg => ⟨hg, if_pos (.inl ⟨i, bor p m⟩), fun z => (by cases z), fun _ => .inr (bor p m)⟩
    cases t with
    | d x => exact .cons h (AtsA.start ea ev eH tl hh)
    | l xs =>
      obtain ⟨p, ws, rfl, h1, h2, h3⟩ := h
      exact .cons ⟨p, ws, rfl, h1, h2, pv p (hh p (List.mem_cons_self (a := p))) h3⟩ (AtsA.start ea ev eH tl fun a m => hh a (List.mem_cons_of_mem _ m))
    | m xs =>
      obtain ⟨p, ws, rfl, h1, h2, h3⟩ := h
      exact .cons ⟨p, ws, rfl, h1, h2, pv p (hh p (List.mem_cons_self (a := p))) h3⟩ (AtsA.start ea ev eH tl fun a m => hh a (List.mem_cons_of_mem _ m))
theorem AtsR.toA {g : Gh} {i : Nat} {b : Bool} : ∀ {fs : List (Str × At)} {ws : List (Str × V)}, AtsR K mg g G H i b fs ws → AtsA K mg G H fs ws
  | _, _, .nil => .nil
  | (_, t) :: _, (_, v) :: _, .cons h tl => by
    cases t with
    | d x => exact .cons h tl.toA
    | l xs =>
      obtain ⟨p, ws, rfl, h1, h2, h3, _⟩ := h
      exact .cons ⟨p, ws, rfl, h1, h2, h3⟩ tl.toA
    | m xs =>
      obtain ⟨p, ws, rfl, h1, h2, h3, _⟩ := h
      exact .cons ⟨p, ws, rfl, h1, h2, h3⟩ tl.toA
theorem rep_start {N : List Str} (A : ArgsR K mg G H args vs) (hN : args.length ≤ N.length) : Rep K mg (ghOf G H args vs) G (L2.start N vs) H (args ++ List.replicate (N.length - args.length) .no) := by
  have own : ∀ i a, OwnAt H (L2.start N vs) (args ++ List.replicate (N.length - args.length) .no) i a → BorAt H args vs i a := by
    rintro i a ⟨s, rt, e, q, f⟩
    rcases args_get e with e | rfl
    · exact ⟨s, rt, e, start_out q, f⟩
    · exact f.elim
  refine ⟨Sub.refl _, fun a h => .inl h, A.sub, fun a o e => ?_, fun a h => h.elim, fun a h => h.elim, fun a h => h, fun i s e => ?_, fun i j a h1 h2 => A.inj i j a (own i a h1) (own j a h2), ?_, A.tabs, A.ntG, fun a ps e => ?_⟩
  · have e : (if Bor H args vs a ∨ ∃ ps, H a = some (.tbl ps) then none else H a) = some o := e
    split at e
    · cases e
    · exact e
  · rcases args_get e with e | rfl
    · obtain ⟨v, ev, q⟩ := A.get i s e
      rw [start_get ev]
      have bor : ∀ a, s.own = true → v = .ref a → (ghOf G H args vs).R a = none := fun a ow ea => if_pos (.inl ⟨i, s, a, e, by rw [ev, ea], Ft.root ow⟩)
      have aa : ∀ a, v = .ref a → (ghOf G H args vs).A i = some a := fun a ea => by
        subst ea
        show (match vs[i]? with | some (.ref a) => some a | _ => none) = some a
        rw [ev]
      cases s with
      | no => trivial
      | v a => exact q.elim
      | d x => exact ⟨v, rfl, q⟩
      | l b xs =>
        cases b with
        | false => exact q.elim
        | true =>
          obtain ⟨a, ws, rfl, q1, q2, q3⟩ := q
          exact ⟨a, ws, rfl, q1, q2, q3, bor a rfl rfl, fun z => (by cases z), fun _ => aa a rfl⟩
      | m b xs =>
        cases b with
        | false => exact q.elim
        | true =>
          obtain ⟨a, ws, rfl, q1, q2, q3⟩ := q
          exact ⟨a, ws, rfl, q1, q2, q3, bor a rfl rfl, fun z => (by cases z), fun _ => aa a rfl⟩
      | o b fs =>
        cases b with
        | false => exact q.elim
        | true =>
          obtain ⟨a, C, dx, ws, rfl, em, q1, q2, nd, q3⟩ := q
          exact ⟨a, C, dx, ws, rfl, em, q1, q2.start e ev q1 fun _ m => m, nd, q3, bor a rfl rfl, fun z => (by cases z), fun _ => aa a rfl⟩
      | r fs =>
        obtain ⟨a, C, dx, ws, rfl, em, q1, q2⟩ := q
        have nb := A.ro ⟨i, fs, e⟩
        have nt : ∀ b, H b ≠ none → (∀ ps, H b ≠ some (.tbl ps)) → (ghOf G H args vs).R b = H b := fun b _ h => if_neg (fun z => z.elim (nb b) fun ⟨ps, w⟩ => h ps w)
        refine ⟨a, C, dx, ws, rfl, em, (nt a (by rw [q1]; intro z; cases z) (fun ps => by rw [q1]; intro z; cases z)).trans q1, ?_⟩
        have key : ∀ {fs : List (Str × At)} {ws : List (Str × V)}, RasR K mg H H G fs ws → RasR K mg (ghOf G H args vs).R (ghOf G H args vs).H0 G fs ws := by
          intro fs ws h
          induction h with
          | nil => exact .nil
          | @cons nm t v fs ws h tl ih =>
            refine .cons ?_ ih
            cases t with
            | d x => exact h
            | l xs =>
              obtain ⟨p, us, e, h1, h2, h3⟩ := h
              exact ⟨p, us, e, (nt p h3 (fun ps => by rw [h1]; intro z; cases z)).trans h1, h2, h3⟩
            | m xs =>
              obtain ⟨p, us, e, h1, h2, h3⟩ := h
              exact ⟨p, us, e, h1.imp (fun z => (nt p h3 (fun ps => by rw [z]; intro z; cases z)).trans z) id, h2, h3⟩
        exact ⟨key q2, by show H a ≠ none; rw [q1]; intro z; cases z⟩
      | t xss => exact q.elim
    · trivial
  · unfold L2.start
    have := A.len
    rw [List.length_append, List.length_append, List.length_replicate, List.length_replicate, List.length_map]
    omega
  · have e : (if Bor H args vs a ∨ ∃ ps, H a = some (.tbl ps) then none else H a) = some (.tbl ps) := e
    split at e
    · cases e
    · rename_i hn
      exact hn (.inr ⟨ps, e⟩)
theorem rep_after {G' H' : Hp} {σ' : St} {S' : Sg} (A : ArgsR K mg G H args vs) (r : Rep K mg (ghOf G H args vs) G' σ' H' S') : After K mg G H args vs (outsOf args S') G' H' := by
  have ga : ∀ (i : Nat) (a : Addr), (ghOf G H args vs).A i = some a → vs[i]? = some (V.ref a) := fun i a ea => by
    have ea : (match vs[i]? with | some (.ref a) => some a | _ => none) = some a := ea
    cases ev : vs[i]? with
    | none => rw [ev] at ea; cases ea
    | some v =>
      rw [ev] at ea
      cases v with
      | ref b => cases ea; rfl
      | _ => cases ea
  -- what comes back stands at its slot, at the same root
  have back : ∀ (i : Nat) (t : Sl), S'[i]? = some t → t.lent = true → ∃ a, σ'[i]? = some (some (V.ref a)) ∧ vs[i]? = some (V.ref a) := fun i t et lt => by
    have q := r.sl i t et
    cases t with
    | l b xs =>
      cases b with
      | false => cases lt
      | true =>
        obtain ⟨a, ws, q1, _, _, _, _, _, q7⟩ := q
        exact ⟨a, q1, ga i a (q7 rfl)⟩
    | m b xs =>
      cases b with
      | false => cases lt
      | true =>
        obtain ⟨a, ws, q1, _, _, _, _, _, q7⟩ := q
        exact ⟨a, q1, ga i a (q7 rfl)⟩
    | o b fs =>
      cases b with
      | false => cases lt
      | true =>
        obtain ⟨a, C, dx, ws, q1, _, _, _, _, _, _, _, q7⟩ := q
        exact ⟨a, q1, ga i a (q7 rfl)⟩
    | _ => cases lt
  have out : ∀ i a, OutAt H' args vs (outsOf args S') i a → OwnAt H' σ' S' i a ∧ (∃ (t : Sl) (rt : Addr), S'[i]? = some t ∧ t.lent = true ∧ σ'[i]? = some (some (V.ref rt)) ∧ Ft H' t rt a ∧ BorAt H args vs i rt) := fun i a ⟨s, t, rt, es, ow, et, lt, ev, f⟩ => by
    rcases outsOf_get es ow et with et | rfl
    case inr => cases lt
    obtain ⟨a', q1, q2⟩ := back i t et lt
    rw [ev] at q2
    cases q2
    exact ⟨⟨t, rt, et, q1, f⟩, t, rt, et, lt, q1, f, s, rt, es, ev, Ft.root ow⟩
  refine ⟨r.g0, r.fresh, r.sub, fun a o e nb nt => r.keep a o ?_, r.dom, r.tabs, r.ntG, fun i s e ow t et0 lt => ?_, fun i a h => ?_, fun i j a h1 h2 => r.inj i j a (out i a h1).1 (out j a h2).1⟩
  · show (if Bor H args vs a ∨ ∃ ps, H a = some (.tbl ps) then none else H a) = some o
    rw [if_neg (fun z => z.elim nb fun ⟨ps, q⟩ => nt ps (by rw [e] at q; exact Option.some.inj q))]
    exact e
  · rcases outsOf_get e ow et0 with et | rfl
    case inr => cases lt
    have q := r.sl i t et
    obtain ⟨a0, b1, b2⟩ := back i t et lt
    have egd : vs.getD i .non = .ref a0 := by rw [List.getD_eq_getElem?_getD, b2]; rfl
    rw [egd]
    cases t with
    | l b xs =>
      cases b with
      | false => cases lt
      | true =>
        obtain ⟨a, ws, q1, q2, q3, q4, _⟩ := q
        rw [b1] at q1
        cases q1
        exact ⟨_, ws, rfl, q2, q3, q4⟩
    | m b xs =>
      cases b with
      | false => cases lt
      | true =>
        obtain ⟨a, ws, q1, q2, q3, q4, _⟩ := q
        rw [b1] at q1
        cases q1
        exact ⟨_, ws, rfl, q2, q3, q4⟩
    | o b fs =>
      cases b with
      | false => cases lt
      | true =>
        obtain ⟨a, C, dx, ws, q1, em, q2, q3, nd, q4, _⟩ := q
        rw [b1] at q1
        cases q1
        exact ⟨_, C, dx, ws, rfl, em, q2, q3.toA, nd, q4⟩
    | _ => cases lt
  · obtain ⟨_, t, rt, et, lt, q, f, bo⟩ := out i a h
    have z := r.sl i t et
    cases t with
    | l b xs => cases (show a = _ from f); exact .inr bo
    | m b xs => cases (show a = _ from f); exact .inr bo
    | o b fs =>
      cases b with
      | false => cases lt
      | true =>
        obtain ⟨a', C, dx, ws, q1, em, q2, q3, _⟩ := z
        rw [q] at q1
        cases q1
        rcases f with rfl | ⟨C', dx', ws', q4, m⟩
        · exact .inr bo
        · rw [q2] at q4
          cases q4
          exact (q3.inn m).2.2.2.2 rfl
    | _ => cases lt
end
/-- THE RULE: a def keeps the promise of its combinator -/
theorem fn_ok {P : Program} {w : World} {K : PySem.W.Frag} {mg : Str → Option Value} {base : Heap} {x qual : Str} {params : Arguments} {body : List Stmt} {scope : Scope} {dvs : List V} {kws : List (Str × V)} {f : Addr} {fd : FuncData} {k : Nat} {N ps : List Str} {b : MS}
    (F : FunD K x qual params body scope dvs kws f fd) (Sc : FnScope N ps scope)
    (hb : ∀ (cdv : Value) (A : Around) (outer : List Env) (s : Shared) (H : Hp) (E : XK), (∃ oc od osl, K.lookup f = some ⟨oc, od, .func fd, osl⟩ ∧ fd.code = cdv ∧ PySem.W.codeIn K cdv qual = true) → Room k (A.deeper (envOfC qual scope s.heap.objs.size f cdv)) →
      JSs (cxOf (L2N.CX P w) P w K mg base N qual scope f cdv A outer s H E) (fun cls d _ H => E cls d H) body b) :
    FnOk P w K mg base (L2N.CX P w) (k + 1) f fd ps (spF K mg ps.length (mkFn N.length b)) := by
  have hpl : ps.length ≤ N.length := by have := congrArg List.length Sc.pre; rw [List.length_take] at this; omega
  obtain ⟨oc, od, dV, kV, doc, pm, an, cdv, ct, osl, efd, lk, hcd, _, _⟩ := F.ex
  subst efd
  refine fn_of lk hcd Sc (fun vs H Q E h => ?_) (fun A outer s H vs Q E hr h => ?_)
  · obtain ⟨G, args, e, ar, _⟩ := h
    rw [← ar.len, e]
  · obtain ⟨G, args, e, ar, h⟩ := h
    have r0 := rep_start (N := N) ar (by rw [e]; exact hpl)
    refine ⟨_, hb cdv A outer s H E ⟨oc, od, osl, lk, rfl, hcd⟩ hr (ghOf G H args vs), _, G, r0, ?_⟩
    unfold mkFn at h
    cases e1 : b (args ++ List.replicate (N.length - args.length) .no) with
    | bad => rw [e1] at h; exact h.elim
    | exc c S => rw [e1] at h; exact fun G' σ' H' s r => h G' H' (rep_after ar r)
    | ok fl S =>
      rw [e1] at h
      cases fl with
      | nx => exact fun G' σ' H' s r => h G' H' _ (rep_after ar r) .non
      | rt y => exact fun G' σ' H' v s r rv => h G' H' v (rep_after ar r) rv
      | bk => exact h.elim
      | ct => exact h.elim

/-! ### calls -/
def argOf (S : Sg) : P → Option Sl
  | .d x => some (.d x)
  | .s i => match S[i]? with
    | some (.l _ xs) => some (.l true xs)
    | some (.m _ xs) => some (.m true xs)
    | some (.o _ fs) => some (.o true fs)
    | _ => none
def argsOf (S : Sg) : List P → Option Sg
  | [] => some []
  | p :: r => match argOf S p, argsOf S r with
    | some a, some b => some (a :: b)
    | _, _ => none
def idxs : List P → List Nat
  | [] => []
  | .d _ :: r => idxs r
  | .s i :: r => i :: idxs r
def putO (s t : Sl) : Option Sl := match s, t with
  | .l b _, .l true ys => some (.l b ys)
  | .m b _, .m true ys => some (.m b ys)
  | .o b _, .o true ys => some (.o b ys)
  | _, _ => none
def putB (S : Sg) : List P → Sg → Option Sg
  | [], _ => some S
  | .d _ :: r, os => putB S r os.tail
  | .s i :: r, os => match S[i]?, os with
    | some s, o :: os => match putO s o with
      | some t => putB (S.set i t) r os
      | none => none
    | _, _ => none
def mCall (F : Fn) (a : MA) : ME := fun S => (a S).bind fun ps S1 => match argsOf S1 ps with
  | none => .bad
  | some args => if decide (idxs ps).Nodup then match F args with
      | .ok x outs => match putB S1 ps outs with
        | some S2 => .ok (.d x) S2
        | none => .bad
      | .exc c outs => match putB S1 ps outs with
        | some S2 => .exc c S2
        | none => .bad
      | .bad => .bad
    else .bad
section
variable {K : PySem.W.Frag} {mg : Str → Option Value} {g : Gh} {G H : Hp} {σ : St} {S : Sg}
theorem argsOf_get : ∀ {ps : List P} {args : Sg}, argsOf S ps = some args → args.length = ps.length ∧ ∀ (i : Nat) s, args[i]? = some s → ∃ p, ps[i]? = some p ∧ argOf S p = some s
  | [], _, e => by cases e; exact ⟨rfl, fun i s h => by cases h⟩
  | p :: r, _, e => by
    unfold argsOf at e
    split at e
    · rename_i a b e1 e2
      cases e
      obtain ⟨h1, h2⟩ := argsOf_get e2
      refine ⟨by rw [List.length_cons, List.length_cons, h1], fun i s h => ?_⟩
      cases i with
      | zero => cases h; exact ⟨p, rfl, e1⟩
      | succ i => exact h2 i s h
    · cases e
theorem RPs.get : ∀ {ps : List P} {vs : List V} {i : Nat} {p : P}, RPs K mg G σ ps vs → ps[i]? = some p → ∃ v, vs[i]? = some v ∧ RP K mg G σ p v
  | _, _, _, _, .nil, e => by cases e
  | _, _, 0, _, .cons h _, e => by cases e; exact ⟨_, rfl, h⟩
  | _, _, i + 1, _, .cons _ t, e => RPs.get (i := i) t e
theorem RPs.length : ∀ {ps : List P} {vs : List V}, RPs K mg G σ ps vs → ps.length = vs.length
  | _, _, .nil => rfl
  | _, _, .cons _ t => by rw [List.length_cons, List.length_cons, t.length]
theorem idxs_mem : ∀ {ps : List P} {i k : Nat}, ps[i]? = some (.s k) → k ∈ idxs ps
  | [], _, _, e => by cases e
  | .d x :: r, 0, _, e => by cases e
  | .s j :: r, 0, _, e => by cases e; exact List.mem_cons_self
  | .d x :: r, i + 1, _, e => idxs_mem (ps := r) (i := i) e
  | .s j :: r, i + 1, _, e => List.mem_cons_of_mem _ (idxs_mem (ps := r) (i := i) e)
theorem idxs_inj : ∀ {ps : List P} {i j k : Nat}, (idxs ps).Nodup → ps[i]? = some (.s k) → ps[j]? = some (.s k) → i = j
  | [], _, _, _, _, e, _ => by cases e
  | p :: r, 0, 0, _, _, _, _ => rfl
  | p :: r, 0, j + 1, k, nd, e1, e2 => by
    cases e1
    exact absurd (idxs_mem (ps := r) (i := j) e2) (List.nodup_cons.mp nd).1
  | p :: r, i + 1, 0, k, nd, e1, e2 => by
    cases e2
    exact absurd (idxs_mem (ps := r) (i := i) e1) (List.nodup_cons.mp nd).1
  | .d x :: r, i + 1, j + 1, k, nd, e1, e2 => by rw [idxs_inj (ps := r) nd e1 e2]
  | .s x :: r, i + 1, j + 1, k, nd, e1, e2 => by rw [idxs_inj (ps := r) (List.nodup_cons.mp nd).2 e1 e2]
theorem argOf_own {k : Nat} {s : Sl} (e : argOf S (.s k) = some s) : ∃ t, S[k]? = some t ∧ t.own = true ∧ s.own = true ∧ ∀ r a, Ft H s r a → Ft H t r a := by
  dsimp only [argOf] at e
  split at e
  · rename_i b xs q; cases e; exact ⟨_, q, rfl, rfl, fun _ _ h => h⟩
  · rename_i b xs q; cases e; exact ⟨_, q, rfl, rfl, fun _ _ h => h⟩
  · rename_i b xs q; cases e; exact ⟨_, q, rfl, rfl, fun _ _ h => h⟩
  · cases e
theorem argOf_d {x : D} {s : Sl} (e : argOf S (.d x) = some s) : s = .d x := by cases e; rfl
/-- a lent thing is a slot's own -/
theorem bor_own {ps : List P} {args : Sg} {vs : List V} (e : argsOf S ps = some args) (rp : RPs K mg G σ ps vs) {i : Nat} {a : Addr} (h : BorAt H args vs i a) : ∃ k, ps[i]? = some (P.s k) ∧ OwnAt H σ S k a := by
  obtain ⟨hl, hg⟩ := argsOf_get e
  obtain ⟨s, rt, es, ev, f⟩ := h
  obtain ⟨p, ep, ea⟩ := hg i s es
  cases p with
  | d x => rw [argOf_d ea] at f; exact f.elim
  | s k =>
    obtain ⟨t, x1, x2, _, x3⟩ := argOf_own (H := H) ea
    obtain ⟨v, ev', q⟩ := rp.get ep
    rw [ev] at ev'; cases ev'
    exact ⟨k, ep, t, rt, x1, q, x3 _ _ f⟩
theorem args_rep {ps : List P} {args : Sg} {vs : List V} (r : Rep K mg g G σ H S) (e : argsOf S ps = some args) (rp : RPs K mg G σ ps vs) (nd : (idxs ps).Nodup) : ArgsR K mg G H args vs := by
  obtain ⟨hl, hg⟩ := argsOf_get e
  refine ⟨hl.trans rp.length, r.sub, fun i s es => ?_, fun i j a h1 h2 => ?_, fun ⟨i, fs, es⟩ => ?_, r.tabs, r.ntG⟩
  · obtain ⟨p, ep, ea⟩ := hg i s es
    obtain ⟨v, ev, q⟩ := rp.get ep
    refine ⟨v, ev, ?_⟩
    cases p with
    | d x => rw [argOf_d ea]; exact q
    | s k =>
      dsimp only [argOf] at ea
      split at ea
      · rename_i b xs qs
        cases ea
        obtain ⟨a, ws, e1, e2, e3, e4, _⟩ := r.lAt qs
        have z : some (some v) = some (some (V.ref a)) := (show σ[k]? = _ from q).symm.trans e1
        cases z
        exact ⟨a, ws, rfl, e2, e3, e4⟩
      · rename_i b xs qs
        cases ea
        obtain ⟨a, ws, e1, e2, e3, e4, _⟩ := r.mAt qs
        have z : some (some v) = some (some (V.ref a)) := (show σ[k]? = _ from q).symm.trans e1
        cases z
        exact ⟨a, ws, rfl, e2, e3, e4⟩
      · rename_i b xs qs
        cases ea
        obtain ⟨a, C, dx, ws, e1, em, e2, e3, nd, e4, _⟩ := r.sl k _ qs
        have z : some (some v) = some (some (V.ref a)) := (show σ[k]? = _ from q).symm.trans e1
        cases z
        exact ⟨a, C, dx, ws, rfl, em, e2, e3.toA, nd, e4⟩
      · cases ea
  · obtain ⟨k, ep, o1⟩ := bor_own e rp h1
    obtain ⟨k', ep', o2⟩ := bor_own e rp h2
    have hk : k = k' := r.inj k k' a o1 o2
    subst hk
    exact idxs_inj nd ep ep'
  · obtain ⟨p, ep, ea⟩ := hg i _ es
    cases p with
    | d x => cases ea
    | s k =>
      dsimp only [argOf] at ea
      split at ea <;> cases ea
theorem putB_get : ∀ {ps : List P} {outs : Sg} {S S2 : Sg}, (idxs ps).Nodup → putB S ps outs = some S2 → S2.length = S.length ∧ ∀ (j : Nat) t, S2[j]? = some t →
    (S[j]? = some t ∧ j ∉ idxs ps) ∨ ∃ (i : Nat) (s o : Sl), ps[i]? = some (.s j) ∧ S[j]? = some s ∧ outs[i]? = some o ∧ putO s o = some t
  | [], outs, S, S2, _, e => by
    have e : some S = some S2 := by cases outs <;> exact e
    cases e
    exact ⟨rfl, fun j t h => .inl ⟨h, by simp [idxs]⟩⟩
  | .d x :: r, os, S, S2, nd, e => by
    obtain ⟨h1, h2⟩ := putB_get (ps := r) nd (show putB S r os.tail = some S2 from e)
    refine ⟨h1, fun j t h => ?_⟩
    rcases h2 j t h with h | ⟨i, s, o', a1, a2, a3, a4⟩
    · exact .inl h
    · refine .inr ⟨i + 1, s, o', a1, a2, ?_, a4⟩
      cases os with
      | nil => cases a3
      | cons o os => exact a3
  | .s k :: r, [], S, S2, nd, e => by
    dsimp only [putB] at e
    split at e
    · rename_i h; cases h
    · cases e
  | .s k :: r, o :: os, S, S2, nd, e => by
    dsimp only [putB] at e
    split at e
    · rename_i s o1 os1 es eo
      cases eo
      split at e
      · rename_i t et
        obtain ⟨nk, nd'⟩ := List.nodup_cons.mp nd
        obtain ⟨h1, h2⟩ := putB_get (ps := r) nd' e
        refine ⟨by rw [h1, List.length_set], fun j u h => ?_⟩
        rcases h2 j u h with ⟨h, hn⟩ | ⟨i, s', o', a1, a2, a3, a4⟩
        · rcases get_set h with ⟨rfl, rfl, _⟩ | ⟨hj, h⟩
          · exact .inr ⟨0, s, o, rfl, es, rfl, et⟩
          · exact .inl ⟨h, by show j ∉ k :: idxs r; simp only [List.mem_cons, not_or]; exact ⟨Ne.symm hj, hn⟩⟩
        · refine .inr ⟨i + 1, s', o', a1, ?_, a3, a4⟩
          rcases get_set a2 with ⟨rfl, _, _⟩ | ⟨_, h⟩
          · exact absurd (idxs_mem (ps := r) (i := i) a1) nk
          · exact h
      · cases e
    · cases e
theorem putO_own {s o t : Sl} (h : putO s o = some t) : s.own = true ∧ t.own = true ∧ o.lent = true ∧ ∀ (H : Hp) r a, Ft H t r a ↔ Ft H o r a := by
  unfold putO at h
  split at h
  · cases h; exact ⟨rfl, rfl, rfl, fun _ _ _ => Iff.rfl⟩
  · cases h; exact ⟨rfl, rfl, rfl, fun _ _ _ => Iff.rfl⟩
  · cases h; exact ⟨rfl, rfl, rfl, fun _ _ _ => Iff.rfl⟩
  · cases h
theorem AtsA.own {i : Nat} {b : Bool} : ∀ {fs : List (Str × At)} {ws : List (Str × V)}, AtsA K mg G H fs ws → (∀ a ∈ inn fs ws, Pv g G i b a) → AtsR K mg g G H i b fs ws
  | _, _, .nil, _ => .nil
  | (_, t) :: _, (_, v) :: _, .cons h tl, hh => by
    cases t with
    | d x => exact .cons h (tl.own hh)
    | l xs =>
      obtain ⟨p, ws, rfl, h1, h2, h3⟩ := h
      exact .cons ⟨p, ws, rfl, h1, h2, hh p (List.mem_cons_self (a := p))⟩ (tl.own fun a m => hh a (List.mem_cons_of_mem _ m))
    | m xs =>
      obtain ⟨p, ws, rfl, h1, h2, h3⟩ := h
      exact .cons ⟨p, ws, rfl, h1, h2, hh p (List.mem_cons_self (a := p))⟩ (tl.own fun a m => hh a (List.mem_cons_of_mem _ m))
theorem AtsA.lst : ∀ {fs : List (Str × At)} {ws : List (Str × V)}, AtsA K mg G H fs ws → ∀ a ∈ inn fs ws, ∃ o, H a = some o ∧ ((∃ us, o = .lst us) ∨ ∃ us, o = .dK us)
  | _, _, .nil, _, m => by cases m
  | (_, t) :: _, (_, v) :: _, .cons h tl, a, m => by
    cases t with
    | d x => exact tl.lst a m
    | l xs =>
      obtain ⟨p, ws, rfl, h1, h2, h3⟩ := h
      rcases List.mem_cons.mp (show a ∈ p :: inn _ _ from m) with rfl | m
      · exact ⟨_, h1, .inl ⟨_, rfl⟩⟩
      · exact tl.lst a m
    | m xs =>
      obtain ⟨p, ws, rfl, h1, h2, h3⟩ := h
      rcases List.mem_cons.mp (show a ∈ p :: inn _ _ from m) with rfl | m
      · exact ⟨_, h1, .inr ⟨_, rfl⟩⟩
      · exact tl.lst a m
theorem AtsA.none : ∀ {fs : List (Str × At)} {ws : List (Str × V)}, AtsA K mg G H fs ws → ∀ a ∈ inn fs ws, G a = Option.none
  | _, _, .nil, _, m => by cases m
  | (_, t) :: _, (_, v) :: _, .cons h tl, a, m => by
    cases t with
    | d x => exact tl.none a m
    | l xs =>
      obtain ⟨p, ws, rfl, h1, h2, h3⟩ := h
      rcases List.mem_cons.mp (show a ∈ p :: inn _ _ from m) with rfl | m
      · exact h3
      · exact tl.none a m
    | m xs =>
      obtain ⟨p, ws, rfl, h1, h2, h3⟩ := h
      rcases List.mem_cons.mp (show a ∈ p :: inn _ _ from m) with rfl | m
      · exact h3
      · exact tl.none a m
theorem rep_call {ps : List P} {args outs S2 : Sg} {vs : List V} {G' H' : Hp} (r : Rep K mg g G σ H S) (e : argsOf S ps = some args) (rp : RPs K mg G σ ps vs) (nd : (idxs ps).Nodup) (eb : putB S ps outs = some S2) (A : After K mg G H args vs outs G' H') :
    Rep K mg g G' σ H' S2 := by
  obtain ⟨hl, hg⟩ := putB_get nd eb
  obtain ⟨al, ag⟩ := argsOf_get e
  have gnone : ∀ a, G a = none → H a ≠ none → G' a = none := fun a h1 h2 => by
    cases q : G' a with
    | none => rfl
    | some o =>
      rcases A.fresh a (by rw [q]; intro z; cases z) with z | z
      · exact absurd h1 z
      · exact absurd z h2
  have bor : ∀ a, Bor H args vs a → ∃ i k, ps[i]? = some (P.s k) ∧ OwnAt H σ S k a := fun a ⟨i, h⟩ => by
    obtain ⟨k, ep, o⟩ := bor_own e rp h
    exact ⟨i, k, ep, o⟩
  -- what is owned and not lent stays
  have stay : ∀ j a, OwnAt H σ S j a → j ∉ idxs ps → ¬ Bor H args vs a ∧ H' a = H a := fun j a o hn => by
    have nb : ¬ Bor H args vs a := fun z => by
      obtain ⟨i, k, ep, o2⟩ := bor a z
      have hk : j = k := r.inj j k a o o2
      subst hk
      exact hn (idxs_mem ep)
    refine ⟨nb, ?_⟩
    obtain ⟨v, hv, ld⟩ := r.ownL o
    rw [hv]
    exact A.keep a v hv nb ld.nt
  -- what a slot owns then
  have cls : ∀ j a, OwnAt H' σ S2 j a → (OwnAt H σ S j a ∧ j ∉ idxs ps) ∨ ∃ i, ps[i]? = some (P.s j) ∧ OutAt H' args vs outs i a := fun j a ⟨t, rt, et, q, f⟩ => by
    rcases hg j t et with ⟨h, hn⟩ | ⟨i, s, o, a1, a2, a3, a4⟩
    · have ow := OwnAt.rt (H := H) h f.own q
      exact .inl ⟨⟨t, rt, h, q, f.of_eq (stay j rt ow hn).2⟩, hn⟩
    · obtain ⟨o1, o2, o3, o4⟩ := putO_own a4
      obtain ⟨v, ev, qv⟩ := rp.get a1
      have z : some (some v) = some (some (V.ref rt)) := (show σ[j]? = _ from qv).symm.trans q
      cases z
      have hi : i < args.length := by rw [al]; exact (List.getElem?_eq_some_iff.mp a1).1
      obtain ⟨p, ep, ea⟩ := ag i args[i] (List.getElem?_eq_getElem hi)
      rw [a1] at ep; cases ep
      obtain ⟨_, _, _, aow, _⟩ := argOf_own (H := H) ea
      exact .inr ⟨i, a1, args[i], o, rt, List.getElem?_eq_getElem hi, aow, a3, o3, ev, (o4 H' rt a).mp f⟩
  refine ⟨r.g0.trans A.sub, fun a h => ?_, A.in_, fun a o h => A.keep a o (r.keep a o h) (fun z => ?_) (fun ps z => r.ntR a ps (by rw [h, z])), fun a h => ?_, r.rm, fun a h => A.dom a (r.dom a h), fun j t et => ?_, fun i j a h1 h2 => ?_, hl.trans r.len, A.tabs, A.ntG, r.ntR⟩
  · rcases A.fresh a h with z | z
    · exact r.fresh a z
    · exact .inr (r.hnone z).1
  · obtain ⟨i, k, _, q⟩ := bor a z
    rw [(r.ownH q).2.2] at h
    cases h
  · refine gnone a (r.nof a h) fun z => r.rm a h (r.keep.non z)
  · rcases hg j t et with ⟨h, hn⟩ | ⟨i, s, o, a1, a2, a3, a4⟩
    · refine (r.sl j t h).mono A.sub fun rt a oa f => ?_
      have ow : OwnAt H σ S j a := ⟨t, rt, h, oa, f⟩
      have q := r.ownH ow
      exact ⟨(stay j a ow hn).2, by rw [q.2.1]; exact gnone a q.2.1 q.1⟩
    · obtain ⟨v, ev, qv⟩ := rp.get a1
      have hi : i < args.length := by rw [al]; exact (List.getElem?_eq_some_iff.mp a1).1
      obtain ⟨p, ep, ea⟩ := ag i args[i] (List.getElem?_eq_getElem hi)
      rw [a1] at ep; cases ep
      obtain ⟨_, _, _, aow, _⟩ := argOf_own (H := H) ea
      have o3 := (putO_own a4).2.2.1
      have ro := A.out i args[i] (List.getElem?_eq_getElem hi) aow o a3 o3
      have egd : vs.getD i .non = v := by rw [List.getD_eq_getElem?_getD, ev]; rfl
      rw [egd] at ro
      unfold putO at a4
      split at a4
      · rename_i b xs ys
        cases a4
        obtain ⟨a, ws, z1, z2, z3, z4, z5, z6, z7⟩ := r.lAt a2
        have zz : some (some v) = some (some (V.ref a)) := (show σ[j]? = _ from qv).symm.trans z1
        cases zz
        obtain ⟨a', ws', e1, e2, e3, e4⟩ := ro
        cases e1
        exact ⟨a, ws', z1, e2, e3, e4, z5, z6, z7⟩
      · rename_i b xs ys
        cases a4
        obtain ⟨a, ws, z1, z2, z3, z4, z5, z6, z7⟩ := r.mAt a2
        have zz : some (some v) = some (some (V.ref a)) := (show σ[j]? = _ from qv).symm.trans z1
        cases zz
        obtain ⟨a', ws', e1, e2, e3, e4⟩ := ro
        cases e1
        exact ⟨a, ws', z1, e2, e3, e4, z5, z6, z7⟩
      · rename_i b xs ys
        cases a4
        obtain ⟨a, C, dx, ws, z1, em, z2, z3, nd0, z4, z5, z6, z7⟩ := r.sl j _ a2
        have zz : some (some v) = some (some (V.ref a)) := (show σ[j]? = _ from qv).symm.trans z1
        cases zz
        obtain ⟨a', C', dx', ws', e1, em', e2, e3, nd', e4⟩ := ro
        cases e1
        have pv : ∀ p ∈ inn ys ws', Pv g G' j b p := fun p m => by
          have oo : OutAt H' args vs outs i p := ⟨args[i], .o true ys, a, List.getElem?_eq_getElem hi, aow, a3, rfl, ev, .inr ⟨C', dx', ws', e2, m⟩⟩
          rcases A.own i p oo with hn | hb
          · obtain ⟨w1, w2, w3, _⟩ := r.hnone hn
            exact ⟨e3.none p m, w2, fun _ => w1, fun _ => .inl w1⟩
          · obtain ⟨k, ek, s0, rt, es, er, f⟩ := bor_own e rp hb
            rw [a1] at ek
            cases ek
            rw [a2] at es
            cases es
            rw [z1] at er
            cases er
            rcases f with rfl | ⟨C2, dx2, ws2, e5, m2⟩
            · -- the root is no attribute
              obtain ⟨o5, h5, h6⟩ := e3.lst p m
              rw [e2] at h5
              cases h5
              rcases h6 with ⟨_, h6⟩ | ⟨_, h6⟩ <;> cases h6
            · rw [z2] at e5
              cases e5
              have w := z3.inn m2
              exact ⟨e3.none p m, w.2.2.1, w.2.2.2.1, w.2.2.2.2⟩
        exact ⟨a, C', dx', ws', z1, em', e2, e3.own pv, nd', e4, z5, z6, z7⟩
      · cases a4
  · rcases cls i a h1 with ⟨o1, n1⟩ | ⟨i1, p1, o1⟩
    · rcases cls j a h2 with ⟨o2, n2⟩ | ⟨i2, p2, o2⟩
      · exact r.inj i j a o1 o2
      · rcases A.own i2 a o2 with hn | hb
        · exact absurd hn (r.ownH o1).1
        · exact absurd ⟨i2, hb⟩ (stay i a o1 n1).1
    · rcases cls j a h2 with ⟨o2, n2⟩ | ⟨i2, p2, o2⟩
      · rcases A.own i1 a o1 with hn | hb
        · exact absurd hn (r.ownH o2).1
        · exact absurd ⟨i1, hb⟩ (stay j a o2 n2).1
      · have := A.inj i1 i2 a o1 o2
        subst this
        rw [p1] at p2
        cases p2
        rfl
end
section
variable {X : Cx} {W : WX}
theorem call_of {F : Fn} {a : MA} {n : Nat} {g : Gh} {σ : St} {H : Hp} {Q : VK} (hn : ∀ S ps S1, a S = .ok ps S1 → ps.length = n) (h : tE X W g (mCall F a) σ H Q) : tCallSD (spF X.K X.mg n F) [] (WE W) (tA X W g a) σ H Q := by
  obtain ⟨S, G, r, h⟩ := h
  refine ⟨S, G, r, ?_⟩
  unfold mCall at h
  cases e1 : a S with
  | bad => rw [e1] at h; exact h.elim
  | exc c S1 => rw [e1] at h; exact h
  | ok ps S1 =>
    rw [e1] at h
    simp only [Res.bind] at h
    intro G1 H1 vs s1 r1 rps
    rw [List.append_nil]
    cases e2 : argsOf S1 ps with
    | none => rw [e2] at h; exact h.elim
    | some args =>
      rw [e2] at h
      simp only at h
      split at h
      · rename_i nd
        have nd := of_decide_eq_true nd
        refine ⟨G1, args, ((argsOf_get e2).1).trans (hn S ps S1 e1), args_rep r1 e2 rps nd, ?_⟩
        cases e3 : F args with
        | bad => rw [e3] at h; exact h.elim
        | ok x outs =>
          rw [e3] at h
          simp only at h
          intro G2 H2 v af rv
          cases e4 : putB S1 ps outs with
          | none => rw [e4] at h; exact h.elim
          | some S2 =>
            rw [e4] at h
            exact h G2 H2 v (s1.trans af.sub) (rep_call r1 e2 rps nd e4 af) rv
        | exc c outs =>
          rw [e3] at h
          simp only at h
          intro G2 H2 af
          cases e4 : putB S1 ps outs with
          | none => rw [e4] at h; exact h.elim
          | some S2 =>
            rw [e4] at h
            exact h G2 H2 (s1.trans af.sub) (rep_call r1 e2 rps nd e4 af)
      · exact h.elim
/-- how many arguments -/
def MA.len (a : MA) (n : Nat) : Prop := ∀ S ps S1, a S = .ok ps S1 → ps.length = n
theorem MA.len0 : MA.len mNil 0 := fun S ps S1 e => by cases e; rfl
theorem MA.len1 {a : ME} {b : MA} {n : Nat} (h : MA.len b n) : MA.len (mCons a b) (n + 1) := fun S ps S1 e => by
  unfold mCons at e
  cases e1 : a S with
  | bad => rw [e1] at e; cases e
  | exc c S2 => rw [e1] at e; cases e
  | ok p S2 =>
    rw [e1] at e
    simp only [Res.bind] at e
    cases e2 : b S2 with
    | bad => rw [e2] at e; cases e
    | exc c S3 => rw [e2] at e; cases e
    | ok qs S3 =>
      rw [e2] at e
      cases e
      rw [List.length_cons, h S2 qs _ e2]
/-- f(e, ..), a def of the module -/
theorem je_call {F : Fn} {a : MA} {n k : Nat} {f : Addr} {fd : FuncData} {ps : List Str} {x : Str} {p pos : Pos} {e : Expr} {es : List Expr} (ok : FnOk X.prog X.w X.K X.mg X.base (L2N.CX X.prog X.w) k f fd ps (spF X.K X.mg n F)) (hr : Room k X.A) (tk : L2N.Takes X W) (hg : Gl X x) (hm : X.mg x = some (.ref f))
    (hk : PySem.W.keepIn X.K (.ref f) = true) (hb : Binds X.K fd ps []) (hn : MA.len a n) (ha : JA X W (e :: es) a) (hdb : (x == ("__debug__" : Str)) = false := by decide)
    (he : starEach (e :: es) X.env = (false, eval e X.env) :: starEach es X.env := by rfl) (hpl : (backTo pos (starEach es X.env)).any (·.1) = false := by rfl) : JE X W (.Call (.Name x p) (e :: es) [] pos) (mCall F a) := fun g =>
  pe_imp (pe_callSD ok hr hg hm hk hb .nil (fun σ => L2N.passAt tk σ) (ha g) hdb he hpl) fun _ _ _ h => call_of hn h
end
end Mw

set_option Elab.async false
set_option linter.all false
set_option maxRecDepth 100000
/-! Mw, part I: lists changed in place, parallel assignment, enumerate, zip. -/
namespace Mw
open PySem PySem.Spec PyProof.Rows L2
section
variable {X : Cx} {W : WX}
/-! ### a slot's own list changed by a method -/
/-- slot i's list, the arguments: the answer and the new list -/
def mMeth (i : Nat) (f : Sg → List D → List P → Option (D × List D)) (a : MA) : ME := fun S => match S[i]? with
  | some (.l _ _) => (a S).bind fun ps S1 => match S1[i]? with
    | some (.l b xs) => match f S1 xs ps with
      | some (y, ys) => .ok (.d y) (S1.set i (.l b ys))
      | none => .bad
    | _ => .bad
  | _ => .bad
/-- what the method's rule must give -/
def MtL (X : Cx) (id : String) (f : Sg → List D → List P → Option (D × List D)) : Prop := ∀ (g : Gh) (G H : Hp) (σ : St) (S : Sg) (xs ys : List D) (y : D) (ps : List P) (a : Addr) (vs ws : List V), Rep X.K X.mg g G σ H S → RPs X.K X.mg G σ ps ws → H a = some (.lst vs) → RVs X.K X.mg G xs vs →
  f S xs ps = some (y, ys) → ∃ r : V → List V → Hp → VK → Prop, MtR X id r ∧ ∀ Q : VK, (∀ v vs', RV X.K X.mg G y v → RVs X.K X.mg G ys vs' → Q v (upd H a (.lst vs'))) → r (.ref a) ws H Q
def rMt (X : Cx) (f : Sg → List D → List P → Option (D × List D)) : V → List V → Hp → VK → Prop := fun x ws H Q => ∃ (g : Gh) (G : Hp) (σ : St) (S : Sg) (xs ys : List D) (y : D) (ps : List P) (a : Addr) (vs : List V), x = .ref a ∧ Rep X.K X.mg g G σ H S ∧ RPs X.K X.mg G σ ps ws ∧ H a = some (.lst vs) ∧ RVs X.K X.mg G xs vs ∧
  f S xs ps = some (y, ys) ∧ ∀ v vs', RV X.K X.mg G y v → RVs X.K X.mg G ys vs' → Q v (upd H a (.lst vs'))
theorem mt_of {id : String} {f : Sg → List D → List P → Option (D × List D)} (h : MtL X id f) : MtR X id (rMt X f) := by
  intro pins s σ H x ws v us Q I rx rws k
  obtain ⟨g, G, σ', S, xs, ys, y, ps, a, vs, rfl, r, rps, ha, rv, e, k⟩ := k
  obtain ⟨r2, h1, h2⟩ := h g G H σ' S xs ys y ps a vs ws r rps ha rv e
  exact h1 pins s σ H _ ws v us Q I rx rws (h2 Q k)
section
variable {i : Nat} {x name : Str} {id : String} {f : Sg → List D → List P → Option (D × List D)} {e : Expr} {es : List Expr} {a : MA} {p apos cpos : Pos}
theorem meth_of {g : Gh} {σ : St} {H : Hp} {Q : VK} (h : tE X W g (mMeth i f a) σ H Q) : tBM X.K "list" (rMt X f) (tVar i) (tA X W g a) σ H Q := by
  obtain ⟨S, G, r, h⟩ := h
  unfold mMeth at h
  split at h
  · rename_i b xs e1
    obtain ⟨ad, vs, q1, q2, q3, _⟩ := r.lAt e1
    refine ⟨.ref ad, q1, .inl ⟨rfl, vs, .inl (.inl q2)⟩, S, G, r, ?_⟩
    cases e2 : a S with
    | bad => rw [e2] at h; exact h.elim
    | exc c S1 => rw [e2] at h; exact h
    | ok ps S1 =>
      rw [e2] at h
      simp only [Res.bind] at h
      intro G1 H1 ws s1 r1 rps
      split at h
      · rename_i b' xs' e3
        split at h
        · rename_i y ys e4
          obtain ⟨ad', vs', z1, z2, z3, _⟩ := r1.lAt e3
          rw [q1] at z1
          cases z1
          refine ⟨g, G1, σ, S1, xs', ys, y, ps, ad, vs', rfl, r1, rps, z2, z3, e4, fun v vs2 rv rvs => ?_⟩
          exact h G1 _ v s1 (r1.updL e3 q1 rvs) rv
        · exact h.elim
      · exact h.elim
  · exact h.elim
theorem je_meth (pa : PlainAttrs "list") (slot : Slot "list" name id) (hty : typeOf (.builtin id) = pure (.type "method_descriptor")) (hm : MtL X id f) (ha : JA X W (e :: es) a) (hN : X.N[i]? = some x := by rfl) (hv : Vis X.env.scope x := by first | exact Or.inl rfl | exact Or.inr (Or.inl rfl) | exact Or.inr (Or.inr rfl))
    (hd : (x == ("__debug__" : Str)) = false := by decide) (hcd : (x == ("__classdict__" : Str)) = false := by decide)
    (hbase : attributeBase (.Name x p) name X.env (eval (.Name x p) X.env) = eval (.Name x p) X.env := by rfl)
    (hfew : ((backTo cpos (starEach (e :: es) X.env)).all (fun x => !x.1) && (backToKw cpos (keywordEach [] X.env)).all (fun x => x.1.isSome)
      && decide ((e :: es).length + ([] : List Keyword).length + (if ([] : List Keyword).isEmpty then 0 else 1) < 30)) = true := by rfl)
    (hline : (apos.endLine == cpos.line) = true := by rfl) (hs : starEach (e :: es) X.env = (false, eval e X.env) :: starEach es X.env := by rfl) (hplain : (backTo cpos (starEach es X.env)).any (·.1) = false := by rfl) :
    JE X W (.Call (.Attribute (.Name x p) name apos) (e :: es) [] cpos) (mMeth i f a) := fun g =>
  pe_imp (pe_bm pa slot hty (mt_of hm) (pe_var hN hv hd hcd) (ha g) hbase hfew hline hs hplain) fun _ _ _ h => meth_of h
theorem je_meth0 (pa : PlainAttrs "list") (slot : Slot "list" name id) (hty : typeOf (.builtin id) = pure (.type "method_descriptor")) (hm : MtL X id f) (hN : X.N[i]? = some x := by rfl) (hv : Vis X.env.scope x := by first | exact Or.inl rfl | exact Or.inr (Or.inl rfl) | exact Or.inr (Or.inr rfl))
    (hd : (x == ("__debug__" : Str)) = false := by decide) (hcd : (x == ("__classdict__" : Str)) = false := by decide)
    (hbase : attributeBase (.Name x p) name X.env (eval (.Name x p) X.env) = eval (.Name x p) X.env := by rfl) (hline : (apos.endLine == cpos.line) = true := by rfl) :
    JE X W (.Call (.Attribute (.Name x p) name apos) [] [] cpos) (mMeth i f mNil) := fun g => by
  refine pe_imp (pe_bm0 pa slot hty (mt_of hm) (pe_var hN hv hd hcd) hbase hline) fun σ H Q h => ?_
  obtain ⟨v, h1, h2, S, G, r, h3⟩ := meth_of h
  exact ⟨v, h1, h2, h3 G H [] (Sub.refl _) r .nil⟩
end
def fAppend (_ : Sg) (xs : List D) : List P → Option (D × List D)
  | [.d y] => if sizeOk (xs.length + 1) then some (.non, xs ++ [y]) else none
  | _ => none
theorem m_append : MtL X "list.append" fAppend := by
  intro g G H σ S xs ys y ps a vs ws r rps ha rv e
  unfold fAppend at e
  split at e
  · split at e
    · rename_i hz
      cases e
      cases rps with
      | cons h t =>
        cases t
        refine ⟨_, mt_append, fun Q k => ⟨a, vs, _, rfl, rfl, ha, ?_, k .non _ .non (rv.append (.cons h .nil))⟩⟩
        rw [← rv.length]; exact sizeOk_le hz
    · cases e
  · cases e
def fExtend (S : Sg) (xs : List D) : List P → Option (D × List D)
  | [p] => match lstOf S p with
    | some ys => if sizeOk (xs.length + ys.length) then some (.non, xs ++ ys) else none
    | none => none
  | _ => none
theorem m_extend : MtL X "list.extend" fExtend := by
  intro g G H σ S xs ys y ps a vs ws r rps ha rv e
  unfold fExtend at e
  split at e
  · split at e
    · rename_i zs e1
      split at e
      · rename_i hz
        cases e
        cases rps with
        | cons h t =>
          cases t
          obtain ⟨b, us, rfl, hb, ru⟩ := lstOf_ok r h e1
          refine ⟨_, mt_extend, fun Q k => ⟨a, b, vs, us, rfl, rfl, ha, hb, ?_, k .non _ .non (rv.append ru)⟩⟩
          rw [← rv.length, ← ru.length]; exact sizeOk_le hz
      · cases e
    · cases e
  · cases e
def fPop (_ : Sg) (xs : List D) : List P → Option (D × List D)
  | [] => (xs[xs.length - 1]?).map fun y => (y, xs.dropLast)
  | _ => none
theorem RVs.dropLast {K : PySem.W.Frag} {mg : Str → Option Value} {G : Hp} {xs : List D} {vs : List V} (r : RVs K mg G xs vs) : RVs K mg G xs.dropLast vs.dropLast := by
  rw [List.dropLast_eq_take, List.dropLast_eq_take, r.length]
  exact r.take _
theorem m_pop : MtL X "list.pop" fPop := by
  intro g G H σ S xs ys y ps a vs ws r rps ha rv e
  unfold fPop at e
  split at e
  · cases rps
    obtain ⟨z, e1, e2⟩ := Option.map_eq_some_iff.mp e
    cases e2
    obtain ⟨v, e3, r3⟩ := rv.get e1
    exact ⟨_, mt_pop, fun Q k => ⟨a, vs, v, rfl, rfl, ha, by rw [← rv.length]; exact e3, k v _ r3 rv.dropLast⟩⟩
  · cases e
def fPopAt (_ : Sg) (xs : List D) : List P → Option (D × List D)
  | [.d (.int i)] => match ixN xs.length i with
    | some k => if decide (-(2 ^ 63) ≤ i) && decide (i < 2 ^ 63) then (xs[k]?).map fun y => (y, xs.eraseIdx k) else none
    | none => none
  | _ => none
theorem m_popAt : MtL X "list.pop" fPopAt := by
  intro g G H σ S xs ys y ps a vs ws r rps ha rv e
  unfold fPopAt at e
  split at e
  · rename_i i
    split at e
    · rename_i kk e0
      split at e
      · rename_i hz
        simp only [Bool.and_eq_true, decide_eq_true_eq] at hz
        cases rps with
        | cons h t =>
          cases t
          cases h
          obtain ⟨z, e1, e2⟩ := Option.map_eq_some_iff.mp e
          cases e2
          obtain ⟨v, e3, r3⟩ := rv.get e1
          rw [rv.length] at e0
          exact ⟨_, mt_popAt, fun Q k => ⟨a, vs, i, kk, v, rfl, rfl, ha, hz.1, hz.2, (ixN_seq e0).1, e3, k v _ r3 (rv.eraseIdx kk)⟩⟩
      · cases e
    · cases e
  · cases e
/-! ### x[k] = e, x a slot's own list -/
def putAt (xs : List D) (y : D) : P → Option (List D)
  | .d (.int n) => (ixN xs.length n).map fun j => xs.set j y
  | _ => none
def mSetItem (i : Nat) (k : ME) (a : ME) : MS := fun S => (a S).bind fun p S1 => match p with
  | .d y => match S1[i]? with
    | some (.l _ _) => (k S1).bind fun q S2 => match S2[i]? with
      | some (.l b xs) => match putAt xs y q with
        | some ys => .ok .nx (S2.set i (.l b ys))
        | none => .bad
      | _ => .bad
    | _ => .bad
  | .s _ => .bad
theorem js_setItem {i : Nat} {x : Str} {ek ev : Expr} {k a : ME} {p tpos pos : Pos} (hk : JE X W ek k) (ha : JE X W ev a) (hN : X.N[i]? = some x := by rfl) (hv : Vis X.env.scope x := by first | exact Or.inl rfl | exact Or.inr (Or.inl rfl) | exact Or.inr (Or.inr rfl))
    (hd : (x == ("__debug__" : Str)) = false := by decide) (hcd : (x == ("__classdict__" : Str)) = false := by decide)
    (hsub : ∀ v, assign (.Subscript (.Name x p) ek tpos) X.env v = (do
      let ov ← holding [v] (eval (.Name x p) X.env)
      let iv ← holding [v, ov] (eval ek X.env)
      standAt tpos
      holding [v, ov, iv] (setItem ov iv v)
      release [v, ov, iv] []) := by intro _; rfl)
    (hs : swapsWithSole [.Subscript (.Name x p) ek tpos] ev pos.line X.env = pure false := by rfl) (hw : swappedStores [.Subscript (.Name x p) ek tpos] ev X.env = pure none := by rfl)
    (h1 : (assignEach [.Subscript (.Name x p) ek tpos] X.env).map (·.2) = [assign (.Subscript (.Name x p) ek tpos) X.env] := by rfl) : JS X W (.Assign [.Subscript (.Name x p) ek tpos] ev pos) (mSetItem i k a) := fun g => by
  refine ps_imp (ps_asg (ha g) (pg_sub (pe_var hN hv hd hcd) (hk g) set_list hsub) hs hw h1) fun E σ H h => ?_
  obtain ⟨S, G, r, h⟩ := h
  refine ⟨S, G, r, ?_⟩
  unfold mSetItem at h
  cases e1 : a S with
  | bad => rw [e1] at h; exact h.elim
  | exc c S1 => rw [e1] at h; exact fun G1 H1 => h G1 σ H1
  | ok pp S1 =>
    rw [e1] at h
    simp only [Res.bind] at h
    cases pp with
    | s j => exact h.elim
    | d y =>
      simp only at h
      intro G1 H1 v s1 r1 rp
      split at h
      · rename_i b0 xs0 e0
        obtain ⟨ad, vs0, q1, q2, q3, _⟩ := r1.lAt e0
        refine ⟨.ref ad, q1, S1, G1, r1, ?_⟩
        cases e2 : k S1 with
        | bad => rw [e2] at h; exact h.elim
        | exc c S2 => rw [e2] at h; exact fun G2 H2 s2 => h G2 σ H2 (s1.trans s2)
        | ok q S2 =>
          rw [e2] at h
          simp only [Res.bind] at h
          intro G2 H2 iv s2 r2 rq
          split at h
          · rename_i b xs e3
            split at h
            · rename_i ys e4
              obtain ⟨ad', vs, z1, z2, z3, _⟩ := r2.lAt e3
              rw [q1] at z1
              cases z1
              unfold putAt at e4
              split at e4
              · rename_i n
                cases rq
                obtain ⟨j, e5, rfl⟩ := Option.map_eq_some_iff.mp e4
                refine ⟨ad, vs, n, j, rfl, rfl, z2, by rw [← z3.length]; exact e5, ?_⟩
                exact h G2 σ _ (s1.trans s2) (r2.updL e3 q1 (RVs.set (rp.mono s2) j z3))
              · cases e4
            · exact h.elim
          · exact h.elim
      · exact h.elim
/-! ### x op= e (whole numbers) -/
def mAug (f : Sg → P → P → Option D) (i : Nat) (a : ME) : MS := fun S => match S[i]? with
  | some (.d x) => (a S).bind fun p S1 => match f S1 (.d x) p with
    | some y => .ok .nx (S1.set i (.d y))
    | none => .bad
  | _ => .bad
theorem js_aug {i : Nat} {x : Str} {e : Expr} {a : ME} {op : Operator} {f : Sg → P → P → Option D} {pos pos' : Pos} (hN : X.N.Nodup) (ho : OpR X (inplaceOp op) (rO X f)) (ha : JE X W e a) (hi : X.N[i]? = some x := by rfl) (hx : Loc X.env.scope x := by first | exact Or.inl rfl | exact Or.inr rfl)
    (hf : X.fn x = true ∨ X.env.scope.names.lookup x = some .local := by first | exact .inl rfl | exact .inr rfl) : JS X W (.AugAssign (.Name x pos') op e pos) (mAug f i a) := fun g => by
  refine ps_imp (ps_aug hN hi hx (ha g) (ti := rO X f) ho hf) fun E σ H h => ?_
  obtain ⟨S, G, r, h⟩ := h
  unfold mAug at h
  split at h
  · rename_i x0 e0
    obtain ⟨v0, q1, q2⟩ := r.dAt e0
    refine ⟨v0, q1, S, G, r, ?_⟩
    cases e1 : a S with
    | bad => rw [e1] at h; exact h.elim
    | exc c S1 => rw [e1] at h; exact fun G1 H1 => h G1 σ H1
    | ok p S1 =>
      rw [e1] at h
      simp only [Res.bind] at h
      intro G1 H1 v s1 r1 rp
      split at h
      · rename_i y e2
        exact ⟨g, G1, σ, S1, .d x0, p, y, r1, q2.mono s1, rp, e2, fun G' H' w s r' rw' => h G' _ H' (s1.trans s) (r'.setD i rw')⟩
      · exact h.elim
  · exact h.elim
def iI (f : Int → Int → Option Int) (_ : Sg) : P → P → Option D
  | .d (.int i), .d (.int j) => (f i j).map D.int
  | _, _ => none
theorem oi_of {op : Operator} {C : Int → Int → Prop} {gg : Int → Int → Int} {f : Int → Int → Option Int} (h : OpR X (inplaceOp op) (rI C fun i j => .int (gg i j))) (k : ∀ i j n, f i j = some n → C i j ∧ gg i j = n) : OpR X (inplaceOp op) (rO X (iI f)) := by
  refine opD_of fun g G H σ S p q d x y r rp rq e Q kk => ?_
  unfold iI at e
  split at e
  · cases rp; cases rq
    obtain ⟨n, e1, rfl⟩ := Option.map_eq_some_iff.mp e
    obtain ⟨c, rfl⟩ := k _ _ _ e1
    exact ⟨_, h, _, _, rfl, rfl, c, kk G H _ (Sub.refl _) r (.int _)⟩
  · cases e
abbrev iAdd : Sg → P → P → Option D := iI fun i j => some (i + j)
abbrev iMul : Sg → P → P → Option D := iI fun i j => if mulOk i j then some (i * j) else none
theorem oi_add : OpR X (inplaceOp .Add) (rO X iAdd) := by
  refine oi_of (C := fun _ _ => True) (gg := fun i j => i + j) ?_ fun i j n e => ⟨trivial, Option.some.inj e⟩
  intro pins s σ H x y v u Q I rx ry h
  obtain ⟨i, j, h1, h2, _, q⟩ := h
  exact iop_add pins s σ H x y v u Q I rx ry ⟨i, j, h1, h2, q⟩
theorem oi_mul : OpR X (inplaceOp .Mult) (rO X iMul) := by
  refine oi_of (C := CMul) (gg := fun i j => i * j) iop_mul fun i j n e => ?_
  split at e
  · rename_i hz
    exact ⟨mulOk_ok hz, Option.some.inj e⟩
  · cases e
/-! ### a, b = e1, e2 -/
inductive Nw where
  | d (x : D) | l (xs : List D) | m (xs : List (Key × D))
abbrev MX := Sg → Res (List Nw)
/-- values and new lists, each new one named by nobody else -/
inductive RNs (K : PySem.W.Frag) (mg : Str → Option Value) (g : Gh) (G : Hp) (σ : St) (H : Hp) (S : Sg) : List Nw → List V → List Addr → Prop
  | nil : RNs K mg g G σ H S [] [] []
  | d {x : D} {v : V} {ns : List Nw} {vs : List V} {as : List Addr} (h : RV K mg G x v) (t : RNs K mg g G σ H S ns vs as) : RNs K mg g G σ H S (.d x :: ns) (v :: vs) as
  | l {xs : List D} {p : Addr} {ws : List V} {ns : List Nw} {vs : List V} {as : List Addr} (h : H p = some (.lst ws)) (r : RVs K mg G xs ws) (n : NewAt g G H σ S p) (np : p ∉ as) (t : RNs K mg g G σ H S ns vs as) : RNs K mg g G σ H S (.l xs :: ns) (.ref p :: vs) (p :: as)
  | m {xs : List (Key × D)} {p : Addr} {ws : List (Key × V)} {ns : List Nw} {vs : List V} {as : List Addr} (h : H p = some (.dK ws)) (r : RVk K mg G xs ws) (n : NewAt g G H σ S p) (np : p ∉ as) (t : RNs K mg g G σ H S ns vs as) : RNs K mg g G σ H S (.m xs :: ns) (.ref p :: vs) (p :: as)
def PoX (K : PySem.W.Frag) (mg : Str → Option Value) (W : WX) (g : Gh) (G : Hp) (σ : St) (r : Res (List Nw)) (Q : List V → Hp → Prop) : Prop := match r with
  | .ok ns S' => ∀ G' H' vs as, Sub G G' → Rep K mg g G' σ H' S' → RNs K mg g G' σ H' S' ns vs as → Q vs H'
  | .exc c S' => ∀ G' H', Sub G G' → Rep K mg g G' σ H' S' → W (clsV mg c) none σ H'
  | .bad => False
def tX (X : Cx) (W : WX) (g : Gh) (m : MX) : TA := fun σ H Q => ∃ S G, Rep X.K X.mg g G σ H S ∧ PoX X.K X.mg W g G σ (m S) Q
def JX (X : Cx) (W : WX) (es : List Expr) (m : MX) : Prop := ∀ g, PA X es (tX X W g m)
def xNil : MX := fun S => .ok [] S
def xD (a : ME) (b : MX) : MX := fun S => (a S).bind fun p S1 => match p with
  | .d x => (b S1).bind fun ns S2 => .ok (.d x :: ns) S2
  | .s _ => .bad
def xN (m : MN) (b : MX) : MX := fun S => (m S).bind fun xs S1 => (b S1).bind fun ns S2 => .ok (.l xs :: ns) S2
theorem jx_nil : JX X W [] xNil := fun g => pa_imp pa_nil fun σ H Q ⟨S, G, r, h⟩ => h G H [] [] (Sub.refl G) r .nil
theorem jx_d {e : Expr} {es : List Expr} {a : ME} {b : MX} (ha : JE X W e a) (hb : JX X W es b) (hs : starEach (e :: es) X.env = (false, eval e X.env) :: starEach es X.env := by rfl) : JX X W (e :: es) (xD a b) := fun g => by
  refine pa_imp (pa_cons (ha g) (hb g) hs) fun σ H Q h => ?_
  obtain ⟨S, G, r, h⟩ := h
  refine ⟨S, G, r, ?_⟩
  unfold xD at h
  cases e1 : a S with
  | bad => rw [e1] at h; exact h.elim
  | exc c S1 => rw [e1] at h; exact h
  | ok p S1 =>
    rw [e1] at h
    simp only [Res.bind] at h
    cases p with
    | s i => exact h.elim
    | d x =>
      simp only at h
      intro G1 H1 v s1 r1 rp
      refine ⟨S1, G1, r1, ?_⟩
      cases e2 : b S1 with
      | bad => rw [e2] at h; exact h.elim
      | exc c S2 => rw [e2] at h; exact fun G2 H2 s2 r2 => h G2 H2 (s1.trans s2) r2
      | ok ns S2 =>
        rw [e2] at h
        exact fun G2 H2 vs as s2 r2 rns => h G2 H2 (v :: vs) as (s1.trans s2) r2 (.d (RV.mono s2 rp) rns)
theorem RNs.unres {K : PySem.W.Frag} {mg : Str → Option Value} {g : Gh} {G H : Hp} {σ : St} {S : Sg} {p : Addr} {o : HO} : ∀ {ns : List Nw} {vs : List V} {as : List Addr}, RNs K mg (g.res p o) G σ H S ns vs as → RNs K mg g G σ H S ns vs as ∧ p ∉ as
  | _, _, _, .nil => ⟨.nil, by simp⟩
  | _, _, _, .d h t => ⟨.d h (RNs.unres t).1, (RNs.unres t).2⟩
  | _, _, _, .l (p := q) h r n np t => by
    have hq : q ≠ p := fun z => by
      subst z
      have := n.r
      have : upd g.R q o q = none := this
      rw [upd_same] at this; cases this
    refine ⟨.l h r ⟨n.g0, n.h0, ?_, n.o⟩ np (RNs.unres t).1, ?_⟩
    · have := n.r
      have : upd g.R p o q = none := this
      rw [upd_ne hq] at this; exact this
    · simp only [List.mem_cons, not_or]
      exact ⟨Ne.symm hq, (RNs.unres t).2⟩
  | _, _, _, .m (p := q) h r n np t => by
    have hq : q ≠ p := fun z => by
      subst z
      have := n.r
      have : upd g.R q o q = none := this
      rw [upd_same] at this; cases this
    refine ⟨.m h r ⟨n.g0, n.h0, ?_, n.o⟩ np (RNs.unres t).1, ?_⟩
    · have := n.r
      have : upd g.R p o q = none := this
      rw [upd_ne hq] at this; exact this
    · simp only [List.mem_cons, not_or]
      exact ⟨Ne.symm hq, (RNs.unres t).2⟩
theorem jx_n {e : Expr} {es : List Expr} {m : MN} {b : MX} (hm : JN X W e m) (hb : JX X W es b) (hs : starEach (e :: es) X.env = (false, eval e X.env) :: starEach es X.env := by rfl) : JX X W (e :: es) (xN m b) := fun g => by
  refine ⟨fun pos pins s σ H Q I h => ?_⟩
  refine (pa_cons (hm g) (t := fun σ H Q => ∃ g', tX X W g' b σ H Q) ⟨fun pos pins s σ H Q I ⟨g', q⟩ => (hb g').run pos pins s σ H Q I q⟩ hs).run pos pins s σ H Q I ?_
  obtain ⟨S, G, r, h⟩ := h
  refine ⟨S, G, r, ?_⟩
  unfold xN at h
  cases e1 : m S with
  | bad => rw [e1] at h; exact h.elim
  | exc c S1 => rw [e1] at h; exact h
  | ok xs S1 =>
    rw [e1] at h
    simp only [Res.bind] at h
    intro G1 H1 p vs s1 r1 hp rv nw
    refine ⟨g.res p (.lst vs), S1, G1, r1.reserve hp nw, ?_⟩
    have z4 : ¬ g.M p := fun z => r1.rm p z nw.r
    cases e2 : b S1 with
    | bad => rw [e2] at h; exact h.elim
    | exc c S2 =>
      rw [e2] at h
      exact fun G2 H2 s2 r2 => h G2 H2 (s1.trans s2) (r2.unres nw.r nw.h0 z4).1
    | ok ns S2 =>
      rw [e2] at h
      intro G2 H2 ws as s2 r2 rns
      obtain ⟨r3, hp3, nw3⟩ := r2.unres nw.r nw.h0 z4
      obtain ⟨rn, np⟩ := rns.unres
      exact h G2 H2 (.ref p :: ws) (p :: as) (s1.trans s2) r3 (.l hp3 (rv.mono s2) nw3 np rn)
/-- {} -/
def xM0 (b : MX) : MX := fun S => (b S).bind fun ns S2 => .ok (.m [] :: ns) S2
theorem jx_m0 {pos : Pos} {es : List Expr} {b : MX} (hb : JX X W es b) (hs : starEach (.Dict [] [] pos :: es) X.env = (false, eval (.Dict [] [] pos) X.env) :: starEach es X.env := by rfl) : JX X W (.Dict [] [] pos :: es) (xM0 b) := fun g => by
  refine ⟨fun pos pins s σ H Q I h => ?_⟩
  refine (pa_cons pe_dnewK (t := fun σ H Q => ∃ g', tX X W g' b σ H Q) ⟨fun pos pins s σ H Q I ⟨g', q⟩ => (hb g').run pos pins s σ H Q I q⟩ hs).run pos pins s σ H Q I ?_
  obtain ⟨S, G, r, h⟩ := h
  intro p np
  obtain ⟨r1, nw⟩ := r.newO np (.dK [])
  refine ⟨g.res p (.dK []), S, G, r1.reserve upd_same nw, ?_⟩
  have z4 : ¬ g.M p := fun z => r1.rm p z nw.r
  unfold xM0 at h
  cases e2 : b S with
  | bad => rw [e2] at h; exact h.elim
  | exc c S2 =>
    rw [e2] at h
    exact fun G2 H2 s2 r2 => h G2 H2 s2 (r2.unres nw.r nw.h0 z4).1
  | ok ns S2 =>
    rw [e2] at h
    intro G2 H2 ws as s2 r2 rns
    obtain ⟨r3, hp3, nw3⟩ := r2.unres nw.r nw.h0 z4
    obtain ⟨rn, np⟩ := rns.unres
    exact h G2 H2 (.ref p :: ws) (p :: as) s2 r3 (.m hp3 .nil nw3 np rn)
def Nw.sl : Nw → Sl
  | .d x => .d x
  | .l xs => .l false xs
  | .m xs => .m false xs
def putN (S : Sg) : List Nat → List Nw → Sg
  | i :: is, n :: ns => putN (S.set i n.sl) is ns
  | _, _ => S
def setAll (σ : St) : List Nat → List V → St
  | i :: is, v :: vs => setAll (σ.set i (some v)) is vs
  | _, _ => σ
theorem NewAt.set {g : Gh} {G H : Hp} {σ : St} {S : Sg} {p : Addr} (n : NewAt g G H σ S p) (i : Nat) {s : Sl} {v : V} (h : ∀ rt, v = .ref rt → ¬ Ft H s rt p) : NewAt g G H (σ.set i (some v)) (S.set i s) p := by
  refine ⟨n.g0, n.h0, n.r, fun j z => ?_⟩
  obtain ⟨t, rt, e, q, f⟩ := z
  rcases get_set e with ⟨rfl, rfl, _⟩ | ⟨hj, e⟩
  · rcases get_set q with ⟨_, e2, _⟩ | ⟨z, _⟩
    · exact h rt (Option.some.inj e2).symm f
    · exact absurd rfl z
  · rcases get_set q with ⟨z, _⟩ | ⟨_, q⟩
    · exact absurd z hj
    · exact n.o j ⟨t, rt, e, q, f⟩
theorem RNs.set {K : PySem.W.Frag} {mg : Str → Option Value} {g : Gh} {G H : Hp} {σ : St} {S : Sg} {i : Nat} {s : Sl} {v : V} : ∀ {ns : List Nw} {vs : List V} {as : List Addr}, RNs K mg g G σ H S ns vs as → (∀ p ∈ as, ∀ rt, v = .ref rt → ¬ Ft H s rt p) → RNs K mg g G (σ.set i (some v)) H (S.set i s) ns vs as
  | _, _, _, .nil, _ => .nil
  | _, _, _, .d h t, k => .d h (RNs.set t k)
  | _, _, _, .l h r n np t, k => .l h r (n.set i (k _ List.mem_cons_self)) np (RNs.set t fun p hp => k p (List.mem_cons_of_mem _ hp))
  | _, _, _, .m h r n np t, k => .m h r (n.set i (k _ List.mem_cons_self)) np (RNs.set t fun p hp => k p (List.mem_cons_of_mem _ hp))
theorem rep_par {K : PySem.W.Frag} {mg : Str → Option Value} {g : Gh} {G H : Hp} : ∀ {is : List Nat} {ns : List Nw} {vs : List V} {as : List Addr} {σ : St} {S : Sg}, Rep K mg g G σ H S → RNs K mg g G σ H S ns vs as → Rep K mg g G (setAll σ is vs) H (putN S is ns)
  | [], ns, vs, _, _, _, r, rn => by cases ns <;> cases vs <;> exact r
  | i :: is, _, _, _, _, _, r, .nil => r
  | i :: is, _, _, _, _, _, r, .d h t => rep_par (is := is) (r.setD i h) (t.set fun p hp rt e f => f.elim)
  | i :: is, _, _, _, _, _, r, .l h rv n np t => rep_par (is := is) (r.setL i h rv n) (t.set fun p hp rt e f => by cases e; cases (show p = _ from f); exact np hp)
  | i :: is, _, _, _, _, _, r, .m h rv n np t => rep_par (is := is) (r.setM i h rv n) (t.set fun p hp rt e f => by cases e; cases (show p = _ from f); exact np hp)
theorem RNs.lengths {K : PySem.W.Frag} {mg : Str → Option Value} {g : Gh} {G H : Hp} {σ : St} {S : Sg} : ∀ {ns : List Nw} {vs : List V} {as : List Addr}, RNs K mg g G σ H S ns vs as → ns.length = vs.length
  | _, _, _, .nil => rfl
  | _, _, _, .d _ t => by rw [List.length_cons, List.length_cons, t.lengths]
  | _, _, _, .l _ _ _ _ t => by rw [List.length_cons, List.length_cons, t.lengths]
  | _, _, _, .m _ _ _ _ t => by rw [List.length_cons, List.length_cons, t.lengths]
theorem RNs.newO {K : PySem.W.Frag} {mg : Str → Option Value} {g : Gh} {G H : Hp} {σ : St} {S : Sg} {p : Addr} {o : HO} (hp : H p = none) (hno : ∀ j, ¬ OwnAt H σ S j p) : ∀ {ns : List Nw} {vs : List V} {as : List Addr}, RNs K mg g G σ H S ns vs as → RNs K mg g G σ (upd H p o) S ns vs as
  | _, _, _, .nil => .nil
  | _, _, _, .d h t => .d h (RNs.newO hp hno t)
  | _, _, _, .l (p := q) h r n np t => .l (by rw [upd_ne (fun z => by subst z; rw [hp] at h; cases h)]; exact h) r (n.upd hno) np (RNs.newO hp hno t)
  | _, _, _, .m (p := q) h r n np t => .m (by rw [upd_ne (fun z => by subst z; rw [hp] at h; cases h)]; exact h) r (n.upd hno) np (RNs.newO hp hno t)
def tParG (is : List Nat) (ta : TA) : TS := fun E σ H => ta σ H fun vs H1 => vs.length = is.length ∧ E.nx (setAll σ is vs) H1 ∧ ∀ p, H1 p = none → E.nx (setAll σ is vs) (upd H1 p (.tup vs))
def mPar (is : List Nat) (m : MX) : MS := fun S => (m S).bind fun ns S1 => if ns.length = is.length then .ok .nx (putN S1 is ns) else .bad
theorem js_par {st : Stmt} {es : List Expr} {is : List Nat} {m : MX} (hp : ∀ ta, PA X es ta → PS X st (tParG is ta)) (hm : JX X W es m) : JS X W st (mPar is m) := fun g => by
  refine ps_imp (hp _ (hm g)) fun E σ H h => ?_
  obtain ⟨S, G, r, h⟩ := h
  refine ⟨S, G, r, ?_⟩
  unfold mPar at h
  cases e1 : m S with
  | bad => rw [e1] at h; exact h.elim
  | exc c S1 => rw [e1] at h; exact fun G1 H1 => h G1 σ H1
  | ok ns S1 =>
    rw [e1] at h
    simp only [Res.bind] at h
    split at h
    · rename_i hl
      intro G1 H1 vs as s1 r1 rn
      refine ⟨by rw [← rn.lengths]; exact hl, h G1 _ H1 s1 (rep_par r1 rn), fun p np => ?_⟩
      exact h G1 _ _ s1 (rep_par (r1.newO np _).1 ((RNs.newO np (fun j z => (r1.ownH z).1 np) rn)))
    · exact h.elim
theorem par2 {i j : Nat} {x y : Str} {a b : Expr} {px py pt pos : Pos} {kt k2 pt2} (hc : X.calm = true) (hN : X.N.Nodup) (hij : i ≠ j) (hi : X.N[i]? = some x := by rfl) (hj : X.N[j]? = some y := by rfl)
    (hx : X.env.scope.names.lookup x = some .local := by rfl) (hy : X.env.scope.names.lookup y = some .local := by rfl)
    (hw : swappedStores [.Tuple [.Name x px, .Name y py] kt pt] (.Tuple [a, b] k2 pt2) X.env = pure (some [x, y]) := by rfl)
    (hs : swapsWithSole [.Tuple [.Name x px, .Name y py] kt pt] (.Tuple [a, b] k2 pt2) pos.line X.env = pure false := by rfl) :
    ∀ ta, PA X [a, b] ta → PS X (.Assign [.Tuple [.Name x px, .Name y py] kt pt] (.Tuple [a, b] k2 pt2) pos) (tParG [i, j] ta) := fun ta ha => by
  refine ⟨fun pins s σ H E I h => ?_⟩
  have m : tPar i j (fun σ H Q => ta σ H fun vs H1 => vs.length = 2 ∧ ∀ v w, vs = [v, w] → Q vs H1) E σ H → True := fun _ => trivial
  refine (ps_par (ta := fun σ H Q => ∃ R : List V → Hp → Prop, ta σ H R ∧ ∀ vs H1, R vs H1 → Q vs H1) hc hN hi hj hij hx hy ⟨fun pos pins s σ H Q I ⟨R, h, k⟩ => wpAny_mono (ha.run pos pins s σ H R I h) (fun us s' ⟨vs, H', a1, a2, a3⟩ => ⟨vs, H', a1, a2, k vs H' a3⟩) fun _ _ z => z⟩ hw hs).run pins s σ H E I ?_
  refine ⟨_, h, fun vs H1 q => ?_⟩
  obtain ⟨hl, q, _⟩ := q
  match vs, hl with
  | [v, w], _ => exact ⟨v, w, rfl, q⟩
theorem par3 {i j l : Nat} {x y z : Str} {a b c : Expr} {px py pz pt pos : Pos} {kt k2 pt2} (hc : X.calm = true) (hN : X.N.Nodup) (hij : i ≠ j) (hil : i ≠ l) (hjl : j ≠ l) (hi : X.N[i]? = some x := by rfl) (hj : X.N[j]? = some y := by rfl) (hl : X.N[l]? = some z := by rfl)
    (hx : X.env.scope.names.lookup x = some .local := by rfl) (hy : X.env.scope.names.lookup y = some .local := by rfl) (hz : X.env.scope.names.lookup z = some .local := by rfl)
    (hw : swappedStores [.Tuple [.Name x px, .Name y py, .Name z pz] kt pt] (.Tuple [a, b, c] k2 pt2) X.env = pure (some [x, y, z]) := by rfl)
    (hs : swapsWithSole [.Tuple [.Name x px, .Name y py, .Name z pz] kt pt] (.Tuple [a, b, c] k2 pt2) pos.line X.env = pure false := by rfl) :
    ∀ ta, PA X [a, b, c] ta → PS X (.Assign [.Tuple [.Name x px, .Name y py, .Name z pz] kt pt] (.Tuple [a, b, c] k2 pt2) pos) (tParG [i, j, l] ta) := fun ta ha => by
  refine ⟨fun pins s σ H E I h => ?_⟩
  refine (ps_par3 (ta := fun σ H Q => ∃ R : List V → Hp → Prop, ta σ H R ∧ ∀ vs H1, R vs H1 → Q vs H1) hc hN hi hj hl hij hil hjl hx hy hz ⟨fun pos pins s σ H Q I ⟨R, h, k⟩ => wpAny_mono (ha.run pos pins s σ H R I h) (fun us s' ⟨vs, H', a1, a2, a3⟩ => ⟨vs, H', a1, a2, k vs H' a3⟩) fun _ _ z => z⟩ hw hs).run pins s σ H E I ?_
  refine ⟨_, h, fun vs H1 q => ?_⟩
  obtain ⟨hl, q, _⟩ := q
  match vs, hl with
  | [u, v, w], _ => exact ⟨u, v, w, rfl, q⟩
/-- the targets are names, the tuple is made -/
inductive PNs (X : Cx) : List Expr → List Nat → Prop
  | nil : PNs X [] []
  | cons {x : Str} {p : Pos} {i : Nat} {es : List Expr} {is : List Nat} (hi : X.N[i]? = some x) (hx : Loc X.env.scope x) (hf : X.fn x = true ∨ X.env.scope.names.lookup x = some .local)
      (hs : (assignEach (.Name x p :: es) X.env).map (·.2) = assign (.Name x p) X.env :: (assignEach es X.env).map (·.2)) (t : PNs X es is) : PNs X (.Name x p :: es) (i :: is)
theorem PNs.pgs (hN : X.N.Nodup) : ∀ {es : List Expr} {is : List Nat}, PNs X es is → PGs X es (fun vs σ H Q => vs.length = is.length ∧ Q (setAll σ is vs) H)
  | _, _, .nil => pgs_imp pgs_nil fun vs σ H Q ⟨hl, q⟩ => by
    match vs, hl with
    | [], _ => exact ⟨rfl, q⟩
  | _, _, .cons hi hx hf hs t => pgs_imp (pgs_cons (pg_name hN hi hx hf) (PNs.pgs hN t) hs) fun vs σ H Q ⟨hl, q⟩ => by
    match vs, hl with
    | v :: vs, hl => exact ⟨v, vs, rfl, by simpa using hl, q⟩
theorem parG {ts es : List Expr} {is : List Nat} {kt k2 : Nat} {pt pt2 pos : Pos} {n : Nat} (hc : X.calm = true) (hN : X.N.Nodup) (hp : PNs X ts is) (hl : is.length = n) (hz : n ≤ 1000) (hn : (assignEach ts X.env).length = n := by rfl) (hst : (assignEach ts X.env).findIdx? (·.1) = none := by rfl)
    (hs : swapsWithSole [.Tuple ts kt pt] (.Tuple es k2 pt2) pos.line X.env = pure false := by rfl) (hw : swappedStores [.Tuple ts kt pt] (.Tuple es k2 pt2) X.env = pure none := by rfl)
    (h1 : (assignEach [.Tuple ts kt pt] X.env).map (·.2) = [assign (.Tuple ts kt pt) X.env] := by rfl) :
    ∀ ta, PA X es ta → PS X (.Assign [.Tuple ts kt pt] (.Tuple es k2 pt2) pos) (tParG is ta) := fun ta ha => by
  refine ⟨fun pins s σ H E I h => ?_⟩
  refine (ps_asg (pe_tup (t := fun σ H Q => ∃ R : List V → Hp → Prop, ta σ H R ∧ ∀ vs H1, R vs H1 → Q vs H1) ⟨fun pos pins s σ H Q I ⟨R, h, k⟩ => wpAny_mono (ha.run pos pins s σ H R I h) (fun us s' ⟨vs, H', a1, a2, a3⟩ => ⟨vs, H', a1, a2, k vs H' a3⟩) fun _ _ z => z⟩) (pg_tup hc (hp.pgs hN) hn hst) hs hw h1).run pins s σ H E I ?_
  refine ⟨_, h, fun vs H1 q => ?_⟩
  obtain ⟨hv, _, q⟩ := q
  refine ⟨Nat.le_of_lt (small1000 (by omega)), fun p np => ⟨p, vs, rfl, .inl (.inl upd_same), by omega, hv, q p np⟩⟩
/-! ### enumerate, zip of two lists -/
def enumD (i : Nat) : List D → List D
  | [] => []
  | x :: r => .tup [.int i, x] :: enumD (i + 1) r
theorem enumD_length : ∀ (xs : List D) (i : Nat), (enumD i xs).length = xs.length
  | [], _ => rfl
  | _ :: r, i => by show (enumD (i + 1) r).length + 1 = _; rw [enumD_length r]; rfl
theorem enumD_get : ∀ (xs : List D) (i k : Nat) (d : D), (enumD i xs)[k]? = some d → ∃ x, xs[k]? = some x ∧ d = .tup [.int ((i + k : Nat) : Int), x]
  | [], _, _, _, e => by cases e
  | x :: r, i, 0, d, e => by cases e; exact ⟨x, rfl, rfl⟩
  | x :: r, i, k + 1, d, e => by
    obtain ⟨y, h1, h2⟩ := enumD_get r (i + 1) k d e
    exact ⟨y, h1, by rw [h2]; congr 3; omega⟩
def enum1 : List P → Option (List D)
  | [.d (.lst xs)] => some (enumD 0 xs)
  | _ => none
theorem itok_enum {G : Hp} {a : Addr} {vs : List V} {xs : List D} (h : G a = some (.lst vs)) (r : RVs X.K X.mg G xs vs) : ItOk X.K X.mg G (Ite X.K a) (enumD 0 xs) := by
  have hq : ∀ H, Sub G H → SqL X.K H a vs := fun H s => .inl (.inl (s _ _ h))
  refine ⟨fun i H s hi => ?_, fun i H s hi => ?_, fun i H x H' d s e y => ?_⟩
  · rw [enumD_length] at hi
    have hi' : i < vs.length := by rw [← r.length]; exact hi
    exact ⟨vs, vs[i], hq H s, List.getElem?_eq_getElem hi'⟩
  · rw [enumD_length] at hi
    exact ⟨vs, hq H s, by rw [hi, r.length]; exact Nat.le_refl _⟩
  · obtain ⟨T, x', rfl, nT, rfl, f⟩ := y
    obtain ⟨z, e1, rfl⟩ := enumD_get xs 0 i d e
    obtain ⟨v, e2, rv⟩ := r.get e1
    have := f vs (hq H s)
    rw [e2] at this
    cases this
    exact .inr ⟨T, _, _, nT, rfl, rfl, rfl, .cons (by rw [Nat.zero_add]; exact .int _) (.cons rv .nil)⟩
theorem ji_enum {e : Expr} {a : MA} {p pos tpos : Pos} {elts : List Expr} {kk : Nat} (hg : Gl X "enumerate") (hm : X.mg "enumerate" = none) (ha : JA X W [e] a) (hs : starEach [e] X.env = [(false, eval e X.env)] := by rfl) :
    JI X W (.Tuple elts kk tpos) (.Call (.Name "enumerate" p) [e] [] pos) (mItA enum1 a) := fun g => by
  refine pi_imp (pi_enum hg hm (ha g) hs) fun σ H R h => ?_
  obtain ⟨S, G, r, h⟩ := h
  refine ⟨S, G, r, po_itA h fun ps ds S1 G1 H1 vs e s1 r1 rps h => ?_⟩
  unfold enum1 at e
  split at e
  · cases e
    cases rps with
    | cons hx t =>
      cases t
      cases hx with
      | lst hq rr => exact ⟨_, _, rfl, .inl (.inl (r1.sub _ _ hq)), h _ (itok_enum hq rr)⟩
  · cases e
def zipD : List D → List D → List D
  | x :: r, y :: t => .tup [x, y] :: zipD r t
  | _, _ => []
theorem zipD_length : ∀ (xs ys : List D), (zipD xs ys).length = min xs.length ys.length
  | [], ys => by simp [zipD]
  | x :: r, [] => by simp [zipD]
  | x :: r, y :: t => by
    show (zipD r t).length + 1 = _
    rw [zipD_length r t, List.length_cons, List.length_cons]
    omega
theorem zipD_get : ∀ (xs ys : List D) (k : Nat) (d : D), (zipD xs ys)[k]? = some d → ∃ x y, xs[k]? = some x ∧ ys[k]? = some y ∧ d = .tup [x, y]
  | [], ys, _, _, e => by cases e
  | x :: r, [], _, _, e => by cases e
  | x :: r, y :: t, 0, d, e => by cases e; exact ⟨x, y, rfl, rfl, rfl⟩
  | x :: r, y :: t, k + 1, d, e => zipD_get r t k d e
def zip2 : List P → Option (List D)
  | [.d (.lst xs), .d (.lst ys)] => some (zipD xs ys)
  | [.d (.tup xs), .d (.tup ys)] => some (zipD xs ys)
  | _ => none
theorem itok_zip {G : Hp} {a b : Addr} {vs ws : List V} {xs ys : List D} (h : G a = some (.lst vs)) (r : RVs X.K X.mg G xs vs) (h2 : G b = some (.lst ws)) (r2 : RVs X.K X.mg G ys ws) : ItOk X.K X.mg G (Itz X.K a b) (zipD xs ys) := by
  have hq : ∀ H, Sub G H → SqL X.K H a vs := fun H s => .inl (.inl (s _ _ h))
  have hq2 : ∀ H, Sub G H → SqL X.K H b ws := fun H s => .inl (.inl (s _ _ h2))
  have l1 := r.length
  have l2 := r2.length
  refine ⟨fun i H s hi => ?_, fun i H s hi => ?_, fun i H x H' d s e y => ?_⟩
  · rw [zipD_length] at hi
    have hi1 : i < vs.length := by omega
    have hi2 : i < ws.length := by omega
    exact ⟨vs, ws, vs[i], ws[i], hq H s, hq2 H s, List.getElem?_eq_getElem hi1, List.getElem?_eq_getElem hi2⟩
  · rw [zipD_length] at hi
    exact ⟨vs, ws, hq H s, hq2 H s, by omega⟩
  · obtain ⟨T, x', y', rfl, nT, rfl, f1, f2⟩ := y
    obtain ⟨z1, z2, e1, e2, rfl⟩ := zipD_get xs ys i d e
    obtain ⟨v, e3, rv⟩ := r.get e1
    obtain ⟨w, e4, rw'⟩ := r2.get e2
    have q1 := f1 vs (hq H s)
    have q2 := f2 ws (hq2 H s)
    rw [e3] at q1
    rw [e4] at q2
    cases q1
    cases q2
    exact .inr ⟨T, _, _, nT, rfl, rfl, rfl, .cons rv (.cons rw' .nil)⟩
theorem itok_zipT {G : Hp} {a b : Addr} {vs ws : List V} {xs ys : List D} (h : SqT X.K G a vs) (r : RVs X.K X.mg G xs vs) (h2 : SqT X.K G b ws) (r2 : RVs X.K X.mg G ys ws) : ItOk X.K X.mg G (RZ.ItzT X.K a b) (zipD xs ys) := by
  have l1 := r.length
  have l2 := r2.length
  refine ⟨fun i H s hi => ?_, fun i H s hi => ?_, fun i H x H' d s e y => ?_⟩
  · rw [zipD_length] at hi
    have hi1 : i < vs.length := by omega
    have hi2 : i < ws.length := by omega
    exact ⟨vs, ws, vs[i], ws[i], s.sqT h, s.sqT h2, List.getElem?_eq_getElem hi1, List.getElem?_eq_getElem hi2⟩
  · rw [zipD_length] at hi
    exact ⟨vs, ws, s.sqT h, s.sqT h2, by omega⟩
  · obtain ⟨T, x', y', rfl, nT, rfl, f1, f2⟩ := y
    obtain ⟨z1, z2, e1, e2, rfl⟩ := zipD_get xs ys i d e
    obtain ⟨v, e3, rv⟩ := r.get e1
    obtain ⟨w, e4, rw'⟩ := r2.get e2
    have q1 := f1 vs (s.sqT h)
    have q2 := f2 ws (s.sqT h2)
    rw [e3] at q1
    rw [e4] at q2
    cases q1
    cases q2
    exact .inr ⟨T, _, _, nT, rfl, rfl, rfl, .cons rv (.cons rw' .nil)⟩
theorem ji_zip {e e2 : Expr} {a : MA} {p pos tpos : Pos} {elts : List Expr} {kk : Nat} (hg : Gl X "zip") (hm : X.mg "zip" = none) (ha : JA X W [e, e2] a)
    (hs : starEach [e, e2] X.env = (false, eval e X.env) :: starEach [e2] X.env := by rfl) (hpl : (backTo pos (starEach [e2] X.env)).any (·.1) = false := by rfl) :
    JI X W (.Tuple elts kk tpos) (.Call (.Name "zip" p) [e, e2] [] pos) (mItA zip2 a) := fun g => by
  refine pi_imp (RZ.pi_zipA hg hm (ha g) hs hpl) fun σ H R h => ?_
  obtain ⟨S, G, r, h⟩ := h
  refine ⟨S, G, r, po_itA h fun ps ds S1 G1 H1 vs e s1 r1 rps h => ?_⟩
  unfold zip2 at e
  split at e
  · cases e
    cases rps with
    | cons hx t =>
      cases t with
      | cons hy t =>
        cases t
        cases hx with
        | lst hq rr =>
          cases hy with
          | lst hq2 rr2 => exact ⟨_, _, _, _, rfl, .inl ⟨.inl (.inl (r1.sub _ _ hq)), .inl (.inl (r1.sub _ _ hq2)), h _ (itok_zip hq rr hq2 rr2)⟩⟩
  · cases e
    cases rps with
    | cons hx t =>
      cases t with
      | cons hy t =>
        cases t
        cases hx with
        | tup hq rr =>
          cases hy with
          | tup hq2 rr2 => exact ⟨_, _, _, _, rfl, .inr ⟨r1.sub.sqT hq, r1.sub.sqT hq2, h _ (itok_zipT hq rr hq2 rr2)⟩⟩
  · cases e
end
end Mw

set_option Elab.async false
set_option linter.all false
set_option maxRecDepth 100000
/-! Mw, part J: defs by their names, the law's end. -/
namespace Mw
open PySem PySem.Spec PyProof.Rows L2
theorem takesN {X : Cx} : L2N.Takes X noW := fun _ _ x => by
  obtain ⟨_, _, _, _, _, _, _, _, _, _, _, _, _, _, _, _, z⟩ := x
  exact z.elim
/-- the def named x, as the row has it -/
structure DefF (K : PySem.W.Frag) (mg : Str → Option Value) (x : Str) (st : Stmt) : Prop where
  fd : ∃ fd, FunD K x x (defArgs st) (defBody st) (defScope st) [] [] (He.ga K x) fd
  mg : mg x = some (.ref (He.ga K x))
/-- the def named x keeps F's promise -/
structure Ok (P : Program) (w : World) (K : PySem.W.Frag) (mg : Str → Option Value) (base : Heap) (k : Nat) (x : Str) (n : Nat) (F : Fn) : Prop where
  ex : ∃ fd ps, FnOk P w K mg base (L2N.CX P w) k (He.ga K x) fd ps (spF K mg n F) ∧ Binds K fd ps []
  mg : mg x = some (.ref (He.ga K x))
  kp : PySem.W.keepIn K (.ref (He.ga K x)) = true
theorem je_callO {X : Cx} {W : WX} {F : Fn} {a : MA} {n k : Nat} {x : Str} {p pos : Pos} {e : Expr} {es : List Expr} (ok : Ok X.prog X.w X.K X.mg X.base k x n F) (hr : Room k X.A) (tk : L2N.Takes X W) (hg : Gl X x) (hn : MA.len a n) (ha : JA X W (e :: es) a) (hdb : (x == ("__debug__" : Str)) = false := by decide)
    (he : starEach (e :: es) X.env = (false, eval e X.env) :: starEach es X.env := by rfl) (hpl : (backTo pos (starEach es X.env)).any (·.1) = false := by rfl) : JE X W (.Call (.Name x p) (e :: es) [] pos) (mCall F a) := by
  obtain ⟨fd, ps, h1, h2⟩ := ok.ex
  exact je_call h1 hr tk hg ok.mg ok.kp h2 hn ha hdb he hpl
theorem units65 {k : Nat} {A : Around} (r : Room k A) : A.units + 65 < cLine := by have := r.un; omega
/-- a body over its own context: what its rules ask is at hand -/
def BodyOk (P : Program) (w : World) (K : PySem.W.Frag) (mg : Str → Option Value) (base : Heap) (k : Nat) (x : Str) (st : Stmt) (f : Addr) (N : List Str) (b : MS) : Prop :=
  ∀ (cdv : Value) (A : Around) (outer : List Env) (s : Shared) (H : Hp) (E : XK), cdv = .ref (He.cT K (x, none)).1 → Room k (cxOf (L2N.CX P w) P w K mg base N x (defScope st) f cdv A outer s H E).A →
    L2N.Takes (cxOf (L2N.CX P w) P w K mg base N x (defScope st) f cdv A outer s H E) (fun cls d _ H => E cls d H) →
    PassesOwn (model P w) (cxOf (L2N.CX P w) P w K mg base N x (defScope st) f cdv A outer s H E).A (cxOf (L2N.CX P w) P w K mg base N x (defScope st) f cdv A outer s H E).env (cxOf (L2N.CX P w) P w K mg base N x (defScope st) f cdv A outer s H E).xe →
    (cxOf (L2N.CX P w) P w K mg base N x (defScope st) f cdv A outer s H E).A.units + 64 < cLine → (cxOf (L2N.CX P w) P w K mg base N x (defScope st) f cdv A outer s H E).A.units + 65 < cLine →
    JSs (cxOf (L2N.CX P w) P w K mg base N x (defScope st) f cdv A outer s H E) (fun cls d _ H => E cls d H) (defBody st) b
theorem fnD_ok {P : Program} {w : World} {K : PySem.W.Frag} {mg : Str → Option Value} {base : Heap} {x : Str} {st : Stmt} {dvs : List V} {kws : List (Str × V)} {fd : FuncData} {k : Nat} {N ps : List Str} {b : MS}
    (F : FunD K x x (defArgs st) (defBody st) (defScope st) dvs kws (He.ga K x) fd) (Sc : FnScope N ps (defScope st)) (hb : BodyOk P w K mg base k x st (He.ga K x) N b) :
    FnOk P w K mg base (L2N.CX P w) (k + 1) (He.ga K x) fd ps (spF K mg ps.length (mkFn N.length b)) :=
  fn_ok F Sc fun cdv A outer s H E hc hr => hb cdv A outer s H E (by
    obtain ⟨oc, od, osl, lk, e, hi⟩ := hc
    obtain ⟨c, rfl⟩ := He.codeIn_ref hi
    exact congrArg Value.ref (He.codeOf_eq (p := (x, none)) lk e).symm) hr (L2N.takes_of rfl rfl rfl rfl) (passes_of rfl) hr.units (units65 hr)
theorem ok_of {P : Program} {w : World} {K : PySem.W.Frag} {mg : Str → Option Value} {base : Heap} {x : Str} {st : Stmt} {k : Nat} {N ps : List Str} {b : MS} (F : DefF K mg x st) (Sc : FnScope N ps (defScope st))
    (hbind : ∀ {fd : FuncData}, FunD K x x (defArgs st) (defBody st) (defScope st) [] [] (He.ga K x) fd → Binds K fd ps []) (hb : BodyOk P w K mg base k x st (He.ga K x) N b) :
    Ok P w K mg base (k + 1) x ps.length (mkFn N.length b) := by
  obtain ⟨fd, F1⟩ := F.fd
  exact ⟨⟨fd, ps, fnD_ok F1 Sc hb, hbind F1⟩, F.mg, F1.kp⟩
/-- the law's promise: whatever the script, True -/
def spLaw (K : PySem.W.Frag) : Sp := fun vs H Q _ => ∃ (a : Addr) (ns : List Int), vs = [.ref a] ∧ SqL K H a (ns.map V.int) ∧ ns.length ≤ 63 ∧ (∀ p ∈ tbs K, H p.1 = some (.tbl #[])) ∧ ∀ H', Q (.bl true) H'
/-- all but the tables -/
def noT (H : Hp) : Hp := fun a => match H a with
  | some (.tbl _) => none
  | o => o
theorem noT_sub (H : Hp) : Sub (noT H) H := fun a o e => by
  unfold noT at e
  split at e
  · cases e
  · exact e
theorem noT_get {H : Hp} {a : Addr} {o : HO} (h : H a = some o) (n : ∀ ps, o ≠ .tbl ps) : noT H a = some o := by
  unfold noT
  rw [h]
  split
  · rename_i ps e; exact absurd (Option.some.inj e) (n ps)
  · rfl
theorem noT_nt (H : Hp) : ∀ a ps, noT H a ≠ some (.tbl ps) := fun a ps e => by
  unfold noT at e
  split at e
  · cases e
  · rename_i h; exact h ps e
theorem law_ok {P : Program} {w : World} {K : PySem.W.Frag} {mg : Str → Option Value} {base : Heap} {k : Nat} {f : Addr} {fd : FuncData} {ps : List Str} {F : Fn} (h : FnOk P w K mg base (L2N.CX P w) k f fd ps (spF K mg 1 F)) (hF : ∀ ns : List Int, ns.length ≤ 63 → ∃ S, F [.d (.scr ns)] = .ok (.bl true) S) :
    FnOk P w K mg base (L2N.CX P w) k f fd ps (spLaw K) := by
  refine h.imp fun vs H Q E q => ?_
  obtain ⟨a, ns, rfl, ha, hl, ht, q⟩ := q
  obtain ⟨S, e⟩ := hF ns hl
  have ha' : SqL K (noT H) a (ns.map V.int) := by
    rcases ha with (ha | ⟨o, ha⟩) | ha
    · exact .inl (.inl (noT_get ha fun _ z => by cases z))
    · exact .inl (.inr ⟨o, noT_get ha fun _ z => by cases z⟩)
    · exact .inr ha
  refine ⟨noT H, [.d (.scr ns)], rfl, ⟨rfl, noT_sub H, fun i s es => ?_, fun i j b h1 h2 => ?_, fun ⟨i, fs, e⟩ => ?_, fun p hp => LamX.TabS.nil (ht p hp), noT_nt H⟩, ?_⟩
  · cases i with
    | zero => cases es; exact ⟨_, rfl, .scr ha'⟩
    | succ i => cases es
  · obtain ⟨s, r, es, _, f⟩ := h1
    cases i with
    | zero => cases es; exact f.elim
    | succ i => cases es
  · cases i with
    | zero => cases e
    | succ i => cases e
  · rw [e]
    intro G' H' v _ rv
    cases rv
    exact q H'
/-- the end of a law row: the written part by the heap, the tables -/
theorem walkT {l : PySem.W.OpenLaw} {n k : Nat} {q : Program} {loose : List Str} {XP : (Str → Option Value) → Heap → Prop} {YP : World → Heap → Prop} {d : DefRec} {x : Str} (hn : l.most = some n) (hn2 : n ≤ sizeLine) (hdf : d.params.defaults = []) (hr : Room k callerA)
    (F : ∀ (w : World) (mg : Str → Option Value) (fa : Addr) (h : Heap), YP w h → h.Ns mainGlobals mg → mg d.name = some (.ref fa) → ∃ K : PySem.W.Frag, K.In h ∧ LamX.LawAtS l w K (L2N.CX l.prog w) k n x mg fa h) :
    PySem.W.WalkO q loose XP YP l.row.toRowW d [] (fun f vs => PySem.call f vs) := by
  refine Att.attach_callB hn hdf fun w s₀ s₁ mg mb fa o pm cd doc a vs ns G Y ho hd hcd hmg hobj hints hlen hbits hg => ?_
  obtain ⟨K, KX, fd, cs, sp, hT, nT, C, hb, hsp, hF⟩ := F w mg fa _ Y G.T.g hmg
  refine LamX.law_callTs KX G.T.g G.T.b G.T.builtins G.T.nolimit hg hT nT C G.T.bmain hobj hints (Nat.le_trans hlen hn2) hr hF hb (fun H hH hS => hsp H a ns hlen hbits hH hS) fun H e s' z => ?_
  obtain ⟨_, _, _, _, _, _, _, _, _, _, _, _, z⟩ := z
  exact z
end Mw

set_option Elab.async false
set_option linter.all false
set_option maxRecDepth 100000
/-! Mw, part S: the combinators at work, by simp. -/
namespace Mw
open PySem L2
def Res.val {α : Type} : Res α → Option α
  | .ok a _ => some a
  | _ => none
@[simp] theorem bind_ok {α β : Type} (a : α) (S : Sg) (f : α → Sg → Res β) : (Res.ok a S).bind f = f a S := rfl
@[simp] theorem bind_bad {α β : Type} (f : α → Sg → Res β) : (Res.bad : Res α).bind f = .bad := rfl
@[simp] theorem bind_exc {α β : Type} (c : Str) (S : Sg) (f : α → Sg → Res β) : (Res.exc c S : Res α).bind f = .exc c S := rfl
@[simp] theorem nox_ok {α : Type} (a : α) (S : Sg) : (Res.ok a S).nox = .ok a S := rfl
@[simp] theorem val_ok {α : Type} (a : α) (S : Sg) : (Res.ok a S).val = some a := rfl
theorem val_some {α : Type} {r : Res α} {a : α} (h : r.val = some a) : ∃ S, r = .ok a S := by
  cases r with
  | ok b S => cases h; exact ⟨S, rfl⟩
  | exc c S => cases h
  | bad => cases h
/-- a call whose arguments are data -/
theorem mCall_val {F : Fn} {a : MA} {S S1 : Sg} {ps : List P} {args : Sg} {x : D} (h1 : a S = .ok ps S1) (h2 : argsOf S1 ps = some args) (h3 : idxs ps = []) (h4 : (F args).val = some x) : mCall F a S = .ok (.d x) S1 := by
  obtain ⟨O, e⟩ := val_some h4
  unfold mCall
  rw [h1]
  simp only [bind_ok, h2, h3, e]
  have : ∀ (ps : List P) (O S : Sg), idxs ps = [] → putB S ps O = some S := by
    intro ps
    induction ps with
    | nil => intro O S _; cases O <;> rfl
    | cons p r ih =>
      intro O S h
      cases p with
      | d x => exact ih O.tail S h
      | s i => cases h
  rw [this ps O S1 h3]
  rfl
theorem outs_nos : ∀ {args : Sg} {S : Sg}, (args.all fun a => !a.own) = true → outsOf args S = args.map fun _ => .no
  | [], _, _ => rfl
  | a :: r, S, h => by
    simp only [List.all_cons, Bool.and_eq_true, Bool.not_eq_true'] at h
    show (if a.own then S.headD .no else .no) :: outsOf r S.tail = _
    rw [h.1, outs_nos h.2]
    rfl
/-- a def whose arguments are data, as an equation -/
theorem pure_eq {n : Nat} {b : MS} {args : Sg} {x : D} (h : (mkFn n b args).val = some x) (hd : (args.all fun a => !a.own) = true) : mkFn n b args = .ok x (args.map fun _ => .no) := by
  unfold mkFn at h ⊢
  split at h
  · rename_i e; cases h; rw [outs_nos hd]
  · rename_i e; cases h; rw [outs_nos hd]
  · cases h
  · cases h
theorem seq_ok {a b : MS} {S S1 : Sg} (h : a S = .ok .nx S1) : mSeq a b S = b S1 := by unfold mSeq; rw [h]; rfl
theorem fn_rt {n : Nat} {b : MS} {args S : Sg} {x : D} (h : b (args ++ List.replicate (n - args.length) .no) = .ok (.rt x) S) : mkFn n b args = .ok x (outsOf args S) := by unfold mkFn; rw [h]
theorem fn_nx {n : Nat} {b : MS} {args S : Sg} (h : b (args ++ List.replicate (n - args.length) .no) = .ok .nx S) : mkFn n b args = .ok .non (outsOf args S) := by unfold mkFn; rw [h]
theorem if_no {c : MT} {a b : MS} {S S1 : Sg} (h : c S = .ok false S1) : mIfS c a b S = b S1 := by unfold mIfS; rw [h]; rfl
theorem if_yes {c : MT} {a b : MS} {S S1 : Sg} (h : c S = .ok true S1) : mIfS c a b S = a S1 := by unfold mIfS; rw [h]; rfl
theorem for_ok {mi : MI} {mt : D → Sg → Option Sg} {b : MS} {S S1 : Sg} {ds : List D} (h : mi S = .ok ds S1) : mFor mi mt b S = forL mt b ds S1 := by unfold mFor; rw [h]; rfl
theorem forL_nx {mt : D → Sg → Option Sg} {b : MS} {d : D} {ds : List D} {S S1 S2 : Sg} (h1 : mt d S = some S1) (h2 : b S1 = .ok .nx S2) : forL mt b (d :: ds) S = forL mt b ds S2 := by
  show (match mt d S with | none => _ | some S1 => _) = _
  rw [h1]
  simp only [h2, bind_ok]
@[simp] theorem noxb {α : Type} : (Res.bad : Res α).nox = .bad := rfl
end Mw

set_option Elab.async false
set_option linter.all false
set_option maxRecDepth 100000
set_option maxHeartbeats 4000000
namespace Mw
open PySem L2
def F_law_cell_at : Fn := mkFn 4 (mSeq (mIfS (mTruth boolP (mBin cLt (mVar 1) (mCB bLen (mCons (mVar 0) mNil)))) (mRet (mBin opIdx (mVar 0) (mVar 1))) mSkip)
  (mSeq (mIfS (mTruth boolP (mBin (cEqP false) (mVar 0) (mDat (mLst mNil)))) (mRet (mC (.int 0))) mSkip)
  (mSeq (mSet 2 (mBin opIdx (mVar 0) (mBin opMod (mVar 1) (mCB bLen (mCons (mVar 0) mNil)))))
  (mSeq (mFor (mItA rng1 (mCons (mCB bMin (mCons (mBin opFdiv (mVar 1) (mCB bLen (mCons (mVar 0) mNil))) (mCons (mC (.int 60)) mNil))) mNil)) (gtName 3) (mSet 2 (mBin opFdiv (mVar 2) (mC (.int 1000003)))))
  (mRet (mBin opAdd (mBin opAdd (mBin opMul (mBin opIdx (mVar 0) (mBin opMod (mVar 1) (mCB bLen (mCons (mVar 0) mNil)))) (mC (.int 31))) (mVar 1)) (mBin opMul (mVar 2) (mC (.int 101)))))))))
def F_law_mixed : Fn := mkFn 4 (mSeq (mSet 3 (mBin opMod (mBin opAdd (mBin opAdd (mBin opMul (mCall F_law_cell_at (mCons (mVar 0) (mCons (mVar 1) mNil))) (mC (.int 1103515245))) (mBin opMul (mC (.int 7919)) (mVar 1))) (mC (.int 12345))) (mC (.int 2147483647))))
  (mRet (mBin opMod (mBin opMod (mBin opMod (mBin opPow (mVar 3) (mC (.int 5))) (mC (.int 2147483647))) (mC (.int 999983))) (mVar 2))))
def F_law_draw : Fn := mkFn 3 (mSeq (mExpr (mMeth 1 fAppend (mCons (mC (.int 0)) mNil)))
  (mRet (mCall F_law_mixed (mCons (mVar 0) (mCons (mCB bLen (mCons (mVar 1) mNil)) (mCons (mVar 2) mNil))))))
end Mw

set_option Elab.async false
set_option linter.all false
set_option maxRecDepth 100000
set_option maxHeartbeats 4000000
/-! Draws: whatever the script, a number below the bound. -/
namespace Mw
open PySem L2
theorem fmod_lt {a b : Int} (h : 0 < b) : 0 ≤ a.fmod b ∧ a.fmod b < b := by
  rw [Int.fmod_eq_emod_of_nonneg a (by omega)]
  exact ⟨Int.emod_nonneg a (by omega), Int.emod_lt_of_pos a h⟩
theorem mixed_ok (ns : List Int) (k v b : Int) (h : (F_law_cell_at [.d (.scr ns), .d (.int k)]).val = some (.int v)) (hb : 0 < b) : ∃ d : Int, 0 ≤ d ∧ d < b ∧ (F_law_mixed [.d (.scr ns), .d (.int k), .d (.int b)]).val = some (.int d) := by
  obtain ⟨S, e⟩ := val_some h
  have hx := fmod_lt (a := v * 1103515245 + 7919 * k + 12345) (b := 2147483647) (by decide)
  have hs : ((v * 1103515245 + 7919 * k + 12345).fmod 2147483647).natAbs < 18446744073709551616 := by omega
  have hb0 : ¬ b = 0 := by omega
  refine ⟨((((v * 1103515245 + 7919 * k + 12345).fmod 2147483647 ^ 5).fmod 2147483647).fmod 999983).fmod b, (fmod_lt hb).1, (fmod_lt hb).2, ?_⟩
  simp [F_law_mixed, mkFn, outsOf, Sl.own, mSeq, mSkip, mExpr, mRet, mIfS, mSet, mSetN, mVar, mFrz, mC, mBin, mUn, mNil, mCons, allD, sizeOk, mTup, mLst, mDat, mTruth, truP, boolP, mAndT, mOrT, mNotT, mAndV, mOrV, notP, mIf, lstOf, seqOf, mulOk, opAdd, opSub, opMul, opFdiv, opMod, opPow, opNeg, cInt, datOf, cEqP, cIsQ, cIsP, D.isNon, opIdx, mChain, mCB, bLen, bAbs, bMax, bMin, bSum, bAll, bAny, bInt, bTuple, mCN, bList, mPart, mSl, opSl, Ty.sub, tyOf, isiP, gtName, gtNil, gtCons, gtTup, mAsg, seqItems, walkItems, mItSeq, rng1, rng2, mItA, mFor, mLc, mYes, wipeS, backS, argOf, argsOf, idxs, putO, putB, mCall, mMeth, fAppend, fExtend, fPop, fPopAt, putAt, mSetItem, mAug, iI, xNil, xD, xN, Nw.sl, putN, mPar, enum1, zip2, e, hs, hb0]
theorem shaped_ints (ns : List Int) : SeqAt.shaped (.list (ns.map PyData.int)) = true := by
  have h1 : ∀ l : List Int, PyData.canLayAll0 (l.map PyData.int) = true := by
    intro l
    induction l with
    | nil => rfl
    | cons a r ih => simp only [List.map_cons, PyData.canLayAll0, PyData.canLay0, ih, Bool.and_self]
  have h2 : ∀ l : List Int, PyData.depthAll (l.map PyData.int) ≤ 1 := by
    intro l
    induction l with
    | nil => decide
    | cons a r ih => simp only [List.map_cons, PyData.depthAll, PyData.depth]; omega
  unfold SeqAt.shaped
  have := h2 ns
  simp only [PyData.canLay0, h1, Bool.true_and, PyData.depth, decide_eq_true_eq, Nat.reduceLeDiff]
  omega
theorem spare_loop (ns : List Int) (k : Int) : ∀ (m : Nat) (lo : Int) (v w : Int), ∃ u w' : Int, forL (gtName 3) (mSet 2 (mBin opFdiv (mVar 2) (mC (.int 1000003)))) (rngD lo m) [.d (.scr ns), .d (.int k), .d (.int v), .d (.int w)] = .ok .nx [.d (.scr ns), .d (.int k), .d (.int u), .d (.int w')]
  | 0, lo, v, w => ⟨v, w, rfl⟩
  | m + 1, lo, v, w => by
    obtain ⟨u, w', e⟩ := spare_loop ns k m (lo + 1) (v.fdiv 1000003) lo
    refine ⟨u, w', ?_⟩
    simp [rngD, forL, mkFn, outsOf, Sl.own, mSeq, mSkip, mExpr, mRet, mIfS, mSet, mSetN, mVar, mFrz, mC, mBin, mUn, mNil, mCons, allD, sizeOk, mTup, mLst, mDat, mTruth, truP, boolP, mAndT, mOrT, mNotT, mAndV, mOrV, notP, mIf, lstOf, seqOf, mulOk, opAdd, opSub, opMul, opFdiv, opMod, opPow, opNeg, cInt, datOf, cEqP, cIsQ, cIsP, D.isNon, opIdx, mChain, mCB, bLen, bAbs, bMax, bMin, bSum, bAll, bAny, bInt, bTuple, mCN, bList, mPart, mSl, opSl, Ty.sub, tyOf, isiP, gtName, gtNil, gtCons, gtTup, mAsg, seqItems, walkItems, mItSeq, rng1, rng2, mItA, mFor, mLc, mYes, wipeS, backS, argOf, argsOf, idxs, putO, putB, mCall, mMeth, fAppend, fExtend, fPop, fPopAt, putAt, mSetItem, mAug, iI, xNil, xD, xN, Nw.sl, putN, mPar, enum1, zip2]
    exact e
theorem spare_loop0 (ns : List Int) (k : Int) (m : Nat) (lo v : Int) : ∃ (u : Int) (s : Sl), forL (gtName 3) (mSet 2 (mBin opFdiv (mVar 2) (mC (.int 1000003)))) (rngD lo m) [.d (.scr ns), .d (.int k), .d (.int v), .no] = .ok .nx [.d (.scr ns), .d (.int k), .d (.int u), s] := by
  cases m with
  | zero => exact ⟨v, .no, rfl⟩
  | succ m =>
    obtain ⟨u, w', e⟩ := spare_loop ns k m (lo + 1) (v.fdiv 1000003) lo
    refine ⟨u, .d (.int w'), ?_⟩
    simp [rngD, forL, mkFn, outsOf, Sl.own, mSeq, mSkip, mExpr, mRet, mIfS, mSet, mSetN, mVar, mFrz, mC, mBin, mUn, mNil, mCons, allD, sizeOk, mTup, mLst, mDat, mTruth, truP, boolP, mAndT, mOrT, mNotT, mAndV, mOrV, notP, mIf, lstOf, seqOf, mulOk, opAdd, opSub, opMul, opFdiv, opMod, opPow, opNeg, cInt, datOf, cEqP, cIsQ, cIsP, D.isNon, opIdx, mChain, mCB, bLen, bAbs, bMax, bMin, bSum, bAll, bAny, bInt, bTuple, mCN, bList, mPart, mSl, opSl, Ty.sub, tyOf, isiP, gtName, gtNil, gtCons, gtTup, mAsg, seqItems, walkItems, mItSeq, rng1, rng2, mItA, mFor, mLc, mYes, wipeS, backS, argOf, argsOf, idxs, putO, putB, mCall, mMeth, fAppend, fExtend, fPop, fPopAt, putAt, mSetItem, mAug, iI, xNil, xD, xN, Nw.sl, putN, mPar, enum1, zip2]
    exact e
theorem atI_lt {α : Type} {xs : List α} {i : Int} (h0 : 0 ≤ i) (h1 : i < xs.length) : ∃ x, atI xs i = some x ∧ xs[i.toNat]? = some x := by
  have hi : i.toNat < xs.length := by omega
  have e : (i.toNat : Int) = i := by omega
  refine ⟨xs[i.toNat], ?_, List.getElem?_eq_getElem hi⟩
  have := atI_nat (xs := xs) (j := i.toNat) (List.getElem?_eq_getElem hi)
  rw [e] at this
  exact this
theorem cell_ok (ns : List Int) (hl : ns.length ≤ 63) (k : Int) (h0 : 0 ≤ k) (hk : k < 2 ^ 40) : ∃ v : Int, (F_law_cell_at [.d (.scr ns), .d (.int k)]).val = some (.int v) := by
  by_cases h1 : k < (ns.length : Int)
  · obtain ⟨x, e, e2⟩ := atI_lt (xs := ns.map D.int) h0 (by rw [List.length_map]; exact h1)
    rw [List.getElem?_map] at e2
    obtain ⟨n, _, rfl⟩ := Option.map_eq_some_iff.mp e2
    exact ⟨n, by simp [F_law_cell_at, mkFn, outsOf, Sl.own, mSeq, mSkip, mExpr, mRet, mIfS, mSet, mSetN, mVar, mFrz, mC, mBin, mUn, mNil, mCons, allD, sizeOk, mTup, mLst, mDat, mTruth, truP, boolP, mAndT, mOrT, mNotT, mAndV, mOrV, notP, mIf, lstOf, seqOf, mulOk, opAdd, opSub, opMul, opFdiv, opMod, opPow, opNeg, cInt, datOf, cEqP, cIsQ, cIsP, D.isNon, opIdx, mChain, mCB, bLen, bAbs, bMax, bMin, bSum, bAll, bAny, bInt, bTuple, mCN, bList, mPart, mSl, opSl, Ty.sub, tyOf, isiP, gtName, gtNil, gtCons, gtTup, mAsg, seqItems, walkItems, mItSeq, rng1, rng2, mItA, mFor, mLc, mYes, wipeS, backS, argOf, argsOf, idxs, putO, putB, mCall, mMeth, fAppend, fExtend, fPop, fPopAt, putAt, mSetItem, mAug, iI, xNil, xD, xN, Nw.sl, putN, mPar, enum1, zip2, h1, e]⟩
  · cases ns with
    | nil =>
      have hk : ¬ (k < 0) := by omega
      exact ⟨0, by simp [F_law_cell_at, mkFn, outsOf, Sl.own, mSeq, mSkip, mExpr, mRet, mIfS, mSet, mSetN, mVar, mFrz, mC, mBin, mUn, mNil, mCons, allD, sizeOk, mTup, mLst, mDat, mTruth, truP, boolP, mAndT, mOrT, mNotT, mAndV, mOrV, notP, mIf, lstOf, seqOf, mulOk, opAdd, opSub, opMul, opFdiv, opMod, opPow, opNeg, cInt, datOf, cEqP, cIsQ, cIsP, D.isNon, opIdx, mChain, mCB, bLen, bAbs, bMax, bMin, bSum, bAll, bAny, bInt, bTuple, mCN, bList, mPart, mSl, opSl, Ty.sub, tyOf, isiP, gtName, gtNil, gtCons, gtTup, mAsg, seqItems, walkItems, mItSeq, rng1, rng2, mItA, mFor, mLc, mYes, wipeS, backS, argOf, argsOf, idxs, putO, putB, mCall, mMeth, fAppend, fExtend, fPop, fPopAt, putAt, mSetItem, mAug, iI, xNil, xD, xN, Nw.sl, putN, mPar, enum1, zip2, hk, D.py, pys, SeqAt.shaped, PyData.canLay0, PyData.canLayAll0, PyData.depth, PyData.depthAll, PyData.eqv, PyData.eqvAll]⟩
    | cons a r =>
      have hL : (0 : Int) < ((a :: r).length : Int) := by rw [List.length_cons]; omega
      have hm := fmod_lt (a := k) hL
      obtain ⟨x, e, e2⟩ := atI_lt (xs := (a :: r).map D.int) hm.1 (by rw [List.length_map]; exact hm.2)
      rw [List.getElem?_map] at e2
      obtain ⟨n, _, rfl⟩ := Option.map_eq_some_iff.mp e2
      have sh := shaped_ints (a :: r)
      have hne : ¬ ((a :: r).length : Int) = 0 := by omega
      have hnb : ((a :: r).length : Int).natAbs < 1073741824 := by omega
      generalize hq : k.fdiv ((a :: r).length : Int) = q
      generalize hM : (if (60 : Int) < q then 60 else q) = M
      have hM1 : M ≤ 60 := by subst hM; split <;> omega
      have hq0 : 0 ≤ q := by
        rw [← hq, Int.fdiv_eq_ediv_of_nonneg _ (by omega)]
        exact Int.ediv_nonneg h0 (by omega)
      have hM0 : 0 ≤ M := by subst hM; split <;> omega
      obtain ⟨u, s, el⟩ := spare_loop0 (a :: r) k M.toNat 0 n
      refine ⟨n * 31 + k + u * 101, ?_⟩
      have hr : rngOk M = true := by unfold rngOk; simp; omega
      have hlen : ((a :: r).map D.int).length = (a :: r).length := List.length_map ..
      have heq : PyData.eqv (D.py (.scr (a :: r))) (D.py (.lst [])) = false := by simp [D.py, pys, PyData.eqv, PyData.eqvAll]
      have sh' : SeqAt.shaped (D.py (.scr (a :: r))) = true := by simpa only [D.py] using sh
      have sh0 : SeqAt.shaped (D.py (.lst [])) = true := by decide
      have hbl : ((a :: r).length : Int).natAbs.blt 1073741824 = true := by simpa using hnb
      generalize hL2 : ((a :: r).length : Int) = L at *
      generalize hN : a :: r = nl at *
      simp [F_law_cell_at, mkFn, outsOf, Sl.own, mSeq, mSkip, mExpr, mRet, mIfS, mSet, mSetN, mVar, mFrz, mC, mBin, mUn, mNil, mCons, allD, sizeOk, mTup, mLst, mDat, mTruth, truP, boolP, mAndT, mOrT, mNotT, mAndV, mOrV, notP, mIf, lstOf, seqOf, mulOk, opAdd, opSub, opMul, opFdiv, opMod, opPow, opNeg, cInt, datOf, cEqP, cIsQ, cIsP, D.isNon, opIdx, mChain, mCB, bLen, bAbs, bMax, bMin, bSum, bAll, bAny, bInt, bTuple, mCN, bList, mPart, mSl, opSl, Ty.sub, tyOf, isiP, gtName, gtNil, gtCons, gtTup, mAsg, seqItems, walkItems, mItSeq, rng1, rng2, mItA, mFor, mLc, mYes, wipeS, backS, argOf, argsOf, idxs, putO, putB, mCall, mMeth, fAppend, fExtend, fPop, fPopAt, putAt, mSetItem, mAug, iI, xNil, xD, xN, Nw.sl, putN, mPar, enum1, zip2, h1, hL2, hlen, hne, hnb, sh', sh0, heq, e, hq, hM, hr, el, bind_ok]
/-- a draw -/
theorem draw_ok (ns : List Int) (hl : ns.length ≤ 63) (t : List D) (ht : t.length < 1000000) (b : Int) (hb : 0 < b) : ∃ d : Int, 0 ≤ d ∧ d < b ∧ F_law_draw [.d (.scr ns), .l true t, .d (.int b)] = .ok (.int d) [.no, .l true (t ++ [.int 0]), .no] := by
  obtain ⟨v, ev⟩ := cell_ok ns hl ((t.length + 1 : Nat) : Int) (by omega) (by omega)
  obtain ⟨d, h0, h1, e⟩ := mixed_ok ns _ v b ev hb
  obtain ⟨S, e⟩ := val_some e
  refine ⟨d, h0, h1, ?_⟩
  have hz : t.length ≤ 16777215 := by omega
  rw [show ((t.length + 1 : Nat) : Int) = (t.length : Int) + 1 by omega] at e
  simp [F_law_draw, mkFn, outsOf, Sl.own, mSeq, mSkip, mExpr, mRet, mIfS, mSet, mSetN, mVar, mFrz, mC, mBin, mUn, mNil, mCons, allD, sizeOk, mTup, mLst, mDat, mTruth, truP, boolP, mAndT, mOrT, mNotT, mAndV, mOrV, notP, mIf, lstOf, seqOf, mulOk, opAdd, opSub, opMul, opFdiv, opMod, opPow, opNeg, cInt, datOf, cEqP, cIsQ, cIsP, D.isNon, opIdx, mChain, mCB, bLen, bAbs, bMax, bMin, bSum, bAll, bAny, bInt, bTuple, mCN, bList, mPart, mSl, opSl, Ty.sub, tyOf, isiP, gtName, gtNil, gtCons, gtTup, mAsg, seqItems, walkItems, mItSeq, rng1, rng2, mItA, mFor, mLc, mYes, wipeS, backS, argOf, argsOf, idxs, putO, putB, mCall, mMeth, fAppend, fExtend, fPop, fPopAt, putAt, mSetItem, mAug, iI, xNil, xD, xN, Nw.sl, putN, mPar, enum1, zip2, hz, e]
/-- a draw, the town by its length alone -/
theorem draw_ex (ns : List Int) (hl : ns.length ≤ 63) (t : List D) (ht : t.length < 1000000) (b : Int) (hb : 0 < b) : ∃ (d : Int) (u : List D), 0 ≤ d ∧ d < b ∧ u.length = t.length + 1 ∧ F_law_draw [.d (.scr ns), .l true t, .d (.int b)] = .ok (.int d) [.no, .l true u, .no] := by
  obtain ⟨d, h0, h1, e⟩ := draw_ok ns hl t ht b hb
  exact ⟨d, _, h0, h1, by simp, e⟩
end Mw

set_option Elab.async false
set_option linter.all false
set_option maxRecDepth 100000
set_option maxHeartbeats 4000000
namespace Mw
open PySem L2
def F_law_pick : Fn := mkFn 3 (mRet (mBin opIdx (mVar 2) (mCall F_law_draw (mCons (mVar 0) (mCons (mVar 1) (mCons (mCB bLen (mCons (mVar 2) mNil)) mNil))))))
end Mw

set_option Elab.async false
set_option linter.all false
set_option maxRecDepth 100000
set_option maxHeartbeats 4000000
/-! Laws that are decided by their draws: steps, picks. -/
namespace Mw
open PySem L2
def Res.fin : Res Fl → Option D
  | .ok (.rt x) _ => some x
  | _ => none
def Res.isNx : Res Fl → Bool
  | .ok .nx _ => true
  | _ => false
def Res.st {α : Type} : Res α → Sg
  | .ok _ S => S
  | .exc _ S => S
  | .bad => []
theorem nx_st {r : Res Fl} (h : r.isNx = true) : r = .ok .nx r.st := by
  cases r with
  | ok f S => cases f <;> first | rfl | cases h
  | exc c S => cases h
  | bad => cases h
theorem seq_st {a b : MS} {S : Sg} (h : (a S).isNx = true) : mSeq a b S = b (a S).st := seq_ok (nx_st h)
theorem fn_fin {n : Nat} {b : MS} {args : Sg} {x : D} (h : (b (args ++ List.replicate (n - args.length) .no)).fin = some x) : ∃ S, mkFn n b args = .ok x S := by
  unfold mkFn
  cases e : b (args ++ List.replicate (n - args.length) .no) with
  | ok f S =>
    rw [e] at h
    cases f with
    | rt y => cases h; exact ⟨_, rfl⟩
    | _ => cases h
  | exc c S => rw [e] at h; cases h
  | bad => rw [e] at h; cases h
theorem atI_nat (xs : List D) (k : Nat) : L2.atI xs (k : Int) = xs[k]? := by
  unfold L2.atI L2.ixN
  by_cases h : k < xs.length
  · simp [h]
  · simp [h]
/-- x = _law_pick(script, town, some), the things in slot j -/
theorem pick_fn (ns : List Int) (hl : ns.length ≤ 63) (t xs : List D) (ht : t.length < 1000000) (hx : xs ≠ []) (hz : xs.length ≤ 1000000) : ∃ (d : Nat) (x : D), xs[d]? = some x ∧ F_law_pick [.d (.scr ns), .l true t, .d (.lst xs)] = .ok x [.no, .l true (t ++ [.int 0]), .no] := by
  have hp : 0 < xs.length := List.length_pos_iff.mpr hx
  obtain ⟨d, h0, h1, e⟩ := draw_ok ns hl t ht (xs.length : Int) (by omega)
  obtain ⟨k, rfl⟩ := Int.eq_ofNat_of_zero_le h0
  have hk : k < xs.length := by omega
  refine ⟨k, xs[k], List.getElem?_eq_getElem hk, ?_⟩
  have e1 : mCall F_law_draw (mCons (mVar 0) (mCons (mVar 1) (mCons (mCB bLen (mCons (mVar 2) mNil)) mNil))) [.d (.scr ns), .l true t, .d (.lst xs)] = .ok (.d (.int k)) [.d (.scr ns), .l true (t ++ [.int 0]), .d (.lst xs)] := by
    simp [mkFn, outsOf, Sl.own, mSeq, mSkip, mExpr, mRet, mIfS, mSet, mSetN, mVar, mFrz, mC, mBin, mUn, mNil, mCons, allD, sizeOk, mTup, mLst, mDat, mTruth, truP, boolP, mAndT, mOrT, mNotT, mAndV, mOrV, notP, mIf, lstOf, seqOf, mulOk, opAdd, opSub, opMul, opFdiv, opMod, opPow, opNeg, cInt, datOf, cEqP, cIsQ, cIsP, D.isNon, opIdx, mChain, mCB, bLen, bAbs, bMax, bMin, bSum, bAll, bAny, bInt, bTuple, mCN, bList, mPart, mSl, opSl, Ty.sub, tyOf, isiP, gtName, gtNil, gtCons, gtTup, mAsg, seqItems, walkItems, mItSeq, rng1, rng2, mItA, mFor, mLc, mYes, wipeS, backS, argOf, argsOf, idxs, putO, putB, mCall, mMeth, fAppend, fExtend, fPop, fPopAt, putAt, mSetItem, mAug, iI, xNil, xD, xN, Nw.sl, putN, mPar, enum1, zip2, e]
  have e2 : mBin opIdx (mVar 2) (mCall F_law_draw (mCons (mVar 0) (mCons (mVar 1) (mCons (mCB bLen (mCons (mVar 2) mNil)) mNil)))) [.d (.scr ns), .l true t, .d (.lst xs)] = .ok (.d xs[k]) [.d (.scr ns), .l true (t ++ [.int 0]), .d (.lst xs)] := by
    unfold mBin
    rw [show mVar 2 [.d (.scr ns), .l true t, .d (.lst xs)] = Res.ok (P.d (.lst xs)) [.d (.scr ns), .l true t, .d (.lst xs)] from rfl, bind_ok, e1, bind_ok]
    have : opIdx [.d (.scr ns), .l true (t ++ [.int 0]), .d (.lst xs)] (.d (.lst xs)) (.d (.int k)) = some xs[k] := by
      show L2.atI xs (k : Int) = _
      rw [atI_nat xs k]
      exact List.getElem?_eq_getElem hk
    rw [this]
  unfold F_law_pick
  refine (fn_rt (x := xs[k]) (S := [.d (.scr ns), .l true (t ++ [.int 0]), .d (.lst xs)]) ?_).trans rfl
  show mRet _ [.d (.scr ns), .l true t, .d (.lst xs)] = _
  unfold mRet
  rw [e2]
  rfl
/-- the statement x = _law_pick(script, town, some) at any frame -/
theorem pick_st {i j : Nat} {S : Sg} {ns : List Int} {t xs : List D} {b : Bool} (hl : ns.length ≤ 63) (h0 : S[0]? = some (.d (.scr ns))) (h1 : S[1]? = some (.l b t)) (hj : S[j]? = some (.d (.lst xs))) (ht : t.length < 1000000) (hx : xs ≠ []) (hz : xs.length ≤ 1000000) :
    ∃ (d : Nat) (x : D), xs[d]? = some x ∧ mSet i (mCall F_law_pick (mCons (mVar 0) (mCons (mVar 1) (mCons (mVar j) mNil)))) S = .ok .nx ((S.set 1 (.l b (t ++ [.int 0]))).set i (.d x)) := by
  obtain ⟨d, x, hd, e⟩ := pick_fn ns hl t xs ht hx hz
  refine ⟨d, x, hd, ?_⟩
  have v0 : mVar 0 S = .ok (.d (.scr ns)) S := by unfold mVar; rw [h0]
  have v1 : mVar 1 S = .ok (.s 1) S := by unfold mVar; rw [h1]
  have vj : mVar j S = .ok (.d (.lst xs)) S := by unfold mVar; rw [hj]
  have ea : mCons (mVar 0) (mCons (mVar 1) (mCons (mVar j) mNil)) S = .ok [.d (.scr ns), .s 1, .d (.lst xs)] S := by
    simp only [mCons, v0, v1, vj, bind_ok, mNil]
  have eg : argsOf S [.d (.scr ns), .s 1, .d (.lst xs)] = some [.d (.scr ns), .l true t, .d (.lst xs)] := by
    simp only [argsOf, argOf, h1]
  have ep : putB S [.d (.scr ns), .s 1, .d (.lst xs)] [.no, .l true (t ++ [.int 0]), .no] = some (S.set 1 (.l b (t ++ [.int 0]))) := by
    simp only [putB, List.tail_cons, h1, putO]
  have ec : mCall F_law_pick (mCons (mVar 0) (mCons (mVar 1) (mCons (mVar j) mNil))) S = .ok (.d x) (S.set 1 (.l b (t ++ [.int 0]))) := by
    unfold mCall
    rw [ea, bind_ok, eg]
    simp only [idxs, e, ep]
    rfl
  unfold mSet
  rw [ec]
  rfl
theorem argsOf_d (S : Sg) : ∀ xs : List D, argsOf S (xs.map P.d) = some (xs.map Sl.d)
  | [] => rfl
  | x :: r => by
    show (match argOf S (.d x), argsOf S (r.map P.d) with | some a, some b => some (a :: b) | _, _ => none) = _
    rw [argsOf_d S r]
    rfl
theorem idxs_d : ∀ xs : List D, idxs (xs.map P.d) = []
  | [] => rfl
  | x :: r => idxs_d r
theorem putB_d (S : Sg) : ∀ (xs : List D) (os : Sg), putB S (xs.map P.d) os = some S
  | [], _ => rfl
  | x :: r, os => putB_d S r os.tail
/-- a call whose arguments are data -/
theorem call_d {F : Fn} {a : MA} {S S1 outs : Sg} {xs : List D} {y : D} (ha : a S = .ok (xs.map P.d) S1) (hF : F (xs.map Sl.d) = .ok y outs) : mCall F a S = .ok (.d y) S1 := by
  unfold mCall
  rw [ha, bind_ok, argsOf_d, idxs_d]
  simp only [hF, putB_d]
  rfl
/-- the call of a draw at any frame -/
theorem draw_at {S : Sg} {ns : List Int} {t : List D} {b : Bool} {n : Int} (hl : ns.length ≤ 63) (h0 : S[0]? = some (.d (.scr ns))) (h1 : S[1]? = some (.l b t)) (ht : t.length < 1000000) (hn : 0 < n) :
    ∃ d : Int, 0 ≤ d ∧ d < n ∧ mCall F_law_draw (mCons (mVar 0) (mCons (mVar 1) (mCons (mC (.int n)) mNil))) S = .ok (.d (.int d)) (S.set 1 (.l b (t ++ [.int 0]))) := by
  obtain ⟨d, a1, a2, e⟩ := draw_ok ns hl t ht n hn
  refine ⟨d, a1, a2, ?_⟩
  have v0 : mVar 0 S = .ok (.d (.scr ns)) S := by unfold mVar; rw [h0]
  have v1 : mVar 1 S = .ok (.s 1) S := by unfold mVar; rw [h1]
  have ea : mCons (mVar 0) (mCons (mVar 1) (mCons (mC (.int n)) mNil)) S = .ok [.d (.scr ns), .s 1, .d (.int n)] S := by
    simp only [mCons, v0, v1, bind_ok, mNil, mC]
  have eg : argsOf S [.d (.scr ns), .s 1, .d (.int n)] = some [.d (.scr ns), .l true t, .d (.int n)] := by
    simp only [argsOf, argOf, h1]
  have ep : putB S [.d (.scr ns), .s 1, .d (.int n)] [.no, .l true (t ++ [.int 0]), .no] = some (S.set 1 (.l b (t ++ [.int 0]))) := by
    simp only [putB, List.tail_cons, h1, putO]
  unfold mCall
  rw [ea, bind_ok, eg]
  simp only [idxs, e, ep]
  rfl
/-- the call of a pick out of a list that this frame made -/
theorem pick_at {j : Nat} {S : Sg} {ns : List Int} {t xs : List D} {b : Bool} (hl : ns.length ≤ 63) (h0 : S[0]? = some (.d (.scr ns))) (h1 : S[1]? = some (.l b t)) (hj : S[j]? = some (.l false xs)) (hj1 : j ≠ 1) (ht : t.length < 1000000) (hx : xs ≠ []) (hz : xs.length ≤ 1000000) :
    ∃ (d : Nat) (x : D), xs[d]? = some x ∧ mCall F_law_pick (mCons (mVar 0) (mCons (mVar 1) (mCons (mFrz j) mNil))) S = .ok (.d x) ((S.set j (.d (.lst xs))).set 1 (.l b (t ++ [.int 0]))) := by
  obtain ⟨d, x, hd, e⟩ := pick_fn ns hl t xs ht hx hz
  refine ⟨d, x, hd, ?_⟩
  have v0 : mVar 0 S = .ok (.d (.scr ns)) S := by unfold mVar; rw [h0]
  have v1 : mVar 1 S = .ok (.s 1) S := by unfold mVar; rw [h1]
  have vj : mFrz j S = .ok (.d (.lst xs)) (S.set j (.d (.lst xs))) := by unfold mFrz; rw [hj]
  have ea : mCons (mVar 0) (mCons (mVar 1) (mCons (mFrz j) mNil)) S = .ok [.d (.scr ns), .s 1, .d (.lst xs)] (S.set j (.d (.lst xs))) := by
    simp only [mCons, v0, v1, vj, bind_ok, mNil]
  have h1' : (S.set j (.d (.lst xs)))[1]? = some (.l b t) := by rw [List.getElem?_set_ne hj1]; exact h1
  have eg : argsOf (S.set j (.d (.lst xs))) [.d (.scr ns), .s 1, .d (.lst xs)] = some [.d (.scr ns), .l true t, .d (.lst xs)] := by
    simp only [argsOf, argOf, h1']
  have ep : putB (S.set j (.d (.lst xs))) [.d (.scr ns), .s 1, .d (.lst xs)] [.no, .l true (t ++ [.int 0]), .no] = some ((S.set j (.d (.lst xs))).set 1 (.l b (t ++ [.int 0]))) := by
    simp only [putB, List.tail_cons, h1', putO]
  unfold mCall
  rw [ea, bind_ok, eg]
  simp only [idxs, e, ep]
  rfl
end Mw

set_option Elab.async false
set_option linter.all false
set_option maxRecDepth 100000
set_option maxHeartbeats 4000000
/-! More steps for laws that are decided by their draws. -/
namespace Mw
open PySem L2
theorem set_ok {i : Nat} {a : ME} {S S1 : Sg} {x : D} (h : a S = .ok (.d x) S1) : mSet i a S = .ok .nx (S1.set i (.d x)) := by unfold mSet; rw [h]; rfl
theorem par2_ok {i j : Nat} {a b : ME} {S S1 S2 : Sg} {x y : D} (ha : a S = .ok (.d x) S1) (hb : b S1 = .ok (.d y) S2) : mPar [i, j] (xD a (xD b xNil)) S = .ok .nx ((S2.set i (.d x)).set j (.d y)) := by
  unfold mPar xD
  rw [ha, bind_ok]
  simp only [hb, bind_ok, xNil]
  rfl
theorem bin_ok {op : Sg → P → P → Option D} {a b : ME} {S S1 S2 : Sg} {p q : P} {z : D} (ha : a S = .ok p S1) (hb : b S1 = .ok q S2) (ho : op S2 p q = some z) : mBin op a b S = .ok (.d z) S2 := by
  unfold mBin
  rw [ha, bind_ok, hb, bind_ok, ho]
theorem c_ok (x : D) (S : Sg) : mC x S = .ok (.d x) S := rfl
theorem cons_ok {a : ME} {b : MA} {S S1 S2 : Sg} {p : P} {ps : List P} (ha : a S = .ok p S1) (hb : b S1 = .ok ps S2) : mCons a b S = .ok (p :: ps) S2 := by
  unfold mCons
  rw [ha, bind_ok, hb, bind_ok]
theorem ne_skip {a : ME} {b : MA} {S S1 : Sg} {p : P} {r : MS} (ha : a S = .ok p S1) (hc : mBin (cEqP true) (fun S => .ok p S) (mTup b) S1 = .ok (.d (.bl false)) S1) : mIfS (mTruth boolP (mBin (cEqP true) a (mTup b))) r mSkip S = .ok .nx S1 := by
  have e : mBin (cEqP true) a (mTup b) S = mBin (cEqP true) (fun S => .ok p S) (mTup b) S1 := by
    unfold mBin
    rw [ha, bind_ok]
  unfold mIfS mTruth
  rw [e, hc]
  rfl
def lstAt (S : Sg) (j : Nat) : List D := match S[j]? with
  | some (.l _ xs) => xs
  | some (.d (.lst xs)) => xs
  | _ => []
/-- a draw whose bound is reckoned -/
theorem draw_atE {S : Sg} {ns : List Int} {t : List D} {b : Bool} {n : Int} {e : ME} (hl : ns.length ≤ 63) (h0 : S[0]? = some (.d (.scr ns))) (h1 : S[1]? = some (.l b t)) (ht : t.length < 1000000) (hn : 0 < n) (he : e S = .ok (.d (.int n)) S) :
    ∃ d : Int, 0 ≤ d ∧ d < n ∧ mCall F_law_draw (mCons (mVar 0) (mCons (mVar 1) (mCons e mNil))) S = .ok (.d (.int d)) (S.set 1 (.l b (t ++ [.int 0]))) := by
  obtain ⟨d, a1, a2, q⟩ := draw_ok ns hl t ht n hn
  refine ⟨d, a1, a2, ?_⟩
  have v0 : mVar 0 S = .ok (.d (.scr ns)) S := by unfold mVar; rw [h0]
  have v1 : mVar 1 S = .ok (.s 1) S := by unfold mVar; rw [h1]
  have ea : mCons (mVar 0) (mCons (mVar 1) (mCons e mNil)) S = .ok [.d (.scr ns), .s 1, .d (.int n)] S := by
    simp only [mCons, v0, v1, he, bind_ok, mNil]
  have eg : argsOf S [.d (.scr ns), .s 1, .d (.int n)] = some [.d (.scr ns), .l true t, .d (.int n)] := by
    simp only [argsOf, argOf, h1]
  have ep : putB S [.d (.scr ns), .s 1, .d (.int n)] [.no, .l true (t ++ [.int 0]), .no] = some (S.set 1 (.l b (t ++ [.int 0]))) := by
    simp only [putB, List.tail_cons, h1, putO]
  unfold mCall
  rw [ea, bind_ok, eg]
  simp only [idxs, q, ep]
  rfl
end Mw

set_option Elab.async false
set_option linter.all false
/-! A run's equation in parts. -/
namespace Mw
theorem map_and {α : Type} {o : Option α} {p q : α → Bool} (h1 : o.map p = some true) (h2 : o.map q = some true) : o.map (fun s => p s && q s) = some true := by
  cases o with
  | none => cases h1
  | some s => simp only [Option.map_some, Option.some.injEq] at *; rw [h1, h2]; rfl
theorem map_two {α β γ : Type} {o : Option α} {p : α → β} {q : α → γ} {b : β} {c : γ} (h1 : o.map p = some b) (h2 : o.map q = some c) : o.map (fun s => (p s, q s)) = some (b, c) := by
  cases o with
  | none => cases h1
  | some s => simp only [Option.map_some, Option.some.injEq] at *; rw [h1, h2]
theorem map_three {α β γ δ : Type} {o : Option α} {p : α → β} {q : α → γ} {r : α → δ} {b : β} {c : γ} {d : δ} (h1 : o.map p = some b) (h2 : o.map q = some c) (h3 : o.map r = some d) : o.map (fun s => (p s, q s, r s)) = some (b, c, d) := by
  cases o with
  | none => cases h1
  | some s => simp only [Option.map_some, Option.some.injEq] at *; rw [h1, h2, h3]
theorem map_some {α β γ : Type} {o : Option α} {p : α → β} {b : β} (h1 : o.map p = some b) (c : γ) : o.map (fun _ => c) = some c := by
  cases o with
  | none => cases h1
  | some s => rfl
theorem map_fst {α β γ : Type} {o : Option α} {p : α → β} {q : α → γ} {b : β} {c : γ} (h : o.map (fun s => (p s, q s)) = some (b, c)) : o.map p = some b := by
  cases o with
  | none => cases h
  | some s => simp only [Option.map_some, Option.some.injEq, Prod.mk.injEq] at *; exact h.1
theorem map_snd {α β γ : Type} {o : Option α} {p : α → β} {q : α → γ} {b : β} {c : γ} (h : o.map (fun s => (p s, q s)) = some (b, c)) : o.map q = some c := by
  cases o with
  | none => cases h
  | some s => simp only [Option.map_some, Option.some.injEq, Prod.mk.injEq] at *; exact h.2
end Mw

set_option Elab.async false
set_option linter.all false
set_option maxRecDepth 100000
/-! Mw, part K: sorted(.., key=lambda ..). -/
namespace Mw
open PySem PySem.Spec PyProof.Rows L2
section
variable {X : Cx} {pins : List (Addr × Obj)} {σ : St} {H : Hp} {s : Shared}
/-- an untracked thing of ours is tracked from now on -/
theorem inv_adopt (I : Inv X pins σ H s) {a : Addr} {o : HO} (fp : FpOk X pins H a) (new : ObjOk X.prog X.w (upd H a o) s.heap a o) : Inv X pins σ (upd H a o) s := by
  obtain ⟨f1, f2, f3, f4, f5, f6⟩ := fp
  refine ⟨I.ok, I.os, I.bare, ⟨I.base.keep, I.base.slot, fun b u e n hx => ?_, I.base.there, fun b xs e => ?_, fun b u xs e => ?_, fun b ps e => ?_⟩, I.loc, I.cell, ?_, fun x c e => ?_, fun p hp => ?_, fun b u e => ?_, I.len⟩
  · have hb : b ≠ a := fun z => by
      subst z
      rcases f4 with q | q
      · exact hx q
      · exact Nat.lt_irrefl _ (Nat.lt_of_lt_of_le (Heap.lt_size e) q)
    rw [upd_ne hb]
    exact I.base.free b u e n hx
  · have q := I.base.tups b xs e
    rw [upd_ne (ne_of_none q f1)]; exact q
  · have q := I.base.frzs b u xs e
    rw [upd_ne (ne_of_none q f1)]; exact q
  · obtain ⟨m, q⟩ := I.base.tbls b ps e
    exact ⟨m, by rw [upd_ne (ne_of_none q f1)]; exact q⟩
  · rw [upd_ne (Ne.symm f2)]; exact I.free
  · rw [upd_ne (f5 x c e)]; exact I.freeC x c e
  · obtain ⟨q1, q2, q3⟩ := I.pin p hp
    exact ⟨q1, by rw [upd_ne (f6 p hp)]; exact q2, q3⟩
  · by_cases hb : b = a
    · subst hb; rw [upd_same] at e; cases e; exact new
    · rw [upd_ne hb] at e
      exact (I.hok b u e).stay (fun _ _ _ q => q) (fun c q => by rw [upd_ne (ne_of_none q f1)]; exact q) fun c xs q => by rw [upd_ne (ne_of_none q f1)]; exact q
theorem vals_snoc : ∀ {vs : List V} {us : List Value} {v : V} {u : Value}, Vals vs us → RelV v u → Vals (vs ++ [v]) (us ++ [u])
  | _, _, _, _, .nil, r => .cons r .nil
  | _, _, _, _, .cons h t, r => .cons h (vals_snoc t r)
theorem dps_reads (I : Inv X pins σ H s) : ∀ {kvs : List V} {kz : List PyData} {us : List Value}, DpAll X.K H kvs kz → Vals kvs us → PySem.W.EachIs (fun v k => ∃ as, Reads s.heap v k as) us kz
  | _, _, _, .nil, .nil => .nil
  | _, _, _, .cons h t, .cons r q => .cons (Dp.reads I _ _ _ h r) (dps_reads I t q)
/-- sorted(l, key=f), f's calls by a rule -/
theorem sort_run {Q : VK} {E : Value → Shared → Prop} (I : Inv X pins σ H s) {l f : Addr} {us : List Value} (hl : s.heap.IsList l us.toArray) (hz : us.length ≤ sizeLine) (J : Nat → Hp → List V → Prop) (h0 : J 0 H [])
    (turn : ∀ (i : Nat) (u : Value) (pins' : List (Addr × Obj)) (H' : Hp) (s' : Shared) (kvs : List V), us[i]? = some u → Inv X pins' σ H' s' → J i H' kvs →
      wpAny (model X.prog X.w) X.A.in1.in1 (call (.ref f) [u]) (fun w s'' => ∃ x H'', Inv X pins' σ H'' s'' ∧ RelV x w ∧ J (i + 1) H'' (kvs ++ [x])) (fun _ _ => False) s')
    (fin : ∀ H' kvs, J us.length H' kvs → ∃ kz : List PyData, DpAll X.K H' kvs kz ∧ PySem.W.AllAlike kz ∧ PySem.W.Sortable kz ∧ (∀ d ∈ kz, X.A.units + 2 + d.depth < cLine) ∧
      ∀ out, out.length = us.length → PySem.W.KeyedOut false kz us out → ∃ ws, Vals ws out ∧ ∀ p, H' p = none → Q (.ref p) (upd H' p (.lst ws))) :
    wpAny (model X.prog X.w) X.A (call (.builtin "sorted") [.ref l] [(Str.ofString "key", .ref f)]) (EP X pins σ Q) E s := by
  refine PySem.W.sorted_of_sort hl hz (ksk_s1 _ _) (fun _ => ksk_l1 _ _) fun E' => ?_
  rw [ksk_t1]
  generalize ea : s.heap.objs.size + 1 = a
  have hca : (PySem.W.copyHeap s.heap us).get? a = some (seqObj "list" us.toArray 0) := by rw [← ea]; exact PySem.W.copyHeap_at s.heap us
  have ha : a < (PySem.W.copyHeap s.heap us).objs.size := Heap.lt_size hca
  obtain ⟨e1, ho1⟩ : ∃ e1, ((PySem.W.copyHeap s.heap us).update a (Obj.mapSeq fun _ => (#[] : Array Value))).get? a = some (seqObj "list" #[] e1) := ⟨_, get?_update_seq hca fun _ => #[]⟩
  generalize ek : (((PySem.W.copyHeap s.heap us).update a (Obj.mapSeq fun _ => (#[] : Array Value))).push (seqObj "tuple" us.toArray 0)).objs.size = kS
  have hk0 : a < kS := by rw [← ek, size_push', Heap.size_update]; exact Nat.lt_succ_of_lt ha
  have sa : s.heap.objs.size ≤ a := by rw [← ea]; exact Nat.le_succ _
  have sk : s.heap.objs.size ≤ kS := Nat.le_trans sa (Nat.le_of_lt hk0)
  unfold ksk_tree
  refine wpAny_bind (listItems_at hca rfl ?_)
  refine wpAny_bind (listUpdate_at hca rfl ?_ (by rw [List.size_toArray]; exact hz) (Nat.zero_le _))
  refine wpAny_bind (seqEpoch_at ho1 rfl ?_)
  refine wpAny_bind (wpAny_newTuple ?_ (by show us.length ≤ _; exact hz))
  refine wpAny_bind (wpAny_newList ?_ (Nat.zero_le _))
  refine wpAny_holding ?_
  rw [ek]
  have ka : kS ≠ a := Nat.ne_of_gt hk0
  -- the state behind the making of the lists
  have I3 : Inv X pins σ H { s with heap := (((PySem.W.copyHeap s.heap us).update a (Obj.mapSeq fun _ => (#[] : Array Value))).push (seqObj "tuple" us.toArray 0)).push (seqObj "list" #[] 0), toks := s.toks } :=
    I.kept fun b o e => Heap.get?_push_of_some _ (Heap.get?_push_of_some _ ((Heap.get?_update_ne _ _ _ _ (Nat.ne_of_lt (Nat.lt_of_lt_of_le (Heap.lt_size e) sa))).trans (PySem.W.copyHeap_old e)))
  have fa : ∀ {H' : Hp}, H' a = none → FpOk X pins H' a := fun hn => I.fpOk sa hn
  have fk : ∀ {H' : Hp}, H' kS = none → FpOk X pins H' kS := fun hn => I.fpOk sk hn
  have nc : ∀ (xs : Array Value) (n : Nat) v, (seqObj "list" xs n).data ≠ .cell v := fun xs n v z => by cases z
  have pinI : ∀ {H' : Hp} {s' : Shared} {kA : Array Value} {e : Nat}, Inv X pins σ H' s' → H' a = none → H' kS = none → s'.heap.get? a = some (seqObj "list" #[] e1) → s'.heap.get? kS = some (seqObj "list" kA e) →
      Inv X ((kS, seqObj "list" kA e) :: (a, seqObj "list" #[] e1) :: pins) σ H' s' := fun I' n1 n2 g1 g2 => I'.pins_of fun p hp => by
    rcases List.mem_cons.mp hp with rfl | hp
    · exact ⟨g2, n2, (fk n2).2.1, (fk n2).2.2.1, nc _ _⟩
    · rcases List.mem_cons.mp hp with rfl | hp
      · exact ⟨g1, n1, (fa n1).2.1, (fa n1).2.2.1, nc _ _⟩
      · exact I'.pin p (List.mem_append_right _ hp)
  have unpin : ∀ {H' : Hp} {s' : Shared} {kA : Array Value} {e : Nat}, Inv X ((kS, seqObj "list" kA e) :: (a, seqObj "list" #[] e1) :: pins) σ H' s' →
      Inv X pins σ H' s' ∧ H' a = none ∧ H' kS = none ∧ s'.heap.get? a = some (seqObj "list" #[] e1) ∧ s'.heap.get? kS = some (seqObj "list" kA e) := fun {H' s' kA e} I' => by
    have pk := I'.pin (kS, seqObj "list" kA e) (List.mem_append_right _ (.head _))
    have pa := I'.pin (a, seqObj "list" #[] e1) (List.mem_append_right _ (.tail _ (.head _)))
    exact ⟨I'.pins_of fun p hp => I'.pin p (List.mem_append_right _ (.tail _ (.tail _ hp))), pa.2.1, pk.2.1, pa.1, pk.1⟩
  have hka3 : ((((PySem.W.copyHeap s.heap us).update a (Obj.mapSeq fun _ => (#[] : Array Value))).push (seqObj "tuple" us.toArray 0)).push (seqObj "list" #[] 0)).get? kS = some (seqObj "list" #[] 0) := by rw [← ek]; exact Heap.get?_push_size _ rfl
  have P3 := pinI I3 (I.hok.fresh sa) (I.hok.fresh sk) (Heap.get?_push_of_some _ (Heap.get?_push_of_some _ ho1)) hka3
  generalize (((PySem.W.copyHeap s.heap us).update a (Obj.mapSeq fun _ => (#[] : Array Value))).push (seqObj "tuple" us.toArray 0)).push (seqObj "list" #[] 0) = h3 at I3 P3 hka3
  unfold ksk_rest
  refine wpAny_bind (wpAny_rule ?_)
  rw [List.forIn_toArray]
  refine wpAny_bind (ksk_fold (fun i s' => ∃ kA e H' kvs, Inv X ((kS, seqObj "list" kA e) :: (a, seqObj "list" #[] e1) :: pins) σ H' s' ∧ Vals kvs kA.toList ∧ kA.size = i ∧ J i H' kvs) us 0 _ ⟨#[], 0, H, [], P3, .nil, rfl, h0⟩ ?step ?done)
  case step =>
    rintro j x s' hx ⟨kA, e, H', kvs, I', rv, hs, hj⟩
    simp only [Nat.zero_add] at hs hj ⊢
    have hjl : j < us.length := (List.getElem?_eq_some_iff.mp hx).1
    refine wpAny_bind (wpAny_attempt (wpAny_mono (turn j x _ H' s' kvs hx I' hj) (fun w s'' he => ?_) fun _ _ hF => hF.elim))
    obtain ⟨v, H'', I'', rw', hj'⟩ := he
    obtain ⟨I1, n1, n2, g1, g2⟩ := unpin I''
    have sb := Heap.SameBut.update s''.heap kS (Obj.mapSeq (·.push w))
    obtain ⟨c2, hc2⟩ : ∃ c2, (s''.heap.update kS (Obj.mapSeq (·.push w))).get? kS = some (seqObj "list" (kA.push w) c2) := ⟨_, get?_update_seq g2 (·.push w)⟩
    try dsimp only
    refine wpAny_bind (listUpdate_at g2 rfl ?_ (by omega) (Nat.le_trans (Nat.le_of_eq (Array.size_push ..)) (by omega)))
    refine wpAny_pure ⟨rfl, kA.push w, c2, H'', kvs ++ [v], ?_, by rw [Array.toList_push]; exact vals_snoc rv rw', by rw [Array.size_push, hs], hj'⟩
    have fpk : FpOk X pins H'' kS := fk n2
    have I2 : Inv X pins σ H'' { s'' with heap := s''.heap.update kS (Obj.mapSeq (·.push w)), toks := s''.toks } := I1.turned (it := kS) (fun b o hb e => (sb.2 b hb).trans e) n2 fpk.2.1 fpk.2.2.2.1 fpk.2.2.2.2.1 fpk.2.2.2.2.2
    exact pinI I2 n1 n2 ((sb.2 a (Ne.symm ka)).trans g1) hc2
  case done =>
    rintro s' ⟨kA, e, H', kvs, I', rv, hs, hj⟩
    rw [Nat.zero_add] at hs hj
    obtain ⟨I1, n1, n2, g1, g2⟩ := unpin I'
    obtain ⟨kz, dp, hal, hsk, hu, hfin⟩ := fin H' kvs hj
    have rd := dps_reads I1 dp rv
    try dsimp only
    refine wpAny_bind (listItems_at g2 rfl ?_)
    refine PySem.W.keyH_end (κ := PySem.W.dataKind s'.heap kz) (h₁ := PySem.W.hideAll s'.heap [kS]) (fun b o _ q => PySem.W.of_hideAll _ q) (PySem.W.hideAll_none _ (List.mem_singleton.mpr rfl)) g2 g1 ka
      (PySem.W.SortsAt.data (s := s') rd hal hsk hu) hs hz fun h' tk c kb hD => ⟨rfl, ?_⟩
    have ko : PySem.W.KeyedOut false kz us (PySem.W.sortVals (PySem.W.dataKind s'.heap kz) false kA.toList us) := ⟨s'.heap, kA.toList, hal, rfl, rd⟩
    have hol : (PySem.W.sortVals (PySem.W.dataKind s'.heap kz) false kA.toList us).length = us.length := PySem.W.sortVals_length false (by rw [Array.length_toList]; exact hs)
    obtain ⟨ws, rvw, hq⟩ := hfin _ hol ko
    have I2 : Inv X pins σ H' { s' with heap := h', toks := tk } := I1.turnedL (ch := [a, kS]) (fun b o hb q => by
      simp only [List.mem_cons, List.not_mem_nil, or_false, not_or] at hb
      exact kb b o hb.1 (PySem.W.hideAll_get _ q (by simpa using hb.2))) (fun b hb => by
      simp only [List.mem_cons, List.not_mem_nil, or_false] at hb
      rcases hb with rfl | rfl
      · exact fa n1
      · exact fk n2)
    refine ⟨.ref a, upd H' a (.lst ws), inv_adopt I2 (fa n1) ⟨by rw [rvw.length, hol]; exact hz, _, c, rvw, hD⟩, rfl, hq a n1⟩
end

/-! ### the lambda -/
/-- the object at f is the lambda -/
def LamO (f : Addr) (q : Str) (params : Arguments) (body : Expr) (scope : Scope) (cl : List (Str × Addr)) (c : Addr) : HO := .ext fun h => ∃ pm ctv, h.get? f = some (PySem.W.kla_obj "<lambda>" q params body scope cl pm c ctv)
theorem lamO_nt {f : Addr} {q : Str} {params : Arguments} {body : Expr} {scope : Scope} {cl : List (Str × Addr)} {c : Addr} (ps : Array Value) : LamO f q params body scope cl c ≠ .tbl ps := fun z => by
  unfold LamO at z
  cases z
section
variable {X : Cx} {pins : List (Addr × Obj)} {σ : St} {H : Hp} {s : Shared}
theorem lam_new {T : List (Addr × Str)} {c P : Addr} {q : Str} {params : Arguments} {body : Expr} {scope : Scope} {pos : Pos} {E : Value → Shared → Prop} {Q : VK} (I : Inv X pins σ H s) (TB : LamX.TabB X.base X.mg c P) (hcode : X.env.code = .ref c) (hq : X.env.qual ++ "<lambda>" = q)
    (hm : (P, q) ∈ T) (hu : ∀ p ∈ T, p.1 = P → p.2 = q) (hT : LamX.Tabs T H) (hdef : defaultsOf params X.env = ([], [])) (hfree : ∀ y ∈ scope.names, y.2 = .free → ∃ c, X.env.cells.lookup y.1 = some c)
    (h : ∀ (f c' : Addr) (H1 : Hp), LamX.ExtN H H1 → (∀ a, H a ≠ none → H1 a ≠ none) → LamX.Tabs T H1 → H1 f = none → H1 c' = some (LamX.CodeO c' q) → Q (.ref f) (upd H1 f (LamO f q params body scope (cloFrom X.env.cells scope.names []) c'))) :
    wpAny (model X.prog X.w) X.A (eval (.Lambda params body scope pos) X.env) (EP X pins σ Q) E s := by
  obtain ⟨ps, hP, ht, hall⟩ := hT _ hm
  have bP : s.heap.BuiltinsAt X.mg P := TB.bm.keeps I.bk
  have hP' := I.hok P _ hP
  refine PySem.W.kla_eval hdef ?_
  rw [hq]
  have adopt : ∀ {H1 : Hp} {h1 : Heap} {tk : Nat} {pm ctv : Value} {c' : Addr}, Inv X pins σ H1 { s with heap := h1.push (PySem.W.kla_obj "<lambda>" q params body scope (cloFrom X.env.cells scope.names []) pm c' ctv), toks := tk } → s.heap.objs.size ≤ h1.objs.size → H1 h1.objs.size = none →
      Inv X pins σ (upd H1 h1.objs.size (LamO h1.objs.size q params body scope (cloFrom X.env.cells scope.names []) c')) { s with heap := h1.push (PySem.W.kla_obj "<lambda>" q params body scope (cloFrom X.env.cells scope.names []) pm c' ctv), toks := tk } := fun {H1 h1 tk pm ctv c'} I1 hs hn => by
    refine inv_adopt I1 (I.fpOk hs hn) ⟨⟨pm, ctv, Heap.get?_push_size _ rfl⟩, ⟨_, Heap.get?_push_size _ rfl⟩, fun a b ⟨x, y, z⟩ k => ⟨x, y, k _ z⟩⟩
  cases hc : codeAmong pos ps.toList with
  | none =>
    refine PySem.W.kla_makeFunction (mg := X.mg) (c := c) (P := P) (ps := ps) (closure_ok hfree) I.ok.glob (I.mod.glob.keeps I.bk) hcode (TB.code.keeps I.bk) hP' ht hc TB.gP bP fun c' ctv h' tk hx hge hlt hrec htb => ?_
    obtain ⟨c2, oc, vs, t, e2, hoc, hd, hv⟩ := hrec
    cases e2
    have hsz : s.heap.objs.size ≤ h'.objs.size := Nat.le_trans hge (Nat.le_of_lt hlt)
    have nC : H c' = none := I.hok.fresh hge
    have nF : H h'.objs.size = none := I.hok.fresh hsz
    have cP : P ≠ c' := ne_of_none hP nC
    have at_ : ∀ b, b ≠ P → b ≠ c' → upd (upd H P (.tbl (ps ++ #[rawInt pos.line, rawInt pos.col, .ref c']))) c' (LamX.CodeO c' q) b = H b := fun b h1 h2 => by rw [upd_ne h2, upd_ne h1]
    have I1 := LamX.inv_table (t' := tk) (q := q) (more := #[rawInt pos.line, rawInt pos.col, .ref c']) (h' := h'.push (PySem.W.kla_obj "<lambda>" q params body scope (cloFrom X.env.cells scope.names []) ((X.mg "__name__").getD .none) c' ctv)) I hP
      (fun b o hb e => Heap.get?_push_of_some _ (hx b o hb e)) (Heap.get?_push_of_some _ htb) hge ⟨oc, vs, t, Heap.get?_push_of_some _ hoc, hd, hv⟩
    have hE : LamX.ExtN H (upd (upd H P (.tbl (ps ++ #[rawInt pos.line, rawInt pos.col, .ref c']))) c' (LamX.CodeO c' q)) := fun b o e n => by
      rw [at_ b (fun z => n ps (by rw [z, hP] at e; exact (Option.some.inj e).symm)) (ne_of_none e nC)]
      exact e
    have nF1 : upd (upd H P (.tbl (ps ++ #[rawInt pos.line, rawInt pos.col, .ref c']))) c' (LamX.CodeO c' q) h'.objs.size = none := by
      rw [at_ _ (Ne.symm (ne_of_none hP nF)) (Nat.ne_of_gt hlt)]
      exact nF
    have eL : (ps ++ #[rawInt pos.line, rawInt pos.col, .ref c']).toList = ps.toList ++ [rawInt pos.line, rawInt pos.col, .ref c'] := by simp
    have hT1 : LamX.Tabs T (upd (upd H P (.tbl (ps ++ #[rawInt pos.line, rawInt pos.col, .ref c']))) c' (LamX.CodeO c' q)) := fun p hp => by
      by_cases hb : p.1 = P
      · rw [hu p hp hb, hb]
        refine ⟨_, by rw [upd_ne cP, upd_same], by rw [eL]; exact PySem.TriplesOk_snoc _ _ _ _ ht, fun p' cv hcv => ?_⟩
        rw [eL] at hcv
        rcases LamX.among_app _ ht hcv with z | z
        · obtain ⟨c0, e1, e2⟩ := hall p' cv z
          exact ⟨c0, e1, hE _ _ e2 LamX.codeO_ne⟩
        · exact ⟨c', z, upd_same⟩
      · obtain ⟨ps', a1, a2, a3⟩ := hT p hp
        refine ⟨ps', by rw [at_ _ hb (ne_of_none a1 nC)]; exact a1, a2, fun p' cv hcv => ?_⟩
        obtain ⟨c0, e1, e2⟩ := a3 p' cv hcv
        exact ⟨c0, e1, hE _ _ e2 LamX.codeO_ne⟩
    refine ⟨.ref h'.objs.size, _, adopt I1 hsz nF1, rfl, h _ c' _ hE (fun a ha => ?_) hT1 nF1 upd_same⟩
    by_cases h1 : a = c'
    · rw [h1, upd_same]; intro z; cases z
    · by_cases h2 : a = P
      · rw [h2, upd_ne cP, upd_same]; intro z; cases z
      · rw [at_ a h2 h1]; exact ha
  | some cv =>
    obtain ⟨c', e, hco⟩ := hall pos cv hc
    subst e
    refine PySem.W.kla_makeFunctionHit (mg := X.mg) (c := c) (P := P) (ps := ps) (closure_ok hfree) I.ok.glob (I.mod.glob.keeps I.bk) hcode (TB.code.keeps I.bk) hP' ht hc bP fun ctv h' tk hx hsz => ?_
    have I1 : Inv X pins σ H { s with heap := h'.push (PySem.W.kla_obj "<lambda>" q params body scope (cloFrom X.env.cells scope.names []) ((X.mg "__name__").getD .none) c' ctv), toks := tk } := I.kept fun b o e => Heap.get?_push_of_some _ (hx b o e)
    exact ⟨.ref h'.objs.size, _, adopt I1 hsz (I.hok.fresh hsz), rfl, h _ c' H (LamX.ExtN.refl H) (fun _ z => z) hT (I.hok.fresh hsz) hco⟩
/-- a call of the lambda within a built-in -/
theorem lam_call {N fr : List Str} {js : List Nat} {p : Str} {F : NdefX.NF} {f : Addr} {params : Arguments} {body : Expr} {k : Nat} (I : Inv X pins σ H s) (hf : H f = some (LamO f F.qual params body F.scope F.cl F.c)) (hc : H F.c = some (LamX.CodeO F.c F.qual)) (S : NdefX.NScope N [p] fr F.scope)
    (hb : ∀ (pm ctv u : Value), bindArgs (PySem.W.kla_fn "<lambda>" F.qual params body F.scope F.cl pm (.ref F.c) ctv) ⟨[u], []⟩ = pure [(p, u)]) (hr : Room (k + 1) X.A.in1.in1) (cp : NdefX.Caps X F.cl fr js) {v : V} {u : Value} (rv : RelV v u) {t : TE} {Q : VK}
    (hbody : PE (NdefX.ncx C8.CX0 X.prog X.w X.K X.mg X.base N F f X.A.in1.in1 X.stack s H C8.E0) body t) (ht : t (NdefX.startF N [v] (js.map (NdefX.slotAt σ))) H Q) :
    wpAny (model X.prog X.w) X.A.in1.in1 (call (.ref f) [u]) (EP X pins σ Q) (fun _ _ => False) s := by
  have e0 := I.env0.in1.in1
  obtain ⟨⟨pm, ctv, of⟩, _, _⟩ := I.hok f _ hf
  have rc : codeAny (model X.prog X.w) X.A.in1.in1 (.call (.ref f) ⟨[u], []⟩) (CR C8.CX0 X.stack X.prog X.w H s Q C8.E0) s := by
    refine PySem.W.kla_callFunE hr.depth of rfl S.co S.gen rfl (NdefX.codeO_at I.hok hc) ?_
    rw [hb]
    refine wpAny_pure (wpAny_newFunctionEnv S.nocell (fun y hy => by rw [List.mem_singleton.mp hy]; exact S.par p (List.mem_singleton.mpr rfl)) (fun h₁ hns hsb => ⟨I.nolimit.fresh _ hsb, ?_⟩) S.kind)
    show codeAny _ _ (.expr body (NdefX.envF F f s.heap.objs.size)) _ _
    have kp : ∀ b o, s.heap.get? b = some o → h₁.get? b = some o := fun b o e => hsb.extBut b o (Nat.ne_of_lt (Heap.lt_size e)) (Heap.get?_push_of_some _ e)
    have J := NdefX.inv_startN (CX := C8.CX0) (E := C8.E0) (N := N) (F := F) (f := f) (vs := [v]) (us := [u]) (tk := s.toks + 1) S hr.hd e0 rfl (.cons rv .nil) (NdefX.cells_of I cp) hns kp
    refine PySem.W.kla_codeExpr (wpAny_mono (hbody.run [] _ _ H Q J ht) (fun w s' hq => ?_) fun e s' hq => hq)
    obtain ⟨x, H', J', r, q⟩ := hq
    exact ⟨x, H', J'.os, J'.bare, J'.base, J'.hok, r, q⟩
  refine wpAny_call (codeAny_mono rc fun r s' hq => ?_)
  cases r with
  | error e => exact (show False from hq).elim
  | ok fl =>
    cases fl with
    | ret w => exact I.after hq
    | next => exact False.elim hq
    | brk => exact False.elim hq
    | cont => exact False.elim hq
end
/-! ### frames -/
section
open Classical
variable {K : PySem.W.Frag} {mg : Str → Option Value} {g : Gh} {G H H1 : Hp} {σ : St} {S : Sg}
theorem Rep.extN (r : Rep K mg g G σ H S) (e : LamX.ExtN H H1) (d : ∀ a, H a ≠ none → H1 a ≠ none) (t : LamX.Tabs (tbs K) H1) : Rep K mg g G σ H1 S := by
  have same : ∀ {i a}, OwnAt H σ S i a → H1 a = H a := fun {i a} z => by
    obtain ⟨o, ho, ld⟩ := r.ownL z
    rw [ho, e a o ho ld.nt]
  have back : ∀ {i a}, OwnAt H1 σ S i a → OwnAt H σ S i a := fun {i a} z => z.of fun s rt es ow q => same (OwnAt.rt es ow q)
  refine ⟨r.g0, r.fresh, fun a o q => e a o (r.sub a o q) fun ps z => r.ntG a ps (by rw [q, z]), fun a o q => e a o (r.keep a o q) fun ps z => r.ntR a ps (by rw [q, z]), r.nof, r.rm, fun a q => d a (r.dom a q), fun i s q => ?_, fun i j a h1 h2 => r.inj i j a (back h1) (back h2), r.len, t, r.ntG, r.ntR⟩
  refine (r.sl i s q).mono (Sub.refl _) fun rt a oa f => ⟨same ⟨s, rt, q, oa, f⟩, rfl⟩
/-- a frame of data alone -/
theorem rep_lam (r : Rep K mg g G σ H S) {σ' : St} {S' : Sg} (hl : S'.length = σ'.length) (hd : ∀ (i : Nat) (x : Sl), S'[i]? = some x → x = .no ∨ ∃ d v, x = .d d ∧ σ'[i]? = some (some v) ∧ RV K mg G d v) : Rep K mg (ghOf G H [] []) G σ' H S' := by
  have own : ∀ i a, ¬ OwnAt H σ' S' i a := by
    rintro i a ⟨x, rt, e, _, f⟩
    rcases hd i x e with rfl | ⟨d, v, rfl, _⟩ <;> exact f.elim
  refine ⟨Sub.refl _, fun a h => .inl h, r.sub, fun a o e => ?_, fun a h => h.elim, fun a h => h.elim, fun a h => h, fun i x e => ?_, fun i j a h => (own i a h).elim, hl, r.tabs, r.ntG, fun a ps e => ?_⟩
  · have e : (if Bor H [] [] a ∨ ∃ ps, H a = some (.tbl ps) then none else H a) = some o := e
    split at e
    · cases e
    · exact e
  · rcases hd i x e with rfl | ⟨d, v, rfl, h1, h2⟩
    · trivial
    · exact ⟨v, h1, h2⟩
  · have e : (if Bor H [] [] a ∨ ∃ ps, H a = some (.tbl ps) then none else H a) = some (.tbl ps) := e
    split at e
    · cases e
    · rename_i hn
      exact hn (.inr ⟨ps, e⟩)
theorem argsR_nil (r : Rep K mg g G σ H S) : ArgsR K mg G H [] [] := ⟨rfl, r.sub, (fun i s e => by cases e), (fun i j a ⟨_, _, e, _⟩ => by cases e), (fun ⟨i, fs, e⟩ => by cases e), r.tabs, r.ntG⟩
/-- behind such a frame's run -/
theorem lam_back (r : Rep K mg g G σ H S) {G' H' : Hp} {σ' : St} {S' : Sg} (q : Rep K mg (ghOf G H [] []) G' σ' H' S') : Rep K mg g G' σ H' S ∧ Sub G G' ∧ ∀ a o, H a = some o → (∀ ps, o ≠ .tbl ps) → H' a = some o := by
  have af := rep_after (argsR_nil r) q
  refine ⟨rep_call (ps := []) (args := []) (outs := []) (vs := []) r rfl .nil (by decide) rfl af, af.sub, fun a o h n => af.keep a o h (fun z => ?_) n⟩
  obtain ⟨i, s, rt, e, _⟩ := z
  cases e
end
/-! ### the sorted list -/
def alikeB (kz : List PyData) : Bool := kz.all fun d => kz.all fun e => PySem.W.alike d e
def tupB1 : PyData → Bool
  | .tuple (_ :: _) => true
  | _ => false
def othB1 : PyData → Bool
  | .none => false
  | .tuple _ => false
  | _ => true
def keysOk (kz : List PyData) : Bool := alikeB kz && ((kz.all tupB1 || kz.all othB1) && (PyData.canLayAll0 kz && kz.all fun d => Nat.ble d.depth 60))
theorem keysOk_ok {kz : List PyData} (h : keysOk kz = true) : PySem.W.AllAlike kz ∧ PySem.W.Sortable kz ∧ PyData.canLayAll0 kz = true ∧ ∀ d ∈ kz, d.depth ≤ 60 := by
  unfold keysOk alikeB at h
  simp only [Bool.and_eq_true, Bool.or_eq_true, List.all_eq_true] at h
  obtain ⟨h1, h2, h3, h4⟩ := h
  refine ⟨fun d hd e he => h1 d hd e he, ?_, h3, fun d hd => Nat.le_of_ble_eq_true (h4 d hd)⟩
  rcases h2 with h2 | h2
  · refine .inl fun d hd => ?_
    have := h2 d hd
    unfold tupB1 at this
    split at this
    · exact ⟨_, _, rfl⟩
    · cases this
  · refine .inr fun d hd => ?_
    have := h2 d hd
    unfold othB1 at this
    split at this
    · cases this
    · cases this
    · rename_i n1 n2
      exact ⟨n1, n2⟩
/-- sorting by putting in, which the kernel can run -/
def insL {α : Type} (le : α → α → Bool) (x : α) : List α → List α
  | [] => [x]
  | y :: r => if le x y then x :: y :: r else y :: insL le x r
def isort {α : Type} (le : α → α → Bool) : List α → List α
  | [] => []
  | x :: r => insL le x (isort le r)
section
variable {α : Type} {le : α → α → Bool}
theorem insL_mem {x z : α} : ∀ {l : List α}, z ∈ insL le x l → z = x ∨ z ∈ l
  | [], h => by
    rw [List.mem_singleton.mp h]; exact .inl rfl
  | y :: r, h => by
    unfold insL at h
    split at h
    · rcases List.mem_cons.mp h with h | h
      · exact .inl h
      · exact .inr h
    · rcases List.mem_cons.mp h with h | h
      · exact .inr (by rw [h]; exact List.mem_cons_self)
      · rcases insL_mem h with h | h
        · exact .inl h
        · exact .inr (List.mem_cons_of_mem _ h)
theorem insL_sorted (T : PySem.W.TotalLe le) (x : α) : ∀ {l : List α}, l.Pairwise (fun a b => le a b = true) → (insL le x l).Pairwise (fun a b => le a b = true)
  | [], _ => List.pairwise_singleton _ _
  | y :: r, h => by
    obtain ⟨h1, h2⟩ := List.pairwise_cons.mp h
    unfold insL
    split
    · rename_i e
      exact List.pairwise_cons.mpr ⟨fun z hz => by
        rcases List.mem_cons.mp hz with rfl | hz
        · exact e
        · exact T.trans _ _ _ e (h1 z hz), h⟩
    · rename_i e
      refine List.pairwise_cons.mpr ⟨fun z hz => ?_, insL_sorted T x h2⟩
      rcases insL_mem hz with rfl | hz
      · rcases T.total z y with q | q
        · exact absurd q e
        · exact q
      · exact h1 z hz
theorem insL_filter (T : PySem.W.TotalLe le) (x c : α) : ∀ {l : List α}, (insL le x l).filter (PySem.W.sameRank le c) = (x :: l).filter (PySem.W.sameRank le c)
  | [] => rfl
  | y :: r => by
    unfold insL
    split
    · rfl
    · rename_i e
      have ih := insL_filter T x c (l := r)
      rw [List.filter_cons, ih]
      cases hx : PySem.W.sameRank le c x with
      | false => simp only [List.filter_cons, hx]; rfl
      | true =>
        cases hy : PySem.W.sameRank le c y with
        | false => simp only [List.filter_cons, hx, hy]; rfl
        | true =>
          exfalso
          unfold PySem.W.sameRank at hx hy
          rw [Bool.and_eq_true] at hx hy
          exact e (T.trans _ _ _ hx.2 hy.1)
theorem isort_eq (T : PySem.W.TotalLe le) (l : List α) : isort le l = l.mergeSort le := by
  refine PySem.W.sort_unique T ?_ ?_
  · induction l with
    | nil => exact List.Pairwise.nil
    | cons x r ih => exact insL_sorted T x ih
  · intro c
    induction l with
    | nil => rfl
    | cons x r ih =>
      show (insL le x (isort le r)).filter _ = _
      rw [insL_filter T x c, List.filter_cons, List.filter_cons, ih]
theorem dataLe_total {β : Type} (k : β → PyData) : PySem.W.TotalLe (PySem.W.dataLe false k) := PySem.W.sortLe_total _ _ _
end
def sortD (xs ks : List D) : Option (List D) := if keysOk (pys ks) then some ((isort (PySem.W.dataLe false fun p : D × D => p.2.py) (xs.zip ks)).map (·.1)) else none
def dOnly (S : Sg) (j : Nat) : Sl := match S[j]? with
  | some (.d x) => .d x
  | _ => .no
def lamS (js : List Nat) (n : Nat) (S : Sg) (x : D) : Sg := .d x :: (js.map (dOnly S) ++ List.replicate (n - 1 - js.length) .no)
def keyOf1 (js : List Nat) (n : Nat) (te : ME) (S : Sg) (x : D) : Option D := match te (lamS js n S x) with
  | .ok (.d k) _ => some k
  | _ => none
def keysL (js : List Nat) (n : Nat) (te : ME) (S : Sg) : List D → Option (List D)
  | [] => some []
  | x :: r => match keyOf1 js n te S x, keysL js n te S r with
    | some k, some ks => some (k :: ks)
    | _, _ => none
def mSortK (js : List Nat) (n : Nat) (te : ME) (a : ME) : MN := fun S => (a S).bind fun p S1 => match lstOf S1 p with
  | some xs => match keysL js n te S1 xs with
    | some ks => match sortD xs ks with
      | some ys => .ok ys S1
      | none => .bad
    | none => .bad
  | none => .bad
theorem keysL_get {js : List Nat} {n : Nat} {te : ME} {S : Sg} : ∀ {xs ks : List D}, keysL js n te S xs = some ks → ks.length = xs.length ∧ ∀ (i : Nat) x, xs[i]? = some x → ∃ k, ks[i]? = some k ∧ keyOf1 js n te S x = some k
  | [], _, e => by cases e; exact ⟨rfl, fun i x h => by cases h⟩
  | x :: r, _, e => by
    unfold keysL at e
    split at e
    · rename_i k ks e1 e2
      cases e
      obtain ⟨h1, h2⟩ := keysL_get e2
      refine ⟨by rw [List.length_cons, List.length_cons, h1], fun i y h => ?_⟩
      cases i with
      | zero => cases h; exact ⟨k, rfl, e1⟩
      | succ i => exact h2 i y h
    · cases e
theorem pys_map : ∀ xs : List D, pys xs = xs.map D.py
  | [] => rfl
  | x :: r => by show x.py :: pys r = _; rw [pys_map r]; rfl
section
variable {K : PySem.W.Frag} {mg : Str → Option Value} {G : Hp}
theorem each_out {us : List Value} : ∀ {ps : List (D × D)}, PySem.W.EachIs (fun u p => ∃ v, RelV v u ∧ RV K mg G p.1 v) us ps → ∃ ws, Vals ws us ∧ RVs K mg G (ps.map (·.1)) ws
  | _, .nil => ⟨[], .nil, .nil⟩
  | _, .cons ⟨v, r, h⟩ t => by
    obtain ⟨ws, h1, h2⟩ := each_out t
    exact ⟨v :: ws, .cons r h1, .cons h h2⟩
theorem each_in : ∀ {us : List Value} {vs : List V} {xs ks : List D}, Vals vs us → RVs K mg G xs vs → ks.length = xs.length → PySem.W.EachIs (fun u (p : D × D) => ∃ v, RelV v u ∧ RV K mg G p.1 v) us (xs.zip ks)
  | _, _, _, ks, .nil, .nil, _ => .nil
  | _, _, _, [], .cons _ _, .cons _ _, e => by cases e
  | _, _, _, k :: ks, .cons r t, .cons h q, e => .cons ⟨_, r, h⟩ (each_in t q (by simpa using e))
end
section
variable {X : Cx} {W : WX}
theorem room_in2 {k : Nat} {A : Around} (r : Room (k + 2) A) : Room k A.in1.in1 := r.in1.in1
/-- sorted(e, key=lambda p: body) -/
theorem jn_sortK {N fr : List Str} {js : List Nat} {n k : Nat} {pn x : Str} {c P : Addr} {params : Arguments} {body e : Expr} {scope : Scope} {a te : ME} {kpos lpos p pos : Pos} (TB : LamX.TabB X.base X.mg c P) (hcode : X.env.code = .ref c) (hq : X.env.qual ++ "<lambda>" = x) (hm : (P, x) ∈ tbs X.K)
    (hu : ∀ p ∈ tbs X.K, p.1 = P → p.2 = x) (hg : Gl X "sorted") (hmg : X.mg "sorted" = none) (hr : Room (k + 3) X.A) (S0 : NdefX.NScope N [pn] fr scope) (hn : N.length = n) (hjl : js.length = fr.length)
    (hfree : ∀ y ∈ scope.names, y.2 = .free → X.env.scope.names.lookup y.1 = some .cell ∨ X.env.scope.names.lookup y.1 = some .free) (hfr : ∀ y ∈ fr, (y, NameKind.free) ∈ scope.names) (hjs : js.map (fun j => X.N[j]?) = fr.map some)
    (ha : JE X W e a) (he : ∀ (f c' : Addr) (s : Shared) (H : Hp), JE (NdefX.ncx C8.CX0 X.prog X.w X.K X.mg X.base N ⟨"<lambda>", x, params, [], scope, cloFrom X.env.cells scope.names [], c'⟩ f X.A.in1.in1 X.stack s H C8.E0) noW body te)
    (hb : ∀ (q : Str) (cl : List (Str × Addr)) (pm cd ctv u : Value), bindArgs (PySem.W.kla_fn "<lambda>" q params body scope cl pm cd ctv) ⟨[u], []⟩ = pure [(pn, u)] := by intros; rfl) (hdef : defaultsOf params X.env = ([], []) := by rfl)
    (he1 : backTo pos (starEach [e] X.env) = (false, eval e X.env) :: backTo pos (starEach [] X.env) := by rfl) (hpl : (backTo pos (starEach [e] X.env)).any (·.1) = false := by rfl)
    (hall : (backToKw pos (keywordEach [⟨some "key", .Lambda params body scope lpos, kpos⟩] X.env)).all (·.1.isSome) = true := by rfl) (hnone : (backToKw pos (keywordEach [⟨some "key", .Lambda params body scope lpos, kpos⟩] X.env)).any (·.1.isNone) = false := by rfl)
    (hks : (backToKw pos (keywordEach [⟨some "key", .Lambda params body scope lpos, kpos⟩] X.env)).filterMap (·.1) = [Str.ofString "key"] := by rfl) (hst : starEach [e] X.env = (false, eval e X.env) :: starEach [] X.env := by rfl)
    (hbt : bootBuiltins "sorted" = some (.builtin "sorted") := by decide +kernel) :
    JN X W (.Call (.Name "sorted" p) [e] [⟨some "key", .Lambda params body scope lpos, kpos⟩] pos) (mSortK js n te a) := fun g => by
  refine ⟨fun pins s σ H Q I h => ?_⟩
  obtain ⟨S, G, r, h⟩ := h
  refine wpAny_Call_Name_kw (ld_blt I hg hmg hbt ?_ (by decide) (by decide))
  unfold mSortK at h
  have hA : PA X [e] (fun σ H Q => tE X W g a σ H fun v H1 => Q [v] H1) := ⟨fun pos pins s σ H Q I h => (pa_cons (ha g) pa_nil hst).run pos pins s σ H Q I h⟩
  refine PyProof.Rows.callWith_kw (thn (hA.run pos pins s σ H (fun vs H1 => ∃ v p0 S1 G1, vs = [v] ∧ Sub G G1 ∧ Rep X.K X.mg g G1 σ H1 S1 ∧ RP X.K X.mg G1 σ p0 v ∧ PoN X.K X.mg W g G1 σ (match lstOf S1 p0 with
    | some xs => match keysL js n te S1 xs with
      | some ks => match sortD xs ks with
        | some ys => .ok ys S1
        | none => .bad
      | none => .bad
    | none => .bad) Q) I ⟨S, G, r, ?_⟩) fun us s1 ⟨vs, H1, I1, r1, q1⟩ => ?_) he1 hpl hall hnone
  · cases e1 : a S with
    | bad => rw [e1] at h; exact h.elim
    | exc c S1 => rw [e1] at h; exact h
    | ok p0 S1 =>
      rw [e1] at h
      exact fun G1 H1 v s1 r1 rp => ⟨v, p0, S1, G1, rfl, s1, r1, rp, PoN.mono s1 h⟩
  obtain ⟨v, p0, S1, G1, rfl, s01, rep1, rp, h⟩ := q1
  split at h
  case h_2 => exact h.elim
  rename_i xs ex
  split at h
  case h_2 => exact h.elim
  rename_i ks ek
  split at h
  case h_2 => exact h.elim
  rename_i ys ey
  obtain ⟨l, vs, rfl, hl, rvs⟩ := lstOf_ok rep1 rp ex
  -- the lambda is made
  refine thn ((pk_cons (t := tNil) (te := fun σ' H' Q' => σ' = σ ∧ H' = H1 ∧ ∀ (f c' : Addr) (H2 : Hp), LamX.ExtN H1 H2 → (∀ a, H1 a ≠ none → H2 a ≠ none) → LamX.Tabs (tbs X.K) H2 → H2 f = none → H2 c' = some (LamX.CodeO c' x) → Q' (.ref f) (upd H2 f (LamO f x params body scope (cloFrom X.env.cells scope.names []) c')))
    (nm := some "key") (kpos := kpos) ⟨fun pins s σ' H' Q' I' ⟨e1, e2, q⟩ => ?_⟩ pk_nil).run pos pins s1 σ H1 (fun zs H3 => ∃ (f c' : Addr) (H2 : Hp), zs = [.ref f] ∧ H3 = upd H2 f (LamO f x params body scope (cloFrom X.env.cells scope.names []) c') ∧ LamX.ExtN H1 H2 ∧ (∀ a, H1 a ≠ none → H2 a ≠ none) ∧ LamX.Tabs (tbs X.K) H2 ∧ H2 f = none ∧ H2 c' = some (LamX.CodeO c' x)) I1 ⟨rfl, rfl, fun f c' H2 a1 a2 a3 a4 a5 => ⟨f, c', H2, rfl, rfl, a1, a2, a3, a4, a5⟩⟩) fun ws s3 ⟨zs, H3, I3, r3, q3⟩ => ?_
  · subst e1; subst e2
    exact lam_new I' TB hcode hq hm hu rep1.tabs hdef (fun y hy e => (hfree y hy e).elim (fun z => I'.ok.has _ (.inl z)) fun z => I'.ok.has _ (.inr z)) q
  obtain ⟨f, c', H2, rfl, rfl, a1, a2, a3, a4, a5⟩ := q3
  rw [hks]
  cases r1 with
  | cons r1 r1t =>
  cases r1t
  cases r1
  cases r3 with
  | cons r3 r3t =>
  cases r3t
  cases r3
  have rep2 : Rep X.K X.mg g G1 σ H2 S1 := rep1.extN a1 a2 a3
  have rep3 := (rep2.newO a4 (LamO f x params body scope (cloFrom X.env.cells scope.names []) c')).1
  have nfc : c' ≠ f := ne_of_none a5 a4
  have hl3 : upd H2 f (LamO f x params body scope (cloFrom X.env.cells scope.names []) c') l = some (.lst vs) := by
    have := a1 l _ hl fun ps z => by cases z
    rw [upd_ne (ne_of_none this a4)]; exact this
  obtain ⟨its, rits, pl, hsz⟩ := I3.list (.inl (.inl hl3))
  obtain ⟨kl, kg⟩ := keysL_get ek
  have il : its.length = xs.length := by rw [← rits.length, rvs.length]
  unfold sortD at ey
  split at ey
  case isFalse => cases ey
  rename_i hok
  cases ey
  obtain ⟨k1, k2, k3, k4⟩ := keysOk_ok hok
  have xz : sizeLine = sizeLine := rfl
  show wpAny _ _ (call (.builtin "sorted") [.ref l] [(Str.ofString "key", .ref f)]) _ _ _
  refine sort_run I3 pl.isList (by first | exact hsz | (rw [← rits.length]; exact hsz)) (fun i H' kvs => ∃ G', Sub G1 G' ∧ Rep X.K X.mg g G' σ H' S1 ∧ RVs X.K X.mg G' (ks.take i) kvs ∧ H' f = some (LamO f x params body scope (cloFrom X.env.cells scope.names []) c') ∧ H' c' = some (LamX.CodeO c' x))
    ⟨G1, Sub.refl _, rep3, .nil, upd_same, by rw [upd_ne nfc]; exact a5⟩ (fun i u pins' H' s' kvs hu' I' ⟨G', sG, rep, rk, hf, hc⟩ => ?_) (fun H' kvs ⟨G', sG, rep, rk, hf, hc⟩ => ?_)
  · obtain ⟨v', hv', rvu⟩ := (show ∃ v, vs[i]? = some v ∧ RelV v u from by
      have hi : i < its.length := (List.getElem?_eq_some_iff.mp hu').1
      have hi2 : i < vs.length := by rw [rits.length]; exact hi
      obtain ⟨u2, e2, r2⟩ := rits.get (List.getElem?_eq_getElem hi2)
      rw [hu'] at e2
      cases e2
      exact ⟨vs[i], List.getElem?_eq_getElem hi2, r2⟩)
    obtain ⟨xd, ex', rx⟩ := rvs.getV hv'
    obtain ⟨kd, ekd, ek1⟩ := kg i xd ex'
    have cp : NdefX.Caps X (cloFrom X.env.cells scope.names []) fr js := NdefX.Caps.made I'.ok hfree hfr hjs
    refine wpAny_mono (lam_call (k := k) (N := N) (fr := fr) (js := js) (p := pn) (F := ⟨"<lambda>", x, params, [], scope, cloFrom X.env.cells scope.names [], c'⟩) (body := body) (params := params) (t := tE _ noW (ghOf G' H' [] []) te) (Q := fun z H'' => ∃ G'', Sub G1 G'' ∧ Rep X.K X.mg g G'' σ H'' S1 ∧ RVs X.K X.mg G'' (ks.take (i + 1)) (kvs ++ [z]) ∧
      H'' f = some (LamO f x params body scope (cloFrom X.env.cells scope.names []) c') ∧ H'' c' = some (LamX.CodeO c' x)) I' hf hc S0 (fun pm ctv u => hb _ _ _ _ _ _) (room_in2 hr) cp rvu (he f c' s' H' _) ⟨lamS js n S1 xd, G', ?_, ?_⟩) (fun w s'' ⟨z, H'', I'', rz, q⟩ => ⟨z, H'', I'', rz, q⟩) fun _ _ z => z
    · refine rep_lam rep ?_ fun j y ey => ?_
      · unfold lamS NdefX.startF
        have hNl : 1 + fr.length ≤ N.length := by
          have q := congrArg List.length S0.pre
          rw [List.length_take, List.length_append] at q
          simp only [List.length_cons, List.length_nil] at q
          omega
        simp only [List.length_cons, List.length_append, List.length_map, List.length_replicate, List.length_nil]
        omega
      · unfold lamS at ey
        unfold NdefX.startF
        cases j with
        | zero => cases ey; exact .inr ⟨xd, v', rfl, rfl, rx.mono sG⟩
        | succ j =>
          have ey : (js.map (dOnly S1) ++ List.replicate (n - 1 - js.length) Sl.no)[j]? = some y := ey
          by_cases hj : j < js.length
          · rw [List.getElem?_append_left (by simpa using hj), List.getElem?_map, List.getElem?_eq_getElem hj] at ey
            have ey : some (dOnly S1 js[j]) = some y := ey
            cases ey
            unfold dOnly
            split
            · rename_i d ed
              obtain ⟨v2, e2, r2⟩ := rep.dAt ed
              refine .inr ⟨d, v2, rfl, ?_, r2⟩
              show ([some v'] ++ (js.map (NdefX.slotAt σ) ++ _))[j + 1]? = _
              rw [List.getElem?_append_right (by simp)]
              show (js.map (NdefX.slotAt σ) ++ _)[j + 1 - 1]? = _
              rw [Nat.add_sub_cancel, List.getElem?_append_left (by simpa using hj), List.getElem?_map, List.getElem?_eq_getElem hj]
              show some (NdefX.slotAt σ js[j]) = _
              rw [NdefX.slotAt_of e2]
            · exact .inl rfl
          · rw [List.getElem?_append_right (by simpa using hj), List.getElem?_replicate] at ey
            split at ey
            · exact .inl (Option.some.inj ey).symm
            · cases ey
    · unfold keyOf1 at ek1
      split at ek1
      · rename_i k' S'' et
        cases ek1
        rw [et]
        intro G2 H2' v2 sG2 rep2' rv2
        obtain ⟨b1, b2, b3⟩ := lam_back rep rep2'
        refine ⟨G2, sG.trans b2, b1, ?_, b3 _ _ hf lamO_nt, b3 _ _ hc LamX.codeO_ne⟩
        have et2 : ks.take (i + 1) = ks.take i ++ [kd] := by rw [List.take_add_one, ekd]; rfl
        rw [et2]
        exact (rk.mono b2).append (.cons rv2 .nil)
      · cases ek1
  · have etk : ks.take its.length = ks := List.take_of_length_le (by omega)
    rw [etk] at rk
    have hd := RVs.dp rep.sub rk k3
    refine ⟨pys ks, hd, k1, k2, fun d hd' => ?_, fun out ol ko => ?_⟩
    · have := k4 d hd'
      have := hr.un
      omega
    · have eb : (xs.zip ks).map (fun p : D × D => p.2.py) = pys ks := by
        rw [pys_map, show (fun p : D × D => p.2.py) = D.py ∘ Prod.snd from rfl, ← List.map_map, List.map_snd_zip (by omega)]
      rw [← eb] at ko
      have each := PySem.W.keyedOut_each (R := fun u (p : D × D) => ∃ v, RelV v u ∧ RV X.K X.mg G' p.1 v) (bs := xs.zip ks) (fun p : D × D => p.2.py) ko (each_in rits (rvs.mono sG) kl)
      rw [← isort_eq (dataLe_total _)] at each
      obtain ⟨ws, w1, w2⟩ := each_out each
      refine ⟨ws, w1, fun p' hp' => ?_⟩
      obtain ⟨r5, nw⟩ := rep.newO hp' (.lst ws)
      exact h G' _ p' ws sG r5 upd_same w2 nw
end
theorem hfree_by {X : Cx} {sc scope : Scope} (e : X.env.scope = sc) (h : (scope.names.all fun y => decide (y.2 ≠ .free) || (decide (sc.names.lookup y.1 = some .cell) || decide (sc.names.lookup y.1 = some .free))) = true) :
    ∀ y ∈ scope.names, y.2 = .free → X.env.scope.names.lookup y.1 = some .cell ∨ X.env.scope.names.lookup y.1 = some .free := fun y hy hf => by
  have q := List.all_eq_true.mp h y hy
  rw [e]
  simp only [Bool.or_eq_true, decide_eq_true_eq] at q
  rcases q with q | q
  · exact absurd hf q
  · exact q
end Mw

set_option Elab.async false
set_option linter.all false
set_option maxRecDepth 100000
/-! Mw, part L: raise, try, a def among several, count, index, in, constants. -/
namespace Mw
open PySem PySem.Spec PyProof.Rows L2
/-! ### raise -/
/-- an own class of errors, a ValueError -/
structure ExOk (K : PySem.W.Frag) (mg : Str → Option Value) (x : Str) : Prop where
  mg : mg x = some (.ref (He.ga K x))
  ex : PySem.W.excIn K (He.ga K x) He.veBase "ValueError.__new__" = true
  kp : PySem.W.keepIn K (.ref (He.ga K x)) = true
  sub : PySem.W.subIn K (.ref (He.ga K x)) (.type "BaseException") = some true
  ty : PySem.W.typeIn K (.ref (He.ga K x)) = some (.type "type")
theorem ExOk.cls {K : PySem.W.Frag} {mg : Str → Option Value} {x : Str} (h : ExOk K mg x) : clsV mg x = .ref (He.ga K x) := by unfold clsV; rw [h.mg]; rfl
section
variable {X : Cx} {W : WX}
theorem js_raise {x m : Str} {j : Nat} {p p2 p3 pos : Pos} (ok : ExOk X.K X.mg x) (hc : X.calm = true) (tk : L2N.Takes X W) (hg : Gl X x) (hdb : (x == ("__debug__" : Str)) = false := by decide) :
    JS X W (.Raise (some (.Call (.Name x p) [.Constant (.str m) j p2] [] p3)) none pos) (fun S => .exc x S) := fun g =>
  ps_imp (L2N.ps_raise hc tk (L2N.pmk_own PySem.F.excBase_ValueError ok.ex ok.mg ok.kp (raises_own ok.sub ok.ty) hg hdb)) fun E σ H ⟨S, G, r, h⟩ => by
    have q := h G σ H (Sub.refl _) r
    rw [ok.cls] at q
    exact q
end
/-! ### a caught error asked for its class -/
/-- e's class is c; what isinstance says of it -/
structure AskOk (K : PySem.W.Frag) (mg : Str → Option Value) (c : Str) (cs : List Str) : Prop where
  e : ExcC K (He.ga K c)
  own : ∀ y ∈ cs, PySem.W.kitOne K (.ref (He.ga K c)) (.ref (He.ga K y)) = some (decide (y = c))
  ve : PySem.W.kitOne K (.ref (He.ga K c)) (.type "ValueError") = some true
section
variable {X : Cx}
theorem call_isX {a D : Addr} {oe : Obj} (hp : (a, oe) ∈ X.pn) (C : ExcC X.K D) (hz : Zc (.ref D) none oe) (hf : ∃ vs, oe.data = .fields vs) : CallR X (.builtin "isinstance") (rIsE X.K D a) := by
  intro pins s σ H xs us Q I r h
  obtain ⟨c, cv, b, rfl, hcv, e, q⟩ := h
  cases r with
  | cons rx rr =>
    cases rr with
    | cons rt rr =>
      cases rr
      cases rx
      have ec := hcv _ rt
      subst ec
      obtain ⟨vs, hv⟩ := hf
      obtain ⟨h1, h2⟩ := hz
      have J : PySem.W.InstAt s.heap a oe D none := by
        have hget := (I.pin (a, oe) (List.mem_append_left _ hp)).1
        obtain ⟨oc, od, oda, osl⟩ := oe
        dsimp only at h1 h2 hv
        subst h1 h2 hv
        exact ⟨hget, rfl, rfl, trivial⟩
      exact PySem.W.kia_one (PySem.W.handS_kitx_exc C.hg C.hk C.hs C.hd C.ha C.hn C.ht C.hm) I.kIn J e (fun z => nomatch z) fun tk => ⟨.bl b, H, I.kept (t' := tk) fun _ _ z => z, rfl, q⟩
end
def mIsX (i : Nat) (a : Addr) (b : Bool) : ME := fun S => match S[i]? with
  | some (.v a') => if a' = a then .ok (.d (.bl b)) S else .bad
  | _ => .bad
section
variable {X : Cx} {W : WX}
theorem isX_of {i : Nat} {a : Addr} {b : Bool} {g : Gh} {σ : St} {H : Hp} {Q : VK} (h : tE X W g (mIsX i a b) σ H Q) : σ[i]? = some (some (.ref a)) ∧ Q (.bl b) H := by
  obtain ⟨S, G, r, h⟩ := h
  unfold mIsX at h
  split at h
  · rename_i a' e
    split at h
    · rename_i ea
      subst ea
      exact ⟨r.sl i _ e, h G H _ (Sub.refl _) r (.bl b)⟩
    · exact h.elim
  · exact h.elim
theorem je_isX {i : Nat} {a : Addr} {oe : Obj} {c x y : Str} {cs : List Str} {p p1 p2 pos : Pos} (hp : (a, oe) ∈ X.pn) (ok : AskOk X.K X.mg c cs) (hz : Zc (.ref (He.ga X.K c)) none oe) (hf : ∃ vs, oe.data = .fields vs) (hy : y ∈ cs) (hm : X.mg y = some (.ref (He.ga X.K y))) (hg : Gl X y) (hgi : Gl X "isinstance") (hmi : X.mg "isinstance" = none)
    (hN : X.N[i]? = some x := by rfl) (hv : Vis X.env.scope x := by first | exact Or.inl rfl | exact Or.inr (Or.inl rfl) | exact Or.inr (Or.inr rfl)) (hd : (x == ("__debug__" : Str)) = false := by decide)
    (hc : (x == ("__classdict__" : Str)) = false := by decide) (hdy : (y == ("__debug__" : Str)) = false := by decide)
    (hs : starEach [.Name x p1, .Name y p2] X.env = (false, eval (.Name x p1) X.env) :: starEach [.Name y p2] X.env := by rfl) (hs2 : starEach [.Name y p2] X.env = (false, eval (.Name y p2) X.env) :: starEach [] X.env := by rfl)
    (hpl : (backTo pos (starEach [.Name y p2] X.env)).any (·.1) = false := by rfl) (hb : bootBuiltins "isinstance" = some (.builtin "isinstance") := by decide +kernel) :
    JE X W (.Call (.Name "isinstance" p) [.Name x p1, .Name y p2] [] pos) (mIsX i a (decide (y = c))) := fun g => by
  refine pe_imp (pe_callB (call_isX hp ok.e hz hf) hgi hmi hb (pa_cons (pe_var hN hv hd hc) (pa_cons (pe_glob (v := .ref (He.ga X.K y)) hg hm rfl hdy) pa_nil hs2) hs) (by decide) (by decide) hs hpl) fun σ H Q h => ?_
  obtain ⟨h1, h2⟩ := isX_of h
  exact ⟨.ref a, h1, .ref (He.ga X.K y), .ref (He.ga X.K y), _, rfl, fun u hu => hu, ok.own y hy, h2⟩
theorem je_isXV {i : Nat} {a : Addr} {oe : Obj} {c x : Str} {cs : List Str} {p p1 p2 pos : Pos} (hp : (a, oe) ∈ X.pn) (ok : AskOk X.K X.mg c cs) (hz : Zc (.ref (He.ga X.K c)) none oe) (hf : ∃ vs, oe.data = .fields vs) (hm : X.mg "ValueError" = none) (hg : Gl X "ValueError") (hgi : Gl X "isinstance") (hmi : X.mg "isinstance" = none)
    (hN : X.N[i]? = some x := by rfl) (hv : Vis X.env.scope x := by first | exact Or.inl rfl | exact Or.inr (Or.inl rfl) | exact Or.inr (Or.inr rfl)) (hd : (x == ("__debug__" : Str)) = false := by decide)
    (hc : (x == ("__classdict__" : Str)) = false := by decide)
    (hs : starEach [.Name x p1, .Name "ValueError" p2] X.env = (false, eval (.Name x p1) X.env) :: starEach [.Name "ValueError" p2] X.env := by rfl) (hs2 : starEach [.Name "ValueError" p2] X.env = (false, eval (.Name "ValueError" p2) X.env) :: starEach [] X.env := by rfl)
    (hpl : (backTo pos (starEach [.Name "ValueError" p2] X.env)).any (·.1) = false := by rfl) (hb : bootBuiltins "isinstance" = some (.builtin "isinstance") := by decide +kernel) (hb2 : bootBuiltins "ValueError" = some (.type "ValueError") := by decide +kernel) :
    JE X W (.Call (.Name "isinstance" p) [.Name x p1, .Name "ValueError" p2] [] pos) (mIsX i a true) := fun g => by
  refine pe_imp (pe_callB (call_isX hp ok.e hz hf) hgi hmi hb (pa_cons (pe_var hN hv hd hc) (pa_cons (pe_bltn (v := .ty "ValueError") hg hm hb2 rfl (by decide) (by decide)) pa_nil hs2) hs) (by decide) (by decide) hs hpl) fun σ H Q h => ?_
  obtain ⟨h1, h2⟩ := isX_of h
  exact ⟨.ref a, h1, .ty "ValueError", .type "ValueError", _, rfl, fun u hu => hu, ok.ve, h2⟩
end
/-! ### _law_which: called in an except suite -/
/-- a def of one parameter that is asked about the handled error of the class c (one of cs) answers d c -/
structure WhichOk (P : Program) (w : World) (K : PySem.W.Frag) (mg : Str → Option Value) (base : Heap) (k : Nat) (x : Str) (cs : List Str) (d : Str → Option D) : Prop where
  mgx : mg x = some (.ref (He.ga K x))
  kp : PySem.W.keepIn K (.ref (He.ga K x)) = true
  run : ∀ (A : Around) (outer : List Env) (s : Shared) (H G : Hp) (a : Addr) (oe : Obj) (c : Str) (y : D) (Q : VK), L2H.RoomH k A → L2H.Hot1 A (a, oe) → L2H.PinOk outer H s (a, oe) → Env0 P w K mg base A outer s H → Zc (clsV mg c) none oe → (∃ vs, oe.data = .fields vs) → c ∈ cs → d c = some y →
    ArgsR K mg G H [] [] → (∀ G' H' v, After K mg G H [] [] [] G' H' → RV K mg G' y v → Q v H') → codeAny (model P w) A (.call (.ref (He.ga K x)) ⟨[.ref a], []⟩) (CR C8.CX0 outer P w H s Q C8.E0) s
theorem rep_x {K : PySem.W.Frag} {mg : Str → Option Value} {G H : Hp} (A : ArgsR K mg G H [] []) (N : List Str) (a : Addr) (hN : 0 < N.length) : Rep K mg (ghOf G H [] []) G (L2.start N [.ref a]) H (.v a :: List.replicate (N.length - 1) .no) := by
  have own : ∀ i b, ¬ OwnAt H (L2.start N [.ref a]) (.v a :: List.replicate (N.length - 1) .no) i b := by
    rintro i b ⟨x, rt, e, _, f⟩
    cases i with
    | zero => cases e; exact f.elim
    | succ i =>
      have e : (List.replicate (N.length - 1) Sl.no)[i]? = some x := e
      rw [List.getElem?_replicate] at e
      split at e
      · cases e; exact f.elim
      · cases e
  have A0 := rep_start (N := N) A (Nat.zero_le _)
  refine ⟨A0.g0, A0.fresh, A0.sub, A0.keep, A0.nof, A0.rm, A0.dom, fun i x e => ?_, fun i j b h => (own i b h).elim, ?_, A0.tabs, A0.ntG, A0.ntR⟩
  · cases i with
    | zero => cases e; rfl
    | succ i =>
      have e : (List.replicate (N.length - 1) Sl.no)[i]? = some x := e
      rw [List.getElem?_replicate] at e
      split at e
      · cases e; trivial
      · cases e
  · unfold L2.start
    rw [List.length_cons, List.length_replicate, List.length_append, List.length_map, List.length_replicate, List.length_singleton]
    omega
theorem which_of {P : Program} {w : World} {K : PySem.W.Frag} {mg : Str → Option Value} {base : Heap} {x ex : Str} {st : Stmt} {k : Nat} {N : List Str} {cs : List Str} {d : Str → Option D} {b : Str → Addr → MS} (F : DefF K mg x st) (Sc : FnScope N [ex] (defScope st))
    (hbind : ∀ {fd : FuncData}, FunD K x x (defArgs st) (defBody st) (defScope st) [] [] (He.ga K x) fd → Binds K fd [ex] []) (hcls : ∀ c ∈ cs, clsV mg c = .ref (He.ga K c))
    (hb : ∀ (cdv : Value) (A : Around) (outer : List Env) (s : Shared) (H : Hp) (a : Addr) (oe : Obj) (c : Str), c ∈ cs → Zc (.ref (He.ga K c)) none oe → (∃ vs, oe.data = .fields vs) → (L2H.cxH C8.CX0 P w K mg base N x (defScope st) (He.ga K x) cdv A outer s H C8.E0 (a, oe)).A.units + 65 < cLine →
      JSs (L2H.cxH C8.CX0 P w K mg base N x (defScope st) (He.ga K x) cdv A outer s H C8.E0 (a, oe)) noW (defBody st) (b c a))
    (hd : ∀ c ∈ cs, ∀ y, d c = some y → ∀ a, ∃ S, b c a (.v a :: List.replicate (N.length - 1) .no) = .ok (.rt y) S) : WhichOk P w K mg base (k + 1) x cs d := by
  obtain ⟨fd, F1⟩ := F.fd
  refine ⟨F.mg, F1.kp, fun A outer s H G a oe c y Q hr hot hpin e0 hz hf hc hdc ar hQ => ?_⟩
  have hNl : 0 < N.length := by
    have := congrArg List.length Sc.pre
    rw [List.length_take] at this
    simp at this
    omega
  have hbd := hbind F1
  obtain ⟨oc, od, dV, kV, doc, pm, an, cdv, ct, osl, efd, lk, hcd, _, _⟩ := F1.ex
  subst efd
  rw [hcls c hc] at hz
  have KX : K.In s.heap := e0.mod.kin.keeps fun b o e => (e0.bs b o e).1
  have lim : s.heap.NoLimit := e0.mod.nolimit.keeps fun b o e => (e0.bs b o e).1
  have hkind : ∀ y ∈ [(ex, Value.ref a)], (defScope st).names.lookup y.1 = some .local ∨ ((defScope st).names.lookup y.1 = some .cell ∧ ((cellsFrom (s.heap.objs.size + 1) (defScope st).names []).lookup y.1).isSome = true) := fun y hy => by
    rw [List.mem_singleton.mp hy]
    rcases Sc.par ex (List.mem_singleton.mpr rfl) with q | q
    · exact .inl q
    · exact .inr ⟨q, PySem.W.cellsFrom_some _ _ _ (.inl q)⟩
  have hb0 := hbd s [.ref a] KX rfl
  refine codeAny_call_function hr.depth (KX _ _ lk) rfl Sc.co Sc.gen rfl (PySem.W.codeRec_of KX hcd) (hb0 _ _ _ _ ?_)
  refine wpAny_newFunctionEnv_cells Sc.kind hkind fun env he s1 x1 => ?_
  subst he
  refine ⟨lim.keeps x1.toInCall.keep, codeAny_func ?_⟩
  have I : Inv (L2H.cxH C8.CX0 P w K mg base N x (defScope st) (He.ga K x) cdv A outer s H C8.E0 (a, oe)) [] (L2.start N [.ref a]) H s1 := L2H.inv_startH (vs := [.ref a]) (us := [.ref a]) Sc hpin e0 rfl (.cons rfl .nil) x1
  obtain ⟨S, eS⟩ := hd c hc y hdc a
  have hq : tS (L2H.cxH C8.CX0 P w K mg base N x (defScope st) (He.ga K x) cdv A outer s H C8.E0 (a, oe)) noW (ghOf G H [] []) (b c a) { nx := fun _ H' => Q .non H', rt := Q } (L2.start N [.ref a]) H :=
    ⟨_, G, rep_x ar N a hNl, by rw [eS]; exact fun G' σ' H' v _ r rv => hQ G' H' v (rep_after ar r) rv⟩
  refine wpAny_mono ((hb cdv A outer s H a oe c hc hz hf (by have := hr.un; show A.units + 3 + 65 < cLine; omega) (ghOf G H [] [])).run [] s1 (L2.start N [.ref a]) H _ I hq) (fun fl s' hs => ?_) fun e s' hs => hs
  have fin : ∀ {σ' : St} {H' : Hp} {v : V} {u : Value}, Inv (L2H.cxH C8.CX0 P w K mg base N x (defScope st) (He.ga K x) cdv A outer s H C8.E0 (a, oe)) [] σ' H' s' → RelV v u → Q v H' → CE outer P w H s Q u s' :=
    fun {σ' H' v u} J rv q => ⟨v, H', J.os, J.bare, J.base, J.hok, rv, q⟩
  cases fl with
  | ret u =>
    obtain ⟨v, σ', H', J, rv, q⟩ := hs
    exact fin J rv q
  | next =>
    obtain ⟨σ', H', J, q⟩ := hs
    exact fin (v := V.non) (u := Value.none) J rfl q
  | brk =>
    obtain ⟨_, _, _, q⟩ := hs
    exact False.elim q
  | cont =>
    obtain ⟨_, _, _, q⟩ := hs
    exact False.elim q
/-! ### try: .. except X as e: return which(e) -/
def mTry (i : Nat) (cs : List Str) (d : Str → Option D) (m : MS) : MS := fun S => match m S with
  | .exc c S1 => if c ∈ cs ∧ i < S1.length then match d c with
      | some y => .ok (.rt y) (S1.set i .no)
      | none => .bad
    else .bad
  | r => r
section
variable {X : Cx} {W : WX}
theorem js_try {i k : Nat} {n x wh : Str} {cs : List Str} {d : Str → Option D} {body : List Stmt} {m : MS} {np q q2 cpos rpos pos' pos : Pos} (hs : X.stack = X.env :: X.outer) (hf : X.env.frame = some X.env.locals) (hN : X.N.Nodup) (hi : X.N[i]? = some n) (hln : X.env.kindOf n = some .local) (hm : X.mg x = some (.ref (He.ga X.K x))) (hg : Gl X x) (tk : L2N.Takes X W)
    (hx : ∀ c ∈ cs, PySem.W.exmOne X.K (clsV X.mg c) (.ref (He.ga X.K x)) = some true) (wo : WhichOk X.prog X.w X.K X.mg X.base k wh cs d) (hr : Room k X.A) (hgw : Gl X wh)
    (hb : ∀ (W : WX) (pn : List (Addr × Obj)) (xe : Value → Shared → Prop), L2N.Takes (X.tr pn xe) W → PassesOwn (model X.prog X.w) X.A X.env xe → JSs (X.tr pn xe) W body m)
    (hdx : (x == ("__debug__" : Str)) = false := by decide) (hdw : (wh == ("__debug__" : Str)) = false := by decide) (hdn : (n == ("__debug__" : Str)) = false := by decide) (hcn : (n == ("__classdict__" : Str)) = false := by decide)
    (hse : starEach [.Name n q2] X.env = (false, eval (.Name n q2) X.env) :: starEach [] X.env := by rfl) :
    JS X W (.Try body [.ExceptHandler (some (.Name x np)) (some n) [.Return (some (.Call (.Name wh q) [.Name n q2] [] cpos)) rpos] pos'] [] [] pos) (mTry i cs d m) := fun g => by
  refine ps_imp (L2N.ps_try_as (X := X) (c := .ref (He.ga X.K x)) (i := i) (Wout := W) (tb := fun W' => fun E σ H => ∃ S G, Rep X.K X.mg g G σ H S ∧ PoS X.K X.mg W' g G (m S) E)
    (ts := fun a cls dd => fun E σ H => ∃ c y S G, cls = clsV X.mg c ∧ dd = none ∧ c ∈ cs ∧ d c = some y ∧ σ[i]? = some (some (.ref a)) ∧ Rep X.K X.mg g G σ H S ∧ ∀ G' H' v, Sub G G' → Rep X.K X.mg g G' σ H' S → RV X.K X.mg G' y v → E.rt v H')
    hs hf hN hi hln ⟨hg, hdx, .inl hm⟩ tk (fun W' pn xe tk' hp' => hb W' pn xe tk' hp' g) (fun a oe cls dd pn hz hfl => ?_)) fun E σ H ⟨S, G, r, h⟩ => ?_
  · refine pss_one (ps_imp (ps_ret (te := fun σ H Q => ∃ c y S G, cls = clsV X.mg c ∧ dd = none ∧ c ∈ cs ∧ d c = some y ∧ σ[i]? = some (some (.ref a)) ∧ Rep X.K X.mg g G σ H S ∧ ∀ G' H' v, Sub G G' → Rep X.K X.mg g G' σ H' S → RV X.K X.mg G' y v → Q v H') ⟨fun pins s σ H Q I h => ?_⟩) fun E σ H h => h)
    obtain ⟨c, y, S, G, rfl, rfl, hc, hd, hsl, r, hQ⟩ := h
    have hgw' : Gl (X.suite a ((a, oe) :: pn)) wh := hgw
    refine wpAny_Call_Name_kw (ld_glob I hgw' wo.mgx ?_ hdw)
    have hv : Vis X.env.scope n := .inl hln
    have ha : PA (X.suite a ((a, oe) :: pn)) [.Name n q2] (tCons (tVar i) tNil) := pa_cons (pe_var hi hv hdn hcn) pa_nil hse
    refine PySem.W.callWith_K (h₀ := X.base) I.ok.mod.kin wo.kp (thn (ha.run cpos pins s σ H (fun vs H1 => vs = [.ref a] ∧ H1 = H) I ⟨.ref a, hsl, rfl, rfl⟩) fun us s1 ⟨vs, H1, I1, r1, e1, e2⟩ => ⟨I1.kIn, ?_⟩) hse (by rfl)
    subst e1
    rw [e2] at I1
    cases r1 with
    | cons ru rn =>
    cases rn
    cases ru
    have P1 := I1.pin (a, oe) (List.mem_append_left _ (.head _))
    have hpin : L2H.PinOk X.stack H s1 (a, oe) := ⟨P1.1, P1.2.1, fun hm' => (List.mem_cons.mp (I1.stkSub a hm')).elim P1.2.2.1 P1.2.2.2.1, P1.2.2.2.2⟩
    obtain ⟨vs0, hv0⟩ := hfl
    have hot : L2H.Hot1 (X.A.mark (some (.ref a))) (a, oe) := ⟨rfl, vs0, hv0, hz.2.2 vs0 hv0⟩
    have hrh : L2H.RoomH k (X.A.mark (some (.ref a))) := ⟨hr.dp, hr.un⟩
    refine wpAny_call (codeAny_mono (wo.run (X.A.mark (some (.ref a))) X.stack s1 H G a oe c y Q hrh hot hpin I1.env0 hz.zc ⟨vs0, hv0⟩ hc hd (argsR_nil r) fun G' H' v af rv => ?_) fun rr s' hq => ?_)
    · exact hQ G' H' v af.sub (rep_call (ps := []) (args := []) (outs := []) (vs := []) r rfl .nil (by decide) rfl af) rv
    · cases rr with
      | error e => exact (show False from hq).elim
      | ok fl =>
        cases fl with
        | ret u => exact I1.after hq
        | next => exact False.elim hq
        | brk => exact False.elim hq
        | cont => exact False.elim hq
  · refine ⟨S, G, r, ?_⟩
    unfold mTry at h
    cases e1 : m S with
    | bad => rw [e1] at h; exact h.elim
    | ok fl S1 => rw [e1] at h; cases fl <;> exact h
    | exc c S1 =>
      rw [e1] at h
      intro G1 σ1 H1 s1 r1
      dsimp only at h
      split at h
      · rename_i hcl
        obtain ⟨hc, hl⟩ := hcl
        split at h
        · rename_i y hd
          refine ⟨true, hx c hc, fun _ a ha => ⟨c, y, S1.set i .no, G1, rfl, rfl, hc, hd, ?_, ?_, fun G' H' v s2 r2 rv => ?_⟩, fun z => by cases z⟩
          · rw [List.getElem?_set_self (by rw [← r1.len]; exact hl)]
          · exact r1.setG (s := .no) trivial fun _ _ _ _ f => f.elim
          · exact h G' _ H' v (s1.trans s2) r2 rv
        · exact h.elim
      · exact h.elim
end
/-! ### a def among several, called -/
def mCallF (tbl : List (Str × Fn)) (fe : ME) (a : MA) : ME := fun S => (fe S).bind fun p S1 => match p with
  | .d (.fn x) => match tbl.lookup x with
    | some F => mCall F a S1
    | none => .bad
  | _ => .bad
inductive Oks (P : Program) (w : World) (K : PySem.W.Frag) (mg : Str → Option Value) (base : Heap) (k n : Nat) : List (Str × Fn) → Prop
  | nil : Oks P w K mg base k n []
  | cons {x : Str} {F : Fn} {j : Nat} {r : List (Str × Fn)} (h : Ok P w K mg base j x n F) (hj : j ≤ k) (t : Oks P w K mg base k n r) : Oks P w K mg base k n ((x, F) :: r)
theorem Oks.get {P : Program} {w : World} {K : PySem.W.Frag} {mg : Str → Option Value} {base : Heap} {k n : Nat} {x : Str} {F : Fn} : ∀ {tbl : List (Str × Fn)}, Oks P w K mg base k n tbl → tbl.lookup x = some F → ∃ j, j ≤ k ∧ Ok P w K mg base j x n F
  | _, .nil, e => by cases e
  | _, .cons (x := y) (r := r) h hj t, e => by
    unfold List.lookup at e
    split at e
    · rename_i q
      cases e
      rw [eq_of_beq q]
      exact ⟨_, hj, h⟩
    · exact t.get e
section
variable {X : Cx} {W : WX}
theorem je_callF {tbl : List (Str × Fn)} {fe : ME} {a : MA} {n k : Nat} {o i e : Expr} {p pos : Pos} {es : List Expr} (oks : Oks X.prog X.w X.K X.mg X.base k n tbl) (hr : Room k X.A) (tk : L2N.Takes X W) (hn : MA.len a n) (hf : JE X W (.Subscript o i p) fe) (ha : JA X W (e :: es) a)
    (he : starEach (e :: es) X.env = (false, eval e X.env) :: starEach es X.env := by rfl) (hpl : (backTo pos (starEach es X.env)).any (·.1) = false := by rfl) : JE X W (.Call (.Subscript o i p) (e :: es) [] pos) (mCallF tbl fe a) := fun g => by
  refine ⟨fun pins s σ H Q I h => ?_⟩
  obtain ⟨S, G, r, h⟩ := h
  show wpAny _ _ (do callWith pos (← eval (.Subscript o i p) X.env) [] (backTo pos (starEach (e :: es) X.env)) (backToKw pos (keywordEach [] X.env))) _ _ _
  refine wpAny_bind (thn ((hf g).run pins s σ H (fun v H1 => ∃ x F G1 S1, X.mg x = some (match v with | .ref b => .ref b | _ => .none) ∧ v = .ref (He.ga X.K x) ∧ tbl.lookup x = some F ∧ Rep X.K X.mg g G1 σ H1 S1 ∧ PoE X.K X.mg W g G1 σ (mCall F a S1) Q) I ⟨S, G, r, ?_⟩) fun u s1 ⟨v, H1, I1, r1, q1⟩ => ?_)
  · unfold mCallF at h
    refine po_bindE h fun q S1 G1 H1 v s1 r1 rp h => ?_
    split at h
    · rename_i x
      split at h
      · rename_i F eF
        cases rp with
        | fn hm =>
          obtain ⟨j, hj, ok⟩ := oks.get eF
          have e2 : some (Value.ref _) = some (Value.ref (He.ga X.K x)) := hm.symm.trans ok.mg
          cases e2
          exact ⟨x, F, G1, S1, hm, rfl, eF, r1, h⟩
      · exact h.elim
    · exact h.elim
  · obtain ⟨x, F, G1, S1, _, rfl, eF, rep, h⟩ := q1
    cases r1
    obtain ⟨j, hj, ok⟩ := oks.get eF
    obtain ⟨fd, ps, h1, h2⟩ := ok.ex
    have hq : tE X W g (mCall F a) σ H1 Q := ⟨S1, G1, rep, h⟩
    refine PySem.W.callWith_K (h₀ := X.base) I1.ok.mod.kin ok.kp (thn ((ha g).run pos pins s1 σ H1 _ I1 (call_of (n := n) hn hq)) fun us s2 ⟨vs, H2, I2, rv, q⟩ => ⟨I2.kIn, ?_⟩) he hpl
    exact run_fnSD h1 (hr.mono hj) h2 .nil (L2N.passAt tk σ) I2 rv q
/-! ### methods that change nothing -/
def rB (X : Cx) (f : Sg → P → List P → Option D) : V → List V → Hp → VK → Prop := fun x xs H Q => ∃ (g : Gh) (G : Hp) (σ : St) (S : Sg) (p : P) (ps : List P) (d : D), Rep X.K X.mg g G σ H S ∧ RP X.K X.mg G σ p x ∧ RPs X.K X.mg G σ ps xs ∧ f S p ps = some d ∧
  ∀ G' H' v, Sub G G' → Rep X.K X.mg g G' σ H' S → RV X.K X.mg G' d v → Q v H'
def mBM (ty : Sg → P → Bool) (f : Sg → P → List P → Option D) (o : ME) (a : MA) : ME := fun S => (o S).bind fun p S1 => if ty S1 p then (a S1).bind fun ps S2 => match f S2 p ps with
    | some d => .ok (.d d) S2
    | none => .bad
  else .bad
/-- p is a list (tuple, text) whatever is done -/
def isLst (S : Sg) (p : P) : Bool := (lstOf S p).isSome
theorem RP_lst {g : Gh} {G H : Hp} {σ : St} {S : Sg} {p : P} {v : V} (r : Rep X.K X.mg g G σ H S) (rp : RP X.K X.mg G σ p v) (e : isLst S p = true) : tyV X.K "list" v H := by
  unfold isLst at e
  cases q : lstOf S p with
  | none => rw [q] at e; cases e
  | some xs =>
    obtain ⟨a, vs, rfl, h, _⟩ := lstOf_ok r rp q
    exact .inl ⟨rfl, _, .inl (.inl h)⟩
theorem bm_of {T : String} {ty : Sg → P → Bool} {f : Sg → P → List P → Option D} {o : ME} {a : MA} {g : Gh} {σ : St} {H : Hp} {Q : VK} (hty : ∀ {g : Gh} {G H : Hp} {σ : St} {S : Sg} {p : P} {v : V}, Rep X.K X.mg g G σ H S → RP X.K X.mg G σ p v → ty S p = true → tyV X.K T v H)
    (h : tE X W g (mBM ty f o a) σ H Q) : tBM X.K T (rB X f) (tE X W g o) (tA X W g a) σ H Q := by
  obtain ⟨S, G, r, h⟩ := h
  refine ⟨S, G, r, po_bindE h fun p S1 G1 H1 x s1 r1 rp h => ?_⟩
  split at h
  case isFalse => exact h.elim
  rename_i ht
  refine ⟨hty r1 rp ht, S1, G1, r1, ?_⟩
  cases e1 : a S1 with
  | bad => rw [e1] at h; exact h.elim
  | exc c S2 => rw [e1] at h; exact h
  | ok ps S2 =>
    rw [e1] at h
    intro G2 H2 vs s2 r2 rps
    have h : PoE X.K X.mg W g G1 σ (match f S2 p ps with | some d => .ok (.d d) S2 | none => .bad) Q := h
    cases e2 : f S2 p ps with
    | none => rw [e2] at h; exact h.elim
    | some d =>
      rw [e2] at h
      exact ⟨g, G2, σ, S2, p, ps, d, r2, rp.mono s2, rps, e2, fun G' H' v s r' rv => h G' H' v (s2.trans s) r' rv⟩
theorem je_bm {T id : String} {ty : Sg → P → Bool} {f : Sg → P → List P → Option D} {name : Str} {o e : Expr} {es : List Expr} {mo : ME} {a : MA} {apos cpos : Pos} (pa : PlainAttrs T) (slot : Slot T name id) (htm : typeOf (.builtin id) = pure (.type "method_descriptor")) (hm : MtR X id (rB X f))
    (hty : ∀ {g : Gh} {G H : Hp} {σ : St} {S : Sg} {p : P} {v : V}, Rep X.K X.mg g G σ H S → RP X.K X.mg G σ p v → ty S p = true → tyV X.K T v H) (ho : JE X W o mo) (ha : JA X W (e :: es) a)
    (hbase : attributeBase o name X.env (eval o X.env) = eval o X.env := by rfl)
    (hfew : ((backTo cpos (starEach (e :: es) X.env)).all (fun x => !x.1) && (backToKw cpos (keywordEach [] X.env)).all (fun x => x.1.isSome)
      && decide ((e :: es).length + ([] : List Keyword).length + (if ([] : List Keyword).isEmpty then 0 else 1) < 30)) = true := by rfl)
    (hline : (apos.endLine == cpos.line) = true := by rfl) (hs : starEach (e :: es) X.env = (false, eval e X.env) :: starEach es X.env := by rfl) (hplain : (backTo cpos (starEach es X.env)).any (·.1) = false := by rfl) :
    JE X W (.Call (.Attribute o name apos) (e :: es) [] cpos) (mBM ty f mo a) := fun g =>
  pe_imp (pe_bm pa slot htm hm (ho g) (ha g) hbase hfew hline hs hplain) fun _ _ _ h => bm_of hty h
def bIndex (S : Sg) (p : P) : List P → Option D
  | [q] => match lstOf S p, datOf S q with
    | some xs, some y => if SeqAt.shaped (.list (pys xs)) && SeqAt.shaped y.py then Option.map (fun j : Nat => D.int j) ((pys xs).findIdx? fun z => PyData.eqv z y.py) else none
    | _, _ => none
  | _ => none
theorem lst_dp {g : Gh} {G H : Hp} {σ : St} {S : Sg} {p : P} {v : V} {xs : List D} (r : Rep X.K X.mg g G σ H S) (rp : RP X.K X.mg G σ p v) (e : lstOf S p = some xs) (c : PyData.canLayAll0 (pys xs) = true) : ∃ a, v = .ref a ∧ Dp X.K H (.ref a) (.list (pys xs)) := by
  obtain ⟨a, vs, rfl, h, q⟩ := lstOf_ok r rp e
  exact ⟨a, rfl, .lst (.inl (.inl h)) (RVs.dp r.sub q c)⟩
theorem m_index (hv : X.A.units + 65 < cLine) : MtR X "list.index" (rB X bIndex) := by
  intro pins s σ H x xs v us Q I rx rxs h
  obtain ⟨g, G, σ', S, p, ps, d, r, rp, rps, e, k⟩ := h
  unfold bIndex at e
  split at e
  · rename_i q
    split at e
    · rename_i ys y e1 e2
      split at e
      · rename_i hz
        rw [Bool.and_eq_true] at hz
        obtain ⟨j, ej, rfl⟩ := Option.map_eq_some_iff.mp e
        obtain ⟨a, rfl, hdp⟩ := lst_dp r rp e1 (SeqAt.canLay_of_shaped hz.1)
        cases rps with
        | cons hy t =>
          cases t
          have hyd := datOf_dp r hy e2 (SeqAt.canLay_of_shaped hz.2)
          obtain ⟨hj1, hj2, hj3⟩ := List.findIdx?_eq_some_iff_getElem.mp ej
          refine mt_indexD hv pins s σ H (.ref a) _ v us Q I rx rxs ⟨a, _, y.py, pys ys, j, (pys ys)[j], rfl, rfl, hdp, hyd, hz.1, hz.2, List.getElem?_eq_getElem hj1, by simpa using hj2, fun m z hm hz' => ?_, k G H _ (Sub.refl _) r (.int _)⟩
          obtain ⟨hml, rfl⟩ := List.getElem?_eq_some_iff.mp hz'
          have := hj3 m hm
          simpa using this
      · cases e
    · cases e
  · cases e
def bCount (S : Sg) (p : P) : List P → Option D
  | [q] => match lstOf S p, datOf S q with
    | some xs, some y => if SeqAt.shaped (.list (pys xs)) && SeqAt.shaped y.py then some (.int ((pys xs).countP fun z => PyData.eqv z y.py : Nat)) else none
    | _, _ => none
  | _ => none
theorem m_count (hv : X.A.units + 65 < cLine) : MtR X "list.count" (rB X bCount) := by
  intro pins s σ H x xs v us Q I rx rxs h
  obtain ⟨g, G, σ', S, p, ps, d, r, rp, rps, e, k⟩ := h
  unfold bCount at e
  split at e
  · rename_i q
    split at e
    · rename_i ys y e1 e2
      split at e
      · rename_i hz
        rw [Bool.and_eq_true] at hz
        cases e
        obtain ⟨a, vs, rfl, hl, rvs⟩ := lstOf_ok r rp e1
        cases rx
        cases rps with
        | cons hy t =>
          cases t
          cases rxs with
          | cons ry rt =>
          cases rt
          rename_i uy
          have hyd := datOf_dp r hy e2 (SeqAt.canLay_of_shaped hz.2)
          obtain ⟨bs, r1⟩ := Dp.reads I _ _ _ hyd ry
          have hxs : PyData.canLayAll0 (pys ys) = true := SeqAt.canLay_of_shaped hz.1
          have hroom : X.A.units + 1 + min (PyData.depthAll (pys ys)) y.py.depth < cLine := room_in_shaped hz.2 hv
          obtain ⟨its, rv, ⟨⟨cls, dd, data, sls⟩, n, ho, hc, hdn, hdt⟩, hlen⟩ := I.list (.inl (.inl hl))
          simp only at hc hdt
          subst hc hdt
          obtain ⟨as, h4⟩ := Dp.readsAll I (pys ys) _ its (RVs.dp r.sub rvs hxs) rv
          have hmap : its.map (SeqAt.readOf s.heap) = pys ys := SeqAt.readsAll_map (pys ys) its as hxs h4
          refine call_meets PySem.F.slot_list_count ⟨_, ho, rfl⟩ PySem.F.entry_list_count (PySem.F.args_list_count_2 _ _)
            (SeqAt.list_countAt a its.toArray n dd sls uy (fun u => PyData.eqv (SeqAt.readOf s.heap u) y.py)) ⟨ho, SeqAt.items_eqAt (vs := its.toArray) (show ReadsAll s.heap its.toArray.toList (pys ys) as from h4) r1 hxs (SeqAt.canLay_of_shaped hz.2) hroom, ?_⟩
          have ec : its.toArray.toList.countP (fun u => PyData.eqv (SeqAt.readOf s.heap u) y.py) = (pys ys).countP fun z => PyData.eqv z y.py := by
            rw [← hmap, List.countP_map]
            rfl
          rw [ec]
          exact ⟨.int _, H, I.tok _, ⟨s.toks, rfl⟩, k G H _ (Sub.refl _) r (.int _)⟩
      · cases e
    · cases e
  · cases e
/-! ### constants of the module -/
theorem je_cI {x : Str} {i : Int} {pos : Pos} (h : ∃ t, X.mg x = some (.int i t)) (hg : Gl X x) (hd : (x == ("__debug__" : Str)) = false := by decide) : JE X W (.Name x pos) (mC (.int i)) := by
  obtain ⟨t, e⟩ := h
  exact je_glob (v := .int i) hg e ⟨t, rfl⟩ (fun _ => .int i) hd
theorem je_cS {x z : Str} {pos : Pos} (h : ∃ t, X.mg x = some (.str z t)) (hg : Gl X x) (hd : (x == ("__debug__" : Str)) = false := by decide) : JE X W (.Name x pos) (mC (.str z)) := by
  obtain ⟨t, e⟩ := h
  exact je_glob (v := .str z) hg e ⟨t, rfl⟩ (fun _ => .str z) hd
def dStrs (zs : List Str) : D := .tup (zs.map D.str)
theorem strs_rv {K : PySem.W.Frag} {mg : Str → Option Value} {G : Hp} : ∀ zs : List Str, RVs K mg G (zs.map D.str) ((zs.map He.Dv.str).map (He.Dv.v K))
  | [] => .nil
  | z :: r => .cons (.str z) (strs_rv r)
theorem je_cT {x : Str} {zs : List Str} {pos : Pos} (h : X.mg x = some (.ref (He.ga X.K x)) ∧ He.tupB X.K x (zs.map He.Dv.str) = true) (hg : Gl X x) (hd : (x == ("__debug__" : Str)) = false := by decide) : JE X W (.Name x pos) (mC (dStrs zs)) :=
  je_glob (v := .ref (He.ga X.K x)) hg h.1 rfl (fun G => .tup (He.tupB_ok h.2 G) (strs_rv zs)) hd
end
/-! ### facts of the head -/
theorem tbs_mem {K : PySem.W.Frag} {x : Str} (h : (He.Fa.glo x).ok K = true) (hx : x ∈ lamDefs) : ((He.cT K (x, none)).2, x ++ ".<locals>.<lambda>") ∈ tbs K := List.mem_filterMap.mpr ⟨x, hx, if_pos h⟩
theorem tbs_in {K : PySem.W.Frag} {p : Addr × Str} (h : p ∈ tbs K) : ∃ x, x ∈ lamDefs ∧ (He.Fa.glo x).ok K = true ∧ p = ((He.cT K (x, none)).2, x ++ ".<locals>.<lambda>") := by
  obtain ⟨x, hx, e⟩ := List.mem_filterMap.mp h
  split at e
  · rename_i hg
    exact ⟨x, hx, hg, (Option.some.inj e).symm⟩
  · cases e
theorem glo_free {K : PySem.W.Frag} {x : Str} (h : (He.Fa.free x).ok K = true) : ¬ (He.Fa.glo x).ok K = true := fun g => by
  have e1 := He.eqO_ok h
  have e2 := He.eqO_ok g
  rw [e1] at e2
  cases e2
theorem exOk {K : PySem.W.Frag} {h : Heap} {mg : Str → Option Value} {x : Str} (X : K.In h) (G : h.Ns mainGlobals mg) (g : (He.Fa.glo x).ok K = true) (e : (He.Fa.exc x).ok K = true) : ExOk K mg x := by
  obtain ⟨a, b, c, d⟩ := He.exc_ok e
  exact ⟨He.glo_ok X G g, a, b, c, d⟩
def excCB (K : PySem.W.Frag) (D : Addr) : Bool :=
  decide (PySem.W.findIn K (.ref D) "__getattribute__" = some (some (.builtin "BaseException.__getattribute__"))) && (decide (PySem.W.findIn K (.ref D) "__getattr__" = some none) && (decide (PySem.W.subIn K (.ref D) (.type "BaseException") = some true) && (PySem.W.hasDictIn K D &&
  (decide (PySem.W.findIn K (.ref D) "__class__" = some (some (.builtin "object.__class__"))) && (decide (PySem.W.specialIn K (.builtin "object.__class__") "__get__" = some (some (.builtin "getset_descriptor.__get__"))) && (decide (PySem.W.takesIn K (.builtin "object.__class__") = some true) && decide (PySem.W.mroIn K D (.type "object") = some true)))))))
theorem excCB_ok {K : PySem.W.Frag} {D : Addr} (h : excCB K D = true) : ExcC K D := by
  unfold excCB at h
  simp only [Bool.and_eq_true, decide_eq_true_eq] at h
  obtain ⟨a, b, c, d, e, f, g, i⟩ := h
  exact ⟨a, b, c, d, e, f, g, i⟩
def askB (K : PySem.W.Frag) (cs : List Str) (c : Str) : Bool := excCB K (He.ga K c) && (cs.all (fun y => decide (PySem.W.kitOne K (.ref (He.ga K c)) (.ref (He.ga K y)) = some (decide (y = c)))) && decide (PySem.W.kitOne K (.ref (He.ga K c)) (.type "ValueError") = some true))
def askAllB (K : PySem.W.Frag) (cs : List Str) : Bool := cs.all (askB K cs)
theorem ask_all {K : PySem.W.Frag} {mg : Str → Option Value} {cs : List Str} (h : askAllB K cs = true) : ∀ c ∈ cs, AskOk K mg c cs := fun c hc => by
  have h1 := List.all_eq_true.mp h c hc
  unfold askB at h1
  simp only [Bool.and_eq_true, decide_eq_true_eq] at h1
  obtain ⟨a, b, d⟩ := h1
  exact ⟨excCB_ok a, fun y hy => by have := List.all_eq_true.mp b y hy; exact of_decide_eq_true this, d⟩
def whichCs : List Str := ["NoRule", "NoBids", "NoNumber", "NoTrader", "NoCheat", "NoCount", "TooMany", "NoPlan", "NoSplit", "NoWishes", "NoSwap", "NoWay", "NoTape", "NoText", "NoPurses", "NotOpen", "StillOpen", "Nothing"]
def whichAns (c : Str) : Option D := (whichCs.findIdx? fun y => decide (y = c)).bind fun j => some (.tup [.str "refused", .int (j : Nat)])
end Mw

set_option Elab.async false
set_option linter.all false
set_option maxRecDepth 100000
/-! _law_which: the refusals told apart. -/
namespace Mw
open PySem L2
def B_law_which (c : Str) (a : Addr) : MS := (mSeq (mSetN 1 (mLst (mCons (mIsX 0 a (decide ("NoRule" = c))) (mCons (mIsX 0 a (decide ("NoBids" = c))) (mCons (mIsX 0 a (decide ("NoNumber" = c))) (mCons (mIsX 0 a (decide ("NoTrader" = c))) mNil))))))
  (mSeq (mExpr (mMeth 1 fExtend (mCons (mDat (mLst (mCons (mIsX 0 a (decide ("NoCheat" = c))) (mCons (mIsX 0 a (decide ("NoCount" = c))) (mCons (mIsX 0 a (decide ("TooMany" = c))) (mCons (mIsX 0 a (decide ("NoPlan" = c))) mNil)))))) mNil)))
  (mSeq (mExpr (mMeth 1 fExtend (mCons (mDat (mLst (mCons (mIsX 0 a (decide ("NoSplit" = c))) (mCons (mIsX 0 a (decide ("NoWishes" = c))) (mCons (mIsX 0 a (decide ("NoSwap" = c))) (mCons (mIsX 0 a (decide ("NoWay" = c))) mNil)))))) mNil)))
  (mSeq (mExpr (mMeth 1 fExtend (mCons (mDat (mLst (mCons (mIsX 0 a (decide ("NoTape" = c))) (mCons (mIsX 0 a (decide ("NoText" = c))) (mCons (mIsX 0 a (decide ("NoPurses" = c))) (mCons (mIsX 0 a (decide ("NotOpen" = c))) mNil)))))) mNil)))
  (mSeq (mExpr (mMeth 1 fExtend (mCons (mDat (mLst (mCons (mIsX 0 a (decide ("StillOpen" = c))) (mCons (mIsX 0 a (decide ("Nothing" = c))) mNil)))) mNil)))
  (mSeq (mIfS (mOrT (mTruth boolP (mBin (cEqP true) (mBM isLst bCount (mVar 1) (mCons (mC (.bl true)) mNil)) (mC (.int 1)))) (mNotT (mTruth truP (mIsX 0 a true)))) (mRet (mTup (mCons (mC (.str "refused")) (mCons (mUn opNeg (mC (.int 1))) mNil)))) mSkip)
  (mRet (mTup (mCons (mC (.str "refused")) (mCons (mBM isLst bIndex (mVar 1) (mCons (mC (.bl true)) mNil)) mNil))))))))))
theorem isX_self (a : Addr) (b : Bool) (r : Sg) : mIsX 0 a b (.v a :: r) = .ok (.d (.bl b)) (.v a :: r) := by unfold mIsX; rw [show (Sl.v a :: r)[0]? = some (Sl.v a) from rfl]; exact if_pos rfl
def bsOf (c : Str) : List D := whichCs.map fun y => .bl (decide (y = c))
theorem orT_no {a b : MT} {S S1 : Sg} (h : a S = .ok false S1) : mOrT a b S = b S1 := by unfold mOrT; rw [h]; rfl
/-- what stands at the end, where the answers are bs -/
theorem which_step (c : Str) (a : Addr) {y : D} (h1 : bCount [.v a, .l false (bsOf c)] (.s 1) [.d (.bl true)] = some (.int 1)) (h2 : bIndex [.v a, .l false (bsOf c)] (.s 1) [.d (.bl true)] = some y) :
    B_law_which c a (.v a :: [.no]) = .ok (.rt (.tup [.str "refused", y])) [.v a, .l false (bsOf c)] := by
  unfold B_law_which
  refine (seq_ok (S1 := [.v a, .l false ((bsOf c).take 4)]) ?_).trans ?_
  · simp only [mkFn, outsOf, Sl.own, mSeq, mSkip, mExpr, mRet, mIfS, mSet, mSetN, mVar, mFrz, mC, mBin, mUn, mNil, mCons, allD, sizeOk, mTup, mLst, mDat, mTruth, truP, boolP, mAndT, mOrT, mNotT, mAndV, mOrV, notP, mIf, lstOf, seqOf, mulOk, opAdd, opSub, opMul, opFdiv, opMod, opPow, opNeg, cInt, datOf, cEqP, cIsQ, cIsP, D.isNon, opIdx, mChain, mCB, bLen, bAbs, bMax, bMin, bSum, bAll, bAny, bInt, bTuple, mCN, bList, mPart, mSl, opSl, Ty.sub, tyOf, isiP, gtName, gtNil, gtCons, gtTup, mAsg, seqItems, walkItems, mItSeq, rng1, rng2, mItA, mFor, mLc, mYes, wipeS, backS, argOf, argsOf, idxs, putO, putB, mCall, mMeth, fAppend, fExtend, fPop, fPopAt, putAt, mSetItem, mAug, iI, xNil, xD, xN, Nw.sl, putN, mPar, enum1, zip2, isX_self, bind_ok]; rfl
  refine (seq_ok (S1 := [.v a, .l false ((bsOf c).take 8)]) ?_).trans ?_
  · simp only [mkFn, outsOf, Sl.own, mSeq, mSkip, mExpr, mRet, mIfS, mSet, mSetN, mVar, mFrz, mC, mBin, mUn, mNil, mCons, allD, sizeOk, mTup, mLst, mDat, mTruth, truP, boolP, mAndT, mOrT, mNotT, mAndV, mOrV, notP, mIf, lstOf, seqOf, mulOk, opAdd, opSub, opMul, opFdiv, opMod, opPow, opNeg, cInt, datOf, cEqP, cIsQ, cIsP, D.isNon, opIdx, mChain, mCB, bLen, bAbs, bMax, bMin, bSum, bAll, bAny, bInt, bTuple, mCN, bList, mPart, mSl, opSl, Ty.sub, tyOf, isiP, gtName, gtNil, gtCons, gtTup, mAsg, seqItems, walkItems, mItSeq, rng1, rng2, mItA, mFor, mLc, mYes, wipeS, backS, argOf, argsOf, idxs, putO, putB, mCall, mMeth, fAppend, fExtend, fPop, fPopAt, putAt, mSetItem, mAug, iI, xNil, xD, xN, Nw.sl, putN, mPar, enum1, zip2, isX_self, bind_ok]; rfl
  refine (seq_ok (S1 := [.v a, .l false ((bsOf c).take 12)]) ?_).trans ?_
  · simp only [mkFn, outsOf, Sl.own, mSeq, mSkip, mExpr, mRet, mIfS, mSet, mSetN, mVar, mFrz, mC, mBin, mUn, mNil, mCons, allD, sizeOk, mTup, mLst, mDat, mTruth, truP, boolP, mAndT, mOrT, mNotT, mAndV, mOrV, notP, mIf, lstOf, seqOf, mulOk, opAdd, opSub, opMul, opFdiv, opMod, opPow, opNeg, cInt, datOf, cEqP, cIsQ, cIsP, D.isNon, opIdx, mChain, mCB, bLen, bAbs, bMax, bMin, bSum, bAll, bAny, bInt, bTuple, mCN, bList, mPart, mSl, opSl, Ty.sub, tyOf, isiP, gtName, gtNil, gtCons, gtTup, mAsg, seqItems, walkItems, mItSeq, rng1, rng2, mItA, mFor, mLc, mYes, wipeS, backS, argOf, argsOf, idxs, putO, putB, mCall, mMeth, fAppend, fExtend, fPop, fPopAt, putAt, mSetItem, mAug, iI, xNil, xD, xN, Nw.sl, putN, mPar, enum1, zip2, isX_self, bind_ok]; rfl
  refine (seq_ok (S1 := [.v a, .l false ((bsOf c).take 16)]) ?_).trans ?_
  · simp only [mkFn, outsOf, Sl.own, mSeq, mSkip, mExpr, mRet, mIfS, mSet, mSetN, mVar, mFrz, mC, mBin, mUn, mNil, mCons, allD, sizeOk, mTup, mLst, mDat, mTruth, truP, boolP, mAndT, mOrT, mNotT, mAndV, mOrV, notP, mIf, lstOf, seqOf, mulOk, opAdd, opSub, opMul, opFdiv, opMod, opPow, opNeg, cInt, datOf, cEqP, cIsQ, cIsP, D.isNon, opIdx, mChain, mCB, bLen, bAbs, bMax, bMin, bSum, bAll, bAny, bInt, bTuple, mCN, bList, mPart, mSl, opSl, Ty.sub, tyOf, isiP, gtName, gtNil, gtCons, gtTup, mAsg, seqItems, walkItems, mItSeq, rng1, rng2, mItA, mFor, mLc, mYes, wipeS, backS, argOf, argsOf, idxs, putO, putB, mCall, mMeth, fAppend, fExtend, fPop, fPopAt, putAt, mSetItem, mAug, iI, xNil, xD, xN, Nw.sl, putN, mPar, enum1, zip2, isX_self, bind_ok]; rfl
  refine (seq_ok (S1 := [.v a, .l false (bsOf c)]) ?_).trans ?_
  · simp only [mkFn, outsOf, Sl.own, mSeq, mSkip, mExpr, mRet, mIfS, mSet, mSetN, mVar, mFrz, mC, mBin, mUn, mNil, mCons, allD, sizeOk, mTup, mLst, mDat, mTruth, truP, boolP, mAndT, mOrT, mNotT, mAndV, mOrV, notP, mIf, lstOf, seqOf, mulOk, opAdd, opSub, opMul, opFdiv, opMod, opPow, opNeg, cInt, datOf, cEqP, cIsQ, cIsP, D.isNon, opIdx, mChain, mCB, bLen, bAbs, bMax, bMin, bSum, bAll, bAny, bInt, bTuple, mCN, bList, mPart, mSl, opSl, Ty.sub, tyOf, isiP, gtName, gtNil, gtCons, gtTup, mAsg, seqItems, walkItems, mItSeq, rng1, rng2, mItA, mFor, mLc, mYes, wipeS, backS, argOf, argsOf, idxs, putO, putB, mCall, mMeth, fAppend, fExtend, fPop, fPopAt, putAt, mSetItem, mAug, iI, xNil, xD, xN, Nw.sl, putN, mPar, enum1, zip2, isX_self, bind_ok]; rfl
  have hb : mBM isLst bCount (mVar 1) (mCons (mC (.bl true)) mNil) [.v a, .l false (bsOf c)] = .ok (.d (.int 1)) [.v a, .l false (bsOf c)] := by
    show (if isLst [.v a, .l false (bsOf c)] (.s 1) = true then (match bCount [.v a, .l false (bsOf c)] (.s 1) [.d (.bl true)] with | some d => Res.ok (P.d d) [.v a, .l false (bsOf c)] | none => .bad) else .bad) = _
    rw [if_pos (show isLst [.v a, .l false (bsOf c)] (.s 1) = true from rfl), h1]
  have hi : mBM isLst bIndex (mVar 1) (mCons (mC (.bl true)) mNil) [.v a, .l false (bsOf c)] = .ok (.d y) [.v a, .l false (bsOf c)] := by
    show (if isLst [.v a, .l false (bsOf c)] (.s 1) = true then (match bIndex [.v a, .l false (bsOf c)] (.s 1) [.d (.bl true)] with | some d => Res.ok (P.d d) [.v a, .l false (bsOf c)] | none => .bad) else .bad) = _
    rw [if_pos (show isLst [.v a, .l false (bsOf c)] (.s 1) = true from rfl), h2]
  refine (seq_ok (S1 := [.v a, .l false (bsOf c)]) ?_).trans ?_
  · refine (if_no (S1 := [.v a, .l false (bsOf c)]) ?_).trans ?_
    · refine (orT_no (S1 := [.v a, .l false (bsOf c)]) ?_).trans ?_
      · unfold mTruth mBin
        rw [hb]
        rfl
      · unfold mNotT mTruth
        rw [isX_self]
        rfl
    · rfl
  · have ht : mCons (mC (.str "refused")) (mCons (mBM isLst bIndex (mVar 1) (mCons (mC (.bl true)) mNil)) mNil) [.v a, .l false (bsOf c)] = .ok [.d (.str "refused"), .d y] [.v a, .l false (bsOf c)] := by
      show ((mBM isLst bIndex (mVar 1) (mCons (mC (.bl true)) mNil) [.v a, .l false (bsOf c)]).bind fun p S1 => (mNil S1).bind fun ps S2 => Res.ok (p :: ps) S2).bind _ = _
      rw [hi]
      rfl
    unfold mRet mTup
    rw [ht]
    rfl
theorem which_ans : ∀ c ∈ whichCs, ∀ y, whichAns c = some y → ∀ a, ∃ S, B_law_which c a (.v a :: List.replicate (2 - 1) .no) = .ok (.rt y) S := by
  intro c hc
  unfold whichCs at hc
  simp only [List.mem_cons, List.not_mem_nil, or_false] at hc
  rcases hc with rfl | rfl | rfl | rfl | rfl | rfl | rfl | rfl | rfl | rfl | rfl | rfl | rfl | rfl | rfl | rfl | rfl | rfl
  · intro y h a; have e : whichAns "NoRule" = some (.tup [.str "refused", .int 0]) := by rfl
    rw [e] at h; cases h; exact ⟨_, which_step "NoRule" a (y := .int 0) (by rfl) (by rfl)⟩
  · intro y h a; have e : whichAns "NoBids" = some (.tup [.str "refused", .int 1]) := by rfl
    rw [e] at h; cases h; exact ⟨_, which_step "NoBids" a (y := .int 1) (by rfl) (by rfl)⟩
  · intro y h a; have e : whichAns "NoNumber" = some (.tup [.str "refused", .int 2]) := by rfl
    rw [e] at h; cases h; exact ⟨_, which_step "NoNumber" a (y := .int 2) (by rfl) (by rfl)⟩
  · intro y h a; have e : whichAns "NoTrader" = some (.tup [.str "refused", .int 3]) := by rfl
    rw [e] at h; cases h; exact ⟨_, which_step "NoTrader" a (y := .int 3) (by rfl) (by rfl)⟩
  · intro y h a; have e : whichAns "NoCheat" = some (.tup [.str "refused", .int 4]) := by rfl
    rw [e] at h; cases h; exact ⟨_, which_step "NoCheat" a (y := .int 4) (by rfl) (by rfl)⟩
  · intro y h a; have e : whichAns "NoCount" = some (.tup [.str "refused", .int 5]) := by rfl
    rw [e] at h; cases h; exact ⟨_, which_step "NoCount" a (y := .int 5) (by rfl) (by rfl)⟩
  · intro y h a; have e : whichAns "TooMany" = some (.tup [.str "refused", .int 6]) := by rfl
    rw [e] at h; cases h; exact ⟨_, which_step "TooMany" a (y := .int 6) (by rfl) (by rfl)⟩
  · intro y h a; have e : whichAns "NoPlan" = some (.tup [.str "refused", .int 7]) := by rfl
    rw [e] at h; cases h; exact ⟨_, which_step "NoPlan" a (y := .int 7) (by rfl) (by rfl)⟩
  · intro y h a; have e : whichAns "NoSplit" = some (.tup [.str "refused", .int 8]) := by rfl
    rw [e] at h; cases h; exact ⟨_, which_step "NoSplit" a (y := .int 8) (by rfl) (by rfl)⟩
  · intro y h a; have e : whichAns "NoWishes" = some (.tup [.str "refused", .int 9]) := by rfl
    rw [e] at h; cases h; exact ⟨_, which_step "NoWishes" a (y := .int 9) (by rfl) (by rfl)⟩
  · intro y h a; have e : whichAns "NoSwap" = some (.tup [.str "refused", .int 10]) := by rfl
    rw [e] at h; cases h; exact ⟨_, which_step "NoSwap" a (y := .int 10) (by rfl) (by rfl)⟩
  · intro y h a; have e : whichAns "NoWay" = some (.tup [.str "refused", .int 11]) := by rfl
    rw [e] at h; cases h; exact ⟨_, which_step "NoWay" a (y := .int 11) (by rfl) (by rfl)⟩
  · intro y h a; have e : whichAns "NoTape" = some (.tup [.str "refused", .int 12]) := by rfl
    rw [e] at h; cases h; exact ⟨_, which_step "NoTape" a (y := .int 12) (by rfl) (by rfl)⟩
  · intro y h a; have e : whichAns "NoText" = some (.tup [.str "refused", .int 13]) := by rfl
    rw [e] at h; cases h; exact ⟨_, which_step "NoText" a (y := .int 13) (by rfl) (by rfl)⟩
  · intro y h a; have e : whichAns "NoPurses" = some (.tup [.str "refused", .int 14]) := by rfl
    rw [e] at h; cases h; exact ⟨_, which_step "NoPurses" a (y := .int 14) (by rfl) (by rfl)⟩
  · intro y h a; have e : whichAns "NotOpen" = some (.tup [.str "refused", .int 15]) := by rfl
    rw [e] at h; cases h; exact ⟨_, which_step "NotOpen" a (y := .int 15) (by rfl) (by rfl)⟩
  · intro y h a; have e : whichAns "StillOpen" = some (.tup [.str "refused", .int 16]) := by rfl
    rw [e] at h; cases h; exact ⟨_, which_step "StillOpen" a (y := .int 16) (by rfl) (by rfl)⟩
  · intro y h a; have e : whichAns "Nothing" = some (.tup [.str "refused", .int 17]) := by rfl
    rw [e] at h; cases h; exact ⟨_, which_step "Nothing" a (y := .int 17) (by rfl) (by rfl)⟩
end Mw

set_option Elab.async false
set_option linter.all false
set_option maxRecDepth 100000
set_option maxHeartbeats 4000000

namespace Mw.R
open PySem PySem.Spec PyProof.Rows L2 Mw
def top (i : Nat) : Stmt := PySem.Challenge.pw_marketworks_k11_cheats_refused.main.body.getD i (.Pass ⟨0, 0, 0, 0⟩)
abbrev s_is_whole : Stmt := top 21
abbrev s_common : Stmt := top 22
abbrev s_made_of : Stmt := top 23
abbrev s_sum_of_two : Stmt := top 24
abbrev s_minus_of : Stmt := top 25
abbrev s_order_of : Stmt := top 26
abbrev s_whole : Stmt := top 27
abbrev s_half : Stmt := top 28
abbrev s_sum_of_all : Stmt := top 29
abbrev s_is_among : Stmt := top 38
abbrev s_is_number : Stmt := top 39
abbrev s_is_trader : Stmt := top 40
abbrev s_is_auction : Stmt := top 41
abbrev s_is_exchange : Stmt := top 42
abbrev s_is_rule : Stmt := top 43
abbrev s_need_rule : Stmt := top 44
abbrev s_need_auction : Stmt := top 45
abbrev s_need_exchange : Stmt := top 46
abbrev s_is_bid : Stmt := top 47
abbrev s_good_bids : Stmt := top 48
abbrev s_need_bids : Stmt := top 49
abbrev s_need_sale : Stmt := top 50
abbrev s_standing : Stmt := top 51
abbrev s_winners_of : Stmt := top 53
abbrev s_next_price : Stmt := top 54
abbrev s_payments_of : Stmt := top 55
abbrev s_sides_of : Stmt := top 57
abbrev s_how_many : Stmt := top 58
abbrev s_prices_of : Stmt := top 59
abbrev s_traded : Stmt := top 60
abbrev s_sides_in : Stmt := top 62
abbrev s_run_of : Stmt := top 63
abbrev s_gain_of : Stmt := top 64
abbrev s_taken_of : Stmt := top 65
abbrev s_gains_of : Stmt := top 66
abbrev s_is_kind : Stmt := top 70
abbrev s_good_cheat : Stmt := top 71
abbrev s_is_cheat : Stmt := top 72
abbrev s_told_by_lies : Stmt := top 73
abbrev s_told_by_names : Stmt := top 74
abbrev s_told_by_shill : Stmt := top 75
abbrev s_told_by : Stmt := top 76
abbrev s_gain : Stmt := top 77
abbrev s_all_cheats : Stmt := top 78
abbrev s_best_of : Stmt := top 79
abbrev s_need_kind : Stmt := top 80
abbrev s_best_cheat : Stmt := top 81
abbrev s_all_rows : Stmt := top 82
abbrev s_first_cheated : Stmt := top 83
abbrev s_need_high : Stmt := top 84
abbrev s_safe : Stmt := top 85
abbrev s_safe_for : Stmt := top 86
abbrev s_law_cell_at : Stmt := top 88
abbrev s_law_mixed : Stmt := top 89
abbrev s_law_draw : Stmt := top 90
abbrev s_law_pick : Stmt := top 91
abbrev s_law_which : Stmt := top 92
abbrev s_law_ask : Stmt := top 93
abbrev s_law_kinds_refused : Stmt := top 94
abbrev s_law : Stmt := top 95
def d_is_whole : He.DefD := ⟨("is_whole", none), "is_whole", "is_whole", defArgs s_is_whole, defBody s_is_whole, defScope s_is_whole, [], []⟩
def d_common : He.DefD := ⟨("common", none), "common", "common", defArgs s_common, defBody s_common, defScope s_common, [], []⟩
def d_made_of : He.DefD := ⟨("made_of", none), "made_of", "made_of", defArgs s_made_of, defBody s_made_of, defScope s_made_of, [], []⟩
def d_sum_of_two : He.DefD := ⟨("sum_of_two", none), "sum_of_two", "sum_of_two", defArgs s_sum_of_two, defBody s_sum_of_two, defScope s_sum_of_two, [], []⟩
def d_minus_of : He.DefD := ⟨("minus_of", none), "minus_of", "minus_of", defArgs s_minus_of, defBody s_minus_of, defScope s_minus_of, [], []⟩
def d_order_of : He.DefD := ⟨("order_of", none), "order_of", "order_of", defArgs s_order_of, defBody s_order_of, defScope s_order_of, [], []⟩
def d_whole : He.DefD := ⟨("whole", none), "whole", "whole", defArgs s_whole, defBody s_whole, defScope s_whole, [], []⟩
def d_half : He.DefD := ⟨("half", none), "half", "half", defArgs s_half, defBody s_half, defScope s_half, [], []⟩
def d_sum_of_all : He.DefD := ⟨("sum_of_all", none), "sum_of_all", "sum_of_all", defArgs s_sum_of_all, defBody s_sum_of_all, defScope s_sum_of_all, [], []⟩
def d_is_among : He.DefD := ⟨("is_among", none), "is_among", "is_among", defArgs s_is_among, defBody s_is_among, defScope s_is_among, [], []⟩
def d_is_number : He.DefD := ⟨("is_number", none), "is_number", "is_number", defArgs s_is_number, defBody s_is_number, defScope s_is_number, [], []⟩
def d_is_trader : He.DefD := ⟨("is_trader", none), "is_trader", "is_trader", defArgs s_is_trader, defBody s_is_trader, defScope s_is_trader, [], []⟩
def d_is_auction : He.DefD := ⟨("is_auction", none), "is_auction", "is_auction", defArgs s_is_auction, defBody s_is_auction, defScope s_is_auction, [], []⟩
def d_is_exchange : He.DefD := ⟨("is_exchange", none), "is_exchange", "is_exchange", defArgs s_is_exchange, defBody s_is_exchange, defScope s_is_exchange, [], []⟩
def d_is_rule : He.DefD := ⟨("is_rule", none), "is_rule", "is_rule", defArgs s_is_rule, defBody s_is_rule, defScope s_is_rule, [], []⟩
def d_need_rule : He.DefD := ⟨("need_rule", none), "need_rule", "need_rule", defArgs s_need_rule, defBody s_need_rule, defScope s_need_rule, [], []⟩
def d_need_auction : He.DefD := ⟨("need_auction", none), "need_auction", "need_auction", defArgs s_need_auction, defBody s_need_auction, defScope s_need_auction, [], []⟩
def d_need_exchange : He.DefD := ⟨("need_exchange", none), "need_exchange", "need_exchange", defArgs s_need_exchange, defBody s_need_exchange, defScope s_need_exchange, [], []⟩
def d_is_bid : He.DefD := ⟨("is_bid", none), "is_bid", "is_bid", defArgs s_is_bid, defBody s_is_bid, defScope s_is_bid, [], []⟩
def d_good_bids : He.DefD := ⟨("good_bids", none), "good_bids", "good_bids", defArgs s_good_bids, defBody s_good_bids, defScope s_good_bids, [], []⟩
def d_need_bids : He.DefD := ⟨("need_bids", none), "need_bids", "need_bids", defArgs s_need_bids, defBody s_need_bids, defScope s_need_bids, [], []⟩
def d_need_sale : He.DefD := ⟨("need_sale", none), "need_sale", "need_sale", defArgs s_need_sale, defBody s_need_sale, defScope s_need_sale, [], []⟩
def d_standing : He.DefD := ⟨("standing", none), "standing", "standing", defArgs s_standing, defBody s_standing, defScope s_standing, [], []⟩
def d_winners_of : He.DefD := ⟨("winners_of", none), "winners_of", "winners_of", defArgs s_winners_of, defBody s_winners_of, defScope s_winners_of, [], []⟩
def d_next_price : He.DefD := ⟨("next_price", none), "next_price", "next_price", defArgs s_next_price, defBody s_next_price, defScope s_next_price, [], []⟩
def d_payments_of : He.DefD := ⟨("payments_of", none), "payments_of", "payments_of", defArgs s_payments_of, defBody s_payments_of, defScope s_payments_of, [], []⟩
def d_sides_of : He.DefD := ⟨("sides_of", none), "sides_of", "sides_of", defArgs s_sides_of, defBody s_sides_of, defScope s_sides_of, [], []⟩
def d_how_many : He.DefD := ⟨("how_many", none), "how_many", "how_many", defArgs s_how_many, defBody s_how_many, defScope s_how_many, [], []⟩
def d_prices_of : He.DefD := ⟨("prices_of", none), "prices_of", "prices_of", defArgs s_prices_of, defBody s_prices_of, defScope s_prices_of, [], []⟩
def d_traded : He.DefD := ⟨("traded", none), "traded", "traded", defArgs s_traded, defBody s_traded, defScope s_traded, [], []⟩
def d_sides_in : He.DefD := ⟨("sides_in", none), "sides_in", "sides_in", defArgs s_sides_in, defBody s_sides_in, defScope s_sides_in, [], []⟩
def d_run_of : He.DefD := ⟨("run_of", none), "run_of", "run_of", defArgs s_run_of, defBody s_run_of, defScope s_run_of, [], []⟩
def d_gain_of : He.DefD := ⟨("gain_of", none), "gain_of", "gain_of", defArgs s_gain_of, defBody s_gain_of, defScope s_gain_of, [], []⟩
def d_taken_of : He.DefD := ⟨("taken_of", none), "taken_of", "taken_of", defArgs s_taken_of, defBody s_taken_of, defScope s_taken_of, [], []⟩
def d_gains_of : He.DefD := ⟨("gains_of", none), "gains_of", "gains_of", defArgs s_gains_of, defBody s_gains_of, defScope s_gains_of, [], []⟩
def d_is_kind : He.DefD := ⟨("is_kind", none), "is_kind", "is_kind", defArgs s_is_kind, defBody s_is_kind, defScope s_is_kind, [], []⟩
def d_good_cheat : He.DefD := ⟨("good_cheat", none), "good_cheat", "good_cheat", defArgs s_good_cheat, defBody s_good_cheat, defScope s_good_cheat, [], []⟩
def d_is_cheat : He.DefD := ⟨("is_cheat", none), "is_cheat", "is_cheat", defArgs s_is_cheat, defBody s_is_cheat, defScope s_is_cheat, [], []⟩
def d_told_by_lies : He.DefD := ⟨("told_by_lies", none), "told_by_lies", "told_by_lies", defArgs s_told_by_lies, defBody s_told_by_lies, defScope s_told_by_lies, [], []⟩
def d_told_by_names : He.DefD := ⟨("told_by_names", none), "told_by_names", "told_by_names", defArgs s_told_by_names, defBody s_told_by_names, defScope s_told_by_names, [], []⟩
def d_told_by_shill : He.DefD := ⟨("told_by_shill", none), "told_by_shill", "told_by_shill", defArgs s_told_by_shill, defBody s_told_by_shill, defScope s_told_by_shill, [], []⟩
def d_told_by : He.DefD := ⟨("told_by", none), "told_by", "told_by", defArgs s_told_by, defBody s_told_by, defScope s_told_by, [], []⟩
def d_gain : He.DefD := ⟨("gain", none), "gain", "gain", defArgs s_gain, defBody s_gain, defScope s_gain, [], []⟩
def d_all_cheats : He.DefD := ⟨("all_cheats", none), "all_cheats", "all_cheats", defArgs s_all_cheats, defBody s_all_cheats, defScope s_all_cheats, [], []⟩
def d_best_of : He.DefD := ⟨("best_of", none), "best_of", "best_of", defArgs s_best_of, defBody s_best_of, defScope s_best_of, [], []⟩
def d_need_kind : He.DefD := ⟨("need_kind", none), "need_kind", "need_kind", defArgs s_need_kind, defBody s_need_kind, defScope s_need_kind, [], []⟩
def d_best_cheat : He.DefD := ⟨("best_cheat", none), "best_cheat", "best_cheat", defArgs s_best_cheat, defBody s_best_cheat, defScope s_best_cheat, [], [("high", .int 9)]⟩
def d_all_rows : He.DefD := ⟨("all_rows", none), "all_rows", "all_rows", defArgs s_all_rows, defBody s_all_rows, defScope s_all_rows, [], []⟩
def d_first_cheated : He.DefD := ⟨("first_cheated", none), "first_cheated", "first_cheated", defArgs s_first_cheated, defBody s_first_cheated, defScope s_first_cheated, [], []⟩
def d_need_high : He.DefD := ⟨("need_high", none), "need_high", "need_high", defArgs s_need_high, defBody s_need_high, defScope s_need_high, [], []⟩
def d_safe : He.DefD := ⟨("safe", none), "safe", "safe", defArgs s_safe, defBody s_safe, defScope s_safe, [], [("many", .int 2), ("high", .int 3)]⟩
def d_safe_for : He.DefD := ⟨("safe_for", none), "safe_for", "safe_for", defArgs s_safe_for, defBody s_safe_for, defScope s_safe_for, [], [("high", .int 3)]⟩
def d_law_cell_at : He.DefD := ⟨("_law_cell_at", none), "_law_cell_at", "_law_cell_at", defArgs s_law_cell_at, defBody s_law_cell_at, defScope s_law_cell_at, [], []⟩
def d_law_mixed : He.DefD := ⟨("_law_mixed", none), "_law_mixed", "_law_mixed", defArgs s_law_mixed, defBody s_law_mixed, defScope s_law_mixed, [], []⟩
def d_law_draw : He.DefD := ⟨("_law_draw", none), "_law_draw", "_law_draw", defArgs s_law_draw, defBody s_law_draw, defScope s_law_draw, [], []⟩
def d_law_pick : He.DefD := ⟨("_law_pick", none), "_law_pick", "_law_pick", defArgs s_law_pick, defBody s_law_pick, defScope s_law_pick, [], []⟩
def d_law_which : He.DefD := ⟨("_law_which", none), "_law_which", "_law_which", defArgs s_law_which, defBody s_law_which, defScope s_law_which, [], []⟩
def d_law_ask : He.DefD := ⟨("_law_ask", none), "_law_ask", "_law_ask", defArgs s_law_ask, defBody s_law_ask, defScope s_law_ask, [], []⟩
def d_law_kinds_refused : He.DefD := ⟨("_law_kinds_refused", none), "_law_kinds_refused", "_law_kinds_refused", defArgs s_law_kinds_refused, defBody s_law_kinds_refused, defScope s_law_kinds_refused, [], []⟩
def d_law : He.DefD := ⟨("law", none), "law", "law", defArgs s_law, defBody s_law, defScope s_law, [], []⟩
def fn : List He.DefD := [d_is_whole, d_common, d_made_of, d_sum_of_two, d_minus_of, d_order_of, d_whole, d_half, d_sum_of_all, d_is_among, d_is_number, d_is_trader, d_is_auction, d_is_exchange, d_is_rule, d_need_rule, d_need_auction, d_need_exchange, d_is_bid, d_good_bids, d_need_bids, d_need_sale, d_standing, d_winners_of, d_next_price, d_payments_of, d_sides_of, d_how_many, d_prices_of, d_traded, d_sides_in, d_run_of, d_gain_of, d_taken_of, d_gains_of, d_is_kind, d_good_cheat, d_is_cheat, d_told_by_lies, d_told_by_names, d_told_by_shill, d_told_by, d_gain, d_all_cheats, d_best_of, d_need_kind, d_best_cheat, d_all_rows, d_first_cheated, d_need_high, d_safe, d_safe_for, d_law_cell_at, d_law_mixed, d_law_draw, d_law_pick, d_law_which, d_law_ask, d_law_kinds_refused, d_law]
def fa : List He.Fa := [.glo "is_whole", .glo "common", .glo "made_of", .glo "sum_of_two", .glo "minus_of", .glo "order_of", .glo "whole", .glo "half", .glo "sum_of_all", .glo "is_among", .glo "is_number", .glo "is_trader", .glo "is_auction", .glo "is_exchange", .glo "is_rule", .glo "need_rule", .glo "need_auction", .glo "need_exchange", .glo "is_bid", .glo "good_bids", .glo "need_bids", .glo "need_sale", .glo "standing", .glo "winners_of", .glo "next_price", .glo "payments_of", .glo "sides_of", .glo "how_many", .glo "prices_of", .glo "traded", .glo "sides_in", .glo "run_of", .glo "gain_of", .glo "taken_of", .glo "gains_of", .glo "is_kind", .glo "good_cheat", .glo "is_cheat", .glo "told_by_lies", .glo "told_by_names", .glo "told_by_shill", .glo "told_by", .glo "gain", .glo "all_cheats", .glo "best_of", .glo "need_kind", .glo "best_cheat", .glo "all_rows", .glo "first_cheated", .glo "need_high", .glo "safe", .glo "safe_for", .glo "_law_cell_at", .glo "_law_mixed", .glo "_law_draw", .glo "_law_pick", .glo "_law_which", .glo "_law_ask", .glo "_law_kinds_refused", .glo "law", .free "isinstance", .free "int", .free "bool", .free "abs", .free "str", .free "len", .free "all", .free "tuple", .free "list", .free "sorted", .free "enumerate", .free "min", .free "zip", .free "range", .free "ValueError", .glo "NoRule", .exc "NoRule", .glo "NoBids", .exc "NoBids", .glo "NoCheat", .exc "NoCheat", .glo "NoCount", .exc "NoCount", .glo "NoNumber", .exc "NoNumber", .glo "NoTrader", .exc "NoTrader", .glo "TooMany", .exc "TooMany", .glo "NoPlan", .exc "NoPlan", .glo "NoSplit", .exc "NoSplit", .glo "NoWishes", .exc "NoWishes", .glo "NoSwap", .exc "NoSwap", .glo "NoWay", .exc "NoWay", .glo "NoTape", .exc "NoTape", .glo "NoText", .exc "NoText", .glo "NoPurses", .exc "NoPurses", .glo "NotOpen", .exc "NotOpen", .glo "StillOpen", .exc "StillOpen", .glo "Nothing", .exc "Nothing", .glo "MarketError", .exc "MarketError", .int "HIGH" 20, .str "LETTERS_rules" "abcdefghijklmnopqrstuvwxyz", .glo "PAYS", .glo "TIES", .glo "PRICES", .glo "SIDES", .int "MOST" 6, .glo "KINDS", .str "LETTERS_cheats" "abcd", .free "subsets", .exm "NoRule" "MarketError" true, .exm "NoBids" "MarketError" true, .exm "NoNumber" "MarketError" true, .exm "NoTrader" "MarketError" true, .exm "NoCheat" "MarketError" true, .exm "NoCount" "MarketError" true, .exm "TooMany" "MarketError" true, .exm "NoPlan" "MarketError" true, .exm "NoSplit" "MarketError" true, .exm "NoWishes" "MarketError" true, .exm "NoSwap" "MarketError" true, .exm "NoWay" "MarketError" true, .exm "NoTape" "MarketError" true, .exm "NoText" "MarketError" true, .exm "NoPurses" "MarketError" true, .exm "NotOpen" "MarketError" true, .exm "StillOpen" "MarketError" true, .exm "Nothing" "MarketError" true]
def exB (K : PySem.W.Frag) : Bool := He.tupB K "PAYS" ([("own" : Str), ("next" : Str), ("least" : Str), ("fixed" : Str), ("half" : Str), ("all" : Str)].map He.Dv.str) && (He.tupB K "TIES" ([("first" : Str), ("last" : Str)].map He.Dv.str) && (He.tupB K "PRICES" ([("mid" : Str), ("buy" : Str), ("sell" : Str), ("cut" : Str)].map He.Dv.str) && (He.tupB K "SIDES" ([("buy" : Str), ("sell" : Str)].map He.Dv.str) && (He.tupB K "KINDS" ([("lie" : Str), ("names" : Str), ("ring" : Str), ("shill" : Str)].map He.Dv.str) && (askAllB K whichCs)))))
def tf : List He.Defn := [("standing", none)]
abbrev R : PySem.W.OpenRow := PySem.W.OpenLaw.row PySem.Challenge.rw_marketworks_k11_cheats_refused
abbrev hk : PySem.W.Hook := He.hookX 4 fa fn [] tf exB
def ob (s : PySem.W.SharedT) : He.AlX := He.obsX 4 fa fn [] tf exB (HandSHeadRun.getT s)
theorem ob_eq (s : PySem.W.SharedT) : ob s = hk.obs s.abs := He.obsX_eq (HandSHeadRun.getT_eq s)
def nm0 : List PySem.Str := ["MarketError", "NoRule", "NoBids", "NoNumber", "NoTrader", "NoCheat", "NoCount", "TooMany", "NoPlan", "NoSplit", "NoWishes", "NoSwap", "NoWay", "NoTape", "NoText", "NoPurses"]
def nm1 : List PySem.Str := ["NotOpen", "StillOpen", "Nothing", "is_whole", "common", "made_of", "sum_of_two", "minus_of", "order_of", "whole", "half", "sum_of_all", "LETTERS_rules", "PAYS", "PRICES", "TIES"]
def nm2 : List PySem.Str := ["SIDES", "HIGH", "MOST", "is_among", "is_number", "is_trader", "is_auction", "is_exchange", "is_rule", "need_rule", "need_auction", "need_exchange", "is_bid", "good_bids", "need_bids", "need_sale"]
def nm3 : List PySem.Str := ["standing", "winners_of", "next_price", "payments_of", "sides_of", "how_many", "prices_of", "traded", "sides_in", "run_of", "gain_of", "taken_of", "gains_of", "KINDS", "LETTERS_cheats", "is_kind"]
def nm4 : List PySem.Str := ["good_cheat", "is_cheat", "told_by_lies", "told_by_names", "told_by_shill", "told_by", "gain", "all_cheats", "best_of", "need_kind", "best_cheat", "all_rows", "first_cheated", "need_high", "safe", "safe_for"]
def nm5 : List PySem.Str := ["_law_cell_at", "_law_mixed", "_law_draw", "_law_pick", "_law_which", "_law_ask", "_law_kinds_refused"]
def loose : List PySem.Str := nm0 ++ nm1 ++ nm2 ++ nm3 ++ nm4 ++ nm5
abbrev qv : Program := PySem.W.view R.prog [95]
noncomputable abbrev oE (w : World) (os : OsState) : Option PySem.W.SharedT := HandSHeadRun.endF (HandSHeadRun.stepQ (HandSHeadRun.denQ HandSHeadRun.tabQ) R.prog w) 20000 R.prog w os
noncomputable abbrev kE (s : PySem.W.SharedT) : PySem.W.Frag := He.frT (HandSHeadRun.getT s) (He.asD (HandSHeadRun.getT s) 4)
open PySem.W HandSHeadRun in
theorem run_a (w : World) (os : OsState) : (oE w os).map (fun s => (looksF R.prog (boot_heap w.params) s.abs, seenQ qv loose (importedModules R.prog.main.body) (fun s => xlAt qv [] s && recOk R.toRowW.records s) s.abs)) = some (true, openGood qv loose) := by kernel_rfl
theorem map_app {α β γ : Type} {o : Option α} {l : List β} {g : α → β → γ} {v : β → γ} (n : Nat) (h1 : o.map (fun s => (l.take n).map (g s)) = some ((l.take n).map v)) (h2 : o.map (fun s => (l.drop n).map (g s)) = some ((l.drop n).map v)) : o.map (fun s => l.map (g s)) = some (l.map v) := by
  cases o with
  | none => cases h1
  | some s =>
    simp only [Option.map_some, Option.some.injEq] at *
    have e1 : l.map (g s) = (l.take n).map (g s) ++ (l.drop n).map (g s) := by rw [← List.map_append, List.take_append_drop]
    have e2 : l.map v = (l.take n).map v ++ (l.drop n).map v := by rw [← List.map_append, List.take_append_drop]
    rw [e1, e2, h1, h2]
theorem map_all {α β : Type} {o : Option α} {l : List β} {g : α → β → Bool} (n : Nat) (h1 : o.map (fun s => (l.take n).all (g s)) = some true) (h2 : o.map (fun s => (l.drop n).all (g s)) = some true) : o.map (fun s => l.all (g s)) = some true := by
  cases o with
  | none => cases h1
  | some s =>
    simp only [Option.map_some, Option.some.injEq] at *
    have e1 : l.all (g s) = ((l.take n).all (g s) && (l.drop n).all (g s)) := by rw [← List.all_append, List.take_append_drop]
    rw [e1, h1, h2]
    rfl
theorem run_fa1 (w : World) (os : OsState) : (oE w os).map (fun s => (fa.take 70).all fun f => f.ok (kE s)) = some true := by kernel_rfl
theorem run_fa2 (w : World) (os : OsState) : (oE w os).map (fun s => (fa.drop 70).all fun f => f.ok (kE s)) = some true := by kernel_rfl
theorem run_fn1 (w : World) (os : OsState) : (oE w os).map (fun s => (fn.take 30).all fun f => f.ok (kE s)) = some true := by kernel_rfl
theorem run_fn2 (w : World) (os : OsState) : (oE w os).map (fun s => (fn.drop 30).all fun f => f.ok (kE s)) = some true := by kernel_rfl
theorem run_c (w : World) (os : OsState) : (oE w os).map (fun s => (fa.all fun f => f.ok (kE s)) && fn.all fun d => d.ok (kE s)) = some true := map_and (map_all (g := fun s (f : He.Fa) => f.ok (kE s)) 70 (run_fa1 w os) (run_fa2 w os)) (map_all (g := fun s (d : He.DefD) => d.ok (kE s)) 30 (run_fn1 w os) (run_fn2 w os))
theorem run_f1 (w : World) (os : OsState) : (oE w os).map (fun s => (fn.take 30).map fun d => He.fnW (kE s) d.at_) = some ((fn.take 30).map He.DefD.val) := by kernel_rfl
theorem run_f2 (w : World) (os : OsState) : (oE w os).map (fun s => (fn.drop 30).map fun d => He.fnW (kE s) d.at_) = some ((fn.drop 30).map He.DefD.val) := by kernel_rfl
theorem run_f (w : World) (os : OsState) : (oE w os).map (fun s => fn.map fun d => He.fnW (kE s) d.at_) = some (fn.map He.DefD.val) := map_app (g := fun s (d : He.DefD) => He.fnW (kE s) d.at_) 30 (run_f1 w os) (run_f2 w os)
theorem run_1 (w : World) (os : OsState) : (oE w os).map (fun s => ((fun K : PySem.W.Frag => (He.tupB K "PAYS" ([("own" : Str), ("next" : Str), ("least" : Str), ("fixed" : Str), ("half" : Str), ("all" : Str)].map He.Dv.str) && (He.tupB K "TIES" ([("first" : Str), ("last" : Str)].map He.Dv.str) && (He.tupB K "PRICES" ([("mid" : Str), ("buy" : Str), ("sell" : Str), ("cut" : Str)].map He.Dv.str) && (He.tupB K "SIDES" ([("buy" : Str), ("sell" : Str)].map He.Dv.str) && (He.tupB K "KINDS" ([("lie" : Str), ("names" : Str), ("ring" : Str), ("shill" : Str)].map He.Dv.str))))))) (kE s), He.tabsB (HandSHeadRun.getT s) tf (kE s))) = some (true, true) := by kernel_rfl
theorem run_q0 (w : World) (os : OsState) : (oE w os).map (fun s => (fun K : PySem.W.Frag => (whichCs.take 5).all (askB K whichCs)) (kE s)) = some true := by kernel_rfl
theorem run_q1 (w : World) (os : OsState) : (oE w os).map (fun s => (fun K : PySem.W.Frag => ((whichCs.drop 5).take 5).all (askB K whichCs)) (kE s)) = some true := by kernel_rfl
theorem run_q2 (w : World) (os : OsState) : (oE w os).map (fun s => (fun K : PySem.W.Frag => ((whichCs.drop 10).take 5).all (askB K whichCs)) (kE s)) = some true := by kernel_rfl
theorem run_q3 (w : World) (os : OsState) : (oE w os).map (fun s => (fun K : PySem.W.Frag => (whichCs.drop 15).all (askB K whichCs)) (kE s)) = some true := by kernel_rfl
theorem ask_two (K : PySem.W.Frag) : askAllB K whichCs = ((whichCs.take 5).all (askB K whichCs) && (((whichCs.drop 5).take 5).all (askB K whichCs) && (((whichCs.drop 10).take 5).all (askB K whichCs) && ((whichCs.drop 15).all (askB K whichCs))))) := by
  unfold askAllB
  generalize askB K whichCs = p
  simp only [whichCs, List.take, List.drop, List.all_cons, List.all_nil, Bool.and_assoc, Bool.and_true]
theorem ex_eq (K : PySem.W.Frag) : exB K = ((He.tupB K "PAYS" ([("own" : Str), ("next" : Str), ("least" : Str), ("fixed" : Str), ("half" : Str), ("all" : Str)].map He.Dv.str) && (He.tupB K "TIES" ([("first" : Str), ("last" : Str)].map He.Dv.str) && (He.tupB K "PRICES" ([("mid" : Str), ("buy" : Str), ("sell" : Str), ("cut" : Str)].map He.Dv.str) && (He.tupB K "SIDES" ([("buy" : Str), ("sell" : Str)].map He.Dv.str) && (He.tupB K "KINDS" ([("lie" : Str), ("names" : Str), ("ring" : Str), ("shill" : Str)].map He.Dv.str)))))) && ((whichCs.take 5).all (askB K whichCs) && (((whichCs.drop 5).take 5).all (askB K whichCs) && (((whichCs.drop 10).take 5).all (askB K whichCs) && ((whichCs.drop 15).all (askB K whichCs)))))) := by
  unfold exB
  rw [ask_two]
  simp only [Bool.and_assoc, Bool.true_and]
theorem run_x (w : World) (os : OsState) : (oE w os).map (fun s => exB (kE s) && He.tabsB (HandSHeadRun.getT s) tf (kE s)) = some true := by
  have z : (fun s => exB (kE s) && He.tabsB (HandSHeadRun.getT s) tf (kE s)) = fun s => (((fun K : PySem.W.Frag => (He.tupB K "PAYS" ([("own" : Str), ("next" : Str), ("least" : Str), ("fixed" : Str), ("half" : Str), ("all" : Str)].map He.Dv.str) && (He.tupB K "TIES" ([("first" : Str), ("last" : Str)].map He.Dv.str) && (He.tupB K "PRICES" ([("mid" : Str), ("buy" : Str), ("sell" : Str), ("cut" : Str)].map He.Dv.str) && (He.tupB K "SIDES" ([("buy" : Str), ("sell" : Str)].map He.Dv.str) && (He.tupB K "KINDS" ([("lie" : Str), ("names" : Str), ("ring" : Str), ("shill" : Str)].map He.Dv.str))))))) (kE s)) && (((fun K : PySem.W.Frag => (whichCs.take 5).all (askB K whichCs)) (kE s)) && (((fun K : PySem.W.Frag => ((whichCs.drop 5).take 5).all (askB K whichCs)) (kE s)) && (((fun K : PySem.W.Frag => ((whichCs.drop 10).take 5).all (askB K whichCs)) (kE s)) && (((fun K : PySem.W.Frag => (whichCs.drop 15).all (askB K whichCs)) (kE s))))))) && He.tabsB (HandSHeadRun.getT s) tf (kE s) := funext fun s => by rw [ex_eq (kE s)]
  rw [z]
  exact map_and (map_and (map_fst (run_1 w os)) (map_and (run_q0 w os) (map_and (run_q1 w os) (map_and (run_q2 w os) (run_q3 w os))))) (map_snd (run_1 w os))
theorem run (w : World) : HandSHeadRun.RunEq R qv hk ob 20000 loose w := by
  intro os
  exact map_three (map_fst (run_a w os)) (map_snd (run_a w os)) (map_two (map_two (map_two (run_c w os) (run_f w os)) (map_some (run_c w os) [])) (run_x w os))
end Mw.R

set_option Elab.async false
set_option linter.all false
set_option maxRecDepth 100000
set_option maxHeartbeats 4000000
namespace Mw
open PySem L2
def F_is_int : Fn := mkFn 1 (mRet (mAndV (mUn (isiP .int) (mVar 0)) (mUn notP (mUn (isiP .bool) (mVar 0)))))
def F_common : Fn := mkFn 2 (mSeq (whileL (mTruth boolP (mBin (cEqP true) (mVar 1) (mC (.int 0)))) (mPar [0, 1] (xD (mVar 1) (xD (mBin opMod (mVar 0) (mVar 1)) xNil))) (2 ^ 64))
  (mRet (mCB bAbs (mCons (mVar 0) mNil))))
def F_made_of : Fn := mkFn 4 (mSeq (mSet 2 (mCall F_common (mCons (mVar 0) (mCons (mVar 1) mNil))))
  (mSeq (mSet 3 (mIf (mTruth boolP (mBin cGt (mVar 1) (mC (.int 0)))) (mC (.int 1)) (mUn opNeg (mC (.int 1)))))
  (mRet (mTup (mCons (mBin opFdiv (mBin opMul (mVar 3) (mVar 0)) (mVar 2)) (mCons (mBin opFdiv (mCB bAbs (mCons (mVar 1) mNil)) (mVar 2)) mNil))))))
def F_is_share : Fn := mkFn 1 (mSeq (mIfS (mOrT (mNotT (mTruth truP (mUn (isiP .tuple) (mVar 0)))) (mOrT (mTruth boolP (mBin (cEqP true) (mCB bLen (mCons (mVar 0) mNil)) (mC (.int 2)))) (mOrT (mNotT (mTruth truP (mCall F_is_int (mCons (mBin opIdx (mVar 0) (mC (.int 0))) mNil)))) (mNotT (mTruth truP (mCall F_is_int (mCons (mBin opIdx (mVar 0) (mC (.int 1))) mNil))))))) (mRet (mC (.bl false))) mSkip)
  (mRet (mAndV (mBin cGt (mBin opIdx (mVar 0) (mC (.int 1))) (mC (.int 0))) (mBin (cEqP false) (mCall F_common (mCons (mBin opIdx (mVar 0) (mC (.int 0))) (mCons (mBin opIdx (mVar 0) (mC (.int 1))) mNil))) (mC (.int 1))))))
def F_need_shares : Fn := mkFn 2 (mIfS (mNotT (mTruth truP (mCB bAll (mCons (mDat (mLc (mItSeq (mVar 0)) (gtName 1) mYes (mCall F_is_share (mCons (mVar 1) mNil)) [1])) mNil)))) (fun S => .exc "NoNumber" S) mSkip)
def F_share : Fn := mkFn 2 (mSeq (mIfS (mOrT (mNotT (mTruth truP (mCall F_is_int (mCons (mVar 0) mNil)))) (mOrT (mNotT (mTruth truP (mCall F_is_int (mCons (mVar 1) mNil)))) (mTruth boolP (mBin (cEqP false) (mVar 1) (mC (.int 0)))))) (fun S => .exc "NoNumber" S) mSkip)
  (mRet (mCall F_made_of (mCons (mVar 0) (mCons (mVar 1) mNil)))))
def F_sum_of_two : Fn := mkFn 2 (mRet (mCall F_made_of (mCons (mBin opAdd (mBin opMul (mBin opIdx (mVar 0) (mC (.int 0))) (mBin opIdx (mVar 1) (mC (.int 1)))) (mBin opMul (mBin opIdx (mVar 1) (mC (.int 0))) (mBin opIdx (mVar 0) (mC (.int 1))))) (mCons (mBin opMul (mBin opIdx (mVar 0) (mC (.int 1))) (mBin opIdx (mVar 1) (mC (.int 1)))) mNil))))
def F_minus_of : Fn := mkFn 2 (mRet (mCall F_made_of (mCons (mBin opSub (mBin opMul (mBin opIdx (mVar 0) (mC (.int 0))) (mBin opIdx (mVar 1) (mC (.int 1)))) (mBin opMul (mBin opIdx (mVar 1) (mC (.int 0))) (mBin opIdx (mVar 0) (mC (.int 1))))) (mCons (mBin opMul (mBin opIdx (mVar 0) (mC (.int 1))) (mBin opIdx (mVar 1) (mC (.int 1)))) mNil))))
def F_order_of : Fn := mkFn 4 (mSeq (mPar [2, 3] (xD (mBin opMul (mBin opIdx (mVar 0) (mC (.int 0))) (mBin opIdx (mVar 1) (mC (.int 1)))) (xD (mBin opMul (mBin opIdx (mVar 1) (mC (.int 0))) (mBin opIdx (mVar 0) (mC (.int 1)))) xNil)))
  (mRet (mBin opSub (mCB bInt (mCons (mBin cGt (mVar 2) (mVar 3)) mNil)) (mCB bInt (mCons (mBin cLt (mVar 2) (mVar 3)) mNil)))))
def F_plus : Fn := mkFn 2 (mSeq (mExpr (mCall F_need_shares (mCons (mDat (mLst (mCons (mVar 0) (mCons (mVar 1) mNil)))) mNil)))
  (mRet (mCall F_sum_of_two (mCons (mVar 0) (mCons (mVar 1) mNil)))))
def F_less : Fn := mkFn 2 (mSeq (mExpr (mCall F_need_shares (mCons (mDat (mLst (mCons (mVar 0) (mCons (mVar 1) mNil)))) mNil)))
  (mRet (mCall F_minus_of (mCons (mVar 0) (mCons (mVar 1) mNil)))))
def F_times : Fn := mkFn 2 (mSeq (mExpr (mCall F_need_shares (mCons (mDat (mLst (mCons (mVar 0) (mCons (mVar 1) mNil)))) mNil)))
  (mRet (mCall F_made_of (mCons (mBin opMul (mBin opIdx (mVar 0) (mC (.int 0))) (mBin opIdx (mVar 1) (mC (.int 0)))) (mCons (mBin opMul (mBin opIdx (mVar 0) (mC (.int 1))) (mBin opIdx (mVar 1) (mC (.int 1)))) mNil)))))
def F_order : Fn := mkFn 2 (mSeq (mExpr (mCall F_need_shares (mCons (mDat (mLst (mCons (mVar 0) (mCons (mVar 1) mNil)))) mNil)))
  (mRet (mCall F_order_of (mCons (mVar 0) (mCons (mVar 1) mNil)))))
def F_law_same_number : Fn := mkFn 2 (mRet (mAndV (mUn (isiP .int) (mVar 0)) (mAndV (mUn notP (mUn (isiP .bool) (mVar 0))) (mBin (cEqP false) (mVar 0) (mVar 1)))))
def F_law_share : Fn := mkFn 5 (mSeq (mPar [3, 4] (xD (mCB bAbs (mCons (mVar 0) mNil)) (xD (mCB bAbs (mCons (mVar 1) mNil)) xNil)))
  (mSeq (whileL (mTruth boolP (mBin (cEqP true) (mVar 4) (mC (.int 0)))) (mPar [3, 4] (xD (mVar 4) (xD (mBin opMod (mVar 3) (mVar 4)) xNil))) (2 ^ 64))
  (mSeq (mSet 2 (mIf (mTruth boolP (mBin cGt (mVar 1) (mC (.int 0)))) (mC (.int 1)) (mUn opNeg (mC (.int 1)))))
  (mRet (mTup (mCons (mBin opFdiv (mBin opMul (mVar 2) (mVar 0)) (mVar 3)) (mCons (mBin opFdiv (mCB bAbs (mCons (mVar 1) mNil)) (mVar 3)) mNil)))))))
def F_law_added : Fn := mkFn 4 (mSeq (mSet 1 (mTup (mCons (mC (.int 0)) (mCons (mC (.int 1)) mNil))))
  (mSeq (mFor (mItSeq (mVar 0)) (gtTup 2 (gtCons (gtName 2) (gtCons (gtName 3) gtNil))) (mSet 1 (mCall F_law_share (mCons (mBin opAdd (mBin opMul (mBin opIdx (mVar 1) (mC (.int 0))) (mVar 3)) (mBin opMul (mVar 2) (mBin opIdx (mVar 1) (mC (.int 1))))) (mCons (mBin opMul (mBin opIdx (mVar 1) (mC (.int 1))) (mVar 3)) mNil)))))
  (mRet (mVar 1))))
def F_law_less : Fn := mkFn 2 (mRet (mCall F_law_added (mCons (mDat (mLst (mCons (mVar 0) (mCons (mTup (mCons (mBin opSub (mC (.int 0)) (mBin opIdx (mVar 1) (mC (.int 0)))) (mCons (mBin opIdx (mVar 1) (mC (.int 1))) mNil))) mNil)))) mNil)))
def F_law_above : Fn := mkFn 2 (mRet (mBin cGt (mBin opMul (mBin opIdx (mVar 0) (mC (.int 0))) (mBin opIdx (mVar 1) (mC (.int 1)))) (mBin opMul (mBin opIdx (mVar 1) (mC (.int 0))) (mBin opIdx (mVar 0) (mC (.int 1))))))
end Mw

set_option Elab.async false
set_option linter.all false
set_option maxRecDepth 100000
set_option maxHeartbeats 4000000
/-! Shares: lowest terms, sums, products. -/
namespace Mw
open PySem L2
/-! ### the mathematics -/
abbrev Sh := Int × Int
def IsSh (p : Sh) : Prop := 0 < p.2 ∧ Int.gcd p.1 p.2 = 1
def nrm (t b : Int) : Sh := (((if b > 0 then 1 else -1) * t).fdiv (Int.gcd t b), (if b < 0 then -b else b).fdiv (Int.gcd t b))
theorem gcd_pos {t b : Int} (h : b ≠ 0) : 0 < (Int.gcd t b : Int) := by
  have := Int.gcd_pos_of_ne_zero_right t h
  omega
theorem fdiv_exact {g m x : Int} (hg : 0 < g) (h : x = g * m) : x.fdiv g = m := by
  rw [h, Int.fdiv_eq_ediv_of_nonneg _ (by omega), Int.mul_ediv_cancel_left m (by omega)]
/-- t = g m, b = g n -/
theorem nrm_parts {t b : Int} (h : b ≠ 0) : ∃ m n : Int, t = (Int.gcd t b : Int) * m ∧ b = (Int.gcd t b : Int) * n ∧ Int.gcd m n = 1 ∧ n ≠ 0 := by
  obtain ⟨m, hm⟩ := Int.gcd_dvd_left t b
  obtain ⟨n, hn⟩ := Int.gcd_dvd_right t b
  refine ⟨m, n, hm, hn, ?_, fun z => by rw [z, Int.mul_zero] at hn; exact h hn⟩
  have hg := gcd_pos (t := t) h
  have := Int.gcd_mul_left (Int.gcd t b : Int) m n
  rw [← hm, ← hn, Int.natAbs_natCast] at this
  have h2 : Int.gcd t b * 1 = Int.gcd t b * Int.gcd m n := by rw [Nat.mul_one]; exact this
  exact (Nat.eq_of_mul_eq_mul_left (by omega) h2).symm
theorem nrm_spec {t b : Int} (h : b ≠ 0) : IsSh (nrm t b) ∧ (nrm t b).1 * b = t * (nrm t b).2 := by
  obtain ⟨m, n, hm, hn, hg, hn0⟩ := nrm_parts (t := t) h
  have hp := gcd_pos (t := t) h
  generalize hgg : (Int.gcd t b : Int) = g at *
  by_cases hb : b > 0
  · have n0 : 0 < n := by
      by_cases z : 0 < n
      · exact z
      · have : n ≤ 0 := by omega
        have := Int.mul_nonpos_of_nonneg_of_nonpos (by omega : 0 ≤ g) this
        omega
    have e1 : ((if b > 0 then 1 else -1) * t).fdiv g = m := by rw [if_pos hb, Int.one_mul]; exact fdiv_exact hp hm
    have e2 : (if b < 0 then -b else b).fdiv g = n := by rw [if_neg (by omega)]; exact fdiv_exact hp hn
    unfold nrm IsSh
    rw [hgg, e1, e2]
    exact ⟨⟨n0, hg⟩, by show m * b = t * n; rw [hm, hn]; grind⟩
  · have hb' : b < 0 := by omega
    have n0 : n < 0 := by
      by_cases z : n < 0
      · exact z
      · have : 0 ≤ n := by omega
        have := Int.mul_nonneg (by omega : 0 ≤ g) this
        omega
    have e1 : ((if b > 0 then 1 else -1) * t).fdiv g = -m := by rw [if_neg hb]; exact fdiv_exact hp (by rw [hm]; grind)
    have e2 : (if b < 0 then -b else b).fdiv g = -n := by rw [if_pos hb']; exact fdiv_exact hp (by rw [hn]; grind)
    unfold nrm IsSh
    rw [hgg, e1, e2]
    exact ⟨⟨by show 0 < -n; omega, by show Int.gcd (-m) (-n) = 1; rw [Int.gcd_neg, Int.neg_gcd]; exact hg⟩, by show -m * b = t * -n; rw [hm, hn]; grind⟩
theorem dvd_cop {k m n : Int} (h : k ∣ m * n) (g : Int.gcd k m = 1) : k ∣ n := by
  rw [← Int.natAbs_dvd_natAbs] at h ⊢
  rw [Int.natAbs_mul] at h
  exact Nat.Coprime.dvd_of_dvd_mul_left (by unfold Nat.Coprime; exact g) h
theorem sh_unique {p q : Sh} (hp : IsSh p) (hq : IsSh q) (h : p.1 * q.2 = q.1 * p.2) : p = q := by
  obtain ⟨a, b⟩ := p
  obtain ⟨c, d⟩ := q
  obtain ⟨b0, gb⟩ := hp
  obtain ⟨d0, gd⟩ := hq
  simp only at *
  have h1 : b ∣ d := by
    have : b ∣ a * d := ⟨c, by rw [h]; grind⟩
    exact dvd_cop this (by rw [Int.gcd_comm]; exact gb)
  have h2 : d ∣ b := by
    have : d ∣ c * b := ⟨a, by rw [← h]; grind⟩
    exact dvd_cop this (by rw [Int.gcd_comm]; exact gd)
  have e : b = d := by
    have := Int.le_of_dvd d0 h1
    have := Int.le_of_dvd b0 h2
    omega
  subst e
  have : a = c := Int.eq_of_mul_eq_mul_right (by omega) h
  rw [this]
theorem nrm_self {p : Sh} (h : IsSh p) : nrm p.1 p.2 = p := by
  have hb : p.2 ≠ 0 := by have := h.1; omega
  obtain ⟨h1, h2⟩ := nrm_spec (t := p.1) hb
  exact sh_unique h1 h h2
/-- equal fractions have one share -/
theorem nrm_eq {t b u c : Int} (hb : b ≠ 0) (hc : c ≠ 0) (h : t * c = u * b) : nrm t b = nrm u c := by
  obtain ⟨h1, h2⟩ := nrm_spec (t := t) hb
  obtain ⟨h3, h4⟩ := nrm_spec (t := u) hc
  refine sh_unique h1 h3 ?_
  generalize nrm t b = p at *
  generalize nrm u c = q at *
  have : (p.1 * q.2 - q.1 * p.2) * (b * c) = 0 := by grind
  have hbc : b * c ≠ 0 := Int.mul_ne_zero hb hc
  have := (Int.mul_eq_zero.mp this).resolve_right hbc
  omega
theorem natAbs_dvd_le {g m x : Int} (hg : 0 < g) (h : x = g * m) : m.natAbs ≤ x.natAbs := by
  rw [h, Int.natAbs_mul]
  exact Nat.le_mul_of_pos_left _ (by omega)
theorem nrm_bound {t b : Int} (h : b ≠ 0) : (nrm t b).1.natAbs ≤ t.natAbs ∧ (nrm t b).2.natAbs ≤ b.natAbs := by
  obtain ⟨m, n, hm, hn, hg, hn0⟩ := nrm_parts (t := t) h
  have hp := gcd_pos (t := t) h
  have b1 := natAbs_dvd_le hp hm
  have b2 := natAbs_dvd_le hp hn
  unfold nrm
  generalize hgg : (Int.gcd t b : Int) = g at *
  by_cases hb : b > 0
  · have e1 : ((if b > 0 then 1 else -1) * t).fdiv g = m := by rw [if_pos hb, Int.one_mul]; exact fdiv_exact hp hm
    have e2 : (if b < 0 then -b else b).fdiv g = n := by rw [if_neg (by omega)]; exact fdiv_exact hp hn
    rw [e1, e2]; exact ⟨b1, b2⟩
  · have hb' : b < 0 := by omega
    have e1 : ((if b > 0 then 1 else -1) * t).fdiv g = -m := by rw [if_neg hb]; exact fdiv_exact hp (by rw [hm]; grind)
    have e2 : (if b < 0 then -b else b).fdiv g = -n := by rw [if_pos hb']; exact fdiv_exact hp (by rw [hn]; grind)
    rw [e1, e2, Int.natAbs_neg, Int.natAbs_neg]; exact ⟨b1, b2⟩
/-! ### the defs -/
def shD (p : Sh) : D := .tup [.int p.1, .int p.2]
theorem fmod_natAbs {a b : Int} (h : b ≠ 0) : (a.fmod b).natAbs < b.natAbs := by
  by_cases hb : 0 < b
  · have := fmod_lt (a := a) hb
    omega
  · have h1 : a.fmod b = -((-a).fmod (-b)) := by
      have := Int.fmod_def a b
      have h2 := Int.fmod_def (-a) (-b)
      rw [Int.neg_fdiv_neg] at h2
      rw [this, h2]
      grind
    have := fmod_lt (a := -a) (b := -b) (by omega)
    rw [h1]
    omega
theorem gcd_fmod {a b : Int} : Int.gcd b (a.fmod b) = Int.gcd a b := by
  rw [Int.fmod_def, Int.mul_comm, Int.gcd_sub_mul_right_right, Int.gcd_comm]
theorem common_loop : ∀ (n : Nat) (a b : Int), b.natAbs < n → ∃ x : Int, x.natAbs = Int.gcd a b ∧
    whileL (mTruth boolP (mBin (cEqP true) (mVar 1) (mC (.int 0)))) (mPar [0, 1] (xD (mVar 1) (xD (mBin opMod (mVar 0) (mVar 1)) xNil))) n [.d (.int a), .d (.int b)] = .ok .nx [.d (.int x), .d (.int 0)]
  | 0, a, b, h => by omega
  | n + 1, a, b, h => by
    by_cases hb : b = 0
    · subst hb
      refine ⟨a, by rw [Int.gcd_zero_right], ?_⟩
      simp [whileL, mkFn, outsOf, Sl.own, mSeq, mSkip, mExpr, mRet, mIfS, mSet, mSetN, mVar, mFrz, mC, mBin, mUn, mNil, mCons, allD, sizeOk, mTup, mLst, mDat, mTruth, truP, boolP, mAndT, mOrT, mNotT, mAndV, mOrV, notP, mIf, lstOf, seqOf, mulOk, opAdd, opSub, opMul, opFdiv, opMod, opPow, opNeg, cInt, datOf, cEqP, cIsQ, cIsP, D.isNon, opIdx, mChain, mCB, bLen, bAbs, bMax, bMin, bSum, bAll, bAny, bInt, bTuple, mCN, bList, mPart, mSl, opSl, Ty.sub, tyOf, isiP, gtName, gtNil, gtCons, gtTup, mAsg, seqItems, walkItems, mItSeq, rng1, rng2, mItA, mFor, mLc, mYes, wipeS, backS, argOf, argsOf, idxs, putO, putB, mCall, mMeth, fAppend, fExtend, fPop, fPopAt, putAt, mSetItem, mAug, iI, xNil, xD, xN, Nw.sl, putN, mPar, enum1, zip2, D.py, SeqAt.shaped, PyData.canLay0, PyData.depth, PyData.eqv]
    · have := fmod_natAbs (a := a) hb
      obtain ⟨x, hx, e⟩ := common_loop n b (a.fmod b) (by omega)
      refine ⟨x, by rw [hx, gcd_fmod], ?_⟩
      simp [whileL, mkFn, outsOf, Sl.own, mSeq, mSkip, mExpr, mRet, mIfS, mSet, mSetN, mVar, mFrz, mC, mBin, mUn, mNil, mCons, allD, sizeOk, mTup, mLst, mDat, mTruth, truP, boolP, mAndT, mOrT, mNotT, mAndV, mOrV, notP, mIf, lstOf, seqOf, mulOk, opAdd, opSub, opMul, opFdiv, opMod, opPow, opNeg, cInt, datOf, cEqP, cIsQ, cIsP, D.isNon, opIdx, mChain, mCB, bLen, bAbs, bMax, bMin, bSum, bAll, bAny, bInt, bTuple, mCN, bList, mPart, mSl, opSl, Ty.sub, tyOf, isiP, gtName, gtNil, gtCons, gtTup, mAsg, seqItems, walkItems, mItSeq, rng1, rng2, mItA, mFor, mLc, mYes, wipeS, backS, argOf, argsOf, idxs, putO, putB, mCall, mMeth, fAppend, fExtend, fPop, fPopAt, putAt, mSetItem, mAug, iI, xNil, xD, xN, Nw.sl, putN, mPar, enum1, zip2, D.py, SeqAt.shaped, PyData.canLay0, PyData.depth, PyData.eqv, hb]
      exact e
theorem common_ok (a b : Int) (h : b.natAbs < 2 ^ 64) : (F_common [.d (.int a), .d (.int b)]).val = some (.int (Int.gcd a b : Int)) := by
  obtain ⟨x, hx, e⟩ := common_loop (2 ^ 64) a b h
  have hx' : (if x < 0 then -x else x) = (Int.gcd a b : Int) := by
    rw [← hx]; split <;> omega
  simp only [Nat.reducePow] at e
  simp [F_common, mkFn, outsOf, Sl.own, mSeq, mSkip, mExpr, mRet, mIfS, mSet, mSetN, mVar, mFrz, mC, mBin, mUn, mNil, mCons, allD, sizeOk, mTup, mLst, mDat, mTruth, truP, boolP, mAndT, mOrT, mNotT, mAndV, mOrV, notP, mIf, lstOf, seqOf, mulOk, opAdd, opSub, opMul, opFdiv, opMod, opPow, opNeg, cInt, datOf, cEqP, cIsQ, cIsP, D.isNon, opIdx, mChain, mCB, bLen, bAbs, bMax, bMin, bSum, bAll, bAny, bInt, bTuple, mCN, bList, mPart, mSl, opSl, Ty.sub, tyOf, isiP, gtName, gtNil, gtCons, gtTup, mAsg, seqItems, walkItems, mItSeq, rng1, rng2, mItA, mFor, mLc, mYes, wipeS, backS, argOf, argsOf, idxs, putO, putB, mCall, mMeth, fAppend, fExtend, fPop, fPopAt, putAt, mSetItem, mAug, iI, xNil, xD, xN, Nw.sl, putN, mPar, enum1, zip2, e, hx']
theorem mulOk_of {i j : Int} (h : i.natAbs < 2 ^ 63) : mulOk i j = true := by
  unfold mulOk
  simp
  omega
theorem made_ok (t b : Int) (hb : b ≠ 0) (hz : b.natAbs < 1073741824) : (F_made_of [.d (.int t), .d (.int b)]).val = some (shD (nrm t b)) := by
  have hp := gcd_pos (t := t) hb
  have hle : Int.gcd t b ≤ b.natAbs := Int.gcd_le_natAbs_right t hb
  obtain ⟨S, e⟩ := val_some (common_ok t b (by omega))
  have h1 : ¬ Int.gcd t b = 0 := by omega
  have h2 : Int.gcd t b < 1073741824 := by omega
  have h3 : ¬ (Int.gcd t b : Int) = 0 := by omega
  have h4 : ((Int.gcd t b : Int)).natAbs < 1073741824 := by omega
  unfold shD nrm
  by_cases hs : b > 0
  · have hs' : 0 < b := hs
    have hn : ¬ b < 0 := by omega
    simp [F_made_of, mkFn, outsOf, Sl.own, mSeq, mSkip, mExpr, mRet, mIfS, mSet, mSetN, mVar, mFrz, mC, mBin, mUn, mNil, mCons, allD, sizeOk, mTup, mLst, mDat, mTruth, truP, boolP, mAndT, mOrT, mNotT, mAndV, mOrV, notP, mIf, lstOf, seqOf, mulOk, opAdd, opSub, opMul, opFdiv, opMod, opPow, opNeg, cInt, datOf, cEqP, cIsQ, cIsP, D.isNon, opIdx, mChain, mCB, bLen, bAbs, bMax, bMin, bSum, bAll, bAny, bInt, bTuple, mCN, bList, mPart, mSl, opSl, Ty.sub, tyOf, isiP, gtName, gtNil, gtCons, gtTup, mAsg, seqItems, walkItems, mItSeq, rng1, rng2, mItA, mFor, mLc, mYes, wipeS, backS, argOf, argsOf, idxs, putO, putB, mCall, mMeth, fAppend, fExtend, fPop, fPopAt, putAt, mSetItem, mAug, iI, xNil, xD, xN, Nw.sl, putN, mPar, enum1, zip2, e, hs', hn, hb, h1, h2, h3, h4]
  · have hs' : ¬ 0 < b := hs
    have hn : b < 0 := by omega
    simp [F_made_of, mkFn, outsOf, Sl.own, mSeq, mSkip, mExpr, mRet, mIfS, mSet, mSetN, mVar, mFrz, mC, mBin, mUn, mNil, mCons, allD, sizeOk, mTup, mLst, mDat, mTruth, truP, boolP, mAndT, mOrT, mNotT, mAndV, mOrV, notP, mIf, lstOf, seqOf, mulOk, opAdd, opSub, opMul, opFdiv, opMod, opPow, opNeg, cInt, datOf, cEqP, cIsQ, cIsP, D.isNon, opIdx, mChain, mCB, bLen, bAbs, bMax, bMin, bSum, bAll, bAny, bInt, bTuple, mCN, bList, mPart, mSl, opSl, Ty.sub, tyOf, isiP, gtName, gtNil, gtCons, gtTup, mAsg, seqItems, walkItems, mItSeq, rng1, rng2, mItA, mFor, mLc, mYes, wipeS, backS, argOf, argsOf, idxs, putO, putB, mCall, mMeth, fAppend, fExtend, fPop, fPopAt, putAt, mSetItem, mAug, iI, xNil, xD, xN, Nw.sl, putN, mPar, enum1, zip2, e, hs', hn, hb, h1, h2, h3, h4]
/-- the size of a share's parts -/
def Sm (p : Sh) : Prop := p.1.natAbs ≤ 1000000000 ∧ p.2.natAbs ≤ 30000
theorem isint_int (i : Int) : (F_is_int [.d (.int i)]).val = some (.bl true) := by
  simp [F_is_int, mkFn, outsOf, Sl.own, mSeq, mSkip, mExpr, mRet, mIfS, mSet, mSetN, mVar, mFrz, mC, mBin, mUn, mNil, mCons, allD, sizeOk, mTup, mLst, mDat, mTruth, truP, boolP, mAndT, mOrT, mNotT, mAndV, mOrV, notP, mIf, lstOf, seqOf, mulOk, opAdd, opSub, opMul, opFdiv, opMod, opPow, opNeg, cInt, datOf, cEqP, cIsQ, cIsP, D.isNon, opIdx, mChain, mCB, bLen, bAbs, bMax, bMin, bSum, bAll, bAny, bInt, bTuple, mCN, bList, mPart, mSl, opSl, Ty.sub, tyOf, isiP, gtName, gtNil, gtCons, gtTup, mAsg, seqItems, walkItems, mItSeq, rng1, rng2, mItA, mFor, mLc, mYes, wipeS, backS, argOf, argsOf, idxs, putO, putB, mCall, mMeth, fAppend, fExtend, fPop, fPopAt, putAt, mSetItem, mAug, iI, xNil, xD, xN, Nw.sl, putN, mPar, enum1, zip2]
theorem isshare_ok {p : Sh} (h : IsSh p) (hz : p.2.natAbs < 2 ^ 64) : (F_is_share [.d (shD p)]).val = some (.bl true) := by
  obtain ⟨a, b⟩ := p
  obtain ⟨h1, h2⟩ := h
  obtain ⟨S, e⟩ := val_some (common_ok a b hz)
  obtain ⟨S1, e1⟩ := val_some (isint_int a)
  obtain ⟨S2, e2⟩ := val_some (isint_int b)
  have h1 : 0 < b := h1
  have h2 : Int.gcd a b = 1 := h2
  rw [h2] at e
  have a0 : atI [D.int a, D.int b] 0 = some (.int a) := rfl
  have a1 : atI [D.int a, D.int b] 1 = some (.int b) := rfl
  simp [F_is_share, shD, mkFn, outsOf, Sl.own, mSeq, mSkip, mExpr, mRet, mIfS, mSet, mSetN, mVar, mFrz, mC, mBin, mUn, mNil, mCons, allD, sizeOk, mTup, mLst, mDat, mTruth, truP, boolP, mAndT, mOrT, mNotT, mAndV, mOrV, notP, mIf, lstOf, seqOf, mulOk, opAdd, opSub, opMul, opFdiv, opMod, opPow, opNeg, cInt, datOf, cEqP, cIsQ, cIsP, D.isNon, opIdx, mChain, mCB, bLen, bAbs, bMax, bMin, bSum, bAll, bAny, bInt, bTuple, mCN, bList, mPart, mSl, opSl, Ty.sub, tyOf, isiP, gtName, gtNil, gtCons, gtTup, mAsg, seqItems, walkItems, mItSeq, rng1, rng2, mItA, mFor, mLc, mYes, wipeS, backS, argOf, argsOf, idxs, putO, putB, mCall, mMeth, fAppend, fExtend, fPop, fPopAt, putAt, mSetItem, mAug, iI, xNil, xD, xN, Nw.sl, putN, mPar, enum1, zip2, e, e1, e2, a0, a1, h1, D.py, SeqAt.shaped, PyData.canLay0, PyData.depth, PyData.eqv]
theorem need_ok {p q : Sh} (hp : IsSh p) (hq : IsSh q) (zp : p.2.natAbs < 2 ^ 64) (zq : q.2.natAbs < 2 ^ 64) : (F_need_shares [.d (.lst [shD p, shD q])]).val = some .non := by
  obtain ⟨S1, e1⟩ := val_some (isshare_ok hp zp)
  obtain ⟨S2, e2⟩ := val_some (isshare_ok hq zq)
  simp [F_need_shares, mkFn, outsOf, Sl.own, mSeq, mSkip, mExpr, mRet, mIfS, mSet, mSetN, mVar, mFrz, mC, mBin, mUn, mNil, mCons, allD, sizeOk, mTup, mLst, mDat, mTruth, truP, boolP, mAndT, mOrT, mNotT, mAndV, mOrV, notP, mIf, lstOf, seqOf, mulOk, opAdd, opSub, opMul, opFdiv, opMod, opPow, opNeg, cInt, datOf, cEqP, cIsQ, cIsP, D.isNon, opIdx, mChain, mCB, bLen, bAbs, bMax, bMin, bSum, bAll, bAny, bInt, bTuple, mCN, bList, mPart, mSl, opSl, Ty.sub, tyOf, isiP, gtName, gtNil, gtCons, gtTup, mAsg, seqItems, walkItems, mItSeq, rng1, rng2, mItA, mFor, mLc, mYes, wipeS, backS, argOf, argsOf, idxs, putO, putB, mCall, mMeth, fAppend, fExtend, fPop, fPopAt, putAt, mSetItem, mAug, iI, xNil, xD, xN, Nw.sl, putN, mPar, enum1, zip2, lcL, e1, e2, blsOf]
theorem share_ok (t b : Int) (hb : b ≠ 0) (hz : b.natAbs < 1073741824) : (F_share [.d (.int t), .d (.int b)]).val = some (shD (nrm t b)) := by
  obtain ⟨S, e⟩ := val_some (made_ok t b hb hz)
  obtain ⟨S1, e1⟩ := val_some (isint_int t)
  obtain ⟨S2, e2⟩ := val_some (isint_int b)
  simp [F_share, mkFn, outsOf, Sl.own, mSeq, mSkip, mExpr, mRet, mIfS, mSet, mSetN, mVar, mFrz, mC, mBin, mUn, mNil, mCons, allD, sizeOk, mTup, mLst, mDat, mTruth, truP, boolP, mAndT, mOrT, mNotT, mAndV, mOrV, notP, mIf, lstOf, seqOf, mulOk, opAdd, opSub, opMul, opFdiv, opMod, opPow, opNeg, cInt, datOf, cEqP, cIsQ, cIsP, D.isNon, opIdx, mChain, mCB, bLen, bAbs, bMax, bMin, bSum, bAll, bAny, bInt, bTuple, mCN, bList, mPart, mSl, opSl, Ty.sub, tyOf, isiP, gtName, gtNil, gtCons, gtTup, mAsg, seqItems, walkItems, mItSeq, rng1, rng2, mItA, mFor, mLc, mYes, wipeS, backS, argOf, argsOf, idxs, putO, putB, mCall, mMeth, fAppend, fExtend, fPop, fPopAt, putAt, mSetItem, mAug, iI, xNil, xD, xN, Nw.sl, putN, mPar, enum1, zip2, e, e1, e2, hb, D.py, SeqAt.shaped, PyData.canLay0, PyData.depth, PyData.eqv]
theorem ix0 (a b : Int) : atI [D.int a, D.int b] 0 = some (.int a) := rfl
theorem ix1 (a b : Int) : atI [D.int a, D.int b] 1 = some (.int b) := rfl
def addS (p q : Sh) : Sh := nrm (p.1 * q.2 + q.1 * p.2) (p.2 * q.2)
def subS (p q : Sh) : Sh := nrm (p.1 * q.2 - q.1 * p.2) (p.2 * q.2)
def mulS (p q : Sh) : Sh := nrm (p.1 * q.1) (p.2 * q.2)
def ordS (p q : Sh) : Int := (if q.1 * p.2 < p.1 * q.2 then 1 else 0) - (if p.1 * q.2 < q.1 * p.2 then 1 else 0)
theorem mul_lt {a b : Int} {n : Nat} (ha : a.natAbs ≤ n) (hb : b.natAbs ≤ n) : (a * b).natAbs ≤ n * n := by
  rw [Int.natAbs_mul]; exact Nat.mul_le_mul ha hb
theorem mul_ne {a b : Int} (ha : 0 < a) (hb : 0 < b) : a * b ≠ 0 := Int.mul_ne_zero (by omega) (by omega)
theorem sum2_ok {p q : Sh} (hp : 0 < p.2) (hq : 0 < q.2) (zp : Sm p) (zq : Sm q) : (F_sum_of_two [.d (shD p), .d (shD q)]).val = some (shD (addS p q)) := by
  obtain ⟨a, b⟩ := p
  obtain ⟨c, d⟩ := q
  have hz := mul_lt zp.2 zq.2
  obtain ⟨S, e⟩ := val_some (made_ok (a * d + c * b) (b * d) (mul_ne hp hq) (by simp only at hz; omega))
  have m1 : mulOk a d = true := mulOk_of (by have := zp.1; simp only at this; omega)
  have m2 : mulOk c b = true := mulOk_of (by have := zq.1; simp only at this; omega)
  have m3 : mulOk b d = true := mulOk_of (by have := zp.2; simp only at this; omega)
  simp [F_sum_of_two, shD, addS, mkFn, mRet, mCall, mCons, mNil, mBin, mVar, mC, opIdx, seqOf, ix0, ix1, opMul, opAdd, m1, m2, m3, argsOf, argOf, idxs, putB, e]
theorem minus_ok {p q : Sh} (hp : 0 < p.2) (hq : 0 < q.2) (zp : Sm p) (zq : Sm q) : (F_minus_of [.d (shD p), .d (shD q)]).val = some (shD (subS p q)) := by
  obtain ⟨a, b⟩ := p
  obtain ⟨c, d⟩ := q
  have hz := mul_lt zp.2 zq.2
  obtain ⟨S, e⟩ := val_some (made_ok (a * d - c * b) (b * d) (mul_ne hp hq) (by simp only at hz; omega))
  have m1 : mulOk a d = true := mulOk_of (by have := zp.1; simp only at this; omega)
  have m2 : mulOk c b = true := mulOk_of (by have := zq.1; simp only at this; omega)
  have m3 : mulOk b d = true := mulOk_of (by have := zp.2; simp only at this; omega)
  simp [F_minus_of, shD, subS, mkFn, mRet, mCall, mCons, mNil, mBin, mVar, mC, opIdx, seqOf, ix0, ix1, opMul, opSub, m1, m2, m3, argsOf, argOf, idxs, putB, e]
theorem order_of_ok {p q : Sh} (zp : Sm p) (zq : Sm q) : (F_order_of [.d (shD p), .d (shD q)]).val = some (.int (ordS p q)) := by
  obtain ⟨a, b⟩ := p
  obtain ⟨c, d⟩ := q
  have m1 : mulOk a d = true := mulOk_of (by have := zp.1; simp only at this; omega)
  have m2 : mulOk c b = true := mulOk_of (by have := zq.1; simp only at this; omega)
  simp [F_order_of, shD, ordS, mkFn, mSeq, mPar, xD, xNil, putN, Nw.sl, mRet, mCB, bInt, cInt, mCons, mNil, mBin, mVar, mC, opIdx, seqOf, ix0, ix1, opMul, opSub, m1, m2]
theorem Sm.z {p : Sh} (h : Sm p) : p.2.natAbs < 2 ^ 64 := by have := h.2; omega
theorem plus_ok {p q : Sh} (hp : IsSh p) (hq : IsSh q) (zp : Sm p) (zq : Sm q) : (F_plus [.d (shD p), .d (shD q)]).val = some (shD (addS p q)) := by
  obtain ⟨S1, e1⟩ := val_some (need_ok hp hq zp.z zq.z)
  obtain ⟨S2, e2⟩ := val_some (sum2_ok hp.1 hq.1 zp zq)
  simp [F_plus, mkFn, outsOf, Sl.own, mSeq, mSkip, mExpr, mRet, mIfS, mSet, mSetN, mVar, mFrz, mC, mBin, mUn, mNil, mCons, allD, sizeOk, mTup, mLst, mDat, mTruth, truP, boolP, mAndT, mOrT, mNotT, mAndV, mOrV, notP, mIf, lstOf, seqOf, mulOk, opAdd, opSub, opMul, opFdiv, opMod, opPow, opNeg, cInt, datOf, cEqP, cIsQ, cIsP, D.isNon, opIdx, mChain, mCB, bLen, bAbs, bMax, bMin, bSum, bAll, bAny, bInt, bTuple, mCN, bList, mPart, mSl, opSl, Ty.sub, tyOf, isiP, gtName, gtNil, gtCons, gtTup, mAsg, seqItems, walkItems, mItSeq, rng1, rng2, mItA, mFor, mLc, mYes, wipeS, backS, argOf, argsOf, idxs, putO, putB, mCall, mMeth, fAppend, fExtend, fPop, fPopAt, putAt, mSetItem, mAug, iI, xNil, xD, xN, Nw.sl, putN, mPar, enum1, zip2, e1, e2]
theorem less_ok {p q : Sh} (hp : IsSh p) (hq : IsSh q) (zp : Sm p) (zq : Sm q) : (F_less [.d (shD p), .d (shD q)]).val = some (shD (subS p q)) := by
  obtain ⟨S1, e1⟩ := val_some (need_ok hp hq zp.z zq.z)
  obtain ⟨S2, e2⟩ := val_some (minus_ok hp.1 hq.1 zp zq)
  simp [F_less, mkFn, outsOf, Sl.own, mSeq, mSkip, mExpr, mRet, mIfS, mSet, mSetN, mVar, mFrz, mC, mBin, mUn, mNil, mCons, allD, sizeOk, mTup, mLst, mDat, mTruth, truP, boolP, mAndT, mOrT, mNotT, mAndV, mOrV, notP, mIf, lstOf, seqOf, mulOk, opAdd, opSub, opMul, opFdiv, opMod, opPow, opNeg, cInt, datOf, cEqP, cIsQ, cIsP, D.isNon, opIdx, mChain, mCB, bLen, bAbs, bMax, bMin, bSum, bAll, bAny, bInt, bTuple, mCN, bList, mPart, mSl, opSl, Ty.sub, tyOf, isiP, gtName, gtNil, gtCons, gtTup, mAsg, seqItems, walkItems, mItSeq, rng1, rng2, mItA, mFor, mLc, mYes, wipeS, backS, argOf, argsOf, idxs, putO, putB, mCall, mMeth, fAppend, fExtend, fPop, fPopAt, putAt, mSetItem, mAug, iI, xNil, xD, xN, Nw.sl, putN, mPar, enum1, zip2, e1, e2]
theorem order_ok {p q : Sh} (hp : IsSh p) (hq : IsSh q) (zp : Sm p) (zq : Sm q) : (F_order [.d (shD p), .d (shD q)]).val = some (.int (ordS p q)) := by
  obtain ⟨S1, e1⟩ := val_some (need_ok hp hq zp.z zq.z)
  obtain ⟨S2, e2⟩ := val_some (order_of_ok zp zq)
  simp [F_order, mkFn, outsOf, Sl.own, mSeq, mSkip, mExpr, mRet, mIfS, mSet, mSetN, mVar, mFrz, mC, mBin, mUn, mNil, mCons, allD, sizeOk, mTup, mLst, mDat, mTruth, truP, boolP, mAndT, mOrT, mNotT, mAndV, mOrV, notP, mIf, lstOf, seqOf, mulOk, opAdd, opSub, opMul, opFdiv, opMod, opPow, opNeg, cInt, datOf, cEqP, cIsQ, cIsP, D.isNon, opIdx, mChain, mCB, bLen, bAbs, bMax, bMin, bSum, bAll, bAny, bInt, bTuple, mCN, bList, mPart, mSl, opSl, Ty.sub, tyOf, isiP, gtName, gtNil, gtCons, gtTup, mAsg, seqItems, walkItems, mItSeq, rng1, rng2, mItA, mFor, mLc, mYes, wipeS, backS, argOf, argsOf, idxs, putO, putB, mCall, mMeth, fAppend, fExtend, fPop, fPopAt, putAt, mSetItem, mAug, iI, xNil, xD, xN, Nw.sl, putN, mPar, enum1, zip2, e1, e2]
theorem times_ok {p q : Sh} (hp : IsSh p) (hq : IsSh q) (zp : Sm p) (zq : Sm q) : (F_times [.d (shD p), .d (shD q)]).val = some (shD (mulS p q)) := by
  obtain ⟨S1, e1⟩ := val_some (need_ok hp hq zp.z zq.z)
  obtain ⟨a, b⟩ := p
  obtain ⟨c, d⟩ := q
  have hz := mul_lt zp.2 zq.2
  obtain ⟨S, e⟩ := val_some (made_ok (a * c) (b * d) (mul_ne hp.1 hq.1) (by simp only at hz; omega))
  have m1 : mulOk a c = true := mulOk_of (by have := zp.1; simp only at this; omega)
  have m3 : mulOk b d = true := mulOk_of (by have := zp.2; simp only at this; omega)
  unfold shD at e1
  simp [F_times, shD, mulS, mkFn, mSeq, mExpr, mDat, mLst, allD, sizeOk, mRet, mCall, mCons, mNil, mBin, mVar, mC, opIdx, seqOf, ix0, ix1, opMul, m1, m3, argsOf, argOf, idxs, putB, e, e1]
/-! ### the law's own -/
theorem lshare_ok (t b : Int) (hb : b ≠ 0) (hz : b.natAbs < 1073741824) : (F_law_share [.d (.int t), .d (.int b)]).val = some (shD (nrm t b)) := by
  have hp := gcd_pos (t := t) hb
  have hle : Int.gcd t b ≤ b.natAbs := Int.gcd_le_natAbs_right t hb
  have hg : ∀ (x y : Int), (if x < 0 then -x else x).natAbs = x.natAbs := fun x y => by split <;> omega
  have hgc : Int.gcd (if t < 0 then -t else t) (if b < 0 then -b else b) = Int.gcd t b := by
    unfold Int.gcd
    rw [hg t 0, hg b 0]
  have loop : ∀ (n : Nat) (x y : Int), 0 ≤ x → 0 ≤ y → y.natAbs < n → ∃ z : Int, z = (Int.gcd x y : Int) ∧
      whileL (mTruth boolP (mBin (cEqP true) (mVar 4) (mC (.int 0)))) (mPar [3, 4] (xD (mVar 4) (xD (mBin opMod (mVar 3) (mVar 4)) xNil))) n [.d (.int t), .d (.int b), .no, .d (.int x), .d (.int y)] = .ok .nx [.d (.int t), .d (.int b), .no, .d (.int z), .d (.int 0)] := by
    intro n
    induction n with
    | zero => intro x y _ _ h; omega
    | succ n ih =>
      intro x y hx hy h
      by_cases h0 : y = 0
      · subst h0
        refine ⟨x, by rw [Int.gcd_zero_right]; omega, ?_⟩
        simp [whileL, mkFn, outsOf, Sl.own, mSeq, mSkip, mExpr, mRet, mIfS, mSet, mSetN, mVar, mFrz, mC, mBin, mUn, mNil, mCons, allD, sizeOk, mTup, mLst, mDat, mTruth, truP, boolP, mAndT, mOrT, mNotT, mAndV, mOrV, notP, mIf, lstOf, seqOf, mulOk, opAdd, opSub, opMul, opFdiv, opMod, opPow, opNeg, cInt, datOf, cEqP, cIsQ, cIsP, D.isNon, opIdx, mChain, mCB, bLen, bAbs, bMax, bMin, bSum, bAll, bAny, bInt, bTuple, mCN, bList, mPart, mSl, opSl, Ty.sub, tyOf, isiP, gtName, gtNil, gtCons, gtTup, mAsg, seqItems, walkItems, mItSeq, rng1, rng2, mItA, mFor, mLc, mYes, wipeS, backS, argOf, argsOf, idxs, putO, putB, mCall, mMeth, fAppend, fExtend, fPop, fPopAt, putAt, mSetItem, mAug, iI, xNil, xD, xN, Nw.sl, putN, mPar, enum1, zip2, D.py, SeqAt.shaped, PyData.canLay0, PyData.depth, PyData.eqv]
      · have h1 := fmod_lt (a := x) (b := y) (by omega)
        obtain ⟨z, hz, e⟩ := ih y (x.fmod y) hy h1.1 (by omega)
        refine ⟨z, by rw [hz, gcd_fmod], ?_⟩
        simp [whileL, mkFn, outsOf, Sl.own, mSeq, mSkip, mExpr, mRet, mIfS, mSet, mSetN, mVar, mFrz, mC, mBin, mUn, mNil, mCons, allD, sizeOk, mTup, mLst, mDat, mTruth, truP, boolP, mAndT, mOrT, mNotT, mAndV, mOrV, notP, mIf, lstOf, seqOf, mulOk, opAdd, opSub, opMul, opFdiv, opMod, opPow, opNeg, cInt, datOf, cEqP, cIsQ, cIsP, D.isNon, opIdx, mChain, mCB, bLen, bAbs, bMax, bMin, bSum, bAll, bAny, bInt, bTuple, mCN, bList, mPart, mSl, opSl, Ty.sub, tyOf, isiP, gtName, gtNil, gtCons, gtTup, mAsg, seqItems, walkItems, mItSeq, rng1, rng2, mItA, mFor, mLc, mYes, wipeS, backS, argOf, argsOf, idxs, putO, putB, mCall, mMeth, fAppend, fExtend, fPop, fPopAt, putAt, mSetItem, mAug, iI, xNil, xD, xN, Nw.sl, putN, mPar, enum1, zip2, D.py, SeqAt.shaped, PyData.canLay0, PyData.depth, PyData.eqv, h0]
        exact e
  obtain ⟨z, hz', e⟩ := loop (2 ^ 64) (if t < 0 then -t else t) (if b < 0 then -b else b) (by split <;> omega) (by split <;> omega) (by rw [hg b 0]; omega)
  rw [hgc] at hz'
  subst hz'
  simp only [Nat.reducePow] at e
  have h1 : ¬ Int.gcd t b = 0 := by omega
  have h2 : Int.gcd t b < 1073741824 := by omega
  have h3 : ¬ (Int.gcd t b : Int) = 0 := by omega
  have h4 : ((Int.gcd t b : Int)).natAbs < 1073741824 := by omega
  unfold shD nrm
  by_cases hs : b > 0
  · have hs' : 0 < b := hs
    have hn : ¬ b < 0 := by omega
    simp only [hn, if_false] at e
    simp [F_law_share, mkFn, outsOf, Sl.own, mSeq, mSkip, mExpr, mRet, mIfS, mSet, mSetN, mVar, mFrz, mC, mBin, mUn, mNil, mCons, allD, sizeOk, mTup, mLst, mDat, mTruth, truP, boolP, mAndT, mOrT, mNotT, mAndV, mOrV, notP, mIf, lstOf, seqOf, mulOk, opAdd, opSub, opMul, opFdiv, opMod, opPow, opNeg, cInt, datOf, cEqP, cIsQ, cIsP, D.isNon, opIdx, mChain, mCB, bLen, bAbs, bMax, bMin, bSum, bAll, bAny, bInt, bTuple, mCN, bList, mPart, mSl, opSl, Ty.sub, tyOf, isiP, gtName, gtNil, gtCons, gtTup, mAsg, seqItems, walkItems, mItSeq, rng1, rng2, mItA, mFor, mLc, mYes, wipeS, backS, argOf, argsOf, idxs, putO, putB, mCall, mMeth, fAppend, fExtend, fPop, fPopAt, putAt, mSetItem, mAug, iI, xNil, xD, xN, Nw.sl, putN, mPar, enum1, zip2, e, hs', hn, hb, h1, h2, h3, h4]
  · have hs' : ¬ 0 < b := hs
    have hn : b < 0 := by omega
    simp only [hn, if_true] at e
    simp [F_law_share, mkFn, outsOf, Sl.own, mSeq, mSkip, mExpr, mRet, mIfS, mSet, mSetN, mVar, mFrz, mC, mBin, mUn, mNil, mCons, allD, sizeOk, mTup, mLst, mDat, mTruth, truP, boolP, mAndT, mOrT, mNotT, mAndV, mOrV, notP, mIf, lstOf, seqOf, mulOk, opAdd, opSub, opMul, opFdiv, opMod, opPow, opNeg, cInt, datOf, cEqP, cIsQ, cIsP, D.isNon, opIdx, mChain, mCB, bLen, bAbs, bMax, bMin, bSum, bAll, bAny, bInt, bTuple, mCN, bList, mPart, mSl, opSl, Ty.sub, tyOf, isiP, gtName, gtNil, gtCons, gtTup, mAsg, seqItems, walkItems, mItSeq, rng1, rng2, mItA, mFor, mLc, mYes, wipeS, backS, argOf, argsOf, idxs, putO, putB, mCall, mMeth, fAppend, fExtend, fPop, fPopAt, putAt, mSetItem, mAug, iI, xNil, xD, xN, Nw.sl, putN, mPar, enum1, zip2, e, hs', hn, hb, h1, h2, h3, h4]
theorem labove_ok {p q : Sh} (zp : Sm p) (zq : Sm q) : (F_law_above [.d (shD p), .d (shD q)]).val = some (.bl (decide (q.1 * p.2 < p.1 * q.2))) := by
  obtain ⟨a, b⟩ := p
  obtain ⟨c, d⟩ := q
  have m1 : mulOk a d = true := mulOk_of (by have := zp.1; simp only at this; omega)
  have m2 : mulOk c b = true := mulOk_of (by have := zq.1; simp only at this; omega)
  simp [F_law_above, shD, mkFn, mRet, cInt, mBin, mVar, mC, opIdx, seqOf, ix0, ix1, opMul, m1, m2]
/-- the sum of some shares -/
def sumS (acc : Sh) : List Sh → Sh
  | [] => acc
  | p :: r => sumS (addS acc p) r
theorem addS_ok {p q : Sh} (hp : 0 < p.2) (hq : 0 < q.2) : IsSh (addS p q) := (nrm_spec (mul_ne hp hq)).1
theorem subS_ok {p q : Sh} (hp : 0 < p.2) (hq : 0 < q.2) : IsSh (subS p q) := (nrm_spec (mul_ne hp hq)).1
theorem mulS_ok {p q : Sh} (hp : 0 < p.2) (hq : 0 < q.2) : IsSh (mulS p q) := (nrm_spec (mul_ne hp hq)).1
/-- parts at most n and m -/
def Bd (n m : Nat) (p : Sh) : Prop := p.1.natAbs ≤ n ∧ p.2.natAbs ≤ m
theorem Bd.sm {n m : Nat} {p : Sh} (h : Bd n m p) (hn : n ≤ 1000000000) (hm : m ≤ 30000) : Sm p := ⟨Nat.le_trans h.1 hn, Nat.le_trans h.2 hm⟩
theorem mul_le2 {a b : Int} {n m : Nat} (ha : a.natAbs ≤ n) (hb : b.natAbs ≤ m) : (a * b).natAbs ≤ n * m := by
  rw [Int.natAbs_mul]; exact Nat.mul_le_mul ha hb
theorem addS_bd {p q : Sh} {n m k l : Nat} (hp : 0 < p.2) (hq : 0 < q.2) (bp : Bd n m p) (bq : Bd k l q) : Bd (n * l + k * m) (m * l) (addS p q) := by
  have h := nrm_bound (t := p.1 * q.2 + q.1 * p.2) (mul_ne hp hq)
  have h1 := mul_le2 bp.1 bq.2
  have h2 := mul_le2 bq.1 bp.2
  have h3 := mul_le2 bp.2 bq.2
  exact ⟨by have := h.1; unfold addS; omega, Nat.le_trans h.2 h3⟩
theorem subS_bd {p q : Sh} {n m k l : Nat} (hp : 0 < p.2) (hq : 0 < q.2) (bp : Bd n m p) (bq : Bd k l q) : Bd (n * l + k * m) (m * l) (subS p q) := by
  have h := nrm_bound (t := p.1 * q.2 - q.1 * p.2) (mul_ne hp hq)
  have h1 := mul_le2 bp.1 bq.2
  have h2 := mul_le2 bq.1 bp.2
  have h3 := mul_le2 bp.2 bq.2
  exact ⟨by have := h.1; unfold subS; omega, Nat.le_trans h.2 h3⟩
theorem mulS_bd {p q : Sh} {n m k l : Nat} (hp : 0 < p.2) (hq : 0 < q.2) (bp : Bd n m p) (bq : Bd k l q) : Bd (n * k) (m * l) (mulS p q) := by
  have h := nrm_bound (t := p.1 * q.1) (mul_ne hp hq)
  exact ⟨Nat.le_trans h.1 (mul_le2 bp.1 bq.1), Nat.le_trans h.2 (mul_le2 bp.2 bq.2)⟩
/-- a sum that goes well -/
def sumOk (acc : Sh) : List Sh → Prop
  | [] => True
  | p :: r => 0 < acc.2 ∧ 0 < p.2 ∧ Sm acc ∧ Sm p ∧ sumOk (addS acc p) r
theorem ladded_loop (x : D) : ∀ (ps : List Sh) (acc : Sh) (s1 s2 : Sl), sumOk acc ps → ∃ t1 t2 : Sl,
    forL (gtTup 2 (gtCons (gtName 2) (gtCons (gtName 3) gtNil))) (mSet 1 (mCall F_law_share (mCons (mBin opAdd (mBin opMul (mBin opIdx (mVar 1) (mC (.int 0))) (mVar 3)) (mBin opMul (mVar 2) (mBin opIdx (mVar 1) (mC (.int 1))))) (mCons (mBin opMul (mBin opIdx (mVar 1) (mC (.int 1))) (mVar 3)) mNil)))) (ps.map shD) [.d x, .d (shD acc), s1, s2] = .ok .nx [.d x, .d (shD (sumS acc ps)), t1, t2]
  | [], acc, s1, s2, _ => ⟨s1, s2, rfl⟩
  | p :: r, acc, s1, s2, h => by
    obtain ⟨h1, h2, h3, h4, h5⟩ := h
    obtain ⟨t1, t2, e⟩ := ladded_loop x r (addS acc p) (.d (.int p.1)) (.d (.int p.2)) h5
    refine ⟨t1, t2, ?_⟩
    have hz := mul_lt h3.2 h4.2
    obtain ⟨S, e1⟩ := val_some (lshare_ok (acc.1 * p.2 + p.1 * acc.2) (acc.2 * p.2) (mul_ne h1 h2) (by omega))
    have m1 : mulOk acc.1 p.2 = true := mulOk_of (by have := h3.1; omega)
    have m2 : mulOk p.1 acc.2 = true := mulOk_of (by have := h4.1; omega)
    have m3 : mulOk acc.2 p.2 = true := mulOk_of (by have := h3.2; omega)
    have e2 : shD (nrm (acc.1 * p.2 + p.1 * acc.2) (acc.2 * p.2)) = shD (addS acc p) := rfl
    rw [e2] at e1
    simp only [List.map_cons, forL]
    simp [shD, gtTup, gtCons, gtName, gtNil, mSet, mCall, mCons, mNil, mBin, mVar, mC, opIdx, seqOf, ix0, ix1, opMul, opAdd, m1, m2, m3, argsOf, argOf, idxs, putB]
    simp only [shD] at e1 e
    rw [e1]
    simp
    exact e
theorem ladded_ok (ps : List Sh) (h : sumOk (0, 1) ps) : (F_law_added [.d (.lst (ps.map shD))]).val = some (shD (sumS (0, 1) ps)) := by
  obtain ⟨t1, t2, e⟩ := ladded_loop (.lst (ps.map shD)) ps (0, 1) .no .no h
  have e0 : shD (0, 1) = .tup [.int 0, .int 1] := rfl
  rw [e0] at e
  simp [F_law_added, mkFn, mSeq, mSet, mTup, mCons, mNil, mC, allD, sizeOk, mFor, mItSeq, seqItems, walkItems, mVar, mRet, e]
theorem lless_ok {p q : Sh} (h : sumOk (0, 1) [p, (0 - q.1, q.2)]) : (F_law_less [.d (shD p), .d (shD q)]).val = some (shD (sumS (0, 1) [p, (0 - q.1, q.2)])) := by
  obtain ⟨S, e⟩ := val_some (ladded_ok _ h)
  obtain ⟨a, b⟩ := p
  obtain ⟨c, d⟩ := q
  simp only [List.map_cons, List.map_nil, shD, sumS] at e ⊢
  simp at e
  simp [F_law_less, mkFn, mRet, mCall, mCons, mNil, mDat, mLst, mTup, allD, sizeOk, mVar, mC, mBin, opSub, opIdx, seqOf, ix0, ix1, argsOf, argOf, idxs, putB, e]
theorem addS_zero {p : Sh} (h : IsSh p) : addS (0, 1) p = p := by
  have h0 := h.1
  unfold addS
  rw [show (0 : Int) * p.2 + p.1 * 1 = p.1 by omega, show (1 : Int) * p.2 = p.2 by omega]
  exact nrm_self h
end Mw

set_option Elab.async false
set_option linter.all false
set_option maxRecDepth 100000
/-! Mw, part M: list(range(..)), tuple(range(..)), displays of dicts, get, sorted, turned round. -/
namespace Mw
open PySem PySem.Spec PyProof.Rows L2
/-! ### ranges made -/
def rgD (a b : Int) : List D := (List.range (b - a).toNat).map fun i => D.int (a + (i : Nat))
theorem rgD_rv {K : PySem.W.Frag} {mg : Str → Option Value} {G : Hp} (a b : Int) : RVs K mg G (rgD a b) (rgV a b) := by
  unfold rgD rgV
  generalize (List.range (b - a).toNat) = l
  induction l with
  | nil => exact .nil
  | cons i r ih => exact .cons (.int _) ih
def rgB (a b : Int) : Bool := decide (-(2 ^ 62) ≤ a) && (decide (a < 2 ^ 62) && (decide (-(2 ^ 62) ≤ b) && (decide (b < 2 ^ 62) && Nat.ble (b - a).toNat (2 ^ 24))))
theorem rgB_ok {a b : Int} (h : rgB a b = true) : RgOk a b := by
  unfold rgB at h
  simp only [Bool.and_eq_true, decide_eq_true_eq] at h
  exact ⟨h.1, h.2.1, h.2.2.1, h.2.2.2.1, Nat.le_of_ble_eq_true h.2.2.2.2⟩
abbrev MR := Sg → Res (Int × Int)
def mRg1 (a : ME) : MR := fun S => (a S).bind fun p S1 => match p with
  | .d (.int n) => .ok (0, n) S1
  | _ => .bad
def mRg2 (a b : ME) : MR := fun S => (a S).bind fun p S1 => (b S1).bind fun q S2 => match p, q with
  | .d (.int i), .d (.int j) => .ok (i, j) S2
  | _, _ => .bad
def PoR (K : PySem.W.Frag) (mg : Str → Option Value) (W : WX) (g : Gh) (G : Hp) (σ : St) (r : Res (Int × Int)) (Q : Int → Int → Hp → Prop) : Prop := match r with
  | .ok o S' => ∀ G' H', Sub G G' → Rep K mg g G' σ H' S' → Q o.1 o.2 H'
  | .exc c S' => ∀ G' H', Sub G G' → Rep K mg g G' σ H' S' → W (clsV mg c) none σ H'
  | .bad => False
def tR (X : Cx) (W : WX) (g : Gh) (m : MR) : St → Hp → (Int → Int → Hp → Prop) → Prop := fun σ H Q => ∃ S G, Rep X.K X.mg g G σ H S ∧ PoR X.K X.mg W g G σ (m S) Q
def JR (X : Cx) (W : WX) (e : Expr) (m : MR) : Prop := ∀ g, PRg X e (tR X W g m)
section
variable {X : Cx} {W : WX}
theorem jr_1 {a : Expr} {m : ME} {p pos : Pos} (hg : Gl X "range") (hm : X.mg "range" = none) (ha : JE X W a m) (na : starEach [a] X.env = (false, eval a X.env) :: starEach [] X.env := by rfl) : JR X W (.Call (.Name "range" p) [a] [] pos) (mRg1 m) := fun g => by
  intro pins s σ H Q I h
  refine prg_1 hg hm (ha g) na pins s σ H Q I ?_
  obtain ⟨S, G, r, h⟩ := h
  refine ⟨S, G, r, ?_⟩
  unfold mRg1 at h
  cases e1 : m S with
  | bad => rw [e1] at h; exact h.elim
  | exc c S1 => rw [e1] at h; exact h
  | ok q S1 =>
    rw [e1] at h
    intro G1 H1 v s1 r1 rp
    simp only [Res.bind] at h
    split at h
    · cases rp
      exact ⟨_, rfl, h G1 H1 s1 r1⟩
    · exact h.elim
theorem jr_2 {a b : Expr} {m n : ME} {p pos : Pos} (hg : Gl X "range") (hm : X.mg "range" = none) (ha : JE X W a m) (hb : JE X W b n) (na : starEach [a, b] X.env = (false, eval a X.env) :: starEach [b] X.env := by rfl)
    (nb : starEach [b] X.env = (false, eval b X.env) :: starEach [] X.env := by rfl) (hp : (backTo pos (starEach [b] X.env)).any (·.1) = false := by rfl) : JR X W (.Call (.Name "range" p) [a, b] [] pos) (mRg2 m n) := fun g => by
  intro pins s σ H Q I h
  refine prg_2 hg hm (ha g) (hb g) na nb hp pins s σ H Q I ?_
  obtain ⟨S, G, r, h⟩ := h
  refine ⟨S, G, r, ?_⟩
  unfold mRg2 at h
  cases e1 : m S with
  | bad => rw [e1] at h; exact h.elim
  | exc c S1 => rw [e1] at h; exact h
  | ok q S1 =>
    rw [e1] at h
    intro G1 H1 v s1 r1 rp
    simp only [Res.bind] at h
    refine ⟨S1, G1, r1, ?_⟩
    cases e2 : n S1 with
    | bad => rw [e2] at h; exact h.elim
    | exc c S2 => rw [e2] at h; exact fun G2 H2 s2 r2 => h G2 H2 (s1.trans s2) r2
    | ok q2 S2 =>
      rw [e2] at h
      intro G2 H2 v2 s2 r2 rp2
      simp only at h
      split at h
      · cases rp
        cases rp2
        exact ⟨_, _, rfl, rfl, h G2 H2 (s1.trans s2) r2⟩
      · exact h.elim
def mListR (m : MR) : MN := fun S => (m S).bind fun o S1 => if rgB o.1 o.2 then .ok (rgD o.1 o.2) S1 else .bad
def mTupR (m : MR) : ME := fun S => (m S).bind fun o S1 => if rgB o.1 o.2 then .ok (.d (.tup (rgD o.1 o.2))) S1 else .bad
theorem jn_listR {e : Expr} {m : MR} {p pos : Pos} (hc : X.calm = true) (hg : Gl X "list") (hm : X.mg "list" = none) (he : JR X W e m) (na : starEach [e] X.env = (false, eval e X.env) :: starEach [] X.env := by rfl) : JN X W (.Call (.Name "list" p) [e] [] pos) (mListR m) := fun g => by
  refine pe_imp (pe_listRg hc hg hm (he g) na) fun σ H Q h => ?_
  obtain ⟨S, G, r, h⟩ := h
  refine ⟨S, G, r, ?_⟩
  unfold mListR at h
  cases e1 : m S with
  | bad => rw [e1] at h; exact h.elim
  | exc c S1 => rw [e1] at h; exact h
  | ok o S1 =>
    rw [e1] at h
    simp only [Res.bind] at h
    split at h
    · rename_i hz
      intro G1 H1 s1 r1
      refine ⟨rgB_ok hz, fun q nq => ?_⟩
      obtain ⟨r2, nw⟩ := r1.newO nq (.lst (rgV o.1 o.2))
      exact h G1 _ q _ s1 r2 upd_same (rgD_rv _ _) nw
    · exact h.elim
theorem je_tupR {e : Expr} {m : MR} {p pos : Pos} (hc : X.calm = true) (hg : Gl X "tuple") (hm : X.mg "tuple" = none) (he : JR X W e m) (na : starEach [e] X.env = (false, eval e X.env) :: starEach [] X.env := by rfl) : JE X W (.Call (.Name "tuple" p) [e] [] pos) (mTupR m) := fun g => by
  refine pe_imp (pe_tupRg hc hg hm (he g) na) fun σ H Q h => ?_
  obtain ⟨S, G, r, h⟩ := h
  refine ⟨S, G, r, ?_⟩
  unfold mTupR at h
  cases e1 : m S with
  | bad => rw [e1] at h; exact h.elim
  | exc c S1 => rw [e1] at h; exact h
  | ok o S1 =>
    rw [e1] at h
    simp only [Res.bind] at h
    split at h
    · rename_i hz
      intro G1 H1 s1 r1
      refine ⟨rgB_ok hz, new_tup r1 (rgD_rv _ _) fun G' H' v s r' rv => h G' H' v (s1.trans s) r' rv⟩
    · exact h.elim
end
/-! ### {k: v, ..} with texts as keys, as data -/
def valD (kvs : List (Key × D)) (k : Key) : Option D := (kvs.find? fun kv => decide (kv.1 = k)).map (·.2)
def putD (kvs : List (Key × D)) (k : Key) (x : D) : List (Key × D) := if (kvs.any fun kv => decide (kv.1 = k)) = true then kvs.map (fun kv => if kv.1 = k then (kv.1, x) else kv) else kvs ++ [(k, x)]
def mergeD (kvs more : List (Key × D)) : List (Key × D) := more.foldl (fun acc kv => putD acc kv.1 kv.2) kvs
section
variable {K : PySem.W.Frag} {mg : Str → Option Value} {G : Hp}
theorem RVk.length : ∀ {xs : List (Key × D)} {vs : List (Key × V)}, RVk K mg G xs vs → xs.length = vs.length
  | _, _, .nil => rfl
  | _, _, .cons _ t => by rw [List.length_cons, List.length_cons, t.length]
theorem RVk.any (p : Key → Bool) : ∀ {xs : List (Key × D)} {vs : List (Key × V)}, RVk K mg G xs vs → (xs.any fun kv => p kv.1) = vs.any fun kv => p kv.1
  | _, _, .nil => rfl
  | _, _, .cons _ t => by rw [List.any_cons, List.any_cons, RVk.any p t]
theorem RVk.append : ∀ {xs ys : List (Key × D)} {vs ws : List (Key × V)}, RVk K mg G xs vs → RVk K mg G ys ws → RVk K mg G (xs ++ ys) (vs ++ ws)
  | _, _, _, _, .nil, k => k
  | _, _, _, _, .cons h t, k => .cons h (t.append k)
theorem RVk.mapAt {x : D} {v : V} (h : RV K mg G x v) (k : Key) : ∀ {xs : List (Key × D)} {vs : List (Key × V)}, RVk K mg G xs vs → RVk K mg G (xs.map fun kv => if kv.1 = k then (kv.1, x) else kv) (vs.map fun kv => if kv.1 = k then (kv.1, v) else kv)
  | _, _, .nil => .nil
  | _, _, .cons (k := j) q t => by
    rw [List.map_cons, List.map_cons]
    by_cases e : j = k
    · simp only [e, if_true]; exact .cons h (t.mapAt h k)
    · simp only [e, if_false]; exact .cons q (t.mapAt h k)
theorem RVk.put {x : D} {v : V} (h : RV K mg G x v) (k : Key) {xs : List (Key × D)} {vs : List (Key × V)} (r : RVk K mg G xs vs) : RVk K mg G (putD xs k x) (putK vs k v) := by
  unfold putD putK
  rw [r.any fun j => decide (j = k)]
  split
  · exact r.mapAt h k
  · exact r.append (.cons h .nil)
theorem RVk.merge : ∀ {ys : List (Key × D)} {ws : List (Key × V)} {xs : List (Key × D)} {vs : List (Key × V)}, RVk K mg G ys ws → RVk K mg G xs vs → RVk K mg G (mergeD xs ys) (mergeK vs ws)
  | _, _, _, _, .nil, r => r
  | _, _, xs, vs, .cons (k := k) (x := x) (v := v) h t, r => RVk.merge (xs := putD xs k x) (vs := putK vs k v) t (RVk.put h k r)
theorem RVk.val (k : Key) : ∀ {xs : List (Key × D)} {vs : List (Key × V)}, RVk K mg G xs vs → (valD xs k = none ∧ valV vs k = none) ∨ ∃ x v, valD xs k = some x ∧ valV vs k = some v ∧ RV K mg G x v
  | _, _, .nil => .inl ⟨rfl, rfl⟩
  | _, _, .cons (k := j) (x := x) (v := v) (xs := xs) (vs := vs) h t => by
    by_cases e : j = k
    · exact .inr ⟨x, v, by simp [valD, List.find?_cons, e], valV_pos e, h⟩
    · have e1 : valD ((j, x) :: xs) k = valD xs k := by simp [valD, List.find?_cons, e]
      rw [valV_neg (p := (j, v)) e]
      rcases RVk.val k t with ⟨a, b⟩ | ⟨y, w, a, b, c⟩
      · exact .inl ⟨by rw [e1]; exact a, b⟩
      · exact .inr ⟨y, w, by rw [e1]; exact a, b, c⟩
def keysOf : List Str → List D → List (Key × D)
  | k :: ks, x :: xs => (.inr k, x) :: keysOf ks xs
  | _, _ => []
def keysV : List Str → List V → List (Key × V)
  | k :: ks, x :: xs => (.inr k, x) :: keysV ks xs
  | _, _ => []
theorem keys_rv : ∀ (ks : List Str) {xs : List D} {vs : List V}, RVs K mg G xs vs → RVk K mg G (keysOf ks xs) (keysV ks vs)
  | [], _, _, _ => .nil
  | _ :: _, _, _, .nil => .nil
  | _ :: ks, _, _, .cons h t => .cons h (keys_rv ks t)
theorem keysV_map : ∀ (ks : List Str) (vs : List V), (keysV ks vs).map (fun kv => (kV kv.1, kv.2)) = (ks.map V.str).zip vs
  | [], vs => by simp [keysV]
  | _ :: _, [] => by simp [keysV]
  | k :: ks, v :: vs => by show (V.str k, v) :: (keysV ks vs).map _ = _; rw [keysV_map ks vs]; rfl
theorem keysV_len : ∀ (ks : List Str) (vs : List V), (keysV ks vs).length ≤ ks.length
  | [], _ => by simp [keysV]
  | _ :: _, [] => by simp [keysV]
  | k :: ks, v :: vs => by show (keysV ks vs).length + 1 ≤ ks.length + 1; have := keysV_len ks vs; omega
end
def mVals : List ME → MA
  | [] => mNil
  | a :: r => mCons a (mVals r)
def mDisp (l : List (Str × ME)) : ME := fun S => (mVals (l.map (·.2)) S).bind fun ps S1 => match allD ps with
  | some xs => .ok (.d (.dct (mergeD [] (keysOf (l.map (·.1)) xs)))) S1
  | none => .bad
section
variable {X : Cx} {W : WX}
/-- the readings of the pairs -/
def trsOf (X : Cx) (W : WX) (l : List (Str × ME)) : List (TE × TE) := l.map fun x => (tC (V.str x.1), fun σ H R => ∃ g', tE X W g' x.2 σ H R)
theorem pairs_of : ∀ (l : List (Str × ME)) (g : Gh) (σ : St) (H : Hp) (Q : List (V × V) → Hp → Prop), tA X W g (mVals (l.map (·.2))) σ H (fun vs H' => Q (((l.map (·.1)).map V.str).zip vs) H') → tPairs (trsOf X W l) σ H Q
  | [], g, σ, H, Q, ⟨S, G, r, h⟩ => h G H [] (Sub.refl _) r .nil
  | (k, m) :: l, g, σ, H, Q, ⟨S, G, r, h⟩ => by
    show ∃ g', tE X W g' m σ H _
    refine ⟨g, S, G, r, ?_⟩
    have h : PoA X.K X.mg W g G σ (mCons m (mVals (l.map (·.2))) S) (fun vs H' => Q ((V.str k :: (l.map (·.1)).map V.str).zip vs) H') := h
    unfold mCons at h
    cases e1 : m S with
    | bad => rw [e1] at h; exact h.elim
    | exc c S1 => rw [e1] at h; exact h
    | ok p S1 =>
      rw [e1] at h
      intro G1 H1 v s1 r1 rp
      refine pairs_of l g σ H1 _ ⟨S1, G1, r1, ?_⟩
      simp only [Res.bind] at h
      cases e2 : mVals (l.map (·.2)) S1 with
      | bad => rw [e2] at h; exact h.elim
      | exc c S2 => rw [e2] at h; exact fun G2 H2 s2 r2 => h G2 H2 (s1.trans s2) r2
      | ok ps S2 =>
        rw [e2] at h
        exact fun G2 H2 vs s2 r2 rps => h G2 H2 (v :: vs) (s1.trans s2) r2 (.cons (rp.mono s2) rps)
inductive JPs (X : Cx) (W : WX) : List (Option Expr) → List Expr → List (Str × ME) → Prop
  | nil : JPs X W [] [] []
  | cons {k : Str} {j : Nat} {pos : Pos} {v : Expr} {m : ME} {ks : List (Option Expr)} {vs : List Expr} {l : List (Str × ME)} (h : JE X W v m) (t : JPs X W ks vs l) : JPs X W (some (.Constant (.str k) j pos) :: ks) (v :: vs) ((k, m) :: l)
theorem JPs.pps {pos : Pos} : ∀ {ks : List (Option Expr)} {vs : List Expr} {l : List (Str × ME)}, JPs X W ks vs l → PPs X pos ks vs (trsOf X W l)
  | _, _, _, .nil => pps_nil
  | _, _, _, .cons h t => pps_cons pe_str ⟨fun pins s σ H Q I ⟨g', q⟩ => (h g').run pins s σ H Q I q⟩ (JPs.pps t)
theorem JPs.all : ∀ {ks : List (Option Expr)} {vs : List Expr} {l : List (Str × ME)}, JPs X W ks vs l → ks.all (·.isSome) = true ∧ ks.length = vs.length ∧ l.length = ks.length
  | _, _, _, .nil => ⟨rfl, rfl, rfl⟩
  | _, _, _, .cons _ t => by
    obtain ⟨a, b, c⟩ := t.all
    exact ⟨by rw [List.all_cons, a]; rfl, by rw [List.length_cons, List.length_cons, b], by rw [List.length_cons, List.length_cons, c]⟩
/-- behind an expression a thing is locked for good -/
theorem pe_frzP {e : Expr} {t : TE} (h : PE X e t) : PE X e (fun σ H Q => t σ H fun x H1 => ∃ p u, H1 p = some u ∧ Mut (some u) ∧ ∀ od, Q x (upd H1 p (.frz od u))) := by
  refine ⟨fun pins s σ H Q I q => thn (h.run pins s σ H _ I q) fun v s1 ⟨x, H1, I1, rx, p, u, hp, mu, q1⟩ => ?_⟩
  obtain ⟨od, I2⟩ := I1.lock hp mu
  exact ⟨x, _, I2, rx, q1 od⟩
/-- a thing that nobody names changes its form -/
theorem Rep.growO {g : Gh} {G H : Hp} {σ : St} {S : Sg} {p : Addr} {u o : HO} (r : Rep X.K X.mg g G σ H S) (h : H p = some u) (ld : LD u) (n : NewAt g G H σ S p) : Rep X.K X.mg g G σ (upd H p o) S := r.upNew o h ld n
theorem je_disp {ks : List (Option Expr)} {vs : List Expr} {l : List (Str × ME)} {pos : Pos} (h : JPs X W ks vs l) (h0 : ks ≠ []) (h15 : ks.length ≤ 15) : JE X W (.Dict ks vs pos) (mDisp l) := fun g => by
  obtain ⟨ha, hl, hl2⟩ := h.all
  refine pe_imp (pe_frzP (pe_disp (h.pps) ha hl h0 h15)) fun σ H Q q => ?_
  obtain ⟨S, G, r, q⟩ := q
  intro p np
  obtain ⟨z1, z2, z3, z4⟩ := r.hnone np
  obtain ⟨r2, nw⟩ := r.newO np (.dK [])
  have r3 := r2.reserve (p := p) (o := .dK []) upd_same nw
  have back : ∀ {G' H' : Hp} {S' : Sg}, Rep X.K X.mg (g.res p (.dK [])) G' σ H' S' → Rep X.K X.mg g G' σ H' S' ∧ H' p = some (.dK []) ∧ NewAt g G' H' σ S' p := fun r => r.unres z2 z1 z4
  refine pairs_of l (g.res p (.dK [])) σ _ _ ⟨S, G, r3, ?_⟩
  unfold mDisp at q
  cases e1 : mVals (l.map (·.2)) S with
  | bad => rw [e1] at q; exact q.elim
  | exc c S1 => rw [e1] at q; exact fun G1 H1 s1 r1 => q G1 H1 s1 (back r1).1
  | ok ps S1 =>
    rw [e1] at q
    simp only [Res.bind] at q
    intro G1 H1 vs s1 r1 rps
    obtain ⟨b1, b2, b3⟩ := back r1
    cases e2 : allD ps with
    | none => rw [e2] at q; exact q.elim
    | some xs =>
      rw [e2] at q
      have rv := allD_ok e2 rps
      have rk : RVk X.K X.mg G1 (mergeD [] (keysOf (l.map (·.1)) xs)) (mergeK [] (keysV (l.map (·.1)) vs)) := RVk.merge (keys_rv _ rv) .nil
      refine ⟨b2, keysV (l.map (·.1)) vs, (keysV_map _ _).symm, ?_, ?_⟩
      · have := keysV_len (l.map (·.1)) vs
        rw [List.length_map] at this
        omega
      · have r7 : Rep X.K X.mg g G1 σ (upd H1 p (.dK (mergeK [] (keysV (l.map (·.1)) vs)))) S1 := b1.upNew _ b2 (.inr (.inl ⟨_, rfl⟩)) b3
        have b3' := b3.upd (o := .dK (mergeK [] (keysV (l.map (·.1)) vs))) b3.o
        refine ⟨p, _, upd_same, trivial, fun od => ?_⟩
        have sb : Sub G1 (upd G1 p (.frz od (.dK (mergeK [] (keysV (l.map (·.1)) vs))))) := Sub.upd_new G1 b3.g0
        have r8 := (r7.growO (o := .frz od (.dK (mergeK [] (keysV (l.map (·.1)) vs)))) upd_same (.inr (.inl ⟨_, rfl⟩)) b3').data upd_same (b3'.upd b3'.o)
        exact q _ _ _ (s1.trans sb) r8 (.dct upd_same (rk.mono sb))
/-! ### d.get(k), d.get(k, x) -/
def dctOf (S : Sg) : P → Option (List (Key × D))
  | .d (.dct kvs) => some kvs
  | .s i => match S[i]? with
    | some (.m _ kvs) => some kvs
    | _ => none
  | _ => none
theorem dctOf_ok {g : Gh} {G H : Hp} {σ : St} {S : Sg} {p : P} {v : V} {xs : List (Key × D)} (r : Rep X.K X.mg g G σ H S) (rp : RP X.K X.mg G σ p v) (e : dctOf S p = some xs) : ∃ a vs, v = .ref a ∧ Rd H a (.dK vs) ∧ RVk X.K X.mg G xs vs := by
  cases p with
  | d x =>
    cases rp with
    | dct h q => cases e; exact ⟨_, _, rfl, .inr ⟨_, r.sub _ _ h⟩, q⟩
    | _ => cases e
  | s i =>
    dsimp only [dctOf] at e
    split at e
    · rename_i b' xs q
      cases e
      obtain ⟨a, vs, e1, e2, e3, _⟩ := r.mAt q
      have z : some (some v) = some (some (V.ref a)) := (show σ[i]? = _ from rp).symm.trans e1
      cases z
      exact ⟨_, _, rfl, .inl e2, e3⟩
    · cases e
def keyP : P → Option Key
  | .d (.int i) => some (.inl i)
  | .d (.str x) => some (.inr x)
  | _ => none
theorem keyP_ok {G : Hp} {σ : St} {p : P} {v : V} {k : Key} (rp : RP X.K X.mg G σ p v) (e : keyP p = some k) : v = kV k := by
  cases p with
  | s i => cases e
  | d x =>
    cases rp with
    | int i => cases e; rfl
    | str x => cases e; rfl
    | _ => cases e
def mDget (o a : ME) : ME := fun S => (o S).bind fun p S1 => if (dctOf S1 p).isSome then (a S1).bind fun q S2 => match dctOf S2 p, keyP q with
    | some kvs, some k => .ok (.d ((valD kvs k).getD .non)) S2
    | _, _ => .bad
  else .bad
theorem je_dget1 {o e : Expr} {m a : ME} {apos cpos : Pos} (hu : X.A.units + 64 < cLine) (ho : JE X W o m) (he : JE X W e a) (hm : M1 X o "get" apos e cpos) : JE X W (.Call (.Attribute o "get" apos) [e] [] cpos) (mDget m a) := fun g => by
  refine pe_imp (pe_dget1 (by omega) (ho g) (he g) hm) fun σ H Q h => ?_
  obtain ⟨S, G, r, h⟩ := h
  refine ⟨S, G, r, po_bindE h fun p S1 G1 H1 x s1 r1 rp h => ?_⟩
  split at h
  case isFalse => exact h.elim
  rename_i hd
  obtain ⟨kvs0, ek0⟩ := Option.isSome_iff_exists.mp hd
  obtain ⟨ad, vs0, rfl, hH, _⟩ := dctOf_ok r1 rp ek0
  refine ⟨ad, rfl, .inl ⟨vs0, hH⟩, S1, G1, r1, ?_⟩
  cases e1 : a S1 with
  | bad => rw [e1] at h; exact h.elim
  | exc c S2 => rw [e1] at h; exact h
  | ok q S2 =>
    rw [e1] at h
    intro G2 H2 y s2 r2 rq
    simp only [Res.bind] at h
    split at h
    · rename_i kvs k e2 e3
      obtain ⟨ad2, vs2, ea, hH2, rk⟩ := dctOf_ok r2 (rp.mono s2) e2
      cases ea
      refine ⟨valV vs2 k, .inl ⟨vs2, k, hH2, keyP_ok rq e3, rfl⟩, ?_⟩
      rcases rk.val k with ⟨q1, q2⟩ | ⟨x, v, q1, q2, q3⟩
      · rw [q1] at h; rw [q2]; exact h G2 H2 _ s2 r2 .non
      · rw [q1] at h; rw [q2]; exact h G2 H2 _ s2 r2 q3
    · exact h.elim
/-! ### sorted(x) -/
def bSorted (S : Sg) : List P → Option (List D)
  | [p] => (lstOf S p).bind fun xs => sortD xs xs
  | _ => none
theorem each_one {K : PySem.W.Frag} {mg : Str → Option Value} {G : Hp} : ∀ {us : List Value} {vs : List V} {xs : List D}, Vals vs us → RVs K mg G xs vs → PySem.W.EachIs (fun u (x : D) => ∃ v, RelV v u ∧ RV K mg G x v) us xs
  | _, _, _, .nil, .nil => .nil
  | _, _, _, .cons r t, .cons h q => .cons ⟨_, r, h⟩ (each_one t q)
theorem out_one {K : PySem.W.Frag} {mg : Str → Option Value} {G : Hp} : ∀ {us : List Value} {xs : List D}, PySem.W.EachIs (fun u (x : D) => ∃ v, RelV v u ∧ RV K mg G x v) us xs → ∃ ws, Vals ws us ∧ RVs K mg G xs ws
  | _, _, .nil => ⟨[], .nil, .nil⟩
  | _, _, .cons ⟨v, r, h⟩ t => by
    obtain ⟨ws, h1, h2⟩ := out_one t
    exact ⟨v :: ws, .cons r h1, .cons h h2⟩
theorem zip_same_sort (xs : List D) : ((xs.zip xs).mergeSort (PySem.W.dataLe false fun p : D × D => p.2.py)).map (·.1) = xs.mergeSort (PySem.W.dataLe false D.py) := by
  have e : xs.zip xs = xs.map fun x => (x, x) := by
    induction xs with
    | nil => rfl
    | cons x r ih => rw [List.zip_cons_cons, ih]; rfl
  rw [e]
  have h := PySem.W.sort_maps (r := PySem.W.dataLe false D.py) (s := PySem.W.dataLe false fun p : D × D => p.2.py) (fun x : D => (x, x)) (l := xs) (fun a _ b _ => rfl)
  rw [← h, List.map_map]
  exact List.map_id _
theorem reads_each {pins : List (Addr × Obj)} {σ : St} {H : Hp} {s : Shared} (I : Inv X pins σ H s) : ∀ {vs : List V} {xs : List D} {us : List Value}, DpAll X.K H vs (pys xs) → Vals vs us → PySem.W.EachIs (fun v (x : D) => ∃ as, Reads s.heap v x.py as) us xs
  | _, [], _, .nil, .nil => .nil
  | _, x :: r, _, .cons h t, .cons q p => .cons (Dp.reads I _ _ _ h q) (reads_each I t p)
theorem c_sorted (hv : X.A.units + 65 < cLine) : CallR X (.builtin "sorted") (rCN X bSorted) := by
  intro pins s σ H vs us Q I rx k
  obtain ⟨g, G, σ', S, ps, ys, r, rps, e, k⟩ := k
  unfold bSorted at e
  split at e
  · obtain ⟨xs, e1, e2⟩ := Option.bind_eq_some_iff.mp e
    cases rps with
    | cons h t =>
    cases t
    obtain ⟨a, ws, rfl, hl, rv⟩ := lstOf_ok r h e1
    cases rx with
    | cons rx rt =>
    cases rt
    cases rx
    unfold sortD at e2
    split at e2
    case isFalse => cases e2
    rename_i hok
    cases e2
    obtain ⟨k1, k2, k3, k4⟩ := keysOk_ok hok
    obtain ⟨its, rits, pl, hz⟩ := I.list (.inl (.inl hl))
    have hlen : xs.length = its.length := by rw [rv.length, rits.length]
    have em : xs.map D.py = pys xs := (pys_map xs).symm
    have dp := RVs.dp r.sub rv k3
    have un : X.A.units + 65 < cLine := hv
    refine PySem.W.sorted_data (bs := xs) (enc := D.py) (R := fun u (x : D) => ∃ v, RelV v u ∧ RV X.K X.mg G x v) pl.isList (each_one rits rv) (reads_each I dp rits) (by rw [em]; exact k1) (by rw [em]; exact k2) (by rw [rv.length]; exact hz)
      (fun b hb => by
        have := k4 b.py (by rw [← em]; exact List.mem_map.mpr ⟨b, hb, rfl⟩)
        omega) fun out hol each => ?_
    obtain ⟨zs, w1, w2⟩ := out_one each
    rw [← zip_same_sort, ← isort_eq (dataLe_total _)] at w2
    obtain ⟨ep, he⟩ := PyProof.Rows.sortedAll_at s.heap its out.toArray
    have np := I.hok.fresh (Nat.le_succ s.heap.objs.size)
    obtain ⟨r5, nw⟩ := r.newO np (.lst zs)
    refine ⟨.ref (s.heap.objs.size + 1), upd H (s.heap.objs.size + 1) (.lst zs), I.laid (t' := s.toks) (fun b o e => PyProof.Rows.sortedAll_old e) (Nat.le_succ _) ⟨by rw [w1.length, hol, rv.length]; exact hz, out, ep, w1, he⟩, rfl, k G _ _ zs (Sub.refl _) r5 upd_same w2 nw⟩
  · cases e
/-- x[::-1] of a list -/
def mRev (a : ME) : MN := fun S => (a S).bind fun p S1 => match lstOf S1 p with
  | some xs => .ok xs.reverse S1
  | none => .bad
theorem jn_rev {e : Expr} {a : ME} {k : Nat} {p1 p2 p3 pos : Pos} (ha : JE X W e a) : JN X W (.Subscript e (.Slice none none (some (.UnaryOp .USub (.Constant (.int 1) k p1) p2)) p3) pos) (mRev a) := fun g => by
  refine pe_imp (pe_revL (ha g)) fun σ H Q h => ?_
  obtain ⟨S, G, r, h⟩ := h
  refine ⟨S, G, r, ?_⟩
  unfold mRev at h
  cases e1 : a S with
  | bad => rw [e1] at h; exact h.elim
  | exc c S1 => rw [e1] at h; exact h
  | ok p S1 =>
    rw [e1] at h
    intro G1 H1 v s1 r1 rp
    simp only [Res.bind] at h
    split at h
    · rename_i xs ex
      obtain ⟨b, vs, rfl, hl, rv⟩ := lstOf_ok r1 rp ex
      refine ⟨b, vs, rfl, .inl (.inl hl), fun q nq => ?_⟩
      obtain ⟨r2, nw⟩ := r1.newO nq (.lst vs.reverse)
      exact h G1 _ q _ s1 r2 upd_same rv.reverse nw
    · exact h.elim
end
end Mw

set_option Elab.async false
set_option linter.all false
set_option maxRecDepth 100000
set_option maxHeartbeats 1000000
/-! Mw, part N: len({x for t in it}), the members ints and texts. -/
namespace Mw
open PySem PySem.Spec PyProof.Rows L2
def seen (ks : List Key) (k : Key) : Bool := ks.any fun j => decide (j = k)
/-- the number of members behind the adding of ks, one after the other -/
def cnt : List Key → Nat → List Key → Nat
  | _, n, [] => n
  | ks, n, k :: r => cnt (ks ++ [k]) (if seen ks k then n else n + 1) r
/-- the reading: the walked things, the target, the member -/
def tSl (wi : TI) (g : TG) (te : TE) (vs : List Nat) : TE := fun σ H Q => wi σ H fun J H1 => ∃ W : Nat → Nat → List Key → Hp → Prop, (∃ m, W 0 m [] H1) ∧ ∀ i m ks H, W i m ks H →
  (J.stop i H ∧ Q (.int (cnt [] 0 ks : Nat)) H) ∨ (J.go i H ∧ ∃ Nx : List Key → Hp → Prop, (∀ ks' H', Nx ks' H' → ∃ m', m' < m ∧ W (i + 1) m' ks' H') ∧ ∀ x H', J.yld i H x H' → g x (wipe σ vs) H' fun σ2 H2 => wipe σ2 vs = wipe σ vs ∧
    te σ2 H2 fun y H4 => ∃ c : Key, y = kV c ∧ ks.length + 1 < scanBound ∧ Nx (ks ++ [c]) H4)
theorem cnt_snoc : ∀ (r ks : List Key) (n : Nat) (c : Key), cnt ks n (r ++ [c]) = if seen (ks ++ r) c then cnt ks n r else cnt ks n r + 1
  | [], ks, n, c => by rw [List.append_nil]; rfl
  | k :: r, ks, n, c => by
    show cnt (ks ++ [k]) (if seen ks k then n else n + 1) (r ++ [c]) = if seen (ks ++ k :: r) c then cnt (ks ++ [k]) (if seen ks k then n else n + 1) r else cnt (ks ++ [k]) (if seen ks k then n else n + 1) r + 1
    rw [cnt_snoc r (ks ++ [k]) _ c, List.append_assoc]
    rfl
theorem cnt_le : ∀ (r ks : List Key) (n : Nat), cnt ks n r ≤ n + r.length
  | [], _, n => Nat.le_refl _
  | k :: r, ks, n => by
    have h := cnt_le r (ks ++ [k]) (if seen ks k then n else n + 1)
    have h2 : (if seen ks k = true then n else n + 1) ≤ n + 1 := by split <;> omega
    show cnt (ks ++ [k]) (if seen ks k then n else n + 1) r ≤ n + (r.length + 1)
    omega
section
variable {X : Cx}
theorem lsc_core {pins : List (Addr × Obj)} {s : Shared} {σ : St} {H : Hp} {Q : VK} {elt tg iter : Expr} {scope : Scope} {own : List (Str × Nat)} {pos : Pos} {wi : TI} {g : TG} {te : TE} {Qf : Value → Shared → Prop} (hc : X.calm = true) (hN : X.N.Nodup) (I : Inv X pins σ H s) (hi : PI X tg iter wi) (ok : BlkOk X.N X.env.scope scope own)
    (hg : ∀ (s : Shared) (H : Hp) (C : Addr) (cl : List (Str × Addr)) (fp : List Addr), PG (X.blk s H scope (compEnvC scope cl C X.env) fp) tg g) (he : ∀ (s : Shared) (H : Hp) (C : Addr) (cl : List (Str × Addr)) (fp : List Addr), PE (X.blk s H scope (compEnvC scope cl C X.env) fp) elt te)
    (hs : ∀ x, foldedSetIterable iter X.env x = pure x) (h : tSl wi g te (own.map (·.2)) σ H Q)
    (fin : ∀ (Dd : Addr) (s' : Shared) (H' : Hp) (n : Nat) (S : Key → Bool), Inv X pins σ H' s' → s'.heap.SetOf (mixKind X.prog X.w) Dd S n → Q (.int (n : Nat)) H' → Qf (.ref Dd) s') :
    wpAny (model X.prog X.w) X.A (eval (.SetComp elt [⟨tg, iter, [], 0⟩] scope pos) X.env) Qf X.xe s := by
  rw [PpSet.eval_SetComp]
  have hfree : ∀ y ∈ scope.names, y.2 = .free → ∃ c, X.env.cells.lookup y.1 = some c := fun y hy e => (ok.free y hy e).elim (fun k => I.ok.has _ (.inl k)) fun k => I.ok.has _ (.inr k)
  refine wpAny_comprehension_free (use := none) rfl hs (closure_ok hfree) ok.kind (fun y hy e => by rw [ok.uniq y hy, e]) (thn (hi.run pins s σ H _ I h) fun xv s1 hx => thn hx fun itv s2 h2 => ?_)
  obtain ⟨it, fp, tn, J, H2, e, I2, T, st2, f2, W, ⟨m0, w0⟩, turn⟩ := h2
  subst e
  refine PpSet.newSet_ok (newEnv_comp ?_)
  generalize hD : s2.heap.objs.size = Dd
  generalize hs3 : ({ s2 with heap := s2.heap.push { cls := .type "set", dict := none, data := .set #[] 0 (.fresh 0 0 (!X.w.params.followText "set-order")) } } : Shared) = s3
  have k3 : ∀ b o, s2.heap.get? b = some o → s3.heap.get? b = some o := fun b o e => by rw [← hs3]; exact Heap.get?_push_of_some _ e
  have new3 : s3.heap.SetOf (mixKind X.prog X.w) Dd (fun _ => false) 0 := by
    rw [← hs3, ← hD]
    exact ⟨_, #[], 0, _, Heap.get?_push_size _ rfl, ⟨rfl, rfl, rfl⟩, rfl, (fun e he => by simp at he), (fun k => by simp), (by decide), (by rfl), rfl⟩
  have I3 : Inv X pins σ H2 s3 := by rw [← hs3]; exact I2.kept (t' := s2.toks) fun b o e => Heap.get?_push_of_some _ e
  have sD3 : Dd < s3.heap.objs.size := by obtain ⟨o, _, _, _, ho, _⟩ := new3; exact Heap.lt_size ho
  have sz : ∀ b ∈ fp, b < Dd := fun b hb => by
    obtain ⟨o, e, _⟩ := T.obj _ _ st2 b hb
    rw [← hD]; exact Heap.lt_size e
  have fD : ∀ {H' : Hp}, H' Dd = none → FpOk X pins H' Dd := fun hn => I2.fpOk (Nat.le_of_eq hD) hn
  have nD : H2 Dd = none := I2.hok.fresh (Nat.le_of_eq hD)
  have f3 : ∀ b ∈ Dd :: fp, FpOk X pins H2 b ∧ b < s3.heap.objs.size := fun b hb => by
    rcases List.mem_cons.mp hb with rfl | hb
    · exact ⟨fD nD, sD3⟩
    · exact ⟨f2 b hb, Nat.lt_trans (sz b hb) sD3⟩
  have st3 : tn 0 s3.heap := T.keep _ _ _ st2 fun b _ o e => k3 b o e
  have I4 := block_start I3 ok hN f3
  have pg := hg s3 H2 s3.heap.objs.size (cellsFrom (s3.heap.objs.size + 1) scope.names (cloFrom X.env.cells scope.names [])) (Dd :: fp)
  have pe := he s3 H2 s3.heap.objs.size (cellsFrom (s3.heap.objs.size + 1) scope.names (cloFrom X.env.cells scope.names [])) (Dd :: fp)
  show codeAny _ _ (.compStart (.SetComp elt [⟨tg, iter, [], 0⟩] scope pos) 0 (.ref it) (.ref Dd) (compEnvC scope (cellsFrom (s3.heap.objs.size + 1) scope.names (cloFrom X.env.cells scope.names [])) s3.heap.objs.size X.env)) (compPost (model X.prog X.w) X.A X.xe none Qf (.ref Dd) s3.heap.objs.size) { s3 with heap := pushCells (s3.heap.push { cls := .type "dict", data := .dict #[] }) scope.names }
  generalize hce : compEnvC scope (cellsFrom (s3.heap.objs.size + 1) scope.names (cloFrom X.env.cells scope.names [])) s3.heap.objs.size X.env = ce at I4 pg pe ⊢
  have cL : ce.locals = s3.heap.objs.size := by subst hce; rfl
  generalize hs4 : ({ s3 with heap := pushCells (s3.heap.push { cls := .type "dict", data := .dict #[] }) scope.names } : Shared) = s4 at I4 ⊢
  have k4 : ∀ b o, s3.heap.get? b = some o → s4.heap.get? b = some o := fun b o e => by rw [← hs4]; exact pushCells_keeps _ _ _ _ (Heap.get?_push_of_some _ e)
  have st4 : tn 0 s4.heap := T.keep _ _ _ st3 fun b _ o e => k4 b o e
  have new4 : s4.heap.SetOf (mixKind X.prog X.w) Dd (seen []) (cnt [] 0 []) := setOf_at new3 fun o e => k4 _ o e
  have nDfp : Dd ∉ fp := fun z => Nat.lt_irrefl _ (sz Dd z)
  -- what is known of the walked objects and the set, whatever pins are borne
  have stat : ∀ {pl : List (Addr × Obj)} {σ' : St} {H' : Hp} {s' : Shared}, Inv (X.blk s3 H2 scope ce (Dd :: fp)) pl σ' H' s' → ∀ b, b ∈ Dd :: fp → H' b = none → (∀ p ∈ pl, p.1 ≠ b) → FpOk (X.blk s3 H2 scope ce (Dd :: fp)) pl H' b := fun {pl σ' H' s'} I' b hb hn hp =>
    ⟨hn, (I'.ok.exf b hb).1, I'.ok.exfs b hb, .inl hb, fun x c e => (I'.ok.exf b hb).2 x c e, fun p hq => hp p (by simpa using hq)⟩
  have setObj : ∀ {h : Heap} {S : Key → Bool} {n : Nat}, h.SetOf (mixKind X.prog X.w) Dd S n → ∃ o, h.get? Dd = some o ∧ ∀ v, o.data ≠ .cell v := fun ⟨o, es, ep, t, ho, _, hd, _⟩ => ⟨o, ho, fun v z => by rw [hd] at z; cases z⟩
  have loop : codeAny (model X.prog X.w) X.A (.compLoop (.SetComp elt [⟨tg, iter, [], 0⟩] scope pos) 0 (.ref it) (.ref Dd) ce) (compPost (model X.prog X.w) X.A X.xe none Qf (.ref Dd) s3.heap.objs.size) s4 := by
    refine PpSet.compLoopS_any (fun m s' => ∃ i ks H', Inv (X.blk s3 H2 scope ce (Dd :: fp)) [] (wipe σ (own.map (·.2))) H' s' ∧ tn i s'.heap ∧ (∀ b ∈ Dd :: fp, H' b = none) ∧ s'.heap.SetOf (mixKind X.prog X.w) Dd (seen ks) (cnt [] 0 ks) ∧ W i m ks H') ?_ m0 ⟨0, [], H2, I4, st4, fun b hb => (f3 b hb).1.1, new4, w0⟩
    rintro m s5 ⟨i, ks, H5, I5, st5, n5, set5, w5⟩
    obtain ⟨o5, g5, d5⟩ := setObj set5
    have fD5 := stat I5 Dd (.head _) (n5 Dd (.head _)) (fun p hp => by cases hp)
    have P5 : Inv (X.blk s3 H2 scope ce (Dd :: fp)) [(Dd, o5)] (wipe σ (own.map (·.2))) H5 s5 := I5.pins_of fun p hp => by
      rw [List.mem_singleton.mp hp]
      exact ⟨g5, fD5.1, fD5.2.1, fD5.2.2.1, d5⟩
    have fp5 : ∀ b ∈ fp, FpOk (X.blk s3 H2 scope ce (Dd :: fp)) [(Dd, o5)] H5 b := fun b hb => stat P5 b (.tail _ hb) (n5 b (.tail _ hb)) fun p hp => by
      rw [List.mem_singleton.mp hp]
      exact fun z => nDfp (by rw [show Dd = b from z]; exact hb)
    rcases turn i m ks H5 w5 with ⟨stop, qq⟩ | ⟨go, Nx, hNx, step⟩
    · refine thnF (T.done (X.blk s3 H2 scope ce (Dd :: fp)) rfl rfl rfl hc i _ s5 _ H5 (fun _ _ => False) P5 fp5 st5 stop) fun r s6 ⟨hr, I6⟩ => ?_
      subst hr
      have g6 := (I6.pin (Dd, o5) (List.mem_append_right _ (.head _))).1
      have set6 : s6.heap.SetOf (mixKind X.prog X.w) Dd (seen ks) (cnt [] 0 ks) := setOf_at set5 fun o e => by rw [g5] at e; cases e; exact g6
      have I7 : Inv X pins σ H5 s6 := I3.call' (ch := Dd :: fp) I6.os I6.base I6.hok I6.bare fun b hb => ⟨(f3 b hb).1.2.2.2.1, (f3 b hb).1.2.1, (f3 b hb).1.2.2.2.2.1, (f3 b hb).1.2.2.2.2.2⟩
      have nC : H5 s3.heap.objs.size = none := by
        have z : H5 ce.locals = none := I6.free
        rw [cL] at z
        exact z
      obtain ⟨mm, hn, _⟩ := I6.loc
      have hn : s6.heap.Ns ce.locals mm := hn
      rw [cL] at hn
      refine ⟨mm, hn, fun h'' sb => ?_⟩
      obtain ⟨c0, c1, c2, c3, c4, c5⟩ := I3.fpOk (Nat.le_refl _) nC
      have I8 : Inv X pins σ H5 { s6 with heap := h'' } := I7.turned (t' := s6.toks) (fun b o hb e => (sb.2 b hb).trans e) c0 c1 c3 c4 c5
      exact fin Dd _ H5 _ _ I8 (setOf_at set6 fun o e => (sb.2 _ (Nat.ne_of_lt sD3)).trans e) qq
    · refine thnF (T.item (X.blk s3 H2 scope ce (Dd :: fp)) rfl rfl rfl hc i _ s5 _ H5 (fun _ _ => False) P5 fp5 st5 go) fun r s6 ⟨u, hr, h6⟩ => ?_
      subst hr
      refine thnF h6 fun _ s7 ⟨x, H7, I7, r7, y7, st7, n7⟩ => ?_
      have fp7 : ∀ b ∈ fp, FpOk (X.blk s3 H2 scope ce (Dd :: fp)) [(Dd, o5)] H7 b := fun b hb => stat I7 b (.tail _ hb) (n7 b hb) fun p hp => by
        rw [List.mem_singleton.mp hp]
        exact fun z => nDfp (by rw [show Dd = b from z]; exact hb)
      have I7' := I7.pinned fp7 (T.obj _ _ st7)
      refine thnF (pg.run _ s7 _ H7 x u _ I7' r7 (step x H7 y7)) fun _ s8 ⟨σ8, H8, I8, hw8, q8⟩ => ?_
      refine thnF ((pts_nil (X := X.blk s3 H2 scope ce (Dd :: fp))).run _ s8 σ8 H8 (fun b H' => b = true ∧ H' = H8) I8 ⟨rfl, rfl⟩) fun b s9 ⟨H9, I9, eb, eH⟩ => ?_
      subst eb
      rw [if_pos rfl]
      rw [eH] at I9
      refine thnF (pe.run _ s9 σ8 H8 _ I9 q8) fun z s10 ⟨yv, H10, I10, r10, c, ey, hroom, nx⟩ => ?_
      subst ey
      have pD := I10.pin (Dd, o5) (List.mem_append_right _ (List.mem_append_left _ (.head _)))
      have set10 : s10.heap.SetOf (mixKind X.prog X.w) Dd (seen ks) (cnt [] 0 ks) := setOf_at set5 fun o e => by rw [g5] at e; cases e; exact pD.1
      have hcl := cnt_le ks [] 0
      refine PySem.call_set_add (kV_is r10) (key_scan r10) set10 (by omega) fun h11 sb new => ?_
      obtain ⟨m', hm, w'⟩ := hNx _ _ nx
      have pfp : ∀ b ∈ fp, ∀ o, s7.heap.get? b = some o → s10.heap.get? b = some o ∧ H10 b = none := fun b hb o e =>
        let z := I10.pin (b, o) (List.mem_append_right _ (List.mem_append_right _ (mem_pinsAt hb e)))
        ⟨z.1, z.2.1⟩
      have hl : (wipe σ (own.map (·.2))).length = σ8.length := by rw [← hw8, wipe_length]
      have I11 : Inv (X.blk s3 H2 scope ce (Dd :: fp)) [] (wipe σ (own.map (·.2))) H10 s10 := (I10.pins_of (pins' := []) fun p hp => by cases hp).weak hl fun j v e => by
        rw [← hw8] at e
        exact (wipe_some e).1
      have fD11 := stat I11 Dd (.head _) pD.2.1 (fun p hp => by cases hp)
      refine ⟨m', hm, i + 1, ks ++ [c], H10, I11.turned (fun b o hb e => (sb.2 b hb).trans e) fD11.1 fD11.2.1 fD11.2.2.2.1 fD11.2.2.2.2.1 fD11.2.2.2.2.2, T.keep _ _ _ st7 fun b hb o e => (sb.2 b (fun z => nDfp (by rw [← z]; exact hb))).trans (pfp b hb o e).1, fun b hb => ?_, ?_, w'⟩
      · rcases List.mem_cons.mp hb with rfl | hb
        · exact pD.2.1
        · obtain ⟨o, e, _⟩ := T.obj _ _ st7 b hb
          exact (pfp b hb o e).2
      · have e1 : (fun j => seen ks j || decide (j = c)) = seen (ks ++ [c]) := by
          funext j
          unfold seen
          rw [List.any_append]
          simp [eq_comm]
        have e2 : (if seen ks c = true then cnt [] 0 ks else cnt [] 0 ks + 1) = cnt [] 0 (ks ++ [c]) := by rw [cnt_snoc, List.nil_append]
        rw [← e1, ← e2]
        exact new
  exact PpSet.codeAny_compStart_set loop (T.self X.A 0 _ _ _ st4 loop)
theorem pe_lenSl {elt tg iter : Expr} {scope : Scope} {own : List (Str × Nat)} {p pos pos2 : Pos} {wi : TI} {g : TG} {te : TE} (hc : X.calm = true) (hN : X.N.Nodup) (hgl : Gl X "len") (hm : X.mg "len" = none) (hi : PI X tg iter wi) (ok : BlkOk X.N X.env.scope scope own)
    (hg : ∀ (s : Shared) (H : Hp) (C : Addr) (cl : List (Str × Addr)) (fp : List Addr), PG (X.blk s H scope (compEnvC scope cl C X.env) fp) tg g) (he : ∀ (s : Shared) (H : Hp) (C : Addr) (cl : List (Str × Addr)) (fp : List Addr), PE (X.blk s H scope (compEnvC scope cl C X.env) fp) elt te)
    (hs : ∀ x, foldedSetIterable iter X.env x = pure x := by intro _; rfl) : PE X (.Call (.Name "len" p) [.SetComp elt [⟨tg, iter, [], 0⟩] scope pos] [] pos2) (tSl wi g te (own.map (·.2))) := by
  refine ⟨fun pins s σ H Q I h => ?_⟩
  refine Call_ (ld_blt I hgl hm PySem.boot_len (PyProof.Rows.callWith_builtin1 (PyProof.Rows.args_cons ?_ rfl) rfl rfl))
  refine lsc_core hc hN I hi ok hg he hs h fun Dd s' H' n S I' hS q => ?_
  refine PyProof.Rows.args_nil ?_
  obtain ⟨o, es, ep, t, ho, hex, hd, _, _, hb, hf, hn⟩ := hS
  refine PySem.call_len_set ho hex hd hf (by have : es.size < scanBound := hb; unfold scanBound at this; omega) ⟨.int (n : Nat), H', I'.tok _, ⟨_, by rw [hn]⟩, q⟩
end
/-! ### over the combinators -/
def keysD : List D → Option (List Key)
  | [] => some []
  | x :: r => match keyP (.d x), keysD r with
    | some k, some ks => some (k :: ks)
    | _, _ => none
theorem keysD_app : ∀ {xs ys : List D} {ks : List Key}, keysD (xs ++ ys) = some ks → ∃ a b, keysD xs = some a ∧ keysD ys = some b ∧ ks = a ++ b
  | [], ys, ks, e => ⟨[], ks, rfl, e, rfl⟩
  | x :: r, ys, ks, e => by
    have e : (match keyP (.d x), keysD (r ++ ys) with | some k, some ks => some (k :: ks) | _, _ => none) = some ks := e
    split at e
    · rename_i k l e1 e2
      cases e
      obtain ⟨a, b, h1, h2, rfl⟩ := keysD_app e2
      exact ⟨k :: a, b, by show (match keyP (.d x), keysD r with | some k, some ks => some (k :: ks) | _, _ => none) = _; rw [e1, h1], h2, rfl⟩
    · cases e
theorem keysD_snoc : ∀ {xs : List D} {ks : List Key} {x : D} {k : Key}, keysD xs = some ks → keyP (.d x) = some k → keysD (xs ++ [x]) = some (ks ++ [k])
  | [], ks, x, k, e, h => by
    cases e
    show (match keyP (.d x), keysD [] with | some k, some ks => some (k :: ks) | _, _ => none) = _
    rw [h]
    rfl
  | y :: r, ks, x, k, e, h => by
    have e : (match keyP (.d y), keysD r with | some k, some ks => some (k :: ks) | _, _ => none) = some ks := e
    split at e
    · rename_i k' l e1 e2
      cases e
      show (match keyP (.d y), keysD (r ++ [x]) with | some k, some ks => some (k :: ks) | _, _ => none) = _
      rw [e1, keysD_snoc e2 h]
      rfl
    · cases e
theorem keysD_len : ∀ {xs : List D} {ks : List Key}, keysD xs = some ks → ks.length = xs.length
  | [], _, e => by cases e; rfl
  | y :: r, ks, e => by
    have e : (match keyP (.d y), keysD r with | some k, some ks => some (k :: ks) | _, _ => none) = some ks := e
    split at e
    · rename_i k' l e1 e2
      cases e
      rw [List.length_cons, List.length_cons, keysD_len e2]
    · cases e
theorem lcL_noexc {mt : D → Sg → Option Sg} {tt : MT} {te : ME} {vs : List Nat} : ∀ (ds : List D) (S : Sg) (c : Str) (S' : Sg), lcL mt tt te vs ds S ≠ .exc c S'
  | [], S, c, S', e => by cases e
  | d :: ds, S, c, S', e => by
    dsimp only [lcL] at e
    cases e1 : mt d S with
    | none => rw [e1] at e; cases e
    | some S1 =>
      rw [e1] at e
      simp only at e
      cases e2 : tt S1 with
      | bad => rw [e2] at e; cases e
      | exc c' S2 => rw [e2] at e; cases e
      | ok k S2 =>
        rw [e2] at e
        simp only [Res.nox, Res.bind] at e
        cases k with
        | false => simp only [Bool.false_eq_true, if_false] at e; exact lcL_noexc ds _ _ _ e
        | true =>
          simp only [if_true] at e
          cases e3 : te S2 with
          | bad => rw [e3] at e; cases e
          | exc c' S3 => rw [e3] at e; cases e
          | ok p S3 =>
            rw [e3] at e
            simp only at e
            cases p with
            | s j => cases e
            | d x =>
              simp only at e
              cases e4 : lcL mt tt te vs ds (wipeS S3 vs) with
              | bad => rw [e4] at e; cases e
              | exc c' S4 => exact lcL_noexc ds _ _ _ e4
              | ok xs S4 => rw [e4] at e; cases e
def mLenSc (mi : MI) (mt : D → Sg → Option Sg) (te : ME) (vs : List Nat) : ME := fun S => (mi S).bind fun ds S1 => if Nat.ble ds.length 4000 then (lcL mt mYes te vs ds (wipeS S1 vs)).bind fun xs S2 => match keysD xs with
    | some ks => .ok (.d (.int (cnt [] 0 ks : Nat))) (backS S1 S2 vs)
    | none => .bad
  else .bad
section
variable {X : Cx} {W : WX}
theorem lsl_of {mi : MI} {mt : D → Sg → Option Sg} {te : ME} {vs ts : List Nat} (hts : ∀ i ∈ ts, i ∈ vs) {g : Gh} {σ : St} {H : Hp} {Q : VK} (h : tE X W g (mLenSc mi mt te vs) σ H Q) :
    tSl (tI X W g mi) (fun v σ H R => ∃ g', tG X noW g' ts mt v σ H R) (fun σ H R => ∃ g', tE X noW g' te σ H R) vs σ H Q := by
  obtain ⟨S, G, r, h⟩ := h
  refine ⟨S, G, r, ?_⟩
  unfold mLenSc at h
  cases e1 : mi S with
  | bad => rw [e1] at h; exact h.elim
  | exc c S1 => rw [e1] at h; exact h
  | ok ds S1 =>
    rw [e1] at h
    simp only [Res.bind] at h
    intro G1 H1 J s1 r1 ok
    split at h
    case isFalse => exact h.elim
    case isTrue hz =>
    have hsz : ds.length ≤ 4000 := Nat.le_of_ble_eq_true hz
    refine ⟨fun i m ks H => i + m = ds.length ∧ ∃ S G xa, Sub G1 G ∧ Rep X.K X.mg g G (L2.wipe σ vs) H S ∧ keysD xa = some ks ∧ xa.length ≤ i ∧ lcL mt mYes te vs ds (wipeS S1 vs) = (lcL mt mYes te vs (ds.drop i) S).bind (fun xs S2 => .ok (xa ++ xs) S2),
      ⟨ds.length, by omega, wipeS S1 vs, G1, [], Sub.refl _, r1.wipe vs, rfl, Nat.zero_le _, ?_⟩, ?_⟩
    · rw [List.drop_zero]
      cases lcL mt mYes te vs ds (wipeS S1 vs) <;> rfl
    rintro i m ks H ⟨em, S, G, xa, s, r, ek, hla, heq⟩
    by_cases hl : i < ds.length
    · refine .inr ⟨ok.1 i H (s.trans r.sub) hl, fun ks' H' => ∃ S G xa, Sub G1 G ∧ Rep X.K X.mg g G (L2.wipe σ vs) H' S ∧ keysD xa = some ks' ∧ xa.length ≤ i + 1 ∧ lcL mt mYes te vs ds (wipeS S1 vs) = (lcL mt mYes te vs (ds.drop (i + 1)) S).bind (fun xs S2 => .ok (xa ++ xs) S2), ?_, fun x H' y => ?_⟩
      · rintro ks' H' ⟨S, G, xa, q1, q2, q3, q4, q5⟩
        exact ⟨m - 1, by omega, by omega, S, G, xa, q1, q2, q3, q4, q5⟩
      · obtain ⟨G2, s2, r2, rv⟩ := ok.go_rep (i := i) (d := ds[i]) s r (List.getElem?_eq_getElem hl) y
        rw [drop_cons hl] at heq
        dsimp only [lcL] at heq
        refine ⟨g, S, G2, ds[i], r2, rv, ?_⟩
        cases e2 : mt ds[i] S with
        | none => rw [e2] at heq; rw [heq] at h; exact h.elim
        | some S2 =>
          rw [e2] at heq
          simp only [mYes, Res.nox, Res.bind, if_true] at heq
          intro G3 σ3 H3 s3 r3 off
          have off' : Off vs (L2.wipe σ vs) σ3 := off.mono hts
          have ew : L2.wipe σ3 vs = L2.wipe σ vs := by
            rw [off'.wipe]
            exact (Off.of_wipe (σ := σ) (vs := vs)).wipe
          refine ⟨ew, g, S2, G3, r3, ?_⟩
          cases e4 : te S2 with
          | bad => rw [e4] at heq; rw [heq] at h; exact h.elim
          | exc c S5 => rw [e4] at heq; rw [heq] at h; exact h.elim
          | ok p S5 =>
            rw [e4] at heq
            simp only at heq
            cases p with
            | s j => rw [heq] at h; exact h.elim
            | d xd =>
              simp only at heq
              intro G5 H5 yv s5 r5 rp
              have heq' : lcL mt mYes te vs ds (wipeS S1 vs) = (lcL mt mYes te vs (ds.drop (i + 1)) (wipeS S5 vs)).bind (fun xs S2 => .ok ((xa ++ [xd]) ++ xs) S2) := by
                rw [heq]
                cases lcL mt mYes te vs (ds.drop (i + 1)) (wipeS S5 vs) with
                | bad => rfl
                | exc c S => rfl
                | ok xs S => show Res.ok (xa ++ (xd :: xs)) S = Res.ok ((xa ++ [xd]) ++ xs) S; rw [List.append_assoc]; rfl
              cases ekd : keyP (.d xd) with
              | none =>
                exfalso
                rw [heq'] at h
                cases el : lcL mt mYes te vs (ds.drop (i + 1)) (wipeS S5 vs) with
                | bad => rw [el] at h; exact h
                | exc c S => exact lcL_noexc _ _ _ _ el
                | ok xs S =>
                  rw [el] at h
                  simp only [Res.bind] at h
                  cases ek2 : keysD ((xa ++ [xd]) ++ xs) with
                  | none => rw [ek2] at h; exact h
                  | some ks2 =>
                    obtain ⟨a, b, h1, _, _⟩ := keysD_app ek2
                    obtain ⟨a', b', _, h2, _⟩ := keysD_app h1
                    have h2 : (match keyP (.d xd), keysD [] with | some k, some ks => some (k :: ks) | _, _ => none) = some b' := h2
                    rw [ekd] at h2
                    cases h2
              | some c =>
                refine ⟨c, keyP_ok (σ := σ3) (p := .d xd) rp ekd, ?_, wipeS S5 vs, G5, xa ++ [xd], ((s.trans s2).trans s3).trans s5, ?_, keysD_snoc ek ekd, by rw [List.length_append, List.length_singleton]; omega, heq'⟩
                · have := keysD_len ek
                  have e0 : scanBound = scanBound := rfl
                  unfold scanBound
                  omega
                · have r8 := r5.wipe vs
                  rw [ew] at r8
                  exact r8
    · have ei : i = ds.length := by omega
      refine .inl ⟨ok.2.1 i H (s.trans r.sub) ei, ?_⟩
      rw [List.drop_eq_nil_of_le (by omega)] at heq
      simp only [lcL, Res.bind, List.append_nil] at heq
      rw [heq] at h
      simp only [Res.bind, ek] at h
      exact h G H _ (s1.trans s) (r1.back s r) (.int _)
/-- len({x for t in it}) -/
theorem je_lenSc {elt tg iter : Expr} {scope : Scope} {own : List (Str × Nat)} {p pos pos2 : Pos} {mi : MI} {ts : List Nat} {mt : D → Sg → Option Sg} {te : ME} (hc : X.calm = true) (hN : X.N.Nodup) (hgl : Gl X "len") (hm : X.mg "len" = none) (hi : JI X W tg iter mi) (ok : BlkOk X.N X.env.scope scope own)
    (hg : ∀ (s : Shared) (H : Hp) (C : Addr) (cl : List (Str × Addr)) (fp : List Addr), JG (X.blk s H scope (compEnvC scope cl C X.env) fp) noW tg ts mt) (he : ∀ (s : Shared) (H : Hp) (C : Addr) (cl : List (Str × Addr)) (fp : List Addr), JE (X.blk s H scope (compEnvC scope cl C X.env) fp) noW elt te)
    (hts : ∀ i ∈ ts, i ∈ own.map (·.2) := by decide) (hs : ∀ x, foldedSetIterable iter X.env x = pure x := by intro _; rfl) :
    JE X W (.Call (.Name "len" p) [.SetComp elt [⟨tg, iter, [], 0⟩] scope pos] [] pos2) (mLenSc mi mt te (own.map (·.2))) := fun g => by
  have h1 := pe_lenSl (p := p) (pos := pos) (pos2 := pos2) (g := fun v σ H R => ∃ g', tG X noW g' ts mt v σ H R) (te := fun σ H R => ∃ g', tE X noW g' te σ H R) hc hN hgl hm (hi g) ok
    (fun s H C cl fp => ⟨fun pins s σ H v u Q I r ⟨g', q⟩ => (hg _ _ _ _ _ g').run pins s σ H v u Q I r q⟩) (fun s H C cl fp => ⟨fun pins s σ H Q I ⟨g', q⟩ => (he _ _ _ _ _ g').run pins s σ H Q I q⟩) hs
  exact pe_imp h1 fun σ H Q h => lsl_of hts h
end
end Mw

set_option Elab.async false
set_option linter.all false
set_option maxRecDepth 100000
/-! Mw, part O: x in y, x not in y. -/
namespace Mw
open PySem PySem.Spec PyProof.Rows L2
/-- None, truth values, ints, texts -/
def flatD : D → Option V
  | .non => some .non
  | .bl b => some (.bl b)
  | .int i => some (.int i)
  | .str x => some (.str x)
  | _ => none
def flatDs : List D → Option (List V)
  | [] => some []
  | x :: r => match flatD x, flatDs r with
    | some v, some vs => some (v :: vs)
    | _, _ => none
section
variable {K : PySem.W.Frag} {mg : Str → Option Value} {G : Hp}
theorem flatD_ok {x : D} {v w : V} (r : RV K mg G x v) (e : flatD x = some w) : v = w ∧ flatV w = true := by
  cases r with
  | non => cases e; exact ⟨rfl, rfl⟩
  | bl b => cases e; exact ⟨rfl, rfl⟩
  | int i => cases e; exact ⟨rfl, rfl⟩
  | str x => cases e; exact ⟨rfl, rfl⟩
  | _ => cases e
theorem flatDs_ok : ∀ {xs : List D} {vs ws : List V}, RVs K mg G xs vs → flatDs xs = some ws → vs = ws ∧ ws.all flatV = true
  | _, _, _, .nil, e => by cases e; exact ⟨rfl, rfl⟩
  | _, _, _, .cons h t, e => by
    unfold flatDs at e
    split at e
    · rename_i v vs e1 e2
      cases e
      obtain ⟨rfl, a⟩ := flatD_ok h e1
      obtain ⟨rfl, b⟩ := flatDs_ok t e2
      exact ⟨rfl, by rw [List.all_cons, a, b]; rfl⟩
    · cases e
end
def inB (S : Sg) (p q : P) : Option Bool := match p, q with
  | .d (.str x), .d (.str z) => some (!(Builtin.Str.occurrences z x 0 z.length 1).isEmpty)
  | .d x, .d (.tup ys) => match flatD x, flatDs ys with
    | some v, some vs => some (inV v vs)
    | _, _ => none
  | p, q => match datOf S p, lstOf S q with
    | some x, some ys => if SeqAt.shaped x.py && SeqAt.shaped (.list (pys ys)) then some ((pys ys).any fun z => PyData.eqv z x.py) else none
    | _, _ => none
def cInP (neg : Bool) (S : Sg) (p q : P) : Option D := (inB S p q).map fun b => .bl (neg ^^ b)
section
variable {X : Cx}
theorem in_split {S : Sg} {p q : P} {b : Bool} (e : inB S p q = some b) : (∃ x z, p = .d (.str x) ∧ q = .d (.str z) ∧ b = !(Builtin.Str.occurrences z x 0 z.length 1).isEmpty) ∨ (∃ x ys v vs, p = .d x ∧ q = .d (.tup ys) ∧ flatD x = some v ∧ flatDs ys = some vs ∧ b = inV v vs) ∨
    ∃ x ys, datOf S p = some x ∧ lstOf S q = some ys ∧ SeqAt.shaped x.py = true ∧ SeqAt.shaped (.list (pys ys)) = true ∧ b = (pys ys).any fun z => PyData.eqv z x.py := by
  unfold inB at e
  split at e
  · cases e; exact .inl ⟨_, _, rfl, rfl, rfl⟩
  · split at e
    · rename_i v vs e1 e2
      cases e
      exact .inr (.inl ⟨_, _, v, vs, rfl, rfl, e1, e2, rfl⟩)
    · cases e
  · split at e
    · rename_i x ys e1 e2
      split at e
      · rename_i hz
        rw [Bool.and_eq_true] at hz
        cases e
        exact .inr (.inr ⟨x, ys, e1, e2, hz.1, hz.2, rfl⟩)
      · cases e
    · cases e
theorem o_in (hv : X.A.units + 65 < cLine) : OpR X (compareOp .In) (rO X (cInP false)) := by
  refine opD_of fun g G H σ S p q d x y r rp rq e Q k => ?_
  unfold cInP at e
  obtain ⟨b, eb, rfl⟩ := Option.map_eq_some_iff.mp e
  rw [Bool.false_xor] at k
  have kk := fun w (hw : w = V.bl b) => (by rw [hw]; exact k G H _ (Sub.refl _) r (.bl b) : Q w H)
  rcases in_split eb with ⟨x0, z, rfl, rfl, rfl⟩ | ⟨x0, ys, v, vs, rfl, rfl, e1, e2, rfl⟩ | ⟨x0, ys, e1, e2, s1, s2, rfl⟩
  · cases rp; cases rq
    exact ⟨_, op_in_str, _, _, rfl, rfl, kk _ rfl⟩
  · cases rq with
    | tup hq rr =>
      obtain ⟨rfl, f1⟩ := flatD_ok rp e1
      obtain ⟨rfl, f2⟩ := flatDs_ok rr e2
      exact ⟨_, op_in_seq, _, _, rfl, .inr (r.sub.sqT hq), f1, f2, kk _ rfl⟩
  · obtain ⟨a, rfl, hd⟩ := lst_dp r rq e2 (SeqAt.canLay_of_shaped s2)
    exact ⟨_, op_inD hv, _, _, datOf_dp r rp e1 (SeqAt.canLay_of_shaped s1), hd, s1, s2, kk _ rfl⟩
theorem o_notin (hv : X.A.units + 65 < cLine) : OpR X (compareOp .NotIn) (rO X (cInP true)) := by
  refine opD_of fun g G H σ S p q d x y r rp rq e Q k => ?_
  unfold cInP at e
  obtain ⟨b, eb, rfl⟩ := Option.map_eq_some_iff.mp e
  rw [Bool.true_xor] at k
  have kk := fun w (hw : w = V.bl (!b)) => (by rw [hw]; exact k G H _ (Sub.refl _) r (.bl _) : Q w H)
  rcases in_split eb with ⟨x0, z, rfl, rfl, rfl⟩ | ⟨x0, ys, v, vs, rfl, rfl, e1, e2, rfl⟩ | ⟨x0, ys, e1, e2, s1, s2, rfl⟩
  · cases rp; cases rq
    exact ⟨_, op_notIn_str, _, _, rfl, rfl, kk _ rfl⟩
  · cases rq with
    | tup hq rr =>
      obtain ⟨rfl, f1⟩ := flatD_ok rp e1
      obtain ⟨rfl, f2⟩ := flatDs_ok rr e2
      exact ⟨_, op_notIn_seq, _, _, rfl, .inr (r.sub.sqT hq), f1, f2, kk _ rfl⟩
  · obtain ⟨a, rfl, hd⟩ := lst_dp r rq e2 (SeqAt.canLay_of_shaped s2)
    exact ⟨_, op_notInD hv, _, _, datOf_dp r rp e1 (SeqAt.canLay_of_shaped s1), hd, s1, s2, kk _ rfl⟩
end
end Mw

set_option Elab.async false
set_option linter.all false
set_option maxRecDepth 100000
set_option maxHeartbeats 1000000
/-! Mw, part P1: zip while its last tuple is still held; list(zip(..)). -/
namespace Mw
open PySem
open PySem.Sem (wp)
open PySem.W
section
variable {prog : Program} {w : World} {A : Around} {E : Value → Shared → Prop} {s : Shared} {z TI TO T i1 i2 i3 : Addr} {f : Bool} {oT : Obj} {fp1 fp2 fp3 : List Addr} {n1 n2 n3 i : Nat} {P1 P2 P3 : Nat → Value → Prop} {St1 St2 St3 : Nat → Heap → Prop}

theorem held2_item {Q : Value → Shared → Prop} (Z : ZipSep2 z TI TO i1 i2 fp1 fp2) (D1 : Draws prog w A i1 fp1 n1 P1 St1) (D2 : Draws prog w A i2 fp2 n2 P2 St2)
    (hz : IsZipHeld s.heap z TI TO T f) (hT : s.heap.get? T = some oT) (hI : IsTupOf2 s.heap TI (.ref i1) (.ref i2)) (t1 : St1 i s.heap) (t2 : St2 i s.heap) (l1 : i < n1) (l2 : i < n2)
    (hQ : ∀ x y hp tk, P1 i x → P2 i y → IsZipHeld hp z TI TO T true → St1 (i + 1) hp → St2 (i + 1) hp → IsTupOf2 hp s.heap.objs.size x y → hp.objs.size = s.heap.objs.size + 1 →
      (∀ b o, b ≠ z → b ≠ i1 → b ≠ i2 → s.heap.get? b = some o → hp.get? b = some o) → Q (.ref s.heap.objs.size) { s with heap := hp, toks := tk }) :
    wpAny (model prog w) A (Builtin.«zip.__next__» ⟨[.ref z], []⟩) (fun r u => ∃ v, r = .done (.ret v) ∧ Q v u) E s := by
  obtain ⟨h0, g, d, tk0, os⟩ := s
  show wpAny _ _ (field (.ref z) 2 >>= _) _ _ _
  refine wpAny_bind (wpAny_field hz rfl (x := .bool false) rfl ?_)
  show wpAny _ _ (field (.ref z) 3 >>= _) _ _ _
  refine wpAny_bind (wpAny_field hz rfl (x := .ref TI) rfl (wpAny_bind (wpAny_seqItems hI rfl ?_)))
  refine wpAny_bind (wpAny_tupleHeld_zip hz hT fun h1 hz1 sb1 => ?_)
  replace sb1 : Heap.SameBut z h0 h1 := sb1
  simp only [Bool.false_eq_true, if_false]
  refine wpAny_bind ?_
  rw [← Array.forIn_toList]
  simp only [List.forIn_cons, List.forIn_nil]
  refine wpAny_bind (wpAny_bind (wpAny_holding ?_))
  show wpAny _ _ (Builtin.SmallTypes.nextOf (.ref i1) >>= _) _ _ ⟨h1, g, d, tk0, os⟩
  refine wpAny_bind (D1.item i _ _ _ l1 (D1.over t1 sb1 Z.zf1) fun x h2 tk1 p1 u1 sb2 => wpAny_pure (wpAny_pure ?_))
  replace sb2 : Heap.SameBut i1 h1 h2 := sb2
  refine wpAny_bind (wpAny_bind (wpAny_holding ?_))
  show wpAny _ _ (Builtin.SmallTypes.nextOf (.ref i2) >>= _) _ _ ⟨h2, g, d, tk1, os⟩
  refine wpAny_bind (D2.item i _ _ _ l2 (D2.over (D2.over t2 sb1 Z.zf2) sb2 Z.sep1_2) fun y h3 tk2 p2 u2 sb3 => wpAny_pure (wpAny_pure (wpAny_pure ?_)))
  replace sb3 : Heap.SameBut i2 h2 h3 := sb3
  show wpAny _ _ (newTuple [x, y] >>= _) _ _ ⟨h3, g, d, tk2, os⟩
  refine wpAny_bind (wpAny_newTuple (wpAny_pure ⟨_, rfl, ?_⟩))
  have sz : h3.objs.size = h0.objs.size := by rw [sb3.1, sb2.1, sb1.1]
  have old : ∀ b o, b ≠ z → b ≠ i1 → b ≠ i2 → h0.get? b = some o → h3.get? b = some o := fun b o n0 n1 n2 q => sb3.extBut _ _ n2 (sb2.extBut _ _ n1 (sb1.extBut _ _ n0 q))
  have hz3 : IsZipHeld h3 z TI TO T true := sb3.extBut _ _ Z.zi2 (sb2.extBut _ _ Z.zi1 hz1)
  have up : ∀ b o, h3.get? b = some o → (h3.push { cls := .type "tuple", data := .seq #[x, y] }).get? b = some o := fun b o q => Heap.get?_push_of_some _ q
  have e1 : IsTupOf2 (h3.push { cls := .type "tuple", data := .seq #[x, y] }) h3.objs.size x y := Heap.get?_push_size _ rfl
  have e2 : (h3.push { cls := .type "tuple", data := .seq #[x, y] }).objs.size = h3.objs.size + 1 := Heap.size_push ..
  show Q (.ref h3.objs.size) ⟨h3.push { cls := .type "tuple", data := .seq #[x, y] }, g, d, tk2, os⟩
  rw [sz] at e1 e2 ⊢
  exact hQ x y _ tk2 p1 p2 (up _ _ hz3) (D1.frame _ _ _ (D1.over u1 sb3 Z.sep2_1) fun b _ o q => up b o q) (D2.frame _ _ _ u2 fun b _ o q => up b o q) e1 e2 fun b o n0 n1 n2 q => up b o (old b o n0 n1 n2 q)

theorem held2_end {Q : Fin → Shared → Prop} (Z : ZipSep2 z TI TO i1 i2 fp1 fp2) (D1 : Draws prog w A i1 fp1 n1 P1 St1) (D2 : Draws prog w A i2 fp2 n2 P2 St2)
    (hz : IsZipHeld s.heap z TI TO T f) (hT : s.heap.get? T = some oT) (hI : IsTupOf2 s.heap TI (.ref i1) (.ref i2)) (t1 : St1 i s.heap) (t2 : St2 i s.heap) (l1 : i ≤ n1) (l2 : i ≤ n2) (e : i = n1 ∨ i = n2)
    (hE : ∀ hp tk x, (∀ b o, b ≠ z → b ≠ i1 → b ≠ i2 → s.heap.get? b = some o → hp.get? b = some o) → (∃ o, hp.get? x = some o ∧ o.cls = .type "StopIteration") → E (.ref x) { s with heap := hp, toks := tk }) :
    wpAny (model prog w) A (Builtin.«zip.__next__» ⟨[.ref z], []⟩) Q E s := by
  obtain ⟨h0, g, d, tk0, os⟩ := s
  show wpAny _ _ (field (.ref z) 2 >>= _) _ _ _
  refine wpAny_bind (wpAny_field hz rfl (x := .bool false) rfl ?_)
  show wpAny _ _ (field (.ref z) 3 >>= _) _ _ _
  refine wpAny_bind (wpAny_field hz rfl (x := .ref TI) rfl (wpAny_bind (wpAny_seqItems hI rfl ?_)))
  refine wpAny_bind (wpAny_tupleHeld_zip hz hT fun h1 hz1 sb1 => ?_)
  replace sb1 : Heap.SameBut z h0 h1 := sb1
  simp only [Bool.false_eq_true, if_false]
  refine wpAny_bind ?_
  rw [← Array.forIn_toList]
  simp only [List.forIn_cons, List.forIn_nil]
  refine wpAny_bind (wpAny_bind (wpAny_holding ?_))
  show wpAny _ _ (Builtin.SmallTypes.nextOf (.ref i1) >>= _) _ _ ⟨h1, g, d, tk0, os⟩
  by_cases q1 : i = n1
  · refine wpAny_bind (D1.done ⟨h1, g, d, tk0, os⟩ _ _ (by rw [← q1]; exact D1.over t1 sb1 Z.zf1) fun h2 x sb2 hx => ?_)
    exact hE h2 tk0 x (fun b o n0 m1 _ q => sb2 _ _ m1 (sb1.extBut _ _ n0 q)) hx
  · have q2 : i = n2 := by rcases e with e | e; exact absurd e q1; exact e
    refine wpAny_bind (D1.item i _ _ _ (by omega) (D1.over t1 sb1 Z.zf1) fun x h2 tk1 p1 u1 sb2 => wpAny_pure (wpAny_pure ?_))
    replace sb2 : Heap.SameBut i1 h1 h2 := sb2
    refine wpAny_bind (wpAny_bind (wpAny_holding ?_))
    show wpAny _ _ (Builtin.SmallTypes.nextOf (.ref i2) >>= _) _ _ ⟨h2, g, d, tk1, os⟩
    refine wpAny_bind (D2.done ⟨h2, g, d, tk1, os⟩ _ _ (by rw [← q2]; exact D2.over (D2.over t2 sb1 Z.zf2) sb2 Z.sep1_2) fun h3 x sb3 hx => ?_)
    exact hE h3 tk1 x (fun b o n0 m1 m2 q => sb3 _ _ m2 (sb2.extBut _ _ m1 (sb1.extBut _ _ n0 q))) hx

theorem held3_item {Q : Value → Shared → Prop} (Z : ZipSep3 z TI TO i1 i2 i3 fp1 fp2 fp3) (D1 : Draws prog w A i1 fp1 n1 P1 St1) (D2 : Draws prog w A i2 fp2 n2 P2 St2) (D3 : Draws prog w A i3 fp3 n3 P3 St3)
    (hz : IsZipHeld s.heap z TI TO T f) (hT : s.heap.get? T = some oT) (hI : IsTupOf3 s.heap TI (.ref i1) (.ref i2) (.ref i3)) (t1 : St1 i s.heap) (t2 : St2 i s.heap) (t3 : St3 i s.heap) (l1 : i < n1) (l2 : i < n2) (l3 : i < n3)
    (hQ : ∀ x y v hp tk, P1 i x → P2 i y → P3 i v → IsZipHeld hp z TI TO T true → St1 (i + 1) hp → St2 (i + 1) hp → St3 (i + 1) hp → IsTupOf3 hp s.heap.objs.size x y v → hp.objs.size = s.heap.objs.size + 1 →
      (∀ b o, b ≠ z → b ≠ i1 → b ≠ i2 → b ≠ i3 → s.heap.get? b = some o → hp.get? b = some o) → Q (.ref s.heap.objs.size) { s with heap := hp, toks := tk }) :
    wpAny (model prog w) A (Builtin.«zip.__next__» ⟨[.ref z], []⟩) (fun r u => ∃ v, r = .done (.ret v) ∧ Q v u) E s := by
  obtain ⟨h0, g, d, tk0, os⟩ := s
  show wpAny _ _ (field (.ref z) 2 >>= _) _ _ _
  refine wpAny_bind (wpAny_field hz rfl (x := .bool false) rfl ?_)
  show wpAny _ _ (field (.ref z) 3 >>= _) _ _ _
  refine wpAny_bind (wpAny_field hz rfl (x := .ref TI) rfl (wpAny_bind (wpAny_seqItems hI rfl ?_)))
  refine wpAny_bind (wpAny_tupleHeld_zip hz hT fun h1 hz1 sb1 => ?_)
  replace sb1 : Heap.SameBut z h0 h1 := sb1
  simp only [Bool.false_eq_true, if_false]
  refine wpAny_bind ?_
  rw [← Array.forIn_toList]
  simp only [List.forIn_cons, List.forIn_nil]
  refine wpAny_bind (wpAny_bind (wpAny_holding ?_))
  show wpAny _ _ (Builtin.SmallTypes.nextOf (.ref i1) >>= _) _ _ ⟨h1, g, d, tk0, os⟩
  refine wpAny_bind (D1.item i _ _ _ l1 (D1.over t1 sb1 Z.zf1) fun x h2 tk1 p1 u1 sb2 => wpAny_pure (wpAny_pure ?_))
  replace sb2 : Heap.SameBut i1 h1 h2 := sb2
  refine wpAny_bind (wpAny_bind (wpAny_holding ?_))
  show wpAny _ _ (Builtin.SmallTypes.nextOf (.ref i2) >>= _) _ _ ⟨h2, g, d, tk1, os⟩
  refine wpAny_bind (D2.item i _ _ _ l2 (D2.over (D2.over t2 sb1 Z.zf2) sb2 Z.sep1_2) fun y h3 tk2 p2 u2 sb3 => wpAny_pure (wpAny_pure ?_))
  replace sb3 : Heap.SameBut i2 h2 h3 := sb3
  refine wpAny_bind (wpAny_bind (wpAny_holding ?_))
  show wpAny _ _ (Builtin.SmallTypes.nextOf (.ref i3) >>= _) _ _ ⟨h3, g, d, tk2, os⟩
  refine wpAny_bind (D3.item i _ _ _ l3 (D3.over (D3.over (D3.over t3 sb1 Z.zf3) sb2 Z.sep1_3) sb3 Z.sep2_3) fun v h4 tk3 p3 u3 sb4 => wpAny_pure (wpAny_pure (wpAny_pure ?_)))
  replace sb4 : Heap.SameBut i3 h3 h4 := sb4
  show wpAny _ _ (newTuple [x, y, v] >>= _) _ _ ⟨h4, g, d, tk3, os⟩
  refine wpAny_bind (wpAny_newTuple (wpAny_pure ⟨_, rfl, ?_⟩))
  have sz : h4.objs.size = h0.objs.size := by rw [sb4.1, sb3.1, sb2.1, sb1.1]
  have old : ∀ b o, b ≠ z → b ≠ i1 → b ≠ i2 → b ≠ i3 → h0.get? b = some o → h4.get? b = some o := fun b o n0 n1 n2 n3 q => sb4.extBut _ _ n3 (sb3.extBut _ _ n2 (sb2.extBut _ _ n1 (sb1.extBut _ _ n0 q)))
  have hz4 : IsZipHeld h4 z TI TO T true := sb4.extBut _ _ Z.zi3 (sb3.extBut _ _ Z.zi2 (sb2.extBut _ _ Z.zi1 hz1))
  have up : ∀ b o, h4.get? b = some o → (h4.push { cls := .type "tuple", data := .seq #[x, y, v] }).get? b = some o := fun b o q => Heap.get?_push_of_some _ q
  have e1 : IsTupOf3 (h4.push { cls := .type "tuple", data := .seq #[x, y, v] }) h4.objs.size x y v := Heap.get?_push_size _ rfl
  have e2 : (h4.push { cls := .type "tuple", data := .seq #[x, y, v] }).objs.size = h4.objs.size + 1 := Heap.size_push ..
  show Q (.ref h4.objs.size) ⟨h4.push { cls := .type "tuple", data := .seq #[x, y, v] }, g, d, tk3, os⟩
  rw [sz] at e1 e2 ⊢
  exact hQ x y v _ tk3 p1 p2 p3 (up _ _ hz4) (D1.frame _ _ _ (D1.over (D1.over u1 sb3 Z.sep2_1) sb4 Z.sep3_1) fun b _ o q => up b o q) (D2.frame _ _ _ (D2.over u2 sb4 Z.sep3_2) fun b _ o q => up b o q) (D3.frame _ _ _ u3 fun b _ o q => up b o q) e1 e2
    fun b o n0 n1 n2 n3 q => up b o (old b o n0 n1 n2 n3 q)

theorem held3_end {Q : Fin → Shared → Prop} (Z : ZipSep3 z TI TO i1 i2 i3 fp1 fp2 fp3) (D1 : Draws prog w A i1 fp1 n1 P1 St1) (D2 : Draws prog w A i2 fp2 n2 P2 St2) (D3 : Draws prog w A i3 fp3 n3 P3 St3)
    (hz : IsZipHeld s.heap z TI TO T f) (hT : s.heap.get? T = some oT) (hI : IsTupOf3 s.heap TI (.ref i1) (.ref i2) (.ref i3)) (t1 : St1 i s.heap) (t2 : St2 i s.heap) (t3 : St3 i s.heap) (l1 : i ≤ n1) (l2 : i ≤ n2) (l3 : i ≤ n3) (e : i = n1 ∨ i = n2 ∨ i = n3)
    (hE : ∀ hp tk x, (∀ b o, b ≠ z → b ≠ i1 → b ≠ i2 → b ≠ i3 → s.heap.get? b = some o → hp.get? b = some o) → (∃ o, hp.get? x = some o ∧ o.cls = .type "StopIteration") → E (.ref x) { s with heap := hp, toks := tk }) :
    wpAny (model prog w) A (Builtin.«zip.__next__» ⟨[.ref z], []⟩) Q E s := by
  obtain ⟨h0, g, d, tk0, os⟩ := s
  show wpAny _ _ (field (.ref z) 2 >>= _) _ _ _
  refine wpAny_bind (wpAny_field hz rfl (x := .bool false) rfl ?_)
  show wpAny _ _ (field (.ref z) 3 >>= _) _ _ _
  refine wpAny_bind (wpAny_field hz rfl (x := .ref TI) rfl (wpAny_bind (wpAny_seqItems hI rfl ?_)))
  refine wpAny_bind (wpAny_tupleHeld_zip hz hT fun h1 hz1 sb1 => ?_)
  replace sb1 : Heap.SameBut z h0 h1 := sb1
  simp only [Bool.false_eq_true, if_false]
  refine wpAny_bind ?_
  rw [← Array.forIn_toList]
  simp only [List.forIn_cons, List.forIn_nil]
  refine wpAny_bind (wpAny_bind (wpAny_holding ?_))
  show wpAny _ _ (Builtin.SmallTypes.nextOf (.ref i1) >>= _) _ _ ⟨h1, g, d, tk0, os⟩
  by_cases q1 : i = n1
  · refine wpAny_bind (D1.done ⟨h1, g, d, tk0, os⟩ _ _ (by rw [← q1]; exact D1.over t1 sb1 Z.zf1) fun h2 x sb2 hx => ?_)
    exact hE h2 tk0 x (fun b o n0 m1 _ _ q => sb2 _ _ m1 (sb1.extBut _ _ n0 q)) hx
  · refine wpAny_bind (D1.item i _ _ _ (by omega) (D1.over t1 sb1 Z.zf1) fun x h2 tk1 p1 u1 sb2 => wpAny_pure (wpAny_pure ?_))
    replace sb2 : Heap.SameBut i1 h1 h2 := sb2
    refine wpAny_bind (wpAny_bind (wpAny_holding ?_))
    show wpAny _ _ (Builtin.SmallTypes.nextOf (.ref i2) >>= _) _ _ ⟨h2, g, d, tk1, os⟩
    by_cases q2 : i = n2
    · refine wpAny_bind (D2.done ⟨h2, g, d, tk1, os⟩ _ _ (by rw [← q2]; exact D2.over (D2.over t2 sb1 Z.zf2) sb2 Z.sep1_2) fun h3 x sb3 hx => ?_)
      exact hE h3 tk1 x (fun b o n0 m1 m2 _ q => sb3 _ _ m2 (sb2.extBut _ _ m1 (sb1.extBut _ _ n0 q))) hx
    · have q3 : i = n3 := by omega
      refine wpAny_bind (D2.item i _ _ _ (by omega) (D2.over (D2.over t2 sb1 Z.zf2) sb2 Z.sep1_2) fun y h3 tk2 p2 u2 sb3 => wpAny_pure (wpAny_pure ?_))
      replace sb3 : Heap.SameBut i2 h2 h3 := sb3
      refine wpAny_bind (wpAny_bind (wpAny_holding ?_))
      show wpAny _ _ (Builtin.SmallTypes.nextOf (.ref i3) >>= _) _ _ ⟨h3, g, d, tk2, os⟩
      refine wpAny_bind (D3.done ⟨h3, g, d, tk2, os⟩ _ _ (by rw [← q3]; exact D3.over (D3.over (D3.over t3 sb1 Z.zf3) sb2 Z.sep1_3) sb3 Z.sep2_3) fun h4 x sb4 hx => ?_)
      exact hE h4 tk2 x (fun b o n0 m1 m2 m3 q => sb4 _ _ m3 (sb3.extBut _ _ m2 (sb2.extBut _ _ m1 (sb1.extBut _ _ n0 q)))) hx
end
section
variable {prog : Program} {w : World} {A : Around} {E : Value → Shared → Prop} {s : Shared}
/-- next at a zip -/
theorem znext {z : Addr} {Q : Option Value → Shared → Prop} (hT : s.TypeIs (.ref z) "zip")
    (h : wpAny (model prog w) A.in1 (Builtin.«zip.__next__» ⟨[.ref z], []⟩) (fun r u => ∃ v, r = .done (.ret v) ∧ Q (some v) u) (fun x u => (∃ o e, x = .ref e ∧ u.heap.get? e = some o ∧ o.cls = .type "StopIteration") ∧ Q none u) s) :
    wpAny (model prog w) A (pyNext (.ref z)) Q E s := by
  unfold pyNext
  refine wpAny_bind (wpAny_attempt (wpAny_callSpecial?_slot (name := Str.ofString "__next__") hT F.slot_zip_next (wpAny_call_entry F.slot_zip_next hT F.entry_zip_next (wpAny_mono h (fun r u q => ?_) fun x u q => ?_) (F.args_zip_next_1 _))))
  · obtain ⟨v, rfl, q⟩ := q
    exact ⟨v, rfl, wpAny_pure q⟩
  · obtain ⟨⟨o, e, rfl, ho, hc⟩, q⟩ := q
    exact wpAny_bind (wpAny_isInstance (T := "StopIteration") (b := true) ⟨o, ho, hc⟩ isSubtype_stop (wpAny_pure q))
end

/-- what list() needs of a zip at z, whose list is built at S -/
structure Zp (prog : Program) (w : World) (z : Addr) (ch : List Addr) (S : Addr) (n : Nat) (R : Nat → List Value → Prop) (St : Nat → Heap → Prop) : Prop where
  mem : z ∈ ch
  frame : ∀ i h h', St i h → (∀ b o, b ≠ S → h.get? b = some o → h'.get? b = some o) → St i h'
  item : ∀ (A : Around) (i : Nat) (s : Shared) (Q : Option Value → Shared → Prop) (E : Value → Shared → Prop), A.handled = none → i < n → S < s.heap.objs.size → St i s.heap →
    (∀ vs hp tk, R i vs → St (i + 1) hp → hp.get? s.heap.objs.size = some { cls := .type "tuple", data := .seq vs.toArray } → hp.objs.size = s.heap.objs.size + 1 → (∀ b o, b ∉ ch → s.heap.get? b = some o → hp.get? b = some o) → Q (some (.ref s.heap.objs.size)) { s with heap := hp, toks := tk }) →
    wpAny (model prog w) A (pyNext (.ref z)) Q E s
  done : ∀ (A : Around) (s : Shared) (Q : Option Value → Shared → Prop) (E : Value → Shared → Prop), A.handled = none → St n s.heap →
    (∀ hp tk, (∀ b o, b ∉ ch → s.heap.get? b = some o → hp.get? b = some o) → Q none { s with heap := hp, toks := tk }) → wpAny (model prog w) A (pyNext (.ref z)) Q E s

section
variable {prog : Program} {w : World} {z TI TO i1 i2 i3 S : Addr} {fp1 fp2 fp3 : List Addr} {n1 n2 n3 : Nat} {P1 P2 P3 : Nat → Value → Prop} {St1 St2 St3 : Nat → Heap → Prop} {A0 : Around}
/-- the zip's own tuple is free, or the last one handed out is still held -/
def OutZ (S z TI TO : Addr) (cs : List Addr) (fr : Heap → Prop) (h : Heap) : Prop := (IsZip h z TI TO .none ∧ fr h) ∨ ∃ T f oT, IsZipHeld h z TI TO T f ∧ h.get? T = some oT ∧ T ≠ S ∧ T ∉ cs
theorem OutZ.ty {cs : List Addr} {fr : Heap → Prop} {s : Shared} (o : OutZ S z TI TO cs fr s.heap) : s.TypeIs (.ref z) "zip" := by
  rcases o with ⟨h, _⟩ | ⟨T, f, oT, h, _⟩
  · exact ⟨_, h, rfl⟩
  · exact ⟨_, h, rfl⟩
theorem OutZ.keep {cs : List Addr} {fr : Heap → Prop} {h h' : Heap} (o : OutZ S z TI TO cs fr h) (hz : z ≠ S) (k : ∀ b o, b ≠ S → h.get? b = some o → h'.get? b = some o) (kf : fr h → fr h') : OutZ S z TI TO cs fr h' := by
  rcases o with ⟨q, g⟩ | ⟨T, f, oT, q, g, n, m⟩
  · exact .inl ⟨k _ _ hz q, kf g⟩
  · exact .inr ⟨T, f, oT, k _ _ hz q, k _ _ n g, n, m⟩

theorem zp2 (hA0 : A0.handled = none) (Z : ZipSep2 z TI TO i1 i2 fp1 fp2) (D1 : ∀ A : Around, A.handled = none → Draws prog w A i1 fp1 n1 P1 St1) (D2 : ∀ A : Around, A.handled = none → Draws prog w A i2 fp2 n2 P2 St2)
    (sz : z ≠ S) (sI : TI ≠ S) (sO : TO ≠ S) (s1 : S ∉ fp1) (s2 : S ∉ fp2) :
    Zp prog w z [z, TO, i1, i2] S (min n1 n2) (fun i vs => ∃ x y, vs = [x, y] ∧ P1 i x ∧ P2 i y)
      (fun i h => IsTupOf2 h TI (.ref i1) (.ref i2) ∧ St1 i h ∧ St2 i h ∧ OutZ S z TI TO [z, TO, i1, i2] (fun h => ∃ a b, IsTupOf2 h TO a b) h) where
  mem := by simp
  frame := fun i h h' st k => ⟨k _ _ sI st.1, (D1 A0 hA0).frame i h h' st.2.1 fun b hb o q => k b o (fun e => s1 (e ▸ hb)) q, (D2 A0 hA0).frame i h h' st.2.2.1 fun b hb o q => k b o (fun e => s2 (e ▸ hb)) q,
    st.2.2.2.keep sz k fun ⟨a, b, q⟩ => ⟨a, b, k _ _ sO q⟩⟩
  item := fun A i s Q E hh hi hS st hQ => by
    obtain ⟨hI, t1, t2, out⟩ := st
    refine znext out.ty ?_
    have ll1 : i < n1 := by omega
    have ll2 : i < n2 := by omega
    have lz : z < s.heap.objs.size := by obtain ⟨o, e, _⟩ := out.ty; exact Heap.lt_size e
    have lt1 : i1 < s.heap.objs.size := by obtain ⟨o, e⟩ := (D1 A0 hA0).live i _ t1; exact Heap.lt_size e
    have lt2 : i2 < s.heap.objs.size := by obtain ⟨o, e⟩ := (D2 A0 hA0).live i _ t2; exact Heap.lt_size e
    rcases out with ⟨hz, a, b, hO⟩ | ⟨T, f, oT, hz, hT, nS, nc⟩
    · have lO : TO < s.heap.objs.size := Heap.lt_size hO
      refine zipD2_next_item (A := A.in1) Z (D1 _ hh) (D2 _ hh) hz hI hO t1 t2 ll1 ll2 fun x y hp tk p1 p2 hz' hO' u1 u2 hT' hsz k => ?_
      refine hQ [x, y] hp tk ⟨x, y, rfl, p1, p2⟩ ⟨k _ _ Z.TIz Z.TITO Z.TIi1 Z.TIi2 hI, u1, u2, .inr ⟨s.heap.objs.size, false, _, hz', hT', Nat.ne_of_gt hS, ?_⟩⟩ hT' hsz fun b o nb q => ?_
      · simp only [List.mem_cons, List.not_mem_nil, or_false, not_or]
        exact ⟨Nat.ne_of_gt lz, Nat.ne_of_gt lO, Nat.ne_of_gt lt1, Nat.ne_of_gt lt2⟩
      · simp only [List.mem_cons, List.not_mem_nil, or_false, not_or] at nb
        exact k b o nb.1 nb.2.1 nb.2.2.1 nb.2.2.2 q
    · have nc' := nc
      simp only [List.mem_cons, List.not_mem_nil, or_false, not_or] at nc'
      refine held2_item (A := A.in1) Z (D1 _ hh) (D2 _ hh) hz hT hI t1 t2 ll1 ll2 fun x y hp tk p1 p2 hz' u1 u2 hT' hsz k => ?_
      refine hQ [x, y] hp tk ⟨x, y, rfl, p1, p2⟩ ⟨k _ _ Z.TIz Z.TIi1 Z.TIi2 hI, u1, u2, .inr ⟨T, true, oT, hz', k _ _ nc'.1 nc'.2.2.1 nc'.2.2.2 hT, nS, nc⟩⟩ hT' hsz fun b o nb q => ?_
      simp only [List.mem_cons, List.not_mem_nil, or_false, not_or] at nb
      exact k b o nb.1 nb.2.2.1 nb.2.2.2 q
  done := fun A s Q E hh st hQ => by
    obtain ⟨hI, t1, t2, out⟩ := st
    refine znext out.ty ?_
    rcases out with ⟨hz, a, b, hO⟩ | ⟨T, f, oT, hz, hT, nS, nc⟩
    · refine zipD2_next_end (A := A.in1) Z (D1 _ hh) (D2 _ hh) hz hI hO t1 t2 (by omega) (by omega) (by omega) fun hp tk x k ⟨o, e1, e2⟩ => ⟨⟨o, x, rfl, e1, e2⟩, hQ hp tk fun b o nb q => ?_⟩
      simp only [List.mem_cons, List.not_mem_nil, or_false, not_or] at nb
      exact k b o nb.1 nb.2.1 nb.2.2.1 nb.2.2.2 q
    · refine held2_end (A := A.in1) Z (D1 _ hh) (D2 _ hh) hz hT hI t1 t2 (by omega) (by omega) (by omega) fun hp tk x k ⟨o, e1, e2⟩ => ⟨⟨o, x, rfl, e1, e2⟩, hQ hp tk fun b o nb q => ?_⟩
      simp only [List.mem_cons, List.not_mem_nil, or_false, not_or] at nb
      exact k b o nb.1 nb.2.2.1 nb.2.2.2 q

theorem zp3 (hA0 : A0.handled = none) (Z : ZipSep3 z TI TO i1 i2 i3 fp1 fp2 fp3) (D1 : ∀ A : Around, A.handled = none → Draws prog w A i1 fp1 n1 P1 St1) (D2 : ∀ A : Around, A.handled = none → Draws prog w A i2 fp2 n2 P2 St2) (D3 : ∀ A : Around, A.handled = none → Draws prog w A i3 fp3 n3 P3 St3)
    (sz : z ≠ S) (sI : TI ≠ S) (sO : TO ≠ S) (s1 : S ∉ fp1) (s2 : S ∉ fp2) (s3 : S ∉ fp3) :
    Zp prog w z [z, TO, i1, i2, i3] S (min n1 (min n2 n3)) (fun i vs => ∃ x y v, vs = [x, y, v] ∧ P1 i x ∧ P2 i y ∧ P3 i v)
      (fun i h => IsTupOf3 h TI (.ref i1) (.ref i2) (.ref i3) ∧ St1 i h ∧ St2 i h ∧ St3 i h ∧ OutZ S z TI TO [z, TO, i1, i2, i3] (fun h => ∃ a b c, IsTupOf3 h TO a b c) h) where
  mem := by simp
  frame := fun i h h' st k => ⟨k _ _ sI st.1, (D1 A0 hA0).frame i h h' st.2.1 fun b hb o q => k b o (fun e => s1 (e ▸ hb)) q, (D2 A0 hA0).frame i h h' st.2.2.1 fun b hb o q => k b o (fun e => s2 (e ▸ hb)) q,
    (D3 A0 hA0).frame i h h' st.2.2.2.1 fun b hb o q => k b o (fun e => s3 (e ▸ hb)) q, st.2.2.2.2.keep sz k fun ⟨a, b, c, q⟩ => ⟨a, b, c, k _ _ sO q⟩⟩
  item := fun A i s Q E hh hi hS st hQ => by
    obtain ⟨hI, t1, t2, t3, out⟩ := st
    refine znext out.ty ?_
    have ll1 : i < n1 := by omega
    have ll2 : i < n2 := by omega
    have ll3 : i < n3 := by omega
    have lz : z < s.heap.objs.size := by obtain ⟨o, e, _⟩ := out.ty; exact Heap.lt_size e
    have lt1 : i1 < s.heap.objs.size := by obtain ⟨o, e⟩ := (D1 A0 hA0).live i _ t1; exact Heap.lt_size e
    have lt2 : i2 < s.heap.objs.size := by obtain ⟨o, e⟩ := (D2 A0 hA0).live i _ t2; exact Heap.lt_size e
    have lt3 : i3 < s.heap.objs.size := by obtain ⟨o, e⟩ := (D3 A0 hA0).live i _ t3; exact Heap.lt_size e
    rcases out with ⟨hz, a, b, c, hO⟩ | ⟨T, f, oT, hz, hT, nS, nc⟩
    · have lO : TO < s.heap.objs.size := Heap.lt_size hO
      refine zipD3_next_item (A := A.in1) Z (D1 _ hh) (D2 _ hh) (D3 _ hh) hz hI hO t1 t2 t3 ll1 ll2 ll3 fun x y v hp tk p1 p2 p3 hz' hO' u1 u2 u3 hT' hsz k => ?_
      refine hQ [x, y, v] hp tk ⟨x, y, v, rfl, p1, p2, p3⟩ ⟨k _ _ Z.TIz Z.TITO Z.TIi1 Z.TIi2 Z.TIi3 hI, u1, u2, u3, .inr ⟨s.heap.objs.size, false, _, hz', hT', Nat.ne_of_gt hS, ?_⟩⟩ hT' hsz fun b o nb q => ?_
      · simp only [List.mem_cons, List.not_mem_nil, or_false, not_or]
        exact ⟨Nat.ne_of_gt lz, Nat.ne_of_gt lO, Nat.ne_of_gt lt1, Nat.ne_of_gt lt2, Nat.ne_of_gt lt3⟩
      · simp only [List.mem_cons, List.not_mem_nil, or_false, not_or] at nb
        exact k b o nb.1 nb.2.1 nb.2.2.1 nb.2.2.2.1 nb.2.2.2.2 q
    · have nc' := nc
      simp only [List.mem_cons, List.not_mem_nil, or_false, not_or] at nc'
      refine held3_item (A := A.in1) Z (D1 _ hh) (D2 _ hh) (D3 _ hh) hz hT hI t1 t2 t3 ll1 ll2 ll3 fun x y v hp tk p1 p2 p3 hz' u1 u2 u3 hT' hsz k => ?_
      refine hQ [x, y, v] hp tk ⟨x, y, v, rfl, p1, p2, p3⟩ ⟨k _ _ Z.TIz Z.TIi1 Z.TIi2 Z.TIi3 hI, u1, u2, u3, .inr ⟨T, true, oT, hz', k _ _ nc'.1 nc'.2.2.1 nc'.2.2.2.1 nc'.2.2.2.2 hT, nS, nc⟩⟩ hT' hsz fun b o nb q => ?_
      simp only [List.mem_cons, List.not_mem_nil, or_false, not_or] at nb
      exact k b o nb.1 nb.2.2.1 nb.2.2.2.1 nb.2.2.2.2 q
  done := fun A s Q E hh st hQ => by
    obtain ⟨hI, t1, t2, t3, out⟩ := st
    refine znext out.ty ?_
    rcases out with ⟨hz, a, b, c, hO⟩ | ⟨T, f, oT, hz, hT, nS, nc⟩
    · refine zipD3_next_end (A := A.in1) Z (D1 _ hh) (D2 _ hh) (D3 _ hh) hz hI hO t1 t2 t3 (by omega) (by omega) (by omega) (by omega) fun hp tk x k ⟨o, e1, e2⟩ => ⟨⟨o, x, rfl, e1, e2⟩, hQ hp tk fun b o nb q => ?_⟩
      simp only [List.mem_cons, List.not_mem_nil, or_false, not_or] at nb
      exact k b o nb.1 nb.2.1 nb.2.2.1 nb.2.2.2.1 nb.2.2.2.2 q
    · refine held3_end (A := A.in1) Z (D1 _ hh) (D2 _ hh) (D3 _ hh) hz hT hI t1 t2 t3 (by omega) (by omega) (by omega) (by omega) fun hp tk x k ⟨o, e1, e2⟩ => ⟨⟨o, x, rfl, e1, e2⟩, hQ hp tk fun b o nb q => ?_⟩
      simp only [List.mem_cons, List.not_mem_nil, or_false, not_or] at nb
      exact k b o nb.1 nb.2.2.1 nb.2.2.2.1 nb.2.2.2.2 q
end

/-- the tuples that were made -/
structure Made (h : Heap) (lo : Nat) (R : Nat → List Value → Prop) (as : List Addr) (rows : List (List Value)) : Prop where
  len : as.length = rows.length
  rise : as.Pairwise (· < ·)
  above : ∀ a ∈ as, lo < a
  tup : ∀ (j : Nat) (a : Addr), as[j]? = some a → ∃ vs : List Value, rows[j]? = some vs ∧ h.get? a = some { cls := .type "tuple", data := .seq vs.toArray }
  ok : ∀ (j : Nat) (vs : List Value), rows[j]? = some vs → R j vs
theorem Made.keep {h h' : Heap} {lo : Nat} {R : Nat → List Value → Prop} {as : List Addr} {rows : List (List Value)} (m : Made h lo R as rows) (k : ∀ a ∈ as, ∀ o, h.get? a = some o → h'.get? a = some o) : Made h' lo R as rows :=
  ⟨m.len, m.rise, m.above, fun j a e => by obtain ⟨vs, e1, e2⟩ := m.tup j a e; exact ⟨vs, e1, k a (List.mem_of_getElem? e) _ e2⟩, m.ok⟩
theorem Made.there {h : Heap} {lo : Nat} {R : Nat → List Value → Prop} {as : List Addr} {rows : List (List Value)} (m : Made h lo R as rows) {a : Addr} (ha : a ∈ as) : a < h.objs.size := by
  obtain ⟨j, hj⟩ := List.mem_iff_getElem?.mp ha
  obtain ⟨vs, _, e⟩ := m.tup j a hj
  exact Heap.lt_size e
theorem Made.push {h : Heap} {lo : Nat} {R : Nat → List Value → Prop} {as : List Addr} {rows : List (List Value)} (m : Made h lo R as rows) {a : Addr} {vs : List Value} (r : R rows.length vs) (e : h.get? a = some { cls := .type "tuple", data := .seq vs.toArray }) (l : lo < a) (u : ∀ b ∈ as, b < a) : Made h lo R (as ++ [a]) (rows ++ [vs]) := by
  refine ⟨by rw [List.length_append, List.length_append, m.len]; rfl, ?_, ?_, ?_, ?_⟩
  · refine List.pairwise_append.mpr ⟨m.rise, List.pairwise_singleton _ _, fun x hx y hy => ?_⟩
    rw [List.mem_singleton.mp hy]; exact u x hx
  · intro x hx
    rcases List.mem_append.mp hx with hx | hx
    · exact m.above x hx
    · rw [List.mem_singleton.mp hx]; exact l
  · intro j x hj
    rcases Nat.lt_trichotomy j as.length with q | q | q
    · rw [List.getElem?_append_left q] at hj
      rw [List.getElem?_append_left (by rw [← m.len]; exact q)]
      exact m.tup j x hj
    · subst q
      rw [List.getElem?_append_right (Nat.le_refl _), Nat.sub_self] at hj
      rw [m.len, List.getElem?_append_right (Nat.le_refl _), Nat.sub_self]
      cases hj
      exact ⟨vs, rfl, e⟩
    · rw [List.getElem?_eq_none (by rw [List.length_append, List.length_singleton]; omega)] at hj
      cases hj
  · intro j x hj
    rcases Nat.lt_trichotomy j rows.length with q | q | q
    · rw [List.getElem?_append_left q] at hj
      exact m.ok j x hj
    · subst q
      rw [List.getElem?_append_right (Nat.le_refl _), Nat.sub_self] at hj
      cases hj
      exact r
    · rw [List.getElem?_eq_none (by rw [List.length_append, List.length_singleton]; omega)] at hj
      cases hj

section
variable {prog : Program} {w : World} {A : Around} {E : Value → Shared → Prop} {s : Shared} {z S : Addr} {ch : List Addr} {n : Nat} {R : Nat → List Value → Prop} {St : Nat → Heap → Prop}
/-- the list as it is built -/
abbrev ListAt (h : Heap) (S : Addr) (acc : Array Value) (c : Nat) : Prop := h.get? S = some { cls := .type "list", dict := none, data := .seq acc c, slots := #[] }
theorem zl_loop {Y : Result → Shared → Prop} (Zz : Zp prog w z ch S n R St) (hh : A.handled = none) (low : ∀ b ∈ ch, b < S) (hn : n ≤ sizeLine) (res : Value) {h0 : Heap}
    (hY : ∀ hp tk acc c as rows, (∀ b o, b ∉ ch → b ≠ S → h0.get? b = some o → hp.get? b = some o) → ListAt hp S acc c → rows.length = n → Made hp S R as rows → acc.toList = as.map Value.ref → Y (.ok (.ret res)) { s with heap := hp, toks := tk }) :
    ∀ (k i : Nat) (h : Heap) (tk c : Nat) (acc : Array Value) (as : List Addr) (rows : List (List Value)), n - i = k → i ≤ n → St i h → (∀ b o, b ∉ ch → b ≠ S → h0.get? b = some o → h.get? b = some o) → ListAt h S acc c → acc.toList = as.map Value.ref → rows.length = i → Made h S R as rows →
      codeAny (model prog w) A (.builtin "list.extend.loop" ⟨[.ref S, .ref z, res], []⟩) Y { s with heap := h, toks := tk } := by
  have nS : S ∉ ch := fun q => Nat.lt_irrefl _ (low S q)
  intro k
  induction k with
  | zero =>
    intro i h tk c acc as rows hk hi st keep hS hacc hl M
    obtain rfl : i = n := by omega
    refine codeAny_builtin F.entry_extend_loop ?_
    rw [Around.under_plainId F.plain_extend_loop _]
    show wpAny _ A.in1 (pyNext (.ref z) >>= _) _ _ _
    refine wpAny_bind (Zz.done A.in1 { s with heap := h, toks := tk } _ _ hh st fun hp tk' k' => wpAny_pure (hY hp tk' acc c as rows (fun b o n1 n2 q => k' b o n1 (keep b o n1 n2 q)) (k' S _ nS hS) hl (M.keep fun a ha o q => k' a o (fun y => ?_) q) hacc))
    exact absurd (M.above a ha) (Nat.not_lt.mpr (Nat.le_of_lt (low a y)))
  | succ k ih =>
    intro i h tk c acc as rows hk hi st keep hS hacc hl M
    have hlt : i < n := by omega
    have hsz : acc.size = i := by rw [← Array.length_toList, hacc, List.length_map, M.len, hl]
    have hSl : S < h.objs.size := Heap.lt_size hS
    refine codeAny_builtin F.entry_extend_loop ?_
    rw [Around.under_plainId F.plain_extend_loop _]
    show wpAny _ A.in1 (pyNext (.ref z) >>= _) _ _ _
    refine wpAny_bind (Zz.item A.in1 i { s with heap := h, toks := tk } _ _ hh hlt hSl st fun vs hp tk' r st' ht hz k' => ?_)
    dsimp only at ht hz k' ⊢
    have hS' := k' S _ nS hS
    have up : ∀ b o, b ≠ S → hp.get? b = some o → (hp.update S (Obj.mapSeq (·.push (Value.ref h.objs.size)))).get? b = some o := fun b o hb q => (Heap.get?_update_other _ _ (Ne.symm hb)).trans q
    have aS : ∀ a ∈ as, a ≠ S ∧ a ∉ ch := fun a ha => ⟨Nat.ne_of_gt (M.above a ha), fun y => absurd (M.above a ha) (Nat.not_lt.mpr (Nat.le_of_lt (low a y)))⟩
    show wpAny _ A.in1 (updateSeq S (·.push (Value.ref h.objs.size)) >>= _) _ _ _
    refine wpAny_bind (wpAny_updateSeq hS' rfl (wpAny_pure ⟨plainId_quiet F.plain_extend_loop _, ih (i + 1) _ tk' _ (acc.push (Value.ref h.objs.size)) (as ++ [h.objs.size]) (rows ++ [vs]) (by omega) hlt (Zz.frame _ _ _ st' up)
      (fun b o n1 n2 q => up b o n2 (k' b o n1 (keep b o n1 n2 q))) (Heap.get?_update_self _ hS' rfl) ?_ (by rw [List.length_append, hl]; rfl) ?_⟩) ?_ ?_)
    · rw [Array.toList_push, hacc, List.map_append]; rfl
    · refine Made.push (M.keep fun a ha o q => up a o (aS a ha).1 (k' a o (aS a ha).2 q)) (by rw [hl]; exact r) (up _ _ (Nat.ne_of_gt hSl) ht) hSl fun b hb => M.there hb
    · rw [hsz]; omega
    · show (acc.push (Value.ref h.objs.size)).size ≤ sizeLine + 1
      rw [Array.size_push, hsz]; omega
theorem zip_no_len : typeLookup (.type "zip") "__len__" = pure none := am_miss_of_fast (by decide +kernel)
theorem zip_no_hint : typeLookup (.type "zip") "__length_hint__" = pure none := am_miss_of_fast (by decide +kernel)
theorem zip_hint {Q : Bool → Shared → Prop} (hT : s.TypeIs (.ref z) "zip") (h : Q true s) : wpAny (model prog w) A (Builtin.List.listLengthHint (.ref z)) Q E s := by
  unfold Builtin.List.listLengthHint
  refine wpAny_bind (wpAny_specialOf hT zip_no_len ?_)
  refine wpAny_bind (wpAny_specialOf hT zip_no_hint ?_)
  exact wpAny_pure h
theorem zl_extend {Y : Result → Shared → Prop} (Zz : Zp prog w z ch S n R St) (hh : A.handled = none) (hz : ∃ TI TO f0, IsZip s.heap z TI TO f0) (low : ∀ b ∈ ch, b < S) (hn : n ≤ sizeLine) (res : Value) (c0 : Nat) (hS : ListAt s.heap S #[] c0) (st : St 0 s.heap)
    (hY : ∀ hp tk acc c as rows, (∀ b o, b ∉ ch → b ≠ S → s.heap.get? b = some o → hp.get? b = some o) → ListAt hp S acc c → rows.length = n → Made hp S R as rows → acc.toList = as.map Value.ref → Y (.ok (.ret res)) { s with heap := hp, toks := tk }) :
    wpAny (model prog w) A.in1 (Builtin.List.listExtendWith (.ref S) (.ref z) res) (fun fin u => match fin with | .done f => Y (.ok f) u | .again c' => c'.quiet = true ∧ codeAny (model prog w) A c' Y u) (fun e u => Y (.error e) u) s := by
  obtain ⟨TI, TO, f0, hz⟩ := hz
  have hT : s.TypeIs (.ref z) "zip" := ⟨_, hz, rfl⟩
  have zS : S ≠ z := Nat.ne_of_gt (low z Zz.mem)
  unfold Builtin.List.listExtendWith
  refine wpAny_bind (wpAny_typeOf (T := "zip") hT ?_)
  have a1 : Builtin.List.listSameRef (.ref S) (.ref z) = false := by simp [Builtin.List.listSameRef, zS]
  have a2 : (Value.type "zip" == Value.type "list") = false := by decide
  have a3 : (Value.type "zip" == Value.type "tuple") = false := by decide
  simp only [a1, a2, a3, Bool.or_false, Bool.false_eq_true, if_false]
  refine wpAny_bind (wpAny_pyIter_zip hz ?_)
  refine wpAny_bind (wpAny_holding (zip_hint hT ?_))
  refine wpAny_ite_split (fun _ => ?_) (fun q => absurd (by simp) q)
  refine wpAny_bind (wpAny_rule (wpAny_bind ?_))
  show wpAny _ _ (updateSeq S (·.push .none) >>= fun _ => updateSeq S (·.pop)) _ _ _
  refine wpAny_bind (wpAny_updateSeq hS rfl ?_)
  have hS2 := Heap.get?_update_self (Obj.mapSeq (·.push Value.none)) hS rfl
  refine wpAny_updateSeq (hz := by seq_fits) hS2 rfl ?_
  have hS3 := Heap.get?_update_self (Obj.mapSeq (·.pop)) hS2 rfl
  have oth : ∀ b o, b ≠ S → s.heap.get? b = some o → ((s.heap.update S (Obj.mapSeq (·.push Value.none))).update S (Obj.mapSeq (·.pop))).get? b = some o := fun b o hb q => (Heap.get?_update_other _ _ (Ne.symm hb)).trans ((Heap.get?_update_other _ _ (Ne.symm hb)).trans q)
  refine wpAny_pure ⟨plainId_quiet F.plain_extend_loop _, zl_loop (s := s) Zz hh low hn res (h0 := s.heap) hY n 0 _ s.toks _ #[] [] [] (Nat.sub_zero _) (Nat.zero_le _) (Zz.frame _ _ _ st oth) (fun b o _ n2 q => oth b o n2 q) hS3 rfl rfl ⟨rfl, .nil, fun _ q => (nomatch q), fun j a q => by simp at q, fun j a q => by simp at q⟩⟩
theorem zl_call {Q : Value → Shared → Prop} (Zz : Zp prog w z ch s.heap.objs.size n R St) (hh : A.handled = none) (hz : ∃ TI TO f0, IsZip s.heap z TI TO f0) (low : ∀ b ∈ ch, b < s.heap.objs.size) (hn : n ≤ sizeLine) (st : St 0 s.heap)
    (hQ : ∀ hp tk acc c as rows, (∀ b o, b ∉ ch → s.heap.get? b = some o → hp.get? b = some o) → ListAt hp s.heap.objs.size acc c → rows.length = n → Made hp s.heap.objs.size R as rows → acc.toList = as.map Value.ref → Q (.ref s.heap.objs.size) { s with heap := hp, toks := tk }) :
    wpAny (model prog w) A (call (.type "list") [.ref z]) Q E s := by
  refine callType_codes (Q₁ := fun obj u => obj = .ref s.heap.objs.size ∧ u = { s with heap := s.heap.push { cls := .type "list", data := .seq #[] } }) F.called_list (F.typeCall_list_1 _) F.entry_list_init (code_list_new _ ⟨rfl, rfl⟩) fun obj u ⟨e1, e2⟩ => ?_
  subst e1 e2
  have hS : ListAt (s.heap.push { cls := .type "list", data := .seq #[] }) s.heap.objs.size #[] 0 := Heap.get?_push_size _ rfl
  refine ⟨⟨_, hS, rfl⟩, F.args_list_init_2 _ _, ?_⟩
  show wpAny _ _ (do let old ← Builtin.List.listItems (.ref s.heap.objs.size); Builtin.List.listUpdate (.ref s.heap.objs.size) (fun _ => #[]); letGo old.toList.reverse; Builtin.List.listExtendWith (.ref s.heap.objs.size) (.ref z) .none) _ _ _
  refine wpAny_bind ?_
  unfold Builtin.List.listItems
  refine wpAny_bind (wpAny_seqItems hS rfl (wpAny_pure ?_))
  show wpAny _ _ (updateSeq s.heap.objs.size (fun _ => #[]) >>= fun _ => letGo (#[] : Array Value).toList.reverse >>= fun _ => Builtin.List.listExtendWith (.ref s.heap.objs.size) (.ref z) .none) _ _ _
  refine wpAny_bind (wpAny_updateSeq hS rfl ?_)
  have hS2 := Heap.get?_update_self (Obj.mapSeq (fun _ => (#[] : Array Value))) hS rfl
  have oth : ∀ b o, s.heap.get? b = some o → ((s.heap.push { cls := .type "list", data := .seq #[] }).update s.heap.objs.size (Obj.mapSeq (fun _ => (#[] : Array Value)))).get? b = some o := fun b o q => (Heap.get?_update_other _ _ (Nat.ne_of_gt (Heap.lt_size q))).trans (Heap.get?_push_of_some _ q)
  refine wpAny_bind (wpAny_letGo ?_)
  obtain ⟨TI, TO, f0, hz⟩ := hz
  refine zl_extend (A := A.in1) Zz hh ⟨TI, TO, f0, oth _ _ hz⟩ low hn .none _ hS2 (Zz.frame _ _ _ st fun b o _ q => oth b o q) fun hp tk acc c as rows k hS' hl M hacc => ⟨rfl, hQ hp tk acc c as rows (fun b o nb q => k b o nb (Nat.ne_of_lt (Heap.lt_size q)) (oth b o q)) hS' hl M hacc⟩
end
end Mw

set_option Elab.async false
set_option linter.all false
set_option maxRecDepth 100000
set_option maxHeartbeats 1000000
/-! Mw, part P: zips of lists, tuples, texts in any mix; list(zip(..)); enumerate of tuples. -/
namespace Mw
open PySem PySem.Spec PyProof.Rows L2
/-- what is zipped -/
inductive Src where
  | l (a : Addr) | t (a : Addr) | s (x : Str)
def Src.val : Src → V
  | .l a => .ref a
  | .t a => .ref a
  | .s x => .str x
def Src.has (K : PySem.W.Frag) (H : Hp) : Src → List V → Prop
  | .l a, vs => SqL K H a vs
  | .t a, vs => SqT K H a vs
  | .s x, vs => vs = x.cps.toList.map fun c => V.str ⟨#[c]⟩
def Src.fp : Src → List Addr
  | .l a => [a]
  | .t a => [a]
  | .s _ => []
def Src.obj (tk : Tok) : Src → Obj
  | .l a => { cls := .type "list_iterator", data := .fields #[.ref a, .int 0 0] }
  | .t a => { cls := .type "tuple_iterator", data := .fields #[.ref a, .int 0 0] }
  | .s x => { cls := .type (strIterType x), data := .fields #[.str x tk, .int 0 0] }
def Src.at (q : Src) (tk : Tok) (it : Addr) (i : Nat) (h : Heap) : Prop := match q with
  | .l a => h.IsListIter it a i
  | .t a => h.IsTupleIter it a i
  | .s x => h.IsStrIter it (strIterType x) x tk i
theorem Src.at_new (q : Src) {tk : Tok} {it : Addr} {h : Heap} (e : h.get? it = some (q.obj tk)) : q.at tk it 0 h := by
  cases q <;> exact ⟨_, e, rfl, rfl⟩
theorem Src.at_obj {q : Src} {tk : Tok} {it : Addr} {i : Nat} {h : Heap} (a : q.at tk it i h) : ∃ o, h.get? it = some o ∧ ∀ v, o.data ≠ .cell v := by
  cases q <;> (obtain ⟨o, e, _, d⟩ := a; exact ⟨o, e, fun v z => by rw [d] at z; cases z⟩)
theorem Src.at_keep {q : Src} {tk : Tok} {it : Addr} {i : Nat} {h h' : Heap} (a : q.at tk it i h) (k : ∀ o, h.get? it = some o → h'.get? it = some o) : q.at tk it i h' := by
  cases q <;> (obtain ⟨o, e, r⟩ := a; exact ⟨o, k o e, r⟩)
theorem Draws.andT {prog : Program} {w : World} {A : Around} {it : Addr} {fp : List Addr} {n : Nat} {P : Nat → Value → Prop} {St : Nat → Heap → Prop} (D : Draws prog w A it fp n P St) : Draws prog w A it fp n P (fun i h => St i h ∧ True) where
  live := fun i h st => D.live i h st.1
  frame := fun i h h' st k => ⟨D.frame i h h' st.1 k, trivial⟩
  item := fun i s Q E hi st hQ => D.item i s Q E hi st.1 fun x h' tk p st' sb => hQ x h' tk p ⟨st', trivial⟩ sb
  done := fun s Q E st hE => D.done s Q E st.1 hE
section
variable {X : Cx} {pins : List (Addr × Obj)} {σ : St} {H : Hp} {s : Shared} {q : Src} {vs : List V}
theorem Src.low (I : Inv X pins σ H s) (h : q.has X.K H vs) : ∀ b ∈ q.fp, b < s.heap.objs.size := by
  intro b hb
  cases q with
  | l a =>
    obtain rfl : b = a := by simpa [Src.fp] using hb
    obtain ⟨its, rv, p, _⟩ := I.list h
    exact p.lt
  | t a =>
    obtain rfl : b = a := by simpa [Src.fp] using hb
    obtain ⟨its, rv, p, _⟩ := I.tuple h
    obtain ⟨o, e, _⟩ := p
    exact Heap.lt_size e
  | s x => simp [Src.fp] at hb
theorem Src.inj (I : Inv X pins σ H s) {ws : List V} (h : q.has X.K H vs) (h' : q.has X.K H ws) : vs = ws := by
  cases q with
  | l a => exact I.list_inj h h'
  | t a => exact I.tuple_inj h h'
  | s x => exact (show vs = _ from h).trans (show ws = _ from h').symm
theorem Src.draws (I : Inv X pins σ H s) (h : q.has X.K H vs) : ∃ (Ct : Heap → Prop) (P : Nat → Value → Prop), Ct s.heap ∧ (∀ i v, P i v → ∃ x, vs[i]? = some x ∧ RelV x v) ∧ (∀ h h', Ct h → (∀ b ∈ q.fp, ∀ o, h.get? b = some o → h'.get? b = some o) → Ct h') ∧
    ∀ (A : Around) (tk : Tok) (it : Addr), A.handled = none → it ∉ q.fp → Draws X.prog X.w A it (it :: q.fp) vs.length P (fun i h => q.at tk it i h ∧ Ct h) := by
  cases q with
  | l a =>
    obtain ⟨its, rv, p, _⟩ := I.list h
    have el : its.toArray.size = vs.length := by rw [List.size_toArray, rv.length]
    refine ⟨fun h => h.IsList a its.toArray, fun i v => its.toArray[i]? = some v, p.isList, fun i v e => ?_, fun h h' c k => c.at fun o e => k a (by simp [Src.fp]) o e, fun A tk it hA hit => ?_⟩
    · have hi : i < vs.length := by rw [← el]; exact (Array.getElem?_eq_some_iff.mp e).1
      obtain ⟨u, hu, ru⟩ := rv.get (List.getElem?_eq_getElem hi)
      have e' : its[i]? = some v := by simpa using e
      rw [hu] at e'
      cases e'
      exact ⟨_, List.getElem?_eq_getElem hi, ru⟩
    · rw [← el]
      exact Draws.list hA it a (fun z => hit (by simp [Src.fp, z])) its.toArray
  | t a =>
    obtain ⟨its, rv, p, _⟩ := I.tuple h
    have el : its.toArray.size = vs.length := by rw [List.size_toArray, rv.length]
    refine ⟨fun h => h.IsTuple a its.toArray, fun i v => its.toArray[i]? = some v, p, fun i v e => ?_, fun h h' c k => c.at fun o e => k a (by simp [Src.fp]) o e, fun A tk it hA hit => ?_⟩
    · have hi : i < vs.length := by rw [← el]; exact (Array.getElem?_eq_some_iff.mp e).1
      obtain ⟨u, hu, ru⟩ := rv.get (List.getElem?_eq_getElem hi)
      have e' : its[i]? = some v := by simpa using e
      rw [hu] at e'
      cases e'
      exact ⟨_, List.getElem?_eq_getElem hi, ru⟩
    · rw [← el]
      exact Draws.tuple hA it a (fun z => hit (by simp [Src.fp, z])) its.toArray
  | s x =>
    have h : vs = x.cps.toList.map fun c => V.str ⟨#[c]⟩ := h
    have el : x.cps.size = vs.length := by rw [h, List.length_map, Array.length_toList]
    refine ⟨fun _ => True, fun i v => ∃ c u, x.cps[i]? = some c ∧ v = .str ⟨#[c]⟩ u, trivial, fun i v e => ?_, fun _ _ _ _ => trivial, fun A tk it hA hit => ?_⟩
    · obtain ⟨c, u, e, rfl⟩ := e
      refine ⟨.str ⟨#[c]⟩, ?_, u, rfl⟩
      rw [h, List.getElem?_map, Array.getElem?_toList, e]
      rfl
    · rw [← el]
      exact Draws.andT (Draws.text hA it x tk)
theorem Src.begins {u : Value} (I : Inv X pins σ H s) (h : q.has X.K H vs) (r : RelV q.val u) : ∃ tk HB, Begins u (q.obj tk) HB ∧ HB s.heap := by
  cases q with
  | l a =>
    obtain rfl : u = .ref a := r
    obtain ⟨its, rv, p, _⟩ := I.list h
    exact ⟨0, _, begins_list a its.toArray, p.isList⟩
  | t a =>
    obtain rfl : u = .ref a := r
    obtain ⟨its, rv, p, _⟩ := I.tuple h
    exact ⟨0, _, begins_tuple a its.toArray, p⟩
  | s x =>
    obtain ⟨t, rfl⟩ := r
    exact ⟨t, _, begins_text x t, trivial⟩
end
/-! ### two -/
def It2 (K : PySem.W.Frag) (q1 q2 : Src) : It :=
  ⟨fun i H => ∃ xs ys : List V, q1.has K H xs ∧ q2.has K H ys ∧ i < xs.length ∧ i < ys.length,
    fun i H v H' => ∃ T x y, v = .ref T ∧ H T = none ∧ H' = upd H T (.tup [x, y]) ∧ (∀ xs, q1.has K H xs → xs[i]? = some x) ∧ ∀ ys, q2.has K H ys → ys[i]? = some y,
    fun i H => ∃ xs ys : List V, q1.has K H xs ∧ q2.has K H ys ∧ i ≤ xs.length ∧ i ≤ ys.length ∧ (i = xs.length ∨ i = ys.length)⟩
def tn2 (N : Nat) (q1 q2 : Src) (t1 t2 : Tok) (i : Nat) (h : Heap) : Prop := IsZip h (N + 4) (N + 2) (N + 3) .none ∧ IsTupOf2 h (N + 2) (.ref N) (.ref (N + 1)) ∧ (∃ x y, IsTupOf2 h (N + 3) x y) ∧ q1.at t1 N i h ∧ q2.at t2 (N + 1) i h
abbrev cells2 (N : Nat) : List Addr := [N + 4, N + 2, N + 3, N, N + 1]
theorem turn2 {P : Program} {w : World} {K : PySem.W.Frag} {elts : List Expr} {kk : Nat} {tpos : Pos} {N : Nat} {q1 q2 : Src} {t1 t2 : Tok} (b1 : ∀ b ∈ q1.fp, b < N) (b2 : ∀ b ∈ q2.fp, b < N) :
    Turn P w K (.Tuple elts kk tpos) (It2 K q1 q2) (cells2 N) (N + 4) (tn2 N q1 q2 t1 t2) where
  mem := by simp
  obj := fun i h st c hc => by
    obtain ⟨hz, hI, ⟨x, y, hO⟩, a1, a2⟩ := st
    have e : @Eq Nat c (N + 4) ∨ @Eq Nat c (N + 2) ∨ @Eq Nat c (N + 3) ∨ @Eq Nat c (N) ∨ @Eq Nat c (N + 1) := by simpa using hc
    rcases e with rfl | rfl | rfl | rfl | rfl
    · exact ⟨_, hz, fun v z => nomatch z⟩
    · exact ⟨_, hI, fun v z => nomatch z⟩
    · exact ⟨_, hO, fun v z => nomatch z⟩
    · exact Src.at_obj a1
    · exact Src.at_obj a2
  keep := fun i h h' st k => by
    obtain ⟨hz, hI, ⟨x, y, hO⟩, a1, a2⟩ := st
    exact ⟨k _ (by simp) _ hz, k _ (by simp) _ hI, ⟨x, y, k _ (by simp) _ hO⟩, (Src.at_keep a1 fun o => k _ (by simp) o), (Src.at_keep a2 fun o => k _ (by simp) o)⟩
  item := by
    intro Y e1 e2 e3 cm j pn u τ Hh Ex J fo st go
    subst e1 e2 e3
    obtain ⟨hz, hI, ⟨x0, y0, hO⟩, a1, a2⟩ := st
    obtain ⟨xs, ys, hx, hy, l1, l2⟩ := go
    obtain ⟨C1, P1, c1, f1, _, d1⟩ := Src.draws J hx
    obtain ⟨C2, P2, c2, f2, _, d2⟩ := Src.draws J hy
    have hA : Y.A.in1.handled = none := J.ok.hd cm
    have n1 : N ∉ q1.fp := fun z => Nat.lt_irrefl _ (b1 _ z)
    have n2 : N + 1 ∉ q2.fp := fun z => Nat.not_succ_lt_self (b2 _ z)
    have zl : N + 4 < u.heap.objs.size := Heap.lt_size hz
    have Z := zip_sep2 (N := N) b1 b2
    refine wpAny_pyNext_zipD2_item Z (d1 _ t1 N hA n1) (d2 _ t2 (N + 1) hA n2) hz hI hO ⟨a1, c1⟩ ⟨a2, c2⟩ l1 l2 fun x y hp tk p1 p2 z' O' s1 s2 hT sz k => ?_
    refine ⟨_, rfl, wpAny_letOwnedTupleGo_zip (s := { u with heap := hp, toks := tk }) z' fun h2 z2 sb => ?_⟩
    obtain ⟨v1, g1, r1⟩ := f1 _ _ p1
    obtain ⟨v2, g2, r2⟩ := f2 _ _ p2
    have T2 : h2.get? u.heap.objs.size = some { cls := .type "tuple", data := .seq #[x, y] } := (sb.2 _ (by (first | omega | (show @Ne Nat _ _; omega) | (show @Eq Nat _ _ → False; omega) | (show @LT.lt Nat _ _ _; omega) | (show @LE.le Nat _ _ _; omega) | (show ¬ @LT.lt Nat _ _ _; omega)))).trans hT
    have new : ObjOk Y.prog Y.w (upd Hh u.heap.objs.size (.tup [v1, v2])) h2 u.heap.objs.size (.tup [v1, v2]) := ⟨by show 2 ≤ sizeLine; decide, [x, y], .cons r1 (.cons r2 .nil), ⟨_, T2, rfl, _, rfl⟩⟩
    have J1 : Inv Y pn τ (upd Hh u.heap.objs.size (.tup [v1, v2])) { u with heap := h2, toks := tk } :=
      J.turnedNew (t' := tk) (ch := cells2 N) (fun c o nb e => by
        simp only [List.mem_cons, List.not_mem_nil, or_false, not_or] at nb
        exact (sb.2 c nb.1).trans (k c o nb.1 nb.2.2.1 nb.2.2.2.1 nb.2.2.2.2 e)) fo (Nat.le_refl _) new
    refine ⟨.ref u.heap.objs.size, _, J1, rfl, ⟨_, v1, v2, rfl, J.hok.fresh (Nat.le_refl _), rfl, fun l hl => by rw [Src.inj J hl hx]; exact g1, fun l hl => by rw [Src.inj J hl hy]; exact g2⟩, ⟨z2, ?_, ⟨x, y, ?_⟩, ?_, ?_⟩, fun c hc => ?_⟩
    · exact (sb.2 _ (by (first | omega | (show @Ne Nat _ _; omega) | (show @Eq Nat _ _ → False; omega) | (show @LT.lt Nat _ _ _; omega) | (show @LE.le Nat _ _ _; omega) | (show ¬ @LT.lt Nat _ _ _; omega)))).trans (k _ _ (by (first | omega | (show @Ne Nat _ _; omega) | (show @Eq Nat _ _ → False; omega) | (show @LT.lt Nat _ _ _; omega) | (show @LE.le Nat _ _ _; omega) | (show ¬ @LT.lt Nat _ _ _; omega))) (by (first | omega | (show @Ne Nat _ _; omega) | (show @Eq Nat _ _ → False; omega) | (show @LT.lt Nat _ _ _; omega) | (show @LE.le Nat _ _ _; omega) | (show ¬ @LT.lt Nat _ _ _; omega))) (by (first | omega | (show @Ne Nat _ _; omega) | (show @Eq Nat _ _ → False; omega) | (show @LT.lt Nat _ _ _; omega) | (show @LE.le Nat _ _ _; omega) | (show ¬ @LT.lt Nat _ _ _; omega))) (by (first | omega | (show @Ne Nat _ _; omega) | (show @Eq Nat _ _ → False; omega) | (show @LT.lt Nat _ _ _; omega) | (show @LE.le Nat _ _ _; omega) | (show ¬ @LT.lt Nat _ _ _; omega))) hI)
    · exact (sb.2 _ (by (first | omega | (show @Ne Nat _ _; omega) | (show @Eq Nat _ _ → False; omega) | (show @LT.lt Nat _ _ _; omega) | (show @LE.le Nat _ _ _; omega) | (show ¬ @LT.lt Nat _ _ _; omega)))).trans O'
    · exact Src.at_keep s1.1 fun o e => (sb.2 _ (by (first | omega | (show @Ne Nat _ _; omega) | (show @Eq Nat _ _ → False; omega) | (show @LT.lt Nat _ _ _; omega) | (show @LE.le Nat _ _ _; omega) | (show ¬ @LT.lt Nat _ _ _; omega)))).trans e
    · exact Src.at_keep s2.1 fun o e => (sb.2 _ (by (first | omega | (show @Ne Nat _ _; omega) | (show @Eq Nat _ _ → False; omega) | (show @LT.lt Nat _ _ _; omega) | (show @LE.le Nat _ _ _; omega) | (show ¬ @LT.lt Nat _ _ _; omega)))).trans e
    · have lt : c < u.heap.objs.size := by
        have e : @Eq Nat c (N + 4) ∨ @Eq Nat c (N + 2) ∨ @Eq Nat c (N + 3) ∨ @Eq Nat c (N) ∨ @Eq Nat c (N + 1) := by simpa using hc
        (first | omega | (show @Ne Nat _ _; omega) | (show @Eq Nat _ _ → False; omega) | (show @LT.lt Nat _ _ _; omega) | (show @LE.le Nat _ _ _; omega) | (show ¬ @LT.lt Nat _ _ _; omega))
      rw [upd_ne (Nat.ne_of_lt lt)]
      exact (fo c hc).1
  done := by
    intro Y e1 e2 e3 cm j pn u τ Hh Ex J fo st go
    subst e1 e2 e3
    obtain ⟨hz, hI, ⟨x0, y0, hO⟩, a1, a2⟩ := st
    obtain ⟨xs, ys, hx, hy, l1, l2, en⟩ := go
    obtain ⟨C1, P1, c1, f1, _, d1⟩ := Src.draws J hx
    obtain ⟨C2, P2, c2, f2, _, d2⟩ := Src.draws J hy
    have hA : Y.A.in1.handled = none := J.ok.hd cm
    have n1 : N ∉ q1.fp := fun z => Nat.lt_irrefl _ (b1 _ z)
    have n2 : N + 1 ∉ q2.fp := fun z => Nat.not_succ_lt_self (b2 _ z)
    refine wpAny_pyNext_zipD2_end (zip_sep2 (N := N) b1 b2) (d1 _ t1 N hA n1) (d2 _ t2 (N + 1) hA n2) hz hI hO ⟨a1, c1⟩ ⟨a2, c2⟩ l1 l2 en fun hp tk k => ⟨rfl, J.turnedL (t' := tk) (ch := cells2 N) (fun c o nb e => ?_) fo⟩
    simp only [List.mem_cons, List.not_mem_nil, or_false, not_or] at nb
    exact k c o nb.1 nb.2.2.1 nb.2.2.2.1 nb.2.2.2.2 e
  self := fun A i s Q E st h => wpAny_pyIter_zip st.1 h
section
variable {X : Cx}
/-- zip(e, e2) as a value -/
theorem zip2_run {e e2 : Expr} {ta : TA} {p pos : Pos} (hg : Gl X "zip") (hm : X.mg "zip" = none) (ha : PA X [e, e2] ta)
    (hs : starEach [e, e2] X.env = (false, eval e X.env) :: starEach [e2] X.env) (hpl : (backTo pos (starEach [e2] X.env)).any (·.1) = false)
    {pins : List (Addr × Obj)} {s : Shared} {σ : St} {H : Hp} {M : Src → Src → List V → List V → Hp → Prop} (I : Inv X pins σ H s)
    (h : ta σ H fun vs H1 => ∃ q1 q2 xs ys, vs = [q1.val, q2.val] ∧ q1.has X.K H1 xs ∧ q2.has X.K H1 ys ∧ M q1 q2 xs ys H1) :
    wpAny (model X.prog X.w) X.A (eval (.Call (.Name "zip" p) [e, e2] [] pos) X.env) (fun v u => ∃ N q1 q2 xs ys t1 t2 H1, v = .ref (N + 4) ∧ q1.has X.K H1 xs ∧ q2.has X.K H1 ys ∧ (∀ b ∈ q1.fp, b < N) ∧ (∀ b ∈ q2.fp, b < N) ∧ Inv X pins σ H1 u ∧ u.heap.objs.size = N + 5 ∧
      (∀ b, N ≤ b → FpOk X pins H1 b) ∧ tn2 N q1 q2 t1 t2 0 u.heap ∧ M q1 q2 xs ys H1) X.xe s := by
  refine Call_ (ld_blt I hg hm PyProof.Rows.boot_zip (PyProof.Rows.callWith_type1 (thn (ha.run pos pins s σ H _ I h) fun us s1 ⟨vs, H1, I1, r1, q⟩ => ?_) hs hpl))
  obtain ⟨q1, q2, xs, ys, rfl, h1, h2, m⟩ := q
  cases r1 with
  | cons ra rr =>
    cases rr with
    | cons rb rr =>
      cases rr
      obtain ⟨t1, B1, g1, k1⟩ := Src.begins I1 h1 ra
      obtain ⟨t2, B2, g2, k2⟩ := Src.begins I1 h2 rb
      refine zip_begins2 g1 g2 k1 k2 fun hp hz hI hO o1 o2 sz k => ?_
      exact ⟨s1.heap.objs.size, q1, q2, xs, ys, t1, t2, H1, rfl, h1, h2, Src.low I1 h1, Src.low I1 h2, I1.kept (t' := s1.toks) k, sz, fun b hb => I1.fpOk hb (I1.hok.fresh hb), ⟨hz, hI, ⟨_, _, hO⟩, q1.at_new o1, q2.at_new o2⟩, m⟩
theorem pi_zip2 {e e2 : Expr} {ta : TA} {p pos tpos : Pos} {elts : List Expr} {kk : Nat} (hg : Gl X "zip") (hm : X.mg "zip" = none) (ha : PA X [e, e2] ta)
    (hs : starEach [e, e2] X.env = (false, eval e X.env) :: starEach [e2] X.env) (hpl : (backTo pos (starEach [e2] X.env)).any (·.1) = false) :
    PI X (.Tuple elts kk tpos) (.Call (.Name "zip" p) [e, e2] [] pos) (fun σ H R => ta σ H fun vs H1 => ∃ q1 q2 xs ys, vs = [q1.val, q2.val] ∧ q1.has X.K H1 xs ∧ q2.has X.K H1 ys ∧ R (It2 X.K q1 q2) H1) := by
  refine ⟨fun pins s σ H R I h => ?_⟩
  refine thn (zip2_run (M := fun q1 q2 _ _ H1 => R (It2 X.K q1 q2) H1) hg hm ha hs hpl I h) fun v u ⟨N, q1, q2, xs, ys, t1, t2, H1, ev, h1, h2, b1, b2, I1, sz, fo, st, m⟩ => ?_
  subst ev
  refine wpAny_pyIter_zip st.1 ⟨N + 4, cells2 N, _, _, H1, rfl, I1, turn2 b1 b2, st, fun b hb => fo b ?_, m⟩
  have e : @Eq Nat b (N + 4) ∨ @Eq Nat b (N + 2) ∨ @Eq Nat b (N + 3) ∨ @Eq Nat b (N) ∨ @Eq Nat b (N + 1) := by simpa using hb
  (first | omega | (show @Ne Nat _ _; omega) | (show @Eq Nat _ _ → False; omega) | (show @LT.lt Nat _ _ _; omega) | (show @LE.le Nat _ _ _; omega) | (show ¬ @LT.lt Nat _ _ _; omega))
end
/-! ### three -/
def It3 (K : PySem.W.Frag) (q1 q2 q3 : Src) : It :=
  ⟨fun i H => ∃ xs ys zs : List V, q1.has K H xs ∧ q2.has K H ys ∧ q3.has K H zs ∧ i < xs.length ∧ i < ys.length ∧ i < zs.length,
    fun i H v H' => ∃ T x y z, v = .ref T ∧ H T = none ∧ H' = upd H T (.tup [x, y, z]) ∧ (∀ xs, q1.has K H xs → xs[i]? = some x) ∧ (∀ ys, q2.has K H ys → ys[i]? = some y) ∧ ∀ zs, q3.has K H zs → zs[i]? = some z,
    fun i H => ∃ xs ys zs : List V, q1.has K H xs ∧ q2.has K H ys ∧ q3.has K H zs ∧ i ≤ xs.length ∧ i ≤ ys.length ∧ i ≤ zs.length ∧ (i = xs.length ∨ i = ys.length ∨ i = zs.length)⟩
def tn3 (N : Nat) (q1 q2 q3 : Src) (t1 t2 t3 : Tok) (i : Nat) (h : Heap) : Prop := IsZip h (N + 5) (N + 3) (N + 4) .none ∧ IsTupOf3 h (N + 3) (.ref N) (.ref (N + 1)) (.ref (N + 2)) ∧ (∃ x y z, IsTupOf3 h (N + 4) x y z) ∧ q1.at t1 N i h ∧ q2.at t2 (N + 1) i h ∧ q3.at t3 (N + 2) i h
abbrev cells3 (N : Nat) : List Addr := [N + 5, N + 3, N + 4, N, N + 1, N + 2]
theorem turn3 {P : Program} {w : World} {K : PySem.W.Frag} {elts : List Expr} {kk : Nat} {tpos : Pos} {N : Nat} {q1 q2 q3 : Src} {t1 t2 t3 : Tok} (b1 : ∀ b ∈ q1.fp, b < N) (b2 : ∀ b ∈ q2.fp, b < N) (b3 : ∀ b ∈ q3.fp, b < N) :
    Turn P w K (.Tuple elts kk tpos) (It3 K q1 q2 q3) (cells3 N) (N + 5) (tn3 N q1 q2 q3 t1 t2 t3) where
  mem := by simp
  obj := fun i h st c hc => by
    obtain ⟨hz, hI, ⟨x, y, v, hO⟩, a1, a2, a3⟩ := st
    have e : @Eq Nat c (N + 5) ∨ @Eq Nat c (N + 3) ∨ @Eq Nat c (N + 4) ∨ @Eq Nat c (N) ∨ @Eq Nat c (N + 1) ∨ @Eq Nat c (N + 2) := by simpa using hc
    rcases e with rfl | rfl | rfl | rfl | rfl | rfl
    · exact ⟨_, hz, fun v z => nomatch z⟩
    · exact ⟨_, hI, fun v z => nomatch z⟩
    · exact ⟨_, hO, fun v z => nomatch z⟩
    · exact Src.at_obj a1
    · exact Src.at_obj a2
    · exact Src.at_obj a3
  keep := fun i h h' st k => by
    obtain ⟨hz, hI, ⟨x, y, v, hO⟩, a1, a2, a3⟩ := st
    exact ⟨k _ (by simp) _ hz, k _ (by simp) _ hI, ⟨x, y, v, k _ (by simp) _ hO⟩, (Src.at_keep a1 fun o => k _ (by simp) o), (Src.at_keep a2 fun o => k _ (by simp) o), (Src.at_keep a3 fun o => k _ (by simp) o)⟩
  item := by
    intro Y e1 e2 e3 cm j pn u τ Hh Ex J fo st go
    subst e1 e2 e3
    obtain ⟨hz, hI, ⟨x0, y0, v0, hO⟩, a1, a2, a3⟩ := st
    obtain ⟨xs, ys, zs, hx, hy, hw, l1, l2, l3⟩ := go
    obtain ⟨C1, P1, c1, f1, _, d1⟩ := Src.draws J hx
    obtain ⟨C2, P2, c2, f2, _, d2⟩ := Src.draws J hy
    obtain ⟨C3, P3, c3, f3, _, d3⟩ := Src.draws J hw
    have hA : Y.A.in1.handled = none := J.ok.hd cm
    have n1 : N ∉ q1.fp := fun z => Nat.lt_irrefl _ (b1 _ z)
    have n2 : N + 1 ∉ q2.fp := fun z => Nat.not_succ_lt_self (b2 _ z)
    have n3 : N + 2 ∉ q3.fp := fun z => absurd (b3 _ z) (by (first | omega | (show @Ne Nat _ _; omega) | (show @Eq Nat _ _ → False; omega) | (show @LT.lt Nat _ _ _; omega) | (show @LE.le Nat _ _ _; omega) | (show ¬ @LT.lt Nat _ _ _; omega)))
    have zl : N + 5 < u.heap.objs.size := Heap.lt_size hz
    have Z := zip_sep3 (N := N) b1 b2 b3
    refine wpAny_pyNext_zipD3_item Z (d1 _ t1 N hA n1) (d2 _ t2 (N + 1) hA n2) (d3 _ t3 (N + 2) hA n3) hz hI hO ⟨a1, c1⟩ ⟨a2, c2⟩ ⟨a3, c3⟩ l1 l2 l3 fun x y v hp tk p1 p2 p3 z' O' s1 s2 s3 hT sz k => ?_
    refine ⟨_, rfl, wpAny_letOwnedTupleGo_zip (s := { u with heap := hp, toks := tk }) z' fun h2 z2 sb => ?_⟩
    obtain ⟨v1, g1, r1⟩ := f1 _ _ p1
    obtain ⟨v2, g2, r2⟩ := f2 _ _ p2
    obtain ⟨v3, g3, r3⟩ := f3 _ _ p3
    have T2 : h2.get? u.heap.objs.size = some { cls := .type "tuple", data := .seq #[x, y, v] } := (sb.2 _ (by (first | omega | (show @Ne Nat _ _; omega) | (show @Eq Nat _ _ → False; omega) | (show @LT.lt Nat _ _ _; omega) | (show @LE.le Nat _ _ _; omega) | (show ¬ @LT.lt Nat _ _ _; omega)))).trans hT
    have new : ObjOk Y.prog Y.w (upd Hh u.heap.objs.size (.tup [v1, v2, v3])) h2 u.heap.objs.size (.tup [v1, v2, v3]) := ⟨by show 3 ≤ sizeLine; decide, [x, y, v], .cons r1 (.cons r2 (.cons r3 .nil)), ⟨_, T2, rfl, _, rfl⟩⟩
    have J1 : Inv Y pn τ (upd Hh u.heap.objs.size (.tup [v1, v2, v3])) { u with heap := h2, toks := tk } :=
      J.turnedNew (t' := tk) (ch := cells3 N) (fun c o nb e => by
        simp only [List.mem_cons, List.not_mem_nil, or_false, not_or] at nb
        exact (sb.2 c nb.1).trans (k c o nb.1 nb.2.2.1 nb.2.2.2.1 nb.2.2.2.2.1 nb.2.2.2.2.2 e)) fo (Nat.le_refl _) new
    refine ⟨.ref u.heap.objs.size, _, J1, rfl, ⟨_, v1, v2, v3, rfl, J.hok.fresh (Nat.le_refl _), rfl, fun l hl => by rw [Src.inj J hl hx]; exact g1, fun l hl => by rw [Src.inj J hl hy]; exact g2, fun l hl => by rw [Src.inj J hl hw]; exact g3⟩, ⟨z2, ?_, ⟨x, y, v, ?_⟩, ?_, ?_, ?_⟩, fun c hc => ?_⟩
    · exact (sb.2 _ (by (first | omega | (show @Ne Nat _ _; omega) | (show @Eq Nat _ _ → False; omega) | (show @LT.lt Nat _ _ _; omega) | (show @LE.le Nat _ _ _; omega) | (show ¬ @LT.lt Nat _ _ _; omega)))).trans (k _ _ (by (first | omega | (show @Ne Nat _ _; omega) | (show @Eq Nat _ _ → False; omega) | (show @LT.lt Nat _ _ _; omega) | (show @LE.le Nat _ _ _; omega) | (show ¬ @LT.lt Nat _ _ _; omega))) (by (first | omega | (show @Ne Nat _ _; omega) | (show @Eq Nat _ _ → False; omega) | (show @LT.lt Nat _ _ _; omega) | (show @LE.le Nat _ _ _; omega) | (show ¬ @LT.lt Nat _ _ _; omega))) (by (first | omega | (show @Ne Nat _ _; omega) | (show @Eq Nat _ _ → False; omega) | (show @LT.lt Nat _ _ _; omega) | (show @LE.le Nat _ _ _; omega) | (show ¬ @LT.lt Nat _ _ _; omega))) (by (first | omega | (show @Ne Nat _ _; omega) | (show @Eq Nat _ _ → False; omega) | (show @LT.lt Nat _ _ _; omega) | (show @LE.le Nat _ _ _; omega) | (show ¬ @LT.lt Nat _ _ _; omega))) (by (first | omega | (show @Ne Nat _ _; omega) | (show @Eq Nat _ _ → False; omega) | (show @LT.lt Nat _ _ _; omega) | (show @LE.le Nat _ _ _; omega) | (show ¬ @LT.lt Nat _ _ _; omega))) hI)
    · exact (sb.2 _ (by (first | omega | (show @Ne Nat _ _; omega) | (show @Eq Nat _ _ → False; omega) | (show @LT.lt Nat _ _ _; omega) | (show @LE.le Nat _ _ _; omega) | (show ¬ @LT.lt Nat _ _ _; omega)))).trans O'
    · exact Src.at_keep s1.1 fun o e => (sb.2 _ (by (first | omega | (show @Ne Nat _ _; omega) | (show @Eq Nat _ _ → False; omega) | (show @LT.lt Nat _ _ _; omega) | (show @LE.le Nat _ _ _; omega) | (show ¬ @LT.lt Nat _ _ _; omega)))).trans e
    · exact Src.at_keep s2.1 fun o e => (sb.2 _ (by (first | omega | (show @Ne Nat _ _; omega) | (show @Eq Nat _ _ → False; omega) | (show @LT.lt Nat _ _ _; omega) | (show @LE.le Nat _ _ _; omega) | (show ¬ @LT.lt Nat _ _ _; omega)))).trans e
    · exact Src.at_keep s3.1 fun o e => (sb.2 _ (by (first | omega | (show @Ne Nat _ _; omega) | (show @Eq Nat _ _ → False; omega) | (show @LT.lt Nat _ _ _; omega) | (show @LE.le Nat _ _ _; omega) | (show ¬ @LT.lt Nat _ _ _; omega)))).trans e
    · have lt : c < u.heap.objs.size := by
        have e : @Eq Nat c (N + 5) ∨ @Eq Nat c (N + 3) ∨ @Eq Nat c (N + 4) ∨ @Eq Nat c (N) ∨ @Eq Nat c (N + 1) ∨ @Eq Nat c (N + 2) := by simpa using hc
        (first | omega | (show @Ne Nat _ _; omega) | (show @Eq Nat _ _ → False; omega) | (show @LT.lt Nat _ _ _; omega) | (show @LE.le Nat _ _ _; omega) | (show ¬ @LT.lt Nat _ _ _; omega))
      rw [upd_ne (Nat.ne_of_lt lt)]
      exact (fo c hc).1
  done := by
    intro Y e1 e2 e3 cm j pn u τ Hh Ex J fo st go
    subst e1 e2 e3
    obtain ⟨hz, hI, ⟨x0, y0, v0, hO⟩, a1, a2, a3⟩ := st
    obtain ⟨xs, ys, zs, hx, hy, hw, l1, l2, l3, en⟩ := go
    obtain ⟨C1, P1, c1, f1, _, d1⟩ := Src.draws J hx
    obtain ⟨C2, P2, c2, f2, _, d2⟩ := Src.draws J hy
    obtain ⟨C3, P3, c3, f3, _, d3⟩ := Src.draws J hw
    have hA : Y.A.in1.handled = none := J.ok.hd cm
    have n1 : N ∉ q1.fp := fun z => Nat.lt_irrefl _ (b1 _ z)
    have n2 : N + 1 ∉ q2.fp := fun z => Nat.not_succ_lt_self (b2 _ z)
    have n3 : N + 2 ∉ q3.fp := fun z => absurd (b3 _ z) (by (first | omega | (show @Ne Nat _ _; omega) | (show @Eq Nat _ _ → False; omega) | (show @LT.lt Nat _ _ _; omega) | (show @LE.le Nat _ _ _; omega) | (show ¬ @LT.lt Nat _ _ _; omega)))
    refine wpAny_pyNext_zipD3_end (zip_sep3 (N := N) b1 b2 b3) (d1 _ t1 N hA n1) (d2 _ t2 (N + 1) hA n2) (d3 _ t3 (N + 2) hA n3) hz hI hO ⟨a1, c1⟩ ⟨a2, c2⟩ ⟨a3, c3⟩ l1 l2 l3 en fun hp tk k => ⟨rfl, J.turnedL (t' := tk) (ch := cells3 N) (fun c o nb e => ?_) fo⟩
    simp only [List.mem_cons, List.not_mem_nil, or_false, not_or] at nb
    exact k c o nb.1 nb.2.2.1 nb.2.2.2.1 nb.2.2.2.2.1 nb.2.2.2.2.2 e
  self := fun A i s Q E st h => wpAny_pyIter_zip st.1 h
section
variable {X : Cx}
theorem zip3_run {e e2 e3 : Expr} {ta : TA} {p pos : Pos} (hg : Gl X "zip") (hm : X.mg "zip" = none) (ha : PA X [e, e2, e3] ta)
    (hs : starEach [e, e2, e3] X.env = (false, eval e X.env) :: starEach [e2, e3] X.env) (hpl : (backTo pos (starEach [e2, e3] X.env)).any (·.1) = false)
    {pins : List (Addr × Obj)} {s : Shared} {σ : St} {H : Hp} {M : Src → Src → Src → List V → List V → List V → Hp → Prop} (I : Inv X pins σ H s)
    (h : ta σ H fun vs H1 => ∃ q1 q2 q3 xs ys zs, vs = [q1.val, q2.val, q3.val] ∧ q1.has X.K H1 xs ∧ q2.has X.K H1 ys ∧ q3.has X.K H1 zs ∧ M q1 q2 q3 xs ys zs H1) :
    wpAny (model X.prog X.w) X.A (eval (.Call (.Name "zip" p) [e, e2, e3] [] pos) X.env) (fun v u => ∃ N q1 q2 q3 xs ys zs t1 t2 t3 H1, v = .ref (N + 5) ∧ q1.has X.K H1 xs ∧ q2.has X.K H1 ys ∧ q3.has X.K H1 zs ∧ (∀ b ∈ q1.fp, b < N) ∧ (∀ b ∈ q2.fp, b < N) ∧ (∀ b ∈ q3.fp, b < N) ∧ Inv X pins σ H1 u ∧ u.heap.objs.size = N + 6 ∧
      (∀ b, N ≤ b → FpOk X pins H1 b) ∧ tn3 N q1 q2 q3 t1 t2 t3 0 u.heap ∧ M q1 q2 q3 xs ys zs H1) X.xe s := by
  refine Call_ (ld_blt I hg hm PyProof.Rows.boot_zip (PyProof.Rows.callWith_type1 (thn (ha.run pos pins s σ H _ I h) fun us s1 ⟨vs, H1, I1, r1, q⟩ => ?_) hs hpl))
  obtain ⟨q1, q2, q3, xs, ys, zs, rfl, h1, h2, h3, m⟩ := q
  cases r1 with
  | cons ra rr =>
    cases rr with
    | cons rb rr =>
      cases rr with
      | cons rc rr =>
        cases rr
        obtain ⟨t1, B1, g1, k1⟩ := Src.begins I1 h1 ra
        obtain ⟨t2, B2, g2, k2⟩ := Src.begins I1 h2 rb
        obtain ⟨t3, B3, g3, k3⟩ := Src.begins I1 h3 rc
        refine zip_begins3 g1 g2 g3 k1 k2 k3 fun hp hz hI hO o1 o2 o3 sz k => ?_
        exact ⟨s1.heap.objs.size, q1, q2, q3, xs, ys, zs, t1, t2, t3, H1, rfl, h1, h2, h3, Src.low I1 h1, Src.low I1 h2, Src.low I1 h3, I1.kept (t' := s1.toks) k, sz, fun b hb => I1.fpOk hb (I1.hok.fresh hb), ⟨hz, hI, ⟨_, _, _, hO⟩, q1.at_new o1, q2.at_new o2, q3.at_new o3⟩, m⟩
theorem pi_zip3 {e e2 e3 : Expr} {ta : TA} {p pos tpos : Pos} {elts : List Expr} {kk : Nat} (hg : Gl X "zip") (hm : X.mg "zip" = none) (ha : PA X [e, e2, e3] ta)
    (hs : starEach [e, e2, e3] X.env = (false, eval e X.env) :: starEach [e2, e3] X.env) (hpl : (backTo pos (starEach [e2, e3] X.env)).any (·.1) = false) :
    PI X (.Tuple elts kk tpos) (.Call (.Name "zip" p) [e, e2, e3] [] pos) (fun σ H R => ta σ H fun vs H1 => ∃ q1 q2 q3 xs ys zs, vs = [q1.val, q2.val, q3.val] ∧ q1.has X.K H1 xs ∧ q2.has X.K H1 ys ∧ q3.has X.K H1 zs ∧ R (It3 X.K q1 q2 q3) H1) := by
  refine ⟨fun pins s σ H R I h => ?_⟩
  refine thn (zip3_run (M := fun q1 q2 q3 _ _ _ H1 => R (It3 X.K q1 q2 q3) H1) hg hm ha hs hpl I h) fun v u ⟨N, q1, q2, q3, xs, ys, zs, t1, t2, t3, H1, ev, h1, h2, h3, b1, b2, b3, I1, sz, fo, st, m⟩ => ?_
  subst ev
  refine wpAny_pyIter_zip st.1 ⟨N + 5, cells3 N, _, _, H1, rfl, I1, turn3 b1 b2 b3, st, fun b hb => fo b ?_, m⟩
  have e : @Eq Nat b (N + 5) ∨ @Eq Nat b (N + 3) ∨ @Eq Nat b (N + 4) ∨ @Eq Nat b (N) ∨ @Eq Nat b (N + 1) ∨ @Eq Nat b (N + 2) := by simpa using hb
  (first | omega | (show @Ne Nat _ _; omega) | (show @Eq Nat _ _ → False; omega) | (show @LT.lt Nat _ _ _; omega) | (show @LE.le Nat _ _ _; omega) | (show ¬ @LT.lt Nat _ _ _; omega))
end
/-! ### the rules -/
theorem src_of {K : PySem.W.Frag} {mg : Str → Option Value} {G : Hp} {d : D} {v : V} {xs : List D} (r : RV K mg G d v) (e : seqItems (.d d) = some xs) : ∃ (q : Src) (vs : List V), v = q.val ∧ (∀ H, Sub G H → q.has K H vs) ∧ RVs K mg G xs vs := by
  cases r with
  | lst h rr => cases e; exact ⟨.l _, _, rfl, fun H s => .inl (.inl (s _ _ h)), rr⟩
  | tup h rr => cases e; exact ⟨.t _, _, rfl, fun H s => s.sqT h, rr⟩
  | str x =>
    cases e
    refine ⟨.s x, x.cps.toList.map fun c => V.str ⟨#[c]⟩, rfl, fun H s => rfl, ?_⟩
    unfold chars
    generalize x.cps.toList = l
    induction l with
    | nil => exact .nil
    | cons c t ih => exact .cons (.str _) ih
  | _ => cases e
def zipA2 : List P → Option (List D)
  | [p, q] => match seqItems p, seqItems q with
    | some xs, some ys => some (zipD xs ys)
    | _, _ => none
  | _ => none
def zipD3 : List D → List D → List D → List D
  | x :: r, y :: t, z :: u => .tup [x, y, z] :: zipD3 r t u
  | _, _, _ => []
def zipA3 : List P → Option (List D)
  | [p, q, o] => match seqItems p, seqItems q, seqItems o with
    | some xs, some ys, some zs => some (zipD3 xs ys zs)
    | _, _, _ => none
  | _ => none
theorem zipD3_length : ∀ (xs ys zs : List D), (zipD3 xs ys zs).length = min xs.length (min ys.length zs.length)
  | [], ys, zs => by simp [zipD3]
  | x :: r, [], zs => by simp [zipD3]
  | x :: r, y :: t, [] => by simp [zipD3]
  | x :: r, y :: t, z :: u => by
    show (zipD3 r t u).length + 1 = _
    rw [zipD3_length r t u, List.length_cons, List.length_cons, List.length_cons]
    (first | omega | (show @Ne Nat _ _; omega) | (show @Eq Nat _ _ → False; omega) | (show @LT.lt Nat _ _ _; omega) | (show @LE.le Nat _ _ _; omega) | (show ¬ @LT.lt Nat _ _ _; omega))
theorem zipD3_get : ∀ (xs ys zs : List D) (k : Nat) (d : D), (zipD3 xs ys zs)[k]? = some d → ∃ x y z, xs[k]? = some x ∧ ys[k]? = some y ∧ zs[k]? = some z ∧ d = .tup [x, y, z]
  | [], ys, zs, _, _, e => by simp [zipD3] at e
  | x :: r, [], zs, _, _, e => by simp [zipD3] at e
  | x :: r, y :: t, [], _, _, e => by simp [zipD3] at e
  | x :: r, y :: t, z :: u, 0, d, e => by cases e; exact ⟨x, y, z, rfl, rfl, rfl, rfl⟩
  | x :: r, y :: t, z :: u, k + 1, d, e => zipD3_get r t u k d e
theorem itok_2 {K : PySem.W.Frag} {mg : Str → Option Value} {G : Hp} {q1 q2 : Src} {vs ws : List V} {xs ys : List D} (h : ∀ H, Sub G H → q1.has K H vs) (r : RVs K mg G xs vs) (h2 : ∀ H, Sub G H → q2.has K H ws) (r2 : RVs K mg G ys ws) : ItOk K mg G (It2 K q1 q2) (zipD xs ys) := by
  have l1 := r.length
  have l2 := r2.length
  refine ⟨fun i H s hi => ?_, fun i H s hi => ?_, fun i H x H' d s e y => ?_⟩
  · rw [zipD_length] at hi
    exact ⟨vs, ws, h H s, h2 H s, by (first | omega | (show @Ne Nat _ _; omega) | (show @Eq Nat _ _ → False; omega) | (show @LT.lt Nat _ _ _; omega) | (show @LE.le Nat _ _ _; omega) | (show ¬ @LT.lt Nat _ _ _; omega)), by (first | omega | (show @Ne Nat _ _; omega) | (show @Eq Nat _ _ → False; omega) | (show @LT.lt Nat _ _ _; omega) | (show @LE.le Nat _ _ _; omega) | (show ¬ @LT.lt Nat _ _ _; omega))⟩
  · rw [zipD_length] at hi
    exact ⟨vs, ws, h H s, h2 H s, by (first | omega | (show @Ne Nat _ _; omega) | (show @Eq Nat _ _ → False; omega) | (show @LT.lt Nat _ _ _; omega) | (show @LE.le Nat _ _ _; omega) | (show ¬ @LT.lt Nat _ _ _; omega)), by (first | omega | (show @Ne Nat _ _; omega) | (show @Eq Nat _ _ → False; omega) | (show @LT.lt Nat _ _ _; omega) | (show @LE.le Nat _ _ _; omega) | (show ¬ @LT.lt Nat _ _ _; omega)), by (first | omega | (show @Ne Nat _ _; omega) | (show @Eq Nat _ _ → False; omega) | (show @LT.lt Nat _ _ _; omega) | (show @LE.le Nat _ _ _; omega) | (show ¬ @LT.lt Nat _ _ _; omega))⟩
  · obtain ⟨T, x', y', rfl, nT, rfl, f1, f2⟩ := y
    obtain ⟨z1, z2, e1, e2, rfl⟩ := zipD_get xs ys i d e
    obtain ⟨v, e3, rv⟩ := r.get e1
    obtain ⟨w, e4, rw'⟩ := r2.get e2
    have q1 := f1 vs (h H s)
    have q2 := f2 ws (h2 H s)
    rw [e3] at q1
    rw [e4] at q2
    cases q1
    cases q2
    exact .inr ⟨T, _, _, nT, rfl, rfl, rfl, .cons rv (.cons rw' .nil)⟩
theorem itok_3 {K : PySem.W.Frag} {mg : Str → Option Value} {G : Hp} {q1 q2 q3 : Src} {vs ws us : List V} {xs ys zs : List D} (h : ∀ H, Sub G H → q1.has K H vs) (r : RVs K mg G xs vs) (h2 : ∀ H, Sub G H → q2.has K H ws) (r2 : RVs K mg G ys ws) (h3 : ∀ H, Sub G H → q3.has K H us) (r3 : RVs K mg G zs us) : ItOk K mg G (It3 K q1 q2 q3) (zipD3 xs ys zs) := by
  have l1 := r.length
  have l2 := r2.length
  have l3 := r3.length
  refine ⟨fun i H s hi => ?_, fun i H s hi => ?_, fun i H x H' d s e y => ?_⟩
  · rw [zipD3_length] at hi
    exact ⟨vs, ws, us, h H s, h2 H s, h3 H s, by (first | omega | (show @Ne Nat _ _; omega) | (show @Eq Nat _ _ → False; omega) | (show @LT.lt Nat _ _ _; omega) | (show @LE.le Nat _ _ _; omega) | (show ¬ @LT.lt Nat _ _ _; omega)), by (first | omega | (show @Ne Nat _ _; omega) | (show @Eq Nat _ _ → False; omega) | (show @LT.lt Nat _ _ _; omega) | (show @LE.le Nat _ _ _; omega) | (show ¬ @LT.lt Nat _ _ _; omega)), by (first | omega | (show @Ne Nat _ _; omega) | (show @Eq Nat _ _ → False; omega) | (show @LT.lt Nat _ _ _; omega) | (show @LE.le Nat _ _ _; omega) | (show ¬ @LT.lt Nat _ _ _; omega))⟩
  · rw [zipD3_length] at hi
    exact ⟨vs, ws, us, h H s, h2 H s, h3 H s, by (first | omega | (show @Ne Nat _ _; omega) | (show @Eq Nat _ _ → False; omega) | (show @LT.lt Nat _ _ _; omega) | (show @LE.le Nat _ _ _; omega) | (show ¬ @LT.lt Nat _ _ _; omega)), by (first | omega | (show @Ne Nat _ _; omega) | (show @Eq Nat _ _ → False; omega) | (show @LT.lt Nat _ _ _; omega) | (show @LE.le Nat _ _ _; omega) | (show ¬ @LT.lt Nat _ _ _; omega)), by (first | omega | (show @Ne Nat _ _; omega) | (show @Eq Nat _ _ → False; omega) | (show @LT.lt Nat _ _ _; omega) | (show @LE.le Nat _ _ _; omega) | (show ¬ @LT.lt Nat _ _ _; omega)), by (first | omega | (show @Ne Nat _ _; omega) | (show @Eq Nat _ _ → False; omega) | (show @LT.lt Nat _ _ _; omega) | (show @LE.le Nat _ _ _; omega) | (show ¬ @LT.lt Nat _ _ _; omega))⟩
  · obtain ⟨T, x', y', v', rfl, nT, rfl, f1, f2, f3⟩ := y
    obtain ⟨z1, z2, z3, e1, e2, e3, rfl⟩ := zipD3_get xs ys zs i d e
    obtain ⟨v, g1, rv⟩ := r.get e1
    obtain ⟨w, g2, rw'⟩ := r2.get e2
    obtain ⟨u, g3, ru⟩ := r3.get e3
    have q1 := f1 vs (h H s)
    have q2 := f2 ws (h2 H s)
    have q3 := f3 us (h3 H s)
    rw [g1] at q1
    rw [g2] at q2
    rw [g3] at q3
    cases q1
    cases q2
    cases q3
    exact .inr ⟨T, _, _, nT, rfl, rfl, rfl, .cons rv (.cons rw' (.cons ru .nil))⟩
theorem seqItems_d {p : P} {xs : List D} (e : seqItems p = some xs) : ∃ d, p = .d d := by
  cases p with
  | d d => exact ⟨d, rfl⟩
  | s i => cases e
theorem args2 {K : PySem.W.Frag} {mg : Str → Option Value} {G : Hp} {σ : St} {ps : List P} {ds : List D} {vs : List V} (e : zipA2 ps = some ds) (r : RPs K mg G σ ps vs) : ∃ (q1 q2 : Src) (us ws : List V) (xs ys : List D), vs = [q1.val, q2.val] ∧ (∀ H, Sub G H → q1.has K H us) ∧ (∀ H, Sub G H → q2.has K H ws) ∧ RVs K mg G xs us ∧ RVs K mg G ys ws ∧ ds = zipD xs ys := by
  unfold zipA2 at e
  split at e
  · split at e
    · rename_i p q xs ys e1 e2
      cases e
      obtain ⟨d1, rfl⟩ := seqItems_d e1
      obtain ⟨d2, rfl⟩ := seqItems_d e2
      cases r with
      | cons hx t =>
        cases t with
        | cons hy t =>
          cases t
          obtain ⟨q1, us, rfl, a1, a2⟩ := src_of hx e1
          obtain ⟨q2, ws, rfl, b1, b2⟩ := src_of hy e2
          exact ⟨q1, q2, us, ws, xs, ys, rfl, a1, b1, a2, b2, rfl⟩
    · cases e
  · cases e
theorem args3 {K : PySem.W.Frag} {mg : Str → Option Value} {G : Hp} {σ : St} {ps : List P} {ds : List D} {vs : List V} (e : zipA3 ps = some ds) (r : RPs K mg G σ ps vs) : ∃ (q1 q2 q3 : Src) (us ws ts : List V) (xs ys zs : List D), vs = [q1.val, q2.val, q3.val] ∧ (∀ H, Sub G H → q1.has K H us) ∧ (∀ H, Sub G H → q2.has K H ws) ∧ (∀ H, Sub G H → q3.has K H ts) ∧ RVs K mg G xs us ∧ RVs K mg G ys ws ∧ RVs K mg G zs ts ∧ ds = zipD3 xs ys zs := by
  unfold zipA3 at e
  split at e
  · split at e
    · rename_i p q o xs ys zs e1 e2 e3
      cases e
      obtain ⟨d1, rfl⟩ := seqItems_d e1
      obtain ⟨d2, rfl⟩ := seqItems_d e2
      obtain ⟨d3, rfl⟩ := seqItems_d e3
      cases r with
      | cons hx t =>
        cases t with
        | cons hy t =>
          cases t with
          | cons hv t =>
            cases t
            obtain ⟨q1, us, rfl, a1, a2⟩ := src_of hx e1
            obtain ⟨q2, ws, rfl, b1, b2⟩ := src_of hy e2
            obtain ⟨q3, ts, rfl, c1, c2⟩ := src_of hv e3
            exact ⟨q1, q2, q3, us, ws, ts, xs, ys, zs, rfl, a1, b1, c1, a2, b2, c2, rfl⟩
    · cases e
  · cases e
section
variable {X : Cx} {W : WX}
theorem ji_zipA {e e2 : Expr} {a : MA} {p pos tpos : Pos} {elts : List Expr} {kk : Nat} (hg : Gl X "zip") (hm : X.mg "zip" = none) (ha : JA X W [e, e2] a)
    (hs : starEach [e, e2] X.env = (false, eval e X.env) :: starEach [e2] X.env := by rfl) (hpl : (backTo pos (starEach [e2] X.env)).any (·.1) = false := by rfl) :
    JI X W (.Tuple elts kk tpos) (.Call (.Name "zip" p) [e, e2] [] pos) (mItA zipA2 a) := fun g => by
  refine pi_imp (pi_zip2 hg hm (ha g) hs hpl) fun σ H R h => ?_
  obtain ⟨S, G, r, h⟩ := h
  refine ⟨S, G, r, po_itA h fun ps ds S1 G1 H1 vs e s1 r1 rps h => ?_⟩
  obtain ⟨q1, q2, us, ws, xs, ys, ev, a1, b1, a2, b2, rfl⟩ := args2 e rps
  exact ⟨q1, q2, us, ws, ev, a1 _ r1.sub, b1 _ r1.sub, h _ (itok_2 a1 a2 b1 b2)⟩
theorem ji_zip3 {e e2 e3 : Expr} {a : MA} {p pos tpos : Pos} {elts : List Expr} {kk : Nat} (hg : Gl X "zip") (hm : X.mg "zip" = none) (ha : JA X W [e, e2, e3] a)
    (hs : starEach [e, e2, e3] X.env = (false, eval e X.env) :: starEach [e2, e3] X.env := by rfl) (hpl : (backTo pos (starEach [e2, e3] X.env)).any (·.1) = false := by rfl) :
    JI X W (.Tuple elts kk tpos) (.Call (.Name "zip" p) [e, e2, e3] [] pos) (mItA zipA3 a) := fun g => by
  refine pi_imp (pi_zip3 hg hm (ha g) hs hpl) fun σ H R h => ?_
  obtain ⟨S, G, r, h⟩ := h
  refine ⟨S, G, r, po_itA h fun ps ds S1 G1 H1 vs e s1 r1 rps h => ?_⟩
  obtain ⟨q1, q2, q3, us, ws, ts, xs, ys, zs, ev, a1, b1, c1, a2, b2, c2, rfl⟩ := args3 e rps
  exact ⟨q1, q2, q3, us, ws, ts, ev, a1 _ r1.sub, b1 _ r1.sub, c1 _ r1.sub, h _ (itok_3 a1 a2 b1 b2 c1 c2)⟩
end
/-! ### list(zip(..)) -/
/-- tuples laid at their addresses -/
def layT : Hp → List Addr → List (List V) → Hp
  | H, a :: as, v :: vss => layT (upd H a (.tup v)) as vss
  | H, _, _ => H
theorem layT_off {b : Addr} : ∀ (as : List Addr) (vss : List (List V)) (H : Hp), b ∉ as → layT H as vss b = H b
  | [], _, _, _ => rfl
  | _ :: _, [], _, _ => rfl
  | a :: as, v :: vss, H, h => by
    simp only [List.mem_cons, not_or] at h
    show layT (upd H a (.tup v)) as vss b = H b
    rw [layT_off as vss _ h.2, upd_ne h.1]
theorem layT_at : ∀ (as : List Addr) (vss : List (List V)) (H : Hp) (j : Nat) (a : Addr) (v : List V), as.Nodup → as[j]? = some a → vss[j]? = some v → layT H as vss a = some (.tup v)
  | [], _, _, _, _, _, _, e, _ => by simp at e
  | _ :: _, [], _, _, _, _, _, _, e => by simp at e
  | a :: as, v :: vss, H, 0, _, _, nd, e1, e2 => by
    cases e1
    cases e2
    show layT (upd H a (.tup v)) as vss a = _
    rw [layT_off as vss _ (List.nodup_cons.mp nd).1, upd_same]
  | a :: as, v :: vss, H, j + 1, b, w, nd, e1, e2 => layT_at as vss (upd H a (.tup v)) j b w (List.nodup_cons.mp nd).2 e1 e2
theorem refs_vals : ∀ as : List Addr, Vals (as.map V.ref) (as.map Value.ref)
  | [] => .nil
  | _ :: r => .cons rfl (refs_vals r)
theorem rep_rows {K : PySem.W.Frag} {mg : Str → Option Value} {g : Gh} {σ : St} {S : Sg} : ∀ (as : List Addr) (vss : List (List V)) (G H : Hp), Rep K mg g G σ H S → (∀ a ∈ as, H a = none) → as.Nodup → Rep K mg g (layT G as vss) σ (layT H as vss) S ∧ Sub G (layT G as vss)
  | [], _, _, _, r, _, _ => ⟨r, Sub.refl _⟩
  | _ :: _, [], _, _, r, _, _ => ⟨r, Sub.refl _⟩
  | a :: as, v :: vss, G, H, r, h, nd => by
    have nd := List.nodup_cons.mp nd
    have ha : H a = none := h a List.mem_cons_self
    obtain ⟨q1, q2⟩ := rep_rows as vss (upd G a (.tup v)) (upd H a (.tup v)) (r.newF ha _) (fun b hb => by rw [upd_ne (show b ≠ a from fun z => nd.1 (by rw [← z]; exact hb))]; exact h b (List.mem_cons_of_mem _ hb)) nd.2
    exact ⟨q1, (Sub.upd_new G (r.sub.non ha)).trans q2⟩
section
variable {X : Cx}
theorem laid_rows {pins : List (Addr × Obj)} {σ : St} {H : Hp} {s : Shared} {S : Addr} {R : Nat → List Value → Prop} {acc : Array Value} {c : Nat} {as : List Addr} {rows : List (List Value)} {vss : List (List V)} (I : Inv X pins σ H s) (hS : ListAt s.heap S acc c) (ea : acc.toList = as.map Value.ref) (M : Made s.heap S R as rows)
    (el : vss.length = rows.length) (rel : ∀ (j : Nat) (v : List V) (u : List Value), vss[j]? = some v → rows[j]? = some u → Vals v u ∧ v.length ≤ sizeLine) (hz : as.length ≤ sizeLine) (fo : ∀ b, S ≤ b → FpOk X pins H b) :
    Inv X pins σ (layT (upd H S (.lst (as.map V.ref))) as vss) s ∧ as.Nodup ∧ H S = none ∧ (∀ a ∈ as, upd H S (.lst (as.map V.ref)) a = none) ∧ S ∉ as := by
  have nd : as.Nodup := List.Pairwise.imp (fun {a b} (h : a < b) => Nat.ne_of_lt h) M.rise
  have nS : S ∉ as := fun z => Nat.lt_irrefl _ (M.above S z)
  have hn : ∀ a ∈ as, H a = none := fun a ha => (fo a (Nat.le_of_lt (M.above a ha))).1
  have hnS : H S = none := (fo S (Nat.le_refl _)).1
  have kp : ∀ b u, H b = some u → layT (upd H S (.lst (as.map V.ref))) as vss b = some u := fun b u e => by
    rw [layT_off as vss _ (fun z => by rw [hn b z] at e; cases e), upd_ne (fun z => by rw [z, hnS] at e; cases e)]
    exact e
  refine ⟨?_, nd, hnS, fun a ha => by rw [upd_ne (show a ≠ S from fun z => nS (by rw [← z]; exact ha))]; exact hn a ha, nS⟩
  refine I.call' (ch := S :: as) rfl ⟨fun b o q _ _ _ => q, fun b o q _ _ _ => ⟨o.slots, q⟩, fun b o q n nb => ?_, fun b o q _ => ⟨o, q⟩, fun b xs q => kp b _ q, fun b o u q => kp b _ q, fun b ps q => ⟨#[], by rw [kp b _ q]; simp⟩⟩ (fun b u q => ?_) I.bare fun b hb => ?_
  · simp only [List.mem_cons, not_or] at nb
    rw [layT_off as vss _ nb.2, upd_ne nb.1]
    exact n
  · by_cases hb : b ∈ as
    · obtain ⟨j, hj⟩ := List.mem_iff_getElem?.mp hb
      obtain ⟨w, e1, e2⟩ := M.tup j b hj
      have lj : j < vss.length := by rw [el]; exact (List.getElem?_eq_some_iff.mp e1).1
      have e3 : vss[j]? = some vss[j] := List.getElem?_eq_getElem lj
      rw [layT_at as vss _ j b _ nd hj e3] at q
      cases q
      obtain ⟨r1, r2⟩ := rel j _ _ e3 e1
      exact ⟨r2, w, r1, ⟨_, e2, rfl, _, rfl⟩⟩
    · by_cases hb2 : b = S
      · subst hb2
        rw [layT_off as vss _ hb, upd_same] at q
        cases q
        refine ⟨by rw [List.length_map]; exact hz, acc.toList, c, by rw [ea]; exact refs_vals as, ?_⟩
        rw [Array.toArray_toList]
        exact hS
      · rw [layT_off as vss _ hb, upd_ne hb2] at q
        exact (I.hok b u q).stay (fun d v _ y => y) (fun d y => kp d _ y) fun d xs y => kp d _ y
  · have hb : S ≤ b := by
      rcases List.mem_cons.mp hb with rfl | hb
      · exact Nat.le_refl _
      · exact Nat.le_of_lt (M.above b hb)
    have f := fo b hb
    exact ⟨f.2.2.2.1, f.2.1, f.2.2.2.2.1, f.2.2.2.2.2⟩
end
/-- list(zip(..)) -/
def mListZ (f : List P → Option (List D)) (a : MA) : MN := fun S => (a S).bind fun ps S1 => match f ps with
  | some ds => if Nat.ble ds.length 16777216 then .ok ds S1 else .bad
  | none => .bad
theorem po_listZ {X : Cx} {W : WX} {f : List P → Option (List D)} {a : MA} {g : Gh} {G : Hp} {σ : St} {S : Sg} {Q : VK} {R : List V → Hp → Prop} (h : PoN X.K X.mg W g G σ (mListZ f a S) Q)
    (k : ∀ ps ds S1 G1 H1 vs, f ps = some ds → ds.length ≤ 16777216 → Sub G G1 → Rep X.K X.mg g G1 σ H1 S1 → RPs X.K X.mg G1 σ ps vs → PoN X.K X.mg W g G1 σ (.ok ds S1) Q → R vs H1) : PoA X.K X.mg W g G σ (a S) R := by
  unfold mListZ at h
  cases e1 : a S with
  | bad => rw [e1] at h; exact h.elim
  | exc c S1 => rw [e1] at h; exact h
  | ok ps S1 =>
    rw [e1] at h
    simp only [Res.bind] at h
    intro G1 H1 vs s1 r1 rps
    cases e2 : f ps with
    | none => rw [e2] at h; exact h.elim
    | some ds =>
      rw [e2] at h
      simp only at h
      split at h
      · rename_i hb
        exact k ps ds S1 G1 H1 vs e2 (Nat.le_of_ble_eq_true hb) s1 r1 rps (PoN.mono s1 h)
      · exact h.elim
/-- what is had behind list(zip(..)) -/
theorem zl_fin {X : Cx} {W : WX} {pins : List (Addr × Obj)} {g : Gh} {σ : St} {H1 : Hp} {G1 : Hp} {S1 : Sg} {u : Shared} {S : Addr} {ds : List D} {vss : List (List V)} {R : Nat → List Value → Prop} {acc : Array Value} {c : Nat} {as : List Addr} {rows : List (List Value)} {Q : VK}
    (I : Inv X pins σ H1 u) (hS : ListAt u.heap S acc c) (ea : acc.toList = as.map Value.ref) (M : Made u.heap S R as rows) (el : vss.length = rows.length) (rel : ∀ (j : Nat) (v : List V) (x : List Value), vss[j]? = some v → rows[j]? = some x → Vals v x ∧ v.length ≤ sizeLine) (hz : rows.length ≤ sizeLine) (fo : ∀ b, S ≤ b → FpOk X pins H1 b)
    (r : Rep X.K X.mg g G1 σ H1 S1) (ed : ds.length = vss.length) (rd : ∀ (j : Nat) (d : D), ds[j]? = some d → ∃ es v, d = .tup es ∧ vss[j]? = some v ∧ RVs X.K X.mg G1 es v) (h : PoN X.K X.mg W g G1 σ (.ok ds S1) Q) : EP X pins σ Q (.ref S) u := by
  obtain ⟨J, nd, hn, hna, nS⟩ := laid_rows I hS ea M el rel (by rw [M.len]; exact hz) fo
  obtain ⟨r2, nw⟩ := r.newO hn (.lst (as.map V.ref))
  obtain ⟨r3, sb⟩ := rep_rows as vss G1 (upd H1 S (.lst (as.map V.ref))) r2 hna nd
  refine ⟨.ref S, _, J, rfl, h _ _ S (as.map V.ref) sb r3 ?_ ?_ ⟨?_, nw.h0, nw.r, fun i z => nw.o i (z.of fun s rt e ow q => layT_off as vss _ fun m => r2.rootH e ow q (hna rt m))⟩⟩
  · rw [layT_off as vss _ nS, upd_same]
  · have key : ∀ (ds : List D) (bs : List Addr), ds.length = bs.length → (∀ (j : Nat) (d : D) (b : Addr), ds[j]? = some d → bs[j]? = some b → RV X.K X.mg (layT G1 as vss) d (.ref b)) → RVs X.K X.mg (layT G1 as vss) ds (bs.map V.ref) := by
      intro ds
      induction ds with
      | nil =>
        intro bs e _
        cases bs with
        | nil => exact .nil
        | cons b t => cases e
      | cons d t ih =>
        intro bs e f
        cases bs with
        | nil => cases e
        | cons b bs => exact .cons (f 0 d b rfl rfl) (ih bs (Nat.succ.inj e) fun j d' b' e1 e2 => f (j + 1) d' b' e1 e2)
    refine key ds as (by rw [ed, el, M.len]) fun j d b e1 e2 => ?_
    obtain ⟨es, v, rfl, e3, rv⟩ := rd j d e1
    exact .tup (.inl (.inl (layT_at as vss G1 j b v nd e2 e3))) (rv.mono sb)
  · rw [layT_off as vss _ nS]; exact nw.g0
def zipV (xs ys : List V) : List (List V) := List.zipWith (fun x y => [x, y]) xs ys
def zipV3 : List V → List V → List V → List (List V)
  | x :: r, y :: t, z :: u => [x, y, z] :: zipV3 r t u
  | _, _, _ => []
theorem zipV_get : ∀ (xs ys : List V) (j : Nat) (v : List V), (zipV xs ys)[j]? = some v → ∃ x y, xs[j]? = some x ∧ ys[j]? = some y ∧ v = [x, y]
  | [], ys, _, _, e => by simp [zipV] at e
  | x :: r, [], _, _, e => by simp [zipV] at e
  | x :: r, y :: t, 0, v, e => by cases e; exact ⟨x, y, rfl, rfl, rfl⟩
  | x :: r, y :: t, j + 1, v, e => zipV_get r t j v e
theorem zipV_at : ∀ (xs ys : List V) (j : Nat) (x y : V), xs[j]? = some x → ys[j]? = some y → (zipV xs ys)[j]? = some [x, y]
  | [], ys, _, _, _, e, _ => by simp at e
  | x :: r, [], _, _, _, _, e => by simp at e
  | x :: r, y :: t, 0, _, _, e1, e2 => by cases e1; cases e2; rfl
  | x :: r, y :: t, j + 1, _, _, e1, e2 => zipV_at r t j _ _ e1 e2
theorem zipV_length (xs ys : List V) : (zipV xs ys).length = min xs.length ys.length := List.length_zipWith
theorem zipV3_length : ∀ (xs ys zs : List V), (zipV3 xs ys zs).length = min xs.length (min ys.length zs.length)
  | [], ys, zs => by simp [zipV3]
  | x :: r, [], zs => by simp [zipV3]
  | x :: r, y :: t, [] => by simp [zipV3]
  | x :: r, y :: t, z :: u => by
    show (zipV3 r t u).length + 1 = _
    rw [zipV3_length r t u, List.length_cons, List.length_cons, List.length_cons]
    (first | omega | (show @Ne Nat _ _; omega) | (show @Eq Nat _ _ → False; omega) | (show @LT.lt Nat _ _ _; omega) | (show @LE.le Nat _ _ _; omega) | (show ¬ @LT.lt Nat _ _ _; omega))
theorem zipV3_get : ∀ (xs ys zs : List V) (k : Nat) (v : List V), (zipV3 xs ys zs)[k]? = some v → ∃ x y z, xs[k]? = some x ∧ ys[k]? = some y ∧ zs[k]? = some z ∧ v = [x, y, z]
  | [], ys, zs, _, _, e => by simp [zipV3] at e
  | x :: r, [], zs, _, _, e => by simp [zipV3] at e
  | x :: r, y :: t, [], _, _, e => by simp [zipV3] at e
  | x :: r, y :: t, z :: u, 0, d, e => by cases e; exact ⟨x, y, z, rfl, rfl, rfl, rfl⟩
  | x :: r, y :: t, z :: u, k + 1, d, e => zipV3_get r t u k d e
theorem zipV3_at : ∀ (xs ys zs : List V) (j : Nat) (x y z : V), xs[j]? = some x → ys[j]? = some y → zs[j]? = some z → (zipV3 xs ys zs)[j]? = some [x, y, z]
  | [], ys, zs, _, _, _, _, e, _, _ => by simp at e
  | x :: r, [], zs, _, _, _, _, _, e, _ => by simp at e
  | x :: r, y :: t, [], _, _, _, _, _, _, e => by simp at e
  | x :: r, y :: t, z :: u, 0, _, _, _, e1, e2, e3 => by cases e1; cases e2; cases e3; rfl
  | x :: r, y :: t, z :: u, j + 1, _, _, _, e1, e2, e3 => zipV3_at r t u j _ _ _ e1 e2 e3
theorem out_fp {S M N : Nat} {fp : List Addr} (b : ∀ x ∈ fp, x < N) (h1 : M < S) (h2 : N < S) : S ∉ M :: fp := fun z => by
  rcases List.mem_cons.mp z with z | z
  · exact absurd z (Nat.ne_of_gt h1)
  · exact absurd (b _ z) (Nat.not_lt.mpr (Nat.le_of_lt h2))
section
variable {X : Cx} {W : WX}
theorem jn_zip2 {e e2 : Expr} {a : MA} {p pos p2 pos2 : Pos} (hc : X.calm = true) (hl : Gl X "list") (hml : X.mg "list" = none) (hg : Gl X "zip") (hm : X.mg "zip" = none) (ha : JA X W [e, e2] a)
    (na : starEach [.Call (.Name "zip" p2) [e, e2] [] pos2] X.env = (false, eval (.Call (.Name "zip" p2) [e, e2] [] pos2) X.env) :: starEach [] X.env := by rfl)
    (hs : starEach [e, e2] X.env = (false, eval e X.env) :: starEach [e2] X.env := by rfl) (hpl : (backTo pos2 (starEach [e2] X.env)).any (·.1) = false := by rfl) :
    JN X W (.Call (.Name "list" p) [.Call (.Name "zip" p2) [e, e2] [] pos2] [] pos) (mListZ zipA2 a) := fun g => by
  refine ⟨fun pins s σ H Q I h => ?_⟩
  obtain ⟨S, G, r, h⟩ := h
  have h' : tA X W g a σ H fun vs H1 => ∃ (q1 q2 : Src) (us ws : List V), vs = [q1.val, q2.val] ∧ q1.has X.K H1 us ∧ q2.has X.K H1 ws ∧ ∃ G1 S1 xs ys, Rep X.K X.mg g G1 σ H1 S1 ∧ RVs X.K X.mg G1 xs us ∧ RVs X.K X.mg G1 ys ws ∧ (zipD xs ys).length ≤ 16777216 ∧ PoN X.K X.mg W g G1 σ (.ok (zipD xs ys) S1) Q := by
    refine ⟨S, G, r, po_listZ h fun ps ds S1 G1 H1 vs e le s1 r1 rps h => ?_⟩
    obtain ⟨q1, q2, us, ws, xs, ys, ev, a1, b1, a2, b2, rfl⟩ := args2 e rps
    exact ⟨q1, q2, us, ws, ev, a1 _ r1.sub, b1 _ r1.sub, G1, S1, xs, ys, r1, a2, b2, le, h⟩
  refine Call_ (ld_blt I hl hml boot_list (PyProof.Rows.callWith_type1 (args_cons (thn (zip2_run (M := fun _ _ us ws H1 => ∃ G1 S1 xs ys, Rep X.K X.mg g G1 σ H1 S1 ∧ RVs X.K X.mg G1 xs us ∧ RVs X.K X.mg G1 ys ws ∧ (zipD xs ys).length ≤ 16777216 ∧ PoN X.K X.mg W g G1 σ (.ok (zipD xs ys) S1) Q) hg hm (ha g) hs hpl I h')
    fun v u ⟨N, q1, q2, us, ws, t1, t2, H1, ev, h1, h2, b1, b2, I1, sz, fo, st, G1, S1, xs, ys, r1, rx, ry, le, hq⟩ => args_nil ?_) na) na))
  subst ev
  obtain ⟨C1, P1, c1, f1, _, d1⟩ := Src.draws I1 h1
  obtain ⟨C2, P2, c2, f2, _, d2⟩ := Src.draws I1 h2
  have n1 : N ∉ q1.fp := fun z => Nat.lt_irrefl _ (b1 _ z)
  have n2 : N + 1 ∉ q2.fp := fun z => Nat.not_succ_lt_self (b2 _ z)
  have lx := rx.length
  have ly := ry.length
  have hA : X.A.handled = none := I1.ok.hd hc
  have lz : (zipD xs ys).length = min us.length ws.length := by rw [zipD_length, lx, ly]
  have Zz := zp2 (S := u.heap.objs.size) (A0 := X.A) hA (zip_sep2 (N := N) b1 b2) (fun A hA => d1 A t1 N hA n1) (fun A hA => d2 A t2 (N + 1) hA n2) (by (first | omega | (show @Ne Nat _ _; omega) | (show @Eq Nat _ _ → False; omega) | (show @LT.lt Nat _ _ _; omega) | (show @LE.le Nat _ _ _; omega) | (show ¬ @LT.lt Nat _ _ _; omega))) (by (first | omega | (show @Ne Nat _ _; omega) | (show @Eq Nat _ _ → False; omega) | (show @LT.lt Nat _ _ _; omega) | (show @LE.le Nat _ _ _; omega) | (show ¬ @LT.lt Nat _ _ _; omega))) (by (first | omega | (show @Ne Nat _ _; omega) | (show @Eq Nat _ _ → False; omega) | (show @LT.lt Nat _ _ _; omega) | (show @LE.le Nat _ _ _; omega) | (show ¬ @LT.lt Nat _ _ _; omega)))
    (out_fp b1 (by omega) (by omega)) (out_fp b2 (by omega) (by omega))
  refine zl_call Zz hA ⟨_, _, _, st.1⟩ (fun b hb => ?_) (by rw [sizeLine_eq]; omega) ⟨st.2.1, ⟨st.2.2.2.1, c1⟩, ⟨st.2.2.2.2, c2⟩, .inl ⟨st.1, st.2.2.1⟩⟩ fun hp tk acc c as rows k hS hr M ea => ?_
  · have e : @Eq Nat b (N + 4) ∨ @Eq Nat b (N + 3) ∨ @Eq Nat b (N) ∨ @Eq Nat b (N + 1) := by simpa using hb
    (first | omega | (show @Ne Nat _ _; omega) | (show @Eq Nat _ _ → False; omega) | (show @LT.lt Nat _ _ _; omega) | (show @LE.le Nat _ _ _; omega) | (show ¬ @LT.lt Nat _ _ _; omega))
  · have I2 : Inv X pins σ H1 { u with heap := hp, toks := tk } := I1.turnedL (t' := tk) (ch := [N + 4, N + 3, N, N + 1]) k fun b hb => fo b (by
      have e : @Eq Nat b (N + 4) ∨ @Eq Nat b (N + 3) ∨ @Eq Nat b (N) ∨ @Eq Nat b (N + 1) := by simpa using hb
      (first | omega | (show @Ne Nat _ _; omega) | (show @Eq Nat _ _ → False; omega) | (show @LT.lt Nat _ _ _; omega) | (show @LE.le Nat _ _ _; omega) | (show ¬ @LT.lt Nat _ _ _; omega)))
    refine zl_fin (vss := zipV us ws) (ds := zipD xs ys) I2 hS ea M (by rw [zipV_length, hr]) (fun j v w e1 e2 => ?_) (by rw [hr, sizeLine_eq]; omega) (fun b hb => fo b (Nat.le_trans (show N ≤ u.heap.objs.size by rw [sz]; exact Nat.le_add_right _ _) hb)) r1 (by rw [zipV_length, lz]) (fun j d e => ?_) hq
    · obtain ⟨x, y, rfl, p1, p2⟩ := M.ok j w e2
      obtain ⟨v1, g1, k1⟩ := f1 _ _ p1
      obtain ⟨v2, g2, k2⟩ := f2 _ _ p2
      rw [zipV_at us ws j v1 v2 g1 g2] at e1
      cases e1
      exact ⟨.cons k1 (.cons k2 .nil), by show 2 ≤ sizeLine; decide⟩
    · obtain ⟨x, y, e1, e2, rfl⟩ := zipD_get xs ys j d e
      obtain ⟨v1, g1, k1⟩ := rx.get e1
      obtain ⟨v2, g2, k2⟩ := ry.get e2
      exact ⟨_, _, rfl, zipV_at us ws j v1 v2 g1 g2, .cons k1 (.cons k2 .nil)⟩
theorem jn_zip3 {e e2 e3 : Expr} {a : MA} {p pos p2 pos2 : Pos} (hc : X.calm = true) (hl : Gl X "list") (hml : X.mg "list" = none) (hg : Gl X "zip") (hm : X.mg "zip" = none) (ha : JA X W [e, e2, e3] a)
    (na : starEach [.Call (.Name "zip" p2) [e, e2, e3] [] pos2] X.env = (false, eval (.Call (.Name "zip" p2) [e, e2, e3] [] pos2) X.env) :: starEach [] X.env := by rfl)
    (hs : starEach [e, e2, e3] X.env = (false, eval e X.env) :: starEach [e2, e3] X.env := by rfl) (hpl : (backTo pos2 (starEach [e2, e3] X.env)).any (·.1) = false := by rfl) :
    JN X W (.Call (.Name "list" p) [.Call (.Name "zip" p2) [e, e2, e3] [] pos2] [] pos) (mListZ zipA3 a) := fun g => by
  refine ⟨fun pins s σ H Q I h => ?_⟩
  obtain ⟨S, G, r, h⟩ := h
  have h' : tA X W g a σ H fun vs H1 => ∃ (q1 q2 q3 : Src) (us ws ts : List V), vs = [q1.val, q2.val, q3.val] ∧ q1.has X.K H1 us ∧ q2.has X.K H1 ws ∧ q3.has X.K H1 ts ∧ ∃ G1 S1 xs ys zs, Rep X.K X.mg g G1 σ H1 S1 ∧ RVs X.K X.mg G1 xs us ∧ RVs X.K X.mg G1 ys ws ∧ RVs X.K X.mg G1 zs ts ∧ (zipD3 xs ys zs).length ≤ 16777216 ∧ PoN X.K X.mg W g G1 σ (.ok (zipD3 xs ys zs) S1) Q := by
    refine ⟨S, G, r, po_listZ h fun ps ds S1 G1 H1 vs e le s1 r1 rps h => ?_⟩
    obtain ⟨q1, q2, q3, us, ws, ts, xs, ys, zs, ev, a1, b1, c1, a2, b2, c2, rfl⟩ := args3 e rps
    exact ⟨q1, q2, q3, us, ws, ts, ev, a1 _ r1.sub, b1 _ r1.sub, c1 _ r1.sub, G1, S1, xs, ys, zs, r1, a2, b2, c2, le, h⟩
  refine Call_ (ld_blt I hl hml boot_list (PyProof.Rows.callWith_type1 (args_cons (thn (zip3_run (M := fun _ _ _ us ws ts H1 => ∃ G1 S1 xs ys zs, Rep X.K X.mg g G1 σ H1 S1 ∧ RVs X.K X.mg G1 xs us ∧ RVs X.K X.mg G1 ys ws ∧ RVs X.K X.mg G1 zs ts ∧ (zipD3 xs ys zs).length ≤ 16777216 ∧ PoN X.K X.mg W g G1 σ (.ok (zipD3 xs ys zs) S1) Q) hg hm (ha g) hs hpl I h')
    fun v u ⟨N, q1, q2, q3, us, ws, ts, t1, t2, t3, H1, ev, h1, h2, h3, b1, b2, b3, I1, sz, fo, st, G1, S1, xs, ys, zs, r1, rx, ry, rz, le, hq⟩ => args_nil ?_) na) na))
  subst ev
  obtain ⟨C1, P1, c1, f1, _, d1⟩ := Src.draws I1 h1
  obtain ⟨C2, P2, c2, f2, _, d2⟩ := Src.draws I1 h2
  obtain ⟨C3, P3, c3, f3, _, d3⟩ := Src.draws I1 h3
  have n1 : N ∉ q1.fp := fun z => Nat.lt_irrefl _ (b1 _ z)
  have n2 : N + 1 ∉ q2.fp := fun z => Nat.not_succ_lt_self (b2 _ z)
  have n3 : N + 2 ∉ q3.fp := fun z => absurd (b3 _ z) (by (first | omega | (show @Ne Nat _ _; omega) | (show @Eq Nat _ _ → False; omega) | (show @LT.lt Nat _ _ _; omega) | (show @LE.le Nat _ _ _; omega) | (show ¬ @LT.lt Nat _ _ _; omega)))
  have lx := rx.length
  have ly := ry.length
  have lv := rz.length
  have hA : X.A.handled = none := I1.ok.hd hc
  have lz : (zipD3 xs ys zs).length = min us.length (min ws.length ts.length) := by rw [zipD3_length, lx, ly, lv]
  have Zz := zp3 (S := u.heap.objs.size) (A0 := X.A) hA (zip_sep3 (N := N) b1 b2 b3) (fun A hA => d1 A t1 N hA n1) (fun A hA => d2 A t2 (N + 1) hA n2) (fun A hA => d3 A t3 (N + 2) hA n3) (by (first | omega | (show @Ne Nat _ _; omega) | (show @Eq Nat _ _ → False; omega) | (show @LT.lt Nat _ _ _; omega) | (show @LE.le Nat _ _ _; omega) | (show ¬ @LT.lt Nat _ _ _; omega))) (by (first | omega | (show @Ne Nat _ _; omega) | (show @Eq Nat _ _ → False; omega) | (show @LT.lt Nat _ _ _; omega) | (show @LE.le Nat _ _ _; omega) | (show ¬ @LT.lt Nat _ _ _; omega))) (by (first | omega | (show @Ne Nat _ _; omega) | (show @Eq Nat _ _ → False; omega) | (show @LT.lt Nat _ _ _; omega) | (show @LE.le Nat _ _ _; omega) | (show ¬ @LT.lt Nat _ _ _; omega)))
    (out_fp b1 (by omega) (by omega)) (out_fp b2 (by omega) (by omega)) (out_fp b3 (by omega) (by omega))
  refine zl_call Zz hA ⟨_, _, _, st.1⟩ (fun b hb => ?_) (by rw [sizeLine_eq]; omega) ⟨st.2.1, ⟨st.2.2.2.1, c1⟩, ⟨st.2.2.2.2.1, c2⟩, ⟨st.2.2.2.2.2, c3⟩, .inl ⟨st.1, st.2.2.1⟩⟩ fun hp tk acc c as rows k hS hr M ea => ?_
  · have e : @Eq Nat b (N + 5) ∨ @Eq Nat b (N + 4) ∨ @Eq Nat b (N) ∨ @Eq Nat b (N + 1) ∨ @Eq Nat b (N + 2) := by simpa using hb
    (first | omega | (show @Ne Nat _ _; omega) | (show @Eq Nat _ _ → False; omega) | (show @LT.lt Nat _ _ _; omega) | (show @LE.le Nat _ _ _; omega) | (show ¬ @LT.lt Nat _ _ _; omega))
  · have I2 : Inv X pins σ H1 { u with heap := hp, toks := tk } := I1.turnedL (t' := tk) (ch := [N + 5, N + 4, N, N + 1, N + 2]) k fun b hb => fo b (by
      have e : @Eq Nat b (N + 5) ∨ @Eq Nat b (N + 4) ∨ @Eq Nat b (N) ∨ @Eq Nat b (N + 1) ∨ @Eq Nat b (N + 2) := by simpa using hb
      (first | omega | (show @Ne Nat _ _; omega) | (show @Eq Nat _ _ → False; omega) | (show @LT.lt Nat _ _ _; omega) | (show @LE.le Nat _ _ _; omega) | (show ¬ @LT.lt Nat _ _ _; omega)))
    refine zl_fin (vss := zipV3 us ws ts) (ds := zipD3 xs ys zs) I2 hS ea M (by rw [zipV3_length, hr]) (fun j v w e1 e2 => ?_) (by rw [hr, sizeLine_eq]; omega) (fun b hb => fo b (Nat.le_trans (show N ≤ u.heap.objs.size by rw [sz]; exact Nat.le_add_right _ _) hb)) r1 (by rw [zipV3_length, lz]) (fun j d e => ?_) hq
    · obtain ⟨x, y, z, rfl, p1, p2, p3⟩ := M.ok j w e2
      obtain ⟨v1, g1, k1⟩ := f1 _ _ p1
      obtain ⟨v2, g2, k2⟩ := f2 _ _ p2
      obtain ⟨v3, g3, k3⟩ := f3 _ _ p3
      rw [zipV3_at us ws ts j v1 v2 v3 g1 g2 g3] at e1
      cases e1
      exact ⟨.cons k1 (.cons k2 (.cons k3 .nil)), by show 3 ≤ sizeLine; decide⟩
    · obtain ⟨x, y, z, e1, e2, e3, rfl⟩ := zipD3_get xs ys zs j d e
      obtain ⟨v1, g1, k1⟩ := rx.get e1
      obtain ⟨v2, g2, k2⟩ := ry.get e2
      obtain ⟨v3, g3, k3⟩ := rz.get e3
      exact ⟨_, _, rfl, zipV3_at us ws ts j v1 v2 v3 g1 g2 g3, .cons k1 (.cons k2 (.cons k3 .nil))⟩
end
end Mw

set_option Elab.async false
set_option linter.all false
set_option maxRecDepth 100000
set_option maxHeartbeats 1000000
/-! Mw, part Q: list comprehensions with two fors. -/
namespace Mw
open PySem PySem.Spec PyProof.Rows L2
/-- the outer turns -/
def lc2L (mt : D → Sg → Option Sg) (tt : MT) (mi1 : MI) (mt1 : D → Sg → Option Sg) (tt1 : MT) (te : ME) (vs vs1 : List Nat) : List D → Sg → Res (List D)
  | [], S => .ok [] S
  | d :: ds, S => match mt d S with
    | none => .bad
    | some S1 => (tt S1).nox.bind fun k S2 => if k then (mi1 S2).nox.bind fun ds1 S3 => (lcL mt1 tt1 te vs1 ds1 (wipeS S3 vs1)).bind fun ys S4 =>
        (lc2L mt tt mi1 mt1 tt1 te vs vs1 ds (wipeS S4 vs)).bind fun xs S5 => .ok (ys ++ xs) S5
      else lc2L mt tt mi1 mt1 tt1 te vs vs1 ds (wipeS S2 vs)
def mLc2 (mi : MI) (mt : D → Sg → Option Sg) (tt : MT) (mi1 : MI) (mt1 : D → Sg → Option Sg) (tt1 : MT) (te : ME) (vs vs1 : List Nat) : MN := fun S => (mi S).bind fun ds S1 => (lc2L mt tt mi1 mt1 tt1 te vs vs1 ds (wipeS S1 vs)).bind fun xs S2 => if sizeOk xs.length then .ok xs (backS S1 S2 vs) else .bad
section
variable {X : Cx} {W : WX}
theorem lcL_nx {mt : D → Sg → Option Sg} {tt : MT} {te : ME} {vs : List Nat} : ∀ (ds : List D) (S : Sg) (c : Str) (S' : Sg), lcL mt tt te vs ds S ≠ .exc c S'
  | [], S, c, S', e => by cases e
  | d :: ds, S, c, S', e => by
    dsimp only [lcL] at e
    split at e
    · cases e
    · rename_i S1 _
      cases h1 : tt S1 with
      | bad => rw [h1] at e; cases e
      | exc c S => rw [h1] at e; cases e
      | ok k S2 =>
        rw [h1] at e
        simp only [Res.nox, Res.bind] at e
        split at e
        · cases h2 : te S2 with
          | bad => rw [h2] at e; cases e
          | exc c S => rw [h2] at e; cases e
          | ok p S3 =>
            rw [h2] at e
            simp only at e
            cases p with
            | s i => cases e
            | d x =>
              simp only at e
              cases h3 : lcL mt tt te vs ds (wipeS S3 vs) with
              | bad => rw [h3] at e; cases e
              | exc c S => exact lcL_nx ds _ _ _ h3
              | ok xs S => rw [h3] at e; cases e
        · exact lcL_nx ds _ _ _ e
theorem lc2L_noexc {mt : D → Sg → Option Sg} {tt : MT} {mi1 : MI} {mt1 : D → Sg → Option Sg} {tt1 : MT} {te : ME} {vs vs1 : List Nat} : ∀ (ds : List D) (S : Sg) (c : Str) (S' : Sg), lc2L mt tt mi1 mt1 tt1 te vs vs1 ds S ≠ .exc c S'
  | [], S, c, S', e => by cases e
  | d :: ds, S, c, S', e => by
    dsimp only [lc2L] at e
    split at e
    · cases e
    · rename_i S1 _
      cases h1 : tt S1 with
      | bad => rw [h1] at e; cases e
      | exc c S => rw [h1] at e; cases e
      | ok k S2 =>
        rw [h1] at e
        simp only [Res.nox, Res.bind] at e
        split at e
        · cases h2 : mi1 S2 with
          | bad => rw [h2] at e; cases e
          | exc c S => rw [h2] at e; cases e
          | ok ds1 S3 =>
            rw [h2] at e
            simp only at e
            cases h3 : lcL mt1 tt1 te vs1 ds1 (wipeS S3 vs1) with
            | bad => rw [h3] at e; cases e
            | exc c S => exact lcL_nx _ _ _ _ h3
            | ok ys S4 =>
              rw [h3] at e
              simp only at e
              cases h4 : lc2L mt tt mi1 mt1 tt1 te vs vs1 ds (wipeS S4 vs) with
              | bad => rw [h4] at e; cases e
              | exc c S => exact lc2L_noexc ds _ _ _ h4
              | ok xs S => rw [h4] at e; cases e
        · exact lc2L_noexc ds _ _ _ e
/-- a list that nobody names grows -/
theorem Rep.grow {g : Gh} {G H : Hp} {σ : St} {S : Sg} {p : Addr} {va wa : List V} (r : Rep X.K X.mg g G σ H S) (h : H p = some (.lst va)) (n : NewAt g G H σ S p) : Rep X.K X.mg g G σ (upd H p (.lst wa)) S := r.upNew _ h (.inl ⟨_, rfl⟩) n
theorem lc2_of {mi mi1 : MI} {mt mt1 : D → Sg → Option Sg} {tt tt1 : MT} {te : ME} {vs vs1 ts ts1 : List Nat} (hts : ∀ i ∈ ts, i ∈ vs) (hts1 : ∀ i ∈ ts1, i ∈ vs1) (hv : ∀ i ∈ vs1, i ∈ vs) {g : Gh} {σ : St} {H : Hp} {Q : VK} (h : tN X W g (mLc2 mi mt tt mi1 mt1 tt1 te vs vs1) σ H Q) {wi wi1 : TI}
    (hwi : ∀ σ H R, tI X W g mi σ H R → wi σ H R) {gg gg1 : TG} (hgg : ∀ g' v σ H R, tG X noW g' ts mt v σ H R → gg v σ H R) {tt' tt1' : TT} (htt : ∀ g' σ H R, tT X noW g' tt σ H R → tt' σ H R) (hwi1 : ∀ g' σ H R, tI X noW g' mi1 σ H R → wi1 σ H R)
    (hgg1 : ∀ g' v σ H R, tG X noW g' ts1 mt1 v σ H R → gg1 v σ H R) (htt1 : ∀ g' σ H R, tT X noW g' tt1 σ H R → tt1' σ H R) {te' : TE} (hte : ∀ g' σ H R, tE X noW g' te σ H R → te' σ H R) :
    tLc2 wi gg tt' wi1 gg1 tt1' te' vs vs1 σ H Q := by
  obtain ⟨S, G, r, h⟩ := h
  refine hwi σ H _ ⟨S, G, r, ?_⟩
  unfold mLc2 at h
  cases e1 : mi S with
  | bad => rw [e1] at h; exact h.elim
  | exc c S1 => rw [e1] at h; exact h
  | ok ds S1 =>
    rw [e1] at h
    simp only [Res.bind] at h
    intro G1 H1 J s1 r1 ok Dd nD
    cases eT : lc2L mt tt mi1 mt1 tt1 te vs vs1 ds (wipeS S1 vs) with
    | bad => rw [eT] at h; exact h.elim
    | exc c S => exact absurd eT (lc2L_noexc _ _ _ _)
    | ok XS SS =>
    rw [eT] at h
    simp only at h
    split at h
    case isFalse => exact h.elim
    case isTrue hz =>
    have hsz := sizeOk_le hz
    obtain ⟨z1, z2, z3, z4⟩ := r1.hnone nD
    obtain ⟨r2, nw2⟩ := r1.newO nD (.lst [])
    have r2' := (r2.wipe vs).reserve (p := Dd) (o := .lst []) upd_same nw2.wipe
    have nwW : ∀ {G' H' : Hp} {σ' : St} {S' : Sg} {va : List V}, Rep X.K X.mg (g.res Dd (.lst va)) G' σ' H' S' → Rep X.K X.mg g G' σ' H' S' ∧ H' Dd = some (.lst va) ∧ NewAt g G' H' σ' S' Dd := fun r => r.unres z2 z1 z4
    let At : List D → Hp → Prop := fun rest H => ∃ S G xa va rs, Sub G1 G ∧ Rep X.K X.mg (g.res Dd (.lst va)) G (L2.wipe σ vs) H S ∧ RVs X.K X.mg G xa va ∧ lc2L mt tt mi1 mt1 tt1 te vs vs1 rest S = .ok rs SS ∧ XS = xa ++ rs
    refine ⟨fun i m H => i + m = ds.length ∧ At (ds.drop i) H, ⟨ds.length, by omega, wipeS S1 vs, G1, [], [], XS, Sub.refl _, r2', .nil, by rw [List.drop_zero]; exact eT, rfl⟩, ?_⟩
    rintro i m H ⟨em, S, G, xa, va, rs, s, r, ra, heq, hXS⟩
    by_cases hl : i < ds.length
    · refine .inr ⟨ok.1 i H (s.trans r.sub) hl, fun H => At (ds.drop (i + 1)) H, fun H' q => ⟨m - 1, by omega, by omega, q⟩, fun x H' y => ?_⟩
      obtain ⟨G2, s2, r2, rv⟩ := ok.go_rep (i := i) (d := ds[i]) s r (List.getElem?_eq_getElem hl) y
      rw [drop_cons hl] at heq
      dsimp only [lc2L] at heq
      refine hgg (g.res Dd (.lst va)) _ _ _ _ ⟨S, G2, ds[i], r2, rv, ?_⟩
      cases e2 : mt ds[i] S with
      | none => rw [e2] at heq; cases heq
      | some S2 =>
        rw [e2] at heq
        simp only at heq
        intro G3 σ3 H3 s3 r3 off
        have off' : Off vs (L2.wipe σ vs) σ3 := off.mono hts
        have eo : L2.wipe (L2.wipe σ vs) vs = L2.wipe σ vs := (Off.of_wipe (σ := σ) (vs := vs)).wipe
        have ew : L2.wipe σ3 vs = L2.wipe σ vs := by rw [off'.wipe]; exact eo
        refine ⟨ew, htt (g.res Dd (.lst va)) _ _ _ ⟨S2, G3, r3, ?_⟩⟩
        cases e3 : tt S2 with
        | bad => rw [e3] at heq; cases heq
        | exc c S3 => rw [e3] at heq; cases heq
        | ok k S3 =>
          rw [e3] at heq
          simp only [Res.nox, Res.bind] at heq
          intro G4 H4 s4 r4
          have sG : Sub G1 G4 := ((s.trans s2).trans s3).trans s4
          have sA : Sub G G4 := (s2.trans s3).trans s4
          cases k with
          | false =>
            rw [if_neg Bool.false_ne_true]
            simp only [Bool.false_eq_true, if_false] at heq
            refine ⟨wipeS S3 vs, G4, xa, va, rs, sG, ?_, ra.mono sA, heq, hXS⟩
            have := r4.wipe vs
            rw [ew] at this
            exact this
          | true =>
            rw [if_pos rfl]
            simp only [if_true] at heq
            refine hwi1 (g.res Dd (.lst va)) _ _ _ ⟨S3, G4, r4, ?_⟩
            cases e4 : mi1 S3 with
            | bad => rw [e4] at heq; cases heq
            | exc c S5 => rw [e4] at heq; cases heq
            | ok ds1 S4 =>
              rw [e4] at heq
              simp only at heq
              intro G5 H5 J1 s5 r5 ok1
              cases e5 : lcL mt1 tt1 te vs1 ds1 (wipeS S4 vs1) with
              | bad => rw [e5] at heq; cases heq
              | exc c S => exact absurd e5 (lcL_nx _ _ _ _)
              | ok ys S5 =>
              rw [e5] at heq
              simp only at heq
              cases e6 : lc2L mt tt mi1 mt1 tt1 te vs vs1 (ds.drop (i + 1)) (wipeS S5 vs) with
              | bad => rw [e6] at heq; cases heq
              | exc c S => exact absurd e6 (lc2L_noexc _ _ _ _)
              | ok ts2 S6 =>
              rw [e6] at heq
              cases heq
              let In : List D → Hp → Prop := fun rest H => ∃ S G xb vb rb, Sub G5 G ∧ Rep X.K X.mg (g.res Dd (.lst vb)) G (L2.wipe σ3 vs1) H S ∧ RVs X.K X.mg G xb vb ∧ lcL mt1 tt1 te vs1 rest S = .ok rb S5 ∧ XS = xb ++ (rb ++ ts2)
              refine ⟨fun j k H => j + k = ds1.length ∧ In (ds1.drop j) H, ⟨ds1.length, by omega, wipeS S4 vs1, G5, xa, va, ys, Sub.refl _, r5.wipe vs1, ra.mono (sA.trans s5), by rw [List.drop_zero]; exact e5, hXS⟩, ?_⟩
              rintro j k H ⟨ek, Sj, Gj, xb, vb, rb, sj, rj, rab, hej, hXj⟩
              by_cases hj : j < ds1.length
              · refine .inr ⟨ok1.1 j H (sj.trans rj.sub) hj, fun H => In (ds1.drop (j + 1)) H, fun H' q => ⟨k - 1, by omega, by omega, q⟩, fun x H' y => ?_⟩
                obtain ⟨Ga, sa, r_a, rv1⟩ := ok1.go_rep (i := j) (d := ds1[j]) sj rj (List.getElem?_eq_getElem hj) y
                rw [drop_cons hj] at hej
                dsimp only [lcL] at hej
                refine hgg1 (g.res Dd (.lst vb)) _ _ _ _ ⟨Sj, Ga, ds1[j], r_a, rv1, ?_⟩
                cases f2 : mt1 ds1[j] Sj with
                | none => rw [f2] at hej; cases hej
                | some Sk =>
                  rw [f2] at hej
                  simp only at hej
                  intro Gb σ4 Hb sb rb' offb
                  have offb' : Off vs1 (L2.wipe σ3 vs1) σ4 := offb.mono hts1
                  have ewb : L2.wipe σ4 vs1 = L2.wipe σ3 vs1 := by rw [offb'.wipe]; exact (Off.of_wipe (σ := σ3) (vs := vs1)).wipe
                  refine ⟨ewb, htt1 (g.res Dd (.lst vb)) _ _ _ ⟨Sk, Gb, rb', ?_⟩⟩
                  cases f3 : tt1 Sk with
                  | bad => rw [f3] at hej; cases hej
                  | exc c S3 => rw [f3] at hej; cases hej
                  | ok kk Sl =>
                    rw [f3] at hej
                    simp only [Res.nox, Res.bind] at hej
                    intro Gc Hc sc rc
                    have sGc : Sub G5 Gc := ((sj.trans sa).trans sb).trans sc
                    have sAc : Sub Gj Gc := (sa.trans sb).trans sc
                    cases kk with
                    | false =>
                      rw [if_neg Bool.false_ne_true]
                      simp only [Bool.false_eq_true, if_false] at hej
                      refine ⟨wipeS Sl vs1, Gc, xb, vb, rb, sGc, ?_, rab.mono sAc, hej, hXj⟩
                      have := rc.wipe vs1
                      rw [ewb] at this
                      exact this
                    | true =>
                      rw [if_pos rfl]
                      simp only [if_true] at hej
                      refine hte (g.res Dd (.lst vb)) _ _ _ ⟨Sl, Gc, rc, ?_⟩
                      cases f4 : te Sl with
                      | bad => rw [f4] at hej; cases hej
                      | exc c Sm => rw [f4] at hej; cases hej
                      | ok p Sm =>
                        rw [f4] at hej
                        simp only [Res.bind] at hej
                        cases p with
                        | s n => cases hej
                        | d xd =>
                          simp only at hej
                          intro Gd Hd yv sd rd rp
                          obtain ⟨re, hDe, nwe⟩ := nwW rd
                          cases f5 : lcL mt1 tt1 te vs1 (ds1.drop (j + 1)) (wipeS Sm vs1) with
                          | bad => rw [f5] at hej; cases hej
                          | exc c S => exact absurd f5 (lcL_nx _ _ _ _)
                          | ok rb2 S7 =>
                            rw [f5] at hej
                            cases hej
                            refine ⟨vb, hDe, ?_, wipeS Sm vs1, Gd, xb ++ [xd], vb ++ [yv], rb2, sGc.trans sd, ?_, (rab.mono (sAc.trans sd)).append (.cons rp .nil), f5, ?_⟩
                            · have lb := rab.length
                              have lx : XS.length = xb.length + (rb2.length + 1 + ts2.length) := by rw [hXj, List.length_append, List.length_append, List.length_cons]
                              omega
                            · have rf := ((re.grow (wa := vb ++ [yv]) hDe nwe).reserve (p := Dd) (o := .lst (vb ++ [yv])) upd_same (nwe.upd nwe.o)).wipe vs1
                              rw [ewb] at rf
                              exact rf
                            · rw [hXj, List.append_assoc]; rfl
              · have ej : j = ds1.length := by omega
                refine .inl ⟨ok1.2.1 j H (sj.trans rj.sub) ej, ?_⟩
                rw [List.drop_eq_nil_of_le (by omega)] at hej
                cases hej
                refine ⟨wipeS S5 vs, Gj, xb, vb, ts2, (sG.trans s5).trans sj, ?_, rab, e6, hXj⟩
                have rw2 := rj.wipe vs
                have ow : Off vs (L2.wipe σ vs) (L2.wipe σ3 vs1) := off'.trans ((Off.of_wipe (σ := σ3) (vs := vs1)).mono hv)
                rw [ow.wipe, eo] at rw2
                exact rw2
    · have ei : i = ds.length := by omega
      refine .inl ⟨ok.2.1 i H (s.trans r.sub) ei, ?_⟩
      rw [List.drop_eq_nil_of_le (by omega)] at heq
      cases heq
      rw [List.append_nil] at hXS
      subst hXS
      obtain ⟨r6, hD6, nw6⟩ := nwW r
      have rb : Rep X.K X.mg g G σ H (backS S1 SS vs) := r1.back s r6
      exact h G H Dd va (s1.trans s) rb hD6 ra nw6.back
section
variable {elt tg iter tg1 iter1 : Expr} {ifs ifs1 : List Expr} {scope : Scope} {own : List (Str × Nat)} {vs1 : List Nat} {pos : Pos} {mi mi1 : MI} {ts ts1 : List Nat} {mt mt1 : D → Sg → Option Sg} {tt tt1 : MT} {te : ME}
/-- [e for t in it for t1 in it1] -/
theorem jn_lc2 (hc : X.calm = true) (hN : X.N.Nodup) (hi : JI X W tg iter mi) (ok : BlkOk X.N X.env.scope scope own)
    (hg : ∀ (s : Shared) (H : Hp) (C : Addr) (cl : List (Str × Addr)) (fp : List Addr), JG (X.blk s H scope (compEnvC scope cl C X.env) fp) noW tg ts mt) (ht : ∀ (s : Shared) (H : Hp) (C : Addr) (cl : List (Str × Addr)) (fp : List Addr), JTs (X.blk s H scope (compEnvC scope cl C X.env) fp) noW ifs tt)
    (hi1 : ∀ (s : Shared) (H : Hp) (C : Addr) (cl : List (Str × Addr)) (fp : List Addr), JI (X.blk s H scope (compEnvC scope cl C X.env) fp) noW tg1 iter1 mi1) (hg1 : ∀ (s : Shared) (H : Hp) (C : Addr) (cl : List (Str × Addr)) (fp : List Addr), JG (X.blk s H scope (compEnvC scope cl C X.env) fp) noW tg1 ts1 mt1)
    (ht1 : ∀ (s : Shared) (H : Hp) (C : Addr) (cl : List (Str × Addr)) (fp : List Addr), JTs (X.blk s H scope (compEnvC scope cl C X.env) fp) noW ifs1 tt1)
    (he : ∀ (s : Shared) (H : Hp) (C : Addr) (cl : List (Str × Addr)) (fp : List Addr), JE (X.blk s H scope (compEnvC scope cl C X.env) fp) noW elt te) (hts : ∀ i ∈ ts, i ∈ own.map (·.2) := by decide) (hts1 : ∀ i ∈ ts1, i ∈ vs1 := by decide) (hv : ∀ i ∈ vs1, i ∈ own.map (·.2) := by decide)
    (hs : ∀ x, foldedSetIterable iter X.env x = pure x := by intro _; rfl) (hs1 : ∀ env x, foldedSetIterable iter1 env x = pure x := by intro _ _; rfl) :
    JN X W (.ListComp elt [⟨tg, iter, ifs, 0⟩, ⟨tg1, iter1, ifs1, 0⟩] scope pos) (mLc2 mi mt tt mi1 mt1 tt1 te (own.map (·.2)) vs1) := fun g => by
  refine ⟨fun pins s σ H Q I h => ?_⟩
  refine (pe_lc2 (vs1 := vs1) (wi := tI X W g mi) (g := fun v σ H R => ∃ g', tG X noW g' ts mt v σ H R) (tt := fun σ H R => ∃ g', tT X noW g' tt σ H R) (wi1 := fun σ H R => ∃ g', tI X noW g' mi1 σ H R) (g1 := fun v σ H R => ∃ g', tG X noW g' ts1 mt1 v σ H R) (tt1 := fun σ H R => ∃ g', tT X noW g' tt1 σ H R) (te := fun σ H R => ∃ g', tE X noW g' te σ H R) hc hN (hi g) ok hv ?_ ?_ ?_ ?_ ?_ ?_ hs hs1).run pins s σ H Q I ?_
  · exact fun s H C cl fp => ⟨fun pins s σ H v u Q I r ⟨g', q⟩ => (hg _ _ _ _ _ g').run pins s σ H v u Q I r q⟩
  · exact fun s H C cl fp => ⟨fun pins s σ H Q I ⟨g', q⟩ => (ht _ _ _ _ _ g').run pins s σ H Q I q⟩
  · exact fun s H C cl fp => ⟨fun pins s σ H R I ⟨g', q⟩ => (hi1 _ _ _ _ _ g').run pins s σ H R I q⟩
  · exact fun s H C cl fp => ⟨fun pins s σ H v u Q I r ⟨g', q⟩ => (hg1 _ _ _ _ _ g').run pins s σ H v u Q I r q⟩
  · exact fun s H C cl fp => ⟨fun pins s σ H Q I ⟨g', q⟩ => (ht1 _ _ _ _ _ g').run pins s σ H Q I q⟩
  · exact fun s H C cl fp => ⟨fun pins s σ H Q I ⟨g', q⟩ => (he _ _ _ _ _ g').run pins s σ H Q I q⟩
  · exact lc2_of hts hts1 hv h (fun _ _ _ z => z) (fun g' _ _ _ _ z => ⟨g', z⟩) (fun g' _ _ _ z => ⟨g', z⟩) (fun g' _ _ _ z => ⟨g', z⟩) (fun g' _ _ _ _ z => ⟨g', z⟩) (fun g' _ _ _ z => ⟨g', z⟩) (fun g' _ _ _ z => ⟨g', z⟩)
/-- y = [..] on one line, as data -/
theorem js_setLc2D {i : Nat} {y : Str} {py spos : Pos} (hc : X.calm = true) (hN : X.N.Nodup) (hi : JI X W tg iter mi) (ok : BlkOk X.N X.env.scope scope own)
    (hg : ∀ (s : Shared) (H : Hp) (C : Addr) (cl : List (Str × Addr)) (fp : List Addr), JG (X.blk s H scope (compEnvC scope cl C X.env) fp) noW tg ts mt) (ht : ∀ (s : Shared) (H : Hp) (C : Addr) (cl : List (Str × Addr)) (fp : List Addr), JTs (X.blk s H scope (compEnvC scope cl C X.env) fp) noW ifs tt)
    (hi1 : ∀ (s : Shared) (H : Hp) (C : Addr) (cl : List (Str × Addr)) (fp : List Addr), JI (X.blk s H scope (compEnvC scope cl C X.env) fp) noW tg1 iter1 mi1) (hg1 : ∀ (s : Shared) (H : Hp) (C : Addr) (cl : List (Str × Addr)) (fp : List Addr), JG (X.blk s H scope (compEnvC scope cl C X.env) fp) noW tg1 ts1 mt1)
    (ht1 : ∀ (s : Shared) (H : Hp) (C : Addr) (cl : List (Str × Addr)) (fp : List Addr), JTs (X.blk s H scope (compEnvC scope cl C X.env) fp) noW ifs1 tt1)
    (he : ∀ (s : Shared) (H : Hp) (C : Addr) (cl : List (Str × Addr)) (fp : List Addr), JE (X.blk s H scope (compEnvC scope cl C X.env) fp) noW elt te)
    (hsw : swapsWith (.ListComp elt [⟨tg, iter, ifs, 0⟩, ⟨tg1, iter1, ifs1, 0⟩] scope pos) (some (.Name y py)) spos.line X.env = pure true) (hy : X.N[i]? = some y := by rfl) (hyl : X.env.scope.names.lookup y = some .local := by rfl)
    (hts : ∀ i ∈ ts, i ∈ own.map (·.2) := by decide) (hts1 : ∀ i ∈ ts1, i ∈ vs1 := by decide) (hv : ∀ i ∈ vs1, i ∈ own.map (·.2) := by decide)
    (hs : ∀ x, foldedSetIterable iter X.env x = pure x := by intro _; rfl) (hs1 : ∀ env x, foldedSetIterable iter1 env x = pure x := by intro _ _; rfl) :
    JS X W (.Assign [.Name y py] (.ListComp elt [⟨tg, iter, ifs, 0⟩, ⟨tg1, iter1, ifs1, 0⟩] scope pos) spos) (mSet i (mDat (mLc2 mi mt tt mi1 mt1 tt1 te (own.map (·.2)) vs1))) := fun g => by
  refine ⟨fun pins s σ H E I h => ?_⟩
  refine (ps_setLc2 (i := i) (vs1 := vs1) (wi := tI X W g mi) (g := fun v σ H R => ∃ g', tG X noW g' ts mt v σ H R) (tt := fun σ H R => ∃ g', tT X noW g' tt σ H R) (wi1 := fun σ H R => ∃ g', tI X noW g' mi1 σ H R) (g1 := fun v σ H R => ∃ g', tG X noW g' ts1 mt1 v σ H R) (tt1 := fun σ H R => ∃ g', tT X noW g' tt1 σ H R) (te := fun σ H R => ∃ g', tE X noW g' te σ H R) hc hN hy hyl hsw (hi g) ok hv ?_ ?_ ?_ ?_ ?_ ?_ hs hs1).run pins s σ H E I ?_
  · exact fun s H C cl fp => ⟨fun pins s σ H v u Q I r ⟨g', q⟩ => (hg _ _ _ _ _ g').run pins s σ H v u Q I r q⟩
  · exact fun s H C cl fp => ⟨fun pins s σ H Q I ⟨g', q⟩ => (ht _ _ _ _ _ g').run pins s σ H Q I q⟩
  · exact fun s H C cl fp => ⟨fun pins s σ H R I ⟨g', q⟩ => (hi1 _ _ _ _ _ g').run pins s σ H R I q⟩
  · exact fun s H C cl fp => ⟨fun pins s σ H v u Q I r ⟨g', q⟩ => (hg1 _ _ _ _ _ g').run pins s σ H v u Q I r q⟩
  · exact fun s H C cl fp => ⟨fun pins s σ H Q I ⟨g', q⟩ => (ht1 _ _ _ _ _ g').run pins s σ H Q I q⟩
  · exact fun s H C cl fp => ⟨fun pins s σ H Q I ⟨g', q⟩ => (he _ _ _ _ _ g').run pins s σ H Q I q⟩
  · refine lc2_of (W := W) hts hts1 hv (Q := fun x H1 => gName i x σ H1 E.nx) ?_ (fun _ _ _ z => z) (fun g' _ _ _ _ z => ⟨g', z⟩) (fun g' _ _ _ z => ⟨g', z⟩) (fun g' _ _ _ z => ⟨g', z⟩) (fun g' _ _ _ _ z => ⟨g', z⟩) (fun g' _ _ _ z => ⟨g', z⟩) (fun g' _ _ _ z => ⟨g', z⟩)
    obtain ⟨S, G, r, h⟩ := h
    refine ⟨S, G, r, ?_⟩
    unfold mSet mDat at h
    cases e1 : mLc2 mi mt tt mi1 mt1 tt1 te (own.map (·.2)) vs1 S with
    | bad => rw [e1] at h; exact h.elim
    | exc c S1 => rw [e1] at h; exact fun G1 H1 => h G1 σ H1
    | ok xs S1 =>
      rw [e1] at h
      intro G1 H1 p vs s1 r1 hp rv nw
      have sb : Sub G1 (upd G1 p (.lst vs)) := Sub.upd_new G1 nw.g0
      exact h _ _ _ (s1.trans sb) ((r1.data hp nw).setD i (.lst upd_same (rv.mono sb)))
end
end
end Mw

set_option Elab.async false
set_option linter.all false
set_option maxRecDepth 100000
set_option maxHeartbeats 1000000
/-! Mw, part R: defs with keyword-only parameters, called with all of them or with none. -/
namespace Mw
open PySem PySem.Spec PyProof.Rows L2
/-- arguments, then more data -/
def mApp (a : MA) (dv : List D) : MA := fun S => (a S).bind fun ps S1 => .ok (ps ++ dv.map P.d) S1
/-- arguments, then the keywords' -/
def mCat (a b : MA) : MA := fun S => (a S).bind fun ps S1 => (b S1).bind fun qs S2 => .ok (ps ++ qs) S2
section
variable {X : Cx} {W : WX}
theorem RPs.app {K : PySem.W.Frag} {mg : Str → Option Value} {G : Hp} {σ : St} : ∀ {ps qs : List P} {vs ws : List V}, RPs K mg G σ ps vs → RPs K mg G σ qs ws → RPs K mg G σ (ps ++ qs) (vs ++ ws)
  | _, _, _, _, .nil, k => k
  | _, _, _, _, .cons h t, k => .cons h (t.app k)
theorem RPs.ofD {K : PySem.W.Frag} {mg : Str → Option Value} {G : Hp} {σ : St} : ∀ {xs : List D} {vs : List V}, RVs K mg G xs vs → RPs K mg G σ (xs.map P.d) vs
  | _, _, .nil => .nil
  | _, _, .cons h t => .cons h (RPs.ofD t)
theorem app_of {a : MA} {dv : List D} {dvs : List V} {g : Gh} {σ : St} {H : Hp} {Q : List V → Hp → Prop} (hd : ∀ G, RVs X.K X.mg G dv dvs) (h : tA X W g (mApp a dv) σ H Q) : tA X W g a σ H (fun vs H1 => Q (vs ++ dvs) H1) := by
  obtain ⟨S, G, r, h⟩ := h
  refine ⟨S, G, r, ?_⟩
  unfold mApp at h
  cases e1 : a S with
  | bad => rw [e1] at h; exact h.elim
  | exc c S1 => rw [e1] at h; exact h
  | ok ps S1 =>
    rw [e1] at h
    exact fun G1 H1 vs s1 r1 rps => h G1 H1 _ s1 r1 (rps.app (RPs.ofD (hd G1)))
theorem cat_of {a b : MA} {g : Gh} {σ : St} {H : Hp} {Q : List V → Hp → Prop} (h : tA X W g (mCat a b) σ H Q) : tA X W g a σ H (fun vs H1 => tA X W g b σ H1 fun zs H2 => Q (vs ++ zs) H2) := by
  obtain ⟨S, G, r, h⟩ := h
  refine ⟨S, G, r, ?_⟩
  unfold mCat at h
  cases e1 : a S with
  | bad => rw [e1] at h; exact h.elim
  | exc c S1 => rw [e1] at h; exact h
  | ok ps S1 =>
    rw [e1] at h
    simp only [Res.bind] at h
    intro G1 H1 vs s1 r1 rps
    refine ⟨S1, G1, r1, ?_⟩
    cases e2 : b S1 with
    | bad => rw [e2] at h; exact h.elim
    | exc c S2 => rw [e2] at h; exact fun G2 H2 s2 r2 => h G2 H2 (s1.trans s2) r2
    | ok qs S2 =>
      rw [e2] at h
      exact fun G2 H2 zs s2 r2 rqs => h G2 H2 (vs ++ zs) (s1.trans s2) r2 ((rps.mono s2).app rqs)
theorem MA.lenApp {a : MA} {n m : Nat} {dv : List D} (h : MA.len a n) (hm : dv.length = m) : MA.len (mApp a dv) (n + m) := fun S ps S1 e => by
  unfold mApp at e
  cases e1 : a S with
  | bad => rw [e1] at e; cases e
  | exc c S2 => rw [e1] at e; cases e
  | ok qs S2 =>
    rw [e1] at e
    cases e
    rw [List.length_append, List.length_map, h S qs _ e1, hm]
theorem MA.lenCat {a b : MA} {n m : Nat} (h : MA.len a n) (k : MA.len b m) : MA.len (mCat a b) (n + m) := fun S ps S1 e => by
  unfold mCat at e
  cases e1 : a S with
  | bad => rw [e1] at e; cases e
  | exc c S2 => rw [e1] at e; cases e
  | ok qs S2 =>
    rw [e1] at e
    simp only [Res.bind] at e
    cases e2 : b S2 with
    | bad => rw [e2] at e; cases e
    | exc c S3 => rw [e2] at e; cases e
    | ok us S3 =>
      rw [e2] at e
      cases e
      rw [List.length_append, h S qs _ e1, k S2 us _ e2]
/-! ### keywords' values -/
def JK (X : Cx) (W : WX) (kws : List Keyword) (m : MA) : Prop := (∀ g, PK X kws (tA X W g m)) ∧ MA.len m kws.length
theorem pk_imp {kws : List Keyword} {t t' : TA} (h : PK X kws t) (k : ∀ σ H Q, t' σ H Q → t σ H Q) : PK X kws t' := ⟨fun pos pins s σ H Q I q => h.run pos pins s σ H Q I (k σ H Q q)⟩
theorem jk_nil : JK X W [] mNil := ⟨fun g => pk_imp pk_nil fun σ H Q ⟨S, G, r, h⟩ => h G H [] (Sub.refl G) r .nil, MA.len0⟩
theorem jk_cons {nm : Option Str} {e : Expr} {kpos : Pos} {kws : List Keyword} {a : ME} {b : MA} (ha : JE X W e a) (hb : JK X W kws b) : JK X W (⟨nm, e, kpos⟩ :: kws) (mCons a b) := by
  refine ⟨fun g => pk_imp (pk_cons (ha g) (hb.1 g)) fun σ H Q h => ?_, MA.len1 hb.2⟩
  obtain ⟨S, G, r, h⟩ := h
  refine ⟨S, G, r, ?_⟩
  unfold mCons at h
  cases e1 : a S with
  | bad => rw [e1] at h; exact h.elim
  | exc c S1 => rw [e1] at h; exact h
  | ok p S1 =>
    rw [e1] at h
    simp only [Res.bind] at h
    intro G1 H1 x s1 r1 rp
    refine ⟨S1, G1, r1, ?_⟩
    cases e2 : b S1 with
    | bad => rw [e2] at h; exact h.elim
    | exc c S2 => rw [e2] at h; exact fun G2 H2 s2 r2 => h G2 H2 (s1.trans s2) r2
    | ok ps S2 =>
      rw [e2] at h
      exact fun G2 H2 vs s2 r2 rps => h G2 H2 (x :: vs) (s1.trans s2) r2 (.cons (rp.mono s2) rps)
/-- f(e, .., k = v, ..), what is raised wished for at the caller's slots -/
theorem pe_callNS {CX : CXT} {k n : Nat} {f : Addr} {fd : FuncData} {ps ks : List Str} {sp : Sp} {E : St → XK} {x : Str} {p pos : Pos} {e : Expr} {es : List Expr} {kws : List Keyword} {t tk : TA} {gg : List Value → List Value → List Value} {gV : List V → List V → List V}
    (F : FnOk X.prog X.w X.K X.mg X.base CX k f fd ps sp) (hr : Room k X.A) (hg : Gl X x) (hm : X.mg x = some (.ref f)) (hk : PySem.W.keepIn X.K (.ref f) = true) (hb : KBn X.K fd ps n ks gg gV) (hx : ∀ σ, PassesAt CX X σ (E σ))
    (ha : PA X (e :: es) t) (hkw : PK X kws tk) (hall : (backToKw pos (keywordEach kws X.env)).all (·.1.isSome) = true) (hks : (backToKw pos (keywordEach kws X.env)).filterMap (·.1) = ks)
    (hdb : (x == ("__debug__" : Str)) = false) (he : starEach (e :: es) X.env = (false, eval e X.env) :: starEach es X.env)
    (hpl : ((backTo pos (starEach (e :: es) X.env)).any (·.1) || (backToKw pos (keywordEach kws X.env)).any (·.1.isNone)) = false) :
    PE X (.Call (.Name x p) (e :: es) kws pos) (fun σ H Q => t σ H fun vs H1 => tk σ H1 fun zs H2 => vs.length = n ∧ zs.length = ks.length ∧ sp (gV vs zs) H2 Q (E σ)) := by
  refine ⟨fun pins s σ H Q I h => ?_⟩
  refine wpAny_Call_Name_kw (ld_glob I hg hm ?_ hdb)
  refine PySem.W.callWith_KW (h₀ := X.base) I.ok.mod.kin hk hall (thn (ha.run pos pins s σ H _ I h) fun us s1 ⟨vs, H1, I1, ra, q⟩ => ?_) hpl he
  refine thn (hkw.run pos pins s1 σ H1 _ I1 q) fun ws s2 ⟨zs, H2, I2, rz, l1, l2, q2⟩ => ⟨I2.kIn, ?_⟩
  rw [hks]
  refine wpAny_call (codeAny_mono (F.run X.A X.stack s2 H2 ⟨us, ks.zip ws⟩ (gg us ws) (gV vs zs) Q (E σ) hr I2.env0 (hb.to s2 us ws I2.kIn (ra.length.symm.trans l1) (rz.length.symm.trans l2)) (hb.rel ra rz) q2) fun out s3 hq => ?_)
  cases out with
  | error x => exact hx σ pins H2 s2 x s3 I2 hq
  | ok fl =>
    cases fl with
    | ret u => exact I2.after hq
    | next => exact hq.elim
    | brk => exact hq.elim
    | cont => exact hq.elim
end
/-- the def named x with keyword-only parameters, as the row has it -/
structure DefK (K : PySem.W.Frag) (mg : Str → Option Value) (x : Str) (st : Stmt) (kws : List (Str × V)) : Prop where
  fd : ∃ fd, FunD K x x (defArgs st) (defBody st) (defScope st) [] kws (He.ga K x) fd
  mg : mg x = some (.ref (He.ga K x))
structure OkK (P : Program) (w : World) (K : PySem.W.Frag) (mg : Str → Option Value) (base : Heap) (k : Nat) (x : Str) (n : Nat) (ks : List Str) (dv : List D) (F : Fn) : Prop where
  ex : ∃ fd ps ds dvs gg, FnOk P w K mg base (L2N.CX P w) k (He.ga K x) fd ps (spF K mg (n + ks.length) F) ∧ Binds K fd ps ds ∧ Vals dvs ds ∧ (∀ G, RVs K mg G dv dvs) ∧ KBn K fd ps n ks gg (fun vs zs => vs ++ zs)
  len : dv.length = ks.length
  mg : mg x = some (.ref (He.ga K x))
  kp : PySem.W.keepIn K (.ref (He.ga K x)) = true
theorem kwInts {K : PySem.W.Frag} {mg : Str → Option Value} {G : Hp} : ∀ l : List (Str × Int), RVs K mg G (l.map fun q => D.int q.2) (l.map ((fun x : Str × V => x.2) ∘ fun q => (q.1, V.int q.2)))
  | [] => .nil
  | q :: l => .cons (.int _) (kwInts l)
theorem okK_of {P : Program} {w : World} {K : PySem.W.Frag} {mg : Str → Option Value} {base : Heap} {x : Str} {st : Stmt} {k n : Nat} {N ps : List Str} {b : MS} {iv : List (Str × Int)} (F : DefK K mg x st (iv.map fun q => (q.1, V.int q.2))) (Sc : FnScope N ps (defScope st)) (hne : iv ≠ [])
    (hn : n + iv.length = ps.length)
    (h0 : ∀ (D : Addr) (doc pm : Value) (an : Option Addr) (cdv ct : Value) (us ws : List Value), us.length = n → ws.length = iv.length →
      KwChain D ((iv.map (·.1)).zip ws) (bindArgs (PySem.W.fnOf x x (defArgs st) (defBody st) (defScope st) .none (.ref D) doc pm an cdv ct) ⟨us, []⟩) (ps.zip (us ++ ws)))
    (h1 : ∀ (kV doc pm : Value) (an : Option Addr) (cdv ct : Value) (us ws : List Value), us.length = n → ws.length = iv.length → bindArgs (PySem.W.fnOf x x (defArgs st) (defBody st) (defScope st) .none kV doc pm an cdv ct) ⟨us, (iv.map (·.1)).zip ws⟩ = pure (ps.zip (us ++ ws)))
    (hb : BodyOk P w K mg base k x st (He.ga K x) N b) :
    OkK P w K mg base (k + 1) x n (iv.map (·.1)) (iv.map fun q => .int q.2) (mkFn N.length b) := by
  obtain ⟨fd, F1⟩ := F.fd
  have ml : (iv.map fun q => (q.1, V.int q.2)).length = iv.length := List.length_map ..
  have m1 : ((iv.map fun q => (q.1, V.int q.2)).map (·.1)) = iv.map (·.1) := by rw [List.map_map]; rfl
  obtain ⟨ds, r, bn⟩ := F1.binds0 (ps := ps) n (fun z => hne (List.map_eq_nil_iff.mp z)) (by rw [ml]; exact hn) (fun D doc pm an cdv ct us ws l1 l2 => by
    rw [m1]
    exact h0 D doc pm an cdv ct us ws l1 (by rw [l2, ml]))
  have fo := fnD_ok F1 Sc hb
  rw [← hn] at fo
  refine ⟨⟨fd, ps, ds, _, fun us ws => us ++ ws, by rw [List.length_map]; exact fo, bn, r, fun G => ?_, ⟨fun s us ws X l1 l2 => ?_, fun r1 r2 => r1.append r2⟩⟩, by rw [List.length_map, List.length_map], F.mg, F1.kp⟩
  · rw [List.map_map]
    exact kwInts iv
  · obtain ⟨oc, od, dV, kV, doc, pm, an, cdv, ct, osl, rfl, lk, hcd, hD, hK⟩ := F1.ex
    rcases hD with ⟨_, rfl⟩ | ⟨e, _⟩
    · exact .of_eq (h1 kV doc pm an cdv ct us ws l1 (by rw [l2, List.length_map]))
    · exact absurd rfl e
section
variable {X : Cx} {W : WX}
/-- f(e, ..): the keyword-only parameters have their defaults -/
theorem je_callKD {F : Fn} {a : MA} {n k : Nat} {x : Str} {ks : List Str} {dv : List D} {p pos : Pos} {e : Expr} {es : List Expr} (ok : OkK X.prog X.w X.K X.mg X.base k x n ks dv F) (hr : Room k X.A) (tk : L2N.Takes X W) (hg : Gl X x) (hn : MA.len a n) (ha : JA X W (e :: es) a) (hdb : (x == ("__debug__" : Str)) = false := by decide)
    (he : starEach (e :: es) X.env = (false, eval e X.env) :: starEach es X.env := by rfl) (hpl : (backTo pos (starEach es X.env)).any (·.1) = false := by rfl) : JE X W (.Call (.Name x p) (e :: es) [] pos) (mCall F (mApp a dv)) := by
  obtain ⟨fd, ps, ds, dvs, gg, h1, h2, h3, h4, h5⟩ := ok.ex
  refine fun g => pe_imp (pe_callSD h1 hr hg ok.mg ok.kp h2 h3 (fun σ => L2N.passAt tk σ) (ha g) hdb he hpl) fun σ H Q h => ?_
  have q := call_of (MA.lenApp hn ok.len) h
  have q2 := app_of h4 (show tA X W g (mApp a dv) σ H _ from q)
  obtain ⟨S, G, r, h⟩ := q2
  refine ⟨S, G, r, ?_⟩
  cases e1 : a S with
  | bad => rw [e1] at h; exact h
  | exc c S1 => rw [e1] at h; exact h
  | ok ps S1 =>
    rw [e1] at h
    intro G1 H1 vs s1 r1 rps
    have z : spF X.K X.mg (n + ks.length) F (vs ++ dvs ++ []) H1 Q (WE W σ) := h G1 H1 vs s1 r1 rps
    rw [List.append_nil] at z
    exact z
/-- f(e, .., k = v, ..): all of them -/
theorem je_callK {F : Fn} {a b : MA} {n k : Nat} {x : Str} {ks : List Str} {dv : List D} {p pos : Pos} {e : Expr} {es : List Expr} {kws : List Keyword} (ok : OkK X.prog X.w X.K X.mg X.base k x n ks dv F) (hr : Room k X.A) (tk : L2N.Takes X W) (hg : Gl X x) (hn : MA.len a n) (ha : JA X W (e :: es) a) (hb : JK X W kws b)
    (hl : kws.length = ks.length := by rfl) (hall : (backToKw pos (keywordEach kws X.env)).all (·.1.isSome) = true := by rfl) (hks : (backToKw pos (keywordEach kws X.env)).filterMap (·.1) = ks := by rfl)
    (hdb : (x == ("__debug__" : Str)) = false := by decide) (he : starEach (e :: es) X.env = (false, eval e X.env) :: starEach es X.env := by rfl)
    (hpl : ((backTo pos (starEach (e :: es) X.env)).any (·.1) || (backToKw pos (keywordEach kws X.env)).any (·.1.isNone)) = false := by rfl) : JE X W (.Call (.Name x p) (e :: es) kws pos) (mCall F (mCat a b)) := by
  obtain ⟨fd, ps, ds, dvs, gg, h1, h2, h3, h4, h5⟩ := ok.ex
  refine fun g => pe_imp (pe_callNS h1 hr hg ok.mg ok.kp h5 (fun σ => L2N.passAt tk σ) (ha g) (hb.1 g) hall hks hdb he hpl) fun σ H Q h => ?_
  have lb : MA.len b ks.length := hl ▸ hb.2
  have q := cat_of (show tA X W g (mCat a b) σ H _ from call_of (MA.lenCat hn lb) h)
  obtain ⟨S, G, r, h⟩ := q
  refine ⟨S, G, r, ?_⟩
  cases e1 : a S with
  | bad => rw [e1] at h; exact h
  | exc c S1 => rw [e1] at h; exact h
  | ok qs S1 =>
    rw [e1] at h
    intro G1 H1 vs s1 r1 rps
    have lv : vs.length = n := by rw [← rps.length]; exact hn S qs S1 e1
    obtain ⟨S', G', r', h'⟩ := h G1 H1 vs s1 r1 rps
    refine ⟨S', G', r', ?_⟩
    cases e2 : b S' with
    | bad => rw [e2] at h'; exact h'
    | exc c S2 => rw [e2] at h'; exact h'
    | ok us S2 =>
      rw [e2] at h'
      intro G2 H2 zs s2 r2 rqs
      have z : spF X.K X.mg (n + ks.length) F (vs ++ zs ++ []) H2 Q (WE W σ) := h' G2 H2 zs s2 r2 rqs
      rw [List.append_nil] at z
      exact ⟨lv, by rw [← rqs.length]; exact lb S' us S2 e2, z⟩
/-- f() -/
theorem je_callO0 {F : Fn} {k : Nat} {x : Str} {p pos : Pos} (ok : Ok X.prog X.w X.K X.mg X.base k x 0 F) (hr : Room k X.A) (tk : L2N.Takes X W) (hg : Gl X x) (hdb : (x == ("__debug__" : Str)) = false := by decide) : JE X W (.Call (.Name x p) [] [] pos) (mCall F mNil) := fun g => by
  obtain ⟨fd, ps, h1, h2⟩ := ok.ex
  refine ⟨fun pins s σ H Q I h => ?_⟩
  obtain ⟨S, G, r, q⟩ := call_of MA.len0 h
  refine wpAny_Call_Name_kw (ld_glob I hg ok.mg ?_ hdb)
  exact PySem.W.callWith_K0 I.kIn ok.kp (run_fnSD (us := []) (vs := []) (E := WE W) h1 hr h2 .nil (L2N.passAt tk σ) I .nil (q G H [] (Sub.refl _) r .nil))
end
end Mw

set_option Elab.async false
set_option linter.all false
set_option maxRecDepth 100000
set_option maxHeartbeats 1000000
/-! Mw, part T: enumerate of lists, tuples, texts. -/
namespace Mw
open PySem PySem.Spec PyProof.Rows L2
/-- enumerate(v) begins -/
theorem enum_new {v : Value} {o : Obj} {H : Heap → Prop} (B : Begins v o H) :
    Meets (Builtin.«enumerate.__new__» ⟨[.type "enumerate", v], []⟩) (fun _ R u => H u.heap ∧ R (.ok (.ret (.ref (u.heap.push o).objs.size)))
      { u with heap := (u.heap.push o).push { cls := .type "enumerate", data := .fields #[.none, .bool false, .ref u.heap.objs.size, rawInt 0, .none, .none] } }) :=
  .of_wp fun prog w A R u h => by
    obtain ⟨h0, g, d, tk, os⟩ := u
    obtain ⟨hH, h⟩ := h
    have hsub := sub_enumerate
    have it : ∀ {A' : Around} {E : Value → Shared → Prop} {Q : Value → Shared → Prop}, Q (.ref h0.objs.size) ⟨h0.push o, g, d, tk, os⟩ → wpAny (model prog w) A' (pyIter v) Q E ⟨h0, g, d, tk, os⟩ := fun q => B.iter prog w _ _ ⟨h0, g, d, tk, os⟩ _ hH q
    wp_walk
    refine wpAny_stack_any fun st => wpAny_pure ?_
    split
    · rename_i c _ _ _ _ _
      cases (c == Value.type "enumerate")
      · wp_walk using it
        exact ⟨_, rfl, h⟩
      · wp_walk using it
        exact ⟨_, rfl, h⟩
    · wp_walk using it
      exact ⟨_, rfl, h⟩
theorem enum_call {prog : Program} {w : World} {A : Around} {E : Value → Shared → Prop} {s : Shared} {v : Value} {o : Obj} {H : Heap → Prop} {Q : Value → Shared → Prop} (B : Begins v o H) (h1 : H s.heap)
    (h : ∀ hp, IsEnum hp (s.heap.objs.size + 1) s.heap.objs.size 0 .none → hp.get? s.heap.objs.size = some o → hp.objs.size = s.heap.objs.size + 2 → (∀ b u, s.heap.get? b = some u → hp.get? b = some u) → Q (.ref (s.heap.objs.size + 1)) { s with heap := hp }) :
    wpAny (model prog w) A (call (.type "enumerate") [v]) Q E s := by
  refine callType_new F.called_enumerate (by decide) (F.typeCall_enumerate_1 _) (F.newCall_enumerate_1 _) (fun obj => F.args_object_init_2 obj _) F.entry_enumerate_new (enum_new B) ⟨h1, ?_⟩
  have sz : (s.heap.push o).objs.size = s.heap.objs.size + 1 := Heap.size_push ..
  show _ ∧ _
  rw [sz]
  have e := Heap.get?_push_size (s.heap.push o) (o := { cls := .type "enumerate", data := .fields #[.none, .bool false, .ref s.heap.objs.size, rawInt 0, .none, .none] }) rfl
  rw [sz] at e
  exact ⟨⟨_, e, rfl⟩, h _ e (Heap.get?_push_of_some _ (Heap.get?_push_size _ B.free)) (by rw [Heap.size_push, sz]) fun b u q => Heap.get?_push_of_some _ (Heap.get?_push_of_some _ q)⟩
def ItE (K : PySem.W.Frag) (q : Src) : It :=
  ⟨fun i H => ∃ xs : List V, q.has K H xs ∧ i < xs.length, fun i H v H' => ∃ T x, v = .ref T ∧ H T = none ∧ H' = upd H T (.tup [.int (i : Nat), x]) ∧ ∀ xs, q.has K H xs → xs[i]? = some x,
    fun i H => ∃ xs : List V, q.has K H xs ∧ i = xs.length⟩
def tnE (N : Nat) (q : Src) (t : Tok) (i : Nat) (h : Heap) : Prop := (∃ old, IsEnum h (N + 1) N ((i : Nat) : Int) old) ∧ q.at t N i h
theorem turnE {P : Program} {w : World} {K : PySem.W.Frag} {elts : List Expr} {kk : Nat} {tpos : Pos} {N : Nat} {q : Src} {t : Tok} (b1 : ∀ b ∈ q.fp, b < N) : Turn P w K (.Tuple elts kk tpos) (ItE K q) [N + 1, N] (N + 1) (tnE N q t) where
  mem := by simp
  obj := fun i h st c hc => by
    obtain ⟨⟨old, he⟩, a1⟩ := st
    have e : @Eq Nat c (N + 1) ∨ @Eq Nat c N := by simpa using hc
    rcases e with rfl | rfl
    · exact ⟨_, he, fun v z => nomatch z⟩
    · exact Src.at_obj a1
  keep := fun i h h' st k => by
    obtain ⟨⟨old, he⟩, a1⟩ := st
    exact ⟨⟨old, k _ (by simp) _ he⟩, Src.at_keep a1 fun o => k _ (by simp) o⟩
  item := by
    intro Y e1 e2 e3 cm j pn u τ Hh Ex J fo st go
    subst e1 e2 e3
    obtain ⟨⟨old, he⟩, a1⟩ := st
    obtain ⟨xs, hx, l1⟩ := go
    obtain ⟨C1, P1, c1, f1, _, d1⟩ := Src.draws J hx
    have hA : Y.A.in1.handled = none := J.ok.hd cm
    have n1 : N ∉ q.fp := fun z => Nat.lt_irrefl _ (b1 _ z)
    have zl : N + 1 < u.heap.objs.size := Heap.lt_size he
    refine wpAny_pyNext_enum_itemC (d1 _ t N hA n1) he ⟨a1, c1⟩ l1 (by (first | omega | (show @Ne Nat _ _; omega) | (show @Eq Nat _ _ → False; omega) | (show @LT.lt Nat _ _ _; omega) | (show @LE.le Nat _ _ _; omega) | (show ¬ @LT.lt Nat _ _ _; omega))) (out_fp b1 (by omega) (by omega)) fun x hp tk p1 o' s1 hT sz k => ?_
    refine ⟨_, rfl, wpAny_letOwnedTupleGo_enum (s := { u with heap := hp, toks := tk + 1 }) o' fun h2 e2 sb => ?_⟩
    obtain ⟨v1, g1, r1⟩ := f1 _ _ p1
    have T2 : h2.get? u.heap.objs.size = some { cls := .type "tuple", data := .seq #[.int j tk, x] } := (sb.2 _ (by (first | omega | (show @Ne Nat _ _; omega) | (show @Eq Nat _ _ → False; omega) | (show @LT.lt Nat _ _ _; omega) | (show @LE.le Nat _ _ _; omega) | (show ¬ @LT.lt Nat _ _ _; omega)))).trans hT
    have new : ObjOk Y.prog Y.w (upd Hh u.heap.objs.size (.tup [.int (j : Nat), v1])) h2 u.heap.objs.size (.tup [.int (j : Nat), v1]) := ⟨by show 2 ≤ sizeLine; decide, [.int j tk, x], .cons ⟨_, rfl⟩ (.cons r1 .nil), ⟨_, T2, rfl, _, rfl⟩⟩
    have J1 : Inv Y pn τ (upd Hh u.heap.objs.size (.tup [.int (j : Nat), v1])) { u with heap := h2, toks := tk + 1 } :=
      J.turnedNew (t' := tk + 1) (ch := [N + 1, N]) (fun c o nb e => by
        simp only [List.mem_cons, List.not_mem_nil, or_false, not_or] at nb
        exact (sb.2 c nb.1).trans (k c o nb.1 nb.2 e)) fo (Nat.le_refl _) new
    refine ⟨.ref u.heap.objs.size, _, J1, rfl, ⟨_, v1, rfl, J.hok.fresh (Nat.le_refl _), rfl, fun l hl => by rw [Src.inj J hl hx]; exact g1⟩, ⟨⟨x, ?_⟩, ?_⟩, fun c hc => ?_⟩
    · have e : ((j + 1 : Nat) : Int) = (j : Int) + 1 := by omega
      rw [e]
      exact e2
    · exact Src.at_keep s1.1 fun o e => (sb.2 _ (by (first | omega | (show @Ne Nat _ _; omega) | (show @Eq Nat _ _ → False; omega) | (show @LT.lt Nat _ _ _; omega) | (show @LE.le Nat _ _ _; omega) | (show ¬ @LT.lt Nat _ _ _; omega)))).trans e
    · have lt : c < u.heap.objs.size := by
        have e : @Eq Nat c (N + 1) ∨ @Eq Nat c N := by simpa using hc
        (first | omega | (show @Ne Nat _ _; omega) | (show @Eq Nat _ _ → False; omega) | (show @LT.lt Nat _ _ _; omega) | (show @LE.le Nat _ _ _; omega) | (show ¬ @LT.lt Nat _ _ _; omega))
      rw [upd_ne (Nat.ne_of_lt lt)]
      exact (fo c hc).1
  done := by
    intro Y e1 e2 e3 cm j pn u τ Hh Ex J fo st go
    subst e1 e2 e3
    obtain ⟨⟨old, he⟩, a1⟩ := st
    obtain ⟨xs, hx, en⟩ := go
    obtain ⟨C1, P1, c1, f1, _, d1⟩ := Src.draws J hx
    have hA : Y.A.in1.handled = none := J.ok.hd cm
    have n1 : N ∉ q.fp := fun z => Nat.lt_irrefl _ (b1 _ z)
    subst en
    refine wpAny_pyNext_enum_endD (d1 _ t N hA n1) he ⟨a1, c1⟩ fun hp k => ⟨rfl, J.turnedL (t' := u.toks) (ch := [N + 1, N]) (fun c o nb e => ?_) fo⟩
    simp only [List.mem_cons, List.not_mem_nil, or_false, not_or] at nb
    exact k c o nb.2 e
  self := fun A i s Q E st h => let ⟨⟨_, he⟩, _⟩ := st; wpAny_pyIter_enum he h
theorem pi_enumA {X : Cx} {e : Expr} {ta : TA} {p pos tpos : Pos} {elts : List Expr} {kk : Nat} (hg : Gl X "enumerate") (hm : X.mg "enumerate" = none) (ha : PA X [e] ta) (hs : starEach [e] X.env = [(false, eval e X.env)]) :
    PI X (.Tuple elts kk tpos) (.Call (.Name "enumerate" p) [e] [] pos) (fun σ H R => ta σ H fun vs H1 => ∃ q xs, vs = [Src.val q] ∧ q.has X.K H1 xs ∧ R (ItE X.K q) H1) := by
  refine ⟨fun pins s σ H R I h => ?_⟩
  refine Call_ (ld_blt I hg hm boot_enumerate (PyProof.Rows.callWith_type1 (thn (ha.run pos pins s σ H _ I h) fun us s1 ⟨vs, H1, I1, r1, w⟩ => ?_) hs rfl))
  obtain ⟨q, xs, rfl, h1, m⟩ := w
  cases r1 with
  | cons ra rr =>
    cases rr
    obtain ⟨t1, B1, g1, k1⟩ := Src.begins I1 h1 ra
    refine enum_call g1 k1 fun hp he o1 sz k => wpAny_pyIter_enum he ⟨s1.heap.objs.size + 1, [s1.heap.objs.size + 1, s1.heap.objs.size], _, _, H1, rfl, I1.kept (t' := s1.toks) k, turnE (N := s1.heap.objs.size) (Src.low I1 h1), ⟨⟨_, he⟩, q.at_new o1⟩, fun b hb => ?_, m⟩
    have hb : s1.heap.objs.size ≤ b := by
      have e : @Eq Nat b (s1.heap.objs.size + 1) ∨ @Eq Nat b s1.heap.objs.size := by simpa using hb
      (first | omega | (show @Ne Nat _ _; omega) | (show @Eq Nat _ _ → False; omega) | (show @LT.lt Nat _ _ _; omega) | (show @LE.le Nat _ _ _; omega) | (show ¬ @LT.lt Nat _ _ _; omega))
    exact I1.fpOk hb (I1.hok.fresh hb)
def enumA : List P → Option (List D)
  | [p] => (seqItems p).map (enumD 0)
  | _ => none
theorem itok_E {K : PySem.W.Frag} {mg : Str → Option Value} {G : Hp} {q : Src} {vs : List V} {xs : List D} (h : ∀ H, Sub G H → q.has K H vs) (r : RVs K mg G xs vs) : ItOk K mg G (ItE K q) (enumD 0 xs) := by
  have l1 := r.length
  refine ⟨fun i H s hi => ?_, fun i H s hi => ?_, fun i H x H' d s e y => ?_⟩
  · rw [enumD_length] at hi
    exact ⟨vs, h H s, by omega⟩
  · rw [enumD_length] at hi
    exact ⟨vs, h H s, by omega⟩
  · obtain ⟨T, x', rfl, nT, rfl, f1⟩ := y
    obtain ⟨z, e1, rfl⟩ := enumD_get xs 0 i d e
    obtain ⟨v, e2, rv⟩ := r.get e1
    have q1 := f1 vs (h H s)
    rw [e2] at q1
    cases q1
    exact .inr ⟨T, _, _, nT, rfl, rfl, rfl, .cons (by rw [Nat.zero_add]; exact .int _) (.cons rv .nil)⟩
theorem ji_enumA {X : Cx} {W : WX} {e : Expr} {a : MA} {p pos tpos : Pos} {elts : List Expr} {kk : Nat} (hg : Gl X "enumerate") (hm : X.mg "enumerate" = none) (ha : JA X W [e] a) (hs : starEach [e] X.env = [(false, eval e X.env)] := by rfl) :
    JI X W (.Tuple elts kk tpos) (.Call (.Name "enumerate" p) [e] [] pos) (mItA enumA a) := fun g => by
  refine pi_imp (pi_enumA hg hm (ha g) hs) fun σ H R h => ?_
  obtain ⟨S, G, r, h⟩ := h
  refine ⟨S, G, r, po_itA h fun ps ds S1 G1 H1 vs e s1 r1 rps h => ?_⟩
  unfold enumA at e
  split at e
  · rename_i p
    cases e1 : seqItems p with
    | none => rw [e1] at e; cases e
    | some xs =>
      rw [e1] at e
      cases e
      obtain ⟨d, rfl⟩ := seqItems_d e1
      cases rps with
      | cons hx t =>
        cases t
        obtain ⟨q, us, rfl, a1, a2⟩ := src_of hx e1
        exact ⟨q, us, rfl, a1 _ r1.sub, h _ (itok_E a1 a2)⟩
  · cases e
end Mw

set_option Elab.async false
set_option linter.all false
set_option maxRecDepth 100000
set_option maxHeartbeats 1000000
/-! Mw, part U: sorted of a tuple. -/
namespace Mw
open PySem PySem.Spec PyProof.Rows L2
open PySem.W (EachIs AllAlike Sortable dataLe)
section
variable {prog : Program} {w : World} {A : Around} {E : Value → Shared → Prop} {s : Shared}
/-- a tuple's items gathered -/
theorem collect_tup {t : Addr} {us : List Value} {Q : List Value → Shared → Prop} (ht : s.heap.IsTuple t us.toArray) (hn : us.length ≤ sizeLine) (h : Q us { s with heap := (s.heap.push (seqObj "list" #[] 0)).update s.heap.objs.size (Obj.mapSeq (· ++ us.toArray)) }) :
    wpAny (model prog w) A (collect (.ref t)) Q E s := by
  obtain ⟨o, ho, hc, n, hd⟩ := id ht
  unfold collect
  refine wpAny_bind (wpAny_runValue (codeAny_builtin entry_proto_collect' ?_))
  show wpAny _ _ (do again (.builtin "list.__iadd__" ⟨[← newList [], .ref t], []⟩)) _ _ s
  refine wpAny_bind (wpAny_newList (wpAny_pure ⟨Code.quiet_builtin _ (by decide +kernel), codeAny_builtin entry_list_iadd' ?_⟩))
  show wpAny _ _ (Builtin.List.listExtendWith (.ref s.heap.objs.size) (.ref t) (.ref s.heap.objs.size)) _ _ { s with heap := s.heap.push (seqObj "list" #[] 0) }
  unfold Builtin.List.listExtendWith
  have to : (s.heap.push (seqObj "list" #[] 0)).get? t = some o := Heap.get?_push_of_some _ ho
  refine wpAny_bind (wpAny_typeOf (T := "tuple") ⟨o, to, hc⟩ ?_)
  have eq : (Value.type "tuple" == Value.type "tuple") = true := by rfl
  rw [if_pos (by rw [eq]; simp)]
  refine wpAny_bind (listItems_at to hd (wpAny_bind (listItems_at (xs := #[]) (n := 0) (Heap.get?_push_size _ rfl) rfl ?_)))
  rw [if_neg (by simp)]
  refine wpAny_bind (listUpdate_at (xs := #[]) (n := 0) (Heap.get?_push_size _ rfl) rfl (wpAny_pure ?_) (Nat.zero_le _) (by show (#[] ++ us.toArray).size ≤ sizeLine + 1; simp only [Array.size_append, List.size_toArray, List.length_nil]; omega))
  refine wpAny_bind (wpAny_load (get?_update_seq (Heap.get?_push_size _ rfl) _) ?_)
  show wpAny _ _ (pure ((#[] : Array Value) ++ us.toArray).toList) Q E _
  have el : ((#[] : Array Value) ++ us.toArray).toList = us := by simp
  rw [el]
  exact wpAny_pure h
theorem sorted_tup {β : Type} {us : List Value} {bs : List β} {enc : β → PyData} {R : Value → β → Prop} {t : Addr} {Q : Value → Shared → Prop}
    (ht : s.heap.IsTuple t us.toArray) (e : EachIs R us bs) (er : EachIs (fun v b => ∃ as, Reads s.heap v (enc b) as) us bs) (hal : AllAlike (bs.map enc)) (hk : Sortable (bs.map enc)) (hL : bs.length ≤ sizeLine) (hu : ∀ b, b ∈ bs → A.units + 2 + (enc b).depth < cLine)
    (h : ∀ out, out.length = bs.length → EachIs R out (bs.mergeSort (dataLe false enc)) → Q (.ref (s.heap.objs.size + 1)) { s with heap := sortedAll s.heap us (List.toArray out) }) :
    wpAny (model prog w) A (call (.builtin "sorted") [.ref t]) Q E s := by
  have hl : us.length = bs.length := e.length
  have er1 : EachIs (fun v b => ∃ as, Reads (PySem.W.sortingHeap (PySem.W.copyHeap s.heap us) (s.heap.objs.size + 1) us) v (enc b) as) us bs := er.mono fun _ _ ⟨as, r⟩ => ⟨as, PyProof.Rows.Reads.keeps (fun _ _ => PySem.W.sorting_copy_old) r⟩
  have srt := PySem.W.SortsAt.data (prog := prog) (w := w) (A := A.in1.in1) (s := { s with heap := PySem.W.sortingHeap (PySem.W.copyHeap s.heap us) (s.heap.objs.size + 1) us }) (PySem.W.each_map (R := fun v d => ∃ as, Reads (PySem.W.sortingHeap (PySem.W.copyHeap s.heap us) (s.heap.objs.size + 1) us) v d as) enc er1) hal hk (PySem.W.bound_map hu)
  refine call_function_entry_kw kind_sorted plain_sorted entry_sorted (args_sorted1 _) ?_
  unfold Builtin.«sorted»
  refine wpAny_bind (m := checkCount "sorted" 1 1 _) (wpAny_pure (wpAny_bind (collect_tup ht (by rw [hl]; exact hL) (wpAny_bind (wpAny_newList ?_ (by rw [hl]; exact hL))))))
  have sz : ((s.heap.push (seqObj "list" #[] 0)).update s.heap.objs.size (Obj.mapSeq (· ++ us.toArray))).objs.size = s.heap.objs.size + 1 := by rw [Heap.size_update, size_push']
  show wpAny _ _ _ _ _ { s with heap := PySem.W.copyHeap s.heap us }
  rw [sz]
  refine wpAny_bind (wpAny_holding (wpAny_call_entry_kw slot_list_sort ⟨_, PySem.W.copyHeap_at s.heap us, rfl⟩ entry_list_sort ?_ (args_list_sort _)))
  refine wpAny_mono (PySem.W.list_sort_vals (A := A.in1.in1) (s := { s with heap := PySem.W.copyHeap s.heap us }) (P := fun f u => f = .done (.ret .none) ∧ Q (.ref (s.heap.objs.size + 1)) u) (PySem.W.copyHeap_at s.heap us) srt (by rw [hl]; exact hL)
    ⟨rfl, h _ (by rw [PySem.W.sortVals_length false rfl]; exact hl) (PySem.W.sortVals_data false e er1 hal)⟩) (fun f u hf => ?_) fun _ _ z => z
  obtain ⟨rfl, hq⟩ := hf
  exact ⟨_, rfl, wpAny_pure ⟨_, rfl, hq⟩⟩
end
def bSortedA (S : Sg) : List P → Option (List D)
  | [.d (.tup xs)] => sortD xs xs
  | [p] => (lstOf S p).bind fun xs => sortD xs xs
  | _ => none
theorem c_sortedA {X : Cx} (hv : X.A.units + 65 < cLine) : CallR X (.builtin "sorted") (rCN X bSortedA) := by
  intro pins s σ H vs us Q I rx k
  obtain ⟨g, G, σ', S, ps, ys, r, rps, e, k⟩ := k
  unfold bSortedA at e
  split at e
  · rename_i xs
    cases rps with
    | cons h t =>
    cases t
    cases h with
    | tup hq rv =>
    cases rx with
    | cons rx rt =>
    cases rt
    cases rx
    unfold sortD at e
    split at e
    case isFalse => cases e
    rename_i hok
    cases e
    obtain ⟨k1, k2, k3, k4⟩ := keysOk_ok hok
    obtain ⟨its, rits, pl, hz⟩ := I.tuple (r.sub.sqT hq)
    have em : xs.map D.py = pys xs := (pys_map xs).symm
    have dp := RVs.dp r.sub rv k3
    have un : X.A.units + 65 < cLine := hv
    refine sorted_tup (bs := xs) (enc := D.py) (R := fun u (x : D) => ∃ v, RelV v u ∧ RV X.K X.mg G x v) pl (each_one rits rv) (reads_each I dp rits) (by rw [em]; exact k1) (by rw [em]; exact k2) (by rw [rv.length]; exact hz)
      (fun b hb => by
        have := k4 b.py (by rw [← em]; exact List.mem_map.mpr ⟨b, hb, rfl⟩)
        omega) fun out hol each => ?_
    obtain ⟨zs, w1, w2⟩ := out_one each
    rw [← zip_same_sort, ← isort_eq (dataLe_total _)] at w2
    obtain ⟨ep, he⟩ := PyProof.Rows.sortedAll_at s.heap its out.toArray
    have np := I.hok.fresh (Nat.le_succ s.heap.objs.size)
    obtain ⟨r5, nw⟩ := r.newO np (.lst zs)
    refine ⟨.ref (s.heap.objs.size + 1), upd H (s.heap.objs.size + 1) (.lst zs), I.laid (t' := s.toks) (fun b o e => PyProof.Rows.sortedAll_old e) (Nat.le_succ _) ⟨by rw [w1.length, hol, rv.length]; exact hz, out, ep, w1, he⟩, rfl, k G _ _ zs (Sub.refl _) r5 upd_same w2 nw⟩
  · rename_i p _
    refine c_sorted hv pins s σ H vs us Q I rx ⟨g, G, σ', S, [p], ys, r, rps, e, k⟩
  · cases e
end Mw

set_option Elab.async false
set_option linter.all false
set_option maxRecDepth 100000
set_option maxHeartbeats 1000000
/-! Mw, part V: isinstance with two types; defs that call themselves. -/
namespace Mw
open PySem PySem.Spec PyProof.Rows L2
section
variable {X : Cx} {W : WX}
def isi2P (T U : Ty) (S : Sg) (p : P) : Option D := (tyOf S p).map fun t => .bl (t.sub T || t.sub U)
theorem je_isi2 {T U : Ty} {e : Expr} {a : ME} {tn un : Str} {p p2 p3 pos tpos : Pos} {kk : Nat} (hg : Gl X "isinstance") (hm : X.mg "isinstance" = none) (hg2 : Gl X tn) (hm2 : X.mg tn = none) (hv2 : bootBuiltins tn = some (.type T.nm)) (hg3 : Gl X un) (hm3 : X.mg un = none) (hv3 : bootBuiltins un = some (.type U.nm)) (ha : JE X W e a)
    (hn2 : tn ≠ "__name__" := by decide) (hd2 : (tn == ("__debug__" : Str)) = false := by decide) (hn3 : un ≠ "__name__" := by decide) (hd3 : (un == ("__debug__" : Str)) = false := by decide)
    (hs : starEach [e, .Tuple [.Name tn p2, .Name un p3] kk tpos] X.env = (false, eval e X.env) :: starEach [.Tuple [.Name tn p2, .Name un p3] kk tpos] X.env := by rfl)
    (hs1 : starEach [.Tuple [.Name tn p2, .Name un p3] kk tpos] X.env = (false, eval (.Tuple [.Name tn p2, .Name un p3] kk tpos) X.env) :: starEach [] X.env := by rfl)
    (hs2 : starEach [.Name tn p2, .Name un p3] X.env = (false, eval (.Name tn p2) X.env) :: starEach [.Name un p3] X.env := by rfl) (hs3 : starEach [.Name un p3] X.env = (false, eval (.Name un p3) X.env) :: starEach [] X.env := by rfl)
    (hpl : (backTo pos (starEach [.Tuple [.Name tn p2, .Name un p3] kk tpos] X.env)).any (·.1) = false := by rfl) (hv : bootBuiltins "isinstance" = some (.builtin "isinstance") := by decide +kernel) :
    JE X W (.Call (.Name "isinstance" p) [e, .Tuple [.Name tn p2, .Name un p3] kk tpos] [] pos) (mUn (isi2P T U) a) := fun g => by
  refine pe_imp (pe_callB call_isiT hg hm hv (pa_cons (ha g) (pa_cons (pe_tup (pa_cons (pe_bltn (v := .ty T.nm) hg2 hm2 hv2 rfl hn2 hd2) (pa_cons (pe_bltn (v := .ty U.nm) hg3 hm3 hv3 rfl hn3 hd3) pa_nil hs3) hs2)) pa_nil hs1) hs) (by decide) (by decide) hs hpl) fun σ H Q h => ?_
  obtain ⟨S, G, r, h⟩ := h
  refine ⟨S, G, r, po_bindE h fun q S1 G1 H1 x s1 r1 rp h => ?_⟩
  unfold isi2P at h
  cases e2 : tyOf S1 q with
  | none => rw [e2] at h; exact h.elim
  | some t =>
    rw [e2] at h
    refine ⟨by show 2 ≤ sizeLine; decide, fun tp np => ?_⟩
    obtain ⟨r2, nw⟩ := r1.newO np (.tup [.ty T.nm, .ty U.nm])
    refine ⟨x, tp, [.ty T.nm, .ty U.nm], .type t.nm, [.type T.nm, .type U.nm], t.sub T || t.sub U, rfl, upd_same, .cons (.ty _) (.cons (.ty _) .nil), tyOf_ok r2 rp e2, ?_, h G1 _ _ (Sub.refl _) r2 (.bl _)⟩
    refine kitAny_cons (kit_ty (Ty.kit t T)) (fun b => ?_) (fun b => by rw [b]; rfl)
    rw [b, Bool.false_or]
    refine kitAny_cons (kit_ty (Ty.kit t U)) (fun b => ?_) (fun b => b)
    rw [b]
    exact kitAny_nil
theorem jss_bad {ss : List Stmt} : JSs X W ss mBad := fun g => ⟨fun _ _ _ _ _ _ ⟨_, _, _, h⟩ => h.elim⟩
end
end Mw

set_option Elab.async false
set_option linter.all false
set_option maxRecDepth 100000
set_option maxHeartbeats 1000000
/-! Mw, part W: dicts that a def changes; d[k], k in d, d.get(k, x). -/
namespace Mw
open PySem PySem.Spec PyProof.Rows L2
section
variable {X : Cx} {W : WX}
/-- x = {} -/
def mSetM0 (i : Nat) : MS := fun S => .ok .nx (S.set i (.m false []))
theorem js_setM0 {i : Nat} {x : Str} {dpos pos pos' : Pos} (hN : X.N.Nodup) (hi : X.N[i]? = some x := by rfl) (hx : Loc X.env.scope x := by first | exact Or.inl rfl | exact Or.inr rfl)
    (hs : swapsWith (.Dict [] [] dpos) (some (.Name x pos')) pos.line X.env = pure false := by rfl) (hf : X.fn x = true ∨ X.env.scope.names.lookup x = some .local := by first | exact .inl rfl | exact .inr rfl) : JS X W (.Assign [.Name x pos'] (.Dict [] [] dpos) pos) (mSetM0 i) := fun g => by
  refine ps_imp (ps_set hN hi hx pe_dnewK hs hf) fun E σ H h => ?_
  obtain ⟨S, G, r, h⟩ := h
  intro p np
  obtain ⟨r1, nw⟩ := r.newO np (.dK [])
  exact h G _ _ (Sub.refl _) (r1.setM i upd_same .nil nw)
/-- x = {k: v} -/
def mSetM1 (i : Nat) (k a : ME) : MS := fun S => (k S).bind fun q S1 => (a S1).bind fun p S2 => match keyP q, p with
  | some key, .d x => .ok .nx (S2.set i (.m false [(key, x)]))
  | _, _ => .bad
theorem js_setM1 {i : Nat} {x : Str} {ek ev : Expr} {k a : ME} {dpos pos pos' : Pos} (hN : X.N.Nodup) (hk : JE X W ek k) (ha : JE X W ev a) (hi : X.N[i]? = some x := by rfl) (hx : Loc X.env.scope x := by first | exact Or.inl rfl | exact Or.inr rfl)
    (hs : swapsWith (.Dict [some ek] [ev] dpos) (some (.Name x pos')) pos.line X.env = pure false := by rfl) (hf : X.fn x = true ∨ X.env.scope.names.lookup x = some .local := by first | exact .inl rfl | exact .inr rfl) : JS X W (.Assign [.Name x pos'] (.Dict [some ek] [ev] dpos) pos) (mSetM1 i k a) := fun g => by
  have ek' : PE X ek (fun σ H R => ∃ g', tE X W g' k σ H R) := ⟨fun pins s σ H Q I ⟨g', q⟩ => (hk g').run pins s σ H Q I q⟩
  have ev' : PE X ev (fun σ H R => ∃ g', tE X W g' a σ H R) := ⟨fun pins s σ H Q I ⟨g', q⟩ => (ha g').run pins s σ H Q I q⟩
  refine ps_imp (ps_set hN hi hx (pe_disp (pps_cons ek' ev' pps_nil) rfl rfl (by simp) (by show 1 ≤ 15; decide)) hs hf) fun E σ H h => ?_
  obtain ⟨S, G, r, h⟩ := h
  intro p np
  obtain ⟨z1, z2, z3, z4⟩ := r.hnone np
  obtain ⟨r2, nw⟩ := r.newO np (.dK [])
  have r3 := r2.reserve (p := p) (o := .dK []) upd_same nw
  have back : ∀ {G' H' : Hp} {S' : Sg}, Rep X.K X.mg (g.res p (.dK [])) G' σ H' S' → Rep X.K X.mg g G' σ H' S' ∧ H' p = some (.dK []) ∧ NewAt g G' H' σ S' p := fun r => r.unres z2 z1 z4
  refine ⟨g.res p (.dK []), S, G, r3, ?_⟩
  unfold mSetM1 at h
  cases e1 : k S with
  | bad => rw [e1] at h; exact h.elim
  | exc c S1 => rw [e1] at h; exact fun G1 H1 s1 r1 => h G1 σ H1 s1 (back r1).1
  | ok q S1 =>
    rw [e1] at h
    simp only [Res.bind] at h
    intro G1 H1 v s1 r1 rq
    refine ⟨g.res p (.dK []), S1, G1, r1, ?_⟩
    cases e2 : a S1 with
    | bad => rw [e2] at h; exact h.elim
    | exc c S2 => rw [e2] at h; exact fun G2 H2 s2 r2 => h G2 σ H2 (s1.trans s2) (back r2).1
    | ok pv S2 =>
      rw [e2] at h
      simp only at h
      intro G2 H2 w s2 r2 rw'
      split at h
      · rename_i key xd ek
        obtain ⟨b1, b2, b3⟩ := back r2
        refine ⟨b2, [(key, w)], ?_, by show 1 ≤ 15; decide, ?_⟩
        · rw [keyP_ok rq ek]; rfl
        · exact h G2 _ _ (s1.trans s2) ((b1.growO (o := .dK (mergeK [] [(key, w)])) b2 (.inr (.inl ⟨_, rfl⟩)) b3).setM i upd_same (.cons rw' .nil) (b3.upd b3.o))
      · exact h.elim
/-- d[k] = v, d the slot's own -/
def mDPut (i : Nat) (k a : ME) : MS := fun S => (a S).bind fun p S1 => match S1[i]? with
  | some (.m _ _) => (k S1).bind fun q S2 => match S2[i]?, keyP q, p with
    | some (.m b kvs), some key, .d x => if Nat.ble kvs.length 16777215 then .ok .nx (S2.set i (.m b (putD kvs key x))) else .bad
    | _, _, _ => .bad
  | _ => .bad
theorem js_dput {i : Nat} {x : Str} {ek ev : Expr} {k a : ME} {npos pos pos' : Pos} (hu : X.A.units + 64 < cLine) (hk : JE X W ek k) (ha : JE X W ev a) (hN : X.N[i]? = some x := by rfl) (hv : Vis X.env.scope x := by first | exact Or.inl rfl | exact Or.inr (Or.inl rfl) | exact Or.inr (Or.inr rfl)) (hd : (x == ("__debug__" : Str)) = false := by decide)
    (hc : (x == ("__classdict__" : Str)) = false := by decide) (hs : swapsWith ev (some (.Subscript (.Name x npos) ek pos')) pos.line X.env = pure false := by rfl) : JS X W (.Assign [.Subscript (.Name x npos) ek pos'] ev pos) (mDPut i k a) := fun g => by
  refine ps_imp (ps_dput (by omega) (pe_var hN hv hd hc) (hk g) (ha g) hs) fun E σ H h => ?_
  obtain ⟨S, G, r, h⟩ := h
  refine ⟨S, G, r, ?_⟩
  unfold mDPut at h
  cases e1 : a S with
  | bad => rw [e1] at h; exact h.elim
  | exc c S1 => rw [e1] at h; exact fun G1 H1 => h G1 σ H1
  | ok p S1 =>
    rw [e1] at h
    simp only [Res.bind] at h
    intro G1 H1 v s1 r1 rp
    split at h
    · rename_i b0 kvs0 es
      obtain ⟨ad, vs0, f1, f2, _⟩ := r1.mAt es
      refine ⟨.ref ad, f1, S1, G1, r1, ?_⟩
      cases e2 : k S1 with
      | bad => rw [e2] at h; exact h.elim
      | exc c S2 => rw [e2] at h; exact fun G2 H2 s2 r2 => h G2 σ H2 (s1.trans s2) r2
      | ok q S2 =>
        rw [e2] at h
        simp only at h
        intro G2 H2 y s2 r2 rq
        split at h
        · rename_i b kvs key xd em ek
          split at h
          · rename_i hz
            obtain ⟨ad2, vs, g1, g2, g3, _⟩ := r2.mAt em
            rw [f1] at g1
            cases g1
            have hl := g3.len
            refine ⟨ad, _, rfl, .inl ⟨vs, key, g2, keyP_ok rq ek, ?_, rfl⟩, h G2 σ _ (s1.trans s2) (r2.updM em f1 (RVk.put (RV.mono s2 rp) key g3))⟩
            have := Nat.le_of_ble_eq_true hz
            rw [sizeLine_eq]
            omega
          · exact h.elim
        · exact h.elim
    · exact h.elim
/-- d[k], the key there -/
def mDix (o a : ME) : ME := fun S => (o S).bind fun p S1 => (a S1).bind fun q S2 => match dctOf S2 p, keyP q with
  | some kvs, some k => match valD kvs k with
    | some x => .ok (.d x) S2
    | none => .bad
  | _, _ => .bad
theorem je_dix {o e : Expr} {m a : ME} {pos : Pos} (hu : X.A.units + 64 < cLine) (ho : JE X W o m) (he : JE X W e a) (hs : NoSl e := by intro _ _; rfl) : JE X W (.Subscript o e pos) (mDix m a) := fun g => by
  refine pe_imp (pe_dget (by omega) (ho g) (he g) hs) fun σ H Q h => ?_
  obtain ⟨S, G, r, h⟩ := h
  refine ⟨S, G, r, po_bindE h fun p S1 G1 H1 x s1 r1 rp h => ?_⟩
  refine ⟨S1, G1, r1, po_bindE h fun q S2 G2 H2 y s2 r2 rq h => ?_⟩
  split at h
  · rename_i kvs k e1 e2
    split at h
    · rename_i xd ev
      obtain ⟨ad, vs, rfl, hH, rk⟩ := dctOf_ok r2 (rp.mono s2) e1
      rcases rk.val k with ⟨q1, q2⟩ | ⟨x, v, q1, q2, q3⟩
      · rw [q1] at ev; cases ev
      · rw [q1] at ev
        cases ev
        exact ⟨ad, v, rfl, .inl ⟨vs, k, hH, keyP_ok rq e2, q2.symm⟩, h G2 H2 _ (Sub.refl _) r2 q3⟩
    · exact h.elim
  · exact h.elim
/-- k in d -/
def rDIn (neg : Bool) : R2 := fun x y H Q => ∃ a o, y = .ref a ∧ DGet H a x o ∧ Q (.bl (neg ^^ o.isSome)) H
theorem op_inDct (hu : X.A.units + 1 < cLine) : OpR X (compareOp .In) (rDIn false) := by
  intro pins s σ H x y v u Q I rx ry ⟨a, o, ey, g, q⟩
  subst ey
  obtain rfl : u = Value.ref a := ry
  rw [Bool.false_xor] at q
  exact d_in hu I g rx fun s3 I3 => ⟨.bl o.isSome, H, I3, rfl, q⟩
theorem op_notInDct (hu : X.A.units + 1 < cLine) : OpR X (compareOp .NotIn) (rDIn true) := by
  intro pins s σ H x y v u Q I rx ry ⟨a, o, ey, g, q⟩
  subst ey
  obtain rfl : u = Value.ref a := ry
  rw [Bool.true_xor] at q
  exact d_notIn hu I g rx fun s3 I3 => ⟨.bl (!o.isSome), H, I3, rfl, q⟩
def cInD (neg : Bool) (S : Sg) (p q : P) : Option D := match dctOf S q, keyP p with
  | some kvs, some k => some (.bl (neg ^^ (valD kvs k).isSome))
  | _, _ => none
theorem cInD_ok {neg : Bool} {g : Gh} {G H : Hp} {σ : St} {S : Sg} {p q : P} {d : D} {x y : V} {Q : VK} (r : Rep X.K X.mg g G σ H S) (rp : RP X.K X.mg G σ p x) (rq : RP X.K X.mg G σ q y) (e : cInD neg S p q = some d) (k : ∀ G' H' v, Sub G G' → Rep X.K X.mg g G' σ H' S → RV X.K X.mg G' d v → Q v H') : rDIn neg x y H Q := by
  unfold cInD at e
  split at e
  · rename_i kvs key e1 e2
    cases e
    obtain ⟨ad, vs, rfl, hH, rk⟩ := dctOf_ok r rq e1
    refine ⟨ad, valV vs key, rfl, .inl ⟨vs, key, hH, keyP_ok rp e2, rfl⟩, ?_⟩
    have es : (valD kvs key).isSome = (valV vs key).isSome := by
      rcases rk.val key with ⟨q1, q2⟩ | ⟨x, v, q1, q2, q3⟩
      · rw [q1, q2]; rfl
      · rw [q1, q2]; rfl
    rw [es] at k
    exact k G H _ (Sub.refl _) r (.bl _)
  · cases e
theorem o_inD (hu : X.A.units + 64 < cLine) : OpR X (compareOp .In) (rO X (cInD false)) := by
  refine opD_of fun g G H σ S p q d x y r rp rq e Q k => ?_
  exact ⟨_, op_inDct (by omega), cInD_ok r rp rq e k⟩
theorem o_notinD (hu : X.A.units + 64 < cLine) : OpR X (compareOp .NotIn) (rO X (cInD true)) := by
  refine opD_of fun g G H σ S p q d x y r rp rq e Q k => ?_
  exact ⟨_, op_notInDct (by omega), cInD_ok r rp rq e k⟩
/-- d.get(k, x) -/
def mDget2 (o a b : ME) : ME := fun S => (o S).bind fun p S1 => if (dctOf S1 p).isSome then (a S1).bind fun q S2 => (b S2).bind fun z S3 => match dctOf S3 p, keyP q, z with
    | some kvs, some k, .d x => .ok (.d ((valD kvs k).getD x)) S3
    | _, _, _ => .bad
  else .bad
theorem je_dget2 {o e f : Expr} {m a b : ME} {apos cpos : Pos} (hu : X.A.units + 64 < cLine) (ho : JE X W o m) (he : JE X W e a) (hf : JE X W f b) (hm : M2 X o "get" apos e f cpos) : JE X W (.Call (.Attribute o "get" apos) [e, f] [] cpos) (mDget2 m a b) := fun g => by
  refine pe_imp (pe_dget2 (by omega) (ho g) (he g) (hf g) hm) fun σ H Q h => ?_
  obtain ⟨S, G, r, h⟩ := h
  refine ⟨S, G, r, po_bindE h fun p S1 G1 H1 x s1 r1 rp h => ?_⟩
  split at h
  case isFalse => exact h.elim
  rename_i hd
  obtain ⟨kvs0, ek0⟩ := Option.isSome_iff_exists.mp hd
  obtain ⟨ad, vs0, rfl, hH, _⟩ := dctOf_ok r1 rp ek0
  refine ⟨ad, rfl, .inl ⟨vs0, hH⟩, S1, G1, r1, po_bindE h fun q S2 G2 H2 y s2 r2 rq h => ?_⟩
  refine ⟨S2, G2, r2, po_bindE h fun z S3 G3 H3 w s3 r3 rz h => ?_⟩
  split at h
  · rename_i kvs k xd e2 e3
    obtain ⟨ad2, vs2, ea, hH2, rk⟩ := dctOf_ok r3 (rp.mono (s2.trans s3)) e2
    cases ea
    refine ⟨valV vs2 k, .inl ⟨vs2, k, hH2, keyP_ok (rq.mono s3) e3, rfl⟩, ?_⟩
    rcases rk.val k with ⟨q1, q2⟩ | ⟨x, v, q1, q2, q3⟩
    · rw [q1] at h; rw [q2]; exact h G3 H3 _ (Sub.refl _) r3 rz
    · rw [q1] at h; rw [q2]; exact h G3 H3 _ (Sub.refl _) r3 q3
  · exact h.elim
end
end Mw

set_option Elab.async false
set_option linter.all false
set_option maxRecDepth 100000
set_option maxHeartbeats 4000000
namespace Mw
open PySem L2
def F_is_whole : Fn := mkFn 3 (mRet (mAndV (mUn (isiP .int) (mVar 0)) (mAndV (mUn notP (mUn (isiP .bool) (mVar 0))) (mChain cLe cLe (mVar 1) (mVar 0) (mVar 2)))))
def F_whole : Fn := mkFn 1 (mRet (mTup (mCons (mVar 0) (mCons (mC (.int 1)) mNil))))
def F_half : Fn := mkFn 1 (mRet (mCall F_made_of (mCons (mVar 0) (mCons (mC (.int 2)) mNil))))
def F_sum_of_all : Fn := mkFn 3 (mSeq (mSet 1 (mTup (mCons (mC (.int 0)) (mCons (mC (.int 1)) mNil))))
  (mSeq (mFor (mItSeq (mVar 0)) (gtName 2) (mSet 1 (mCall F_sum_of_two (mCons (mVar 1) (mCons (mVar 2) mNil)))))
  (mRet (mVar 1))))
def F_is_among : Fn := mkFn 2 (mRet (mAndV (mUn (isiP .str) (mVar 0)) (mBin (cInP false) (mVar 0) (mVar 1))))
def F_is_number : Fn := mkFn 1 (mRet (mCall F_is_whole (mCons (mVar 0) (mCons (mC (.int 0)) (mCons (mC (.int 20)) mNil)))))
def F_is_trader : Fn := mkFn 2 (mRet (mAndV (mUn (isiP .str) (mVar 0)) (mAndV (mChain cLe cLe (mC (.int 1)) (mCB bLen (mCons (mVar 0) mNil)) (mC (.int 6))) (mCB bAll (mCons (mDat (mLc (mItSeq (mVar 0)) (gtName 1) mYes (mBin (cInP false) (mVar 1) (mC (.str "abcdefghijklmnopqrstuvwxyz"))) [1])) mNil)))))
def F_is_auction : Fn := mkFn 1 (mSeq (mIfS (mOrT (mNotT (mTruth truP (mUn (isiP .tuple) (mVar 0)))) (mOrT (mTruth boolP (mBin (cEqP true) (mCB bLen (mCons (mVar 0) mNil)) (mC (.int 5)))) (mNotT (mTruth truP (mCall F_is_among (mCons (mBin opIdx (mVar 0) (mC (.int 0))) (mCons (mTup (mCons (mC (.str "auction")) mNil)) mNil))))))) (mRet (mC (.bl false))) mSkip)
  (mSeq (mIfS (mOrT (mNotT (mTruth truP (mCall F_is_whole (mCons (mBin opIdx (mVar 0) (mC (.int 1))) (mCons (mC (.int 1)) (mCons (mC (.int 3)) mNil)))))) (mNotT (mTruth truP (mCall F_is_number (mCons (mBin opIdx (mVar 0) (mC (.int 2))) mNil))))) (mRet (mC (.bl false))) mSkip)
  (mRet (mAndV (mCall F_is_among (mCons (mBin opIdx (mVar 0) (mC (.int 3))) (mCons (mC (dStrs ["own", "next", "least", "fixed", "half", "all"])) mNil))) (mCall F_is_among (mCons (mBin opIdx (mVar 0) (mC (.int 4))) (mCons (mC (dStrs ["first", "last"])) mNil)))))))
def F_is_exchange : Fn := mkFn 1 (mSeq (mIfS (mOrT (mNotT (mTruth truP (mUn (isiP .tuple) (mVar 0)))) (mOrT (mTruth boolP (mBin (cEqP true) (mCB bLen (mCons (mVar 0) mNil)) (mC (.int 3)))) (mNotT (mTruth truP (mCall F_is_among (mCons (mBin opIdx (mVar 0) (mC (.int 0))) (mCons (mTup (mCons (mC (.str "exchange")) mNil)) mNil))))))) (mRet (mC (.bl false))) mSkip)
  (mRet (mAndV (mCall F_is_among (mCons (mBin opIdx (mVar 0) (mC (.int 1))) (mCons (mC (dStrs ["mid", "buy", "sell", "cut"])) mNil))) (mCall F_is_among (mCons (mBin opIdx (mVar 0) (mC (.int 2))) (mCons (mC (dStrs ["first", "last"])) mNil))))))
def F_is_rule : Fn := mkFn 1 (mRet (mOrV (mCall F_is_auction (mCons (mVar 0) mNil)) (mCall F_is_exchange (mCons (mVar 0) mNil))))
def F_need_rule : Fn := mkFn 1 (mIfS (mNotT (mTruth truP (mCall F_is_rule (mCons (mVar 0) mNil)))) (fun S => .exc "NoRule" S) mSkip)
def F_need_auction : Fn := mkFn 1 (mIfS (mNotT (mTruth truP (mCall F_is_auction (mCons (mVar 0) mNil)))) (fun S => .exc "NoRule" S) mSkip)
def F_need_exchange : Fn := mkFn 1 (mIfS (mNotT (mTruth truP (mCall F_is_exchange (mCons (mVar 0) mNil)))) (fun S => .exc "NoRule" S) mSkip)
def F_is_bid : Fn := mkFn 2 (mSeq (mIfS (mOrT (mNotT (mTruth truP (mUn (isiP .tuple) (mVar 1)))) (mOrT (mTruth boolP (mBin (cEqP true) (mCB bLen (mCons (mVar 1) mNil)) (mIf (mTruth boolP (mBin (cEqP false) (mBin opIdx (mVar 0) (mC (.int 0))) (mC (.str "auction")))) (mC (.int 2)) (mC (.int 3))))) (mNotT (mTruth truP (mCall F_is_trader (mCons (mBin opIdx (mVar 1) (mC (.int 0))) mNil)))))) (mRet (mC (.bl false))) mSkip)
  (mRet (mAndV (mCall F_is_number (mCons (mBin opIdx (mVar 1) (mUn opNeg (mC (.int 1)))) mNil)) (mOrV (mBin (cEqP false) (mBin opIdx (mVar 0) (mC (.int 0))) (mC (.str "auction"))) (mCall F_is_among (mCons (mBin opIdx (mVar 1) (mC (.int 1))) (mCons (mC (dStrs ["buy", "sell"])) mNil)))))))
def F_good_bids : Fn := mkFn 3 (mSeq (mIfS (mOrT (mNotT (mTruth truP (mUn (isiP .list) (mVar 1)))) (mOrT (mTruth boolP (mBin cGt (mCB bLen (mCons (mVar 1) mNil)) (mC (.int 6)))) (mNotT (mTruth truP (mCB bAll (mCons (mDat (mLc (mItSeq (mVar 1)) (gtName 2) mYes (mCall F_is_bid (mCons (mVar 0) (mCons (mVar 2) mNil))) [2])) mNil)))))) (mRet (mC (.bl false))) mSkip)
  (mRet (mBin (cEqP false) (mLenSc (mItSeq (mVar 1)) (gtName 2) (mBin opIdx (mVar 2) (mC (.int 0))) [2]) (mCB bLen (mCons (mVar 1) mNil)))))
def F_need_bids : Fn := mkFn 2 (mIfS (mNotT (mTruth truP (mCall F_good_bids (mCons (mVar 0) (mCons (mVar 1) mNil))))) (fun S => .exc "NoBids" S) mSkip)
def F_need_sale : Fn := mkFn 2 (mSeq (mExpr (mCall F_need_rule (mCons (mVar 0) mNil)))
  (mExpr (mCall F_need_bids (mCons (mVar 0) (mCons (mVar 1) mNil)))))
def F_standing : Fn := mkFn 6 (mSeq (mSet 4 (mIf (mTruth truP (mVar 3)) (mUn opNeg (mC (.int 1))) (mC (.int 1))))
  (mSeq (mSet 5 (mIf (mTruth boolP (mBin (cEqP false) (mVar 2) (mC (.str "first")))) (mC (.int 1)) (mUn opNeg (mC (.int 1)))))
  (mRet (mDat (mSortK [0, 5, 4] 4 (mTup (mCons (mBin opMul (mVar 3) (mBin opIdx (mVar 1) (mVar 0))) (mCons (mBin opMul (mVar 2) (mVar 0)) mNil))) (mVar 1))))))
def F_winners_of : Fn := mkFn 6 (mSeq (mSet 2 (mDat (mLc (mItA enumA (mCons (mVar 1) mNil)) (gtTup 2 (gtCons (gtName 4) (gtCons (gtName 5) gtNil))) (mTruth boolP (mBin cGe (mVar 5) (mBin opIdx (mVar 0) (mC (.int 2))))) (mVar 4) [4, 5])))
  (mSeq (mSet 3 (mCall F_standing (mCons (mVar 1) (mCons (mVar 2) (mCons (mBin opIdx (mVar 0) (mC (.int 4))) (mCons (mC (.bl true)) mNil))))))
  (mRet (mTup (mCons (mVar 3) (mCons (mCB bMin (mCons (mBin opIdx (mVar 0) (mC (.int 1))) (mCons (mCB bLen (mCons (mVar 3) mNil)) mNil))) mNil))))))
def F_next_price : Fn := mkFn 4 (mRet (mIf (mTruth boolP (mBin cGt (mCB bLen (mCons (mVar 2) mNil)) (mVar 3))) (mBin opIdx (mVar 1) (mBin opIdx (mVar 2) (mVar 3))) (mBin opIdx (mVar 0) (mC (.int 2)))))
def F_payments_of : Fn := mkFn 11 (mSeq (mAsg (mCall F_winners_of (mCons (mVar 0) (mCons (mVar 1) mNil))) (gtTup 2 (gtCons (gtName 4) (gtCons (gtName 5) gtNil))))
  (mSeq (mPar [6, 7] (xD (mCall F_next_price (mCons (mVar 0) (mCons (mVar 1) (mCons (mVar 4) (mCons (mVar 5) mNil))))) (xD (mBin opIdx (mVar 0) (mC (.int 3))) xNil)))
  (mSeq (mSetN 2 (mLc (mItSeq (mVar 1)) (gtName 10) mYes (mTup (mCons (mC (.int 0)) (mCons (mTup (mCons (mC (.int 0)) (mCons (mC (.int 1)) mNil))) mNil))) [10]))
  (mSeq (mFor (mItSeq (mSl opSl (mVar 4) none (some (mVar 5)))) (gtName 3) (mSeq (mSet 8 (mBin opIdx (mVar 1) (mVar 3)))
  (mSeq (mSet 9 (mDget (mDisp [("own", (mCall F_whole (mCons (mVar 8) mNil))), ("next", (mCall F_whole (mCons (mVar 6) mNil))), ("fixed", (mCall F_whole (mCons (mBin opIdx (mVar 0) (mC (.int 2))) mNil))), ("half", (mCall F_half (mCons (mBin opAdd (mVar 8) (mVar 6)) mNil)))]) (mVar 7)))
  (mSeq (mIfS (mTruth boolP (mBin (cEqP false) (mVar 7) (mC (.str "least")))) (mSet 9 (mCall F_whole (mCons (mBin opIdx (mVar 1) (mBin opIdx (mVar 4) (mBin opSub (mVar 5) (mC (.int 1))))) mNil))) mSkip)
  (mSetItem 2 (mVar 3) (mTup (mCons (mC (.int 1)) (mCons (mIf (mTruth boolP (mBin (cEqP false) (mVar 7) (mC (.str "all")))) (mCall F_whole (mCons (mVar 8) mNil)) (mVar 9)) mNil))))))))
  (mSeq (mIfS (mTruth boolP (mBin (cEqP false) (mVar 7) (mC (.str "all")))) (mFor (mItSeq (mSl opSl (mVar 4) (some (mVar 5)) none)) (gtName 3) (mSetItem 2 (mVar 3) (mTup (mCons (mC (.int 0)) (mCons (mCall F_whole (mCons (mBin opIdx (mVar 1) (mVar 3)) mNil)) mNil))))) mSkip)
  (mRet (mFrz 2)))))))
def F_sides_of : Fn := mkFn 7 (mSeq (mSet 3 (mDat (mLc (mItA enumA (mCons (mVar 1) mNil)) (gtTup 2 (gtCons (gtName 5) (gtCons (gtName 6) gtNil))) (mTruth boolP (mBin (cEqP false) (mVar 6) (mC (.str "buy")))) (mVar 5) [5, 6])))
  (mSeq (mSet 4 (mDat (mLc (mItA enumA (mCons (mVar 1) mNil)) (gtTup 2 (gtCons (gtName 5) (gtCons (gtName 6) gtNil))) (mTruth boolP (mBin (cEqP false) (mVar 6) (mC (.str "sell")))) (mVar 5) [5, 6])))
  (mRet (mTup (mCons (mCall F_standing (mCons (mVar 2) (mCons (mVar 3) (mCons (mBin opIdx (mVar 0) (mC (.int 2))) (mCons (mC (.bl true)) mNil))))) (mCons (mCall F_standing (mCons (mVar 2) (mCons (mVar 4) (mCons (mBin opIdx (mVar 0) (mC (.int 2))) (mCons (mC (.bl false)) mNil))))) mNil))))))
def F_how_many : Fn := mkFn 4 (mSeq (mSet 3 (mC (.int 0)))
  (mSeq (whileL (mAndT (mTruth boolP (mBin cLt (mVar 3) (mCB bMin (mCons (mCB bLen (mCons (mVar 1) mNil)) (mCons (mCB bLen (mCons (mVar 2) mNil)) mNil))))) (mTruth boolP (mBin cGe (mBin opIdx (mVar 0) (mBin opIdx (mVar 1) (mVar 3))) (mBin opIdx (mVar 0) (mBin opIdx (mVar 2) (mVar 3)))))) (mAug iAdd 3 (mC (.int 1))) (2 ^ 64))
  (mRet (mVar 3))))
def F_prices_of : Fn := mkFn 9 (mSeq (mPar [5, 6] (xD (mBin opIdx (mVar 1) (mBin opIdx (mVar 2) (mBin opSub (mVar 4) (mC (.int 1))))) (xD (mBin opIdx (mVar 1) (mBin opIdx (mVar 3) (mBin opSub (mVar 4) (mC (.int 1))))) xNil)))
  (mSeq (mIfS (mTruth boolP (mBin (cEqP false) (mBin opIdx (mVar 0) (mC (.int 1))) (mC (.str "mid")))) (mRet (mTup (mCons (mVar 4) (mCons (mCall F_half (mCons (mBin opAdd (mVar 5) (mVar 6)) mNil)) (mCons (mCall F_half (mCons (mBin opAdd (mVar 5) (mVar 6)) mNil)) mNil))))) mSkip)
  (mSeq (mIfS (mTruth boolP (mBin (cInP false) (mBin opIdx (mVar 0) (mC (.int 1))) (mTup (mCons (mC (.str "buy")) (mCons (mC (.str "sell")) mNil))))) (mSeq (mSet 7 (mCall F_whole (mCons (mIf (mTruth boolP (mBin (cEqP false) (mBin opIdx (mVar 0) (mC (.int 1))) (mC (.str "buy")))) (mVar 5) (mVar 6)) mNil)))
  (mRet (mTup (mCons (mVar 4) (mCons (mVar 7) (mCons (mVar 7) mNil)))))) mSkip)
  (mSeq (mIfS (mTruth boolP (mBin cLt (mVar 4) (mCB bMin (mCons (mCB bLen (mCons (mVar 2) mNil)) (mCons (mCB bLen (mCons (mVar 3) mNil)) mNil))))) (mSeq (mSet 8 (mBin opAdd (mBin opIdx (mVar 1) (mBin opIdx (mVar 2) (mVar 4))) (mBin opIdx (mVar 1) (mBin opIdx (mVar 3) (mVar 4)))))
  (mIfS (mTruth boolP (mChain cLe cLe (mBin opMul (mC (.int 2)) (mVar 6)) (mVar 8) (mBin opMul (mC (.int 2)) (mVar 5)))) (mRet (mTup (mCons (mVar 4) (mCons (mCall F_half (mCons (mVar 8) mNil)) (mCons (mCall F_half (mCons (mVar 8) mNil)) mNil))))) mSkip)) mSkip)
  (mRet (mTup (mCons (mBin opSub (mVar 4) (mC (.int 1))) (mCons (mCall F_whole (mCons (mVar 5) mNil)) (mCons (mCall F_whole (mCons (mVar 6) mNil)) mNil)))))))))
def F_traded : Fn := mkFn 11 (mSeq (mAsg (mCall F_sides_of (mCons (mVar 0) (mCons (mVar 1) (mCons (mVar 2) mNil)))) (gtTup 2 (gtCons (gtName 5) (gtCons (gtName 6) gtNil))))
  (mSeq (mSet 3 (mCall F_how_many (mCons (mVar 2) (mCons (mVar 5) (mCons (mVar 6) mNil)))))
  (mSeq (mSetN 4 (mLc (mItSeq (mVar 2)) (gtName 8) mYes (mTup (mCons (mC (.int 0)) (mCons (mTup (mCons (mC (.int 0)) (mCons (mC (.int 1)) mNil))) mNil))) [8]))
  (mSeq (mIfS (mTruth boolP (mBin cGt (mVar 3) (mC (.int 0)))) (mSeq (mAsg (mCall F_prices_of (mCons (mVar 0) (mCons (mVar 2) (mCons (mVar 5) (mCons (mVar 6) (mCons (mVar 3) mNil)))))) (gtTup 3 (gtCons (gtName 3) (gtCons (gtName 9) (gtCons (gtName 10) gtNil)))))
  (mSeq (mFor (mItSeq (mSl opSl (mVar 5) none (some (mVar 3)))) (gtName 7) (mSetItem 4 (mVar 7) (mTup (mCons (mC (.int 1)) (mCons (mVar 9) mNil)))))
  (mFor (mItSeq (mSl opSl (mVar 6) none (some (mVar 3)))) (gtName 7) (mSetItem 4 (mVar 7) (mTup (mCons (mC (.int 1)) (mCons (mTup (mCons (mBin opSub (mC (.int 0)) (mBin opIdx (mVar 10) (mC (.int 0)))) (mCons (mBin opIdx (mVar 10) (mC (.int 1))) mNil))) mNil))))))) mSkip)
  (mRet (mFrz 4))))))
def F_sides_in : Fn := mkFn 3 (mRet (mDat (mLc (mItSeq (mVar 1)) (gtName 2) mYes (mIf (mTruth boolP (mBin (cEqP false) (mBin opIdx (mVar 0) (mC (.int 0))) (mC (.str "auction")))) (mC (.str "buy")) (mBin opIdx (mVar 2) (mC (.int 1)))) [2])))
def F_run_of : Fn := mkFn 3 (mRet (mIf (mTruth boolP (mBin (cEqP false) (mBin opIdx (mVar 0) (mC (.int 0))) (mC (.str "auction")))) (mCall F_payments_of (mCons (mVar 0) (mCons (mVar 2) mNil))) (mCall F_traded (mCons (mVar 0) (mCons (mVar 1) (mCons (mVar 2) mNil))))))
def F_gain_of : Fn := mkFn 5 (mSeq (mSet 4 (mCall F_whole (mCons (mIf (mTruth boolP (mBin (cEqP false) (mVar 0) (mC (.str "buy")))) (mBin opMul (mVar 1) (mVar 2)) (mBin opSub (mC (.int 0)) (mBin opMul (mVar 1) (mVar 2)))) mNil)))
  (mRet (mCall F_minus_of (mCons (mVar 4) (mCons (mVar 3) mNil)))))
def F_taken_of : Fn := mkFn 5 (mRet (mCall F_sum_of_all (mCons (mDat (mLc (mItSeq (mCall F_run_of (mCons (mVar 0) (mCons (mVar 1) (mCons (mVar 2) mNil))))) (gtTup 2 (gtCons (gtName 3) (gtCons (gtName 4) gtNil))) mYes (mVar 4) [3, 4])) mNil)))
def F_gains_of : Fn := mkFn 9 (mSeq (mSet 4 (mCall F_run_of (mCons (mVar 0) (mCons (mVar 1) (mCons (mVar 3) mNil)))))
  (mRet (mDat (mLc (mItA zipA3 (mCons (mVar 1) (mCons (mVar 2) (mCons (mVar 4) mNil)))) (gtTup 3 (gtCons (gtName 5) (gtCons (gtName 6) (gtCons (gtTup 2 (gtCons (gtName 7) (gtCons (gtName 8) gtNil))) gtNil)))) mYes (mCall F_gain_of (mCons (mVar 5) (mCons (mVar 6) (mCons (mVar 7) (mCons (mVar 8) mNil))))) [5, 6, 7, 8]))))
def F_is_kind : Fn := mkFn 2 (mRet (mAndV (mCall F_is_among (mCons (mVar 1) (mCons (mC (dStrs ["lie", "names", "ring", "shill"])) mNil))) (mOrV (mBin (cEqP true) (mVar 1) (mC (.str "shill"))) (mBin (cEqP false) (mBin opIdx (mVar 0) (mC (.int 0))) (mC (.str "auction"))))))
def F_good_cheat : Fn := mkFn 6 (mSeq (mIfS (mOrT (mNotT (mTruth truP (mUn (isiP .tuple) (mVar 2)))) (mOrT (mTruth boolP (mBin cLt (mCB bLen (mCons (mVar 2) mNil)) (mC (.int 2)))) (mNotT (mTruth truP (mCall F_is_kind (mCons (mVar 0) (mCons (mBin opIdx (mVar 2) (mC (.int 0))) mNil))))))) (mRet (mC (.bl false))) mSkip)
  (mSeq (mPar [3, 4] (xD (mDat (mLc (mItSeq (mVar 1)) (gtName 5) mYes (mBin opIdx (mVar 5) (mC (.int 0))) [5])) (xD (mSl opSl (mVar 2) (some (mC (.int 1))) none) xNil)))
  (mSeq (mIfS (mTruth boolP (mBin (cEqP false) (mBin opIdx (mVar 2) (mC (.int 0))) (mC (.str "shill")))) (mRet (mAndV (mBin (cEqP false) (mCB bLen (mCons (mVar 4) mNil)) (mC (.int 1))) (mCall F_is_number (mCons (mBin opIdx (mVar 4) (mC (.int 0))) mNil)))) mSkip)
  (mSeq (mIfS (mTruth boolP (mBin (cEqP true) (mCB bLen (mCons (mVar 4) mNil)) (mIf (mTruth boolP (mBin (cEqP false) (mBin opIdx (mVar 2) (mC (.int 0))) (mC (.str "ring")))) (mC (.int 4)) (mC (.int 2))))) (mRet (mC (.bl false))) mSkip)
  (mSeq (mIfS (mOrT (mNotT (mTruth truP (mCall F_is_trader (mCons (mBin opIdx (mVar 4) (mC (.int 0))) mNil)))) (mOrT (mTruth boolP (mBin (cInP true) (mBin opIdx (mVar 4) (mC (.int 0))) (mVar 3))) (mNotT (mTruth truP (mCall F_is_number (mCons (mBin opIdx (mVar 4) (mC (.int 1))) mNil)))))) (mRet (mC (.bl false))) mSkip)
  (mSeq (mIfS (mTruth boolP (mBin (cEqP true) (mBin opIdx (mVar 2) (mC (.int 0))) (mC (.str "ring")))) (mRet (mC (.bl true))) mSkip)
  (mSeq (mIfS (mOrT (mNotT (mTruth truP (mCall F_is_trader (mCons (mBin opIdx (mVar 4) (mC (.int 2))) mNil)))) (mOrT (mTruth boolP (mBin (cInP true) (mBin opIdx (mVar 4) (mC (.int 2))) (mVar 3))) (mNotT (mTruth truP (mCall F_is_number (mCons (mBin opIdx (mVar 4) (mC (.int 3))) mNil)))))) (mRet (mC (.bl false))) mSkip)
  (mRet (mBin cLt (mBM isLst bIndex (mVar 3) (mCons (mBin opIdx (mVar 4) (mC (.int 0))) mNil)) (mBM isLst bIndex (mVar 3) (mCons (mBin opIdx (mVar 4) (mC (.int 2))) mNil)))))))))))
def F_is_cheat : Fn := mkFn 3 (mSeq (mExpr (mCall F_need_sale (mCons (mVar 0) (mCons (mVar 1) mNil))))
  (mRet (mCall F_good_cheat (mCons (mVar 0) (mCons (mVar 1) (mCons (mVar 2) mNil))))))
def F_told_by_lies : Fn := mkFn 9 (mSeq (mSet 4 (mDat (mLc (mItA enumA (mCons (mVar 2) mNil)) (gtTup 2 (gtCons (gtName 7) (gtCons (gtName 8) gtNil))) mYes (mDget2 (mVar 3) (mVar 7) (mVar 8)) [7, 8])))
  (mSeq (mPar [5, 6] (xD (mCall F_gains_of (mCons (mVar 0) (mCons (mVar 1) (mCons (mVar 2) (mCons (mVar 4) mNil))))) (xD (mCall F_gains_of (mCons (mVar 0) (mCons (mVar 1) (mCons (mVar 2) (mCons (mVar 2) mNil))))) xNil)))
  (mRet (mCall F_sum_of_all (mCons (mDat (mLc (mItSeq (mVar 3)) (gtName 7) mYes (mCall F_minus_of (mCons (mBin opIdx (mVar 5) (mVar 7)) (mCons (mBin opIdx (mVar 6) (mVar 7)) mNil))) [7])) mNil)))))
def F_told_by_names : Fn := mkFn 8 (mSeq (mSet 5 (mCall F_run_of (mCons (mVar 0) (mCons (mBin opAdd (mVar 1) (mDat (mLst (mCons (mBin opIdx (mVar 1) (mVar 3)) mNil)))) (mCons (mBin opAdd (mVar 2) (mDat (mLst (mCons (mVar 4) mNil)))) mNil)))))
  (mSeq (mSet 6 (mBin opAdd (mBin opIdx (mBin opIdx (mVar 5) (mVar 3)) (mC (.int 0))) (mBin opIdx (mBin opIdx (mVar 5) (mUn opNeg (mC (.int 1)))) (mC (.int 0)))))
  (mSeq (mIfS (mTruth boolP (mBin (cEqP false) (mBin opIdx (mVar 1) (mVar 3)) (mC (.str "buy")))) (mSet 6 (mCB bMin (mCons (mC (.int 1)) (mCons (mVar 6) mNil)))) mSkip)
  (mSeq (mSet 7 (mCall F_minus_of (mCons (mCall F_gain_of (mCons (mBin opIdx (mVar 1) (mVar 3)) (mCons (mBin opIdx (mVar 2) (mVar 3)) (mCons (mVar 6) (mCons (mTup (mCons (mC (.int 0)) (mCons (mC (.int 1)) mNil))) mNil))))) (mCons (mCall F_sum_of_two (mCons (mBin opIdx (mBin opIdx (mVar 5) (mVar 3)) (mC (.int 1))) (mCons (mBin opIdx (mBin opIdx (mVar 5) (mUn opNeg (mC (.int 1)))) (mC (.int 1))) mNil))) mNil))))
  (mRet (mCall F_minus_of (mCons (mVar 7) (mCons (mBin opIdx (mCall F_gains_of (mCons (mVar 0) (mCons (mVar 1) (mCons (mVar 2) (mCons (mVar 2) mNil))))) (mVar 3)) mNil))))))))
def F_told_by_shill : Fn := mkFn 7 (mSeq (mSet 3 (mBin opMul (mDat (mLst (mCons (mC (.str "buy")) mNil))) (mBin opAdd (mCB bLen (mCons (mVar 1) mNil)) (mC (.int 1)))))
  (mSeq (mSet 4 (mCall F_run_of (mCons (mVar 0) (mCons (mVar 3) (mCons (mBin opAdd (mVar 1) (mDat (mLst (mCons (mVar 2) mNil)))) mNil)))))
  (mRet (mCall F_minus_of (mCons (mCall F_sum_of_all (mCons (mDat (mLc (mItSeq (mSl opSl (mVar 4) none (some (mUn opNeg (mC (.int 1)))))) (gtTup 2 (gtCons (gtName 5) (gtCons (gtName 6) gtNil))) mYes (mVar 6) [5, 6])) mNil)) (mCons (mCall F_taken_of (mCons (mVar 0) (mCons (mSl opSl (mVar 3) none (some (mUn opNeg (mC (.int 1))))) (mCons (mVar 1) mNil)))) mNil))))))
def F_told_by : Fn := mkFn 9 (mSeq (mPar [5, 6, 7] (xD (mDat (mLc (mItSeq (mVar 1)) (gtName 8) mYes (mBin opIdx (mVar 8) (mC (.int 0))) [8])) (xD (mCall F_sides_in (mCons (mVar 0) (mCons (mVar 1) mNil))) (xD (mDat (mLc (mItSeq (mVar 1)) (gtName 8) mYes (mBin opIdx (mVar 8) (mUn opNeg (mC (.int 1)))) [8])) xNil))))
  (mSeq (mIfS (mTruth boolP (mBin (cEqP false) (mBin opIdx (mVar 2) (mC (.int 0))) (mC (.str "shill")))) (mRet (mCall F_told_by_shill (mCons (mVar 0) (mCons (mVar 7) (mCons (mBin opIdx (mVar 2) (mC (.int 1))) mNil))))) mSkip)
  (mSeq (mSet 3 (mBM isLst bIndex (mVar 5) (mCons (mBin opIdx (mVar 2) (mC (.int 1))) mNil)))
  (mSeq (mIfS (mTruth boolP (mBin (cEqP false) (mBin opIdx (mVar 2) (mC (.int 0))) (mC (.str "names")))) (mRet (mCall F_told_by_names (mCons (mVar 0) (mCons (mVar 6) (mCons (mVar 7) (mCons (mVar 3) (mCons (mBin opIdx (mVar 2) (mC (.int 2))) mNil))))))) mSkip)
  (mSeq (mSetM1 4 (mVar 3) (mBin opIdx (mVar 2) (mC (.int 2))))
  (mSeq (mIfS (mTruth boolP (mBin (cEqP false) (mBin opIdx (mVar 2) (mC (.int 0))) (mC (.str "ring")))) (mDPut 4 (mBM isLst bIndex (mVar 5) (mCons (mBin opIdx (mVar 2) (mC (.int 3))) mNil)) (mBin opIdx (mVar 2) (mC (.int 4)))) mSkip)
  (mRet (mCall F_told_by_lies (mCons (mVar 0) (mCons (mVar 6) (mCons (mVar 7) (mCons (mFrz 4) mNil))))))))))))
def F_gain : Fn := mkFn 3 (mSeq (mExpr (mCall F_need_sale (mCons (mVar 0) (mCons (mVar 1) mNil))))
  (mSeq (mIfS (mNotT (mTruth truP (mCall F_good_cheat (mCons (mVar 0) (mCons (mVar 1) (mCons (mVar 2) mNil)))))) (fun S => .exc "NoCheat" S) mSkip)
  (mRet (mCall F_told_by (mCons (mVar 0) (mCons (mVar 1) (mCons (mVar 2) mNil)))))))
def F_all_cheats : Fn := mkFn 13 (mSeq (mPar [4, 5] (xD (mDat (mListR (mRg1 (mBin opAdd (mVar 2) (mC (.int 1)))))) (xD (mDat (mLc (mItSeq (mVar 0)) (gtName 9) mYes (mBin opIdx (mVar 9) (mC (.int 0))) [9])) xNil)))
  (mSeq (mIfS (mTruth boolP (mBin (cEqP false) (mVar 1) (mC (.str "shill")))) (mRet (mDat (mLc (mItSeq (mVar 4)) (gtName 10) mYes (mTup (mCons (mC (.str "shill")) (mCons (mVar 10) mNil))) [10]))) mSkip)
  (mSeq (mIfS (mTruth boolP (mBin (cEqP true) (mVar 1) (mC (.str "ring")))) (mRet (mDat (mLc2 (mItSeq (mVar 5)) (gtName 7) mYes (mItSeq (mVar 4)) (gtName 10) mYes (mTup (mCons (mVar 1) (mCons (mVar 7) (mCons (mVar 10) mNil)))) [7, 10] [10]))) mSkip)
  (mSeq (mSetN 3 (mLst mNil))
  (mSeq (mFor (mItA enumA (mCons (mVar 5) mNil)) (gtTup 2 (gtCons (gtName 6) (gtCons (gtName 7) gtNil))) (mFor (mItSeq (mSl opSl (mVar 5) (some (mBin opAdd (mVar 6) (mC (.int 1)))) none)) (gtName 8) (mExpr (mMeth 3 fExtend (mCons (mDat (mLc2 (mItSeq (mVar 4)) (gtName 11) mYes (mItSeq (mVar 4)) (gtName 12) mYes (mTup (mCons (mC (.str "ring")) (mCons (mVar 7) (mCons (mVar 11) (mCons (mVar 8) (mCons (mVar 12) mNil)))))) [11, 12] [12])) mNil)))))
  (mRet (mFrz 3)))))))
def F_best_of : Fn := mkFn 8 (mSeq (mPar [5, 6] (xD (mC .non) (xD (mCall F_whole (mCons (mC (.int 0)) mNil)) xNil)))
  (mSeq (mFor (mItSeq (mDat (mCN bSortedA (mCons (mCall F_all_cheats (mCons (mVar 1) (mCons (mVar 2) (mCons (mVar 3) mNil)))) mNil)))) (gtName 4) (mSeq (mSet 7 (mCall F_told_by (mCons (mVar 0) (mCons (mVar 1) (mCons (mVar 4) mNil)))))
  (mIfS (mTruth boolP (mBin cGt (mCall F_order_of (mCons (mVar 7) (mCons (mVar 6) mNil))) (mC (.int 0)))) (mPar [5, 6] (xD (mVar 4) (xD (mVar 7) xNil))) mSkip)))
  (mRet (mVar 5))))
def F_need_kind : Fn := mkFn 2 (mIfS (mNotT (mTruth truP (mCall F_is_kind (mCons (mVar 0) (mCons (mVar 1) mNil))))) (fun S => .exc "NoCheat" S) mSkip)
def F_best_cheat : Fn := mkFn 4 (mSeq (mExpr (mCall F_need_sale (mCons (mVar 0) (mCons (mVar 1) mNil))))
  (mSeq (mExpr (mCall F_need_kind (mCons (mVar 0) (mCons (mVar 2) mNil))))
  (mSeq (mIfS (mNotT (mTruth truP (mCall F_is_whole (mCons (mVar 3) (mCons (mC (.int 0)) (mCons (mC (.int 9)) mNil)))))) (fun S => .exc "NoCount" S) mSkip)
  (mRet (mCall F_best_of (mCons (mVar 0) (mCons (mVar 1) (mCons (mVar 2) (mCons (mVar 3) mNil)))))))))
def F_all_rows : Fn := mkFn 6 (mSeq (mSet 2 (mDat (mLst (mCons (mDat (mLst mNil)) mNil))))
  (mSeq (mFor (mItA rng1 (mCons (mVar 0) mNil)) (gtName 3) (mSet 2 (mDat (mLc2 (mItSeq (mVar 2)) (gtName 4) mYes (mItA rng1 (mCons (mBin opAdd (mVar 1) (mC (.int 1))) mNil)) (gtName 5) mYes (mBin opAdd (mVar 4) (mDat (mLst (mCons (mVar 5) mNil)))) [4, 5] [5]))))
  (mRet (mVar 2))))
def F_first_cheated : Fn := mkFn 6 (mSeq (mFor (mItSeq (mVar 1)) (gtName 4) (mSeq (mSet 5 (mCall F_best_of (mCons (mVar 0) (mCons (mVar 4) (mCons (mVar 2) (mCons (mVar 3) mNil))))))
  (mIfS (mTruth boolP (mBin (cIsQ true) (mVar 5) (mC .non))) (mRet (mTup (mCons (mVar 4) (mCons (mVar 5) mNil)))) mSkip)))
  (mRet (mC .non)))
def F_need_high : Fn := mkFn 1 (mIfS (mNotT (mTruth truP (mCall F_is_whole (mCons (mVar 0) (mCons (mC (.int 0)) (mCons (mC (.int 4)) mNil)))))) (fun S => .exc "NoCount" S) mSkip)
def F_safe : Fn := mkFn 5 (mSeq (mExpr (mCall F_need_auction (mCons (mVar 0) mNil)))
  (mSeq (mExpr (mCall F_need_kind (mCons (mVar 0) (mCons (mVar 1) mNil))))
  (mSeq (mIfS (mNotT (mTruth truP (mCall F_is_whole (mCons (mVar 2) (mCons (mC (.int 1)) (mCons (mC (.int 3)) mNil)))))) (fun S => .exc "NoCount" S) mSkip)
  (mSeq (mExpr (mCall F_need_high (mCons (mVar 3) mNil)))
  (mRet (mCall F_first_cheated (mCons (mVar 0) (mCons (mDat (mLc (mItSeq (mCall F_all_rows (mCons (mVar 2) (mCons (mVar 3) mNil)))) (gtName 4) mYes (mDat (mListZ zipA2 (mCons (mC (.str "abcd")) (mCons (mVar 4) mNil)))) [4])) (mCons (mVar 1) (mCons (mVar 3) mNil))))))))))
def F_safe_for : Fn := mkFn 6 (mSeq (mExpr (mCall F_need_exchange (mCons (mVar 0) mNil)))
  (mSeq (mExpr (mCall F_need_kind (mCons (mVar 0) (mCons (mVar 2) mNil))))
  (mSeq (mIfS (mOrT (mNotT (mTruth truP (mUn (isiP .tuple) (mVar 1)))) (mOrT (mNotT (mTruth boolP (mChain cLe cLe (mC (.int 1)) (mCB bLen (mCons (mVar 1) mNil)) (mC (.int 4))))) (mNotT (mTruth truP (mCB bAll (mCons (mDat (mLc (mItSeq (mVar 1)) (gtName 5) mYes (mCall F_is_among (mCons (mVar 5) (mCons (mC (dStrs ["buy", "sell"])) mNil))) [5])) mNil)))))) (fun S => .exc "NoCount" S) mSkip)
  (mSeq (mExpr (mCall F_need_high (mCons (mVar 3) mNil)))
  (mRet (mCall F_first_cheated (mCons (mVar 0) (mCons (mDat (mLc (mItSeq (mCall F_all_rows (mCons (mCB bLen (mCons (mVar 1) mNil)) (mCons (mVar 3) mNil)))) (gtName 4) mYes (mDat (mListZ zipA3 (mCons (mC (.str "abcd")) (mCons (mVar 1) (mCons (mVar 4) mNil))))) [4])) (mCons (mVar 2) (mCons (mVar 3) mNil))))))))))
def F_law_ask : Fn := mkFn 6 (mTry 5 whichCs whichAns (mSeq (mIfS (mTruth boolP (mBin (cEqP false) (mVar 0) (mC (.int 0)))) (mRet (mCall F_gain (mCons (mVar 1) (mCons (mVar 2) (mCons (mVar 3) mNil))))) mSkip)
  (mSeq (mIfS (mTruth boolP (mBin (cEqP false) (mVar 0) (mC (.int 1)))) (mRet (mCall F_best_cheat (mCat (mCons (mVar 1) (mCons (mVar 2) (mCons (mVar 3) mNil))) (mCons (mVar 4) mNil)))) mSkip)
  (mRet (mIf (mTruth boolP (mBin (cEqP false) (mVar 0) (mC (.int 2)))) (mCall F_safe (mCat (mCons (mVar 1) (mCons (mVar 3) mNil)) (mCons (mVar 2) (mCons (mVar 4) mNil)))) (mCall F_safe_for (mCat (mCons (mVar 1) (mCons (mVar 2) (mCons (mVar 3) mNil))) (mCons (mVar 4) mNil))))))))
def F_law_kinds_refused : Fn := mkFn 10 (mSeq (mFor (mItSeq (mDat (mLst (mCons (mC .non) (mCons (mC (.str "")) (mCons (mC (.str "lies")) (mCons (mC (.int 5)) (mCons (mTup (mCons (mC (.str "lie")) mNil)) mNil)))))))) (gtName 4) (mSeq (mIfS (mTruth boolP (mBin (cEqP true) (mDat (mLc (mItSeq (mTup (mCons (mTup (mCons (mC (.int 1)) (mCons (mVar 2) mNil))) (mCons (mTup (mCons (mC (.int 2)) (mCons (mC .non) mNil))) mNil)))) (gtTup 2 (gtCons (gtName 8) (gtCons (gtName 9) gtNil))) mYes (mCall F_law_ask (mCons (mVar 8) (mCons (mVar 0) (mCons (mVar 9) (mCons (mVar 4) (mCons (mC .non) mNil)))))) [8, 9])) (mBin opMul (mDat (mLst (mCons (mTup (mCons (mC (.str "refused")) (mCons (mC (.int 4)) mNil))) mNil))) (mC (.int 2))))) (mRet (mC (.bl false))) mSkip)
  (mIfS (mTruth boolP (mBin (cEqP true) (mCall F_law_ask (mCons (mC (.int 3)) (mCons (mVar 1) (mCons (mC .non) (mCons (mVar 4) (mCons (mC .non) mNil)))))) (mTup (mCons (mC (.str "refused")) (mCons (mC (.int 4)) mNil))))) (mRet (mC (.bl false))) mSkip)))
  (mSeq (mIfS (mTruth boolP (mBin (cEqP true) (mCall F_law_ask (mCons (mC (.int 1)) (mCons (mVar 1) (mCons (mVar 3) (mCons (mC (.str "shill")) (mCons (mC (.int 3)) mNil)))))) (mTup (mCons (mC (.str "refused")) (mCons (mC (.int 4)) mNil))))) (mRet (mC (.bl false))) mSkip)
  (mSeq (mIfS (mTruth boolP (mBin (cEqP true) (mCall F_law_ask (mCons (mC (.int 3)) (mCons (mVar 1) (mCons (mTup (mCons (mC (.str "buy")) mNil)) (mCons (mC (.str "shill")) (mCons (mC (.int 3)) mNil)))))) (mTup (mCons (mC (.str "refused")) (mCons (mC (.int 4)) mNil))))) (mRet (mC (.bl false))) mSkip)
  (mSeq (mFor (mItSeq (mDat (mLst (mCons (mC .non) (mCons (mUn opNeg (mC (.int 1))) (mCons (mC (.int 10)) (mCons (mC (.str "3")) (mCons (mC (.bl true)) mNil)))))))) (gtName 5) (mIfS (mTruth boolP (mBin (cEqP true) (mCall F_law_ask (mCons (mC (.int 1)) (mCons (mVar 0) (mCons (mVar 2) (mCons (mC (.str "lie")) (mCons (mVar 5) mNil)))))) (mTup (mCons (mC (.str "refused")) (mCons (mC (.int 5)) mNil))))) (mRet (mC (.bl false))) mSkip))
  (mSeq (mFor (mItSeq (mDat (mLst (mCons (mC .non) (mCons (mC (.int 0)) (mCons (mC (.int 4)) (mCons (mC (.str "2")) (mCons (mC (.bl true)) mNil)))))))) (gtName 6) (mIfS (mTruth boolP (mBin (cEqP true) (mCall F_law_ask (mCons (mC (.int 2)) (mCons (mVar 0) (mCons (mVar 6) (mCons (mC (.str "lie")) (mCons (mC .non) mNil)))))) (mTup (mCons (mC (.str "refused")) (mCons (mC (.int 5)) mNil))))) (mRet (mC (.bl false))) mSkip))
  (mSeq (mFor (mItSeq (mDat (mLst (mCons (mC .non) (mCons (mTup mNil) (mCons (mDat (mLst (mCons (mC (.str "buy")) mNil))) (mCons (mBin opMul (mTup (mCons (mC (.str "buy")) mNil)) (mC (.int 5))) (mCons (mTup (mCons (mC (.str "hold")) mNil)) (mCons (mTup (mCons (mC .non) mNil)) (mCons (mC (.str "buy")) mNil)))))))))) (gtName 7) (mIfS (mTruth boolP (mBin (cEqP true) (mCall F_law_ask (mCons (mC (.int 3)) (mCons (mVar 1) (mCons (mVar 7) (mCons (mC (.str "lie")) (mCons (mC .non) mNil)))))) (mTup (mCons (mC (.str "refused")) (mCons (mC (.int 5)) mNil))))) (mRet (mC (.bl false))) mSkip))
  (mSeq (mIfS (mOrT (mTruth boolP (mBin (cEqP true) (mCall F_law_ask (mCons (mC (.int 2)) (mCons (mVar 0) (mCons (mC (.int 2)) (mCons (mC (.str "lie")) (mCons (mC (.int 5)) mNil)))))) (mTup (mCons (mC (.str "refused")) (mCons (mC (.int 5)) mNil))))) (mTruth boolP (mBin (cEqP true) (mCall F_law_ask (mCons (mC (.int 3)) (mCons (mVar 1) (mCons (mTup (mCons (mC (.str "buy")) mNil)) (mCons (mC (.str "lie")) (mCons (mUn opNeg (mC (.int 1))) mNil)))))) (mTup (mCons (mC (.str "refused")) (mCons (mC (.int 5)) mNil)))))) (mRet (mC (.bl false))) mSkip)
  (mRet (mAndV (mBin (cIsQ false) (mCall F_law_ask (mCons (mC (.int 2)) (mCons (mVar 0) (mCons (mC (.int 3)) (mCons (mC (.str "lie")) (mCons (mC (.int 0)) mNil)))))) (mC .non)) (mBin (cIsQ false) (mCall F_law_ask (mCons (mC (.int 3)) (mCons (mVar 1) (mCons (mBin opMul (mTup (mCons (mC (.str "sell")) mNil)) (mC (.int 4))) (mCons (mC (.str "ring")) (mCons (mC (.int 0)) mNil)))))) (mC .non)))))))))))
def law_s0 : MS := (mSetN 1 (mLst mNil))
def law_s1 : MS := (mPar [4, 5] (xD (mTup (mCons (mC (.str "auction")) (mCons (mC (.int 1)) (mCons (mC (.int 0)) (mCons (mC (.str "own")) (mCons (mC (.str "first")) mNil)))))) (xD (mTup (mCons (mC (.str "exchange")) (mCons (mC (.str "mid")) (mCons (mC (.str "first")) mNil)))) xNil)))
def law_s2 : MS := (mIfS (mTruth boolP (mBin (cEqP true) (mDat (mLc (mItA rng1 (mCons (mC (.int 4)) mNil)) (gtName 8) mYes (mCall F_law_ask (mCons (mVar 8) (mCons (mC .non) (mCons (mC .non) (mCons (mC .non) (mCons (mC .non) mNil)))))) [8])) (mBin opMul (mDat (mLst (mCons (mTup (mCons (mC (.str "refused")) (mCons (mC (.int 0)) mNil))) mNil))) (mC (.int 4))))) (mRet (mC (.bl false))) mSkip)
def law_s3 : MS := (mIfS (mTruth boolP (mBin (cEqP true) (mCall F_law_ask (mCons (mC (.int 2)) (mCons (mVar 5) (mCons (mC .non) (mCons (mC .non) (mCons (mC .non) mNil)))))) (mTup (mCons (mC (.str "refused")) (mCons (mC (.int 0)) mNil))))) (mRet (mC (.bl false))) mSkip)
def law_s4 : MS := (mIfS (mTruth boolP (mBin (cEqP true) (mCall F_law_ask (mCons (mC (.int 3)) (mCons (mVar 4) (mCons (mC .non) (mCons (mC .non) (mCons (mC .non) mNil)))))) (mTup (mCons (mC (.str "refused")) (mCons (mC (.int 0)) mNil))))) (mRet (mC (.bl false))) mSkip)
def law_s5 : MS := (mPar [6, 7] (xD (mDat (mLst (mCons (mTup (mCons (mC (.str "a")) (mCons (mC (.int 3)) mNil))) (mCons (mTup (mCons (mC (.str "b")) (mCons (mC (.int 2)) mNil))) mNil)))) (xD (mDat (mLst (mCons (mTup (mCons (mC (.str "a")) (mCons (mC (.str "buy")) (mCons (mC (.int 3)) mNil)))) (mCons (mTup (mCons (mC (.str "b")) (mCons (mC (.str "sell")) (mCons (mC (.int 2)) mNil)))) mNil)))) xNil)))
def law_s6 : MS := (mIfS (mTruth boolP (mBin (cEqP true) (mDat (mLc (mItA rng1 (mCons (mC (.int 2)) mNil)) (gtName 8) mYes (mCall F_law_ask (mCons (mVar 8) (mCons (mVar 4) (mCons (mDat (mLst (mCons (mTup (mCons (mC (.str "a")) (mCons (mC (.int 3)) (mCons (mC (.int 1)) mNil)))) mNil))) (mCons (mC .non) (mCons (mC .non) mNil)))))) [8])) (mBin opMul (mDat (mLst (mCons (mTup (mCons (mC (.str "refused")) (mCons (mC (.int 1)) mNil))) mNil))) (mC (.int 2))))) (mRet (mC (.bl false))) mSkip)
def law_s7 : MS := (mSetN 2 (mLst (mCons (mC .non) (mCons (mC (.int 5)) (mCons (mTup mNil) (mCons (mTup (mCons (mC (.str "lie")) mNil)) (mCons (mTup (mCons (mC (.str "lie")) (mCons (mC (.str "a")) mNil))) (mCons (mTup (mCons (mC (.str "lie")) (mCons (mC (.str "c")) (mCons (mC (.int 1)) mNil)))) (mCons (mTup (mCons (mC (.str "lie")) (mCons (mC (.str "a")) (mCons (mC (.int 21)) mNil)))) (mCons (mTup (mCons (mC (.str "lie")) (mCons (mC (.str "a")) (mCons (mC (.bl true)) mNil)))) (mCons (mDat (mLst (mCons (mC (.str "lie")) (mCons (mC (.str "a")) (mCons (mC (.int 1)) mNil))))) mNil)))))))))))
def law_s8 : MS := (mExpr (mMeth 2 fExtend (mCons (mDat (mLst (mCons (mTup (mCons (mC (.str "lie")) (mCons (mC (.str "a")) (mCons (mC (.int 1)) (mCons (mC (.int 2)) mNil))))) (mCons (mTup (mCons (mC (.str "names")) (mCons (mC (.str "c")) (mCons (mC (.int 1)) mNil)))) (mCons (mTup (mCons (mC (.str "ring")) (mCons (mC (.str "b")) (mCons (mC (.int 1)) (mCons (mC (.str "a")) (mCons (mC (.int 1)) mNil)))))) (mCons (mTup (mCons (mC (.str "ring")) (mCons (mC (.str "a")) (mCons (mC (.int 1)) (mCons (mC (.str "a")) (mCons (mC (.int 2)) mNil)))))) mNil)))))) mNil)))
def law_s9 : MS := (mExpr (mMeth 2 fExtend (mCons (mDat (mLst (mCons (mTup (mCons (mC (.str "ring")) (mCons (mC (.str "a")) (mCons (mC (.int 1)) (mCons (mC (.str "b")) mNil))))) (mCons (mTup (mCons (mC (.str "ring")) (mCons (mC (.str "a")) (mCons (mC (.int 1)) (mCons (mC (.str "c")) (mCons (mC (.int 1)) mNil)))))) (mCons (mTup (mCons (mC (.str "ring")) (mCons (mC (.str "a")) (mCons (mUn opNeg (mC (.int 1))) (mCons (mC (.str "b")) (mCons (mC (.int 1)) mNil)))))) (mCons (mTup (mCons (mC (.str "shill")) mNil)) (mCons (mTup (mCons (mC (.str "shill")) (mCons (mUn opNeg (mC (.int 1))) mNil))) mNil))))))) mNil)))
def law_s10 : MS := (mExpr (mMeth 2 fExtend (mCons (mDat (mLst (mCons (mTup (mCons (mC (.str "shill")) (mCons (mC (.str "a")) (mCons (mC (.int 1)) mNil)))) (mCons (mTup (mCons (mC (.str "bid")) (mCons (mC (.str "a")) (mCons (mC (.int 1)) mNil)))) mNil)))) mNil)))
def law_s11 : MS := (mSet 3 (mCall F_law_pick (mCons (mVar 0) (mCons (mVar 1) (mCons (mFrz 2) mNil)))))
def law_s12 : MS := (mIfS (mOrT (mTruth boolP (mBin (cEqP true) (mCall F_law_ask (mCons (mC (.int 0)) (mCons (mVar 4) (mCons (mVar 6) (mCons (mVar 3) (mCons (mC .non) mNil)))))) (mTup (mCons (mC (.str "refused")) (mCons (mC (.int 4)) mNil))))) (mTruth boolP (mBin (cIsQ true) (mCall F_is_cheat (mCons (mVar 4) (mCons (mVar 6) (mCons (mVar 3) mNil)))) (mC (.bl false))))) (mRet (mC (.bl false))) mSkip)
def law_s13 : MS := (mIfS (mTruth boolP (mBin (cEqP true) (mCall F_law_ask (mCons (mC (.int 0)) (mCons (mVar 5) (mCons (mVar 7) (mCons (mTup (mCons (mC (.str "shill")) (mCons (mC (.int 3)) mNil))) (mCons (mC .non) mNil)))))) (mTup (mCons (mC (.str "refused")) (mCons (mC (.int 4)) mNil))))) (mRet (mC (.bl false))) mSkip)
def law_s14 : MS := (mIfS (mTruth boolP (mBin (cIsQ true) (mCall F_is_cheat (mCons (mVar 4) (mCons (mVar 6) (mCons (mTup (mCons (mC (.str "shill")) (mCons (mC (.int 3)) mNil))) mNil)))) (mC (.bl true)))) (mRet (mC (.bl false))) mSkip)
def law_s15 : MS := (mRet (mCall F_law_kinds_refused (mCons (mVar 4) (mCons (mVar 5) (mCons (mVar 6) (mCons (mVar 7) mNil))))))
def F_law : Fn := mkFn 9 (mSeq law_s0 (mSeq law_s1 (mSeq law_s2 (mSeq law_s3 (mSeq law_s4 (mSeq law_s5 (mSeq law_s6 (mSeq law_s7 (mSeq law_s8 (mSeq law_s9 (mSeq law_s10 (mSeq law_s11 (mSeq law_s12 (mSeq law_s13 (mSeq law_s14 law_s15)))))))))))))))
end Mw

set_option Elab.async false
set_option linter.all false
set_option maxRecDepth 100000
set_option maxHeartbeats 4000000
namespace Mw
open PySem L2
def A11 (ns : List Int) : Sg := (law_s10 (law_s9 (law_s8 (law_s7 (law_s6 (law_s5 (law_s4 (law_s3 (law_s2 (law_s1 (law_s0 (.d (.scr ns) :: List.replicate 8 .no)).st).st).st).st).st).st).st).st).st).st).st
def xs11 : List D := [.non, (.int 5), (.tup []), (.tup [(.str "lie")]), (.tup [(.str "lie"), (.str "a")]), (.tup [(.str "lie"), (.str "c"), (.int 1)]), (.tup [(.str "lie"), (.str "a"), (.int 21)]), (.tup [(.str "lie"), (.str "a"), (.bl true)]), (.lst [(.str "lie"), (.str "a"), (.int 1)]), (.tup [(.str "lie"), (.str "a"), (.int 1), (.int 2)]), (.tup [(.str "names"), (.str "c"), (.int 1)]), (.tup [(.str "ring"), (.str "b"), (.int 1), (.str "a"), (.int 1)]), (.tup [(.str "ring"), (.str "a"), (.int 1), (.str "a"), (.int 2)]), (.tup [(.str "ring"), (.str "a"), (.int 1), (.str "b")]), (.tup [(.str "ring"), (.str "a"), (.int 1), (.str "c"), (.int 1)]), (.tup [(.str "ring"), (.str "a"), (.int (-1)), (.str "b"), (.int 1)]), (.tup [(.str "shill")]), (.tup [(.str "shill"), (.int (-1))]), (.tup [(.str "shill"), (.str "a"), (.int 1)]), (.tup [(.str "bid"), (.str "a"), (.int 1)])]
def B11 (ns : List Int) (x : D) : Sg := (((A11 ns).set 2 (.d (.lst xs11))).set 1 (.l false [.int 0])).set 3 (.d x)
/-- behind the pick nothing hangs on it but one test -/
theorem last11 (ns : List Int) (x : D) : (law_s15 (B11 ns x)).fin = some (.bl true) := by kernel_rfl
theorem s13_11 (ns : List Int) (x : D) : law_s13 (B11 ns x) = .ok .nx (B11 ns x) := by kernel_rfl
theorem s14_11 (ns : List Int) (x : D) : law_s14 (B11 ns x) = .ok .nx (B11 ns x) := by kernel_rfl
theorem s12_11 (ns : List Int) : ∀ (d : Nat) (x : D), xs11[d]? = some x → law_s12 (B11 ns x) = .ok .nx (B11 ns x)
  | 0, x, h => by cases h; kernel_rfl
  | 1, x, h => by cases h; kernel_rfl
  | 2, x, h => by cases h; kernel_rfl
  | 3, x, h => by cases h; kernel_rfl
  | 4, x, h => by cases h; kernel_rfl
  | 5, x, h => by cases h; kernel_rfl
  | 6, x, h => by cases h; kernel_rfl
  | 7, x, h => by cases h; kernel_rfl
  | 8, x, h => by cases h; kernel_rfl
  | 9, x, h => by cases h; kernel_rfl
  | 10, x, h => by cases h; kernel_rfl
  | 11, x, h => by cases h; kernel_rfl
  | 12, x, h => by cases h; kernel_rfl
  | 13, x, h => by cases h; kernel_rfl
  | 14, x, h => by cases h; kernel_rfl
  | 15, x, h => by cases h; kernel_rfl
  | 16, x, h => by cases h; kernel_rfl
  | 17, x, h => by cases h; kernel_rfl
  | 18, x, h => by cases h; kernel_rfl
  | 19, x, h => by cases h; kernel_rfl
  | k + 20, x, h => by simp [xs11] at h
theorem law_k11 : ∀ ns : List Int, ns.length ≤ 63 → ∃ S, F_law [.d (.scr ns)] = .ok (.bl true) S := by
  intro ns hl
  unfold F_law
  refine fn_fin ?_
  rw [seq_st (by kernel_rfl), seq_st (by kernel_rfl), seq_st (by kernel_rfl), seq_st (by kernel_rfl), seq_st (by kernel_rfl), seq_st (by kernel_rfl), seq_st (by kernel_rfl), seq_st (by kernel_rfl), seq_st (by kernel_rfl), seq_st (by kernel_rfl), seq_st (by kernel_rfl)]
  show (mSeq law_s11 _ (A11 ns)).fin = _
  obtain ⟨d, x, hd, e⟩ := pick_at (j := 2) (S := A11 ns) (ns := ns) (t := []) (b := false) (xs := xs11) hl (by kernel_rfl) (by kernel_rfl) (by kernel_rfl) (by decide) (by decide) (by intro z; cases z) (by decide)
  have e4 : law_s11 (A11 ns) = .ok .nx (B11 ns x) := set_ok (i := 3) e
  rw [seq_ok e4, seq_ok (s12_11 ns d x hd), seq_ok (s13_11 ns x), seq_ok (s14_11 ns x)]
  exact last11 ns x
end Mw

set_option Elab.async false
set_option linter.all false
set_option maxRecDepth 100000
set_option maxHeartbeats 4000000

namespace Mw.R
open PySem PySem.Spec PyProof.Rows L2 Mw
structure Env (K : PySem.W.Frag) (mg : Str → Option Value) : Prop where
  f_isinstance : mg "isinstance" = none
  f_int : mg "int" = none
  f_bool : mg "bool" = none
  f_abs : mg "abs" = none
  f_str : mg "str" = none
  f_len : mg "len" = none
  f_all : mg "all" = none
  f_tuple : mg "tuple" = none
  f_list : mg "list" = none
  f_sorted : mg "sorted" = none
  f_enumerate : mg "enumerate" = none
  f_min : mg "min" = none
  f_zip : mg "zip" = none
  f_range : mg "range" = none
  f_ValueError : mg "ValueError" = none
  x_NoRule : ExOk K mg "NoRule"
  x_NoBids : ExOk K mg "NoBids"
  x_NoCheat : ExOk K mg "NoCheat"
  x_NoCount : ExOk K mg "NoCount"
  x_NoNumber : ExOk K mg "NoNumber"
  x_NoTrader : ExOk K mg "NoTrader"
  x_TooMany : ExOk K mg "TooMany"
  x_NoPlan : ExOk K mg "NoPlan"
  x_NoSplit : ExOk K mg "NoSplit"
  x_NoWishes : ExOk K mg "NoWishes"
  x_NoSwap : ExOk K mg "NoSwap"
  x_NoWay : ExOk K mg "NoWay"
  x_NoTape : ExOk K mg "NoTape"
  x_NoText : ExOk K mg "NoText"
  x_NoPurses : ExOk K mg "NoPurses"
  x_NotOpen : ExOk K mg "NotOpen"
  x_StillOpen : ExOk K mg "StillOpen"
  x_Nothing : ExOk K mg "Nothing"
  x_MarketError : ExOk K mg "MarketError"
  k_HIGH : ∃ t, mg "HIGH" = some (.int 20 t)
  k_LETTERS_rules : ∃ t, mg "LETTERS_rules" = some (.str "abcdefghijklmnopqrstuvwxyz" t)
  k_PAYS : mg "PAYS" = some (.ref (He.ga K "PAYS")) ∧ He.tupB K "PAYS" ([("own" : Str), ("next" : Str), ("least" : Str), ("fixed" : Str), ("half" : Str), ("all" : Str)].map He.Dv.str) = true
  k_TIES : mg "TIES" = some (.ref (He.ga K "TIES")) ∧ He.tupB K "TIES" ([("first" : Str), ("last" : Str)].map He.Dv.str) = true
  k_PRICES : mg "PRICES" = some (.ref (He.ga K "PRICES")) ∧ He.tupB K "PRICES" ([("mid" : Str), ("buy" : Str), ("sell" : Str), ("cut" : Str)].map He.Dv.str) = true
  k_SIDES : mg "SIDES" = some (.ref (He.ga K "SIDES")) ∧ He.tupB K "SIDES" ([("buy" : Str), ("sell" : Str)].map He.Dv.str) = true
  k_MOST : ∃ t, mg "MOST" = some (.int 6 t)
  k_KINDS : mg "KINDS" = some (.ref (He.ga K "KINDS")) ∧ He.tupB K "KINDS" ([("lie" : Str), ("names" : Str), ("ring" : Str), ("shill" : Str)].map He.Dv.str) = true
  k_LETTERS_cheats : ∃ t, mg "LETTERS_cheats" = some (.str "abcd" t)
  g_standing : (He.Fa.glo "standing").ok K = true
  u_standing : ∀ p ∈ tbs K, p.1 = (He.cT K ("standing", none)).2 → p.2 = ("standing" : Str) ++ ".<locals>.<lambda>"
  ask : ∀ c ∈ whichCs, AskOk K mg c whichCs
  exm : ∀ c ∈ whichCs, PySem.W.exmOne K (clsV mg c) (.ref (He.ga K "MarketError")) = some true
section
variable {P : Program} {w : World} {K : PySem.W.Frag} {mg : Str → Option Value} {base : Heap}
theorem sc_is_whole : FnScope ["thing", "low", "high"] ["thing", "low", "high"] (defScope s_is_whole) := ⟨rfl, rfl, rfl, by decide +kernel, rfl, by decide +kernel, by decide +kernel⟩
theorem ok_is_whole (E : Env K mg) (F : DefF K mg "is_whole" s_is_whole) : Ok P w K mg base 1 "is_whole" 3 F_is_whole :=
  ok_of F sc_is_whole (fun F => F.bindsN fun _ _ _ _ _ _ us hl => match us, hl with | [_, _, _], _ => rfl) fun cdv A outer s H E' hcv hr tk hp hu hv =>
  (jss_one (js_ret (je_and (je_isi (T := .int) (by rfl) E.f_isinstance (by rfl) E.f_int boot_int (je_var 0)) (je_and (je_not (je_isi (T := .bool) (by rfl) E.f_isinstance (by rfl) E.f_bool boot_bool (je_var 0))) (je_one (je_chain o_le o_le (je_var 1) (je_var 0) (je_var 2)))))))
theorem sc_common : FnScope ["a", "b"] ["a", "b"] (defScope s_common) := ⟨rfl, rfl, rfl, by decide +kernel, rfl, by decide +kernel, by decide +kernel⟩
theorem ok_common (E : Env K mg) (F : DefF K mg "common" s_common) : Ok P w K mg base 1 "common" 2 F_common :=
  ok_of F sc_common (fun F => F.bindsN fun _ _ _ _ _ _ us hl => match us, hl with | [_, _], _ => rfl) fun cdv A outer s H E' hcv hr tk hp hu hv =>
  (jss_cons (js_while (2 ^ 64) hp (jt_cmp (o_ne hu) (je_var 1) je_int (nomark _)) (jss_one (js_par (par2 (i := 0) (j := 1) rfl sc_common.nd (by decide)) (jx_d (je_var 1) (jx_d (je_bin o_mod (je_var 0) (je_var 1)) jx_nil)))))
  (jss_one (js_ret (je_callB c_abs (by rfl) E.f_abs boot_abs (ja_cons (je_var 0) ja_nil)))))
theorem sc_made_of : FnScope ["top", "bottom", "part", "sign"] ["top", "bottom"] (defScope s_made_of) := ⟨rfl, rfl, rfl, by decide +kernel, rfl, by decide +kernel, by decide +kernel⟩
theorem ok_made_of (E : Env K mg) (o_common : Ok P w K mg base 1 "common" 2 F_common) (F : DefF K mg "made_of" s_made_of) : Ok P w K mg base 2 "made_of" 2 F_made_of :=
  ok_of F sc_made_of (fun F => F.bindsN fun _ _ _ _ _ _ us hl => match us, hl with | [_, _], _ => rfl) fun cdv A outer s H E' hcv hr tk hp hu hv =>
  (jss_cons (js_set (i := 2) sc_made_of.nd (je_callO o_common (hr.mono (by decide)) tk (by rfl) (MA.len1 (MA.len1 MA.len0)) (ja_cons (je_var 0) (ja_cons (je_var 1) ja_nil))))
  (jss_cons (js_set (i := 3) sc_made_of.nd (je_if (jt_cmp o_gt (je_var 1) je_int (nomark _)) je_int (je_un o_neg je_int)))
  (jss_one (js_ret (je_tup (ja_cons (je_bin o_fdiv (je_bin o_mul (je_var 3) (je_var 0)) (je_var 2)) (ja_cons (je_bin o_fdiv (je_callB c_abs (by rfl) E.f_abs boot_abs (ja_cons (je_var 1) ja_nil)) (je_var 2)) ja_nil)))))))
theorem sc_sum_of_two : FnScope ["a", "b"] ["a", "b"] (defScope s_sum_of_two) := ⟨rfl, rfl, rfl, by decide +kernel, rfl, by decide +kernel, by decide +kernel⟩
theorem ok_sum_of_two (E : Env K mg) (o_made_of : Ok P w K mg base 2 "made_of" 2 F_made_of) (F : DefF K mg "sum_of_two" s_sum_of_two) : Ok P w K mg base 3 "sum_of_two" 2 F_sum_of_two :=
  ok_of F sc_sum_of_two (fun F => F.bindsN fun _ _ _ _ _ _ us hl => match us, hl with | [_, _], _ => rfl) fun cdv A outer s H E' hcv hr tk hp hu hv =>
  (jss_one (js_ret (je_callO o_made_of (hr.mono (by decide)) tk (by rfl) (MA.len1 (MA.len1 MA.len0)) (ja_cons (je_bin o_add (je_bin o_mul (je_ix (je_var 0) je_int) (je_ix (je_var 1) je_int)) (je_bin o_mul (je_ix (je_var 1) je_int) (je_ix (je_var 0) je_int))) (ja_cons (je_bin o_mul (je_ix (je_var 0) je_int) (je_ix (je_var 1) je_int)) ja_nil)))))
theorem sc_minus_of : FnScope ["a", "b"] ["a", "b"] (defScope s_minus_of) := ⟨rfl, rfl, rfl, by decide +kernel, rfl, by decide +kernel, by decide +kernel⟩
theorem ok_minus_of (E : Env K mg) (o_made_of : Ok P w K mg base 2 "made_of" 2 F_made_of) (F : DefF K mg "minus_of" s_minus_of) : Ok P w K mg base 3 "minus_of" 2 F_minus_of :=
  ok_of F sc_minus_of (fun F => F.bindsN fun _ _ _ _ _ _ us hl => match us, hl with | [_, _], _ => rfl) fun cdv A outer s H E' hcv hr tk hp hu hv =>
  (jss_one (js_ret (je_callO o_made_of (hr.mono (by decide)) tk (by rfl) (MA.len1 (MA.len1 MA.len0)) (ja_cons (je_bin o_sub (je_bin o_mul (je_ix (je_var 0) je_int) (je_ix (je_var 1) je_int)) (je_bin o_mul (je_ix (je_var 1) je_int) (je_ix (je_var 0) je_int))) (ja_cons (je_bin o_mul (je_ix (je_var 0) je_int) (je_ix (je_var 1) je_int)) ja_nil)))))
theorem sc_order_of : FnScope ["a", "b", "first", "second"] ["a", "b"] (defScope s_order_of) := ⟨rfl, rfl, rfl, by decide +kernel, rfl, by decide +kernel, by decide +kernel⟩
theorem ok_order_of (E : Env K mg) (F : DefF K mg "order_of" s_order_of) : Ok P w K mg base 1 "order_of" 2 F_order_of :=
  ok_of F sc_order_of (fun F => F.bindsN fun _ _ _ _ _ _ us hl => match us, hl with | [_, _], _ => rfl) fun cdv A outer s H E' hcv hr tk hp hu hv =>
  (jss_cons (js_par (par2 (i := 2) (j := 3) rfl sc_order_of.nd (by decide)) (jx_d (je_bin o_mul (je_ix (je_var 0) je_int) (je_ix (je_var 1) je_int)) (jx_d (je_bin o_mul (je_ix (je_var 1) je_int) (je_ix (je_var 0) je_int)) jx_nil)))
  (jss_one (js_ret (je_bin o_sub (je_callTy c_int (by rfl) E.f_int boot_int (ja_cons (je_cmp o_gt (je_var 2) (je_var 3) (nomark _)) ja_nil)) (je_callTy c_int (by rfl) E.f_int boot_int (ja_cons (je_cmp o_lt (je_var 2) (je_var 3) (nomark _)) ja_nil))))))
theorem sc_whole : FnScope ["number"] ["number"] (defScope s_whole) := ⟨rfl, rfl, rfl, by decide +kernel, rfl, by decide +kernel, by decide +kernel⟩
theorem ok_whole (E : Env K mg) (F : DefF K mg "whole" s_whole) : Ok P w K mg base 1 "whole" 1 F_whole :=
  ok_of F sc_whole (fun F => F.bindsN fun _ _ _ _ _ _ us hl => match us, hl with | [_], _ => rfl) fun cdv A outer s H E' hcv hr tk hp hu hv =>
  (jss_one (js_ret (je_tup (ja_cons (je_var 0) (ja_cons je_int ja_nil)))))
theorem sc_half : FnScope ["number"] ["number"] (defScope s_half) := ⟨rfl, rfl, rfl, by decide +kernel, rfl, by decide +kernel, by decide +kernel⟩
theorem ok_half (E : Env K mg) (o_made_of : Ok P w K mg base 2 "made_of" 2 F_made_of) (F : DefF K mg "half" s_half) : Ok P w K mg base 3 "half" 1 F_half :=
  ok_of F sc_half (fun F => F.bindsN fun _ _ _ _ _ _ us hl => match us, hl with | [_], _ => rfl) fun cdv A outer s H E' hcv hr tk hp hu hv =>
  (jss_one (js_ret (je_callO o_made_of (hr.mono (by decide)) tk (by rfl) (MA.len1 (MA.len1 MA.len0)) (ja_cons (je_var 0) (ja_cons je_int ja_nil)))))
theorem sc_sum_of_all : FnScope ["some", "made", "one"] ["some"] (defScope s_sum_of_all) := ⟨rfl, rfl, rfl, by decide +kernel, rfl, by decide +kernel, by decide +kernel⟩
theorem ok_sum_of_all (E : Env K mg) (o_sum_of_two : Ok P w K mg base 3 "sum_of_two" 2 F_sum_of_two) (F : DefF K mg "sum_of_all" s_sum_of_all) : Ok P w K mg base 4 "sum_of_all" 1 F_sum_of_all :=
  ok_of F sc_sum_of_all (fun F => F.bindsN fun _ _ _ _ _ _ us hl => match us, hl with | [_], _ => rfl) fun cdv A outer s H E' hcv hr tk hp hu hv =>
  (jss_cons (js_set (i := 1) sc_sum_of_all.nd (je_tup (ja_cons je_int (ja_cons je_int ja_nil))))
  (jss_cons (js_for hp rfl (ji_seq (je_var 0)) (jg_name (i := 2) sc_sum_of_all.nd) (jss_one (js_set (i := 1) sc_sum_of_all.nd (je_callO o_sum_of_two (hr.mono (by decide)) tk (by rfl) (MA.len1 (MA.len1 MA.len0)) (ja_cons (je_var 1) (ja_cons (je_var 2) ja_nil))))))
  (jss_one (js_ret (je_var 1)))))
theorem sc_is_among : FnScope ["thing", "some"] ["thing", "some"] (defScope s_is_among) := ⟨rfl, rfl, rfl, by decide +kernel, rfl, by decide +kernel, by decide +kernel⟩
theorem ok_is_among (E : Env K mg) (F : DefF K mg "is_among" s_is_among) : Ok P w K mg base 1 "is_among" 2 F_is_among :=
  ok_of F sc_is_among (fun F => F.bindsN fun _ _ _ _ _ _ us hl => match us, hl with | [_, _], _ => rfl) fun cdv A outer s H E' hcv hr tk hp hu hv =>
  (jss_one (js_ret (je_and (je_isi (T := .str) (by rfl) E.f_isinstance (by rfl) E.f_str boot_str (je_var 0)) (je_one (je_cmp (o_in hv) (je_var 0) (je_var 1) (by rfl))))))
theorem sc_is_number : FnScope ["thing"] ["thing"] (defScope s_is_number) := ⟨rfl, rfl, rfl, by decide +kernel, rfl, by decide +kernel, by decide +kernel⟩
theorem ok_is_number (E : Env K mg) (o_is_whole : Ok P w K mg base 1 "is_whole" 3 F_is_whole) (F : DefF K mg "is_number" s_is_number) : Ok P w K mg base 2 "is_number" 1 F_is_number :=
  ok_of F sc_is_number (fun F => F.bindsN fun _ _ _ _ _ _ us hl => match us, hl with | [_], _ => rfl) fun cdv A outer s H E' hcv hr tk hp hu hv =>
  (jss_one (js_ret (je_callO o_is_whole (hr.mono (by decide)) tk (by rfl) (MA.len1 (MA.len1 (MA.len1 MA.len0))) (ja_cons (je_var 0) (ja_cons je_int (ja_cons (je_cI E.k_HIGH (by rfl)) ja_nil))))))
theorem sc_is_trader : FnScope ["thing", "sign"] ["thing"] (defScope s_is_trader) := ⟨rfl, rfl, rfl, by decide +kernel, rfl, by decide +kernel, by decide +kernel⟩
theorem ok_is_trader (E : Env K mg) (F : DefF K mg "is_trader" s_is_trader) : Ok P w K mg base 1 "is_trader" 1 F_is_trader :=
  ok_of F sc_is_trader (fun F => F.bindsN fun _ _ _ _ _ _ us hl => match us, hl with | [_], _ => rfl) fun cdv A outer s H E' hcv hr tk hp hu hv =>
  (jss_one (js_ret (je_and (je_isi (T := .str) (by rfl) E.f_isinstance (by rfl) E.f_str boot_str (je_var 0)) (je_and (je_chain o_le o_le je_int (je_callB c_len (by rfl) E.f_len boot_len (ja_cons (je_var 0) ja_nil)) je_int) (je_one (je_callB (c_all rfl) (by rfl) E.f_all boot_all (ja_cons (je_dat (jn_lc (own := [("sign", 1)]) rfl sc_is_trader.nd (ji_seq (je_var 0)) (blkOk_by (N := ["thing", "sign"]) (sc := defScope s_is_trader) (by decide +kernel)) (fun _ _ _ _ _ => (jg_name (i := 1) sc_is_trader.nd)) (fun _ _ _ _ _ => jts_nil) (fun _ _ _ _ _ => (je_cmp (o_in hv) (je_var 1) (je_cS E.k_LETTERS_rules (by rfl)) (by rfl))))) ja_nil)))))))
theorem sc_is_auction : FnScope ["thing"] ["thing"] (defScope s_is_auction) := ⟨rfl, rfl, rfl, by decide +kernel, rfl, by decide +kernel, by decide +kernel⟩
theorem ok_is_auction (E : Env K mg) (o_is_among : Ok P w K mg base 1 "is_among" 2 F_is_among) (o_is_whole : Ok P w K mg base 1 "is_whole" 3 F_is_whole) (o_is_number : Ok P w K mg base 2 "is_number" 1 F_is_number) (F : DefF K mg "is_auction" s_is_auction) : Ok P w K mg base 3 "is_auction" 1 F_is_auction :=
  ok_of F sc_is_auction (fun F => F.bindsN fun _ _ _ _ _ _ us hl => match us, hl with | [_], _ => rfl) fun cdv A outer s H E' hcv hr tk hp hu hv =>
  (jss_cons (js_if (jw_pt (jw_or (jt_not (jt_val (je_isi (T := .tuple) (by rfl) E.f_isinstance (by rfl) E.f_tuple boot_tuple (je_var 0)))) (jw_or (jt_cmp (o_ne hu) (je_callB c_len (by rfl) E.f_len boot_len (ja_cons (je_var 0) ja_nil)) je_int (nomark _)) (jw_or1 (jt_not (jt_val (je_callO o_is_among (hr.mono (by decide)) tk (by rfl) (MA.len1 (MA.len1 MA.len0)) (ja_cons (je_ix (je_var 0) je_int) (ja_cons (je_tup (ja_cons je_str ja_nil)) ja_nil))))))))) (jss_one (js_ret je_bl)) jss_nil)
  (jss_cons (js_if (jw_pt (jw_or (jt_not (jt_val (je_callO o_is_whole (hr.mono (by decide)) tk (by rfl) (MA.len1 (MA.len1 (MA.len1 MA.len0))) (ja_cons (je_ix (je_var 0) je_int) (ja_cons je_int (ja_cons je_int ja_nil)))))) (jw_or1 (jt_not (jt_val (je_callO o_is_number (hr.mono (by decide)) tk (by rfl) (MA.len1 MA.len0) (ja_cons (je_ix (je_var 0) je_int) ja_nil))))))) (jss_one (js_ret je_bl)) jss_nil)
  (jss_one (js_ret (je_and (je_callO o_is_among (hr.mono (by decide)) tk (by rfl) (MA.len1 (MA.len1 MA.len0)) (ja_cons (je_ix (je_var 0) je_int) (ja_cons (je_cT E.k_PAYS (by rfl)) ja_nil))) (je_one (je_callO o_is_among (hr.mono (by decide)) tk (by rfl) (MA.len1 (MA.len1 MA.len0)) (ja_cons (je_ix (je_var 0) je_int) (ja_cons (je_cT E.k_TIES (by rfl)) ja_nil)))))))))
theorem sc_is_exchange : FnScope ["thing"] ["thing"] (defScope s_is_exchange) := ⟨rfl, rfl, rfl, by decide +kernel, rfl, by decide +kernel, by decide +kernel⟩
theorem ok_is_exchange (E : Env K mg) (o_is_among : Ok P w K mg base 1 "is_among" 2 F_is_among) (F : DefF K mg "is_exchange" s_is_exchange) : Ok P w K mg base 2 "is_exchange" 1 F_is_exchange :=
  ok_of F sc_is_exchange (fun F => F.bindsN fun _ _ _ _ _ _ us hl => match us, hl with | [_], _ => rfl) fun cdv A outer s H E' hcv hr tk hp hu hv =>
  (jss_cons (js_if (jw_pt (jw_or (jt_not (jt_val (je_isi (T := .tuple) (by rfl) E.f_isinstance (by rfl) E.f_tuple boot_tuple (je_var 0)))) (jw_or (jt_cmp (o_ne hu) (je_callB c_len (by rfl) E.f_len boot_len (ja_cons (je_var 0) ja_nil)) je_int (nomark _)) (jw_or1 (jt_not (jt_val (je_callO o_is_among (hr.mono (by decide)) tk (by rfl) (MA.len1 (MA.len1 MA.len0)) (ja_cons (je_ix (je_var 0) je_int) (ja_cons (je_tup (ja_cons je_str ja_nil)) ja_nil))))))))) (jss_one (js_ret je_bl)) jss_nil)
  (jss_one (js_ret (je_and (je_callO o_is_among (hr.mono (by decide)) tk (by rfl) (MA.len1 (MA.len1 MA.len0)) (ja_cons (je_ix (je_var 0) je_int) (ja_cons (je_cT E.k_PRICES (by rfl)) ja_nil))) (je_one (je_callO o_is_among (hr.mono (by decide)) tk (by rfl) (MA.len1 (MA.len1 MA.len0)) (ja_cons (je_ix (je_var 0) je_int) (ja_cons (je_cT E.k_TIES (by rfl)) ja_nil))))))))
theorem sc_is_rule : FnScope ["thing"] ["thing"] (defScope s_is_rule) := ⟨rfl, rfl, rfl, by decide +kernel, rfl, by decide +kernel, by decide +kernel⟩
theorem ok_is_rule (E : Env K mg) (o_is_auction : Ok P w K mg base 3 "is_auction" 1 F_is_auction) (o_is_exchange : Ok P w K mg base 2 "is_exchange" 1 F_is_exchange) (F : DefF K mg "is_rule" s_is_rule) : Ok P w K mg base 4 "is_rule" 1 F_is_rule :=
  ok_of F sc_is_rule (fun F => F.bindsN fun _ _ _ _ _ _ us hl => match us, hl with | [_], _ => rfl) fun cdv A outer s H E' hcv hr tk hp hu hv =>
  (jss_one (js_ret (je_or (je_callO o_is_auction (hr.mono (by decide)) tk (by rfl) (MA.len1 MA.len0) (ja_cons (je_var 0) ja_nil)) (je_one (je_callO o_is_exchange (hr.mono (by decide)) tk (by rfl) (MA.len1 MA.len0) (ja_cons (je_var 0) ja_nil))))))
theorem sc_need_rule : FnScope ["rule"] ["rule"] (defScope s_need_rule) := ⟨rfl, rfl, rfl, by decide +kernel, rfl, by decide +kernel, by decide +kernel⟩
theorem ok_need_rule (E : Env K mg) (o_is_rule : Ok P w K mg base 4 "is_rule" 1 F_is_rule) (F : DefF K mg "need_rule" s_need_rule) : Ok P w K mg base 5 "need_rule" 1 F_need_rule :=
  ok_of F sc_need_rule (fun F => F.bindsN fun _ _ _ _ _ _ us hl => match us, hl with | [_], _ => rfl) fun cdv A outer s H E' hcv hr tk hp hu hv =>
  (jss_one (js_if (jt_not (jt_val (je_callO o_is_rule (hr.mono (by decide)) tk (by rfl) (MA.len1 MA.len0) (ja_cons (je_var 0) ja_nil)))) (jss_one (js_raise E.x_NoRule rfl tk (by rfl))) jss_nil))
theorem sc_need_auction : FnScope ["rule"] ["rule"] (defScope s_need_auction) := ⟨rfl, rfl, rfl, by decide +kernel, rfl, by decide +kernel, by decide +kernel⟩
theorem ok_need_auction (E : Env K mg) (o_is_auction : Ok P w K mg base 3 "is_auction" 1 F_is_auction) (F : DefF K mg "need_auction" s_need_auction) : Ok P w K mg base 4 "need_auction" 1 F_need_auction :=
  ok_of F sc_need_auction (fun F => F.bindsN fun _ _ _ _ _ _ us hl => match us, hl with | [_], _ => rfl) fun cdv A outer s H E' hcv hr tk hp hu hv =>
  (jss_one (js_if (jt_not (jt_val (je_callO o_is_auction (hr.mono (by decide)) tk (by rfl) (MA.len1 MA.len0) (ja_cons (je_var 0) ja_nil)))) (jss_one (js_raise E.x_NoRule rfl tk (by rfl))) jss_nil))
theorem sc_need_exchange : FnScope ["rule"] ["rule"] (defScope s_need_exchange) := ⟨rfl, rfl, rfl, by decide +kernel, rfl, by decide +kernel, by decide +kernel⟩
theorem ok_need_exchange (E : Env K mg) (o_is_exchange : Ok P w K mg base 2 "is_exchange" 1 F_is_exchange) (F : DefF K mg "need_exchange" s_need_exchange) : Ok P w K mg base 3 "need_exchange" 1 F_need_exchange :=
  ok_of F sc_need_exchange (fun F => F.bindsN fun _ _ _ _ _ _ us hl => match us, hl with | [_], _ => rfl) fun cdv A outer s H E' hcv hr tk hp hu hv =>
  (jss_one (js_if (jt_not (jt_val (je_callO o_is_exchange (hr.mono (by decide)) tk (by rfl) (MA.len1 MA.len0) (ja_cons (je_var 0) ja_nil)))) (jss_one (js_raise E.x_NoRule rfl tk (by rfl))) jss_nil))
theorem sc_is_bid : FnScope ["rule", "thing"] ["rule", "thing"] (defScope s_is_bid) := ⟨rfl, rfl, rfl, by decide +kernel, rfl, by decide +kernel, by decide +kernel⟩
theorem ok_is_bid (E : Env K mg) (o_is_trader : Ok P w K mg base 1 "is_trader" 1 F_is_trader) (o_is_number : Ok P w K mg base 2 "is_number" 1 F_is_number) (o_is_among : Ok P w K mg base 1 "is_among" 2 F_is_among) (F : DefF K mg "is_bid" s_is_bid) : Ok P w K mg base 3 "is_bid" 2 F_is_bid :=
  ok_of F sc_is_bid (fun F => F.bindsN fun _ _ _ _ _ _ us hl => match us, hl with | [_, _], _ => rfl) fun cdv A outer s H E' hcv hr tk hp hu hv =>
  (jss_cons (js_if (jw_pt (jw_or (jt_not (jt_val (je_isi (T := .tuple) (by rfl) E.f_isinstance (by rfl) E.f_tuple boot_tuple (je_var 1)))) (jw_or (jt_cmp (o_ne hu) (je_callB c_len (by rfl) E.f_len boot_len (ja_cons (je_var 1) ja_nil)) (je_if (jt_cmp (o_eq hu) (je_ix (je_var 0) je_int) je_str (nomark _)) je_int je_int) (nomark _)) (jw_or1 (jt_not (jt_val (je_callO o_is_trader (hr.mono (by decide)) tk (by rfl) (MA.len1 MA.len0) (ja_cons (je_ix (je_var 1) je_int) ja_nil)))))))) (jss_one (js_ret je_bl)) jss_nil)
  (jss_one (js_ret (je_and (je_callO o_is_number (hr.mono (by decide)) tk (by rfl) (MA.len1 MA.len0) (ja_cons (je_ix (je_var 1) (je_un o_neg je_int)) ja_nil)) (je_one (je_or (je_cmp (o_eq hu) (je_ix (je_var 0) je_int) je_str (nomark _)) (je_one (je_callO o_is_among (hr.mono (by decide)) tk (by rfl) (MA.len1 (MA.len1 MA.len0)) (ja_cons (je_ix (je_var 1) je_int) (ja_cons (je_cT E.k_SIDES (by rfl)) ja_nil))))))))))
theorem sc_good_bids : FnScope ["rule", "thing", "one"] ["rule", "thing"] (defScope s_good_bids) := ⟨rfl, rfl, rfl, by decide +kernel, rfl, by decide +kernel, by decide +kernel⟩
theorem ok_good_bids (E : Env K mg) (o_is_bid : Ok P w K mg base 3 "is_bid" 2 F_is_bid) (F : DefF K mg "good_bids" s_good_bids) : Ok P w K mg base 4 "good_bids" 2 F_good_bids :=
  ok_of F sc_good_bids (fun F => F.bindsN fun _ _ _ _ _ _ us hl => match us, hl with | [_, _], _ => rfl) fun cdv A outer s H E' hcv hr tk hp hu hv =>
  (jss_cons (js_if (jw_pt (jw_or (jt_not (jt_val (je_isi (T := .list) (by rfl) E.f_isinstance (by rfl) E.f_list boot_list (je_var 1)))) (jw_or (jt_cmp o_gt (je_callB c_len (by rfl) E.f_len boot_len (ja_cons (je_var 1) ja_nil)) (je_cI E.k_MOST (by rfl)) (nomark _)) (jw_or1 (jt_not (jt_val (je_callB (c_all rfl) (by rfl) E.f_all boot_all (ja_cons (je_dat (jn_lc (own := [("one", 2)]) rfl sc_good_bids.nd (ji_seq (je_var 1)) (blkOk_by (N := ["rule", "thing", "one"]) (sc := defScope s_good_bids) (by decide +kernel)) (fun _ _ _ _ _ => (jg_name (i := 2) sc_good_bids.nd)) (fun _ _ _ _ _ => jts_nil) (fun _ _ _ _ _ => (je_callO o_is_bid (hr.mono (by decide)) takesN (by rfl) (MA.len1 (MA.len1 MA.len0)) (ja_cons (je_var 0) (ja_cons (je_var 2) ja_nil)))))) ja_nil)))))))) (jss_one (js_ret je_bl)) jss_nil)
  (jss_one (js_ret (je_cmp (o_eq hu) (je_lenSc (own := [("one", 2)]) rfl sc_good_bids.nd (by rfl) E.f_len (ji_seq (je_var 1)) (blkOk_by (N := ["rule", "thing", "one"]) (sc := defScope s_good_bids) (by decide +kernel)) (fun _ _ _ _ _ => (jg_name (i := 2) sc_good_bids.nd)) (fun _ _ _ _ _ => (je_ix (je_var 2) je_int))) (je_callB c_len (by rfl) E.f_len boot_len (ja_cons (je_var 1) ja_nil)) (nomark _)))))
theorem sc_need_bids : FnScope ["rule", "bids"] ["rule", "bids"] (defScope s_need_bids) := ⟨rfl, rfl, rfl, by decide +kernel, rfl, by decide +kernel, by decide +kernel⟩
theorem ok_need_bids (E : Env K mg) (o_good_bids : Ok P w K mg base 4 "good_bids" 2 F_good_bids) (F : DefF K mg "need_bids" s_need_bids) : Ok P w K mg base 5 "need_bids" 2 F_need_bids :=
  ok_of F sc_need_bids (fun F => F.bindsN fun _ _ _ _ _ _ us hl => match us, hl with | [_, _], _ => rfl) fun cdv A outer s H E' hcv hr tk hp hu hv =>
  (jss_one (js_if (jt_not (jt_val (je_callO o_good_bids (hr.mono (by decide)) tk (by rfl) (MA.len1 (MA.len1 MA.len0)) (ja_cons (je_var 0) (ja_cons (je_var 1) ja_nil))))) (jss_one (js_raise E.x_NoBids rfl tk (by rfl))) jss_nil))
theorem sc_need_sale : FnScope ["rule", "bids"] ["rule", "bids"] (defScope s_need_sale) := ⟨rfl, rfl, rfl, by decide +kernel, rfl, by decide +kernel, by decide +kernel⟩
theorem ok_need_sale (E : Env K mg) (o_need_rule : Ok P w K mg base 5 "need_rule" 1 F_need_rule) (o_need_bids : Ok P w K mg base 5 "need_bids" 2 F_need_bids) (F : DefF K mg "need_sale" s_need_sale) : Ok P w K mg base 6 "need_sale" 2 F_need_sale :=
  ok_of F sc_need_sale (fun F => F.bindsN fun _ _ _ _ _ _ us hl => match us, hl with | [_, _], _ => rfl) fun cdv A outer s H E' hcv hr tk hp hu hv =>
  (jss_cons (js_expr (je_callO o_need_rule (hr.mono (by decide)) tk (by rfl) (MA.len1 MA.len0) (ja_cons (je_var 0) ja_nil)))
  (jss_one (js_expr (je_callO o_need_bids (hr.mono (by decide)) tk (by rfl) (MA.len1 (MA.len1 MA.len0)) (ja_cons (je_var 0) (ja_cons (je_var 1) ja_nil))))))
theorem sc_standing : FnScope ["numbers", "places", "ties", "falling", "turn", "side"] ["numbers", "places", "ties", "falling"] (defScope s_standing) := ⟨rfl, rfl, rfl, by decide +kernel, rfl, by decide +kernel, by decide +kernel⟩
theorem ok_standing (E : Env K mg) (TBx : LamX.TabB base mg (He.cT K ("standing", none)).1 (He.cT K ("standing", none)).2) (F : DefF K mg "standing" s_standing) : Ok P w K mg base 4 "standing" 4 F_standing :=
  ok_of F sc_standing (fun F => F.bindsN fun _ _ _ _ _ _ us hl => match us, hl with | [_, _, _, _], _ => rfl) fun cdv A outer s H E' hcv hr tk hp hu hv =>
  (jss_cons (js_set (i := 4) sc_standing.nd (je_if (jt_val (je_var 3)) (je_un o_neg je_int) je_int))
  (jss_cons (js_set (i := 5) sc_standing.nd (je_if (jt_cmp (o_eq hu) (je_var 2) je_str (nomark _)) je_int (je_un o_neg je_int)))
  (jss_one (js_ret (je_dat (jn_sortK (N := ["place", "numbers", "side", "turn"]) (fr := ["numbers", "side", "turn"]) (js := [0, 5, 4]) (k := 0) (pn := "place") TBx (by subst hcv; rfl) (by first | rfl | decide +kernel) (tbs_mem E.g_standing (by decide +kernel)) E.u_standing (by rfl) E.f_sorted (hr.mono (by decide)) (NdefX.nscope_by (by decide +kernel)) rfl rfl (hfree_by (sc := defScope s_standing) rfl (by decide +kernel)) (by decide +kernel) (by rfl) (je_var 1) (fun _ _ _ _ => (je_tup (ja_cons (je_bin o_mul (je_var 3) (je_ix (je_var 1) (je_var 0))) (ja_cons (je_bin o_mul (je_var 2) (je_var 0)) ja_nil))))))))))
theorem sc_winners_of : FnScope ["rule", "numbers", "places", "rows", "place", "number"] ["rule", "numbers"] (defScope s_winners_of) := ⟨rfl, rfl, rfl, by decide +kernel, rfl, by decide +kernel, by decide +kernel⟩
theorem ok_winners_of (E : Env K mg) (o_standing : Ok P w K mg base 4 "standing" 4 F_standing) (F : DefF K mg "winners_of" s_winners_of) : Ok P w K mg base 5 "winners_of" 2 F_winners_of :=
  ok_of F sc_winners_of (fun F => F.bindsN fun _ _ _ _ _ _ us hl => match us, hl with | [_, _], _ => rfl) fun cdv A outer s H E' hcv hr tk hp hu hv =>
  (jss_cons (js_setLcD (i := 2) (own := [("place", 4), ("number", 5)]) rfl sc_winners_of.nd (ji_enumA (by rfl) E.f_enumerate (ja_cons (je_var 1) ja_nil)) (blkOk_by (N := ["rule", "numbers", "places", "rows", "place", "number"]) (sc := defScope s_winners_of) (by decide +kernel)) (fun _ _ _ _ _ => (jg_tup (by rfl) (jgs_cons (jg_name (i := 4) sc_winners_of.nd) (jgs_cons (jg_name (i := 5) sc_winners_of.nd) jgs_nil)))) (fun _ _ _ _ _ => (jts_one (jt_cmp o_ge (je_var 5) (je_ix (je_var 0) je_int) (nomark _)))) (fun _ _ _ _ _ => (je_var 4)) (sw_true rfl rfl rfl (by decide +kernel)))
  (jss_cons (js_set (i := 3) sc_winners_of.nd (je_callO o_standing (hr.mono (by decide)) tk (by rfl) (MA.len1 (MA.len1 (MA.len1 (MA.len1 MA.len0)))) (ja_cons (je_var 1) (ja_cons (je_var 2) (ja_cons (je_ix (je_var 0) je_int) (ja_cons je_bl ja_nil))))))
  (jss_one (js_ret (je_tup (ja_cons (je_var 3) (ja_cons (je_callB (c_min rfl) (by rfl) E.f_min boot_min (ja_cons (je_ix (je_var 0) je_int) (ja_cons (je_callB c_len (by rfl) E.f_len boot_len (ja_cons (je_var 3) ja_nil)) ja_nil))) ja_nil)))))))
theorem sc_next_price : FnScope ["rule", "numbers", "rows", "many"] ["rule", "numbers", "rows", "many"] (defScope s_next_price) := ⟨rfl, rfl, rfl, by decide +kernel, rfl, by decide +kernel, by decide +kernel⟩
theorem ok_next_price (E : Env K mg) (F : DefF K mg "next_price" s_next_price) : Ok P w K mg base 1 "next_price" 4 F_next_price :=
  ok_of F sc_next_price (fun F => F.bindsN fun _ _ _ _ _ _ us hl => match us, hl with | [_, _, _, _], _ => rfl) fun cdv A outer s H E' hcv hr tk hp hu hv =>
  (jss_one (js_ret (je_if (jt_cmp o_gt (je_callB c_len (by rfl) E.f_len boot_len (ja_cons (je_var 2) ja_nil)) (je_var 3) (nomark _)) (je_ix (je_var 1) (je_ix (je_var 2) (je_var 3))) (je_ix (je_var 0) je_int))))
theorem sc_payments_of : FnScope ["rule", "numbers", "made", "place", "rows", "many", "after", "pay", "own", "price", "number"] ["rule", "numbers"] (defScope s_payments_of) := ⟨rfl, rfl, rfl, by decide +kernel, rfl, by decide +kernel, by decide +kernel⟩
theorem ok_payments_of (E : Env K mg) (o_winners_of : Ok P w K mg base 5 "winners_of" 2 F_winners_of) (o_next_price : Ok P w K mg base 1 "next_price" 4 F_next_price) (o_whole : Ok P w K mg base 1 "whole" 1 F_whole) (o_half : Ok P w K mg base 3 "half" 1 F_half) (F : DefF K mg "payments_of" s_payments_of) : Ok P w K mg base 6 "payments_of" 2 F_payments_of :=
  ok_of F sc_payments_of (fun F => F.bindsN fun _ _ _ _ _ _ us hl => match us, hl with | [_, _], _ => rfl) fun cdv A outer s H E' hcv hr tk hp hu hv =>
  (jss_cons (js_asg (je_callO o_winners_of (hr.mono (by decide)) tk (by rfl) (MA.len1 (MA.len1 MA.len0)) (ja_cons (je_var 0) (ja_cons (je_var 1) ja_nil))) (jg_tup (by rfl) (jgs_cons (jg_name (i := 4) sc_payments_of.nd) (jgs_cons (jg_name (i := 5) sc_payments_of.nd) jgs_nil))))
  (jss_cons (js_par (par2 (i := 6) (j := 7) rfl sc_payments_of.nd (by decide)) (jx_d (je_callO o_next_price (hr.mono (by decide)) tk (by rfl) (MA.len1 (MA.len1 (MA.len1 (MA.len1 MA.len0)))) (ja_cons (je_var 0) (ja_cons (je_var 1) (ja_cons (je_var 4) (ja_cons (je_var 5) ja_nil))))) (jx_d (je_ix (je_var 0) je_int) jx_nil)))
  (jss_cons (js_setLcN (i := 2) (own := [("number", 10)]) rfl sc_payments_of.nd (ji_seq (je_var 1)) (blkOk_by (N := ["rule", "numbers", "made", "place", "rows", "many", "after", "pay", "own", "price", "number"]) (sc := defScope s_payments_of) (by decide +kernel)) (fun _ _ _ _ _ => (jg_name (i := 10) sc_payments_of.nd)) (fun _ _ _ _ _ => jts_nil) (fun _ _ _ _ _ => (je_tup (ja_cons je_int (ja_cons (je_tup (ja_cons je_int (ja_cons je_int ja_nil))) ja_nil)))) (sw_true rfl rfl rfl (by decide +kernel)))
  (jss_cons (js_for hp rfl (ji_seq (je_slice (je_var 4) (show JO _ _ none none from True.intro) (show JO _ _ (some _) (some _) from (je_var 5)))) (jg_name (i := 3) sc_payments_of.nd) (jss_cons (js_set (i := 8) sc_payments_of.nd (je_ix (je_var 1) (je_var 3)))
  (jss_cons (js_set (i := 9) sc_payments_of.nd (je_dget1 hu (je_disp (.cons (je_callO o_whole (hr.mono (by decide)) tk (by rfl) (MA.len1 MA.len0) (ja_cons (je_var 8) ja_nil)) (.cons (je_callO o_whole (hr.mono (by decide)) tk (by rfl) (MA.len1 MA.len0) (ja_cons (je_var 6) ja_nil)) (.cons (je_callO o_whole (hr.mono (by decide)) tk (by rfl) (MA.len1 MA.len0) (ja_cons (je_ix (je_var 0) je_int) ja_nil)) (.cons (je_callO o_half (hr.mono (by decide)) tk (by rfl) (MA.len1 MA.len0) (ja_cons (je_bin o_add (je_var 8) (je_var 6)) ja_nil)) .nil)))) (by simp) (by decide)) (je_var 7) ⟨rfl, rfl, rfl, rfl⟩))
  (jss_cons (js_if (jt_cmp (o_eq hu) (je_var 7) je_str (nomark _)) (jss_one (js_set (i := 9) sc_payments_of.nd (je_callO o_whole (hr.mono (by decide)) tk (by rfl) (MA.len1 MA.len0) (ja_cons (je_ix (je_var 1) (je_ix (je_var 4) (je_bin o_sub (je_var 5) je_int))) ja_nil)))) jss_nil)
  (jss_one (js_setItem (i := 2) (je_var 3) (je_tup (ja_cons je_int (ja_cons (je_if (jt_cmp (o_eq hu) (je_var 7) je_str (nomark _)) (je_callO o_whole (hr.mono (by decide)) tk (by rfl) (MA.len1 MA.len0) (ja_cons (je_var 8) ja_nil)) (je_var 9)) ja_nil)))))))))
  (jss_cons (js_if (jt_cmp (o_eq hu) (je_var 7) je_str (nomark _)) (jss_one (js_for hp rfl (ji_seq (je_slice (je_var 4) (show JO _ _ (some _) (some _) from (je_var 5)) (show JO _ _ none none from True.intro))) (jg_name (i := 3) sc_payments_of.nd) (jss_one (js_setItem (i := 2) (je_var 3) (je_tup (ja_cons je_int (ja_cons (je_callO o_whole (hr.mono (by decide)) tk (by rfl) (MA.len1 MA.len0) (ja_cons (je_ix (je_var 1) (je_var 3)) ja_nil)) ja_nil))))))) jss_nil)
  (jss_one (js_ret (je_frz 2))))))))
theorem sc_sides_of : FnScope ["rule", "sides", "numbers", "buys", "sells", "place", "side"] ["rule", "sides", "numbers"] (defScope s_sides_of) := ⟨rfl, rfl, rfl, by decide +kernel, rfl, by decide +kernel, by decide +kernel⟩
theorem ok_sides_of (E : Env K mg) (o_standing : Ok P w K mg base 4 "standing" 4 F_standing) (F : DefF K mg "sides_of" s_sides_of) : Ok P w K mg base 5 "sides_of" 3 F_sides_of :=
  ok_of F sc_sides_of (fun F => F.bindsN fun _ _ _ _ _ _ us hl => match us, hl with | [_, _, _], _ => rfl) fun cdv A outer s H E' hcv hr tk hp hu hv =>
  (jss_cons (js_setLcD (i := 3) (own := [("place", 5), ("side", 6)]) rfl sc_sides_of.nd (ji_enumA (by rfl) E.f_enumerate (ja_cons (je_var 1) ja_nil)) (blkOk_by (N := ["rule", "sides", "numbers", "buys", "sells", "place", "side"]) (sc := defScope s_sides_of) (by decide +kernel)) (fun _ _ _ _ _ => (jg_tup (by rfl) (jgs_cons (jg_name (i := 5) sc_sides_of.nd) (jgs_cons (jg_name (i := 6) sc_sides_of.nd) jgs_nil)))) (fun _ _ _ _ _ => (jts_one (jt_cmp (o_eq hu) (je_var 6) je_str (nomark _)))) (fun _ _ _ _ _ => (je_var 5)) (sw_true rfl rfl rfl (by decide +kernel)))
  (jss_cons (js_setLcD (i := 4) (own := [("place", 5), ("side", 6)]) rfl sc_sides_of.nd (ji_enumA (by rfl) E.f_enumerate (ja_cons (je_var 1) ja_nil)) (blkOk_by (N := ["rule", "sides", "numbers", "buys", "sells", "place", "side"]) (sc := defScope s_sides_of) (by decide +kernel)) (fun _ _ _ _ _ => (jg_tup (by rfl) (jgs_cons (jg_name (i := 5) sc_sides_of.nd) (jgs_cons (jg_name (i := 6) sc_sides_of.nd) jgs_nil)))) (fun _ _ _ _ _ => (jts_one (jt_cmp (o_eq hu) (je_var 6) je_str (nomark _)))) (fun _ _ _ _ _ => (je_var 5)) (sw_true rfl rfl rfl (by decide +kernel)))
  (jss_one (js_ret (je_tup (ja_cons (je_callO o_standing (hr.mono (by decide)) tk (by rfl) (MA.len1 (MA.len1 (MA.len1 (MA.len1 MA.len0)))) (ja_cons (je_var 2) (ja_cons (je_var 3) (ja_cons (je_ix (je_var 0) je_int) (ja_cons je_bl ja_nil))))) (ja_cons (je_callO o_standing (hr.mono (by decide)) tk (by rfl) (MA.len1 (MA.len1 (MA.len1 (MA.len1 MA.len0)))) (ja_cons (je_var 2) (ja_cons (je_var 4) (ja_cons (je_ix (je_var 0) je_int) (ja_cons je_bl ja_nil))))) ja_nil)))))))
theorem sc_how_many : FnScope ["numbers", "buys", "sells", "many"] ["numbers", "buys", "sells"] (defScope s_how_many) := ⟨rfl, rfl, rfl, by decide +kernel, rfl, by decide +kernel, by decide +kernel⟩
theorem ok_how_many (E : Env K mg) (F : DefF K mg "how_many" s_how_many) : Ok P w K mg base 1 "how_many" 3 F_how_many :=
  ok_of F sc_how_many (fun F => F.bindsN fun _ _ _ _ _ _ us hl => match us, hl with | [_, _, _], _ => rfl) fun cdv A outer s H E' hcv hr tk hp hu hv =>
  (jss_cons (js_set (i := 3) sc_how_many.nd je_int)
  (jss_cons (js_while (2 ^ 64) hp (jw_pt (jw_and (jt_cmp o_lt (je_var 3) (je_callB (c_min rfl) (by rfl) E.f_min boot_min (ja_cons (je_callB c_len (by rfl) E.f_len boot_len (ja_cons (je_var 1) ja_nil)) (ja_cons (je_callB c_len (by rfl) E.f_len boot_len (ja_cons (je_var 2) ja_nil)) ja_nil))) (nomark _)) (jw_and1 (jt_cmp o_ge (je_ix (je_var 0) (je_ix (je_var 1) (je_var 3))) (je_ix (je_var 0) (je_ix (je_var 2) (je_var 3))) (nomark _))))) (jss_one (js_aug (i := 3) sc_how_many.nd oi_add je_int)))
  (jss_one (js_ret (je_var 3)))))
theorem sc_prices_of : FnScope ["rule", "numbers", "buys", "sells", "many", "high", "low", "price", "both"] ["rule", "numbers", "buys", "sells", "many"] (defScope s_prices_of) := ⟨rfl, rfl, rfl, by decide +kernel, rfl, by decide +kernel, by decide +kernel⟩
theorem ok_prices_of (E : Env K mg) (o_half : Ok P w K mg base 3 "half" 1 F_half) (o_whole : Ok P w K mg base 1 "whole" 1 F_whole) (F : DefF K mg "prices_of" s_prices_of) : Ok P w K mg base 4 "prices_of" 5 F_prices_of :=
  ok_of F sc_prices_of (fun F => F.bindsN fun _ _ _ _ _ _ us hl => match us, hl with | [_, _, _, _, _], _ => rfl) fun cdv A outer s H E' hcv hr tk hp hu hv =>
  (jss_cons (js_par (par2 (i := 5) (j := 6) rfl sc_prices_of.nd (by decide)) (jx_d (je_ix (je_var 1) (je_ix (je_var 2) (je_bin o_sub (je_var 4) je_int))) (jx_d (je_ix (je_var 1) (je_ix (je_var 3) (je_bin o_sub (je_var 4) je_int))) jx_nil)))
  (jss_cons (js_if (jt_cmp (o_eq hu) (je_ix (je_var 0) je_int) je_str (nomark _)) (jss_one (js_ret (je_tup (ja_cons (je_var 4) (ja_cons (je_callO o_half (hr.mono (by decide)) tk (by rfl) (MA.len1 MA.len0) (ja_cons (je_bin o_add (je_var 5) (je_var 6)) ja_nil)) (ja_cons (je_callO o_half (hr.mono (by decide)) tk (by rfl) (MA.len1 MA.len0) (ja_cons (je_bin o_add (je_var 5) (je_var 6)) ja_nil)) ja_nil)))))) jss_nil)
  (jss_cons (js_if (jt_cmp (o_in hv) (je_ix (je_var 0) je_int) (je_tup (ja_cons je_str (ja_cons je_str ja_nil))) (by rfl)) (jss_cons (js_set (i := 7) sc_prices_of.nd (je_callO o_whole (hr.mono (by decide)) tk (by rfl) (MA.len1 MA.len0) (ja_cons (je_if (jt_cmp (o_eq hu) (je_ix (je_var 0) je_int) je_str (nomark _)) (je_var 5) (je_var 6)) ja_nil)))
  (jss_one (js_ret (je_tup (ja_cons (je_var 4) (ja_cons (je_var 7) (ja_cons (je_var 7) ja_nil))))))) jss_nil)
  (jss_cons (js_if (jt_cmp o_lt (je_var 4) (je_callB (c_min rfl) (by rfl) E.f_min boot_min (ja_cons (je_callB c_len (by rfl) E.f_len boot_len (ja_cons (je_var 2) ja_nil)) (ja_cons (je_callB c_len (by rfl) E.f_len boot_len (ja_cons (je_var 3) ja_nil)) ja_nil))) (nomark _)) (jss_cons (js_set (i := 8) sc_prices_of.nd (je_bin o_add (je_ix (je_var 1) (je_ix (je_var 2) (je_var 4))) (je_ix (je_var 1) (je_ix (je_var 3) (je_var 4)))))
  (jss_one (js_if (jt_chain o_le o_le (je_bin o_mul je_int (je_var 6)) (je_var 8) (je_bin o_mul je_int (je_var 5))) (jss_one (js_ret (je_tup (ja_cons (je_var 4) (ja_cons (je_callO o_half (hr.mono (by decide)) tk (by rfl) (MA.len1 MA.len0) (ja_cons (je_var 8) ja_nil)) (ja_cons (je_callO o_half (hr.mono (by decide)) tk (by rfl) (MA.len1 MA.len0) (ja_cons (je_var 8) ja_nil)) ja_nil)))))) jss_nil))) jss_nil)
  (jss_one (js_ret (je_tup (ja_cons (je_bin o_sub (je_var 4) je_int) (ja_cons (je_callO o_whole (hr.mono (by decide)) tk (by rfl) (MA.len1 MA.len0) (ja_cons (je_var 5) ja_nil)) (ja_cons (je_callO o_whole (hr.mono (by decide)) tk (by rfl) (MA.len1 MA.len0) (ja_cons (je_var 6) ja_nil)) ja_nil))))))))))
theorem sc_traded : FnScope ["rule", "sides", "numbers", "many", "made", "buys", "sells", "place", "number", "paid", "got"] ["rule", "sides", "numbers"] (defScope s_traded) := ⟨rfl, rfl, rfl, by decide +kernel, rfl, by decide +kernel, by decide +kernel⟩
theorem ok_traded (E : Env K mg) (o_sides_of : Ok P w K mg base 5 "sides_of" 3 F_sides_of) (o_how_many : Ok P w K mg base 1 "how_many" 3 F_how_many) (o_prices_of : Ok P w K mg base 4 "prices_of" 5 F_prices_of) (F : DefF K mg "traded" s_traded) : Ok P w K mg base 6 "traded" 3 F_traded :=
  ok_of F sc_traded (fun F => F.bindsN fun _ _ _ _ _ _ us hl => match us, hl with | [_, _, _], _ => rfl) fun cdv A outer s H E' hcv hr tk hp hu hv =>
  (jss_cons (js_asg (je_callO o_sides_of (hr.mono (by decide)) tk (by rfl) (MA.len1 (MA.len1 (MA.len1 MA.len0))) (ja_cons (je_var 0) (ja_cons (je_var 1) (ja_cons (je_var 2) ja_nil)))) (jg_tup (by rfl) (jgs_cons (jg_name (i := 5) sc_traded.nd) (jgs_cons (jg_name (i := 6) sc_traded.nd) jgs_nil))))
  (jss_cons (js_set (i := 3) sc_traded.nd (je_callO o_how_many (hr.mono (by decide)) tk (by rfl) (MA.len1 (MA.len1 (MA.len1 MA.len0))) (ja_cons (je_var 2) (ja_cons (je_var 5) (ja_cons (je_var 6) ja_nil)))))
  (jss_cons (js_setLcN (i := 4) (own := [("number", 8)]) rfl sc_traded.nd (ji_seq (je_var 2)) (blkOk_by (N := ["rule", "sides", "numbers", "many", "made", "buys", "sells", "place", "number", "paid", "got"]) (sc := defScope s_traded) (by decide +kernel)) (fun _ _ _ _ _ => (jg_name (i := 8) sc_traded.nd)) (fun _ _ _ _ _ => jts_nil) (fun _ _ _ _ _ => (je_tup (ja_cons je_int (ja_cons (je_tup (ja_cons je_int (ja_cons je_int ja_nil))) ja_nil)))) (sw_true rfl rfl rfl (by decide +kernel)))
  (jss_cons (js_if (jt_cmp o_gt (je_var 3) je_int (nomark _)) (jss_cons (js_asg (je_callO o_prices_of (hr.mono (by decide)) tk (by rfl) (MA.len1 (MA.len1 (MA.len1 (MA.len1 (MA.len1 MA.len0))))) (ja_cons (je_var 0) (ja_cons (je_var 2) (ja_cons (je_var 5) (ja_cons (je_var 6) (ja_cons (je_var 3) ja_nil)))))) (jg_tup (by rfl) (jgs_cons (jg_name (i := 3) sc_traded.nd) (jgs_cons (jg_name (i := 9) sc_traded.nd) (jgs_cons (jg_name (i := 10) sc_traded.nd) jgs_nil)))))
  (jss_cons (js_for hp rfl (ji_seq (je_slice (je_var 5) (show JO _ _ none none from True.intro) (show JO _ _ (some _) (some _) from (je_var 3)))) (jg_name (i := 7) sc_traded.nd) (jss_one (js_setItem (i := 4) (je_var 7) (je_tup (ja_cons je_int (ja_cons (je_var 9) ja_nil))))))
  (jss_one (js_for hp rfl (ji_seq (je_slice (je_var 6) (show JO _ _ none none from True.intro) (show JO _ _ (some _) (some _) from (je_var 3)))) (jg_name (i := 7) sc_traded.nd) (jss_one (js_setItem (i := 4) (je_var 7) (je_tup (ja_cons je_int (ja_cons (je_tup (ja_cons (je_bin o_sub je_int (je_ix (je_var 10) je_int)) (ja_cons (je_ix (je_var 10) je_int) ja_nil))) ja_nil))))))))) jss_nil)
  (jss_one (js_ret (je_frz 4)))))))
theorem sc_sides_in : FnScope ["rule", "bids", "one"] ["rule", "bids"] (defScope s_sides_in) := ⟨rfl, rfl, rfl, by decide +kernel, rfl, by decide +kernel, by decide +kernel⟩
theorem ok_sides_in (E : Env K mg) (F : DefF K mg "sides_in" s_sides_in) : Ok P w K mg base 1 "sides_in" 2 F_sides_in :=
  ok_of F sc_sides_in (fun F => F.bindsN fun _ _ _ _ _ _ us hl => match us, hl with | [_, _], _ => rfl) fun cdv A outer s H E' hcv hr tk hp hu hv =>
  (jss_one (js_ret (je_dat (jn_lc (own := [("one", 2)]) rfl sc_sides_in.nd (ji_seq (je_var 1)) (blkOk_by (N := ["rule", "bids", "one"]) (sc := defScope s_sides_in) (by decide +kernel)) (fun _ _ _ _ _ => (jg_name (i := 2) sc_sides_in.nd)) (fun _ _ _ _ _ => jts_nil) (fun _ _ _ _ _ => (je_if (jt_cmp (o_eq hu) (je_ix (je_var 0) je_int) je_str (nomark _)) je_str (je_ix (je_var 2) je_int)))))))
theorem sc_run_of : FnScope ["rule", "sides", "numbers"] ["rule", "sides", "numbers"] (defScope s_run_of) := ⟨rfl, rfl, rfl, by decide +kernel, rfl, by decide +kernel, by decide +kernel⟩
theorem ok_run_of (E : Env K mg) (o_payments_of : Ok P w K mg base 6 "payments_of" 2 F_payments_of) (o_traded : Ok P w K mg base 6 "traded" 3 F_traded) (F : DefF K mg "run_of" s_run_of) : Ok P w K mg base 7 "run_of" 3 F_run_of :=
  ok_of F sc_run_of (fun F => F.bindsN fun _ _ _ _ _ _ us hl => match us, hl with | [_, _, _], _ => rfl) fun cdv A outer s H E' hcv hr tk hp hu hv =>
  (jss_one (js_ret (je_if (jt_cmp (o_eq hu) (je_ix (je_var 0) je_int) je_str (nomark _)) (je_callO o_payments_of (hr.mono (by decide)) tk (by rfl) (MA.len1 (MA.len1 MA.len0)) (ja_cons (je_var 0) (ja_cons (je_var 2) ja_nil))) (je_callO o_traded (hr.mono (by decide)) tk (by rfl) (MA.len1 (MA.len1 (MA.len1 MA.len0))) (ja_cons (je_var 0) (ja_cons (je_var 1) (ja_cons (je_var 2) ja_nil)))))))
theorem sc_gain_of : FnScope ["side", "worth", "done", "paid", "own"] ["side", "worth", "done", "paid"] (defScope s_gain_of) := ⟨rfl, rfl, rfl, by decide +kernel, rfl, by decide +kernel, by decide +kernel⟩
theorem ok_gain_of (E : Env K mg) (o_whole : Ok P w K mg base 1 "whole" 1 F_whole) (o_minus_of : Ok P w K mg base 3 "minus_of" 2 F_minus_of) (F : DefF K mg "gain_of" s_gain_of) : Ok P w K mg base 4 "gain_of" 4 F_gain_of :=
  ok_of F sc_gain_of (fun F => F.bindsN fun _ _ _ _ _ _ us hl => match us, hl with | [_, _, _, _], _ => rfl) fun cdv A outer s H E' hcv hr tk hp hu hv =>
  (jss_cons (js_set (i := 4) sc_gain_of.nd (je_callO o_whole (hr.mono (by decide)) tk (by rfl) (MA.len1 MA.len0) (ja_cons (je_if (jt_cmp (o_eq hu) (je_var 0) je_str (nomark _)) (je_bin o_mul (je_var 1) (je_var 2)) (je_bin o_sub je_int (je_bin o_mul (je_var 1) (je_var 2)))) ja_nil)))
  (jss_one (js_ret (je_callO o_minus_of (hr.mono (by decide)) tk (by rfl) (MA.len1 (MA.len1 MA.len0)) (ja_cons (je_var 4) (ja_cons (je_var 3) ja_nil))))))
theorem sc_taken_of : FnScope ["rule", "sides", "numbers", "done", "paid"] ["rule", "sides", "numbers"] (defScope s_taken_of) := ⟨rfl, rfl, rfl, by decide +kernel, rfl, by decide +kernel, by decide +kernel⟩
theorem ok_taken_of (E : Env K mg) (o_run_of : Ok P w K mg base 7 "run_of" 3 F_run_of) (o_sum_of_all : Ok P w K mg base 4 "sum_of_all" 1 F_sum_of_all) (F : DefF K mg "taken_of" s_taken_of) : Ok P w K mg base 8 "taken_of" 3 F_taken_of :=
  ok_of F sc_taken_of (fun F => F.bindsN fun _ _ _ _ _ _ us hl => match us, hl with | [_, _, _], _ => rfl) fun cdv A outer s H E' hcv hr tk hp hu hv =>
  (jss_one (js_ret (je_callO o_sum_of_all (hr.mono (by decide)) tk (by rfl) (MA.len1 MA.len0) (ja_cons (je_dat (jn_lc (own := [("done", 3), ("paid", 4)]) rfl sc_taken_of.nd (ji_seq (je_callO o_run_of (hr.mono (by decide)) tk (by rfl) (MA.len1 (MA.len1 (MA.len1 MA.len0))) (ja_cons (je_var 0) (ja_cons (je_var 1) (ja_cons (je_var 2) ja_nil))))) (blkOk_by (N := ["rule", "sides", "numbers", "done", "paid"]) (sc := defScope s_taken_of) (by decide +kernel)) (fun _ _ _ _ _ => (jg_tup (by rfl) (jgs_cons (jg_name (i := 3) sc_taken_of.nd) (jgs_cons (jg_name (i := 4) sc_taken_of.nd) jgs_nil)))) (fun _ _ _ _ _ => jts_nil) (fun _ _ _ _ _ => (je_var 4)))) ja_nil))))
theorem sc_gains_of : FnScope ["rule", "sides", "worths", "numbers", "made", "side", "worth", "done", "paid"] ["rule", "sides", "worths", "numbers"] (defScope s_gains_of) := ⟨rfl, rfl, rfl, by decide +kernel, rfl, by decide +kernel, by decide +kernel⟩
theorem ok_gains_of (E : Env K mg) (o_run_of : Ok P w K mg base 7 "run_of" 3 F_run_of) (o_gain_of : Ok P w K mg base 4 "gain_of" 4 F_gain_of) (F : DefF K mg "gains_of" s_gains_of) : Ok P w K mg base 8 "gains_of" 4 F_gains_of :=
  ok_of F sc_gains_of (fun F => F.bindsN fun _ _ _ _ _ _ us hl => match us, hl with | [_, _, _, _], _ => rfl) fun cdv A outer s H E' hcv hr tk hp hu hv =>
  (jss_cons (js_set (i := 4) sc_gains_of.nd (je_callO o_run_of (hr.mono (by decide)) tk (by rfl) (MA.len1 (MA.len1 (MA.len1 MA.len0))) (ja_cons (je_var 0) (ja_cons (je_var 1) (ja_cons (je_var 3) ja_nil)))))
  (jss_one (js_ret (je_dat (jn_lc (own := [("side", 5), ("worth", 6), ("done", 7), ("paid", 8)]) rfl sc_gains_of.nd (ji_zip3 (by rfl) E.f_zip (ja_cons (je_var 1) (ja_cons (je_var 2) (ja_cons (je_var 4) ja_nil)))) (blkOk_by (N := ["rule", "sides", "worths", "numbers", "made", "side", "worth", "done", "paid"]) (sc := defScope s_gains_of) (by decide +kernel)) (fun _ _ _ _ _ => (jg_tup (by rfl) (jgs_cons (jg_name (i := 5) sc_gains_of.nd) (jgs_cons (jg_name (i := 6) sc_gains_of.nd) (jgs_cons (jg_tup (by rfl) (jgs_cons (jg_name (i := 7) sc_gains_of.nd) (jgs_cons (jg_name (i := 8) sc_gains_of.nd) jgs_nil))) jgs_nil))))) (fun _ _ _ _ _ => jts_nil) (fun _ _ _ _ _ => (je_callO o_gain_of (hr.mono (by decide)) takesN (by rfl) (MA.len1 (MA.len1 (MA.len1 (MA.len1 MA.len0)))) (ja_cons (je_var 5) (ja_cons (je_var 6) (ja_cons (je_var 7) (ja_cons (je_var 8) ja_nil)))))))))))
theorem sc_is_kind : FnScope ["rule", "thing"] ["rule", "thing"] (defScope s_is_kind) := ⟨rfl, rfl, rfl, by decide +kernel, rfl, by decide +kernel, by decide +kernel⟩
theorem ok_is_kind (E : Env K mg) (o_is_among : Ok P w K mg base 1 "is_among" 2 F_is_among) (F : DefF K mg "is_kind" s_is_kind) : Ok P w K mg base 2 "is_kind" 2 F_is_kind :=
  ok_of F sc_is_kind (fun F => F.bindsN fun _ _ _ _ _ _ us hl => match us, hl with | [_, _], _ => rfl) fun cdv A outer s H E' hcv hr tk hp hu hv =>
  (jss_one (js_ret (je_and (je_callO o_is_among (hr.mono (by decide)) tk (by rfl) (MA.len1 (MA.len1 MA.len0)) (ja_cons (je_var 1) (ja_cons (je_cT E.k_KINDS (by rfl)) ja_nil))) (je_one (je_or (je_cmp (o_ne hu) (je_var 1) je_str (nomark _)) (je_one (je_cmp (o_eq hu) (je_ix (je_var 0) je_int) je_str (nomark _))))))))
theorem sc_good_cheat : FnScope ["rule", "truth", "thing", "names", "rest", "one"] ["rule", "truth", "thing"] (defScope s_good_cheat) := ⟨rfl, rfl, rfl, by decide +kernel, rfl, by decide +kernel, by decide +kernel⟩
theorem ok_good_cheat (E : Env K mg) (o_is_kind : Ok P w K mg base 2 "is_kind" 2 F_is_kind) (o_is_number : Ok P w K mg base 2 "is_number" 1 F_is_number) (o_is_trader : Ok P w K mg base 1 "is_trader" 1 F_is_trader) (F : DefF K mg "good_cheat" s_good_cheat) : Ok P w K mg base 3 "good_cheat" 3 F_good_cheat :=
  ok_of F sc_good_cheat (fun F => F.bindsN fun _ _ _ _ _ _ us hl => match us, hl with | [_, _, _], _ => rfl) fun cdv A outer s H E' hcv hr tk hp hu hv =>
  (jss_cons (js_if (jw_pt (jw_or (jt_not (jt_val (je_isi (T := .tuple) (by rfl) E.f_isinstance (by rfl) E.f_tuple boot_tuple (je_var 2)))) (jw_or (jt_cmp o_lt (je_callB c_len (by rfl) E.f_len boot_len (ja_cons (je_var 2) ja_nil)) je_int (nomark _)) (jw_or1 (jt_not (jt_val (je_callO o_is_kind (hr.mono (by decide)) tk (by rfl) (MA.len1 (MA.len1 MA.len0)) (ja_cons (je_var 0) (ja_cons (je_ix (je_var 2) je_int) ja_nil))))))))) (jss_one (js_ret je_bl)) jss_nil)
  (jss_cons (js_par (par2 (i := 3) (j := 4) rfl sc_good_cheat.nd (by decide)) (jx_d (je_dat (jn_lc (own := [("one", 5)]) rfl sc_good_cheat.nd (ji_seq (je_var 1)) (blkOk_by (N := ["rule", "truth", "thing", "names", "rest", "one"]) (sc := defScope s_good_cheat) (by decide +kernel)) (fun _ _ _ _ _ => (jg_name (i := 5) sc_good_cheat.nd)) (fun _ _ _ _ _ => jts_nil) (fun _ _ _ _ _ => (je_ix (je_var 5) je_int)))) (jx_d (je_slice (je_var 2) (show JO _ _ (some _) (some _) from je_int) (show JO _ _ none none from True.intro)) jx_nil)))
  (jss_cons (js_if (jt_cmp (o_eq hu) (je_ix (je_var 2) je_int) je_str (nomark _)) (jss_one (js_ret (je_and (je_cmp (o_eq hu) (je_callB c_len (by rfl) E.f_len boot_len (ja_cons (je_var 4) ja_nil)) je_int (nomark _)) (je_one (je_callO o_is_number (hr.mono (by decide)) tk (by rfl) (MA.len1 MA.len0) (ja_cons (je_ix (je_var 4) je_int) ja_nil)))))) jss_nil)
  (jss_cons (js_if (jt_cmp (o_ne hu) (je_callB c_len (by rfl) E.f_len boot_len (ja_cons (je_var 4) ja_nil)) (je_if (jt_cmp (o_eq hu) (je_ix (je_var 2) je_int) je_str (nomark _)) je_int je_int) (nomark _)) (jss_one (js_ret je_bl)) jss_nil)
  (jss_cons (js_if (jw_pt (jw_or (jt_not (jt_val (je_callO o_is_trader (hr.mono (by decide)) tk (by rfl) (MA.len1 MA.len0) (ja_cons (je_ix (je_var 4) je_int) ja_nil)))) (jw_or (jt_cmp (o_notin hv) (je_ix (je_var 4) je_int) (je_var 3) (by rfl)) (jw_or1 (jt_not (jt_val (je_callO o_is_number (hr.mono (by decide)) tk (by rfl) (MA.len1 MA.len0) (ja_cons (je_ix (je_var 4) je_int) ja_nil)))))))) (jss_one (js_ret je_bl)) jss_nil)
  (jss_cons (js_if (jt_cmp (o_ne hu) (je_ix (je_var 2) je_int) je_str (nomark _)) (jss_one (js_ret je_bl)) jss_nil)
  (jss_cons (js_if (jw_pt (jw_or (jt_not (jt_val (je_callO o_is_trader (hr.mono (by decide)) tk (by rfl) (MA.len1 MA.len0) (ja_cons (je_ix (je_var 4) je_int) ja_nil)))) (jw_or (jt_cmp (o_notin hv) (je_ix (je_var 4) je_int) (je_var 3) (by rfl)) (jw_or1 (jt_not (jt_val (je_callO o_is_number (hr.mono (by decide)) tk (by rfl) (MA.len1 MA.len0) (ja_cons (je_ix (je_var 4) je_int) ja_nil)))))))) (jss_one (js_ret je_bl)) jss_nil)
  (jss_one (js_ret (je_cmp o_lt (je_bm PySem.F.plainAttrs_list PySem.F.slot_list_index PySem.F.type_list_index (m_index hv) RP_lst (je_var 3) (ja_cons (je_ix (je_var 4) je_int) ja_nil)) (je_bm PySem.F.plainAttrs_list PySem.F.slot_list_index PySem.F.type_list_index (m_index hv) RP_lst (je_var 3) (ja_cons (je_ix (je_var 4) je_int) ja_nil)) (nomark _)))))))))))
theorem sc_is_cheat : FnScope ["rule", "truth", "thing"] ["rule", "truth", "thing"] (defScope s_is_cheat) := ⟨rfl, rfl, rfl, by decide +kernel, rfl, by decide +kernel, by decide +kernel⟩
theorem ok_is_cheat (E : Env K mg) (o_need_sale : Ok P w K mg base 6 "need_sale" 2 F_need_sale) (o_good_cheat : Ok P w K mg base 3 "good_cheat" 3 F_good_cheat) (F : DefF K mg "is_cheat" s_is_cheat) : Ok P w K mg base 7 "is_cheat" 3 F_is_cheat :=
  ok_of F sc_is_cheat (fun F => F.bindsN fun _ _ _ _ _ _ us hl => match us, hl with | [_, _, _], _ => rfl) fun cdv A outer s H E' hcv hr tk hp hu hv =>
  (jss_cons (js_expr (je_callO o_need_sale (hr.mono (by decide)) tk (by rfl) (MA.len1 (MA.len1 MA.len0)) (ja_cons (je_var 0) (ja_cons (je_var 1) ja_nil))))
  (jss_one (js_ret (je_callO o_good_cheat (hr.mono (by decide)) tk (by rfl) (MA.len1 (MA.len1 (MA.len1 MA.len0))) (ja_cons (je_var 0) (ja_cons (je_var 1) (ja_cons (je_var 2) ja_nil)))))))
theorem sc_told_by_lies : FnScope ["rule", "sides", "worths", "lies", "said", "with_it", "without", "place", "worth"] ["rule", "sides", "worths", "lies"] (defScope s_told_by_lies) := ⟨rfl, rfl, rfl, by decide +kernel, rfl, by decide +kernel, by decide +kernel⟩
theorem ok_told_by_lies (E : Env K mg) (o_gains_of : Ok P w K mg base 8 "gains_of" 4 F_gains_of) (o_minus_of : Ok P w K mg base 3 "minus_of" 2 F_minus_of) (o_sum_of_all : Ok P w K mg base 4 "sum_of_all" 1 F_sum_of_all) (F : DefF K mg "told_by_lies" s_told_by_lies) : Ok P w K mg base 9 "told_by_lies" 4 F_told_by_lies :=
  ok_of F sc_told_by_lies (fun F => F.bindsN fun _ _ _ _ _ _ us hl => match us, hl with | [_, _, _, _], _ => rfl) fun cdv A outer s H E' hcv hr tk hp hu hv =>
  (jss_cons (js_setLcD (i := 4) (own := [("place", 7), ("worth", 8)]) rfl sc_told_by_lies.nd (ji_enumA (by rfl) E.f_enumerate (ja_cons (je_var 2) ja_nil)) (blkOk_by (N := ["rule", "sides", "worths", "lies", "said", "with_it", "without", "place", "worth"]) (sc := defScope s_told_by_lies) (by decide +kernel)) (fun _ _ _ _ _ => (jg_tup (by rfl) (jgs_cons (jg_name (i := 7) sc_told_by_lies.nd) (jgs_cons (jg_name (i := 8) sc_told_by_lies.nd) jgs_nil)))) (fun _ _ _ _ _ => jts_nil) (fun _ _ _ _ _ => (je_dget2 hu (je_var 3) (je_var 7) (je_var 8) ⟨rfl, rfl, rfl, rfl⟩)) (sw_true rfl rfl rfl (by decide +kernel)))
  (jss_cons (js_par (parG (is := [5, 6]) (n := 2) rfl sc_told_by_lies.nd (.cons rfl (by first | exact Or.inl rfl | exact Or.inr rfl) (by first | exact .inl rfl | exact .inr rfl) rfl (.cons rfl (by first | exact Or.inl rfl | exact Or.inr rfl) (by first | exact .inl rfl | exact .inr rfl) rfl .nil)) rfl (by decide)) (jx_d (je_callO o_gains_of (hr.mono (by decide)) tk (by rfl) (MA.len1 (MA.len1 (MA.len1 (MA.len1 MA.len0)))) (ja_cons (je_var 0) (ja_cons (je_var 1) (ja_cons (je_var 2) (ja_cons (je_var 4) ja_nil))))) (jx_d (je_callO o_gains_of (hr.mono (by decide)) tk (by rfl) (MA.len1 (MA.len1 (MA.len1 (MA.len1 MA.len0)))) (ja_cons (je_var 0) (ja_cons (je_var 1) (ja_cons (je_var 2) (ja_cons (je_var 2) ja_nil))))) jx_nil)))
  (jss_one (js_ret (je_callO o_sum_of_all (hr.mono (by decide)) tk (by rfl) (MA.len1 MA.len0) (ja_cons (je_dat (jn_lc (own := [("place", 7)]) rfl sc_told_by_lies.nd (ji_seq (je_var 3)) (blkOk_by (N := ["rule", "sides", "worths", "lies", "said", "with_it", "without", "place", "worth"]) (sc := defScope s_told_by_lies) (by decide +kernel)) (fun _ _ _ _ _ => (jg_name (i := 7) sc_told_by_lies.nd)) (fun _ _ _ _ _ => jts_nil) (fun _ _ _ _ _ => (je_callO o_minus_of (hr.mono (by decide)) takesN (by rfl) (MA.len1 (MA.len1 MA.len0)) (ja_cons (je_ix (je_var 5) (je_var 7)) (ja_cons (je_ix (je_var 6) (je_var 7)) ja_nil)))))) ja_nil))))))
theorem sc_told_by_names : FnScope ["rule", "sides", "worths", "place", "number", "made", "done", "both"] ["rule", "sides", "worths", "place", "number"] (defScope s_told_by_names) := ⟨rfl, rfl, rfl, by decide +kernel, rfl, by decide +kernel, by decide +kernel⟩
theorem ok_told_by_names (E : Env K mg) (o_run_of : Ok P w K mg base 7 "run_of" 3 F_run_of) (o_gain_of : Ok P w K mg base 4 "gain_of" 4 F_gain_of) (o_sum_of_two : Ok P w K mg base 3 "sum_of_two" 2 F_sum_of_two) (o_minus_of : Ok P w K mg base 3 "minus_of" 2 F_minus_of) (o_gains_of : Ok P w K mg base 8 "gains_of" 4 F_gains_of) (F : DefF K mg "told_by_names" s_told_by_names) : Ok P w K mg base 9 "told_by_names" 5 F_told_by_names :=
  ok_of F sc_told_by_names (fun F => F.bindsN fun _ _ _ _ _ _ us hl => match us, hl with | [_, _, _, _, _], _ => rfl) fun cdv A outer s H E' hcv hr tk hp hu hv =>
  (jss_cons (js_set (i := 5) sc_told_by_names.nd (je_callO o_run_of (hr.mono (by decide)) tk (by rfl) (MA.len1 (MA.len1 (MA.len1 MA.len0))) (ja_cons (je_var 0) (ja_cons (je_bin o_add (je_var 1) (je_dat (jn_lst (ja_cons (je_ix (je_var 1) (je_var 3)) ja_nil)))) (ja_cons (je_bin o_add (je_var 2) (je_dat (jn_lst (ja_cons (je_var 4) ja_nil)))) ja_nil)))))
  (jss_cons (js_set (i := 6) sc_told_by_names.nd (je_bin o_add (je_ix (je_ix (je_var 5) (je_var 3)) je_int) (je_ix (je_ix (je_var 5) (je_un o_neg je_int)) je_int)))
  (jss_cons (js_if (jt_cmp (o_eq hu) (je_ix (je_var 1) (je_var 3)) je_str (nomark _)) (jss_one (js_set (i := 6) sc_told_by_names.nd (je_callB (c_min rfl) (by rfl) E.f_min boot_min (ja_cons je_int (ja_cons (je_var 6) ja_nil))))) jss_nil)
  (jss_cons (js_set (i := 7) sc_told_by_names.nd (je_callO o_minus_of (hr.mono (by decide)) tk (by rfl) (MA.len1 (MA.len1 MA.len0)) (ja_cons (je_callO o_gain_of (hr.mono (by decide)) tk (by rfl) (MA.len1 (MA.len1 (MA.len1 (MA.len1 MA.len0)))) (ja_cons (je_ix (je_var 1) (je_var 3)) (ja_cons (je_ix (je_var 2) (je_var 3)) (ja_cons (je_var 6) (ja_cons (je_tup (ja_cons je_int (ja_cons je_int ja_nil))) ja_nil))))) (ja_cons (je_callO o_sum_of_two (hr.mono (by decide)) tk (by rfl) (MA.len1 (MA.len1 MA.len0)) (ja_cons (je_ix (je_ix (je_var 5) (je_var 3)) je_int) (ja_cons (je_ix (je_ix (je_var 5) (je_un o_neg je_int)) je_int) ja_nil))) ja_nil))))
  (jss_one (js_ret (je_callO o_minus_of (hr.mono (by decide)) tk (by rfl) (MA.len1 (MA.len1 MA.len0)) (ja_cons (je_var 7) (ja_cons (je_ix (je_callO o_gains_of (hr.mono (by decide)) tk (by rfl) (MA.len1 (MA.len1 (MA.len1 (MA.len1 MA.len0)))) (ja_cons (je_var 0) (ja_cons (je_var 1) (ja_cons (je_var 2) (ja_cons (je_var 2) ja_nil))))) (je_var 3)) ja_nil)))))))))
theorem sc_told_by_shill : FnScope ["rule", "worths", "number", "sides", "made", "done", "paid"] ["rule", "worths", "number"] (defScope s_told_by_shill) := ⟨rfl, rfl, rfl, by decide +kernel, rfl, by decide +kernel, by decide +kernel⟩
theorem ok_told_by_shill (E : Env K mg) (o_run_of : Ok P w K mg base 7 "run_of" 3 F_run_of) (o_sum_of_all : Ok P w K mg base 4 "sum_of_all" 1 F_sum_of_all) (o_taken_of : Ok P w K mg base 8 "taken_of" 3 F_taken_of) (o_minus_of : Ok P w K mg base 3 "minus_of" 2 F_minus_of) (F : DefF K mg "told_by_shill" s_told_by_shill) : Ok P w K mg base 9 "told_by_shill" 3 F_told_by_shill :=
  ok_of F sc_told_by_shill (fun F => F.bindsN fun _ _ _ _ _ _ us hl => match us, hl with | [_, _, _], _ => rfl) fun cdv A outer s H E' hcv hr tk hp hu hv =>
  (jss_cons (js_set (i := 3) sc_told_by_shill.nd (je_bin o_mul (je_dat (jn_lst (ja_cons je_str ja_nil))) (je_bin o_add (je_callB c_len (by rfl) E.f_len boot_len (ja_cons (je_var 1) ja_nil)) je_int)))
  (jss_cons (js_set (i := 4) sc_told_by_shill.nd (je_callO o_run_of (hr.mono (by decide)) tk (by rfl) (MA.len1 (MA.len1 (MA.len1 MA.len0))) (ja_cons (je_var 0) (ja_cons (je_var 3) (ja_cons (je_bin o_add (je_var 1) (je_dat (jn_lst (ja_cons (je_var 2) ja_nil)))) ja_nil)))))
  (jss_one (js_ret (je_callO o_minus_of (hr.mono (by decide)) tk (by rfl) (MA.len1 (MA.len1 MA.len0)) (ja_cons (je_callO o_sum_of_all (hr.mono (by decide)) tk (by rfl) (MA.len1 MA.len0) (ja_cons (je_dat (jn_lc (own := [("done", 5), ("paid", 6)]) rfl sc_told_by_shill.nd (ji_seq (je_slice (je_var 4) (show JO _ _ none none from True.intro) (show JO _ _ (some _) (some _) from (je_un o_neg je_int)))) (blkOk_by (N := ["rule", "worths", "number", "sides", "made", "done", "paid"]) (sc := defScope s_told_by_shill) (by decide +kernel)) (fun _ _ _ _ _ => (jg_tup (by rfl) (jgs_cons (jg_name (i := 5) sc_told_by_shill.nd) (jgs_cons (jg_name (i := 6) sc_told_by_shill.nd) jgs_nil)))) (fun _ _ _ _ _ => jts_nil) (fun _ _ _ _ _ => (je_var 6)))) ja_nil)) (ja_cons (je_callO o_taken_of (hr.mono (by decide)) tk (by rfl) (MA.len1 (MA.len1 (MA.len1 MA.len0))) (ja_cons (je_var 0) (ja_cons (je_slice (je_var 3) (show JO _ _ none none from True.intro) (show JO _ _ (some _) (some _) from (je_un o_neg je_int))) (ja_cons (je_var 1) ja_nil)))) ja_nil)))))))
theorem sc_told_by : FnScope ["rule", "truth", "cheat", "place", "lies", "names", "sides", "worths", "one"] ["rule", "truth", "cheat"] (defScope s_told_by) := ⟨rfl, rfl, rfl, by decide +kernel, rfl, by decide +kernel, by decide +kernel⟩
theorem ok_told_by (E : Env K mg) (o_sides_in : Ok P w K mg base 1 "sides_in" 2 F_sides_in) (o_told_by_shill : Ok P w K mg base 9 "told_by_shill" 3 F_told_by_shill) (o_told_by_names : Ok P w K mg base 9 "told_by_names" 5 F_told_by_names) (o_told_by_lies : Ok P w K mg base 9 "told_by_lies" 4 F_told_by_lies) (F : DefF K mg "told_by" s_told_by) : Ok P w K mg base 10 "told_by" 3 F_told_by :=
  ok_of F sc_told_by (fun F => F.bindsN fun _ _ _ _ _ _ us hl => match us, hl with | [_, _, _], _ => rfl) fun cdv A outer s H E' hcv hr tk hp hu hv =>
  (jss_cons (js_par (par3 (i := 5) (j := 6) (l := 7) rfl sc_told_by.nd (by decide) (by decide) (by decide)) (jx_d (je_dat (jn_lc (own := [("one", 8)]) rfl sc_told_by.nd (ji_seq (je_var 1)) (blkOk_by (N := ["rule", "truth", "cheat", "place", "lies", "names", "sides", "worths", "one"]) (sc := defScope s_told_by) (by decide +kernel)) (fun _ _ _ _ _ => (jg_name (i := 8) sc_told_by.nd)) (fun _ _ _ _ _ => jts_nil) (fun _ _ _ _ _ => (je_ix (je_var 8) je_int)))) (jx_d (je_callO o_sides_in (hr.mono (by decide)) tk (by rfl) (MA.len1 (MA.len1 MA.len0)) (ja_cons (je_var 0) (ja_cons (je_var 1) ja_nil))) (jx_d (je_dat (jn_lc (own := [("one", 8)]) rfl sc_told_by.nd (ji_seq (je_var 1)) (blkOk_by (N := ["rule", "truth", "cheat", "place", "lies", "names", "sides", "worths", "one"]) (sc := defScope s_told_by) (by decide +kernel)) (fun _ _ _ _ _ => (jg_name (i := 8) sc_told_by.nd)) (fun _ _ _ _ _ => jts_nil) (fun _ _ _ _ _ => (je_ix (je_var 8) (je_un o_neg je_int))))) jx_nil))))
  (jss_cons (js_if (jt_cmp (o_eq hu) (je_ix (je_var 2) je_int) je_str (nomark _)) (jss_one (js_ret (je_callO o_told_by_shill (hr.mono (by decide)) tk (by rfl) (MA.len1 (MA.len1 (MA.len1 MA.len0))) (ja_cons (je_var 0) (ja_cons (je_var 7) (ja_cons (je_ix (je_var 2) je_int) ja_nil)))))) jss_nil)
  (jss_cons (js_set (i := 3) sc_told_by.nd (je_bm PySem.F.plainAttrs_list PySem.F.slot_list_index PySem.F.type_list_index (m_index hv) RP_lst (je_var 5) (ja_cons (je_ix (je_var 2) je_int) ja_nil)))
  (jss_cons (js_if (jt_cmp (o_eq hu) (je_ix (je_var 2) je_int) je_str (nomark _)) (jss_one (js_ret (je_callO o_told_by_names (hr.mono (by decide)) tk (by rfl) (MA.len1 (MA.len1 (MA.len1 (MA.len1 (MA.len1 MA.len0))))) (ja_cons (je_var 0) (ja_cons (je_var 6) (ja_cons (je_var 7) (ja_cons (je_var 3) (ja_cons (je_ix (je_var 2) je_int) ja_nil)))))))) jss_nil)
  (jss_cons (js_setM1 (i := 4) sc_told_by.nd (je_var 3) (je_ix (je_var 2) je_int))
  (jss_cons (js_if (jt_cmp (o_eq hu) (je_ix (je_var 2) je_int) je_str (nomark _)) (jss_one (js_dput (i := 4) hu (je_bm PySem.F.plainAttrs_list PySem.F.slot_list_index PySem.F.type_list_index (m_index hv) RP_lst (je_var 5) (ja_cons (je_ix (je_var 2) je_int) ja_nil)) (je_ix (je_var 2) je_int))) jss_nil)
  (jss_one (js_ret (je_callO o_told_by_lies (hr.mono (by decide)) tk (by rfl) (MA.len1 (MA.len1 (MA.len1 (MA.len1 MA.len0)))) (ja_cons (je_var 0) (ja_cons (je_var 6) (ja_cons (je_var 7) (ja_cons (je_frz 4) ja_nil)))))))))))))
theorem sc_gain : FnScope ["rule", "truth", "cheat"] ["rule", "truth", "cheat"] (defScope s_gain) := ⟨rfl, rfl, rfl, by decide +kernel, rfl, by decide +kernel, by decide +kernel⟩
theorem ok_gain (E : Env K mg) (o_need_sale : Ok P w K mg base 6 "need_sale" 2 F_need_sale) (o_good_cheat : Ok P w K mg base 3 "good_cheat" 3 F_good_cheat) (o_told_by : Ok P w K mg base 10 "told_by" 3 F_told_by) (F : DefF K mg "gain" s_gain) : Ok P w K mg base 11 "gain" 3 F_gain :=
  ok_of F sc_gain (fun F => F.bindsN fun _ _ _ _ _ _ us hl => match us, hl with | [_, _, _], _ => rfl) fun cdv A outer s H E' hcv hr tk hp hu hv =>
  (jss_cons (js_expr (je_callO o_need_sale (hr.mono (by decide)) tk (by rfl) (MA.len1 (MA.len1 MA.len0)) (ja_cons (je_var 0) (ja_cons (je_var 1) ja_nil))))
  (jss_cons (js_if (jt_not (jt_val (je_callO o_good_cheat (hr.mono (by decide)) tk (by rfl) (MA.len1 (MA.len1 (MA.len1 MA.len0))) (ja_cons (je_var 0) (ja_cons (je_var 1) (ja_cons (je_var 2) ja_nil)))))) (jss_one (js_raise E.x_NoCheat rfl tk (by rfl))) jss_nil)
  (jss_one (js_ret (je_callO o_told_by (hr.mono (by decide)) tk (by rfl) (MA.len1 (MA.len1 (MA.len1 MA.len0))) (ja_cons (je_var 0) (ja_cons (je_var 1) (ja_cons (je_var 2) ja_nil))))))))
theorem sc_all_cheats : FnScope ["truth", "kind", "high", "made", "numbers", "names", "at", "name", "other", "one", "number", "a", "b"] ["truth", "kind", "high"] (defScope s_all_cheats) := ⟨rfl, rfl, rfl, by decide +kernel, rfl, by decide +kernel, by decide +kernel⟩
theorem ok_all_cheats (E : Env K mg) (F : DefF K mg "all_cheats" s_all_cheats) : Ok P w K mg base 1 "all_cheats" 3 F_all_cheats :=
  ok_of F sc_all_cheats (fun F => F.bindsN fun _ _ _ _ _ _ us hl => match us, hl with | [_, _, _], _ => rfl) fun cdv A outer s H E' hcv hr tk hp hu hv =>
  (jss_cons (js_par (parG (is := [4, 5]) (n := 2) rfl sc_all_cheats.nd (.cons rfl (by first | exact Or.inl rfl | exact Or.inr rfl) (by first | exact .inl rfl | exact .inr rfl) rfl (.cons rfl (by first | exact Or.inl rfl | exact Or.inr rfl) (by first | exact .inl rfl | exact .inr rfl) rfl .nil)) rfl (by decide)) (jx_d (je_dat (jn_listR rfl (by rfl) E.f_list (jr_1 (by rfl) E.f_range (je_bin o_add (je_var 2) je_int)))) (jx_d (je_dat (jn_lc (own := [("one", 9)]) rfl sc_all_cheats.nd (ji_seq (je_var 0)) (blkOk_by (N := ["truth", "kind", "high", "made", "numbers", "names", "at", "name", "other", "one", "number", "a", "b"]) (sc := defScope s_all_cheats) (by decide +kernel)) (fun _ _ _ _ _ => (jg_name (i := 9) sc_all_cheats.nd)) (fun _ _ _ _ _ => jts_nil) (fun _ _ _ _ _ => (je_ix (je_var 9) je_int)))) jx_nil)))
  (jss_cons (js_if (jt_cmp (o_eq hu) (je_var 1) je_str (nomark _)) (jss_one (js_ret (je_dat (jn_lc (own := [("number", 10)]) rfl sc_all_cheats.nd (ji_seq (je_var 4)) (blkOk_by (N := ["truth", "kind", "high", "made", "numbers", "names", "at", "name", "other", "one", "number", "a", "b"]) (sc := defScope s_all_cheats) (by decide +kernel)) (fun _ _ _ _ _ => (jg_name (i := 10) sc_all_cheats.nd)) (fun _ _ _ _ _ => jts_nil) (fun _ _ _ _ _ => (je_tup (ja_cons je_str (ja_cons (je_var 10) ja_nil)))))))) jss_nil)
  (jss_cons (js_if (jt_cmp (o_ne hu) (je_var 1) je_str (nomark _)) (jss_one (js_ret (je_dat (jn_lc2 (own := [("name", 7), ("number", 10)]) (vs1 := [10]) rfl sc_all_cheats.nd (ji_seq (je_var 5)) (blkOk_by (N := ["truth", "kind", "high", "made", "numbers", "names", "at", "name", "other", "one", "number", "a", "b"]) (sc := defScope s_all_cheats) (by decide +kernel)) (fun _ _ _ _ _ => (jg_name (i := 7) sc_all_cheats.nd)) (fun _ _ _ _ _ => jts_nil) (fun _ _ _ _ _ => (ji_seq (je_var 4))) (fun _ _ _ _ _ => (jg_name (i := 10) sc_all_cheats.nd)) (fun _ _ _ _ _ => jts_nil) (fun _ _ _ _ _ => (je_tup (ja_cons (je_var 1) (ja_cons (je_var 7) (ja_cons (je_var 10) ja_nil))))))))) jss_nil)
  (jss_cons (js_setN (i := 3) sc_all_cheats.nd (jn_lst ja_nil))
  (jss_cons (js_for hp rfl (ji_enumA (by rfl) E.f_enumerate (ja_cons (je_var 5) ja_nil)) (jg_tup (by rfl) (jgs_cons (jg_name (i := 6) sc_all_cheats.nd) (jgs_cons (jg_name (i := 7) sc_all_cheats.nd) jgs_nil))) (jss_one (js_for hp rfl (ji_seq (je_slice (je_var 5) (show JO _ _ (some _) (some _) from (je_bin o_add (je_var 6) je_int)) (show JO _ _ none none from True.intro))) (jg_name (i := 8) sc_all_cheats.nd) (jss_one (js_expr (je_meth (i := 3) PySem.F.plainAttrs_list PySem.F.slot_list_extend PySem.F.type_list_extend m_extend (ja_cons (je_dat (jn_lc2 (own := [("a", 11), ("b", 12)]) (vs1 := [12]) rfl sc_all_cheats.nd (ji_seq (je_var 4)) (blkOk_by (N := ["truth", "kind", "high", "made", "numbers", "names", "at", "name", "other", "one", "number", "a", "b"]) (sc := defScope s_all_cheats) (by decide +kernel)) (fun _ _ _ _ _ => (jg_name (i := 11) sc_all_cheats.nd)) (fun _ _ _ _ _ => jts_nil) (fun _ _ _ _ _ => (ji_seq (je_var 4))) (fun _ _ _ _ _ => (jg_name (i := 12) sc_all_cheats.nd)) (fun _ _ _ _ _ => jts_nil) (fun _ _ _ _ _ => (je_tup (ja_cons je_str (ja_cons (je_var 7) (ja_cons (je_var 11) (ja_cons (je_var 8) (ja_cons (je_var 12) ja_nil))))))))) ja_nil)))))))
  (jss_one (js_ret (je_frz 3))))))))
theorem sc_best_of : FnScope ["rule", "truth", "kind", "high", "cheat", "found", "most", "told"] ["rule", "truth", "kind", "high"] (defScope s_best_of) := ⟨rfl, rfl, rfl, by decide +kernel, rfl, by decide +kernel, by decide +kernel⟩
theorem ok_best_of (E : Env K mg) (o_whole : Ok P w K mg base 1 "whole" 1 F_whole) (o_all_cheats : Ok P w K mg base 1 "all_cheats" 3 F_all_cheats) (o_told_by : Ok P w K mg base 10 "told_by" 3 F_told_by) (o_order_of : Ok P w K mg base 1 "order_of" 2 F_order_of) (F : DefF K mg "best_of" s_best_of) : Ok P w K mg base 11 "best_of" 4 F_best_of :=
  ok_of F sc_best_of (fun F => F.bindsN fun _ _ _ _ _ _ us hl => match us, hl with | [_, _, _, _], _ => rfl) fun cdv A outer s H E' hcv hr tk hp hu hv =>
  (jss_cons (js_par (par2 (i := 5) (j := 6) rfl sc_best_of.nd (by decide)) (jx_d je_non (jx_d (je_callO o_whole (hr.mono (by decide)) tk (by rfl) (MA.len1 MA.len0) (ja_cons je_int ja_nil)) jx_nil)))
  (jss_cons (js_for hp rfl (ji_seq (je_dat (jn_callB (c_sortedA hv) (by rfl) E.f_sorted boot_sorted (ja_cons (je_callO o_all_cheats (hr.mono (by decide)) tk (by rfl) (MA.len1 (MA.len1 (MA.len1 MA.len0))) (ja_cons (je_var 1) (ja_cons (je_var 2) (ja_cons (je_var 3) ja_nil)))) ja_nil)))) (jg_name (i := 4) sc_best_of.nd) (jss_cons (js_set (i := 7) sc_best_of.nd (je_callO o_told_by (hr.mono (by decide)) tk (by rfl) (MA.len1 (MA.len1 (MA.len1 MA.len0))) (ja_cons (je_var 0) (ja_cons (je_var 1) (ja_cons (je_var 4) ja_nil)))))
  (jss_one (js_if (jt_cmp o_gt (je_callO o_order_of (hr.mono (by decide)) tk (by rfl) (MA.len1 (MA.len1 MA.len0)) (ja_cons (je_var 7) (ja_cons (je_var 6) ja_nil))) je_int (nomark _)) (jss_one (js_par (par2 (i := 5) (j := 6) rfl sc_best_of.nd (by decide)) (jx_d (je_var 4) (jx_d (je_var 7) jx_nil)))) jss_nil))))
  (jss_one (js_ret (je_var 5)))))
theorem sc_need_kind : FnScope ["rule", "kind"] ["rule", "kind"] (defScope s_need_kind) := ⟨rfl, rfl, rfl, by decide +kernel, rfl, by decide +kernel, by decide +kernel⟩
theorem ok_need_kind (E : Env K mg) (o_is_kind : Ok P w K mg base 2 "is_kind" 2 F_is_kind) (F : DefF K mg "need_kind" s_need_kind) : Ok P w K mg base 3 "need_kind" 2 F_need_kind :=
  ok_of F sc_need_kind (fun F => F.bindsN fun _ _ _ _ _ _ us hl => match us, hl with | [_, _], _ => rfl) fun cdv A outer s H E' hcv hr tk hp hu hv =>
  (jss_one (js_if (jt_not (jt_val (je_callO o_is_kind (hr.mono (by decide)) tk (by rfl) (MA.len1 (MA.len1 MA.len0)) (ja_cons (je_var 0) (ja_cons (je_var 1) ja_nil))))) (jss_one (js_raise E.x_NoCheat rfl tk (by rfl))) jss_nil))
theorem sc_best_cheat : FnScope ["rule", "truth", "kind", "high"] ["rule", "truth", "kind", "high"] (defScope s_best_cheat) := ⟨rfl, rfl, rfl, by decide +kernel, rfl, by decide +kernel, by decide +kernel⟩
theorem ok_best_cheat (E : Env K mg) (o_need_sale : Ok P w K mg base 6 "need_sale" 2 F_need_sale) (o_need_kind : Ok P w K mg base 3 "need_kind" 2 F_need_kind) (o_is_whole : Ok P w K mg base 1 "is_whole" 3 F_is_whole) (o_best_of : Ok P w K mg base 11 "best_of" 4 F_best_of) (F : DefK K mg "best_cheat" s_best_cheat (([("high", 9)] : List (Str × Int)).map fun q => (q.1, V.int q.2))) : OkK P w K mg base 12 "best_cheat" 3 ["high"] [.int 9] F_best_cheat :=
  okK_of (n := 3) (iv := [("high", 9)]) F sc_best_cheat (by simp) rfl (fun _ _ _ _ _ _ us ws l1 l2 => match us, ws, l1, l2 with | [_, _, _], [_], _, _ => ⟨_, _, _, _, _, _, rfl, rfl, rfl⟩) (fun _ _ _ _ _ _ us ws l1 l2 => match us, ws, l1, l2 with | [_, _, _], [_], _, _ => rfl) fun cdv A outer s H E' hcv hr tk hp hu hv =>
  (jss_cons (js_expr (je_callO o_need_sale (hr.mono (by decide)) tk (by rfl) (MA.len1 (MA.len1 MA.len0)) (ja_cons (je_var 0) (ja_cons (je_var 1) ja_nil))))
  (jss_cons (js_expr (je_callO o_need_kind (hr.mono (by decide)) tk (by rfl) (MA.len1 (MA.len1 MA.len0)) (ja_cons (je_var 0) (ja_cons (je_var 2) ja_nil))))
  (jss_cons (js_if (jt_not (jt_val (je_callO o_is_whole (hr.mono (by decide)) tk (by rfl) (MA.len1 (MA.len1 (MA.len1 MA.len0))) (ja_cons (je_var 3) (ja_cons je_int (ja_cons je_int ja_nil)))))) (jss_one (js_raise E.x_NoCount rfl tk (by rfl))) jss_nil)
  (jss_one (js_ret (je_callO o_best_of (hr.mono (by decide)) tk (by rfl) (MA.len1 (MA.len1 (MA.len1 (MA.len1 MA.len0)))) (ja_cons (je_var 0) (ja_cons (je_var 1) (ja_cons (je_var 2) (ja_cons (je_var 3) ja_nil))))))))))
theorem sc_all_rows : FnScope ["many", "high", "made", "turn", "row", "number"] ["many", "high"] (defScope s_all_rows) := ⟨rfl, rfl, rfl, by decide +kernel, rfl, by decide +kernel, by decide +kernel⟩
theorem ok_all_rows (E : Env K mg) (F : DefF K mg "all_rows" s_all_rows) : Ok P w K mg base 1 "all_rows" 2 F_all_rows :=
  ok_of F sc_all_rows (fun F => F.bindsN fun _ _ _ _ _ _ us hl => match us, hl with | [_, _], _ => rfl) fun cdv A outer s H E' hcv hr tk hp hu hv =>
  (jss_cons (js_set (i := 2) sc_all_rows.nd (je_dat (jn_lst (ja_cons (je_dat (jn_lst ja_nil)) ja_nil))))
  (jss_cons (js_for hp rfl (ji_range1 (by rfl) E.f_range (ja_cons (je_var 0) ja_nil)) (jg_name (i := 3) sc_all_rows.nd) (jss_one (js_setLc2D (i := 2) (own := [("row", 4), ("number", 5)]) (vs1 := [5]) rfl sc_all_rows.nd (ji_seq (je_var 2)) (blkOk_by (N := ["many", "high", "made", "turn", "row", "number"]) (sc := defScope s_all_rows) (by decide +kernel)) (fun _ _ _ _ _ => (jg_name (i := 4) sc_all_rows.nd)) (fun _ _ _ _ _ => jts_nil) (fun _ _ _ _ _ => (ji_range1 (by rfl) E.f_range (ja_cons (je_bin o_add (je_var 1) je_int) ja_nil))) (fun _ _ _ _ _ => (jg_name (i := 5) sc_all_rows.nd)) (fun _ _ _ _ _ => jts_nil) (fun _ _ _ _ _ => (je_bin o_add (je_var 4) (je_dat (jn_lst (ja_cons (je_var 5) ja_nil))))) (sw_true rfl rfl rfl (by decide +kernel)))))
  (jss_one (js_ret (je_var 2)))))
theorem sc_first_cheated : FnScope ["rule", "truths", "kind", "high", "truth", "found"] ["rule", "truths", "kind", "high"] (defScope s_first_cheated) := ⟨rfl, rfl, rfl, by decide +kernel, rfl, by decide +kernel, by decide +kernel⟩
theorem ok_first_cheated (E : Env K mg) (o_best_of : Ok P w K mg base 11 "best_of" 4 F_best_of) (F : DefF K mg "first_cheated" s_first_cheated) : Ok P w K mg base 12 "first_cheated" 4 F_first_cheated :=
  ok_of F sc_first_cheated (fun F => F.bindsN fun _ _ _ _ _ _ us hl => match us, hl with | [_, _, _, _], _ => rfl) fun cdv A outer s H E' hcv hr tk hp hu hv =>
  (jss_cons (js_for hp rfl (ji_seq (je_var 1)) (jg_name (i := 4) sc_first_cheated.nd) (jss_cons (js_set (i := 5) sc_first_cheated.nd (je_callO o_best_of (hr.mono (by decide)) tk (by rfl) (MA.len1 (MA.len1 (MA.len1 (MA.len1 MA.len0)))) (ja_cons (je_var 0) (ja_cons (je_var 4) (ja_cons (je_var 2) (ja_cons (je_var 3) ja_nil))))))
  (jss_one (js_if (jt_cmp o_isnot (je_var 5) je_non (nomark _)) (jss_one (js_ret (je_tup (ja_cons (je_var 4) (ja_cons (je_var 5) ja_nil))))) jss_nil))))
  (jss_one (js_ret je_non)))
theorem sc_need_high : FnScope ["high"] ["high"] (defScope s_need_high) := ⟨rfl, rfl, rfl, by decide +kernel, rfl, by decide +kernel, by decide +kernel⟩
theorem ok_need_high (E : Env K mg) (o_is_whole : Ok P w K mg base 1 "is_whole" 3 F_is_whole) (F : DefF K mg "need_high" s_need_high) : Ok P w K mg base 2 "need_high" 1 F_need_high :=
  ok_of F sc_need_high (fun F => F.bindsN fun _ _ _ _ _ _ us hl => match us, hl with | [_], _ => rfl) fun cdv A outer s H E' hcv hr tk hp hu hv =>
  (jss_one (js_if (jt_not (jt_val (je_callO o_is_whole (hr.mono (by decide)) tk (by rfl) (MA.len1 (MA.len1 (MA.len1 MA.len0))) (ja_cons (je_var 0) (ja_cons je_int (ja_cons je_int ja_nil)))))) (jss_one (js_raise E.x_NoCount rfl tk (by rfl))) jss_nil))
theorem sc_safe : FnScope ["rule", "kind", "many", "high", "row"] ["rule", "kind", "many", "high"] (defScope s_safe) := ⟨rfl, rfl, rfl, by decide +kernel, rfl, by decide +kernel, by decide +kernel⟩
theorem ok_safe (E : Env K mg) (o_need_auction : Ok P w K mg base 4 "need_auction" 1 F_need_auction) (o_need_kind : Ok P w K mg base 3 "need_kind" 2 F_need_kind) (o_is_whole : Ok P w K mg base 1 "is_whole" 3 F_is_whole) (o_need_high : Ok P w K mg base 2 "need_high" 1 F_need_high) (o_all_rows : Ok P w K mg base 1 "all_rows" 2 F_all_rows) (o_first_cheated : Ok P w K mg base 12 "first_cheated" 4 F_first_cheated) (F : DefK K mg "safe" s_safe (([("many", 2), ("high", 3)] : List (Str × Int)).map fun q => (q.1, V.int q.2))) : OkK P w K mg base 13 "safe" 2 ["many", "high"] [.int 2, .int 3] F_safe :=
  okK_of (n := 2) (iv := [("many", 2), ("high", 3)]) F sc_safe (by simp) rfl (fun _ _ _ _ _ _ us ws l1 l2 => match us, ws, l1, l2 with | [_, _], [_, _], _, _ => ⟨_, _, _, _, _, _, rfl, rfl, ⟨_, _, _, _, _, _, rfl, rfl, rfl⟩⟩) (fun _ _ _ _ _ _ us ws l1 l2 => match us, ws, l1, l2 with | [_, _], [_, _], _, _ => rfl) fun cdv A outer s H E' hcv hr tk hp hu hv =>
  (jss_cons (js_expr (je_callO o_need_auction (hr.mono (by decide)) tk (by rfl) (MA.len1 MA.len0) (ja_cons (je_var 0) ja_nil)))
  (jss_cons (js_expr (je_callO o_need_kind (hr.mono (by decide)) tk (by rfl) (MA.len1 (MA.len1 MA.len0)) (ja_cons (je_var 0) (ja_cons (je_var 1) ja_nil))))
  (jss_cons (js_if (jt_not (jt_val (je_callO o_is_whole (hr.mono (by decide)) tk (by rfl) (MA.len1 (MA.len1 (MA.len1 MA.len0))) (ja_cons (je_var 2) (ja_cons je_int (ja_cons je_int ja_nil)))))) (jss_one (js_raise E.x_NoCount rfl tk (by rfl))) jss_nil)
  (jss_cons (js_expr (je_callO o_need_high (hr.mono (by decide)) tk (by rfl) (MA.len1 MA.len0) (ja_cons (je_var 3) ja_nil)))
  (jss_one (js_ret (je_callO o_first_cheated (hr.mono (by decide)) tk (by rfl) (MA.len1 (MA.len1 (MA.len1 (MA.len1 MA.len0)))) (ja_cons (je_var 0) (ja_cons (je_dat (jn_lc (own := [("row", 4)]) rfl sc_safe.nd (ji_seq (je_callO o_all_rows (hr.mono (by decide)) tk (by rfl) (MA.len1 (MA.len1 MA.len0)) (ja_cons (je_var 2) (ja_cons (je_var 3) ja_nil)))) (blkOk_by (N := ["rule", "kind", "many", "high", "row"]) (sc := defScope s_safe) (by decide +kernel)) (fun _ _ _ _ _ => (jg_name (i := 4) sc_safe.nd)) (fun _ _ _ _ _ => jts_nil) (fun _ _ _ _ _ => (je_dat (jn_zip2 rfl (by rfl) E.f_list (by rfl) E.f_zip (ja_cons (je_cS E.k_LETTERS_cheats (by rfl)) (ja_cons (je_var 4) ja_nil))))))) (ja_cons (je_var 1) (ja_cons (je_var 3) ja_nil)))))))))))
theorem sc_safe_for : FnScope ["rule", "sides", "kind", "high", "row", "one"] ["rule", "sides", "kind", "high"] (defScope s_safe_for) := ⟨rfl, rfl, rfl, by decide +kernel, rfl, by decide +kernel, by decide +kernel⟩
theorem ok_safe_for (E : Env K mg) (o_need_exchange : Ok P w K mg base 3 "need_exchange" 1 F_need_exchange) (o_need_kind : Ok P w K mg base 3 "need_kind" 2 F_need_kind) (o_is_among : Ok P w K mg base 1 "is_among" 2 F_is_among) (o_need_high : Ok P w K mg base 2 "need_high" 1 F_need_high) (o_all_rows : Ok P w K mg base 1 "all_rows" 2 F_all_rows) (o_first_cheated : Ok P w K mg base 12 "first_cheated" 4 F_first_cheated) (F : DefK K mg "safe_for" s_safe_for (([("high", 3)] : List (Str × Int)).map fun q => (q.1, V.int q.2))) : OkK P w K mg base 13 "safe_for" 3 ["high"] [.int 3] F_safe_for :=
  okK_of (n := 3) (iv := [("high", 3)]) F sc_safe_for (by simp) rfl (fun _ _ _ _ _ _ us ws l1 l2 => match us, ws, l1, l2 with | [_, _, _], [_], _, _ => ⟨_, _, _, _, _, _, rfl, rfl, rfl⟩) (fun _ _ _ _ _ _ us ws l1 l2 => match us, ws, l1, l2 with | [_, _, _], [_], _, _ => rfl) fun cdv A outer s H E' hcv hr tk hp hu hv =>
  (jss_cons (js_expr (je_callO o_need_exchange (hr.mono (by decide)) tk (by rfl) (MA.len1 MA.len0) (ja_cons (je_var 0) ja_nil)))
  (jss_cons (js_expr (je_callO o_need_kind (hr.mono (by decide)) tk (by rfl) (MA.len1 (MA.len1 MA.len0)) (ja_cons (je_var 0) (ja_cons (je_var 2) ja_nil))))
  (jss_cons (js_if (jw_pt (jw_or (jt_not (jt_val (je_isi (T := .tuple) (by rfl) E.f_isinstance (by rfl) E.f_tuple boot_tuple (je_var 1)))) (jw_or (jt_not (jt_chain o_le o_le je_int (je_callB c_len (by rfl) E.f_len boot_len (ja_cons (je_var 1) ja_nil)) je_int)) (jw_or1 (jt_not (jt_val (je_callB (c_all rfl) (by rfl) E.f_all boot_all (ja_cons (je_dat (jn_lc (own := [("one", 5)]) rfl sc_safe_for.nd (ji_seq (je_var 1)) (blkOk_by (N := ["rule", "sides", "kind", "high", "row", "one"]) (sc := defScope s_safe_for) (by decide +kernel)) (fun _ _ _ _ _ => (jg_name (i := 5) sc_safe_for.nd)) (fun _ _ _ _ _ => jts_nil) (fun _ _ _ _ _ => (je_callO o_is_among (hr.mono (by decide)) takesN (by rfl) (MA.len1 (MA.len1 MA.len0)) (ja_cons (je_var 5) (ja_cons (je_cT E.k_SIDES (by rfl)) ja_nil)))))) ja_nil)))))))) (jss_one (js_raise E.x_NoCount rfl tk (by rfl))) jss_nil)
  (jss_cons (js_expr (je_callO o_need_high (hr.mono (by decide)) tk (by rfl) (MA.len1 MA.len0) (ja_cons (je_var 3) ja_nil)))
  (jss_one (js_ret (je_callO o_first_cheated (hr.mono (by decide)) tk (by rfl) (MA.len1 (MA.len1 (MA.len1 (MA.len1 MA.len0)))) (ja_cons (je_var 0) (ja_cons (je_dat (jn_lc (own := [("row", 4)]) rfl sc_safe_for.nd (ji_seq (je_callO o_all_rows (hr.mono (by decide)) tk (by rfl) (MA.len1 (MA.len1 MA.len0)) (ja_cons (je_callB c_len (by rfl) E.f_len boot_len (ja_cons (je_var 1) ja_nil)) (ja_cons (je_var 3) ja_nil)))) (blkOk_by (N := ["rule", "sides", "kind", "high", "row", "one"]) (sc := defScope s_safe_for) (by decide +kernel)) (fun _ _ _ _ _ => (jg_name (i := 4) sc_safe_for.nd)) (fun _ _ _ _ _ => jts_nil) (fun _ _ _ _ _ => (je_dat (jn_zip3 rfl (by rfl) E.f_list (by rfl) E.f_zip (ja_cons (je_cS E.k_LETTERS_cheats (by rfl)) (ja_cons (je_var 1) (ja_cons (je_var 4) ja_nil)))))))) (ja_cons (je_var 2) (ja_cons (je_var 3) ja_nil)))))))))))
theorem sc_law_cell_at : FnScope ["script", "k", "spare", "again"] ["script", "k"] (defScope s_law_cell_at) := ⟨rfl, rfl, rfl, by decide +kernel, rfl, by decide +kernel, by decide +kernel⟩
theorem ok_law_cell_at (E : Env K mg) (F : DefF K mg "_law_cell_at" s_law_cell_at) : Ok P w K mg base 1 "_law_cell_at" 2 F_law_cell_at :=
  ok_of F sc_law_cell_at (fun F => F.bindsN fun _ _ _ _ _ _ us hl => match us, hl with | [_, _], _ => rfl) fun cdv A outer s H E' hcv hr tk hp hu hv =>
  (jss_cons (js_if (jt_cmp o_lt (je_var 1) (je_callB c_len (by rfl) E.f_len boot_len (ja_cons (je_var 0) ja_nil)) (nomark _)) (jss_one (js_ret (je_ix (je_var 0) (je_var 1)))) jss_nil)
  (jss_cons (js_if (jt_cmp (o_eq hu) (je_var 0) (je_dat (jn_lst ja_nil)) (nomark _)) (jss_one (js_ret je_int)) jss_nil)
  (jss_cons (js_set (i := 2) sc_law_cell_at.nd (je_ix (je_var 0) (je_bin o_mod (je_var 1) (je_callB c_len (by rfl) E.f_len boot_len (ja_cons (je_var 0) ja_nil)))))
  (jss_cons (js_for hp rfl (ji_range1 (by rfl) E.f_range (ja_cons (je_callB (c_min rfl) (by rfl) E.f_min boot_min (ja_cons (je_bin o_fdiv (je_var 1) (je_callB c_len (by rfl) E.f_len boot_len (ja_cons (je_var 0) ja_nil))) (ja_cons je_int ja_nil))) ja_nil)) (jg_name (i := 3) sc_law_cell_at.nd) (jss_one (js_set (i := 2) sc_law_cell_at.nd (je_bin o_fdiv (je_var 2) je_int))))
  (jss_one (js_ret (je_bin o_add (je_bin o_add (je_bin o_mul (je_ix (je_var 0) (je_bin o_mod (je_var 1) (je_callB c_len (by rfl) E.f_len boot_len (ja_cons (je_var 0) ja_nil)))) je_int) (je_var 1)) (je_bin o_mul (je_var 2) je_int))))))))
theorem sc_law_mixed : FnScope ["script", "k", "bound", "drawn"] ["script", "k", "bound"] (defScope s_law_mixed) := ⟨rfl, rfl, rfl, by decide +kernel, rfl, by decide +kernel, by decide +kernel⟩
theorem ok_law_mixed (E : Env K mg) (o_law_cell_at : Ok P w K mg base 1 "_law_cell_at" 2 F_law_cell_at) (F : DefF K mg "_law_mixed" s_law_mixed) : Ok P w K mg base 2 "_law_mixed" 3 F_law_mixed :=
  ok_of F sc_law_mixed (fun F => F.bindsN fun _ _ _ _ _ _ us hl => match us, hl with | [_, _, _], _ => rfl) fun cdv A outer s H E' hcv hr tk hp hu hv =>
  (jss_cons (js_set (i := 3) sc_law_mixed.nd (je_bin o_mod (je_bin o_add (je_bin o_add (je_bin o_mul (je_callO o_law_cell_at (hr.mono (by decide)) tk (by rfl) (MA.len1 (MA.len1 MA.len0)) (ja_cons (je_var 0) (ja_cons (je_var 1) ja_nil))) je_int) (je_bin o_mul je_int (je_var 1))) je_int) je_int))
  (jss_one (js_ret (je_bin o_mod (je_bin o_mod (je_bin o_mod (je_bin o_pow (je_var 3) je_int) je_int) je_int) (je_var 2)))))
theorem sc_law_draw : FnScope ["script", "town", "bound"] ["script", "town", "bound"] (defScope s_law_draw) := ⟨rfl, rfl, rfl, by decide +kernel, rfl, by decide +kernel, by decide +kernel⟩
theorem ok_law_draw (E : Env K mg) (o_law_mixed : Ok P w K mg base 2 "_law_mixed" 3 F_law_mixed) (F : DefF K mg "_law_draw" s_law_draw) : Ok P w K mg base 3 "_law_draw" 3 F_law_draw :=
  ok_of F sc_law_draw (fun F => F.bindsN fun _ _ _ _ _ _ us hl => match us, hl with | [_, _, _], _ => rfl) fun cdv A outer s H E' hcv hr tk hp hu hv =>
  (jss_cons (js_expr (je_meth (i := 1) PySem.F.plainAttrs_list PySem.F.slot_list_append PySem.F.type_list_append m_append (ja_cons je_int ja_nil)))
  (jss_one (js_ret (je_callO o_law_mixed (hr.mono (by decide)) tk (by rfl) (MA.len1 (MA.len1 (MA.len1 MA.len0))) (ja_cons (je_var 0) (ja_cons (je_callB c_len (by rfl) E.f_len boot_len (ja_cons (je_var 1) ja_nil)) (ja_cons (je_var 2) ja_nil)))))))
theorem sc_law_pick : FnScope ["script", "town", "some"] ["script", "town", "some"] (defScope s_law_pick) := ⟨rfl, rfl, rfl, by decide +kernel, rfl, by decide +kernel, by decide +kernel⟩
theorem ok_law_pick (E : Env K mg) (o_law_draw : Ok P w K mg base 3 "_law_draw" 3 F_law_draw) (F : DefF K mg "_law_pick" s_law_pick) : Ok P w K mg base 4 "_law_pick" 3 F_law_pick :=
  ok_of F sc_law_pick (fun F => F.bindsN fun _ _ _ _ _ _ us hl => match us, hl with | [_, _, _], _ => rfl) fun cdv A outer s H E' hcv hr tk hp hu hv =>
  (jss_one (js_ret (je_ix (je_var 2) (je_callO o_law_draw (hr.mono (by decide)) tk (by rfl) (MA.len1 (MA.len1 (MA.len1 MA.len0))) (ja_cons (je_var 0) (ja_cons (je_var 1) (ja_cons (je_callB c_len (by rfl) E.f_len boot_len (ja_cons (je_var 2) ja_nil)) ja_nil)))))))
theorem sc_law_which : FnScope ["e", "own"] ["e"] (defScope s_law_which) := ⟨rfl, rfl, rfl, by decide +kernel, rfl, by decide +kernel, by decide +kernel⟩
theorem which_cls (E : Env K mg) : ∀ c ∈ whichCs, clsV mg c = .ref (He.ga K c) := fun c hc => by
  unfold whichCs at hc
  simp only [List.mem_cons, List.not_mem_nil, or_false] at hc
  rcases hc with rfl | rfl | rfl | rfl | rfl | rfl | rfl | rfl | rfl | rfl | rfl | rfl | rfl | rfl | rfl | rfl | rfl | rfl
  · exact E.x_NoRule.cls
  · exact E.x_NoBids.cls
  · exact E.x_NoNumber.cls
  · exact E.x_NoTrader.cls
  · exact E.x_NoCheat.cls
  · exact E.x_NoCount.cls
  · exact E.x_TooMany.cls
  · exact E.x_NoPlan.cls
  · exact E.x_NoSplit.cls
  · exact E.x_NoWishes.cls
  · exact E.x_NoSwap.cls
  · exact E.x_NoWay.cls
  · exact E.x_NoTape.cls
  · exact E.x_NoText.cls
  · exact E.x_NoPurses.cls
  · exact E.x_NotOpen.cls
  · exact E.x_StillOpen.cls
  · exact E.x_Nothing.cls
theorem ok_law_which (E : Env K mg) (F : DefF K mg "_law_which" s_law_which) : WhichOk P w K mg base 1 "_law_which" whichCs whichAns :=
  which_of (k := 0) (b := B_law_which) F sc_law_which (fun F => F.bindsN fun _ _ _ _ _ _ us hl => match us, hl with | [_], _ => rfl) (which_cls E) (fun cdv A outer s H a oe c hc hz hf hv => have ok := E.ask c hc; have hu := Nat.lt_of_succ_lt hv; have hpin : (a, oe) ∈ (L2H.cxH C8.CX0 P w K mg base ["e", "own"] "_law_which" (defScope s_law_which) (He.ga K "_law_which") cdv A outer s H C8.E0 (a, oe)).pn := List.mem_singleton.mpr rfl
  (jss_cons (js_setN (i := 1) sc_law_which.nd (jn_lst (ja_cons (je_isX (i := 0) (y := "NoRule") hpin ok hz hf (by decide +kernel) E.x_NoRule.mg (by rfl) (by rfl) E.f_isinstance) (ja_cons (je_isX (i := 0) (y := "NoBids") hpin ok hz hf (by decide +kernel) E.x_NoBids.mg (by rfl) (by rfl) E.f_isinstance) (ja_cons (je_isX (i := 0) (y := "NoNumber") hpin ok hz hf (by decide +kernel) E.x_NoNumber.mg (by rfl) (by rfl) E.f_isinstance) (ja_cons (je_isX (i := 0) (y := "NoTrader") hpin ok hz hf (by decide +kernel) E.x_NoTrader.mg (by rfl) (by rfl) E.f_isinstance) ja_nil))))))
  (jss_cons (js_expr (je_meth (i := 1) PySem.F.plainAttrs_list PySem.F.slot_list_extend PySem.F.type_list_extend m_extend (ja_cons (je_dat (jn_lst (ja_cons (je_isX (i := 0) (y := "NoCheat") hpin ok hz hf (by decide +kernel) E.x_NoCheat.mg (by rfl) (by rfl) E.f_isinstance) (ja_cons (je_isX (i := 0) (y := "NoCount") hpin ok hz hf (by decide +kernel) E.x_NoCount.mg (by rfl) (by rfl) E.f_isinstance) (ja_cons (je_isX (i := 0) (y := "TooMany") hpin ok hz hf (by decide +kernel) E.x_TooMany.mg (by rfl) (by rfl) E.f_isinstance) (ja_cons (je_isX (i := 0) (y := "NoPlan") hpin ok hz hf (by decide +kernel) E.x_NoPlan.mg (by rfl) (by rfl) E.f_isinstance) ja_nil)))))) ja_nil)))
  (jss_cons (js_expr (je_meth (i := 1) PySem.F.plainAttrs_list PySem.F.slot_list_extend PySem.F.type_list_extend m_extend (ja_cons (je_dat (jn_lst (ja_cons (je_isX (i := 0) (y := "NoSplit") hpin ok hz hf (by decide +kernel) E.x_NoSplit.mg (by rfl) (by rfl) E.f_isinstance) (ja_cons (je_isX (i := 0) (y := "NoWishes") hpin ok hz hf (by decide +kernel) E.x_NoWishes.mg (by rfl) (by rfl) E.f_isinstance) (ja_cons (je_isX (i := 0) (y := "NoSwap") hpin ok hz hf (by decide +kernel) E.x_NoSwap.mg (by rfl) (by rfl) E.f_isinstance) (ja_cons (je_isX (i := 0) (y := "NoWay") hpin ok hz hf (by decide +kernel) E.x_NoWay.mg (by rfl) (by rfl) E.f_isinstance) ja_nil)))))) ja_nil)))
  (jss_cons (js_expr (je_meth (i := 1) PySem.F.plainAttrs_list PySem.F.slot_list_extend PySem.F.type_list_extend m_extend (ja_cons (je_dat (jn_lst (ja_cons (je_isX (i := 0) (y := "NoTape") hpin ok hz hf (by decide +kernel) E.x_NoTape.mg (by rfl) (by rfl) E.f_isinstance) (ja_cons (je_isX (i := 0) (y := "NoText") hpin ok hz hf (by decide +kernel) E.x_NoText.mg (by rfl) (by rfl) E.f_isinstance) (ja_cons (je_isX (i := 0) (y := "NoPurses") hpin ok hz hf (by decide +kernel) E.x_NoPurses.mg (by rfl) (by rfl) E.f_isinstance) (ja_cons (je_isX (i := 0) (y := "NotOpen") hpin ok hz hf (by decide +kernel) E.x_NotOpen.mg (by rfl) (by rfl) E.f_isinstance) ja_nil)))))) ja_nil)))
  (jss_cons (js_expr (je_meth (i := 1) PySem.F.plainAttrs_list PySem.F.slot_list_extend PySem.F.type_list_extend m_extend (ja_cons (je_dat (jn_lst (ja_cons (je_isX (i := 0) (y := "StillOpen") hpin ok hz hf (by decide +kernel) E.x_StillOpen.mg (by rfl) (by rfl) E.f_isinstance) (ja_cons (je_isX (i := 0) (y := "Nothing") hpin ok hz hf (by decide +kernel) E.x_Nothing.mg (by rfl) (by rfl) E.f_isinstance) ja_nil)))) ja_nil)))
  (jss_cons (js_if (jw_pt (jw_or (jt_cmp (o_ne hu) (je_bm PySem.F.plainAttrs_list PySem.F.slot_list_count PySem.F.type_list_count (m_count hv) RP_lst (je_var 1) (ja_cons je_bl ja_nil)) je_int (nomark _)) (jw_or1 (jt_not (jt_val (je_isXV (i := 0) hpin ok hz hf E.f_ValueError (by rfl) (by rfl) E.f_isinstance)))))) (jss_one (js_ret (je_tup (ja_cons je_str (ja_cons (je_un o_neg je_int) ja_nil))))) jss_nil)
  (jss_one (js_ret (je_tup (ja_cons je_str (ja_cons (je_bm PySem.F.plainAttrs_list PySem.F.slot_list_index PySem.F.type_list_index (m_index hv) RP_lst (je_var 1) (ja_cons je_bl ja_nil)) ja_nil)))))))))))) which_ans
theorem sc_law_ask : FnScope ["what", "rule", "one", "two", "three", "e"] ["what", "rule", "one", "two", "three"] (defScope s_law_ask) := ⟨rfl, rfl, rfl, by decide +kernel, rfl, by decide +kernel, by decide +kernel⟩
theorem ok_law_ask (E : Env K mg) (o_gain : Ok P w K mg base 11 "gain" 3 F_gain) (o_best_cheat : OkK P w K mg base 12 "best_cheat" 3 ["high"] [.int 9] F_best_cheat) (o_safe : OkK P w K mg base 13 "safe" 2 ["many", "high"] [.int 2, .int 3] F_safe) (o_safe_for : OkK P w K mg base 13 "safe_for" 3 ["high"] [.int 3] F_safe_for) (o_law_which : WhichOk P w K mg base 1 "_law_which" whichCs whichAns) (F : DefF K mg "_law_ask" s_law_ask) : Ok P w K mg base 14 "_law_ask" 5 F_law_ask :=
  ok_of F sc_law_ask (fun F => F.bindsN fun _ _ _ _ _ _ us hl => match us, hl with | [_, _, _, _, _], _ => rfl) fun cdv A outer s H E' hcv hr tk hp hu hv =>
  (jss_one (js_try (i := 5) (k := 1) rfl rfl sc_law_ask.nd rfl rfl E.x_MarketError.mg (by rfl) tk E.exm o_law_which (hr.mono (by decide)) (by rfl) (fun W pn xe tk hp => (jss_cons (js_if (jt_cmp (o_eq hu) (je_var 0) je_int (nomark _)) (jss_one (js_ret (je_callO o_gain (hr.mono (by decide)) tk (by rfl) (MA.len1 (MA.len1 (MA.len1 MA.len0))) (ja_cons (je_var 1) (ja_cons (je_var 2) (ja_cons (je_var 3) ja_nil)))))) jss_nil)
  (jss_cons (js_if (jt_cmp (o_eq hu) (je_var 0) je_int (nomark _)) (jss_one (js_ret (je_callK o_best_cheat (hr.mono (by decide)) tk (by rfl) (MA.len1 (MA.len1 (MA.len1 MA.len0))) (ja_cons (je_var 1) (ja_cons (je_var 2) (ja_cons (je_var 3) ja_nil))) (jk_cons (je_var 4) jk_nil)))) jss_nil)
  (jss_one (js_ret (je_if (jt_cmp (o_eq hu) (je_var 0) je_int (nomark _)) (je_callK o_safe (hr.mono (by decide)) tk (by rfl) (MA.len1 (MA.len1 MA.len0)) (ja_cons (je_var 1) (ja_cons (je_var 3) ja_nil)) (jk_cons (je_var 2) (jk_cons (je_var 4) jk_nil))) (je_callK o_safe_for (hr.mono (by decide)) tk (by rfl) (MA.len1 (MA.len1 (MA.len1 MA.len0))) (ja_cons (je_var 1) (ja_cons (je_var 2) (ja_cons (je_var 3) ja_nil))) (jk_cons (je_var 4) jk_nil))))))))))
theorem sc_law_kinds_refused : FnScope ["auction", "trade", "truth", "orders_there", "kind", "top", "count", "sides", "what", "one"] ["auction", "trade", "truth", "orders_there"] (defScope s_law_kinds_refused) := ⟨rfl, rfl, rfl, by decide +kernel, rfl, by decide +kernel, by decide +kernel⟩
theorem ok_law_kinds_refused (E : Env K mg) (o_law_ask : Ok P w K mg base 14 "_law_ask" 5 F_law_ask) (F : DefF K mg "_law_kinds_refused" s_law_kinds_refused) : Ok P w K mg base 15 "_law_kinds_refused" 4 F_law_kinds_refused :=
  ok_of F sc_law_kinds_refused (fun F => F.bindsN fun _ _ _ _ _ _ us hl => match us, hl with | [_, _, _, _], _ => rfl) fun cdv A outer s H E' hcv hr tk hp hu hv =>
  (jss_cons (js_for hp rfl (ji_seq (je_dat (jn_lst (ja_cons je_non (ja_cons je_str (ja_cons je_str (ja_cons je_int (ja_cons (je_tup (ja_cons je_str ja_nil)) ja_nil)))))))) (jg_name (i := 4) sc_law_kinds_refused.nd) (jss_cons (js_if (jt_cmp (o_ne hu) (je_dat (jn_lc (own := [("what", 8), ("one", 9)]) rfl sc_law_kinds_refused.nd (ji_seq (je_tup (ja_cons (je_tup (ja_cons je_int (ja_cons (je_var 2) ja_nil))) (ja_cons (je_tup (ja_cons je_int (ja_cons je_non ja_nil))) ja_nil)))) (blkOk_by (N := ["auction", "trade", "truth", "orders_there", "kind", "top", "count", "sides", "what", "one"]) (sc := defScope s_law_kinds_refused) (by decide +kernel)) (fun _ _ _ _ _ => (jg_tup (by rfl) (jgs_cons (jg_name (i := 8) sc_law_kinds_refused.nd) (jgs_cons (jg_name (i := 9) sc_law_kinds_refused.nd) jgs_nil)))) (fun _ _ _ _ _ => jts_nil) (fun _ _ _ _ _ => (je_callO o_law_ask (hr.mono (by decide)) takesN (by rfl) (MA.len1 (MA.len1 (MA.len1 (MA.len1 (MA.len1 MA.len0))))) (ja_cons (je_var 8) (ja_cons (je_var 0) (ja_cons (je_var 9) (ja_cons (je_var 4) (ja_cons je_non ja_nil))))))))) (je_bin o_mul (je_dat (jn_lst (ja_cons (je_tup (ja_cons je_str (ja_cons je_int ja_nil))) ja_nil))) je_int) (nomark _)) (jss_one (js_ret je_bl)) jss_nil)
  (jss_one (js_if (jt_cmp (o_ne hu) (je_callO o_law_ask (hr.mono (by decide)) tk (by rfl) (MA.len1 (MA.len1 (MA.len1 (MA.len1 (MA.len1 MA.len0))))) (ja_cons je_int (ja_cons (je_var 1) (ja_cons je_non (ja_cons (je_var 4) (ja_cons je_non ja_nil)))))) (je_tup (ja_cons je_str (ja_cons je_int ja_nil))) (nomark _)) (jss_one (js_ret je_bl)) jss_nil))))
  (jss_cons (js_if (jt_cmp (o_ne hu) (je_callO o_law_ask (hr.mono (by decide)) tk (by rfl) (MA.len1 (MA.len1 (MA.len1 (MA.len1 (MA.len1 MA.len0))))) (ja_cons je_int (ja_cons (je_var 1) (ja_cons (je_var 3) (ja_cons je_str (ja_cons je_int ja_nil)))))) (je_tup (ja_cons je_str (ja_cons je_int ja_nil))) (nomark _)) (jss_one (js_ret je_bl)) jss_nil)
  (jss_cons (js_if (jt_cmp (o_ne hu) (je_callO o_law_ask (hr.mono (by decide)) tk (by rfl) (MA.len1 (MA.len1 (MA.len1 (MA.len1 (MA.len1 MA.len0))))) (ja_cons je_int (ja_cons (je_var 1) (ja_cons (je_tup (ja_cons je_str ja_nil)) (ja_cons je_str (ja_cons je_int ja_nil)))))) (je_tup (ja_cons je_str (ja_cons je_int ja_nil))) (nomark _)) (jss_one (js_ret je_bl)) jss_nil)
  (jss_cons (js_for hp rfl (ji_seq (je_dat (jn_lst (ja_cons je_non (ja_cons (je_un o_neg je_int) (ja_cons je_int (ja_cons je_str (ja_cons je_bl ja_nil)))))))) (jg_name (i := 5) sc_law_kinds_refused.nd) (jss_one (js_if (jt_cmp (o_ne hu) (je_callO o_law_ask (hr.mono (by decide)) tk (by rfl) (MA.len1 (MA.len1 (MA.len1 (MA.len1 (MA.len1 MA.len0))))) (ja_cons je_int (ja_cons (je_var 0) (ja_cons (je_var 2) (ja_cons je_str (ja_cons (je_var 5) ja_nil)))))) (je_tup (ja_cons je_str (ja_cons je_int ja_nil))) (nomark _)) (jss_one (js_ret je_bl)) jss_nil)))
  (jss_cons (js_for hp rfl (ji_seq (je_dat (jn_lst (ja_cons je_non (ja_cons je_int (ja_cons je_int (ja_cons je_str (ja_cons je_bl ja_nil)))))))) (jg_name (i := 6) sc_law_kinds_refused.nd) (jss_one (js_if (jt_cmp (o_ne hu) (je_callO o_law_ask (hr.mono (by decide)) tk (by rfl) (MA.len1 (MA.len1 (MA.len1 (MA.len1 (MA.len1 MA.len0))))) (ja_cons je_int (ja_cons (je_var 0) (ja_cons (je_var 6) (ja_cons je_str (ja_cons je_non ja_nil)))))) (je_tup (ja_cons je_str (ja_cons je_int ja_nil))) (nomark _)) (jss_one (js_ret je_bl)) jss_nil)))
  (jss_cons (js_for hp rfl (ji_seq (je_dat (jn_lst (ja_cons je_non (ja_cons (je_tup ja_nil) (ja_cons (je_dat (jn_lst (ja_cons je_str ja_nil))) (ja_cons (je_bin o_mul (je_tup (ja_cons je_str ja_nil)) je_int) (ja_cons (je_tup (ja_cons je_str ja_nil)) (ja_cons (je_tup (ja_cons je_non ja_nil)) (ja_cons je_str ja_nil)))))))))) (jg_name (i := 7) sc_law_kinds_refused.nd) (jss_one (js_if (jt_cmp (o_ne hu) (je_callO o_law_ask (hr.mono (by decide)) tk (by rfl) (MA.len1 (MA.len1 (MA.len1 (MA.len1 (MA.len1 MA.len0))))) (ja_cons je_int (ja_cons (je_var 1) (ja_cons (je_var 7) (ja_cons je_str (ja_cons je_non ja_nil)))))) (je_tup (ja_cons je_str (ja_cons je_int ja_nil))) (nomark _)) (jss_one (js_ret je_bl)) jss_nil)))
  (jss_cons (js_if (jw_pt (jw_or (jt_cmp (o_ne hu) (je_callO o_law_ask (hr.mono (by decide)) tk (by rfl) (MA.len1 (MA.len1 (MA.len1 (MA.len1 (MA.len1 MA.len0))))) (ja_cons je_int (ja_cons (je_var 0) (ja_cons je_int (ja_cons je_str (ja_cons je_int ja_nil)))))) (je_tup (ja_cons je_str (ja_cons je_int ja_nil))) (nomark _)) (jw_or1 (jt_cmp (o_ne hu) (je_callO o_law_ask (hr.mono (by decide)) tk (by rfl) (MA.len1 (MA.len1 (MA.len1 (MA.len1 (MA.len1 MA.len0))))) (ja_cons je_int (ja_cons (je_var 1) (ja_cons (je_tup (ja_cons je_str ja_nil)) (ja_cons je_str (ja_cons (je_un o_neg je_int) ja_nil)))))) (je_tup (ja_cons je_str (ja_cons je_int ja_nil))) (nomark _))))) (jss_one (js_ret je_bl)) jss_nil)
  (jss_one (js_ret (je_and (je_cmp o_is (je_callO o_law_ask (hr.mono (by decide)) tk (by rfl) (MA.len1 (MA.len1 (MA.len1 (MA.len1 (MA.len1 MA.len0))))) (ja_cons je_int (ja_cons (je_var 0) (ja_cons je_int (ja_cons je_str (ja_cons je_int ja_nil)))))) je_non (nomark _)) (je_one (je_cmp o_is (je_callO o_law_ask (hr.mono (by decide)) tk (by rfl) (MA.len1 (MA.len1 (MA.len1 (MA.len1 (MA.len1 MA.len0))))) (ja_cons je_int (ja_cons (je_var 1) (ja_cons (je_bin o_mul (je_tup (ja_cons je_str ja_nil)) je_int) (ja_cons je_str (ja_cons je_int ja_nil)))))) je_non (nomark _)))))))))))))
theorem sc_law : FnScope ["script", "town", "some", "bad", "auction", "trade", "truth", "orders_there", "what"] ["script"] (defScope s_law) := ⟨rfl, rfl, rfl, by decide +kernel, rfl, by decide +kernel, by decide +kernel⟩
theorem ok_law (E : Env K mg) (o_law_ask : Ok P w K mg base 14 "_law_ask" 5 F_law_ask) (o_law_pick : Ok P w K mg base 4 "_law_pick" 3 F_law_pick) (o_is_cheat : Ok P w K mg base 7 "is_cheat" 3 F_is_cheat) (o_law_kinds_refused : Ok P w K mg base 15 "_law_kinds_refused" 4 F_law_kinds_refused) {fd : FuncData} (F : FunD K "law" "law" (defArgs s_law) (defBody s_law) (defScope s_law) [] [] (He.ga K "law") fd) : FnOk P w K mg base (L2N.CX P w) 16 (He.ga K "law") fd ["script"] (spF K mg 1 F_law) :=
  fnD_ok F sc_law fun cdv A outer s H E' hcv hr tk hp hu hv =>
  (jss_cons (js_setN (i := 1) sc_law.nd (jn_lst ja_nil))
  (jss_cons (js_par (parG (is := [4, 5]) (n := 2) rfl sc_law.nd (.cons rfl (by first | exact Or.inl rfl | exact Or.inr rfl) (by first | exact .inl rfl | exact .inr rfl) rfl (.cons rfl (by first | exact Or.inl rfl | exact Or.inr rfl) (by first | exact .inl rfl | exact .inr rfl) rfl .nil)) rfl (by decide)) (jx_d (je_tup (ja_cons je_str (ja_cons je_int (ja_cons je_int (ja_cons je_str (ja_cons je_str ja_nil)))))) (jx_d (je_tup (ja_cons je_str (ja_cons je_str (ja_cons je_str ja_nil)))) jx_nil)))
  (jss_cons (js_if (jt_cmp (o_ne hu) (je_dat (jn_lc (own := [("what", 8)]) rfl sc_law.nd (ji_range1 (by rfl) E.f_range (ja_cons je_int ja_nil)) (blkOk_by (N := ["script", "town", "some", "bad", "auction", "trade", "truth", "orders_there", "what"]) (sc := defScope s_law) (by decide +kernel)) (fun _ _ _ _ _ => (jg_name (i := 8) sc_law.nd)) (fun _ _ _ _ _ => jts_nil) (fun _ _ _ _ _ => (je_callO o_law_ask (hr.mono (by decide)) takesN (by rfl) (MA.len1 (MA.len1 (MA.len1 (MA.len1 (MA.len1 MA.len0))))) (ja_cons (je_var 8) (ja_cons je_non (ja_cons je_non (ja_cons je_non (ja_cons je_non ja_nil))))))))) (je_bin o_mul (je_dat (jn_lst (ja_cons (je_tup (ja_cons je_str (ja_cons je_int ja_nil))) ja_nil))) je_int) (nomark _)) (jss_one (js_ret je_bl)) jss_nil)
  (jss_cons (js_if (jt_cmp (o_ne hu) (je_callO o_law_ask (hr.mono (by decide)) tk (by rfl) (MA.len1 (MA.len1 (MA.len1 (MA.len1 (MA.len1 MA.len0))))) (ja_cons je_int (ja_cons (je_var 5) (ja_cons je_non (ja_cons je_non (ja_cons je_non ja_nil)))))) (je_tup (ja_cons je_str (ja_cons je_int ja_nil))) (nomark _)) (jss_one (js_ret je_bl)) jss_nil)
  (jss_cons (js_if (jt_cmp (o_ne hu) (je_callO o_law_ask (hr.mono (by decide)) tk (by rfl) (MA.len1 (MA.len1 (MA.len1 (MA.len1 (MA.len1 MA.len0))))) (ja_cons je_int (ja_cons (je_var 4) (ja_cons je_non (ja_cons je_non (ja_cons je_non ja_nil)))))) (je_tup (ja_cons je_str (ja_cons je_int ja_nil))) (nomark _)) (jss_one (js_ret je_bl)) jss_nil)
  (jss_cons (js_par (par2 (i := 6) (j := 7) rfl sc_law.nd (by decide)) (jx_d (je_dat (jn_lst (ja_cons (je_tup (ja_cons je_str (ja_cons je_int ja_nil))) (ja_cons (je_tup (ja_cons je_str (ja_cons je_int ja_nil))) ja_nil)))) (jx_d (je_dat (jn_lst (ja_cons (je_tup (ja_cons je_str (ja_cons je_str (ja_cons je_int ja_nil)))) (ja_cons (je_tup (ja_cons je_str (ja_cons je_str (ja_cons je_int ja_nil)))) ja_nil)))) jx_nil)))
  (jss_cons (js_if (jt_cmp (o_ne hu) (je_dat (jn_lc (own := [("what", 8)]) rfl sc_law.nd (ji_range1 (by rfl) E.f_range (ja_cons je_int ja_nil)) (blkOk_by (N := ["script", "town", "some", "bad", "auction", "trade", "truth", "orders_there", "what"]) (sc := defScope s_law) (by decide +kernel)) (fun _ _ _ _ _ => (jg_name (i := 8) sc_law.nd)) (fun _ _ _ _ _ => jts_nil) (fun _ _ _ _ _ => (je_callO o_law_ask (hr.mono (by decide)) takesN (by rfl) (MA.len1 (MA.len1 (MA.len1 (MA.len1 (MA.len1 MA.len0))))) (ja_cons (je_var 8) (ja_cons (je_var 4) (ja_cons (je_dat (jn_lst (ja_cons (je_tup (ja_cons je_str (ja_cons je_int (ja_cons je_int ja_nil)))) ja_nil))) (ja_cons je_non (ja_cons je_non ja_nil))))))))) (je_bin o_mul (je_dat (jn_lst (ja_cons (je_tup (ja_cons je_str (ja_cons je_int ja_nil))) ja_nil))) je_int) (nomark _)) (jss_one (js_ret je_bl)) jss_nil)
  (jss_cons (js_setN (i := 2) sc_law.nd (jn_lst (ja_cons je_non (ja_cons je_int (ja_cons (je_tup ja_nil) (ja_cons (je_tup (ja_cons je_str ja_nil)) (ja_cons (je_tup (ja_cons je_str (ja_cons je_str ja_nil))) (ja_cons (je_tup (ja_cons je_str (ja_cons je_str (ja_cons je_int ja_nil)))) (ja_cons (je_tup (ja_cons je_str (ja_cons je_str (ja_cons je_int ja_nil)))) (ja_cons (je_tup (ja_cons je_str (ja_cons je_str (ja_cons je_bl ja_nil)))) (ja_cons (je_dat (jn_lst (ja_cons je_str (ja_cons je_str (ja_cons je_int ja_nil))))) ja_nil)))))))))))
  (jss_cons (js_expr (je_meth (i := 2) PySem.F.plainAttrs_list PySem.F.slot_list_extend PySem.F.type_list_extend m_extend (ja_cons (je_dat (jn_lst (ja_cons (je_tup (ja_cons je_str (ja_cons je_str (ja_cons je_int (ja_cons je_int ja_nil))))) (ja_cons (je_tup (ja_cons je_str (ja_cons je_str (ja_cons je_int ja_nil)))) (ja_cons (je_tup (ja_cons je_str (ja_cons je_str (ja_cons je_int (ja_cons je_str (ja_cons je_int ja_nil)))))) (ja_cons (je_tup (ja_cons je_str (ja_cons je_str (ja_cons je_int (ja_cons je_str (ja_cons je_int ja_nil)))))) ja_nil)))))) ja_nil)))
  (jss_cons (js_expr (je_meth (i := 2) PySem.F.plainAttrs_list PySem.F.slot_list_extend PySem.F.type_list_extend m_extend (ja_cons (je_dat (jn_lst (ja_cons (je_tup (ja_cons je_str (ja_cons je_str (ja_cons je_int (ja_cons je_str ja_nil))))) (ja_cons (je_tup (ja_cons je_str (ja_cons je_str (ja_cons je_int (ja_cons je_str (ja_cons je_int ja_nil)))))) (ja_cons (je_tup (ja_cons je_str (ja_cons je_str (ja_cons (je_un o_neg je_int) (ja_cons je_str (ja_cons je_int ja_nil)))))) (ja_cons (je_tup (ja_cons je_str ja_nil)) (ja_cons (je_tup (ja_cons je_str (ja_cons (je_un o_neg je_int) ja_nil))) ja_nil))))))) ja_nil)))
  (jss_cons (js_expr (je_meth (i := 2) PySem.F.plainAttrs_list PySem.F.slot_list_extend PySem.F.type_list_extend m_extend (ja_cons (je_dat (jn_lst (ja_cons (je_tup (ja_cons je_str (ja_cons je_str (ja_cons je_int ja_nil)))) (ja_cons (je_tup (ja_cons je_str (ja_cons je_str (ja_cons je_int ja_nil)))) ja_nil)))) ja_nil)))
  (jss_cons (js_set (i := 3) sc_law.nd (je_callO o_law_pick (hr.mono (by decide)) tk (by rfl) (MA.len1 (MA.len1 (MA.len1 MA.len0))) (ja_cons (je_var 0) (ja_cons (je_var 1) (ja_cons (je_frz 2) ja_nil)))))
  (jss_cons (js_if (jw_pt (jw_or (jt_cmp (o_ne hu) (je_callO o_law_ask (hr.mono (by decide)) tk (by rfl) (MA.len1 (MA.len1 (MA.len1 (MA.len1 (MA.len1 MA.len0))))) (ja_cons je_int (ja_cons (je_var 4) (ja_cons (je_var 6) (ja_cons (je_var 3) (ja_cons je_non ja_nil)))))) (je_tup (ja_cons je_str (ja_cons je_int ja_nil))) (nomark _)) (jw_or1 (jt_cmp o_isnot (je_callO o_is_cheat (hr.mono (by decide)) tk (by rfl) (MA.len1 (MA.len1 (MA.len1 MA.len0))) (ja_cons (je_var 4) (ja_cons (je_var 6) (ja_cons (je_var 3) ja_nil)))) je_bl (nomark _))))) (jss_one (js_ret je_bl)) jss_nil)
  (jss_cons (js_if (jt_cmp (o_ne hu) (je_callO o_law_ask (hr.mono (by decide)) tk (by rfl) (MA.len1 (MA.len1 (MA.len1 (MA.len1 (MA.len1 MA.len0))))) (ja_cons je_int (ja_cons (je_var 5) (ja_cons (je_var 7) (ja_cons (je_tup (ja_cons je_str (ja_cons je_int ja_nil))) (ja_cons je_non ja_nil)))))) (je_tup (ja_cons je_str (ja_cons je_int ja_nil))) (nomark _)) (jss_one (js_ret je_bl)) jss_nil)
  (jss_cons (js_if (jt_cmp o_isnot (je_callO o_is_cheat (hr.mono (by decide)) tk (by rfl) (MA.len1 (MA.len1 (MA.len1 MA.len0))) (ja_cons (je_var 4) (ja_cons (je_var 6) (ja_cons (je_tup (ja_cons je_str (ja_cons je_int ja_nil))) ja_nil)))) je_bl (nomark _)) (jss_one (js_ret je_bl)) jss_nil)
  (jss_one (js_ret (je_callO o_law_kinds_refused (hr.mono (by decide)) tk (by rfl) (MA.len1 (MA.len1 (MA.len1 (MA.len1 MA.len0)))) (ja_cons (je_var 4) (ja_cons (je_var 5) (ja_cons (je_var 6) (ja_cons (je_var 7) ja_nil))))))))))))))))))))))
end
theorem facts {l : PySem.W.OpenLaw} {w : World} {K : PySem.W.Frag} {h : Heap} {mg : Str → Option Value} {f : Addr} (X : K.In h) (G : h.Ns mainGlobals mg) (hfa : mg ("law" : Str) = some (.ref f)) (cx : He.SaysX fa fn [] tf exB w h K) :
    LamX.LawAtS l w K (L2N.CX l.prog w) 16 63 "script" mg f h := by
  have c := cx.t.d
  have mx : exB K = true := cx.more
  have mx0 := (Bool.and_eq_true_iff.mp mx).1
  have mr0 := (Bool.and_eq_true_iff.mp mx).2
  have mx1 := (Bool.and_eq_true_iff.mp mr0).1
  have mr1 := (Bool.and_eq_true_iff.mp mr0).2
  have mx2 := (Bool.and_eq_true_iff.mp mr1).1
  have mr2 := (Bool.and_eq_true_iff.mp mr1).2
  have mx3 := (Bool.and_eq_true_iff.mp mr2).1
  have mr3 := (Bool.and_eq_true_iff.mp mr2).2
  have mx4 := (Bool.and_eq_true_iff.mp mr3).1
  have mr4 := (Bool.and_eq_true_iff.mp mr3).2
  have mx5 := mr4
  have x_NoRule : ExOk K mg "NoRule" := exOk X G (c.fact 75 (f := .glo "NoRule") rfl) (c.fact 76 (f := .exc "NoRule") rfl)
  have x_NoBids : ExOk K mg "NoBids" := exOk X G (c.fact 77 (f := .glo "NoBids") rfl) (c.fact 78 (f := .exc "NoBids") rfl)
  have x_NoCheat : ExOk K mg "NoCheat" := exOk X G (c.fact 79 (f := .glo "NoCheat") rfl) (c.fact 80 (f := .exc "NoCheat") rfl)
  have x_NoCount : ExOk K mg "NoCount" := exOk X G (c.fact 81 (f := .glo "NoCount") rfl) (c.fact 82 (f := .exc "NoCount") rfl)
  have x_NoNumber : ExOk K mg "NoNumber" := exOk X G (c.fact 83 (f := .glo "NoNumber") rfl) (c.fact 84 (f := .exc "NoNumber") rfl)
  have x_NoTrader : ExOk K mg "NoTrader" := exOk X G (c.fact 85 (f := .glo "NoTrader") rfl) (c.fact 86 (f := .exc "NoTrader") rfl)
  have x_TooMany : ExOk K mg "TooMany" := exOk X G (c.fact 87 (f := .glo "TooMany") rfl) (c.fact 88 (f := .exc "TooMany") rfl)
  have x_NoPlan : ExOk K mg "NoPlan" := exOk X G (c.fact 89 (f := .glo "NoPlan") rfl) (c.fact 90 (f := .exc "NoPlan") rfl)
  have x_NoSplit : ExOk K mg "NoSplit" := exOk X G (c.fact 91 (f := .glo "NoSplit") rfl) (c.fact 92 (f := .exc "NoSplit") rfl)
  have x_NoWishes : ExOk K mg "NoWishes" := exOk X G (c.fact 93 (f := .glo "NoWishes") rfl) (c.fact 94 (f := .exc "NoWishes") rfl)
  have x_NoSwap : ExOk K mg "NoSwap" := exOk X G (c.fact 95 (f := .glo "NoSwap") rfl) (c.fact 96 (f := .exc "NoSwap") rfl)
  have x_NoWay : ExOk K mg "NoWay" := exOk X G (c.fact 97 (f := .glo "NoWay") rfl) (c.fact 98 (f := .exc "NoWay") rfl)
  have x_NoTape : ExOk K mg "NoTape" := exOk X G (c.fact 99 (f := .glo "NoTape") rfl) (c.fact 100 (f := .exc "NoTape") rfl)
  have x_NoText : ExOk K mg "NoText" := exOk X G (c.fact 101 (f := .glo "NoText") rfl) (c.fact 102 (f := .exc "NoText") rfl)
  have x_NoPurses : ExOk K mg "NoPurses" := exOk X G (c.fact 103 (f := .glo "NoPurses") rfl) (c.fact 104 (f := .exc "NoPurses") rfl)
  have x_NotOpen : ExOk K mg "NotOpen" := exOk X G (c.fact 105 (f := .glo "NotOpen") rfl) (c.fact 106 (f := .exc "NotOpen") rfl)
  have x_StillOpen : ExOk K mg "StillOpen" := exOk X G (c.fact 107 (f := .glo "StillOpen") rfl) (c.fact 108 (f := .exc "StillOpen") rfl)
  have x_Nothing : ExOk K mg "Nothing" := exOk X G (c.fact 109 (f := .glo "Nothing") rfl) (c.fact 110 (f := .exc "Nothing") rfl)
  have x_MarketError : ExOk K mg "MarketError" := exOk X G (c.fact 111 (f := .glo "MarketError") rfl) (c.fact 112 (f := .exc "MarketError") rfl)
  have n_subsets := c.fact 122 (f := .free "subsets") rfl
  have g_standing := c.fact 22 (f := .glo "standing") rfl
  have htb : ∀ p ∈ tbs K, p = ((He.cT K ("standing", none)).2, ("standing" : Str) ++ ".<locals>.<lambda>") := fun p hp => by
    obtain ⟨x, hx, hgl, rfl⟩ := tbs_in hp
    unfold lamDefs at hx
    simp only [List.mem_cons, List.not_mem_nil, or_false] at hx
    rcases hx with rfl | rfl
    · rfl
    · exact absurd hgl (glo_free n_subsets)
  have E : Env K mg := ⟨(He.free_ok X G (c.fact 60 (f := .free "isinstance") rfl)), (He.free_ok X G (c.fact 61 (f := .free "int") rfl)), (He.free_ok X G (c.fact 62 (f := .free "bool") rfl)), (He.free_ok X G (c.fact 63 (f := .free "abs") rfl)), (He.free_ok X G (c.fact 64 (f := .free "str") rfl)), (He.free_ok X G (c.fact 65 (f := .free "len") rfl)), (He.free_ok X G (c.fact 66 (f := .free "all") rfl)), (He.free_ok X G (c.fact 67 (f := .free "tuple") rfl)), (He.free_ok X G (c.fact 68 (f := .free "list") rfl)), (He.free_ok X G (c.fact 69 (f := .free "sorted") rfl)), (He.free_ok X G (c.fact 70 (f := .free "enumerate") rfl)), (He.free_ok X G (c.fact 71 (f := .free "min") rfl)), (He.free_ok X G (c.fact 72 (f := .free "zip") rfl)), (He.free_ok X G (c.fact 73 (f := .free "range") rfl)), (He.free_ok X G (c.fact 74 (f := .free "ValueError") rfl)), (x_NoRule), (x_NoBids), (x_NoCheat), (x_NoCount), (x_NoNumber), (x_NoTrader), (x_TooMany), (x_NoPlan), (x_NoSplit), (x_NoWishes), (x_NoSwap), (x_NoWay), (x_NoTape), (x_NoText), (x_NoPurses), (x_NotOpen), (x_StillOpen), (x_Nothing), (x_MarketError), (He.int_ok X G (c.fact 113 (f := .int "HIGH" 20) rfl)), (He.str_ok X G (c.fact 114 (f := .str "LETTERS_rules" "abcdefghijklmnopqrstuvwxyz") rfl)), (⟨He.glo_ok X G (c.fact 115 (f := .glo "PAYS") rfl), mx0⟩), (⟨He.glo_ok X G (c.fact 116 (f := .glo "TIES") rfl), mx1⟩), (⟨He.glo_ok X G (c.fact 117 (f := .glo "PRICES") rfl), mx2⟩), (⟨He.glo_ok X G (c.fact 118 (f := .glo "SIDES") rfl), mx3⟩), (He.int_ok X G (c.fact 119 (f := .int "MOST" 6) rfl)), (⟨He.glo_ok X G (c.fact 120 (f := .glo "KINDS") rfl), mx4⟩), (He.str_ok X G (c.fact 121 (f := .str "LETTERS_cheats" "abcd") rfl)), (g_standing), (fun p hp _ => by rw [htb p hp]), (ask_all mx5), (fun cc hc => by
    unfold whichCs at hc
    simp only [List.mem_cons, List.not_mem_nil, or_false] at hc
    rcases hc with rfl | rfl | rfl | rfl | rfl | rfl | rfl | rfl | rfl | rfl | rfl | rfl | rfl | rfl | rfl | rfl | rfl | rfl
    · rw [x_NoRule.cls]; exact He.exm_ok (c.fact 123 (f := .exm "NoRule" "MarketError" true) rfl)
    · rw [x_NoBids.cls]; exact He.exm_ok (c.fact 124 (f := .exm "NoBids" "MarketError" true) rfl)
    · rw [x_NoNumber.cls]; exact He.exm_ok (c.fact 125 (f := .exm "NoNumber" "MarketError" true) rfl)
    · rw [x_NoTrader.cls]; exact He.exm_ok (c.fact 126 (f := .exm "NoTrader" "MarketError" true) rfl)
    · rw [x_NoCheat.cls]; exact He.exm_ok (c.fact 127 (f := .exm "NoCheat" "MarketError" true) rfl)
    · rw [x_NoCount.cls]; exact He.exm_ok (c.fact 128 (f := .exm "NoCount" "MarketError" true) rfl)
    · rw [x_TooMany.cls]; exact He.exm_ok (c.fact 129 (f := .exm "TooMany" "MarketError" true) rfl)
    · rw [x_NoPlan.cls]; exact He.exm_ok (c.fact 130 (f := .exm "NoPlan" "MarketError" true) rfl)
    · rw [x_NoSplit.cls]; exact He.exm_ok (c.fact 131 (f := .exm "NoSplit" "MarketError" true) rfl)
    · rw [x_NoWishes.cls]; exact He.exm_ok (c.fact 132 (f := .exm "NoWishes" "MarketError" true) rfl)
    · rw [x_NoSwap.cls]; exact He.exm_ok (c.fact 133 (f := .exm "NoSwap" "MarketError" true) rfl)
    · rw [x_NoWay.cls]; exact He.exm_ok (c.fact 134 (f := .exm "NoWay" "MarketError" true) rfl)
    · rw [x_NoTape.cls]; exact He.exm_ok (c.fact 135 (f := .exm "NoTape" "MarketError" true) rfl)
    · rw [x_NoText.cls]; exact He.exm_ok (c.fact 136 (f := .exm "NoText" "MarketError" true) rfl)
    · rw [x_NoPurses.cls]; exact He.exm_ok (c.fact 137 (f := .exm "NoPurses" "MarketError" true) rfl)
    · rw [x_NotOpen.cls]; exact He.exm_ok (c.fact 138 (f := .exm "NotOpen" "MarketError" true) rfl)
    · rw [x_StillOpen.cls]; exact He.exm_ok (c.fact 139 (f := .exm "StillOpen" "MarketError" true) rfl)
    · rw [x_Nothing.cls]; exact He.exm_ok (c.fact 140 (f := .exm "Nothing" "MarketError" true) rfl))⟩
  have D_is_whole : DefF K mg "is_whole" s_is_whole := ⟨c.def_ 0 (d := d_is_whole) rfl, He.glo_ok X G (c.fact 0 (f := .glo "is_whole") rfl)⟩
  have D_common : DefF K mg "common" s_common := ⟨c.def_ 1 (d := d_common) rfl, He.glo_ok X G (c.fact 1 (f := .glo "common") rfl)⟩
  have D_made_of : DefF K mg "made_of" s_made_of := ⟨c.def_ 2 (d := d_made_of) rfl, He.glo_ok X G (c.fact 2 (f := .glo "made_of") rfl)⟩
  have D_sum_of_two : DefF K mg "sum_of_two" s_sum_of_two := ⟨c.def_ 3 (d := d_sum_of_two) rfl, He.glo_ok X G (c.fact 3 (f := .glo "sum_of_two") rfl)⟩
  have D_minus_of : DefF K mg "minus_of" s_minus_of := ⟨c.def_ 4 (d := d_minus_of) rfl, He.glo_ok X G (c.fact 4 (f := .glo "minus_of") rfl)⟩
  have D_order_of : DefF K mg "order_of" s_order_of := ⟨c.def_ 5 (d := d_order_of) rfl, He.glo_ok X G (c.fact 5 (f := .glo "order_of") rfl)⟩
  have D_whole : DefF K mg "whole" s_whole := ⟨c.def_ 6 (d := d_whole) rfl, He.glo_ok X G (c.fact 6 (f := .glo "whole") rfl)⟩
  have D_half : DefF K mg "half" s_half := ⟨c.def_ 7 (d := d_half) rfl, He.glo_ok X G (c.fact 7 (f := .glo "half") rfl)⟩
  have D_sum_of_all : DefF K mg "sum_of_all" s_sum_of_all := ⟨c.def_ 8 (d := d_sum_of_all) rfl, He.glo_ok X G (c.fact 8 (f := .glo "sum_of_all") rfl)⟩
  have D_is_among : DefF K mg "is_among" s_is_among := ⟨c.def_ 9 (d := d_is_among) rfl, He.glo_ok X G (c.fact 9 (f := .glo "is_among") rfl)⟩
  have D_is_number : DefF K mg "is_number" s_is_number := ⟨c.def_ 10 (d := d_is_number) rfl, He.glo_ok X G (c.fact 10 (f := .glo "is_number") rfl)⟩
  have D_is_trader : DefF K mg "is_trader" s_is_trader := ⟨c.def_ 11 (d := d_is_trader) rfl, He.glo_ok X G (c.fact 11 (f := .glo "is_trader") rfl)⟩
  have D_is_auction : DefF K mg "is_auction" s_is_auction := ⟨c.def_ 12 (d := d_is_auction) rfl, He.glo_ok X G (c.fact 12 (f := .glo "is_auction") rfl)⟩
  have D_is_exchange : DefF K mg "is_exchange" s_is_exchange := ⟨c.def_ 13 (d := d_is_exchange) rfl, He.glo_ok X G (c.fact 13 (f := .glo "is_exchange") rfl)⟩
  have D_is_rule : DefF K mg "is_rule" s_is_rule := ⟨c.def_ 14 (d := d_is_rule) rfl, He.glo_ok X G (c.fact 14 (f := .glo "is_rule") rfl)⟩
  have D_need_rule : DefF K mg "need_rule" s_need_rule := ⟨c.def_ 15 (d := d_need_rule) rfl, He.glo_ok X G (c.fact 15 (f := .glo "need_rule") rfl)⟩
  have D_need_auction : DefF K mg "need_auction" s_need_auction := ⟨c.def_ 16 (d := d_need_auction) rfl, He.glo_ok X G (c.fact 16 (f := .glo "need_auction") rfl)⟩
  have D_need_exchange : DefF K mg "need_exchange" s_need_exchange := ⟨c.def_ 17 (d := d_need_exchange) rfl, He.glo_ok X G (c.fact 17 (f := .glo "need_exchange") rfl)⟩
  have D_is_bid : DefF K mg "is_bid" s_is_bid := ⟨c.def_ 18 (d := d_is_bid) rfl, He.glo_ok X G (c.fact 18 (f := .glo "is_bid") rfl)⟩
  have D_good_bids : DefF K mg "good_bids" s_good_bids := ⟨c.def_ 19 (d := d_good_bids) rfl, He.glo_ok X G (c.fact 19 (f := .glo "good_bids") rfl)⟩
  have D_need_bids : DefF K mg "need_bids" s_need_bids := ⟨c.def_ 20 (d := d_need_bids) rfl, He.glo_ok X G (c.fact 20 (f := .glo "need_bids") rfl)⟩
  have D_need_sale : DefF K mg "need_sale" s_need_sale := ⟨c.def_ 21 (d := d_need_sale) rfl, He.glo_ok X G (c.fact 21 (f := .glo "need_sale") rfl)⟩
  have D_standing : DefF K mg "standing" s_standing := ⟨c.def_ 22 (d := d_standing) rfl, He.glo_ok X G (c.fact 22 (f := .glo "standing") rfl)⟩
  have D_winners_of : DefF K mg "winners_of" s_winners_of := ⟨c.def_ 23 (d := d_winners_of) rfl, He.glo_ok X G (c.fact 23 (f := .glo "winners_of") rfl)⟩
  have D_next_price : DefF K mg "next_price" s_next_price := ⟨c.def_ 24 (d := d_next_price) rfl, He.glo_ok X G (c.fact 24 (f := .glo "next_price") rfl)⟩
  have D_payments_of : DefF K mg "payments_of" s_payments_of := ⟨c.def_ 25 (d := d_payments_of) rfl, He.glo_ok X G (c.fact 25 (f := .glo "payments_of") rfl)⟩
  have D_sides_of : DefF K mg "sides_of" s_sides_of := ⟨c.def_ 26 (d := d_sides_of) rfl, He.glo_ok X G (c.fact 26 (f := .glo "sides_of") rfl)⟩
  have D_how_many : DefF K mg "how_many" s_how_many := ⟨c.def_ 27 (d := d_how_many) rfl, He.glo_ok X G (c.fact 27 (f := .glo "how_many") rfl)⟩
  have D_prices_of : DefF K mg "prices_of" s_prices_of := ⟨c.def_ 28 (d := d_prices_of) rfl, He.glo_ok X G (c.fact 28 (f := .glo "prices_of") rfl)⟩
  have D_traded : DefF K mg "traded" s_traded := ⟨c.def_ 29 (d := d_traded) rfl, He.glo_ok X G (c.fact 29 (f := .glo "traded") rfl)⟩
  have D_sides_in : DefF K mg "sides_in" s_sides_in := ⟨c.def_ 30 (d := d_sides_in) rfl, He.glo_ok X G (c.fact 30 (f := .glo "sides_in") rfl)⟩
  have D_run_of : DefF K mg "run_of" s_run_of := ⟨c.def_ 31 (d := d_run_of) rfl, He.glo_ok X G (c.fact 31 (f := .glo "run_of") rfl)⟩
  have D_gain_of : DefF K mg "gain_of" s_gain_of := ⟨c.def_ 32 (d := d_gain_of) rfl, He.glo_ok X G (c.fact 32 (f := .glo "gain_of") rfl)⟩
  have D_taken_of : DefF K mg "taken_of" s_taken_of := ⟨c.def_ 33 (d := d_taken_of) rfl, He.glo_ok X G (c.fact 33 (f := .glo "taken_of") rfl)⟩
  have D_gains_of : DefF K mg "gains_of" s_gains_of := ⟨c.def_ 34 (d := d_gains_of) rfl, He.glo_ok X G (c.fact 34 (f := .glo "gains_of") rfl)⟩
  have D_is_kind : DefF K mg "is_kind" s_is_kind := ⟨c.def_ 35 (d := d_is_kind) rfl, He.glo_ok X G (c.fact 35 (f := .glo "is_kind") rfl)⟩
  have D_good_cheat : DefF K mg "good_cheat" s_good_cheat := ⟨c.def_ 36 (d := d_good_cheat) rfl, He.glo_ok X G (c.fact 36 (f := .glo "good_cheat") rfl)⟩
  have D_is_cheat : DefF K mg "is_cheat" s_is_cheat := ⟨c.def_ 37 (d := d_is_cheat) rfl, He.glo_ok X G (c.fact 37 (f := .glo "is_cheat") rfl)⟩
  have D_told_by_lies : DefF K mg "told_by_lies" s_told_by_lies := ⟨c.def_ 38 (d := d_told_by_lies) rfl, He.glo_ok X G (c.fact 38 (f := .glo "told_by_lies") rfl)⟩
  have D_told_by_names : DefF K mg "told_by_names" s_told_by_names := ⟨c.def_ 39 (d := d_told_by_names) rfl, He.glo_ok X G (c.fact 39 (f := .glo "told_by_names") rfl)⟩
  have D_told_by_shill : DefF K mg "told_by_shill" s_told_by_shill := ⟨c.def_ 40 (d := d_told_by_shill) rfl, He.glo_ok X G (c.fact 40 (f := .glo "told_by_shill") rfl)⟩
  have D_told_by : DefF K mg "told_by" s_told_by := ⟨c.def_ 41 (d := d_told_by) rfl, He.glo_ok X G (c.fact 41 (f := .glo "told_by") rfl)⟩
  have D_gain : DefF K mg "gain" s_gain := ⟨c.def_ 42 (d := d_gain) rfl, He.glo_ok X G (c.fact 42 (f := .glo "gain") rfl)⟩
  have D_all_cheats : DefF K mg "all_cheats" s_all_cheats := ⟨c.def_ 43 (d := d_all_cheats) rfl, He.glo_ok X G (c.fact 43 (f := .glo "all_cheats") rfl)⟩
  have D_best_of : DefF K mg "best_of" s_best_of := ⟨c.def_ 44 (d := d_best_of) rfl, He.glo_ok X G (c.fact 44 (f := .glo "best_of") rfl)⟩
  have D_need_kind : DefF K mg "need_kind" s_need_kind := ⟨c.def_ 45 (d := d_need_kind) rfl, He.glo_ok X G (c.fact 45 (f := .glo "need_kind") rfl)⟩
  have D_best_cheat : DefK K mg "best_cheat" s_best_cheat (([("high", 9)] : List (Str × Int)).map fun q => (q.1, V.int q.2)) := ⟨c.def_ 46 (d := d_best_cheat) rfl, He.glo_ok X G (c.fact 46 (f := .glo "best_cheat") rfl)⟩
  have D_all_rows : DefF K mg "all_rows" s_all_rows := ⟨c.def_ 47 (d := d_all_rows) rfl, He.glo_ok X G (c.fact 47 (f := .glo "all_rows") rfl)⟩
  have D_first_cheated : DefF K mg "first_cheated" s_first_cheated := ⟨c.def_ 48 (d := d_first_cheated) rfl, He.glo_ok X G (c.fact 48 (f := .glo "first_cheated") rfl)⟩
  have D_need_high : DefF K mg "need_high" s_need_high := ⟨c.def_ 49 (d := d_need_high) rfl, He.glo_ok X G (c.fact 49 (f := .glo "need_high") rfl)⟩
  have D_safe : DefK K mg "safe" s_safe (([("many", 2), ("high", 3)] : List (Str × Int)).map fun q => (q.1, V.int q.2)) := ⟨c.def_ 50 (d := d_safe) rfl, He.glo_ok X G (c.fact 50 (f := .glo "safe") rfl)⟩
  have D_safe_for : DefK K mg "safe_for" s_safe_for (([("high", 3)] : List (Str × Int)).map fun q => (q.1, V.int q.2)) := ⟨c.def_ 51 (d := d_safe_for) rfl, He.glo_ok X G (c.fact 51 (f := .glo "safe_for") rfl)⟩
  have D_law_cell_at : DefF K mg "_law_cell_at" s_law_cell_at := ⟨c.def_ 52 (d := d_law_cell_at) rfl, He.glo_ok X G (c.fact 52 (f := .glo "_law_cell_at") rfl)⟩
  have D_law_mixed : DefF K mg "_law_mixed" s_law_mixed := ⟨c.def_ 53 (d := d_law_mixed) rfl, He.glo_ok X G (c.fact 53 (f := .glo "_law_mixed") rfl)⟩
  have D_law_draw : DefF K mg "_law_draw" s_law_draw := ⟨c.def_ 54 (d := d_law_draw) rfl, He.glo_ok X G (c.fact 54 (f := .glo "_law_draw") rfl)⟩
  have D_law_pick : DefF K mg "_law_pick" s_law_pick := ⟨c.def_ 55 (d := d_law_pick) rfl, He.glo_ok X G (c.fact 55 (f := .glo "_law_pick") rfl)⟩
  have D_law_which : DefF K mg "_law_which" s_law_which := ⟨c.def_ 56 (d := d_law_which) rfl, He.glo_ok X G (c.fact 56 (f := .glo "_law_which") rfl)⟩
  have D_law_ask : DefF K mg "_law_ask" s_law_ask := ⟨c.def_ 57 (d := d_law_ask) rfl, He.glo_ok X G (c.fact 57 (f := .glo "_law_ask") rfl)⟩
  have D_law_kinds_refused : DefF K mg "_law_kinds_refused" s_law_kinds_refused := ⟨c.def_ 58 (d := d_law_kinds_refused) rfl, He.glo_ok X G (c.fact 58 (f := .glo "_law_kinds_refused") rfl)⟩
  have D_law : DefF K mg "law" s_law := ⟨c.def_ 59 (d := d_law) rfl, He.glo_ok X G (c.fact 59 (f := .glo "law") rfl)⟩
  have e := hfa.symm.trans D_law.mg
  cases e
  obtain ⟨fd, FL⟩ := D_law.fd
  have b := FunD.bindsA (ps := ["script"]) FL fun _ _ _ _ _ _ us hl => match us, hl with | [_], _ => rfl
  refine ⟨fd, tf.map (He.cT K), spLaw K, fun p hp => ?_, fun p hp => ?_, fun p hp => ?_, fun s v => b s [v] rfl, fun H a ns hl _ hT hS => ⟨a, ns, rfl, hS, hl, fun p hp => ?_, fun _ => rfl⟩, fun base _ _ TB => ?_⟩
  · obtain ⟨d, hd, rfl⟩ := List.mem_map.mp hp
    exact cx.empty d hd
  · obtain ⟨d, hd, rfl⟩ := List.mem_map.mp hp
    exact cx.out d hd
  · obtain ⟨d, hd, rfl⟩ := List.mem_map.mp hp
    exact PySem.W.codeHd_of_K X (cx.hd d hd)
  · rw [htb p hp]
    exact hT _ (List.mem_map.mpr ⟨("standing", none), List.mem_singleton.mpr rfl, rfl⟩)
  have o_is_whole : Ok l.prog w K mg base 1 "is_whole" 3 F_is_whole := ok_is_whole E D_is_whole
  have o_common : Ok l.prog w K mg base 1 "common" 2 F_common := ok_common E D_common
  have o_made_of : Ok l.prog w K mg base 2 "made_of" 2 F_made_of := ok_made_of E o_common D_made_of
  have o_sum_of_two : Ok l.prog w K mg base 3 "sum_of_two" 2 F_sum_of_two := ok_sum_of_two E o_made_of D_sum_of_two
  have o_minus_of : Ok l.prog w K mg base 3 "minus_of" 2 F_minus_of := ok_minus_of E o_made_of D_minus_of
  have o_order_of : Ok l.prog w K mg base 1 "order_of" 2 F_order_of := ok_order_of E D_order_of
  have o_whole : Ok l.prog w K mg base 1 "whole" 1 F_whole := ok_whole E D_whole
  have o_half : Ok l.prog w K mg base 3 "half" 1 F_half := ok_half E o_made_of D_half
  have o_sum_of_all : Ok l.prog w K mg base 4 "sum_of_all" 1 F_sum_of_all := ok_sum_of_all E o_sum_of_two D_sum_of_all
  have o_is_among : Ok l.prog w K mg base 1 "is_among" 2 F_is_among := ok_is_among E D_is_among
  have o_is_number : Ok l.prog w K mg base 2 "is_number" 1 F_is_number := ok_is_number E o_is_whole D_is_number
  have o_is_trader : Ok l.prog w K mg base 1 "is_trader" 1 F_is_trader := ok_is_trader E D_is_trader
  have o_is_auction : Ok l.prog w K mg base 3 "is_auction" 1 F_is_auction := ok_is_auction E o_is_among o_is_whole o_is_number D_is_auction
  have o_is_exchange : Ok l.prog w K mg base 2 "is_exchange" 1 F_is_exchange := ok_is_exchange E o_is_among D_is_exchange
  have o_is_rule : Ok l.prog w K mg base 4 "is_rule" 1 F_is_rule := ok_is_rule E o_is_auction o_is_exchange D_is_rule
  have o_need_rule : Ok l.prog w K mg base 5 "need_rule" 1 F_need_rule := ok_need_rule E o_is_rule D_need_rule
  have o_need_auction : Ok l.prog w K mg base 4 "need_auction" 1 F_need_auction := ok_need_auction E o_is_auction D_need_auction
  have o_need_exchange : Ok l.prog w K mg base 3 "need_exchange" 1 F_need_exchange := ok_need_exchange E o_is_exchange D_need_exchange
  have o_is_bid : Ok l.prog w K mg base 3 "is_bid" 2 F_is_bid := ok_is_bid E o_is_trader o_is_number o_is_among D_is_bid
  have o_good_bids : Ok l.prog w K mg base 4 "good_bids" 2 F_good_bids := ok_good_bids E o_is_bid D_good_bids
  have o_need_bids : Ok l.prog w K mg base 5 "need_bids" 2 F_need_bids := ok_need_bids E o_good_bids D_need_bids
  have o_need_sale : Ok l.prog w K mg base 6 "need_sale" 2 F_need_sale := ok_need_sale E o_need_rule o_need_bids D_need_sale
  have o_standing : Ok l.prog w K mg base 4 "standing" 4 F_standing := ok_standing E (TB _ (List.mem_map.mpr ⟨("standing", none), List.mem_singleton.mpr rfl, rfl⟩)) D_standing
  have o_winners_of : Ok l.prog w K mg base 5 "winners_of" 2 F_winners_of := ok_winners_of E o_standing D_winners_of
  have o_next_price : Ok l.prog w K mg base 1 "next_price" 4 F_next_price := ok_next_price E D_next_price
  have o_payments_of : Ok l.prog w K mg base 6 "payments_of" 2 F_payments_of := ok_payments_of E o_winners_of o_next_price o_whole o_half D_payments_of
  have o_sides_of : Ok l.prog w K mg base 5 "sides_of" 3 F_sides_of := ok_sides_of E o_standing D_sides_of
  have o_how_many : Ok l.prog w K mg base 1 "how_many" 3 F_how_many := ok_how_many E D_how_many
  have o_prices_of : Ok l.prog w K mg base 4 "prices_of" 5 F_prices_of := ok_prices_of E o_half o_whole D_prices_of
  have o_traded : Ok l.prog w K mg base 6 "traded" 3 F_traded := ok_traded E o_sides_of o_how_many o_prices_of D_traded
  have o_sides_in : Ok l.prog w K mg base 1 "sides_in" 2 F_sides_in := ok_sides_in E D_sides_in
  have o_run_of : Ok l.prog w K mg base 7 "run_of" 3 F_run_of := ok_run_of E o_payments_of o_traded D_run_of
  have o_gain_of : Ok l.prog w K mg base 4 "gain_of" 4 F_gain_of := ok_gain_of E o_whole o_minus_of D_gain_of
  have o_taken_of : Ok l.prog w K mg base 8 "taken_of" 3 F_taken_of := ok_taken_of E o_run_of o_sum_of_all D_taken_of
  have o_gains_of : Ok l.prog w K mg base 8 "gains_of" 4 F_gains_of := ok_gains_of E o_run_of o_gain_of D_gains_of
  have o_is_kind : Ok l.prog w K mg base 2 "is_kind" 2 F_is_kind := ok_is_kind E o_is_among D_is_kind
  have o_good_cheat : Ok l.prog w K mg base 3 "good_cheat" 3 F_good_cheat := ok_good_cheat E o_is_kind o_is_number o_is_trader D_good_cheat
  have o_is_cheat : Ok l.prog w K mg base 7 "is_cheat" 3 F_is_cheat := ok_is_cheat E o_need_sale o_good_cheat D_is_cheat
  have o_told_by_lies : Ok l.prog w K mg base 9 "told_by_lies" 4 F_told_by_lies := ok_told_by_lies E o_gains_of o_minus_of o_sum_of_all D_told_by_lies
  have o_told_by_names : Ok l.prog w K mg base 9 "told_by_names" 5 F_told_by_names := ok_told_by_names E o_run_of o_gain_of o_sum_of_two o_minus_of o_gains_of D_told_by_names
  have o_told_by_shill : Ok l.prog w K mg base 9 "told_by_shill" 3 F_told_by_shill := ok_told_by_shill E o_run_of o_sum_of_all o_taken_of o_minus_of D_told_by_shill
  have o_told_by : Ok l.prog w K mg base 10 "told_by" 3 F_told_by := ok_told_by E o_sides_in o_told_by_shill o_told_by_names o_told_by_lies D_told_by
  have o_gain : Ok l.prog w K mg base 11 "gain" 3 F_gain := ok_gain E o_need_sale o_good_cheat o_told_by D_gain
  have o_all_cheats : Ok l.prog w K mg base 1 "all_cheats" 3 F_all_cheats := ok_all_cheats E D_all_cheats
  have o_best_of : Ok l.prog w K mg base 11 "best_of" 4 F_best_of := ok_best_of E o_whole o_all_cheats o_told_by o_order_of D_best_of
  have o_need_kind : Ok l.prog w K mg base 3 "need_kind" 2 F_need_kind := ok_need_kind E o_is_kind D_need_kind
  have o_best_cheat : OkK l.prog w K mg base 12 "best_cheat" 3 ["high"] [.int 9] F_best_cheat := ok_best_cheat E o_need_sale o_need_kind o_is_whole o_best_of D_best_cheat
  have o_all_rows : Ok l.prog w K mg base 1 "all_rows" 2 F_all_rows := ok_all_rows E D_all_rows
  have o_first_cheated : Ok l.prog w K mg base 12 "first_cheated" 4 F_first_cheated := ok_first_cheated E o_best_of D_first_cheated
  have o_need_high : Ok l.prog w K mg base 2 "need_high" 1 F_need_high := ok_need_high E o_is_whole D_need_high
  have o_safe : OkK l.prog w K mg base 13 "safe" 2 ["many", "high"] [.int 2, .int 3] F_safe := ok_safe E o_need_auction o_need_kind o_is_whole o_need_high o_all_rows o_first_cheated D_safe
  have o_safe_for : OkK l.prog w K mg base 13 "safe_for" 3 ["high"] [.int 3] F_safe_for := ok_safe_for E o_need_exchange o_need_kind o_is_among o_need_high o_all_rows o_first_cheated D_safe_for
  have o_law_cell_at : Ok l.prog w K mg base 1 "_law_cell_at" 2 F_law_cell_at := ok_law_cell_at E D_law_cell_at
  have o_law_mixed : Ok l.prog w K mg base 2 "_law_mixed" 3 F_law_mixed := ok_law_mixed E o_law_cell_at D_law_mixed
  have o_law_draw : Ok l.prog w K mg base 3 "_law_draw" 3 F_law_draw := ok_law_draw E o_law_mixed D_law_draw
  have o_law_pick : Ok l.prog w K mg base 4 "_law_pick" 3 F_law_pick := ok_law_pick E o_law_draw D_law_pick
  have o_law_which : WhichOk l.prog w K mg base 1 "_law_which" whichCs whichAns := ok_law_which E D_law_which
  have o_law_ask : Ok l.prog w K mg base 14 "_law_ask" 5 F_law_ask := ok_law_ask E o_gain o_best_cheat o_safe o_safe_for o_law_which D_law_ask
  have o_law_kinds_refused : Ok l.prog w K mg base 15 "_law_kinds_refused" 4 F_law_kinds_refused := ok_law_kinds_refused E o_law_ask D_law_kinds_refused
  exact law_ok (ok_law E o_law_ask o_law_pick o_is_cheat o_law_kinds_refused FL) Mw.law_k11
end Mw.R
open PySem PySem.W PySem.Calls PyProof.Rows
theorem PySem.Challenge.cw_marketworks_k11_cheats_refused_holds : PySem.Challenge.rw_marketworks_k11_cheats_refused.Holds := by
  w_on; o_law
  refine HandSHeadRun.head_any (r := OpenLaw.row PySem.Challenge.rw_marketworks_k11_cheats_refused) (q := view (OpenLaw.row PySem.Challenge.rw_marketworks_k11_cheats_refused).prog [95]) (H := Mw.R.hk) (ob := Mw.R.ob) (M := 20000) (loose := Mw.R.loose) (d := HandSHeadRun.topDef (OpenLaw.row PySem.Challenge.rw_marketworks_k11_cheats_refused).prog 95) (kwd := []) Mw.R.ob_eq
    (by kernel_rfl) (fun s => by kernel_rfl) Mw.R.run (by kernel_rfl) (by kernel_rfl) (by kernel_rfl) (by rfl) (by first | assumption | decide +kernel) (by decide +kernel) ⟨rfl, rfl, rfl, rfl, rfl, by decide +kernel⟩ ?hw ?hc
  case hw => w_witness2
  case hc =>
    refine Mw.walkT (l := PySem.Challenge.rw_marketworks_k11_cheats_refused) (n := 63) (k := 16) (x := "script") rfl (by decide) (by kernel_rfl) ⟨rfl, by decide, by decide⟩ ?F
    intro w mg fa h Y G hmg0
    obtain ⟨K, KX, c⟩ := Y
    have hmg : mg ("law" : PySem.Str) = some (.ref fa) := by
      have e : (HandSHeadRun.topDef (OpenLaw.row PySem.Challenge.rw_marketworks_k11_cheats_refused).prog 95).name = ("law" : PySem.Str) := by kernel_rfl
      rw [← e]
      exact hmg0
    exact ⟨K, KX, Mw.R.facts KX G hmg c⟩
