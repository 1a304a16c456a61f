import PyProof.Rows.All
import Wide.All
import OpenK.AllK
import Wide.FinOn
import PyProof.EqAt
import PyProof.EqKinds
import PyProof.TupleCall
import HandS.ForMost
import HandS.Exc
import HandS.TryOnly
import HandS.TryMany
import HandS.ExcOwn
import HandS.WordsExc
import HandS.RaiseMore
import HandS.IsInst
import HandS.TupAny
import HandS.TupMul
import HandS.More
import HandS.Style
import HandS.Conv
import PyProof.Rows.IntBool
import HandS.Defaults
import HandS.Set
import HandS.Strs
import PyProof.Rows.SortStr
import HandS.List
import HandS.Text
import HandS.FStr
import HandS.Dict
import HandS.Small
import KE.GoesMore
import KE.GoesEnum
import HandS.Comp
import PySem.Challenge.RW_lengthforms_k13_whole_rows_one_behind_an
import KE.KStateDown
import Lean
import HandS.Words
import HandS.Head0
import HandS.Head1
import HandS.Head2
import HandS.HeadEnd
import HandS.HeadHook1
import HandS.HeadHook2
import HandS.HeadHook4

-- part LFCore
section
set_option Elab.async false
set_option linter.all false
set_option maxRecDepth 100000
set_option maxHeartbeats 2000000
namespace LF
open PySem PySem.Spec PyProof.Rows L2

abbrev D := PyData
/-- an exception of a class of the module, with the value of its attribute -/
structure Exc where
  cls : Str
  att : Option (Str × D) := none
/-- what a mutable object holds -/
inductive M where
  | lst (xs : List D)
  | dK (kvs : List (Key × D))
def M.d : M → D
  | .lst xs => .list xs
  | .dK kvs => .dict (kvs.map fun p => ((match p.1 with | .inl i => PyData.int i | .inr x => PyData.str x), p.2))
/-- loc: the def's own; bor: a caller's; lck: being walked -/
inductive Ow where
  | loc | bor | lck
  deriving DecidableEq
inductive Slot where
  | unb | val (d : D) | own (m : M) (o : Ow)
abbrev En := List Slot
/-- what an expression gives: frozen data, a new object, the object of a slot -/
inductive R where
  | val (d : D) | fr (m : M) | loc (i : Nat)
structure Ctx where
  K : PySem.W.Frag
  ex : Str → Addr

/-! ### the pure monad -/
abbrev EM (α : Type) := En → Option (Except Exc α × En)
namespace EM
def pure {α : Type} (a : α) : EM α := fun ρ => some (.ok a, ρ)
def stuck {α : Type} : EM α := fun _ => none
def raise {α : Type} (e : Exc) : EM α := fun ρ => some (.error e, ρ)
def bind {α β : Type} (f : EM α) (g : α → EM β) : EM β := fun ρ => match f ρ with
  | none => none
  | some (.error e, ρ') => some (.error e, ρ')
  | some (.ok a, ρ') => g a ρ'
end EM

/-! ### data in the heap -/
mutual
inductive Rep (K : PySem.W.Frag) (F : Hp) : V → D → Prop
  | non : Rep K F .non .none
  | bl (b : Bool) : Rep K F (.bl b) (.bool b)
  | int (i : Int) : Rep K F (.int i) (.int i)
  | str (x : Str) : Rep K F (.str x) (.str x)
  | lst {a : Addr} {xs : List V} {ds : List D} : F a = some (.lst xs) → RepL K F xs ds → Rep K F (.ref a) (.list ds)
  | tup {a : Addr} {xs : List V} {ds : List D} : SqT K F a xs → RepL K F xs ds → Rep K F (.ref a) (.tuple ds)
  | dK {a : Addr} {kvs : List (Key × V)} {ds : List (Key × D)} : F a = some (.dK kvs) → RepK K F kvs ds → Rep K F (.ref a) (M.dK ds).d
  /-- a list that is only read -/
  | ro {a : Addr} {xs : List V} {ds : List D} : SqL K F a xs → RepL K F xs ds → Rep K F (.ref a) (.dict [(.none, .list ds)])
inductive RepL (K : PySem.W.Frag) (F : Hp) : List V → List D → Prop
  | nil : RepL K F [] []
  | cons {v : V} {vs : List V} {d : D} {ds : List D} : Rep K F v d → RepL K F vs ds → RepL K F (v :: vs) (d :: ds)
inductive RepK (K : PySem.W.Frag) (F : Hp) : List (Key × V) → List (Key × D) → Prop
  | nil : RepK K F [] []
  | cons {k : Key} {v : V} {vs : List (Key × V)} {d : D} {ds : List (Key × D)} : Rep K F v d → RepK K F vs ds → RepK K F ((k, v) :: vs) ((k, d) :: ds)
end

def Ex (H H' : Hp) : Prop := ∀ a o, H a = some o → H' a = some o
theorem Ex.refl (H : Hp) : Ex H H := fun _ _ h => h
theorem Ex.trans {H H1 H2 : Hp} (a : Ex H H1) (b : Ex H1 H2) : Ex H H2 := fun x o h => b x o (a x o h)
theorem Ex.new {H : Hp} {p : Addr} {o : HO} (h : H p = none) : Ex H (upd H p o) := fun a u e => by
  rw [upd_ne (ne_of_none e h)]
  exact e
theorem ex_t {K : PySem.W.Frag} {H H' : Hp} {a : Addr} {xs : List V} (e : Ex H H') (h : SqT K H a xs) : SqT K H' a xs := by
  rcases h with (h | ⟨o, h⟩) | h
  · exact Or.inl (Or.inl (e a _ h))
  · exact Or.inl (Or.inr ⟨o, e a _ h⟩)
  · exact Or.inr h
theorem ex_l {K : PySem.W.Frag} {H H' : Hp} {a : Addr} {xs : List V} (e : Ex H H') (h : SqL K H a xs) : SqL K H' a xs := by
  rcases h with (h | ⟨o, h⟩) | h
  · exact Or.inl (Or.inl (e a _ h))
  · exact Or.inl (Or.inr ⟨o, e a _ h⟩)
  · exact Or.inr h
theorem st_of {K : PySem.W.Frag} {H : Hp} {a : Addr} {xs : List V} (h : H a = some (.tup xs)) : SqT K H a xs := Or.inl (Or.inl h)
theorem sl_of {K : PySem.W.Frag} {H : Hp} {a : Addr} {xs : List V} (h : H a = some (.lst xs)) : SqL K H a xs := Or.inl (Or.inl h)
mutual
theorem Rep.mono {K : PySem.W.Frag} {F F' : Hp} (e : Ex F F') : ∀ {v : V} {d : D}, Rep K F v d → Rep K F' v d
  | _, _, .non => .non
  | _, _, .bl b => .bl b
  | _, _, .int i => .int i
  | _, _, .str x => .str x
  | _, _, .lst h r => .lst (e _ _ h) (RepL.mono e r)
  | _, _, .tup h r => .tup (ex_t e h) (RepL.mono e r)
  | _, _, .dK h r => .dK (e _ _ h) (RepK.mono e r)
  | _, _, .ro h r => .ro (ex_l e h) (RepL.mono e r)
theorem RepL.mono {K : PySem.W.Frag} {F F' : Hp} (e : Ex F F') : ∀ {v : List V} {d : List D}, RepL K F v d → RepL K F' v d
  | _, _, .nil => .nil
  | _, _, .cons h r => .cons (Rep.mono e h) (RepL.mono e r)
theorem RepK.mono {K : PySem.W.Frag} {F F' : Hp} (e : Ex F F') : ∀ {v : List (Key × V)} {d : List (Key × D)}, RepK K F v d → RepK K F' v d
  | _, _, .nil => .nil
  | _, _, .cons h r => .cons (Rep.mono e h) (RepK.mono e r)
end
section
variable {K : PySem.W.Frag} {F F' H : Hp}
theorem RepL.length : ∀ {vs : List V} {ds : List D}, RepL K F vs ds → vs.length = ds.length
  | _, _, .nil => rfl
  | _, _, .cons _ r => by rw [List.length_cons, List.length_cons, RepL.length r]
theorem RepL.get : ∀ {vs : List V} {ds : List D} {i : Nat} {d : D}, RepL K F vs ds → ds[i]? = some d → ∃ v, vs[i]? = some v ∧ Rep K F v d
  | _, _, _, _, .nil, e => by simp at e
  | _, _, 0, _, .cons r _, e => by
    simp at e
    subst e
    exact ⟨_, rfl, r⟩
  | _, _, i + 1, d, .cons _ t, e => by
    obtain ⟨u, h1, h2⟩ := RepL.get (i := i) (d := d) t (by simpa using e)
    exact ⟨u, by simpa using h1, h2⟩
theorem RepL.getV : ∀ {vs : List V} {ds : List D} {i : Nat} {v : V}, RepL K F vs ds → vs[i]? = some v → ∃ d, ds[i]? = some d ∧ Rep K F v d
  | _, _, _, _, .nil, e => by simp at e
  | _, _, 0, _, .cons r _, e => by
    simp at e
    subst e
    exact ⟨_, rfl, r⟩
  | _, _, i + 1, d, .cons _ t, e => by
    obtain ⟨u, h1, h2⟩ := RepL.getV (i := i) (v := d) t (by simpa using e)
    exact ⟨u, by simpa using h1, h2⟩
theorem RepL.append : ∀ {vs ws : List V} {ds es : List D}, RepL K F vs ds → RepL K F ws es → RepL K F (vs ++ ws) (ds ++ es)
  | _, _, _, _, .nil, s => s
  | _, _, _, _, .cons r t, s => .cons r (RepL.append t s)
theorem RepL.take : ∀ {vs : List V} {ds : List D} (n : Nat), RepL K F vs ds → RepL K F (vs.take n) (ds.take n)
  | _, _, 0, _ => .nil
  | _, _, _ + 1, .nil => .nil
  | _, _, n + 1, .cons r t => .cons r (RepL.take n t)
theorem RepL.drop : ∀ {vs : List V} {ds : List D} (n : Nat), RepL K F vs ds → RepL K F (vs.drop n) (ds.drop n)
  | _, _, 0, r => r
  | _, _, _ + 1, .nil => .nil
  | _, _, n + 1, .cons _ t => RepL.drop n t
theorem RepL.set {v : V} {d : D} (r : Rep K F v d) : ∀ {vs : List V} {ds : List D} (i : Nat), RepL K F vs ds → RepL K F (vs.set i v) (ds.set i d)
  | _, _, _, .nil => .nil
  | _, _, 0, .cons _ t => .cons r t
  | _, _, i + 1, .cons q t => .cons q (RepL.set r i t)
theorem RepL.erase : ∀ {vs : List V} {ds : List D} (i : Nat), RepL K F vs ds → RepL K F (vs.eraseIdx i) (ds.eraseIdx i)
  | _, _, _, .nil => .nil
  | _, _, 0, .cons _ t => t
  | _, _, i + 1, .cons q t => .cons q (RepL.erase i t)
theorem RepL.one {v : V} {d : D} (r : Rep K F v d) : RepL K F [v] [d] := .cons r .nil
theorem RepL.reverse : ∀ {vs : List V} {ds : List D}, RepL K F vs ds → RepL K F vs.reverse ds.reverse
  | _, _, .nil => .nil
  | _, _, .cons r t => by
    rw [List.reverse_cons, List.reverse_cons]
    exact (RepL.reverse t).append (.one r)
theorem RepL.rep {vs : List V} {ds : List D} (r : RepL K F vs ds) : ∀ k : Nat, RepL K F (List.replicate k vs).flatten (List.replicate k ds).flatten
  | 0 => .nil
  | k + 1 => by
    rw [List.replicate_succ, List.replicate_succ, List.flatten_cons, List.flatten_cons]
    exact r.append (r.rep k)

mutual
theorem Rep.dp (e : Ex F H) : ∀ {v : V} {d : D}, Rep K F v d → d.canLay0 = true → Dp K H v d
  | _, _, .non, _ => .non
  | _, _, .bl b, _ => .bl b
  | _, _, .int i, _ => .int i
  | _, _, .str x, _ => .str x
  | _, _, .lst h r, c => .lst (sl_of (e _ _ h)) (RepL.dp e r (by simpa [PyData.canLay0] using c))
  | _, _, .tup h r, c => .tup (ex_t e h) (RepL.dp e r (by simpa [PyData.canLay0] using c))
  | _, _, .dK h r, c => by simp [M.d, PyData.canLay0] at c
  | _, _, .ro h r, c => by simp [PyData.canLay0] at c
theorem RepL.dp (e : Ex F H) : ∀ {vs : List V} {ds : List D}, RepL K F vs ds → PyData.canLayAll0 ds = true → DpAll K H vs ds
  | _, _, .nil, _ => .nil
  | _, _, .cons h r, c => by
    simp only [PyData.canLayAll0, Bool.and_eq_true] at c
    exact .cons (Rep.dp e h c.1) (RepL.dp e r c.2)
end
end

/-- what a mutable object's content is -/
inductive MRep (K : PySem.W.Frag) (F : Hp) : HO → M → Prop
  | lst {xs : List V} {ds : List D} : RepL K F xs ds → MRep K F (.lst xs) (.lst ds)
  | dK {xs : List (Key × V)} {ds : List (Key × D)} : RepK K F xs ds → MRep K F (.dK xs) (.dK ds)
theorem MRep.mono {K : PySem.W.Frag} {F F' : Hp} (e : Ex F F') {o : HO} {m : M} (h : MRep K F o m) : MRep K F' o m := by
  cases h with
  | lst r => exact .lst (r.mono e)
  | dK r => exact .dK (r.mono e)
theorem MRep.rep {K : PySem.W.Frag} {F : Hp} {a : Addr} {o : HO} {m : M} (h : MRep K F o m) (e : F a = some o) : Rep K F (.ref a) m.d := by
  cases h with
  | lst r => exact .lst e r
  | dK r => exact .dK e r

def Owns (σ : L2.St) (ρ : En) (a : Addr) : Prop := ∃ (i : Nat) (m : M) (o : Ow), ρ[i]? = some (.own m o) ∧ σ[i]? = some (some (.ref a))
structure ER (K : PySem.W.Frag) (σ : L2.St) (ρ : En) (F H : Hp) : Prop where
  sub : Ex F H
  len : σ.length = ρ.length
  val : ∀ (i : Nat) (d : D), ρ[i]? = some (.val d) → ∃ v, σ[i]? = some (some v) ∧ Rep K F v d
  own : ∀ (i : Nat) (m : M) (o : Ow), ρ[i]? = some (.own m o) → ∃ a ho, σ[i]? = some (some (.ref a)) ∧ F a = none ∧ H a = some ho ∧ MRep K F ho m
  dis : ∀ (i j : Nat) (m m' : M) (o o' : Ow) (a : Addr), ρ[i]? = some (.own m o) → ρ[j]? = some (.own m' o') → σ[i]? = some (some (.ref a)) → σ[j]? = some (some (.ref a)) → i = j
/-- what a piece of the program leaves -/
structure Fm (σ : L2.St) (ρ : En) (F H : Hp) (σ' : L2.St) (ρ' : En) (F' H' : Hp) : Prop where
  len : ρ'.length = ρ.length
  dom : ∀ a, H a ≠ none → H' a ≠ none
  keep : ∀ a o, H a = some o → ¬ Owns σ ρ a → H' a = some o ∧ F' a = F a ∧ ¬ Owns σ' ρ' a
  pin : ∀ (i : Nat) (m : M) (o : Ow), ρ[i]? = some (.own m o) → o ≠ .loc → (∃ m', ρ'[i]? = some (.own m' o) ∧ (o = .lck → m' = m)) ∧ σ'[i]? = σ[i]?
  lck : ∀ (i : Nat) (m : M) (a : Addr), ρ[i]? = some (.own m .lck) → σ[i]? = some (some (.ref a)) → H' a = H a
section
variable {K : PySem.W.Frag} {σ σ' σ'' : L2.St} {ρ ρ' ρ'' : En} {F F' F'' H H' H'' : Hp}
theorem ER.not_own (E : ER K σ ρ F H) {a : Addr} {o : HO} (h : F a = some o) : ¬ Owns σ ρ a := by
  rintro ⟨i, m, w, h1, h2⟩
  obtain ⟨b, ho, h3, h4, _⟩ := E.own i m w h1
  rw [h2] at h3
  have e : a = b := by injection h3 with h3; injection h3 with h3; injection h3
  subst e
  rw [h] at h4
  cases h4
theorem Fm.ex (m : Fm σ ρ F H σ' ρ' F' H') (E : ER K σ ρ F H) : Ex F F' := fun a o h => by
  rw [(m.keep a o (E.sub a o h) (E.not_own h)).2.1]
  exact h
theorem Fm.refl (σ : L2.St) (ρ : En) (F H : Hp) : Fm σ ρ F H σ ρ F H := ⟨rfl, fun _ h => h, fun _ _ h n => ⟨h, rfl, n⟩, fun i m o h _ => ⟨⟨m, h, fun _ => rfl⟩, rfl⟩, fun _ _ _ _ _ => rfl⟩
theorem Fm.trans (a : Fm σ ρ F H σ' ρ' F' H') (b : Fm σ' ρ' F' H' σ'' ρ'' F'' H'') : Fm σ ρ F H σ'' ρ'' F'' H'' where
  len := b.len.trans a.len
  dom := fun x h => b.dom x (a.dom x h)
  keep := fun x o h n => by
    obtain ⟨h1, h2, h3⟩ := a.keep x o h n
    obtain ⟨g1, g2, g3⟩ := b.keep x o h1 h3
    exact ⟨g1, g2.trans h2, g3⟩
  pin := fun i m o h n => by
    obtain ⟨⟨m1, h1, l1⟩, h2⟩ := a.pin i m o h n
    obtain ⟨⟨m2, g1, l2⟩, g2⟩ := b.pin i m1 o h1 n
    exact ⟨⟨m2, g1, fun z => (l2 z).trans (l1 z)⟩, g2.trans h2⟩
  lck := fun i m x h1 h2 => by
    obtain ⟨⟨m1, g1, _⟩, g2⟩ := a.pin i m .lck h1 (by decide)
    rw [b.lck i m1 x g1 (g2.trans h2)]
    exact a.lck i m x h1 h2
end

/-- a result: H0 the heap where its making began -/
def RR (K : PySem.W.Frag) (H0 : Hp) (σ : L2.St) (ρ : En) (F H : Hp) (v : V) : R → Prop
  | .val d => Rep K F v d
  | .fr m => ∃ p ho, v = .ref p ∧ H0 p = none ∧ F p = none ∧ H p = some ho ∧ MRep K F ho m ∧ ¬ Owns σ ρ p
  | .loc i => σ[i]? = some (some v)
section
variable {K : PySem.W.Frag} {σ σ' σ'' : L2.St} {ρ ρ' ρ'' : En} {F F' F'' H H' H'' H0 H1 : Hp} {v : V} {r : R}
theorem RR.step (E : ER K σ ρ F H) (m : Fm σ ρ F H σ ρ' F' H') (h : RR K H0 σ ρ F H v r) : RR K H0 σ ρ' F' H' v r := by
  cases r with
  | val d => exact Rep.mono (m.ex E) h
  | fr mm =>
    obtain ⟨p, ho, e, h0, h1, h2, h3, h4⟩ := h
    obtain ⟨k1, k2, k3⟩ := m.keep p ho h2 h4
    exact ⟨p, ho, e, h0, k2.trans h1, k1, h3.mono (m.ex E), k3⟩
  | loc i => exact h
theorem RR.back (m : ∀ a, H1 a ≠ none → H0 a ≠ none) (h : RR K H0 σ ρ F H v r) : RR K H1 σ ρ F H v r := by
  cases r with
  | val d => exact h
  | fr mm =>
    obtain ⟨p, ho, e, h0, rest⟩ := h
    exact ⟨p, ho, e, Classical.byContradiction fun z => m p z h0, rest⟩
  | loc i => exact h
end

/-! ### transformers -/
def ExcIs (C : Ctx) (cls : Value) (d : Option Addr) (H : Hp) (e : Exc) : Prop := cls = .ref (C.ex e.cls) ∧ match e.att with
  | none => d = none
  | some (f, x) => ∃ dd v, d = some dd ∧ H dd = some (.xd [(f, v)]) ∧ Rep C.K H v x
def Res (C : Ctx) (W : WX) (σ : L2.St) (ρ : En) (F H : Hp) (x : Except Exc R × En) (Q : VK) : Prop := match x with
  | (.ok r, ρ') => ∀ v F' H', ER C.K σ ρ' F' H' → Fm σ ρ F H σ ρ' F' H' → RR C.K H σ ρ' F' H' v r → Q v H'
  | (.error e, ρ') => ∀ cls d F' H', ER C.K σ ρ' F' H' → Fm σ ρ F H σ ρ' F' H' → ExcIs C cls d H' e → W cls d σ H'
def DE (C : Ctx) (W : WX) (f : EM R) : TE := fun σ H Q => ∃ ρ F x, ER C.K σ ρ F H ∧ f ρ = some x ∧ Res C W σ ρ F H x Q
def ResT (C : Ctx) (W : WX) (σ : L2.St) (ρ : En) (F H : Hp) (x : Except Exc Bool × En) (Q : Bool → Hp → Prop) : Prop := match x with
  | (.ok b, ρ') => ∀ F' H', ER C.K σ ρ' F' H' → Fm σ ρ F H σ ρ' F' H' → Q b H'
  | (.error e, ρ') => ∀ cls d F' H', ER C.K σ ρ' F' H' → Fm σ ρ F H σ ρ' F' H' → ExcIs C cls d H' e → W cls d σ H'
def DT (C : Ctx) (W : WX) (f : EM Bool) : TT := fun σ H Q => ∃ ρ F x, ER C.K σ ρ F H ∧ f ρ = some x ∧ ResT C W σ ρ F H x Q
/-- several results: the new ones are different objects -/
inductive RRs (K : PySem.W.Frag) (H0 : Hp) (σ : L2.St) (ρ : En) (F H : Hp) : List V → List R → Prop
  | nil : RRs K H0 σ ρ F H [] []
  | cons {v : V} {r : R} {vs : List V} {rs : List R} : RR K H0 σ ρ F H v r → RRs K H0 σ ρ F H vs rs → (∀ m m' p, r = .fr m → v = .ref p → ¬ ((V.ref p, R.fr m') ∈ vs.zip rs)) → RRs K H0 σ ρ F H (v :: vs) (r :: rs)
def ResA (C : Ctx) (W : WX) (σ : L2.St) (ρ : En) (F H : Hp) (x : Except Exc (List R) × En) (Q : List V → Hp → Prop) : Prop := match x with
  | (.ok rs, ρ') => ∀ vs F' H', ER C.K σ ρ' F' H' → Fm σ ρ F H σ ρ' F' H' → RRs C.K H σ ρ' F' H' vs rs → Q vs H'
  | (.error e, ρ') => ∀ cls d F' H', ER C.K σ ρ' F' H' → Fm σ ρ F H σ ρ' F' H' → ExcIs C cls d H' e → W cls d σ H'
def DA (C : Ctx) (W : WX) (f : EM (List R)) : TA := fun σ H Q => ∃ ρ F x, ER C.K σ ρ F H ∧ f ρ = some x ∧ ResA C W σ ρ F H x Q
/-- how a statement ends -/
inductive Out where
  | nx | rt (r : R) | bk | ct
def ResS (C : Ctx) (W : WX) (σ : L2.St) (ρ : En) (F H : Hp) (x : Except Exc Out × En) (Q : Ends) : Prop := match x with
  | (.ok o, ρ') => ∀ σ' F' H', ER C.K σ' ρ' F' H' → Fm σ ρ F H σ' ρ' F' H' → match o with
    | .nx => Q.nx σ' H'
    | .bk => Q.bk σ' H'
    | .ct => Q.ct σ' H'
    | .rt r => ∀ v, RR C.K H σ' ρ' F' H' v r → Q.rt v H'
  | (.error e, ρ') => ∀ cls d σ' F' H', ER C.K σ' ρ' F' H' → Fm σ ρ F H σ' ρ' F' H' → ExcIs C cls d H' e → W cls d σ' H'
def DS (C : Ctx) (W : WX) (f : EM Out) : TS := fun Q σ H => ∃ ρ F x, ER C.K σ ρ F H ∧ f ρ = some x ∧ ResS C W σ ρ F H x Q
end LF
end

-- part LFRules
section
set_option Elab.async false
set_option linter.all false
set_option maxRecDepth 100000
set_option maxHeartbeats 2000000
namespace LF
open PySem PySem.Spec PyProof.Rows L2

/-! ### weaker transformers -/
section
variable {X : Cx}
theorem impE {e : Expr} {t t' : TE} (h : PE X e t) (f : ∀ σ H Q, t' σ H Q → t σ H Q) : PE X e t' := ⟨fun pins s σ H Q I k => h.run pins s σ H Q I (f σ H Q k)⟩
theorem impT {e : Expr} {t t' : TT} (h : PT X e t) (f : ∀ σ H Q, t' σ H Q → t σ H Q) : PT X e t' := ⟨fun pins s σ H Q I k => h.run pins s σ H Q I (f σ H Q k)⟩
theorem impW {e : Expr} {t t' : TT} (h : PW X e t) (f : ∀ σ H Q, t' σ H Q → t σ H Q) : PW X e t' := ⟨fun wh pins s σ H Q I k => h.run wh pins s σ H Q I (f σ H Q k)⟩
theorem impA {e : List Expr} {t t' : TA} (h : PA X e t) (f : ∀ σ H Q, t' σ H Q → t σ H Q) : PA X e t' := ⟨fun p pins s σ H Q I k => h.run p pins s σ H Q I (f σ H Q k)⟩
theorem impS {e : Stmt} {t t' : TS} (h : PS X e t) (f : ∀ D σ H, t' D σ H → t D σ H) : PS X e t' := ⟨fun pins s σ H D I k => h.run pins s σ H D I (f D σ H k)⟩
theorem impSs {e : List Stmt} {t t' : TS} (h : PSs X e t) (f : ∀ D σ H, t' D σ H → t D σ H) : PSs X e t' := ⟨fun pins s σ H D I k => h.run pins s σ H D I (f D σ H k)⟩
end

section
variable {C : Ctx} {W : WX} {σ : L2.St} {ρ ρ0 ρ1 : En} {F F0 F1 H H0 H1 : Hp}
/-- an error among the outcomes is wished -/
def ErrOk {α : Type} (C : Ctx) (W : WX) (σ : L2.St) (ρ : En) (F H : Hp) (x : Except Exc α × En) : Prop := ∀ e ρ', x = (.error e, ρ') → ∀ cls d F' H', ER C.K σ ρ' F' H' → Fm σ ρ F H σ ρ' F' H' → ExcIs C cls d H' e → W cls d σ H'
theorem Res.err {x : Except Exc R × En} {Q : VK} (h : Res C W σ ρ F H x Q) : ErrOk C W σ ρ F H x := fun e ρ' z => by
  subst z
  exact h
theorem ResT.err {x : Except Exc Bool × En} {Q : Bool → Hp → Prop} (h : ResT C W σ ρ F H x Q) : ErrOk C W σ ρ F H x := fun e ρ' z => by
  subst z
  exact h
theorem ResA.err {x : Except Exc (List R) × En} {Q : List V → Hp → Prop} (h : ResA C W σ ρ F H x Q) : ErrOk C W σ ρ F H x := fun e ρ' z => by
  subst z
  exact h
theorem ResS.err {x : Except Exc Out × En} {Q : Ends} (h : ResS C W σ ρ F H x Q) : ErrOk C W σ ρ F H x := fun e ρ' z cls d F' H' => by
  subst z
  exact h cls d σ F' H'
theorem DE.mono {f : EM R} {Q Q' : VK} (h : DE C W f σ H Q) (q : ∀ v H', Q v H' → Q' v H') : DE C W f σ H Q' := by
  obtain ⟨ρ, F, x, E, e, hr⟩ := h
  refine ⟨ρ, F, x, E, e, ?_⟩
  rcases x with ⟨x | r, ρ'⟩
  · exact hr
  · exact fun v F' H' E' m' rr => q v H' (hr v F' H' E' m' rr)
theorem DT.mono {f : EM Bool} {Q Q' : Bool → Hp → Prop} (h : DT C W f σ H Q) (q : ∀ v H', Q v H' → Q' v H') : DT C W f σ H Q' := by
  obtain ⟨ρ, F, x, E, e, hr⟩ := h
  refine ⟨ρ, F, x, E, e, ?_⟩
  rcases x with ⟨x | r, ρ'⟩
  · exact hr
  · exact fun F' H' E' m' => q r H' (hr F' H' E' m')
theorem DA.mono {f : EM (List R)} {Q Q' : List V → Hp → Prop} (h : DA C W f σ H Q) (q : ∀ v H', Q v H' → Q' v H') : DA C W f σ H Q' := by
  obtain ⟨ρ, F, x, E, e, hr⟩ := h
  refine ⟨ρ, F, x, E, e, ?_⟩
  rcases x with ⟨x | r, ρ'⟩
  · exact hr
  · exact fun v F' H' E' m' rr => q v H' (hr v F' H' E' m' rr)
/-- a piece, then the rest -/
theorem split {β : Type} {f : EM R} {g : R → EM β} {x : Except Exc β × En} (E : ER C.K σ ρ F H) (m : Fm σ ρ0 F0 H0 σ ρ F H) (e : EM.bind f g ρ = some x) (he : ErrOk C W σ ρ0 F0 H0 x) :
    DE C W f σ H fun v H1 => ∃ r ρ1 F1, ER C.K σ ρ1 F1 H1 ∧ Fm σ ρ0 F0 H0 σ ρ1 F1 H1 ∧ Fm σ ρ F H σ ρ1 F1 H1 ∧ RR C.K H σ ρ1 F1 H1 v r ∧ g r ρ1 = some x := by
  unfold EM.bind at e
  cases hf : f ρ with
  | none =>
    rw [hf] at e
    cases e
  | some y =>
    rw [hf] at e
    refine ⟨ρ, F, y, E, hf, ?_⟩
    rcases y with ⟨y | r, ρ'⟩
    · have e' : x = (.error y, ρ') := by injection e with e; exact e.symm
      exact fun cls d F' H' E' m' z => he y ρ' e' cls d F' H' E' (m.trans m') z
    · exact fun v F' H' E' m' rr => ⟨r, ρ', F', E', m.trans m', m', rr, e⟩
theorem splitT {β : Type} {f : EM Bool} {g : Bool → EM β} {x : Except Exc β × En} (E : ER C.K σ ρ F H) (m : Fm σ ρ0 F0 H0 σ ρ F H) (e : EM.bind f g ρ = some x) (he : ErrOk C W σ ρ0 F0 H0 x) :
    DT C W f σ H fun b H1 => ∃ ρ1 F1, ER C.K σ ρ1 F1 H1 ∧ Fm σ ρ0 F0 H0 σ ρ1 F1 H1 ∧ g b ρ1 = some x := by
  unfold EM.bind at e
  cases hf : f ρ with
  | none =>
    rw [hf] at e
    cases e
  | some y =>
    rw [hf] at e
    refine ⟨ρ, F, y, E, hf, ?_⟩
    rcases y with ⟨y | r, ρ'⟩
    · have e' : x = (.error y, ρ') := by injection e with e; exact e.symm
      exact fun cls d F' H' E' m' z => he y ρ' e' cls d F' H' E' (m.trans m') z
    · exact fun F' H' E' m' => ⟨ρ', F', E', m.trans m', e⟩
theorem splitA {β : Type} {f : EM (List R)} {g : List R → EM β} {x : Except Exc β × En} (E : ER C.K σ ρ F H) (m : Fm σ ρ0 F0 H0 σ ρ F H) (e : EM.bind f g ρ = some x) (he : ErrOk C W σ ρ0 F0 H0 x) :
    DA C W f σ H fun vs H1 => ∃ rs ρ1 F1, ER C.K σ ρ1 F1 H1 ∧ Fm σ ρ0 F0 H0 σ ρ1 F1 H1 ∧ Fm σ ρ F H σ ρ1 F1 H1 ∧ RRs C.K H σ ρ1 F1 H1 vs rs ∧ g rs ρ1 = some x := by
  unfold EM.bind at e
  cases hf : f ρ with
  | none =>
    rw [hf] at e
    cases e
  | some y =>
    rw [hf] at e
    refine ⟨ρ, F, y, E, hf, ?_⟩
    rcases y with ⟨y | r, ρ'⟩
    · have e' : x = (.error y, ρ') := by injection e with e; exact e.symm
      exact fun cls d F' H' E' m' z => he y ρ' e' cls d F' H' E' (m.trans m') z
    · exact fun v F' H' E' m' rr => ⟨r, ρ', F', E', m.trans m', m', rr, e⟩
end

/-! ### states -/
section
variable {K : PySem.W.Frag} {σ σ' : L2.St} {ρ ρ' ρ0 : En} {F F' F0 H H' H0 : Hp} {i : Nat} {v : V} {d : D} {m : M} {p : Addr} {o : HO}
theorem ER.newfr (E : ER K σ ρ F H) (h : H p = none) : ER K σ ρ F (upd H p o) where
  sub := fun a u e => Ex.new h a u (E.sub a u e)
  len := E.len
  val := E.val
  own := fun i m w e => by
    obtain ⟨a, ho, h1, h2, h3, h4⟩ := E.own i m w e
    exact ⟨a, ho, h1, h2, by rw [upd_ne (ne_of_none h3 h)]; exact h3, h4⟩
  dis := E.dis
theorem not_owns_new (E : ER K σ ρ F H) (h : H p = none) : ¬ Owns σ ρ p := by
  rintro ⟨i, m, w, h1, h2⟩
  obtain ⟨a, ho, h3, _, h5, _⟩ := E.own i m w h1
  rw [h2] at h3
  have e : p = a := by injection h3 with h3; injection h3 with h3; injection h3
  rw [← e, h] at h5
  cases h5
theorem own_ne (E : ER K σ ρ F H) (h : H p = none) {j : Nat} {mm : M} {w : Ow} {a : Addr} (h1 : ρ[j]? = some (.own mm w)) (h2 : σ[j]? = some (some (.ref a))) : a ≠ p := fun z => by
  subst z
  exact not_owns_new E h ⟨j, mm, w, h1, h2⟩
theorem Fm.newfr (E : ER K σ ρ F H) (h : H p = none) : Fm σ ρ F H σ ρ F (upd H p o) where
  len := rfl
  dom := fun a n => by
    by_cases e : a = p
    · rw [e]
      exact absurd h (e ▸ n)
    · rw [upd_ne e]
      exact n
  keep := fun a u e n => ⟨Ex.new h a u e, rfl, n⟩
  pin := fun i m o h _ => ⟨⟨m, h, fun _ => rfl⟩, rfl⟩
  lck := fun i m a h1 h2 => upd_ne (own_ne E h h1 h2)
theorem none_sub (E : ER K σ ρ F H) (h : H p = none) : F p = none := by
  cases e : F p with
  | none => rfl
  | some u =>
    rw [E.sub p u e] at h
    cases h
theorem ER.newF (E : ER K σ ρ F H) (h : H p = none) : ER K σ ρ (upd F p o) (upd H p o) where
  sub := fun a u e => by
    by_cases z : a = p
    · subst z
      rw [upd_same] at e ⊢
      exact e
    · rw [upd_ne z] at e ⊢
      exact E.sub a u e
  len := E.len
  val := fun i d e => by
    obtain ⟨v, h1, h2⟩ := E.val i d e
    exact ⟨v, h1, h2.mono (Ex.new (none_sub E h))⟩
  own := fun i m w e => by
    obtain ⟨a, ho, h1, h2, h3, h4⟩ := E.own i m w e
    have n := ne_of_none h3 h
    exact ⟨a, ho, h1, by rw [upd_ne n]; exact h2, by rw [upd_ne n]; exact h3, h4.mono (Ex.new (none_sub E h))⟩
  dis := E.dis
theorem Fm.newF (E : ER K σ ρ F H) (h : H p = none) : Fm σ ρ F H σ ρ (upd F p o) (upd H p o) where
  len := rfl
  dom := (Fm.newfr (o := o) E h).dom
  keep := fun a u e n => ⟨Ex.new h a u e, by rw [upd_ne (ne_of_none e h)], n⟩
  pin := fun i m o h _ => ⟨⟨m, h, fun _ => rfl⟩, rfl⟩
  lck := fun i m a h1 h2 => upd_ne (own_ne E h h1 h2)
theorem get_set {α : Type} {l : List α} {i j : Nat} {x y : α} (h : (l.set i x)[j]? = some y) : (j = i ∧ y = x) ∨ (j ≠ i ∧ l[j]? = some y) := by
  by_cases e : i = j
  · subst e
    by_cases hi : i < l.length
    · rw [List.getElem?_set_self hi] at h
      injection h with h
      exact .inl ⟨rfl, h.symm⟩
    · rw [List.getElem?_eq_none (by simpa using hi)] at h
      cases h
  · rw [List.getElem?_set_ne e] at h
    exact .inr ⟨fun z => e z.symm, h⟩
theorem ER.setVal (E : ER K σ ρ F H) (h : i < ρ.length) (r : Rep K F v d) : ER K (σ.set i (some v)) (ρ.set i (.val d)) F H where
  sub := E.sub
  len := by simp [E.len]
  val := fun j d' e => by
    rcases get_set e with ⟨rfl, q⟩ | ⟨n, e⟩
    · cases q
      exact ⟨v, by rw [List.getElem?_set_self (by rw [E.len]; exact h)], r⟩
    · obtain ⟨v', h1, h2⟩ := E.val j d' e
      exact ⟨v', by rw [List.getElem?_set_ne (Ne.symm n)]; exact h1, h2⟩
  own := fun j m' w e => by
    rcases get_set e with ⟨rfl, q⟩ | ⟨n, e⟩
    · cases q
    · obtain ⟨a, ho, h1, h2⟩ := E.own j m' w e
      exact ⟨a, ho, by rw [List.getElem?_set_ne (Ne.symm n)]; exact h1, h2⟩
  dis := fun j k m1 m2 o1 o2 a e1 e2 s1 s2 => by
    rcases get_set e1 with ⟨rfl, q⟩ | ⟨n1, e1⟩
    · cases q
    rcases get_set e2 with ⟨rfl, q⟩ | ⟨n2, e2⟩
    · cases q
    rw [List.getElem?_set_ne (Ne.symm n1)] at s1
    rw [List.getElem?_set_ne (Ne.symm n2)] at s2
    exact E.dis j k m1 m2 o1 o2 a e1 e2 s1 s2
theorem ER.setOwn (E : ER K σ ρ F H) (h : i < ρ.length) (hF : F p = none) (hH : H p = some o) (r : MRep K F o m) (n : ¬ Owns σ ρ p) : ER K (σ.set i (some (.ref p))) (ρ.set i (.own m .loc)) F H where
  sub := E.sub
  len := by simp [E.len]
  val := fun j d' e => by
    rcases get_set e with ⟨rfl, q⟩ | ⟨n, e⟩
    · cases q
    · obtain ⟨v', h1, h2⟩ := E.val j d' e
      exact ⟨v', by rw [List.getElem?_set_ne (Ne.symm n)]; exact h1, h2⟩
  own := fun j m' w e => by
    rcases get_set e with ⟨rfl, q⟩ | ⟨n, e⟩
    · cases q
      exact ⟨p, o, by rw [List.getElem?_set_self (by rw [E.len]; exact h)], hF, hH, r⟩
    · obtain ⟨a, ho, h1, h2⟩ := E.own j m' w e
      exact ⟨a, ho, by rw [List.getElem?_set_ne (Ne.symm n)]; exact h1, h2⟩
  dis := fun j k m1 m2 o1 o2 a e1 e2 s1 s2 => by
    have hl : i < σ.length := by rw [E.len]; exact h
    rcases get_set e1 with ⟨j1, q1⟩ | ⟨n1, f1⟩
    · rcases get_set e2 with ⟨j2, q2⟩ | ⟨n2, f2⟩
      · rw [j1, j2]
      · rw [j1, List.getElem?_set_self hl] at s1
        rw [List.getElem?_set_ne (Ne.symm n2)] at s2
        have z : p = a := by injection s1 with s1; injection s1 with s1; injection s1
        exact absurd ⟨k, m2, o2, f2, z ▸ s2⟩ n
    · rw [List.getElem?_set_ne (Ne.symm n1)] at s1
      rcases get_set e2 with ⟨j2, q2⟩ | ⟨n2, f2⟩
      · rw [j2, List.getElem?_set_self hl] at s2
        have z : p = a := by injection s2 with s2; injection s2 with s2; injection s2
        exact absurd ⟨j, m1, o1, f1, z ▸ s1⟩ n
      · rw [List.getElem?_set_ne (Ne.symm n2)] at s2
        exact E.dis j k m1 m2 o1 o2 a f1 f2 s1 s2
/-- a slot may be stored to -/
def pinned (ρ : En) (i : Nat) : Bool := match ρ[i]? with
  | some (.own _ .bor) => true
  | some (.own _ .lck) => true
  | none => true
  | _ => false
theorem pinned_lt (h : pinned ρ i = false) : i < ρ.length := by
  unfold pinned at h
  cases e : ρ[i]? with
  | none =>
    rw [e] at h
    cases h
  | some x => exact (List.getElem?_eq_some_iff.mp e).1
theorem pinned_own {w : Ow} (h : pinned ρ i = false) (e : ρ[i]? = some (.own m w)) : w = .loc := by
  unfold pinned at h
  rw [e] at h
  cases w with
  | loc => rfl
  | bor => cases h
  | lck => cases h
theorem pin_set {s : Slot} {w : Option V} (h : pinned ρ i = false) (j : Nat) (mm : M) (o : Ow) (e : ρ[j]? = some (.own mm o)) (n : o ≠ .loc) :
    (∃ m', (ρ.set i s)[j]? = some (.own m' o) ∧ (o = .lck → m' = mm)) ∧ (σ.set i w)[j]? = σ[j]? := by
  have hne : i ≠ j := fun z => n (pinned_own (z ▸ h) e)
  rw [List.getElem?_set_ne hne, List.getElem?_set_ne hne]
  exact ⟨⟨mm, e, fun _ => rfl⟩, rfl⟩
theorem Fm.setVal (h : pinned ρ i = false) : Fm σ ρ F H (σ.set i (some v)) (ρ.set i (.val d)) F H where
  len := List.length_set
  dom := fun _ n => n
  keep := fun a u e n => ⟨e, rfl, fun ⟨j, m', w, h1, h2⟩ => by
    rcases get_set h1 with ⟨rfl, q⟩ | ⟨n1, h1⟩
    · cases q
    · rw [List.getElem?_set_ne (Ne.symm n1)] at h2
      exact n ⟨j, m', w, h1, h2⟩⟩
  pin := fun j m o e n => pin_set h j m o e n
  lck := fun _ _ _ _ _ => rfl
theorem Fm.setOwn (b : Fm σ' ρ0 F0 H0 σ ρ F H) (h : pinned ρ i = false) (h0 : H0 p = none) : Fm σ' ρ0 F0 H0 (σ.set i (some (.ref p))) (ρ.set i (.own m .loc)) F H where
  len := List.length_set.trans b.len
  dom := b.dom
  keep := fun a u e n => by
    obtain ⟨k1, k2, k3⟩ := b.keep a u e n
    refine ⟨k1, k2, fun ⟨j, m', w, h1, h2⟩ => ?_⟩
    rcases get_set h1 with ⟨rfl, q1⟩ | ⟨n1, h1⟩
    · rcases get_set h2 with ⟨_, z⟩ | ⟨z, _⟩
      · have z : a = p := by injection z with z; injection z
        rw [z, h0] at e
        cases e
      · exact z rfl
    · rw [List.getElem?_set_ne (Ne.symm n1)] at h2
      exact k3 ⟨j, m', w, h1, h2⟩
  pin := fun j mm o e n => by
    obtain ⟨⟨m1, g1, g2⟩, g3⟩ := b.pin j mm o e n
    obtain ⟨⟨m2, k1, k2⟩, k3⟩ := pin_set (σ := σ) (s := .own m .loc) (w := some (.ref p)) h j m1 o g1 n
    exact ⟨⟨m2, k1, fun z => (k2 z).trans (g2 z)⟩, k3.trans g3⟩
  lck := b.lck
end

/-! ### a result made fast -/
def fzSlot (ρ : En) (i : Nat) : Option Slot → Option (Except Exc D × En)
  | some (.val d) => some (.ok d, ρ)
  | some (.own m .loc) => some (.ok m.d, ρ.set i (.val m.d))
  | _ => none
def fz : R → EM D
  | .val d => EM.pure d
  | .fr m => EM.pure m.d
  | .loc i => fun ρ => fzSlot ρ i ρ[i]?
structure Fz (K : PySem.W.Frag) (σ : L2.St) (ρ0 : En) (F0 H0 : Hp) (ρ : En) (F H : Hp) (v : V) (r : R) (d : D) (ρ' : En) (F' : Hp) : Prop where
  er : ER K σ ρ' F' H
  fm : Fm σ ρ0 F0 H0 σ ρ' F' H
  rep : Rep K F' v d
  ex : Ex F F'
  ch : ∀ a, F' a ≠ F a → (v = .ref a ∧ ∃ m, r = .fr m) ∨ Owns σ ρ a
  ow : ∀ a, Owns σ ρ' a → Owns σ ρ a
section
variable {K : PySem.W.Frag} {σ σ' : L2.St} {ρ ρ' ρ0 : En} {F F' F0 H H' H0 : Hp} {i : Nat} {v : V} {r : R} {d : D} {m : M} {p : Addr} {o : HO}
theorem fz_ok (E : ER K σ ρ F H) (b : Fm σ ρ0 F0 H0 σ ρ F H) (h : RR K H0 σ ρ F H v r) {y : Except Exc D × En} (e : fz r ρ = some y) : ∃ d ρ' F', y = (.ok d, ρ') ∧ Fz K σ ρ0 F0 H0 ρ F H v r d ρ' F' := by
  cases r with
  | val d =>
    cases e
    exact ⟨d, ρ, F, rfl, E, b, h, Ex.refl F, fun a n => absurd rfl n, fun a z => z⟩
  | fr m =>
    cases e
    obtain ⟨p, ho, rfl, h0, h1, h2, h3, h4⟩ := h
    have ex : Ex F (upd F p ho) := Ex.new h1
    refine ⟨m.d, ρ, upd F p ho, rfl, ⟨fun a u e => ?_, E.len, fun i d e => ?_, fun i m w e => ?_, E.dis⟩, ⟨b.len, b.dom, fun a u e n => ?_, b.pin, b.lck⟩, (h3.mono ex).rep upd_same, ex, fun a n => ?_, fun a z => z⟩
    · by_cases z : a = p
      · subst z
        rw [upd_same] at e
        cases e
        exact h2
      · rw [upd_ne z] at e
        exact E.sub a u e
    · obtain ⟨v', g1, g2⟩ := E.val i d e
      exact ⟨v', g1, g2.mono ex⟩
    · obtain ⟨a, ho', g1, g2, g3, g4⟩ := E.own i m w e
      have n : a ≠ p := fun z => h4 ⟨i, m, w, e, z ▸ g1⟩
      exact ⟨a, ho', g1, by rw [upd_ne n]; exact g2, g3, g4.mono ex⟩
    · obtain ⟨k1, k2, k3⟩ := b.keep a u e n
      exact ⟨k1, by rw [upd_ne (ne_of_none e h0)]; exact k2, k3⟩
    · by_cases z : a = p
      · subst z
        exact .inl ⟨rfl, m, rfl⟩
      · rw [upd_ne z] at n
        exact absurd rfl n
  | loc i =>
    have hs : σ[i]? = some (some v) := h
    have e : fzSlot ρ i ρ[i]? = some y := e
    cases hi : ρ[i]? with
    | none =>
      rw [hi] at e
      cases e
    | some s =>
      rw [hi] at e
      cases s with
      | unb => cases e
      | val d =>
        cases e
        obtain ⟨v', g1, g2⟩ := E.val i d hi
        have z : v = v' := by rw [hs] at g1; injection g1 with g1; injection g1
        subst z
        exact ⟨d, ρ, F, rfl, E, b, g2, Ex.refl F, fun a n => absurd rfl n, fun a z => z⟩
      | own m w =>
        cases w with
        | bor => cases e
        | lck => cases e
        | loc =>
          cases e
          obtain ⟨a, ho, g1, g2, g3, g4⟩ := E.own i m .loc hi
          have z : v = .ref a := by rw [hs] at g1; injection g1 with g1; injection g1
          subst z
          have ex : Ex F (upd F a ho) := Ex.new g2
          have hp : pinned ρ i = false := by unfold pinned; rw [hi] <;> rfl
          have hlt := pinned_lt hp
          have hset : σ.set i (some (.ref a)) = σ := by
            refine List.ext_getElem? fun j => ?_
            by_cases z : i = j
            · subst z
              rw [List.getElem?_set_self (by rw [E.len]; exact hlt), hs]
            · rw [List.getElem?_set_ne z]
          have ow : ∀ b, Owns σ (ρ.set i (.val m.d)) b → Owns σ ρ b ∧ b ≠ a := by
            rintro b ⟨j, m', w, h1, h2⟩
            rcases get_set h1 with ⟨rfl, q⟩ | ⟨n1, h1⟩
            · cases q
            · refine ⟨⟨j, m', w, h1, h2⟩, fun z => n1 ?_⟩
              subst z
              exact E.dis j i m' m w .loc b h1 hi h2 hs
          refine ⟨m.d, ρ.set i (.val m.d), upd F a ho, rfl, ?_, ⟨List.length_set.trans b.len, b.dom, fun c u e n => ?_, fun j mm o e n => ?_, b.lck⟩, (g4.mono ex).rep upd_same, ex, fun c n => ?_, fun c z => (ow c z).1⟩
          · have E2 : ER K σ (ρ.set i (.val m.d)) (upd F a ho) H := by
              refine ⟨fun c u e => ?_, by simp [E.len], fun j d e => ?_, fun j m' w e => ?_, fun j k m1 m2 o1 o2 c e1 e2 s1 s2 => ?_⟩
              · by_cases z : c = a
                · subst z
                  rw [upd_same] at e
                  cases e
                  exact g3
                · rw [upd_ne z] at e
                  exact E.sub c u e
              · rcases get_set e with ⟨rfl, q⟩ | ⟨n, e⟩
                · cases q
                  exact ⟨_, hs, (g4.mono ex).rep upd_same⟩
                · obtain ⟨v', k1, k2⟩ := E.val j d e
                  exact ⟨v', k1, k2.mono ex⟩
              · rcases get_set e with ⟨rfl, q⟩ | ⟨n, e⟩
                · cases q
                · obtain ⟨c, ho', k1, k2, k3, k4⟩ := E.own j m' w e
                  have n2 : c ≠ a := fun z => n (E.dis j i m' m w .loc c e hi k1 (z ▸ hs))
                  exact ⟨c, ho', k1, by rw [upd_ne n2]; exact k2, k3, k4.mono ex⟩
              · rcases get_set e1 with ⟨rfl, q⟩ | ⟨n1, e1⟩
                · cases q
                rcases get_set e2 with ⟨rfl, q⟩ | ⟨n2, e2⟩
                · cases q
                exact E.dis j k m1 m2 o1 o2 c e1 e2 s1 s2
            exact E2
          · obtain ⟨k1, k2, k3⟩ := b.keep c u e n
            have n2 : c ≠ a := fun z => k3 ⟨i, m, .loc, hi, z ▸ hs⟩
            exact ⟨k1, by rw [upd_ne n2]; exact k2, fun z => k3 (ow c z).1⟩
          · obtain ⟨⟨m1, k1, k2⟩, k3⟩ := b.pin j mm o e n
            have n2 : i ≠ j := fun z => n (by subst z; rw [hi] at k1; injection k1 with k1; injection k1 with _ k1; exact k1.symm)
            exact ⟨⟨m1, by rw [List.getElem?_set_ne n2]; exact k1, k2⟩, k3⟩
          · by_cases z : c = a
            · subst z
              exact .inr ⟨i, m, .loc, hi, hs⟩
            · rw [upd_ne z] at n
              exact absurd rfl n
theorem RR.fz {v' : V} {r' : R} (z : Fz K σ ρ0 F0 H0 ρ F H v r d ρ' F') (h : RR K H0 σ ρ F H v' r') (n : ∀ m m' p, r = .fr m → r' = .fr m' → v' = .ref p → v ≠ .ref p) : RR K H0 σ ρ' F' H v' r' := by
  cases r' with
  | val d' => exact Rep.mono z.ex h
  | fr m' =>
    obtain ⟨p, ho, e, h0, h1, h2, h3, h4⟩ := h
    refine ⟨p, ho, e, h0, ?_, h2, h3.mono z.ex, fun k => h4 (z.ow p k)⟩
    apply Classical.byContradiction
    intro k
    rcases z.ch p (fun q => k (q.trans h1)) with ⟨k1, m, k2⟩ | k1
    · exact n m m' p k2 rfl e k1
    · exact h4 k1
  | loc i => exact h
end
end LF
end

-- part LFRules2
section
set_option Elab.async false
set_option linter.all false
set_option maxRecDepth 100000
set_option maxHeartbeats 2000000
namespace LF
open PySem PySem.Spec PyProof.Rows L2

/-! ### reading -/
def dSlot : Option Slot → Option D
  | some (.val d) => some d
  | some (.own m _) => some m.d
  | _ => none
def rd : R → En → Option D
  | .val d, _ => some d
  | .fr m, _ => some m.d
  | .loc i, ρ => dSlot ρ[i]?
section
variable {K : PySem.W.Frag} {σ : L2.St} {ρ ρ' ρ0 : En} {F F' F0 H H' H0 : Hp} {i : Nat} {v : V} {r : R} {d : D} {m : M}
/-- what is read: fast data, or an object that may still change -/
theorem rd_cases (E : ER K σ ρ F H) (h : RR K H0 σ ρ F H v r) (e : rd r ρ = some d) : Rep K F v d ∨ ∃ a ho m, v = .ref a ∧ H a = some ho ∧ MRep K F ho m ∧ d = m.d := by
  cases r with
  | val d' =>
    cases e
    exact .inl h
  | fr m =>
    cases e
    obtain ⟨p, ho, e, h0, h1, h2, h3, h4⟩ := h
    exact .inr ⟨p, ho, m, e, h2, h3, rfl⟩
  | loc i =>
    have hs : σ[i]? = some (some v) := h
    have e : dSlot ρ[i]? = some d := e
    cases hi : ρ[i]? with
    | none =>
      rw [hi] at e
      cases e
    | some s =>
      rw [hi] at e
      cases s with
      | unb => cases e
      | val d' =>
        cases e
        obtain ⟨v', g1, g2⟩ := E.val i d hi
        rw [hs] at g1
        injection g1 with g1
        injection g1 with g1
        exact .inl (g1 ▸ g2)
      | own m w =>
        cases e
        obtain ⟨a, ho, g1, g2, g3, g4⟩ := E.own i m w hi
        rw [hs] at g1
        injection g1 with g1
        injection g1 with g1
        exact .inr ⟨a, ho, m, g1, g3, g4, rfl⟩
theorem rd_rep (E : ER K σ ρ F H) (h : RR K H0 σ ρ F H v r) (e : rd r ρ = some d) : Rep K H v d := by
  rcases rd_cases E h e with h | ⟨a, ho, m, rfl, h1, h2, rfl⟩
  · exact h.mono E.sub
  · exact (h2.mono E.sub).rep h1
theorem rd_F (E : ER K σ ρ F H) (h : RR K H0 σ ρ F H v r) (e : rd r ρ = some d) (n : ∀ m : M, d ≠ m.d) : Rep K F v d := by
  rcases rd_cases E h e with h | ⟨a, ho, m, rfl, h1, h2, e⟩
  · exact h
  · exact absurd e (n m)
theorem rep_list {ds : List D} (h : Rep K F v (.list ds)) : ∃ a xs, v = .ref a ∧ F a = some (.lst xs) ∧ RepL K F xs ds := by
  generalize e : PyData.list ds = d at h
  cases h with
  | lst h1 h2 =>
    cases e
    exact ⟨_, _, rfl, h1, h2⟩
  | dK h1 h2 => cases e
  | _ => cases e
theorem rep_tup {ds : List D} (h : Rep K F v (.tuple ds)) : ∃ a xs, v = .ref a ∧ SqT K F a xs ∧ RepL K F xs ds := by
  generalize e : PyData.tuple ds = d at h
  cases h with
  | tup h1 h2 =>
    cases e
    exact ⟨_, _, rfl, h1, h2⟩
  | dK h1 h2 => cases e
  | _ => cases e
theorem rep_int {n : Int} (h : Rep K F v (.int n)) : v = .int n := by
  generalize e : PyData.int n = d at h
  cases h with
  | int i =>
    cases e
    rfl
  | dK h1 h2 => cases e
  | _ => cases e
theorem rep_bl {n : Bool} (h : Rep K F v (.bool n)) : v = .bl n := by
  generalize e : PyData.bool n = d at h
  cases h with
  | bl i =>
    cases e
    rfl
  | dK h1 h2 => cases e
  | _ => cases e
theorem rep_str {n : Str} (h : Rep K F v (.str n)) : v = .str n := by
  generalize e : PyData.str n = d at h
  cases h with
  | str i =>
    cases e
    rfl
  | dK h1 h2 => cases e
  | _ => cases e
theorem rep_non (h : Rep K F v .none) : v = .non := by
  generalize e : PyData.none = d at h
  cases h with
  | non => rfl
  | dK h1 h2 => cases e
  | _ => cases e
theorem rd_list {ds : List D} (E : ER K σ ρ F H) (h : RR K H0 σ ρ F H v r) (e : rd r ρ = some (.list ds)) : ∃ a xs, v = .ref a ∧ H a = some (.lst xs) ∧ RepL K F xs ds := by
  rcases rd_cases E h e with h | ⟨a, ho, m, rfl, h1, h2, e⟩
  · obtain ⟨a, xs, e, h1, h2⟩ := rep_list h
    exact ⟨a, xs, e, E.sub _ _ h1, h2⟩
  · cases h2 with
    | lst h2 =>
      cases e
      exact ⟨a, _, rfl, h1, h2⟩
    | dK h2 => cases e
theorem rd_tup {ds : List D} (E : ER K σ ρ F H) (h : RR K H0 σ ρ F H v r) (e : rd r ρ = some (.tuple ds)) : ∃ a xs, v = .ref a ∧ SqT K F a xs ∧ RepL K F xs ds :=
  rep_tup (rd_F E h e fun m z => by cases m <;> cases z)
theorem rd_int {n : Int} (E : ER K σ ρ F H) (h : RR K H0 σ ρ F H v r) (e : rd r ρ = some (.int n)) : v = .int n := rep_int (rd_rep E h e)
theorem rd_bl {n : Bool} (E : ER K σ ρ F H) (h : RR K H0 σ ρ F H v r) (e : rd r ρ = some (.bool n)) : v = .bl n := rep_bl (rd_rep E h e)
theorem rd_str {n : Str} (E : ER K σ ρ F H) (h : RR K H0 σ ρ F H v r) (e : rd r ρ = some (.str n)) : v = .str n := rep_str (rd_rep E h e)
theorem rd_non (E : ER K σ ρ F H) (h : RR K H0 σ ρ F H v r) (e : rd r ρ = some .none) : v = .non := rep_non (rd_rep E h e)
end

/-! ### how a piece ends -/
section
variable {C : Ctx} {W : WX} {σ : L2.St} {ρ ρ0 ρ1 : En} {F F0 F1 H H0 H1 : Hp} {Q : VK} {v : V} {d : D} {p : Addr}
theorem fin_val (hr : Res C W σ ρ0 F0 H0 (.ok (.val d), ρ) Q) (E : ER C.K σ ρ F H) (m : Fm σ ρ0 F0 H0 σ ρ F H) (r : Rep C.K F v d) : Q v H := hr v F H E m r
theorem fin_new {o : HO} {mm : M} (hr : Res C W σ ρ0 F0 H0 (.ok (.fr mm), ρ) Q) (E : ER C.K σ ρ F H) (m : Fm σ ρ0 F0 H0 σ ρ F H) (r : MRep C.K F o mm) (hp : H p = none) : Q (.ref p) (upd H p o) :=
  hr (.ref p) F (upd H p o) (E.newfr hp) (m.trans (Fm.newfr E hp)) ⟨p, o, rfl, Classical.byContradiction fun z => m.dom p z hp, none_sub E hp, upd_same, r, not_owns_new E hp⟩
theorem fin_tup {vs : List V} {ds : List D} (hr : Res C W σ ρ0 F0 H0 (.ok (.val (.tuple ds)), ρ) Q) (E : ER C.K σ ρ F H) (m : Fm σ ρ0 F0 H0 σ ρ F H) (r : RepL C.K F vs ds) (hp : H p = none) : Q (.ref p) (upd H p (.tup vs)) :=
  hr (.ref p) (upd F p (.tup vs)) (upd H p (.tup vs)) (E.newF hp) (m.trans (Fm.newF E hp)) (.tup (st_of upd_same) (r.mono (Ex.new (none_sub E hp))))
end

section
variable {X : Cx} {ex : Str → Addr} {W : WX} {pos : Pos} {e a b c : Expr} {es : List Expr} {fa fb fc : EM R} {fs : EM (List R)}
/-! ### names, constants -/
def eVar (i : Nat) : EM R := fun ρ => match ρ[i]? with
  | some (.val d) => some (.ok (.val d), ρ)
  | some (.own _ _) => some (.ok (.loc i), ρ)
  | _ => none
theorem l_var (i : Nat) {x : Str} (hN : X.N[i]? = some x := by rfl) (hv : Vis X.env.scope x := by first | exact Or.inl rfl | exact Or.inr (Or.inl rfl) | exact Or.inr (Or.inr rfl)) (hd : (x == ("__debug__" : Str)) = false := by decide)
    (hcd : (x == ("__classdict__" : Str)) = false := by decide) : PE X (.Name x pos) (DE ⟨X.K, ex⟩ W (eVar i)) := by
  refine impE (pe_var hN hv hd hcd) fun σ H Q h => ?_
  obtain ⟨ρ, F, y, E, e, hr⟩ := h
  unfold eVar at e
  cases hi : ρ[i]? with
  | none =>
    rw [hi] at e
    cases e
  | some s =>
    rw [hi] at e
    cases s with
    | unb => cases e
    | val d =>
      cases e
      obtain ⟨v, g1, g2⟩ := E.val i d hi
      exact ⟨v, g1, hr v F H E (Fm.refl σ ρ F H) g2⟩
    | own m w =>
      cases e
      obtain ⟨a, ho, g1, g2⟩ := E.own i m w hi
      exact ⟨.ref a, g1, hr (.ref a) F H E (Fm.refl σ ρ F H) g1⟩
def eC (d : D) : EM R := EM.pure (.val d)
theorem c_in {v : V} {d : D} (h : ∀ F : Hp, Rep X.K F v d) {σ : L2.St} {H : Hp} {Q : VK} (k : DE ⟨X.K, ex⟩ W (eC d) σ H Q) : Q v H := by
  obtain ⟨ρ, F, y, E, e, hr⟩ := k
  cases e
  exact hr v F H E (Fm.refl σ ρ F H) (h F)
theorem l_int {i : Int} {j} : PE X (.Constant (.int i) j pos) (DE ⟨X.K, ex⟩ W (eC (.int i))) := impE pe_int fun _ _ _ h => c_in (fun _ => .int i) h
theorem l_bl {b : Bool} {j} : PE X (.Constant (.bool b) j pos) (DE ⟨X.K, ex⟩ W (eC (.bool b))) := impE pe_bl fun _ _ _ h => c_in (fun _ => .bl b) h
theorem l_non {j} : PE X (.Constant .none j pos) (DE ⟨X.K, ex⟩ W (eC .none)) := impE pe_non fun _ _ _ h => c_in (fun _ => .non) h
theorem l_str {x : Str} {j} : PE X (.Constant (.str x) j pos) (DE ⟨X.K, ex⟩ W (eC (.str x))) := impE pe_str fun _ _ _ h => c_in (fun _ => .str x) h
/-- a name of the module that holds a number, a text, a tuple -/
theorem l_glob {x : Str} {v : V} {u : Value} {d : D} (hg : Gl X x) (hm : X.mg x = some u) (r : RelV v u) (h : ∀ F : Hp, Rep X.K F v d) (hd : (x == ("__debug__" : Str)) = false := by decide) : PE X (.Name x pos) (DE ⟨X.K, ex⟩ W (eC d)) :=
  impE (pe_glob hg hm r hd) fun _ _ _ k => c_in h k

/-! ### arguments, displays -/
def aNil : EM (List R) := EM.pure []
def aCons (fa : EM R) (fs : EM (List R)) : EM (List R) := EM.bind fa fun r => EM.bind fs fun rs => EM.pure (r :: rs)
theorem l_nil : PA X [] (DA ⟨X.K, ex⟩ W aNil) := impA pa_nil fun σ H Q h => by
  obtain ⟨ρ, F, y, E, e, hr⟩ := h
  cases e
  exact hr [] F H E (Fm.refl σ ρ F H) .nil
theorem RRs.step {K : PySem.W.Frag} {H0 : Hp} {σ : L2.St} {ρ ρ' : En} {F F' H H' : Hp} (E : ER K σ ρ F H) (m : Fm σ ρ F H σ ρ' F' H') : ∀ {vs : List V} {rs : List R}, RRs K H0 σ ρ F H vs rs → RRs K H0 σ ρ' F' H' vs rs
  | _, _, .nil => .nil
  | _, _, .cons h r n => .cons (h.step E m) (RRs.step E m r) n
theorem RRs.back {K : PySem.W.Frag} {H0 H1 : Hp} {σ : L2.St} {ρ : En} {F H : Hp} (m : ∀ a, H1 a ≠ none → H0 a ≠ none) : ∀ {vs : List V} {rs : List R}, RRs K H0 σ ρ F H vs rs → RRs K H1 σ ρ F H vs rs
  | _, _, .nil => .nil
  | _, _, .cons h r n => .cons (h.back m) (RRs.back m r) n
theorem RRs.fresh {K : PySem.W.Frag} {H0 : Hp} {σ : L2.St} {ρ : En} {F H : Hp} {p : Addr} {m : M} : ∀ {vs : List V} {rs : List R}, RRs K H0 σ ρ F H vs rs → (V.ref p, R.fr m) ∈ vs.zip rs → H0 p = none
  | _, _, .nil, h => by simp at h
  | _, _, .cons h r n, q => by
    rw [List.zip_cons_cons] at q
    rcases List.mem_cons.mp q with q | q
    · cases q
      obtain ⟨p', ho, e, h0, _⟩ := h
      cases e
      exact h0
    · exact RRs.fresh r q
theorem l_cons (ha : PE X e (DE ⟨X.K, ex⟩ W fa)) (hr : PA X es (DA ⟨X.K, ex⟩ W fs)) (hs : starEach (e :: es) X.env = (false, eval e X.env) :: starEach es X.env := by rfl) : PA X (e :: es) (DA ⟨X.K, ex⟩ W (aCons fa fs)) :=
  impA (pa_cons ha hr hs) fun σ H Q h => by
    obtain ⟨ρ, F, y, E, e, hr⟩ := h
    refine (split E (Fm.refl σ ρ F H) e hr.err).mono fun v H1 ⟨r, ρ1, F1, E1, m1, _, rr, e1⟩ => ?_
    refine (splitA E1 m1 e1 hr.err).mono fun vs H2 ⟨rs, ρ2, F2, E2, m2, m12, rrs, e2⟩ => ?_
    cases e2
    refine hr (v :: vs) F2 H2 E2 m2 (.cons (rr.step E1 m12) (rrs.back m1.dom) fun m m' p q q' z => ?_)
    have h1 : H1 p = none := rrs.fresh z
    subst q
    subst q'
    obtain ⟨p', ho, e', _, _, h2, _⟩ := rr
    cases e'
    rw [h1] at h2
    cases h2
theorem RRs.fz {K : PySem.W.Frag} {σ : L2.St} {ρ0 ρ ρ' : En} {F0 H0 F F' H : Hp} {v : V} {r : R} {d : D} (Z : Fz K σ ρ0 F0 H0 ρ F H v r d ρ' F') : ∀ {vs : List V} {rs : List R}, RRs K H0 σ ρ F H vs rs →
    (∀ m m' p, r = .fr m → v = .ref p → ¬ ((V.ref p, R.fr m') ∈ vs.zip rs)) → RRs K H0 σ ρ' F' H vs rs
  | _, _, .nil, _ => .nil
  | _, _, .cons g gs gn, hn => by
    refine .cons (RR.fz Z g fun m1 m2 p q1 q2 q3 q4 => hn m1 m2 p q1 q4 ?_) (RRs.fz Z gs fun m1 m2 p q1 q2 q3 => hn m1 m2 p q1 q2 ?_) gn
    · rw [q2, q3, List.zip_cons_cons]
      exact List.mem_cons_self
    · rw [List.zip_cons_cons]
      exact List.mem_cons_of_mem _ q3
def fzAll : List R → EM (List D)
  | [] => EM.pure []
  | r :: rs => EM.bind (fz r) fun d => EM.bind (fzAll rs) fun ds => EM.pure (d :: ds)
theorem fzAll_ok {K : PySem.W.Frag} {σ : L2.St} {ρ0 : En} {F0 H0 H : Hp} : ∀ {rs : List R} {vs : List V} {ρ : En} {F : Hp} {y : Except Exc (List D) × En}, ER K σ ρ F H → Fm σ ρ0 F0 H0 σ ρ F H → RRs K H0 σ ρ F H vs rs → fzAll rs ρ = some y →
    ∃ ds ρ' F', y = (.ok ds, ρ') ∧ ER K σ ρ' F' H ∧ Fm σ ρ0 F0 H0 σ ρ' F' H ∧ RepL K F' vs ds ∧ Ex F F'
  | [], vs, ρ, F, y, E, m, h, e => by
    cases e
    cases h
    exact ⟨[], ρ, F, rfl, E, m, .nil, Ex.refl F⟩
  | r :: rs, vs, ρ, F, y, E, m, h, e => by
    cases h with
    | cons h hs n =>
      rename_i v vs
      unfold fzAll EM.bind at e
      cases hf : fz r ρ with
      | none =>
        rw [hf] at e
        cases e
      | some z =>
        obtain ⟨d, ρ1, F1, rfl, Z⟩ := fz_ok E m h hf
        rw [hf] at e
        have e : EM.bind (fzAll rs) (fun ds => EM.pure (d :: ds)) ρ1 = some y := e
        have hs1 : RRs K H0 σ ρ1 F1 H vs rs := hs.fz Z n
        unfold EM.bind at e
        cases hg : fzAll rs ρ1 with
        | none =>
          rw [hg] at e
          cases e
        | some z =>
          obtain ⟨ds, ρ2, F2, rfl, E2, m2, r2, x2⟩ := fzAll_ok Z.er Z.fm hs1 hg
          rw [hg] at e
          cases e
          exact ⟨d :: ds, ρ2, F2, rfl, E2, m2, .cons (Z.rep.mono x2) r2, Z.ex.trans x2⟩
def eTup (fs : EM (List R)) : EM R := EM.bind fs fun rs => EM.bind (fzAll rs) fun ds => if ds.length ≤ sizeLine then EM.pure (.val (.tuple ds)) else EM.stuck
def eLst (fs : EM (List R)) : EM R := EM.bind fs fun rs => EM.bind (fzAll rs) fun ds => if ds.length ≤ sizeLine then EM.pure (.fr (.lst ds)) else EM.stuck
theorem all_in {β : Type} {K : PySem.W.Frag} {σ : L2.St} {ρ0 : En} {F0 H0 H : Hp} {rs : List R} {vs : List V} {ρ : En} {F : Hp} {g : List D → EM β} {y : Except Exc β × En} (E : ER K σ ρ F H) (m : Fm σ ρ0 F0 H0 σ ρ F H) (h : RRs K H0 σ ρ F H vs rs)
    (e : EM.bind (fzAll rs) g ρ = some y) : ∃ ds ρ' F', ER K σ ρ' F' H ∧ Fm σ ρ0 F0 H0 σ ρ' F' H ∧ RepL K F' vs ds ∧ g ds ρ' = some y := by
  unfold EM.bind at e
  cases hf : fzAll rs ρ with
  | none =>
    rw [hf] at e
    cases e
  | some z =>
    obtain ⟨ds, ρ', F', rfl, E', m', r', _⟩ := fzAll_ok E m h hf
    rw [hf] at e
    exact ⟨ds, ρ', F', E', m', r', e⟩
theorem one_in {β : Type} {K : PySem.W.Frag} {σ : L2.St} {ρ0 : En} {F0 H0 H : Hp} {r : R} {v : V} {ρ : En} {F : Hp} {g : D → EM β} {y : Except Exc β × En} (E : ER K σ ρ F H) (m : Fm σ ρ0 F0 H0 σ ρ F H) (h : RR K H0 σ ρ F H v r)
    (e : EM.bind (fz r) g ρ = some y) : ∃ d ρ' F', Fz K σ ρ0 F0 H0 ρ F H v r d ρ' F' ∧ g d ρ' = some y := by
  unfold EM.bind at e
  cases hf : fz r ρ with
  | none =>
    rw [hf] at e
    cases e
  | some z =>
    obtain ⟨d, ρ', F', rfl, Z⟩ := fz_ok E m h hf
    rw [hf] at e
    exact ⟨d, ρ', F', Z, e⟩
theorem l_tup {k} (h : PA X es (DA ⟨X.K, ex⟩ W fs)) : PE X (.Tuple es k pos) (DE ⟨X.K, ex⟩ W (eTup fs)) := impE (pe_tup h) fun σ H Q h => by
  obtain ⟨ρ, F, y, E, e, hr⟩ := h
  refine (splitA E (Fm.refl σ ρ F H) e hr.err).mono fun vs H1 ⟨rs, ρ1, F1, E1, m1, _, rrs, e1⟩ => ?_
  obtain ⟨ds, ρ2, F2, E2, m2, r2, e2⟩ := all_in E1 m1 rrs e1
  by_cases hz : ds.length ≤ sizeLine
  · rw [if_pos hz] at e2
    cases e2
    exact ⟨by rw [r2.length]; exact hz, fun p hp => fin_tup hr E2 m2 r2 hp⟩
  · rw [if_neg hz] at e2
    cases e2
theorem l_lst (h : PA X es (DA ⟨X.K, ex⟩ W fs)) : PE X (.List es pos) (DE ⟨X.K, ex⟩ W (eLst fs)) := impE (pe_lst h) fun σ H Q h => by
  obtain ⟨ρ, F, y, E, e, hr⟩ := h
  refine (splitA E (Fm.refl σ ρ F H) e hr.err).mono fun vs H1 ⟨rs, ρ1, F1, E1, m1, _, rrs, e1⟩ => ?_
  obtain ⟨ds, ρ2, F2, E2, m2, r2, e2⟩ := all_in E1 m1 rrs e1
  by_cases hz : ds.length ≤ sizeLine
  · rw [if_pos hz] at e2
    cases e2
    exact ⟨by rw [r2.length]; exact hz, fun p hp => fin_new hr E2 m2 (.lst r2) hp⟩
  · rw [if_neg hz] at e2
    cases e2

/-! ### two-place operations on what is read -/
/-- what an operation hands on: data that stand, a new list -/
inductive Got where
  | v (d : D) | l (ds : List D)
def Got.r : Got → R
  | .v d => .val d
  | .l ds => .fr (.lst ds)
def e2 (g : D → D → Option Got) (fa fb : EM R) : EM R := EM.bind fa fun x => EM.bind fb fun y => fun ρ => match rd x ρ, rd y ρ with
  | some d, some d' => (g d d').map fun z => (.ok z.r, ρ)
  | _, _ => none
/-- g tells what r does -/
def Op2 (K : PySem.W.Frag) (r : R2) (g : D → D → Option Got) : Prop := ∀ (F H : Hp) (x y : V) (d d' : D) (z : Got) (Q : VK), Ex F H →
  (∀ ds, d = .list ds → ∃ a xs, x = .ref a ∧ H a = some (.lst xs) ∧ RepL K F xs ds) → (∀ ds, d' = .list ds → ∃ a xs, y = .ref a ∧ H a = some (.lst xs) ∧ RepL K F xs ds) →
  (∀ ds, d = .tuple ds → ∃ a xs, x = .ref a ∧ SqT K F a xs ∧ RepL K F xs ds) → (∀ ds, d' = .tuple ds → ∃ a xs, y = .ref a ∧ SqT K F a xs ∧ RepL K F xs ds) →
  Rep K H x d → Rep K H y d' → g d d' = some z →
  (∀ u e, z = .v e → Rep K F u e → Q u H) → (∀ ds vs p, z = .l ds → RepL K F vs ds → H p = none → Q (.ref p) (upd H p (.lst vs))) → (∀ ds vs p, z = .v (.tuple ds) → RepL K F vs ds → H p = none → Q (.ref p) (upd H p (.tup vs))) → r x y H Q
theorem l_2 {r : R2} {g : D → D → Option Got} {t : TE → TE → TE} (o : Op2 X.K r g) {fa fb : EM R} {σ : L2.St} {H : Hp} {Q : VK} (h : DE ⟨X.K, ex⟩ W (e2 g fa fb) σ H Q) : tOp r (DE ⟨X.K, ex⟩ W fa) (DE ⟨X.K, ex⟩ W fb) σ H Q := by
  obtain ⟨ρ, F, y, E, e, hr⟩ := h
  refine (split E (Fm.refl σ ρ F H) e hr.err).mono fun v H1 ⟨r1, ρ1, F1, E1, m1, _, rr1, e1⟩ => ?_
  refine (split E1 m1 e1 hr.err).mono fun u H2 ⟨r2, ρ2, F2, E2, m2, m12, rr2, e2⟩ => ?_
  have rr1 := rr1.step E1 m12
  have e2 : (match rd r1 ρ2, rd r2 ρ2 with
    | some d, some d' => (g d d').map fun z => (Except.ok (ε := Exc) z.r, ρ2)
    | _, _ => none) = some y := e2
  cases h1 : rd r1 ρ2 with
  | none =>
    rw [h1] at e2
    cases e2
  | some d =>
    rw [h1] at e2
    cases h2 : rd r2 ρ2 with
    | none =>
      rw [h2] at e2
      cases e2
    | some d' =>
      rw [h2] at e2
      have e2 : (g d d').map (fun z => (Except.ok (ε := Exc) z.r, ρ2)) = some y := e2
      cases hg : g d d' with
      | none =>
        rw [hg] at e2
        cases e2
      | some z =>
        rw [hg] at e2
        cases e2
        refine o F2 H2 v u d d' z Q E2.sub (fun ds q => rd_list E2 rr1 (q ▸ h1)) (fun ds q => rd_list E2 rr2 (q ▸ h2)) (fun ds q => rd_tup E2 rr1 (q ▸ h1)) (fun ds q => rd_tup E2 rr2 (q ▸ h2)) (rd_rep E2 rr1 h1) (rd_rep E2 rr2 h2) hg (fun u e q rp => ?_) (fun ds vs p q rp hp => ?_) fun ds vs p q rp hp => ?_
        · subst q
          exact fin_val hr E2 m2 rp
        · subst q
          exact fin_new hr E2 m2 (.lst rp) hp
        · subst q
          exact fin_tup hr E2 m2 rp hp
end
end LF
end

-- part LFRules3
section
set_option Elab.async false
set_option linter.all false
set_option maxRecDepth 100000
set_option maxHeartbeats 2000000
namespace LF
open PySem PySem.Spec PyProof.Rows L2

/-! ### the operators -/
def gAdd : D → D → Option Got
  | .int i, .int j => some (.v (.int (i + j)))
  | .int i, .bool b => some (.v (.int (i + b2i b)))
  | .bool b, .int i => some (.v (.int (b2i b + i)))
  | .str a, .str b => if a.length + b.length ≤ sizeLine then some (.v (.str (a ++ b))) else none
  | .list xs, .list ys => if xs.length + ys.length ≤ sizeLine then some (.l (xs ++ ys)) else none
  | .tuple xs, .tuple ys => if xs.length + ys.length ≤ sizeLine then some (.v (.tuple (xs ++ ys))) else none
  | _, _ => none
section
variable {X : Cx}
theorem op_add_bi : OpR X (binaryOp .Add) (fun x y H Q => ∃ i k, x = .bl k ∧ y = .int i ∧ Q (.int (b2i k + i)) H) := by
  intro pins s σ H x y v u Q I rx ry h
  obtain ⟨i, k, rfl, rfl, q⟩ := h
  obtain ⟨t, rfl⟩ := ry
  cases rx
  exact PySem.IntBool.add_bool_int ⟨.int (b2i k + i), H, I.tok _, ⟨_, rfl⟩, q⟩
def rAddU (K : PySem.W.Frag) : R2 := fun x y H Q => rI0 (fun i j => .int (i + j)) x y H Q ∨ (∃ i k, x = .int i ∧ y = .bl k ∧ Q (.int (i + b2i k)) H) ∨ (∃ i k, x = .bl k ∧ y = .int i ∧ Q (.int (b2i k + i)) H) ∨
  (∃ i j, x = .str i ∧ y = .str j ∧ i.length + j.length ≤ sizeLine ∧ Q (.str (i ++ j)) H) ∨ rCat x y H Q ∨ rCatA K x y H Q
theorem op_addU : OpR X (binaryOp .Add) (rAddU X.K) := op_add.or (op_add_ib.or (op_add_bi.or (op_add_str.or (op_cat.or op_catA))))
end
theorem add_2 (K : PySem.W.Frag) : Op2 K (rAddU K) gAdd := by
  intro F H x y d d' z Q e hl hl' ht ht' rx ry hg qv ql qt
  unfold gAdd at hg
  split at hg
  · cases hg
    exact .inl ⟨_, _, rep_int rx, rep_int ry, qv _ _ rfl (.int _)⟩
  · cases hg
    exact .inr (.inl ⟨_, _, rep_int rx, rep_bl ry, qv _ _ rfl (.int _)⟩)
  · cases hg
    exact .inr (.inr (.inl ⟨_, _, rep_bl rx, rep_int ry, qv _ _ rfl (.int _)⟩))
  · split at hg
    · rename_i hz
      cases hg
      exact .inr (.inr (.inr (.inl ⟨_, _, rep_str rx, rep_str ry, hz, qv _ _ rfl (.str _)⟩)))
    · cases hg
  · split at hg
    · rename_i hz
      cases hg
      obtain ⟨a, xs, e1, h1, r1⟩ := hl _ rfl
      obtain ⟨b, ys, e2, h2, r2⟩ := hl' _ rfl
      exact .inr (.inr (.inr (.inr (.inl ⟨a, b, xs, ys, e1, e2, h1, h2, by rw [r1.length, r2.length]; exact hz, fun p hp => ql _ _ p rfl (r1.append r2) hp⟩))))
    · cases hg
  · split at hg
    · rename_i hz
      cases hg
      obtain ⟨a, xs, e1, h1, r1⟩ := ht _ rfl
      obtain ⟨b, ys, e2, h2, r2⟩ := ht' _ rfl
      refine .inr (.inr (.inr (.inr (.inr ⟨a, b, xs, ys, e1, e2, ex_t e h1, ex_t e h2, by rw [r1.length, r2.length]; exact hz, fun z => ?_, fun n z => ?_, fun n n' p hp => qt _ _ p rfl (r1.append r2) hp⟩))))
      · subst z
        cases r1
        exact qv _ _ rfl (.tup h2 r2)
      · subst z
        cases r2
        refine qv _ _ rfl ?_
        rw [List.append_nil]
        exact .tup h1 r1
    · cases hg
  · cases hg
def gI (p : Int → Int → Option Int) : D → D → Option Got
  | .int i, .int j => (p i j).map fun k => .v (.int k)
  | _, _ => none
theorem gI_2 {K : PySem.W.Frag} {Cc : Int → Int → Prop} {g : Int → Int → Int} {p : Int → Int → Option Int} (h : ∀ i j k, p i j = some k → Cc i j ∧ k = g i j) : Op2 K (rI Cc fun i j => .int (g i j)) (gI p) := by
  intro F H x y d d' z Q e hl hl' ht ht' rx ry hg qv ql qt
  unfold gI at hg
  split at hg
  · rename_i i j
    cases hp : p i j with
    | none =>
      rw [hp] at hg
      cases hg
    | some k =>
      rw [hp] at hg
      cases hg
      obtain ⟨h1, rfl⟩ := h i j k hp
      exact ⟨i, j, rep_int rx, rep_int ry, h1, qv _ _ rfl (.int _)⟩
  · cases hg
theorem gI_20 {K : PySem.W.Frag} {g : Int → Int → Int} : Op2 K (rI0 fun i j => .int (g i j)) (gI fun i j => some (g i j)) := by
  intro F H x y d d' z Q e hl hl' ht ht' rx ry hg qv ql qt
  unfold gI at hg
  split at hg
  · cases hg
    exact ⟨_, _, rep_int rx, rep_int ry, qv _ _ rfl (.int _)⟩
  · cases hg
def gSub : D → D → Option Got := gI fun i j => some (i - j)
def pMod (i j : Int) : Option Int := if 0 < j then some (i % j) else none
def gMod : D → D → Option Got := gI pMod
def pDiv (i j : Int) : Option Int := if 0 < j ∧ j < 1073741824 then some (i / j) else none
def gDiv : D → D → Option Got := gI pDiv
def pPow (i j : Int) : Option Int := if 0 ≤ j ∧ j ≤ 1000000 ∧ i.natAbs < 2 ^ 64 then some (i ^ j.toNat) else none
def gPow : D → D → Option Got := gI pPow
theorem sub_2 (K : PySem.W.Frag) : Op2 K (rI0 fun i j => .int (i - j)) gSub := gI_20
theorem mod_2 (K : PySem.W.Frag) : Op2 K (rI (fun _ j => 0 < j) fun i j => .int (i % j)) gMod := gI_2 fun i j k h => by
  unfold pMod at h
  split at h
  · cases h
    exact ⟨by assumption, rfl⟩
  · cases h
theorem div_2 (K : PySem.W.Frag) : Op2 K (rI CDiv fun i j => .int (i / j)) gDiv := gI_2 fun i j k h => by
  unfold pDiv at h
  split at h
  · cases h
    exact ⟨by assumption, rfl⟩
  · cases h
theorem pow_2 (K : PySem.W.Frag) : Op2 K (rI CPow fun i j => .int (i ^ j.toNat)) gPow := gI_2 fun i j k h => by
  unfold pPow at h
  split at h
  · cases h
    exact ⟨by assumption, rfl⟩
  · cases h
/-- * -/
def gMul : D → D → Option Got
  | .int i, .int j => if (-(2 ^ 64) < i ∧ i < 2 ^ 64) ∨ (-(2 ^ 64) < j ∧ j < 2 ^ 64) then some (.v (.int (i * j))) else none
  | .list xs, .int k => if -(2 ^ 63) ≤ k ∧ k < 2 ^ 63 ∧ xs.length * k.toNat ≤ sizeLine then some (.l (List.replicate k.toNat xs).flatten) else none
  | .tuple xs, .int k => if xs.length ≠ 0 ∧ 2 ≤ k ∧ k ≤ 1000 ∧ xs.length ≤ 1000 then some (.v (.tuple (List.replicate k.toNat xs).flatten)) else none
  | .str a, .int k => if 0 ≤ k ∧ k ≤ 1000 ∧ a.length ≤ 1000 then some (.v (.str (Txt.mul a k))) else none
  | _, _ => none
def rMulS : R2 := fun x y H Q => ∃ (a : Str) (k : Int), x = .str a ∧ y = .int k ∧ 0 ≤ k ∧ k ≤ 1000 ∧ a.length ≤ 1000 ∧ Q (.str (Txt.mul a k)) H
theorem op_mulS {X : Cx} : OpR X (binaryOp .Mult) rMulS := by
  intro pins s σ H x y v u Q I rx ry h
  obtain ⟨a, k, rfl, rfl, h0, h1, h2, q⟩ := h
  obtain ⟨t, rfl⟩ := rx
  obtain ⟨t', rfl⟩ := ry
  exact SB.mul (mulOk_of 1000 1000 h2 h1 (by omega) (by decide) (by decide)) fun t'' c => ⟨.str (Txt.mul a k), H, I.tok _, ⟨_, rfl⟩, q⟩
def rMulU (K : PySem.W.Frag) : R2 := fun x y H Q => rI CMul (fun i j => .int (i * j)) x y H Q ∨ rRep x y H Q ∨ rRepT K x y H Q ∨ rMulS x y H Q
theorem op_mulU {X : Cx} : OpR X (binaryOp .Mult) (rMulU X.K) := op_mul.or (op_rep.or (op_repT.or op_mulS))
theorem mul_2 (K : PySem.W.Frag) : Op2 K (rMulU K) gMul := by
  intro F H x y d d' z Q e hl hl' ht ht' rx ry hg qv ql qt
  unfold gMul at hg
  split at hg
  · split at hg
    · rename_i hz
      cases hg
      exact .inl ⟨_, _, rep_int rx, rep_int ry, hz, qv _ _ rfl (.int _)⟩
    · cases hg
  · split at hg
    · rename_i hz
      cases hg
      obtain ⟨a, xs, e1, h1, r1⟩ := hl _ rfl
      exact .inr (.inl ⟨a, _, xs, e1, rep_int ry, h1, hz.1, hz.2.1, by rw [r1.length]; exact hz.2.2, fun p hp => ql _ _ p rfl (r1.rep _) hp⟩)
    · cases hg
  · split at hg
    · rename_i hz
      cases hg
      obtain ⟨a, xs, e1, h1, r1⟩ := ht _ rfl
      refine .inr (.inr (.inl ⟨a, _, xs, e1, rep_int ry, ex_t e h1, fun z => ?_, hz.2.1, hz.2.2.1, by rw [r1.length]; exact hz.2.2.2, fun p hp => qt _ _ p rfl (r1.rep _) hp⟩))
      have := r1.length
      rw [z] at this
      exact hz.1 this.symm
    · cases hg
  · split at hg
    · rename_i hz
      cases hg
      exact .inr (.inr (.inr ⟨_, _, rep_str rx, rep_int ry, hz.1, hz.2.1, hz.2.2, qv _ _ rfl (.str _)⟩))
    · cases hg
  · cases hg
/-- == and != -/
def gEq (d d' : D) : Option Got := if SeqAt.shaped d = true ∧ SeqAt.shaped d' = true then some (.v (.bool (PyData.eqv d d'))) else none
def gNe (d d' : D) : Option Got := if SeqAt.shaped d = true ∧ SeqAt.shaped d' = true then some (.v (.bool (!PyData.eqv d d'))) else none
theorem eq_2 (K : PySem.W.Frag) : Op2 K (rEqD K) gEq := by
  intro F H x y d d' z Q e hl hl' ht ht' rx ry hg qv ql qt
  unfold gEq at hg
  split at hg
  · rename_i hz
    cases hg
    exact ⟨d, d', rx.dp (Ex.refl H) (SeqAt.canLay_of_shaped hz.1), ry.dp (Ex.refl H) (SeqAt.canLay_of_shaped hz.2), hz.1, hz.2, qv _ _ rfl (.bl _)⟩
  · cases hg
theorem ne_2 (K : PySem.W.Frag) : Op2 K (rNeD K) gNe := by
  intro F H x y d d' z Q e hl hl' ht ht' rx ry hg qv ql qt
  unfold gNe at hg
  split at hg
  · rename_i hz
    cases hg
    exact ⟨d, d', rx.dp (Ex.refl H) (SeqAt.canLay_of_shaped hz.1), ry.dp (Ex.refl H) (SeqAt.canLay_of_shaped hz.2), hz.1, hz.2, qv _ _ rfl (.bl _)⟩
  · cases hg
/-- is None, is not None -/
def isNone : D → Bool
  | .none => true
  | _ => false
def gIs (neg : Bool) : D → D → Option Got
  | d, .none => some (.v (.bool (neg != isNone d)))
  | _, _ => none
theorem non_dec {K : PySem.W.Frag} {H : Hp} {x : V} {d : D} (r : Rep K H x d) : decide (x = .non) = isNone d := by
  cases r with
  | dK h1 h2 => rfl
  | _ => first | rfl | simp
theorem isN_2 (K : PySem.W.Frag) : Op2 K (fun x y H Q => y = .non ∧ Q (.bl (decide (x = .non))) H) (gIs false) := by
  intro F H x y d d' z Q e hl hl' ht ht' rx ry hg qv ql qt
  unfold gIs at hg
  split at hg
  · cases hg
    refine ⟨rep_non ry, qv _ _ rfl ?_⟩
    rw [non_dec rx, Bool.false_bne]
    exact .bl _
  · cases hg
theorem notN_2 (K : PySem.W.Frag) : Op2 K (fun x y H Q => y = .non ∧ Q (.bl (!decide (x = .non))) H) (gIs true) := by
  intro F H x y d d' z Q e hl hl' ht ht' rx ry hg qv ql qt
  unfold gIs at hg
  split at hg
  · cases hg
    refine ⟨rep_non ry, qv _ _ rfl ?_⟩
    rw [non_dec rx, Bool.true_bne]
    exact .bl _
  · cases hg
/-- order of numbers and texts -/
def sLt (a b : Str) : Bool := decide (a.cps.toList < b.cps.toList)
def gOrd (p : Int → Int → Bool) (q : Str → Str → Bool) : D → D → Option Got
  | .int i, .int j => some (.v (.bool (p i j)))
  | .str a, .str b => some (.v (.bool (q a b)))
  | _, _ => none
theorem ord_2 (K : PySem.W.Frag) {p : Int → Int → Bool} {q : Str → Str → Bool} : Op2 K (fun x y H Q => rI0 (fun i j => .bl (p i j)) x y H Q ∨ ∃ i j, x = .str i ∧ y = .str j ∧ Q (.bl (q i j)) H) (gOrd p q) := by
  intro F H x y d d' z Q e hl hl' ht ht' rx ry hg qv ql qt
  unfold gOrd at hg
  split at hg
  · cases hg
    exact .inl ⟨_, _, rep_int rx, rep_int ry, qv _ _ rfl (.bl _)⟩
  · cases hg
    exact .inr ⟨_, _, rep_str rx, rep_str ry, qv _ _ rfl (.bl _)⟩
  · cases hg
def gLt : D → D → Option Got := gOrd (fun i j => decide (i < j)) (fun a b => decide (a.cps.toList < b.cps.toList))
def gLe : D → D → Option Got := gOrd (fun i j => decide (i ≤ j)) (fun a b => !decide (b.cps.toList < a.cps.toList))
def gGt : D → D → Option Got := gOrd (fun i j => decide (j < i)) (fun a b => decide (b.cps.toList < a.cps.toList))
def gGe : D → D → Option Got := gOrd (fun i j => decide (j ≤ i)) (fun a b => !decide (a.cps.toList < b.cps.toList))
/-- in, over texts and flat things -/
def flatD : D → Bool
  | .none | .bool _ | .int _ | .str _ => true
  | _ => false
def subS (a b : Str) : Bool := !(Builtin.Str.occurrences b a 0 b.length 1).isEmpty
def inD (d : D) (ds : List D) : Bool := ds.any fun y => PyData.eqv y d
def gIn (neg : Bool) : D → D → Option Got
  | .str a, .str b => some (.v (.bool (if neg then !subS a b else subS a b)))
  | d, .list ds => if flatD d = true ∧ ds.all flatD = true then some (.v (.bool (if neg then !inD d ds else inD d ds))) else none
  | d, .tuple ds => if flatD d = true ∧ ds.all flatD = true then some (.v (.bool (if neg then !inD d ds else inD d ds))) else none
  | _, _ => none
theorem rep_flat {K : PySem.W.Frag} {H : Hp} {x : V} {d : D} (r : Rep K H x d) (f : flatD d = true) : flatV x = true := by
  cases r with
  | dK h1 h2 => cases f
  | ro h1 h2 => cases f
  | lst h1 h2 => cases f
  | tup h1 h2 => cases f
  | _ => rfl
theorem rep_flats {K : PySem.W.Frag} {H : Hp} : ∀ {xs : List V} {ds : List D}, RepL K H xs ds → ds.all flatD = true → xs.all flatV = true
  | _, _, .nil, _ => rfl
  | _, _, .cons r t, f => by
    rw [List.all_cons, Bool.and_eq_true] at f
    rw [List.all_cons, rep_flat r f.1, rep_flats t f.2] <;> rfl
theorem eqV_eqv {K : PySem.W.Frag} {H : Hp} {x y : V} {d d' : D} (r : Rep K H x d) (r' : Rep K H y d') (f : flatD d = true) (f' : flatD d' = true) : eqV x y = PyData.eqv d d' := by
  cases r with
  | dK h1 h2 => cases f
  | lst h1 h2 => cases f
  | tup h1 h2 => cases f
  | _ => cases r' with
    | dK h1 h2 => cases f'
    | lst h1 h2 => cases f'
    | tup h1 h2 => cases f'
    | _ => first | rfl | simp [eqV, PyData.eqv]
theorem inV_inD {K : PySem.W.Frag} {H : Hp} {x : V} {d : D} (r : Rep K H x d) (f : flatD d = true) : ∀ {xs : List V} {ds : List D}, RepL K H xs ds → ds.all flatD = true → inV x xs = inD d ds
  | _, _, .nil, _ => rfl
  | _, _, .cons (v := v) (d := e) q t, g => by
    rw [List.all_cons, Bool.and_eq_true] at g
    have h := inV_inD r f t g.2
    unfold inV inD at h ⊢
    rw [List.any_cons, List.any_cons, h, eqV_eqv q r g.1 f]
theorem in_2 (K : PySem.W.Frag) (neg : Bool) : Op2 K (fun x y H Q => (∃ i j, x = .str i ∧ y = .str j ∧ Q (.bl (if neg then !subS i j else subS i j)) H) ∨ rIn K neg x y H Q) (gIn neg) := by
  intro F H x y d d' z Q e hl hl' ht ht' rx ry hg qv ql qt
  unfold gIn at hg
  split at hg
  · cases hg
    exact .inl ⟨_, _, rep_str rx, rep_str ry, qv _ _ rfl (.bl _)⟩
  · split at hg
    · rename_i hz
      cases hg
      obtain ⟨a, xs, e1, h1, r1⟩ := hl' _ rfl
      refine .inr ⟨a, xs, e1, .inl (sl_of h1), rep_flat rx hz.1, rep_flats r1 hz.2, ?_⟩
      rw [inV_inD rx hz.1 (r1.mono e) hz.2]
      exact qv _ _ rfl (.bl _)
    · cases hg
  · split at hg
    · rename_i hz
      cases hg
      obtain ⟨a, xs, e1, h1, r1⟩ := ht' _ rfl
      refine .inr ⟨a, xs, e1, .inr (ex_t e h1), rep_flat rx hz.1, rep_flats r1 hz.2, ?_⟩
      rw [inV_inD rx hz.1 (r1.mono e) hz.2]
      exact qv _ _ rfl (.bl _)
    · cases hg
  · cases hg
section
variable {X : Cx}
theorem op_inU : OpR X (compareOp .In) (fun x y H Q => (∃ i j, x = .str i ∧ y = .str j ∧ Q (.bl (if false = true then !subS i j else subS i j)) H) ∨ rIn X.K false x y H Q) := op_in_str.or op_in_seq
theorem op_niU : OpR X (compareOp .NotIn) (fun x y H Q => (∃ i j, x = .str i ∧ y = .str j ∧ Q (.bl (if true = true then !subS i j else subS i j)) H) ∨ rIn X.K true x y H Q) := op_notin_str.or op_notIn_seq
theorem op_ltU : OpR X (compareOp .Lt) (fun x y H Q => rI0 (fun i j => .bl (decide (i < j))) x y H Q ∨ ∃ i j, x = .str i ∧ y = .str j ∧ Q (.bl (decide (i.cps.toList < j.cps.toList))) H) := op_lt.or op_lt_str
theorem op_leU : OpR X (compareOp .LtE) (fun x y H Q => rI0 (fun i j => .bl (decide (i ≤ j))) x y H Q ∨ ∃ i j, x = .str i ∧ y = .str j ∧ Q (.bl (!decide (j.cps.toList < i.cps.toList))) H) := op_le.or op_le_str
theorem op_gtU : OpR X (compareOp .Gt) (fun x y H Q => rI0 (fun i j => .bl (decide (j < i))) x y H Q ∨ ∃ i j, x = .str i ∧ y = .str j ∧ Q (.bl (decide (j.cps.toList < i.cps.toList))) H) := op_gt.or op_gt_str
theorem op_geU : OpR X (compareOp .GtE) (fun x y H Q => rI0 (fun i j => .bl (decide (j ≤ i))) x y H Q ∨ ∃ i j, x = .str i ∧ y = .str j ∧ Q (.bl (!decide (i.cps.toList < j.cps.toList))) H) := op_ge.or op_ge_str
end
/-- x[i] -/
def gIx : D → D → Option Got
  | .list ds, .int i => (atI ds i).map .v
  | .tuple ds, .int i => (atI ds i).map .v
  | .str z, .int i => if z.length ≤ sizeLine then (atI z.cps.toList i).map fun c => .v (.str ⟨#[c]⟩) else none
  | .dict [(.none, .list ds)], .int i => (atI ds i).bind fun u => match u with
    | .int n => some (.v (.int n))
    | _ => none
  | _, _ => none
theorem rep_ro {K : PySem.W.Frag} {F : Hp} {v : V} {ds : List D} (h : Rep K F v (.dict [(.none, .list ds)])) : ∃ a xs, v = .ref a ∧ SqL K F a xs ∧ RepL K F xs ds := by
  generalize hd : (PyData.dict [(.none, .list ds)] : D) = d at h
  cases h with
  | ro h1 h2 =>
    cases hd
    exact ⟨_, _, rfl, h1, h2⟩
  | dK h1 h2 =>
    rename_i kvs es
    cases es with
    | nil => simp [M.d] at hd
    | cons p r =>
      obtain ⟨k, u⟩ := p
      cases k <;> simp [M.d] at hd
  | _ => cases hd
theorem atI_rep {K : PySem.W.Frag} {F : Hp} {xs : List V} {ds : List D} {i : Int} {d : D} (r : RepL K F xs ds) (h : atI ds i = some d) : ∃ v, atI xs i = some v ∧ Rep K F v d := by
  unfold atI at h ⊢
  rw [r.length]
  cases e : ixN ds.length i with
  | none =>
    rw [e] at h
    cases h
  | some j =>
    rw [e] at h
    exact r.get h
theorem ix_2 (K : PySem.W.Frag) : Op2 K (rIx K) gIx := by
  intro F H x y d d' z Q e hl hl' ht ht' rx ry hg qv ql qt
  unfold gIx at hg
  split at hg
  · rename_i ds i
    cases h : atI ds i with
    | none =>
      rw [h] at hg
      cases hg
    | some u =>
      rw [h] at hg
      cases hg
      obtain ⟨a, xs, e1, h1, r1⟩ := hl _ rfl
      obtain ⟨v, h2, r2⟩ := atI_rep r1 h
      exact .inl ⟨a, xs, i, v, e1, rep_int ry, sl_of h1, h2, qv _ _ rfl r2⟩
  · rename_i ds i
    cases h : atI ds i with
    | none =>
      rw [h] at hg
      cases hg
    | some u =>
      rw [h] at hg
      cases hg
      obtain ⟨a, xs, e1, h1, r1⟩ := ht _ rfl
      obtain ⟨v, h2, r2⟩ := atI_rep r1 h
      exact .inr (.inl ⟨a, xs, i, v, e1, rep_int ry, ex_t e h1, h2, qv _ _ rfl r2⟩)
  · rename_i w i
    split at hg
    · rename_i hz
      cases h : atI w.cps.toList i with
      | none =>
        rw [h] at hg
        cases hg
      | some u =>
        rw [h] at hg
        cases hg
        exact .inr (.inr ⟨w, i, u, rep_str rx, rep_int ry, hz, h, qv _ _ rfl (.str _)⟩)
    · cases hg
  · rename_i ds i
    cases h : atI ds i with
    | none =>
      rw [h] at hg
      cases hg
    | some u =>
      rw [h] at hg
      cases u with
      | int n =>
        cases hg
        obtain ⟨a, xs, e1, h1, r1⟩ := rep_ro rx
        obtain ⟨v, h2, r2⟩ := atI_rep r1 h
        refine .inl ⟨a, xs, i, v, e1, rep_int ry, h1, h2, qv _ _ rfl ?_⟩
        rw [rep_int r2]
        exact .int n
      | _ => cases hg
  · cases hg

/-! ### one-place operations on what is read -/
def e1 (g : D → Option Got) (fa : EM R) : EM R := EM.bind fa fun x => fun ρ => match rd x ρ with
  | some d => (g d).map fun z => (.ok z.r, ρ)
  | _ => none
def Op1 (K : PySem.W.Frag) (r : V → Hp → VK → Prop) (g : D → Option Got) : Prop := ∀ (F H : Hp) (x : V) (d : D) (z : Got) (Q : VK), Ex F H →
  (∀ ds, d = .list ds → ∃ a xs, x = .ref a ∧ H a = some (.lst xs) ∧ RepL K F xs ds) → (∀ ds, d = .tuple ds → ∃ a xs, x = .ref a ∧ SqT K F a xs ∧ RepL K F xs ds) →
  Rep K H x d → g d = some z →
  (∀ u e, z = .v e → Rep K F u e → Q u H) → (∀ ds vs p, z = .l ds → RepL K F vs ds → H p = none → Q (.ref p) (upd H p (.lst vs))) → (∀ ds vs p, z = .v (.tuple ds) → RepL K F vs ds → H p = none → Q (.ref p) (upd H p (.tup vs))) → r x H Q
section
variable {X : Cx} {ex : Str → Addr} {W : WX} {pos : Pos} {e a b c : Expr} {es : List Expr} {fa fb fc : EM R} {fs : EM (List R)}
theorem l_1 {r : V → Hp → VK → Prop} {g : D → Option Got} (o : Op1 X.K r g) {fa : EM R} {σ : L2.St} {H : Hp} {Q : VK} (h : DE ⟨X.K, ex⟩ W (e1 g fa) σ H Q) : tUn r (DE ⟨X.K, ex⟩ W fa) σ H Q := by
  obtain ⟨ρ, F, y, E, e, hr⟩ := h
  refine (split E (Fm.refl σ ρ F H) e hr.err).mono fun v H1 ⟨r1, ρ1, F1, E1, m1, _, rr1, e1⟩ => ?_
  have e1 : (match rd r1 ρ1 with
    | some d => (g d).map fun z => (Except.ok (ε := Exc) z.r, ρ1)
    | _ => none) = some y := e1
  cases h1 : rd r1 ρ1 with
  | none =>
    rw [h1] at e1
    cases e1
  | some d =>
    rw [h1] at e1
    have e1 : (g d).map (fun z => (Except.ok (ε := Exc) z.r, ρ1)) = some y := e1
    cases hg : g d with
    | none =>
      rw [hg] at e1
      cases e1
    | some z =>
      rw [hg] at e1
      cases e1
      refine o F1 H1 v d z Q E1.sub (fun ds q => rd_list E1 rr1 (q ▸ h1)) (fun ds q => rd_tup E1 rr1 (q ▸ h1)) (rd_rep E1 rr1 h1) hg (fun u e q rp => ?_) (fun ds vs p q rp hp => ?_) fun ds vs p q rp hp => ?_
      · subst q
        exact fin_val hr E1 m1 rp
      · subst q
        exact fin_new hr E1 m1 (.lst rp) hp
      · subst q
        exact fin_tup hr E1 m1 rp hp
def gNeg : D → Option Got
  | .int i => some (.v (.int (-i)))
  | _ => none
theorem neg_1 (K : PySem.W.Frag) : Op1 K (rU fun i => .int (-i)) gNeg := by
  intro F H x d z Q e hl ht rx hg qv ql qt
  unfold gNeg at hg
  split at hg
  · cases hg
    exact ⟨_, rep_int rx, qv _ _ rfl (.int _)⟩
  · cases hg
def gLen : D → Option Got
  | .str y => if y.length ≤ sizeLine then some (.v (.int y.length)) else none
  | .list ds => some (.v (.int ds.length))
  | .tuple ds => some (.v (.int ds.length))
  | .dict [(.none, .list ds)] => some (.v (.int ds.length))
  | _ => none
theorem len_1 (K : PySem.W.Frag) : Op1 K (fun x H Q => ∃ x' n, [x] = [x'] ∧ LenV K x' H n ∧ Q (.int n) H) gLen := by
  intro F H x d z Q e hl ht rx hg qv ql qt
  unfold gLen at hg
  split at hg
  · split at hg
    · rename_i hz
      cases hg
      rw [rep_str rx]
      exact ⟨_, _, rfl, ⟨hz, rfl⟩, qv _ _ rfl (.int _)⟩
    · cases hg
  · cases hg
    obtain ⟨a, xs, rfl, h1, r1⟩ := hl _ rfl
    refine ⟨_, _, rfl, .inl ⟨xs, sl_of h1, rfl⟩, ?_⟩
    rw [r1.length]
    exact qv _ _ rfl (.int _)
  · cases hg
    obtain ⟨a, xs, rfl, h1, r1⟩ := ht _ rfl
    refine ⟨_, _, rfl, .inr ⟨xs, ex_t e h1, rfl⟩, ?_⟩
    rw [r1.length]
    exact qv _ _ rfl (.int _)
  · cases hg
    obtain ⟨a, xs, rfl, h1, r1⟩ := rep_ro rx
    refine ⟨_, _, rfl, .inl ⟨xs, h1, rfl⟩, ?_⟩
    rw [r1.length]
    exact qv _ _ rfl (.int _)
  · cases hg
/-- int(x) -/
def gInt : D → Option Got
  | .int i => some (.v (.int i))
  | .bool b => some (.v (.int (if b then 1 else 0)))
  | _ => none
theorem int_1 (K : PySem.W.Frag) : Op1 K (fun x H Q => (∃ i, [x] = [V.int i] ∧ Q (.int i) H) ∨ ∃ k, [x] = [V.bl k] ∧ Q (.int (if k then 1 else 0)) H) gInt := by
  intro F H x d z Q e hl ht rx hg qv ql qt
  unfold gInt at hg
  split at hg
  · cases hg
    rw [rep_int rx]
    exact .inl ⟨_, rfl, qv _ _ rfl (.int _)⟩
  · cases hg
    rw [rep_bl rx]
    exact .inr ⟨_, rfl, qv _ _ rfl (.int _)⟩
  · cases hg
/-- list(x), tuple(x) of lists and tuples -/
def gList : D → Option Got
  | .list ds => some (.l ds)
  | .tuple ds => some (.l ds)
  | _ => none
theorem list_1 (K : PySem.W.Frag) : Op1 K (fun x H Q => ∃ p ys, [x] = [V.ref p] ∧ (SqL K H p ys ∨ SqT K H p ys) ∧ ∀ l, H l = none → Q (.ref l) (upd H l (.lst ys))) gList := by
  intro F H x d z Q e hl ht rx hg qv ql qt
  unfold gList at hg
  split at hg
  · cases hg
    obtain ⟨a, xs, rfl, h1, r1⟩ := hl _ rfl
    exact ⟨a, xs, rfl, .inl (sl_of h1), fun l hl => ql _ _ l rfl r1 hl⟩
  · cases hg
    obtain ⟨a, xs, rfl, h1, r1⟩ := ht _ rfl
    exact ⟨a, xs, rfl, .inr (ex_t e h1), fun l hl => ql _ _ l rfl r1 hl⟩
  · cases hg
def gTuple : D → Option Got
  | .list ds => some (.v (.tuple ds))
  | .tuple ds => some (.v (.tuple ds))
  | _ => none
theorem tuple_1 (K : PySem.W.Frag) : Op1 K (fun x H Q => ∃ p ys, [x] = [V.ref p] ∧ ((SqL K H p ys ∧ ∀ l, H l = none → Q (.ref l) (upd H l (.tup ys))) ∨ (SqT K H p ys ∧ Q (.ref p) H))) gTuple := by
  intro F H x d z Q e hl ht rx hg qv ql qt
  unfold gTuple at hg
  split at hg
  · cases hg
    obtain ⟨a, xs, rfl, h1, r1⟩ := hl _ rfl
    exact ⟨a, xs, rfl, .inl ⟨sl_of h1, fun l hl => qt _ _ l rfl r1 hl⟩⟩
  · cases hg
    obtain ⟨a, xs, rfl, h1, r1⟩ := ht _ rfl
    exact ⟨a, xs, rfl, .inr ⟨ex_t e h1, qv _ _ rfl (.tup h1 r1)⟩⟩
  · cases hg
/-- all, any, sum of a list -/
def boolsD : List D → Option (List Bool)
  | [] => some []
  | .bool b :: r => (boolsD r).map (b :: ·)
  | _ => none
def intsD : List D → Option (List Int)
  | [] => some []
  | .int b :: r => (intsD r).map (b :: ·)
  | _ => none
def strsD : List D → Option (List Str)
  | [] => some []
  | .str b :: r => (strsD r).map (b :: ·)
  | _ => none
theorem bools_rep {K : PySem.W.Frag} {F : Hp} : ∀ {xs : List V} {ds : List D} {bs : List Bool}, RepL K F xs ds → boolsD ds = some bs → xs = bs.map V.bl
  | _, _, _, .nil, h => by
    cases h
    rfl
  | _, d :: ds, bs, .cons q t, h => by
    unfold boolsD at h
    split at h
    · rename_i h0
      cases h0
    · rename_i b r h0
      cases h0
      cases h1 : boolsD ds with
      | none =>
        rw [h1] at h
        cases h
      | some cs =>
        rw [h1] at h
        cases h
        rw [rep_bl q, bools_rep t h1]
        rfl
    · cases h
theorem ints_rep {K : PySem.W.Frag} {F : Hp} : ∀ {xs : List V} {ds : List D} {bs : List Int}, RepL K F xs ds → intsD ds = some bs → xs = bs.map V.int
  | _, _, _, .nil, h => by
    cases h
    rfl
  | _, d :: ds, bs, .cons q t, h => by
    unfold intsD at h
    split at h
    · rename_i h0
      cases h0
    · rename_i b r h0
      cases h0
      cases h1 : intsD ds with
      | none =>
        rw [h1] at h
        cases h
      | some cs =>
        rw [h1] at h
        cases h
        rw [rep_int q, ints_rep t h1]
        rfl
    · cases h
theorem strs_rep {K : PySem.W.Frag} {F : Hp} : ∀ {xs : List V} {ds : List D} {bs : List Str}, RepL K F xs ds → strsD ds = some bs → xs = bs.map V.str
  | _, _, _, .nil, h => by
    cases h
    rfl
  | _, d :: ds, bs, .cons q t, h => by
    unfold strsD at h
    split at h
    · rename_i h0
      cases h0
    · rename_i b r h0
      cases h0
      cases h1 : strsD ds with
      | none =>
        rw [h1] at h
        cases h
      | some cs =>
        rw [h1] at h
        cases h
        rw [rep_str q, strs_rep t h1]
        rfl
    · cases h
def gAll : D → Option Got
  | .list ds => (boolsD ds).map fun bs => .v (.bool (bs.all id))
  | _ => none
theorem all_1 (K : PySem.W.Frag) : Op1 K (fun x H Q => rAll K [x] H Q) gAll := by
  intro F H x d z Q e hl ht rx hg qv ql qt
  unfold gAll at hg
  split at hg
  · rename_i ds
    cases h : boolsD ds with
    | none =>
      rw [h] at hg
      cases hg
    | some bs =>
      rw [h] at hg
      cases hg
      obtain ⟨a, xs, rfl, h1, r1⟩ := hl _ rfl
      rw [bools_rep r1 h] at h1
      exact ⟨a, bs, rfl, sl_of h1, qv _ _ rfl (.bl _)⟩
  · cases hg
def gSum : D → Option Got
  | .list ds => (intsD ds).map fun bs => .v (.int bs.sum)
  | _ => none
theorem sum_1 (K : PySem.W.Frag) : Op1 K (fun x H Q => rSum K [x] H Q) gSum := by
  intro F H x d z Q e hl ht rx hg qv ql qt
  unfold gSum at hg
  split at hg
  · rename_i ds
    cases h : intsD ds with
    | none =>
      rw [h] at hg
      cases hg
    | some bs =>
      rw [h] at hg
      cases hg
      obtain ⟨a, xs, rfl, h1, r1⟩ := hl _ rfl
      rw [ints_rep r1 h] at h1
      exact ⟨a, bs, rfl, sl_of h1, qv _ _ rfl (.int _)⟩
  · cases hg
/-- max(a, b), min(a, b) -/
def gMax2 : D → D → Option Got := gI fun i j => some (if j > i then j else i)
def gMin2 : D → D → Option Got := gI fun i j => some (if j < i then j else i)

/-! ### isinstance -/
def tyD : D → String
  | .none => "NoneType"
  | .bool _ => "bool"
  | .int _ => "int"
  | .str _ => "str"
  | .list _ => "list"
  | .tuple _ => "tuple"
  | .dict _ => "dict"
def isTy (t T : String) : Bool := t == T || (t == "bool" && T == "int")
theorem kit_table : ∀ T ∈ ["bool", "int", "str", "list", "tuple"], ∀ t ∈ ["NoneType", "bool", "int", "str", "list", "tuple", "dict"], kitB t T = some (isTy t T) := by decide +kernel
theorem kit_is {d : D} {T : String} (hT : T ∈ ["bool", "int", "str", "list", "tuple"]) : kitB (tyD d) T = some (isTy (tyD d) T) := kit_table T hT _ (by cases d <;> simp [tyD])
def isDict : D → Bool
  | .dict _ => true
  | _ => false
theorem rep_ty {K : PySem.W.Frag} {H : Hp} {x : V} {d : D} (r : Rep K H x d) (nd : isDict d = false) : TyX K H x (.type (tyD d)) := by
  cases r with
  | ro h1 h2 => cases nd
  | non => exact .base .non
  | bl b => exact .base (.bl b)
  | int i => exact .base (.int i)
  | str x => exact .base (.str x)
  | lst h1 h2 => exact .base (.lst h1)
  | dK h1 h2 => exact .base (.dK h1)
  | tup h1 h2 =>
    rcases h1 with (h | ⟨o, h⟩) | ⟨o, its, n, h, c, _⟩
    · exact .base (.tup h)
    · exact .fTuple h
    · exact .kTuple h c
def gIsi (T : String) (d : D) : Option Got := if isDict d = false then some (.v (.bool (isTy (tyD d) T))) else none
theorem isi_1 (K : PySem.W.Frag) {T : String} (hT : T ∈ ["bool", "int", "str", "list", "tuple"]) : Op1 K (fun x H Q => rIsi K [x, .ty T] H Q) (gIsi T) := by
  intro F H x d z Q e hl ht rx hg qv ql qt
  unfold gIsi at hg
  split at hg
  · rename_i nd
    cases hg
    exact ⟨x, .ty T, .type (tyD d), .type T, _, rfl, .ty T, rep_ty rx nd, kit_ty (kit_is hT), qv _ _ rfl (.bl _)⟩
  · cases hg
end
end LF
end

-- part LFRules4
section
set_option Elab.async false
set_option linter.all false
set_option maxRecDepth 100000
set_option maxHeartbeats 2000000
namespace LF
open PySem PySem.Spec PyProof.Rows L2

/-! ### a def of data -/
def finArg : Slot → Slot → Slot
  | .own _ _, s => s
  | a, _ => a
def finArgs (args ρ' : En) : En := List.zipWith finArg args ρ'
def retOf (args : En) : Except Exc Out × En → Option (Except Exc R × En)
  | (.error e, ρ') => some (.error e, finArgs args ρ')
  | (.ok .nx, ρ') => some (.ok (.val .none), finArgs args ρ')
  | (.ok (.rt (.val d)), ρ') => some (.ok (.val d), finArgs args ρ')
  | (.ok (.rt (.fr m)), ρ') => some (.ok (.fr m), finArgs args ρ')
  | (.ok (.rt (.loc i)), ρ') => match ρ'[i]? with
    | some (.own m .loc) => some (.ok (.fr m), finArgs args ρ')
    | some (.val d) => some (.ok (.val d), finArgs args ρ')
    | _ => none
  | _ => none
/-- n parameters, N names -/
def argOk : Slot → Bool
  | .own _ .loc => false
  | _ => true
def defF (n N : Nat) (body : EM Out) : EM R := fun args => if args.length = n ∧ args.all argOk = true then (body (args ++ List.replicate (N - n) .unb)).bind (retOf args) else none
def spD (C : Ctx) (f : EM R) : Sp := fun vs H Q E => DE C (fun cls d _ H => E cls d H) f (vs.map some) H Q
section
variable {K : PySem.W.Frag} {σ σ' : L2.St} {ρ ρ' : En} {F F' H H' : Hp}
theorem app_get {l : En} {k i : Nat} {s : Slot} (h : (l ++ List.replicate k Slot.unb)[i]? = some s) : l[i]? = some s ∨ s = .unb := by
  by_cases hi : i < l.length
  · rw [List.getElem?_append_left hi] at h
    exact .inl h
  · rw [List.getElem?_append_right (by omega)] at h
    have := List.mem_of_getElem? h
    exact .inr (List.eq_of_mem_replicate this)
theorem start_get {N : List Str} {vs : List V} {i : Nat} (hi : i < vs.length) : (L2.start N vs)[i]? = (vs.map some)[i]? := by
  unfold L2.start
  rw [List.getElem?_append_left (by simpa using hi)]
theorem ER.start {N : List Str} {vs : List V} {args : En} (E : ER K (vs.map some) args F H) (hn : vs.length ≤ N.length) : ER K (L2.start N vs) (args ++ List.replicate (N.length - args.length) .unb) F H := by
  have hl : vs.length = args.length := by
    have := E.len
    simpa using this
  have lt : ∀ {i : Nat} {s : Slot}, args[i]? = some s → i < vs.length := fun h => by
    rw [hl]
    exact (List.getElem?_eq_some_iff.mp h).1
  refine ⟨E.sub, ?_, fun i d e => ?_, fun i m o e => ?_, fun i j m m' o o' a e1 e2 s1 s2 => ?_⟩
  · unfold L2.start
    simp [hl]
  · rcases app_get e with e | e
    · rw [start_get (lt e)]
      exact E.val i d e
    · cases e
  · rcases app_get e with e | e
    · rw [start_get (lt e)]
      exact E.own i m o e
    · cases e
  · rcases app_get e1 with e1 | e
    · rcases app_get e2 with e2 | e
      · rw [start_get (lt e1)] at s1
        rw [start_get (lt e2)] at s2
        exact E.dis i j m m' o o' a e1 e2 s1 s2
      · cases e
    · cases e
theorem fin_get {args ρ' : En} {k : Nat} {s : Slot} (h : (finArgs args ρ')[k]? = some s) : ∃ a t, args[k]? = some a ∧ ρ'[k]? = some t ∧ s = finArg a t := by
  unfold finArgs at h
  rw [List.getElem?_zipWith] at h
  cases h1 : args[k]? with
  | none =>
    rw [h1] at h
    simp at h
  | some a =>
    cases h2 : ρ'[k]? with
    | none =>
      rw [h1, h2] at h
      simp at h
    | some t =>
      rw [h1, h2] at h
      simp at h
      exact ⟨a, t, rfl, rfl, h.symm⟩
/-- no argument is the def's own object -/
def ArgsOk (args : En) : Prop := ∀ (i : Nat) (m : M) (o : Ow), args[i]? = some (.own m o) → o ≠ .loc
theorem fin_own {N : List Str} {vs : List V} {args : En} (E : ER K (vs.map some) args F H) (ao : ArgsOk args) (E' : ER K σ' ρ' F' H') (m : Fm (L2.start N vs) (args ++ List.replicate (N.length - args.length) .unb) F H σ' ρ' F' H') {k : Nat} {mm : M} {o : Ow}
    (h : (finArgs args ρ')[k]? = some (.own mm o)) : ∃ m0, args[k]? = some (.own m0 o) ∧ ρ'[k]? = some (.own mm o) ∧ o ≠ .loc ∧ σ'[k]? = (vs.map some)[k]? ∧ (o = .lck → mm = m0) := by
  obtain ⟨a, t, h1, h2, h3⟩ := fin_get h
  cases a with
  | unb => cases h3
  | val d => cases h3
  | own m0 o0 =>
    have h3 : Slot.own mm o = t := h3
    subst h3
    have hk : k < args.length := (List.getElem?_eq_some_iff.mp h1).1
    have hv : k < vs.length := by
      have := E.len
      simp at this
      omega
    obtain ⟨⟨m', g1, g2⟩, g3⟩ := m.pin k m0 o0 (by rw [List.getElem?_append_left hk]; exact h1) (ao k m0 o0 h1)
    rw [h2] at g1
    injection g1 with g1
    injection g1 with g1 g4
    subst g4
    subst g1
    rw [start_get hv] at g3
    exact ⟨m0, h1, h2, ao k m0 o h1, g3, g2⟩
theorem ret_ok {N : List Str} {vs : List V} {args : En} (E : ER K (vs.map some) args F H) (ao : ArgsOk args) (hn : vs.length ≤ N.length) (E' : ER K σ' ρ' F' H') (m : Fm (L2.start N vs) (args ++ List.replicate (N.length - args.length) .unb) F H σ' ρ' F' H') :
    ER K (vs.map some) (finArgs args ρ') F' H' ∧ Fm (vs.map some) args F H (vs.map some) (finArgs args ρ') F' H' := by
  have hl : vs.length = args.length := by
    have := E.len
    simpa using this
  have hl' : ρ'.length = σ'.length := E'.len.symm
  have ES := E.start hn
  have ow : ∀ a, Owns (vs.map some) (finArgs args ρ') a → Owns σ' ρ' a := by
    rintro a ⟨k, mm, o, h1, h2⟩
    obtain ⟨m0, g1, g2, g3, g4, _⟩ := fin_own E ao E' m h1
    exact ⟨k, mm, o, g2, g4.trans h2⟩
  have os : ∀ a, Owns (L2.start N vs) (args ++ List.replicate (N.length - args.length) .unb) a → Owns (vs.map some) args a := by
    rintro a ⟨k, mm, o, h1, h2⟩
    rcases app_get h1 with h1 | h1
    · have hk : k < vs.length := by
        rw [hl]
        exact (List.getElem?_eq_some_iff.mp h1).1
      rw [start_get hk] at h2
      exact ⟨k, mm, o, h1, h2⟩
    · cases h1
  have ex := m.ex ES
  have pl : ∀ (k : Nat) (m0 : M) (o : Ow), args[k]? = some (.own m0 o) → ∃ m', ρ'[k]? = some (.own m' o) ∧ (o = .lck → m' = m0) := fun k m0 o h => by
    have hk : k < args.length := (List.getElem?_eq_some_iff.mp h).1
    obtain ⟨⟨m', g1, g2⟩, g3⟩ := m.pin k m0 o (by rw [List.getElem?_append_left hk]; exact h) (ao k m0 o h)
    exact ⟨m', g1, g2⟩
  refine ⟨⟨E'.sub, ?_, fun k d e => ?_, fun k mm o e => ?_, fun i j m1 m2 o1 o2 a e1 e2 s1 s2 => ?_⟩, ⟨?_, m.dom, fun a o h n => ?_, fun k mm o h n => ?_, fun k mm a h1 h2 => ?_⟩⟩
  · unfold finArgs
    have hs : args.length ≤ ρ'.length := by
      rw [m.len, List.length_append]
      omega
    rw [List.length_map, List.length_zipWith, hl]
    omega
  · obtain ⟨a, t, h1, h2, h3⟩ := fin_get e
    cases a with
    | unb => cases h3
    | val d' =>
      have h3 : Slot.val d = Slot.val d' := h3
      cases h3
      obtain ⟨v, g1, g2⟩ := E.val k d h1
      exact ⟨v, g1, g2.mono ex⟩
    | own m0 o0 =>
      obtain ⟨m', g1, _⟩ := pl k m0 o0 h1
      rw [h2] at g1
      cases g1
      cases h3
  · obtain ⟨m0, g1, g2, g3, g4, _⟩ := fin_own E ao E' m e
    obtain ⟨a, ho, k1, k2⟩ := E'.own k mm o g2
    exact ⟨a, ho, g4 ▸ k1, k2⟩
  · obtain ⟨_, _, g2, _, g4, _⟩ := fin_own E ao E' m e1
    obtain ⟨_, _, k2, _, k4, _⟩ := fin_own E ao E' m e2
    exact E'.dis i j m1 m2 o1 o2 a g2 k2 (g4.trans s1) (k4.trans s2)
  · unfold finArgs
    have hs : args.length ≤ ρ'.length := by
      rw [m.len, List.length_append]
      omega
    rw [List.length_zipWith]
    omega
  · obtain ⟨k1, k2, k3⟩ := m.keep a o h fun z => n (os a z)
    exact ⟨k1, k2, fun z => k3 (ow a z)⟩
  · obtain ⟨m', g1, g2⟩ := pl k mm o h
    refine ⟨⟨m', ?_, g2⟩, rfl⟩
    unfold finArgs
    rw [List.getElem?_zipWith, h, g1]
    rfl
  · have hk : k < args.length := (List.getElem?_eq_some_iff.mp h1).1
    exact m.lck k mm a (by rw [List.getElem?_append_left hk]; exact h1) (by rw [start_get (by omega)]; exact h2)
end

/-! ### the end of a def -/
theorem def_end {C : Ctx} {n : Nat} {N : List Str} {body : EM Out} {vs : List V} {H : Hp} {Q : VK} {E : XK} (hn : n ≤ N.length) (h : spD C (defF n N.length body) vs H Q E) :
    DS C (fun cls d _ H => E cls d H) body { nx := fun _ H' => Q .non H', rt := Q } (L2.start N vs) H := by
  obtain ⟨args, F, x, ER0, e, hr⟩ := h
  unfold defF at e
  by_cases hl : args.length = n ∧ args.all argOk = true
  · rw [if_pos hl] at e
    have ok : ArgsOk args := fun i m o h z => by
      subst z
      have := List.all_eq_true.mp hl.2 _ (List.mem_of_getElem? h)
      cases this
    replace hl := hl.1
    have hv : vs.length = n := by
      have := ER0.len
      simp at this
      omega
    have hN : vs.length ≤ N.length := by omega
    cases hb : body (args ++ List.replicate (N.length - n) .unb) with
    | none =>
      rw [hb] at e
      cases e
    | some y =>
      rw [hb] at e
      have e : retOf args y = some x := e
      have E1 : ER C.K (L2.start N vs) (args ++ List.replicate (N.length - n) .unb) F H := by
        rw [← hl]
        exact ER0.start hN
      refine ⟨_, F, y, E1, hb, ?_⟩
      rcases y with ⟨y | o, ρ'⟩
      · cases e
        intro cls d σ' F' H' E' m' z
        rw [← hl] at m'
        obtain ⟨g1, g2⟩ := ret_ok ER0 ok hN E' m'
        exact hr cls d F' H' g1 g2 z
      · intro σ' F' H' E' m'
        rw [← hl] at m'
        obtain ⟨g1, g2⟩ := ret_ok ER0 ok hN E' m'
        cases o with
        | nx =>
          cases e
          exact hr .non F' H' g1 g2 .non
        | bk => cases e
        | ct => cases e
        | rt r =>
          intro v rr
          have hfr : ∀ {p : Addr} {ho : HO} {mm : M}, v = .ref p → H p = none → F' p = none → H' p = some ho → MRep C.K F' ho mm → (∀ (k : Nat) (m1 : M) (o1 : Ow), (finArgs args ρ')[k]? = some (.own m1 o1) → (vs.map some)[k]? = some (some (V.ref p)) → False) →
              RR C.K H (vs.map some) (finArgs args ρ') F' H' v (.fr mm) := fun e1 e2 e3 e4 e5 e6 => ⟨_, _, e1, e2, e3, e4, e5, fun ⟨k, m1, o1, k1, k2⟩ => e6 k m1 o1 k1 k2⟩
          cases r with
          | val d =>
            cases e
            exact hr v F' H' g1 g2 rr
          | fr mm =>
            cases e
            obtain ⟨p, ho, e1, e2, e3, e4, e5, e6⟩ := rr
            refine hr v F' H' g1 g2 (hfr e1 e2 e3 e4 e5 fun k m1 o1 k1 k2 => ?_)
            obtain ⟨_, _, q2, _, q4, _⟩ := fin_own ER0 ok E' m' k1
            exact e6 ⟨k, m1, o1, q2, q4.trans k2⟩
          | loc i =>
            have hs : σ'[i]? = some (some v) := rr
            have e : (match ρ'[i]? with
              | some (.own m .loc) => some (Except.ok (ε := Exc) (R.fr m), finArgs args ρ')
              | some (.val d) => some (Except.ok (ε := Exc) (R.val d), finArgs args ρ')
              | _ => none) = some x := e
            cases hi : ρ'[i]? with
            | none =>
              rw [hi] at e
              cases e
            | some s =>
              rw [hi] at e
              cases s with
              | unb => cases e
              | val d =>
                cases e
                obtain ⟨v', k1, k2⟩ := E'.val i d hi
                rw [hs] at k1
                injection k1 with k1
                injection k1 with k1
                subst k1
                exact hr v F' H' g1 g2 k2
              | own mm w =>
                cases w with
                | bor => cases e
                | lck => cases e
                | loc =>
                  cases e
                  obtain ⟨a, ho, k1, k2, k3, k4⟩ := E'.own i mm .loc hi
                  rw [hs] at k1
                  injection k1 with k1
                  injection k1 with k1
                  subst k1
                  have no : ∀ (k : Nat) (m1 : M) (o1 : Ow), (finArgs args ρ')[k]? = some (.own m1 o1) → (vs.map some)[k]? = some (some (V.ref a)) → False := fun k m1 o1 q1 q2 => by
                    obtain ⟨_, _, z2, z3, z4, _⟩ := fin_own ER0 ok E' m' q1
                    have := E'.dis k i m1 mm o1 .loc a z2 hi (z4.trans q2) hs
                    subst this
                    rw [hi] at z2
                    injection z2 with z2
                    injection z2 with _ z2
                    exact z3 z2.symm
                  refine hr _ F' H' g1 g2 (hfr rfl ?_ k2 k3 k4 no)
                  apply Classical.byContradiction
                  intro hne
                  cases ha : H a with
                  | none => exact hne ha
                  | some o' =>
                    by_cases hw : Owns (vs.map some) args a
                    · obtain ⟨k, m0, o0, q1, q2⟩ := hw
                      have hk : k < args.length := (List.getElem?_eq_some_iff.mp q1).1
                      obtain ⟨⟨m3, z1, _⟩, z3⟩ := m'.pin k m0 o0 (by rw [List.getElem?_append_left hk]; exact q1) (ok k m0 o0 q1)
                      rw [start_get (by omega)] at z3
                      have := E'.dis k i m3 mm o0 .loc a z1 hi (z3.trans q2) hs
                      subst this
                      rw [hi] at z1
                      injection z1 with z1
                      injection z1 with _ z1
                      exact ok k m0 o0 q1 z1.symm
                    · exact (m'.keep a o' ha fun ⟨k, m0, o0, q1, q2⟩ => hw (by
                        rcases app_get q1 with q1 | q1
                        · have hk : k < vs.length := by
                            rw [hv, ← hl]
                            exact (List.getElem?_eq_some_iff.mp q1).1
                          rw [start_get hk] at q2
                          exact ⟨k, m0, o0, q1, q2⟩
                        · cases q1)).2.2 ⟨i, mm, .loc, hi, hs⟩
  · rw [if_neg hl] at e
    cases e
end LF
end

-- part LFRules5
section
set_option Elab.async false
set_option linter.all false
set_option maxRecDepth 100000
set_option maxHeartbeats 2000000
namespace LF
open PySem PySem.Spec PyProof.Rows L2

/-! ### the call of a def -/
def bOw : Ow → Ow
  | .lck => .lck
  | _ => .bor
def argSlot : Option Slot → Option Slot
  | some (.val d) => some (.val d)
  | some (.own m o) => some (.own m (bOw o))
  | _ => none
def argOf (ρ : En) : R → Option Slot
  | .val d => some (.val d)
  | .fr m => some (.val m.d)
  | .loc i => argSlot ρ[i]?
def argsOf (ρ : En) : List R → Option En
  | [] => some []
  | r :: rs => (argOf ρ r).bind fun s => (argsOf ρ rs).map (s :: ·)
def locs : List R → List Nat
  | [] => []
  | .loc i :: rs => i :: locs rs
  | _ :: rs => locs rs
def putSlot (ρ : En) (i : Nat) (m : M) : Option Slot → En
  | some (.own _ o) => ρ.set i (.own m o)
  | _ => ρ
def putBack (ρ : En) : List R → En → En
  | .loc i :: rs, .own m _ :: ss => putBack (putSlot ρ i m ρ[i]?) rs ss
  | _ :: rs, _ :: ss => putBack ρ rs ss
  | _, _ => ρ
def callOut (ρ : En) (rs : List R) : Except Exc R × En → Option (Except Exc R × En)
  | (.error e, fin) => some (.error e, putBack ρ rs fin)
  | (.ok (.loc _), _) => none
  | (.ok r, fin) => some (.ok r, putBack ρ rs fin)
def callW (f : EM R) (rs : List R) : EM R := fun ρ => (argsOf ρ rs).bind fun args => if (locs rs).Nodup then (f args).bind (callOut ρ rs) else none
def eCall (f : EM R) (fs : EM (List R)) : EM R := EM.bind fs fun rs => callW f rs

inductive ARel (K : PySem.W.Frag) (σ : L2.St) (ρ : En) (F : Hp) : List V → List R → En → Prop
  | nil : ARel K σ ρ F [] [] []
  | val {v : V} {r : R} {d : D} {vs : List V} {rs : List R} {ss : En} : Rep K F v d → (∀ i, r = .loc i → ∃ d', ρ[i]? = some (.val d')) → ARel K σ ρ F vs rs ss → ARel K σ ρ F (v :: vs) (r :: rs) (.val d :: ss)
  | own {v : V} {i : Nat} {m : M} {o : Ow} {vs : List V} {rs : List R} {ss : En} : ρ[i]? = some (.own m o) → σ[i]? = some (some v) → ARel K σ ρ F vs rs ss → ARel K σ ρ F (v :: vs) (.loc i :: rs) (.own m (bOw o) :: ss)
section
variable {K : PySem.W.Frag} {σ σ' : L2.St} {ρ ρ' ρ0 : En} {F F' F0 F1 H H' H0 : Hp}
theorem ARel.mono (e : Ex F F') : ∀ {vs : List V} {rs : List R} {ss : En}, ARel K σ ρ F vs rs ss → ARel K σ ρ F' vs rs ss
  | _, _, _, .nil => .nil
  | _, _, _, .val h n t => .val (h.mono e) n (ARel.mono e t)
  | _, _, _, .own h n t => .own h n (ARel.mono e t)
theorem ARel.len : ∀ {vs : List V} {rs : List R} {ss : En}, ARel K σ ρ F vs rs ss → vs.length = ss.length
  | _, _, _, .nil => rfl
  | _, _, _, .val _ _ t => by rw [List.length_cons, List.length_cons, ARel.len t]
  | _, _, _, .own _ _ t => by rw [List.length_cons, List.length_cons, ARel.len t]
theorem ARel.getVal : ∀ {vs : List V} {rs : List R} {ss : En} {k : Nat} {d : D}, ARel K σ ρ F vs rs ss → ss[k]? = some (.val d) → ∃ v, vs[k]? = some v ∧ Rep K F v d
  | _, _, _, _, _, .nil, h => by simp at h
  | _, _, _, 0, _, .val r _ _, h => by
    simp at h
    subst h
    exact ⟨_, rfl, r⟩
  | _, _, _, 0, _, .own _ _ _, h => by simp at h
  | _, _, _, k + 1, _, .val _ _ t, h => by
    obtain ⟨v, h1, h2⟩ := ARel.getVal (k := k) t (by simpa using h)
    exact ⟨v, by simpa using h1, h2⟩
  | _, _, _, k + 1, _, .own _ _ t, h => by
    obtain ⟨v, h1, h2⟩ := ARel.getVal (k := k) t (by simpa using h)
    exact ⟨v, by simpa using h1, h2⟩
theorem ARel.getOwn : ∀ {vs : List V} {rs : List R} {ss : En} {k : Nat} {m : M} {o' : Ow}, ARel K σ ρ F vs rs ss → ss[k]? = some (.own m o') → ∃ (v : V) (i : Nat) (o : Ow), vs[k]? = some v ∧ rs[k]? = some (.loc i) ∧ o' = bOw o ∧ ρ[i]? = some (.own m o) ∧ σ[i]? = some (some v)
  | _, _, _, _, _, _, .nil, h => by simp at h
  | _, _, _, 0, _, _, .val r _ _, h => by simp at h
  | _, _, _, 0, _, _, .own (v := v) (i := i) (o := o) h1 h2 _, h => by
    simp at h
    obtain ⟨rfl, rfl⟩ := h
    exact ⟨v, i, o, rfl, rfl, rfl, h1, h2⟩
  | _, _, _, k + 1, _, _, .val _ _ t, h => by
    obtain ⟨v, i, o, h1, h2, h3⟩ := ARel.getOwn (k := k) t (by simpa using h)
    exact ⟨v, i, o, by simpa using h1, by simpa using h2, h3⟩
  | _, _, _, k + 1, _, _, .own _ _ t, h => by
    obtain ⟨v, i, o, h1, h2, h3⟩ := ARel.getOwn (k := k) t (by simpa using h)
    exact ⟨v, i, o, by simpa using h1, by simpa using h2, h3⟩
theorem ARel.atLoc : ∀ {vs : List V} {rs : List R} {ss : En} {k i : Nat} {m : M} {o : Ow}, ARel K σ ρ F vs rs ss → rs[k]? = some (.loc i) → ρ[i]? = some (.own m o) → ss[k]? = some (.own m (bOw o)) ∧ ∃ v, vs[k]? = some v ∧ σ[i]? = some (some v)
  | _, _, _, _, _, _, _, .nil, h, _ => by simp at h
  | _, _, _, 0, _, _, _, .val _ n _, h, q => by
    simp at h
    obtain ⟨d', e⟩ := n _ h
    rw [e] at q
    cases q
  | _, _, _, 0, _, _, _, .own h1 h2 _, h, q => by
    simp at h
    subst h
    rw [h1] at q
    cases q
    exact ⟨rfl, _, rfl, h2⟩
  | _, _, _, k + 1, _, _, _, .val _ _ t, h, q => by
    obtain ⟨h1, v, h2, h3⟩ := ARel.atLoc (k := k) t (by simpa using h) q
    exact ⟨by simpa using h1, v, by simpa using h2, h3⟩
  | _, _, _, k + 1, _, _, _, .own _ _ t, h, q => by
    obtain ⟨h1, v, h2, h3⟩ := ARel.atLoc (k := k) t (by simpa using h) q
    exact ⟨by simpa using h1, v, by simpa using h2, h3⟩
theorem arel_of : ∀ {rs : List R} {vs : List V} {args : En} {F : Hp}, ER K σ ρ F H → Fm σ ρ0 F0 H0 σ ρ F H → RRs K H0 σ ρ F H vs rs → argsOf ρ rs = some args →
    ∃ F', ER K σ ρ F' H ∧ Fm σ ρ0 F0 H0 σ ρ F' H ∧ Ex F F' ∧ ARel K σ ρ F' vs rs args
  | [], vs, args, F, E, m, h, e => by
    cases h
    cases e
    exact ⟨F, E, m, Ex.refl F, .nil⟩
  | r :: rs, vs, args, F, E, m, h, e => by
    cases h with
    | cons h hs n =>
      rename_i v vs
      unfold argsOf at e
      cases ha : argOf ρ r with
      | none =>
        rw [ha] at e
        cases e
      | some s =>
        rw [ha] at e
        have e : (argsOf ρ rs).map (s :: ·) = some args := e
        cases hb : argsOf ρ rs with
        | none =>
          rw [hb] at e
          cases e
        | some ss =>
          rw [hb] at e
          cases e
          cases r with
          | val d =>
            cases ha
            obtain ⟨F', E', m', x, t⟩ := arel_of E m hs hb
            exact ⟨F', E', m', x, .val (Rep.mono x h) (fun i z => by cases z) t⟩
          | fr mm =>
            cases ha
            obtain ⟨d, ρ1, F1, z, Z⟩ := fz_ok (y := (.ok mm.d, ρ)) E m h rfl
            cases z
            obtain ⟨F', E', m', x, t⟩ := arel_of Z.er Z.fm (hs.fz Z n) hb
            exact ⟨F', E', m', Z.ex.trans x, .val (Rep.mono x Z.rep) (fun i z => by cases z) t⟩
          | loc i =>
            have hs' : σ[i]? = some (some v) := h
            have ha : argSlot ρ[i]? = some s := ha
            cases hi : ρ[i]? with
            | none =>
              rw [hi] at ha
              cases ha
            | some w =>
              rw [hi] at ha
              cases w with
              | unb => cases ha
              | val d =>
                cases ha
                obtain ⟨F', E', m', x, t⟩ := arel_of E m hs hb
                obtain ⟨v', k1, k2⟩ := E'.val i d hi
                rw [hs'] at k1
                injection k1 with k1
                injection k1 with k1
                subst k1
                exact ⟨F', E', m', x, .val k2 (fun j z => by cases z; exact ⟨d, hi⟩) t⟩
              | own mm o =>
                cases ha
                obtain ⟨F', E', m', x, t⟩ := arel_of E m hs hb
                exact ⟨F', E', m', x, .own hi hs' t⟩
theorem mem_locs : ∀ {rs : List R} {k i : Nat}, rs[k]? = some (.loc i) → i ∈ locs rs
  | [], k, i, h => by simp at h
  | r :: rs, 0, i, h => by
    simp at h
    subst h
    exact List.mem_cons_self
  | r :: rs, k + 1, i, h => by
    have := mem_locs (rs := rs) (k := k) (i := i) (by simpa using h)
    cases r with
    | loc j => exact List.mem_cons_of_mem _ this
    | _ => exact this
theorem of_locs : ∀ {rs : List R} {i : Nat}, i ∈ locs rs → ∃ k : Nat, rs[k]? = some (.loc i)
  | [], i, h => by simp [locs] at h
  | r :: rs, i, h => by
    cases r with
    | loc j =>
      rcases List.mem_cons.mp h with e | h
      · subst e
        exact ⟨0, rfl⟩
      · obtain ⟨k, q⟩ := of_locs h
        exact ⟨k + 1, by simpa using q⟩
    | val d =>
      obtain ⟨k, q⟩ := of_locs (rs := rs) h
      exact ⟨k + 1, by simpa using q⟩
    | fr d =>
      obtain ⟨k, q⟩ := of_locs (rs := rs) h
      exact ⟨k + 1, by simpa using q⟩
theorem locs_inj : ∀ {rs : List R} {k l i : Nat}, (locs rs).Nodup → rs[k]? = some (.loc i) → rs[l]? = some (.loc i) → k = l
  | [], k, l, i, n, h, h' => by simp at h
  | r :: rs, 0, 0, i, n, h, h' => rfl
  | r :: rs, 0, l + 1, i, n, h, h' => by
    simp at h
    subst h
    have := mem_locs (rs := rs) (k := l) (i := i) (by simpa using h')
    exact absurd this (List.nodup_cons.mp n).1
  | r :: rs, k + 1, 0, i, n, h, h' => by
    simp at h'
    subst h'
    have := mem_locs (rs := rs) (k := k) (i := i) (by simpa using h)
    exact absurd this (List.nodup_cons.mp n).1
  | r :: rs, k + 1, l + 1, i, n, h, h' => by
    have n' : (locs rs).Nodup := by
      cases r with
      | loc j => exact (List.nodup_cons.mp n).2
      | _ => exact n
    rw [locs_inj (rs := rs) (k := k) (l := l) (i := i) n' (by simpa using h) (by simpa using h')]
theorem args_er (E : ER K σ ρ F H) {vs : List V} {rs : List R} {args : En} (A : ARel K σ ρ F vs rs args) (n : (locs rs).Nodup) : ER K (vs.map some) args F H := by
  refine ⟨E.sub, by simpa using A.len, fun k d e => ?_, fun k m o e => ?_, fun k l m m' o o' a e1 e2 s1 s2 => ?_⟩
  · obtain ⟨v, h1, h2⟩ := A.getVal e
    exact ⟨v, by rw [List.getElem?_map, h1] <;> rfl, h2⟩
  · obtain ⟨v, i, o1, h1, h2, h3, h4, h5⟩ := A.getOwn e
    obtain ⟨a, ho, g1, g2⟩ := E.own i m o1 h4
    rw [h5] at g1
    injection g1 with g1
    injection g1 with g1
    subst g1
    exact ⟨a, ho, by rw [List.getElem?_map, h1] <;> rfl, g2⟩
  · obtain ⟨v, i, o1, h1, h2, h3, h4, h5⟩ := A.getOwn e1
    obtain ⟨u, j, o2, g1, g2, g3, g4, g5⟩ := A.getOwn e2
    rw [List.getElem?_map, h1] at s1
    rw [List.getElem?_map, g1] at s2
    have s1 : some (some v) = some (some (V.ref a)) := s1
    have s2 : some (some u) = some (some (V.ref a)) := s2
    rw [s1] at h5
    rw [s2] at g5
    have := E.dis i j m m' o1 o2 a h4 g4 h5 g5
    subst this
    exact locs_inj n h2 g2
theorem ps_len (ρ : En) (i : Nat) (m : M) (s : Option Slot) : (putSlot ρ i m s).length = ρ.length := by
  unfold putSlot
  split <;> simp
theorem pb_len : ∀ (rs : List R) (ss : En) (ρ : En), (putBack ρ rs ss).length = ρ.length
  | [], _, _ => by simp [putBack]
  | r :: rs, [], _ => by
    cases r <;> simp [putBack]
  | r :: rs, s :: ss, ρ => by
    cases r with
    | loc i =>
      cases s with
      | own m o =>
        show (putBack (putSlot ρ i m ρ[i]?) rs ss).length = _
        rw [pb_len, ps_len]
      | _ => exact pb_len rs ss ρ
    | _ => exact pb_len rs ss ρ
theorem ps_ne {i j : Nat} {m : M} (n : j ≠ i) : (putSlot ρ i m ρ[i]?)[j]? = ρ[j]? := by
  unfold putSlot
  split
  · rw [List.getElem?_set_ne (Ne.symm n)]
  · rfl
theorem pb_out : ∀ {rs : List R} {ss ρ : En} {i : Nat}, i ∉ locs rs → (putBack ρ rs ss)[i]? = ρ[i]?
  | [], _, _, _, _ => by simp [putBack]
  | r :: rs, [], _, _, _ => by
    cases r <;> simp [putBack]
  | r :: rs, s :: ss, ρ, i, h => by
    cases r with
    | loc j =>
      have h1 : i ≠ j := fun z => h (z ▸ List.mem_cons_self)
      have h2 : i ∉ locs rs := fun z => h (List.mem_cons_of_mem _ z)
      cases s with
      | own m o =>
        show (putBack (putSlot ρ j m ρ[j]?) rs ss)[i]? = _
        rw [pb_out h2, ps_ne h1]
      | val d => exact pb_out (ρ := ρ) (ss := ss) h2
      | unb => exact pb_out (ρ := ρ) (ss := ss) h2
    | val d => exact pb_out (rs := rs) (ρ := ρ) (ss := ss) h
    | fr d => exact pb_out (rs := rs) (ρ := ρ) (ss := ss) h
theorem pb_at : ∀ {rs : List R} {ss ρ : En} {k i : Nat} {m m' : M} {o o' : Ow}, (locs rs).Nodup → rs[k]? = some (.loc i) → ss[k]? = some (.own m' o') → ρ[i]? = some (.own m o) → (putBack ρ rs ss)[i]? = some (.own m' o)
  | [], _, _, _, _, _, _, _, _, _, h, _, _ => by simp at h
  | r :: rs, [], _, _, _, _, _, _, _, _, _, h, _ => by simp at h
  | r :: rs, s :: ss, ρ, 0, i, m, m', o, o', n, h, h', e => by
    simp at h h'
    subst h
    subst h'
    show (putBack (putSlot ρ i m' ρ[i]?) rs ss)[i]? = _
    rw [pb_out (List.nodup_cons.mp n).1, e]
    show (ρ.set i (.own m' o))[i]? = _
    rw [List.getElem?_set_self (List.getElem?_eq_some_iff.mp e).1]
  | r :: rs, s :: ss, ρ, k + 1, i, m, m', o, o', n, h, h', e => by
    have h1 : rs[k]? = some (.loc i) := by simpa using h
    have h2 : ss[k]? = some (.own m' o') := by simpa using h'
    cases r with
    | loc j =>
      have n2 := List.nodup_cons.mp n
      have hj : i ≠ j := fun z => n2.1 (z ▸ mem_locs h1)
      cases s with
      | own m1 o1 =>
        show (putBack (putSlot ρ j m1 ρ[j]?) rs ss)[i]? = _
        exact pb_at n2.2 h1 h2 (by rw [ps_ne hj]; exact e)
      | val d => exact pb_at (rs := rs) (ρ := ρ) n2.2 h1 h2 e
      | unb => exact pb_at (rs := rs) (ρ := ρ) n2.2 h1 h2 e
    | val d => exact pb_at (rs := rs) (ρ := ρ) n h1 h2 e
    | fr d => exact pb_at (rs := rs) (ρ := ρ) n h1 h2 e
/-- what is no object of its own stays -/
theorem pb_val : ∀ {rs : List R} {ss ρ : En} {i : Nat}, (∀ m o, ρ[i]? ≠ some (.own m o)) → (putBack ρ rs ss)[i]? = ρ[i]?
  | [], _, _, _, _ => by simp [putBack]
  | r :: rs, [], _, _, _ => by
    cases r <;> simp [putBack]
  | r :: rs, s :: ss, ρ, i, h => by
    have keep : ∀ (j : Nat) (m : M), (putSlot ρ j m ρ[j]?)[i]? = ρ[i]? := fun j m => by
      by_cases z : i = j
      · subst z
        cases e : ρ[i]? with
        | none =>
          show ρ[i]? = _
          exact e
        | some t =>
          cases t with
          | own m1 o1 => exact absurd e (h m1 o1)
          | val d => exact e
          | unb => exact e
      · exact ps_ne z
    cases r with
    | loc j =>
      cases s with
      | own m o =>
        show (putBack (putSlot ρ j m ρ[j]?) rs ss)[i]? = _
        rw [pb_val (fun m1 o1 => by rw [keep]; exact h m1 o1), keep]
      | val d => exact pb_val (ρ := ρ) (ss := ss) h
      | unb => exact pb_val (ρ := ρ) (ss := ss) h
    | val d => exact pb_val (rs := rs) (ρ := ρ) (ss := ss) h
    | fr d => exact pb_val (rs := rs) (ρ := ρ) (ss := ss) h
theorem back_ok (E : ER K σ ρ F H) {vs : List V} {rs : List R} {args fin : En} (A : ARel K σ ρ F vs rs args) (n : (locs rs).Nodup) (E' : ER K (vs.map some) fin F' H') (m : Fm (vs.map some) args F H (vs.map some) fin F' H') :
    ER K σ (putBack ρ rs fin) F' H' ∧ Fm σ ρ F H σ (putBack ρ rs fin) F' H' := by
  have EA := args_er E A n
  have ex := m.ex EA
  have nb : ∀ o, bOw o ≠ .loc := fun o => by cases o <;> decide
  -- an object of a slot that isn't handed over
  have out : ∀ (i : Nat) (mm : M) (o : Ow) (a : Addr), ρ[i]? = some (.own mm o) → σ[i]? = some (some (V.ref a)) → i ∉ locs rs → ¬ Owns (vs.map some) args a := by
    rintro i mm o a h1 h2 h3 ⟨k, m1, o1, q1, q2⟩
    obtain ⟨v, j, o2, g1, g2, g3, g4, g5⟩ := A.getOwn q1
    rw [List.getElem?_map, g1] at q2
    have q2 : some (some v) = some (some (V.ref a)) := q2
    rw [q2] at g5
    have := E.dis i j mm m1 o o2 a h1 g4 h2 g5
    subst this
    exact h3 (mem_locs g2)
  have inn : ∀ (i k : Nat) (mm : M) (o : Ow), ρ[i]? = some (.own mm o) → rs[k]? = some (.loc i) → ∃ m' a ho, (putBack ρ rs fin)[i]? = some (.own m' o) ∧ (o = .lck → m' = mm) ∧ σ[i]? = some (some (V.ref a)) ∧ F' a = none ∧ H' a = some ho ∧ MRep K F' ho m' := by
    intro i k mm o h1 h2
    obtain ⟨g1, v, g2, g3⟩ := A.atLoc h2 h1
    obtain ⟨⟨m', k1, k2⟩, k3⟩ := m.pin k mm (bOw o) g1 (nb o)
    obtain ⟨a, ho, z1, z2, z3, z4⟩ := E'.own k m' (bOw o) k1
    rw [List.getElem?_map, g2] at z1
    have z1 : some (some v) = some (some (V.ref a)) := z1
    exact ⟨m', a, ho, pb_at n h2 k1 h1, fun z => k2 (by rw [z]; rfl), g3.trans z1, z2, z3, z4⟩
  -- a slot behind the call
  have sl : ∀ (i : Nat) (mm : M) (o : Ow), (putBack ρ rs fin)[i]? = some (.own mm o) → ∃ m0, ρ[i]? = some (.own m0 o) := by
    intro i mm o h
    cases e : ρ[i]? with
    | none =>
      rw [pb_val (fun m o z => by rw [e] at z; cases z), e] at h
      cases h
    | some t =>
      cases t with
      | unb =>
        rw [pb_val (fun m o z => by rw [e] at z; cases z), e] at h
        cases h
      | val d =>
        rw [pb_val (fun m o z => by rw [e] at z; cases z), e] at h
        cases h
      | own m0 o0 =>
        by_cases z : i ∈ locs rs
        · obtain ⟨k, q⟩ := of_locs z
          obtain ⟨m', a, ho, k1, _⟩ := inn i k m0 o0 e q
          rw [k1] at h
          cases h
          exact ⟨m0, rfl⟩
        · rw [pb_out z, e] at h
          cases h
          exact ⟨_, rfl⟩
  have os : ∀ a, Owns σ (putBack ρ rs fin) a → Owns σ ρ a := by
    rintro a ⟨i, mm, o, h1, h2⟩
    obtain ⟨m0, e⟩ := sl i mm o h1
    exact ⟨i, m0, o, e, h2⟩
  have oa : ∀ a, Owns (vs.map some) args a → Owns σ ρ a := by
    rintro a ⟨k, m1, o1, q1, q2⟩
    obtain ⟨v, j, o2, g1, g2, g3, g4, g5⟩ := A.getOwn q1
    rw [List.getElem?_map, g1] at q2
    have q2 : some (some v) = some (some (V.ref a)) := q2
    exact ⟨j, m1, o2, g4, g5.trans q2⟩
  refine ⟨⟨E'.sub, ?_, fun i d e => ?_, fun i mm o e => ?_, fun i j m1 m2 o1 o2 a e1 e2 s1 s2 => ?_⟩, ⟨pb_len _ _ _, m.dom, fun a o h n => ?_, fun i mm o e no => ?_, fun i mm a e e2 => ?_⟩⟩
  · rw [pb_len]
    exact E.len
  · have e' : ρ[i]? = some (.val d) := by
      cases q : ρ[i]? with
      | none =>
        rw [pb_val (fun m o z => by rw [q] at z; cases z), q] at e
        cases e
      | some t =>
        cases t with
        | own m0 o0 =>
          by_cases z : i ∈ locs rs
          · obtain ⟨k, q'⟩ := of_locs z
            obtain ⟨m', a, ho, k1, _⟩ := inn i k m0 o0 q q'
            rw [k1] at e
            cases e
          · rw [pb_out z, q] at e
            cases e
        | _ =>
          rw [pb_val (fun m o z => by rw [q] at z; cases z), q] at e
          exact e
    obtain ⟨v, h1, h2⟩ := E.val i d e'
    exact ⟨v, h1, h2.mono ex⟩
  · obtain ⟨m0, e0⟩ := sl i mm o e
    by_cases z : i ∈ locs rs
    · obtain ⟨k, q⟩ := of_locs z
      obtain ⟨m', a, ho, k1, _, k2⟩ := inn i k m0 o e0 q
      rw [k1] at e
      cases e
      exact ⟨a, ho, k2⟩
    · rw [pb_out z, e0] at e
      cases e
      obtain ⟨a, ho, g1, g2, g3, g4⟩ := E.own i _ o e0
      obtain ⟨k1, k2, _⟩ := m.keep a ho g3 (out i _ o a e0 g1 z)
      exact ⟨a, ho, g1, k2.trans g2, k1, g4.mono ex⟩
  · obtain ⟨m3, f1⟩ := sl i m1 o1 e1
    obtain ⟨m4, f2⟩ := sl j m2 o2 e2
    exact E.dis i j m3 m4 o1 o2 a f1 f2 s1 s2
  · obtain ⟨k1, k2, _⟩ := m.keep a o h fun z => n (oa a z)
    exact ⟨k1, k2, fun z => n (os a z)⟩
  · by_cases z : i ∈ locs rs
    · obtain ⟨k, q⟩ := of_locs z
      obtain ⟨m', a, ho, k1, k2, _⟩ := inn i k mm o e q
      exact ⟨⟨m', k1, k2⟩, rfl⟩
    · rw [pb_out z]
      exact ⟨⟨mm, e, fun _ => rfl⟩, rfl⟩
  · by_cases z : i ∈ locs rs
    · obtain ⟨k, q⟩ := of_locs z
      obtain ⟨g1, v, g2, g3⟩ := A.atLoc q e
      rw [e2] at g3
      injection g3 with g3
      injection g3 with g3
      subst g3
      exact m.lck k mm a g1 (by rw [List.getElem?_map, g2] <;> rfl)
    · obtain ⟨a', ho, k1, k2, k3, _⟩ := E.own i mm .lck e
      rw [e2] at k1
      injection k1 with k1
      injection k1 with k1
      injection k1 with k1
      subst k1
      rw [(m.keep a ho k3 (out i mm .lck a e e2 z)).1, k3]
end

theorem ExcIs.same {C : Ctx} {cls : Value} {d : Option Addr} {H : Hp} {e : Exc} (h : ExcIs C cls d H e) : ExcIs C cls d H e := h
section
variable {X : Cx} {ex : Str → Addr} {W : WX} {pos : Pos} {e : Expr} {es : List Expr} {fs : EM (List R)} {f : EM R} {k : Nat} {fA : Addr} {fd : FuncData} {ps : List Str} {x : Str} {p : Pos}
theorem call_in {C : Ctx} {σ : L2.St} {H : Hp} {Q : VK} (h : DE C W (eCall f fs) σ H Q) : DA C W fs σ H fun vs H1 => spD C f vs H1 Q (fun cls d H => W cls d σ H) := by
  obtain ⟨ρ, F, y, E, e, hr⟩ := h
  refine (splitA E (Fm.refl σ ρ F H) e hr.err).mono fun vs H1 ⟨rs, ρ1, F1, E1, m1, _, rrs, e1⟩ => ?_
  unfold callW at e1
  cases ha : argsOf ρ1 rs with
  | none =>
    rw [ha] at e1
    cases e1
  | some args =>
    rw [ha] at e1
    have e1 : (if (locs rs).Nodup then (f args).bind (callOut ρ1 rs) else none) = some y := e1
    by_cases n : (locs rs).Nodup
    · rw [if_pos n] at e1
      obtain ⟨F2, E2, m2, x2, A⟩ := arel_of E1 m1 rrs ha
      cases hf : f args with
      | none =>
        rw [hf] at e1
        cases e1
      | some z =>
        rw [hf] at e1
        have e1 : callOut ρ1 rs z = some y := e1
        refine ⟨args, F2, z, args_er E2 A n, hf, ?_⟩
        rcases z with ⟨z | r, fin⟩
        · cases e1
          intro cls d F' H' E' m' q
          obtain ⟨g1, g2⟩ := back_ok E2 A n E' m'
          exact hr cls d F' H' g1 (m2.trans g2) q
        · intro v F' H' E' m' rr
          obtain ⟨g1, g2⟩ := back_ok E2 A n E' m'
          cases r with
          | loc i => cases e1
          | val d =>
            cases e1
            exact hr v F' H' g1 (m2.trans g2) rr
          | fr mm =>
            cases e1
            obtain ⟨q, ho, z1, z2, z3, z4, z5, z6⟩ := rr
            refine hr v F' H' g1 (m2.trans g2) ⟨q, ho, z1, Classical.byContradiction fun w => m1.dom q w z2, z3, z4, z5, ?_⟩
            rintro ⟨i, m3, o3, w1, w2⟩
            obtain ⟨a, ho', u1, u2, u3, _⟩ := g1.own i m3 o3 w1
            rw [w2] at u1
            injection u1 with u1
            injection u1 with u1
            injection u1 with u1
            subst u1
            -- the slot's object stood before the call
            have b := g2.keep
            have : ∃ m0 o0, ρ1[i]? = some (Slot.own m0 o0) := by
              cases e : ρ1[i]? with
              | none =>
                rw [pb_val (fun m o z => by rw [e] at z; cases z), e] at w1
                cases w1
              | some t =>
                cases t with
                | own m0 o0 => exact ⟨m0, o0, rfl⟩
                | _ =>
                  rw [pb_val (fun m o z => by rw [e] at z; cases z), e] at w1
                  cases w1
            obtain ⟨m0, o0, e⟩ := this
            obtain ⟨a', ho2, t1, _, t3, _⟩ := E2.own i m0 o0 e
            rw [w2] at t1
            injection t1 with t1
            injection t1 with t1
            injection t1 with t1
            subst t1
            rw [z2] at t3
            cases t3
    · rw [if_neg n] at e1
      cases e1
theorem l_call (G : FnOk X.prog X.w X.K X.mg X.base (L2.CX X.prog X.w) k fA fd ps (spD ⟨X.K, ex⟩ f)) (hr : Room k X.A) (hm : X.mg x = some (.ref fA)) (hk : PySem.W.keepIn X.K (.ref fA) = true) (hb : Binds X.K fd ps []) (tk : Takes X W)
    (ha : PA X (e :: es) (DA ⟨X.K, ex⟩ W fs)) (hg : Gl X x := by rfl) (hdb : (x == ("__debug__" : Str)) = false := by decide) (he : starEach (e :: es) X.env = (false, eval e X.env) :: starEach es X.env := by rfl) (hpl : (backTo pos (starEach es X.env)).any (·.1) = false := by rfl) :
    PE X (.Call (.Name x p) (e :: es) [] pos) (DE ⟨X.K, ex⟩ W (eCall f fs)) :=
  impE (pe_callS G hr hg hm hk hb (fun σ => passAt tk σ) ha hdb he hpl) fun σ H Q h => call_in h
end
end LF
end

-- part LFRules6
section
set_option Elab.async false
set_option linter.all false
set_option maxRecDepth 100000
set_option maxHeartbeats 2000000
namespace LF
open PySem PySem.Spec PyProof.Rows L2

section
variable {X : Cx} {ex : Str → Addr} {W : WX} {pos : Pos} {e a b c : Expr} {es rest : List Expr} {fa fb fc : EM R} {ba bb : EM Bool} {fs : EM (List R)}
/-! ### expressions by their signs -/
theorem l_bin {op : Operator} {r : R2} {g : D → D → Option Got} (ho : OpR X (binaryOp op) r) (o : Op2 X.K r g) (ha : PE X a (DE ⟨X.K, ex⟩ W fa)) (hb : PE X b (DE ⟨X.K, ex⟩ W fb)) : PE X (.BinOp a op b pos) (DE ⟨X.K, ex⟩ W (e2 g fa fb)) :=
  impE (pe_op ho ha hb) fun _ _ _ h => l_2 (t := fun a _ => a) o h
theorem l_cmp {op : CmpOp} {r : R2} {g : D → D → Option Got} (ho : OpR X (compareOp op) r) (o : Op2 X.K r g) (ha : PE X a (DE ⟨X.K, ex⟩ W fa)) (hb : PE X b (DE ⟨X.K, ex⟩ W fb)) (hm : behindInMarks op b = false := by rfl) : PE X (.Compare a [op] [b] pos) (DE ⟨X.K, ex⟩ W (e2 g fa fb)) :=
  impE (pe_cmpR ho ha hb hm) fun _ _ _ h => l_2 (t := fun a _ => a) o h
theorem l_ix (ha : PE X a (DE ⟨X.K, ex⟩ W fa)) (hb : PE X b (DE ⟨X.K, ex⟩ W fb)) (hs : PlainIx b := by intro _ _; rfl) : PE X (.Subscript a b pos) (DE ⟨X.K, ex⟩ W (e2 gIx fa fb)) :=
  impE (pe_ix ix_seq ha hb hs) fun _ _ _ h => l_2 (t := fun a _ => a) (ix_2 X.K) h
theorem l_un {op : UnaryOp} {r : V → Hp → VK → Prop} {g : D → Option Got} (ho : UnR X (unaryOp op) r) (o : Op1 X.K r g) (ha : PE X a (DE ⟨X.K, ex⟩ W fa)) : PE X (.UnaryOp op a pos) (DE ⟨X.K, ex⟩ W (e1 g fa)) :=
  impE (pe_un ho ha) fun _ _ _ h => l_1 o h
theorem l_callB {x : Str} {id : String} {r : List V → Hp → VK → Prop} {g : D → Option Got} {p : Pos} (hc : CallR X (.builtin id) r) (o : Op1 X.K (fun x H Q => r [x] H Q) g) (hm : X.mg x = none) (hv : bootBuiltins x = some (.builtin id)) (ha : PE X a (DE ⟨X.K, ex⟩ W fa)) (hg : Gl X x := by rfl)
    (hn : x ≠ "__name__" := by decide) (hdb : (x == ("__debug__" : Str)) = false := by decide) (he : starEach (a :: []) X.env = (false, eval a X.env) :: starEach [] X.env := by rfl) (hpl : (backTo pos (starEach [] X.env)).any (·.1) = false := by rfl) : PE X (.Call (.Name x p) [a] [] pos) (DE ⟨X.K, ex⟩ W (e1 g fa)) :=
  impE (pe_callB hc hg hm hv (pa_cons ha pa_nil he) hn hdb he hpl) fun _ _ _ h => l_1 o h
theorem l_callTy {x : Str} {T : String} {r : List V → Hp → VK → Prop} {g : D → Option Got} {p : Pos} (hc : CallR X (.type T) r) (o : Op1 X.K (fun x H Q => r [x] H Q) g) (hm : X.mg x = none) (hv : bootBuiltins x = some (.type T)) (ha : PE X a (DE ⟨X.K, ex⟩ W fa)) (hg : Gl X x := by rfl)
    (hn : x ≠ "__name__" := by decide) (hdb : (x == ("__debug__" : Str)) = false := by decide) (he : starEach (a :: []) X.env = (false, eval a X.env) :: starEach [] X.env := by rfl) (hpl : (backTo pos (starEach [] X.env)).any (·.1) = false := by rfl) : PE X (.Call (.Name x p) [a] [] pos) (DE ⟨X.K, ex⟩ W (e1 g fa)) :=
  impE (pe_callTy hc hg hm hv (pa_cons ha pa_nil he) hn hdb he hpl) fun _ _ _ h => l_1 o h
theorem l_callB2 {x : Str} {id : String} {r : List V → Hp → VK → Prop} {g : D → D → Option Got} {p : Pos} (hc : CallR X (.builtin id) r) (o : Op2 X.K (fun x y H Q => r [x, y] H Q) g) (hm : X.mg x = none) (hv : bootBuiltins x = some (.builtin id)) (ha : PE X a (DE ⟨X.K, ex⟩ W fa)) (hb : PE X b (DE ⟨X.K, ex⟩ W fb)) (hg : Gl X x := by rfl)
    (hn : x ≠ "__name__" := by decide) (hdb : (x == ("__debug__" : Str)) = false := by decide) (hb' : starEach (b :: []) X.env = (false, eval b X.env) :: starEach [] X.env := by rfl) (he : starEach (a :: [b]) X.env = (false, eval a X.env) :: starEach [b] X.env := by rfl) (hpl : (backTo pos (starEach [b] X.env)).any (·.1) = false := by rfl) :
    PE X (.Call (.Name x p) [a, b] [] pos) (DE ⟨X.K, ex⟩ W (e2 g fa fb)) :=
  impE (pe_callB hc hg hm hv (pa_cons ha (pa_cons hb pa_nil hb') he) hn hdb he hpl) fun _ _ _ h => l_2 (t := fun a _ => a) o h
theorem max_2 (K : PySem.W.Frag) : Op2 K (fun x y H Q => ∃ i j, [x, y] = [V.int i, V.int j] ∧ Q (.int (if j > i then j else i)) H) gMax2 := by
  intro F H x y d d' z Q e hl hl' ht ht' rx ry hg qv ql qt
  unfold gMax2 gI at hg
  split at hg
  · cases hg
    rw [rep_int rx, rep_int ry]
    exact ⟨_, _, rfl, qv _ _ rfl (.int _)⟩
  · cases hg
theorem min_2 (K : PySem.W.Frag) : Op2 K (fun x y H Q => ∃ i j, [x, y] = [V.int i, V.int j] ∧ Q (.int (if j < i then j else i)) H) gMin2 := by
  intro F H x y d d' z Q e hl hl' ht ht' rx ry hg qv ql qt
  unfold gMin2 gI at hg
  split at hg
  · cases hg
    rw [rep_int rx, rep_int ry]
    exact ⟨_, _, rfl, qv _ _ rfl (.int _)⟩
  · cases hg
theorem l_isi {T : String} {xT : Str} {p pT : Pos} (hT : T ∈ ["bool", "int", "str", "list", "tuple"]) (hm : X.mg "isinstance" = none) (hmT : X.mg xT = none) (hvT : bootBuiltins xT = some (.type T)) (ha : PE X a (DE ⟨X.K, ex⟩ W fa)) (hg : Gl X "isinstance" := by rfl) (hgT : Gl X xT := by rfl) (hnT : xT ≠ "__name__" := by decide) (hdbT : (xT == ("__debug__" : Str)) = false := by decide)
    (hb' : starEach (.Name xT pT :: []) X.env = (false, eval (.Name xT pT) X.env) :: starEach [] X.env := by rfl) (he : starEach (a :: [.Name xT pT]) X.env = (false, eval a X.env) :: starEach [.Name xT pT] X.env := by rfl) (hpl : (backTo pos (starEach [.Name xT pT] X.env)).any (·.1) = false := by rfl) :
    PE X (.Call (.Name "isinstance" p) [a, .Name xT pT] [] pos) (DE ⟨X.K, ex⟩ W (e1 (gIsi T) fa)) :=
  impE (pe_callB call_isi hg hm (by decide +kernel) (pa_cons ha (pa_cons (pe_bltn (v := .ty T) hgT hmT hvT rfl hnT hdbT) pa_nil hb') he) (by decide) (by decide) he hpl) fun _ _ _ h => l_1 (isi_1 X.K hT) h

/-! ### chains a < b < c -/
def gB : Option Got → Option Bool
  | some (.v (.bool k)) => some k
  | _ => none
def g2R (g : D → D → Option Got) (x y : R) (ρ : En) : Option Got := match rd x ρ, rd y ρ with
  | some d, some d' => g d d'
  | _, _ => none
def eChain (g g' : D → D → Option Got) (fa fb fc : EM R) : EM R := EM.bind fa fun x => EM.bind fb fun y => fun ρ => match gB (g2R g x y ρ) with
  | none => none
  | some false => some (.ok (.val (.bool false)), ρ)
  | some true => EM.bind fc (fun w => fun ρ => (g2R g' y w ρ).map fun z => (.ok z.r, ρ)) ρ
theorem l_2c {r r' : R2} {g g' : D → D → Option Got} (o : Op2 X.K r g) (o' : Op2 X.K r' g') {σ : L2.St} {H : Hp} {Q : VK} (h : DE ⟨X.K, ex⟩ W (eChain g g' fa fb fc) σ H Q) :
    tChain r r' (DE ⟨X.K, ex⟩ W fa) (DE ⟨X.K, ex⟩ W fb) (DE ⟨X.K, ex⟩ W fc) σ H Q := by
  obtain ⟨ρ, F, y, E, e, hr⟩ := h
  refine (split E (Fm.refl σ ρ F H) e hr.err).mono fun v H1 ⟨r1, ρ1, F1, E1, m1, _, rr1, e1⟩ => ?_
  refine (split E1 m1 e1 hr.err).mono fun u H2 ⟨r2, ρ2, F2, E2, m2, m12, rr2, e2⟩ => ?_
  have rr1 := rr1.step E1 m12
  have e2 : (match gB (g2R g r1 r2 ρ2) with
    | none => none
    | some false => some (Except.ok (ε := Exc) (R.val (.bool false)), ρ2)
    | some true => EM.bind fc (fun w => fun ρ => (g2R g' r2 w ρ).map fun z => (Except.ok z.r, ρ)) ρ2) = some y := e2
  cases hz : g2R g r1 r2 ρ2 with
  | none =>
    rw [hz] at e2
    cases e2
  | some z =>
    have hz' := hz
    unfold g2R at hz
    cases h1 : rd r1 ρ2 with
    | none =>
      rw [h1] at hz
      cases hz
    | some d =>
      rw [h1] at hz
      cases h2 : rd r2 ρ2 with
      | none =>
        rw [h2] at hz
        cases hz
      | some d' =>
        rw [h2] at hz
        have hz : g d d' = some z := hz
        cases hk : gB (some z) with
        | none =>
          rw [hz', hk] at e2
          cases e2
        | some k =>
          rw [hz', hk] at e2
          have zk : z = .v (.bool k) := by
            unfold gB at hk
            split at hk
            · rename_i k' q
              injection q with q
              injection hk with hk
              rw [q, hk]
            · cases hk
          subst zk
          refine o F2 H2 v u d d' _ _ E2.sub (fun ds q => rd_list E2 rr1 (q ▸ h1)) (fun ds q => rd_list E2 rr2 (q ▸ h2)) (fun ds q => rd_tup E2 rr1 (q ▸ h1)) (fun ds q => rd_tup E2 rr2 (q ▸ h2)) (rd_rep E2 rr1 h1) (rd_rep E2 rr2 h2) hz (fun uu e q rp => ?_) (fun ds vs p q rp hp => by cases q) fun ds vs p q rp hp => by cases q
          cases q
          rw [rep_bl rp]
          refine ⟨k, rfl, ?_⟩
          cases k with
          | false =>
            cases e2
            show Q (.bl false) H2
            exact fin_val hr E2 m2 (.bl false)
          | true =>
            show DE ⟨X.K, ex⟩ W fc σ H2 fun w' H4 => r' u w' H4 Q
            refine (split E2 m2 e2 hr.err).mono fun w H3 ⟨r3, ρ3, F3, E3, m3, m23, rr3, e3⟩ => ?_
            have rr2 := rr2.step E2 m23
            have e3 : (g2R g' r2 r3 ρ3).map (fun z => (Except.ok (ε := Exc) z.r, ρ3)) = some y := e3
            cases hz3 : g2R g' r2 r3 ρ3 with
            | none =>
              rw [hz3] at e3
              cases e3
            | some z =>
              rw [hz3] at e3
              cases e3
              unfold g2R at hz3
              cases h1 : rd r2 ρ3 with
              | none =>
                rw [h1] at hz3
                cases hz3
              | some d =>
                rw [h1] at hz3
                cases h2 : rd r3 ρ3 with
                | none =>
                  rw [h2] at hz3
                  cases hz3
                | some d' =>
                  rw [h2] at hz3
                  refine o' F3 H3 u w d d' z Q E3.sub (fun ds q => rd_list E3 rr2 (q ▸ h1)) (fun ds q => rd_list E3 rr3 (q ▸ h2)) (fun ds q => rd_tup E3 rr2 (q ▸ h1)) (fun ds q => rd_tup E3 rr3 (q ▸ h2)) (rd_rep E3 rr2 h1) (rd_rep E3 rr3 h2) hz3 (fun u e q rp => ?_) (fun ds vs p q rp hp => ?_) fun ds vs p q rp hp => ?_
                  · subst q
                    exact fin_val hr E3 m3 rp
                  · subst q
                    exact fin_new hr E3 m3 (.lst rp) hp
                  · subst q
                    exact fin_tup hr E3 m3 rp hp
theorem l_chain {op op' : CmpOp} {r r' : R2} {g g' : D → D → Option Got} (ho : OpR X (compareOp op) r) (o : Op2 X.K r g) (ho' : OpR X (compareOp op') r') (o' : Op2 X.K r' g') (ha : PE X a (DE ⟨X.K, ex⟩ W fa)) (hb : PE X b (DE ⟨X.K, ex⟩ W fb)) (hc : PE X c (DE ⟨X.K, ex⟩ W fc))
    (hm : lastMarks [op, op'] [b, c] = false := by with_unfolding_all rfl) : PE X (.Compare a [op, op'] [b, c] pos) (DE ⟨X.K, ex⟩ W (eChain g g' fa fb fc)) := impE (pe_chain ho ho' ha hb hc hm) fun _ _ _ h => l_2c o o' h

/-! ### tests -/
def bOf : R → EM Bool
  | .val (.bool k) => EM.pure k
  | _ => EM.stuck
def tB (f : EM R) : EM Bool := EM.bind f bOf
theorem tb_in {σ : L2.St} {H : Hp} {Q : Bool → Hp → Prop} (h : DT ⟨X.K, ex⟩ W (tB fa) σ H Q) : DE ⟨X.K, ex⟩ W fa σ H fun x H' => ∃ k, x = .bl k ∧ Q k H' := by
  obtain ⟨ρ, F, y, E, e, hr⟩ := h
  refine (split E (Fm.refl σ ρ F H) e hr.err).mono fun v H1 ⟨r1, ρ1, F1, E1, m1, _, rr1, e1⟩ => ?_
  unfold bOf at e1
  split at e1
  · cases e1
    exact ⟨_, rep_bl rr1, hr F1 H1 E1 m1⟩
  · cases e1
theorem l_cmpT {op : CmpOp} {r : R2} {g : D → D → Option Got} (ho : OpR X (compareOp op) r) (o : Op2 X.K r g) (ha : PE X a (DE ⟨X.K, ex⟩ W fa)) (hb : PE X b (DE ⟨X.K, ex⟩ W fb)) (hm : behindInMarks op b = false := by rfl) : PT X (.Compare a [op] [b] pos) (DT ⟨X.K, ex⟩ W (tB (e2 g fa fb))) :=
  impT (pt_cmpR ho ha hb hm) fun _ _ _ h => l_2 (t := fun a _ => a) o (tb_in h)
theorem l_chainT {op op' : CmpOp} {r r' : R2} {g g' : D → D → Option Got} (ho : OpR X (compareOp op) r) (o : Op2 X.K r g) (ho' : OpR X (compareOp op') r') (o' : Op2 X.K r' g') (ha : PE X a (DE ⟨X.K, ex⟩ W fa)) (hb : PE X b (DE ⟨X.K, ex⟩ W fb)) (hc : PE X c (DE ⟨X.K, ex⟩ W fc))
    (hm : lastMarks [op, op'] [b, c] = false := by with_unfolding_all rfl) : PT X (.Compare a [op, op'] [b, c] pos) (DT ⟨X.K, ex⟩ W (tB (eChain g g' fa fb fc))) := impT (pt_chain ho ho' ha hb hc hm) fun _ _ _ h => l_2c o o' (tb_in h)
/-- the truth of anything -/
def gTru : D → Option Bool
  | .none => some false
  | .bool b => some b
  | .int i => some (i != 0)
  | .str y => if y.length ≤ sizeLine then some ((y.length : Int) != 0) else none
  | .list ds => some (!ds.isEmpty)
  | .tuple ds => some (!ds.isEmpty)
  | .dict [] => some false
  | .dict ((.int _, _) :: _) => some true
  | .dict ((.str _, _) :: _) => some true
  | .dict _ => none
def tTru (f : EM R) : EM Bool := EM.bind f fun r => fun ρ => ((rd r ρ).bind gTru).map fun k => (.ok k, ρ)
theorem isEmpty_len {α β : Type} {xs : List α} {ys : List β} (h : xs.length = ys.length) : xs.isEmpty = ys.isEmpty := by
  cases xs <;> cases ys <;> simp_all
theorem repK_len {K : PySem.W.Frag} {F : Hp} : ∀ {vs : List (Key × V)} {ds : List (Key × D)}, RepK K F vs ds → vs.length = ds.length
  | _, _, .nil => rfl
  | _, _, .cons _ r => by rw [List.length_cons, List.length_cons, repK_len r]
theorem tru_rep {K : PySem.W.Frag} {H : Hp} {v : V} {d : D} {k : Bool} (r : Rep K H v d) (h : gTru d = some k) : TruV K v H k := by
  cases r with
  | non =>
    cases h
    rfl
  | bl b =>
    cases h
    rfl
  | int i =>
    cases h
    rfl
  | str x =>
    unfold gTru at h
    dsimp only at h
    split at h
    · cases h
      exact ⟨by assumption, rfl⟩
    · cases h
  | lst h1 h2 =>
    cases h
    exact .inl ⟨_, sl_of h1, by rw [isEmpty_len h2.length]⟩
  | tup h1 h2 =>
    cases h
    exact .inr (.inl ⟨_, h1, by rw [isEmpty_len h2.length]⟩)
  | ro h1 h2 => cases h
  | dK h1 h2 =>
    cases h2 with
    | nil =>
      cases h
      exact .inr (.inr ⟨_, h1, rfl⟩)
    | cons r1 r2 =>
      rename_i key _ _ _ _
      cases key <;> (cases h; exact .inr (.inr ⟨_, h1, rfl⟩))
theorem l_tru (ha : PE X a (DE ⟨X.K, ex⟩ W fa)) (he : ∀ whole, isTrue a X.env whole = (do let v ← whole; standAt a.pos; holding [v] (truthy v)) := by intro _; rfl) : PT X a (DT ⟨X.K, ex⟩ W (tTru fa)) :=
  impT (pt_truth ha he) fun σ H Q h => by
    obtain ⟨ρ, F, y, E, e, hr⟩ := h
    refine (split E (Fm.refl σ ρ F H) e hr.err).mono fun v H1 ⟨r1, ρ1, F1, E1, m1, _, rr1, e1⟩ => ?_
    have e1 : ((rd r1 ρ1).bind gTru).map (fun k => (Except.ok (ε := Exc) k, ρ1)) = some y := e1
    cases h1 : rd r1 ρ1 with
    | none =>
      rw [h1] at e1
      cases e1
    | some d =>
      rw [h1] at e1
      have e1 : (gTru d).map (fun k => (Except.ok (ε := Exc) k, ρ1)) = some y := e1
      cases h2 : gTru d with
      | none =>
        rw [h2] at e1
        cases e1
      | some k =>
        rw [h2] at e1
        cases e1
        exact ⟨k, tru_rep (rd_rep E1 rr1 h1) h2, hr F1 H1 E1 m1⟩
def tAnd (fa fb : EM Bool) : EM Bool := EM.bind fa fun k => if k = true then fb else EM.pure false
def tOr (fa fb : EM Bool) : EM Bool := EM.bind fa fun k => if k = true then EM.pure true else fb
def tNot (fa : EM Bool) : EM Bool := EM.bind fa fun k => EM.pure (!k)
theorem ResT.base {C : Ctx} {σ : L2.St} {ρ ρ1 : En} {F F1 H H1 : Hp} {x : Except Exc Bool × En} {Q : Bool → Hp → Prop} (m : Fm σ ρ F H σ ρ1 F1 H1) (h : ResT C W σ ρ F H x Q) : ResT C W σ ρ1 F1 H1 x Q := by
  rcases x with ⟨x | k, ρ'⟩
  · exact fun cls d F' H' E' m' z => h cls d F' H' E' (m.trans m') z
  · exact fun F' H' E' m' => h F' H' E' (m.trans m')
theorem Res.base {C : Ctx} {σ : L2.St} {ρ ρ1 : En} {F F1 H H1 : Hp} {x : Except Exc R × En} {Q : VK} (m : Fm σ ρ F H σ ρ1 F1 H1) (h : Res C W σ ρ F H x Q) : Res C W σ ρ1 F1 H1 x Q := by
  rcases x with ⟨x | k, ρ'⟩
  · exact fun cls d F' H' E' m' z => h cls d F' H' E' (m.trans m') z
  · exact fun v F' H' E' m' rr => h v F' H' E' (m.trans m') (rr.back m.dom)
theorem l_and1 (h : PT X a (DT ⟨X.K, ex⟩ W ba)) : PW X (.BoolOp .And [a] pos) (DT ⟨X.K, ex⟩ W ba) := pw_and1 h
theorem l_or1 (h : PT X a (DT ⟨X.K, ex⟩ W ba)) : PW X (.BoolOp .Or [a] pos) (DT ⟨X.K, ex⟩ W ba) := pw_or1 h
theorem l_and (ha : PT X a (DT ⟨X.K, ex⟩ W ba)) (hb : PW X (.BoolOp .And (b :: rest) pos) (DT ⟨X.K, ex⟩ W bb)) : PW X (.BoolOp .And (a :: b :: rest) pos) (DT ⟨X.K, ex⟩ W (tAnd ba bb)) :=
  impW (pw_and ha hb) fun σ H Q h => by
    obtain ⟨ρ, F, y, E, e, hr⟩ := h
    refine (splitT E (Fm.refl σ ρ F H) e hr.err).mono fun k H1 ⟨ρ1, F1, E1, m1, e1⟩ => ?_
    cases k with
    | true =>
      show DT ⟨X.K, ex⟩ W bb σ H1 Q
      exact ⟨ρ1, F1, y, E1, e1, hr.base m1⟩
    | false =>
      cases e1
      show Q false H1
      exact hr F1 H1 E1 m1
theorem l_or (ha : PT X a (DT ⟨X.K, ex⟩ W ba)) (hb : PW X (.BoolOp .Or (b :: rest) pos) (DT ⟨X.K, ex⟩ W bb)) : PW X (.BoolOp .Or (a :: b :: rest) pos) (DT ⟨X.K, ex⟩ W (tOr ba bb)) :=
  impW (pw_or ha hb) fun σ H Q h => by
    obtain ⟨ρ, F, y, E, e, hr⟩ := h
    refine (splitT E (Fm.refl σ ρ F H) e hr.err).mono fun k H1 ⟨ρ1, F1, E1, m1, e1⟩ => ?_
    cases k with
    | false =>
      show DT ⟨X.K, ex⟩ W bb σ H1 Q
      exact ⟨ρ1, F1, y, E1, e1, hr.base m1⟩
    | true =>
      cases e1
      show Q true H1
      exact hr F1 H1 E1 m1
theorem l_not (ha : PT X a (DT ⟨X.K, ex⟩ W ba)) : PT X (.UnaryOp .Not a pos) (DT ⟨X.K, ex⟩ W (tNot ba)) :=
  impT (pt_not ha) fun σ H Q h => by
    obtain ⟨ρ, F, y, E, e, hr⟩ := h
    refine (splitT E (Fm.refl σ ρ F H) e hr.err).mono fun k H1 ⟨ρ1, F1, E1, m1, e1⟩ => ?_
    cases e1
    exact hr F1 H1 E1 m1
/-- and, or, not as values -/
def eAnd (fa fb : EM R) : EM R := EM.bind (tB fa) fun k => if k = true then fb else EM.pure (.val (.bool false))
def eOr (fa fb : EM R) : EM R := EM.bind (tB fa) fun k => if k = true then EM.pure (.val (.bool true)) else fb
def eNot (fa : EM R) : EM R := EM.bind (tB fa) fun k => EM.pure (.val (.bool !k))
theorem l_one {op} (h : PE X a (DE ⟨X.K, ex⟩ W fa)) : PE X (.BoolOp op [a] pos) (DE ⟨X.K, ex⟩ W fa) := pe_one h
theorem l_eand (ha : PE X a (DE ⟨X.K, ex⟩ W fa)) (hb : PE X (.BoolOp .And (b :: rest) pos) (DE ⟨X.K, ex⟩ W fb)) : PE X (.BoolOp .And (a :: b :: rest) pos) (DE ⟨X.K, ex⟩ W (eAnd fa fb)) :=
  impE (pe_and ha hb) fun σ H Q h => by
    obtain ⟨ρ, F, y, E, e, hr⟩ := h
    refine (tb_in (splitT E (Fm.refl σ ρ F H) e hr.err)).mono fun v H1 ⟨k, hk, ρ1, F1, E1, m1, e1⟩ => ⟨k, hk, ?_⟩
    cases k with
    | true =>
      show DE ⟨X.K, ex⟩ W fb σ H1 Q
      exact ⟨ρ1, F1, y, E1, e1, hr.base m1⟩
    | false =>
      cases e1
      show Q (.bl false) H1
      exact fin_val hr E1 m1 (.bl false)
theorem l_eor (ha : PE X a (DE ⟨X.K, ex⟩ W fa)) (hb : PE X (.BoolOp .Or (b :: rest) pos) (DE ⟨X.K, ex⟩ W fb)) : PE X (.BoolOp .Or (a :: b :: rest) pos) (DE ⟨X.K, ex⟩ W (eOr fa fb)) :=
  impE (pe_or ha hb) fun σ H Q h => by
    obtain ⟨ρ, F, y, E, e, hr⟩ := h
    refine (tb_in (splitT E (Fm.refl σ ρ F H) e hr.err)).mono fun v H1 ⟨k, hk, ρ1, F1, E1, m1, e1⟩ => ⟨k, hk, ?_⟩
    cases k with
    | false =>
      show DE ⟨X.K, ex⟩ W fb σ H1 Q
      exact ⟨ρ1, F1, y, E1, e1, hr.base m1⟩
    | true =>
      cases e1
      show Q (.bl true) H1
      exact fin_val hr E1 m1 (.bl true)
theorem l_enot (ha : PE X a (DE ⟨X.K, ex⟩ W fa)) : PE X (.UnaryOp .Not a pos) (DE ⟨X.K, ex⟩ W (eNot fa)) :=
  impE (pe_not ha) fun σ H Q h => by
    obtain ⟨ρ, F, y, E, e, hr⟩ := h
    refine (tb_in (splitT E (Fm.refl σ ρ F H) e hr.err)).mono fun v H1 ⟨k, hk, ρ1, F1, E1, m1, e1⟩ => ⟨k, hk, ?_⟩
    cases e1
    exact fin_val hr E1 m1 (.bl _)
def eIf (c : EM Bool) (fa fb : EM R) : EM R := EM.bind c fun k => if k = true then fa else fb
theorem l_if {bc : EM Bool} (hc : PT X c (DT ⟨X.K, ex⟩ W bc)) (ha : PE X a (DE ⟨X.K, ex⟩ W fa)) (hb : PE X b (DE ⟨X.K, ex⟩ W fb)) : PE X (.IfExp c a b pos) (DE ⟨X.K, ex⟩ W (eIf bc fa fb)) :=
  impE (pe_ifExp hc ha hb) fun σ H Q h => by
    obtain ⟨ρ, F, y, E, e, hr⟩ := h
    refine (splitT E (Fm.refl σ ρ F H) e hr.err).mono fun k H1 ⟨ρ1, F1, E1, m1, e1⟩ => ?_
    cases k with
    | true =>
      show DE ⟨X.K, ex⟩ W fa σ H1 Q
      exact ⟨ρ1, F1, y, E1, e1, hr.base m1⟩
    | false =>
      show DE ⟨X.K, ex⟩ W fb σ H1 Q
      exact ⟨ρ1, F1, y, E1, e1, hr.base m1⟩

/-! ### slices -/
def pNone : EM (Option Int) := EM.pure none
def pSome (f : EM R) : EM (Option Int) := EM.bind f fun r => fun ρ => match rd r ρ with
  | some (.int i) => some (.ok (some i), ρ)
  | _ => none
def cutD (xs : List D) (lo hi : Option Int) : List D := (xs.drop (HT.sIx xs.length 0 lo)).take (HT.sIx xs.length xs.length hi - HT.sIx xs.length 0 lo)
def gCut (d : D) (lo hi : Option Int) : Option Got := match d with
  | .list ds => some (.l (cutD ds lo hi))
  | .tuple ds => some (.v (.tuple (cutD ds lo hi)))
  | .str z => if z.length ≤ sizeLine then some (.v (.str (cutS z lo hi))) else none
  | _ => none
def eSl (fa : EM R) (lo hi : EM (Option Int)) : EM R := EM.bind fa fun x => EM.bind lo fun l => EM.bind hi fun h => fun ρ => ((rd x ρ).bind fun d => gCut d l h).map fun z => (.ok z.r, ρ)
def DO (C : Ctx) (W : WX) (f : EM (Option Int)) : TO := fun σ H Q => ∃ ρ F x, ER C.K σ ρ F H ∧ f ρ = some x ∧ match x with
  | (.ok o, ρ') => ∀ F' H', ER C.K σ ρ' F' H' → Fm σ ρ F H σ ρ' F' H' → Q o H'
  | (.error e, ρ') => ∀ cls d F' H', ER C.K σ ρ' F' H' → Fm σ ρ F H σ ρ' F' H' → ExcIs C cls d H' e → W cls d σ H'
theorem DO.mono {C : Ctx} {f : EM (Option Int)} {σ : L2.St} {H : Hp} {Q Q' : Option Int → Hp → Prop} (h : DO C W f σ H Q) (q : ∀ v H', Q v H' → Q' v H') : DO C W f σ H Q' := by
  obtain ⟨ρ, F, x, E, e, hr⟩ := h
  refine ⟨ρ, F, x, E, e, ?_⟩
  rcases x with ⟨x | r, ρ'⟩
  · exact hr
  · exact fun F' H' E' m' => q r H' (hr F' H' E' m')
theorem splitO {C : Ctx} {σ : L2.St} {ρ ρ0 : En} {F F0 H H0 : Hp} {β : Type} {f : EM (Option Int)} {g : Option Int → EM β} {x : Except Exc β × En} (E : ER C.K σ ρ F H) (m : Fm σ ρ0 F0 H0 σ ρ F H) (e : EM.bind f g ρ = some x) (he : ErrOk C W σ ρ0 F0 H0 x) :
    DO C W f σ H fun b H1 => ∃ ρ1 F1, ER C.K σ ρ1 F1 H1 ∧ Fm σ ρ0 F0 H0 σ ρ1 F1 H1 ∧ Fm σ ρ F H σ ρ1 F1 H1 ∧ g b ρ1 = some x := by
  unfold EM.bind at e
  cases hf : f ρ with
  | none =>
    rw [hf] at e
    cases e
  | some y =>
    rw [hf] at e
    refine ⟨ρ, F, y, E, hf, ?_⟩
    rcases y with ⟨y | r, ρ'⟩
    · have e' : x = (.error y, ρ') := by injection e with e; exact e.symm
      exact fun cls d F' H' E' m' z => he y ρ' e' cls d F' H' E' (m.trans m') z
    · exact fun F' H' E' m' => ⟨ρ', F', E', m.trans m', m', e⟩
theorem l_no : PO X none (DO ⟨X.K, ex⟩ W pNone) := by
  refine ⟨fun pins s σ H Q I h => po_none.run pins s σ H Q I ?_⟩
  obtain ⟨ρ, F, y, E, e, hr⟩ := h
  cases e
  exact hr F H E (Fm.refl σ ρ F H)
theorem l_so (ha : PE X a (DE ⟨X.K, ex⟩ W fa)) : PO X (some a) (DO ⟨X.K, ex⟩ W (pSome fa)) := by
  refine ⟨fun pins s σ H Q I h => (po_some ha).run pins s σ H Q I ?_⟩
  obtain ⟨ρ, F, y, E, e, hr⟩ := h
  have he : ErrOk ⟨X.K, ex⟩ W σ ρ F H y := fun e ρ' z cls d F' H' => by
    subst z
    exact hr cls d F' H'
  refine (split E (Fm.refl σ ρ F H) e he).mono fun v H1 ⟨r1, ρ1, F1, E1, m1, _, rr1, e1⟩ => ?_
  have e1 : (match rd r1 ρ1 with
    | some (.int i) => some (Except.ok (ε := Exc) (some i), ρ1)
    | _ => none) = some y := e1
  cases h1 : rd r1 ρ1 with
  | none =>
    rw [h1] at e1
    cases e1
  | some d =>
    rw [h1] at e1
    cases d with
    | int i =>
      cases e1
      exact ⟨i, rd_int E1 rr1 h1, hr F1 H1 E1 m1⟩
    | _ => cases e1
theorem cut_rep {K : PySem.W.Frag} {F : Hp} {xs : List V} {ds : List D} (r : RepL K F xs ds) (lo hi : Option Int) : RepL K F (cutV xs lo hi) (cutD ds lo hi) := by
  unfold cutV cutD
  rw [r.length]
  exact (r.drop _).take _
theorem l_sl {lo hi : Option Expr} {fl fh : EM (Option Int)} {p2 : Pos} (ha : PE X a (DE ⟨X.K, ex⟩ W fa)) (hl : PO X lo (DO ⟨X.K, ex⟩ W fl)) (hh : PO X hi (DO ⟨X.K, ex⟩ W fh)) : PE X (.Subscript a (.Slice lo hi none p2) pos) (DE ⟨X.K, ex⟩ W (eSl fa fl fh)) :=
  impE (pe_slice (sl_list.or (sl_tupA.or sl_str)) ha hl hh) fun σ H Q h => by
    obtain ⟨ρ, F, y, E, e, hr⟩ := h
    refine (split E (Fm.refl σ ρ F H) e hr.err).mono fun v H1 ⟨r1, ρ1, F1, E1, m1, _, rr1, e1⟩ => ?_
    refine (splitO E1 m1 e1 hr.err).mono fun l H2 ⟨ρ2, F2, E2, m2, m12, e2⟩ => ?_
    refine (splitO E2 m2 e2 hr.err).mono fun h H3 ⟨ρ3, F3, E3, m3, m23, e3⟩ => ?_
    have rr1 := (rr1.step E1 m12).step E2 m23
    have e3 : ((rd r1 ρ3).bind fun d => gCut d l h).map (fun z => (Except.ok (ε := Exc) z.r, ρ3)) = some y := e3
    cases h1 : rd r1 ρ3 with
    | none =>
      rw [h1] at e3
      cases e3
    | some d =>
      rw [h1] at e3
      have e3 : (gCut d l h).map (fun z => (Except.ok (ε := Exc) z.r, ρ3)) = some y := e3
      unfold gCut at e3
      split at e3
      · cases e3
        obtain ⟨a, xs, e, k1, k2⟩ := rd_list E3 rr1 h1
        exact .inl ⟨a, xs, e, sl_of k1, fun p hp => fin_new hr E3 m3 (.lst (cut_rep k2 l h)) hp⟩
      · cases e3
        obtain ⟨a, xs, e, k1, k2⟩ := rd_tup E3 rr1 h1
        refine .inr (.inl ⟨a, xs, e, ex_t E3.sub k1, fun z => ?_, fun _ p hp => fin_tup hr E3 m3 (cut_rep k2 l h) hp⟩)
        refine fin_val hr E3 m3 ?_
        have cut : ∀ ds : List D, RepL X.K F3 xs ds → cutD ds l h = ds := fun ds k2 => by
          unfold cutD
          rw [← k2.length, z.1, z.2, Nat.sub_zero, List.drop_zero, k2.length, List.take_length]
        rw [cut _ k2]
        exact .tup k1 k2
      · split at e3
        · cases e3
          exact .inr (.inr ⟨_, rd_str E3 rr1 h1, by assumption, fin_val hr E3 m3 (.str _)⟩)
        · cases e3
      · cases e3
end
end LF
end

-- part LFRules7
section
set_option Elab.async false
set_option linter.all false
set_option maxRecDepth 100000
set_option maxHeartbeats 2000000
namespace LF
open PySem PySem.Spec PyProof.Rows L2

theorem ResS.base {C : Ctx} {W : WX} {σ σ1 : L2.St} {ρ ρ1 : En} {F F1 H H1 : Hp} {x : Except Exc Out × En} {Q : Ends} (m : Fm σ ρ F H σ1 ρ1 F1 H1) (h : ResS C W σ ρ F H x Q) : ResS C W σ1 ρ1 F1 H1 x Q := by
  rcases x with ⟨x | o, ρ'⟩
  · exact fun cls d σ' F' H' E' m' z => h cls d σ' F' H' E' (m.trans m') z
  · intro σ' F' H' E' m'
    have k := h σ' F' H' E' (m.trans m')
    cases o with
    | rt r => exact fun v rr => k v (rr.back m.dom)
    | _ => exact k

section
variable {X : Cx} {ex : Str → Addr} {W : WX} {pos : Pos} {e a b c : Expr} {es rest : List Expr} {fa fb fc : EM R} {bc : EM Bool} {fs : EM (List R)} {s : Stmt} {ss s1 s2 : List Stmt} {f g : EM Out}
/-! ### blocks -/
def sSeq (f g : EM Out) : EM Out := EM.bind f fun o => match o with
  | .nx => g
  | o => EM.pure o
def sNx : EM Out := EM.pure .nx
theorem p_nil : PSs X [] (DS ⟨X.K, ex⟩ W sNx) := impSs pss_nil fun D σ H h => by
  obtain ⟨ρ, F, y, E, e, hr⟩ := h
  cases e
  exact hr σ F H E (Fm.refl σ ρ F H)
theorem p_one (h : PS X s (DS ⟨X.K, ex⟩ W f)) : PSs X [s] (DS ⟨X.K, ex⟩ W f) := pss_one h
theorem p_cons (h : PS X s (DS ⟨X.K, ex⟩ W f)) (hs : PSs X ss (DS ⟨X.K, ex⟩ W g)) : PSs X (s :: ss) (DS ⟨X.K, ex⟩ W (sSeq f g)) := impSs (pss_cons h hs) fun D σ H h => by
  obtain ⟨ρ, F, y, E, e, hr⟩ := h
  unfold sSeq EM.bind at e
  cases hf : f ρ with
  | none =>
    rw [hf] at e
    cases e
  | some z =>
    rw [hf] at e
    refine ⟨ρ, F, z, E, hf, ?_⟩
    rcases z with ⟨z | o, ρ1⟩
    · cases e
      exact hr
    · intro σ' F' H' E' m'
      cases o with
      | nx =>
        have e : g ρ1 = some y := e
        exact ⟨ρ1, F', y, E', e, hr.base m'⟩
      | rt r =>
        cases e
        exact hr σ' F' H' E' m'
      | bk =>
        cases e
        exact hr σ' F' H' E' m'
      | ct =>
        cases e
        exact hr σ' F' H' E' m'
/-! ### storing a name -/
def stVal (i : Nat) (d : D) : En → Option En := fun ρ => if pinned ρ i = true then none else some (ρ.set i (.val d))
def stor (i : Nat) : R → EM Unit
  | .val d => fun ρ => (stVal i d ρ).map fun ρ' => (.ok (), ρ')
  | .fr m => fun ρ => if pinned ρ i = true then none else some (.ok (), ρ.set i (.own m .loc))
  | .loc j => EM.bind (fz (.loc j)) fun d => fun ρ => (stVal i d ρ).map fun ρ' => (.ok (), ρ')
theorem stVal_ok {K : PySem.W.Frag} {σ σ0 : L2.St} {ρ ρ0 ρ' : En} {F F0 H H0 : Hp} {i : Nat} {d : D} {v : V} (E : ER K σ ρ F H) (m : Fm σ0 ρ0 F0 H0 σ ρ F H) (r : Rep K F v d) (e : stVal i d ρ = some ρ') :
    ER K (σ.set i (some v)) ρ' F H ∧ Fm σ0 ρ0 F0 H0 (σ.set i (some v)) ρ' F H ∧ ρ' = ρ.set i (.val d) := by
  unfold stVal at e
  split at e
  · cases e
  · rename_i h
    have h : pinned ρ i = false := by simpa using h
    cases e
    exact ⟨E.setVal (pinned_lt h) r, m.trans (Fm.setVal h), rfl⟩
theorem stor_ok {K : PySem.W.Frag} {σ : L2.St} {ρ ρ0 : En} {F F0 H H0 : Hp} {i : Nat} {r : R} {v : V} {y : Except Exc Unit × En} (E : ER K σ ρ F H) (m : Fm σ ρ0 F0 H0 σ ρ F H) (rr : RR K H0 σ ρ F H v r) (e : stor i r ρ = some y) :
    ∃ ρ' F', y = (.ok (), ρ') ∧ ER K (σ.set i (some v)) ρ' F' H ∧ Fm σ ρ0 F0 H0 (σ.set i (some v)) ρ' F' H := by
  cases r with
  | val d =>
    have e : (stVal i d ρ).map (fun ρ' => (Except.ok (ε := Exc) (), ρ')) = some y := e
    cases h : stVal i d ρ with
    | none =>
      rw [h] at e
      cases e
    | some ρ' =>
      rw [h] at e
      cases e
      obtain ⟨h1, h2, _⟩ := stVal_ok E m rr h
      exact ⟨ρ', F, rfl, h1, h2⟩
  | fr mm =>
    have e : (if pinned ρ i = true then none else some (Except.ok (ε := Exc) (), ρ.set i (.own mm .loc))) = some y := e
    split at e
    · cases e
    · rename_i h
      have h : pinned ρ i = false := by simpa using h
      cases e
      obtain ⟨p, ho, rfl, h0, h1, h2, h3, h4⟩ := rr
      exact ⟨_, F, rfl, E.setOwn (pinned_lt h) h1 h2 h3 h4, Fm.setOwn m h h0⟩
  | loc j =>
    obtain ⟨d, ρ1, F1, Z, e1⟩ := one_in E m rr (show EM.bind (fz (.loc j)) (fun d => fun ρ => (stVal i d ρ).map fun ρ' => (Except.ok (ε := Exc) (), ρ')) ρ = some y from e)
    cases h : stVal i d ρ1 with
    | none =>
      rw [h] at e1
      cases e1
    | some ρ' =>
      rw [h] at e1
      cases e1
      obtain ⟨h1, h2, _⟩ := stVal_ok Z.er Z.fm Z.rep h
      exact ⟨ρ', F1, rfl, h1, h2⟩
def sSet (i : Nat) (f : EM R) : EM Out := EM.bind f fun r => EM.bind (stor i r) fun _ => EM.pure .nx
theorem l_set {i : Nat} {x : Str} {pos' : Pos} (hN : X.N.Nodup) (he : PE X e (DE ⟨X.K, ex⟩ W fa)) (hi : X.N[i]? = some x := by rfl) (hx : Loc X.env.scope x := by first | exact .inl rfl | exact .inr rfl) (hs : swapsWith e (some (.Name x pos')) pos.line X.env = pure false := by rfl)
    (hf : X.fn x = true ∨ X.env.scope.names.lookup x = some .local := by first | exact .inl rfl | exact .inr rfl) : PS X (.Assign [.Name x pos'] e pos) (DS ⟨X.K, ex⟩ W (sSet i fa)) :=
  impS (ps_set hN hi hx he hs hf) fun D σ H h => by
    obtain ⟨ρ, F, y, E, e, hr⟩ := h
    refine (split E (Fm.refl σ ρ F H) e hr.err).mono fun v H1 ⟨r1, ρ1, F1, E1, m1, _, rr1, e1⟩ => ?_
    unfold EM.bind at e1
    cases hs : stor i r1 ρ1 with
    | none =>
      rw [hs] at e1
      cases e1
    | some z =>
      obtain ⟨ρ2, F2, rfl, h1, h2⟩ := stor_ok E1 m1 rr1 hs
      rw [hs] at e1
      cases e1
      exact hr _ F2 H1 h1 h2
/-! ### return, an expression alone, if, pass .. -/
def sRet (f : EM R) : EM Out := EM.bind f fun r => EM.pure (.rt r)
theorem l_ret (he : PE X e (DE ⟨X.K, ex⟩ W fa)) : PS X (.Return (some e) pos) (DS ⟨X.K, ex⟩ W (sRet fa)) := impS (ps_ret he) fun D σ H h => by
  obtain ⟨ρ, F, y, E, e, hr⟩ := h
  refine (split E (Fm.refl σ ρ F H) e hr.err).mono fun v H1 ⟨r1, ρ1, F1, E1, m1, _, rr1, e1⟩ => ?_
  cases e1
  exact hr σ F1 H1 E1 m1 v rr1
def sRetN : EM Out := EM.pure (.rt (.val .none))
theorem l_retN : PS X (.Return none pos) (DS ⟨X.K, ex⟩ W sRetN) := impS ps_retN fun D σ H h => by
  obtain ⟨ρ, F, y, E, e, hr⟩ := h
  cases e
  exact hr σ F H E (Fm.refl σ ρ F H) .non .non
def sExpr (f : EM R) : EM Out := EM.bind f fun _ => EM.pure .nx
theorem l_expr (he : PE X e (DE ⟨X.K, ex⟩ W fa)) (hs : swapsWith e none pos.line X.env = pure false := by rfl) : PS X (.Expr e pos) (DS ⟨X.K, ex⟩ W (sExpr fa)) := impS (ps_expr he hs) fun D σ H h => by
  obtain ⟨ρ, F, y, E, e, hr⟩ := h
  refine (split E (Fm.refl σ ρ F H) e hr.err).mono fun v H1 ⟨r1, ρ1, F1, E1, m1, _, rr1, e1⟩ => ?_
  cases e1
  exact hr σ F1 H1 E1 m1
def sIf (c : EM Bool) (f g : EM Out) : EM Out := EM.bind c fun k => if k = true then f else g
theorem l_ifs (hc : PT X c (DT ⟨X.K, ex⟩ W bc)) (h1 : PSs X s1 (DS ⟨X.K, ex⟩ W f)) (h2 : PSs X s2 (DS ⟨X.K, ex⟩ W g)) : PS X (.If c s1 s2 pos) (DS ⟨X.K, ex⟩ W (sIf bc f g)) := impS (ps_if hc h1 h2) fun D σ H h => by
  obtain ⟨ρ, F, y, E, e, hr⟩ := h
  refine (splitT E (Fm.refl σ ρ F H) e hr.err).mono fun k H1 ⟨ρ1, F1, E1, m1, e1⟩ => ?_
  cases k with
  | true =>
    show DS ⟨X.K, ex⟩ W f D σ H1
    exact ⟨ρ1, F1, y, E1, e1, hr.base m1⟩
  | false =>
    show DS ⟨X.K, ex⟩ W g D σ H1
    exact ⟨ρ1, F1, y, E1, e1, hr.base m1⟩
theorem l_pass : PS X (.Pass pos) (DS ⟨X.K, ex⟩ W sNx) := impS ps_pass fun D σ H h => by
  obtain ⟨ρ, F, y, E, e, hr⟩ := h
  cases e
  exact hr σ F H E (Fm.refl σ ρ F H)
def sBk : EM Out := EM.pure .bk
def sCt : EM Out := EM.pure .ct
theorem l_break : PS X (.Break pos) (DS ⟨X.K, ex⟩ W sBk) := impS ps_break fun D σ H h => by
  obtain ⟨ρ, F, y, E, e, hr⟩ := h
  cases e
  exact hr σ F H E (Fm.refl σ ρ F H)
theorem l_continue : PS X (.Continue pos) (DS ⟨X.K, ex⟩ W sCt) := impS ps_continue fun D σ H h => by
  obtain ⟨ρ, F, y, E, e, hr⟩ := h
  cases e
  exact hr σ F H E (Fm.refl σ ρ F H)
/-! ### raise X('..') -/
def sRaise (x : Exc) : EM Out := EM.raise x
theorem l_raise {C : Addr} {bmB : List Value} {B newId initId : String} {x m : Str} {j : Nat} {p p2 pos2 : Pos} (hc : X.calm = true) (tk : Takes X W) (B0 : ExcBaseFacts B newId initId bmB) (q : PySem.W.excIn X.K C bmB newId = true) (gC : X.mg x = some (.ref C)) (kC : PySem.W.keepIn X.K (.ref C) = true)
    (r : Raises X (.ref C)) (hx : ex x = C) (hg : Gl X x := by rfl) (hdb : (x == ("__debug__" : Str)) = false := by decide) : PS X (.Raise (some (.Call (.Name x p) [.Constant (.str m) j p2] [] pos2)) none pos) (DS ⟨X.K, ex⟩ W (sRaise ⟨x, none⟩)) :=
  impS (ps_raise hc tk (pmk_own B0 q gC kC r hg hdb)) fun D σ H h => by
    obtain ⟨ρ, F, y, E, e, hr⟩ := h
    cases e
    exact hr (.ref C) none σ F H E (Fm.refl σ ρ F H) ⟨by show Value.ref C = .ref (ex x); rw [hx], rfl⟩
end

/-! ### an object of a slot changes -/
section
variable {K : PySem.W.Frag} {σ σ0 : L2.St} {ρ ρ0 : En} {F F0 H H0 : Hp} {i : Nat} {v : V} {m mm : M} {w : Ow} {a : Addr} {o : HO}
theorem ER.chg (E : ER K σ ρ F H) (hi : ρ[i]? = some (.own m w)) (hs : σ[i]? = some (some (.ref a))) (hw : w ≠ .lck) (r : MRep K F o mm) : ER K σ (ρ.set i (.own mm w)) F (upd H a o) := by
  have hF : F a = none := by
    obtain ⟨a', ho, g1, g2, _⟩ := E.own i m w hi
    rw [hs] at g1
    injection g1 with g1
    injection g1 with g1
    injection g1 with g1
    rw [g1]
    exact g2
  refine ⟨fun b u e => ?_, by simp [E.len], fun j d e => ?_, fun j m' w' e => ?_, fun j k m1 m2 o1 o2 b e1 e2 s1 s2 => ?_⟩
  · have n : b ≠ a := fun z => by rw [z, hF] at e; cases e
    rw [upd_ne n]
    exact E.sub b u e
  · rcases get_set e with ⟨rfl, q⟩ | ⟨n, e⟩
    · cases q
    · exact E.val j d e
  · rcases get_set e with ⟨j1, q⟩ | ⟨n, e⟩
    · cases q
      exact ⟨a, o, by rw [j1]; exact hs, hF, upd_same, r⟩
    · obtain ⟨b, ho, g1, g2, g3, g4⟩ := E.own j m' w' e
      have nb : b ≠ a := fun z => n (E.dis j i m' m w' w b e hi g1 (by rw [z]; exact hs))
      exact ⟨b, ho, g1, g2, by rw [upd_ne nb]; exact g3, g4⟩
  · rcases get_set e1 with ⟨j1, q1⟩ | ⟨n1, f1⟩
    · rcases get_set e2 with ⟨j2, q2⟩ | ⟨n2, f2⟩
      · rw [j1, j2]
      · rw [j1] at s1
        exact j1.trans (E.dis i k m m2 w o2 b hi f2 s1 s2)
    · rcases get_set e2 with ⟨j2, q2⟩ | ⟨n2, f2⟩
      · rw [j2] at s2
        exact (E.dis j i m1 m o1 w b f1 hi s1 s2).trans j2.symm
      · exact E.dis j k m1 m2 o1 o2 b f1 f2 s1 s2
theorem Fm.chg (E : ER K σ ρ F H) (hi : ρ[i]? = some (.own m w)) (hs : σ[i]? = some (some (.ref a))) (hw : w ≠ .lck) : Fm σ ρ F H σ (ρ.set i (.own mm w)) F (upd H a o) where
  len := List.length_set
  dom := fun b n => by
    by_cases z : b = a
    · rw [z, upd_same]
      simp
    · rw [upd_ne z]
      exact n
  keep := fun b u e n => by
    have nb : b ≠ a := fun z => n ⟨i, m, w, hi, by rw [z]; exact hs⟩
    refine ⟨by rw [upd_ne nb]; exact e, rfl, fun ⟨j, m', w', h1, h2⟩ => ?_⟩
    rcases get_set h1 with ⟨j1, q⟩ | ⟨n1, h1⟩
    · rw [j1] at h2
      exact n ⟨i, m, w, hi, h2⟩
    · exact n ⟨j, m', w', h1, h2⟩
  pin := fun j m' w' h n => by
    by_cases z : i = j
    · subst z
      rw [hi] at h
      cases h
      exact ⟨⟨mm, by rw [List.getElem?_set_self (List.getElem?_eq_some_iff.mp hi).1], fun z => absurd z hw⟩, rfl⟩
    · exact ⟨⟨m', by rw [List.getElem?_set_ne z]; exact h, fun _ => rfl⟩, rfl⟩
  lck := fun j m' b h1 h2 => by
    have n : b ≠ a := fun z => by
      have := E.dis j i m' m .lck w b h1 hi h2 (by rw [z]; exact hs)
      subst this
      rw [hi] at h1
      injection h1 with h1
      injection h1 with _ h1
      exact hw h1
    exact upd_ne n
end
/-- the list of slot i, where it may be changed -/
def ownL : Option Slot → Option (List D × Ow)
  | some (.own (.lst xs) .loc) => some (xs, .loc)
  | some (.own (.lst xs) .bor) => some (xs, .bor)
  | _ => none
theorem ownL_ok {s : Option Slot} {xs : List D} {w : Ow} (h : ownL s = some (xs, w)) : s = some (.own (.lst xs) w) ∧ w ≠ .lck := by
  unfold ownL at h
  split at h
  · cases h
    exact ⟨rfl, by decide⟩
  · cases h
    exact ⟨rfl, by decide⟩
  · cases h
/-- a method of the list in slot i: arguments' data, old items -> new items, answer -/
def sMeth1 (i : Nat) (g : List D → List D → Option (List D × D)) (fs : EM (List R)) : EM R := EM.bind fs fun rs => EM.bind (fzAll rs) fun ds => fun ρ => (ownL ρ[i]?).bind fun p => (g ds p.1).map fun q => (.ok (.val q.2), ρ.set i (.own (.lst q.1) p.2))
def sMeth (i : Nat) (g : List D → List D → Option (List D × D)) (fs : EM (List R)) : EM R := fun ρ => (ownL ρ[i]?).bind fun _ => sMeth1 i g fs ρ
def MethOk (K : PySem.W.Frag) (r : V → List V → Hp → VK → Prop) (g : List D → List D → Option (List D × D)) : Prop := ∀ (F H : Hp) (l : Addr) (xs vs : List V) (ds args ds' : List D) (d : D) (Q : VK), H l = some (.lst xs) → RepL K F xs ds → RepL K F vs args → g args ds = some (ds', d) →
  (∀ xs' v, RepL K F xs' ds' → Rep K F v d → Q v (upd H l (.lst xs'))) → r (.ref l) vs H Q
section
variable {X : Cx} {ex : Str → Addr} {W : WX} {fs : EM (List R)}
theorem meth_in {i : Nat} {x : V} {r : V → List V → Hp → VK → Prop} {g : List D → List D → Option (List D × D)} (ok : MethOk X.K r g) {σ : L2.St} {H : Hp} {Q : VK} (h : DE ⟨X.K, ex⟩ W (sMeth i g fs) σ H Q) :
    tBM X.K "list" r (L2.tVar i) (DA ⟨X.K, ex⟩ W fs) σ H Q := by
  obtain ⟨ρ, F, y, E, e, hr⟩ := h
  unfold sMeth at e
  cases h0 : ownL ρ[i]? with
  | none =>
    rw [h0] at e
    cases e
  | some p0 =>
    rw [h0] at e
    have e : sMeth1 i g fs ρ = some y := e
    obtain ⟨hi0, _⟩ := ownL_ok (w := p0.2) (xs := p0.1) h0
    obtain ⟨l, ho0, k1, k2, k3, k4⟩ := E.own i _ _ hi0
    refine ⟨.ref l, k1, ?_, ?_⟩
    · cases k4 with
      | lst k4 => exact .inl ⟨rfl, _, sl_of k3⟩
    refine (splitA E (Fm.refl σ ρ F H) e hr.err).mono fun vs H1 ⟨rs, ρ1, F1, E1, m1, _, rrs, e1⟩ => ?_
    obtain ⟨ds, ρ2, F2, E2, m2, r2, e2⟩ := all_in E1 m1 rrs e1
    cases ho : ownL ρ2[i]? with
    | none =>
      rw [ho] at e2
      cases e2
    | some p =>
      obtain ⟨items, w⟩ := p
      rw [ho] at e2
      obtain ⟨hi, hw⟩ := ownL_ok ho
      have e2 : (g ds items).map (fun q => (Except.ok (ε := Exc) (R.val q.2), ρ2.set i (.own (.lst q.1) w))) = some y := e2
      cases hg : g ds items with
      | none =>
        rw [hg] at e2
        cases e2
      | some q =>
        rw [hg] at e2
        cases e2
        obtain ⟨a, ho', g1, g2, g3, g4⟩ := E2.own i (.lst items) w hi
        have z : l = a := by
          rw [k1] at g1
          injection g1 with g1
          injection g1 with g1
          injection g1
        subst z
        cases g4 with
        | lst g4 =>
          refine ok F2 H1 l _ vs items ds q.1 q.2 Q g3 g4 r2 hg fun xs' v r' rv => ?_
          exact fin_val hr (E2.chg hi g1 hw (.lst r')) (m2.trans (Fm.chg E2 hi g1 hw)) rv
def gAppend : List D → List D → Option (List D × D)
  | [d], xs => if xs.length < sizeLine then some (xs ++ [d], .none) else none
  | _, _ => none
theorem append_ok (K : PySem.W.Frag) : MethOk K rAppend gAppend := by
  intro F H l xs vs ds args ds' d Q h r1 r2 hg q
  unfold gAppend at hg
  split at hg
  · split at hg
    · rename_i hz
      cases hg
      cases r2 with
      | cons ra rn =>
        cases rn
        exact ⟨l, xs, _, rfl, rfl, h, by rw [r1.length]; exact hz, q _ _ (r1.append (.one ra)) .non⟩
    · cases hg
  · cases hg
def gPop : List D → List D → Option (List D × D)
  | [], xs => (xs[xs.length - 1]?).map fun d => (xs.dropLast, d)
  | _, _ => none
theorem dropLast_rep {K : PySem.W.Frag} {F : Hp} {xs : List V} {ds : List D} (r : RepL K F xs ds) : RepL K F xs.dropLast ds.dropLast := by
  rw [List.dropLast_eq_take, List.dropLast_eq_take, r.length]
  exact r.take _
theorem pop_ok (K : PySem.W.Frag) : MethOk K rPop gPop := by
  intro F H l xs vs ds args ds' d Q h r1 r2 hg q
  unfold gPop at hg
  split at hg
  · cases r2
    cases hx : ds[ds.length - 1]? with
    | none =>
      rw [hx] at hg
      cases hg
    | some z =>
      rw [hx] at hg
      cases hg
      obtain ⟨v, h1, h2⟩ := r1.get hx
      exact ⟨l, xs, v, rfl, rfl, h, by rw [r1.length]; exact h1, q _ _ (dropLast_rep r1) h2⟩
  · cases hg
def gPopAt : List D → List D → Option (List D × D)
  | [.int i], xs => if 0 ≤ i ∧ i < xs.length ∧ i < 2 ^ 63 then (xs[i.toNat]?).map fun d => (xs.eraseIdx i.toNat, d) else none
  | _, _ => none
theorem seqIx {i : Int} {n : Nat} (h : 0 ≤ i ∧ i < n) : seqIndex? i n = some i.toNat := (ixN_seq (n := n) (i := i) (j := i.toNat) (by unfold ixN; rw [if_pos h.1, if_pos h.2])).1
theorem popAt_ok (K : PySem.W.Frag) : MethOk K rPopAt gPopAt := by
  intro F H l xs vs ds args ds' d Q h r1 r2 hg q
  unfold gPopAt at hg
  split at hg
  · rename_i i
    split at hg
    · rename_i hz
      cases hx : ds[i.toNat]? with
      | none =>
        rw [hx] at hg
        cases hg
      | some z =>
        rw [hx] at hg
        cases hg
        obtain ⟨v, h1, h2⟩ := r1.get hx
        cases r2 with
        | cons ra rn =>
          cases rn
          exact ⟨l, xs, i, i.toNat, v, rfl, by rw [rep_int ra], h, by omega, hz.2.2, by rw [r1.length]; exact seqIx ⟨hz.1, hz.2.1⟩, h1, q _ _ (r1.erase _) h2⟩
    · cases hg
  · cases hg
def gInsert : List D → List D → Option (List D × D)
  | [.int i, d], xs => if xs.length < sizeLine ∧ 0 ≤ i ∧ i < 2 ^ 63 then some (xs.take i.toNat ++ [d] ++ xs.drop i.toNat, .none) else none
  | _, _ => none
def rInsert : V → List V → Hp → VK → Prop := fun x vs H Q => ∃ (l : Addr) (xs : List V) (i : Int) (y : V), x = .ref l ∧ vs = [.int i, y] ∧ H l = some (.lst xs) ∧ xs.length < sizeLine ∧ 0 ≤ i ∧ i < 2 ^ 63 ∧
    Q .non (upd H l (.lst (xs.take i.toNat ++ [y] ++ xs.drop i.toNat)))
theorem insert_ok (K : PySem.W.Frag) : MethOk K rInsert gInsert := by
  intro F H l xs vs ds args ds' d Q h r1 r2 hg q
  unfold gInsert at hg
  split at hg
  · split at hg
    · rename_i hz
      cases hg
      cases r2 with
      | cons ra rn =>
        cases rn with
        | cons rb rn =>
          cases rn
          exact ⟨l, xs, _, _, rfl, by rw [rep_int ra], h, by rw [r1.length]; exact hz.1, hz.2.1, hz.2.2, q _ _ (((r1.take _).append (.one rb)).append (r1.drop _)) .non⟩
    · cases hg
  · cases hg
variable {pos apos p : Pos} {e : Expr} {es : List Expr} {x name : Str} {id : String} {r : V → List V → Hp → VK → Prop} {g : List D → List D → Option (List D × D)}
theorem l_meth {i : Nat} (slot : PySem.Slot "list" name id) (hty : typeOf (.builtin id) = pure (.type "method_descriptor")) (hm : MtR X id r) (ok : MethOk X.K r g) (ha : PA X (e :: es) (DA ⟨X.K, ex⟩ W fs)) (hN : X.N[i]? = some x := by rfl)
    (hv : Vis X.env.scope x := by first | exact Or.inl rfl | exact Or.inr (Or.inl rfl) | exact Or.inr (Or.inr rfl)) (hd : (x == ("__debug__" : Str)) = false := by decide) (hcd : (x == ("__classdict__" : Str)) = false := by decide)
    (hbase : attributeBase (.Name x p) name X.env (eval (.Name x p) X.env) = eval (.Name x p) X.env := by rfl)
    (hfew : ((backTo pos (starEach (e :: es) X.env)).all (fun x => !x.1) && (backToKw pos (keywordEach [] X.env)).all (fun x => x.1.isSome)
      && decide ((e :: es).length + ([] : List Keyword).length + (if ([] : List Keyword).isEmpty then 0 else 1) < 30)) = true := by rfl)
    (hline : (apos.endLine == pos.line) = true := by rfl) (hs : starEach (e :: es) X.env = (false, eval e X.env) :: starEach es X.env := by rfl) (hplain : (backTo pos (starEach es X.env)).any (·.1) = false := by rfl) :
    PE X (.Call (.Attribute (.Name x p) name apos) (e :: es) [] pos) (DE ⟨X.K, ex⟩ W (sMeth i g fs)) :=
  impE (pe_bm PySem.F.plainAttrs_list slot hty hm (pe_var hN hv hd hcd) ha hbase hfew hline hs hplain) fun σ H Q h => meth_in (x := .non) ok h
theorem l_meth0 {i : Nat} (slot : PySem.Slot "list" name id) (hty : typeOf (.builtin id) = pure (.type "method_descriptor")) (hm : MtR X id r) (ok : MethOk X.K r g) (hN : X.N[i]? = some x := by rfl)
    (hv : Vis X.env.scope x := by first | exact Or.inl rfl | exact Or.inr (Or.inl rfl) | exact Or.inr (Or.inr rfl)) (hd : (x == ("__debug__" : Str)) = false := by decide) (hcd : (x == ("__classdict__" : Str)) = false := by decide)
    (hbase : attributeBase (.Name x p) name X.env (eval (.Name x p) X.env) = eval (.Name x p) X.env := by rfl) (hline : (apos.endLine == pos.line) = true := by rfl) :
    PE X (.Call (.Attribute (.Name x p) name apos) [] [] pos) (DE ⟨X.K, ex⟩ W (sMeth i g aNil)) :=
  impE (pe_bm0 PySem.F.plainAttrs_list slot hty hm (pe_var hN hv hd hcd) hbase hline) fun σ H Q h => by
    obtain ⟨v, hv, ty, t⟩ := meth_in (x := .non) ok h
    refine ⟨v, hv, ty, ?_⟩
    obtain ⟨ρ, F, y, E, e, hr⟩ := t
    cases e
    exact hr [] F H E (Fm.refl σ ρ F H) .nil
end
end LF
end

-- part LFRules8
section
set_option Elab.async false
set_option linter.all false
set_option maxRecDepth 100000
set_option maxHeartbeats 2000000
namespace LF
open PySem PySem.Spec PyProof.Rows L2

section
variable {X : Cx} {ex : Str → Addr} {W : WX} {pos pos' p : Pos} {e a b c o : Expr} {es rest : List Expr} {fa fb fc : EM R} {bc : EM Bool} {fs : EM (List R)} {s : Stmt} {ss s1 s2 : List Stmt} {f g : EM Out} {x : Str}
/-! ### xs[i] = e -/
def sSetIx (i : Nat) (fv fi : EM R) : EM Out := EM.bind fv fun r => fun ρ => (ownL ρ[i]?).bind fun _ => EM.bind fi (fun q => fun ρ => match rd q ρ with
  | some (.int k) => EM.bind (fz r) (fun d => fun ρ => (ownL ρ[i]?).bind fun p => (ixN p.1.length k).map fun j => (.ok .nx, ρ.set i (.own (.lst (p.1.set j d)) p.2))) ρ
  | _ => none) ρ
theorem l_setIx {i : Nat} (hv : PE X e (DE ⟨X.K, ex⟩ W fa)) (hi : PE X b (DE ⟨X.K, ex⟩ W fb)) (hN : X.N[i]? = some x := by rfl) (hvis : Vis X.env.scope x := by first | exact Or.inl rfl | exact Or.inr (Or.inl rfl) | exact Or.inr (Or.inr rfl))
    (ha : ∀ v, assign (.Subscript (.Name x p) b pos') X.env v = (do
      let ov ← holding [v] (eval (.Name x p) X.env)
      let iv ← holding [v, ov] (eval b X.env)
      standAt pos'
      holding [v, ov, iv] (setItem ov iv v)
      release [v, ov, iv] []) := by intro _; rfl) (hs : swapsWithSole [.Subscript (.Name x p) b pos'] e pos.line X.env = pure false := by rfl) (hw : swappedStores [.Subscript (.Name x p) b pos'] e X.env = pure none := by rfl)
    (h1 : (assignEach [.Subscript (.Name x p) b pos'] X.env).map (·.2) = [assign (.Subscript (.Name x p) b pos') X.env] := by rfl) (hd : (x == ("__debug__" : Str)) = false := by decide) (hcd : (x == ("__classdict__" : Str)) = false := by decide) :
    PS X (.Assign [.Subscript (.Name x p) b pos'] e pos) (DS ⟨X.K, ex⟩ W (sSetIx i fa fb)) :=
  impS (ps_asg hv (pg_sub (pe_var hN hvis hd hcd) hi set_list ha) hs hw h1) fun D σ H h => by
    obtain ⟨ρ, F, y, E, e, hr⟩ := h
    refine (split E (Fm.refl σ ρ F H) e hr.err).mono fun v H1 ⟨r1, ρ1, F1, E1, m1, _, rr1, e1⟩ => ?_
    cases h0 : ownL ρ1[i]? with
    | none =>
      rw [h0] at e1
      cases e1
    | some p0 =>
      rw [h0] at e1
      obtain ⟨hi0, _⟩ := ownL_ok (w := p0.2) (xs := p0.1) h0
      obtain ⟨l, ho0, k1, k2, k3, k4⟩ := E1.own i _ _ hi0
      refine ⟨.ref l, k1, ?_⟩
      refine (split E1 m1 e1 hr.err).mono fun u H2 ⟨r2, ρ2, F2, E2, m2, m12, rr2, e2⟩ => ?_
      have rr1 := rr1.step E1 m12
      cases hq : rd r2 ρ2 with
      | none =>
        rw [hq] at e2
        cases e2
      | some d =>
        rw [hq] at e2
        cases d with
        | int k =>
          obtain ⟨d, ρ3, F3, Z, e3⟩ := one_in E2 m2 rr1 e2
          cases ho : ownL ρ3[i]? with
          | none =>
            rw [ho] at e3
            cases e3
          | some q =>
            obtain ⟨items, w⟩ := q
            rw [ho] at e3
            obtain ⟨hi, hw⟩ := ownL_ok ho
            have e3 : (ixN items.length k).map (fun j => (Except.ok (ε := Exc) Out.nx, ρ3.set i (.own (.lst (items.set j d)) w))) = some y := e3
            cases hj : ixN items.length k with
            | none =>
              rw [hj] at e3
              cases e3
            | some j =>
              rw [hj] at e3
              cases e3
              obtain ⟨a, ho', g1, g2, g3, g4⟩ := Z.er.own i (.lst items) w hi
              cases g4 with
              | lst g4 =>
                rw [k1] at g1
                injection g1 with g1
                injection g1 with g1
                injection g1 with g1
                subst g1
                refine ⟨l, _, k, j, rfl, rd_int E2 rr2 hq, g3, by rw [g4.length]; exact hj, ?_⟩
                exact hr σ F3 _ (Z.er.chg hi k1 hw (.lst (RepL.set Z.rep j g4))) (Z.fm.trans (Fm.chg Z.er hi k1 hw))
        | _ => cases e2

/-! ### what is walked -/
/-- J yields the data ds as long as S stands -/
structure Feeds (K : PySem.W.Frag) (J : It) (ds : List D) (S : Hp → Hp → Prop) : Prop where
  stop : ∀ F H, Ex F H → S F H → J.stop ds.length H
  go : ∀ i F H, Ex F H → S F H → i < ds.length → J.go i H
  yld : ∀ i F H x H', Ex F H → S F H → i < ds.length → J.yld i H x H' → ∃ d, ds[i]? = some d ∧ ((H' = H ∧ Rep K F x d) ∨ ∃ p vs es, x = .ref p ∧ H p = none ∧ H' = upd H p (.tup vs) ∧ d = .tuple es ∧ RepL K F vs es)
/-- slots that are being walked -/
def lockOne (ρ : En) (i : Nat) : Option Slot → En
  | some (.own m _) => ρ.set i (.own m .lck)
  | _ => ρ
def lockE (ρ : En) : List Nat → En
  | [] => ρ
  | i :: is => lockE (lockOne ρ i ρ[i]?) is
def freeOne (ρ : En) (i : Nat) : Option Slot → Option Slot → En
  | some (.own _ o), some (.own m _) => ρ.set i (.own m o)
  | _, _ => ρ
/-- ρ0: the environment ahead of the walk -/
def freeE (ρ0 ρ : En) : List Nat → En
  | [] => ρ
  | i :: is => freeE ρ0 (freeOne ρ i ρ0[i]? ρ[i]?) is
end
/-- the same but for the kinds of objects -/
def SameK (ρ ρ' : En) : Prop := ρ.length = ρ'.length ∧ ∀ i : Nat, ρ'[i]? = ρ[i]? ∨ ∃ m o o', ρ[i]? = some (.own m o) ∧ ρ'[i]? = some (.own m o')
section
variable {K : PySem.W.Frag} {σ σ' : L2.St} {ρ ρ' ρ0 : En} {F F' F0 H H' H0 : Hp}
theorem SameK.refl (ρ : En) : SameK ρ ρ := ⟨rfl, fun _ => .inl rfl⟩
theorem SameK.trans {ρ'' : En} (a : SameK ρ ρ') (b : SameK ρ' ρ'') : SameK ρ ρ'' := ⟨a.1.trans b.1, fun i => by
  rcases b.2 i with h | ⟨m, o, o', h1, h2⟩
  · rw [h]
    exact a.2 i
  · rcases a.2 i with g | ⟨m', q, q', g1, g2⟩
    · exact .inr ⟨m, o, o', g ▸ h1, h2⟩
    · rw [h1] at g2
      injection g2 with g2
      injection g2 with g2 g3
      subst g2
      exact .inr ⟨m, q, o', g1, h2⟩⟩
theorem SameK.one {i : Nat} {m : M} {o o' : Ow} (h : ρ[i]? = some (.own m o)) : SameK ρ (ρ.set i (.own m o')) := ⟨by simp, fun j => by
  by_cases z : i = j
  · subst z
    exact .inr ⟨m, o, o', h, List.getElem?_set_self (List.getElem?_eq_some_iff.mp h).1⟩
  · exact .inl (List.getElem?_set_ne z)⟩
theorem ER.same (k : SameK ρ ρ') (E : ER K σ ρ F H) : ER K σ ρ' F H := by
  have back : ∀ (i : Nat) (m : M) (o : Ow), ρ'[i]? = some (.own m o) → ∃ o', ρ[i]? = some (.own m o') := fun i m o h => by
    rcases k.2 i with g | ⟨m', q, q', g1, g2⟩
    · exact ⟨o, g ▸ h⟩
    · rw [h] at g2
      injection g2 with g2
      injection g2 with g2 g3
      subst g2
      exact ⟨q, g1⟩
  refine ⟨E.sub, E.len.trans k.1, fun i d e => ?_, fun i m o e => ?_, fun i j m m' o o' a e1 e2 s1 s2 => ?_⟩
  · rcases k.2 i with g | ⟨m', q, q', g1, g2⟩
    · exact E.val i d (g ▸ e)
    · rw [e] at g2
      cases g2
  · obtain ⟨o', h⟩ := back i m o e
    exact E.own i m o' h
  · obtain ⟨_, h1⟩ := back i m o e1
    obtain ⟨_, h2⟩ := back j m' o' e2
    exact E.dis i j m m' _ _ a h1 h2 s1 s2
theorem SameK.owns (k : SameK ρ ρ') {a : Addr} (h : Owns σ ρ' a) : Owns σ ρ a := by
  obtain ⟨i, m, o, h1, h2⟩ := h
  rcases k.2 i with g | ⟨m', q, q', g1, g2⟩
  · exact ⟨i, m, o, g ▸ h1, h2⟩
  · exact ⟨i, m', q, g1, h2⟩
theorem lockOne_same (ρ : En) (i : Nat) : SameK ρ (lockOne ρ i ρ[i]?) := by
  cases h : ρ[i]? with
  | none => exact SameK.refl ρ
  | some s =>
    cases s with
    | own m o => exact SameK.one h
    | _ => exact SameK.refl ρ
theorem lock_same : ∀ (is : List Nat) (ρ : En), SameK ρ (lockE ρ is)
  | [], ρ => SameK.refl ρ
  | i :: is, ρ => (lockOne_same ρ i).trans (lock_same is _)
theorem lock_at : ∀ {is : List Nat} {ρ : En} {i : Nat} {m : M} {o : Ow}, i ∈ is → ρ[i]? = some (.own m o) → (lockE ρ is)[i]? = some (.own m .lck)
  | [], _, _, _, _, h, _ => by simp at h
  | j :: is, ρ, i, m, o, h, e => by
    show (lockE (lockOne ρ j ρ[j]?) is)[i]? = _
    have keep : ∀ (is : List Nat) (ρ : En), ρ[i]? = some (.own m .lck) → (lockE ρ is)[i]? = some (.own m .lck) := by
      intro is
      induction is with
      | nil => exact fun _ h => h
      | cons j is ih =>
        intro ρ h
        refine ih _ ?_
        by_cases z : j = i
        · subst z
          rw [h]
          exact List.getElem?_set_self (List.getElem?_eq_some_iff.mp h).1
        · unfold lockOne
          split
          · rw [List.getElem?_set_ne z]
            exact h
          · exact h
    by_cases z : j = i
    · subst z
      refine keep is _ ?_
      rw [e]
      exact List.getElem?_set_self (List.getElem?_eq_some_iff.mp e).1
    · have hm : i ∈ is := (List.mem_cons.mp h).resolve_left (Ne.symm z)
      refine lock_at hm (o := o) ?_
      unfold lockOne
      split
      · rw [List.getElem?_set_ne z]
        exact e
      · exact e
theorem lock_out : ∀ {is : List Nat} {ρ : En} {i : Nat}, i ∉ is → (lockE ρ is)[i]? = ρ[i]?
  | [], _, _, _ => rfl
  | j :: is, ρ, i, h => by
    show (lockE (lockOne ρ j ρ[j]?) is)[i]? = _
    rw [lock_out fun z => h (List.mem_cons_of_mem _ z)]
    have z : j ≠ i := fun z => h (z ▸ List.mem_cons_self)
    unfold lockOne
    split
    · rw [List.getElem?_set_ne z]
    · rfl
theorem freeOne_same (ρ ρ0 : En) (i : Nat) : SameK ρ (freeOne ρ i ρ0[i]? ρ[i]?) := by
  unfold freeOne
  split
  · rename_i h1 h2
    exact SameK.one h2
  · exact SameK.refl ρ
theorem free_same : ∀ (is : List Nat) (ρ0 ρ : En), SameK ρ (freeE ρ0 ρ is)
  | [], _, ρ => SameK.refl ρ
  | i :: is, ρ0, ρ => (freeOne_same ρ ρ0 i).trans (free_same is ρ0 _)
theorem free_out : ∀ {is : List Nat} {ρ0 ρ : En} {i : Nat}, i ∉ is → (freeE ρ0 ρ is)[i]? = ρ[i]?
  | [], _, _, _, _ => rfl
  | j :: is, ρ0, ρ, i, h => by
    show (freeE ρ0 (freeOne ρ j ρ0[j]? ρ[j]?) is)[i]? = _
    rw [free_out fun z => h (List.mem_cons_of_mem _ z)]
    have z : j ≠ i := fun z => h (z ▸ List.mem_cons_self)
    unfold freeOne
    split
    · rw [List.getElem?_set_ne z]
    · rfl
theorem free_at : ∀ {is : List Nat} {ρ0 ρ : En} {i : Nat} {m m0 : M} {o o' : Ow}, i ∈ is → ρ0[i]? = some (.own m0 o) → ρ[i]? = some (.own m o') → (freeE ρ0 ρ is)[i]? = some (.own m o)
  | [], _, _, _, _, _, _, _, h, _, _ => by simp at h
  | j :: is, ρ0, ρ, i, m, m0, o, o', h, h0, h1 => by
    show (freeE ρ0 (freeOne ρ j ρ0[j]? ρ[j]?) is)[i]? = _
    by_cases z : j = i
    · subst z
      by_cases hm : j ∈ is
      · refine free_at (o' := o) hm h0 ?_
        rw [h0, h1]
        exact List.getElem?_set_self (List.getElem?_eq_some_iff.mp h1).1
      · rw [free_out hm, h0, h1]
        exact List.getElem?_set_self (List.getElem?_eq_some_iff.mp h1).1
    · have hm : i ∈ is := (List.mem_cons.mp h).resolve_left (Ne.symm z)
      refine free_at hm h0 (o' := o') ?_
      unfold freeOne
      split
      · rw [List.getElem?_set_ne z]
        exact h1
      · exact h1
/-- behind a walk -/
theorem Fm.free {is : List Nat} (m : Fm σ (lockE ρ is) F H σ' ρ' F' H') : Fm σ ρ F H σ' (freeE ρ ρ' is) F' H' where
  len := by
    rw [← (free_same is ρ ρ').1, m.len, ← (lock_same is ρ).1]
  dom := m.dom
  keep := fun a o h n => by
    obtain ⟨k1, k2, k3⟩ := m.keep a o h fun z => n ((lock_same is ρ).owns z)
    exact ⟨k1, k2, fun z => k3 ((free_same is ρ ρ').owns z)⟩
  pin := fun i mm o h n => by
    by_cases z : i ∈ is
    · obtain ⟨⟨m', g1, g2⟩, g3⟩ := m.pin i mm .lck (lock_at z h) (by decide)
      exact ⟨⟨m', free_at z h g1, fun _ => g2 rfl⟩, g3⟩
    · rw [free_out z]
      exact m.pin i mm o (by rw [lock_out z]; exact h) n
  lck := fun i mm a h h2 => by
    by_cases z : i ∈ is
    · exact m.lck i mm a (lock_at z h) h2
    · exact m.lck i mm a (by rw [lock_out z]; exact h) h2
/-- with walked slots: an outcome behind the walk -/
def unlock {α : Type} (ρ : En) (is : List Nat) : Except Exc α × En → Except Exc α × En := fun y => (y.1, freeE ρ y.2 is)
theorem ResS.lock {C : Ctx} {W : WX} {is : List Nat} {y : Except Exc Out × En} {Q : Ends} (h : ResS C W σ ρ F H (unlock ρ is y) Q) : ResS C W σ (lockE ρ is) F H y Q := by
  rcases y with ⟨y | o, ρ'⟩
  · exact fun cls d σ' F' H' E' m' z => h cls d σ' F' H' (E'.same (free_same is ρ ρ')) m'.free z
  · intro σ' F' H' E' m'
    have k := h σ' F' H' (E'.same (free_same is ρ ρ')) m'.free
    cases o with
    | rt r =>
      intro v rr
      refine k v ?_
      cases r with
      | val d => exact rr
      | loc i => exact rr
      | fr mm =>
        obtain ⟨p, ho, e, h0, h1, h2, h3, h4⟩ := rr
        exact ⟨p, ho, e, h0, h1, h2, h3, fun z => h4 ((free_same is ρ ρ').owns z)⟩
    | _ => exact k
end
end LF
end

-- part LFRules9
section
set_option Elab.async false
set_option linter.all false
set_option maxRecDepth 100000
set_option maxHeartbeats 2000000
namespace LF
open PySem PySem.Spec PyProof.Rows L2

/-! ### sources -/
abbrev Src := List D × List Nat
theorem bind_ok {α β : Type} {f : EM α} {g : α → EM β} {ρ ρ' : En} {a : α} (h : f ρ = some (.ok a, ρ')) : EM.bind f g ρ = g a ρ' := by
  unfold EM.bind
  rw [h]
theorem bind_err {α β : Type} {f : EM α} {g : α → EM β} {ρ ρ' : En} {e : Exc} (h : f ρ = some (.error e, ρ')) : EM.bind f g ρ = some (.error e, ρ') := by
  unfold EM.bind
  rw [h]
theorem bind_none {α β : Type} {f : EM α} {g : α → EM β} {ρ : En} (h : f ρ = none) : EM.bind f g ρ = none := by
  unfold EM.bind
  rw [h]
def lkSlot (i : Nat) : Option Slot → List Nat
  | some (.own _ _) => [i]
  | _ => []
def lkOf (ρ : En) : R → List Nat
  | .loc i => lkSlot i ρ[i]?
  | _ => []
def chars (z : Str) : List D := z.cps.toList.map fun c => .str ⟨#[c]⟩
def srcOf (r : R) (ρ : En) : Option D → Option Src
  | some (.list ds) => some (ds, lkOf ρ r)
  | some (.tuple ds) => some (ds, [])
  | some (.str z) => some (chars z, [])
  | _ => none
def srcAny (f : EM R) : EM Src := EM.bind f fun r => fun ρ => (srcOf r ρ (rd r ρ)).map fun s => (.ok s, ρ)
def rngD (lo : Int) (n : Nat) : List D := (List.range n).map fun (i : Nat) => PyData.int (lo + (i : Int))
def sR1 : Option D → Option Src
  | some (.int j) => if -(2 ^ 62) ≤ j ∧ j < 2 ^ 62 then some (rngD 0 j.toNat, []) else none
  | _ => none
def srcR1 (f : EM R) : EM Src := EM.bind f fun r => fun ρ => (sR1 (rd r ρ)).map fun s => (.ok s, ρ)
def sR2 : Option D → Option D → Option Src
  | some (.int i), some (.int j) => if -(2 ^ 62) ≤ i ∧ i < 2 ^ 62 ∧ -(2 ^ 62) ≤ j ∧ j < 2 ^ 62 then some (rngD i (j - i).toNat, []) else none
  | _, _ => none
def srcR2 (f g : EM R) : EM Src := EM.bind f fun r => EM.bind g fun q => fun ρ => (sR2 (rd r ρ) (rd q ρ)).map fun s => (.ok s, ρ)
def enumD (ds : List D) : List D := ds.mapIdx fun i d => .tuple [.int (i : Nat), d]
def sEnum (l : List Nat) : Option D → Option Src
  | some (.list ds) => some (enumD ds, l)
  | _ => none
def srcEnum (f : EM R) : EM Src := EM.bind f fun r => fun ρ => (sEnum (lkOf ρ r) (rd r ρ)).map fun s => (.ok s, ρ)
def zipD (ds es : List D) : List D := List.zipWith (fun d e => .tuple [d, e]) ds es
def sZip (l : List Nat) : Option D → Option D → Option Src
  | some (.list ds), some (.list es) => some (zipD ds es, l)
  | _, _ => none
def srcZip (f g : EM R) : EM Src := EM.bind f fun r => EM.bind g fun q => fun ρ => (sZip (lkOf ρ r ++ lkOf ρ q) (rd r ρ) (rd q ρ)).map fun s => (.ok s, ρ)
theorem src_in {β : Type} {o : En → Option Src} {g : Src → EM β} {ρ : En} {x : Except Exc β × En} (e : EM.bind (fun ρ => (o ρ).map fun s => (Except.ok s, ρ)) g ρ = some x) : ∃ s, o ρ = some s ∧ g s ρ = some x := by
  cases h : o ρ with
  | none =>
    rw [bind_none (show (fun ρ => (o ρ).map fun s => (Except.ok (ε := Exc) s, ρ)) ρ = none by show (o ρ).map _ = none; rw [h] <;> rfl)] at e
    cases e
  | some s =>
    rw [bind_ok (show (fun ρ => (o ρ).map fun s => (Except.ok (ε := Exc) s, ρ)) ρ = some (.ok s, ρ) by show (o ρ).map _ = _; rw [h] <;> rfl)] at e
    exact ⟨s, rfl, e⟩
/-- wi walks what src tells, as long as its objects stand -/
def SrcIn (C : Ctx) (W : WX) (wi : TI) (src : EM Src) : Prop := ∀ (σ : L2.St) (ρ : En) (F H : Hp) (β : Type) (g : Src → EM β) (x : Except Exc β × En) (Rr : It → Hp → Prop), ER C.K σ ρ F H → EM.bind src g ρ = some x → ErrOk C W σ ρ F H x →
  (∀ s ρ1 F1 H1 J S, ER C.K σ ρ1 F1 H1 → Fm σ ρ F H σ ρ1 F1 H1 → g s ρ1 = some x → Feeds C.K J s.1 S → (∀ σ' ρ' F' H' Z, Fm σ (lockE ρ1 s.2) F1 H1 σ' ρ' F' Z → (∀ a, H1 a ≠ none → H' a = Z a) → S F' H') → Rr J H1) → wi σ H Rr
section
variable {K : PySem.W.Frag} {σ σ' : L2.St} {ρ ρ' ρ0 : En} {F F' F0 H H' H0 : Hp} {r : R} {v : V}
/-- a list that is walked stands: it is fast, new, or locked -/
theorem stands {ds : List D} (E : ER K σ ρ F H) (rr : RR K H0 σ ρ F H v r) (e : rd r ρ = some (.list ds)) : ∃ a xs, v = .ref a ∧ H a = some (.lst xs) ∧ RepL K F xs ds ∧
    ∀ (is : List Nat), (∀ i ∈ lkOf ρ r, i ∈ is) → ∀ σ' ρ' F' H', Fm σ (lockE ρ is) F H σ' ρ' F' H' → H' a = some (.lst xs) ∧ Ex F F' := by
  have exx : ∀ (is : List Nat) σ' ρ' F' H', Fm σ (lockE ρ is) F H σ' ρ' F' H' → Ex F F' := fun is σ' ρ' F' H' m => m.ex (E.same (lock_same is ρ))
  have fast : ∀ {a : Addr} {xs : List V}, F a = some (.lst xs) → ∀ (is : List Nat) σ' ρ' F' H', Fm σ (lockE ρ is) F H σ' ρ' F' H' → H' a = some (.lst xs) := fun {a xs} h is σ' ρ' F' H' m => by
    have E2 := E.same (lock_same is ρ)
    exact (m.keep a _ (E2.sub _ _ h) (E2.not_own h)).1
  cases r with
  | val d =>
    cases e
    obtain ⟨a, xs, rfl, h1, h2⟩ := rep_list rr
    exact ⟨a, xs, rfl, E.sub _ _ h1, h2, fun is _ σ' ρ' F' H' m => ⟨fast h1 is σ' ρ' F' H' m, exx is σ' ρ' F' H' m⟩⟩
  | fr mm =>
    obtain ⟨p, ho, rfl, h0, h1, h2, h3, h4⟩ := rr
    cases h3 with
    | lst h3 =>
      cases e
      exact ⟨p, _, rfl, h2, h3, fun is _ σ' ρ' F' H' m => ⟨(m.keep p _ h2 fun z => h4 ((lock_same is ρ).owns z)).1, exx is σ' ρ' F' H' m⟩⟩
    | dK h3 => cases e
  | loc i =>
    have hs : σ[i]? = some (some v) := rr
    have e : dSlot ρ[i]? = some (.list ds) := e
    cases hi : ρ[i]? with
    | none =>
      rw [hi] at e
      cases e
    | some s =>
      rw [hi] at e
      cases s with
      | unb => cases e
      | val d =>
        cases e
        obtain ⟨v', g1, g2⟩ := E.val i _ hi
        rw [hs] at g1
        injection g1 with g1
        injection g1 with g1
        subst g1
        obtain ⟨a, xs, rfl, h1, h2⟩ := rep_list g2
        exact ⟨a, xs, rfl, E.sub _ _ h1, h2, fun is _ σ' ρ' F' H' m => ⟨fast h1 is σ' ρ' F' H' m, exx is σ' ρ' F' H' m⟩⟩
      | own mm w =>
        obtain ⟨a, ho, g1, g2, g3, g4⟩ := E.own i mm w hi
        rw [hs] at g1
        injection g1 with g1
        injection g1 with g1
        subst g1
        cases g4 with
        | lst g4 =>
          cases e
          refine ⟨a, _, rfl, g3, g4, fun is hl σ' ρ' F' H' m => ⟨?_, exx is σ' ρ' F' H' m⟩⟩
          have hm : i ∈ is := hl i (by show i ∈ lkSlot i ρ[i]?; rw [hi]; exact List.mem_cons_self)
          rw [m.lck i _ a (lock_at hm hi) hs, g3]
        | dK g4 => cases e
theorem feeds_list {a : Addr} {xs : List V} {ds : List D} {Fb : Hp} (h : RepL K Fb xs ds) : Feeds K (Itl K a) ds (fun F H => H a = some (.lst xs) ∧ Ex Fb F) where
  stop := fun F H _ s => ⟨xs, sl_of s.1, by rw [h.length]; exact Nat.le_refl _⟩
  go := fun i F H _ s hi => by
    obtain ⟨v, h1, _⟩ := h.get (List.getElem?_eq_getElem hi)
    exact ⟨xs, v, sl_of s.1, h1⟩
  yld := fun i F H x H' _ s hi y => by
    obtain ⟨rfl, y⟩ := y
    obtain ⟨d, h1, h2⟩ := h.getV (y xs (sl_of s.1))
    exact ⟨d, h1, .inl ⟨rfl, h2.mono s.2⟩⟩
theorem feeds_tup {a : Addr} {xs : List V} {ds : List D} {Fb : Hp} (ht : SqT K Fb a xs) (h : RepL K Fb xs ds) : Feeds K (Itt K a) ds (fun F _ => Ex Fb F) where
  stop := fun F H e s => ⟨xs, ex_t (s.trans e) ht, by rw [h.length]; exact Nat.le_refl _⟩
  go := fun i F H e s hi => by
    obtain ⟨v, h1, _⟩ := h.get (List.getElem?_eq_getElem hi)
    exact ⟨xs, v, ex_t (s.trans e) ht, h1⟩
  yld := fun i F H x H' e s hi y => by
    obtain ⟨rfl, y⟩ := y
    obtain ⟨d, h1, h2⟩ := h.getV (y xs (ex_t (s.trans e) ht))
    exact ⟨d, h1, .inl ⟨rfl, h2.mono s⟩⟩
theorem chars_len (z : Str) : (chars z).length = z.cps.size := by simp [chars]
theorem feeds_str (z : Str) : Feeds K (Its z) (chars z) (fun _ _ => True) where
  stop := fun F H e s => by
    show z.cps.size ≤ (chars z).length
    rw [chars_len]
    exact Nat.le_refl _
  go := fun i F H e s hi => by
    show i < z.cps.size
    rw [← chars_len]
    exact hi
  yld := fun i F H x H' e s hi y => by
    obtain ⟨rfl, c, h1, rfl⟩ := y
    refine ⟨.str ⟨#[c]⟩, ?_, .inl ⟨rfl, .str _⟩⟩
    unfold chars
    rw [List.getElem?_map, Array.getElem?_toList, h1]
    rfl
theorem rng_len (lo : Int) (n : Nat) : (rngD lo n).length = n := by simp [rngD]
theorem feeds_rng (lo : Int) (n : Nat) : Feeds K (Itr lo n) (rngD lo n) (fun _ _ => True) where
  stop := fun F H e s => by
    show n ≤ (rngD lo n).length
    rw [rng_len]
    exact Nat.le_refl _
  go := fun i F H e s hi => by
    show i < n
    rw [rng_len] at hi
    exact hi
  yld := fun i F H x H' e s hi y => by
    obtain ⟨rfl, rfl⟩ := y
    rw [rng_len] at hi
    refine ⟨.int (lo + (i : Int)), ?_, .inl ⟨rfl, .int _⟩⟩
    unfold rngD
    rw [List.getElem?_map, List.getElem?_range hi]
    rfl
theorem enum_len (ds : List D) : (enumD ds).length = ds.length := by simp [enumD]
theorem feeds_enum {a : Addr} {xs : List V} {ds : List D} {Fb : Hp} (h : RepL K Fb xs ds) : Feeds K (Ite K a) (enumD ds) (fun F H => H a = some (.lst xs) ∧ Ex Fb F) where
  stop := fun F H _ s => ⟨xs, sl_of s.1, by rw [h.length, enum_len]; exact Nat.le_refl _⟩
  go := fun i F H _ s hi => by
    rw [enum_len] at hi
    obtain ⟨v, h1, _⟩ := h.get (List.getElem?_eq_getElem hi)
    exact ⟨xs, v, sl_of s.1, h1⟩
  yld := fun i F H x H' _ s hi y => by
    obtain ⟨T, x', rfl, n, rfl, y⟩ := y
    obtain ⟨d, h1, h2⟩ := h.getV (y xs (sl_of s.1))
    refine ⟨.tuple [.int (i : Nat), d], ?_, .inr ⟨T, _, _, rfl, n, rfl, rfl, .cons (.int _) (.one (h2.mono s.2))⟩⟩
    unfold enumD
    rw [List.getElem?_mapIdx, h1]
    rfl
theorem feeds_zip {a b : Addr} {xs ys : List V} {ds es : List D} {Fb : Hp} (h : RepL K Fb xs ds) (h' : RepL K Fb ys es) : Feeds K (Itz K a b) (zipD ds es) (fun F H => (H a = some (.lst xs) ∧ Ex Fb F) ∧ H b = some (.lst ys) ∧ Ex Fb F) where
  stop := fun F H _ s => ⟨xs, ys, sl_of s.1.1, sl_of s.2.1, by
    rw [h.length, h'.length]
    unfold zipD
    rw [List.length_zipWith]
    omega⟩
  go := fun i F H _ s hi => by
    unfold zipD at hi
    rw [List.length_zipWith] at hi
    obtain ⟨v, h1, _⟩ := h.get (List.getElem?_eq_getElem (show i < ds.length by omega))
    obtain ⟨u, h2, _⟩ := h'.get (List.getElem?_eq_getElem (show i < es.length by omega))
    exact ⟨xs, ys, v, u, sl_of s.1.1, sl_of s.2.1, h1, h2⟩
  yld := fun i F H x H' _ s hi y => by
    obtain ⟨T, x1, x2, rfl, n, rfl, y1, y2⟩ := y
    obtain ⟨d, h1, h2⟩ := h.getV (y1 xs (sl_of s.1.1))
    obtain ⟨e, g1, g2⟩ := h'.getV (y2 ys (sl_of s.2.1))
    refine ⟨.tuple [d, e], ?_, .inr ⟨T, _, _, rfl, n, rfl, rfl, .cons (h2.mono s.1.2) (.one (g2.mono s.1.2))⟩⟩
    unfold zipD
    rw [List.getElem?_zipWith, h1, g1]
end
section
variable {X : Cx} {ex : Str → Addr} {W : WX} {pos pos' p : Pos} {e a b c tg : Expr} {fa fb fc : EM R}
theorem pi_or {w1 w2 : TI} (h1 : PI X tg e w1) (h2 : PI X tg e w2) : PI X tg e (fun σ H R => w1 σ H R ∨ w2 σ H R) := ⟨fun pins s σ H R I h => h.elim (fun h => h1.run pins s σ H R I h) fun h => h2.run pins s σ H R I h⟩
def iAny (K : PySem.W.Frag) (te : TE) : TI := fun σ H R => iList K te σ H R ∨ iTup K te σ H R ∨ iStr te σ H R
theorem pi_any {te : TE} (h : PE X e te) : PI X tg e (iAny X.K te) := pi_or (pi_list h) (pi_or (pi_tup h) (pi_str h))
theorem src_any : SrcIn ⟨X.K, ex⟩ W (iAny X.K (DE ⟨X.K, ex⟩ W fa)) (srcAny fa) := by
  intro σ ρ F H β g x Rr E e he k
  -- what is walked is known from the data alone
  have e' : EM.bind fa (fun r => EM.bind (fun ρ => (srcOf r ρ (rd r ρ)).map fun s => (Except.ok s, ρ)) g) ρ = some x := by
    unfold srcAny EM.bind at e
    unfold EM.bind
    cases hf : fa ρ with
    | none =>
      rw [hf] at e
      cases e
    | some z =>
      rw [hf] at e
      rcases z with ⟨z | z, ρ'⟩
      · exact e
      · exact e
  have step := fun {Q : VK} (q : ∀ v H1, (∃ r ρ1 F1, ER X.K σ ρ1 F1 H1 ∧ Fm σ ρ F H σ ρ1 F1 H1 ∧ Fm σ ρ F H σ ρ1 F1 H1 ∧ RR X.K H σ ρ1 F1 H1 v r ∧ EM.bind (fun ρ => (srcOf r ρ (rd r ρ)).map fun s => (Except.ok s, ρ)) g ρ1 = some x ∧ fa ρ = some (.ok r, ρ1)) → Q v H1) => (show DE ⟨X.K, ex⟩ W fa σ H Q from by
    cases hf : fa ρ with
    | none =>
      rw [bind_none hf] at e'
      cases e'
    | some y =>
      refine ⟨ρ, F, y, E, hf, ?_⟩
      rcases y with ⟨y | r, ρ'⟩
      · rw [bind_err hf] at e'
        have e3 : x = (.error y, ρ') := by injection e' with e2; exact e2.symm
        exact fun cls d F' H' E' m' z => he y ρ' e3 cls d F' H' E' m' z
      · rw [bind_ok hf] at e'
        exact fun v F' H' E' m' rr => q v H' ⟨r, ρ', F', E', m', m', rr, e', hf⟩)
  have kind : (∀ r ρ1, fa ρ = some (.ok r, ρ1) → ∃ ds, rd r ρ1 = some (.list ds)) ∨ (∀ r ρ1, fa ρ = some (.ok r, ρ1) → ∃ ds, rd r ρ1 = some (.tuple ds)) ∨ (∀ r ρ1, fa ρ = some (.ok r, ρ1) → ∃ ds, rd r ρ1 = some (.str ds)) := by
    cases hf : fa ρ with
    | none => exact .inl fun r ρ1 h => by cases h
    | some y =>
      rcases y with ⟨y | r, ρ1⟩
      · exact .inl fun r ρ1 h => by cases h
      · have e2 := e'
        rw [bind_ok hf] at e2
        have no : ∀ d, rd r ρ1 = d → srcOf r ρ1 d = none → False := fun d h1 h2 => by
          have : (fun ρ => (srcOf r ρ (rd r ρ)).map fun s => (Except.ok (ε := Exc) s, ρ)) ρ1 = none := by
            show (srcOf r ρ1 (rd r ρ1)).map _ = none
            rw [h1, h2]
            rfl
          rw [bind_none this] at e2
          cases e2
        cases hr : rd r ρ1 with
        | none => exact (no _ hr rfl).elim
        | some d =>
          cases d with
          | list ds => exact .inl fun r' ρ' h => by cases h; exact ⟨ds, hr⟩
          | tuple ds => exact .inr (.inl fun r' ρ' h => by cases h; exact ⟨ds, hr⟩)
          | str ds => exact .inr (.inr fun r' ρ' h => by cases h; exact ⟨ds, hr⟩)
          | _ => exact (no _ hr rfl).elim
  have got : ∀ {r : R} {ρ1 : En} {d : Option D} {s : Src}, rd r ρ1 = d → srcOf r ρ1 d = some s → EM.bind (fun ρ => (srcOf r ρ (rd r ρ)).map fun s => (Except.ok s, ρ)) g ρ1 = some x → g s ρ1 = some x := fun {r ρ1 d s} h1 h2 h3 => by
    have : (fun ρ => (srcOf r ρ (rd r ρ)).map fun s => (Except.ok (ε := Exc) s, ρ)) ρ1 = some (.ok s, ρ1) := by
      show (srcOf r ρ1 (rd r ρ1)).map _ = _
      rw [h1, h2]
      rfl
    rw [bind_ok this] at h3
    exact h3
  rcases kind with kd | kd | kd
  · refine .inl (step fun v H1 ⟨r, ρ1, F1, E1, m1, _, rr, e1, hf⟩ => ?_)
    obtain ⟨ds, hr⟩ := kd r ρ1 hf
    obtain ⟨a, xs, rfl, h1, h2, h3⟩ := stands E1 rr hr
    refine ⟨a, rfl, ⟨xs, sl_of h1⟩, k (ds, lkOf ρ1 r) ρ1 F1 H1 _ _ E1 m1 (got hr rfl e1) (feeds_list h2) fun σ' ρ' F' H' Z m' hz => ?_⟩
    · obtain ⟨g1, g2⟩ := h3 _ (fun i h => h) σ' ρ' F' Z m'
      exact ⟨by rw [hz a (by rw [h1]; simp)]; exact g1, g2⟩
  · refine .inr (.inl (step fun v H1 ⟨r, ρ1, F1, E1, m1, _, rr, e1, hf⟩ => ?_))
    obtain ⟨ds, hr⟩ := kd r ρ1 hf
    obtain ⟨a, xs, rfl, h1, h2⟩ := rd_tup E1 rr hr
    refine ⟨a, rfl, ⟨xs, ex_t E1.sub h1⟩, k (ds, []) ρ1 F1 H1 _ _ E1 m1 (got hr rfl e1) (feeds_tup h1 h2) fun σ' ρ' F' H' Z m' hz => m'.ex E1⟩
  · refine .inr (.inr (step fun v H1 ⟨r, ρ1, F1, E1, m1, _, rr, e1, hf⟩ => ?_))
    obtain ⟨ds, hr⟩ := kd r ρ1 hf
    refine ⟨ds, rd_str E1 rr hr, k (chars ds, []) ρ1 F1 H1 _ _ E1 m1 (got hr rfl e1) (feeds_str ds) fun _ _ _ _ _ _ _ => trivial⟩
theorem bind_map {α β γ : Type} {f : EM α} {h : α → EM β} {g : β → EM γ} {ρ : En} : EM.bind (EM.bind f h) g ρ = EM.bind f (fun a => EM.bind (h a) g) ρ := by
  unfold EM.bind
  cases f ρ with
  | none => rfl
  | some z =>
    rcases z with ⟨z | z, ρ'⟩
    · rfl
    · rfl
theorem src_r1 : SrcIn ⟨X.K, ex⟩ W (iRng1 (tCons (DE ⟨X.K, ex⟩ W fa) tNil)) (srcR1 fa) := by
  intro σ ρ F H β g x Rr E e he k
  unfold srcR1 at e
  rw [bind_map] at e
  refine (split E (Fm.refl σ ρ F H) e he).mono fun v H1 ⟨r, ρ1, F1, E1, m1, _, rr, e1⟩ => ?_
  show ∃ j : Int, [v] = [.int j] ∧ -(2 ^ 62) ≤ j ∧ j < 2 ^ 62 ∧ Rr (Itr 0 j.toNat) H1
  obtain ⟨s, hs, e1⟩ := src_in e1
  cases hr : rd r ρ1 with
  | none =>
    rw [hr] at hs
    cases hs
  | some d =>
    rw [hr] at hs
    cases d with
    | int j =>
      unfold sR1 at hs
      dsimp only at hs
      split at hs
      · rename_i hz
        cases hs
        rw [rd_int E1 rr hr]
        exact ⟨j, rfl, hz.1, hz.2, k (rngD 0 j.toNat, []) ρ1 F1 H1 _ _ E1 m1 e1 (feeds_rng 0 j.toNat) fun _ _ _ _ _ _ _ => trivial⟩
      · cases hs
    | _ => cases hs
theorem src_r2 : SrcIn ⟨X.K, ex⟩ W (iRng2 (tCons (DE ⟨X.K, ex⟩ W fa) (tCons (DE ⟨X.K, ex⟩ W fb) tNil))) (srcR2 fa fb) := by
  intro σ ρ F H β g x Rr E e he k
  unfold srcR2 at e
  rw [bind_map] at e
  refine (split E (Fm.refl σ ρ F H) e he).mono fun v H1 ⟨r, ρ1, F1, E1, m1, _, rr, e1⟩ => ?_
  rw [bind_map] at e1
  refine (split E1 m1 e1 he).mono fun u H2 ⟨q, ρ2, F2, E2, m2, m12, rq, e2⟩ => ?_
  have rr := rr.step E1 m12
  show ∃ i j : Int, [v, u] = [.int i, .int j] ∧ (-(2 ^ 62) ≤ i ∧ i < 2 ^ 62 ∧ -(2 ^ 62) ≤ j ∧ j < 2 ^ 62) ∧ Rr (Itr i (j - i).toNat) H2
  obtain ⟨s, hs, e2⟩ := src_in e2
  unfold sR2 at hs
  split at hs
  · rename_i i j hr hq
    split at hs
    · rename_i hz
      cases hs
      rw [rd_int E2 rr hr, rd_int E2 rq hq]
      exact ⟨i, j, rfl, hz, k (rngD i (j - i).toNat, []) ρ2 F2 H2 _ _ E2 m2 e2 (feeds_rng i (j - i).toNat) fun _ _ _ _ _ _ _ => trivial⟩
    · cases hs
  · cases hs
theorem src_enum : SrcIn ⟨X.K, ex⟩ W (iEnum X.K (tCons (DE ⟨X.K, ex⟩ W fa) tNil)) (srcEnum fa) := by
  intro σ ρ F H β g x Rr E e he k
  unfold srcEnum at e
  rw [bind_map] at e
  refine (split E (Fm.refl σ ρ F H) e he).mono fun v H1 ⟨r, ρ1, F1, E1, m1, _, rr, e1⟩ => ?_
  show ∃ a xs, [v] = [.ref a] ∧ SqL X.K H1 a xs ∧ Rr (Ite X.K a) H1
  obtain ⟨s, hs, e1⟩ := src_in e1
  unfold sEnum at hs
  split at hs
  · rename_i ds hr
    cases hs
    obtain ⟨a, xs, rfl, h1, h2, h3⟩ := stands E1 rr hr
    refine ⟨a, xs, rfl, sl_of h1, k (enumD ds, lkOf ρ1 r) ρ1 F1 H1 _ _ E1 m1 e1 (feeds_enum h2) fun σ' ρ' F' H' Z m' hz => ?_⟩
    obtain ⟨g1, g2⟩ := h3 _ (fun i h => h) σ' ρ' F' Z m'
    exact ⟨by rw [hz a (by rw [h1]; simp)]; exact g1, g2⟩
  · cases hs
theorem src_zip : SrcIn ⟨X.K, ex⟩ W (iZip X.K (tCons (DE ⟨X.K, ex⟩ W fa) (tCons (DE ⟨X.K, ex⟩ W fb) tNil))) (srcZip fa fb) := by
  intro σ ρ F H β g x Rr E e he k
  unfold srcZip at e
  rw [bind_map] at e
  refine (split E (Fm.refl σ ρ F H) e he).mono fun v H1 ⟨r, ρ1, F1, E1, m1, _, rr, e1⟩ => ?_
  rw [bind_map] at e1
  refine (split E1 m1 e1 he).mono fun u H2 ⟨q, ρ2, F2, E2, m2, m12, rq, e2⟩ => ?_
  have rr := rr.step E1 m12
  show ∃ a b xs ys, [v, u] = [.ref a, .ref b] ∧ SqL X.K H2 a xs ∧ SqL X.K H2 b ys ∧ Rr (Itz X.K a b) H2
  obtain ⟨s, hs, e2⟩ := src_in e2
  unfold sZip at hs
  split at hs
  · rename_i ds es hr hq
    cases hs
    obtain ⟨a, xs, rfl, h1, h2, h3⟩ := stands E2 rr hr
    obtain ⟨b, ys, rfl, g1, g2, g3⟩ := stands E2 rq hq
    refine ⟨a, b, xs, ys, rfl, sl_of h1, sl_of g1, k (zipD ds es, lkOf ρ2 r ++ lkOf ρ2 q) ρ2 F2 H2 _ _ E2 m2 e2 (feeds_zip h2 g2) fun σ' ρ' F' H' Z m' hz => ?_⟩
    obtain ⟨p1, p2⟩ := h3 _ (fun i h => List.mem_append_left _ h) σ' ρ' F' Z m'
    obtain ⟨q1, q2⟩ := g3 _ (fun i h => List.mem_append_right _ h) σ' ρ' F' Z m'
    exact ⟨⟨by rw [hz a (by rw [h1]; simp)]; exact p1, p2⟩, by rw [hz b (by rw [g1]; simp)]; exact q1, q2⟩
  · cases hs

/-! ### targets -/
/-- g stores what tm tells, in the slots js -/
structure TgOk (K : PySem.W.Frag) (js : List Nat) (g : TG) (tm : D → En → Option En) : Prop where
  ok : ∀ (σ : L2.St) (ρ : En) (F H : Hp) (v : V) (d : D) (ρ' : En) (Q : L2.St → Hp → Prop), ER K σ ρ F H → Rep K F v d → tm d ρ = some ρ' →
    (∀ σ', ER K σ' ρ' F H → Fm σ ρ F H σ' ρ' F H → (∀ k : Nat, k ∉ js → σ'[k]? = σ[k]?) → (∀ k : Nat, k ∉ js → ρ'[k]? = ρ[k]?) → Q σ' H) → g v σ H Q
theorem ne_of_out {i j : Nat} {js : List Nat} (h : i ∉ j :: js) : j ≠ i := fun z => h (by rw [z]; exact List.mem_cons_self)
theorem tg_name (K : PySem.W.Frag) (j : Nat) : TgOk K [j] (gName j) (stVal j) := ⟨fun σ ρ F H v d ρ' Q E r e k => by
  obtain ⟨h1, h2, h3⟩ := stVal_ok E (Fm.refl σ ρ F H) r e
  refine k _ h1 h2 (fun i hi => List.getElem?_set_ne (ne_of_out hi)) fun i hi => ?_
  rw [h3, List.getElem?_set_ne (ne_of_out hi)]⟩
def stVals : List Nat → List D → En → Option En
  | [], [], ρ => some ρ
  | j :: js, d :: ds, ρ => (stVal j d ρ).bind (stVals js ds)
  | _, _, _ => none
def stTup (js : List Nat) : D → En → Option En
  | .tuple ds, ρ => stVals js ds ρ
  | _, _ => none
structure TgsOk (K : PySem.W.Frag) (js : List Nat) (g : TGs) : Prop where
  ok : ∀ (σ : L2.St) (ρ : En) (F H : Hp) (vs : List V) (ds : List D) (ρ' : En) (Q : L2.St → Hp → Prop), ER K σ ρ F H → RepL K F vs ds → stVals js ds ρ = some ρ' →
    (∀ σ', ER K σ' ρ' F H → Fm σ ρ F H σ' ρ' F H → (∀ k : Nat, k ∉ js → σ'[k]? = σ[k]?) → (∀ k : Nat, k ∉ js → ρ'[k]? = ρ[k]?) → Q σ' H) → g vs σ H Q
theorem tg_nil (K : PySem.W.Frag) : TgsOk K [] gNil := ⟨fun σ ρ F H vs ds ρ' Q E r e k => by
  cases r with
  | nil =>
    cases e
    exact ⟨rfl, k σ E (Fm.refl σ ρ F H) (fun _ _ => rfl) fun _ _ => rfl⟩
  | cons _ _ => cases e⟩
theorem tg_cons {K : PySem.W.Frag} {j : Nat} {js : List Nat} {g : TGs} (h : TgsOk K js g) : TgsOk K (j :: js) (gCons (gName j) g) := ⟨fun σ ρ F H vs ds ρ' Q E r e k => by
  cases r with
  | nil => cases e
  | cons r rs =>
    rename_i v vs d ds
    have e : (stVal j d ρ).bind (stVals js ds) = some ρ' := e
    cases h1 : stVal j d ρ with
    | none =>
      rw [h1] at e
      cases e
    | some ρ1 =>
      rw [h1] at e
      obtain ⟨k1, k2, k3⟩ := stVal_ok E (Fm.refl σ ρ F H) r h1
      refine ⟨v, vs, rfl, h.ok _ ρ1 F H vs ds ρ' Q k1 rs e fun σ' E' m' n1 n2 => k σ' E' (k2.trans m') (fun i hi => ?_) fun i hi => ?_⟩
      · rw [n1 i fun z => hi (List.mem_cons_of_mem _ z), List.getElem?_set_ne (ne_of_out hi)]
      · rw [n2 i fun z => hi (List.mem_cons_of_mem _ z), k3, List.getElem?_set_ne (ne_of_out hi)]⟩
theorem tg_tup {K : PySem.W.Frag} {js : List Nat} {n : Nat} {g : TGs} (h : TgsOk K js g) (hn : js.length = n) : TgOk K js (gTup K n g) (stTup js) := ⟨fun σ ρ F H v d ρ' Q E r e k => by
  unfold stTup at e
  split at e
  · rename_i ds
    obtain ⟨a, xs, rfl, h1, h2⟩ := rep_tup r
    have hl : ∀ (js : List Nat) (ds : List D) (ρ : En), stVals js ds ρ = some ρ' → js.length = ds.length := by
      intro js
      induction js with
      | nil =>
        intro ds ρ e
        cases ds with
        | nil => rfl
        | cons _ _ => cases e
      | cons j js ih =>
        intro ds ρ e
        cases ds with
        | nil => cases e
        | cons d ds =>
          have e : (stVal j d ρ).bind (stVals js ds) = some ρ' := e
          cases h1 : stVal j d ρ with
          | none =>
            rw [h1] at e
            cases e
          | some ρ1 =>
            rw [h1] at e
            rw [List.length_cons, List.length_cons, ih ds ρ1 e]
    exact ⟨a, xs, rfl, ex_t E.sub h1, by rw [h2.length, ← hl _ _ _ e, hn], h.ok σ ρ F H xs ds ρ' Q E h2 e k⟩
  · cases e⟩
end
end LF
end

-- part LFRulesA
section
set_option Elab.async false
set_option linter.all false
set_option maxRecDepth 100000
set_option maxHeartbeats 2000000
namespace LF
open PySem PySem.Spec PyProof.Rows L2

def turnOut (k : EM Out) : Except Exc Out × En → Option (Except Exc Out × En)
  | (.error e, ρ) => some (.error e, ρ)
  | (.ok .nx, ρ) => k ρ
  | (.ok .ct, ρ) => k ρ
  | (.ok .bk, ρ) => some (.ok .nx, ρ)
  | (.ok (.rt r), ρ) => some (.ok (.rt r), ρ)
def runFor (tm : D → En → Option En) (body : EM Out) : List D → EM Out
  | [] => fun ρ => some (.ok .nx, ρ)
  | d :: ds => fun ρ => (tm d ρ).bind fun ρ1 => (body ρ1).bind (turnOut (runFor tm body ds))
def sFor (src : EM Src) (tm : D → En → Option En) (body : EM Out) : EM Out := EM.bind src fun s => fun ρ => (runFor tm body s.1 (lockE ρ s.2)).map (unlock ρ s.2)
def runWhile (c : EM Bool) (body : EM Out) : Nat → EM Out
  | 0 => fun _ => none
  | n + 1 => EM.bind c fun k => if k = true then fun ρ => (body ρ).bind (turnOut (runWhile c body n)) else EM.pure .nx
section
variable {X : Cx} {ex : Str → Addr} {W : WX} {pos : Pos} {tg iter e c : Expr} {body : List Stmt} {f : EM Out} {bc : EM Bool}
theorem turn_in {C : Ctx} {σ σ1 : L2.St} {ρ ρ1 : En} {F F1 H H1 : Hp} {k : EM Out} {y : Except Exc Out × En} {Q : Ends} {N : L2.St → Hp → Prop} (E1 : ER C.K σ1 ρ1 F1 H1) (m1 : Fm σ ρ F H σ1 ρ1 F1 H1) (hr : ResS C W σ ρ F H y Q) (e : (f ρ1).bind (turnOut k) = some y)
    (hN : ∀ σ' ρ' F' H', ER C.K σ' ρ' F' H' → Fm σ ρ F H σ' ρ' F' H' → k ρ' = some y → N σ' H') : DS C W f { Q with nx := N, ct := N, bk := Q.nx } σ1 H1 := by
  cases hf : f ρ1 with
  | none =>
    rw [hf] at e
    cases e
  | some z =>
    rw [hf] at e
    have e : turnOut k z = some y := e
    refine ⟨ρ1, F1, z, E1, hf, ?_⟩
    rcases z with ⟨z | o, ρ2⟩
    · cases e
      exact fun cls d σ' F' H' E' m' q => hr cls d σ' F' H' E' (m1.trans m') q
    · intro σ' F' H' E' m'
      cases o with
      | nx => exact hN σ' ρ2 F' H' E' (m1.trans m') e
      | ct => exact hN σ' ρ2 F' H' E' (m1.trans m') e
      | bk =>
        cases e
        exact hr σ' F' H' E' (m1.trans m')
      | rt r =>
        cases e
        exact fun v rr => hr σ' F' H' E' (m1.trans m') v (rr.back m1.dom)
theorem drop_cons {α : Type} {l : List α} {i : Nat} {d : α} (h : l[i]? = some d) : l.drop i = d :: l.drop (i + 1) := by
  obtain ⟨hi, e⟩ := List.getElem?_eq_some_iff.mp h
  rw [List.drop_eq_getElem_cons hi, e]
theorem l_for {wi : TI} {src : EM Src} {g : TG} {js : List Nat} {tm : D → En → Option En} (hp : PassesOwn (model X.prog X.w) X.A X.env X.xe) (hc : X.calm = true) (hi : PI X tg iter wi) (si : SrcIn ⟨X.K, ex⟩ W wi src) (hg : PG X tg g) (to : TgOk X.K js g tm) (hb : PSs X body (DS ⟨X.K, ex⟩ W f))
    (hs : ∀ x, foldedSetIterable iter X.env x = pure x := by intro _; rfl) : PS X (.For tg iter body [] pos) (DS ⟨X.K, ex⟩ W (sFor src tm f)) :=
  impS (ps_for hp hc hi hg hb hs) fun Q σ H h => by
    obtain ⟨ρ, F, y, E, e, hr⟩ := h
    refine si σ ρ F H _ _ y _ E e hr.err fun s ρ1 F1 H1 J S E1 m1 e1 fd st => ?_
    cases hrun : runFor tm f s.1 (lockE ρ1 s.2) with
    | none =>
      rw [hrun] at e1
      cases e1
    | some y' =>
      rw [hrun] at e1
      have ey : unlock ρ1 s.2 y' = y := by injection e1
      have hr' : ResS ⟨X.K, ex⟩ W σ (lockE ρ1 s.2) F1 H1 y' Q := by
        refine ResS.lock ?_
        rw [ey]
        exact hr.base m1
      have EL := E1.same (lock_same s.2 ρ1)
      refine ⟨fun i m σ' H' => m = s.1.length - i ∧ i ≤ s.1.length ∧ ∃ ρ' F', ER X.K σ' ρ' F' H' ∧ Fm σ (lockE ρ1 s.2) F1 H1 σ' ρ' F' H' ∧ runFor tm f (s.1.drop i) ρ' = some y', ⟨_, rfl, Nat.zero_le _, _, F1, EL, Fm.refl _ _ _ _, hrun⟩, ?_⟩
      rintro i m σ' H' ⟨rfl, hi, ρ', F', E', m', er⟩
      have hS : S F' H' := st σ' ρ' F' H' H' m' fun _ _ => rfl
      by_cases hlt : i < s.1.length
      · refine .inr ⟨fd.go i F' H' E'.sub hS hlt, fun σ2 H2 => ∃ ρ2 F2, ER X.K σ2 ρ2 F2 H2 ∧ Fm σ (lockE ρ1 s.2) F1 H1 σ2 ρ2 F2 H2 ∧ runFor tm f (s.1.drop (i + 1)) ρ2 = some y', ?_, fun x H2 yd => ?_⟩
        · rintro σ2 H2 ⟨ρ2, F2, h1, h2, h3⟩
          exact ⟨_, by omega, rfl, hlt, ρ2, F2, h1, h2, h3⟩
        · obtain ⟨d, hd, alt⟩ := fd.yld i F' H' x H2 E'.sub hS hlt yd
          rw [drop_cons hd] at er
          have er : (tm d ρ').bind (fun ρ1 => (f ρ1).bind (turnOut (runFor tm f (s.1.drop (i + 1))))) = some y' := er
          cases ht : tm d ρ' with
          | none =>
            rw [ht] at er
            cases er
          | some ρ2 =>
            rw [ht] at er
            have fin : ∀ F2 H2, ER X.K σ' ρ' F2 H2 → Fm σ (lockE ρ1 s.2) F1 H1 σ' ρ' F2 H2 → Rep X.K F2 x d → g x σ' H2 fun σ2 H2 => DS ⟨X.K, ex⟩ W f { Q with nx := fun σ2 H2 => ∃ ρ2 F2, ER X.K σ2 ρ2 F2 H2 ∧ Fm σ (lockE ρ1 s.2) F1 H1 σ2 ρ2 F2 H2 ∧ runFor tm f (s.1.drop (i + 1)) ρ2 = some y', ct := fun σ2 H2 => ∃ ρ2 F2, ER X.K σ2 ρ2 F2 H2 ∧ Fm σ (lockE ρ1 s.2) F1 H1 σ2 ρ2 F2 H2 ∧ runFor tm f (s.1.drop (i + 1)) ρ2 = some y', bk := Q.nx } σ2 H2 :=
              fun F2 H2 E2 m2 r2 => to.ok σ' ρ' F2 H2 x d ρ2 _ E2 r2 ht fun σ3 E3 m3 _ _ => turn_in E3 (m2.trans m3) hr' er fun σ4 ρ4 F4 H4 E4 m4 e4 => ⟨ρ4, F4, E4, m4, e4⟩
            rcases alt with ⟨rfl, r⟩ | ⟨p, vs, es, rfl, np, rfl, rfl, r⟩
            · exact fin F' H2 E' m' r
            · exact fin _ _ (E'.newF np) (m'.trans (Fm.newF E' np)) (.tup (st_of upd_same) (r.mono (Ex.new (none_sub E' np))))
      · have : i = s.1.length := by omega
        subst this
        rw [List.drop_length] at er
        have er : some (Except.ok (ε := Exc) Out.nx, ρ') = some y' := er
        cases er
        exact .inl ⟨fd.stop F' H' E'.sub hS, hr' σ' F' H' E' m'⟩
def fuel : Nat := 10 ^ 30
def sWhile (c : EM Bool) (body : EM Out) : EM Out := runWhile c body fuel
theorem l_while (hp : PassesOwn (model X.prog X.w) X.A X.env X.xe) (hc : PT X c (DT ⟨X.K, ex⟩ W bc)) (hb : PSs X body (DS ⟨X.K, ex⟩ W f)) : PS X (.While c body [] pos) (DS ⟨X.K, ex⟩ W (sWhile bc f)) :=
  impS (ps_while hp hc hb) fun Q σ H h => by
    obtain ⟨ρ, F, y, E, e, hr⟩ := h
    refine ⟨fun m σ' H' => ∃ ρ' F', ER X.K σ' ρ' F' H' ∧ Fm σ ρ F H σ' ρ' F' H' ∧ runWhile bc f m ρ' = some y, ⟨fuel, ρ, F, E, Fm.refl _ _ _ _, e⟩, ?_⟩
    rintro m σ' H' ⟨ρ', F', E', m', er⟩
    cases m with
    | zero => cases er
    | succ n =>
      have hr' : ResS ⟨X.K, ex⟩ W σ' ρ' F' H' y Q := hr.base m'
      refine (splitT (ρ0 := ρ') (F0 := F') (H0 := H') E' (Fm.refl _ _ _ _) er hr'.err).mono fun k H1 ⟨ρ1, F1, E1, m1, e1⟩ => ?_
      cases k with
      | true =>
        show ∃ N : L2.St → Hp → Prop, _
        refine ⟨fun σ2 H2 => ∃ ρ2 F2, ER X.K σ2 ρ2 F2 H2 ∧ Fm σ ρ F H σ2 ρ2 F2 H2 ∧ runWhile bc f n ρ2 = some y, fun σ2 H2 ⟨ρ2, F2, h1, h2, h3⟩ => ⟨n, Nat.lt_succ_self n, ρ2, F2, h1, h2, h3⟩, ?_⟩
        exact turn_in E1 (m'.trans m1) hr e1 fun σ4 ρ4 F4 H4 E4 m4 e4 => ⟨ρ4, F4, E4, m4, e4⟩
      | false =>
        cases e1
        show Q.nx σ' H1
        exact hr' σ' F1 H1 E1 m1
end

/-! ### [e for x in xs if c] -/
def wipeE (ρ : En) : List Nat → En
  | [] => ρ
  | v :: vs => (wipeE ρ vs).set v .unb
def backOne (ρ : En) (v : Nat) : Option Slot → En
  | some s => ρ.set v s
  | none => ρ
def backE (ρ0 ρ : En) : List Nat → En
  | [] => ρ
  | v :: vs => backOne (backE ρ0 ρ vs) v ρ0[v]?
def isOwn : Option Slot → Bool
  | some (.own _ _) => true
  | _ => false
def noOwn (ρ : En) (vs : List Nat) : Bool := vs.all fun v => !isOwn ρ[v]?
def lcTurn (c : EM Bool) (elt : EM R) : EM (Option D) := EM.bind c fun k => if k = true then EM.bind elt fun r => EM.bind (fz r) fun d => EM.pure (some d) else EM.pure none
def lcOut (k : List D → EM (List D)) (acc : List D) (ρ : En) (vs : List Nat) : Except Exc (Option D) × En → Option (Except Exc (List D) × En)
  | (.ok (some e), ρ2) => if acc.length < sizeLine then k (acc ++ [e]) (backE ρ ρ2 vs) else none
  | (.ok none, ρ2) => k acc (backE ρ ρ2 vs)
  | _ => none
def runLc (tm : D → En → Option En) (c : EM Bool) (elt : EM R) (vs : List Nat) : List D → List D → EM (List D)
  | [], acc => fun ρ => some (.ok acc, ρ)
  | d :: ds, acc => fun ρ => (tm d (wipeE ρ vs)).bind fun ρ1 => (lcTurn c elt ρ1).bind (lcOut (runLc tm c elt vs ds) acc ρ vs)
def lcEnd (ρ : En) (is : List Nat) : Except Exc (List D) × En → Option (Except Exc R × En)
  | (.ok acc, ρ') => some (.ok (.fr (.lst acc)), freeE ρ ρ' is)
  | _ => none
def eLc (src : EM Src) (tm : D → En → Option En) (c : EM Bool) (elt : EM R) (vs : List Nat) : EM R := EM.bind src fun s => fun ρ => if noOwn ρ vs = true then (runLc tm c elt vs s.1 [] (lockE ρ s.2)).bind (lcEnd ρ s.2) else none
def tYesM : EM Bool := EM.pure true
section
variable {K : PySem.W.Frag} {σ σ' σ2 : L2.St} {ρ ρ' ρ2 ρ0 : En} {F F' F0 F2 H H' H2 H0 : Hp} {vs : List Nat} {Dd : Addr}
theorem wipeE_len (ρ : En) : ∀ vs : List Nat, (wipeE ρ vs).length = ρ.length
  | [] => rfl
  | v :: vs => by
    show ((wipeE ρ vs).set v .unb).length = _
    rw [List.length_set, wipeE_len]
theorem wipeE_out : ∀ {vs : List Nat} {i : Nat}, i ∉ vs → (wipeE ρ vs)[i]? = ρ[i]?
  | [], _, _ => rfl
  | v :: vs, i, h => by
    show ((wipeE ρ vs).set v .unb)[i]? = _
    rw [List.getElem?_set_ne (ne_of_out h), wipeE_out fun z => h (List.mem_cons_of_mem _ z)]
theorem wipeE_in : ∀ {vs : List Nat} {i : Nat} {s : Slot}, i ∈ vs → (wipeE ρ vs)[i]? = some s → s = .unb
  | [], _, _, h, _ => by simp at h
  | v :: vs, i, s, h, e => by
    have e : ((wipeE ρ vs).set v .unb)[i]? = some s := e
    rcases get_set e with ⟨_, q⟩ | ⟨n, e⟩
    · exact q
    · exact wipeE_in ((List.mem_cons.mp h).resolve_left n) e
theorem wipe_outV : ∀ {vs : List Nat} {i : Nat}, i ∉ vs → (wipe σ vs)[i]? = σ[i]?
  | [], _, _ => rfl
  | v :: vs, i, h => by
    show ((wipe σ vs).set v none)[i]? = _
    rw [List.getElem?_set_ne (ne_of_out h), wipe_outV fun z => h (List.mem_cons_of_mem _ z)]
theorem wipe_inV : ∀ {vs : List Nat} {i : Nat}, i ∈ vs → i < σ.length → (wipe σ vs)[i]? = some none
  | [], _, h, _ => by simp at h
  | v :: vs, i, h, hl => by
    show ((wipe σ vs).set v none)[i]? = _
    by_cases z : v = i
    · subst z
      rw [List.getElem?_set_self (by rw [wipe_length]; exact hl)]
    · rw [List.getElem?_set_ne z]
      exact wipe_inV ((List.mem_cons.mp h).resolve_left (Ne.symm z)) hl
theorem wipe_ext (hl : σ2.length = σ.length) (h : ∀ k : Nat, k ∉ vs → σ2[k]? = σ[k]?) : wipe σ2 vs = wipe σ vs := by
  refine List.ext_getElem? fun i => ?_
  by_cases z : i ∈ vs
  · by_cases hi : i < σ.length
    · rw [wipe_inV z hi, wipe_inV z (by rw [hl]; exact hi)]
    · rw [List.getElem?_eq_none (by rw [wipe_length]; omega), List.getElem?_eq_none (by rw [wipe_length]; omega)]
  · rw [wipe_outV z, wipe_outV z, h i z]
theorem ER.wiped (E : ER K σ ρ F H) (vs : List Nat) : ER K (wipe σ vs) (wipeE ρ vs) F H := by
  have back : ∀ {i : Nat} {s : Slot}, (wipeE ρ vs)[i]? = some s → s ≠ .unb → i ∉ vs ∧ ρ[i]? = some s := fun {i s} h n => by
    have hi : i ∉ vs := fun z => n (wipeE_in z h)
    exact ⟨hi, by rw [← wipeE_out hi]; exact h⟩
  refine ⟨E.sub, by rw [wipe_length, wipeE_len, E.len], fun i d e => ?_, fun i m o e => ?_, fun i j m m' o o' a e1 e2 s1 s2 => ?_⟩
  · obtain ⟨h1, h2⟩ := back e (by intro z; cases z)
    rw [wipe_outV h1]
    exact E.val i d h2
  · obtain ⟨h1, h2⟩ := back e (by intro z; cases z)
    rw [wipe_outV h1]
    exact E.own i m o h2
  · obtain ⟨h1, h2⟩ := back e1 (by intro z; cases z)
    obtain ⟨g1, g2⟩ := back e2 (by intro z; cases z)
    rw [wipe_outV h1] at s1
    rw [wipe_outV g1] at s2
    exact E.dis i j m m' o o' a h2 g2 s1 s2
theorem backE_len (ρ0 ρ : En) : ∀ vs : List Nat, (backE ρ0 ρ vs).length = ρ.length
  | [] => rfl
  | v :: vs => by
    show (backOne (backE ρ0 ρ vs) v ρ0[v]?).length = _
    unfold backOne
    split
    · rw [List.length_set, backE_len]
    · rw [backE_len]
theorem backE_out : ∀ {vs : List Nat} {i : Nat}, i ∉ vs → (backE ρ0 ρ vs)[i]? = ρ[i]?
  | [], _, _ => rfl
  | v :: vs, i, h => by
    show (backOne (backE ρ0 ρ vs) v ρ0[v]?)[i]? = _
    have n : v ≠ i := fun z => h (z ▸ List.mem_cons_self)
    have ih : (backE ρ0 ρ vs)[i]? = ρ[i]? := backE_out fun z => h (List.mem_cons_of_mem _ z)
    unfold backOne
    split
    · rw [List.getElem?_set_ne n, ih]
    · exact ih
theorem backE_in : ∀ {vs : List Nat} {i : Nat}, ρ.length = ρ0.length → i ∈ vs → (backE ρ0 ρ vs)[i]? = ρ0[i]?
  | [], _, _, h => by simp at h
  | v :: vs, i, hl, h => by
    show (backOne (backE ρ0 ρ vs) v ρ0[v]?)[i]? = _
    by_cases z : v = i
    · subst z
      cases e : ρ0[v]? with
      | none =>
        show (backE ρ0 ρ vs)[v]? = none
        rw [List.getElem?_eq_none_iff] at e
        exact List.getElem?_eq_none (by rw [backE_len, hl]; exact e)
      | some s =>
        show ((backE ρ0 ρ vs).set v s)[v]? = some s
        rw [List.getElem?_set_self (by rw [backE_len, hl]; exact (List.getElem?_eq_some_iff.mp e).1)]
    · have ih := backE_in (vs := vs) (i := i) hl ((List.mem_cons.mp h).resolve_left (Ne.symm z))
      unfold backOne
      split
      · rw [List.getElem?_set_ne z, ih]
      · exact ih
theorem noOwn_at (h : noOwn ρ vs = true) {i : Nat} {m : M} {o : Ow} (hi : i ∈ vs) : ρ[i]? ≠ some (.own m o) := fun e => by
  have := List.all_eq_true.mp h i hi
  rw [e] at this
  cases this
/-- behind a turn: the outer names hold again what they held -/
theorem ER.backed (E : ER K σ ρ F H) (E2 : ER K σ2 ρ2 F2 H2) (ho : noOwn ρ vs = true) (hl : ρ2.length = ρ.length) (hs : ∀ k : Nat, k ∉ vs → σ2[k]? = σ[k]?) (ef : Ex F F2) : ER K σ (backE ρ ρ2 vs) F2 H2 ∧ ∀ a, Owns σ (backE ρ ρ2 vs) a → Owns σ2 ρ2 a := by
  have ow : ∀ {i : Nat} {m : M} {o : Ow}, (backE ρ ρ2 vs)[i]? = some (.own m o) → i ∉ vs ∧ ρ2[i]? = some (.own m o) := fun {i m o} e => by
    have hi : i ∉ vs := fun z => by
      rw [backE_in hl z] at e
      exact noOwn_at ho z e
    exact ⟨hi, (backE_out hi).symm.trans e⟩
  refine ⟨⟨E2.sub, by rw [backE_len, hl, E.len], fun i d e => ?_, fun i m o e => ?_, fun i j m m' o o' a e1 e2 s1 s2 => ?_⟩, fun a ⟨i, m, o, h1, h2⟩ => ?_⟩
  · by_cases z : i ∈ vs
    · rw [backE_in hl z] at e
      obtain ⟨v, h1, h2⟩ := E.val i d e
      exact ⟨v, h1, h2.mono ef⟩
    · rw [backE_out z] at e
      rw [← hs i z]
      exact E2.val i d e
  · obtain ⟨h1, h2⟩ := ow e
    rw [← hs i h1]
    exact E2.own i m o h2
  · obtain ⟨h1, h2⟩ := ow e1
    obtain ⟨g1, g2⟩ := ow e2
    rw [← hs i h1] at s1
    rw [← hs j g1] at s2
    exact E2.dis i j m m' o o' a h2 g2 s1 s2
  · obtain ⟨g1, g2⟩ := ow h1
    exact ⟨i, m, o, g2, by rw [hs i g1]; exact h2⟩
def off (H : Hp) (p : Addr) : Hp := fun a => if a = p then none else H a
theorem off_ne {a p : Addr} (h : a ≠ p) : off H p a = H a := if_neg h
theorem off_same {p : Addr} : off H p p = none := if_pos rfl
theorem upd_off {p : Addr} {o : HO} : upd (off H p) p o = upd H p o := by
  funext a
  by_cases z : a = p
  · rw [z, upd_same, upd_same]
  · rw [upd_ne z, upd_ne z, off_ne z]
theorem upd_self {p : Addr} {o : HO} (h : H p = some o) : upd H p o = H := by
  funext a
  by_cases z : a = p
  · rw [z, upd_same, h]
  · rw [upd_ne z]
theorem ER.off {p : Addr} (E : ER K σ ρ F H) (hF : F p = none) (n : ¬ Owns σ ρ p) : ER K σ ρ F (off H p) where
  sub := fun a o h => by
    rw [off_ne fun z => by rw [z, hF] at h; cases h]
    exact E.sub a o h
  len := E.len
  val := E.val
  own := fun i m o h => by
    obtain ⟨a, ho, h1, h2, h3, h4⟩ := E.own i m o h
    exact ⟨a, ho, h1, h2, by rw [off_ne (fun z => by rw [z] at h1; exact n ⟨i, m, o, h, h1⟩)]; exact h3, h4⟩
  dis := E.dis
end

/-- between two turns: Z the heap without the new list -/
def LcSt (K : PySem.W.Frag) (σ : L2.St) (ρL : En) (F1 H1 : Hp) (Dd : Addr) (vs : List Nat) (k : List D → EM (List D)) (y : Except Exc (List D) × En) (H' : Hp) : Prop :=
  ∃ Z ρ' F' accV acc, H' = upd Z Dd (.lst accV) ∧ Z Dd = none ∧ ER K σ ρ' F' Z ∧ Fm σ ρL F1 H1 σ ρ' F' Z ∧ RepL K F' accV acc ∧ noOwn ρ' vs = true ∧ k acc ρ' = some y
section
variable {X : Cx} {ex : Str → Addr} {pos : Pos} {c : EM Bool} {elt : EM R} {σ : L2.St} {ρL : En} {F1 H1 : Hp} {Dd : Addr} {vs js : List Nat} {k : List D → EM (List D)} {y : Except Exc (List D) × En}
abbrev WF : WX := fun _ _ _ _ => False
/-- one turn of a comprehension -/
theorem lc_turn {g : TG} {tm : D → En → Option En} (to : TgOk X.K js g tm) (hj : ∀ j ∈ js, j ∈ vs) (hD : H1 Dd = none) {Z : Hp} {ρ' : En} {F' : Hp} {accV : List V} {acc : List D} {H2 : Hp} {x : V} {d : D} (hZ : Z Dd = none) (E : ER X.K σ ρ' F' Z)
    (m : Fm σ ρL F1 H1 σ ρ' F' Z) (ra : RepL X.K F' accV acc) (no : noOwn ρ' vs = true) (e : ((tm d (wipeE ρ' vs)).bind fun ρ1 => (lcTurn c elt ρ1).bind (lcOut k acc ρ' vs)) = some y) (hH : H2 Dd = some (.lst accV))
    (alt : ∃ F2, ER X.K σ ρ' F2 H2 ∧ Fm σ ρ' F' (upd Z Dd (.lst accV)) σ ρ' F2 H2 ∧ F2 Dd = none ∧ Rep X.K F2 x d) (Nx : Hp → Prop) (hN : ∀ H', LcSt X.K σ ρL F1 H1 Dd vs k y H' → Nx H') :
    g x (wipe σ vs) H2 fun σ2 H2 => wipe σ2 vs = wipe σ vs ∧ (DT ⟨X.K, ex⟩ WF c) σ2 H2 fun b H3 =>
      if b = true then (DE ⟨X.K, ex⟩ WF elt) σ2 H3 fun y H4 => ∃ acc, H4 Dd = some (.lst acc) ∧ acc.length < sizeLine ∧ Nx (upd H4 Dd (.lst (acc ++ [y]))) else Nx H3 := by
  obtain ⟨F2, E2, m2, hF2, rx⟩ := alt
  have nD : ¬ Owns σ ρ' Dd := not_owns_new E hZ
  cases ht : tm d (wipeE ρ' vs) with
  | none =>
    rw [ht] at e
    cases e
  | some ρ1 =>
    rw [ht] at e
    have e : (lcTurn c elt ρ1).bind (lcOut k acc ρ' vs) = some y := e
    have EW := E2.wiped vs
    refine to.ok (wipe σ vs) (wipeE ρ' vs) F2 H2 x d ρ1 _ EW rx ht fun σ2 E3 m3 n1 n2 => ?_
    have out : ∀ i : Nat, i ∉ vs → σ2[i]? = σ[i]? := fun i hi => by rw [n1 i fun z => hi (hj i z), wipe_outV hi]
    have outE : ∀ i : Nat, i ∉ vs → ρ1[i]? = ρ'[i]? := fun i hi => by rw [n2 i fun z => hi (hj i z), wipeE_out hi]
    have len1 : ρ1.length = ρ'.length := by rw [m3.len, wipeE_len]
    have len2 : σ2.length = σ.length := by rw [E3.len, len1, E.len]
    refine ⟨wipe_ext len2 out, ?_⟩
    -- what is not owned outside is not owned within
    have ow1 : ∀ a o, H2 a = some o → ¬ Owns σ ρ' a → ¬ Owns σ2 ρ1 a := fun a o h n => by
      refine (m3.keep a o h fun ⟨i, mm, w, h1, h2⟩ => n ?_).2.2
      have hi : i ∉ vs := fun z => by
        have := wipeE_in z h1
        cases this
      rw [wipeE_out hi] at h1
      rw [wipe_outV hi] at h2
      exact ⟨i, mm, w, h1, h2⟩
    have nD1 := ow1 Dd _ hH nD
    -- an end of the turn
    have fin : ∀ {ρ2 : En} {F4 H4 : Hp} {accV' : List V} {acc' : List D}, ER X.K σ2 ρ2 F4 H4 → Fm σ2 ρ1 F2 H2 σ2 ρ2 F4 H4 → RepL X.K F4 accV' acc' → k acc' (backE ρ' ρ2 vs) = some y → LcSt X.K σ ρL F1 H1 Dd vs k y (upd H4 Dd (.lst accV')) := by
      intro ρ2 F4 H4 accV' acc' E4 m4 r4 e4
      have l4 : ρ2.length = ρ'.length := m4.len.trans len1
      have ef : Ex F' F4 := (m2.ex (E.newfr hZ)).trans (m4.ex E3)
      obtain ⟨EB, owB⟩ := E2.backed E4 no l4 out (m4.ex E3)
      obtain ⟨kD1, kD2, kD3⟩ := m4.keep Dd _ hH nD1
      have F4D : F4 Dd = none := kD2.trans hF2
      have nDB : ¬ Owns σ (backE ρ' ρ2 vs) Dd := fun z => kD3 (owB Dd z)
      have noB : noOwn (backE ρ' ρ2 vs) vs = true := by
        refine List.all_eq_true.mpr fun i hi => ?_
        rw [backE_in l4 hi]
        exact List.all_eq_true.mp no i hi
      refine ⟨off H4 Dd, backE ρ' ρ2 vs, F4, accV', acc', upd_off.symm, off_same, EB.off F4D nDB, ⟨?_, fun a h => ?_, fun a o h n => ?_, fun i mm o h n => ?_, fun i mm a h h2 => ?_⟩, r4, noB, e4⟩
      · rw [backE_len, l4, m.len]
      · have ha : a ≠ Dd := fun z => h (z ▸ hD)
        rw [off_ne ha]
        refine m4.dom a (m2.dom a ?_)
        rw [upd_ne ha]
        exact m.dom a h
      · have ha : a ≠ Dd := ne_of_none h hD
        obtain ⟨k1, k2, k3⟩ := m.keep a o h n
        obtain ⟨q1, q2, q3⟩ := m2.keep a o (by rw [upd_ne ha]; exact k1) k3
        obtain ⟨z1, z2, z3⟩ := m4.keep a o q1 (ow1 a o q1 q3)
        exact ⟨by rw [off_ne ha]; exact z1, z2.trans (q2.trans k2), fun z => z3 (owB a z)⟩
      · obtain ⟨⟨m', g1, g2⟩, g3⟩ := m.pin i mm o h n
        have hi : i ∉ vs := fun z => noOwn_at no z g1
        obtain ⟨⟨m'', q1, q2⟩, _⟩ := m4.pin i m' o (by rw [outE i hi]; exact g1) n
        exact ⟨⟨m'', by rw [backE_out hi]; exact q1, fun z => (q2 z).trans (g2 z)⟩, rfl⟩
      · obtain ⟨⟨m', g1, g2⟩, g3⟩ := m.pin i mm .lck h (by decide)
        have hi : i ∉ vs := fun z => noOwn_at no z g1
        have hl := m.lck i mm a h h2
        have hne : a ≠ Dd := fun z => nD ⟨i, m', .lck, g1, by rw [← z]; exact h2⟩
        have e2 := m2.lck i m' a g1 h2
        have e4 := m4.lck i m' a (by rw [outE i hi]; exact g1) (by rw [out i hi]; exact h2)
        rw [off_ne hne, e4, e2, upd_ne hne, hl]
    unfold lcTurn at e
    cases hz : EM.bind c (fun k => if k = true then EM.bind elt fun r => EM.bind (fz r) fun d => EM.pure (some d) else EM.pure none) ρ1 with
    | none =>
      rw [hz] at e
      cases e
    | some z =>
      rw [hz] at e
      have e : lcOut k acc ρ' vs z = some y := e
      have noerr : ErrOk ⟨X.K, ex⟩ WF σ2 ρ1 F2 H2 z := fun er ρ' q => by
        subst q
        cases e
      refine (splitT E3 (Fm.refl _ _ _ _) hz noerr).mono fun b H3 ⟨ρ3, F3, E4, m4, e4⟩ => ?_
      cases b with
      | false =>
        cases e4
        have e : k acc (backE ρ' ρ3 vs) = some y := e
        have kD := m4.keep Dd _ hH nD1
        have ef : Ex F' F3 := (m2.ex (E.newfr hZ)).trans (m4.ex E3)
        have := fin E4 m4 (ra.mono ef) e
        rw [upd_self kD.1] at this
        exact hN _ this
      | true =>
        show DE ⟨X.K, ex⟩ WF elt σ2 H3 _
        refine (split E4 m4 e4 noerr).mono fun v H4 ⟨r, ρ4, F4, E5, m5, _, rr, e5⟩ => ?_
        obtain ⟨d', ρ5, F5, Zf, e6⟩ := one_in E5 m5 (rr.back m4.dom) e5
        cases e6
        have e : (if acc.length < sizeLine then k (acc ++ [d']) (backE ρ' ρ5 vs) else none) = some y := e
        have kD := m5.keep Dd _ hH nD1
        have ef : Ex F' F5 := (m2.ex (E.newfr hZ)).trans (Zf.fm.ex E3)
        split at e
        · rename_i hlt
          exact ⟨accV, kD.1, by rw [ra.length]; exact hlt, hN _ (fin Zf.er Zf.fm ((ra.mono ef).append (.one Zf.rep)) e)⟩
        · cases e
variable {W : WX} {tg iter eltE : Expr} {ifs : List Expr} {scope : Scope} {own : List (Str × Nat)}
theorem lc_in {wi : TI} {src : EM Src} {g : TG} {tm : D → En → Option En} {Q : VK} {σ : L2.St} {H : Hp} (si : SrcIn ⟨X.K, ex⟩ W wi src) (to : TgOk X.K js g tm) (hj : ∀ j ∈ js, j ∈ vs) (h : DE ⟨X.K, ex⟩ W (eLc src tm c elt vs) σ H Q) :
    tLc wi g (DT ⟨X.K, ex⟩ WF c) (DE ⟨X.K, ex⟩ WF elt) vs σ H Q := by
  obtain ⟨ρ, F, y, E, e, hr⟩ := h
  refine si σ ρ F H _ _ y _ E e hr.err fun s ρ1 F1 H1 J S E1 m1 e1 fd st => ?_
  intro Dd hD
  by_cases hno : noOwn ρ1 vs = true
  · rw [if_pos hno] at e1
    cases hrun : runLc tm c elt vs s.1 [] (lockE ρ1 s.2) with
    | none =>
      rw [hrun] at e1
      cases e1
    | some y' =>
      rw [hrun] at e1
      have e1 : lcEnd ρ1 s.2 y' = some y := e1
      have EL := E1.same (lock_same s.2 ρ1)
      have noL : noOwn (lockE ρ1 s.2) vs = true := by
        refine List.all_eq_true.mpr fun i hi => ?_
        have h1 := List.all_eq_true.mp hno i hi
        rcases (lock_same s.2 ρ1).2 i with q | ⟨mm, o, o', q1, q2⟩
        · rw [q]
          exact h1
        · rw [q1] at h1
          cases h1
      refine ⟨fun i m H' => m = s.1.length - i ∧ i ≤ s.1.length ∧ LcSt X.K σ (lockE ρ1 s.2) F1 H1 Dd vs (fun acc => runLc tm c elt vs (s.1.drop i) acc) y' H', ⟨_, rfl, Nat.zero_le _, H1, lockE ρ1 s.2, F1, [], [], rfl, hD, EL, Fm.refl _ _ _ _, .nil, noL, hrun⟩, ?_⟩
      rintro i m H' ⟨rfl, hi, Z, ρ', F', accV, acc, rfl, hZ, E', m', ra, no, er⟩
      have hS : S F' (upd Z Dd (.lst accV)) := st σ ρ' F' _ Z m' fun a ha => upd_ne fun z => ha (z ▸ hD)
      have EN := E'.newfr (o := .lst accV) hZ
      by_cases hlt : i < s.1.length
      · refine .inr ⟨fd.go i F' _ EN.sub hS hlt, fun H2 => LcSt X.K σ (lockE ρ1 s.2) F1 H1 Dd vs (fun acc => runLc tm c elt vs (s.1.drop (i + 1)) acc) y' H2, fun H2 h2 => ⟨_, by omega, rfl, hlt, h2⟩, fun x H2 yd => ?_⟩
        obtain ⟨d, hd, alt⟩ := fd.yld i F' _ x H2 EN.sub hS hlt yd
        have er : runLc tm c elt vs (s.1.drop i) acc ρ' = some y' := er
        rw [drop_cons hd] at er
        rcases alt with ⟨rfl, r⟩ | ⟨p, us, es, rfl, np, rfl, rfl, r⟩
        · exact lc_turn to hj hD hZ E' m' ra no er upd_same ⟨F', EN, Fm.refl _ _ _ _, none_sub E' hZ, r⟩ _ fun H' h => h
        · have pD : Dd ≠ p := ne_of_none upd_same np
          refine lc_turn to hj hD hZ E' m' ra no er (by rw [upd_ne pD]; exact upd_same) ⟨_, EN.newF np, Fm.newF EN np, ?_, .tup (st_of upd_same) (r.mono (Ex.new (none_sub EN np)))⟩ _ fun H' h => h
          rw [upd_ne pD]
          exact none_sub E' hZ
      · have : i = s.1.length := by omega
        subst this
        have er : runLc tm c elt vs (s.1.drop s.1.length) acc ρ' = some y' := er
        rw [List.drop_length] at er
        have er : some (Except.ok (ε := Exc) acc, ρ') = some y' := er
        cases er
        have e1 : some (Except.ok (ε := Exc) (R.fr (.lst acc)), freeE ρ1 ρ' s.2) = some y := e1
        cases e1
        refine .inl ⟨fd.stop F' _ EN.sub hS, ?_⟩
        exact fin_new hr (E'.same (free_same s.2 ρ1 ρ')) (m1.trans m'.free) (.lst ra) hZ
  · rw [if_neg hno] at e1
    cases e1
theorem l_lc {wi : TI} {src : EM Src} {g : TG} {tm : D → En → Option En} (hc : X.calm = true) (hN : X.N.Nodup) (hi : PI X tg iter wi) (si : SrcIn ⟨X.K, ex⟩ W wi src) (ok : BlkOk X.N X.env.scope scope own) (to : TgOk X.K js g tm) (hj : ∀ j ∈ js, j ∈ own.map (·.2))
    (hg : ∀ (s : Shared) (H : Hp) (C : Addr) (cl : List (Str × Addr)) (fp : List Addr), PG (X.blk s H scope (compEnvC scope cl C X.env) fp) tg g) (ht : ∀ (s : Shared) (H : Hp) (C : Addr) (cl : List (Str × Addr)) (fp : List Addr), PTs (X.blk s H scope (compEnvC scope cl C X.env) fp) ifs (DT ⟨X.K, ex⟩ WF c))
    (he : ∀ (s : Shared) (H : Hp) (C : Addr) (cl : List (Str × Addr)) (fp : List Addr), PE (X.blk s H scope (compEnvC scope cl C X.env) fp) eltE (DE ⟨X.K, ex⟩ WF elt)) (hs : ∀ x, foldedSetIterable iter X.env x = pure x := by intro _; rfl) :
    PE X (.ListComp eltE [⟨tg, iter, ifs, 0⟩] scope pos) (DE ⟨X.K, ex⟩ W (eLc src tm c elt (own.map (·.2)))) := impE (pe_lc hc hN hi ok hg ht he hs) fun σ H Q h => lc_in si to hj h
theorem l_setLc {wi : TI} {src : EM Src} {g : TG} {tm : D → En → Option En} {i : Nat} {x : Str} {py spos : Pos} (hc : X.calm = true) (hN : X.N.Nodup) (hx : X.N[i]? = some x) (hxl : X.env.scope.names.lookup x = some .local)
    (hsw : swapsWith (.ListComp eltE [⟨tg, iter, ifs, 0⟩] scope pos) (some (.Name x py)) spos.line X.env = pure true) (hi : PI X tg iter wi) (si : SrcIn ⟨X.K, ex⟩ W wi src) (ok : BlkOk X.N X.env.scope scope own) (to : TgOk X.K js g tm) (hj : ∀ j ∈ js, j ∈ own.map (·.2))
    (hg : ∀ (s : Shared) (H : Hp) (C : Addr) (cl : List (Str × Addr)) (fp : List Addr), PG (X.blk s H scope (compEnvC scope cl C X.env) fp) tg g) (ht : ∀ (s : Shared) (H : Hp) (C : Addr) (cl : List (Str × Addr)) (fp : List Addr), PTs (X.blk s H scope (compEnvC scope cl C X.env) fp) ifs (DT ⟨X.K, ex⟩ WF c))
    (he : ∀ (s : Shared) (H : Hp) (C : Addr) (cl : List (Str × Addr)) (fp : List Addr), PE (X.blk s H scope (compEnvC scope cl C X.env) fp) eltE (DE ⟨X.K, ex⟩ WF elt)) (hs : ∀ x, foldedSetIterable iter X.env x = pure x := by intro _; rfl) :
    PS X (.Assign [.Name x py] (.ListComp eltE [⟨tg, iter, ifs, 0⟩] scope pos) spos) (DS ⟨X.K, ex⟩ W (sSet i (eLc src tm c elt (own.map (·.2))))) :=
  impS (ps_setLc hc hN hx hxl hsw hi ok hg ht he hs) fun Q σ H h => by
    obtain ⟨ρ, F, y, E, e, hr⟩ := h
    refine lc_in si to hj ((split E (Fm.refl σ ρ F H) e hr.err).mono fun v H1 ⟨r1, ρ1, F1, E1, m1, _, rr1, e1⟩ => ?_)
    cases hs : stor i r1 ρ1 with
    | none =>
      rw [bind_none hs] at e1
      cases e1
    | some z =>
      obtain ⟨ρ2, F2, rfl, h1, h2⟩ := stor_ok E1 m1 rr1 hs
      rw [bind_ok hs] at e1
      cases e1
      exact hr _ F2 H1 h1 h2
theorem l_yes {X' : Cx} : PTs X' [] (DT ⟨X'.K, ex⟩ WF tYesM) := ⟨fun pins s σ H Q I h => pts_nil.run pins s σ H Q I (by
  obtain ⟨ρ, F, y, E, e, hr⟩ := h
  cases e
  exact hr F H E (Fm.refl σ ρ F H))⟩
end
end LF
end

-- part LFRulesB
section
set_option Elab.async false
set_option linter.all false
set_option maxRecDepth 100000
set_option maxHeartbeats 2000000
namespace LF
open PySem PySem.Spec PyProof.Rows L2

/-! ### try .. except X: .. except Y: .. -/
abbrev Hd := Str × EM Out
/-- isa: which class is named by which clause -/
def handle (isa : Str → Str → Bool) (e : Exc) : List Hd → EM Out
  | [] => EM.raise e
  | (c, g) :: hs => if isa e.cls c = true then (fun ρ => (g ρ).bind fun y => match y with
    | (.error _, _) => none
    | (.ok o, ρ') => some (.ok o, ρ')) else handle isa e hs
def tryOut (cl : List Str) (isa : Str → Str → Bool) (hs : List Hd) : Except Exc Out × En → Option (Except Exc Out × En)
  | (.error e, ρ) => if cl.contains e.cls = true then handle isa e hs ρ else none
  | y => some y
def sTry (cl : List Str) (isa : Str → Str → Bool) (f : EM Out) (hs : List Hd) : EM Out := fun ρ => (f ρ).bind (tryOut cl isa hs)
/-- the clauses as HandS wants them -/
def hdL (C : Ctx) (vals : Str → Value) : List Hd → List (Value × (Addr → Value → Option Addr → TS))
  | [] => []
  | (c, g) :: hs => (vals c, fun _ _ _ => DS C WF g) :: hdL C vals hs
section
variable {X : Cx} {ex : Str → Addr} {W : WX} {pos : Pos} {body : List Stmt} {h₀ : ExceptHandler} {hds : List ExceptHandler} {f : EM Out} {hs : List Hd} {cl : List Str} {isa : Str → Str → Bool} {vals : Str → Value}
theorem many_in {D : Ends} {cls : Value} {d : Option Addr} {σ : L2.St} {ρ : En} {F H : Hp} {e : Exc} {x : Except Exc Out × En} (he : e.cls ∈ cl) (hx : ExcIs ⟨X.K, ex⟩ cls d H e) (E : ER X.K σ ρ F H) (hr : ResS ⟨X.K, ex⟩ W σ ρ F H x D) :
    ∀ {hs : List Hd}, (∀ p ∈ hs, ∀ y ∈ cl, PySem.W.exmOne X.K (.ref (ex y)) (vals p.1) = some (isa y p.1)) → handle isa e hs ρ = some x → wMany X.K W D (hdL ⟨X.K, ex⟩ vals hs) cls d σ H
  | [], _, h => by
    have h : some (Except.error e, ρ) = some x := h
    cases h
    exact hr cls d σ F H E (Fm.refl _ _ _ _) hx
  | (c, g) :: hs, hm, h => by
    have hc : cls = .ref (ex e.cls) := hx.1
    refine ⟨isa e.cls c, by rw [hc]; exact hm (c, g) List.mem_cons_self e.cls he, fun b a na => ?_, fun b => ?_⟩
    · have h : (if isa e.cls c = true then (fun ρ => (g ρ).bind fun y => match y with
        | (.error _, _) => none
        | (.ok o, ρ') => some (Except.ok (ε := Exc) o, ρ')) else handle isa e hs) ρ = some x := h
      rw [if_pos b] at h
      cases hg : g ρ with
      | none =>
        rw [hg] at h
        cases h
      | some y =>
        rw [hg] at h
        rcases y with ⟨y | o, ρ'⟩
        · cases h
        · cases h
          refine ⟨ρ, F, _, E, hg, fun σ' F' H' E' m' => ?_⟩
          exact hr σ' F' H' E' m'
    · have h : (if isa e.cls c = true then (fun ρ => (g ρ).bind fun y => match y with
        | (.error _, _) => none
        | (.ok o, ρ') => some (Except.ok (ε := Exc) o, ρ')) else handle isa e hs) ρ = some x := h
      rw [if_neg (by rw [b]; exact Bool.false_ne_true)] at h
      exact many_in he hx E hr (fun p hp => hm p (List.mem_cons_of_mem _ hp)) h
theorem l_try (hst : X.stack = X.env :: X.outer) (hf : X.env.frame = some X.env.locals) (tk : Takes X W) (hm : ∀ p ∈ hs, ∀ y ∈ cl, PySem.W.exmOne X.K (.ref (ex y)) (vals p.1) = some (isa y p.1))
    (hb : ∀ (W : WX) (pn : List (Addr × Obj)) (xe : Value → Shared → Prop), Takes (X.tr pn xe) W → PassesOwn (model X.prog X.w) X.A X.env xe → PSs (X.tr pn xe) body (DS ⟨X.K, ex⟩ W f))
    (hh : HdsOk X (h₀ :: hds) (hdL ⟨X.K, ex⟩ vals hs)) : PS X (.Try body (h₀ :: hds) [] [] pos) (DS ⟨X.K, ex⟩ W (sTry cl isa f hs)) :=
  impS (ps_try_many (tb := fun W => DS ⟨X.K, ex⟩ W f) hst hf tk hb hh) fun D σ H h => by
    obtain ⟨ρ, F, y, E, e, hr⟩ := h
    unfold sTry at e
    show DS ⟨X.K, ex⟩ (wMany X.K W D (hdL ⟨X.K, ex⟩ vals hs)) f D σ H
    cases hf : f ρ with
    | none =>
      rw [hf] at e
      cases e
    | some z =>
      rw [hf] at e
      have e : tryOut cl isa hs z = some y := e
      refine ⟨ρ, F, z, E, hf, ?_⟩
      rcases z with ⟨z | o, ρ'⟩
      · have e : (if cl.contains z.cls = true then handle isa z hs ρ' else none) = some y := e
        split at e
        · rename_i hcl
          have hcl : z.cls ∈ cl := by simpa using hcl
          exact fun cls d σ' F' H' E' m' q => many_in hcl q E' (hr.base m') hm e
        · cases e
      · cases e
        exact hr
theorem hd_nil : HdsOk X [] (hdL ⟨X.K, ex⟩ vals []) := .nil
theorem hd_cons {x : Str} {b₀ : Stmt} {suite : List Stmt} {np pos' : Pos} {hds : List ExceptHandler} {g : EM Out} {hs : List Hd} (hc : Names X x (vals x)) (hsu : ∀ (a : Addr) (oe : Obj) (pn : List (Addr × Obj)), PSs (X.suite a ((a, oe) :: pn)) (b₀ :: suite) (DS ⟨X.K, ex⟩ WF g)) (r : HdsOk X hds (hdL ⟨X.K, ex⟩ vals hs)) :
    HdsOk X (.ExceptHandler (some (.Name x np)) none (b₀ :: suite) pos' :: hds) (hdL ⟨X.K, ex⟩ vals ((x, g) :: hs)) := .cons hc (fun a oe cls d pn _ _ => hsu a oe pn) r
end
end LF
end

-- part LFRulesC
section
set_option Elab.async false
set_option linter.all false
set_option maxRecDepth 100000
set_option maxHeartbeats 2000000
namespace LF
open PySem PySem.Spec PyProof.Rows L2

/-! ### defs of the module -/
/-- the def st stands at the module's name x, with the parameters ps -/
def DefAt (K : PySem.W.Frag) (mg : Str → Option Value) (x : Str) (st : Stmt) (ps : List Str) : Prop := ∃ f fd, FunD K x x (defArgs st) (defBody st) (defScope st) [] [] f fd ∧ mg x = some (.ref f) ∧ Binds K fd ps []
/-- .. and does what F tells -/
def Ok (P : Program) (w : World) (K : PySem.W.Frag) (mg : Str → Option Value) (base : Heap) (ex : Str → Addr) (k : Nat) (x : Str) (ps : List Str) (F : EM R) : Prop :=
  ∃ f fd, mg x = some (.ref f) ∧ PySem.W.keepIn K (.ref f) = true ∧ Binds K fd ps [] ∧ FnOk P w K mg base (L2.CX P w) k f fd ps (spD ⟨K, ex⟩ F)
section
variable {P : Program} {w : World} {K : PySem.W.Frag} {mg : Str → Option Value} {base : Heap} {ex : Str → Addr} {k : Nat} {x : Str} {st : Stmt} {N ps : List Str} {b : EM Out}
theorem fn_mk {f : Addr} {fd : FuncData} (F : FunD K x x (defArgs st) (defBody st) (defScope st) [] [] f fd) (S : FnScope N ps (defScope st)) (hn : ps.length ≤ N.length)
    (h : ∀ (fA : Addr) (cdv : Value) (A : Around) (outer : List Env) (s : Shared) (H : Hp) (E : XK), Room k (cxOf (L2.CX P w) P w K mg base N x (defScope st) fA cdv A outer s H E).A → PSs (cxOf (L2.CX P w) P w K mg base N x (defScope st) fA cdv A outer s H E) (defBody st) (DS ⟨K, ex⟩ (fun cls d _ H => E cls d H) b)) :
    FnOk P w K mg base (L2.CX P w) (k + 1) f fd ps (spD ⟨K, ex⟩ (defF ps.length N.length b)) := by
  refine F.ok S (fun vs H Q E q => ?_) fun cdv A outer s H vs Q E hr q => ⟨_, h f cdv A outer s H E hr, def_end hn q⟩
  obtain ⟨args, F', y, E', e, _⟩ := q
  have h1 := E'.len
  rw [List.length_map] at h1
  unfold defF at e
  split at e
  · rename_i h2
    omega
  · cases e
theorem ok_mk (D : DefAt K mg x st ps) (S : FnScope N ps (defScope st)) (hn : ps.length ≤ N.length)
    (h : ∀ (fA : Addr) (cdv : Value) (A : Around) (outer : List Env) (s : Shared) (H : Hp) (E : XK), Room k (cxOf (L2.CX P w) P w K mg base N x (defScope st) fA cdv A outer s H E).A → PSs (cxOf (L2.CX P w) P w K mg base N x (defScope st) fA cdv A outer s H E) (defBody st) (DS ⟨K, ex⟩ (fun cls d _ H => E cls d H) b)) :
    Ok P w K mg base ex (k + 1) x ps (defF ps.length N.length b) := by
  obtain ⟨f, fd, F, hm, hb⟩ := D
  exact ⟨f, fd, hm, F.kp, hb, fn_mk F S hn h⟩
theorem ok_none (D : DefAt K mg x st ps) (k : Nat) : Ok P w K mg base ex k x ps (fun _ => none) := by
  obtain ⟨f, fd, F, hm, hb⟩ := D
  refine ⟨f, fd, hm, F.kp, hb, ⟨fun vs H Q E q => ?_, fun A outer s H args us vs Q E hr he hbn hv q => ?_⟩⟩
  · obtain ⟨args, F', y, E', e, _⟩ := q
    cases e
  · obtain ⟨args, F', y, E', e, _⟩ := q
    cases e
end
section
variable {X : Cx} {ex : Str → Addr} {W : WX} {pos : Pos} {f : EM R} {k : Nat} {fA : Addr} {fd : FuncData} {x : Str} {p : Pos}
/-- f() -/
theorem l_call0 (G : FnOk X.prog X.w X.K X.mg X.base (L2.CX X.prog X.w) k fA fd [] (spD ⟨X.K, ex⟩ f)) (hr : Room k X.A) (hm : X.mg x = some (.ref fA)) (hk : PySem.W.keepIn X.K (.ref fA) = true) (hb : Binds X.K fd [] []) (tk : Takes X W) (hg : Gl X x := by rfl) (hdb : (x == ("__debug__" : Str)) = false := by decide) :
    PE X (.Call (.Name x p) [] [] pos) (DE ⟨X.K, ex⟩ W (eCall f aNil)) := by
  refine ⟨fun pins s σ H Q I h => ?_⟩
  refine wpAny_Call_Name_kw (ld_glob I hg hm ?_ hdb)
  refine PySem.W.callWith_K0 I.kIn hk (run_fnS (us := []) (vs := []) (E := WE W) G hr hb (passAt tk σ) I .nil ?_)
  have := call_in h
  obtain ⟨ρ, F, y, E, e, hr⟩ := this
  cases e
  exact hr [] F H E (Fm.refl _ _ _ _) .nil
end
/-! ### what the module's top tells besides -/
structure XFacts (K : PySem.W.Frag) (mg : Str → Option Value) (x : Str) (C : Addr) : Prop where
  exc : PySem.W.excIn K C [.type "ValueError", .type "Exception", .type "BaseException", .type "object"] "ValueError.__new__" = true
  glo : mg x = some (.ref C)
  keep : PySem.W.keepIn K (.ref C) = true
  sub : PySem.W.subIn K (.ref C) (.type "BaseException") = some true
  ty : PySem.W.typeIn K (.ref C) = some (.type "type")
theorem XFacts.raises {K : PySem.W.Frag} {mg : Str → Option Value} {x : Str} {C : Addr} (h : XFacts K mg x C) {X : Cx} (hK : X.K = K) : Raises X (.ref C) := by
  subst hK
  exact raises_own h.sub h.ty
theorem lt_2 (K : PySem.W.Frag) : Op2 K (fun x y H Q => rI0 (fun i j => .bl (decide (i < j))) x y H Q ∨ ∃ i j, x = .str i ∧ y = .str j ∧ Q (.bl (decide (i.cps.toList < j.cps.toList))) H) gLt := ord_2 K
theorem le_2 (K : PySem.W.Frag) : Op2 K (fun x y H Q => rI0 (fun i j => .bl (decide (i ≤ j))) x y H Q ∨ ∃ i j, x = .str i ∧ y = .str j ∧ Q (.bl (!decide (j.cps.toList < i.cps.toList))) H) gLe := ord_2 K
theorem gt_2 (K : PySem.W.Frag) : Op2 K (fun x y H Q => rI0 (fun i j => .bl (decide (j < i))) x y H Q ∨ ∃ i j, x = .str i ∧ y = .str j ∧ Q (.bl (decide (j.cps.toList < i.cps.toList))) H) gGt := ord_2 K
theorem ge_2 (K : PySem.W.Frag) : Op2 K (fun x y H Q => rI0 (fun i j => .bl (decide (j ≤ i))) x y H Q ∨ ∃ i j, x = .str i ∧ y = .str j ∧ Q (.bl (!decide (i.cps.toList < j.cps.toList))) H) gGe := ord_2 K
end LF
namespace LF
open PySem PySem.Spec PyProof.Rows L2
theorem fm_nil {φ : Hd → Prop} : ∀ p ∈ ([] : List Hd), φ p := fun _ h => by simp at h
theorem fm_cons {K : PySem.W.Frag} {ex : Str → Addr} {vals : Str → Value} {isa : Str → Str → Bool} {cl : List Str} {c : Str} {g : EM Out} {hs : List Hd} (h : ∀ y ∈ cl, PySem.W.exmOne K (.ref (ex y)) (vals c) = some (isa y c))
    (r : ∀ p ∈ hs, ∀ y ∈ cl, PySem.W.exmOne K (.ref (ex y)) (vals p.1) = some (isa y p.1)) : ∀ p ∈ (c, g) :: hs, ∀ y ∈ cl, PySem.W.exmOne K (.ref (ex y)) (vals p.1) = some (isa y p.1) := fun p hp => by
  rcases List.mem_cons.mp hp with e | hp
  · subst e
    exact h
  · exact r p hp
/-! ### the law's end -/
def CXa (P : Program) : CXT := fun outer H s E u s' => ∃ w, L2.CX P w outer H s E u s'
theorem fn_cxa {P : Program} {w : World} {K : PySem.W.Frag} {mg : Str → Option Value} {base : Heap} {k : Nat} {f : Addr} {fd : FuncData} {ps : List Str} {sp : Sp} (F : FnOk P w K mg base (L2.CX P w) k f fd ps sp) : FnOk P w K mg base (CXa P) k f fd ps sp :=
  ⟨F.len, fun A outer s H args us vs Q E hr he hb hv hs => codeAny_mono (F.run A outer s H args us vs Q E hr he hb hv hs) fun r s' h => by
    cases r with
    | error e => exact ⟨w, h⟩
    | ok v => cases v <;> exact h⟩
theorem cxa_end {P : Program} (H : Hp) (s : Shared) (e : Value) (s' : Shared) (h : CXa P [] H s (fun _ _ _ => False) e s') : False := by
  obtain ⟨w, a, B, H', cls, d, h⟩ := h
  exact h.2.2.2.2.2.2.2
/-- the script -/
def scr (ns : List Int) : D := .dict [(.none, .list (ns.map .int))]
theorem ints_repL {K : PySem.W.Frag} {F : Hp} : ∀ xs : List Int, RepL K F (xs.map V.int) (xs.map .int)
  | [] => .nil
  | x :: xs => .cons (.int x) (ints_repL xs)
theorem end_sp {K : PySem.W.Frag} {ex : Str → Addr} {f : EM R} {H : Hp} {a : Addr} {ns : List Int} (hS : SqL K H a (ns.map V.int)) (h : ∃ ρ, f [.val (scr ns)] = some (.ok (.val (.bool true)), ρ)) :
    spD ⟨K, ex⟩ f [.ref a] H (fun v _ => v = .bl true) fun _ _ _ => False := by
  obtain ⟨ρ, h⟩ := h
  refine ⟨[.val (scr ns)], H, _, ⟨Ex.refl H, rfl, fun i d e => ?_, fun i m o e => ?_, fun i j m m' o o' a e => ?_⟩, h, fun v F' H' _ _ r => rep_bl r⟩
  · match i, e with
    | 0, e =>
      cases e
      exact ⟨_, rfl, .ro hS (ints_repL ns)⟩
  · match i, e with
    | 0, e => cases e
  · match i, e with
    | 0, e => cases e
end LF
end

-- part LFSetT
section
set_option Elab.async false
set_option linter.all false
set_option maxRecDepth 100000
set_option maxHeartbeats 4000000
namespace LF
open PySem PySem.Spec PyProof.Rows L2

/-! ### sets of texts: what is in them -/
def keyT (e : Int × Value) : Str := match e.2 with | .str k _ => k | _ => ⟨#[]⟩
def GoodT (w : World) (e : Int × Value) : Prop := ∃ k tk, e.2 = Value.str k tk ∧ e.1 = hashStr w k
def SetT (w : World) (h : Heap) (a : Addr) (l : List Str) : Prop :=
  ∃ o es ep t, h.get? a = some o ∧ o.ExactSet ∧ o.data = .set es ep t ∧ (∀ e ∈ es.toList, GoodT w e) ∧ (es.toList.map keyT).Perm l ∧ l.Nodup ∧
    es.size < scanBound ∧ t.fits es.size = true ∧ Ris t.place.toList ∧ (w.params.followText "set-order" = true ∨ t.led = true)
def addL (l : List Str) (k : Str) : List Str := if k ∈ l then l else k :: l
section
variable {P : Program} {w : World} {h h' : Heap} {a : Addr} {l : List Str}
theorem SetT.at (R : SetT w h a l) (k : ∀ o, h.get? a = some o → h'.get? a = some o) : SetT w h' a l := by
  obtain ⟨o, es, ep, t, ho, r⟩ := R
  exact ⟨o, es, ep, t, k o ho, r⟩
theorem goodT_elems {l : List (Int × Value)} (g : ∀ e ∈ l, GoodT w e) : ElemsOf (PySem.strKind P w) l := fun e he => by
  obtain ⟨k, tk, h1, h2⟩ := g e he
  refine ⟨⟨k, ?_, h2⟩, ?_⟩
  · rw [h1]
    exact PySem.strKind_is _ _ _ _
  · rw [h1]
    rfl
theorem goodT_is {e : Int × Value} (g : GoodT w e) (k : Str) : (PySem.strKind P w).is k e.2 = true ↔ keyT e = k := by
  obtain ⟨k0, tk, h1, h2⟩ := g
  unfold keyT
  rw [h1]
  constructor
  · intro z
    exact ((PySem.strKind P w).inj _ _ _ z (PySem.strKind_is P w k0 tk)).symm
  · intro z
    subst z
    exact PySem.strKind_is _ _ _ _
theorem goodT_mem {l : List (Int × Value)} (g : ∀ e ∈ l, GoodT w e) (k : Str) : k ∈ l.map keyT ↔ ∃ e ∈ l, (PySem.strKind P w).is k e.2 = true := by
  rw [List.mem_map]
  exact ⟨fun ⟨e, he, q⟩ => ⟨e, he, (goodT_is (g e he) k).2 q⟩, fun ⟨e, he, q⟩ => ⟨e, he, (goodT_is (g e he) k).1 q⟩⟩
end

section
variable {P : Program} {w : World} {A : Around} {E : Value → Shared → Prop} {s : Shared} {a : Addr} {l : List Str}
theorem setT_add_tail {g : Bool → Sem Unit} (hg : ∀ (b : Bool) (s₁ : Shared) (Q' : Unit → Shared → Prop), Q' () s₁ → wpAny (model P w) A (g b) Q' E s₁)
    {o : Obj} {es : Array (Int × Value)} {ep : Nat} {t : SetTable} (ho : s.heap.get? a = some o) (hex : o.ExactSet) (hd : o.data = .set es ep t)
    {es1 : Array (Int × Value)} {t2 : SetTable} {l' : List Str} (g1 : ∀ e ∈ es1.toList, GoodT w e) (p1 : (es1.toList.map keyT).Perm l') (nd1 : l'.Nodup)
    (hb1 : es1.size < scanBound) (hf2 : t2.fits es1.size = true) (hr : Ris t2.place.toList) (hl : w.params.followText "set-order" = true ∨ t2.led = true) {wasDummy : Bool} {R : Option Bool → Shared → Prop}
    (hR : ∀ h', Heap.SameBut a s.heap h' → SetT w h' a l' → R (some true) { s with heap := h' }) :
    wpAny (model P w) A (do
        storeSet a es1 t2
        if (!wasDummy && t2.tooFull) = true then do
            g (relayAll t2 es1 (SetTable.grown es1.size)).2.2
            storeSet a (relayAll t2 es1 (SetTable.grown es1.size)).1 (relayAll t2 es1 (SetTable.grown es1.size)).2.1
            pure (some true)
          else pure (some true)) R E s := by
  refine wpAny_bind (wpAny_storeSet_of ho hd ?_ (fits_of_scanBound hb1))
  have ho1 := store_at (es' := es1) (t' := t2) ho hd
  have sb1 := Heap.SameBut.update s.heap a (Obj.putSet es1 t2)
  split
  · have pm := relayAll_perm t2 es1 (SetTable.grown es1.size)
    have hf3 := relayAll_fits t2 es1 (SetTable.grown es1.size)
    have hr3 := relayAll_ris t2 es1 (SetTable.grown es1.size)
    have hl3 := relayAll_led t2 es1 (SetTable.grown es1.size)
    generalize relayAll t2 es1 (SetTable.grown es1.size) = Z at pm hf3 hr3 hl3 ⊢
    obtain ⟨es2, t3, gave⟩ := Z
    dsimp only at pm hf3 hr3 hl3 ⊢
    have hsz : es2.size = es1.size := by rw [← Array.length_toList, pm.length_eq, Array.length_toList]
    have hb2 : es2.size < scanBound := by rw [hsz]; exact hb1
    refine wpAny_bind (hg _ _ _ ?_)
    refine wpAny_bind (wpAny_storeSet_of ho1 rfl ?_ (fits_of_scanBound hb2))
    have ho2 := store_at (es' := es2) (t' := t3) ho1 rfl
    refine wpAny_pure (hR _ (sb1.trans (Heap.SameBut.update _ a _)) ?_)
    exact ⟨_, es2, _, t3, ho2, hex, rfl, fun e he => g1 e (pm.mem_iff.mp he), (pm.map keyT).trans p1, nd1, hb2, hf3, hr3,
      hl.imp id fun z => by rw [hl3]; exact z⟩
  · exact wpAny_pure (hR _ sb1 ⟨_, es1, _, t2, ho1, hex, rfl, g1, p1, nd1, hb1, hf2, hr, hl⟩)

theorem setT_add_hashed {k : Str} {tk : Tok} {Q : Bool → Shared → Prop} (R : SetT w s.heap a l) (room : l.length + 1 < scanBound)
    (hQ : ∀ h' b, Heap.SameBut a s.heap h' → SetT w h' a (addL l k) → Q b { s with heap := h' }) :
    wpAny (model P w) A (setAddHashed a (.str k tk) ((PySem.strKind P w).hash k)) Q E s := by
  obtain ⟨o, es, ep, t, ho, hex, hd, g, pl, nd, hb, hf, hr, hl⟩ := R
  have hkey : (PySem.strKind P w).is k (.str k tk) = true := PySem.strKind_is P w k tk
  have hsc : (Value.str k tk).scannable = true := rfl
  have hel : ElemsOf (PySem.strKind P w) es.toList := goodT_elems g
  unfold setAddHashed setAddHashedIn
  refine wpAny_holding (wpAny_bind (wpAny_setState_of ho hd hf ?_))
  dsimp only
  rw [byScan_of hsc hb hel]
  simp only [↓reduceIte]
  unfold setAddByScan
  refine wpAny_bind ?_
  refine wpAny_bind (wpAny_rule ?_)
  refine wpAny_bind (wpAny_setScan_of hkey ho hd hf hel ?_)
  cases hfi : List.findIdx? (fun e => (PySem.strKind P w).is k e.2) es.toList with
  | some j =>
    dsimp only
    obtain ⟨hj, pj, _⟩ := List.findIdx?_eq_some_iff_getElem.mp hfi
    have hk : k ∈ l := pl.mem_iff.mp ((goodT_mem (P := P) (w := w) g k).2 ⟨es.toList[j], List.getElem_mem hj, pj⟩)
    refine wpAny_pure (wpAny_pure ?_)
    refine hQ s.heap _ (Heap.SameBut.refl a s.heap) ?_
    unfold addL
    rw [if_pos hk]
    exact ⟨o, es, ep, t, ho, hex, hd, g, pl, nd, hb, hf, hr, hl⟩
  | none =>
    dsimp only
    have hnk : k ∉ l := fun z => by
      obtain ⟨e, he, q⟩ := (goodT_mem (P := P) (w := w) g k).1 (pl.mem_iff.mpr z)
      have c := List.findIdx?_eq_none_iff.mp hfi e he
      rw [q] at c
      cases c
    have hgw : ∀ (b : Bool) {s₁ : Shared} {Q' : Unit → Shared → Prop}, Q' () s₁ → wpAny (model P w) A (match b with | true => rule "set.scan.the-table-gave-way" | false => pure ()) Q' E s₁ :=
      fun b s₁ Q' q => by cases b <;> first | exact wpAny_pure q | exact wpAny_rule q
    have pm := layNew_perm t es ((PySem.strKind P w).hash k) (.str k tk)
    have hf1 := layNew_fits t es ((PySem.strKind P w).hash k) (.str k tk)
    have hr1 := layNew_ris t es ((PySem.strKind P w).hash k) (.str k tk) hr
    have hl1 := layNew_led t es ((PySem.strKind P w).hash k) (.str k tk)
    generalize layNew t es ((PySem.strKind P w).hash k) (.str k tk) = Z at pm hf1 hr1 hl1 ⊢
    obtain ⟨es1, t1, wasDummy, gave⟩ := Z
    dsimp only at pm hf1 hr1 hl1 ⊢
    rw [Array.toList_push] at pm
    have pc : es1.toList.Perm (((PySem.strKind P w).hash k, Value.str k tk) :: es.toList) := pm.trans (List.perm_append_singleton _ _)
    have pk : (es1.toList.map keyT).Perm (k :: l) := (pc.map keyT).trans (List.Perm.cons k pl)
    have g1 : ∀ e ∈ es1.toList, GoodT w e := fun e he => by
      rcases List.mem_cons.mp (pc.mem_iff.mp he) with z | z
      · rw [z]; exact ⟨k, tk, rfl, rfl⟩
      · exact g e z
    have nd1 : (k :: l).Nodup := List.nodup_cons.mpr ⟨hnk, nd⟩
    have hsz : es1.size = l.length + 1 := by
      have q := pk.length_eq
      rw [List.length_map, Array.length_toList] at q
      exact q
    have hb1 : es1.size < scanBound := by rw [hsz]; exact room
    have hled : w.params.followText "set-order" = true ∨ t1.led = true := hl.imp id fun z => by rw [hl1]; exact z
    have fin : ∀ h', Heap.SameBut a s.heap h' → SetT w h' a (k :: l) → Q true { s with heap := h' } := fun h' sb r => by
      refine hQ h' _ sb ?_
      unfold addL
      rw [if_neg hnk]
      exact r
    refine wpAny_bind (hgw _ ?_)
    split
    · refine wpAny_bind ?_
      rw [hashByValue_scannable 8 hsc]
      refine wpAny_pure ?_
      refine setT_add_tail ?_ ho hex hd g1 pk nd1 hb1 ?_ ?_ ?_ ?_
      · intro b s₁ Q' q; cases b <;> first | exact wpAny_pure q | exact wpAny_rule q
      · first | (split <;> first | exact hf1 | exact SetTable.fits_plain_off hf1) | exact hf1
      · first | (split <;> exact hr1) | exact hr1
      · first | (split <;> exact hled) | exact hled
      · intro h' sb r; dsimp only; exact wpAny_pure (fin h' sb r)
    · refine wpAny_bind (wpAny_pure ?_)
      simp only [↓reduceIte]
      refine setT_add_tail ?_ ho hex hd g1 pk nd1 hb1 hf1 hr1 hled ?_
      · intro b s₁ Q' q; cases b <;> first | exact wpAny_pure q | exact wpAny_rule q
      · intro h' sb r; dsimp only; exact wpAny_pure (fin h' sb r)
end

/-! ### the loop of set(..) -/
section
variable {prog : Program} {w : World} {A : Around} {R : Result → Shared → Prop} {I : Addr} {fp wr : List Addr} {G : Array GenState → Array GenState → Prop} {n : Nat} {P : Nat → Value → Prop} {St : Nat → Shared → Prop}
def gathL (xs : List Str) : List Str := xs.foldl addL []
theorem gath_len (xs : List Str) : ∀ l : List Str, (xs.foldl addL l).length ≤ l.length + xs.length := by
  induction xs with
  | nil => intro l; simp
  | cons x xs ih =>
    intro l
    have h := ih (addL l x)
    have h2 : (addL l x).length ≤ l.length + 1 := by unfold addL; split <;> simp
    simp only [List.foldl_cons, List.length_cons]
    omega
theorem loopT (W : WalksS prog w A.in1 I fp wr G n P St) (S : Addr) (hSf : S ∉ fp) (xs : List Str) (hsz : xs.length = n) (hn : n + 1 < scanBound)
    (hval : ∀ i v, P i v → ∃ t, v = .str (xs.getD i Str.empty) t) :
    ∀ (k i : Nat) (s : Shared), n - i = k → i ≤ n → St i s →
      SetT w s.heap S (gathL (xs.take i)) →
      (∀ s', Moved (S :: wr) G s s' → SetT w s'.heap S (gathL xs) → R (.ok (.ret .none)) s') →
      codeAny (model prog w) A (.builtin "set.update.loop" ⟨[.ref S, .ref I], []⟩) R s := by
  have hSw : S ∉ wr := fun h => hSf (W.sub _ h)
  have hsub : ∀ b ∈ wr, b ∈ S :: wr := fun b hb => List.mem_cons_of_mem _ hb
  intro k
  induction k with
  | zero =>
    intro i s hk hi hst hS hR
    have hin : i = n := by omega
    subst hin
    refine codeAny_builtin PyProof.Rows.F.entry_set_update_loop ?_
    rw [Around.under_plainId PyProof.Rows.F.plain_set_update_loop _]
    show wpAny _ A.in1 (pyNext (.ref I) >>= _) _ _ s
    refine wpAny_bind (W.done s _ _ hst fun s' hm => ?_)
    show wpAny _ A.in1 (ret Value.none) _ _ s'
    rw [← hsz, List.take_length] at hS
    exact wpAny_pure (hR s' (hm.mono hsub) (hS.at fun o e => hm.heap S _ hSw e))
  | succ k ih =>
    intro i s hk hi hst hS hR
    have hlt : i < n := by omega
    refine codeAny_builtin PyProof.Rows.F.entry_set_update_loop ?_
    rw [Around.under_plainId PyProof.Rows.F.plain_set_update_loop _]
    show wpAny _ A.in1 (pyNext (.ref I) >>= _) _ _ s
    refine wpAny_bind (W.item i s _ _ hlt hst fun v s' hP hst' hm => ?_)
    obtain ⟨t, rfl⟩ := hval i v hP
    have hS' : SetT w s'.heap S (gathL (xs.take i)) := hS.at fun o e => hm.heap S _ hSw e
    show wpAny _ A.in1 (holding [Value.str (xs.getD i Str.empty) t] (setAdd S (.str (xs.getD i Str.empty) t)) >>= _) _ _ s'
    refine wpAny_bind (wpAny_holding ?_)
    unfold setAdd
    refine wpAny_holding ?_
    refine wpAny_bind ((PySem.strKind prog w).pyHash (k := xs.getD i Str.empty) (PySem.strKind_is _ _ _ _) ?_)
    have hroom : (gathL (xs.take i)).length + 1 < scanBound := by
      have q := gath_len (xs.take i) []
      rw [List.length_take] at q
      unfold gathL
      simp only [List.length_nil, Nat.zero_add] at q
      omega
    refine setT_add_hashed (s := { s' with toks := s'.toks + 1 }) hS' hroom fun h' b hsb hS2 => ?_
    have hSi : SetT w h' S (gathL (xs.take (i + 1))) := by
      have e : gathL (xs.take (i + 1)) = addL (gathL (xs.take i)) (xs.getD i Str.empty) := by
        have hx : i < xs.length := by omega
        rw [List.take_add_one, List.getElem?_eq_getElem hx]
        unfold gathL
        rw [List.foldl_append, List.getD_eq_getElem?_getD, List.getElem?_eq_getElem hx]
        rfl
      rw [e]
      exact hS2
    refine wpAny_pure ⟨plainId_quiet PyProof.Rows.F.plain_set_update_loop _, ih (i + 1) _ (by omega) hlt (W.frame _ s' _ _ hst' (Nat.le_succ _) fun b hb o e => ?_) hSi fun s'' hm'' hS'' => ?_⟩
    · rw [hsb.2 b (fun h : b = S => hSf (by rw [← h]; exact hb))]; exact e
    · refine hR s'' (Moved.trans W.gtrans ((hm.mono hsub).then_heap (Nat.le_succ _) fun b o hb e => ?_) hm'') hS''
      rw [hsb.2 b (fun h : b = S => hb (by rw [h]; exact List.mem_cons_self))]; exact e
end

section
variable {prog P : Program} {w : World} {A : Around} {E : Value → Shared → Prop} {s : Shared}
theorem code_set_led1 (a : Value) {Q₁ : Value → Shared → Prop}
    (h : Q₁ (.ref s.heap.objs.size) { s with heap := s.heap.push { cls := .type "set", dict := none, data := .set #[] 0 (.fresh 0 0 (!w.params.followText "set-order")) } }) :
    codeAny (model P w) A (.call (.builtin "set.__new__") ⟨[.type "set", a], []⟩) (wants Q₁ E) s := by
  refine codeAny_of_tree ?_
  show wpAny _ A.in1 (do checkBuiltinCall "set.__new__" ⟨[.type "set", a], []⟩; again (.builtin "set.__new__" ⟨[.type "set", a], []⟩)) _ _ s
  refine wpAny_bind (wpAny_of_eq (F.newCall_set_1 a) (wpAny_pure ⟨plainId_quiet F.plain_set_new _, codeAny_builtin F.entry_set_new ?_⟩))
  rw [Around.under_plainId F.plain_set_new _]
  unfold Builtin.«set.__new__» Builtin.Frozenset.newClass
  have hsub := sub_set_self
  obtain ⟨hp, g, d, tk, os⟩ := s
  dsimp only
  wp_walk
  refine wpAny_askSetting (wpAny_pure ?_)
  dsimp only
  simp only [newObj]
  refine wpAny_bind (wpAny_alloc (wpAny_pure ?_))
  exact wpAny_pure h
theorem setT_fresh {h : Heap} (w : World) : SetT w (h.push { cls := .type "set", dict := none, data := .set #[] 0 (.fresh 0 0 (!w.params.followText "set-order")) }) h.objs.size [] :=
  ⟨_, #[], 0, _, Heap.get?_push_size _ rfl, ⟨rfl, rfl, rfl⟩, rfl, (fun e he => by simp at he), (by simp), List.nodup_nil, (by decide), (by rfl), List.Pairwise.nil, by
    show _ ∨ (!w.params.followText "set-order") = true
    cases w.params.followText "set-order"
    · exact .inr rfl
    · exact .inl rfl⟩
end
end LF
end

-- part LFSetT2
section
set_option Elab.async false
set_option linter.all false
set_option maxRecDepth 100000
set_option maxHeartbeats 4000000
namespace LF
open PySem PySem.Spec PyProof.Rows L2
section
variable {prog P : Program} {w : World} {A : Around} {E : Value → Shared → Prop} {s : Shared} {a : Addr} {l : List Str}
theorem call_setT_list {l : Addr} {items : Array Value} {xs : List Str} {Q : Value → Shared → Prop}
    (hh : A.handled = none) (hl : s.heap.IsList l items) (hi : PyProof.Rows.StrsAre items.toList xs) (hn : xs.length + 1 < scanBound)
    (h : ∀ (h' : Heap) (tk : Nat), SetT w h' s.heap.objs.size (gathL xs) →
      (∀ b o, b < s.heap.objs.size → s.heap.get? b = some o → h'.get? b = some o) → Q (.ref s.heap.objs.size) { s with heap := h', toks := tk }) :
    wpAny (model prog w) A (call (.type "set") [.ref l]) Q E s := by
  obtain ⟨c, tl, hmro⟩ := PySem.F.called_set.mro
  have hmade := PySem.F.called_set.made
  have hsub := PySem.F.called_set.sub
  refine wpAny_call (codeAny_of_tree ?_)
  show wpAny _ _ (callAny (.type "set") _) _ _ _
  refine wpAny_pure ⟨Code.quiet_builtin _ (by decide +kernel), codeAny_builtin PySem.F.entry_type_call ?_⟩
  rw [Around.under_plain (weight_type_call_type "set" [.ref l] []) rfl]
  have h1 := PySem.F.called_set.notType
  have h2 := PySem.F.called_set.canCreate
  have hct := PySem.F.typeCall_set_1 (.ref l)
  repeat (any_goals (first | assumption | wp_step))
  refine codeAny_mono (code_set_led1 (.ref l) (E := E) (Q₁ := fun obj s₁ => obj = .ref s.heap.objs.size ∧ s₁ = { s with heap := s.heap.push { cls := .type "set", dict := none, data := .set #[] 0 (.fresh 0 0 (!w.params.followText "set-order")) } }) ⟨rfl, rfl⟩) fun r s₁ hr => ?_
  cases r with
  | error e => exact hr
  | ok fl =>
    cases fl with
    | ret obj =>
      obtain ⟨rfl, rfl⟩ := hr
      have hS : (s.heap.push { cls := .type "set", dict := none, data := .set #[] 0 (.fresh 0 0 (!w.params.followText "set-order")) }).get? s.heap.objs.size = some { cls := .type "set", dict := none, data := .set #[] 0 (.fresh 0 0 (!w.params.followText "set-order")) } := Heap.get?_push_size _ rfl
      have hT : Shared.TypeIs { s with heap := s.heap.push { cls := .type "set", dict := none, data := .set #[] 0 (.fresh 0 0 (!w.params.followText "set-order")) } } (.ref s.heap.objs.size) "set" := ⟨_, hS, rfl⟩
      have hli := PySem.F.called_set.init.lookup
      have hbi := PySem.F.called_set.init.bind (.ref s.heap.objs.size)
      repeat (any_goals (first | assumption | wp_step))
      refine codeAny_mono (codeAny_call_builtin (R := wants (fun r s₂ => r = .none ∧ ∃ h' tk, s₂ = { s with heap := h', toks := tk } ∧
          SetT w h' s.heap.objs.size (gathL xs) ∧
          (∀ b o, b < s.heap.objs.size → s.heap.get? b = some o → h'.get? b = some o)) E) PySem.F.called_set.init.plain PySem.F.entry_set_init (check_set_init_1 hT ?_)) fun r₂ s₂ hr₂ => ?_
      · obtain ⟨ol, hol, hcl, nl, hdl⟩ := hl
        obtain ⟨ocls, odict, odata, oslots⟩ := ol
        simp only at hcl hdl
        subst hcl; subst hdl
        have hol' : (s.heap.push { cls := .type "set", dict := none, data := .set #[] 0 (.fresh 0 0 (!w.params.followText "set-order")) }).get? l = some { cls := .type "list", dict := odict, data := .seq items nl, slots := oslots } := Heap.get?_push_of_some _ hol
        have hsls := PySem.F.sub_list_set
        have hslf := PySem.F.sub_list_frozenset
        have hne : (Value.type "list" == Value.type "dict") = false := by decide
        have hl1 : (s.heap.push { cls := .type "set", dict := none, data := .set #[] 0 (.fresh 0 0 (!w.params.followText "set-order")) }).IsList l items := ⟨_, hol', rfl, nl, rfl⟩
        unfold Builtin.«set.__init__» noKeywords Builtin.Frozenset.updateFrom
        generalize hPI : pyIter = PI
        wp_walk
        subst hPI
        refine wpAny_pyIter_list hl1 ?_
        refine wpAny_bind (wpAny_runValue ?_)
        have hlS : l < s.heap.objs.size := Heap.lt_size hol
        have hh3 : A.in1.in1.in1.handled = none := by simp [hh]
        have hneI : l ≠ (s.heap.push { cls := .type "set", dict := none, data := .set #[] 0 (.fresh 0 0 (!w.params.followText "set-order")) }).objs.size := by
          rw [Heap.size_push]; exact Nat.ne_of_lt (Nat.lt_succ_of_lt hlS)
        have hSf : s.heap.objs.size ∉ [(s.heap.push { cls := .type "set", dict := none, data := .set #[] 0 (.fresh 0 0 (!w.params.followText "set-order")) }).objs.size, l] := by
          rw [Heap.size_push]; simp only [List.mem_cons, List.mem_singleton, List.not_mem_nil, or_false, not_or]
          exact ⟨Nat.ne_of_lt (Nat.lt_succ_self _), Nat.ne_of_gt hlS⟩
        have hsz : xs.length = items.size := by rw [← StrsAre.len_eq hi, Array.length_toList]
        have hval : ∀ (i : Nat) (v : Value), items[i]? = some v → ∃ t, v = .str (xs.getD i Str.empty) t := fun i v hv => SS.strs_at hi i v (by rw [Array.getElem?_toList]; exact hv)
        refine loopT ((Walks.list hh3 _ l hneI items).toS) s.heap.objs.size
          hSf xs hsz (by rw [← hsz]; exact hn) hval (items.size - 0) 0 _ (by omega) (Nat.zero_le _)
          ⟨⟨_, Heap.get?_push_size _ rfl, rfl, rfl⟩, (hl1.push _)⟩ ?hS0 ?hR
        case hS0 => exact (setT_fresh w).at fun o e => Heap.get?_push_of_some _ e
        case hR =>
          intro s' hm hS'
          obtain ⟨h', g', d', tk', os'⟩ := s'
          have eg : g' = s.gens := hm.gens
          have ed : d' = s.drawn := hm.drawn
          have eo : os' = s.os := hm.os
          subst eg; subst ed; subst eo
          show wpAny _ _ _ _ _ _
          refine wpAny_pure ?_
          show wpAny _ _ (ret Value.none) _ _ _
          refine wpAny_pure ⟨rfl, h', tk', rfl, hS', fun b o hb e => ?_⟩
          have hb1 : b ≠ s.heap.objs.size := Nat.ne_of_lt hb
          have hb2 : b ≠ (s.heap.push { cls := .type "set", dict := none, data := .set #[] 0 (.fresh 0 0 (!w.params.followText "set-order")) }).objs.size := by
            rw [Heap.size_push]; exact Nat.ne_of_lt (Nat.lt_succ_of_lt hb)
          exact hm.heap b o (by simp only [List.mem_cons, List.mem_singleton, List.not_mem_nil, or_false, not_or]; exact ⟨hb1, hb2⟩) (Heap.get?_push_of_some _ (Heap.get?_push_of_some _ e))
      · cases r₂ with
        | error e => exact hr₂
        | ok fl₂ =>
          cases fl₂ with
          | ret r =>
            obtain ⟨rfl, h', tk, rfl, hS', hk'⟩ := hr₂
            repeat (any_goals (first | assumption | wp_step))
            exact h _ _ hS' hk'
          | _ => exact hr₂.elim
    | _ => exact hr.elim
theorem call_setT_str {x : Str} {t : Tok} {Q : Value → Shared → Prop}
    (hh : A.handled = none) (hn : x.cps.size + 1 < scanBound)
    (h : ∀ (h' : Heap) (tk : Nat), SetT w h' s.heap.objs.size (gathL (x.cps.toList.map fun c => (⟨#[c]⟩ : Str))) →
      (∀ b o, b < s.heap.objs.size → s.heap.get? b = some o → h'.get? b = some o) → Q (.ref s.heap.objs.size) { s with heap := h', toks := tk }) :
    wpAny (model prog w) A (call (.type "set") [.str x t]) Q E s := by
  obtain ⟨c, tl, hmro⟩ := PySem.F.called_set.mro
  have hmade := PySem.F.called_set.made
  have hsub := PySem.F.called_set.sub
  refine wpAny_call (codeAny_of_tree ?_)
  show wpAny _ _ (callAny (.type "set") _) _ _ _
  refine wpAny_pure ⟨Code.quiet_builtin _ (by decide +kernel), codeAny_builtin PySem.F.entry_type_call ?_⟩
  rw [Around.under_plain (weight_type_call_type "set" [.str x t] []) rfl]
  have h1 := PySem.F.called_set.notType
  have h2 := PySem.F.called_set.canCreate
  have hct := PySem.F.typeCall_set_1 (.str x t)
  repeat (any_goals (first | assumption | wp_step))
  refine codeAny_mono (code_set_led1 (.str x t) (E := E) (Q₁ := fun obj s₁ => obj = .ref s.heap.objs.size ∧ s₁ = { s with heap := s.heap.push { cls := .type "set", dict := none, data := .set #[] 0 (.fresh 0 0 (!w.params.followText "set-order")) } }) ⟨rfl, rfl⟩) fun r s₁ hr => ?_
  cases r with
  | error e => exact hr
  | ok fl =>
    cases fl with
    | ret obj =>
      obtain ⟨rfl, rfl⟩ := hr
      have hS : (s.heap.push { cls := .type "set", dict := none, data := .set #[] 0 (.fresh 0 0 (!w.params.followText "set-order")) }).get? s.heap.objs.size = some { cls := .type "set", dict := none, data := .set #[] 0 (.fresh 0 0 (!w.params.followText "set-order")) } := Heap.get?_push_size _ rfl
      have hT : Shared.TypeIs { s with heap := s.heap.push { cls := .type "set", dict := none, data := .set #[] 0 (.fresh 0 0 (!w.params.followText "set-order")) } } (.ref s.heap.objs.size) "set" := ⟨_, hS, rfl⟩
      have hli := PySem.F.called_set.init.lookup
      have hbi := PySem.F.called_set.init.bind (.ref s.heap.objs.size)
      repeat (any_goals (first | assumption | wp_step))
      refine codeAny_mono (codeAny_call_builtin (R := wants (fun r s₂ => r = .none ∧ ∃ h' tk, s₂ = { s with heap := h', toks := tk } ∧
          SetT w h' s.heap.objs.size (gathL (x.cps.toList.map fun c => (⟨#[c]⟩ : Str))) ∧
          (∀ b o, b < s.heap.objs.size → s.heap.get? b = some o → h'.get? b = some o)) E) PySem.F.called_set.init.plain PySem.F.entry_set_init (check_set_init_1 hT ?_)) fun r₂ s₂ hr₂ => ?_
      · have hsls := PySem.F.sub_str_set
        have hslf := PySem.F.sub_str_frozenset
        have hne : (Value.type "str" == Value.type "dict") = false := by decide
        unfold Builtin.«set.__init__» noKeywords Builtin.Frozenset.updateFrom
        generalize hPI : pyIter = PI
        wp_walk
        subst hPI
        refine wpAny_pyIter_str fun ob St Wk hst => ?_
        refine wpAny_bind (wpAny_runValue ?_)
        have hh3 : A.in1.in1.in1.handled = none := by simp [hh]
        have hSf : s.heap.objs.size ∉ [(s.heap.push { cls := .type "set", dict := none, data := .set #[] 0 (.fresh 0 0 (!w.params.followText "set-order")) }).objs.size] := by
          rw [Heap.size_push]; simp only [List.mem_singleton]
          exact Nat.ne_of_lt (Nat.lt_succ_self _)
        have hval : ∀ (i : Nat) (v : Value), SignAt x i v → ∃ t, v = .str ((x.cps.toList.map fun c => (⟨#[c]⟩ : Str)).getD i Str.empty) t := fun i v ⟨c, u, hc, e⟩ => ⟨u, by
          rw [e, List.getD_eq_getElem?_getD, List.getElem?_map, Array.getElem?_toList, hc]
          rfl⟩
        refine loopT ((Wk _ hh3).toS) s.heap.objs.size
          hSf (x.cps.toList.map fun c => (⟨#[c]⟩ : Str)) (by simp) (by simpa using hn) hval (x.cps.size - 0) 0 _ (by omega) (Nat.zero_le _)
          hst ?hS0 ?hR
        case hS0 => exact (setT_fresh w).at fun o e => Heap.get?_push_of_some _ e
        case hR =>
          intro s' hm hS'
          obtain ⟨h', g', d', tk', os'⟩ := s'
          have eg : g' = s.gens := hm.gens
          have ed : d' = s.drawn := hm.drawn
          have eo : os' = s.os := hm.os
          subst eg; subst ed; subst eo
          show wpAny _ _ _ _ _ _
          refine wpAny_pure ?_
          show wpAny _ _ (ret Value.none) _ _ _
          refine wpAny_pure ⟨rfl, h', tk', rfl, hS', fun b o hb e => ?_⟩
          have hb1 : b ≠ s.heap.objs.size := Nat.ne_of_lt hb
          have hb2 : b ≠ (s.heap.push { cls := .type "set", dict := none, data := .set #[] 0 (.fresh 0 0 (!w.params.followText "set-order")) }).objs.size := by
            rw [Heap.size_push]; exact Nat.ne_of_lt (Nat.lt_succ_of_lt hb)
          exact hm.heap b o (by simp only [List.mem_cons, List.mem_singleton, List.not_mem_nil, or_false, not_or]; exact ⟨hb1, hb2⟩) (Heap.get?_push_of_some _ (Heap.get?_push_of_some _ e))
      · cases r₂ with
        | error e => exact hr₂
        | ok fl₂ =>
          cases fl₂ with
          | ret r =>
            obtain ⟨rfl, h', tk, rfl, hS', hk'⟩ := hr₂
            repeat (any_goals (first | assumption | wp_step))
            exact h _ _ hS' hk'
          | _ => exact hr₂.elim
    | _ => exact hr.elim
end
end LF
end

-- part LFSetT3
section
set_option Elab.async false
set_option linter.all false
set_option maxRecDepth 100000
set_option maxHeartbeats 4000000
namespace LF
open PySem PySem.Spec PyProof.Rows L2
section
variable {prog P : Program} {w : World} {A : Around} {E : Value → Shared → Prop} {s : Shared} {a : Addr} {l : List Str}

theorem strsT_of : ∀ (vs : List Value), (∀ v ∈ vs, ∃ k tk, v = Value.str k tk) → StrsAre vs (vs.map strOf)
  | [], _ => .nil
  | v :: vs, h => by
    obtain ⟨k, tk, rfl⟩ := h v List.mem_cons_self
    exact .cons k tk (strsT_of vs fun u hu => h u (List.mem_cons_of_mem _ hu))
theorem sorted_setT {Q : Value → Shared → Prop} (R : SetT w s.heap a l) (hh : A.handled = none) (h64 : l.length < 64)
    (hQ : ∀ s' p (out : Array Value) (c : Nat) (ns : List Str), (∀ b o, s.heap.get? b = some o → s'.heap.get? b = some o) → s'.gens = s.gens → s'.os = s.os → s.heap.objs.size ≤ p →
      s'.heap.get? p = some (seqObj "list" out c) → StrsAre out.toList ns → ns.Perm l → sortedS ns = true → Q (.ref p) s') :
    wpAny (model P w) A (call (.builtin "sorted") [.ref a]) Q E s := by
  obtain ⟨o, es, ep, t, ho, hex, hd, g, pl, nd, hb, hf, hr, hl⟩ := R
  refine Calls.call_function_entry kind_sorted plain_sorted entry_sorted (args_sorted1 _) ?_
  unfold Builtin.«sorted»
  refine wpAny_bind (m := checkCount "sorted" 1 1 _) (wpAny_pure ?_)
  refine wpAny_bind (collect_set (A := A.in1) hh ⟨o, ho, hex.1, hd⟩ hf hb hr hl fun s1 vs k1 hz g1 o1 pm => ?_)
  have hesl : es.size = l.length := by
    have q := pl.length_eq
    rw [List.length_map, Array.length_toList] at q
    exact q
  have hvl : vs.length = l.length := by rw [pm.length_eq, List.length_map, Array.length_toList]; exact hesl
  have hI : StrsAre vs (vs.map strOf) := strsT_of vs fun v hv => by
    obtain ⟨e, he, q⟩ := List.mem_map.mp (pm.mem_iff.mp hv)
    obtain ⟨k, tk, h1, _⟩ := g e he
    exact ⟨k, tk, by rw [← q]; exact h1⟩
  have pk : (vs.map strOf).Perm l := by
    have q := pm.map strOf
    rw [List.map_map] at q
    have e : (strOf ∘ fun e : Int × Value => e.2) = keyT := rfl
    rw [e] at q
    exact q.trans pl
  refine wpAny_bind (wpAny_newList ?_ (by rw [hvl, sizeLine_eq]; omega))
  have hoL : (s1.heap.push (seqObj "list" vs.toArray 0)).get? s1.heap.objs.size = some (seqObj "list" vs.toArray 0) := Heap.get?_push_size _ rfl
  refine wpAny_bind (wpAny_holding (wpAny_call_entry slot_list_sort ⟨_, hoL, rfl⟩ entry_list_sort (list_sort_treeK strKind_oneLt hoL hI.keysOf (fun v₁ v₂ rest e => keyKind_strs (by rw [← e]; exact hI)) (by rw [hvl]; exact h64) fun st' hp hs => ⟨_, rfl, ?_⟩) (args_list_sort _)))
  obtain ⟨ns', a1, a2, a3⟩ := sorted_out_str hI hp hs
  obtain ⟨c, hc⟩ := sortedHeap_at (vs := vs) (out := (arrOf st').map (·.2)) hoL
  refine wpAny_pure ⟨_, rfl, hQ _ s1.heap.objs.size _ c ns' (fun b u e => ?_) g1 o1 hz hc a1 (a2.trans pk) a3⟩
  have q := k1 b u e
  have hlt := Heap.lt_size q
  show (sortedHeap (s1.heap.push (seqObj "list" vs.toArray 0)) s1.heap.objs.size vs ((arrOf st').map (·.2))).get? b = some u
  rw [sortedHeap_old (Nat.ne_of_lt hlt) (by rw [size_push']; exact Nat.lt_succ_of_lt hlt)]
  exact Heap.get?_push_of_some _ q
end
end LF
end

-- part LFRulesD
section
set_option Elab.async false
set_option linter.all false
set_option maxRecDepth 100000
set_option maxHeartbeats 4000000
namespace LF
open PySem PySem.Spec PyProof.Rows L2

/-! ### xs[a:b] = ys, b behind the end too -/
section
variable {prog : Program} {w : World} {A : Around} {E : Value → Shared → Prop} {s : Shared}
theorem bounds_clip {a c n : Nat} (hac : a ≤ c) (ha : a ≤ n) : sliceBounds (some (a : Int)) (some (c : Int)) none n = ((a : Int), ((min c n : Nat) : Int), 1) := by
  simp only [sliceBounds, Option.getD_none]
  have h1 : ¬ ((a : Int) < 0) := by omega
  have h2 : ¬ ((c : Int) < 0) := by omega
  simp only [h1, h2, if_false, show (1 : Int) > 0 by decide, if_true]
  congr 1
  · omega
  · congr 1; omega
theorem setItem_sliceC {l b sl : Addr} {items new : Array Value} {n n2 : Nat} {vl vu : Value} {a c : Nat} {Q : Unit → Shared → Prop}
    (e : s.heap.get? l = some { cls := .type "list", data := .seq items n }) (e2 : s.heap.get? b = some { cls := .type "list", data := .seq new n2 }) (hne : l ≠ b)
    (hs : s.heap.IsSliceOf sl vl vu .none) (pl : IsPart vl (some (a : Int))) (pu : IsPart vu (some (c : Int))) (hac : a ≤ c) (ha : a ≤ items.size)
    (hsz : items.size + new.size ≤ sizeLine) (h : Q () { s with heap := s.heap.update l (Obj.mapSeq fun xs => xs.extract 0 a ++ new ++ xs.extract (min c items.size) xs.size) }) :
    wpAny (model prog w) A (setItem (.ref l) (.ref sl) (.ref b)) Q E s := by
  have hl : s.heap.IsList l items := PySem.IsL.isList e
  have hb : s.heap.IsList b new := PySem.IsL.isList e2
  obtain ⟨os, hos, hcs, hds⟩ := id hs
  have hTs : s.TypeIs (.ref sl) "slice" := ⟨os, hos, hcs⟩
  have hstep : ¬ ((rawPart none == rawInt 0) = true) := Bool.false_ne_true
  have hsame : Builtin.List.listSameRef (.ref l) (.ref b) = false := by
    unfold Builtin.List.listSameRef
    exact beq_eq_false_iff_ne.mpr hne
  have hmax : (max (a : Int) ((min c items.size : Nat) : Int)).toNat = min c items.size := by omega
  have hz' : ((fun xs : Array Value => xs.extract 0 a ++ new ++ xs.extract (min c items.size) xs.size) items).size ≤ sizeLine + 1 := by
    simp only [Array.size_append, Array.size_extract]
    omega
  unfold setItem
  try with_reducible refine wpAny_holding ?_
  first | refine wpAny_bind (wpAny_pure ?_) | skip
  refine wpAny_bind (wpAny_sequenceKey hl.typeIs (by decide) ?_)
  refine wpAny_bind (wpAny_callSpecial?_slot (name := Str.ofString "__setitem__") hl.typeIs slot_list_setitem
    (wpAny_call_entry slot_list_setitem hl.typeIs entry_list_setitem ?_ (args_list_setitem _ _ _)))
  show wpAny _ _ (Builtin.List.listSubscript? (.ref sl) >>= _) _ _ s
  refine wpAny_bind ?_
  unfold Builtin.List.listSubscript?
  refine wpAny_bind (wpAny_specialOf hTs slice_no_index ?_)
  simp only [Option.isNone_none, if_true]
  refine wpAny_pure ?_
  show wpAny _ _ (typeOf (.ref sl) >>= _) _ _ s
  refine wpAny_bind (wpAny_typeOf hTs ?_)
  first
    | rw [if_neg (by decide)]
    | refine PySem.W.KFB.if_not (by decide) ?_
  rw [listSliceParts_eq]
  refine wpAny_bind (wpAny_bind (wpAny_field hos hds (x := .none) rfl (wpAny_bind (wpAny_listPart .none ?_))))
  rw [if_neg hstep]
  refine wpAny_bind (wpAny_field hos hds (x := vl) rfl (wpAny_bind (wpAny_listPart pl ?_)))
  refine wpAny_bind (wpAny_field hos hds (x := vu) rfl (wpAny_bind (wpAny_listPart pu (wpAny_pure ?_))))
  first
    | simp only [hsame, Bool.false_eq_true, if_false]
    | refine PySem.W.KFB.if_not hsame ?_
    | (dsimp only
       rw [if_neg (by rw [hsame]; exact Bool.false_ne_true)])
  refine wpAny_bind (m := Builtin.List.listAllItems (.ref b) "must assign iterable to extended slice") ?_
  unfold Builtin.List.listAllItems
  refine wpAny_bind (wpAny_typeOf hb.typeIs ?_)
  first
    | refine PySem.W.KFB.if_so (by decide) ?_
    | rw [if_pos (by decide)]
    | simp only [beq_self_eq_true, Bool.true_or, if_true]
  unfold Builtin.List.listItems
  refine wpAny_bind (wpAny_seqItems e2 rfl (wpAny_pure ?_))
  refine wpAny_bind (wpAny_bind (wpAny_seqItems e rfl (wpAny_pure ?_)))
  refine wpAny_bind (wpAny_of_eq ((sliceIndices_raw (some (a : Int)) (some (c : Int)) none items.size (by simp)).trans (congrArg (pure : Int × Int × Int → Sem (Int × Int × Int)) (bounds_clip hac ha))) ?_)
  show wpAny _ _ (if ((1 : Int) == 1) = true then _ else _) _ _ s
  rw [if_pos (by decide)]
  refine wpAny_bind (wpAny_rule ?_)
  first
    | simp only [notLongL hsz, Bool.false_eq_true, if_false]
    | refine PySem.W.KFB.if_not (notLongL hsz) ?_
  first | refine wpAny_bind (wpAny_pure ?_) | skip
  show wpAny _ _ (updateSeq l (fun xs => xs.extract 0 ((a : Int)).toNat ++ new ++ xs.extract (max (a : Int) ((min c items.size : Nat) : Int)).toNat xs.size) >>= _) _ _ s
  rw [hmax, Int.toNat_natCast]
  refine wpAny_bind (wpAny_updateSeq (hz := Nat.le_trans (Nat.le_add_right _ _) hsz) (_hz' := hz') e rfl ?_)
  refine wpAny_bind (wpAny_letGo ?_)
  first
    | exact wpAny_bind (wpAny_pure (wpAny_pure ⟨.none, rfl, wpAny_pure h⟩))
    | exact wpAny_pure ⟨.none, rfl, wpAny_pure h⟩
end
section
variable {X : Cx}
theorem set_sliceC {pins : List (Addr × Obj)} {s : Shared} {σ : L2.St} {H : Hp} {l b sl : Addr} {xs ys : List V} {a c : Nat} {vl vu : Value} {Q : Unit → Shared → Prop} (I : Inv X pins σ H s)
    (hH : H l = some (.lst xs)) (hB : H b = some (.lst ys)) (hne : l ≠ b) (hs : s.heap.IsSliceOf sl vl vu .none) (ra : RelV (.int a) vl) (rc : RelV (.int c) vu) (hac : a ≤ c) (ha : a ≤ xs.length)
    (hz : xs.length + ys.length ≤ sizeLine) (h : ∀ s', Inv X pins σ (upd H l (.lst (xs.take a ++ ys ++ xs.drop (min c xs.length)))) s' → Q () s') :
    wpAny (model X.prog X.w) X.A (setItem (.ref l) (.ref sl) (.ref b)) Q X.xe s := by
  obtain ⟨ta, rfl⟩ := ra
  obtain ⟨tc, rfl⟩ := rc
  obtain ⟨z, its, n, r, hl, e⟩ := I.lstM hH
  obtain ⟨z2, its2, n2, r2, hl2, e2⟩ := I.lstM hB
  refine setItem_sliceC (a := a) (c := c) e e2 hne hs (.int _ _) (.int _ _) hac (by rw [List.size_toArray]; omega) (by rw [List.size_toArray, List.size_toArray]; omega) (h _ ?_)
  refine I.lset (its' := its.take a ++ its2 ++ its.drop (min c xs.length)) (t' := s.toks) hH e ?_ (Vals.append (Vals.append (r.take _) r2) (r.drop _)) ?_
  · have q : min c its.toArray.size = min c xs.length := by rw [List.size_toArray, hl]
    rw [q]
    exact splice_eq its its2 a (min c xs.length)
  · rw [List.length_append, List.length_append, List.length_take, List.length_drop]
    omega
def gSl (to : TE) (tl th : TE) : TG := fun v σ H Q => to σ H fun o H1 => tl σ H1 fun x H2 => th σ H2 fun y H3 => ∃ (l b : Addr) (xs ys : List V) (a c : Nat), o = .ref l ∧ v = .ref b ∧ x = .int a ∧ y = .int c ∧ l ≠ b ∧
  H3 l = some (.lst xs) ∧ H3 b = some (.lst ys) ∧ a ≤ c ∧ a ≤ xs.length ∧ xs.length + ys.length ≤ sizeLine ∧ Q σ (upd H3 l (.lst (xs.take a ++ ys ++ xs.drop (min c xs.length))))
theorem pg_sl {o e1 e2 : Expr} {to tl th : TE} {p2 pos : Pos} (ho : PE X o to) (hl : PE X e1 tl) (hh : PE X e2 th)
    (ha : ∀ v, assign (.Subscript o (.Slice (some e1) (some e2) none p2) pos) X.env v = (do
      let ov ← holding [v] (eval o X.env)
      let iv ← holding [v, ov] (eval (.Slice (some e1) (some e2) none p2) X.env)
      standAt pos
      holding [v, ov, iv] (setItem ov iv v)
      release [iv, v, ov] []) := by intro _; rfl) : PG X (.Subscript o (.Slice (some e1) (some e2) none p2) pos) (gSl to tl th) := by
  refine ⟨fun pins s σ H v u Q I r h => ?_⟩
  rw [ha]
  refine wpAny_bind (wpAny_holding (thn (ho.run pins s σ H _ I h) fun ov s1 ⟨x, H1, I1, r1, q1⟩ => ?_))
  refine wpAny_bind (wpAny_holding ?_)
  refine wpAny_Slice (thn (hl.run pins s1 σ H1 _ I1 q1) fun vl s2 ⟨xl, H2, I2, r2, q2⟩ => thn (hh.run pins s2 σ H2 _ I2 q2) fun vu s3 ⟨xu, H3, I3, r3, q3⟩ => ?_)
  rw [evalPart_none]
  refine wpAny_pure ?_
  obtain ⟨l, b, xs, ys, a, c, rfl, rfl, rfl, rfl, hne, k1, k2, hac, haz, hz, q⟩ := q3
  have I4 : Inv X pins σ H3 { s3 with heap := s3.heap.push { cls := .type "slice", data := .fields #[vl, vu, .none] } } := I3.kept (t' := s3.toks) fun b ob q => Heap.get?_push_of_some _ q
  cases r1
  cases r
  refine wpAny_bind (wpAny_standAt (wpAny_bind (wpAny_holding (set_sliceC I4 k1 k2 hne (Heap.IsSliceOf.new ..) r2 r3 hac haz hz fun s' I5 => ?_))))
  exact wpAny_release ⟨σ, _, I5, q⟩
end
section
variable {X : Cx} {ex : Str → Addr} {W : WX} {pos pos' p p2 : Pos} {e a b c o : Expr} {fa fb fc fd : EM R} {x : Str}
def slSt (r : R) (k m : Option D) (o : Option (List D × Ow)) : Option (List D × Ow) := match r, k, m, o with
  | .fr (.lst ys), some (.int k), some (.int m), some (xs, w) => if 0 ≤ k ∧ k ≤ m ∧ k ≤ xs.length ∧ xs.length + ys.length ≤ sizeLine then some (xs.take k.toNat ++ ys ++ xs.drop (min m.toNat xs.length), w) else none
  | _, _, _, _ => none
theorem slSt_ok {r : R} {k m : Option D} {o : Option (List D × Ow)} {z : List D × Ow} (h : slSt r k m o = some z) : ∃ ys a c xs w, r = .fr (.lst ys) ∧ k = some (.int (a : Nat)) ∧ m = some (.int (c : Nat)) ∧ o = some (xs, w) ∧ a ≤ c ∧ a ≤ xs.length ∧ xs.length + ys.length ≤ sizeLine ∧ z = (xs.take a ++ ys ++ xs.drop (min c xs.length), w) := by
  unfold slSt at h
  split at h
  · split at h
    · rename_i k m xs w hc
      obtain ⟨c0, c1, c2, c3⟩ := hc
      obtain ⟨a', rfl⟩ := Int.eq_ofNat_of_zero_le c0
      obtain ⟨c', rfl⟩ := Int.eq_ofNat_of_zero_le (Int.le_trans c0 c1)
      cases h
      exact ⟨_, a', c', xs, w, rfl, rfl, rfl, rfl, by omega, by omega, c3, by simp only [Int.toNat_natCast]⟩
    · cases h
  · cases h
def sSetSl (i : Nat) (fv fl fh : EM R) : EM Out := EM.bind fv fun r => fun ρ => (ownL ρ[i]?).bind fun _ => EM.bind fl (fun q => EM.bind fh fun q' => fun ρ => (slSt r (rd q ρ) (rd q' ρ) (ownL ρ[i]?)).map fun z => (.ok .nx, ρ.set i (.own (.lst z.1) z.2))) ρ
theorem l_setSl {i : Nat} (hv : PE X e (DE ⟨X.K, ex⟩ W fa)) (hl : PE X a (DE ⟨X.K, ex⟩ W fb)) (hh : PE X b (DE ⟨X.K, ex⟩ W fc)) (hN : X.N[i]? = some x := by rfl) (hvis : Vis X.env.scope x := by first | exact Or.inl rfl | exact Or.inr (Or.inl rfl) | exact Or.inr (Or.inr rfl))
    (ha : ∀ v, assign (.Subscript (.Name x p) (.Slice (some a) (some b) none p2) pos') X.env v = (do
      let ov ← holding [v] (eval (.Name x p) X.env)
      let iv ← holding [v, ov] (eval (.Slice (some a) (some b) none p2) X.env)
      standAt pos'
      holding [v, ov, iv] (setItem ov iv v)
      release [iv, v, ov] []) := by intro _; rfl) (hs : swapsWithSole [.Subscript (.Name x p) (.Slice (some a) (some b) none p2) pos'] e pos.line X.env = pure false := by rfl) (hw : swappedStores [.Subscript (.Name x p) (.Slice (some a) (some b) none p2) pos'] e X.env = pure none := by rfl)
    (h1 : (assignEach [.Subscript (.Name x p) (.Slice (some a) (some b) none p2) pos'] X.env).map (·.2) = [assign (.Subscript (.Name x p) (.Slice (some a) (some b) none p2) pos') X.env] := by rfl) (hd : (x == ("__debug__" : Str)) = false := by decide) (hcd : (x == ("__classdict__" : Str)) = false := by decide) :
    PS X (.Assign [.Subscript (.Name x p) (.Slice (some a) (some b) none p2) pos'] e pos) (DS ⟨X.K, ex⟩ W (sSetSl i fa fb fc)) :=
  impS (ps_asg hv (pg_sl (pe_var hN hvis hd hcd) hl hh ha) hs hw h1) fun D σ H h => by
    obtain ⟨ρ, F, y, E, e, hr⟩ := h
    refine (split E (Fm.refl σ ρ F H) e hr.err).mono fun v H1 ⟨r1, ρ1, F1, E1, m1, _, rr1, e1⟩ => ?_
    cases h0 : ownL ρ1[i]? with
    | none =>
      rw [h0] at e1
      cases e1
    | some p0 =>
      rw [h0] at e1
      obtain ⟨hi0, _⟩ := ownL_ok (w := p0.2) (xs := p0.1) h0
      obtain ⟨l, ho0, k1, k2, k3, k4⟩ := E1.own i _ _ hi0
      refine ⟨.ref l, k1, ?_⟩
      refine (split E1 m1 e1 hr.err).mono fun u H2 ⟨r2, ρ2, F2, E2, m2, m12, rr2, e2⟩ => ?_
      have rr1 := rr1.step E1 m12
      refine (split E2 m2 e2 hr.err).mono fun u' H3 ⟨r3, ρ3, F3, E3, m3, m23, rr3, e3⟩ => ?_
      have rr1 := rr1.step E2 m23
      have rr2 := rr2.step E2 m23
      have e3 : (slSt r1 (rd r2 ρ3) (rd r3 ρ3) (ownL ρ3[i]?)).map (fun z => (Except.ok (ε := Exc) Out.nx, ρ3.set i (.own (.lst z.1) z.2))) = some y := e3
      cases hz : slSt r1 (rd r2 ρ3) (rd r3 ρ3) (ownL ρ3[i]?) with
      | none =>
        rw [hz] at e3
        cases e3
      | some z =>
        rw [hz] at e3
        cases e3
        obtain ⟨ys, a', c', xs, w, rfl, h2, h3, h4, c1, c2, c3, rfl⟩ := slSt_ok hz
        obtain ⟨hi, hw⟩ := ownL_ok h4
        obtain ⟨l', ho', g1, g2, g3, g4⟩ := E3.own i (.lst xs) w hi
        obtain ⟨b, bo, rfl, b0, b1, b2, b3, b4⟩ := rr1
        rw [k1] at g1
        injection g1 with g1
        injection g1 with g1
        injection g1 with g1
        subst g1
        cases g4 with
        | lst g4 =>
          cases b3 with
          | lst b3 =>
            rename_i vs ws
            have hne : l ≠ b := fun z => b4 ⟨i, _, _, hi, z ▸ k1⟩
            refine ⟨l, b, vs, ws, a', c', rfl, rfl, rd_int E3 rr2 h2, rd_int E3 rr3 h3, hne, g3, b2, c1, by rw [g4.length]; omega, by rw [g4.length, b3.length]; omega, ?_⟩
            refine hr σ F3 _ (E3.chg hi k1 hw (.lst ?_)) (m3.trans (Fm.chg E3 hi k1 hw))
            rw [g4.length]
            exact ((g4.take _).append b3).append (g4.drop _)
end
end LF
end

-- part LFRulesE
section
set_option Elab.async false
set_option linter.all false
set_option maxRecDepth 100000
set_option maxHeartbeats 4000000
namespace LF
open PySem PySem.Spec PyProof.Rows L2

/-! ### list(text) -/
def signsOf (x : Str) : List Str := x.cps.toList.map fun c => ⟨#[c]⟩
section
variable {prog : Program} {w : World} {A : Around} {E : Value → Shared → Prop} {s : Shared}
theorem hint_str {x : Str} {t : Tok} {Q : Bool → Shared → Prop} (h : Q false s) : wpAny (model prog w) A (Builtin.List.listLengthHint (.str x t)) Q E s := by
  unfold Builtin.List.listLengthHint
  refine wpAny_bind (wpAny_specialOf (T := "str") (v := .str x t) rfl PySem.F.str_len ?_)
  wp_delta
  refine wpAny_bind (wpAny_isInstance (T := "str") (v := .str x t) (b := true) rfl (by rw [isSubtype_type]; kernel_rfl) ?_)
  show wpAny _ A (typeOf (Value.str x t) >>= _) _ _ _
  refine wpAny_bind (wpAny_typeOf (T := "str") (v := .str x t) rfl ?_)
  exact wpAny_pure h
theorem extend_str {R : Result → Shared → Prop} (hh : A.handled = none) (x : Str) (t : Tok) (S : Addr) (res : Value) (c₀ : Nat) (hS : s.heap.get? S = some { cls := .type "list", data := .seq #[] c₀ })
    (hR : ∀ h' tk acc' c', (∀ b o, b ≠ S → s.heap.get? b = some o → h'.get? b = some o) → h'.get? S = some { cls := .type "list", dict := none, data := .seq acc' c', slots := #[] } →
      ItemsOf (SignAt x) acc' x.cps.size → R (.ok (.ret res)) { s with heap := h', toks := tk }) (hn : x.cps.size ≤ sizeLine) :
    wpAny (model prog w) A.in1 (Builtin.List.listExtendWith (.ref S) (.str x t) res)
      (fun fin s' => match fin with | .done f => R (.ok f) s' | .again c' => c'.quiet = true ∧ codeAny (model prog w) A c' R s') (fun e s' => R (.error e) s') s := by
  have hSI : S ≠ s.heap.objs.size := Nat.ne_of_lt (Heap.lt_size hS)
  have hSf : S ∉ [s.heap.objs.size] := fun hm => hSI (List.mem_singleton.mp hm)
  unfold Builtin.List.listExtendWith
  refine wpAny_bind (wpAny_typeOf (T := "str") (v := .str x t) rfl ?_)
  have h1 : Builtin.List.listSameRef (.ref S) (.str x t) = false := rfl
  have h2 : (Value.type "str" == Value.type "list") = false := by decide
  have h3 : (Value.type "str" == Value.type "tuple") = false := by decide
  simp only [h1, h2, h3, Bool.or_false, Bool.false_eq_true, if_false]
  refine wpAny_bind (wpAny_pyIter_str fun o St Wk hst => ?_)
  refine wpAny_bind (wpAny_holding (hint_str ?_))
  rw [if_neg (by first | decide | decide +kernel)]
  refine wpAny_pure ⟨plainId_quiet PySem.F.plain_extend_loop _, codeAny_extend_loopS (Wk A.in1 hh).toS hn _ hSf _ x.cps.size 0 _ _ _ rfl (Nat.zero_le _) hst (Heap.get?_push_of_some _ hS) (ItemsOf.nil _) fun s' acc' c' hm hS' hacc => ?_⟩
  rw [Moved.eq_with hm]
  refine hR s'.heap s'.toks acc' c' (fun b ob hb e => hm.heap b ob (fun hmem => ?_) (Heap.get?_push_of_some _ e)) hS' hacc
  rcases List.mem_cons.mp hmem with e' | hmem
  · exact hb e'
  · exact absurd (Heap.lt_size e) (by rw [List.mem_singleton.mp hmem]; exact Nat.lt_irrefl _)
theorem list_init_str {R : Result → Shared → Prop} (hh : A.handled = none) (x : Str) (t : Tok) (S : Addr) (hS : s.heap.get? S = some { cls := .type "list", data := .seq #[] })
    (hR : ∀ h' tk acc' c', (∀ b o, b ≠ S → s.heap.get? b = some o → h'.get? b = some o) → h'.get? S = some { cls := .type "list", dict := none, data := .seq acc' c', slots := #[] } →
      ItemsOf (SignAt x) acc' x.cps.size → R (.ok (.ret .none)) { s with heap := h', toks := tk }) (hn : x.cps.size ≤ sizeLine) :
    wpAny (model prog w) A.in1 (Builtin.«list.__init__» ⟨[.ref S, .str x t], []⟩)
      (fun fin s' => match fin with | .done f => R (.ok f) s' | .again c' => c'.quiet = true ∧ codeAny (model prog w) A c' R s') (fun e s' => R (.error e) s') s := by
  show wpAny _ _ (do let old ← Builtin.List.listItems (.ref S); Builtin.List.listUpdate (.ref S) (fun _ => #[]); letGo old.toList.reverse; Builtin.List.listExtendWith (.ref S) (.str x t) .none) _ _ s
  refine wpAny_bind ?_
  unfold Builtin.List.listItems
  refine wpAny_bind (wpAny_seqItems hS rfl (wpAny_pure ?_))
  show wpAny _ _ (updateSeq S (fun _ => #[]) >>= fun _ => letGo (#[] : Array Value).toList.reverse >>= fun _ => Builtin.List.listExtendWith (.ref S) (.str x t) .none) _ _ s
  refine wpAny_bind (wpAny_updateSeq hS rfl ?_)
  have hS₂ := Heap.get?_update_self (Obj.mapSeq (fun _ => (#[] : Array Value))) hS rfl
  have oth : ∀ b o, b ≠ S → s.heap.get? b = some o → (s.heap.update S (Obj.mapSeq (fun _ => (#[] : Array Value)))).get? b = some o :=
    fun b o hb e => (Heap.get?_update_other _ _ (Ne.symm hb)).trans e
  refine wpAny_bind (wpAny_letGo ?_)
  refine extend_str hh x t S .none _ hS₂ (fun h' tk acc' c' hk hS' hacc => ?_) hn
  exact hR h' tk acc' c' (fun b o hb e => hk b o hb (oth b o hb e)) hS' hacc
theorem call_list_str {x : Str} {t : Tok} {Q : Value → Shared → Prop} (hh : A.handled = none) (hn : x.cps.size ≤ sizeLine)
    (hQ : ∀ h' tk acc' c', (∀ b o, s.heap.get? b = some o → h'.get? b = some o) →
      h'.get? s.heap.objs.size = some { cls := .type "list", dict := none, data := .seq acc' c', slots := #[] } → ItemsOf (SignAt x) acc' x.cps.size → Q (.ref s.heap.objs.size) { s with heap := h', toks := tk }) :
    wpAny (model prog w) A (call (.type "list") [.str x t]) Q E s := by
  refine callType_codes (Q₁ := fun obj s₁ => obj = .ref s.heap.objs.size ∧ s₁ = { s with heap := s.heap.push { cls := .type "list", data := .seq #[] } }) PySem.F.called_list (PySem.F.typeCall_list_1 _) PySem.F.entry_list_init
    (code_list_new _ ⟨rfl, rfl⟩) fun obj s₁ h₁ => ?_
  obtain ⟨rfl, rfl⟩ := h₁
  have hS : (s.heap.push { cls := .type "list", data := .seq #[] }).get? s.heap.objs.size = some { cls := .type "list", data := .seq #[] } := Heap.get?_push_size _ rfl
  refine ⟨⟨_, hS, rfl⟩, PySem.F.args_list_init_2 _ _, list_init_str (A := A.in1) hh x t _ hS (fun h' tk acc' c' hk hS' hacc => ?_) hn⟩
  exact ⟨rfl, hQ h' tk acc' c' (fun b o e => hk b o (Nat.ne_of_lt (Heap.lt_size e)) (Heap.get?_push_of_some _ e)) hS' hacc⟩
end
def rListU (K : PySem.W.Frag) (xs : List V) (H : Hp) (Q : VK) : Prop := (∃ p ys, xs = [V.ref p] ∧ (SqL K H p ys ∨ SqT K H p ys) ∧ ∀ l, H l = none → Q (.ref l) (upd H l (.lst ys))) ∨
  ∃ x, xs = [V.str x] ∧ x.cps.size ≤ sizeLine ∧ ∀ l, H l = none → Q (.ref l) (upd H l (.lst ((signsOf x).map V.str)))
section
variable {X : Cx}
theorem call_listS (hc : X.calm = true) : CallR X (.type "list") (fun xs H Q => ∃ x, xs = [V.str x] ∧ x.cps.size ≤ sizeLine ∧ ∀ l, H l = none → Q (.ref l) (upd H l (.lst ((signsOf x).map V.str)))) := by
  intro pins s σ H xs us Q I r h
  obtain ⟨x, rfl, hz, q⟩ := h
  obtain ⟨u, rfl, t, rfl⟩ := vals1 r
  refine call_list_str (I.ok.hd hc) hz fun h' tk acc c' hk e hi => ?_
  have hl : (signsOf x).length = x.cps.size := by
    unfold signsOf
    rw [List.length_map, Array.length_toList]
  refine ⟨.ref s.heap.objs.size, upd H s.heap.objs.size (.lst ((signsOf x).map V.str)), I.laid hk (Nat.le_refl _) ⟨by rw [List.length_map, hl]; exact hz, acc.toList, c', ?_, by rw [Array.toArray_toList]; exact e⟩, rfl, q _ (I.hok.fresh (Nat.le_refl _))⟩
  refine vals_of_idx _ _ (by rw [List.length_map, hl, Array.length_toList]; exact hi.1) fun j u hj => ?_
  obtain ⟨c, t', hc, rfl⟩ := hi.2 j u (by rw [← Array.getElem?_toList]; exact hj)
  refine ⟨.str ⟨#[c]⟩, ?_, ⟨_, rfl⟩⟩
  unfold signsOf
  rw [List.getElem?_map, List.getElem?_map, Array.getElem?_toList, hc]
  rfl
theorem call_listU (hc : X.calm = true) : CallR X (.type "list") (rListU X.K) := call_list_of.or (call_listS hc)
end
def gListU : D → Option Got
  | .list ds => some (.l ds)
  | .tuple ds => some (.l ds)
  | .str x => if x.cps.size ≤ sizeLine then some (.l ((signsOf x).map .str)) else none
  | _ => none
theorem strs_repL {K : PySem.W.Frag} {F : Hp} : ∀ xs : List Str, RepL K F (xs.map V.str) (xs.map .str)
  | [] => .nil
  | x :: xs => .cons (.str x) (strs_repL xs)
theorem listU_1 (K : PySem.W.Frag) : Op1 K (fun x H Q => rListU K [x] H Q) gListU := by
  intro F H x d z Q e hl ht rx hg qv ql qt
  unfold gListU at hg
  split at hg
  · cases hg
    obtain ⟨a, xs, rfl, h1, r1⟩ := hl _ rfl
    exact .inl ⟨a, xs, rfl, .inl (sl_of h1), fun l hl => ql _ _ l rfl r1 hl⟩
  · cases hg
    obtain ⟨a, xs, rfl, h1, r1⟩ := ht _ rfl
    exact .inl ⟨a, xs, rfl, .inr (ex_t e h1), fun l hl => ql _ _ l rfl r1 hl⟩
  · split at hg
    · cases hg
      exact .inr ⟨_, congrArg (· :: []) (rep_str rx), by assumption, fun l hl => ql _ _ l rfl (strs_repL _) hl⟩
    · cases hg
  · cases hg

/-! ### sorted(set(text)), len(set(texts)) -/
def insT (k : Str) : List Str → List Str
  | [] => [k]
  | x :: r => if k.cps.toList ≤ x.cps.toList then k :: x :: r else x :: insT k r
def sortT (l : List Str) : List Str := l.foldr insT []
def leT (a b : Str) : Prop := a.cps.toList ≤ b.cps.toList
theorem leT_anti {a b : Str} (h : leT a b) (k : leT b a) : a = b := Str.ext' (Array.toList_inj.mp (List.le_antisymm h k))
theorem insT_perm (k : Str) : ∀ l, (insT k l).Perm (k :: l)
  | [] => List.Perm.refl _
  | x :: r => by
    unfold insT
    split
    · exact List.Perm.refl _
    · exact ((insT_perm k r).cons x).trans (List.Perm.swap _ _ _)
theorem insT_sorted (k : Str) : ∀ l, l.Pairwise leT → (insT k l).Pairwise leT
  | [], _ => List.pairwise_singleton _ _
  | x :: r, h => by
    have hx := List.pairwise_cons.mp h
    unfold insT
    split
    · rename_i q
      refine List.pairwise_cons.mpr ⟨fun y hy => ?_, h⟩
      rcases List.mem_cons.mp hy with rfl | hy
      · exact q
      · exact List.le_trans q (hx.1 y hy)
    · rename_i q
      refine List.pairwise_cons.mpr ⟨fun y hy => ?_, insT_sorted k r hx.2⟩
      rcases List.mem_cons.mp ((insT_perm k r).mem_iff.mp hy) with rfl | hy
      · exact (List.le_total _ _).resolve_left q
      · exact hx.1 y hy
theorem sortT_perm : ∀ l, (sortT l).Perm l
  | [] => List.Perm.refl _
  | x :: r => (insT_perm x (sortT r)).trans ((sortT_perm r).cons x)
theorem sortT_sorted : ∀ l, (sortT l).Pairwise leT
  | [] => List.Pairwise.nil
  | x :: r => insT_sorted x _ (sortT_sorted r)
theorem rising_pw : ∀ (l : List Str) (p : Str), risingS p l = true → (p :: l).Pairwise leT
  | [], p, _ => List.pairwise_singleton _ _
  | x :: r, p, h => by
    have h : (!ltCps x.cps.toList p.cps.toList && risingS x r) = true := h
    rw [Bool.and_eq_true] at h
    have q := rising_pw r x h.2
    have hp : leT p x := by
      have h1 := h.1
      rw [ltCps_eq] at h1
      exact List.not_lt.mp (by simpa using h1)
    refine List.pairwise_cons.mpr ⟨fun y hy => ?_, q⟩
    rcases List.mem_cons.mp hy with rfl | hy
    · exact hp
    · exact List.le_trans hp ((List.pairwise_cons.mp q).1 y hy)
theorem sorted_is {l ns : List Str} (p : ns.Perm l) (h : sortedS ns = true) : ns = sortT l := by
  refine List.Perm.eq_of_pairwise (le := leT) (fun a b _ _ => leT_anti) ?_ (sortT_sorted l) (p.trans (sortT_perm l).symm)
  cases ns with
  | nil => exact List.Pairwise.nil
  | cons x r => exact rising_pw r x h

def gSortSet : D → Option Got
  | .str x => if x.cps.size ≤ 60 then some (.l ((sortT (gathL (signsOf x))).map .str)) else none
  | _ => none
def gLenSet : D → Option Got
  | .list ds => (strsD ds).bind fun xs => if xs.length ≤ 4000 then some (.v (.int (gathL xs).length)) else none
  | _ => none
section
variable {X : Cx} {ex : Str → Addr} {W : WX} {pos q p p2 p3 : Pos} {a o e : Expr} {fa fb fo : EM R} {ta : TE}
theorem gath_le (xs : List Str) : (gathL xs).length ≤ xs.length := by
  have h := gath_len xs []
  simpa [gathL] using h
def tSortSet (ta : TE) : TE := fun σ H Q => ta σ H fun x H1 => ∃ z : Str, x = .str z ∧ z.cps.size ≤ 60 ∧ ∀ p, H1 p = none → Q (.ref p) (upd H1 p (.lst ((sortT (gathL (signsOf z))).map V.str)))
theorem pe_sortSet (hg : Gl X "sorted") (hm : X.mg "sorted" = none) (hg2 : Gl X "set") (hm2 : X.mg "set" = none) (ha : PE X a ta) (hc : X.calm = true := by rfl)
    (na : starEach [a] X.env = (false, eval a X.env) :: starEach [] X.env := by rfl) : PE X (.Call (.Name "sorted" p) [.Call (.Name "set" p2) [a] [] q] [] pos) (tSortSet ta) := by
  refine ⟨fun pins s σ H Q I h => ?_⟩
  refine Call_ (ld_blt (u := .builtin "sorted") I hg hm (by decide +kernel) ?_)
  refine PyProof.Rows.callWith_builtin1 (PyProof.Rows.args_cons ?_ rfl) rfl rfl
  refine Call_ (ld_blt I hg2 hm2 PyProof.Rows.boot_set ?_)
  refine PyProof.Rows.callWith_type1 (PyProof.Rows.args_cons (thn (ha.run pins s σ H _ I h) fun v s1 ⟨x, H1, I1, r1, q1⟩ => PyProof.Rows.args_nil ?_) na) na rfl
  obtain ⟨z, rfl, hz, q1⟩ := q1
  obtain ⟨t, rfl⟩ := r1
  refine call_setT_str (I1.ok.hd hc) (by unfold scanBound; omega) fun h' tk hS hk => ?_
  refine PyProof.Rows.args_nil ?_
  have I2 : Inv X pins σ H1 { s1 with heap := h', toks := tk } := I1.kept fun b o e => hk b o (Heap.lt_size e) e
  have hl : (gathL (signsOf z)).length < 64 := by
    have h1 := gath_le (signsOf z)
    have h2 : (signsOf z).length = z.cps.size := by
      unfold signsOf
      rw [List.length_map, Array.length_toList]
    omega
  refine sorted_setT (s := { s1 with heap := h', toks := tk }) hS (I2.ok.hd hc) hl fun s' p out c ns k g o hp hgt hi pm hs => ?_
  have hns := sorted_is pm hs
  have hlen : (ns.map V.str).length ≤ sizeLine := by
    rw [List.length_map, pm.length_eq, sizeLine_eq]
    have h1 : (gathL (signsOf z)).length < 64 := hl
    unfold signsOf at h1
    omega
  have hn : H1 p = none := I2.hok.fresh hp
  have J : Inv X pins σ (upd H1 p (.lst (ns.map V.str))) { heap := s'.heap, gens := s'.gens, drawn := s'.drawn, toks := s'.toks, os := s1.os } :=
    Inv.call (s := { s1 with heap := h', toks := tk }) I2 (ch := []) (Un.laid k hp hn) (I2.hok.laid k hp ⟨hlen, out.toList, c, vals_of_strs hi, hgt⟩) (by rw [g]; exact I2.bare) (fun _ z => nomatch z)
  have e : s' = { heap := s'.heap, gens := s'.gens, drawn := s'.drawn, toks := s'.toks, os := s1.os } := by
    cases s'
    cases o
    rfl
  rw [e]
  refine ⟨.ref p, _, J, rfl, ?_⟩
  rw [hns]
  exact q1 p hn
theorem l_sortSet (hm : X.mg "sorted" = none) (hm2 : X.mg "set" = none) (ha : PE X a (DE ⟨X.K, ex⟩ W fa)) (hg : Gl X "sorted" := by rfl) (hg2 : Gl X "set" := by rfl) (hc : X.calm = true := by rfl)
    (na : starEach [a] X.env = (false, eval a X.env) :: starEach [] X.env := by rfl) : PE X (.Call (.Name "sorted" p) [.Call (.Name "set" p2) [a] [] q] [] pos) (DE ⟨X.K, ex⟩ W (e1 gSortSet fa)) :=
  impE (pe_sortSet hg hm hg2 hm2 ha hc na) fun _ _ _ h => l_1 (r := fun x H1 Q => ∃ z : Str, x = .str z ∧ z.cps.size ≤ 60 ∧ ∀ p, H1 p = none → Q (.ref p) (upd H1 p (.lst ((sortT (gathL (signsOf z))).map V.str)))) (by
    intro F H x d z Q e hl ht rx hg qv ql qt
    unfold gSortSet at hg
    split at hg
    · split at hg
      · cases hg
        exact ⟨_, rep_str rx, by assumption, fun l hl => ql _ _ l rfl (strs_repL _) hl⟩
      · cases hg
    · cases hg) h
def tLenSetT (ta : TE) : TE := fun σ H Q => ta σ H fun x H1 => ∃ (l : Addr) (xs : List Str), x = .ref l ∧ H1 l = some (.lst (xs.map V.str)) ∧ xs.length ≤ 4000 ∧ Q (.int ((gathL xs).length : Nat)) H1
theorem pe_lenSetT (hg : Gl X "len") (hm : X.mg "len" = none) (hg2 : Gl X "set") (hm2 : X.mg "set" = none) (ha : PE X a ta) (hc : X.calm = true := by rfl)
    (na : starEach [a] X.env = (false, eval a X.env) :: starEach [] X.env := by rfl) : PE X (.Call (.Name "len" p) [.Call (.Name "set" p2) [a] [] q] [] pos) (tLenSetT ta) := by
  refine ⟨fun pins s σ H Q I h => ?_⟩
  refine Call_ (ld_blt I hg hm boot_len ?_)
  refine PyProof.Rows.callWith_builtin1 (PyProof.Rows.args_cons ?_ rfl) rfl rfl
  refine Call_ (ld_blt I hg2 hm2 PyProof.Rows.boot_set ?_)
  refine PyProof.Rows.callWith_type1 (PyProof.Rows.args_cons (thn (ha.run pins s σ H _ I h) fun v s1 ⟨x, H1, I1, r1, q1⟩ => PyProof.Rows.args_nil ?_) na) na rfl
  obtain ⟨l, xs, rfl, hq, hz, q1⟩ := q1
  cases r1
  obtain ⟨its, r, pl, _⟩ := I1.list (sl_of hq)
  refine call_setT_list (I1.ok.hd hc) pl.isList (by simpa using strsAre_of r) (by unfold scanBound; omega) fun h' tk hS hk => ?_
  refine PyProof.Rows.args_nil ?_
  have I2 : Inv X pins σ H1 { s1 with heap := h', toks := tk } := I1.kept fun b o e => hk b o (Heap.lt_size e) e
  obtain ⟨o, es, ep, t, ho, hex, hd, g, pl2, nd, hb, hf, _⟩ := hS
  have hes : es.size = (gathL xs).length := by
    have q := pl2.length_eq
    rw [List.length_map, Array.length_toList] at q
    exact q
  have hle := gath_le xs
  exact call_len_set ho hex hd hf (by omega) ⟨.int ((gathL xs).length : Nat), H1, I2.tok _, ⟨_, by rw [hes]⟩, q1⟩
theorem l_lenSet (hm : X.mg "len" = none) (hm2 : X.mg "set" = none) (ha : PE X a (DE ⟨X.K, ex⟩ W fa)) (hg : Gl X "len" := by rfl) (hg2 : Gl X "set" := by rfl) (hc : X.calm = true := by rfl)
    (na : starEach [a] X.env = (false, eval a X.env) :: starEach [] X.env := by rfl) : PE X (.Call (.Name "len" p) [.Call (.Name "set" p2) [a] [] q] [] pos) (DE ⟨X.K, ex⟩ W (e1 gLenSet fa)) :=
  impE (pe_lenSetT hg hm hg2 hm2 ha hc na) fun _ _ _ h => l_1 (r := fun x H1 Q => ∃ (l : Addr) (xs : List Str), x = .ref l ∧ H1 l = some (.lst (xs.map V.str)) ∧ xs.length ≤ 4000 ∧ Q (.int ((gathL xs).length : Nat)) H1) (by
    intro F H x d z Q e hl ht rx hg qv ql qt
    unfold gLenSet at hg
    split at hg
    · rename_i ds
      cases hs : strsD ds with
      | none =>
        rw [hs] at hg
        cases hg
      | some xs =>
        rw [hs] at hg
        obtain ⟨a, vs, rfl, h1, r1⟩ := hl _ rfl
        have hv := strs_rep r1 hs
        subst hv
        simp only [Option.bind_some] at hg
        split at hg
        · cases hg
          exact ⟨a, xs, rfl, h1, by assumption, qv _ _ rfl (.int _)⟩
        · cases hg
    · cases hg) h
/-! ### xs[::-1] -/
def gRev : D → Option Got
  | .list ds => some (.l ds.reverse)
  | _ => none
theorem l_rev {k : Nat} {p1 p2 p3 : Pos} (ha : PE X a (DE ⟨X.K, ex⟩ W fa)) : PE X (.Subscript a (.Slice none none (some (.UnaryOp .USub (.Constant (.int 1) k p1) p2)) p3) pos) (DE ⟨X.K, ex⟩ W (e1 gRev fa)) :=
  impE (pe_revL ha) fun _ _ _ h => l_1 (r := fun x H1 Q => ∃ a xs, x = .ref a ∧ SqL X.K H1 a xs ∧ ∀ p, H1 p = none → Q (.ref p) (upd H1 p (.lst xs.reverse))) (by
    intro F H x d z Q e hl ht rx hg qv ql qt
    unfold gRev at hg
    split at hg
    · cases hg
      obtain ⟨a, xs, rfl, h1, r1⟩ := hl _ rfl
      exact ⟨a, xs, rfl, sl_of h1, fun l hl => ql _ _ l rfl r1.reverse hl⟩
    · cases hg) h
/-! ### methods of texts -/
def strR (x : R) (ρ : En) : Option Str := match rd x ρ with
  | some (.str a) => some a
  | _ => none
theorem strR_ok {x : R} {ρ : En} {a : Str} (h : strR x ρ = some a) : rd x ρ = some (.str a) := by
  unfold strR at h
  split at h
  · cases h
    assumption
  · cases h
def eS1 (g : Str → D → Option Got) (fo fa : EM R) : EM R := EM.bind fo fun x => fun ρ => (strR x ρ).bind fun a => e1 (g a) fa ρ
def g_join (a : Str) : D → Option Got
  | .list ds => (strsD ds).bind fun ys => if (ys.map (·.length)).sum + ys.length * a.length ≤ 16777216 then some (.v (.str (Txt.join a ys))) else none
  | .tuple ds => (strsD ds).bind fun ys => if (ys.map (·.length)).sum + ys.length * a.length ≤ 16777216 then some (.v (.str (Txt.join a ys))) else none
  | _ => none
def g_endswith (a : Str) : D → Option Got
  | .str b => some (.v (.bool (Txt.endswith a b)))
  | _ => none
def g_split (a : Str) : D → Option Got
  | .str b => if (b.length == 0) = false ∧ a.length + 2 ≤ sizeLine then some (.l ((Txt.split a b).map .str)) else none
  | _ => none
theorem s1_in {r : V → List V → Hp → VK → Prop} {g : Str → D → Option Got} (o : ∀ a, Op1 X.K (fun y H Q => r (.str a) [y] H Q) (g a)) {σ : L2.St} {H : Hp} {Q : VK} (h : DE ⟨X.K, ex⟩ W (eS1 g fo fa) σ H Q) : tM1 r (DE ⟨X.K, ex⟩ W fo) (DE ⟨X.K, ex⟩ W fa) σ H Q := by
  obtain ⟨ρ, F, y, E, e, hr⟩ := h
  refine (split E (Fm.refl σ ρ F H) e hr.err).mono fun v H1 ⟨r1, ρ1, F1, E1, m1, _, rr1, e1⟩ => ?_
  cases h1 : strR r1 ρ1 with
  | none =>
    rw [h1] at e1
    cases e1
  | some a =>
    rw [h1] at e1
    have e1 : LF.e1 (g a) fa ρ1 = some y := e1
    have hv := rd_str E1 rr1 (strR_ok h1)
    subst hv
    exact ⟨⟨a, rfl⟩, l_1 (o a) ⟨ρ1, F1, y, E1, e1, Res.base m1 hr⟩⟩
theorem l_join {apos : Pos} (ho : PE X o (DE ⟨X.K, ex⟩ W fo)) (he : PE X e (DE ⟨X.K, ex⟩ W fa)) (hs : starEach [e] X.env = [(false, eval e X.env)] := by rfl) (hbase : attributeBase o "join" X.env (eval o X.env) = eval o X.env := by rfl) (hline : (apos.endLine == pos.line) = true := by rfl) :
    PE X (.Call (.Attribute o "join" apos) [e] [] pos) (DE ⟨X.K, ex⟩ W (eS1 g_join fo fa)) :=
  impE (pe_join ho he hs hbase hline) fun _ _ _ h => s1_in (fun a => by
    intro F H x d z Q e hl ht rx hg qv ql qt
    unfold g_join at hg
    split at hg
    · rename_i ds
      cases hs : strsD ds with
      | none =>
        rw [hs] at hg
        cases hg
      | some xs =>
        rw [hs] at hg
        obtain ⟨p, vs, rfl, h1, r1⟩ := hl _ rfl
        have hv := strs_rep r1 hs
        subst hv
        simp only [Option.bind_some] at hg
        split at hg
        · cases hg
          exact ⟨a, p, xs, rfl, rfl, .inl (sl_of h1), by assumption, qv _ _ rfl (.str _)⟩
        · cases hg
    · rename_i ds
      cases hs : strsD ds with
      | none =>
        rw [hs] at hg
        cases hg
      | some xs =>
        rw [hs] at hg
        obtain ⟨p, vs, rfl, h1, r1⟩ := ht _ rfl
        have hv := strs_rep r1 hs
        subst hv
        simp only [Option.bind_some] at hg
        split at hg
        · cases hg
          exact ⟨a, p, xs, rfl, rfl, .inr (ex_t e h1), by assumption, qv _ _ rfl (.str _)⟩
        · cases hg
    · cases hg) h
theorem l_endswith {apos : Pos} (ho : PE X o (DE ⟨X.K, ex⟩ W fo)) (he : PE X e (DE ⟨X.K, ex⟩ W fa)) (hs : starEach [e] X.env = [(false, eval e X.env)] := by rfl) (hbase : attributeBase o "endswith" X.env (eval o X.env) = eval o X.env := by rfl) (hline : (apos.endLine == pos.line) = true := by rfl) :
    PE X (.Call (.Attribute o "endswith" apos) [e] [] pos) (DE ⟨X.K, ex⟩ W (eS1 g_endswith fo fa)) :=
  impE (pe_m1 F.slot_str_endswith F.type_str_endswith mt_endswith ho he hs hbase hline) fun _ _ _ h => s1_in (fun a => by
    intro F H x d z Q e hl ht rx hg qv ql qt
    unfold g_endswith at hg
    split at hg
    · cases hg
      exact ⟨a, _, rfl, congrArg (· :: []) (rep_str rx), qv _ _ rfl (.bl _)⟩
    · cases hg) h
theorem l_split {apos : Pos} (ho : PE X o (DE ⟨X.K, ex⟩ W fo)) (he : PE X e (DE ⟨X.K, ex⟩ W fa)) (hs : starEach [e] X.env = [(false, eval e X.env)] := by rfl) (hbase : attributeBase o "split" X.env (eval o X.env) = eval o X.env := by rfl) (hline : (apos.endLine == pos.line) = true := by rfl) :
    PE X (.Call (.Attribute o "split" apos) [e] [] pos) (DE ⟨X.K, ex⟩ W (eS1 g_split fo fa)) :=
  impE (pe_split ho he hs hbase hline) fun _ _ _ h => s1_in (fun a => by
    intro F H x d z Q e hl ht rx hg qv ql qt
    unfold g_split at hg
    split at hg
    · split at hg
      · rename_i hc
        cases hg
        exact ⟨a, _, rfl, congrArg (· :: []) (rep_str rx), hc.1, hc.2, fun l hl => ql _ _ l rfl (strs_repL _) hl⟩
      · cases hg
    · cases hg) h
end
end LF
end

-- part LFRulesF
section
set_option Elab.async false
set_option linter.all false
set_option maxRecDepth 100000
set_option maxHeartbeats 4000000
namespace LF
open PySem PySem.Spec PyProof.Rows L2
section
variable {X : Cx} {ex : Str → Addr} {W : WX} {pos : Pos} {e tg : Expr} {fa : EM R}
/-! ### a, b = e -/
def sAsg (tm : D → En → Option En) (f : EM R) : EM Out := EM.bind f fun r => EM.bind (fz r) fun d => fun ρ => (tm d ρ).map fun ρ' => (.ok .nx, ρ')
theorem l_asg {js : List Nat} {g : TG} {tm : D → En → Option En} (to : TgOk X.K js g tm) (hg : PG X tg g) (he : PE X e (DE ⟨X.K, ex⟩ W fa)) (hs : swapsWithSole [tg] e pos.line X.env = pure false := by rfl) (hw : swappedStores [tg] e X.env = pure none := by rfl)
    (h1 : (assignEach [tg] X.env).map (·.2) = [assign tg X.env] := by rfl) : PS X (.Assign [tg] e pos) (DS ⟨X.K, ex⟩ W (sAsg tm fa)) :=
  impS (ps_asg he hg hs hw h1) fun D σ H h => by
    obtain ⟨ρ, F, y, E, e, hr⟩ := h
    refine (split E (Fm.refl σ ρ F H) e hr.err).mono fun v H1 ⟨r1, ρ1, F1, E1, m1, _, rr1, e1⟩ => ?_
    obtain ⟨d, ρ2, F2, Z, e2⟩ := one_in E1 m1 rr1 e1
    cases ht : tm d ρ2 with
    | none =>
      rw [ht] at e2
      cases e2
    | some ρ3 =>
      rw [ht] at e2
      cases e2
      exact to.ok σ ρ2 F2 H1 v d ρ3 _ Z.er Z.rep ht fun σ' E3 m3 _ _ => hr σ' F2 H1 E3 (Z.fm.trans m3)
/-! ### f'..' -/
def gFmt : D → Option Got
  | .str y => if y.length ≤ sizeLine then some (.v (.str y)) else none
  | .int i => if i.natAbs.log2 < 1920 then some (.v (.str (toString i))) else none
  | _ => none
theorem l_fmt {a : Expr} (ha : PE X a (DE ⟨X.K, ex⟩ W fa)) : PE X (.FormattedValue a (-1) none pos) (DE ⟨X.K, ex⟩ W (e1 gFmt fa)) :=
  impE (pe_fmt ha) fun _ _ _ h => l_1 (r := fun x H1 Q => (∃ y : Str, x = .str y ∧ y.length ≤ sizeLine ∧ Q (.str y) H1) ∨ ∃ i : Int, x = .int i ∧ i.natAbs.log2 < 1920 ∧ Q (.str (toString i)) H1) (by
    intro F H x d z Q e hl ht rx hg qv ql qt
    unfold gFmt at hg
    split at hg
    · split at hg
      · cases hg
        exact .inl ⟨_, rep_str rx, by assumption, qv _ _ rfl (.str _)⟩
      · cases hg
    · split at hg
      · cases hg
        exact .inr ⟨_, rep_int rx, by assumption, qv _ _ rfl (.str _)⟩
      · cases hg
    · cases hg) h
def fParts : List (EM R) → Str → EM R
  | [], acc => EM.pure (.val (.str acc))
  | f :: fs, acc => EM.bind f fun r => fun ρ => (strR r ρ).bind fun y => if (acc ++ y).length ≤ sizeLine then fParts fs (acc ++ y) ρ else none
def eFs (fs : List (EM R)) : EM R := fParts fs Str.empty
theorem js_in : ∀ (fs : List (EM R)) (acc : Str) {σ : L2.St} {H : Hp} {Q : VK}, DE ⟨X.K, ex⟩ W (fParts fs acc) σ H Q → tJs (fs.map fun f => DE ⟨X.K, ex⟩ W f) acc σ H fun out H1 => Q (.str out) H1
  | [], acc, σ, H, Q, h => c_in (X := X) (ex := ex) (W := W) (fun _ => .str acc) h
  | f :: fs, acc, σ, H, Q, h => by
    obtain ⟨ρ, F, y, E, e, hr⟩ := h
    refine (split E (Fm.refl σ ρ F H) e hr.err).mono fun v H1 ⟨r1, ρ1, F1, E1, m1, _, rr1, e1⟩ => ?_
    cases h1 : strR r1 ρ1 with
    | none =>
      rw [h1] at e1
      cases e1
    | some a =>
      rw [h1] at e1
      simp only [Option.bind_some] at e1
      split at e1
      · rename_i hz
        exact ⟨a, rd_str E1 rr1 (strR_ok h1), hz, js_in fs (acc ++ a) ⟨ρ1, F1, y, E1, e1, Res.base m1 hr⟩⟩
      · cases e1
theorem l_fs {v1 v2 : Expr} {rest : List Expr} {fs : List (EM R)} (h : PJ X (v1 :: v2 :: rest) (fs.map fun f => DE ⟨X.K, ex⟩ W f)) : PE X (.JoinedStr (v1 :: v2 :: rest) pos) (DE ⟨X.K, ex⟩ W (eFs fs)) :=
  impE (pe_joined h) fun _ _ _ h => js_in fs Str.empty h
end
end LF
end

-- part LFRulesG
section
set_option Elab.async false
set_option linter.all false
set_option maxRecDepth 100000
set_option maxHeartbeats 4000000
namespace LF
open PySem PySem.Spec PyProof.Rows L2

/-! ### dicts whose keys are ints and texts -/
def keyD : D → Option Key
  | .int i => some (.inl i)
  | .str x => some (.inr x)
  | _ => none
def dkey : Key → D
  | .inl i => .int i
  | .inr x => .str x
theorem keyD_dkey (k : Key) : keyD (dkey k) = some k := by cases k <;> rfl
theorem rep_key {K : PySem.W.Frag} {F : Hp} {v : V} {d : D} {k : Key} (h : Rep K F v d) (e : keyD d = some k) : v = kV k := by
  cases d <;> simp [keyD] at e
  · subst e
    exact rep_int h
  · subst e
    exact rep_str h
def unK : List (D × D) → Option (List (Key × D))
  | [] => some []
  | p :: r => (keyD p.1).bind fun k => (unK r).map ((k, p.2) :: ·)
theorem unK_dkey : ∀ kvs : List (Key × D), unK (kvs.map fun p => (dkey p.1, p.2)) = some kvs
  | [] => rfl
  | p :: r => by
    rw [List.map_cons, unK, keyD_dkey, unK_dkey r]
    rfl
theorem M_dK (kvs : List (Key × D)) : (M.dK kvs).d = .dict (kvs.map fun p => (dkey p.1, p.2)) := by
  show PyData.dict _ = PyData.dict _
  congr 1
def valD (kvs : List (Key × D)) (k : Key) : Option D := (kvs.find? fun kv => decide (kv.1 = k)).map (·.2)
def putD (kvs : List (Key × D)) (k : Key) (d : D) : List (Key × D) :=
  if (kvs.any fun kv => decide (kv.1 = k)) = true then kvs.map (fun kv => if kv.1 = k then (kv.1, d) else kv) else kvs ++ [(k, d)]
section
variable {K : PySem.W.Frag} {F F' H : Hp}
theorem RepK.length : ∀ {vs : List (Key × V)} {ds : List (Key × D)}, RepK K F vs ds → vs.length = ds.length
  | _, _, .nil => rfl
  | _, _, .cons _ r => by rw [List.length_cons, List.length_cons, RepK.length r]
/-- the value of a key -/
def RepO (K : PySem.W.Frag) (F : Hp) : Option V → Option D → Prop
  | some v, some d => Rep K F v d
  | none, none => True
  | _, _ => False
theorem RepK.val (k : Key) : ∀ {vs : List (Key × V)} {ds : List (Key × D)}, RepK K F vs ds → RepO K F (valV vs k) (valD ds k)
  | _, _, .nil => True.intro
  | _, _, .cons (k := j) (v := v) (d := d) h r => by
    have ih := RepK.val k r
    by_cases e : j = k
    · have h1 : ∀ r : List (Key × D), valD ((j, d) :: r) k = some d := fun r => by
        unfold valD
        rw [List.find?_cons_of_pos (by simpa using e)]
        rfl
      rw [valV_pos e, h1]
      exact h
    · have h1 : ∀ r : List (Key × D), valD ((j, d) :: r) k = valD r k := fun r => by
        unfold valD
        rw [List.find?_cons_of_neg (by simpa using e)]
      rw [valV_neg e, h1]
      exact ih
theorem RepK.any (k : Key) : ∀ {vs : List (Key × V)} {ds : List (Key × D)}, RepK K F vs ds → (vs.any fun kv => decide (kv.1 = k)) = ds.any fun kv => decide (kv.1 = k)
  | _, _, .nil => rfl
  | _, _, .cons _ r => by rw [List.any_cons, List.any_cons, RepK.any k r]
theorem RepK.snoc {k : Key} {v : V} {d : D} (h : Rep K F v d) : ∀ {vs : List (Key × V)} {ds : List (Key × D)}, RepK K F vs ds → RepK K F (vs ++ [(k, v)]) (ds ++ [(k, d)])
  | _, _, .nil => .cons h .nil
  | _, _, .cons g r => .cons g (RepK.snoc h r)
theorem RepK.repl {k : Key} {v : V} {d : D} (h : Rep K F v d) : ∀ {vs : List (Key × V)} {ds : List (Key × D)}, RepK K F vs ds → RepK K F (vs.map fun kv => if kv.1 = k then (kv.1, v) else kv) (ds.map fun kv => if kv.1 = k then (kv.1, d) else kv)
  | _, _, .nil => .nil
  | _, _, .cons (k := j) g r => by
    rw [List.map_cons, List.map_cons]
    by_cases e : j = k
    · rw [if_pos e, if_pos e]
      exact .cons h (RepK.repl h r)
    · rw [if_neg e, if_neg e]
      exact .cons g (RepK.repl h r)
theorem RepK.put {k : Key} {v : V} {d : D} (h : Rep K F v d) {vs : List (Key × V)} {ds : List (Key × D)} (r : RepK K F vs ds) : RepK K F (putK vs k v) (putD ds k d) := by
  unfold putK putD
  rw [r.any k]
  split
  · exact RepK.repl h r
  · exact RepK.snoc h r
theorem rep_dict {v : V} {ps : List (D × D)} {kvs : List (Key × D)} (h : Rep K F v (.dict ps)) (e : unK ps = some kvs) : ∃ a xs, v = .ref a ∧ F a = some (.dK xs) ∧ RepK K F xs kvs := by
  generalize hd : (PyData.dict ps : D) = d at h
  cases h with
  | dK h1 h2 =>
    rename_i es
    rw [M_dK] at hd
    injection hd with hd
    rw [hd, unK_dkey] at e
    injection e with e
    subst e
    exact ⟨_, _, rfl, h1, h2⟩
  | ro h1 h2 =>
    cases hd
    cases e
  | _ => cases hd
theorem rd_dict {σ : L2.St} {ρ : En} {H0 : Hp} {v : V} {r : R} {ps : List (D × D)} {kvs : List (Key × D)} (E : ER K σ ρ F H) (h : RR K H0 σ ρ F H v r) (e : rd r ρ = some (.dict ps)) (u : unK ps = some kvs) : ∃ a xs, v = .ref a ∧ H a = some (.dK xs) ∧ RepK K F xs kvs := by
  rcases rd_cases E h e with h | ⟨a, ho, m, rfl, h1, h2, e⟩
  · obtain ⟨a, xs, e, h1, h2⟩ := rep_dict h u
    exact ⟨a, xs, e, E.sub _ _ h1, h2⟩
  · cases h2 with
    | lst h2 => cases e
    | dK h2 =>
      rw [M_dK] at e
      injection e with e
      rw [e, unK_dkey] at u
      injection u with u
      subst u
      exact ⟨a, _, rfl, h1, h2⟩
end
def gKeyIn (neg : Bool) : D → D → Option Got
  | y, .dict ps => (keyD y).bind fun k => (unK ps).map fun kvs => .v (.bool (if neg then !(valD kvs k).isSome else (valD kvs k).isSome))
  | _, _ => none
def gKeyIx : D → D → Option Got
  | .dict ps, y => (keyD y).bind fun k => (unK ps).bind fun kvs => (valD kvs k).map .v
  | _, _ => none
theorem repO_some {K : PySem.W.Frag} {F : Hp} {o : Option V} {p : Option D} (h : RepO K F o p) : o.isSome = p.isSome := by
  cases o <;> cases p <;> first | rfl | exact h.elim
section
variable {X : Cx} {ex : Str → Addr} {W : WX} {pos pos' p : Pos} {e a b : Expr} {fa fb : EM R} {x : Str}
theorem op_inK (hu : X.A.units + 1 < cLine) : OpR X (compareOp .In) (fun y x H Q => ∃ a o, x = .ref a ∧ DGet H a y o ∧ Q (.bl o.isSome) H) := by
  intro pins s σ H y x v u Q I ry rx ⟨a, o, ex, g, q⟩
  subst ex
  cases (show u = Value.ref a from rx)
  exact d_in hu I g ry fun s' I' => ⟨.bl o.isSome, H, I', rfl, q⟩
theorem op_niK (hu : X.A.units + 1 < cLine) : OpR X (compareOp .NotIn) (fun y x H Q => ∃ a o, x = .ref a ∧ DGet H a y o ∧ Q (.bl (!o.isSome)) H) := by
  intro pins s σ H y x v u Q I ry rx ⟨a, o, ex, g, q⟩
  subst ex
  cases (show u = Value.ref a from rx)
  exact d_notIn hu I g ry fun s' I' => ⟨.bl (!o.isSome), H, I', rfl, q⟩
/-- two parts are read, then what is made of them -/
theorem two_in {g : D → D → Option Got} {fa fb : EM R} {σ : L2.St} {H : Hp} {Q : VK} {P : V → V → Hp → Prop} (h : DE ⟨X.K, ex⟩ W (e2 g fa fb) σ H Q)
    (k : ∀ F2 H2 ρ2 v u d d' z r1 r2 Ha Hb, ER X.K σ ρ2 F2 H2 → RR X.K Ha σ ρ2 F2 H2 v r1 → RR X.K Hb σ ρ2 F2 H2 u r2 → rd r1 ρ2 = some d → rd r2 ρ2 = some d' → g d d' = some z → (∀ w e, z = .v e → Rep X.K F2 w e → Q w H2) → P v u H2) :
    (DE ⟨X.K, ex⟩ W fa) σ H fun v H1 => (DE ⟨X.K, ex⟩ W fb) σ H1 fun u H2 => P v u H2 := by
  obtain ⟨ρ, F, y, E, e, hr⟩ := h
  refine (split E (Fm.refl σ ρ F H) e hr.err).mono fun v H1 ⟨r1, ρ1, F1, E1, m1, _, rr1, e1⟩ => ?_
  refine (split E1 m1 e1 hr.err).mono fun u H2 ⟨r2, ρ2, F2, E2, m2, m12, rr2, e2⟩ => ?_
  have rr1 := rr1.step E1 m12
  have e2 : (match rd r1 ρ2, rd r2 ρ2 with
    | some d, some d' => (g d d').map fun z => (Except.ok (ε := Exc) z.r, ρ2)
    | _, _ => none) = some y := e2
  cases h1 : rd r1 ρ2 with
  | none =>
    rw [h1] at e2
    cases e2
  | some d =>
    cases h2 : rd r2 ρ2 with
    | none =>
      rw [h1, h2] at e2
      cases e2
    | some d' =>
      rw [h1, h2] at e2
      have e2 : (g d d').map (fun z => (Except.ok (ε := Exc) z.r, ρ2)) = some y := e2
      cases hg : g d d' with
      | none =>
        rw [hg] at e2
        cases e2
      | some z =>
        rw [hg] at e2
        cases e2
        exact k F2 H2 ρ2 v u d d' z r1 r2 _ _ E2 rr1 rr2 h1 h2 hg fun w e q rp => by
          subst q
          exact fin_val hr E2 m2 rp
theorem key_in_at {neg : Bool} {F H : Hp} {σ : L2.St} {ρ : En} {v u : V} {d d' : D} {z : Got} {r1 r2 : R} {Ha Hb : Hp} {Q : VK} (E : ER X.K σ ρ F H) (rr1 : RR X.K Ha σ ρ F H v r1) (rr2 : RR X.K Hb σ ρ F H u r2) (h1 : rd r1 ρ = some d) (h2 : rd r2 ρ = some d') (hg : gKeyIn neg d d' = some z)
    (q : ∀ w e, z = .v e → Rep X.K F w e → Q w H) : ∃ a o, u = .ref a ∧ DGet H a v o ∧ Q (.bl (if neg then !o.isSome else o.isSome)) H := by
  cases d' with
  | dict ps =>
    have hg : (keyD d).bind (fun k => (unK ps).map fun kvs => Got.v (.bool (if neg then !(valD kvs k).isSome else (valD kvs k).isSome))) = some z := by
      cases d <;> exact hg
    cases hk : keyD d with
    | none =>
      rw [hk] at hg
      cases hg
    | some k =>
      cases hp : unK ps with
      | none =>
        rw [hk, hp] at hg
        cases hg
      | some kvs =>
        rw [hk, hp] at hg
        cases hg
        obtain ⟨a, xs, rfl, g1, g2⟩ := rd_dict E rr2 h2 hp
        have hv := rep_key (rd_rep E rr1 h1) hk
        subst hv
        refine ⟨a, valV xs k, rfl, DGet.k g1, ?_⟩
        rw [repO_some (g2.val k)]
        exact q _ _ rfl (.bl _)
  | _ => cases d <;> cases hg
theorem l_inK (hu : X.A.units + 1 < cLine) (ha : PE X a (DE ⟨X.K, ex⟩ W fa)) (hb : PE X b (DE ⟨X.K, ex⟩ W fb)) (hm : behindInMarks .In b = false := by rfl) : PE X (.Compare a [.In] [b] pos) (DE ⟨X.K, ex⟩ W (e2 (gKeyIn false) fa fb)) :=
  impE (pe_cmpR (op_inK hu) ha hb hm) fun _ _ _ h => two_in h fun _ _ _ _ _ _ _ _ _ _ _ _ E q1 q2 h1 h2 hg k => key_in_at (neg := false) E q1 q2 h1 h2 hg k
theorem l_niK (hu : X.A.units + 1 < cLine) (ha : PE X a (DE ⟨X.K, ex⟩ W fa)) (hb : PE X b (DE ⟨X.K, ex⟩ W fb)) (hm : behindInMarks .NotIn b = false := by rfl) : PE X (.Compare a [.NotIn] [b] pos) (DE ⟨X.K, ex⟩ W (e2 (gKeyIn true) fa fb)) :=
  impE (pe_cmpR (op_niK hu) ha hb hm) fun _ _ _ h => two_in h fun _ _ _ _ _ _ _ _ _ _ _ _ E q1 q2 h1 h2 hg k => key_in_at (neg := true) E q1 q2 h1 h2 hg k
theorem l_inKT (hu : X.A.units + 1 < cLine) (ha : PE X a (DE ⟨X.K, ex⟩ W fa)) (hb : PE X b (DE ⟨X.K, ex⟩ W fb)) (hm : behindInMarks .In b = false := by rfl) : PT X (.Compare a [.In] [b] pos) (DT ⟨X.K, ex⟩ W (tB (e2 (gKeyIn false) fa fb))) :=
  impT (pt_cmpR (op_inK hu) ha hb hm) fun _ _ Q h => two_in (tb_in h) fun _ _ _ _ _ _ _ _ _ _ _ _ E q1 q2 h1 h2 hg k => key_in_at (neg := false) (Q := fun x H' => ∃ kk, x = .bl kk ∧ Q kk H') E q1 q2 h1 h2 hg k
theorem l_niKT (hu : X.A.units + 1 < cLine) (ha : PE X a (DE ⟨X.K, ex⟩ W fa)) (hb : PE X b (DE ⟨X.K, ex⟩ W fb)) (hm : behindInMarks .NotIn b = false := by rfl) : PT X (.Compare a [.NotIn] [b] pos) (DT ⟨X.K, ex⟩ W (tB (e2 (gKeyIn true) fa fb))) :=
  impT (pt_cmpR (op_niK hu) ha hb hm) fun _ _ Q h => two_in (tb_in h) fun _ _ _ _ _ _ _ _ _ _ _ _ E q1 q2 h1 h2 hg k => key_in_at (neg := true) (Q := fun x H' => ∃ kk, x = .bl kk ∧ Q kk H') E q1 q2 h1 h2 hg k
/-- d[k] -/
theorem l_ixK (hu : X.A.units + 1 < cLine) (ha : PE X a (DE ⟨X.K, ex⟩ W fa)) (hb : PE X b (DE ⟨X.K, ex⟩ W fb)) (hs : NoSl b := by intro _ _; rfl) : PE X (.Subscript a b pos) (DE ⟨X.K, ex⟩ W (e2 gKeyIx fa fb)) :=
  impE (pe_dget hu ha hb hs) fun _ _ _ h => two_in h fun F2 H2 ρ2 v u d d' z r1 r2 Ha Hb E rr1 rr2 h1 h2 hg q => by
    cases d with
    | dict ps =>
      have hg : (keyD d').bind (fun k => (unK ps).bind fun kvs => (valD kvs k).map Got.v) = some z := hg
      cases hk : keyD d' with
      | none =>
        rw [hk] at hg
        cases hg
      | some k =>
        cases hp : unK ps with
        | none =>
          rw [hk, hp] at hg
          cases hg
        | some kvs =>
          rw [hk, hp] at hg
          have hg : (valD kvs k).map Got.v = some z := hg
          obtain ⟨a, xs, rfl, g1, g2⟩ := rd_dict E rr1 h1 hp
          have hv := rep_key (rd_rep E rr2 h2) hk
          subst hv
          have g3 := g2.val k
          cases hw : valD kvs k with
          | none =>
            rw [hw] at hg
            cases hg
          | some d2 =>
            rw [hw] at hg
            cases hg
            rw [hw] at g3
            cases hx : valV xs k with
            | none =>
              rw [hx] at g3
              exact g3.elim
            | some v2 =>
              rw [hx] at g3
              exact ⟨a, v2, rfl, hx ▸ DGet.k g1, q _ _ rfl g3⟩
    | _ => cases hg
/-- {} -/
def eDnew : EM R := EM.pure (.fr (.dK []))
theorem l_dnew : PE X (.Dict [] [] pos) (DE ⟨X.K, ex⟩ W eDnew) := impE pe_dnewK fun σ H Q h => by
  obtain ⟨ρ, F, y, E, e, hr⟩ := h
  cases e
  exact fun p hp => fin_new hr E (Fm.refl σ ρ F H) (.dK .nil) hp
/-- d[k] = e, of a dict of one's own or a caller's -/
def ownK : Option Slot → Option (List (Key × D) × Ow)
  | some (.own (.dK xs) .loc) => some (xs, .loc)
  | some (.own (.dK xs) .bor) => some (xs, .bor)
  | _ => none
theorem ownK_ok {s : Option Slot} {xs : List (Key × D)} {w : Ow} (h : ownK s = some (xs, w)) : s = some (.own (.dK xs) w) ∧ w ≠ .lck := by
  unfold ownK at h
  split at h
  · cases h
    exact ⟨rfl, by decide⟩
  · cases h
    exact ⟨rfl, by decide⟩
  · cases h
def sSetK (i : Nat) (fv fi : EM R) : EM Out := EM.bind fv fun r => fun ρ => (ownK ρ[i]?).bind fun _ => EM.bind fi (fun q => fun ρ => ((rd q ρ).bind keyD).bind fun k => EM.bind (fz r) (fun d => fun ρ => (ownK ρ[i]?).bind fun p => if p.1.length < sizeLine then some (.ok .nx, ρ.set i (.own (.dK (putD p.1 k d)) p.2)) else none) ρ) ρ
theorem l_setK {i : Nat} (hu : X.A.units + 1 < cLine) (hv : PE X e (DE ⟨X.K, ex⟩ W fa)) (hi : PE X b (DE ⟨X.K, ex⟩ W fb)) (hN : X.N[i]? = some x := by rfl) (hvis : Vis X.env.scope x := by first | exact Or.inl rfl | exact Or.inr (Or.inl rfl) | exact Or.inr (Or.inr rfl))
    (hs : swapsWith e (some (.Subscript (.Name x p) b pos')) pos.line X.env = pure false := by rfl) (hd : (x == ("__debug__" : Str)) = false := by decide) (hcd : (x == ("__classdict__" : Str)) = false := by decide) :
    PS X (.Assign [.Subscript (.Name x p) b pos'] e pos) (DS ⟨X.K, ex⟩ W (sSetK i fa fb)) :=
  impS (ps_dput hu (pe_var hN hvis hd hcd) hi hv hs) fun D σ H h => by
    obtain ⟨ρ, F, y, E, e, hr⟩ := h
    refine (split E (Fm.refl σ ρ F H) e hr.err).mono fun v H1 ⟨r1, ρ1, F1, E1, m1, _, rr1, e1⟩ => ?_
    cases h0 : ownK ρ1[i]? with
    | none =>
      rw [h0] at e1
      cases e1
    | some p0 =>
      rw [h0] at e1
      obtain ⟨hi0, _⟩ := ownK_ok (w := p0.2) (xs := p0.1) h0
      obtain ⟨l, ho0, k1, k2, k3, k4⟩ := E1.own i _ _ hi0
      refine ⟨.ref l, k1, ?_⟩
      refine (split E1 m1 e1 hr.err).mono fun u H2 ⟨r2, ρ2, F2, E2, m2, m12, rr2, e2⟩ => ?_
      have rr1 := rr1.step E1 m12
      cases hq : (rd r2 ρ2).bind keyD with
      | none =>
        rw [hq] at e2
        cases e2
      | some k =>
        rw [hq] at e2
        obtain ⟨d, ρ3, F3, Z, e3⟩ := one_in E2 m2 rr1 e2
        cases ho : ownK ρ3[i]? with
        | none =>
          rw [ho] at e3
          cases e3
        | some q =>
          obtain ⟨items, w⟩ := q
          rw [ho] at e3
          obtain ⟨hi, hw⟩ := ownK_ok ho
          have e3 : (if items.length < sizeLine then some (Except.ok (ε := Exc) Out.nx, ρ3.set i (.own (.dK (putD items k d)) w)) else none) = some y := e3
          split at e3
          · rename_i hl
            cases e3
            obtain ⟨a, ho', g1, g2, g3, g4⟩ := Z.er.own i (.dK items) w hi
            cases g4 with
            | dK g4 =>
              rw [k1] at g1
              injection g1 with g1
              injection g1 with g1
              injection g1 with g1
              subst g1
              obtain ⟨d2, hr2, hk2⟩ := Option.bind_eq_some_iff.mp hq
              have hv := rep_key (rd_rep E2 rr2 hr2) hk2
              subst hv
              refine ⟨l, _, rfl, DPut.k g3 (by rw [g4.length]; exact hl), ?_⟩
              exact hr σ F3 _ (Z.er.chg hi k1 hw (.dK (RepK.put Z.rep g4))) (Z.fm.trans (Fm.chg Z.er hi k1 hw))
          · cases e3
end
end LF
end

-- part LFRulesH
section
set_option Elab.async false
set_option linter.all false
set_option maxRecDepth 100000
set_option maxHeartbeats 4000000
namespace LF
open PySem PySem.Spec PyProof.Rows L2

/-! ### a, b = x, y and a, b, c = x, y, z with a display on the right -/
def storN : List Nat → List R → EM Unit
  | [], [] => EM.pure ()
  | j :: js, .val d :: rs => EM.bind (stor j (.val d)) fun _ => storN js rs
  | j :: js, .fr m :: rs => EM.bind (stor j (.fr m)) fun _ => storN js rs
  | _, _ => EM.stuck
def putAll : L2.St → List Nat → List V → L2.St
  | σ, j :: js, v :: vs => putAll (σ.set j (some v)) js vs
  | σ, _, _ => σ
def sPar (js : List Nat) (fs : EM (List R)) : EM Out := EM.bind fs fun rs => EM.bind (storN js rs) fun _ => EM.pure .nx
section
variable {K : PySem.W.Frag} {σ σ0 : L2.St} {ρ ρ0 : En} {F F0 H H0 : Hp}
theorem owns_set {i : Nat} {v : V} {s : Slot} {p : Addr} (n : ¬ Owns σ ρ p) (h : ∀ m o, s = .own m o → v ≠ .ref p) : ¬ Owns (σ.set i (some v)) (ρ.set i s) p := by
  rintro ⟨k, m, o, h1, h2⟩
  rcases get_set h1 with ⟨rfl, q⟩ | ⟨n1, h1⟩
  · rcases get_set h2 with ⟨_, z⟩ | ⟨z, _⟩
    · injection z with z
      exact h m o q.symm z.symm
    · exact z rfl
  · rw [List.getElem?_set_ne (Ne.symm n1)] at h2
    exact n ⟨k, m, o, h1, h2⟩
theorem RR.setS {i : Nat} {v w : V} {s : Slot} {r : R} (h : RR K H0 σ ρ F H w r) (hl : ∀ j, r ≠ .loc j) (n : ∀ m p m' o, r = .fr m → w = .ref p → s = .own m' o → v ≠ .ref p) : RR K H0 (σ.set i (some v)) (ρ.set i s) F H w r := by
  cases r with
  | val d => exact h
  | fr m =>
    obtain ⟨p, ho, e, h0, h1, h2, h3, h4⟩ := h
    exact ⟨p, ho, e, h0, h1, h2, h3, owns_set h4 fun m' o q => n m p m' o rfl e q⟩
  | loc j => exact absurd rfl (hl j)
def flatR : List R → Bool
  | [] => true
  | .loc _ :: _ => false
  | _ :: rs => flatR rs
theorem storN_flat : ∀ {js : List Nat} {rs : List R} {ρ : En} {y : Except Exc Unit × En}, storN js rs ρ = some y → flatR rs = true
  | [], [], _, _, _ => rfl
  | [], _ :: _, _, _, h => by cases h
  | _ :: _, [], _, _, h => by cases h
  | j :: js, r :: rs, ρ, y, h => by
    cases r with
    | loc i => cases h
    | val d =>
      have h : EM.bind (stor j (.val d)) (fun _ => storN js rs) ρ = some y := h
      show flatR rs = true
      cases hs : stor j (.val d) ρ with
      | none =>
        rw [bind_none hs] at h
        cases h
      | some z =>
        rcases z with ⟨z | z, ρ1⟩
        · have hs : (stVal j d ρ).map (fun ρ' => (Except.ok (ε := Exc) (), ρ')) = some (.error z, ρ1) := hs
          cases e : stVal j d ρ <;> rw [e] at hs <;> cases hs
        · rw [bind_ok hs] at h
          exact storN_flat h
    | fr m =>
      have h : EM.bind (stor j (.fr m)) (fun _ => storN js rs) ρ = some y := h
      show flatR rs = true
      cases hs : stor j (.fr m) ρ with
      | none =>
        rw [bind_none hs] at h
        cases h
      | some z =>
        rcases z with ⟨z | z, ρ1⟩
        · have hs : (if pinned ρ j = true then none else some (Except.ok (ε := Exc) (), ρ.set j (.own m .loc))) = some (.error z, ρ1) := hs
          split at hs <;> cases hs
        · rw [bind_ok hs] at h
          exact storN_flat h
theorem rrs_set {i : Nat} {v : V} {s : Slot} : ∀ {vs : List V} {rs : List R}, RRs K H0 σ ρ F H vs rs → flatR rs = true →
    (∀ m' o p m, s = .own m' o → v = .ref p → ¬ ((V.ref p, R.fr m) ∈ vs.zip rs)) → RRs K H0 (σ.set i (some v)) (ρ.set i s) F H vs rs
  | _, _, .nil, _, _ => .nil
  | _, _, .cons (v := w) (r := r) (vs := vs) (rs := rs) h t n, hf, g => by
    have hl : ∀ j, r ≠ .loc j := fun j z => by
      subst z
      cases hf
    have ht : flatR rs = true := by
      cases r with
      | loc j => exact absurd rfl (hl j)
      | _ => exact hf
    refine .cons (h.setS hl fun m p m' o e1 e2 e3 e4 => g m' o p m e3 e4 ?_) (rrs_set t ht fun m' o p m e1 e2 z => g m' o p m e1 e2 (List.mem_cons_of_mem _ z)) n
    rw [e1, e2]
    exact List.mem_cons_self
theorem storN_ok : ∀ {js : List Nat} {rs : List R} {vs : List V} {σ : L2.St} {ρ : En} {y : Except Exc Unit × En}, ER K σ ρ F H → Fm σ0 ρ0 F0 H0 σ ρ F H → RRs K H0 σ ρ F H vs rs → storN js rs ρ = some y →
    ∃ ρ', y = (.ok (), ρ') ∧ ER K (putAll σ js vs) ρ' F H ∧ Fm σ0 ρ0 F0 H0 (putAll σ js vs) ρ' F H
  | [], [], _, _, _, _, E, m, .nil, h => by
    cases h
    exact ⟨_, rfl, E, m⟩
  | [], _ :: _, _, _, _, _, _, _, _, h => by cases h
  | _ :: _, [], _, _, _, _, _, _, _, h => by cases h
  | j :: js, .loc i :: rs, _, _, _, _, _, _, _, h => by cases h
  | j :: js, .val d :: rs, _, σ, ρ, y, E, m, .cons (v := v) (vs := vs) hr t n, h => by
    have hf := storN_flat h
    have h : EM.bind (stor j (.val d)) (fun _ => storN js rs) ρ = some y := h
    cases hs : stVal j d ρ with
    | none =>
      rw [bind_none (show stor j (.val d) ρ = none by show (stVal j d ρ).map _ = none; rw [hs]; rfl)] at h
      cases h
    | some ρ1 =>
      rw [bind_ok (show stor j (.val d) ρ = some (.ok (), ρ1) by show (stVal j d ρ).map _ = _; rw [hs]; rfl)] at h
      obtain ⟨h1, h2, h3⟩ := stVal_ok E m hr hs
      subst h3
      have t2 : RRs K H0 (σ.set j (some v)) (ρ.set j (.val d)) F H vs rs := rrs_set t hf fun m' o p mm e1 => by cases e1
      have q := storN_ok h1 h2 t2 h
      exact q
  | j :: js, .fr mm :: rs, _, σ, ρ, y, E, m, .cons (v := v) (vs := vs) hr t n, h => by
    have hf := storN_flat h
    have h : EM.bind (stor j (.fr mm)) (fun _ => storN js rs) ρ = some y := h
    by_cases hp : pinned ρ j = true
    · rw [bind_none (show stor j (.fr mm) ρ = none by show (if pinned ρ j = true then none else _) = none; rw [if_pos hp])] at h
      cases h
    · rw [bind_ok (show stor j (.fr mm) ρ = some (.ok (), ρ.set j (.own mm .loc)) by show (if pinned ρ j = true then none else _) = _; rw [if_neg hp])] at h
      have hp : pinned ρ j = false := by simpa using hp
      obtain ⟨p, ho, e, h0, h1, h2, h3, h4⟩ := hr
      subst e
      have t2 : RRs K H0 (σ.set j (some (.ref p))) (ρ.set j (.own mm .loc)) F H vs rs := rrs_set t hf fun m' o p' m2 e1 e2 => by
        injection e2 with e2
        subst e2
        exact n mm m2 p rfl rfl
      have q := storN_ok (E.setOwn (pinned_lt hp) h1 h2 h3 h4) (Fm.setOwn m hp h0) t2 h
      exact q
end
section
variable {X : Cx} {ex : Str → Addr} {W : WX} {pos px py pz pt pt2 : Pos} {a b c : Expr} {fs : EM (List R)} {x y z : Str} {i j l : Nat}
theorem par_in {js : List Nat} {σ : L2.St} {H : Hp} {D : Ends} {T : TS} (h : DS ⟨X.K, ex⟩ W (sPar js fs) D σ H) (k : ∀ {σ H}, ((DA ⟨X.K, ex⟩ W fs) σ H fun vs H1 => vs.length = js.length ∧ D.nx (putAll σ js vs) H1) → T D σ H) : T D σ H := by
  refine k ?_
  obtain ⟨ρ, F, w, E, e, hr⟩ := h
  refine (splitA E (Fm.refl σ ρ F H) e hr.err).mono fun vs H1 ⟨rs, ρ1, F1, E1, m1, _, rrs, e1⟩ => ?_
  cases hs : storN js rs ρ1 with
  | none =>
    rw [bind_none hs] at e1
    cases e1
  | some q =>
    obtain ⟨ρ2, rfl, h1, h2⟩ := storN_ok E1 m1 rrs hs
    rw [bind_ok hs] at e1
    cases e1
    refine ⟨?_, hr _ F1 H1 h1 h2⟩
    have len : ∀ {js : List Nat} {rs : List R} {vs : List V} {ρ : En} {y : Except Exc Unit × En}, storN js rs ρ = some y → rs.length = js.length := by
      intro js
      induction js with
      | nil =>
        intro rs vs ρ y h
        cases rs with
        | nil => rfl
        | cons r rs => cases h
      | cons j js ih =>
        intro rs vs ρ y h
        cases rs with
        | nil => cases h
        | cons r rs =>
          rw [List.length_cons, List.length_cons]
          cases r with
          | loc i => cases h
          | val d =>
            have h : EM.bind (stor j (.val d)) (fun _ => storN js rs) ρ = some y := h
            unfold EM.bind at h
            split at h
            · cases h
            · exact absurd (show (stVal j d ρ).map (fun ρ' => (Except.ok (ε := Exc) (), ρ')) = some _ from ‹_›) (by cases stVal j d ρ <;> simp)
            · rw [ih (vs := vs) h]
          | fr d =>
            have h : EM.bind (stor j (.fr d)) (fun _ => storN js rs) ρ = some y := h
            unfold EM.bind at h
            split at h
            · cases h
            · exact absurd (show (if pinned ρ j = true then none else some (Except.ok (ε := Exc) (), ρ.set j (.own d .loc))) = some _ from ‹_›) (by split <;> simp)
            · rw [ih (vs := vs) h]
    have l2 : ∀ {vs : List V} {rs : List R} {H0 F H : Hp} {ρ : En}, RRs X.K H0 σ ρ F H vs rs → vs.length = rs.length := by
      intro vs rs H0 F H ρ h
      induction h with
      | nil => rfl
      | cons _ _ _ ih => rw [List.length_cons, List.length_cons, ih]
    rw [l2 rrs, len (vs := vs) hs]
theorem l_par2 {kt k2} (hc : X.calm = true) (hN : X.N.Nodup) (ha : PA X [a, b] (DA ⟨X.K, ex⟩ W fs)) (hi : X.N[i]? = some x := by rfl) (hj : X.N[j]? = some y := by rfl) (hij : i ≠ j := by decide)
    (hx : X.env.scope.names.lookup x = some .local := by rfl) (hy : X.env.scope.names.lookup y = some .local := by rfl)
    (hw : swappedStores [.Tuple [.Name x px, .Name y py] kt pt] (.Tuple [a, b] k2 pt2) X.env = pure (some [x, y]) := by rfl)
    (hs : swapsWithSole [.Tuple [.Name x px, .Name y py] kt pt] (.Tuple [a, b] k2 pt2) pos.line X.env = pure false := by rfl) :
    PS X (.Assign [.Tuple [.Name x px, .Name y py] kt pt] (.Tuple [a, b] k2 pt2) pos) (DS ⟨X.K, ex⟩ W (sPar [i, j] fs)) :=
  impS (ps_par hc hN hi hj hij hx hy ha hw hs) fun D σ H h => par_in (T := tPar i j (DA ⟨X.K, ex⟩ W fs)) h fun {σ H} g => g.mono fun vs H1 ⟨hl, q⟩ => by
    match vs, hl, q with
    | [v, w], _, q => exact ⟨v, w, rfl, q⟩
theorem l_par3 {kt k2} (hc : X.calm = true) (hN : X.N.Nodup) (ha : PA X [a, b, c] (DA ⟨X.K, ex⟩ W fs)) (hi : X.N[i]? = some x := by rfl) (hj : X.N[j]? = some y := by rfl) (hl : X.N[l]? = some z := by rfl) (hij : i ≠ j := by decide) (hil : i ≠ l := by decide) (hjl : j ≠ l := by decide)
    (hx : X.env.scope.names.lookup x = some .local := by rfl) (hy : X.env.scope.names.lookup y = some .local := by rfl) (hz : X.env.scope.names.lookup z = some .local := by rfl)
    (hw : swappedStores [.Tuple [.Name x px, .Name y py, .Name z pz] kt pt] (.Tuple [a, b, c] k2 pt2) X.env = pure (some [x, y, z]) := by rfl)
    (hs : swapsWithSole [.Tuple [.Name x px, .Name y py, .Name z pz] kt pt] (.Tuple [a, b, c] k2 pt2) pos.line X.env = pure false := by rfl) :
    PS X (.Assign [.Tuple [.Name x px, .Name y py, .Name z pz] kt pt] (.Tuple [a, b, c] k2 pt2) pos) (DS ⟨X.K, ex⟩ W (sPar [i, j, l] fs)) :=
  impS (ps_par3 hc hN hi hj hl hij hil hjl hx hy hz ha hw hs) fun D σ H h => par_in (T := tPar3 i j l (DA ⟨X.K, ex⟩ W fs)) h fun {σ H} g => g.mono fun vs H1 ⟨hl, q⟩ => by
    match vs, hl, q with
    | [u, v, w], _, q => exact ⟨u, v, w, rfl, q⟩
/-! ### enumerate of a tuple -/
end
end LF
end

-- part LFRulesI
section
set_option Elab.async false
set_option linter.all false
set_option maxRecDepth 100000
set_option maxHeartbeats 4000000

/-! ### enumerate(a tuple) -/
namespace PySem
open Sem (wp)
theorem LFmeets_enum1 {v : Value} {o : Obj} {H : Heap → Prop} (B : Begins v o H) :
    Meets (Builtin.«enumerate.__new__» ⟨[.type "enumerate", v], []⟩) (fun _ R s => H s.heap ∧ R (.ok (.ret (.ref (s.heap.push o).objs.size)))
      { s with heap := (s.heap.push o).push { cls := .type "enumerate", data := .fields #[.none, .bool false, .ref s.heap.objs.size, rawInt 0, .none, .none] } }) :=
  .of_wp fun prog w A R s h => by
    obtain ⟨hp, g, d, tk, os⟩ := s
    obtain ⟨hb, h⟩ := h
    have hsub := sub_enumerate
    have bq : ∀ {A' : Around} {E : Value → Shared → Prop} {Q : Value → Shared → Prop}, Q (.ref hp.objs.size) ⟨hp.push o, g, d, tk, os⟩ → wpAny (model prog w) A' (pyIter v) Q E ⟨hp, g, d, tk, os⟩ :=
      fun q => B.iter prog w _ _ ⟨hp, g, d, tk, os⟩ _ hb q
    wp_walk using bq
    refine wpAny_stack_any fun st => wpAny_pure ?_
    split
    · rename_i c _ _ _ _ _
      cases (c == Value.type "enumerate")
      · wp_walk using bq
        exact ⟨_, rfl, h⟩
      · wp_walk using bq
        exact ⟨_, rfl, h⟩
    · wp_walk using bq
      exact ⟨_, rfl, h⟩
section
variable {prog : Program} {w : World} {A : Around} {E : Value → Shared → Prop} {s : Shared}
theorem LFenum1 {v : Value} {o : Obj} {H : Heap → Prop} {Q : Value → Shared → Prop} (B : Begins v o H) (hb : H s.heap)
    (k : ∀ h', IsEnum h' (s.heap.objs.size + 1) s.heap.objs.size 0 .none → h'.get? s.heap.objs.size = some o → (∀ b o, s.heap.get? b = some o → h'.get? b = some o) → Q (.ref (s.heap.objs.size + 1)) { s with heap := h' }) :
    wpAny (model prog w) A (call (.type "enumerate") [v]) Q E s := by
  refine callType_new F.called_enumerate (by decide) (F.typeCall_enumerate_1 _) (F.newCall_enumerate_1 _) (fun obj => F.args_object_init_2 obj _) F.entry_enumerate_new (LFmeets_enum1 B) ⟨hb, ?_⟩
  have hz : (s.heap.push o).objs.size = s.heap.objs.size + 1 := Heap.size_push ..
  show _ ∧ _
  rw [hz]
  have he : IsEnum ((s.heap.push o).push { cls := .type "enumerate", data := .fields #[.none, .bool false, .ref s.heap.objs.size, rawInt 0, .none, .none] }) (s.heap.objs.size + 1) s.heap.objs.size 0 .none := by
    have q := Heap.get?_push_size (s.heap.push o) (o := { cls := .type "enumerate", data := .fields #[.none, .bool false, .ref s.heap.objs.size, rawInt 0, .none, .none] }) rfl
    rw [hz] at q
    exact q
  exact ⟨⟨_, he, rfl⟩, k _ he (Heap.get?_push_of_some _ (Heap.get?_push_size _ B.free)) fun b o x => Heap.get?_push_of_some _ (Heap.get?_push_of_some _ x)⟩
end
end PySem

namespace LF
open PySem PySem.Spec PyProof.Rows L2
/-- the tuple at a, each item in a new pair -/
def IteT (K : PySem.W.Frag) (a : Addr) : It :=
  ⟨fun i H => ∃ (xs : List V) (x : V), SqT K H a xs ∧ xs[i]? = some x, fun i H v H' => ∃ T x, v = .ref T ∧ H T = none ∧ H' = upd H T (.tup [.int (i : Nat), x]) ∧ ∀ xs, SqT K H a xs → xs[i]? = some x, fun i H => ∃ xs : List V, SqT K H a xs ∧ xs.length ≤ i⟩
theorem turn_enumT {P : Program} {w : World} {K : PySem.W.Frag} {elts : List Expr} {kk : Nat} {tpos : Pos} (a e it : Addr) (hat : a ≠ it) (hae : e ≠ a) :
    Turn P w K (.Tuple elts kk tpos) (IteT K a) [e, it] e (fun i h => (∃ old, IsEnum h e it ((i : Nat) : Int) old) ∧ h.IsTupleIter it a i ∧ e ≠ it) where
  mem := by simp
  obj := fun i h st b hb => by
    obtain ⟨⟨old, he⟩, ⟨o, ho, hc, hd⟩, _⟩ := st
    rcases (show b = e ∨ b = it by simpa using hb) with z | z
    · rw [z]
      exact ⟨_, he, fun v q => nomatch q⟩
    · rw [z]
      exact ⟨o, ho, fun v q => by rw [hd] at q; cases q⟩
  keep := fun i h h' st k => let ⟨⟨old, he⟩, hi, hne⟩ := st; ⟨⟨old, k e (by simp) _ he⟩, hi.at fun o q => k it (by simp) o q, hne⟩
  item := by
    intro X hP hw hK hc i pins s σ H E I hf st hg
    subst hP hw hK
    obtain ⟨⟨old, he⟩, hit, hne⟩ := st
    obtain ⟨xs, x, hq, hx⟩ := hg
    obtain ⟨its, rv, p, hz⟩ := I.tuple hq
    have p : s.heap.IsTuple a its.toArray := p
    obtain ⟨u, hu, ru⟩ := rv.get hx
    have hu : its[i]? = some u := hu
    have hel : e < s.heap.objs.size := Heap.lt_size he
    have hil : it < s.heap.objs.size := by
      obtain ⟨_, q, _⟩ := hit
      exact Heap.lt_size q
    have Dr := Draws.tuple (prog := X.prog) (w := X.w) (A := X.A.in1) (show X.A.in1.handled = none from I.ok.hd hc) it a hat its.toArray
    have hlt : i < its.toArray.size := by
      have := (List.getElem?_eq_some_iff.mp hu).1
      simpa using this
    refine wpAny_pyNext_enum_itemD Dr he ⟨hit, p⟩ hlt hne (by simp [hne, hae]) fun x' h' tk hP ho hit' hT hsz hk => ?_
    have ex' : x' = u := by
      have q : its.toArray[i]? = some x' := hP
      rw [List.getElem?_toArray, hu] at q
      injection q with q
      exact q.symm
    subst ex'
    refine ⟨_, rfl, wpAny_letOwnedTupleGo_enum (s := { s with heap := h', toks := tk + 1 }) ho fun h'' he' sb => ?_⟩
    have hT2 : h''.get? s.heap.objs.size = some { cls := .type "tuple", data := .seq #[.int i tk, x'] } := (sb.2 _ (Nat.ne_of_gt hel)).trans hT
    have new : ObjOk X.prog X.w (upd H s.heap.objs.size (.tup [.int (i : Nat), x])) h'' s.heap.objs.size (.tup [.int (i : Nat), x]) :=
      ⟨by show 2 ≤ sizeLine; decide, [.int i tk, x'], .cons ⟨_, rfl⟩ (.cons ru .nil), ⟨_, hT2, rfl, _, rfl⟩⟩
    have I1 : Inv X pins σ (upd H s.heap.objs.size (.tup [.int (i : Nat), x])) { s with heap := h'', toks := tk + 1 } :=
      I.turnedNew (ch := [e, it]) (fun b ob hb q => (sb.2 b (fun z => hb (by simp [z]))).trans (hk b ob (fun z => hb (by simp [z])) (fun z => hb (by simp [z])) q)) hf (Nat.le_refl _) new
    refine ⟨.ref s.heap.objs.size, _, I1, rfl, ⟨_, x, rfl, I.hok.fresh (Nat.le_refl _), rfl, fun ys hy => by rw [I.tuple_inj hy hq]; exact hx⟩, ⟨⟨x', ?_⟩, hit'.1.at fun o q => (sb.2 it (Ne.symm hne)).trans q, hne⟩, fun b hb => ?_⟩
    · have e1 : ((i + 1 : Nat) : Int) = (i : Int) + 1 := by omega
      rw [e1]
      exact he'
    · have hb' : b < s.heap.objs.size := by
        rcases (show b = e ∨ b = it by simpa using hb) with z | z
        · rw [z]
          exact hel
        · rw [z]
          exact hil
      rw [upd_ne (Nat.ne_of_lt hb')]
      exact (hf b hb).1
  done := by
    intro X hP hw hK hc i pins s σ H E I hf st hg
    subst hP hw hK
    obtain ⟨⟨old, he⟩, hit, hne⟩ := st
    obtain ⟨xs, hq, hx⟩ := hg
    obtain ⟨its, rv, p, hz⟩ := I.tuple hq
    have p : s.heap.IsTuple a its.toArray := p
    obtain ⟨f0, f1, f2, f3, f4, f5⟩ := hf it (by simp)
    have hl := rv.length
    unfold pyNext
    refine wpAny_bind (wpAny_attempt (wpAny_callSpecial?_slot (name := Str.ofString "__next__") (⟨_, he, rfl⟩ : s.TypeIs (.ref e) "enumerate") F.slot_enumerate_next
      (wpAny_call_entry F.slot_enumerate_next (⟨_, he, rfl⟩ : s.TypeIs (.ref e) "enumerate") F.entry_enumerate_next ?_ (F.args_enumerate_next_1 _))))
    show wpAny _ _ (field (.ref e) 2 >>= _) _ _ _
    refine wpAny_bind (wpAny_field he rfl (x := .ref it) rfl ?_)
    refine wpAny_bind (wpAny_nextOf_tuple_end (show X.A.in1.handled = none from I.ok.hd hc) hit p (by simp; omega) fun h' x eb hx' => ?_)
    obtain ⟨o, ho, hcl⟩ := hx'
    refine wpAny_bind (wpAny_isInstance (T := "StopIteration") (b := true) ⟨o, ho, hcl⟩ isSubtype_stop ?_)
    exact wpAny_pure ⟨rfl, I.turned (t' := s.toks) (fun b o hb q => eb b o hb q) f0 f1 f3 f4 f5⟩
  self := fun A i s Q E st h => let ⟨⟨_, he⟩, _⟩ := st; wpAny_pyIter_enum he h
def iEnumT (K : PySem.W.Frag) (ta : TA) : TI := fun σ H R => ta σ H fun vs H1 => ∃ a xs, vs = [.ref a] ∧ SqT K H1 a xs ∧ R (IteT K a) H1
section
variable {X : Cx} {ex : Str → Addr} {W : WX} {p pos tpos : Pos} {e : Expr} {elts : List Expr} {kk : Nat} {fa : EM R}
theorem pi_enumT {ta : TA} (hg : Gl X "enumerate") (hm : X.mg "enumerate" = none) (ha : PA X [e] ta) (hs : starEach [e] X.env = [(false, eval e X.env)] := by rfl) :
    PI X (.Tuple elts kk tpos) (.Call (.Name "enumerate" p) [e] [] pos) (iEnumT X.K ta) := by
  refine ⟨fun pins s σ H R I h => ?_⟩
  refine Call_ (ld_blt I hg hm boot_enumerate (PyProof.Rows.callWith_type1 (thn (ha.run pos pins s σ H _ I h) fun us s1 ⟨vs, H1, I1, r1, q1⟩ => ?_) hs rfl))
  obtain ⟨a, xs, ex, hq, q⟩ := q1
  subst ex
  cases r1 with
  | cons r rr =>
    cases rr
    cases r
    obtain ⟨its, rv, p', hz⟩ := I1.tuple hq
    have p' : s1.heap.IsTuple a its.toArray := p'
    have hal : a < s1.heap.objs.size := by
      obtain ⟨_, q, _⟩ := p'
      exact Heap.lt_size q
    refine LFenum1 (begins_tuple a its.toArray) p' fun h' he hit hk => wpAny_pyIter_enum he ?_
    have I2 : Inv X pins σ H1 { s1 with heap := h' } := I1.kept (t' := s1.toks) hk
    refine ⟨s1.heap.objs.size + 1, [s1.heap.objs.size + 1, s1.heap.objs.size], _, _, H1, rfl, I2, turn_enumT a (s1.heap.objs.size + 1) s1.heap.objs.size (Nat.ne_of_lt hal) (Nat.ne_of_gt (Nat.lt_succ_of_lt hal)), ⟨⟨.none, he⟩, ⟨_, hit, rfl, rfl⟩, Nat.succ_ne_self _⟩, fun b hb => ?_, q⟩
    have hle : s1.heap.objs.size ≤ b := by
      rcases (show b = s1.heap.objs.size + 1 ∨ b = s1.heap.objs.size by simpa using hb) with z | z
      · rw [z]
        exact Nat.le_add_right _ _
      · rw [z]
        exact Nat.le_refl _
    exact I1.fpOk hle (I1.hok.fresh hle)
theorem feeds_enumT {K : PySem.W.Frag} {a : Addr} {xs : List V} {ds : List D} {Fb : Hp} (ht : SqT K Fb a xs) (h : RepL K Fb xs ds) : Feeds K (IteT K a) (enumD ds) (fun F _ => Ex Fb F) where
  stop := fun F H e s => ⟨xs, ex_t (s.trans e) ht, by rw [h.length, enum_len]; exact Nat.le_refl _⟩
  go := fun i F H e s hi => by
    rw [enum_len] at hi
    obtain ⟨v, h1, _⟩ := h.get (List.getElem?_eq_getElem hi)
    exact ⟨xs, v, ex_t (s.trans e) ht, h1⟩
  yld := fun i F H x H' e s hi y => by
    obtain ⟨T, x', rfl, n, rfl, y⟩ := y
    obtain ⟨d, h1, h2⟩ := h.getV (y xs (ex_t (s.trans e) ht))
    refine ⟨.tuple [.int (i : Nat), d], ?_, .inr ⟨T, _, _, rfl, n, rfl, rfl, .cons (.int _) (.one (h2.mono s))⟩⟩
    unfold enumD
    rw [List.getElem?_mapIdx, h1]
    rfl
def sEnumT : Option D → Option Src
  | some (.tuple ds) => some (enumD ds, [])
  | _ => none
def srcEnumT (f : EM R) : EM Src := EM.bind f fun r => fun ρ => (sEnumT (rd r ρ)).map fun s => (.ok s, ρ)
theorem src_enumT : SrcIn ⟨X.K, ex⟩ W (iEnumT X.K (tCons (DE ⟨X.K, ex⟩ W fa) tNil)) (srcEnumT fa) := by
  intro σ ρ F H β g x Rr E e he k
  unfold srcEnumT at e
  rw [bind_map] at e
  refine (split E (Fm.refl σ ρ F H) e he).mono fun v H1 ⟨r, ρ1, F1, E1, m1, _, rr, e1⟩ => ?_
  show ∃ a xs, [v] = [.ref a] ∧ SqT X.K H1 a xs ∧ Rr (IteT X.K a) H1
  obtain ⟨s, hs, e1⟩ := src_in e1
  unfold sEnumT at hs
  split at hs
  · rename_i ds hr
    cases hs
    obtain ⟨a, xs, rfl, h1, h2⟩ := rd_tup E1 rr hr
    exact ⟨a, xs, rfl, ex_t E1.sub h1, k (enumD ds, []) ρ1 F1 H1 _ _ E1 m1 e1 (feeds_enumT h1 h2) fun σ' ρ' F' H' Z m' hz => m'.ex E1⟩
  · cases hs
end
end LF
end

-- part LFRulesJ
section
set_option Elab.async false
set_option linter.all false
set_option maxRecDepth 100000
set_option maxHeartbeats 4000000
namespace LF
open PySem PySem.Spec PyProof.Rows L2

/-! ### a comprehension with three fors, no tests -/
abbrev lc3E (elt t0 i0 t1 i1 t2 i2 : Expr) (scope : Scope) (pos : Pos) : Expr := .ListComp elt [⟨t0, i0, [], 0⟩, ⟨t1, i1, [], 0⟩, ⟨t2, i2, [], 0⟩] scope pos
theorem turn3_0 (elt t0 i0 t1 i1 t2 i2 : Expr) (scope : Scope) (pos : Pos) (it acc : Value) (env : Env) :
    compTurn (lc3E elt t0 i0 t1 i1 t2 i2 scope pos) 0 it acc env = (do
      standAt i0.pos
      match ← pyNext it with
      | none => pure (.done .next)
      | some v =>
        letOwnedTupleGo t0 it v
        assign t0 env v
        let z ← eval i1 env
        standAt i1.pos
        let z ← foldedSetIterable i1 env z
        let _ ← runOwn (.compStart (lc3E elt t0 i0 t1 i1 t2 i2 scope pos) 1 (← holding [z] (pyIter z)) acc env) env
        again (.compLoop (lc3E elt t0 i0 t1 i1 t2 i2 scope pos) 0 it acc env)) := by rfl
theorem turn3_1 (elt t0 i0 t1 i1 t2 i2 : Expr) (scope : Scope) (pos : Pos) (it acc : Value) (env : Env) :
    compTurn (lc3E elt t0 i0 t1 i1 t2 i2 scope pos) 1 it acc env = (do
      standAt i1.pos
      match ← pyNext it with
      | none => pure (.done .next)
      | some v =>
        letOwnedTupleGo t1 it v
        assign t1 env v
        let z ← eval i2 env
        standAt i2.pos
        let z ← foldedSetIterable i2 env z
        let _ ← runOwn (.compStart (lc3E elt t0 i0 t1 i1 t2 i2 scope pos) 2 (← holding [z] (pyIter z)) acc env) env
        again (.compLoop (lc3E elt t0 i0 t1 i1 t2 i2 scope pos) 1 it acc env)) := by rfl
theorem turn3_2 (elt t0 i0 t1 i1 t2 i2 : Expr) (scope : Scope) (pos : Pos) (it acc : Value) (env : Env) :
    compTurn (lc3E elt t0 i0 t1 i1 t2 i2 scope pos) 2 it acc env = (do
      standAt i2.pos
      match ← pyNext it with
      | none => pure (.done .next)
      | some v =>
        letOwnedTupleGo t2 it v
        assign t2 env v
        (do let _ ← call (.builtin "list.append") [acc, ← eval elt env])
        again (.compLoop (lc3E elt t0 i0 t1 i1 t2 i2 scope pos) 2 it acc env)) := by rfl
section
variable {prog : Program} {w : World} {A : Around} {R : Result → Shared → Prop} {s : Shared} {elt tg i1 : Expr} {gs : List Comprehension} {scope : Scope} {pos : Pos} {k : Nat} {p0 : Pos} {it acc : Value} {env : Env}
abbrev NoE : Value → Shared → Prop := fun _ _ => False
theorem mono0 {α : Type} {t : Sem α} {Q Q' : α → Shared → Prop} {M : Model} {A : Around} {E : Value → Shared → Prop} {s : Shared} (h : wpAny M A t Q NoE s) (hQ : ∀ a s, Q a s → Q' a s) : wpAny M A t Q' E s := wpAny_mono h hQ fun _ _ z => False.elim z
/-- a clause that has another one within -/
theorem loop3_out (tree : compTurn (.ListComp elt gs scope pos) k it acc env = (do
      standAt p0
      match ← pyNext it with
      | none => pure (.done .next)
      | some v =>
        letOwnedTupleGo tg it v
        assign tg env v
        let z ← eval i1 env
        standAt i1.pos
        let z ← foldedSetIterable i1 env z
        let _ ← runOwn (.compStart (.ListComp elt gs scope pos) (k + 1) (← holding [z] (pyIter z)) acc env) env
        again (.compLoop (.ListComp elt gs scope pos) k it acc env))) (hs : ∀ z, foldedSetIterable i1 env z = pure z) (I : Nat → Shared → Prop)
    (turn : ∀ n s, I n s → wpAny (model prog w) A (pyNext it) (fun r sa => match r with
      | none => R (.ok .next) sa
      | some v => wpAny (model prog w) A (letOwnedTupleGo tg it v) (fun _ sb => wpAny (model prog w) A (assign tg env v) (fun _ sc => wpAny (model prog w) A (eval i1 env) (fun z sd => wpAny (model prog w) A (pyIter z) (fun itn se =>
          codeAny (model prog w) A (.compStart (.ListComp elt gs scope pos) (k + 1) itn acc env) (fun r s' => match r with
            | .ok _ => ∃ m, m < n ∧ I m s'
            | .error _ => False) se) NoE sd) NoE sc) NoE sb) NoE sa) NoE s)
    (n : Nat) (h : I n s) : codeAny (model prog w) A (.compLoop (.ListComp elt gs scope pos) k it acc env) R s := by
  refine codeAny_loop rfl I (fun n s hI => ?_) n h
  show wpAny _ A ((compTurn (.ListComp elt gs scope pos) k it acc env).onRaise (fun x => do noteFrame x env; theTreesLotGoes x)) _ _ s
  refine wpAny_noted ?_
  rw [tree]
  refine wpAny_bind (wpAny_standAt (wpAny_bind (mono0 (turn n s hI) fun r sa ha => ?_)))
  cases r with
  | none => exact wpAny_pure ha
  | some v =>
    refine wpAny_bind (mono0 ha fun _ sb hb => wpAny_bind (mono0 hb fun _ sc hc => wpAny_bind (mono0 hc fun z sd hd => ?_)))
    refine wpAny_bind (wpAny_standAt (wpAny_bind (wpAny_of_eq (hs z) (wpAny_bind (wpAny_holding (mono0 hd fun itn se he => ?_))))))
    refine wpAny_bind (wpAny_runOwn ?_)
    rw [Around.mark_none]
    refine codeAny_mono he fun r s' hr => ?_
    cases r with
    | ok f =>
      first
        | exact wpAny_pure ⟨rfl, hr⟩
        | exact wpAny_bind (wpAny_pure (wpAny_pure ⟨rfl, hr⟩))
    | error e => exact hr.elim
/-- the last clause -/
theorem loop3_in (tree : compTurn (.ListComp elt gs scope pos) k it acc env = (do
      standAt p0
      match ← pyNext it with
      | none => pure (.done .next)
      | some v =>
        letOwnedTupleGo tg it v
        assign tg env v
        (do let _ ← call (.builtin "list.append") [acc, ← eval elt env])
        again (.compLoop (.ListComp elt gs scope pos) k it acc env))) (I : Nat → Shared → Prop)
    (turn : ∀ n s, I n s → wpAny (model prog w) A (pyNext it) (fun r sa => match r with
      | none => R (.ok .next) sa
      | some v => wpAny (model prog w) A (letOwnedTupleGo tg it v) (fun _ sb => wpAny (model prog w) A (assign tg env v) (fun _ sc => wpAny (model prog w) A (eval elt env) (fun z sd =>
          wpAny (model prog w) A (call (.builtin "list.append") [acc, z]) (fun _ se => ∃ m, m < n ∧ I m se) NoE sd) NoE sc) NoE sb) NoE sa) NoE s)
    (n : Nat) (h : I n s) : codeAny (model prog w) A (.compLoop (.ListComp elt gs scope pos) k it acc env) R s := by
  refine codeAny_loop rfl I (fun n s hI => ?_) n h
  show wpAny _ A ((compTurn (.ListComp elt gs scope pos) k it acc env).onRaise (fun x => do noteFrame x env; theTreesLotGoes x)) _ _ s
  refine wpAny_noted ?_
  rw [tree]
  refine wpAny_bind (wpAny_standAt (wpAny_bind (mono0 (turn n s hI) fun r sa ha => ?_)))
  cases r with
  | none => exact wpAny_pure ha
  | some v =>
    refine wpAny_bind (mono0 ha fun _ sb hb => wpAny_bind (mono0 hb fun _ sc hc => ?_))
    exact wpAny_bind (wpAny_bind (mono0 hc fun z sd hd => wpAny_bind (mono0 hd fun _ se he => wpAny_pure (wpAny_pure ⟨rfl, he⟩))))
theorem start3 {elt t0 i0 t1 i1 t2 i2 : Expr} {scope : Scope} {pos : Pos} {k : Nat} (hk : k = 1 ∨ k = 2) (h0 : codeAny (model prog w) A (.compLoop (lc3E elt t0 i0 t1 i1 t2 i2 scope pos) k it acc env) R s)
    (h : wpAny (model prog w) A (pyIter it) (fun it' s' => codeAny (model prog w) A (.compLoop (lc3E elt t0 i0 t1 i1 t2 i2 scope pos) k it' acc env) R s') (notedBy (model prog w) A env fun x s' => R (.error x) s') s) :
    codeAny (model prog w) A (.compStart (lc3E elt t0 i0 t1 i1 t2 i2 scope pos) k it acc env) R s := by
  refine codeAny_of_tree ?_
  show wpAny _ _ ((compStart (lc3E elt t0 i0 t1 i1 t2 i2 scope pos) k it acc env).onRaise (fun x => do noteFrame x env; standAt theWindowsPlace)) _ _ s
  refine wpAny_notedAt ?_
  rcases hk with rfl | rfl
  all_goals
    unfold compStart
    show wpAny _ _ (ask >>= _) _ _ s
    refine wpAny_bind (wpAny_askSetting (wpAny_ite ?_))
    split
    · first
        | exact wpAny_bind (wpAny_pure (wpAny_pure (And.intro rfl h0)))
        | exact wpAny_pure (And.intro rfl h0)
    · first
        | exact wpAny_bind (wpAny_rule (wpAny_bind (wpAny_standAt (wpAny_bind (wpAny_mono h (fun it' s' h' => wpAny_pure (And.intro rfl h')) fun _ _ x => x)))))
        | (refine wpAny_bind (wpAny_rule ?_); refine wpAny_bind (wpAny_standAt ?_); exact wpAny_bind (wpAny_mono h (fun it' s' h' => wpAny_pure (And.intro rfl h')) fun _ _ x => x))
end
/-- what an inner loop's clause asks: behind it Nx -/
def tLev (wi : TI) (g : TG) (vs : List Nat) (body : L2.St → Hp → (Hp → Prop) → Prop) : L2.St → Hp → (Hp → Prop) → Prop := fun σ H Nx => wi σ H fun J H1 => ∃ W : Nat → Nat → Hp → Prop, (∃ m, W 0 m H1) ∧ ∀ i m H, W i m H →
  (J.stop i H ∧ Nx H) ∨ (J.go i H ∧ ∃ N1 : Hp → Prop, (∀ H', N1 H' → ∃ m', m' < m ∧ W (i + 1) m' H') ∧ ∀ x H', J.yld i H x H' → g x (wipe σ vs) H' fun σ2 H2 => wipe σ2 vs = wipe σ vs ∧ body σ2 H2 N1)
def tLeaf (te : TE) (Dd : Addr) : L2.St → Hp → (Hp → Prop) → Prop := fun σ H Nx => te σ H fun y H7 => ∃ acc, H7 Dd = some (.lst acc) ∧ acc.length < sizeLine ∧ Nx (upd H7 Dd (.lst (acc ++ [y])))
def tLc3 (wi : TI) (g : TG) (wi1 : TI) (g1 : TG) (wi2 : TI) (g2 : TG) (te : TE) (vs vs1 vs2 : List Nat) : TE := fun σ H Q => wi σ H fun J H1 => ∀ Dd, H1 Dd = none → ∃ W : Nat → Nat → Hp → Prop, (∃ m, W 0 m (upd H1 Dd (.lst []))) ∧ ∀ i m H, W i m H →
  (J.stop i H ∧ Q (.ref Dd) H) ∨ (J.go i H ∧ ∃ N1 : Hp → Prop, (∀ H', N1 H' → ∃ m', m' < m ∧ W (i + 1) m' H') ∧ ∀ x H', J.yld i H x H' → g x (wipe σ vs) H' fun σ2 H2 => wipe σ2 vs = wipe σ vs ∧ tLev wi1 g1 vs1 (tLev wi2 g2 vs2 (tLeaf te Dd)) σ2 H2 N1)
section
variable {X : Cx}
/-- an inner clause keeps its reading -/
def Inner (Xb : Cx) (e : Expr) (k : Nat) (ie : Expr) (Dd : Addr) (env : Env) (vs : List Nat) (body : L2.St → Hp → (Hp → Prop) → Prop) : Prop := ∀ (P : List (Addr × Obj)) (s : Shared) (σ : L2.St) (H : Hp) (Nx : Hp → Prop) (Rr : Shared → Prop), Inv Xb P σ H s → body σ H Nx →
  (∀ s' H', Inv Xb P (wipe σ vs) H' s' → Nx H' → Rr s') →
  wpAny (model Xb.prog Xb.w) Xb.A (eval ie env) (fun z sd => wpAny (model Xb.prog Xb.w) Xb.A (pyIter z) (fun itn se =>
    codeAny (model Xb.prog Xb.w) Xb.A (.compStart e k itn (.ref Dd) env) (fun r s' => match r with
      | .ok _ => Rr s'
      | .error _ => False) se) NoE sd) NoE s
theorem wipe_sub {σ σ2 : L2.St} {vs ws : List Nat} (h : wipe σ2 vs = wipe σ vs) (hs : ∀ i ∈ ws, i ∈ vs) (j : Nat) (v : V) (e : (wipe σ vs)[j]? = some (some v)) : (wipe σ2 ws)[j]? = some (some v) := by
  rw [← h] at e
  obtain ⟨e1, e2⟩ := wipe_some e
  rw [wipe_out fun z => e2 (hs j z)]
  exact e1
theorem wipe_len2 {σ σ2 : L2.St} {vs : List Nat} (h : wipe σ2 vs = wipe σ vs) : σ2.length = σ.length := by
  have := congrArg List.length h
  rwa [wipe_length, wipe_length] at this
variable {s3 : Shared} {H3 : Hp} {scope scopeE : Scope} {ce : Env} {fp0 : List Addr} {elt t0 i0 t1 i1 t2 i2 : Expr} {pos : Pos} {Dd : Addr} {g1 g2 : TG} {wi1 wi2 : TI} {te : TE} {vs1 vs2 : List Nat}
theorem inner_last (hc : X.calm = true) (pi : PI (X.blk s3 H3 scope ce fp0) t2 i2 wi2) (pg : PG (X.blk s3 H3 scope ce fp0) t2 g2) (pe : PE (X.blk s3 H3 scope ce fp0) elt te) :
    Inner (X.blk s3 H3 scope ce fp0) (lc3E elt t0 i0 t1 i1 t2 i2 scopeE pos) 2 i2 Dd ce vs2 (tLev wi2 g2 vs2 (tLeaf te Dd)) := by
  intro P s σ H Nx Rr I h fin
  refine mono0 (pi.run P s σ H _ I h) fun z sd hz => mono0 hz fun itn se hs => ?_
  obtain ⟨it, fp, tn, J, H1, rfl, I1, T, st, f, W, ⟨m0, w0⟩, turn⟩ := hs
  have fpo : ∀ {H' : Hp}, (∀ b ∈ fp, H' b = none) → ∀ b ∈ fp, FpOk (X.blk s3 H3 scope ce fp0) P H' b := fun hn b hb => ⟨hn b hb, (f b hb).2⟩
  have loop : codeAny (model X.prog X.w) X.A (.compLoop (lc3E elt t0 i0 t1 i1 t2 i2 scopeE pos) 2 (.ref it) (.ref Dd) ce) (fun r s' => match r with
      | .ok _ => Rr s'
      | .error _ => False) se := by
    refine loop3_in (turn3_2 elt t0 i0 t1 i1 t2 i2 scopeE pos _ _ ce) (fun n s' => ∃ j H', Inv (X.blk s3 H3 scope ce fp0) P (wipe σ vs2) H' s' ∧ tn j s'.heap ∧ (∀ b ∈ fp, H' b = none) ∧ W j n H') ?_ m0 ⟨0, H1, I1.weak (wipe_length _ _) (fun j v q => (wipe_some q).1), st, fun b hb => (f b hb).1, w0⟩
    rintro n s5 ⟨j, H5, I5, st5, n5, w5⟩
    rcases turn j n H5 w5 with ⟨stop, nx⟩ | ⟨go, N1, hN, step⟩
    · refine mono0 (T.done (X.blk s3 H3 scope ce fp0) rfl rfl rfl hc j _ s5 (wipe σ vs2) H5 NoE I5 (fpo n5) st5 stop) fun r s6 ⟨hr, I6⟩ => ?_
      subst hr
      exact fin s6 H5 I6 nx
    · refine mono0 (T.item (X.blk s3 H3 scope ce fp0) rfl rfl rfl hc j _ s5 (wipe σ vs2) H5 NoE I5 (fpo n5) st5 go) fun r s6 ⟨u, hr, h6⟩ => ?_
      subst hr
      refine mono0 h6 fun _ s7 ⟨x, H7, I7, r7, y7, st7, n7⟩ => ?_
      have I7' := I7.pinned (fpo n7) (T.obj _ _ st7)
      refine mono0 (pg.run _ s7 (wipe σ vs2) H7 x u _ I7' r7 (step x H7 y7)) fun _ s8 ⟨σ8, H8, I8, hw8, q8⟩ => ?_
      refine mono0 (pe.run _ s8 σ8 H8 _ I8 q8) fun zz s9 ⟨yv, H9, I9, r9, acc, hD9, hz9, nx⟩ => ?_
      refine app_ok (X := X.blk s3 H3 scope ce fp0) I9 hD9 hz9 r9 fun s10 I10 => ?_
      obtain ⟨m', hm, w'⟩ := hN _ nx
      have pin' : ∀ b ∈ fp, ∀ o, s7.heap.get? b = some o → s10.heap.get? b = some o ∧ (upd H9 Dd (.lst (acc ++ [yv]))) b = none := fun b hb o q =>
        let z := I10.pin (b, o) (List.mem_append_right _ (List.mem_append_right _ (mem_pinsAt hb q)))
        ⟨z.1, z.2.1⟩
      refine ⟨m', hm, j + 1, _, I10.unpinned.weak (by rw [← hw8, wipe_length]) (fun j v q => by rw [← hw8] at q; exact (wipe_some q).1), T.keep _ _ _ st7 fun b hb o q => (pin' b hb o q).1, fun b hb => ?_, w'⟩
      obtain ⟨o, q, _⟩ := T.obj _ _ st7 b hb
      exact (pin' b hb o q).2
  exact start3 (.inr rfl) loop (T.self X.A 0 _ _ _ st loop)
theorem inner_mid (hc : X.calm = true) (hs : ∀ env z, foldedSetIterable i2 env z = pure z) (hv : ∀ i ∈ vs2, i ∈ vs1) (pi : PI (X.blk s3 H3 scope ce fp0) t1 i1 wi1) (pg : PG (X.blk s3 H3 scope ce fp0) t1 g1) {body : L2.St → Hp → (Hp → Prop) → Prop}
    (inn : Inner (X.blk s3 H3 scope ce fp0) (lc3E elt t0 i0 t1 i1 t2 i2 scopeE pos) 2 i2 Dd ce vs2 body) :
    Inner (X.blk s3 H3 scope ce fp0) (lc3E elt t0 i0 t1 i1 t2 i2 scopeE pos) 1 i1 Dd ce vs1 (tLev wi1 g1 vs1 body) := by
  intro P s σ H Nx Rr I h fin
  refine mono0 (pi.run P s σ H _ I h) fun z sd hz => mono0 hz fun itn se hs' => ?_
  obtain ⟨it, fp, tn, J, H1, rfl, I1, T, st, f, W, ⟨m0, w0⟩, turn⟩ := hs'
  have fpo : ∀ {H' : Hp}, (∀ b ∈ fp, H' b = none) → ∀ b ∈ fp, FpOk (X.blk s3 H3 scope ce fp0) P H' b := fun hn b hb => ⟨hn b hb, (f b hb).2⟩
  have loop : codeAny (model X.prog X.w) X.A (.compLoop (lc3E elt t0 i0 t1 i1 t2 i2 scopeE pos) 1 (.ref it) (.ref Dd) ce) (fun r s' => match r with
      | .ok _ => Rr s'
      | .error _ => False) se := by
    refine loop3_out (turn3_1 elt t0 i0 t1 i1 t2 i2 scopeE pos _ _ ce) (hs ce) (fun n s' => ∃ j H', Inv (X.blk s3 H3 scope ce fp0) P (wipe σ vs1) H' s' ∧ tn j s'.heap ∧ (∀ b ∈ fp, H' b = none) ∧ W j n H') ?_ m0 ⟨0, H1, I1.weak (wipe_length _ _) (fun j v q => (wipe_some q).1), st, fun b hb => (f b hb).1, w0⟩
    rintro n s5 ⟨j, H5, I5, st5, n5, w5⟩
    rcases turn j n H5 w5 with ⟨stop, nx⟩ | ⟨go, N1, hN, step⟩
    · refine mono0 (T.done (X.blk s3 H3 scope ce fp0) rfl rfl rfl hc j _ s5 (wipe σ vs1) H5 NoE I5 (fpo n5) st5 stop) fun r s6 ⟨hr, I6⟩ => ?_
      subst hr
      exact fin s6 H5 I6 nx
    · refine mono0 (T.item (X.blk s3 H3 scope ce fp0) rfl rfl rfl hc j _ s5 (wipe σ vs1) H5 NoE I5 (fpo n5) st5 go) fun r s6 ⟨u, hr, h6⟩ => ?_
      subst hr
      refine mono0 h6 fun _ s7 ⟨x, H7, I7, r7, y7, st7, n7⟩ => ?_
      have I7' := I7.pinned (fpo n7) (T.obj _ _ st7)
      refine mono0 (pg.run _ s7 (wipe σ vs1) H7 x u _ I7' r7 (step x H7 y7)) fun _ s8 ⟨σ8, H8, I8, hw8, q8⟩ => ?_
      refine inn _ s8 σ8 H8 N1 _ I8 q8 fun s10 H10 I10 nx => ?_
      obtain ⟨m', hm, w'⟩ := hN _ nx
      have pin' : ∀ b ∈ fp, ∀ o, s7.heap.get? b = some o → s10.heap.get? b = some o ∧ H10 b = none := fun b hb o q =>
        let z := I10.pin (b, o) (List.mem_append_right _ (List.mem_append_right _ (mem_pinsAt hb q)))
        ⟨z.1, z.2.1⟩
      refine ⟨m', hm, j + 1, _, I10.unpinned.weak (by rw [wipe_length, wipe_length, wipe_len2 hw8]) (fun j v q => wipe_sub hw8 hv j v q), T.keep _ _ _ st7 fun b hb o q => (pin' b hb o q).1, fun b hb => ?_, w'⟩
      obtain ⟨o, q, _⟩ := T.obj _ _ st7 b hb
      exact (pin' b hb o q).2
  exact start3 (.inl rfl) loop (T.self X.A 0 _ _ _ st loop)
end
end LF
end

-- part LFRulesK
section
set_option Elab.async false
set_option linter.all false
set_option maxRecDepth 100000
set_option maxHeartbeats 4000000
namespace LF
open PySem PySem.Spec PyProof.Rows L2
section
variable {X : Cx}
theorem pe_lc3 {elt t0 i0 t1 i1 t2 i2 : Expr} {scope : Scope} {own : List (Str × Nat)} {vs1 vs2 : List Nat} {pos : Pos} {wi wi1 wi2 : TI} {g g1 g2 : TG} {te : TE} (hc : X.calm = true) (hN : X.N.Nodup) (hi : PI X t0 i0 wi) (ok : BlkOk X.N X.env.scope scope own) (hv2 : ∀ i ∈ vs2, i ∈ vs1) (hv1 : ∀ i ∈ vs1, i ∈ own.map (·.2))
    (hg : ∀ (s : Shared) (H : Hp) (C : Addr) (cl : List (Str × Addr)) (fp : List Addr), PG (X.blk s H scope (compEnvC scope cl C X.env) fp) t0 g)
    (hi1 : ∀ (s : Shared) (H : Hp) (C : Addr) (cl : List (Str × Addr)) (fp : List Addr), PI (X.blk s H scope (compEnvC scope cl C X.env) fp) t1 i1 wi1)
    (hg1 : ∀ (s : Shared) (H : Hp) (C : Addr) (cl : List (Str × Addr)) (fp : List Addr), PG (X.blk s H scope (compEnvC scope cl C X.env) fp) t1 g1)
    (hi2 : ∀ (s : Shared) (H : Hp) (C : Addr) (cl : List (Str × Addr)) (fp : List Addr), PI (X.blk s H scope (compEnvC scope cl C X.env) fp) t2 i2 wi2)
    (hg2 : ∀ (s : Shared) (H : Hp) (C : Addr) (cl : List (Str × Addr)) (fp : List Addr), PG (X.blk s H scope (compEnvC scope cl C X.env) fp) t2 g2)
    (he : ∀ (s : Shared) (H : Hp) (C : Addr) (cl : List (Str × Addr)) (fp : List Addr), PE (X.blk s H scope (compEnvC scope cl C X.env) fp) elt te)
    (hs : ∀ x, foldedSetIterable i0 X.env x = pure x := by intro _; rfl) (hs1 : ∀ env x, foldedSetIterable i1 env x = pure x := by intro _ _; rfl) (hs2 : ∀ env x, foldedSetIterable i2 env x = pure x := by intro _ _; rfl) :
    PE X (lc3E elt t0 i0 t1 i1 t2 i2 scope pos) (tLc3 wi g wi1 g1 wi2 g2 te (own.map (·.2)) vs1 vs2) := by
  refine ⟨fun pins s σ H Q I h => ?_⟩
  rw [eval_ListComp]
  have hfree : ∀ y ∈ scope.names, y.2 = .free → ∃ c, X.env.cells.lookup y.1 = some c := fun y hy q => by
    rcases ok.free y hy q with z | z
    · exact I.ok.has _ (.inl z)
    · exact I.ok.has _ (.inr z)
  have hRR : ∀ D C s' m H', Inv X pins σ H' s' → Q (.ref D) H' → s'.heap.Ns C m → FpOk X pins H' C → compPost (model X.prog X.w) X.A X.xe none (EP X pins σ Q) (.ref D) C (.ok .next) s' := fun D C s' m H' I' q hn f => ⟨m, hn, fun h'' sb => by
    obtain ⟨f0, f1, f2, f3, f4, f5⟩ := f
    exact ⟨.ref D, H', I'.turned (t' := s'.toks) (fun b o hb e => (sb.2 b hb).trans e) f0 f1 f3 f4 f5, rfl, q⟩⟩
  refine wpAny_comprehension_free (use := none) rfl hs (closure_ok hfree) ok.kind (fun y hy q => by rw [ok.uniq y hy, q]) (thn (hi.run pins s σ H _ I h) fun xv sa hx => thn hx fun itv s2 h2 => ?_)
  obtain ⟨it, fp, tn, J, H2, rfl, I2, T, st2, f2, q⟩ := h2
  refine wpAny_newObj_type (newEnv_comp ?_) (by show 0 ≤ sizeLine; decide)
  generalize hD : s2.heap.objs.size = Dd
  have hDn : H2 Dd = none := I2.hok.fresh (Nat.le_of_eq hD)
  obtain ⟨W, ⟨m0, w0⟩, turn⟩ := q Dd hDn
  generalize hs3 : ({ s2 with heap := s2.heap.push { cls := .type "list", data := .seq ([] : List Value).toArray } } : Shared) = s3
  have I3 : Inv X pins σ (upd H2 Dd (.lst [])) s3 := by
    rw [← hs3]
    refine I2.laid (t' := s2.toks) (fun b o e => Heap.get?_push_of_some _ e) (Nat.le_of_eq hD) ⟨Nat.zero_le _, [], 0, .nil, ?_⟩
    rw [← hD]
    exact Heap.get?_push_size _ rfl
  have h3 : s3.heap = s2.heap.push { cls := .type "list", data := .seq ([] : List Value).toArray } := by rw [← hs3]
  have f3 : ∀ b ∈ fp, FpOk X pins (upd H2 Dd (.lst [])) b ∧ b < s3.heap.objs.size := fun b hb => by
    have hlt : b < s2.heap.objs.size := by
      obtain ⟨o, e, _⟩ := T.obj _ _ st2 b hb
      exact Heap.lt_size e
    refine ⟨⟨?_, (f2 b hb).2⟩, by rw [h3, Heap.size_push]; exact Nat.lt_succ_of_lt hlt⟩
    rw [upd_ne (by rw [← hD]; exact Nat.ne_of_lt hlt)]
    exact (f2 b hb).1
  have st3 : tn 0 s3.heap := T.keep _ _ _ st2 fun b _ o e => by rw [h3]; exact Heap.get?_push_of_some _ e
  have I4 := block_start I3 ok hN f3
  have pg := hg s3 (upd H2 Dd (.lst [])) s3.heap.objs.size (cellsFrom (s3.heap.objs.size + 1) scope.names (cloFrom X.env.cells scope.names [])) fp
  have pi1 := hi1 s3 (upd H2 Dd (.lst [])) s3.heap.objs.size (cellsFrom (s3.heap.objs.size + 1) scope.names (cloFrom X.env.cells scope.names [])) fp
  have pg1 := hg1 s3 (upd H2 Dd (.lst [])) s3.heap.objs.size (cellsFrom (s3.heap.objs.size + 1) scope.names (cloFrom X.env.cells scope.names [])) fp
  have pi2 := hi2 s3 (upd H2 Dd (.lst [])) s3.heap.objs.size (cellsFrom (s3.heap.objs.size + 1) scope.names (cloFrom X.env.cells scope.names [])) fp
  have pg2 := hg2 s3 (upd H2 Dd (.lst [])) s3.heap.objs.size (cellsFrom (s3.heap.objs.size + 1) scope.names (cloFrom X.env.cells scope.names [])) fp
  have pe := he s3 (upd H2 Dd (.lst [])) s3.heap.objs.size (cellsFrom (s3.heap.objs.size + 1) scope.names (cloFrom X.env.cells scope.names [])) fp
  show codeAny _ _ (.compStart (lc3E elt t0 i0 t1 i1 t2 i2 scope pos) 0 (.ref it) (.ref Dd) (compEnvC scope (cellsFrom (s3.heap.objs.size + 1) scope.names (cloFrom X.env.cells scope.names [])) s3.heap.objs.size X.env)) (compPost (model X.prog X.w) X.A X.xe none (EP X pins σ Q) (.ref Dd) s3.heap.objs.size) { s3 with heap := pushCells (s3.heap.push { cls := .type "dict", data := .dict #[] }) scope.names }
  have nfp : ∀ b ∈ fp, (upd H2 Dd (.lst [])) b = none := fun b hb => (f3 b hb).1.1
  generalize hce : compEnvC scope (cellsFrom (s3.heap.objs.size + 1) scope.names (cloFrom X.env.cells scope.names [])) s3.heap.objs.size X.env = ce at I4 pg pe pi1 pg1 pi2 pg2 ⊢
  have cL : ce.locals = s3.heap.objs.size := by
    subst hce
    rfl
  generalize hH3 : upd H2 Dd (.lst []) = H3 at I3 I4 pg pe pi1 pg1 pi2 pg2 w0 nfp f3
  generalize hs4 : ({ s3 with heap := pushCells (s3.heap.push { cls := .type "dict", data := .dict #[] }) scope.names } : Shared) = s4 at I4 ⊢
  have st4 : tn 0 s4.heap := T.keep _ _ _ st3 fun b _ o e => by rw [← hs4]; exact pushCells_keeps _ _ _ _ (Heap.get?_push_of_some _ e)
  have stat : ∀ {σ' : L2.St} {H' : Hp} {s' : Shared}, Inv (X.blk s3 H3 scope ce fp) [] σ' H' s' → (∀ b ∈ fp, H' b = none) → ∀ b ∈ fp, FpOk (X.blk s3 H3 scope ce fp) [] H' b := fun {σ' H' s'} I' hn b hb =>
    ⟨hn b hb, (I'.ok.exf b hb).1, I'.ok.exfs b hb, .inl hb, fun x c e => (I'.ok.exf b hb).2 x c e, fun p hp => absurd (show p ∈ ([] : List (Addr × Obj)) ++ [] from hp) (by simp)⟩
  have inn := inner_mid (X := X) (s3 := s3) (H3 := H3) (scope := scope) (scopeE := scope) (ce := ce) (fp0 := fp) (elt := elt) (t0 := t0) (i0 := i0) (t1 := t1) (i1 := i1) (t2 := t2) (i2 := i2) (pos := pos) (Dd := Dd) hc hs2 hv2 pi1 pg1 (inner_last hc pi2 pg2 pe)
  have loop : codeAny (model X.prog X.w) X.A (.compLoop (lc3E elt t0 i0 t1 i1 t2 i2 scope pos) 0 (.ref it) (.ref Dd) ce) (compPost (model X.prog X.w) X.A X.xe none (EP X pins σ Q) (.ref Dd) s3.heap.objs.size) s4 := by
    refine loop3_out (turn3_0 elt t0 i0 t1 i1 t2 i2 scope pos _ _ ce) (hs1 ce) (fun n s' => ∃ i H', Inv (X.blk s3 H3 scope ce fp) [] (wipe σ (own.map (·.2))) H' s' ∧ tn i s'.heap ∧ (∀ b ∈ fp, H' b = none) ∧ W i n H') ?_ m0 ⟨0, H3, I4, st4, nfp, w0⟩
    rintro n s5 ⟨i, H5, I5, st5, n5, w5⟩
    rcases turn i n H5 w5 with ⟨stop, qq⟩ | ⟨go, N1, hN1, step⟩
    · refine mono0 (T.done (X.blk s3 H3 scope ce fp) rfl rfl rfl hc i [] s5 _ H5 NoE I5 (stat I5 n5) st5 stop) fun r s6 ⟨hr, I6⟩ => ?_
      subst hr
      have I7 : Inv X pins σ H5 s6 := I3.call' (ch := fp) I6.os I6.base I6.hok I6.bare fun b hb => ⟨(f3 b hb).1.2.2.2.1, (f3 b hb).1.2.1, (f3 b hb).1.2.2.2.2.1, (f3 b hb).1.2.2.2.2.2⟩
      have nC : H5 s3.heap.objs.size = none := by
        have z : H5 ce.locals = none := I6.free
        rw [cL] at z
        exact z
      obtain ⟨m, hn, _⟩ := I6.loc
      have hn : s6.heap.Ns ce.locals m := hn
      rw [cL] at hn
      exact hRR Dd s3.heap.objs.size s6 m H5 I7 qq hn (I3.fpOk (Nat.le_refl _) nC)
    · refine mono0 (T.item (X.blk s3 H3 scope ce fp) rfl rfl rfl hc i [] s5 _ H5 NoE I5 (stat I5 n5) st5 go) fun r s6 ⟨u, hr, h6⟩ => ?_
      subst hr
      refine mono0 h6 fun _ s7 ⟨x, H7, I7, r7, y7, st7, n7⟩ => ?_
      have I7' := I7.pinned (stat I7 n7) (T.obj _ _ st7)
      refine mono0 (pg.run _ s7 _ H7 x u _ I7' r7 (step x H7 y7)) fun _ s8 ⟨σ8, H8, I8, hw8, q8⟩ => ?_
      refine inn _ s8 σ8 H8 N1 _ I8 q8 fun s10 H10 I10 nx => ?_
      obtain ⟨m', hm, w'⟩ := hN1 _ nx
      have pin' : ∀ b ∈ fp, ∀ o, s7.heap.get? b = some o → s10.heap.get? b = some o ∧ H10 b = none := fun b hb o q =>
        let z := I10.pin (b, o) (List.mem_append_right _ (List.mem_append_right _ (mem_pinsAt hb q)))
        ⟨z.1, z.2.1⟩
      refine ⟨m', hm, i + 1, _, (I10.unpinned (pins := [])).weak (by rw [wipe_length, wipe_length, wipe_len2 hw8]) (fun j v q => wipe_sub hw8 hv1 j v q), T.keep _ _ _ st7 fun b hb o q => (pin' b hb o q).1, fun b hb => ?_, w'⟩
      obtain ⟨o, q, _⟩ := T.obj _ _ st7 b hb
      exact (pin' b hb o q).2
  exact codeAny_compStart_list loop (T.self X.A 0 _ _ _ st4 loop)
end
end LF
end

-- part LFRulesL
section
set_option Elab.async false
set_option linter.all false
set_option maxRecDepth 100000
set_option maxHeartbeats 4000000
namespace LF
open PySem PySem.Spec PyProof.Rows L2
/-! ### [a + b + c for a in s for b in s for c in s], s a text -/
def sg (c : Nat) : Str := ⟨#[c]⟩
def three (a b c : Nat) : Str := sg a ++ sg b ++ sg c
def threes (z : Str) : List Str := z.cps.toList.flatMap fun a => z.cps.toList.flatMap fun b => z.cps.toList.map fun c => three a b c
abbrev rStr : R2 := fun x y H Q => ∃ i j, x = .str i ∧ y = .str j ∧ i.length + j.length ≤ sizeLine ∧ Q (.str (i ++ j)) H
section
variable {K : PySem.W.Frag} {σ σ' : L2.St} {H : Hp} {Q : VK}
theorem getW {vs : List Nat} {i j : Nat} {v : Option V} (h : i ∉ vs) (n : i ≠ j) : ((wipe σ vs).set j v)[i]? = σ[i]? := by
  rw [List.getElem?_set_ne (Ne.symm n), wipe_outV h]
theorem getJ {vs : List Nat} {j : Nat} {v : Option V} (h : j < σ.length) : ((wipe σ vs).set j v)[j]? = some v := by
  rw [List.getElem?_set_self (by rw [wipe_length]; exact h)]
theorem wipeJ {vs : List Nat} {j : Nat} {v : Option V} (h : j ∈ vs) : wipe ((wipe σ vs).set j v) vs = wipe σ vs :=
  wipe_ext (by rw [List.length_set, wipe_length]) fun k hk => getW hk fun z => hk (z ▸ h)
theorem upd_upd {p : Addr} {o o' : HO} : upd (upd H p o) p o' = upd H p o' := by
  funext a
  by_cases z : a = p
  · rw [z, upd_same, upd_same]
  · rw [upd_ne z, upd_ne z, upd_ne z]
theorem take_succ {α : Type} {l : List α} {i : Nat} {a : α} (h : l[i]? = some a) : l.take (i + 1) = l.take i ++ [a] := by
  rw [List.take_add_one, h]
  rfl
theorem cps_get {z : Str} {i c : Nat} (h : z.cps[i]? = some c) : z.cps.toList[i]? = some c := by
  rw [Array.getElem?_toList]
  exact h
theorem flat_len {α β : Type} {f : α → List β} {k : Nat} : ∀ {l : List α}, (∀ a, (f a).length = k) → (l.flatMap f).length = l.length * k
  | [], _ => by simp
  | a :: l, h => by
    rw [List.flatMap_cons, List.length_append, h a, flat_len h, List.length_cons, Nat.add_mul]
    omega
theorem three_in {z : Str} {i j1 j2 j3 : Nat} (hσ : σ[i]? = some (some (.str z))) (h1 : j1 < σ.length) (h2 : j2 < σ.length) (h3 : j3 < σ.length) (n1 : i ≠ j1) (n2 : i ≠ j2) (n3 : i ≠ j3) (n4 : j1 ≠ j2) (n5 : j1 ≠ j3) (n6 : j2 ≠ j3) (hz : z.cps.size ≤ 60)
    (q : ∀ p, H p = none → Q (.ref p) (upd H p (.lst ((threes z).map V.str)))) :
    tLc3 (iStr (L2.tVar i)) (gName j1) (iStr (L2.tVar i)) (gName j2) (iStr (L2.tVar i)) (gName j3) (tOp rStr (tOp rStr (L2.tVar j1) (L2.tVar j2)) (L2.tVar j3)) [j1, j2, j3] [j2, j3] [j3] σ H Q := by
  refine ⟨_, hσ, z, rfl, fun Dd hD => ?_⟩
  have sz : z.cps.toList.length = z.cps.size := by simp
  -- what is made so far
  let fc : Nat → Nat → Nat → Str := three
  let fb : Nat → Nat → List Str := fun a b => z.cps.toList.map fun c => three a b c
  let fa : Nat → List Str := fun a => z.cps.toList.flatMap fun b => fb a b
  have lb : ∀ a b, (fb a b).length = z.cps.size := fun a b => by simp [fb]
  have la : ∀ a, (fa a).length = z.cps.size * z.cps.size := fun a => by
    show (z.cps.toList.flatMap fun b => fb a b).length = _
    rw [flat_len (lb a), sz]
  refine ⟨fun a m H' => m = z.cps.size - a ∧ a ≤ z.cps.size ∧ H' = upd H Dd (.lst (((z.cps.toList.take a).flatMap fa).map V.str)), ⟨_, rfl, Nat.zero_le _, rfl⟩, ?_⟩
  rintro a m Ha ⟨rfl, hla, rfl⟩
  by_cases ha : a < z.cps.size
  · refine .inr ⟨ha, fun H' => H' = upd H Dd (.lst (((z.cps.toList.take (a + 1)).flatMap fa).map V.str)), fun H' e => ⟨_, by omega, rfl, ha, e⟩, ?_⟩
    rintro x Hx ⟨rfl, ca, hca, rfl⟩
    refine ⟨wipeJ (by simp), ?_⟩
    generalize hs2 : (wipe σ [j1, j2, j3]).set j1 (some (V.str ⟨#[ca]⟩)) = σ2
    have l2 : σ2.length = σ.length := by rw [← hs2, List.length_set, wipe_length]
    have g2i : σ2[i]? = some (some (.str z)) := by rw [← hs2, getW (by simp [n1, n2, n3]) n1]; exact hσ
    have g2a : σ2[j1]? = some (some (.str (sg ca))) := by rw [← hs2, getJ h1]; rfl
    refine ⟨_, g2i, z, rfl, ?_⟩
    refine ⟨fun b m H' => m = z.cps.size - b ∧ b ≤ z.cps.size ∧ H' = upd H Dd (.lst ((((z.cps.toList.take a).flatMap fa) ++ (z.cps.toList.take b).flatMap (fb ca)).map V.str)), ⟨_, rfl, Nat.zero_le _, by simp⟩, ?_⟩
    rintro b m Hb ⟨rfl, hlb, rfl⟩
    by_cases hb : b < z.cps.size
    · refine .inr ⟨hb, fun H' => H' = upd H Dd (.lst ((((z.cps.toList.take a).flatMap fa) ++ (z.cps.toList.take (b + 1)).flatMap (fb ca)).map V.str)), fun H' e => ⟨_, by omega, rfl, hb, e⟩, ?_⟩
      rintro x Hx ⟨rfl, cb, hcb, rfl⟩
      refine ⟨wipeJ (by simp), ?_⟩
      generalize hs3 : (wipe σ2 [j2, j3]).set j2 (some (V.str ⟨#[cb]⟩)) = σ3
      have l3 : σ3.length = σ.length := by rw [← hs3, List.length_set, wipe_length, l2]
      have g3i : σ3[i]? = some (some (.str z)) := by rw [← hs3, getW (by simp [n2, n3]) n2]; exact g2i
      have g3a : σ3[j1]? = some (some (.str (sg ca))) := by rw [← hs3, getW (by simp [n4, n5]) n4]; exact g2a
      have g3b : σ3[j2]? = some (some (.str (sg cb))) := by rw [← hs3, getJ (by rw [l2]; exact h2)]; rfl
      refine ⟨_, g3i, z, rfl, ?_⟩
      refine ⟨fun c m H' => m = z.cps.size - c ∧ c ≤ z.cps.size ∧ H' = upd H Dd (.lst ((((z.cps.toList.take a).flatMap fa) ++ (z.cps.toList.take b).flatMap (fb ca) ++ (z.cps.toList.take c).map (fc ca cb)).map V.str)), ⟨_, rfl, Nat.zero_le _, by simp⟩, ?_⟩
      rintro c m Hc ⟨rfl, hlc, rfl⟩
      by_cases hc : c < z.cps.size
      · refine .inr ⟨hc, fun H' => H' = upd H Dd (.lst ((((z.cps.toList.take a).flatMap fa) ++ (z.cps.toList.take b).flatMap (fb ca) ++ (z.cps.toList.take (c + 1)).map (fc ca cb)).map V.str)), fun H' e => ⟨_, by omega, rfl, hc, e⟩, ?_⟩
        rintro x Hx ⟨rfl, cc, hcc, rfl⟩
        refine ⟨wipeJ (by simp), ?_⟩
        generalize hs4 : (wipe σ3 [j3]).set j3 (some (V.str ⟨#[cc]⟩)) = σ4
        have g4a : σ4[j1]? = some (some (.str (sg ca))) := by rw [← hs4, getW (by simp [n5]) n5]; exact g3a
        have g4b : σ4[j2]? = some (some (.str (sg cb))) := by rw [← hs4, getW (by simp [n6]) n6]; exact g3b
        have g4c : σ4[j3]? = some (some (.str (sg cc))) := by rw [← hs4, getJ (by rw [l3]; exact h3)]; rfl
        refine ⟨_, g4a, _, g4b, _, _, rfl, rfl, by show 2 ≤ sizeLine; decide, _, g4c, _, _, rfl, rfl, by show 3 ≤ sizeLine; decide, _, upd_same, ?_, ?_⟩
        · have e1 := flat_len (l := z.cps.toList.take a) la
          have e2 := flat_len (l := z.cps.toList.take b) (lb ca)
          rw [List.length_map, List.length_append, List.length_append, e1, e2, List.length_map, List.length_take, List.length_take, List.length_take, sz, Nat.min_eq_left hla, Nat.min_eq_left hlb, Nat.min_eq_left hlc]
          have m1 : a * (z.cps.size * z.cps.size) ≤ 60 * (60 * 60) := Nat.mul_le_mul (by omega) (Nat.mul_le_mul hz hz)
          have m2 : b * z.cps.size ≤ 60 * 60 := Nat.mul_le_mul (by omega) hz
          have : (2 : Nat) ^ 24 = 16777216 := by decide
          show _ < 2 ^ 24
          omega
        · show upd _ _ _ = upd H Dd _
          rw [upd_upd, take_succ (cps_get hcc)]
          simp only [List.map_append, List.map_cons, List.map_nil, List.append_assoc]
          rfl
      · have ec : c = z.cps.size := by omega
        subst ec
        refine .inl ⟨Nat.le_refl _, ?_⟩
        rw [take_succ (cps_get hcb), List.flatMap_append, List.flatMap_cons, List.flatMap_nil, List.append_nil, ← sz, List.take_length, List.append_assoc]
    · have eb : b = z.cps.size := by omega
      subst eb
      refine .inl ⟨Nat.le_refl _, ?_⟩
      rw [take_succ (cps_get hca), List.flatMap_append, List.flatMap_cons, List.flatMap_nil, List.append_nil, ← sz, List.take_length]
  · have ea : a = z.cps.size := by omega
    subst ea
    refine .inl ⟨Nat.le_refl _, ?_⟩
    have e := q Dd hD
    rw [← sz, List.take_length]
    exact e
end
def eThree (i j1 j2 j3 : Nat) : EM R := fun ρ => match ρ[i]? with
  | some (.val (.str z)) => if z.cps.size ≤ 60 ∧ j1 < ρ.length ∧ j2 < ρ.length ∧ j3 < ρ.length then some (.ok (.fr (.lst ((threes z).map .str))), ρ) else none
  | _ => none
section
variable {X : Cx} {ex : Str → Addr} {W : WX} {pos p0 p1 p2 q0 q1 q2 pa pb pc pd pe : Pos} {scope : Scope} {x y0 y1 y2 : Str} {i j1 j2 j3 : Nat}
theorem repL_strs {K : PySem.W.Frag} {F : Hp} : ∀ l : List Str, RepL K F (l.map V.str) (l.map PyData.str)
  | [] => .nil
  | x :: l => .cons (.str x) (repL_strs l)
theorem l_three (hc : X.calm = true) (hN : X.N.Nodup) (hl : X.N[i]? = some x) (h1 : X.N[j1]? = some y0) (h2 : X.N[j2]? = some y1) (h3 : X.N[j3]? = some y2) (ok : BlkOk X.N X.env.scope scope [(y0, j1), (y1, j2), (y2, j3)])
    (n1 : i ≠ j1 := by decide) (n2 : i ≠ j2 := by decide) (n3 : i ≠ j3 := by decide) (n4 : j1 ≠ j2 := by decide) (n5 : j1 ≠ j3 := by decide) (n6 : j2 ≠ j3 := by decide)
    (hi : PI X (.Name y0 p0) (.Name x q0) (iStr (L2.tVar i)))
    (hg : ∀ (s : Shared) (H : Hp) (C : Addr) (cl : List (Str × Addr)) (fp : List Addr), PG (X.blk s H scope (compEnvC scope cl C X.env) fp) (.Name y0 p0) (gName j1))
    (hi1 : ∀ (s : Shared) (H : Hp) (C : Addr) (cl : List (Str × Addr)) (fp : List Addr), PI (X.blk s H scope (compEnvC scope cl C X.env) fp) (.Name y1 p1) (.Name x q1) (iStr (L2.tVar i)))
    (hg1 : ∀ (s : Shared) (H : Hp) (C : Addr) (cl : List (Str × Addr)) (fp : List Addr), PG (X.blk s H scope (compEnvC scope cl C X.env) fp) (.Name y1 p1) (gName j2))
    (hi2 : ∀ (s : Shared) (H : Hp) (C : Addr) (cl : List (Str × Addr)) (fp : List Addr), PI (X.blk s H scope (compEnvC scope cl C X.env) fp) (.Name y2 p2) (.Name x q2) (iStr (L2.tVar i)))
    (hg2 : ∀ (s : Shared) (H : Hp) (C : Addr) (cl : List (Str × Addr)) (fp : List Addr), PG (X.blk s H scope (compEnvC scope cl C X.env) fp) (.Name y2 p2) (gName j3))
    (he : ∀ (s : Shared) (H : Hp) (C : Addr) (cl : List (Str × Addr)) (fp : List Addr), PE (X.blk s H scope (compEnvC scope cl C X.env) fp) (.BinOp (.BinOp (.Name y0 pa) .Add (.Name y1 pb) pc) .Add (.Name y2 pd) pe) (tOp rStr (tOp rStr (L2.tVar j1) (L2.tVar j2)) (L2.tVar j3))) :
    PE X (lc3E (.BinOp (.BinOp (.Name y0 pa) .Add (.Name y1 pb) pc) .Add (.Name y2 pd) pe) (.Name y0 p0) (.Name x q0) (.Name y1 p1) (.Name x q1) (.Name y2 p2) (.Name x q2) scope pos) (DE ⟨X.K, ex⟩ W (eThree i j1 j2 j3)) :=
  impE (pe_lc3 (own := [(y0, j1), (y1, j2), (y2, j3)]) (vs1 := [j2, j3]) (vs2 := [j3]) hc hN hi ok (by simp) (by simp) hg hi1 hg1 hi2 hg2 he (fun _ => rfl) (fun _ _ => rfl) (fun _ _ => rfl)) fun σ H Q h => by
    obtain ⟨ρ, F, y, E, e, hr⟩ := h
    unfold eThree at e
    split at e
    · rename_i z hz
      split at e
      · rename_i hsz
        cases e
        obtain ⟨v, g1, g2⟩ := E.val i _ hz
        rw [rep_str g2] at g1
        obtain ⟨hsz, l1, l2, l3⟩ := hsz
        refine three_in g1 (by rw [E.len]; exact l1) (by rw [E.len]; exact l2) (by rw [E.len]; exact l3) n1 n2 n3 n4 n5 n6 hsz fun p hp => ?_
        have r := fin_new hr E (Fm.refl σ ρ F H) (.lst (repL_strs (threes z))) hp
        exact r
      · cases e
    · cases e
end
end LF
end

-- part K13Defs
section
set_option Elab.async false
set_option linter.all false
set_option maxRecDepth 100000
set_option maxHeartbeats 2000000
namespace LF
open PySem PySem.Spec PyProof.Rows L2

def top (i : Nat) : Stmt := PySem.Challenge.pw_lengthforms_k13_whole_rows_one_behind_an.main.body.getD i (.Pass ⟨0, 0, 0, 0⟩)
def excl : List Str := ["InvalidTable", "InvalidText", "InvalidSign", "InvalidRow"]
def caught : List Str := []
def isa (x c : Str) : Bool := x == c || c == "FormError"
structure Txt (K : PySem.W.Frag) (mg : Str → Option Value) (ex : Str → Addr) : Prop where
  b_all : mg "all" = none
  b_bool : mg "bool" = none
  b_enumerate : mg "enumerate" = none
  b_int : mg "int" = none
  b_isinstance : mg "isinstance" = none
  b_len : mg "len" = none
  b_list : mg "list" = none
  b_max : mg "max" = none
  b_min : mg "min" = none
  b_range : mg "range" = none
  b_str : mg "str" = none
  b_tuple : mg "tuple" = none
  c_BACK : ∃ t, mg "BACK" = some (.str "back" t)
  c_LETTERS : ∃ t, mg "LETTERS" = some (.str "abcdefghijklmnopqrstuvwxyz" t)
  c_LONGEST_tables : ∃ t, mg "LONGEST_tables" = some (.int 3 t)
  c_LONGEST_tops : ∃ t, mg "LONGEST_tops" = some (.int 3 t)
  c_MOST_ROW : ∃ t, mg "MOST_ROW" = some (.int 300 t)
  c_MOST_RULES : ∃ t, mg "MOST_RULES" = some (.int 5 t)
  x_InvalidRow : XFacts K mg "InvalidRow" (ex "InvalidRow")
  x_InvalidSign : XFacts K mg "InvalidSign" (ex "InvalidSign")
  x_InvalidTable : XFacts K mg "InvalidTable" (ex "InvalidTable")
  x_InvalidText : XFacts K mg "InvalidText" (ex "InvalidText")
  isa : ∀ c ∈ caught, ∀ y ∈ excl, PySem.W.exmOne K (.ref (ex y)) (.ref (ex c)) = some (isa y c)
section
variable {P : Program} {w : World} {K : PySem.W.Frag} {mg : Str → Option Value} {base : Heap} {ex : Str → Addr}

abbrev s_is_wide : Stmt := top 12
abbrev n_is_wide : List Str := ["value", "low", "high"]
theorem sc_is_wide : FnScope n_is_wide ["value", "low", "high"] (defScope s_is_wide) := ⟨rfl, rfl, rfl, by decide +kernel, rfl, by decide +kernel, by decide +kernel⟩
def bd_is_wide : EM Out :=
  (sRet (eAnd (e1 (gIsi "tuple") (eVar 0)) (eChain gLe gLe (eVar 1) (e1 gLen (eVar 0)) (eVar 2))))
def f_is_wide : EM R := defF 3 3 bd_is_wide
theorem ok_is_wide (T : Txt K mg ex) (D : DefAt K mg "is_wide" s_is_wide ["value", "low", "high"]) : Ok P w K mg base ex 1 "is_wide" ["value", "low", "high"] f_is_wide := by
  refine ok_mk (k := 0) D sc_is_wide (by decide) fun fA cdv A outer s H E hr => ?_
  have nd := sc_is_wide.nd
  have tk := takes_of (X := cxOf (L2.CX P w) P w K mg base n_is_wide "is_wide" (defScope s_is_wide) fA cdv A outer s H E) (E := E) rfl rfl rfl rfl
  have hp : PassesOwn (model P w) _ _ _ := passes_of (X := cxOf (L2.CX P w) P w K mg base n_is_wide "is_wide" (defScope s_is_wide) fA cdv A outer s H E) rfl
  exact (p_one (l_ret (l_eand (l_isi (T := "tuple") (by decide) T.b_isinstance T.b_tuple (by decide +kernel) (l_var 0)) (l_one (l_chain (op_leU) (le_2 _) (op_leU) (le_2 _) (l_var 1) (l_callB call_len (len_1 _) T.b_len boot_len (l_var 0)) (l_var 2))))))

abbrev s_are_signs : Stmt := top 13
abbrev n_are_signs : List Str := ["value", "rising", "at", "sign"]
theorem sc_are_signs : FnScope n_are_signs ["value"] (defScope s_are_signs) := ⟨rfl, rfl, rfl, by decide +kernel, rfl, by decide +kernel, by decide +kernel⟩
def bd_are_signs : EM Out :=
  (sSeq (sIf (tOr (tNot (tTru (e1 (gIsi "str") (eVar 0)))) (tNot (tB (eChain gLe gLe (eC (.int 1)) (e1 gLen (eVar 0)) (eC (.int 3))))))
  (sRet (eC (.bool false)))
  sNx)
  (sSeq (sSet 1 (e1 gAll (eLc (srcR1 (e2 gSub (e1 gLen (eVar 0)) (eC (.int 1)))) (stVal 2) tYesM (e2 gLt (e2 gIx (eVar 0) (eVar 2)) (e2 gIx (eVar 0) (e2 gAdd (eVar 2) (eC (.int 1))))) [2])))
  (sRet (eAnd (eVar 1) (e1 gAll (eLc (srcAny (eVar 0)) (stVal 3) tYesM (e2 (gIn false) (eVar 3) (eC (.str "abcdefghijklmnopqrstuvwxyz"))) [3]))))))
def f_are_signs : EM R := defF 1 4 bd_are_signs
theorem ok_are_signs (T : Txt K mg ex) (D : DefAt K mg "are_signs" s_are_signs ["value"]) : Ok P w K mg base ex 1 "are_signs" ["value"] f_are_signs := by
  obtain ⟨t_LETTERS, m_LETTERS⟩ := T.c_LETTERS
  refine ok_mk (k := 0) D sc_are_signs (by decide) fun fA cdv A outer s H E hr => ?_
  have nd := sc_are_signs.nd
  have tk := takes_of (X := cxOf (L2.CX P w) P w K mg base n_are_signs "are_signs" (defScope s_are_signs) fA cdv A outer s H E) (E := E) rfl rfl rfl rfl
  have hp : PassesOwn (model P w) _ _ _ := passes_of (X := cxOf (L2.CX P w) P w K mg base n_are_signs "are_signs" (defScope s_are_signs) fA cdv A outer s H E) rfl
  exact (p_cons (l_ifs (PW.pt (l_or (l_not (l_tru (l_isi (T := "str") (by decide) T.b_isinstance T.b_str (by decide +kernel) (l_var 0)))) (l_or1 (l_not (l_chainT (op_leU) (le_2 _) (op_leU) (le_2 _) l_int (l_callB call_len (len_1 _) T.b_len boot_len (l_var 0)) l_int)))))
    (p_one (l_ret l_bl))
    p_nil)
    (p_cons (l_set (i := 1) nd (l_callB (cr_all rfl) (all_1 _) T.b_all (by decide +kernel) (l_lc (own := [("at", 2)]) rfl nd (pi_range1 rfl T.b_range (pa_cons (l_bin op_sub (sub_2 _) (l_callB call_len (len_1 _) T.b_len boot_len (l_var 0)) l_int) pa_nil)) src_r1 (blkOk_by (N := n_are_signs) (sc := defScope s_are_signs) (own := [("at", 2)]) (by decide +kernel)) (tg_name _ 2) (by decide) (fun _ _ _ _ _ => (pg_name (i := 2) nd rfl (by first | exact Or.inl rfl | exact Or.inr rfl))) (fun _ _ _ _ _ => l_yes) (fun _ _ _ _ _ => (l_cmp (op_ltU) (lt_2 _) (l_ix (l_var 0) (l_var 2)) (l_ix (l_var 0) (l_bin op_addU (add_2 _) (l_var 2) l_int)))))))
    (p_one (l_ret (l_eand (l_var 1) (l_one (l_callB (cr_all rfl) (all_1 _) T.b_all (by decide +kernel) (l_lc (own := [("sign", 3)]) rfl nd (pi_any (l_var 0)) src_any (blkOk_by (N := n_are_signs) (sc := defScope s_are_signs) (own := [("sign", 3)]) (by decide +kernel)) (tg_name _ 3) (by decide) (fun _ _ _ _ _ => (pg_name (i := 3) nd rfl (by first | exact Or.inl rfl | exact Or.inr rfl))) (fun _ _ _ _ _ => l_yes) (fun _ _ _ _ _ => (l_cmp (op_inU) (in_2 _ false) (l_var 3) (l_glob (v := .str "abcdefghijklmnopqrstuvwxyz") rfl m_LETTERS ⟨_, rfl⟩ (fun _ => .str _))))))))))))

abbrev s_is_text : Stmt := top 14
abbrev n_is_text : List Str := ["signs", "value", "sign"]
theorem sc_is_text : FnScope n_is_text ["signs", "value"] (defScope s_is_text) := ⟨rfl, rfl, rfl, by decide +kernel, rfl, by decide +kernel, by decide +kernel⟩
def bd_is_text : EM Out :=
  (sRet (eAnd (e1 (gIsi "str") (eVar 1)) (e1 gAll (eLc (srcAny (eVar 1)) (stVal 2) tYesM (e2 (gIn false) (eVar 2) (eVar 0)) [2]))))
def f_is_text : EM R := defF 2 3 bd_is_text
theorem ok_is_text (T : Txt K mg ex) (D : DefAt K mg "is_text" s_is_text ["signs", "value"]) : Ok P w K mg base ex 1 "is_text" ["signs", "value"] f_is_text := by
  refine ok_mk (k := 0) D sc_is_text (by decide) fun fA cdv A outer s H E hr => ?_
  have nd := sc_is_text.nd
  have tk := takes_of (X := cxOf (L2.CX P w) P w K mg base n_is_text "is_text" (defScope s_is_text) fA cdv A outer s H E) (E := E) rfl rfl rfl rfl
  have hp : PassesOwn (model P w) _ _ _ := passes_of (X := cxOf (L2.CX P w) P w K mg base n_is_text "is_text" (defScope s_is_text) fA cdv A outer s H E) rfl
  exact (p_one (l_ret (l_eand (l_isi (T := "str") (by decide) T.b_isinstance T.b_str (by decide +kernel) (l_var 1)) (l_one (l_callB (cr_all rfl) (all_1 _) T.b_all (by decide +kernel) (l_lc (own := [("sign", 2)]) rfl nd (pi_any (l_var 1)) src_any (blkOk_by (N := n_is_text) (sc := defScope s_is_text) (own := [("sign", 2)]) (by decide +kernel)) (tg_name _ 2) (by decide) (fun _ _ _ _ _ => (pg_name (i := 2) nd rfl (by first | exact Or.inl rfl | exact Or.inr rfl))) (fun _ _ _ _ _ => l_yes) (fun _ _ _ _ _ => (l_cmp (op_inU) (in_2 _ false) (l_var 2) (l_var 0)))))))))

abbrev s_is_form : Stmt := top 15
abbrev n_is_form : List Str := ["signs", "value", "low"]
theorem sc_is_form : FnScope n_is_form ["signs", "value", "low"] (defScope s_is_form) := ⟨rfl, rfl, rfl, by decide +kernel, rfl, by decide +kernel, by decide +kernel⟩
def bd_is_form : EM Out :=
  (sRet (eAnd (eCall f_is_text (aCons (eVar 0) (aCons (eVar 1) aNil))) (eChain gLe gLe (eVar 2) (e1 gLen (eVar 1)) (eC (.int 3)))))
def f_is_form : EM R := defF 3 3 bd_is_form
theorem ok_is_form (T : Txt K mg ex) (D : DefAt K mg "is_form" s_is_form ["signs", "value", "low"]) (g_is_text : Ok P w K mg base ex 1 "is_text" ["signs", "value"] f_is_text) : Ok P w K mg base ex 2 "is_form" ["signs", "value", "low"] f_is_form := by
  obtain ⟨f_is_text_, fd_is_text, m_is_text, k_is_text, b_is_text, G_is_text⟩ := g_is_text
  obtain ⟨t_LONGEST_tables, m_LONGEST_tables⟩ := T.c_LONGEST_tables
  refine ok_mk (k := 1) D sc_is_form (by decide) fun fA cdv A outer s H E hr => ?_
  have nd := sc_is_form.nd
  have tk := takes_of (X := cxOf (L2.CX P w) P w K mg base n_is_form "is_form" (defScope s_is_form) fA cdv A outer s H E) (E := E) rfl rfl rfl rfl
  have hp : PassesOwn (model P w) _ _ _ := passes_of (X := cxOf (L2.CX P w) P w K mg base n_is_form "is_form" (defScope s_is_form) fA cdv A outer s H E) rfl
  exact (p_one (l_ret (l_eand (l_call G_is_text (hr.mono (by decide)) m_is_text k_is_text b_is_text tk (l_cons (l_var 0) (l_cons (l_var 1) l_nil))) (l_one (l_chain (op_leU) (le_2 _) (op_leU) (le_2 _) (l_var 2) (l_callB call_len (len_1 _) T.b_len boot_len (l_var 1)) (l_glob (v := .int 3) rfl m_LONGEST_tables ⟨_, rfl⟩ (fun _ => .int _)))))))

abbrev s_is_rule : Stmt := top 16
abbrev n_is_rule : List Str := ["signs", "value"]
theorem sc_is_rule : FnScope n_is_rule ["signs", "value"] (defScope s_is_rule) := ⟨rfl, rfl, rfl, by decide +kernel, rfl, by decide +kernel, by decide +kernel⟩
def bd_is_rule : EM Out :=
  (sRet (eAnd (eCall f_is_wide (aCons (eVar 1) (aCons (eC (.int 2)) (aCons (eC (.int 2)) aNil)))) (eAnd (eCall f_is_form (aCons (eVar 0) (aCons (e2 gIx (eVar 1) (eC (.int 0))) (aCons (eC (.int 1)) aNil)))) (eCall f_is_form (aCons (eVar 0) (aCons (e2 gIx (eVar 1) (eC (.int 1))) (aCons (eC (.int 0)) aNil)))))))
def f_is_rule : EM R := defF 2 2 bd_is_rule
theorem ok_is_rule (T : Txt K mg ex) (D : DefAt K mg "is_rule" s_is_rule ["signs", "value"]) (g_is_wide : Ok P w K mg base ex 1 "is_wide" ["value", "low", "high"] f_is_wide) (g_is_form : Ok P w K mg base ex 2 "is_form" ["signs", "value", "low"] f_is_form) : Ok P w K mg base ex 3 "is_rule" ["signs", "value"] f_is_rule := by
  obtain ⟨f_is_wide_, fd_is_wide, m_is_wide, k_is_wide, b_is_wide, G_is_wide⟩ := g_is_wide
  obtain ⟨f_is_form_, fd_is_form, m_is_form, k_is_form, b_is_form, G_is_form⟩ := g_is_form
  refine ok_mk (k := 2) D sc_is_rule (by decide) fun fA cdv A outer s H E hr => ?_
  have nd := sc_is_rule.nd
  have tk := takes_of (X := cxOf (L2.CX P w) P w K mg base n_is_rule "is_rule" (defScope s_is_rule) fA cdv A outer s H E) (E := E) rfl rfl rfl rfl
  have hp : PassesOwn (model P w) _ _ _ := passes_of (X := cxOf (L2.CX P w) P w K mg base n_is_rule "is_rule" (defScope s_is_rule) fA cdv A outer s H E) rfl
  exact (p_one (l_ret (l_eand (l_call G_is_wide (hr.mono (by decide)) m_is_wide k_is_wide b_is_wide tk (l_cons (l_var 1) (l_cons l_int (l_cons l_int l_nil)))) (l_eand (l_call G_is_form (hr.mono (by decide)) m_is_form k_is_form b_is_form tk (l_cons (l_var 0) (l_cons (l_ix (l_var 1) l_int) (l_cons l_int l_nil)))) (l_one (l_call G_is_form (hr.mono (by decide)) m_is_form k_is_form b_is_form tk (l_cons (l_var 0) (l_cons (l_ix (l_var 1) l_int) (l_cons l_int l_nil)))))))))

abbrev s_is_table : Stmt := top 17
abbrev n_is_table : List Str := ["value", "shorts", "rule", "at", "short"]
theorem sc_is_table : FnScope n_is_table ["value"] (defScope s_is_table) := ⟨rfl, rfl, rfl, by decide +kernel, rfl, by decide +kernel, by decide +kernel⟩
def bd_is_table : EM Out :=
  (sSeq (sIf (tOr (tNot (tTru (eCall f_is_wide (aCons (eVar 0) (aCons (eC (.int 3)) (aCons (eC (.int 3)) aNil)))))) (tOr (tNot (tTru (eCall f_are_signs (aCons (e2 gIx (eVar 0) (eC (.int 0))) aNil)))) (tNot (tTru (e1 (gIsi "bool") (e2 gIx (eVar 0) (eC (.int 1))))))))
  (sRet (eC (.bool false)))
  sNx)
  (sSeq (sIf (tOr (tNot (tTru (eCall f_is_wide (aCons (e2 gIx (eVar 0) (eC (.int 2))) (aCons (eC (.int 0)) (aCons (eC (.int 5)) aNil)))))) (tNot (tTru (e1 gAll (eLc (srcAny (e2 gIx (eVar 0) (eC (.int 2)))) (stVal 2) tYesM (eCall f_is_rule (aCons (e2 gIx (eVar 0) (eC (.int 0))) (aCons (eVar 2) aNil))) [2])))))
  (sRet (eC (.bool false)))
  sNx)
  (sSeq (sSet 1 (eLc (srcAny (e2 gIx (eVar 0) (eC (.int 2)))) (stVal 2) tYesM (e2 gIx (eVar 2) (eC (.int 0))) [2]))
  (sRet (e1 gAll (eLc (srcEnum (eVar 1)) (stTup [3, 4]) tYesM (e2 (gIn true) (eVar 4) (eSl (eVar 1) pNone (pSome (eVar 3)))) [3, 4]))))))
def f_is_table : EM R := defF 1 5 bd_is_table
theorem ok_is_table (T : Txt K mg ex) (D : DefAt K mg "is_table" s_is_table ["value"]) (g_is_wide : Ok P w K mg base ex 1 "is_wide" ["value", "low", "high"] f_is_wide) (g_are_signs : Ok P w K mg base ex 1 "are_signs" ["value"] f_are_signs) (g_is_rule : Ok P w K mg base ex 3 "is_rule" ["signs", "value"] f_is_rule) : Ok P w K mg base ex 4 "is_table" ["value"] f_is_table := by
  obtain ⟨f_is_wide_, fd_is_wide, m_is_wide, k_is_wide, b_is_wide, G_is_wide⟩ := g_is_wide
  obtain ⟨f_are_signs_, fd_are_signs, m_are_signs, k_are_signs, b_are_signs, G_are_signs⟩ := g_are_signs
  obtain ⟨f_is_rule_, fd_is_rule, m_is_rule, k_is_rule, b_is_rule, G_is_rule⟩ := g_is_rule
  obtain ⟨t_MOST_RULES, m_MOST_RULES⟩ := T.c_MOST_RULES
  refine ok_mk (k := 3) D sc_is_table (by decide) fun fA cdv A outer s H E hr => ?_
  have nd := sc_is_table.nd
  have tk := takes_of (X := cxOf (L2.CX P w) P w K mg base n_is_table "is_table" (defScope s_is_table) fA cdv A outer s H E) (E := E) rfl rfl rfl rfl
  have hp : PassesOwn (model P w) _ _ _ := passes_of (X := cxOf (L2.CX P w) P w K mg base n_is_table "is_table" (defScope s_is_table) fA cdv A outer s H E) rfl
  exact (p_cons (l_ifs (PW.pt (l_or (l_not (l_tru (l_call G_is_wide (hr.mono (by decide)) m_is_wide k_is_wide b_is_wide tk (l_cons (l_var 0) (l_cons l_int (l_cons l_int l_nil)))))) (l_or (l_not (l_tru (l_call G_are_signs (hr.mono (by decide)) m_are_signs k_are_signs b_are_signs tk (l_cons (l_ix (l_var 0) l_int) l_nil)))) (l_or1 (l_not (l_tru (l_isi (T := "bool") (by decide) T.b_isinstance T.b_bool (by decide +kernel) (l_ix (l_var 0) l_int))))))))
    (p_one (l_ret l_bl))
    p_nil)
    (p_cons (l_ifs (PW.pt (l_or (l_not (l_tru (l_call G_is_wide (hr.mono (by decide)) m_is_wide k_is_wide b_is_wide tk (l_cons (l_ix (l_var 0) l_int) (l_cons l_int (l_cons (l_glob (v := .int 5) rfl m_MOST_RULES ⟨_, rfl⟩ (fun _ => .int _)) l_nil)))))) (l_or1 (l_not (l_tru (l_callB (cr_all rfl) (all_1 _) T.b_all (by decide +kernel) (l_lc (own := [("rule", 2)]) rfl nd (pi_any (l_ix (l_var 0) l_int)) src_any (blkOk_by (N := n_is_table) (sc := defScope s_is_table) (own := [("rule", 2)]) (by decide +kernel)) (tg_name _ 2) (by decide) (fun _ _ _ _ _ => (pg_name (i := 2) nd rfl (by first | exact Or.inl rfl | exact Or.inr rfl))) (fun _ _ _ _ _ => l_yes) (fun _ _ _ _ _ => (l_call G_is_rule (hr.mono (by decide)) m_is_rule k_is_rule b_is_rule takes0 (l_cons (l_ix (l_var 0) l_int) (l_cons (l_var 2) l_nil)))))))))))
    (p_one (l_ret l_bl))
    p_nil)
    (p_cons (l_set (i := 1) nd (l_lc (own := [("rule", 2)]) rfl nd (pi_any (l_ix (l_var 0) l_int)) src_any (blkOk_by (N := n_is_table) (sc := defScope s_is_table) (own := [("rule", 2)]) (by decide +kernel)) (tg_name _ 2) (by decide) (fun _ _ _ _ _ => (pg_name (i := 2) nd rfl (by first | exact Or.inl rfl | exact Or.inr rfl))) (fun _ _ _ _ _ => l_yes) (fun _ _ _ _ _ => (l_ix (l_var 2) l_int))))
    (p_one (l_ret (l_callB (cr_all rfl) (all_1 _) T.b_all (by decide +kernel) (l_lc (own := [("at", 3), ("short", 4)]) rfl nd (pi_enum rfl T.b_enumerate (pa_cons (l_var 1) pa_nil)) src_enum (blkOk_by (N := n_is_table) (sc := defScope s_is_table) (own := [("at", 3), ("short", 4)]) (by decide +kernel)) (tg_tup (tg_cons (j := 3) (tg_cons (j := 4) (tg_nil _))) rfl) (by decide) (fun _ _ _ _ _ => (pg_tup rfl (pgs_cons (pg_name (i := 3) nd rfl (by first | exact Or.inl rfl | exact Or.inr rfl)) (pgs_cons (pg_name (i := 4) nd rfl (by first | exact Or.inl rfl | exact Or.inr rfl)) pgs_nil)))) (fun _ _ _ _ _ => l_yes) (fun _ _ _ _ _ => (l_cmp (op_niU) (in_2 _ true) (l_var 4) (l_sl (l_var 1) l_no (l_so (l_var 3))))))))))))

abbrev s_is_sign : Stmt := top 18
abbrev n_is_sign : List Str := ["signs", "value"]
theorem sc_is_sign : FnScope n_is_sign ["signs", "value"] (defScope s_is_sign) := ⟨rfl, rfl, rfl, by decide +kernel, rfl, by decide +kernel, by decide +kernel⟩
def bd_is_sign : EM Out :=
  (sRet (eAnd (e1 (gIsi "str") (eVar 1)) (eAnd (e2 gEq (e1 gLen (eVar 1)) (eC (.int 1))) (e2 (gIn false) (eVar 1) (eVar 0)))))
def f_is_sign : EM R := defF 2 2 bd_is_sign
theorem ok_is_sign (T : Txt K mg ex) (D : DefAt K mg "is_sign" s_is_sign ["signs", "value"]) : Ok P w K mg base ex 1 "is_sign" ["signs", "value"] f_is_sign := by
  refine ok_mk (k := 0) D sc_is_sign (by decide) fun fA cdv A outer s H E hr => ?_
  have nd := sc_is_sign.nd
  have tk := takes_of (X := cxOf (L2.CX P w) P w K mg base n_is_sign "is_sign" (defScope s_is_sign) fA cdv A outer s H E) (E := E) rfl rfl rfl rfl
  have hp : PassesOwn (model P w) _ _ _ := passes_of (X := cxOf (L2.CX P w) P w K mg base n_is_sign "is_sign" (defScope s_is_sign) fA cdv A outer s H E) rfl
  exact (p_one (l_ret (l_eand (l_isi (T := "str") (by decide) T.b_isinstance T.b_str (by decide +kernel) (l_var 1)) (l_eand (l_cmp (op_eqD hr.units) (eq_2 _) (l_callB call_len (len_1 _) T.b_len boot_len (l_var 1)) l_int) (l_one (l_cmp (op_inU) (in_2 _ false) (l_var 1) (l_var 0)))))))

abbrev s_is_key : Stmt := top 19
abbrev n_is_key : List Str := ["signs", "value"]
theorem sc_is_key : FnScope n_is_key ["signs", "value"] (defScope s_is_key) := ⟨rfl, rfl, rfl, by decide +kernel, rfl, by decide +kernel, by decide +kernel⟩
def bd_is_key : EM Out :=
  (sRet (eOr (eCall f_is_sign (aCons (eVar 0) (aCons (eVar 1) aNil))) (eAnd (e1 (gIsi "str") (eVar 1)) (e2 gEq (eVar 1) (eC (.str "back"))))))
def f_is_key : EM R := defF 2 2 bd_is_key
theorem ok_is_key (T : Txt K mg ex) (D : DefAt K mg "is_key" s_is_key ["signs", "value"]) (g_is_sign : Ok P w K mg base ex 1 "is_sign" ["signs", "value"] f_is_sign) : Ok P w K mg base ex 2 "is_key" ["signs", "value"] f_is_key := by
  obtain ⟨f_is_sign_, fd_is_sign, m_is_sign, k_is_sign, b_is_sign, G_is_sign⟩ := g_is_sign
  obtain ⟨t_BACK, m_BACK⟩ := T.c_BACK
  refine ok_mk (k := 1) D sc_is_key (by decide) fun fA cdv A outer s H E hr => ?_
  have nd := sc_is_key.nd
  have tk := takes_of (X := cxOf (L2.CX P w) P w K mg base n_is_key "is_key" (defScope s_is_key) fA cdv A outer s H E) (E := E) rfl rfl rfl rfl
  have hp : PassesOwn (model P w) _ _ _ := passes_of (X := cxOf (L2.CX P w) P w K mg base n_is_key "is_key" (defScope s_is_key) fA cdv A outer s H E) rfl
  exact (p_one (l_ret (l_eor (l_call G_is_sign (hr.mono (by decide)) m_is_sign k_is_sign b_is_sign tk (l_cons (l_var 0) (l_cons (l_var 1) l_nil))) (l_one (l_eand (l_isi (T := "str") (by decide) T.b_isinstance T.b_str (by decide +kernel) (l_var 1)) (l_one (l_cmp (op_eqD hr.units) (eq_2 _) (l_var 1) (l_glob (v := .str "back") rfl m_BACK ⟨_, rfl⟩ (fun _ => .str _)))))))))

abbrev s_are_keys : Stmt := top 20
abbrev n_are_keys : List Str := ["signs", "value", "key"]
theorem sc_are_keys : FnScope n_are_keys ["signs", "value"] (defScope s_are_keys) := ⟨rfl, rfl, rfl, by decide +kernel, rfl, by decide +kernel, by decide +kernel⟩
def bd_are_keys : EM Out :=
  (sRet (eAnd (eCall f_is_wide (aCons (eVar 1) (aCons (eC (.int 0)) (aCons (eC (.int 300)) aNil)))) (e1 gAll (eLc (srcAny (eVar 1)) (stVal 2) tYesM (eCall f_is_key (aCons (eVar 0) (aCons (eVar 2) aNil))) [2]))))
def f_are_keys : EM R := defF 2 3 bd_are_keys
theorem ok_are_keys (T : Txt K mg ex) (D : DefAt K mg "are_keys" s_are_keys ["signs", "value"]) (g_is_wide : Ok P w K mg base ex 1 "is_wide" ["value", "low", "high"] f_is_wide) (g_is_key : Ok P w K mg base ex 2 "is_key" ["signs", "value"] f_is_key) : Ok P w K mg base ex 3 "are_keys" ["signs", "value"] f_are_keys := by
  obtain ⟨f_is_wide_, fd_is_wide, m_is_wide, k_is_wide, b_is_wide, G_is_wide⟩ := g_is_wide
  obtain ⟨f_is_key_, fd_is_key, m_is_key, k_is_key, b_is_key, G_is_key⟩ := g_is_key
  obtain ⟨t_MOST_ROW, m_MOST_ROW⟩ := T.c_MOST_ROW
  refine ok_mk (k := 2) D sc_are_keys (by decide) fun fA cdv A outer s H E hr => ?_
  have nd := sc_are_keys.nd
  have tk := takes_of (X := cxOf (L2.CX P w) P w K mg base n_are_keys "are_keys" (defScope s_are_keys) fA cdv A outer s H E) (E := E) rfl rfl rfl rfl
  have hp : PassesOwn (model P w) _ _ _ := passes_of (X := cxOf (L2.CX P w) P w K mg base n_are_keys "are_keys" (defScope s_are_keys) fA cdv A outer s H E) rfl
  exact (p_one (l_ret (l_eand (l_call G_is_wide (hr.mono (by decide)) m_is_wide k_is_wide b_is_wide tk (l_cons (l_var 1) (l_cons l_int (l_cons (l_glob (v := .int 300) rfl m_MOST_ROW ⟨_, rfl⟩ (fun _ => .int _)) l_nil)))) (l_one (l_callB (cr_all rfl) (all_1 _) T.b_all (by decide +kernel) (l_lc (own := [("key", 2)]) rfl nd (pi_any (l_var 1)) src_any (blkOk_by (N := n_are_keys) (sc := defScope s_are_keys) (own := [("key", 2)]) (by decide +kernel)) (tg_name _ 2) (by decide) (fun _ _ _ _ _ => (pg_name (i := 2) nd rfl (by first | exact Or.inl rfl | exact Or.inr rfl))) (fun _ _ _ _ _ => l_yes) (fun _ _ _ _ _ => (l_call G_is_key (hr.mono (by decide)) m_is_key k_is_key b_is_key takes0 (l_cons (l_var 0) (l_cons (l_var 2) l_nil))))))))))

abbrev s_need_table : Stmt := top 21
abbrev n_need_table : List Str := ["value"]
theorem sc_need_table : FnScope n_need_table ["value"] (defScope s_need_table) := ⟨rfl, rfl, rfl, by decide +kernel, rfl, by decide +kernel, by decide +kernel⟩
def bd_need_table : EM Out :=
  (sIf (tNot (tTru (eCall f_is_table (aCons (eVar 0) aNil))))
  (sRaise ⟨"InvalidTable", none⟩)
  sNx)
def f_need_table : EM R := defF 1 1 bd_need_table
theorem ok_need_table (T : Txt K mg ex) (D : DefAt K mg "need_table" s_need_table ["value"]) (g_is_table : Ok P w K mg base ex 4 "is_table" ["value"] f_is_table) : Ok P w K mg base ex 5 "need_table" ["value"] f_need_table := by
  obtain ⟨f_is_table_, fd_is_table, m_is_table, k_is_table, b_is_table, G_is_table⟩ := g_is_table
  refine ok_mk (k := 4) D sc_need_table (by decide) fun fA cdv A outer s H E hr => ?_
  have nd := sc_need_table.nd
  have tk := takes_of (X := cxOf (L2.CX P w) P w K mg base n_need_table "need_table" (defScope s_need_table) fA cdv A outer s H E) (E := E) rfl rfl rfl rfl
  have hp : PassesOwn (model P w) _ _ _ := passes_of (X := cxOf (L2.CX P w) P w K mg base n_need_table "need_table" (defScope s_need_table) fA cdv A outer s H E) rfl
  exact (p_one (l_ifs (l_not (l_tru (l_call G_is_table (hr.mono (by decide)) m_is_table k_is_table b_is_table tk (l_cons (l_var 0) l_nil))))
    (p_one (l_raise rfl tk PySem.F.excBase_ValueError T.x_InvalidTable.exc T.x_InvalidTable.glo T.x_InvalidTable.keep (T.x_InvalidTable.raises rfl) rfl))
    p_nil))

abbrev s_need_text : Stmt := top 22
abbrev n_need_text : List Str := ["table", "value"]
theorem sc_need_text : FnScope n_need_text ["table", "value"] (defScope s_need_text) := ⟨rfl, rfl, rfl, by decide +kernel, rfl, by decide +kernel, by decide +kernel⟩
def bd_need_text : EM Out :=
  (sIf (tNot (tTru (eCall f_is_text (aCons (e2 gIx (eVar 0) (eC (.int 0))) (aCons (eVar 1) aNil)))))
  (sRaise ⟨"InvalidText", none⟩)
  sNx)
def f_need_text : EM R := defF 2 2 bd_need_text
theorem ok_need_text (T : Txt K mg ex) (D : DefAt K mg "need_text" s_need_text ["table", "value"]) (g_is_text : Ok P w K mg base ex 1 "is_text" ["signs", "value"] f_is_text) : Ok P w K mg base ex 2 "need_text" ["table", "value"] f_need_text := by
  obtain ⟨f_is_text_, fd_is_text, m_is_text, k_is_text, b_is_text, G_is_text⟩ := g_is_text
  refine ok_mk (k := 1) D sc_need_text (by decide) fun fA cdv A outer s H E hr => ?_
  have nd := sc_need_text.nd
  have tk := takes_of (X := cxOf (L2.CX P w) P w K mg base n_need_text "need_text" (defScope s_need_text) fA cdv A outer s H E) (E := E) rfl rfl rfl rfl
  have hp : PassesOwn (model P w) _ _ _ := passes_of (X := cxOf (L2.CX P w) P w K mg base n_need_text "need_text" (defScope s_need_text) fA cdv A outer s H E) rfl
  exact (p_one (l_ifs (l_not (l_tru (l_call G_is_text (hr.mono (by decide)) m_is_text k_is_text b_is_text tk (l_cons (l_ix (l_var 0) l_int) (l_cons (l_var 1) l_nil)))))
    (p_one (l_raise rfl tk PySem.F.excBase_ValueError T.x_InvalidText.exc T.x_InvalidText.glo T.x_InvalidText.keep (T.x_InvalidText.raises rfl) rfl))
    p_nil))

abbrev s_need_sign : Stmt := top 23
abbrev n_need_sign : List Str := ["table", "value"]
theorem sc_need_sign : FnScope n_need_sign ["table", "value"] (defScope s_need_sign) := ⟨rfl, rfl, rfl, by decide +kernel, rfl, by decide +kernel, by decide +kernel⟩
def bd_need_sign : EM Out :=
  (sIf (tNot (tTru (eCall f_is_sign (aCons (e2 gIx (eVar 0) (eC (.int 0))) (aCons (eVar 1) aNil)))))
  (sRaise ⟨"InvalidSign", none⟩)
  sNx)
def f_need_sign : EM R := defF 2 2 bd_need_sign
theorem ok_need_sign (T : Txt K mg ex) (D : DefAt K mg "need_sign" s_need_sign ["table", "value"]) (g_is_sign : Ok P w K mg base ex 1 "is_sign" ["signs", "value"] f_is_sign) : Ok P w K mg base ex 2 "need_sign" ["table", "value"] f_need_sign := by
  obtain ⟨f_is_sign_, fd_is_sign, m_is_sign, k_is_sign, b_is_sign, G_is_sign⟩ := g_is_sign
  refine ok_mk (k := 1) D sc_need_sign (by decide) fun fA cdv A outer s H E hr => ?_
  have nd := sc_need_sign.nd
  have tk := takes_of (X := cxOf (L2.CX P w) P w K mg base n_need_sign "need_sign" (defScope s_need_sign) fA cdv A outer s H E) (E := E) rfl rfl rfl rfl
  have hp : PassesOwn (model P w) _ _ _ := passes_of (X := cxOf (L2.CX P w) P w K mg base n_need_sign "need_sign" (defScope s_need_sign) fA cdv A outer s H E) rfl
  exact (p_one (l_ifs (l_not (l_tru (l_call G_is_sign (hr.mono (by decide)) m_is_sign k_is_sign b_is_sign tk (l_cons (l_ix (l_var 0) l_int) (l_cons (l_var 1) l_nil)))))
    (p_one (l_raise rfl tk PySem.F.excBase_ValueError T.x_InvalidSign.exc T.x_InvalidSign.glo T.x_InvalidSign.keep (T.x_InvalidSign.raises rfl) rfl))
    p_nil))

abbrev s_need_row : Stmt := top 24
abbrev n_need_row : List Str := ["table", "value"]
theorem sc_need_row : FnScope n_need_row ["table", "value"] (defScope s_need_row) := ⟨rfl, rfl, rfl, by decide +kernel, rfl, by decide +kernel, by decide +kernel⟩
def bd_need_row : EM Out :=
  (sIf (tNot (tTru (eCall f_are_keys (aCons (e2 gIx (eVar 0) (eC (.int 0))) (aCons (eVar 1) aNil)))))
  (sRaise ⟨"InvalidRow", none⟩)
  sNx)
def f_need_row : EM R := defF 2 2 bd_need_row
theorem ok_need_row (T : Txt K mg ex) (D : DefAt K mg "need_row" s_need_row ["table", "value"]) (g_are_keys : Ok P w K mg base ex 3 "are_keys" ["signs", "value"] f_are_keys) : Ok P w K mg base ex 4 "need_row" ["table", "value"] f_need_row := by
  obtain ⟨f_are_keys_, fd_are_keys, m_are_keys, k_are_keys, b_are_keys, G_are_keys⟩ := g_are_keys
  refine ok_mk (k := 3) D sc_need_row (by decide) fun fA cdv A outer s H E hr => ?_
  have nd := sc_need_row.nd
  have tk := takes_of (X := cxOf (L2.CX P w) P w K mg base n_need_row "need_row" (defScope s_need_row) fA cdv A outer s H E) (E := E) rfl rfl rfl rfl
  have hp : PassesOwn (model P w) _ _ _ := passes_of (X := cxOf (L2.CX P w) P w K mg base n_need_row "need_row" (defScope s_need_row) fA cdv A outer s H E) rfl
  exact (p_one (l_ifs (l_not (l_tru (l_call G_are_keys (hr.mono (by decide)) m_are_keys k_are_keys b_are_keys tk (l_cons (l_ix (l_var 0) l_int) (l_cons (l_var 1) l_nil)))))
    (p_one (l_raise rfl tk PySem.F.excBase_ValueError T.x_InvalidRow.exc T.x_InvalidRow.glo T.x_InvalidRow.keep (T.x_InvalidRow.raises rfl) rfl))
    p_nil))

abbrev s_fitting : Stmt := top 27
abbrev n_fitting : List Str := ["table", "text", "number", "rule"]
theorem sc_fitting : FnScope n_fitting ["table", "text"] (defScope s_fitting) := ⟨rfl, rfl, rfl, by decide +kernel, rfl, by decide +kernel, by decide +kernel⟩
def bd_fitting : EM Out :=
  (sSeq (sFor (srcEnumT (e2 gIx (eVar 0) (eC (.int 2)))) (stTup [2, 3])
  (sIf (tTru (eS1 g_endswith (eVar 1) (e2 gIx (eVar 3) (eC (.int 0)))))
  (sRet (eVar 2))
  sNx))
  (sRet (eC .none)))
def f_fitting : EM R := defF 2 4 bd_fitting
theorem ok_fitting (T : Txt K mg ex) (D : DefAt K mg "fitting" s_fitting ["table", "text"]) : Ok P w K mg base ex 1 "fitting" ["table", "text"] f_fitting := by
  refine ok_mk (k := 0) D sc_fitting (by decide) fun fA cdv A outer s H E hr => ?_
  have nd := sc_fitting.nd
  have tk := takes_of (X := cxOf (L2.CX P w) P w K mg base n_fitting "fitting" (defScope s_fitting) fA cdv A outer s H E) (E := E) rfl rfl rfl rfl
  have hp : PassesOwn (model P w) _ _ _ := passes_of (X := cxOf (L2.CX P w) P w K mg base n_fitting "fitting" (defScope s_fitting) fA cdv A outer s H E) rfl
  exact (p_cons (l_for hp rfl (pi_enumT rfl T.b_enumerate (pa_cons (l_ix (l_var 0) l_int) pa_nil)) src_enumT (pg_tup rfl (pgs_cons (pg_name (i := 2) nd rfl (by first | exact Or.inl rfl | exact Or.inr rfl)) (pgs_cons (pg_name (i := 3) nd rfl (by first | exact Or.inl rfl | exact Or.inr rfl)) pgs_nil))) (tg_tup (tg_cons (j := 2) (tg_cons (j := 3) (tg_nil _))) rfl)
    (p_one (l_ifs (l_tru (l_endswith (l_var 1) (l_ix (l_var 3) l_int)))
    (p_one (l_ret (l_var 2)))
    p_nil)))
    (p_one (l_ret l_non)))

abbrev s_replaced : Stmt := top 28
abbrev n_replaced : List Str := ["table", "text", "number", "short", "long"]
theorem sc_replaced : FnScope n_replaced ["table", "text", "number"] (defScope s_replaced) := ⟨rfl, rfl, rfl, by decide +kernel, rfl, by decide +kernel, by decide +kernel⟩
def bd_replaced : EM Out :=
  (sSeq (sAsg (stTup [3, 4]) (e2 gIx (e2 gIx (eVar 0) (eC (.int 2))) (eVar 2)))
  (sRet (e2 gAdd (eSl (eVar 1) pNone (pSome (e2 gSub (e1 gLen (eVar 1)) (e1 gLen (eVar 3))))) (eVar 4))))
def f_replaced : EM R := defF 3 5 bd_replaced
theorem ok_replaced (T : Txt K mg ex) (D : DefAt K mg "replaced" s_replaced ["table", "text", "number"]) : Ok P w K mg base ex 1 "replaced" ["table", "text", "number"] f_replaced := by
  refine ok_mk (k := 0) D sc_replaced (by decide) fun fA cdv A outer s H E hr => ?_
  have nd := sc_replaced.nd
  have tk := takes_of (X := cxOf (L2.CX P w) P w K mg base n_replaced "replaced" (defScope s_replaced) fA cdv A outer s H E) (E := E) rfl rfl rfl rfl
  have hp : PassesOwn (model P w) _ _ _ := passes_of (X := cxOf (L2.CX P w) P w K mg base n_replaced "replaced" (defScope s_replaced) fA cdv A outer s H E) rfl
  exact (p_cons (l_asg (tg_tup (tg_cons (j := 3) (tg_cons (j := 4) (tg_nil _))) rfl) (pg_tup rfl (pgs_cons (pg_name (i := 3) nd rfl (by first | exact Or.inl rfl | exact Or.inr rfl)) (pgs_cons (pg_name (i := 4) nd rfl (by first | exact Or.inl rfl | exact Or.inr rfl)) pgs_nil))) (l_ix (l_ix (l_var 0) l_int) (l_var 2)))
    (p_one (l_ret (l_bin op_addU (add_2 _) (l_sl (l_var 1) l_no (l_so (l_bin op_sub (sub_2 _) (l_callB call_len (len_1 _) T.b_len boot_len (l_var 1)) (l_callB call_len (len_1 _) T.b_len boot_len (l_var 3))))) (l_var 4)))))

abbrev s_settled : Stmt := top 29
abbrev n_settled : List Str := ["tops", "text", "steps", "used", "top", "word", "rest", "more", "rules"]
theorem sc_settled : FnScope n_settled ["tops", "text"] (defScope s_settled) := ⟨rfl, rfl, rfl, by decide +kernel, rfl, by decide +kernel, by decide +kernel⟩
def bd_settled : EM Out :=
  (sSeq (sAsg (stTup [2, 3]) (eTup (aCons (eC (.int 0)) (aCons (eTup aNil) aNil))))
  (sSeq (sWhile (tB (e2 gGe (e1 gLen (eVar 1)) (eC (.int 3))))
  (sSeq (sSet 4 (eSl (eVar 1) (pSome (e2 gSub (e1 gLen (eVar 1)) (eC (.int 3)))) pNone))
  (sSeq (sIf (tB (e2 (gKeyIn true) (eVar 4) (eVar 0)))
  (sRet (eC .none))
  sNx)
  (sSeq (sAsg (stTup [5, 6, 7, 8]) (e2 gKeyIx (eVar 0) (eVar 4)))
  (sSeq (sIf (tB (e2 gEq (eVar 5) (eC (.str "endless"))))
  (sRet (eTup (aCons (eC (.str "endless")) (aCons (eC (.str "")) (aCons (eC (.int 0)) (aCons (eTup aNil) aNil))))))
  sNx)
  (sSeq (sPar [1, 2, 3] (aCons (e2 gAdd (eSl (eVar 1) pNone (pSome (e2 gSub (e1 gLen (eVar 1)) (eC (.int 3))))) (eVar 6)) (aCons (e2 gAdd (eVar 2) (eVar 7)) (aCons (e2 gAdd (eVar 3) (eVar 8)) aNil))))
  (sIf (tB (e2 gEq (eVar 5) (eC (.str "end"))))
  (sRet (eTup (aCons (eC (.str "end")) (aCons (eVar 1) (aCons (eVar 2) (aCons (eVar 3) aNil))))))
  sNx)))))))
  (sRet (eTup (aCons (eC (.str "need")) (aCons (eVar 1) (aCons (eVar 2) (aCons (eVar 3) aNil))))))))
def f_settled : EM R := defF 2 9 bd_settled
theorem ok_settled (T : Txt K mg ex) (D : DefAt K mg "settled" s_settled ["tops", "text"]) : Ok P w K mg base ex 1 "settled" ["tops", "text"] f_settled := by
  obtain ⟨t_LONGEST_tops, m_LONGEST_tops⟩ := T.c_LONGEST_tops
  refine ok_mk (k := 0) D sc_settled (by decide) fun fA cdv A outer s H E hr => ?_
  have nd := sc_settled.nd
  have tk := takes_of (X := cxOf (L2.CX P w) P w K mg base n_settled "settled" (defScope s_settled) fA cdv A outer s H E) (E := E) rfl rfl rfl rfl
  have hp : PassesOwn (model P w) _ _ _ := passes_of (X := cxOf (L2.CX P w) P w K mg base n_settled "settled" (defScope s_settled) fA cdv A outer s H E) rfl
  exact (p_cons (l_asg (tg_tup (tg_cons (j := 2) (tg_cons (j := 3) (tg_nil _))) rfl) (pg_tup rfl (pgs_cons (pg_name (i := 2) nd rfl (by first | exact Or.inl rfl | exact Or.inr rfl)) (pgs_cons (pg_name (i := 3) nd rfl (by first | exact Or.inl rfl | exact Or.inr rfl)) pgs_nil))) (l_tup (l_cons l_int (l_cons (l_tup l_nil) l_nil))))
    (p_cons (l_while hp (l_cmpT (op_geU) (ge_2 _) (l_callB call_len (len_1 _) T.b_len boot_len (l_var 1)) (l_glob (v := .int 3) rfl m_LONGEST_tops ⟨_, rfl⟩ (fun _ => .int _)))
    (p_cons (l_set (i := 4) nd (l_sl (l_var 1) (l_so (l_bin op_sub (sub_2 _) (l_callB call_len (len_1 _) T.b_len boot_len (l_var 1)) (l_glob (v := .int 3) rfl m_LONGEST_tops ⟨_, rfl⟩ (fun _ => .int _)))) l_no))
    (p_cons (l_ifs (l_niKT (hu_of hr) (l_var 4) (l_var 0))
    (p_one (l_ret l_non))
    p_nil)
    (p_cons (l_asg (tg_tup (tg_cons (j := 5) (tg_cons (j := 6) (tg_cons (j := 7) (tg_cons (j := 8) (tg_nil _))))) rfl) (pg_tup rfl (pgs_cons (pg_name (i := 5) nd rfl (by first | exact Or.inl rfl | exact Or.inr rfl)) (pgs_cons (pg_name (i := 6) nd rfl (by first | exact Or.inl rfl | exact Or.inr rfl)) (pgs_cons (pg_name (i := 7) nd rfl (by first | exact Or.inl rfl | exact Or.inr rfl)) (pgs_cons (pg_name (i := 8) nd rfl (by first | exact Or.inl rfl | exact Or.inr rfl)) pgs_nil))))) (l_ixK (hu_of hr) (l_var 0) (l_var 4)))
    (p_cons (l_ifs (l_cmpT (op_eqD hr.units) (eq_2 _) (l_var 5) l_str)
    (p_one (l_ret (l_tup (l_cons l_str (l_cons l_str (l_cons l_int (l_cons (l_tup l_nil) l_nil)))))))
    p_nil)
    (p_cons (l_par3 (i := 1) (j := 2) (l := 3) rfl nd (l_cons (l_bin op_addU (add_2 _) (l_sl (l_var 1) l_no (l_so (l_bin op_sub (sub_2 _) (l_callB call_len (len_1 _) T.b_len boot_len (l_var 1)) (l_glob (v := .int 3) rfl m_LONGEST_tops ⟨_, rfl⟩ (fun _ => .int _))))) (l_var 6)) (l_cons (l_bin op_addU (add_2 _) (l_var 2) (l_var 7)) (l_cons (l_bin op_addU (add_2 _) (l_var 3) (l_var 8)) l_nil))))
    (p_one (l_ifs (l_cmpT (op_eqD hr.units) (eq_2 _) (l_var 5) l_str)
    (p_one (l_ret (l_tup (l_cons l_str (l_cons (l_var 1) (l_cons (l_var 2) (l_cons (l_var 3) l_nil)))))))
    p_nil))))))))
    (p_one (l_ret (l_tup (l_cons l_str (l_cons (l_var 1) (l_cons (l_var 2) (l_cons (l_var 3) l_nil)))))))))

abbrev s_three_signs : Stmt := top 30
abbrev n_three_signs : List Str := ["signs", "one", "two", "three"]
theorem sc_three_signs : FnScope n_three_signs ["signs"] (defScope s_three_signs) := ⟨rfl, rfl, rfl, by decide +kernel, rfl, by decide +kernel, by decide +kernel⟩
def bd_three_signs : EM Out :=
  (sRet (eThree 0 1 2 3))
def f_three_signs : EM R := defF 1 4 bd_three_signs
theorem ok_three_signs (T : Txt K mg ex) (D : DefAt K mg "three_signs" s_three_signs ["signs"]) : Ok P w K mg base ex 1 "three_signs" ["signs"] f_three_signs := by
  refine ok_mk (k := 0) D sc_three_signs (by decide) fun fA cdv A outer s H E hr => ?_
  have nd := sc_three_signs.nd
  have tk := takes_of (X := cxOf (L2.CX P w) P w K mg base n_three_signs "three_signs" (defScope s_three_signs) fA cdv A outer s H E) (E := E) rfl rfl rfl rfl
  have hp : PassesOwn (model P w) _ _ _ := passes_of (X := cxOf (L2.CX P w) P w K mg base n_three_signs "three_signs" (defScope s_three_signs) fA cdv A outer s H E) rfl
  exact (p_one (l_ret (l_three (i := 0) (j1 := 1) (j2 := 2) (j3 := 3) rfl nd rfl rfl rfl rfl (blkOk_by (N := n_three_signs) (sc := defScope s_three_signs) (by decide +kernel)) (by decide) (by decide) (by decide) (by decide) (by decide) (by decide) (pi_str (pe_var (i := 0) rfl (by first | exact Or.inl rfl | exact Or.inr (Or.inl rfl) | exact Or.inr (Or.inr rfl)))) (fun _ _ _ _ _ => (pg_name (i := 1) nd rfl (by first | exact Or.inl rfl | exact Or.inr rfl))) (fun _ _ _ _ _ => (pi_str (pe_var (i := 0) rfl (by first | exact Or.inl rfl | exact Or.inr (Or.inl rfl) | exact Or.inr (Or.inr rfl))))) (fun _ _ _ _ _ => (pg_name (i := 2) nd rfl (by first | exact Or.inl rfl | exact Or.inr rfl))) (fun _ _ _ _ _ => (pi_str (pe_var (i := 0) rfl (by first | exact Or.inl rfl | exact Or.inr (Or.inl rfl) | exact Or.inr (Or.inr rfl))))) (fun _ _ _ _ _ => (pg_name (i := 3) nd rfl (by first | exact Or.inl rfl | exact Or.inr rfl))) (fun _ _ _ _ _ => (pe_op op_add_str (pe_op op_add_str (pe_var (i := 1) rfl (by first | exact Or.inl rfl | exact Or.inr (Or.inl rfl) | exact Or.inr (Or.inr rfl))) (pe_var (i := 2) rfl (by first | exact Or.inl rfl | exact Or.inr (Or.inl rfl) | exact Or.inr (Or.inr rfl)))) (pe_var (i := 3) rfl (by first | exact Or.inl rfl | exact Or.inr (Or.inl rfl) | exact Or.inr (Or.inr rfl))))))))

abbrev s_top_result : Stmt := top 31
abbrev n_top_result : List Str := ["table", "tops", "top", "number", "text", "found"]
theorem sc_top_result : FnScope n_top_result ["table", "tops", "top"] (defScope s_top_result) := ⟨rfl, rfl, rfl, by decide +kernel, rfl, by decide +kernel, by decide +kernel⟩
def bd_top_result : EM Out :=
  (sSeq (sSet 3 (eCall f_fitting (aCons (eVar 0) (aCons (eVar 2) aNil))))
  (sSeq (sIf (tB (e2 (gIs false) (eVar 3) (eC .none)))
  (sRet (eTup (aCons (eC (.str "end")) (aCons (eVar 2) (aCons (eC (.int 0)) (aCons (eTup aNil) aNil))))))
  sNx)
  (sSeq (sSet 4 (eCall f_replaced (aCons (eVar 0) (aCons (eVar 2) (aCons (eVar 3) aNil)))))
  (sSeq (sIf (tNot (tTru (e2 gIx (eVar 0) (eC (.int 1)))))
  (sRet (eTup (aCons (eC (.str "end")) (aCons (eVar 4) (aCons (eC (.int 1)) (aCons (eTup (aCons (eVar 3) aNil)) aNil))))))
  sNx)
  (sSeq (sSet 5 (eCall f_settled (aCons (eVar 1) (aCons (eVar 4) aNil))))
  (sSeq (sIf (tOr (tB (e2 (gIs false) (eVar 5) (eC .none))) (tB (e2 gEq (e2 gIx (eVar 5) (eC (.int 0))) (eC (.str "endless")))))
  (sRet (eVar 5))
  sNx)
  (sRet (eTup (aCons (e2 gIx (eVar 5) (eC (.int 0))) (aCons (e2 gIx (eVar 5) (eC (.int 1))) (aCons (e2 gAdd (e2 gIx (eVar 5) (eC (.int 2))) (eC (.int 1))) (aCons (e2 gAdd (eTup (aCons (eVar 3) aNil)) (e2 gIx (eVar 5) (eC (.int 3)))) aNil))))))))))))
def f_top_result : EM R := defF 3 6 bd_top_result
theorem ok_top_result (T : Txt K mg ex) (D : DefAt K mg "top_result" s_top_result ["table", "tops", "top"]) (g_fitting : Ok P w K mg base ex 1 "fitting" ["table", "text"] f_fitting) (g_replaced : Ok P w K mg base ex 1 "replaced" ["table", "text", "number"] f_replaced) (g_settled : Ok P w K mg base ex 1 "settled" ["tops", "text"] f_settled) : Ok P w K mg base ex 2 "top_result" ["table", "tops", "top"] f_top_result := by
  obtain ⟨f_fitting_, fd_fitting, m_fitting, k_fitting, b_fitting, G_fitting⟩ := g_fitting
  obtain ⟨f_replaced_, fd_replaced, m_replaced, k_replaced, b_replaced, G_replaced⟩ := g_replaced
  obtain ⟨f_settled_, fd_settled, m_settled, k_settled, b_settled, G_settled⟩ := g_settled
  refine ok_mk (k := 1) D sc_top_result (by decide) fun fA cdv A outer s H E hr => ?_
  have nd := sc_top_result.nd
  have tk := takes_of (X := cxOf (L2.CX P w) P w K mg base n_top_result "top_result" (defScope s_top_result) fA cdv A outer s H E) (E := E) rfl rfl rfl rfl
  have hp : PassesOwn (model P w) _ _ _ := passes_of (X := cxOf (L2.CX P w) P w K mg base n_top_result "top_result" (defScope s_top_result) fA cdv A outer s H E) rfl
  exact (p_cons (l_set (i := 3) nd (l_call G_fitting (hr.mono (by decide)) m_fitting k_fitting b_fitting tk (l_cons (l_var 0) (l_cons (l_var 2) l_nil))))
    (p_cons (l_ifs (l_cmpT (op_isN) (isN_2 _) (l_var 3) l_non)
    (p_one (l_ret (l_tup (l_cons l_str (l_cons (l_var 2) (l_cons l_int (l_cons (l_tup l_nil) l_nil)))))))
    p_nil)
    (p_cons (l_set (i := 4) nd (l_call G_replaced (hr.mono (by decide)) m_replaced k_replaced b_replaced tk (l_cons (l_var 0) (l_cons (l_var 2) (l_cons (l_var 3) l_nil)))))
    (p_cons (l_ifs (l_not (l_tru (l_ix (l_var 0) l_int)))
    (p_one (l_ret (l_tup (l_cons l_str (l_cons (l_var 4) (l_cons l_int (l_cons (l_tup (l_cons (l_var 3) l_nil)) l_nil)))))))
    p_nil)
    (p_cons (l_set (i := 5) nd (l_call G_settled (hr.mono (by decide)) m_settled k_settled b_settled tk (l_cons (l_var 1) (l_cons (l_var 4) l_nil))))
    (p_cons (l_ifs (PW.pt (l_or (l_cmpT (op_isN) (isN_2 _) (l_var 5) l_non) (l_or1 (l_cmpT (op_eqD hr.units) (eq_2 _) (l_ix (l_var 5) l_int) l_str))))
    (p_one (l_ret (l_var 5)))
    p_nil)
    (p_one (l_ret (l_tup (l_cons (l_ix (l_var 5) l_int) (l_cons (l_ix (l_var 5) l_int) (l_cons (l_bin op_addU (add_2 _) (l_ix (l_var 5) l_int) l_int) (l_cons (l_bin op_addU (add_2 _) (l_tup (l_cons (l_var 3) l_nil)) (l_ix (l_var 5) l_int)) l_nil)))))))))))))

abbrev s_all_tops : Stmt := top 32
abbrev n_all_tops : List Str := ["table", "found", "changed", "top", "result"]
theorem sc_all_tops : FnScope n_all_tops ["table"] (defScope s_all_tops) := ⟨rfl, rfl, rfl, by decide +kernel, rfl, by decide +kernel, by decide +kernel⟩
def bd_all_tops : EM Out :=
  (sSeq (sSet 1 eDnew)
  (sSeq (sSet 2 (eC (.bool true)))
  (sSeq (sWhile (tTru (eVar 2))
  (sSeq (sSet 2 (eC (.bool false)))
  (sFor (srcAny (eCall f_three_signs (aCons (e2 gIx (eVar 0) (eC (.int 0))) aNil))) (stVal 3)
  (sSeq (sSet 4 (eIf (tB (e2 (gKeyIn false) (eVar 3) (eVar 1))) (eC .none) (eCall f_top_result (aCons (eVar 0) (aCons (eVar 1) (aCons (eVar 3) aNil))))))
  (sIf (tB (e2 (gIs true) (eVar 4) (eC .none)))
  (sSeq (sSetK 1 (eVar 4) (eVar 3))
  (sSet 2 (eC (.bool true))))
  sNx)))))
  (sSeq (sFor (srcAny (eCall f_three_signs (aCons (e2 gIx (eVar 0) (eC (.int 0))) aNil))) (stVal 3)
  (sIf (tB (e2 (gKeyIn true) (eVar 3) (eVar 1)))
  (sSetK 1 (eTup (aCons (eC (.str "endless")) (aCons (eC (.str "")) (aCons (eC (.int 0)) (aCons (eTup aNil) aNil))))) (eVar 3))
  sNx))
  (sRet (eVar 1))))))
def f_all_tops : EM R := defF 1 5 bd_all_tops
theorem ok_all_tops (T : Txt K mg ex) (D : DefAt K mg "all_tops" s_all_tops ["table"]) (g_three_signs : Ok P w K mg base ex 1 "three_signs" ["signs"] f_three_signs) (g_top_result : Ok P w K mg base ex 2 "top_result" ["table", "tops", "top"] f_top_result) : Ok P w K mg base ex 3 "all_tops" ["table"] f_all_tops := by
  obtain ⟨f_three_signs_, fd_three_signs, m_three_signs, k_three_signs, b_three_signs, G_three_signs⟩ := g_three_signs
  obtain ⟨f_top_result_, fd_top_result, m_top_result, k_top_result, b_top_result, G_top_result⟩ := g_top_result
  refine ok_mk (k := 2) D sc_all_tops (by decide) fun fA cdv A outer s H E hr => ?_
  have nd := sc_all_tops.nd
  have tk := takes_of (X := cxOf (L2.CX P w) P w K mg base n_all_tops "all_tops" (defScope s_all_tops) fA cdv A outer s H E) (E := E) rfl rfl rfl rfl
  have hp : PassesOwn (model P w) _ _ _ := passes_of (X := cxOf (L2.CX P w) P w K mg base n_all_tops "all_tops" (defScope s_all_tops) fA cdv A outer s H E) rfl
  exact (p_cons (l_set (i := 1) nd l_dnew)
    (p_cons (l_set (i := 2) nd l_bl)
    (p_cons (l_while hp (l_tru (l_var 2))
    (p_cons (l_set (i := 2) nd l_bl)
    (p_one (l_for hp rfl (pi_any (l_call G_three_signs (hr.mono (by decide)) m_three_signs k_three_signs b_three_signs tk (l_cons (l_ix (l_var 0) l_int) l_nil))) src_any (pg_name (i := 3) nd rfl (by first | exact Or.inl rfl | exact Or.inr rfl)) (tg_name _ 3)
    (p_cons (l_set (i := 4) nd (l_if (l_inKT (hu_of hr) (l_var 3) (l_var 1)) l_non (l_call G_top_result (hr.mono (by decide)) m_top_result k_top_result b_top_result tk (l_cons (l_var 0) (l_cons (l_var 1) (l_cons (l_var 3) l_nil))))))
    (p_one (l_ifs (l_cmpT (op_notN) (notN_2 _) (l_var 4) l_non)
    (p_cons (l_setK (i := 1) (hu_of hr) (l_var 4) (l_var 3))
    (p_one (l_set (i := 2) nd l_bl)))
    p_nil)))))))
    (p_cons (l_for hp rfl (pi_any (l_call G_three_signs (hr.mono (by decide)) m_three_signs k_three_signs b_three_signs tk (l_cons (l_ix (l_var 0) l_int) l_nil))) src_any (pg_name (i := 3) nd rfl (by first | exact Or.inl rfl | exact Or.inr rfl)) (tg_name _ 3)
    (p_one (l_ifs (l_niKT (hu_of hr) (l_var 3) (l_var 1))
    (p_one (l_setK (i := 1) (hu_of hr) (l_tup (l_cons l_str (l_cons l_str (l_cons l_int (l_cons (l_tup l_nil) l_nil))))) (l_var 3)))
    p_nil)))
    (p_one (l_ret (l_var 1)))))))

abbrev s_bottom : Stmt := top 33
abbrev n_bottom : List Str := ["table", "tops", "text", "steps", "used", "known", "word", "more", "rules", "number"]
theorem sc_bottom : FnScope n_bottom ["table", "tops", "text"] (defScope s_bottom) := ⟨rfl, rfl, rfl, by decide +kernel, rfl, by decide +kernel, by decide +kernel⟩
def bd_bottom : EM Out :=
  (sSeq (sPar [3, 4, 5] (aCons (eC (.int 0)) (aCons (eTup aNil) (aCons (eLst aNil) aNil))))
  (sWhile (tTru (eC (.bool true)))
  (sSeq (sAsg (stTup [6, 2, 7, 8]) (eCall f_settled (aCons (eVar 1) (aCons (eVar 2) aNil))))
  (sSeq (sIf (tOr (tB (e2 gEq (eVar 6) (eC (.str "endless")))) (tAnd (tB (e2 (gIn false) (eVar 2) (eVar 5))) (tB (e2 gEq (eVar 6) (eC (.str "need"))))))
  (sRet (eTup (aCons (eC (.str "endless")) (aCons (eC (.str "")) (aCons (eC (.int 0)) (aCons (eTup aNil) aNil))))))
  sNx)
  (sSeq (sPar [3, 4, 5] (aCons (e2 gAdd (eVar 3) (eVar 7)) (aCons (e2 gAdd (eVar 4) (eVar 8)) (aCons (e2 gAdd (eVar 5) (eLst (aCons (eVar 2) aNil))) aNil))))
  (sSeq (sSet 9 (eCall f_fitting (aCons (eVar 0) (aCons (eVar 2) aNil))))
  (sSeq (sIf (tOr (tB (e2 gEq (eVar 6) (eC (.str "end")))) (tB (e2 (gIs false) (eVar 9) (eC .none))))
  (sRet (eTup (aCons (eC (.str "end")) (aCons (eVar 2) (aCons (eVar 3) (aCons (eVar 4) aNil))))))
  sNx)
  (sSeq (sPar [2, 3, 4] (aCons (eCall f_replaced (aCons (eVar 0) (aCons (eVar 2) (aCons (eVar 9) aNil)))) (aCons (e2 gAdd (eVar 3) (eC (.int 1))) (aCons (e2 gAdd (eVar 4) (eTup (aCons (eVar 9) aNil))) aNil))))
  (sIf (tNot (tTru (e2 gIx (eVar 0) (eC (.int 1)))))
  (sRet (eTup (aCons (eC (.str "end")) (aCons (eVar 2) (aCons (eVar 3) (aCons (eVar 4) aNil))))))
  sNx)))))))))
def f_bottom : EM R := defF 3 10 bd_bottom
theorem ok_bottom (T : Txt K mg ex) (D : DefAt K mg "bottom" s_bottom ["table", "tops", "text"]) (g_fitting : Ok P w K mg base ex 1 "fitting" ["table", "text"] f_fitting) (g_replaced : Ok P w K mg base ex 1 "replaced" ["table", "text", "number"] f_replaced) (g_settled : Ok P w K mg base ex 1 "settled" ["tops", "text"] f_settled) : Ok P w K mg base ex 2 "bottom" ["table", "tops", "text"] f_bottom := by
  obtain ⟨f_fitting_, fd_fitting, m_fitting, k_fitting, b_fitting, G_fitting⟩ := g_fitting
  obtain ⟨f_replaced_, fd_replaced, m_replaced, k_replaced, b_replaced, G_replaced⟩ := g_replaced
  obtain ⟨f_settled_, fd_settled, m_settled, k_settled, b_settled, G_settled⟩ := g_settled
  refine ok_mk (k := 1) D sc_bottom (by decide) fun fA cdv A outer s H E hr => ?_
  have nd := sc_bottom.nd
  have tk := takes_of (X := cxOf (L2.CX P w) P w K mg base n_bottom "bottom" (defScope s_bottom) fA cdv A outer s H E) (E := E) rfl rfl rfl rfl
  have hp : PassesOwn (model P w) _ _ _ := passes_of (X := cxOf (L2.CX P w) P w K mg base n_bottom "bottom" (defScope s_bottom) fA cdv A outer s H E) rfl
  exact (p_cons (l_par3 (i := 3) (j := 4) (l := 5) rfl nd (l_cons l_int (l_cons (l_tup l_nil) (l_cons (l_lst l_nil) l_nil))))
    (p_one (l_while hp (l_tru l_bl)
    (p_cons (l_asg (tg_tup (tg_cons (j := 6) (tg_cons (j := 2) (tg_cons (j := 7) (tg_cons (j := 8) (tg_nil _))))) rfl) (pg_tup rfl (pgs_cons (pg_name (i := 6) nd rfl (by first | exact Or.inl rfl | exact Or.inr rfl)) (pgs_cons (pg_name (i := 2) nd rfl (by first | exact Or.inl rfl | exact Or.inr rfl)) (pgs_cons (pg_name (i := 7) nd rfl (by first | exact Or.inl rfl | exact Or.inr rfl)) (pgs_cons (pg_name (i := 8) nd rfl (by first | exact Or.inl rfl | exact Or.inr rfl)) pgs_nil))))) (l_call G_settled (hr.mono (by decide)) m_settled k_settled b_settled tk (l_cons (l_var 1) (l_cons (l_var 2) l_nil))))
    (p_cons (l_ifs (PW.pt (l_or (l_cmpT (op_eqD hr.units) (eq_2 _) (l_var 6) l_str) (l_or1 (PW.pt (l_and (l_cmpT (op_inU) (in_2 _ false) (l_var 2) (l_var 5)) (l_and1 (l_cmpT (op_eqD hr.units) (eq_2 _) (l_var 6) l_str)))))))
    (p_one (l_ret (l_tup (l_cons l_str (l_cons l_str (l_cons l_int (l_cons (l_tup l_nil) l_nil)))))))
    p_nil)
    (p_cons (l_par3 (i := 3) (j := 4) (l := 5) rfl nd (l_cons (l_bin op_addU (add_2 _) (l_var 3) (l_var 7)) (l_cons (l_bin op_addU (add_2 _) (l_var 4) (l_var 8)) (l_cons (l_bin op_addU (add_2 _) (l_var 5) (l_lst (l_cons (l_var 2) l_nil))) l_nil))))
    (p_cons (l_set (i := 9) nd (l_call G_fitting (hr.mono (by decide)) m_fitting k_fitting b_fitting tk (l_cons (l_var 0) (l_cons (l_var 2) l_nil))))
    (p_cons (l_ifs (PW.pt (l_or (l_cmpT (op_eqD hr.units) (eq_2 _) (l_var 6) l_str) (l_or1 (l_cmpT (op_isN) (isN_2 _) (l_var 9) l_non))))
    (p_one (l_ret (l_tup (l_cons l_str (l_cons (l_var 2) (l_cons (l_var 3) (l_cons (l_var 4) l_nil)))))))
    p_nil)
    (p_cons (l_par3 (i := 2) (j := 3) (l := 4) rfl nd (l_cons (l_call G_replaced (hr.mono (by decide)) m_replaced k_replaced b_replaced tk (l_cons (l_var 0) (l_cons (l_var 2) (l_cons (l_var 9) l_nil)))) (l_cons (l_bin op_addU (add_2 _) (l_var 3) l_int) (l_cons (l_bin op_addU (add_2 _) (l_var 4) (l_tup (l_cons (l_var 9) l_nil))) l_nil))))
    (p_one (l_ifs (l_not (l_tru (l_ix (l_var 0) l_int)))
    (p_one (l_ret (l_tup (l_cons l_str (l_cons (l_var 2) (l_cons (l_var 3) (l_cons (l_var 4) l_nil)))))))
    p_nil)))))))))))

abbrev s_read_on : Stmt := top 34
abbrev n_read_on : List Str := ["tops", "sign", "spot"]
theorem sc_read_on : FnScope n_read_on ["tops", "sign", "spot"] (defScope s_read_on) := ⟨rfl, rfl, rfl, by decide +kernel, rfl, by decide +kernel, by decide +kernel⟩
def bd_read_on : EM Out :=
  (sRet (eCall f_settled (aCons (eVar 0) (aCons (e2 gAdd (eVar 1) (eVar 2)) aNil))))
def f_read_on : EM R := defF 3 3 bd_read_on
theorem ok_read_on (T : Txt K mg ex) (D : DefAt K mg "read_on" s_read_on ["tops", "sign", "spot"]) (g_settled : Ok P w K mg base ex 1 "settled" ["tops", "text"] f_settled) : Ok P w K mg base ex 2 "read_on" ["tops", "sign", "spot"] f_read_on := by
  obtain ⟨f_settled_, fd_settled, m_settled, k_settled, b_settled, G_settled⟩ := g_settled
  refine ok_mk (k := 1) D sc_read_on (by decide) fun fA cdv A outer s H E hr => ?_
  have nd := sc_read_on.nd
  have tk := takes_of (X := cxOf (L2.CX P w) P w K mg base n_read_on "read_on" (defScope s_read_on) fA cdv A outer s H E) (E := E) rfl rfl rfl rfl
  have hp : PassesOwn (model P w) _ _ _ := passes_of (X := cxOf (L2.CX P w) P w K mg base n_read_on "read_on" (defScope s_read_on) fA cdv A outer s H E) rfl
  exact (p_one (l_ret (l_call G_settled (hr.mono (by decide)) m_settled k_settled b_settled tk (l_cons (l_var 0) (l_cons (l_bin op_addU (add_2 _) (l_var 1) (l_var 2)) l_nil)))))

abbrev s_put_on : Stmt := top 35
abbrev n_put_on : List Str := ["table", "tops", "text", "sign", "spot", "steps", "used", "word", "more", "rules", "rest"]
theorem sc_put_on : FnScope n_put_on ["table", "tops", "text", "sign"] (defScope s_put_on) := ⟨rfl, rfl, rfl, by decide +kernel, rfl, by decide +kernel, by decide +kernel⟩
def bd_put_on : EM Out :=
  (sSeq (sPar [4, 5, 6] (aCons (eVar 3) (aCons (eC (.int 0)) (aCons (eTup aNil) aNil))))
  (sSeq (sWhile (tB (e2 gNe (eVar 2) (eC (.str ""))))
  (sSeq (sAsg (stTup [7, 4, 8, 9]) (eCall f_read_on (aCons (eVar 1) (aCons (e2 gIx (eVar 2) (e2 gSub (e1 gLen (eVar 2)) (eC (.int 1)))) (aCons (eVar 4) aNil)))))
  (sSeq (sPar [2, 5, 6] (aCons (eSl (eVar 2) pNone (pSome (e2 gSub (e1 gLen (eVar 2)) (eC (.int 1))))) (aCons (e2 gAdd (eVar 5) (eVar 8)) (aCons (e2 gAdd (eVar 6) (eVar 9)) aNil))))
  (sSeq (sIf (tB (e2 gEq (eVar 7) (eC (.str "endless"))))
  (sRet (eTup (aCons (eC (.str "endless")) (aCons (eC (.str "")) (aCons (eC (.int 0)) (aCons (eTup aNil) aNil))))))
  sNx)
  (sIf (tB (e2 gEq (eVar 7) (eC (.str "end"))))
  (sRet (eTup (aCons (eC (.str "end")) (aCons (e2 gAdd (eVar 2) (eVar 4)) (aCons (eVar 5) (aCons (eVar 6) aNil))))))
  sNx)))))
  (sSeq (sAsg (stTup [7, 10, 8, 9]) (eCall f_bottom (aCons (eVar 0) (aCons (eVar 1) (aCons (eVar 4) aNil)))))
  (sRet (eTup (aCons (eVar 7) (aCons (eVar 10) (aCons (e2 gAdd (eVar 5) (eVar 8)) (aCons (e2 gAdd (eVar 6) (eVar 9)) aNil)))))))))
def f_put_on : EM R := defF 4 11 bd_put_on
theorem ok_put_on (T : Txt K mg ex) (D : DefAt K mg "put_on" s_put_on ["table", "tops", "text", "sign"]) (g_bottom : Ok P w K mg base ex 2 "bottom" ["table", "tops", "text"] f_bottom) (g_read_on : Ok P w K mg base ex 2 "read_on" ["tops", "sign", "spot"] f_read_on) : Ok P w K mg base ex 3 "put_on" ["table", "tops", "text", "sign"] f_put_on := by
  obtain ⟨f_bottom_, fd_bottom, m_bottom, k_bottom, b_bottom, G_bottom⟩ := g_bottom
  obtain ⟨f_read_on_, fd_read_on, m_read_on, k_read_on, b_read_on, G_read_on⟩ := g_read_on
  refine ok_mk (k := 2) D sc_put_on (by decide) fun fA cdv A outer s H E hr => ?_
  have nd := sc_put_on.nd
  have tk := takes_of (X := cxOf (L2.CX P w) P w K mg base n_put_on "put_on" (defScope s_put_on) fA cdv A outer s H E) (E := E) rfl rfl rfl rfl
  have hp : PassesOwn (model P w) _ _ _ := passes_of (X := cxOf (L2.CX P w) P w K mg base n_put_on "put_on" (defScope s_put_on) fA cdv A outer s H E) rfl
  exact (p_cons (l_par3 (i := 4) (j := 5) (l := 6) rfl nd (l_cons (l_var 3) (l_cons l_int (l_cons (l_tup l_nil) l_nil))))
    (p_cons (l_while hp (l_cmpT (op_neD hr.units) (ne_2 _) (l_var 2) l_str)
    (p_cons (l_asg (tg_tup (tg_cons (j := 7) (tg_cons (j := 4) (tg_cons (j := 8) (tg_cons (j := 9) (tg_nil _))))) rfl) (pg_tup rfl (pgs_cons (pg_name (i := 7) nd rfl (by first | exact Or.inl rfl | exact Or.inr rfl)) (pgs_cons (pg_name (i := 4) nd rfl (by first | exact Or.inl rfl | exact Or.inr rfl)) (pgs_cons (pg_name (i := 8) nd rfl (by first | exact Or.inl rfl | exact Or.inr rfl)) (pgs_cons (pg_name (i := 9) nd rfl (by first | exact Or.inl rfl | exact Or.inr rfl)) pgs_nil))))) (l_call G_read_on (hr.mono (by decide)) m_read_on k_read_on b_read_on tk (l_cons (l_var 1) (l_cons (l_ix (l_var 2) (l_bin op_sub (sub_2 _) (l_callB call_len (len_1 _) T.b_len boot_len (l_var 2)) l_int)) (l_cons (l_var 4) l_nil)))))
    (p_cons (l_par3 (i := 2) (j := 5) (l := 6) rfl nd (l_cons (l_sl (l_var 2) l_no (l_so (l_bin op_sub (sub_2 _) (l_callB call_len (len_1 _) T.b_len boot_len (l_var 2)) l_int))) (l_cons (l_bin op_addU (add_2 _) (l_var 5) (l_var 8)) (l_cons (l_bin op_addU (add_2 _) (l_var 6) (l_var 9)) l_nil))))
    (p_cons (l_ifs (l_cmpT (op_eqD hr.units) (eq_2 _) (l_var 7) l_str)
    (p_one (l_ret (l_tup (l_cons l_str (l_cons l_str (l_cons l_int (l_cons (l_tup l_nil) l_nil)))))))
    p_nil)
    (p_one (l_ifs (l_cmpT (op_eqD hr.units) (eq_2 _) (l_var 7) l_str)
    (p_one (l_ret (l_tup (l_cons l_str (l_cons (l_bin op_addU (add_2 _) (l_var 2) (l_var 4)) (l_cons (l_var 5) (l_cons (l_var 6) l_nil)))))))
    p_nil))))))
    (p_cons (l_asg (tg_tup (tg_cons (j := 7) (tg_cons (j := 10) (tg_cons (j := 8) (tg_cons (j := 9) (tg_nil _))))) rfl) (pg_tup rfl (pgs_cons (pg_name (i := 7) nd rfl (by first | exact Or.inl rfl | exact Or.inr rfl)) (pgs_cons (pg_name (i := 10) nd rfl (by first | exact Or.inl rfl | exact Or.inr rfl)) (pgs_cons (pg_name (i := 8) nd rfl (by first | exact Or.inl rfl | exact Or.inr rfl)) (pgs_cons (pg_name (i := 9) nd rfl (by first | exact Or.inl rfl | exact Or.inr rfl)) pgs_nil))))) (l_call G_bottom (hr.mono (by decide)) m_bottom k_bottom b_bottom tk (l_cons (l_var 0) (l_cons (l_var 1) (l_cons (l_var 4) l_nil)))))
    (p_one (l_ret (l_tup (l_cons (l_var 7) (l_cons (l_var 10) (l_cons (l_bin op_addU (add_2 _) (l_var 5) (l_var 8)) (l_cons (l_bin op_addU (add_2 _) (l_var 6) (l_var 9)) l_nil))))))))))

abbrev s_behind_key : Stmt := top 37
abbrev n_behind_key : List Str := ["table", "tops", "text", "key", "word", "there", "steps", "used"]
theorem sc_behind_key : FnScope n_behind_key ["table", "tops", "text", "key"] (defScope s_behind_key) := ⟨rfl, rfl, rfl, by decide +kernel, rfl, by decide +kernel, by decide +kernel⟩
def bd_behind_key : EM Out :=
  (sSeq (sIf (tB (e2 gEq (eVar 3) (eC (.str "back"))))
  (sRet (eTup (aCons (eIf (tB (e2 gNe (eVar 2) (eC (.str "")))) (eSl (eVar 2) pNone (pSome (e2 gSub (e1 gLen (eVar 2)) (eC (.int 1))))) (eC (.str ""))) (aCons (eC (.int 0)) aNil))))
  sNx)
  (sSeq (sAsg (stTup [4, 5, 6, 7]) (eCall f_put_on (aCons (eVar 0) (aCons (eVar 1) (aCons (eVar 2) (aCons (eVar 3) aNil))))))
  (sRet (eIf (tB (e2 gEq (eVar 4) (eC (.str "endless")))) (eC .none) (eTup (aCons (eVar 5) (aCons (eVar 6) aNil)))))))
def f_behind_key : EM R := defF 4 8 bd_behind_key
theorem ok_behind_key (T : Txt K mg ex) (D : DefAt K mg "behind_key" s_behind_key ["table", "tops", "text", "key"]) (g_put_on : Ok P w K mg base ex 3 "put_on" ["table", "tops", "text", "sign"] f_put_on) : Ok P w K mg base ex 4 "behind_key" ["table", "tops", "text", "key"] f_behind_key := by
  obtain ⟨f_put_on_, fd_put_on, m_put_on, k_put_on, b_put_on, G_put_on⟩ := g_put_on
  obtain ⟨t_BACK, m_BACK⟩ := T.c_BACK
  refine ok_mk (k := 3) D sc_behind_key (by decide) fun fA cdv A outer s H E hr => ?_
  have nd := sc_behind_key.nd
  have tk := takes_of (X := cxOf (L2.CX P w) P w K mg base n_behind_key "behind_key" (defScope s_behind_key) fA cdv A outer s H E) (E := E) rfl rfl rfl rfl
  have hp : PassesOwn (model P w) _ _ _ := passes_of (X := cxOf (L2.CX P w) P w K mg base n_behind_key "behind_key" (defScope s_behind_key) fA cdv A outer s H E) rfl
  exact (p_cons (l_ifs (l_cmpT (op_eqD hr.units) (eq_2 _) (l_var 3) (l_glob (v := .str "back") rfl m_BACK ⟨_, rfl⟩ (fun _ => .str _)))
    (p_one (l_ret (l_tup (l_cons (l_if (l_cmpT (op_neD hr.units) (ne_2 _) (l_var 2) l_str) (l_sl (l_var 2) l_no (l_so (l_bin op_sub (sub_2 _) (l_callB call_len (len_1 _) T.b_len boot_len (l_var 2)) l_int))) l_str) (l_cons l_int l_nil)))))
    p_nil)
    (p_cons (l_asg (tg_tup (tg_cons (j := 4) (tg_cons (j := 5) (tg_cons (j := 6) (tg_cons (j := 7) (tg_nil _))))) rfl) (pg_tup rfl (pgs_cons (pg_name (i := 4) nd rfl (by first | exact Or.inl rfl | exact Or.inr rfl)) (pgs_cons (pg_name (i := 5) nd rfl (by first | exact Or.inl rfl | exact Or.inr rfl)) (pgs_cons (pg_name (i := 6) nd rfl (by first | exact Or.inl rfl | exact Or.inr rfl)) (pgs_cons (pg_name (i := 7) nd rfl (by first | exact Or.inl rfl | exact Or.inr rfl)) pgs_nil))))) (l_call G_put_on (hr.mono (by decide)) m_put_on k_put_on b_put_on tk (l_cons (l_var 0) (l_cons (l_var 1) (l_cons (l_var 2) (l_cons (l_var 3) l_nil))))))
    (p_one (l_ret (l_if (l_cmpT (op_eqD hr.units) (eq_2 _) (l_var 4) l_str) l_non (l_tup (l_cons (l_var 5) (l_cons (l_var 6) l_nil))))))))

abbrev s_behind_row : Stmt := top 38
abbrev n_behind_row : List Str := ["table", "tops", "text", "row", "key", "found"]
theorem sc_behind_row : FnScope n_behind_row ["table", "tops", "text", "row"] (defScope s_behind_row) := ⟨rfl, rfl, rfl, by decide +kernel, rfl, by decide +kernel, by decide +kernel⟩
def bd_behind_row : EM Out :=
  (sSeq (sFor (srcAny (eVar 3)) (stVal 4)
  (sSeq (sSet 5 (eCall f_behind_key (aCons (eVar 0) (aCons (eVar 1) (aCons (eVar 2) (aCons (eVar 4) aNil))))))
  (sSeq (sIf (tB (e2 (gIs false) (eVar 5) (eC .none)))
  (sRet (eC .none))
  sNx)
  (sSet 2 (e2 gIx (eVar 5) (eC (.int 0)))))))
  (sRet (eVar 2)))
def f_behind_row : EM R := defF 4 6 bd_behind_row
theorem ok_behind_row (T : Txt K mg ex) (D : DefAt K mg "behind_row" s_behind_row ["table", "tops", "text", "row"]) (g_behind_key : Ok P w K mg base ex 4 "behind_key" ["table", "tops", "text", "key"] f_behind_key) : Ok P w K mg base ex 5 "behind_row" ["table", "tops", "text", "row"] f_behind_row := by
  obtain ⟨f_behind_key_, fd_behind_key, m_behind_key, k_behind_key, b_behind_key, G_behind_key⟩ := g_behind_key
  refine ok_mk (k := 4) D sc_behind_row (by decide) fun fA cdv A outer s H E hr => ?_
  have nd := sc_behind_row.nd
  have tk := takes_of (X := cxOf (L2.CX P w) P w K mg base n_behind_row "behind_row" (defScope s_behind_row) fA cdv A outer s H E) (E := E) rfl rfl rfl rfl
  have hp : PassesOwn (model P w) _ _ _ := passes_of (X := cxOf (L2.CX P w) P w K mg base n_behind_row "behind_row" (defScope s_behind_row) fA cdv A outer s H E) rfl
  exact (p_cons (l_for hp rfl (pi_any (l_var 3)) src_any (pg_name (i := 4) nd rfl (by first | exact Or.inl rfl | exact Or.inr rfl)) (tg_name _ 4)
    (p_cons (l_set (i := 5) nd (l_call G_behind_key (hr.mono (by decide)) m_behind_key k_behind_key b_behind_key tk (l_cons (l_var 0) (l_cons (l_var 1) (l_cons (l_var 2) (l_cons (l_var 4) l_nil))))))
    (p_cons (l_ifs (l_cmpT (op_isN) (isN_2 _) (l_var 5) l_non)
    (p_one (l_ret l_non))
    p_nil)
    (p_one (l_set (i := 2) nd (l_ix (l_var 5) l_int))))))
    (p_one (l_ret (l_var 2))))

abbrev s_put : Stmt := top 39
abbrev n_put : List Str := ["table", "text", "sign", "found"]
theorem sc_put : FnScope n_put ["table", "text", "sign"] (defScope s_put) := ⟨rfl, rfl, rfl, by decide +kernel, rfl, by decide +kernel, by decide +kernel⟩
def bd_put : EM Out :=
  (sSeq (sExpr (eCall f_need_table (aCons (eVar 0) aNil)))
  (sSeq (sExpr (eCall f_need_text (aCons (eVar 0) (aCons (eVar 1) aNil))))
  (sSeq (sExpr (eCall f_need_sign (aCons (eVar 0) (aCons (eVar 2) aNil))))
  (sSeq (sSet 3 (eCall f_behind_key (aCons (eVar 0) (aCons (eCall f_all_tops (aCons (eVar 0) aNil)) (aCons (eVar 1) (aCons (eVar 2) aNil))))))
  (sRet (eIf (tB (e2 (gIs false) (eVar 3) (eC .none))) (eC .none) (e2 gIx (eVar 3) (eC (.int 0)))))))))
def f_put : EM R := defF 3 4 bd_put
theorem ok_put (T : Txt K mg ex) (D : DefAt K mg "put" s_put ["table", "text", "sign"]) (g_need_table : Ok P w K mg base ex 5 "need_table" ["value"] f_need_table) (g_need_text : Ok P w K mg base ex 2 "need_text" ["table", "value"] f_need_text) (g_need_sign : Ok P w K mg base ex 2 "need_sign" ["table", "value"] f_need_sign) (g_all_tops : Ok P w K mg base ex 3 "all_tops" ["table"] f_all_tops) (g_behind_key : Ok P w K mg base ex 4 "behind_key" ["table", "tops", "text", "key"] f_behind_key) : Ok P w K mg base ex 6 "put" ["table", "text", "sign"] f_put := by
  obtain ⟨f_need_table_, fd_need_table, m_need_table, k_need_table, b_need_table, G_need_table⟩ := g_need_table
  obtain ⟨f_need_text_, fd_need_text, m_need_text, k_need_text, b_need_text, G_need_text⟩ := g_need_text
  obtain ⟨f_need_sign_, fd_need_sign, m_need_sign, k_need_sign, b_need_sign, G_need_sign⟩ := g_need_sign
  obtain ⟨f_all_tops_, fd_all_tops, m_all_tops, k_all_tops, b_all_tops, G_all_tops⟩ := g_all_tops
  obtain ⟨f_behind_key_, fd_behind_key, m_behind_key, k_behind_key, b_behind_key, G_behind_key⟩ := g_behind_key
  refine ok_mk (k := 5) D sc_put (by decide) fun fA cdv A outer s H E hr => ?_
  have nd := sc_put.nd
  have tk := takes_of (X := cxOf (L2.CX P w) P w K mg base n_put "put" (defScope s_put) fA cdv A outer s H E) (E := E) rfl rfl rfl rfl
  have hp : PassesOwn (model P w) _ _ _ := passes_of (X := cxOf (L2.CX P w) P w K mg base n_put "put" (defScope s_put) fA cdv A outer s H E) rfl
  exact (p_cons (l_expr (l_call G_need_table (hr.mono (by decide)) m_need_table k_need_table b_need_table tk (l_cons (l_var 0) l_nil)))
    (p_cons (l_expr (l_call G_need_text (hr.mono (by decide)) m_need_text k_need_text b_need_text tk (l_cons (l_var 0) (l_cons (l_var 1) l_nil))))
    (p_cons (l_expr (l_call G_need_sign (hr.mono (by decide)) m_need_sign k_need_sign b_need_sign tk (l_cons (l_var 0) (l_cons (l_var 2) l_nil))))
    (p_cons (l_set (i := 3) nd (l_call G_behind_key (hr.mono (by decide)) m_behind_key k_behind_key b_behind_key tk (l_cons (l_var 0) (l_cons (l_call G_all_tops (hr.mono (by decide)) m_all_tops k_all_tops b_all_tops tk (l_cons (l_var 0) l_nil)) (l_cons (l_var 1) (l_cons (l_var 2) l_nil))))))
    (p_one (l_ret (l_if (l_cmpT (op_isN) (isN_2 _) (l_var 3) l_non) l_non (l_ix (l_var 3) l_int))))))))

abbrev s_count_steps : Stmt := top 40
abbrev n_count_steps : List Str := ["table", "text", "sign", "found"]
theorem sc_count_steps : FnScope n_count_steps ["table", "text", "sign"] (defScope s_count_steps) := ⟨rfl, rfl, rfl, by decide +kernel, rfl, by decide +kernel, by decide +kernel⟩
def bd_count_steps : EM Out :=
  (sSeq (sExpr (eCall f_need_table (aCons (eVar 0) aNil)))
  (sSeq (sExpr (eCall f_need_text (aCons (eVar 0) (aCons (eVar 1) aNil))))
  (sSeq (sExpr (eCall f_need_sign (aCons (eVar 0) (aCons (eVar 2) aNil))))
  (sSeq (sSet 3 (eCall f_behind_key (aCons (eVar 0) (aCons (eCall f_all_tops (aCons (eVar 0) aNil)) (aCons (eVar 1) (aCons (eVar 2) aNil))))))
  (sRet (eIf (tB (e2 (gIs false) (eVar 3) (eC .none))) (eC .none) (e2 gIx (eVar 3) (eC (.int 1)))))))))
def f_count_steps : EM R := defF 3 4 bd_count_steps
theorem ok_count_steps (T : Txt K mg ex) (D : DefAt K mg "count_steps" s_count_steps ["table", "text", "sign"]) (g_need_table : Ok P w K mg base ex 5 "need_table" ["value"] f_need_table) (g_need_text : Ok P w K mg base ex 2 "need_text" ["table", "value"] f_need_text) (g_need_sign : Ok P w K mg base ex 2 "need_sign" ["table", "value"] f_need_sign) (g_all_tops : Ok P w K mg base ex 3 "all_tops" ["table"] f_all_tops) (g_behind_key : Ok P w K mg base ex 4 "behind_key" ["table", "tops", "text", "key"] f_behind_key) : Ok P w K mg base ex 6 "count_steps" ["table", "text", "sign"] f_count_steps := by
  obtain ⟨f_need_table_, fd_need_table, m_need_table, k_need_table, b_need_table, G_need_table⟩ := g_need_table
  obtain ⟨f_need_text_, fd_need_text, m_need_text, k_need_text, b_need_text, G_need_text⟩ := g_need_text
  obtain ⟨f_need_sign_, fd_need_sign, m_need_sign, k_need_sign, b_need_sign, G_need_sign⟩ := g_need_sign
  obtain ⟨f_all_tops_, fd_all_tops, m_all_tops, k_all_tops, b_all_tops, G_all_tops⟩ := g_all_tops
  obtain ⟨f_behind_key_, fd_behind_key, m_behind_key, k_behind_key, b_behind_key, G_behind_key⟩ := g_behind_key
  refine ok_mk (k := 5) D sc_count_steps (by decide) fun fA cdv A outer s H E hr => ?_
  have nd := sc_count_steps.nd
  have tk := takes_of (X := cxOf (L2.CX P w) P w K mg base n_count_steps "count_steps" (defScope s_count_steps) fA cdv A outer s H E) (E := E) rfl rfl rfl rfl
  have hp : PassesOwn (model P w) _ _ _ := passes_of (X := cxOf (L2.CX P w) P w K mg base n_count_steps "count_steps" (defScope s_count_steps) fA cdv A outer s H E) rfl
  exact (p_cons (l_expr (l_call G_need_table (hr.mono (by decide)) m_need_table k_need_table b_need_table tk (l_cons (l_var 0) l_nil)))
    (p_cons (l_expr (l_call G_need_text (hr.mono (by decide)) m_need_text k_need_text b_need_text tk (l_cons (l_var 0) (l_cons (l_var 1) l_nil))))
    (p_cons (l_expr (l_call G_need_sign (hr.mono (by decide)) m_need_sign k_need_sign b_need_sign tk (l_cons (l_var 0) (l_cons (l_var 2) l_nil))))
    (p_cons (l_set (i := 3) nd (l_call G_behind_key (hr.mono (by decide)) m_behind_key k_behind_key b_behind_key tk (l_cons (l_var 0) (l_cons (l_call G_all_tops (hr.mono (by decide)) m_all_tops k_all_tops b_all_tops tk (l_cons (l_var 0) l_nil)) (l_cons (l_var 1) (l_cons (l_var 2) l_nil))))))
    (p_one (l_ret (l_if (l_cmpT (op_isN) (isN_2 _) (l_var 3) l_non) l_non (l_ix (l_var 3) l_int))))))))

abbrev s_typed : Stmt := top 41
abbrev n_typed : List Str := ["table", "row"]
theorem sc_typed : FnScope n_typed ["table", "row"] (defScope s_typed) := ⟨rfl, rfl, rfl, by decide +kernel, rfl, by decide +kernel, by decide +kernel⟩
def bd_typed : EM Out :=
  (sSeq (sExpr (eCall f_need_table (aCons (eVar 0) aNil)))
  (sSeq (sExpr (eCall f_need_row (aCons (eVar 0) (aCons (eVar 1) aNil))))
  (sRet (eCall f_behind_row (aCons (eVar 0) (aCons (eCall f_all_tops (aCons (eVar 0) aNil)) (aCons (eC (.str "")) (aCons (eVar 1) aNil))))))))
def f_typed : EM R := defF 2 2 bd_typed
theorem ok_typed (T : Txt K mg ex) (D : DefAt K mg "typed" s_typed ["table", "row"]) (g_need_table : Ok P w K mg base ex 5 "need_table" ["value"] f_need_table) (g_need_row : Ok P w K mg base ex 4 "need_row" ["table", "value"] f_need_row) (g_all_tops : Ok P w K mg base ex 3 "all_tops" ["table"] f_all_tops) (g_behind_row : Ok P w K mg base ex 5 "behind_row" ["table", "tops", "text", "row"] f_behind_row) : Ok P w K mg base ex 6 "typed" ["table", "row"] f_typed := by
  obtain ⟨f_need_table_, fd_need_table, m_need_table, k_need_table, b_need_table, G_need_table⟩ := g_need_table
  obtain ⟨f_need_row_, fd_need_row, m_need_row, k_need_row, b_need_row, G_need_row⟩ := g_need_row
  obtain ⟨f_all_tops_, fd_all_tops, m_all_tops, k_all_tops, b_all_tops, G_all_tops⟩ := g_all_tops
  obtain ⟨f_behind_row_, fd_behind_row, m_behind_row, k_behind_row, b_behind_row, G_behind_row⟩ := g_behind_row
  refine ok_mk (k := 5) D sc_typed (by decide) fun fA cdv A outer s H E hr => ?_
  have nd := sc_typed.nd
  have tk := takes_of (X := cxOf (L2.CX P w) P w K mg base n_typed "typed" (defScope s_typed) fA cdv A outer s H E) (E := E) rfl rfl rfl rfl
  have hp : PassesOwn (model P w) _ _ _ := passes_of (X := cxOf (L2.CX P w) P w K mg base n_typed "typed" (defScope s_typed) fA cdv A outer s H E) rfl
  exact (p_cons (l_expr (l_call G_need_table (hr.mono (by decide)) m_need_table k_need_table b_need_table tk (l_cons (l_var 0) l_nil)))
    (p_cons (l_expr (l_call G_need_row (hr.mono (by decide)) m_need_row k_need_row b_need_row tk (l_cons (l_var 0) (l_cons (l_var 1) l_nil))))
    (p_one (l_ret (l_call G_behind_row (hr.mono (by decide)) m_behind_row k_behind_row b_behind_row tk (l_cons (l_var 0) (l_cons (l_call G_all_tops (hr.mono (by decide)) m_all_tops k_all_tops b_all_tops tk (l_cons (l_var 0) l_nil)) (l_cons l_str (l_cons (l_var 1) l_nil)))))))))

abbrev s__law_source : Stmt := top 43
abbrev n__law_source : List Str := ["script", "k", "cell", "primes", "seed"]
theorem sc__law_source : FnScope n__law_source ["script", "k"] (defScope s__law_source) := ⟨rfl, rfl, rfl, by decide +kernel, rfl, by decide +kernel, by decide +kernel⟩
def bd__law_source : EM Out :=
  (sSeq (sSet 2 (eC (.int 0)))
  (sSeq (sIf (tB (e2 gLt (eVar 1) (e1 gLen (eVar 0))))
  (sSet 2 (e2 gIx (eVar 0) (eVar 1)))
  sNx)
  (sSeq (sSet 3 (eLst (aCons (eC (.int 2147483647)) (aCons (eC (.int 2147483629)) (aCons (eC (.int 2147483587)) (aCons (eC (.int 2147483579)) (aCons (eC (.int 2147483563)) (aCons (eC (.int 2147483549)) (aCons (eC (.int 2147483543)) (aCons (eC (.int 2147483497)) aNil))))))))))
  (sSeq (sSet 4 (e2 gMod (e1 gInt (e2 gMul (e2 gAdd (e2 gMod (e1 gInt (eVar 2)) (eC (.int 2147483489))) (eC (.int 1))) (e2 gAdd (eC (.int 48271)) (e2 gMul (eC (.int 2)) (eVar 1))))) (eC (.int 2147483489))))
  (sSeq (sSet 4 (e2 gAdd (e2 gAdd (e2 gMod (e1 gInt (e2 gMul (eVar 4) (eVar 4))) (eC (.int 2147483477))) (eVar 1)) (eC (.int 1))))
  (sSeq (sIf (tB (e2 gGe (eVar 2) (e2 gPow (eC (.int 10)) (eC (.int 18)))))
  (sRet (eLst (aCons (eVar 2) (aCons (eVar 4) (aCons (e2 gIx (eVar 3) (e2 gMod (e1 gInt (eVar 1)) (eC (.int 8)))) (aCons (eC (.int 0)) aNil))))))
  sNx)
  (sRet (eLst (aCons (eC (.int 0)) (aCons (eVar 4) (aCons (e2 gIx (eVar 3) (e2 gMod (e1 gInt (eVar 1)) (eC (.int 8)))) (aCons (eC (.int 0)) aNil))))))))))))
def f__law_source : EM R := defF 2 5 bd__law_source
theorem ok__law_source (T : Txt K mg ex) (D : DefAt K mg "_law_source" s__law_source ["script", "k"]) : Ok P w K mg base ex 1 "_law_source" ["script", "k"] f__law_source := by
  refine ok_mk (k := 0) D sc__law_source (by decide) fun fA cdv A outer s H E hr => ?_
  have nd := sc__law_source.nd
  have tk := takes_of (X := cxOf (L2.CX P w) P w K mg base n__law_source "_law_source" (defScope s__law_source) fA cdv A outer s H E) (E := E) rfl rfl rfl rfl
  have hp : PassesOwn (model P w) _ _ _ := passes_of (X := cxOf (L2.CX P w) P w K mg base n__law_source "_law_source" (defScope s__law_source) fA cdv A outer s H E) rfl
  exact (p_cons (l_set (i := 2) nd l_int)
    (p_cons (l_ifs (l_cmpT (op_ltU) (lt_2 _) (l_var 1) (l_callB call_len (len_1 _) T.b_len boot_len (l_var 0)))
    (p_one (l_set (i := 2) nd (l_ix (l_var 0) (l_var 1))))
    p_nil)
    (p_cons (l_set (i := 3) nd (l_lst (l_cons l_int (l_cons l_int (l_cons l_int (l_cons l_int (l_cons l_int (l_cons l_int (l_cons l_int (l_cons l_int l_nil))))))))))
    (p_cons (l_set (i := 4) nd (l_bin op_mod (mod_2 _) (l_callTy call_int1 (int_1 _) T.b_int (by decide +kernel) (l_bin op_mulU (mul_2 _) (l_bin op_addU (add_2 _) (l_bin op_mod (mod_2 _) (l_callTy call_int1 (int_1 _) T.b_int (by decide +kernel) (l_var 2)) l_int) l_int) (l_bin op_addU (add_2 _) l_int (l_bin op_mulU (mul_2 _) l_int (l_var 1))))) l_int))
    (p_cons (l_set (i := 4) nd (l_bin op_addU (add_2 _) (l_bin op_addU (add_2 _) (l_bin op_mod (mod_2 _) (l_callTy call_int1 (int_1 _) T.b_int (by decide +kernel) (l_bin op_mulU (mul_2 _) (l_var 4) (l_var 4))) l_int) (l_var 1)) l_int))
    (p_cons (l_ifs (l_cmpT (op_geU) (ge_2 _) (l_var 2) (l_bin op_pow (pow_2 _) l_int l_int))
    (p_one (l_ret (l_lst (l_cons (l_var 2) (l_cons (l_var 4) (l_cons (l_ix (l_var 3) (l_bin op_mod (mod_2 _) (l_callTy call_int1 (int_1 _) T.b_int (by decide +kernel) (l_var 1)) l_int)) (l_cons l_int l_nil)))))))
    p_nil)
    (p_one (l_ret (l_lst (l_cons l_int (l_cons (l_var 4) (l_cons (l_ix (l_var 3) (l_bin op_mod (mod_2 _) (l_callTy call_int1 (int_1 _) T.b_int (by decide +kernel) (l_var 1)) l_int)) (l_cons l_int l_nil)))))))))))))

abbrev s__law_pick : Stmt := top 44
abbrev n__law_pick : List Str := ["source", "limit", "drawn"]
theorem sc__law_pick : FnScope n__law_pick ["source", "limit"] (defScope s__law_pick) := ⟨rfl, rfl, rfl, by decide +kernel, rfl, by decide +kernel, by decide +kernel⟩
def bd__law_pick : EM Out :=
  (sSeq (sIf (tB (e2 gGt (e2 gIx (eVar 0) (eC (.int 0))) (eC (.int 0))))
  (sSeq (sSet 2 (e2 gMod (e1 gInt (e2 gIx (eVar 0) (eC (.int 0)))) (eVar 1)))
  (sSeq (sSetIx 0 (e2 gDiv (e2 gIx (eVar 0) (eC (.int 0))) (eVar 1)) (eC (.int 0)))
  (sRet (eVar 2))))
  sNx)
  (sSeq (sSetIx 0 (e2 gAdd (e2 gIx (eVar 0) (eC (.int 3))) (eC (.int 1))) (eC (.int 3)))
  (sSeq (sSetIx 0 (e2 gMod (e1 gInt (e2 gAdd (e2 gMul (e2 gIx (eVar 0) (eC (.int 1))) (eC (.int 48271))) (e2 gMul (eC (.int 7919)) (e2 gIx (eVar 0) (eC (.int 3)))))) (e2 gIx (eVar 0) (eC (.int 2)))) (eC (.int 1)))
  (sRet (e2 gMod (e1 gInt (e2 gDiv (e2 gMod (e1 gInt (e2 gAdd (e2 gMul (e2 gIx (eVar 0) (eC (.int 1))) (e2 gIx (eVar 0) (eC (.int 1)))) (e2 gIx (eVar 0) (eC (.int 3))))) (eC (.int 2147483423))) (eC (.int 7)))) (eVar 1))))))
def f__law_pick : EM R := defF 2 3 bd__law_pick
theorem ok__law_pick (T : Txt K mg ex) (D : DefAt K mg "_law_pick" s__law_pick ["source", "limit"]) : Ok P w K mg base ex 1 "_law_pick" ["source", "limit"] f__law_pick := by
  refine ok_mk (k := 0) D sc__law_pick (by decide) fun fA cdv A outer s H E hr => ?_
  have nd := sc__law_pick.nd
  have tk := takes_of (X := cxOf (L2.CX P w) P w K mg base n__law_pick "_law_pick" (defScope s__law_pick) fA cdv A outer s H E) (E := E) rfl rfl rfl rfl
  have hp : PassesOwn (model P w) _ _ _ := passes_of (X := cxOf (L2.CX P w) P w K mg base n__law_pick "_law_pick" (defScope s__law_pick) fA cdv A outer s H E) rfl
  exact (p_cons (l_ifs (l_cmpT (op_gtU) (gt_2 _) (l_ix (l_var 0) l_int) l_int)
    (p_cons (l_set (i := 2) nd (l_bin op_mod (mod_2 _) (l_callTy call_int1 (int_1 _) T.b_int (by decide +kernel) (l_ix (l_var 0) l_int)) (l_var 1)))
    (p_cons (l_setIx (i := 0) (l_bin op_fdiv (div_2 _) (l_ix (l_var 0) l_int) (l_var 1)) l_int)
    (p_one (l_ret (l_var 2)))))
    p_nil)
    (p_cons (l_setIx (i := 0) (l_bin op_addU (add_2 _) (l_ix (l_var 0) l_int) l_int) l_int)
    (p_cons (l_setIx (i := 0) (l_bin op_mod (mod_2 _) (l_callTy call_int1 (int_1 _) T.b_int (by decide +kernel) (l_bin op_addU (add_2 _) (l_bin op_mulU (mul_2 _) (l_ix (l_var 0) l_int) l_int) (l_bin op_mulU (mul_2 _) l_int (l_ix (l_var 0) l_int)))) (l_ix (l_var 0) l_int)) l_int)
    (p_one (l_ret (l_bin op_mod (mod_2 _) (l_callTy call_int1 (int_1 _) T.b_int (by decide +kernel) (l_bin op_fdiv (div_2 _) (l_bin op_mod (mod_2 _) (l_callTy call_int1 (int_1 _) T.b_int (by decide +kernel) (l_bin op_addU (add_2 _) (l_bin op_mulU (mul_2 _) (l_ix (l_var 0) l_int) (l_ix (l_var 0) l_int)) (l_ix (l_var 0) l_int))) l_int) l_int)) (l_var 1)))))))

abbrev s__law_chosen : Stmt := top 45
abbrev n__law_chosen : List Str := ["source", "some"]
theorem sc__law_chosen : FnScope n__law_chosen ["source", "some"] (defScope s__law_chosen) := ⟨rfl, rfl, rfl, by decide +kernel, rfl, by decide +kernel, by decide +kernel⟩
def bd__law_chosen : EM Out :=
  (sRet (e2 gIx (eVar 1) (eCall f__law_pick (aCons (eVar 0) (aCons (e1 gLen (eVar 1)) aNil)))))
def f__law_chosen : EM R := defF 2 2 bd__law_chosen
theorem ok__law_chosen (T : Txt K mg ex) (D : DefAt K mg "_law_chosen" s__law_chosen ["source", "some"]) (g__law_pick : Ok P w K mg base ex 1 "_law_pick" ["source", "limit"] f__law_pick) : Ok P w K mg base ex 2 "_law_chosen" ["source", "some"] f__law_chosen := by
  obtain ⟨f__law_pick_, fd__law_pick, m__law_pick, k__law_pick, b__law_pick, G__law_pick⟩ := g__law_pick
  refine ok_mk (k := 1) D sc__law_chosen (by decide) fun fA cdv A outer s H E hr => ?_
  have nd := sc__law_chosen.nd
  have tk := takes_of (X := cxOf (L2.CX P w) P w K mg base n__law_chosen "_law_chosen" (defScope s__law_chosen) fA cdv A outer s H E) (E := E) rfl rfl rfl rfl
  have hp : PassesOwn (model P w) _ _ _ := passes_of (X := cxOf (L2.CX P w) P w K mg base n__law_chosen "_law_chosen" (defScope s__law_chosen) fA cdv A outer s H E) rfl
  exact (p_one (l_ret (l_ix (l_var 1) (l_call G__law_pick (hr.mono (by decide)) m__law_pick k__law_pick b__law_pick tk (l_cons (l_var 0) (l_cons (l_callB call_len (len_1 _) T.b_len boot_len (l_var 1)) l_nil))))))

abbrev s__law_text : Stmt := top 46
abbrev n__law_text : List Str := ["source", "signs", "most", "turn"]
theorem sc__law_text : FnScope n__law_text ["source", "signs", "most"] (defScope s__law_text) := ⟨rfl, rfl, rfl, by decide +kernel, rfl, by decide +kernel, by decide +kernel⟩
def bd__law_text : EM Out :=
  (sRet (eS1 g_join (eC (.str "")) (eLc (srcR1 (eCall f__law_pick (aCons (eVar 0) (aCons (e2 gAdd (eVar 2) (eC (.int 1))) aNil)))) (stVal 3) tYesM (eCall f__law_chosen (aCons (eVar 0) (aCons (e1 gListU (eVar 1)) aNil))) [3])))
def f__law_text : EM R := defF 3 4 bd__law_text
theorem ok__law_text (T : Txt K mg ex) (D : DefAt K mg "_law_text" s__law_text ["source", "signs", "most"]) (g__law_pick : Ok P w K mg base ex 1 "_law_pick" ["source", "limit"] f__law_pick) (g__law_chosen : Ok P w K mg base ex 2 "_law_chosen" ["source", "some"] f__law_chosen) : Ok P w K mg base ex 3 "_law_text" ["source", "signs", "most"] f__law_text := by
  obtain ⟨f__law_pick_, fd__law_pick, m__law_pick, k__law_pick, b__law_pick, G__law_pick⟩ := g__law_pick
  obtain ⟨f__law_chosen_, fd__law_chosen, m__law_chosen, k__law_chosen, b__law_chosen, G__law_chosen⟩ := g__law_chosen
  refine ok_mk (k := 2) D sc__law_text (by decide) fun fA cdv A outer s H E hr => ?_
  have nd := sc__law_text.nd
  have tk := takes_of (X := cxOf (L2.CX P w) P w K mg base n__law_text "_law_text" (defScope s__law_text) fA cdv A outer s H E) (E := E) rfl rfl rfl rfl
  have hp : PassesOwn (model P w) _ _ _ := passes_of (X := cxOf (L2.CX P w) P w K mg base n__law_text "_law_text" (defScope s__law_text) fA cdv A outer s H E) rfl
  exact (p_one (l_ret (l_join l_str (l_lc (own := [("turn", 3)]) rfl nd (pi_range1 rfl T.b_range (pa_cons (l_call G__law_pick (hr.mono (by decide)) m__law_pick k__law_pick b__law_pick tk (l_cons (l_var 0) (l_cons (l_bin op_addU (add_2 _) (l_var 2) l_int) l_nil))) pa_nil)) src_r1 (blkOk_by (N := n__law_text) (sc := defScope s__law_text) (own := [("turn", 3)]) (by decide +kernel)) (tg_name _ 3) (by decide) (fun _ _ _ _ _ => (pg_name (i := 3) nd rfl (by first | exact Or.inl rfl | exact Or.inr rfl))) (fun _ _ _ _ _ => l_yes) (fun _ _ _ _ _ => (l_call G__law_chosen (hr.mono (by decide)) m__law_chosen k__law_chosen b__law_chosen takes0 (l_cons (l_var 0) (l_cons (l_callTy (call_listU rfl) (listU_1 _) T.b_list (by decide +kernel) (l_var 1)) l_nil))))))))

abbrev s__law_known : Stmt := top 47
abbrev n__law_known : List Str := ["source", "some"]
theorem sc__law_known : FnScope n__law_known ["source"] (defScope s__law_known) := ⟨rfl, rfl, rfl, by decide +kernel, rfl, by decide +kernel, by decide +kernel⟩
def bd__law_known : EM Out :=
  (sSeq (sSet 1 (eLst (aCons (eTup (aCons (eC (.str "abx")) (aCons (eC (.bool true)) (aCons (eTup (aCons (eTup (aCons (eC (.str "ab")) (aCons (eC (.str "x")) aNil))) (aCons (eTup (aCons (eC (.str "xx")) (aCons (eC (.str "a")) aNil))) aNil))) aNil)))) (aCons (eTup (aCons (eC (.str "ab")) (aCons (eC (.bool true)) (aCons (eTup (aCons (eTup (aCons (eC (.str "ab")) (aCons (eC (.str "b")) aNil))) aNil)) aNil)))) aNil))))
  (sSeq (sSet 1 (e2 gAdd (eVar 1) (eLst (aCons (eTup (aCons (eC (.str "ab")) (aCons (eC (.bool true)) (aCons (eTup (aCons (eTup (aCons (eC (.str "aa")) (aCons (eC (.str "aba")) aNil))) (aCons (eTup (aCons (eC (.str "ba")) (aCons (eC (.str "aa")) aNil))) aNil))) aNil)))) (aCons (eTup (aCons (eC (.str "abx")) (aCons (eC (.bool false)) (aCons (eTup (aCons (eTup (aCons (eC (.str "x")) (aCons (eC (.str "ab")) aNil))) (aCons (eTup (aCons (eC (.str "b")) (aCons (eC (.str "")) aNil))) aNil))) aNil)))) aNil)))))
  (sSeq (sSet 1 (e2 gAdd (eVar 1) (eLst (aCons (eTup (aCons (eC (.str "ab")) (aCons (eC (.bool true)) (aCons (eTup (aCons (eTup (aCons (eC (.str "abb")) (aCons (eC (.str "ba")) aNil))) (aCons (eTup (aCons (eC (.str "ba")) (aCons (eC (.str "ab")) aNil))) aNil))) aNil)))) (aCons (eTup (aCons (eC (.str "ab")) (aCons (eC (.bool false)) (aCons (eTup (aCons (eTup (aCons (eC (.str "a")) (aCons (eC (.str "ab")) aNil))) (aCons (eTup (aCons (eC (.str "bb")) (aCons (eC (.str "")) aNil))) aNil))) aNil)))) aNil)))))
  (sSeq (sSet 1 (e2 gAdd (eVar 1) (eLst (aCons (eTup (aCons (eC (.str "ab")) (aCons (eC (.bool true)) (aCons (eTup (aCons (eTup (aCons (eC (.str "aaa")) (aCons (eC (.str "")) aNil))) (aCons (eTup (aCons (eC (.str "ab")) (aCons (eC (.str "")) aNil))) aNil))) aNil)))) (aCons (eTup (aCons (eC (.str "a")) (aCons (eC (.bool true)) (aCons (eTup (aCons (eTup (aCons (eC (.str "aa")) (aCons (eC (.str "a")) aNil))) aNil)) aNil)))) (aCons (eTup (aCons (eC (.str "ab")) (aCons (eC (.bool true)) (aCons (eTup (aCons (eTup (aCons (eC (.str "b")) (aCons (eC (.str "ba")) aNil))) aNil)) aNil)))) aNil))))))
  (sSeq (sSet 1 (e2 gAdd (eVar 1) (eLst (aCons (eTup (aCons (eC (.str "abx")) (aCons (eC (.bool false)) (aCons (eTup (aCons (eTup (aCons (eC (.str "x")) (aCons (eC (.str "ba")) aNil))) (aCons (eTup (aCons (eC (.str "a")) (aCons (eC (.str "")) aNil))) (aCons (eTup (aCons (eC (.str "b")) (aCons (eC (.str "")) aNil))) aNil)))) aNil)))) (aCons (eTup (aCons (eC (.str "ab")) (aCons (eC (.bool false)) (aCons (eTup (aCons (eTup (aCons (eC (.str "a")) (aCons (eC (.str "bab")) aNil))) aNil)) aNil)))) aNil)))))
  (sSeq (sExpr (sMeth 1 gAppend (aCons (eTup (aCons (eC (.str "ab")) (aCons (eC (.bool true)) (aCons (eTup (aCons (eTup (aCons (eC (.str "aaa")) (aCons (eC (.str "aaa")) aNil))) aNil)) aNil)))) aNil)))
  (sSeq (sExpr (sMeth 1 gAppend (aCons (eTup (aCons (eC (.str "xyz")) (aCons (eC (.bool true)) (aCons (eTup (aCons (eTup (aCons (eC (.str "yyz")) (aCons (eC (.str "")) aNil))) (aCons (eTup (aCons (eC (.str "xyz")) (aCons (eC (.str "z")) aNil))) (aCons (eTup (aCons (eC (.str "z")) (aCons (eC (.str "yxx")) aNil))) (aCons (eTup (aCons (eC (.str "xx")) (aCons (eC (.str "xyz")) aNil))) aNil))))) aNil)))) aNil)))
  (sRet (e2 gIx (eVar 1) (eCall f__law_pick (aCons (eVar 0) (aCons (eC (.int 13)) aNil))))))))))))
def f__law_known : EM R := defF 1 2 bd__law_known
theorem ok__law_known (T : Txt K mg ex) (D : DefAt K mg "_law_known" s__law_known ["source"]) (g__law_pick : Ok P w K mg base ex 1 "_law_pick" ["source", "limit"] f__law_pick) : Ok P w K mg base ex 2 "_law_known" ["source"] f__law_known := by
  obtain ⟨f__law_pick_, fd__law_pick, m__law_pick, k__law_pick, b__law_pick, G__law_pick⟩ := g__law_pick
  refine ok_mk (k := 1) D sc__law_known (by decide) fun fA cdv A outer s H E hr => ?_
  have nd := sc__law_known.nd
  have tk := takes_of (X := cxOf (L2.CX P w) P w K mg base n__law_known "_law_known" (defScope s__law_known) fA cdv A outer s H E) (E := E) rfl rfl rfl rfl
  have hp : PassesOwn (model P w) _ _ _ := passes_of (X := cxOf (L2.CX P w) P w K mg base n__law_known "_law_known" (defScope s__law_known) fA cdv A outer s H E) rfl
  exact (p_cons (l_set (i := 1) nd (l_lst (l_cons (l_tup (l_cons l_str (l_cons l_bl (l_cons (l_tup (l_cons (l_tup (l_cons l_str (l_cons l_str l_nil))) (l_cons (l_tup (l_cons l_str (l_cons l_str l_nil))) l_nil))) l_nil)))) (l_cons (l_tup (l_cons l_str (l_cons l_bl (l_cons (l_tup (l_cons (l_tup (l_cons l_str (l_cons l_str l_nil))) l_nil)) l_nil)))) l_nil))))
    (p_cons (l_set (i := 1) nd (l_bin op_addU (add_2 _) (l_var 1) (l_lst (l_cons (l_tup (l_cons l_str (l_cons l_bl (l_cons (l_tup (l_cons (l_tup (l_cons l_str (l_cons l_str l_nil))) (l_cons (l_tup (l_cons l_str (l_cons l_str l_nil))) l_nil))) l_nil)))) (l_cons (l_tup (l_cons l_str (l_cons l_bl (l_cons (l_tup (l_cons (l_tup (l_cons l_str (l_cons l_str l_nil))) (l_cons (l_tup (l_cons l_str (l_cons l_str l_nil))) l_nil))) l_nil)))) l_nil)))))
    (p_cons (l_set (i := 1) nd (l_bin op_addU (add_2 _) (l_var 1) (l_lst (l_cons (l_tup (l_cons l_str (l_cons l_bl (l_cons (l_tup (l_cons (l_tup (l_cons l_str (l_cons l_str l_nil))) (l_cons (l_tup (l_cons l_str (l_cons l_str l_nil))) l_nil))) l_nil)))) (l_cons (l_tup (l_cons l_str (l_cons l_bl (l_cons (l_tup (l_cons (l_tup (l_cons l_str (l_cons l_str l_nil))) (l_cons (l_tup (l_cons l_str (l_cons l_str l_nil))) l_nil))) l_nil)))) l_nil)))))
    (p_cons (l_set (i := 1) nd (l_bin op_addU (add_2 _) (l_var 1) (l_lst (l_cons (l_tup (l_cons l_str (l_cons l_bl (l_cons (l_tup (l_cons (l_tup (l_cons l_str (l_cons l_str l_nil))) (l_cons (l_tup (l_cons l_str (l_cons l_str l_nil))) l_nil))) l_nil)))) (l_cons (l_tup (l_cons l_str (l_cons l_bl (l_cons (l_tup (l_cons (l_tup (l_cons l_str (l_cons l_str l_nil))) l_nil)) l_nil)))) (l_cons (l_tup (l_cons l_str (l_cons l_bl (l_cons (l_tup (l_cons (l_tup (l_cons l_str (l_cons l_str l_nil))) l_nil)) l_nil)))) l_nil))))))
    (p_cons (l_set (i := 1) nd (l_bin op_addU (add_2 _) (l_var 1) (l_lst (l_cons (l_tup (l_cons l_str (l_cons l_bl (l_cons (l_tup (l_cons (l_tup (l_cons l_str (l_cons l_str l_nil))) (l_cons (l_tup (l_cons l_str (l_cons l_str l_nil))) (l_cons (l_tup (l_cons l_str (l_cons l_str l_nil))) l_nil)))) l_nil)))) (l_cons (l_tup (l_cons l_str (l_cons l_bl (l_cons (l_tup (l_cons (l_tup (l_cons l_str (l_cons l_str l_nil))) l_nil)) l_nil)))) l_nil)))))
    (p_cons (l_expr (l_meth (i := 1) PySem.F.slot_list_append PySem.F.type_list_append mt_append (append_ok _) (l_cons (l_tup (l_cons l_str (l_cons l_bl (l_cons (l_tup (l_cons (l_tup (l_cons l_str (l_cons l_str l_nil))) l_nil)) l_nil)))) l_nil)))
    (p_cons (l_expr (l_meth (i := 1) PySem.F.slot_list_append PySem.F.type_list_append mt_append (append_ok _) (l_cons (l_tup (l_cons l_str (l_cons l_bl (l_cons (l_tup (l_cons (l_tup (l_cons l_str (l_cons l_str l_nil))) (l_cons (l_tup (l_cons l_str (l_cons l_str l_nil))) (l_cons (l_tup (l_cons l_str (l_cons l_str l_nil))) (l_cons (l_tup (l_cons l_str (l_cons l_str l_nil))) l_nil))))) l_nil)))) l_nil)))
    (p_one (l_ret (l_ix (l_var 1) (l_call G__law_pick (hr.mono (by decide)) m__law_pick k__law_pick b__law_pick tk (l_cons (l_var 0) (l_cons l_int l_nil)))))))))))))

abbrev s__law_table : Stmt := top 48
abbrev n__law_table : List Str := ["source", "most", "signs", "rules", "turn", "short", "long", "rule"]
theorem sc__law_table : FnScope n__law_table ["source", "most"] (defScope s__law_table) := ⟨rfl, rfl, rfl, by decide +kernel, rfl, by decide +kernel, by decide +kernel⟩
def bd__law_table : EM Out :=
  (sSeq (sIf (tB (e2 gEq (eCall f__law_pick (aCons (eVar 0) (aCons (eC (.int 3)) aNil))) (eC (.int 0))))
  (sRet (eCall f__law_known (aCons (eVar 0) aNil)))
  sNx)
  (sSeq (sSet 2 (eCall f__law_chosen (aCons (eVar 0) (aCons (eLst (aCons (eC (.str "ab")) (aCons (eC (.str "ab")) (aCons (eC (.str "mn")) (aCons (eC (.str "xyz")) (aCons (eC (.str "a")) aNil)))))) aNil))))
  (sSeq (sSet 3 (eTup aNil))
  (sSeq (sFor (srcR1 (eCall f__law_pick (aCons (eVar 0) (aCons (e2 gAdd (eVar 1) (eC (.int 1))) aNil)))) (stVal 4)
  (sSeq (sSet 5 (e2 gAdd (eCall f__law_text (aCons (eVar 0) (aCons (eVar 2) (aCons (eC (.int 2)) aNil)))) (eCall f__law_chosen (aCons (eVar 0) (aCons (e1 gListU (eVar 2)) aNil)))))
  (sSeq (sSet 6 (eCall f__law_text (aCons (eVar 0) (aCons (eVar 2) (aCons (e2 gAdd (eC (.int 2)) (eCall f__law_pick (aCons (eVar 0) (aCons (eC (.int 2)) aNil)))) aNil)))))
  (sIf (tB (e2 (gIn true) (eVar 5) (eLc (srcAny (eVar 3)) (stVal 7) tYesM (e2 gIx (eVar 7) (eC (.int 0))) [7])))
  (sSet 3 (e2 gAdd (eVar 3) (eTup (aCons (eTup (aCons (eVar 5) (aCons (eVar 6) aNil))) aNil))))
  sNx))))
  (sRet (eTup (aCons (eVar 2) (aCons (e2 gGt (eCall f__law_pick (aCons (eVar 0) (aCons (eC (.int 3)) aNil))) (eC (.int 0))) (aCons (eVar 3) aNil)))))))))
def f__law_table : EM R := defF 2 8 bd__law_table
theorem ok__law_table (T : Txt K mg ex) (D : DefAt K mg "_law_table" s__law_table ["source", "most"]) (g__law_pick : Ok P w K mg base ex 1 "_law_pick" ["source", "limit"] f__law_pick) (g__law_chosen : Ok P w K mg base ex 2 "_law_chosen" ["source", "some"] f__law_chosen) (g__law_text : Ok P w K mg base ex 3 "_law_text" ["source", "signs", "most"] f__law_text) (g__law_known : Ok P w K mg base ex 2 "_law_known" ["source"] f__law_known) : Ok P w K mg base ex 4 "_law_table" ["source", "most"] f__law_table := by
  obtain ⟨f__law_pick_, fd__law_pick, m__law_pick, k__law_pick, b__law_pick, G__law_pick⟩ := g__law_pick
  obtain ⟨f__law_chosen_, fd__law_chosen, m__law_chosen, k__law_chosen, b__law_chosen, G__law_chosen⟩ := g__law_chosen
  obtain ⟨f__law_text_, fd__law_text, m__law_text, k__law_text, b__law_text, G__law_text⟩ := g__law_text
  obtain ⟨f__law_known_, fd__law_known, m__law_known, k__law_known, b__law_known, G__law_known⟩ := g__law_known
  refine ok_mk (k := 3) D sc__law_table (by decide) fun fA cdv A outer s H E hr => ?_
  have nd := sc__law_table.nd
  have tk := takes_of (X := cxOf (L2.CX P w) P w K mg base n__law_table "_law_table" (defScope s__law_table) fA cdv A outer s H E) (E := E) rfl rfl rfl rfl
  have hp : PassesOwn (model P w) _ _ _ := passes_of (X := cxOf (L2.CX P w) P w K mg base n__law_table "_law_table" (defScope s__law_table) fA cdv A outer s H E) rfl
  exact (p_cons (l_ifs (l_cmpT (op_eqD hr.units) (eq_2 _) (l_call G__law_pick (hr.mono (by decide)) m__law_pick k__law_pick b__law_pick tk (l_cons (l_var 0) (l_cons l_int l_nil))) l_int)
    (p_one (l_ret (l_call G__law_known (hr.mono (by decide)) m__law_known k__law_known b__law_known tk (l_cons (l_var 0) l_nil))))
    p_nil)
    (p_cons (l_set (i := 2) nd (l_call G__law_chosen (hr.mono (by decide)) m__law_chosen k__law_chosen b__law_chosen tk (l_cons (l_var 0) (l_cons (l_lst (l_cons l_str (l_cons l_str (l_cons l_str (l_cons l_str (l_cons l_str l_nil)))))) l_nil))))
    (p_cons (l_set (i := 3) nd (l_tup l_nil))
    (p_cons (l_for hp rfl (pi_range1 rfl T.b_range (pa_cons (l_call G__law_pick (hr.mono (by decide)) m__law_pick k__law_pick b__law_pick tk (l_cons (l_var 0) (l_cons (l_bin op_addU (add_2 _) (l_var 1) l_int) l_nil))) pa_nil)) src_r1 (pg_name (i := 4) nd rfl (by first | exact Or.inl rfl | exact Or.inr rfl)) (tg_name _ 4)
    (p_cons (l_set (i := 5) nd (l_bin op_addU (add_2 _) (l_call G__law_text (hr.mono (by decide)) m__law_text k__law_text b__law_text tk (l_cons (l_var 0) (l_cons (l_var 2) (l_cons l_int l_nil)))) (l_call G__law_chosen (hr.mono (by decide)) m__law_chosen k__law_chosen b__law_chosen tk (l_cons (l_var 0) (l_cons (l_callTy (call_listU rfl) (listU_1 _) T.b_list (by decide +kernel) (l_var 2)) l_nil)))))
    (p_cons (l_set (i := 6) nd (l_call G__law_text (hr.mono (by decide)) m__law_text k__law_text b__law_text tk (l_cons (l_var 0) (l_cons (l_var 2) (l_cons (l_bin op_addU (add_2 _) l_int (l_call G__law_pick (hr.mono (by decide)) m__law_pick k__law_pick b__law_pick tk (l_cons (l_var 0) (l_cons l_int l_nil)))) l_nil)))))
    (p_one (l_ifs (l_cmpT (op_niU) (in_2 _ true) (l_var 5) (l_lc (own := [("rule", 7)]) rfl nd (pi_any (l_var 3)) src_any (blkOk_by (N := n__law_table) (sc := defScope s__law_table) (own := [("rule", 7)]) (by decide +kernel)) (tg_name _ 7) (by decide) (fun _ _ _ _ _ => (pg_name (i := 7) nd rfl (by first | exact Or.inl rfl | exact Or.inr rfl))) (fun _ _ _ _ _ => l_yes) (fun _ _ _ _ _ => (l_ix (l_var 7) l_int))))
    (p_one (l_set (i := 3) nd (l_bin op_addU (add_2 _) (l_var 3) (l_tup (l_cons (l_tup (l_cons (l_var 5) (l_cons (l_var 6) l_nil))) l_nil)))))
    p_nil)))))
    (p_one (l_ret (l_tup (l_cons (l_var 2) (l_cons (l_cmp (op_gtU) (gt_2 _) (l_call G__law_pick (hr.mono (by decide)) m__law_pick k__law_pick b__law_pick tk (l_cons (l_var 0) (l_cons l_int l_nil))) l_int) (l_cons (l_var 3) l_nil))))))))))

abbrev s__law_row : Stmt := top 49
abbrev n__law_row : List Str := ["source", "table", "most", "keys", "turn"]
theorem sc__law_row : FnScope n__law_row ["source", "table", "most"] (defScope s__law_row) := ⟨rfl, rfl, rfl, by decide +kernel, rfl, by decide +kernel, by decide +kernel⟩
def bd__law_row : EM Out :=
  (sSeq (sSet 3 (e2 gAdd (e2 gMul (e1 gListU (e2 gIx (eVar 1) (eC (.int 0)))) (eC (.int 3))) (eLst (aCons (eC (.str "back")) aNil))))
  (sRet (e1 gTuple (eLc (srcR1 (eCall f__law_pick (aCons (eVar 0) (aCons (e2 gAdd (eVar 2) (eC (.int 1))) aNil)))) (stVal 4) tYesM (eCall f__law_chosen (aCons (eVar 0) (aCons (eVar 3) aNil))) [4]))))
def f__law_row : EM R := defF 3 5 bd__law_row
theorem ok__law_row (T : Txt K mg ex) (D : DefAt K mg "_law_row" s__law_row ["source", "table", "most"]) (g__law_pick : Ok P w K mg base ex 1 "_law_pick" ["source", "limit"] f__law_pick) (g__law_chosen : Ok P w K mg base ex 2 "_law_chosen" ["source", "some"] f__law_chosen) : Ok P w K mg base ex 3 "_law_row" ["source", "table", "most"] f__law_row := by
  obtain ⟨f__law_pick_, fd__law_pick, m__law_pick, k__law_pick, b__law_pick, G__law_pick⟩ := g__law_pick
  obtain ⟨f__law_chosen_, fd__law_chosen, m__law_chosen, k__law_chosen, b__law_chosen, G__law_chosen⟩ := g__law_chosen
  refine ok_mk (k := 2) D sc__law_row (by decide) fun fA cdv A outer s H E hr => ?_
  have nd := sc__law_row.nd
  have tk := takes_of (X := cxOf (L2.CX P w) P w K mg base n__law_row "_law_row" (defScope s__law_row) fA cdv A outer s H E) (E := E) rfl rfl rfl rfl
  have hp : PassesOwn (model P w) _ _ _ := passes_of (X := cxOf (L2.CX P w) P w K mg base n__law_row "_law_row" (defScope s__law_row) fA cdv A outer s H E) rfl
  exact (p_cons (l_set (i := 3) nd (l_bin op_addU (add_2 _) (l_bin op_mulU (mul_2 _) (l_callTy (call_listU rfl) (listU_1 _) T.b_list (by decide +kernel) (l_ix (l_var 1) l_int)) l_int) (l_lst (l_cons l_str l_nil))))
    (p_one (l_ret (l_callTy call_tuple_of (tuple_1 _) T.b_tuple (by decide +kernel) (l_lc (own := [("turn", 4)]) rfl nd (pi_range1 rfl T.b_range (pa_cons (l_call G__law_pick (hr.mono (by decide)) m__law_pick k__law_pick b__law_pick tk (l_cons (l_var 0) (l_cons (l_bin op_addU (add_2 _) (l_var 2) l_int) l_nil))) pa_nil)) src_r1 (blkOk_by (N := n__law_row) (sc := defScope s__law_row) (own := [("turn", 4)]) (by decide +kernel)) (tg_name _ 4) (by decide) (fun _ _ _ _ _ => (pg_name (i := 4) nd rfl (by first | exact Or.inl rfl | exact Or.inr rfl))) (fun _ _ _ _ _ => l_yes) (fun _ _ _ _ _ => (l_call G__law_chosen (hr.mono (by decide)) m__law_chosen k__law_chosen b__law_chosen takes0 (l_cons (l_var 0) (l_cons (l_var 3) l_nil)))))))))

abbrev s__law_fits : Stmt := top 50
abbrev n__law_fits : List Str := ["table", "text", "number"]
theorem sc__law_fits : FnScope n__law_fits ["table", "text"] (defScope s__law_fits) := ⟨rfl, rfl, rfl, by decide +kernel, rfl, by decide +kernel, by decide +kernel⟩
def bd__law_fits : EM Out :=
  (sSeq (sFor (srcR1 (e1 gLen (e2 gIx (eVar 0) (eC (.int 2))))) (stVal 2)
  (sIf (tTru (eS1 g_endswith (eVar 1) (e2 gIx (e2 gIx (e2 gIx (eVar 0) (eC (.int 2))) (eVar 2)) (eC (.int 0)))))
  (sRet (eVar 2))
  sNx))
  (sRet (eC .none)))
def f__law_fits : EM R := defF 2 3 bd__law_fits
theorem ok__law_fits (T : Txt K mg ex) (D : DefAt K mg "_law_fits" s__law_fits ["table", "text"]) : Ok P w K mg base ex 1 "_law_fits" ["table", "text"] f__law_fits := by
  refine ok_mk (k := 0) D sc__law_fits (by decide) fun fA cdv A outer s H E hr => ?_
  have nd := sc__law_fits.nd
  have tk := takes_of (X := cxOf (L2.CX P w) P w K mg base n__law_fits "_law_fits" (defScope s__law_fits) fA cdv A outer s H E) (E := E) rfl rfl rfl rfl
  have hp : PassesOwn (model P w) _ _ _ := passes_of (X := cxOf (L2.CX P w) P w K mg base n__law_fits "_law_fits" (defScope s__law_fits) fA cdv A outer s H E) rfl
  exact (p_cons (l_for hp rfl (pi_range1 rfl T.b_range (pa_cons (l_callB call_len (len_1 _) T.b_len boot_len (l_ix (l_var 0) l_int)) pa_nil)) src_r1 (pg_name (i := 2) nd rfl (by first | exact Or.inl rfl | exact Or.inr rfl)) (tg_name _ 2)
    (p_one (l_ifs (l_tru (l_endswith (l_var 1) (l_ix (l_ix (l_ix (l_var 0) l_int) (l_var 2)) l_int)))
    (p_one (l_ret (l_var 2)))
    p_nil)))
    (p_one (l_ret l_non)))

abbrev s_law : Stmt := top 51
abbrev n_law : List Str := ["script", "k", "source", "table", "row", "at", "text", "whole", "key", "sign", "there", "steps"]
theorem sc_law : FnScope n_law ["script"] (defScope s_law) := ⟨rfl, rfl, rfl, by decide +kernel, rfl, by decide +kernel, by decide +kernel⟩
def bd_law : EM Out :=
  (sSeq (sFor (srcR1 (e2 gMax2 (eC (.int 6)) (e2 gMin2 (eC (.int 20)) (e1 gLen (eVar 0))))) (stVal 1)
  (sSeq (sSet 2 (eCall f__law_source (aCons (eVar 0) (aCons (eVar 1) aNil))))
  (sSeq (sSet 3 (eCall f__law_table (aCons (eVar 2) (aCons (eC (.int 4)) aNil))))
  (sSeq (sSet 4 (eCall f__law_row (aCons (eVar 2) (aCons (eVar 3) (aCons (eC (.int 30)) aNil)))))
  (sSeq (sSet 5 (eCall f__law_pick (aCons (eVar 2) (aCons (e2 gAdd (e1 gLen (eVar 4)) (eC (.int 1))) aNil))))
  (sSeq (sSet 6 (eCall f_typed (aCons (eVar 3) (aCons (eSl (eVar 4) pNone (pSome (eVar 5))) aNil))))
  (sSeq (sSet 7 (eCall f_typed (aCons (eVar 3) (aCons (eVar 4) aNil))))
  (sSeq (sFor (srcAny (eSl (eVar 4) (pSome (eVar 5)) pNone)) (stVal 8)
  (sIf (tAnd (tB (e2 (gIs true) (eVar 6) (eC .none))) (tB (e2 gEq (eVar 8) (eC (.str "back")))))
  (sSet 6 (eSl (eVar 6) pNone (pSome (e1 gNeg (eC (.int 1))))))
  (sIf (tB (e2 (gIs true) (eVar 6) (eC .none)))
  (sSet 6 (eCall f_put (aCons (eVar 3) (aCons (eVar 6) (aCons (eVar 8) aNil)))))
  sNx)))
  (sSeq (sIf (tB (e2 gNe (eVar 6) (eVar 7)))
  (sRet (eC (.bool false)))
  sNx)
  (sSeq (sSet 6 (eIf (tB (e2 (gIs false) (eVar 6) (eC .none))) (eC (.str "")) (eVar 6)))
  (sFor (srcAny (e2 gIx (eVar 3) (eC (.int 0)))) (stVal 9)
  (sSeq (sPar [10, 11] (aCons (eCall f_put (aCons (eVar 3) (aCons (eVar 6) (aCons (eVar 9) aNil)))) (aCons (eCall f_count_steps (aCons (eVar 3) (aCons (eVar 6) (aCons (eVar 9) aNil)))) aNil)))
  (sSeq (sIf (tB (e2 gNe (e2 (gIs false) (eVar 10) (eC .none)) (e2 (gIs false) (eVar 11) (eC .none))))
  (sRet (eC (.bool false)))
  sNx)
  (sSeq (sIf (tB (e2 (gIs false) (eVar 10) (eC .none)))
  sCt
  sNx)
  (sSeq (sIf (tOr (tB (e2 gNe (e2 gEq (eVar 11) (eC (.int 0))) (e2 (gIs false) (eCall f__law_fits (aCons (eVar 3) (aCons (e2 gAdd (eVar 6) (eVar 9)) aNil))) (eC .none)))) (tAnd (tB (e2 gEq (eVar 11) (eC (.int 0)))) (tB (e2 gNe (eVar 10) (e2 gAdd (eVar 6) (eVar 9))))))
  (sRet (eC (.bool false)))
  sNx)
  (sSeq (sIf (tOr (tAnd (tTru (e2 gIx (eVar 3) (eC (.int 1)))) (tB (e2 (gIs true) (eCall f__law_fits (aCons (eVar 3) (aCons (eVar 10) aNil))) (eC .none)))) (tAnd (tNot (tTru (e2 gIx (eVar 3) (eC (.int 1))))) (tB (e2 gGt (eVar 11) (eC (.int 1))))))
  (sRet (eC (.bool false)))
  sNx)
  (sIf (tAnd (tB (e2 (gIs true) (eVar 7) (eC .none))) (tAnd (tB (e2 gLt (e1 gLen (eVar 4)) (eC (.int 299)))) (tB (e2 gNe (eCall f_typed (aCons (eVar 3) (aCons (e2 gAdd (eVar 4) (eTup (aCons (eVar 9) (aCons (eC (.str "back")) aNil)))) aNil))) (eSl (eVar 10) pNone (pSome (e1 gNeg (eC (.int 1)))))))))
  (sRet (eC (.bool false)))
  sNx)))))))))))))))))
  (sRet (eC (.bool true))))
def f_law : EM R := defF 1 12 bd_law
theorem ok_law {f : Addr} {fd : FuncData} (T : Txt K mg ex) (D : FunD K "law" "law" (defArgs s_law) (defBody s_law) (defScope s_law) [] [] f fd) (g_put : Ok P w K mg base ex 6 "put" ["table", "text", "sign"] f_put) (g_count_steps : Ok P w K mg base ex 6 "count_steps" ["table", "text", "sign"] f_count_steps) (g_typed : Ok P w K mg base ex 6 "typed" ["table", "row"] f_typed) (g__law_source : Ok P w K mg base ex 1 "_law_source" ["script", "k"] f__law_source) (g__law_pick : Ok P w K mg base ex 1 "_law_pick" ["source", "limit"] f__law_pick) (g__law_table : Ok P w K mg base ex 4 "_law_table" ["source", "most"] f__law_table) (g__law_row : Ok P w K mg base ex 3 "_law_row" ["source", "table", "most"] f__law_row) (g__law_fits : Ok P w K mg base ex 1 "_law_fits" ["table", "text"] f__law_fits) : FnOk P w K mg base (L2.CX P w) 7 f fd ["script"] (spD ⟨K, ex⟩ f_law) := by
  obtain ⟨f_put_, fd_put, m_put, k_put, b_put, G_put⟩ := g_put
  obtain ⟨f_count_steps_, fd_count_steps, m_count_steps, k_count_steps, b_count_steps, G_count_steps⟩ := g_count_steps
  obtain ⟨f_typed_, fd_typed, m_typed, k_typed, b_typed, G_typed⟩ := g_typed
  obtain ⟨f__law_source_, fd__law_source, m__law_source, k__law_source, b__law_source, G__law_source⟩ := g__law_source
  obtain ⟨f__law_pick_, fd__law_pick, m__law_pick, k__law_pick, b__law_pick, G__law_pick⟩ := g__law_pick
  obtain ⟨f__law_table_, fd__law_table, m__law_table, k__law_table, b__law_table, G__law_table⟩ := g__law_table
  obtain ⟨f__law_row_, fd__law_row, m__law_row, k__law_row, b__law_row, G__law_row⟩ := g__law_row
  obtain ⟨f__law_fits_, fd__law_fits, m__law_fits, k__law_fits, b__law_fits, G__law_fits⟩ := g__law_fits
  refine fn_mk (k := 6) D sc_law (by decide) fun fA cdv A outer s H E hr => ?_
  have nd := sc_law.nd
  have tk := takes_of (X := cxOf (L2.CX P w) P w K mg base n_law "law" (defScope s_law) fA cdv A outer s H E) (E := E) rfl rfl rfl rfl
  have hp : PassesOwn (model P w) _ _ _ := passes_of (X := cxOf (L2.CX P w) P w K mg base n_law "law" (defScope s_law) fA cdv A outer s H E) rfl
  exact (p_cons (l_for hp rfl (pi_range1 rfl T.b_range (pa_cons (l_callB2 (call_max2 rfl) (max_2 _) T.b_max (by decide +kernel) l_int (l_callB2 (call_min2 rfl) (min_2 _) T.b_min (by decide +kernel) l_int (l_callB call_len (len_1 _) T.b_len boot_len (l_var 0)))) pa_nil)) src_r1 (pg_name (i := 1) nd rfl (by first | exact Or.inl rfl | exact Or.inr rfl)) (tg_name _ 1)
    (p_cons (l_set (i := 2) nd (l_call G__law_source (hr.mono (by decide)) m__law_source k__law_source b__law_source tk (l_cons (l_var 0) (l_cons (l_var 1) l_nil))))
    (p_cons (l_set (i := 3) nd (l_call G__law_table (hr.mono (by decide)) m__law_table k__law_table b__law_table tk (l_cons (l_var 2) (l_cons l_int l_nil))))
    (p_cons (l_set (i := 4) nd (l_call G__law_row (hr.mono (by decide)) m__law_row k__law_row b__law_row tk (l_cons (l_var 2) (l_cons (l_var 3) (l_cons l_int l_nil)))))
    (p_cons (l_set (i := 5) nd (l_call G__law_pick (hr.mono (by decide)) m__law_pick k__law_pick b__law_pick tk (l_cons (l_var 2) (l_cons (l_bin op_addU (add_2 _) (l_callB call_len (len_1 _) T.b_len boot_len (l_var 4)) l_int) l_nil))))
    (p_cons (l_set (i := 6) nd (l_call G_typed (hr.mono (by decide)) m_typed k_typed b_typed tk (l_cons (l_var 3) (l_cons (l_sl (l_var 4) l_no (l_so (l_var 5))) l_nil))))
    (p_cons (l_set (i := 7) nd (l_call G_typed (hr.mono (by decide)) m_typed k_typed b_typed tk (l_cons (l_var 3) (l_cons (l_var 4) l_nil))))
    (p_cons (l_for hp rfl (pi_any (l_sl (l_var 4) (l_so (l_var 5)) l_no)) src_any (pg_name (i := 8) nd rfl (by first | exact Or.inl rfl | exact Or.inr rfl)) (tg_name _ 8)
    (p_one (l_ifs (PW.pt (l_and (l_cmpT (op_notN) (notN_2 _) (l_var 6) l_non) (l_and1 (l_cmpT (op_eqD hr.units) (eq_2 _) (l_var 8) l_str))))
    (p_one (l_set (i := 6) nd (l_sl (l_var 6) l_no (l_so (l_un un_neg (neg_1 _) l_int)))))
    (p_one (l_ifs (l_cmpT (op_notN) (notN_2 _) (l_var 6) l_non)
    (p_one (l_set (i := 6) nd (l_call G_put (hr.mono (by decide)) m_put k_put b_put tk (l_cons (l_var 3) (l_cons (l_var 6) (l_cons (l_var 8) l_nil))))))
    p_nil)))))
    (p_cons (l_ifs (l_cmpT (op_neD hr.units) (ne_2 _) (l_var 6) (l_var 7))
    (p_one (l_ret l_bl))
    p_nil)
    (p_cons (l_set (i := 6) nd (l_if (l_cmpT (op_isN) (isN_2 _) (l_var 6) l_non) l_str (l_var 6)))
    (p_one (l_for hp rfl (pi_any (l_ix (l_var 3) l_int)) src_any (pg_name (i := 9) nd rfl (by first | exact Or.inl rfl | exact Or.inr rfl)) (tg_name _ 9)
    (p_cons (l_par2 (i := 10) (j := 11) rfl nd (l_cons (l_call G_put (hr.mono (by decide)) m_put k_put b_put tk (l_cons (l_var 3) (l_cons (l_var 6) (l_cons (l_var 9) l_nil)))) (l_cons (l_call G_count_steps (hr.mono (by decide)) m_count_steps k_count_steps b_count_steps tk (l_cons (l_var 3) (l_cons (l_var 6) (l_cons (l_var 9) l_nil)))) l_nil)))
    (p_cons (l_ifs (l_cmpT (op_neD hr.units) (ne_2 _) (l_cmp (op_isN) (isN_2 _) (l_var 10) l_non) (l_cmp (op_isN) (isN_2 _) (l_var 11) l_non))
    (p_one (l_ret l_bl))
    p_nil)
    (p_cons (l_ifs (l_cmpT (op_isN) (isN_2 _) (l_var 10) l_non)
    (p_one l_continue)
    p_nil)
    (p_cons (l_ifs (PW.pt (l_or (l_cmpT (op_neD hr.units) (ne_2 _) (l_cmp (op_eqD hr.units) (eq_2 _) (l_var 11) l_int) (l_cmp (op_isN) (isN_2 _) (l_call G__law_fits (hr.mono (by decide)) m__law_fits k__law_fits b__law_fits tk (l_cons (l_var 3) (l_cons (l_bin op_addU (add_2 _) (l_var 6) (l_var 9)) l_nil))) l_non)) (l_or1 (PW.pt (l_and (l_cmpT (op_eqD hr.units) (eq_2 _) (l_var 11) l_int) (l_and1 (l_cmpT (op_neD hr.units) (ne_2 _) (l_var 10) (l_bin op_addU (add_2 _) (l_var 6) (l_var 9)))))))))
    (p_one (l_ret l_bl))
    p_nil)
    (p_cons (l_ifs (PW.pt (l_or (PW.pt (l_and (l_tru (l_ix (l_var 3) l_int)) (l_and1 (l_cmpT (op_notN) (notN_2 _) (l_call G__law_fits (hr.mono (by decide)) m__law_fits k__law_fits b__law_fits tk (l_cons (l_var 3) (l_cons (l_var 10) l_nil))) l_non)))) (l_or1 (PW.pt (l_and (l_not (l_tru (l_ix (l_var 3) l_int))) (l_and1 (l_cmpT (op_gtU) (gt_2 _) (l_var 11) l_int)))))))
    (p_one (l_ret l_bl))
    p_nil)
    (p_one (l_ifs (PW.pt (l_and (l_cmpT (op_notN) (notN_2 _) (l_var 7) l_non) (l_and (l_cmpT (op_ltU) (lt_2 _) (l_callB call_len (len_1 _) T.b_len boot_len (l_var 4)) l_int) (l_and1 (l_cmpT (op_neD hr.units) (ne_2 _) (l_call G_typed (hr.mono (by decide)) m_typed k_typed b_typed tk (l_cons (l_var 3) (l_cons (l_bin op_addU (add_2 _) (l_var 4) (l_tup (l_cons (l_var 9) (l_cons l_str l_nil)))) l_nil))) (l_sl (l_var 10) l_no (l_so (l_un un_neg (neg_1 _) l_int))))))))
    (p_one (l_ret l_bl))
    p_nil)))))))))))))))))))
    (p_one (l_ret l_bl)))
end
end LF
end

-- part K13Head
section
set_option Elab.async false
set_option linter.all false
set_option maxRecDepth 100000
set_option maxHeartbeats 2000000
namespace LF
open PySem PySem.Spec PyProof.Rows L2
def dd_is_wide : He.DefD := ⟨("is_wide", none), "is_wide", "is_wide", defArgs s_is_wide, defBody s_is_wide, defScope s_is_wide, [], []⟩
def dd_are_signs : He.DefD := ⟨("are_signs", none), "are_signs", "are_signs", defArgs s_are_signs, defBody s_are_signs, defScope s_are_signs, [], []⟩
def dd_is_text : He.DefD := ⟨("is_text", none), "is_text", "is_text", defArgs s_is_text, defBody s_is_text, defScope s_is_text, [], []⟩
def dd_is_form : He.DefD := ⟨("is_form", none), "is_form", "is_form", defArgs s_is_form, defBody s_is_form, defScope s_is_form, [], []⟩
def dd_is_rule : He.DefD := ⟨("is_rule", none), "is_rule", "is_rule", defArgs s_is_rule, defBody s_is_rule, defScope s_is_rule, [], []⟩
def dd_is_table : He.DefD := ⟨("is_table", none), "is_table", "is_table", defArgs s_is_table, defBody s_is_table, defScope s_is_table, [], []⟩
def dd_is_sign : He.DefD := ⟨("is_sign", none), "is_sign", "is_sign", defArgs s_is_sign, defBody s_is_sign, defScope s_is_sign, [], []⟩
def dd_is_key : He.DefD := ⟨("is_key", none), "is_key", "is_key", defArgs s_is_key, defBody s_is_key, defScope s_is_key, [], []⟩
def dd_are_keys : He.DefD := ⟨("are_keys", none), "are_keys", "are_keys", defArgs s_are_keys, defBody s_are_keys, defScope s_are_keys, [], []⟩
def dd_need_table : He.DefD := ⟨("need_table", none), "need_table", "need_table", defArgs s_need_table, defBody s_need_table, defScope s_need_table, [], []⟩
def dd_need_text : He.DefD := ⟨("need_text", none), "need_text", "need_text", defArgs s_need_text, defBody s_need_text, defScope s_need_text, [], []⟩
def dd_need_sign : He.DefD := ⟨("need_sign", none), "need_sign", "need_sign", defArgs s_need_sign, defBody s_need_sign, defScope s_need_sign, [], []⟩
def dd_need_row : He.DefD := ⟨("need_row", none), "need_row", "need_row", defArgs s_need_row, defBody s_need_row, defScope s_need_row, [], []⟩
def dd_fitting : He.DefD := ⟨("fitting", none), "fitting", "fitting", defArgs s_fitting, defBody s_fitting, defScope s_fitting, [], []⟩
def dd_replaced : He.DefD := ⟨("replaced", none), "replaced", "replaced", defArgs s_replaced, defBody s_replaced, defScope s_replaced, [], []⟩
def dd_settled : He.DefD := ⟨("settled", none), "settled", "settled", defArgs s_settled, defBody s_settled, defScope s_settled, [], []⟩
def dd_three_signs : He.DefD := ⟨("three_signs", none), "three_signs", "three_signs", defArgs s_three_signs, defBody s_three_signs, defScope s_three_signs, [], []⟩
def dd_top_result : He.DefD := ⟨("top_result", none), "top_result", "top_result", defArgs s_top_result, defBody s_top_result, defScope s_top_result, [], []⟩
def dd_all_tops : He.DefD := ⟨("all_tops", none), "all_tops", "all_tops", defArgs s_all_tops, defBody s_all_tops, defScope s_all_tops, [], []⟩
def dd_bottom : He.DefD := ⟨("bottom", none), "bottom", "bottom", defArgs s_bottom, defBody s_bottom, defScope s_bottom, [], []⟩
def dd_read_on : He.DefD := ⟨("read_on", none), "read_on", "read_on", defArgs s_read_on, defBody s_read_on, defScope s_read_on, [], []⟩
def dd_put_on : He.DefD := ⟨("put_on", none), "put_on", "put_on", defArgs s_put_on, defBody s_put_on, defScope s_put_on, [], []⟩
def dd_behind_key : He.DefD := ⟨("behind_key", none), "behind_key", "behind_key", defArgs s_behind_key, defBody s_behind_key, defScope s_behind_key, [], []⟩
def dd_behind_row : He.DefD := ⟨("behind_row", none), "behind_row", "behind_row", defArgs s_behind_row, defBody s_behind_row, defScope s_behind_row, [], []⟩
def dd_put : He.DefD := ⟨("put", none), "put", "put", defArgs s_put, defBody s_put, defScope s_put, [], []⟩
def dd_count_steps : He.DefD := ⟨("count_steps", none), "count_steps", "count_steps", defArgs s_count_steps, defBody s_count_steps, defScope s_count_steps, [], []⟩
def dd_typed : He.DefD := ⟨("typed", none), "typed", "typed", defArgs s_typed, defBody s_typed, defScope s_typed, [], []⟩
def dd__law_source : He.DefD := ⟨("_law_source", none), "_law_source", "_law_source", defArgs s__law_source, defBody s__law_source, defScope s__law_source, [], []⟩
def dd__law_pick : He.DefD := ⟨("_law_pick", none), "_law_pick", "_law_pick", defArgs s__law_pick, defBody s__law_pick, defScope s__law_pick, [], []⟩
def dd__law_chosen : He.DefD := ⟨("_law_chosen", none), "_law_chosen", "_law_chosen", defArgs s__law_chosen, defBody s__law_chosen, defScope s__law_chosen, [], []⟩
def dd__law_text : He.DefD := ⟨("_law_text", none), "_law_text", "_law_text", defArgs s__law_text, defBody s__law_text, defScope s__law_text, [], []⟩
def dd__law_known : He.DefD := ⟨("_law_known", none), "_law_known", "_law_known", defArgs s__law_known, defBody s__law_known, defScope s__law_known, [], []⟩
def dd__law_table : He.DefD := ⟨("_law_table", none), "_law_table", "_law_table", defArgs s__law_table, defBody s__law_table, defScope s__law_table, [], []⟩
def dd__law_row : He.DefD := ⟨("_law_row", none), "_law_row", "_law_row", defArgs s__law_row, defBody s__law_row, defScope s__law_row, [], []⟩
def dd__law_fits : He.DefD := ⟨("_law_fits", none), "_law_fits", "_law_fits", defArgs s__law_fits, defBody s__law_fits, defScope s__law_fits, [], []⟩
def dd_law : He.DefD := ⟨("law", none), "law", "law", defArgs s_law, defBody s_law, defScope s_law, [], []⟩
def fnL : List He.DefD := [dd_is_wide, dd_are_signs, dd_is_text, dd_is_form, dd_is_rule, dd_is_table, dd_is_sign, dd_is_key, dd_are_keys, dd_need_table, dd_need_text, dd_need_sign, dd_need_row, dd_fitting, dd_replaced, dd_settled, dd_three_signs, dd_top_result, dd_all_tops, dd_bottom, dd_read_on, dd_put_on, dd_behind_key, dd_behind_row, dd_put, dd_count_steps, dd_typed, dd__law_source, dd__law_pick, dd__law_chosen, dd__law_text, dd__law_known, dd__law_table, dd__law_row, dd__law_fits, dd_law]
def faL : List He.Fa := [.glo "is_wide", .glo "are_signs", .glo "is_text", .glo "is_form", .glo "is_rule", .glo "is_table", .glo "is_sign", .glo "is_key", .glo "are_keys", .glo "need_table", .glo "need_text", .glo "need_sign", .glo "need_row", .glo "fitting", .glo "replaced", .glo "settled", .glo "three_signs", .glo "top_result", .glo "all_tops", .glo "bottom", .glo "read_on", .glo "put_on", .glo "behind_key", .glo "behind_row", .glo "put", .glo "count_steps", .glo "typed", .glo "_law_source", .glo "_law_pick", .glo "_law_chosen", .glo "_law_text", .glo "_law_known", .glo "_law_table", .glo "_law_row", .glo "_law_fits", .glo "law", .free "all", .free "bool", .free "enumerate", .free "int", .free "isinstance", .free "len", .free "list", .free "max", .free "min", .free "range", .free "str", .free "tuple", .str "BACK" "back", .str "LETTERS" "abcdefghijklmnopqrstuvwxyz", .int "LONGEST_tables" 3, .int "LONGEST_tops" 3, .int "MOST_ROW" 300, .int "MOST_RULES" 5, .glo "InvalidRow", .exc "InvalidRow", .glo "InvalidSign", .exc "InvalidSign", .glo "InvalidTable", .exc "InvalidTable", .glo "InvalidText", .exc "InvalidText"]
abbrev Rw : PySem.W.OpenRow := PySem.W.OpenLaw.row PySem.Challenge.rw_lengthforms_k13_whole_rows_one_behind_an
abbrev hkL : PySem.W.Hook := He.hookD 4 faL fnL
def obL (s : PySem.W.SharedT) : He.AlD := He.obsDG 4 faL fnL (HandSHeadRun.getT s)
theorem ob_eqL (s : PySem.W.SharedT) : obL s = hkL.obs s.abs := He.obsDG_eq (HandSHeadRun.getT_eq s)
def loose0 : List Str := ["__name__", "FormError", "InvalidTable", "InvalidText", "InvalidSign", "InvalidRow", "LETTERS", "BACK", "MOST_RULES", "MOST_ROW", "LONGEST_tables", "is_wide", "are_signs", "is_text", "is_form", "is_rule", "is_table", "is_sign", "is_key", "are_keys", "need_table", "need_text", "need_sign", "need_row", "LONGEST_tops", "fitting", "replaced", "settled", "three_signs", "top_result"]
def loose1 : List Str := ["all_tops", "bottom", "read_on", "put_on", "behind_key", "behind_row", "put", "count_steps", "typed", "_law_source", "_law_pick", "_law_chosen", "_law_text", "_law_known", "_law_table", "_law_row", "_law_fits"]
abbrev looseL : List Str := loose0 ++ loose1
theorem runL (w : World) : HandSHeadRun.RunEq Rw (PySem.W.view Rw.prog [51]) hkL obL 4000 looseL w := by
  intro os
  kernel_rfl
section
variable {P : Program} {w : World} {K : PySem.W.Frag} {h : Heap} {mg : Str → Option Value}
theorem da_is_wide (X : K.In h) (G : h.Ns mainGlobals mg) (c : He.SaysD faL fnL K) : DefAt K mg "is_wide" s_is_wide ["value", "low", "high"] := by
  obtain ⟨fd, F⟩ := c.def_ 0 (d := dd_is_wide) rfl
  exact ⟨_, fd, F, He.glo_ok X G (c.fact 0 (f := .glo "is_wide") rfl), F.bindsN fun _ _ _ _ _ _ us hl => match us, hl with | [_, _, _], _ => rfl⟩
theorem da_are_signs (X : K.In h) (G : h.Ns mainGlobals mg) (c : He.SaysD faL fnL K) : DefAt K mg "are_signs" s_are_signs ["value"] := by
  obtain ⟨fd, F⟩ := c.def_ 1 (d := dd_are_signs) rfl
  exact ⟨_, fd, F, He.glo_ok X G (c.fact 1 (f := .glo "are_signs") rfl), F.bindsN fun _ _ _ _ _ _ us hl => match us, hl with | [_], _ => rfl⟩
theorem da_is_text (X : K.In h) (G : h.Ns mainGlobals mg) (c : He.SaysD faL fnL K) : DefAt K mg "is_text" s_is_text ["signs", "value"] := by
  obtain ⟨fd, F⟩ := c.def_ 2 (d := dd_is_text) rfl
  exact ⟨_, fd, F, He.glo_ok X G (c.fact 2 (f := .glo "is_text") rfl), F.bindsN fun _ _ _ _ _ _ us hl => match us, hl with | [_, _], _ => rfl⟩
theorem da_is_form (X : K.In h) (G : h.Ns mainGlobals mg) (c : He.SaysD faL fnL K) : DefAt K mg "is_form" s_is_form ["signs", "value", "low"] := by
  obtain ⟨fd, F⟩ := c.def_ 3 (d := dd_is_form) rfl
  exact ⟨_, fd, F, He.glo_ok X G (c.fact 3 (f := .glo "is_form") rfl), F.bindsN fun _ _ _ _ _ _ us hl => match us, hl with | [_, _, _], _ => rfl⟩
theorem da_is_rule (X : K.In h) (G : h.Ns mainGlobals mg) (c : He.SaysD faL fnL K) : DefAt K mg "is_rule" s_is_rule ["signs", "value"] := by
  obtain ⟨fd, F⟩ := c.def_ 4 (d := dd_is_rule) rfl
  exact ⟨_, fd, F, He.glo_ok X G (c.fact 4 (f := .glo "is_rule") rfl), F.bindsN fun _ _ _ _ _ _ us hl => match us, hl with | [_, _], _ => rfl⟩
theorem da_is_table (X : K.In h) (G : h.Ns mainGlobals mg) (c : He.SaysD faL fnL K) : DefAt K mg "is_table" s_is_table ["value"] := by
  obtain ⟨fd, F⟩ := c.def_ 5 (d := dd_is_table) rfl
  exact ⟨_, fd, F, He.glo_ok X G (c.fact 5 (f := .glo "is_table") rfl), F.bindsN fun _ _ _ _ _ _ us hl => match us, hl with | [_], _ => rfl⟩
theorem da_is_sign (X : K.In h) (G : h.Ns mainGlobals mg) (c : He.SaysD faL fnL K) : DefAt K mg "is_sign" s_is_sign ["signs", "value"] := by
  obtain ⟨fd, F⟩ := c.def_ 6 (d := dd_is_sign) rfl
  exact ⟨_, fd, F, He.glo_ok X G (c.fact 6 (f := .glo "is_sign") rfl), F.bindsN fun _ _ _ _ _ _ us hl => match us, hl with | [_, _], _ => rfl⟩
theorem da_is_key (X : K.In h) (G : h.Ns mainGlobals mg) (c : He.SaysD faL fnL K) : DefAt K mg "is_key" s_is_key ["signs", "value"] := by
  obtain ⟨fd, F⟩ := c.def_ 7 (d := dd_is_key) rfl
  exact ⟨_, fd, F, He.glo_ok X G (c.fact 7 (f := .glo "is_key") rfl), F.bindsN fun _ _ _ _ _ _ us hl => match us, hl with | [_, _], _ => rfl⟩
theorem da_are_keys (X : K.In h) (G : h.Ns mainGlobals mg) (c : He.SaysD faL fnL K) : DefAt K mg "are_keys" s_are_keys ["signs", "value"] := by
  obtain ⟨fd, F⟩ := c.def_ 8 (d := dd_are_keys) rfl
  exact ⟨_, fd, F, He.glo_ok X G (c.fact 8 (f := .glo "are_keys") rfl), F.bindsN fun _ _ _ _ _ _ us hl => match us, hl with | [_, _], _ => rfl⟩
theorem da_need_table (X : K.In h) (G : h.Ns mainGlobals mg) (c : He.SaysD faL fnL K) : DefAt K mg "need_table" s_need_table ["value"] := by
  obtain ⟨fd, F⟩ := c.def_ 9 (d := dd_need_table) rfl
  exact ⟨_, fd, F, He.glo_ok X G (c.fact 9 (f := .glo "need_table") rfl), F.bindsN fun _ _ _ _ _ _ us hl => match us, hl with | [_], _ => rfl⟩
theorem da_need_text (X : K.In h) (G : h.Ns mainGlobals mg) (c : He.SaysD faL fnL K) : DefAt K mg "need_text" s_need_text ["table", "value"] := by
  obtain ⟨fd, F⟩ := c.def_ 10 (d := dd_need_text) rfl
  exact ⟨_, fd, F, He.glo_ok X G (c.fact 10 (f := .glo "need_text") rfl), F.bindsN fun _ _ _ _ _ _ us hl => match us, hl with | [_, _], _ => rfl⟩
theorem da_need_sign (X : K.In h) (G : h.Ns mainGlobals mg) (c : He.SaysD faL fnL K) : DefAt K mg "need_sign" s_need_sign ["table", "value"] := by
  obtain ⟨fd, F⟩ := c.def_ 11 (d := dd_need_sign) rfl
  exact ⟨_, fd, F, He.glo_ok X G (c.fact 11 (f := .glo "need_sign") rfl), F.bindsN fun _ _ _ _ _ _ us hl => match us, hl with | [_, _], _ => rfl⟩
theorem da_need_row (X : K.In h) (G : h.Ns mainGlobals mg) (c : He.SaysD faL fnL K) : DefAt K mg "need_row" s_need_row ["table", "value"] := by
  obtain ⟨fd, F⟩ := c.def_ 12 (d := dd_need_row) rfl
  exact ⟨_, fd, F, He.glo_ok X G (c.fact 12 (f := .glo "need_row") rfl), F.bindsN fun _ _ _ _ _ _ us hl => match us, hl with | [_, _], _ => rfl⟩
theorem da_fitting (X : K.In h) (G : h.Ns mainGlobals mg) (c : He.SaysD faL fnL K) : DefAt K mg "fitting" s_fitting ["table", "text"] := by
  obtain ⟨fd, F⟩ := c.def_ 13 (d := dd_fitting) rfl
  exact ⟨_, fd, F, He.glo_ok X G (c.fact 13 (f := .glo "fitting") rfl), F.bindsN fun _ _ _ _ _ _ us hl => match us, hl with | [_, _], _ => rfl⟩
theorem da_replaced (X : K.In h) (G : h.Ns mainGlobals mg) (c : He.SaysD faL fnL K) : DefAt K mg "replaced" s_replaced ["table", "text", "number"] := by
  obtain ⟨fd, F⟩ := c.def_ 14 (d := dd_replaced) rfl
  exact ⟨_, fd, F, He.glo_ok X G (c.fact 14 (f := .glo "replaced") rfl), F.bindsN fun _ _ _ _ _ _ us hl => match us, hl with | [_, _, _], _ => rfl⟩
theorem da_settled (X : K.In h) (G : h.Ns mainGlobals mg) (c : He.SaysD faL fnL K) : DefAt K mg "settled" s_settled ["tops", "text"] := by
  obtain ⟨fd, F⟩ := c.def_ 15 (d := dd_settled) rfl
  exact ⟨_, fd, F, He.glo_ok X G (c.fact 15 (f := .glo "settled") rfl), F.bindsN fun _ _ _ _ _ _ us hl => match us, hl with | [_, _], _ => rfl⟩
theorem da_three_signs (X : K.In h) (G : h.Ns mainGlobals mg) (c : He.SaysD faL fnL K) : DefAt K mg "three_signs" s_three_signs ["signs"] := by
  obtain ⟨fd, F⟩ := c.def_ 16 (d := dd_three_signs) rfl
  exact ⟨_, fd, F, He.glo_ok X G (c.fact 16 (f := .glo "three_signs") rfl), F.bindsN fun _ _ _ _ _ _ us hl => match us, hl with | [_], _ => rfl⟩
theorem da_top_result (X : K.In h) (G : h.Ns mainGlobals mg) (c : He.SaysD faL fnL K) : DefAt K mg "top_result" s_top_result ["table", "tops", "top"] := by
  obtain ⟨fd, F⟩ := c.def_ 17 (d := dd_top_result) rfl
  exact ⟨_, fd, F, He.glo_ok X G (c.fact 17 (f := .glo "top_result") rfl), F.bindsN fun _ _ _ _ _ _ us hl => match us, hl with | [_, _, _], _ => rfl⟩
theorem da_all_tops (X : K.In h) (G : h.Ns mainGlobals mg) (c : He.SaysD faL fnL K) : DefAt K mg "all_tops" s_all_tops ["table"] := by
  obtain ⟨fd, F⟩ := c.def_ 18 (d := dd_all_tops) rfl
  exact ⟨_, fd, F, He.glo_ok X G (c.fact 18 (f := .glo "all_tops") rfl), F.bindsN fun _ _ _ _ _ _ us hl => match us, hl with | [_], _ => rfl⟩
theorem da_bottom (X : K.In h) (G : h.Ns mainGlobals mg) (c : He.SaysD faL fnL K) : DefAt K mg "bottom" s_bottom ["table", "tops", "text"] := by
  obtain ⟨fd, F⟩ := c.def_ 19 (d := dd_bottom) rfl
  exact ⟨_, fd, F, He.glo_ok X G (c.fact 19 (f := .glo "bottom") rfl), F.bindsN fun _ _ _ _ _ _ us hl => match us, hl with | [_, _, _], _ => rfl⟩
theorem da_read_on (X : K.In h) (G : h.Ns mainGlobals mg) (c : He.SaysD faL fnL K) : DefAt K mg "read_on" s_read_on ["tops", "sign", "spot"] := by
  obtain ⟨fd, F⟩ := c.def_ 20 (d := dd_read_on) rfl
  exact ⟨_, fd, F, He.glo_ok X G (c.fact 20 (f := .glo "read_on") rfl), F.bindsN fun _ _ _ _ _ _ us hl => match us, hl with | [_, _, _], _ => rfl⟩
theorem da_put_on (X : K.In h) (G : h.Ns mainGlobals mg) (c : He.SaysD faL fnL K) : DefAt K mg "put_on" s_put_on ["table", "tops", "text", "sign"] := by
  obtain ⟨fd, F⟩ := c.def_ 21 (d := dd_put_on) rfl
  exact ⟨_, fd, F, He.glo_ok X G (c.fact 21 (f := .glo "put_on") rfl), F.bindsN fun _ _ _ _ _ _ us hl => match us, hl with | [_, _, _, _], _ => rfl⟩
theorem da_behind_key (X : K.In h) (G : h.Ns mainGlobals mg) (c : He.SaysD faL fnL K) : DefAt K mg "behind_key" s_behind_key ["table", "tops", "text", "key"] := by
  obtain ⟨fd, F⟩ := c.def_ 22 (d := dd_behind_key) rfl
  exact ⟨_, fd, F, He.glo_ok X G (c.fact 22 (f := .glo "behind_key") rfl), F.bindsN fun _ _ _ _ _ _ us hl => match us, hl with | [_, _, _, _], _ => rfl⟩
theorem da_behind_row (X : K.In h) (G : h.Ns mainGlobals mg) (c : He.SaysD faL fnL K) : DefAt K mg "behind_row" s_behind_row ["table", "tops", "text", "row"] := by
  obtain ⟨fd, F⟩ := c.def_ 23 (d := dd_behind_row) rfl
  exact ⟨_, fd, F, He.glo_ok X G (c.fact 23 (f := .glo "behind_row") rfl), F.bindsN fun _ _ _ _ _ _ us hl => match us, hl with | [_, _, _, _], _ => rfl⟩
theorem da_put (X : K.In h) (G : h.Ns mainGlobals mg) (c : He.SaysD faL fnL K) : DefAt K mg "put" s_put ["table", "text", "sign"] := by
  obtain ⟨fd, F⟩ := c.def_ 24 (d := dd_put) rfl
  exact ⟨_, fd, F, He.glo_ok X G (c.fact 24 (f := .glo "put") rfl), F.bindsN fun _ _ _ _ _ _ us hl => match us, hl with | [_, _, _], _ => rfl⟩
theorem da_count_steps (X : K.In h) (G : h.Ns mainGlobals mg) (c : He.SaysD faL fnL K) : DefAt K mg "count_steps" s_count_steps ["table", "text", "sign"] := by
  obtain ⟨fd, F⟩ := c.def_ 25 (d := dd_count_steps) rfl
  exact ⟨_, fd, F, He.glo_ok X G (c.fact 25 (f := .glo "count_steps") rfl), F.bindsN fun _ _ _ _ _ _ us hl => match us, hl with | [_, _, _], _ => rfl⟩
theorem da_typed (X : K.In h) (G : h.Ns mainGlobals mg) (c : He.SaysD faL fnL K) : DefAt K mg "typed" s_typed ["table", "row"] := by
  obtain ⟨fd, F⟩ := c.def_ 26 (d := dd_typed) rfl
  exact ⟨_, fd, F, He.glo_ok X G (c.fact 26 (f := .glo "typed") rfl), F.bindsN fun _ _ _ _ _ _ us hl => match us, hl with | [_, _], _ => rfl⟩
theorem da__law_source (X : K.In h) (G : h.Ns mainGlobals mg) (c : He.SaysD faL fnL K) : DefAt K mg "_law_source" s__law_source ["script", "k"] := by
  obtain ⟨fd, F⟩ := c.def_ 27 (d := dd__law_source) rfl
  exact ⟨_, fd, F, He.glo_ok X G (c.fact 27 (f := .glo "_law_source") rfl), F.bindsN fun _ _ _ _ _ _ us hl => match us, hl with | [_, _], _ => rfl⟩
theorem da__law_pick (X : K.In h) (G : h.Ns mainGlobals mg) (c : He.SaysD faL fnL K) : DefAt K mg "_law_pick" s__law_pick ["source", "limit"] := by
  obtain ⟨fd, F⟩ := c.def_ 28 (d := dd__law_pick) rfl
  exact ⟨_, fd, F, He.glo_ok X G (c.fact 28 (f := .glo "_law_pick") rfl), F.bindsN fun _ _ _ _ _ _ us hl => match us, hl with | [_, _], _ => rfl⟩
theorem da__law_chosen (X : K.In h) (G : h.Ns mainGlobals mg) (c : He.SaysD faL fnL K) : DefAt K mg "_law_chosen" s__law_chosen ["source", "some"] := by
  obtain ⟨fd, F⟩ := c.def_ 29 (d := dd__law_chosen) rfl
  exact ⟨_, fd, F, He.glo_ok X G (c.fact 29 (f := .glo "_law_chosen") rfl), F.bindsN fun _ _ _ _ _ _ us hl => match us, hl with | [_, _], _ => rfl⟩
theorem da__law_text (X : K.In h) (G : h.Ns mainGlobals mg) (c : He.SaysD faL fnL K) : DefAt K mg "_law_text" s__law_text ["source", "signs", "most"] := by
  obtain ⟨fd, F⟩ := c.def_ 30 (d := dd__law_text) rfl
  exact ⟨_, fd, F, He.glo_ok X G (c.fact 30 (f := .glo "_law_text") rfl), F.bindsN fun _ _ _ _ _ _ us hl => match us, hl with | [_, _, _], _ => rfl⟩
theorem da__law_known (X : K.In h) (G : h.Ns mainGlobals mg) (c : He.SaysD faL fnL K) : DefAt K mg "_law_known" s__law_known ["source"] := by
  obtain ⟨fd, F⟩ := c.def_ 31 (d := dd__law_known) rfl
  exact ⟨_, fd, F, He.glo_ok X G (c.fact 31 (f := .glo "_law_known") rfl), F.bindsN fun _ _ _ _ _ _ us hl => match us, hl with | [_], _ => rfl⟩
theorem da__law_table (X : K.In h) (G : h.Ns mainGlobals mg) (c : He.SaysD faL fnL K) : DefAt K mg "_law_table" s__law_table ["source", "most"] := by
  obtain ⟨fd, F⟩ := c.def_ 32 (d := dd__law_table) rfl
  exact ⟨_, fd, F, He.glo_ok X G (c.fact 32 (f := .glo "_law_table") rfl), F.bindsN fun _ _ _ _ _ _ us hl => match us, hl with | [_, _], _ => rfl⟩
theorem da__law_row (X : K.In h) (G : h.Ns mainGlobals mg) (c : He.SaysD faL fnL K) : DefAt K mg "_law_row" s__law_row ["source", "table", "most"] := by
  obtain ⟨fd, F⟩ := c.def_ 33 (d := dd__law_row) rfl
  exact ⟨_, fd, F, He.glo_ok X G (c.fact 33 (f := .glo "_law_row") rfl), F.bindsN fun _ _ _ _ _ _ us hl => match us, hl with | [_, _, _], _ => rfl⟩
theorem da__law_fits (X : K.In h) (G : h.Ns mainGlobals mg) (c : He.SaysD faL fnL K) : DefAt K mg "_law_fits" s__law_fits ["table", "text"] := by
  obtain ⟨fd, F⟩ := c.def_ 34 (d := dd__law_fits) rfl
  exact ⟨_, fd, F, He.glo_ok X G (c.fact 34 (f := .glo "_law_fits") rfl), F.bindsN fun _ _ _ _ _ _ us hl => match us, hl with | [_, _], _ => rfl⟩
theorem da_law (X : K.In h) (G : h.Ns mainGlobals mg) (c : He.SaysD faL fnL K) : DefAt K mg "law" s_law ["script"] := by
  obtain ⟨fd, F⟩ := c.def_ 35 (d := dd_law) rfl
  exact ⟨_, fd, F, He.glo_ok X G (c.fact 35 (f := .glo "law") rfl), F.bindsN fun _ _ _ _ _ _ us hl => match us, hl with | [_], _ => rfl⟩
theorem txt (X : K.In h) (G : h.Ns mainGlobals mg) (c : He.SaysD faL fnL K) : Txt K mg (He.ga K) where
  b_all := He.free_ok X G (c.fact 36 (f := .free "all") rfl)
  b_bool := He.free_ok X G (c.fact 37 (f := .free "bool") rfl)
  b_enumerate := He.free_ok X G (c.fact 38 (f := .free "enumerate") rfl)
  b_int := He.free_ok X G (c.fact 39 (f := .free "int") rfl)
  b_isinstance := He.free_ok X G (c.fact 40 (f := .free "isinstance") rfl)
  b_len := He.free_ok X G (c.fact 41 (f := .free "len") rfl)
  b_list := He.free_ok X G (c.fact 42 (f := .free "list") rfl)
  b_max := He.free_ok X G (c.fact 43 (f := .free "max") rfl)
  b_min := He.free_ok X G (c.fact 44 (f := .free "min") rfl)
  b_range := He.free_ok X G (c.fact 45 (f := .free "range") rfl)
  b_str := He.free_ok X G (c.fact 46 (f := .free "str") rfl)
  b_tuple := He.free_ok X G (c.fact 47 (f := .free "tuple") rfl)
  c_BACK := He.str_ok X G (c.fact 48 (f := .str "BACK" "back") rfl)
  c_LETTERS := He.str_ok X G (c.fact 49 (f := .str "LETTERS" "abcdefghijklmnopqrstuvwxyz") rfl)
  c_LONGEST_tables := He.int_ok X G (c.fact 50 (f := .int "LONGEST_tables" 3) rfl)
  c_LONGEST_tops := He.int_ok X G (c.fact 51 (f := .int "LONGEST_tops" 3) rfl)
  c_MOST_ROW := He.int_ok X G (c.fact 52 (f := .int "MOST_ROW" 300) rfl)
  c_MOST_RULES := He.int_ok X G (c.fact 53 (f := .int "MOST_RULES" 5) rfl)
  x_InvalidRow := by
    obtain ⟨a, b, d, e⟩ := He.exc_ok (c.fact 55 (f := .exc "InvalidRow") rfl)
    exact ⟨a, He.glo_ok X G (c.fact 54 (f := .glo "InvalidRow") rfl), b, d, e⟩
  x_InvalidSign := by
    obtain ⟨a, b, d, e⟩ := He.exc_ok (c.fact 57 (f := .exc "InvalidSign") rfl)
    exact ⟨a, He.glo_ok X G (c.fact 56 (f := .glo "InvalidSign") rfl), b, d, e⟩
  x_InvalidTable := by
    obtain ⟨a, b, d, e⟩ := He.exc_ok (c.fact 59 (f := .exc "InvalidTable") rfl)
    exact ⟨a, He.glo_ok X G (c.fact 58 (f := .glo "InvalidTable") rfl), b, d, e⟩
  x_InvalidText := by
    obtain ⟨a, b, d, e⟩ := He.exc_ok (c.fact 61 (f := .exc "InvalidText") rfl)
    exact ⟨a, He.glo_ok X G (c.fact 60 (f := .glo "InvalidText") rfl), b, d, e⟩
  isa := by
    intro cc hc y hy
    simp [caught] at hc
theorem end_law {f : Addr} (X : K.In h) (G : h.Ns mainGlobals mg) (hfa : mg ("law" : Str) = some (.ref f)) (c : He.SaysD faL fnL K) :
    ∃ fd : FuncData, (∀ (s : Shared) (v : Value), BindsTo s fd ⟨[v], []⟩ [("script", v)]) ∧ ∀ base : Heap, K.In base → base.Ns mainGlobals mg → FnOk P w K mg base (CXa P) 7 f fd ["script"] (spD ⟨K, He.ga K⟩ f_law) := by
  obtain ⟨fd, F⟩ := c.def_ 35 (d := dd_law) rfl
  have e := hfa.symm.trans (He.glo_ok X G (c.fact 35 (f := .glo "law") rfl))
  cases e
  have b := FunD.bindsA (ps := ["script"]) F fun _ _ _ _ _ _ us hl => match us, hl with | [_], _ => rfl
  refine ⟨fd, fun s v => b s [v] rfl, fun base _ _ => ?_⟩
  have T := txt X G c
  have o_is_wide := ok_is_wide (P := P) (w := w) (base := base) T (da_is_wide X G c) 
  have o_are_signs := ok_are_signs (P := P) (w := w) (base := base) T (da_are_signs X G c) 
  have o_is_text := ok_is_text (P := P) (w := w) (base := base) T (da_is_text X G c) 
  have o_is_form := ok_is_form (P := P) (w := w) (base := base) T (da_is_form X G c) o_is_text
  have o_is_rule := ok_is_rule (P := P) (w := w) (base := base) T (da_is_rule X G c) o_is_wide o_is_form
  have o_is_table := ok_is_table (P := P) (w := w) (base := base) T (da_is_table X G c) o_is_wide o_are_signs o_is_rule
  have o_is_sign := ok_is_sign (P := P) (w := w) (base := base) T (da_is_sign X G c) 
  have o_is_key := ok_is_key (P := P) (w := w) (base := base) T (da_is_key X G c) o_is_sign
  have o_are_keys := ok_are_keys (P := P) (w := w) (base := base) T (da_are_keys X G c) o_is_wide o_is_key
  have o_need_table := ok_need_table (P := P) (w := w) (base := base) T (da_need_table X G c) o_is_table
  have o_need_text := ok_need_text (P := P) (w := w) (base := base) T (da_need_text X G c) o_is_text
  have o_need_sign := ok_need_sign (P := P) (w := w) (base := base) T (da_need_sign X G c) o_is_sign
  have o_need_row := ok_need_row (P := P) (w := w) (base := base) T (da_need_row X G c) o_are_keys
  have o_fitting := ok_fitting (P := P) (w := w) (base := base) T (da_fitting X G c) 
  have o_replaced := ok_replaced (P := P) (w := w) (base := base) T (da_replaced X G c) 
  have o_settled := ok_settled (P := P) (w := w) (base := base) T (da_settled X G c) 
  have o_three_signs := ok_three_signs (P := P) (w := w) (base := base) T (da_three_signs X G c) 
  have o_top_result := ok_top_result (P := P) (w := w) (base := base) T (da_top_result X G c) o_fitting o_replaced o_settled
  have o_all_tops := ok_all_tops (P := P) (w := w) (base := base) T (da_all_tops X G c) o_three_signs o_top_result
  have o_bottom := ok_bottom (P := P) (w := w) (base := base) T (da_bottom X G c) o_fitting o_replaced o_settled
  have o_read_on := ok_read_on (P := P) (w := w) (base := base) T (da_read_on X G c) o_settled
  have o_put_on := ok_put_on (P := P) (w := w) (base := base) T (da_put_on X G c) o_bottom o_read_on
  have o_behind_key := ok_behind_key (P := P) (w := w) (base := base) T (da_behind_key X G c) o_put_on
  have o_behind_row := ok_behind_row (P := P) (w := w) (base := base) T (da_behind_row X G c) o_behind_key
  have o_put := ok_put (P := P) (w := w) (base := base) T (da_put X G c) o_need_table o_need_text o_need_sign o_all_tops o_behind_key
  have o_count_steps := ok_count_steps (P := P) (w := w) (base := base) T (da_count_steps X G c) o_need_table o_need_text o_need_sign o_all_tops o_behind_key
  have o_typed := ok_typed (P := P) (w := w) (base := base) T (da_typed X G c) o_need_table o_need_row o_all_tops o_behind_row
  have o__law_source := ok__law_source (P := P) (w := w) (base := base) T (da__law_source X G c) 
  have o__law_pick := ok__law_pick (P := P) (w := w) (base := base) T (da__law_pick X G c) 
  have o__law_chosen := ok__law_chosen (P := P) (w := w) (base := base) T (da__law_chosen X G c) o__law_pick
  have o__law_text := ok__law_text (P := P) (w := w) (base := base) T (da__law_text X G c) o__law_pick o__law_chosen
  have o__law_known := ok__law_known (P := P) (w := w) (base := base) T (da__law_known X G c) o__law_pick
  have o__law_table := ok__law_table (P := P) (w := w) (base := base) T (da__law_table X G c) o__law_pick o__law_chosen o__law_text o__law_known
  have o__law_row := ok__law_row (P := P) (w := w) (base := base) T (da__law_row X G c) o__law_pick o__law_chosen
  have o__law_fits := ok__law_fits (P := P) (w := w) (base := base) T (da__law_fits X G c) 
  exact fn_cxa (ok_law (P := P) (w := w) (base := base) T F o_put o_count_steps o_typed o__law_source o__law_pick o__law_table o__law_row o__law_fits)
end
end LF
end

-- part LFWp
section
set_option Elab.async false
set_option linter.all false
set_option maxRecDepth 100000
set_option maxHeartbeats 2000000
namespace LF
open PySem PySem.Spec PyProof.Rows L2

/-! ### what a pure computation yields -/
def resP {α : Type} (P : α → En → Prop) (E : Exc → En → Prop) : Option (Except Exc α × En) → Prop
  | some (.ok a, ρ') => P a ρ'
  | some (.error e, ρ') => E e ρ'
  | none => False
def wp {α : Type} (f : EM α) (ρ : En) (P : α → En → Prop) (E : Exc → En → Prop) : Prop := resP P E (f ρ)
def optP {α : Type} : Option α → (α → Prop) → Prop
  | some a, K => K a
  | none, _ => False
section
variable {α β : Type} {P : α → En → Prop} {E : Exc → En → Prop} {ρ : En}
theorem wp.mono {f : EM α} {P' : α → En → Prop} {E' : Exc → En → Prop} (h : wp f ρ P E) (p : ∀ a ρ', P a ρ' → P' a ρ') (e : ∀ a ρ', E a ρ' → E' a ρ') : wp f ρ P' E' := by
  unfold wp at h ⊢
  cases hf : f ρ with
  | none =>
    rw [hf] at h
    exact h
  | some z =>
    rw [hf] at h
    rcases z with ⟨z | z, ρ'⟩
    · exact e _ _ h
    · exact p _ _ h
theorem wp.get {f : EM α} (h : wp f ρ P fun _ _ => False) : ∃ a ρ', f ρ = some (.ok a, ρ') ∧ P a ρ' := by
  unfold wp at h
  try dsimp only
  cases hf : f ρ with
  | none =>
    rw [hf] at h
    cases h
  | some z =>
    rw [hf] at h
    rcases z with ⟨z | z, ρ'⟩
    · cases h
    · exact ⟨_, _, rfl, h⟩
theorem wp_some {a : α} {ρ' : En} : wp (fun _ => some (.ok a, ρ')) ρ P E = P a ρ' := rfl
theorem wp_of {f : EM α} {a : α} {ρ' : En} (h : f ρ = some (.ok a, ρ')) (p : P a ρ') : wp f ρ P E := by
  unfold wp
  try dsimp only
  rw [h]
  exact p
@[simp] theorem wp_bind {f : EM β} {g : β → EM α} : wp (EM.bind f g) ρ P E = wp f ρ (fun a ρ' => wp (g a) ρ' P E) E := by
  unfold wp EM.bind
  cases f ρ with
  | none => rfl
  | some z => rcases z with ⟨z | z, ρ'⟩ <;> rfl
@[simp] theorem wp_pure {a : α} : wp (EM.pure a) ρ P E = P a ρ := rfl
@[simp] theorem wp_raise {e : Exc} : wp (EM.raise (α := α) e) ρ P E = E e ρ := rfl
@[simp] theorem wp_ite {c : Prop} [Decidable c] {f g : EM α} : wp (if c then f else g) ρ P E = if c then wp f ρ P E else wp g ρ P E := by split <;> rfl
theorem wp_map {o : Option β} {g : β → α} : wp (fun ρ => o.map fun z => (.ok (g z), ρ)) ρ P E = optP o fun z => P (g z) ρ := by
  cases o <;> rfl
theorem wp_mapO {o : En → Option β} {g : β → α} : wp (fun ρ => (o ρ).map fun z => (.ok (g z), ρ)) ρ P E = optP (o ρ) fun z => P (g z) ρ := by
  unfold wp
  try dsimp only
  cases o ρ <;> rfl
@[simp] theorem optP_some {a : α} {K : α → Prop} : optP (some a) K = K a := rfl
@[simp] theorem optP_ite {c : Prop} [Decidable c] {a b : Option α} {K : α → Prop} : optP (if c then a else b) K = if c then optP a K else optP b K := by split <;> rfl
@[simp] theorem optP_map {o : Option β} {g : β → α} {K : α → Prop} : optP (o.map g) K = optP o fun z => K (g z) := by cases o <;> rfl
@[simp] theorem optP_bind {o : Option β} {g : β → Option α} {K : α → Prop} : optP (o.bind g) K = optP o fun z => optP (g z) K := by cases o <;> rfl
theorem optP.mono {o : Option α} {K K' : α → Prop} (h : optP o K) (k : ∀ a, K a → K' a) : optP o K' := by
  cases o with
  | none => exact h
  | some a => exact k a h
end
section
variable {P : R → En → Prop} {Pb : Bool → En → Prop} {Po : Out → En → Prop} {Pl : List R → En → Prop} {E : Exc → En → Prop} {ρ : En} {fa fb fc : EM R} {fs : EM (List R)} {ca cb : EM Bool} {sf sg : EM Out}
def vrP (ρ : En) (i : Nat) (P : R → En → Prop) : Option Slot → Prop
  | some (.val d) => P (.val d) ρ
  | some (.own _ _) => P (.loc i) ρ
  | _ => False
@[simp] theorem wp_eVar {i : Nat} : wp (eVar i) ρ P E = vrP ρ i P ρ[i]? := by
  unfold wp eVar
  try dsimp only
  cases ρ[i]? with
  | none => rfl
  | some s => cases s <;> rfl
@[simp] theorem wp_eC {d : D} : wp (eC d) ρ P E = P (.val d) ρ := rfl
@[simp] theorem wp_aNil : wp aNil ρ Pl E = Pl [] ρ := rfl
@[simp] theorem wp_aCons : wp (aCons fa fs) ρ Pl E = wp fa ρ (fun r ρ1 => wp fs ρ1 (fun rs ρ2 => Pl (r :: rs) ρ2) E) E := by
  unfold aCons
  simp only [wp_bind, wp_pure]
def opt2 (a b : Option D) (g : D → D → Option Got) : Option Got := a.bind fun d => b.bind fun d' => g d d'
@[simp] theorem wp_e2 {g : D → D → Option Got} : wp (e2 g fa fb) ρ P E = wp fa ρ (fun x ρ1 => wp fb ρ1 (fun y ρ2 => optP (opt2 (rd x ρ2) (rd y ρ2) g) fun z => P z.r ρ2) E) E := by
  unfold e2
  simp only [wp_bind]
  congr 1
  funext x ρ1
  congr 1
  funext y ρ2
  unfold wp opt2
  try dsimp only
  cases rd x ρ2 with
  | none => rfl
  | some d => cases rd y ρ2 with
    | none => rfl
    | some d' => cases h : g d d' <;> simp [h, optP, resP]
@[simp] theorem wp_e1 {g : D → Option Got} : wp (e1 g fa) ρ P E = wp fa ρ (fun x ρ1 => optP ((rd x ρ1).bind g) fun z => P z.r ρ1) E := by
  unfold e1
  simp only [wp_bind]
  congr 1
  funext x ρ1
  unfold wp
  try dsimp only
  cases rd x ρ1 with
  | none => rfl
  | some d => cases h : g d <;> simp [h, optP, resP]
def bP (P : Bool → En → Prop) (ρ : En) : R → Prop
  | .val (.bool k) => P k ρ
  | _ => False
@[simp] theorem wp_tB : wp (tB fa) ρ Pb E = wp fa ρ (fun r ρ1 => bP Pb ρ1 r) E := by
  unfold tB
  simp only [wp_bind]
  congr 1
  funext r ρ1
  cases r with
  | val d => cases d <;> rfl
  | _ => rfl
@[simp] theorem wp_tTru : wp (tTru fa) ρ Pb E = wp fa ρ (fun r ρ1 => optP ((rd r ρ1).bind gTru) fun k => Pb k ρ1) E := by
  unfold tTru
  simp only [wp_bind]
  congr 1
  funext r ρ1
  exact wp_mapO (o := fun ρ => (rd r ρ).bind gTru) (g := id)
@[simp] theorem wp_tAnd : wp (tAnd ca cb) ρ Pb E = wp ca ρ (fun k ρ1 => if k = true then wp cb ρ1 Pb E else Pb false ρ1) E := by
  unfold tAnd
  simp only [wp_bind, wp_ite, wp_pure]
@[simp] theorem wp_tOr : wp (tOr ca cb) ρ Pb E = wp ca ρ (fun k ρ1 => if k = true then Pb true ρ1 else wp cb ρ1 Pb E) E := by
  unfold tOr
  simp only [wp_bind, wp_ite, wp_pure]
@[simp] theorem wp_tNot : wp (tNot ca) ρ Pb E = wp ca ρ (fun k ρ1 => Pb (!k) ρ1) E := by
  unfold tNot
  simp only [wp_bind, wp_pure]
@[simp] theorem wp_tYesM : wp tYesM ρ Pb E = Pb true ρ := rfl
@[simp] theorem wp_eAnd : wp (eAnd fa fb) ρ P E = wp (tB fa) ρ (fun k ρ1 => if k = true then wp fb ρ1 P E else P (.val (.bool false)) ρ1) E := by
  unfold eAnd
  simp only [wp_bind, wp_ite, wp_pure]
@[simp] theorem wp_eOr : wp (eOr fa fb) ρ P E = wp (tB fa) ρ (fun k ρ1 => if k = true then P (.val (.bool true)) ρ1 else wp fb ρ1 P E) E := by
  unfold eOr
  simp only [wp_bind, wp_ite, wp_pure]
@[simp] theorem wp_eNot : wp (eNot fa) ρ P E = wp (tB fa) ρ (fun k ρ1 => P (.val (.bool !k)) ρ1) E := by
  unfold eNot
  simp only [wp_bind, wp_pure]
@[simp] theorem wp_eIf : wp (eIf ca fa fb) ρ P E = wp ca ρ (fun k ρ1 => if k = true then wp fa ρ1 P E else wp fb ρ1 P E) E := by
  unfold eIf
  simp only [wp_bind, wp_ite]
@[simp] theorem wp_eChain {g g' : D → D → Option Got} : wp (eChain g g' fa fb fc) ρ P E = wp fa ρ (fun x ρ1 => wp fb ρ1 (fun y ρ2 => optP (gB (g2R g x y ρ2)) fun k => if k = true then wp fc ρ2 (fun w ρ3 => optP (g2R g' y w ρ3) fun z => P z.r ρ3) E else P (.val (.bool false)) ρ2) E) E := by
  unfold eChain
  simp only [wp_bind]
  congr 1
  funext x ρ1
  congr 1
  funext y ρ2
  have key : wp (EM.bind fc (fun w => fun ρ => (g2R g' y w ρ).map fun z => (.ok z.r, ρ))) ρ2 P E = wp fc ρ2 (fun w ρ3 => optP (g2R g' y w ρ3) fun z => P z.r ρ3) E := by
    rw [wp_bind]
    congr 1
    funext w ρ3
    exact wp_mapO (o := fun ρ => g2R g' y w ρ) (g := Got.r)
  cases h : gB (g2R g x y ρ2) with
  | none =>
    unfold wp
    try dsimp only
    rw [h]
    rfl
  | some k =>
    cases k with
    | false =>
      unfold wp
      try dsimp only
      rw [h]
      rfl
    | true =>
      refine Eq.trans ?_ key
      unfold wp
      try dsimp only
      rw [h]
theorem g2R_eq {g : D → D → Option Got} {x y : R} : g2R g x y ρ = opt2 (rd x ρ) (rd y ρ) g := by
  unfold g2R opt2
  cases rd x ρ <;> cases rd y ρ <;> rfl
/-! statements -/
def nxP (g : EM Out) (P : Out → En → Prop) (E : Exc → En → Prop) (ρ : En) : Out → Prop
  | .nx => wp g ρ P E
  | o => P o ρ
@[simp] theorem wp_sSeq : wp (sSeq sf sg) ρ Po E = wp sf ρ (fun o ρ1 => nxP sg Po E ρ1 o) E := by
  unfold sSeq
  simp only [wp_bind]
  congr 1
  funext o ρ1
  cases o <;> rfl
@[simp] theorem wp_sNx : wp sNx ρ Po E = Po .nx ρ := rfl
@[simp] theorem wp_sBk : wp sBk ρ Po E = Po .bk ρ := rfl
@[simp] theorem wp_sCt : wp sCt ρ Po E = Po .ct ρ := rfl
@[simp] theorem wp_sRetN : wp sRetN ρ Po E = Po (.rt (.val .none)) ρ := rfl
@[simp] theorem wp_sRaise {x : Exc} : wp (sRaise x) ρ Po E = E x ρ := rfl
@[simp] theorem wp_sRet : wp (sRet fa) ρ Po E = wp fa ρ (fun r ρ1 => Po (.rt r) ρ1) E := by
  unfold sRet
  simp only [wp_bind, wp_pure]
@[simp] theorem wp_sExpr : wp (sExpr fa) ρ Po E = wp fa ρ (fun r ρ1 => Po .nx ρ1) E := by
  unfold sExpr
  simp only [wp_bind, wp_pure]
@[simp] theorem wp_sIf : wp (sIf ca sf sg) ρ Po E = wp ca ρ (fun k ρ1 => if k = true then wp sf ρ1 Po E else wp sg ρ1 Po E) E := by
  unfold sIf
  simp only [wp_bind, wp_ite]
def fzP (ρ : En) (i : Nat) (K : D → En → Prop) : Option Slot → Prop
  | some (.val d) => K d ρ
  | some (.own m .loc) => K m.d (ρ.set i (.val m.d))
  | _ => False
def fzR (K : D → En → Prop) (ρ : En) : R → Prop
  | .val d => K d ρ
  | .fr m => K m.d ρ
  | .loc i => fzP ρ i K ρ[i]?
@[simp] theorem wp_fz {K : D → En → Prop} {r : R} : wp (fz r) ρ K E = fzR K ρ r := by
  cases r with
  | val d => rfl
  | fr m => rfl
  | loc i =>
    unfold fz fzR wp
    try dsimp only
    show resP K E (fzSlot ρ i ρ[i]?) = _
    cases h : ρ[i]? with
    | none => rfl
    | some s => cases s with
      | own m o => cases o <;> rfl
      | _ => rfl
def fzA (K : List D → En → Prop) : List R → En → Prop
  | [], ρ => K [] ρ
  | r :: rs, ρ => fzR (fun d ρ1 => fzA (fun ds ρ2 => K (d :: ds) ρ2) rs ρ1) ρ r
@[simp] theorem wp_fzAll : ∀ {rs : List R} {ρ : En} {K : List D → En → Prop}, wp (fzAll rs) ρ K E = fzA K rs ρ
  | [], _, _ => rfl
  | r :: rs, ρ, K => by
    have e : fzAll (r :: rs) = EM.bind (fz r) fun d => EM.bind (fzAll rs) fun ds => EM.pure (d :: ds) := rfl
    rw [e, wp_bind, wp_fz]
    show fzR _ ρ r = fzR _ ρ r
    congr 1
    funext d ρ1
    rw [wp_bind, wp_fzAll]
    rfl
@[simp] theorem wp_eTup : wp (eTup fs) ρ P E = wp fs ρ (fun rs ρ1 => fzA (fun ds ρ2 => if ds.length ≤ sizeLine then P (.val (.tuple ds)) ρ2 else False) rs ρ1) E := by
  unfold eTup
  simp only [wp_bind, wp_fzAll, wp_ite, wp_pure]
  rfl
@[simp] theorem wp_eLst : wp (eLst fs) ρ P E = wp fs ρ (fun rs ρ1 => fzA (fun ds ρ2 => if ds.length ≤ sizeLine then P (.fr (.lst ds)) ρ2 else False) rs ρ1) E := by
  unfold eLst
  simp only [wp_bind, wp_fzAll, wp_ite, wp_pure]
  rfl
def stP (i : Nat) (K : En → Prop) (ρ : En) : R → Prop
  | .val d => if pinned ρ i = true then False else K (ρ.set i (.val d))
  | .fr m => if pinned ρ i = true then False else K (ρ.set i (.own m .loc))
  | .loc j => fzP ρ j (fun d ρ1 => if pinned ρ1 i = true then False else K (ρ1.set i (.val d))) ρ[j]?
@[simp] theorem wp_sSet {i : Nat} : wp (sSet i fa) ρ Po E = wp fa ρ (fun r ρ1 => stP i (fun ρ2 => Po .nx ρ2) ρ1 r) E := by
  unfold sSet
  simp only [wp_bind, wp_pure]
  congr 1
  funext r ρ1
  cases r with
  | val d =>
    unfold stor stVal stP wp
    try dsimp only
    split <;> simp_all [resP]
  | fr m =>
    unfold stor stP wp
    try dsimp only
    split <;> simp_all [resP]
  | loc j =>
    unfold stor stP
    simp only [wp_bind, wp_fz, fzR]
    congr 1
    funext d ρ2
    unfold stVal wp
    try dsimp only
    split <;> simp_all [resP]
/-! calls -/
def outP (K : R → Prop) : R → Prop
  | .loc _ => False
  | r => K r
@[simp] theorem wp_callW {f : EM R} {rs : List R} : wp (callW f rs) ρ P E = optP (argsOf ρ rs) fun args => if (locs rs).Nodup then wp f args (fun r fin => outP (fun r => P r (putBack ρ rs fin)) r) (fun e fin => E e (putBack ρ rs fin)) else False := by
  unfold callW
  cases h : argsOf ρ rs with
  | none =>
    unfold wp
    try dsimp only
    simp only [h]
    rfl
  | some args =>
    show _ = if (locs rs).Nodup then _ else _
    unfold wp
    try dsimp only
    simp only [h, Option.bind_some]
    by_cases hn : (locs rs).Nodup
    · simp only [if_pos hn]
      cases f args with
      | none => rfl
      | some z =>
        rcases z with ⟨z | r, fin⟩
        · rfl
        · cases r <;> rfl
    · simp only [if_neg hn, resP]
@[simp] theorem wp_eCall {f : EM R} : wp (eCall f fs) ρ P E = wp fs ρ (fun rs ρ1 => wp (callW f rs) ρ1 P E) E := by
  unfold eCall
  rw [wp_bind]
def retS (args : En) (K : R → En → Prop) (ρ : En) : Option Slot → Prop
  | some (.own m .loc) => K (.fr m) (finArgs args ρ)
  | some (.val d) => K (.val d) (finArgs args ρ)
  | _ => False
def retP (args : En) (K : R → En → Prop) (ρ' : En) : Out → Prop
  | .nx => K (.val .none) (finArgs args ρ')
  | .rt (.val d) => K (.val d) (finArgs args ρ')
  | .rt (.fr m) => K (.fr m) (finArgs args ρ')
  | .rt (.loc i) => retS args K ρ' ρ'[i]?
  | _ => False
@[simp] theorem wp_defF {n N : Nat} {b : EM Out} {args : En} : wp (defF n N b) args P E = if args.length = n ∧ args.all argOk = true then wp b (args ++ List.replicate (N - n) .unb) (fun o ρ' => retP args P ρ' o) (fun e ρ' => E e (finArgs args ρ')) else False := by
  unfold defF wp
  dsimp only
  by_cases hc : args.length = n ∧ args.all argOk = true
  · simp only [if_pos hc]
    cases b (args ++ List.replicate (N - n) .unb) with
    | none => rfl
    | some z =>
      rcases z with ⟨z | o, ρ'⟩
      · rfl
      · cases o with
        | rt r =>
          cases r with
          | loc i =>
            show resP P E (match ρ'[i]? with
              | some (.own m .loc) => some (.ok (.fr m), finArgs args ρ')
              | some (.val d) => some (.ok (.val d), finArgs args ρ')
              | _ => none) = retS args P ρ' ρ'[i]?
            cases ρ'[i]? with
            | none => rfl
            | some s => cases s with
              | own m o => cases o <;> rfl
              | _ => rfl
          | _ => rfl
        | _ => rfl
  · simp only [if_neg hc, resP]
/-! lists of slots -/
theorem wp_opt {α β : Type} {o : En → Option β} {f : β → EM α} {P : α → En → Prop} {ρ : En} : wp (fun ρ => (o ρ).bind fun z => f z ρ) ρ P E = optP (o ρ) fun z => wp (f z) ρ P E := by
  unfold wp
  try dsimp only
  cases o ρ <;> rfl
@[simp] theorem wp_sMeth {i : Nat} {g : List D → List D → Option (List D × D)} : wp (sMeth i g fs) ρ P E = optP (ownL ρ[i]?) fun _ => wp fs ρ (fun rs ρ1 => fzA (fun ds ρ2 => optP (ownL ρ2[i]?) fun p => optP (g ds p.1) fun q => P (.val q.2) (ρ2.set i (.own (.lst q.1) p.2))) rs ρ1) E := by
  unfold sMeth
  rw [wp_opt (o := fun ρ => ownL ρ[i]?) (f := fun _ => sMeth1 i g fs)]
  congr 1
  funext _
  unfold sMeth1
  simp only [wp_bind, wp_fzAll]
  congr 1
  funext rs ρ1
  congr 1
  funext ds ρ2
  refine (wp_opt (o := fun ρ => ownL ρ[i]?) (f := fun p ρ => (g ds p.1).map fun q => (Except.ok (R.val q.2), ρ.set i (.own (.lst q.1) p.2)))).trans ?_
  congr 1
  funext p
  unfold wp
  try dsimp only
  cases g ds p.1 <;> rfl
@[simp] theorem wp_sSetIx {i : Nat} : wp (sSetIx i fa fb) ρ Po E = wp fa ρ (fun r ρ1 => optP (ownL ρ1[i]?) fun _ => wp fb ρ1 (fun q ρ2 => match rd q ρ2 with
    | some (.int k) => fzR (fun d ρ3 => optP (ownL ρ3[i]?) fun p => optP (ixN p.1.length k) fun j => Po .nx (ρ3.set i (.own (.lst (p.1.set j d)) p.2))) ρ2 r
    | _ => False) E) E := by
  unfold sSetIx
  simp only [wp_bind]
  congr 1
  funext r ρ1
  rw [wp_opt (o := fun ρ => ownL ρ[i]?) (f := fun _ => EM.bind fb _)]
  congr 1
  funext _
  rw [wp_bind]
  congr 1
  funext q ρ2
  have key : ∀ k, wp (EM.bind (fz r) (fun d => fun ρ => (ownL ρ[i]?).bind fun p => (ixN p.1.length k).map fun j => (.ok .nx, ρ.set i (.own (.lst (p.1.set j d)) p.2)))) ρ2 Po E = fzR (fun d ρ3 => optP (ownL ρ3[i]?) fun p => optP (ixN p.1.length k) fun j => Po .nx (ρ3.set i (.own (.lst (p.1.set j d)) p.2))) ρ2 r := fun k => by
    rw [wp_bind, wp_fz]
    congr 1
    funext d ρ3
    refine (wp_opt (o := fun ρ => ownL ρ[i]?) (f := fun p ρ => (ixN p.1.length k).map fun j => (Except.ok Out.nx, ρ.set i (.own (.lst (p.1.set j d)) p.2)))).trans ?_
    congr 1
    funext p
    unfold wp
    try dsimp only
    cases ixN p.1.length k <;> rfl
  cases h : rd q ρ2 with
  | none =>
    unfold wp
    dsimp only
    rw [h]
    rfl
  | some d => cases d with
    | int k =>
      refine Eq.trans ?_ (key k)
      unfold wp
      dsimp only
      rw [h]
    | _ =>
      unfold wp
      dsimp only
      rw [h]
      rfl
@[simp] theorem wp_sSetSl {i : Nat} : wp (sSetSl i fa fb fc) ρ Po E = wp fa ρ (fun r ρ1 => optP (ownL ρ1[i]?) fun _ => wp fb ρ1 (fun q ρ2 => wp fc ρ2 (fun q' ρ3 => optP (slSt r (rd q ρ3) (rd q' ρ3) (ownL ρ3[i]?)) fun z => Po .nx (ρ3.set i (.own (.lst z.1) z.2))) E) E) E := by
  unfold sSetSl
  simp only [wp_bind]
  congr 1
  funext r ρ1
  rw [wp_opt (o := fun ρ => ownL ρ[i]?) (f := fun _ => EM.bind fb _)]
  congr 1
  funext _
  rw [wp_bind]
  congr 1
  funext q ρ2
  rw [wp_bind]
  congr 1
  funext q' ρ3
  unfold wp
  try dsimp only
  cases slSt r (rd q ρ3) (rd q' ρ3) (ownL ρ3[i]?) <;> rfl
/-! slices, texts -/
@[simp] theorem wp_pNone {Pq : Option Int → En → Prop} : wp pNone ρ Pq E = Pq none ρ := rfl
@[simp] theorem wp_pSome {Pq : Option Int → En → Prop} : wp (pSome fa) ρ Pq E = wp fa ρ (fun r ρ1 => match rd r ρ1 with | some (.int i) => Pq (some i) ρ1 | _ => False) E := by
  unfold pSome
  simp only [wp_bind]
  congr 1
  funext r ρ1
  unfold wp
  try dsimp only
  cases h : rd r ρ1 with
  | none => rfl
  | some d => cases d <;> rfl
@[simp] theorem wp_eSl {fl fh : EM (Option Int)} : wp (eSl fa fl fh) ρ P E = wp fa ρ (fun x ρ1 => wp fl ρ1 (fun l ρ2 => wp fh ρ2 (fun h ρ3 => optP ((rd x ρ3).bind fun d => gCut d l h) fun z => P z.r ρ3) E) E) E := by
  unfold eSl
  simp only [wp_bind]
  congr 1
  funext x ρ1
  congr 1
  funext l ρ2
  congr 1
  funext h ρ3
  exact wp_mapO (o := fun ρ => (rd x ρ).bind fun d => gCut d l h) (g := Got.r)
@[simp] theorem wp_eS1 {g : Str → D → Option Got} : wp (eS1 g fa fb) ρ P E = wp fa ρ (fun x ρ1 => optP (strR x ρ1) fun a => wp fb ρ1 (fun y ρ2 => optP ((rd y ρ2).bind (g a)) fun z => P z.r ρ2) E) E := by
  unfold eS1
  simp only [wp_bind]
  congr 1
  funext x ρ1
  rw [wp_opt (o := fun ρ => strR x ρ) (f := fun a => e1 (g a) fb)]
  congr 1
  funext a
  rw [wp_e1]
end
/-! ### loops -/
section
variable {Po : Out → En → Prop} {P : R → En → Prop} {E : Exc → En → Prop} {ρ : En}
def srcP (K : Src → Prop) (o : Option Src) : Prop := optP o K
@[simp] theorem wp_srcAny {f : EM R} {Ps : Src → En → Prop} : wp (srcAny f) ρ Ps E = wp f ρ (fun r ρ1 => optP (srcOf r ρ1 (rd r ρ1)) fun s => Ps s ρ1) E := by
  unfold srcAny
  simp only [wp_bind]
  congr 1
  funext r ρ1
  exact wp_mapO (o := fun ρ => srcOf r ρ (rd r ρ)) (g := id)
@[simp] theorem wp_srcR1 {f : EM R} {Ps : Src → En → Prop} : wp (srcR1 f) ρ Ps E = wp f ρ (fun r ρ1 => optP (sR1 (rd r ρ1)) fun s => Ps s ρ1) E := by
  unfold srcR1
  simp only [wp_bind]
  congr 1
  funext r ρ1
  exact wp_mapO (o := fun ρ => sR1 (rd r ρ)) (g := id)
@[simp] theorem wp_srcR2 {f g : EM R} {Ps : Src → En → Prop} : wp (srcR2 f g) ρ Ps E = wp f ρ (fun r ρ1 => wp g ρ1 (fun q ρ2 => optP (sR2 (rd r ρ2) (rd q ρ2)) fun s => Ps s ρ2) E) E := by
  unfold srcR2
  simp only [wp_bind]
  congr 1
  funext r ρ1
  congr 1
  funext q ρ2
  exact wp_mapO (o := fun ρ => sR2 (rd r ρ) (rd q ρ)) (g := id)
@[simp] theorem wp_srcEnum {f : EM R} {Ps : Src → En → Prop} : wp (srcEnum f) ρ Ps E = wp f ρ (fun r ρ1 => optP (sEnum (lkOf ρ1 r) (rd r ρ1)) fun s => Ps s ρ1) E := by
  unfold srcEnum
  simp only [wp_bind]
  congr 1
  funext r ρ1
  exact wp_mapO (o := fun ρ => sEnum (lkOf ρ r) (rd r ρ)) (g := id)
@[simp] theorem wp_srcZip {f g : EM R} {Ps : Src → En → Prop} : wp (srcZip f g) ρ Ps E = wp f ρ (fun r ρ1 => wp g ρ1 (fun q ρ2 => optP (sZip (lkOf ρ2 r ++ lkOf ρ2 q) (rd r ρ2) (rd q ρ2)) fun s => Ps s ρ2) E) E := by
  unfold srcZip
  simp only [wp_bind]
  congr 1
  funext r ρ1
  congr 1
  funext q ρ2
  exact wp_mapO (o := fun ρ => sZip (lkOf ρ r ++ lkOf ρ q) (rd r ρ) (rd q ρ)) (g := id)
@[simp] theorem wp_sFor {src : EM Src} {tm : D → En → Option En} {body : EM Out} : wp (sFor src tm body) ρ Po E = wp src ρ (fun s ρ1 => wp (runFor tm body s.1) (lockE ρ1 s.2) (fun o ρ2 => Po o (freeE ρ1 ρ2 s.2)) (fun e ρ2 => E e (freeE ρ1 ρ2 s.2))) E := by
  unfold sFor
  simp only [wp_bind]
  congr 1
  funext s ρ1
  unfold wp
  try dsimp only
  cases h : runFor tm body s.1 (lockE ρ1 s.2) with
  | none => rfl
  | some z => rcases z with ⟨z | z, ρ2⟩ <;> rfl
def turnP (I : List D → En → Prop) (ds : List D) (Po : Out → En → Prop) (ρ : En) : Out → Prop
  | .nx => I ds ρ
  | .ct => I ds ρ
  | .bk => Po .nx ρ
  | .rt r => Po (.rt r) ρ
/-- a loop by an invariant over what is left -/
theorem wp_runFor {tm : D → En → Option En} {body : EM Out} (I : List D → En → Prop) (h1 : ∀ d ds ρ, I (d :: ds) ρ → optP (tm d ρ) fun ρ1 => wp body ρ1 (fun o ρ2 => turnP I ds Po ρ2 o) E) (h0 : ∀ ρ, I [] ρ → Po .nx ρ) :
    ∀ (ds : List D) (ρ : En), I ds ρ → wp (runFor tm body ds) ρ Po E
  | [], ρ, hI => h0 ρ hI
  | d :: ds, ρ, hI => by
    have q := h1 d ds ρ hI
    unfold wp
    try dsimp only
    show resP Po E ((tm d ρ).bind fun ρ1 => (body ρ1).bind (turnOut (runFor tm body ds)))
    cases ht : tm d ρ with
    | none =>
      rw [ht] at q
      exact q
    | some ρ1 =>
      rw [ht] at q
      have q : wp body ρ1 (fun o ρ2 => turnP I ds Po ρ2 o) E := q
      unfold wp at q
      try dsimp only
      simp only [Option.bind_some]
      cases hb : body ρ1 with
      | none =>
        rw [hb] at q
        exact q
      | some z =>
        rw [hb] at q
        rcases z with ⟨z | o, ρ2⟩
        · exact q
        · cases o with
          | nx => exact wp_runFor I h1 h0 ds ρ2 q
          | ct => exact wp_runFor I h1 h0 ds ρ2 q
          | bk => exact q
          | rt r => exact q
/-- a comprehension by an invariant over what is left and what is there -/
def lcP (I : List D → List D → En → Prop) (ds acc : List D) (ρ : En) (vs : List Nat) (o : Option D) (ρ2 : En) : Prop := match o with
  | some e => acc.length < sizeLine ∧ I ds (acc ++ [e]) (backE ρ ρ2 vs)
  | none => I ds acc (backE ρ ρ2 vs)
theorem wp_runLc {tm : D → En → Option En} {c : EM Bool} {elt : EM R} {vs : List Nat} {Pl : List D → En → Prop} (I : List D → List D → En → Prop)
    (h1 : ∀ d ds acc ρ, I (d :: ds) acc ρ → optP (tm d (wipeE ρ vs)) fun ρ1 => wp (lcTurn c elt) ρ1 (fun o ρ2 => lcP I ds acc ρ vs o ρ2) fun _ _ => False) (h0 : ∀ acc ρ, I [] acc ρ → Pl acc ρ) :
    ∀ (ds acc : List D) (ρ : En), I ds acc ρ → wp (runLc tm c elt vs ds acc) ρ Pl E
  | [], acc, ρ, hI => h0 acc ρ hI
  | d :: ds, acc, ρ, hI => by
    have q := h1 d ds acc ρ hI
    unfold wp
    try dsimp only
    show resP Pl E ((tm d (wipeE ρ vs)).bind fun ρ1 => (lcTurn c elt ρ1).bind (lcOut (runLc tm c elt vs ds) acc ρ vs))
    cases ht : tm d (wipeE ρ vs) with
    | none =>
      rw [ht] at q
      exact q
    | some ρ1 =>
      rw [ht] at q
      have q : wp (lcTurn c elt) ρ1 (fun o ρ2 => lcP I ds acc ρ vs o ρ2) (fun _ _ => False) := q
      unfold wp at q
      try dsimp only
      simp only [Option.bind_some]
      cases hb : lcTurn c elt ρ1 with
      | none =>
        rw [hb] at q
        exact q
      | some z =>
        rw [hb] at q
        rcases z with ⟨z | o, ρ2⟩
        · exact q.elim
        · cases o with
          | none => exact wp_runLc I h1 h0 ds acc _ q
          | some e =>
            obtain ⟨q1, q2⟩ := q
            have r := wp_runLc I h1 h0 ds (acc ++ [e]) _ q2
            simp only [Option.bind_some, lcOut, if_pos q1]
            exact r
@[simp] theorem wp_lcTurn {c : EM Bool} {elt : EM R} {Pq : Option D → En → Prop} : wp (lcTurn c elt) ρ Pq E = wp c ρ (fun k ρ1 => if k = true then wp elt ρ1 (fun r ρ2 => fzR (fun d ρ3 => Pq (some d) ρ3) ρ2 r) E else Pq none ρ1) E := by
  unfold lcTurn
  simp only [wp_bind, wp_ite, wp_pure, wp_fz]
@[simp] theorem wp_eLc {src : EM Src} {tm : D → En → Option En} {c : EM Bool} {elt : EM R} {vs : List Nat} : wp (eLc src tm c elt vs) ρ P E = wp src ρ (fun s ρ1 => if noOwn ρ1 vs = true then wp (runLc tm c elt vs s.1 []) (lockE ρ1 s.2) (fun acc ρ2 => P (.fr (.lst acc)) (freeE ρ1 ρ2 s.2)) (fun _ _ => False) else False) E := by
  unfold eLc
  simp only [wp_bind]
  congr 1
  funext s ρ1
  unfold wp
  try dsimp only
  split
  · cases h : runLc tm c elt vs s.1 [] (lockE ρ1 s.2) with
    | none => rfl
    | some z => rcases z with ⟨z | z, ρ2⟩ <;> rfl
  · rfl
@[simp] theorem wp_sTry {cl : List Str} {isa : Str → Str → Bool} {f : EM Out} {hs : List Hd} : wp (sTry cl isa f hs) ρ Po E = wp f ρ Po (fun e ρ1 => if cl.contains e.cls = true then wp (handle isa e hs) ρ1 Po E else False) := by
  unfold sTry wp
  try dsimp only
  cases f ρ with
  | none => rfl
  | some z =>
    rcases z with ⟨e | o, ρ1⟩
    · show resP Po E (if cl.contains e.cls = true then handle isa e hs ρ1 else none) = (if cl.contains e.cls = true then resP Po E (handle isa e hs ρ1) else False)
      split <;> rfl
    · cases o <;> rfl
end

/-! ### evaluation -/
section
variable {α : Type} {ρ : En} {P : R → En → Prop} {d d' : D} {m : M} {o : Ow} {i : Nat}
@[simp] theorem optP_none {K : α → Prop} : optP (none : Option α) K = False := rfl
@[simp] theorem vrP_val : vrP ρ i P (some (.val d)) = P (.val d) ρ := rfl
@[simp] theorem vrP_own : vrP ρ i P (some (.own m o)) = P (.loc i) ρ := rfl
@[simp] theorem rd_val : rd (.val d) ρ = some d := rfl
@[simp] theorem rd_fr : rd (.fr m) ρ = some m.d := rfl
@[simp] theorem rd_loc : rd (.loc i) ρ = dSlot ρ[i]? := rfl
@[simp] theorem dSlot_val : dSlot (some (.val d)) = some d := rfl
@[simp] theorem dSlot_own : dSlot (some (.own m o)) = some m.d := rfl
@[simp] theorem M_lst {xs : List D} : M.d (.lst xs) = .list xs := rfl
@[simp] theorem opt2_some {g : D → D → Option Got} : opt2 (some d) (some d') g = g d d' := rfl
@[simp] theorem Got_v : Got.r (.v d) = .val d := rfl
@[simp] theorem Got_l {ds : List D} : Got.r (.l ds) = .fr (.lst ds) := rfl
@[simp] theorem bP_val {Pb : Bool → En → Prop} {k : Bool} : bP Pb ρ (.val (.bool k)) = Pb k ρ := rfl
@[simp] theorem nxP_nx {g : EM Out} {Po : Out → En → Prop} {E : Exc → En → Prop} : nxP g Po E ρ .nx = wp g ρ Po E := rfl
@[simp] theorem nxP_rt {g : EM Out} {Po : Out → En → Prop} {E : Exc → En → Prop} {r : R} : nxP g Po E ρ (.rt r) = Po (.rt r) ρ := rfl
@[simp] theorem nxP_bk {g : EM Out} {Po : Out → En → Prop} {E : Exc → En → Prop} : nxP g Po E ρ .bk = Po .bk ρ := rfl
@[simp] theorem nxP_ct {g : EM Out} {Po : Out → En → Prop} {E : Exc → En → Prop} : nxP g Po E ρ .ct = Po .ct ρ := rfl
@[simp] theorem fzR_val {K : D → En → Prop} : fzR K ρ (.val d) = K d ρ := rfl
@[simp] theorem fzR_fr {K : D → En → Prop} : fzR K ρ (.fr m) = K m.d ρ := rfl
@[simp] theorem fzR_loc {K : D → En → Prop} : fzR K ρ (.loc i) = fzP ρ i K ρ[i]? := rfl
@[simp] theorem fzP_val {K : D → En → Prop} : fzP ρ i K (some (.val d)) = K d ρ := rfl
@[simp] theorem fzP_own {K : D → En → Prop} : fzP ρ i K (some (.own m .loc)) = K m.d (ρ.set i (.val m.d)) := rfl
@[simp] theorem fzA_nil {K : List D → En → Prop} : fzA K [] ρ = K [] ρ := rfl
@[simp] theorem fzA_cons {K : List D → En → Prop} {r : R} {rs : List R} : fzA K (r :: rs) ρ = fzR (fun d ρ1 => fzA (fun ds ρ2 => K (d :: ds) ρ2) rs ρ1) ρ r := rfl
@[simp] theorem stP_val {K : En → Prop} : stP i K ρ (.val d) = if pinned ρ i = true then False else K (ρ.set i (.val d)) := rfl
@[simp] theorem stP_fr {K : En → Prop} : stP i K ρ (.fr m) = if pinned ρ i = true then False else K (ρ.set i (.own m .loc)) := rfl
@[simp] theorem stP_loc {K : En → Prop} {j : Nat} : stP i K ρ (.loc j) = fzP ρ j (fun d ρ1 => if pinned ρ1 i = true then False else K (ρ1.set i (.val d))) ρ[j]? := rfl
def pinS : Option Slot → Bool
  | some (.own _ .bor) => true
  | some (.own _ .lck) => true
  | none => true
  | _ => false
@[simp] theorem pinned_eq : pinned ρ i = pinS ρ[i]? := rfl
@[simp] theorem pinS_val : pinS (some (.val d)) = false := rfl
@[simp] theorem pinS_unb : pinS (some .unb) = false := rfl
@[simp] theorem pinS_loc : pinS (some (.own m .loc)) = false := rfl
@[simp] theorem pinS_bor : pinS (some (.own m .bor)) = true := rfl
@[simp] theorem outP_val {K : R → Prop} : outP K (.val d) = K (.val d) := rfl
@[simp] theorem outP_fr {K : R → Prop} : outP K (.fr m) = K (.fr m) := rfl
@[simp] theorem argsOf_nil : argsOf ρ [] = some [] := rfl
@[simp] theorem argsOf_cons {r : R} {rs : List R} : argsOf ρ (r :: rs) = (argOf ρ r).bind fun s => (argsOf ρ rs).map (s :: ·) := rfl
@[simp] theorem argOf_val : argOf ρ (.val d) = some (.val d) := rfl
@[simp] theorem argOf_fr : argOf ρ (.fr m) = some (.val m.d) := rfl
@[simp] theorem argOf_loc : argOf ρ (.loc i) = argSlot ρ[i]? := rfl
@[simp] theorem argSlot_val : argSlot (some (.val d)) = some (.val d) := rfl
@[simp] theorem argSlot_own : argSlot (some (.own m o)) = some (.own m (bOw o)) := rfl
@[simp] theorem bOw_loc : bOw .loc = .bor := rfl
@[simp] theorem bOw_bor : bOw .bor = .bor := rfl
@[simp] theorem locs_nil : locs [] = [] := rfl
@[simp] theorem locs_val {rs : List R} : locs (.val d :: rs) = locs rs := rfl
@[simp] theorem locs_fr {rs : List R} : locs (.fr m :: rs) = locs rs := rfl
@[simp] theorem locs_loc {rs : List R} : locs (.loc i :: rs) = i :: locs rs := rfl
@[simp] theorem putBack_nil {ss : En} : putBack ρ [] ss = ρ := by cases ss <;> rfl
@[simp] theorem putBack_val {rs : List R} {s : Slot} {ss : En} : putBack ρ (.val d :: rs) (s :: ss) = putBack ρ rs ss := rfl
@[simp] theorem putBack_fr {rs : List R} {s : Slot} {ss : En} : putBack ρ (.fr m :: rs) (s :: ss) = putBack ρ rs ss := rfl
@[simp] theorem putBack_own {rs : List R} {ss : En} : putBack ρ (.loc i :: rs) (.own m o :: ss) = putBack (putSlot ρ i m ρ[i]?) rs ss := rfl
@[simp] theorem putSlot_own {m' : M} : putSlot ρ i m (some (.own m' o)) = ρ.set i (.own m o) := rfl
@[simp] theorem finArgs_nil {s : En} : finArgs [] s = [] := rfl
@[simp] theorem finArgs_val {a s : En} {t : Slot} : finArgs (.val d :: a) (t :: s) = .val d :: finArgs a s := rfl
@[simp] theorem finArgs_own {a s : En} {t : Slot} : finArgs (.own m o :: a) (t :: s) = t :: finArgs a s := rfl
@[simp] theorem argOk_val : argOk (.val d) = true := rfl
@[simp] theorem argOk_bor : argOk (.own m .bor) = true := rfl
@[simp] theorem retP_nx {args : En} {K : R → En → Prop} : retP args K ρ .nx = K (.val .none) (finArgs args ρ) := rfl
@[simp] theorem retP_val {args : En} {K : R → En → Prop} : retP args K ρ (.rt (.val d)) = K (.val d) (finArgs args ρ) := rfl
@[simp] theorem retP_fr {args : En} {K : R → En → Prop} : retP args K ρ (.rt (.fr m)) = K (.fr m) (finArgs args ρ) := rfl
@[simp] theorem retP_loc {args : En} {K : R → En → Prop} : retP args K ρ (.rt (.loc i)) = retS args K ρ ρ[i]? := rfl
@[simp] theorem retS_own {args : En} {K : R → En → Prop} : retS args K ρ (some (.own m .loc)) = K (.fr m) (finArgs args ρ) := rfl
@[simp] theorem retS_val {args : En} {K : R → En → Prop} : retS args K ρ (some (.val d)) = K (.val d) (finArgs args ρ) := rfl
@[simp] theorem ownL_loc {xs : List D} : ownL (some (.own (.lst xs) .loc)) = some (xs, .loc) := rfl
@[simp] theorem ownL_bor {xs : List D} : ownL (some (.own (.lst xs) .bor)) = some (xs, .bor) := rfl
@[simp] theorem strR_eq {r : R} : strR r ρ = (rd r ρ).bind fun d => match d with | .str a => some a | _ => none := by
  unfold strR
  cases rd r ρ with
  | none => rfl
  | some d => cases d <;> rfl
@[simp] theorem turnP_nx {I : List D → En → Prop} {ds : List D} {Po : Out → En → Prop} : turnP I ds Po ρ .nx = I ds ρ := rfl
@[simp] theorem turnP_ct {I : List D → En → Prop} {ds : List D} {Po : Out → En → Prop} : turnP I ds Po ρ .ct = I ds ρ := rfl
@[simp] theorem turnP_bk {I : List D → En → Prop} {ds : List D} {Po : Out → En → Prop} : turnP I ds Po ρ .bk = Po .nx ρ := rfl
@[simp] theorem turnP_rt {I : List D → En → Prop} {ds : List D} {Po : Out → En → Prop} {r : R} : turnP I ds Po ρ (.rt r) = Po (.rt r) ρ := rfl
@[simp] theorem stVal_eq : stVal i d ρ = if pinned ρ i = true then none else some (ρ.set i (.val d)) := rfl
@[simp] theorem stVals_nil : stVals [] [] ρ = some ρ := rfl
@[simp] theorem stVals_cons {j : Nat} {js : List Nat} {ds : List D} : stVals (j :: js) (d :: ds) ρ = (stVal j d ρ).bind (stVals js ds) := rfl
@[simp] theorem stTup_eq {js : List Nat} {ds : List D} : stTup js (.tuple ds) ρ = stVals js ds ρ := rfl
@[simp] theorem lockE_nil : lockE ρ [] = ρ := rfl
@[simp] theorem lockE_cons {is : List Nat} : lockE ρ (i :: is) = lockE (lockOne ρ i ρ[i]?) is := rfl
@[simp] theorem lockOne_own : lockOne ρ i (some (.own m o)) = ρ.set i (.own m .lck) := rfl
@[simp] theorem freeE_nil {ρ0 : En} : freeE ρ0 ρ [] = ρ := rfl
@[simp] theorem freeE_cons {ρ0 : En} {is : List Nat} : freeE ρ0 ρ (i :: is) = freeE ρ0 (freeOne ρ i ρ0[i]? ρ[i]?) is := rfl
@[simp] theorem freeOne_own {m' : M} {o' : Ow} : freeOne ρ i (some (.own m o)) (some (.own m' o')) = ρ.set i (.own m' o) := rfl
@[simp] theorem lkOf_val : lkOf ρ (.val d) = [] := rfl
@[simp] theorem lkOf_fr : lkOf ρ (.fr m) = [] := rfl
@[simp] theorem lkOf_loc : lkOf ρ (.loc i) = lkSlot i ρ[i]? := rfl
@[simp] theorem lkSlot_own : lkSlot i (some (.own m o)) = [i] := rfl
@[simp] theorem lkSlot_val : lkSlot i (some (.val d)) = [] := rfl
@[simp] theorem srcOf_list {r : R} {ds : List D} : srcOf r ρ (some (.list ds)) = some (ds, lkOf ρ r) := rfl
@[simp] theorem srcOf_tuple {r : R} {ds : List D} : srcOf r ρ (some (.tuple ds)) = some (ds, []) := rfl
@[simp] theorem srcOf_str {r : R} {z : Str} : srcOf r ρ (some (.str z)) = some (chars z, []) := rfl
@[simp] theorem sR1_int {j : Int} : sR1 (some (.int j)) = if -(2 ^ 62) ≤ j ∧ j < 2 ^ 62 then some (rngD 0 j.toNat, []) else none := rfl
@[simp] theorem sEnum_list {l : List Nat} {ds : List D} : sEnum l (some (.list ds)) = some (enumD ds, l) := rfl
@[simp] theorem wipeE_nil : wipeE ρ [] = ρ := rfl
@[simp] theorem wipeE_cons {v : Nat} {vs : List Nat} : wipeE ρ (v :: vs) = (wipeE ρ vs).set v .unb := rfl
@[simp] theorem backE_nil {ρ0 : En} : backE ρ0 ρ [] = ρ := rfl
@[simp] theorem backE_cons {ρ0 : En} {v : Nat} {vs : List Nat} : backE ρ0 ρ (v :: vs) = backOne (backE ρ0 ρ vs) v ρ0[v]? := rfl
@[simp] theorem backOne_some {s : Slot} {v : Nat} : backOne ρ v (some s) = ρ.set v s := rfl
@[simp] theorem noOwn_nil : noOwn ρ [] = true := rfl
@[simp] theorem noOwn_cons {v : Nat} {vs : List Nat} : noOwn ρ (v :: vs) = (!isOwn ρ[v]? && noOwn ρ vs) := rfl
@[simp] theorem isOwn_unb : isOwn (some .unb) = false := rfl
@[simp] theorem isOwn_val : isOwn (some (.val d)) = false := rfl
@[simp] theorem lcP_some {I : List D → List D → En → Prop} {ds acc : List D} {vs : List Nat} {e : D} {ρ2 : En} : lcP I ds acc ρ vs (some e) ρ2 = (acc.length < sizeLine ∧ I ds (acc ++ [e]) (backE ρ ρ2 vs)) := rfl
@[simp] theorem lcP_none {I : List D → List D → En → Prop} {ds acc : List D} {vs : List Nat} {ρ2 : En} : lcP I ds acc ρ vs none ρ2 = I ds acc (backE ρ ρ2 vs) := rfl
/-! operations -/
@[simp] theorem gAdd_int {i j : Int} : gAdd (.int i) (.int j) = some (.v (.int (i + j))) := rfl
@[simp] theorem gSub_int {i j : Int} : gSub (.int i) (.int j) = some (.v (.int (i - j))) := rfl
@[simp] theorem gMul_int {i j : Int} : gMul (.int i) (.int j) = if (-(2 ^ 64) < i ∧ i < 2 ^ 64) ∨ (-(2 ^ 64) < j ∧ j < 2 ^ 64) then some (.v (.int (i * j))) else none := rfl
@[simp] theorem gMod_int {i j : Int} : gMod (.int i) (.int j) = if 0 < j then some (.v (.int (i % j))) else none := by
  show (if 0 < j then some (i % j) else none).map (fun k => Got.v (.int k)) = _
  split <;> rfl
@[simp] theorem gDiv_int {i j : Int} : gDiv (.int i) (.int j) = if 0 < j ∧ j < 1073741824 then some (.v (.int (i / j))) else none := by
  show (if 0 < j ∧ j < 1073741824 then some (i / j) else none).map (fun k => Got.v (.int k)) = _
  split <;> rfl
@[simp] theorem gPow_int {i j : Int} : gPow (.int i) (.int j) = if 0 ≤ j ∧ j ≤ 1000000 ∧ i.natAbs < 2 ^ 64 then some (.v (.int (i ^ j.toNat))) else none := by
  show (if 0 ≤ j ∧ j ≤ 1000000 ∧ i.natAbs < 2 ^ 64 then some (i ^ j.toNat) else none).map (fun k => Got.v (.int k)) = _
  split <;> rfl
@[simp] theorem gInt_int {i : Int} : gInt (.int i) = some (.v (.int i)) := rfl
@[simp] theorem gNeg_int {i : Int} : gNeg (.int i) = some (.v (.int (-i))) := rfl
@[simp] theorem gLt_int {i j : Int} : gLt (.int i) (.int j) = some (.v (.bool (decide (i < j)))) := rfl
@[simp] theorem gLe_int {i j : Int} : gLe (.int i) (.int j) = some (.v (.bool (decide (i ≤ j)))) := rfl
@[simp] theorem gGt_int {i j : Int} : gGt (.int i) (.int j) = some (.v (.bool (decide (j < i)))) := rfl
@[simp] theorem gGe_int {i j : Int} : gGe (.int i) (.int j) = some (.v (.bool (decide (j ≤ i)))) := rfl
@[simp] theorem gB_bool {k : Bool} : gB (some (.v (.bool k))) = some k := rfl
@[simp] theorem gTru_bool {k : Bool} : gTru (.bool k) = some k := rfl
@[simp] theorem gLen_list {ds : List D} : gLen (.list ds) = some (.v (.int ds.length)) := rfl
@[simp] theorem gLen_tuple {ds : List D} : gLen (.tuple ds) = some (.v (.int ds.length)) := rfl
@[simp] theorem gLen_str {y : Str} : gLen (.str y) = if y.length ≤ sizeLine then some (.v (.int y.length)) else none := rfl
@[simp] theorem gIx_list {ds : List D} {i : Int} : gIx (.list ds) (.int i) = (atI ds i).map .v := rfl
@[simp] theorem gIx_tuple {ds : List D} {i : Int} : gIx (.tuple ds) (.int i) = (atI ds i).map .v := rfl
@[simp] theorem gListU_list {ds : List D} : gListU (.list ds) = some (.l ds) := rfl
@[simp] theorem gListU_tuple {ds : List D} : gListU (.tuple ds) = some (.l ds) := rfl
@[simp] theorem gListU_str {x : Str} : gListU (.str x) = if x.cps.size ≤ sizeLine then some (.l ((signsOf x).map .str)) else none := rfl
@[simp] theorem gTuple_list {ds : List D} : gTuple (.list ds) = some (.v (.tuple ds)) := rfl
@[simp] theorem gTuple_tuple {ds : List D} : gTuple (.tuple ds) = some (.v (.tuple ds)) := rfl
@[simp] theorem g2R_eq' {g : D → D → Option Got} {x y : R} : g2R g x y ρ = opt2 (rd x ρ) (rd y ρ) g := g2R_eq
theorem ixN_nat {n k : Nat} (h : k < n) : ixN n (k : Int) = some k := by
  unfold ixN
  rw [if_pos (by omega), if_pos (by omega)]
  rfl
theorem atI_nat {β : Type} {ds : List β} {k : Nat} (h : k < ds.length) : atI ds (k : Int) = ds[k]? := by
  unfold atI
  rw [ixN_nat h]
  rfl
@[simp] theorem ixN_0 {n : Nat} : ixN (n + 1) 0 = some 0 := ixN_nat (k := 0) (by omega)
@[simp] theorem ixN_1 {n : Nat} : ixN (n + 2) 1 = some 1 := ixN_nat (k := 1) (by omega)
@[simp] theorem ixN_2 {n : Nat} : ixN (n + 3) 2 = some 2 := ixN_nat (k := 2) (by omega)
@[simp] theorem ixN_3 {n : Nat} : ixN (n + 4) 3 = some 3 := ixN_nat (k := 3) (by omega)
@[simp] theorem atI_0 {β : Type} {a : β} {l : List β} : atI (a :: l) 0 = some a := atI_nat (ds := a :: l) (k := 0) (by simp)
@[simp] theorem atI_1 {β : Type} {a b : β} {l : List β} : atI (a :: b :: l) 1 = some b := atI_nat (ds := a :: b :: l) (k := 1) (by simp)
@[simp] theorem atI_2 {β : Type} {a b c : β} {l : List β} : atI (a :: b :: c :: l) 2 = some c := atI_nat (ds := a :: b :: c :: l) (k := 2) (by simp)
@[simp] theorem atI_3 {β : Type} {a b c e : β} {l : List β} : atI (a :: b :: c :: e :: l) 3 = some e := atI_nat (ds := a :: b :: c :: e :: l) (k := 3) (by simp)
@[simp] theorem gIsi_none {T : String} : gIsi T .none = some (.v (.bool (isTy "NoneType" T))) := rfl
@[simp] theorem gIsi_bool {T : String} {b : Bool} : gIsi T (.bool b) = some (.v (.bool (isTy "bool" T))) := rfl
@[simp] theorem gIsi_int {T : String} {b : Int} : gIsi T (.int b) = some (.v (.bool (isTy "int" T))) := rfl
@[simp] theorem gIsi_str {T : String} {b : Str} : gIsi T (.str b) = some (.v (.bool (isTy "str" T))) := rfl
@[simp] theorem gIsi_list {T : String} {b : List D} : gIsi T (.list b) = some (.v (.bool (isTy "list" T))) := rfl
@[simp] theorem gIsi_tuple {T : String} {b : List D} : gIsi T (.tuple b) = some (.v (.bool (isTy "tuple" T))) := rfl
@[simp] theorem gEq_bool {a b : Bool} : gEq (.bool a) (.bool b) = some (.v (.bool (a == b))) := by
  unfold gEq
  rw [if_pos ⟨rfl, rfl⟩, PyData.eqv]
@[simp] theorem gEq_int {a b : Int} : gEq (.int a) (.int b) = some (.v (.bool (a == b))) := by
  unfold gEq
  rw [if_pos ⟨rfl, rfl⟩, PyData.eqv]
theorem gEq_of {a b : D} (ha : SeqAt.shaped a = true) (hb : SeqAt.shaped b = true) : gEq a b = some (.v (.bool (PyData.eqv a b))) := if_pos ⟨ha, hb⟩
theorem gNe_of {a b : D} (ha : SeqAt.shaped a = true) (hb : SeqAt.shaped b = true) : gNe a b = some (.v (.bool (!PyData.eqv a b))) := if_pos ⟨ha, hb⟩
theorem shaped_str {x : Str} (h : PyData.strOk x = true) : SeqAt.shaped (.str x) = true := by
  unfold SeqAt.shaped
  rw [PyData.canLay0, h]
  rfl
theorem shaped_strs {xs : List Str} (h : ∀ x ∈ xs, PyData.strOk x = true) : SeqAt.shaped (.list (xs.map .str)) = true := by
  have h1 : PyData.canLayAll0 (xs.map .str) = true := by
    induction xs with
    | nil => rfl
    | cons x xs ih =>
      rw [List.map_cons, PyData.canLayAll0, PyData.canLay0, h x List.mem_cons_self, ih fun y hy => h y (List.mem_cons_of_mem _ hy)]
      rfl
  have h2 : PyData.depthAll (xs.map .str) = 0 := by
    clear h1 h
    induction xs with
    | nil => rfl
    | cons x xs ih =>
      rw [List.map_cons, PyData.depthAll, PyData.depth, ih]
      rfl
  unfold SeqAt.shaped
  rw [PyData.canLay0, h1, PyData.depth, h2]
  rfl
theorem eqvAll_strs : ∀ xs ys : List Str, PyData.eqvAll (xs.map .str) (ys.map .str) = (xs == ys)
  | [], [] => by simp [PyData.eqvAll]
  | [], _ :: _ => by simp [PyData.eqvAll]
  | _ :: _, [] => by simp [PyData.eqvAll]
  | x :: xs, y :: ys => by
    rw [List.map_cons, List.map_cons, PyData.eqvAll, PyData.eqv, eqvAll_strs xs ys]
    simp
theorem eqvAll_nil : ∀ xs : List D, PyData.eqvAll xs [] = xs.isEmpty
  | [] => by simp [PyData.eqvAll]
  | _ :: _ => by simp [PyData.eqvAll]
@[simp] theorem gLen_scr {ns : List Int} : gLen (scr ns) = some (.v (.int ns.length)) := by
  show some (Got.v (.int ((ns.map PyData.int).length : Int))) = _
  rw [List.length_map]
theorem gIx_scr {ns : List Int} {k : Nat} (h : k < ns.length) : gIx (scr ns) (.int k) = some (.v (.int ns[k])) := by
  show (atI (ns.map PyData.int) (k : Int)).bind (fun u => match u with | .int n => some (Got.v (.int n)) | _ => none) = _
  rw [atI_nat (by rw [List.length_map]; exact h), List.getElem?_map, List.getElem?_eq_getElem h]
  rfl
@[simp] theorem gAdd_list {a b : List D} : gAdd (.list a) (.list b) = if a.length + b.length ≤ sizeLine then some (.l (a ++ b)) else none := by
  first | rfl | (unfold gAdd; split <;> simp_all)
@[simp] theorem gAdd_str {a b : Str} : gAdd (.str a) (.str b) = if a.length + b.length ≤ sizeLine then some (.v (.str (a ++ b))) else none := by
  first | rfl | (unfold gAdd; split <;> simp_all)
@[simp] theorem gAdd_tuple {a b : List D} : gAdd (.tuple a) (.tuple b) = if a.length + b.length ≤ sizeLine then some (.v (.tuple (a ++ b))) else none := by
  first | rfl | (unfold gAdd; split <;> simp_all)
theorem gIsi_of {T : String} {d : D} (h : isDict d = false) : gIsi T d = some (.v (.bool (isTy (tyD d) T))) := if_pos h
@[simp] theorem gAdd_bi {a : Bool} {i : Int} : gAdd (.bool a) (.int i) = some (.v (.int (b2i a + i))) := rfl
@[simp] theorem gPopAt_eq {i : Int} {xs : List D} : gPopAt [.int i] xs = if 0 ≤ i ∧ i < xs.length ∧ i < 2 ^ 63 then (xs[i.toNat]?).map fun d => (xs.eraseIdx i.toNat, d) else none := rfl
@[simp] theorem gInsert_eq {i : Int} {d : D} {xs : List D} : gInsert [.int i, d] xs = if xs.length < sizeLine ∧ 0 ≤ i ∧ i < 2 ^ 63 then some (xs.take i.toNat ++ [d] ++ xs.drop i.toNat, .none) else none := rfl
@[simp] theorem gAppend_eq {d : D} {xs : List D} : gAppend [d] xs = if xs.length < sizeLine then some (xs ++ [d], .none) else none := rfl
@[simp] theorem gCut_list {ds : List D} {l h : Option Int} : gCut (.list ds) l h = some (.l (cutD ds l h)) := rfl
@[simp] theorem gCut_tuple {ds : List D} {l h : Option Int} : gCut (.tuple ds) l h = some (.v (.tuple (cutD ds l h))) := rfl
@[simp] theorem gRev_list {ds : List D} : gRev (.list ds) = some (.l ds.reverse) := rfl
theorem slSt_eq {ys xs : List D} {a c : Int} {w : Ow} : slSt (.fr (.lst ys)) (some (.int a)) (some (.int c)) (some (xs, w)) = if 0 ≤ a ∧ a ≤ c ∧ a ≤ xs.length ∧ xs.length + ys.length ≤ sizeLine then some (xs.take a.toNat ++ ys ++ xs.drop (min c.toNat xs.length), w) else none := rfl
theorem cutD_nat {xs : List D} {a c : Nat} : cutD xs (some (a : Int)) (some (c : Int)) = (xs.drop (min a xs.length)).take (min c xs.length - min a xs.length) := by
  unfold cutD
  rw [HT.sIx_nat, HT.sIx_nat]
@[simp] theorem gMul_list {xs : List D} {k : Int} : gMul (.list xs) (.int k) = if -(2 ^ 63) ≤ k ∧ k < 2 ^ 63 ∧ xs.length * k.toNat ≤ sizeLine then some (.l (List.replicate k.toNat xs).flatten) else none := rfl
@[simp] theorem gMul_tuple {xs : List D} {k : Int} : gMul (.tuple xs) (.int k) = if xs.length ≠ 0 ∧ 2 ≤ k ∧ k ≤ 1000 ∧ xs.length ≤ 1000 then some (.v (.tuple (List.replicate k.toNat xs).flatten)) else none := rfl
@[simp] theorem gMul_str {a : Str} {k : Int} : gMul (.str a) (.int k) = if 0 ≤ k ∧ k ≤ 1000 ∧ a.length ≤ 1000 then some (.v (.str (Txt.mul a k))) else none := rfl
@[simp] theorem gMax2_int {i j : Int} : gMax2 (.int i) (.int j) = some (.v (.int (if j > i then j else i))) := rfl
@[simp] theorem gMin2_int {i j : Int} : gMin2 (.int i) (.int j) = some (.v (.int (if j < i then j else i))) := rfl
@[simp] theorem wp_sAsg {tm : D → En → Option En} {fa : EM R} {Po : Out → En → Prop} {E : Exc → En → Prop} : wp (sAsg tm fa) ρ Po E = wp fa ρ (fun r ρ1 => fzR (fun d ρ2 => optP (tm d ρ2) fun ρ3 => Po .nx ρ3) ρ1 r) E := by
  unfold sAsg
  simp only [wp_bind, wp_fz]
  congr 1
  funext r ρ1
  congr 1
  funext d ρ2
  unfold wp
  dsimp only
  cases tm d ρ2 <;> rfl
def partsP (K : Str → En → Prop) (E : Exc → En → Prop) : List (EM R) → Str → En → Prop
  | [], acc, ρ => K acc ρ
  | f :: fs, acc, ρ => wp f ρ (fun r ρ1 => optP (strR r ρ1) fun y => if (acc ++ y).length ≤ sizeLine then partsP K E fs (acc ++ y) ρ1 else False) E
theorem wp_fParts {E : Exc → En → Prop} : ∀ (fs : List (EM R)) (acc : Str) (ρ : En), wp (fParts fs acc) ρ P E = partsP (fun s ρ' => P (.val (.str s)) ρ') E fs acc ρ
  | [], acc, ρ => rfl
  | f :: fs, acc, ρ => by
    unfold fParts partsP
    rw [wp_bind]
    congr 1
    funext r ρ1
    refine (wp_opt (o := fun ρ => strR r ρ) (f := fun y ρ => if (acc ++ y).length ≤ sizeLine then fParts fs (acc ++ y) ρ else none)).trans ?_
    congr 1
    funext y
    have ih := wp_fParts (E := E) fs (acc ++ y) ρ1
    unfold wp at ih ⊢
    dsimp only
    split
    · exact ih
    · rfl
@[simp] theorem wp_eFs {fs : List (EM R)} {E : Exc → En → Prop} : wp (eFs fs) ρ P E = partsP (fun s ρ' => P (.val (.str s)) ρ') E fs Str.empty ρ := wp_fParts fs _ ρ
@[simp] theorem gFmt_str {y : Str} : gFmt (.str y) = if y.length ≤ sizeLine then some (.v (.str y)) else none := rfl
end
end LF
end

-- part K13P1
section
set_option Elab.async false
set_option linter.all false
set_option maxRecDepth 100000
set_option maxHeartbeats 4000000
namespace LF
open PySem PySem.Spec PyProof.Rows L2
section
variable {P : R → En → Prop} {E : Exc → En → Prop}
/-- a source of drawn numbers -/
def SrcOk (st : List D) : Prop := ∃ c s p n : Int, st = [.int c, .int s, .int p, .int n] ∧ 0 ≤ c ∧ 0 ≤ s ∧ s < 2 ^ 33 ∧ 0 < p ∧ p < 2 ^ 33 ∧ 0 ≤ n
theorem pick_spec {st : List D} {k : Int} (h : SrcOk st) (h0 : 0 < k) (h1 : k < 1073741824)
    (q : ∀ v st', SrcOk st' → 0 ≤ v → v < k → P (.val (.int v)) [.own (.lst st') .bor, .val (.int k)]) : wp f__law_pick [.own (.lst st) .bor, .val (.int k)] P E := by
  obtain ⟨c, s, p, n, rfl, hc, hs, hs2, hp, hp2, hn⟩ := h
  unfold f__law_pick bd__law_pick
  simp
  have hm := Int.emod_nonneg (s * 48271 + 7919 * (n + 1)) (Int.ne_of_gt hp)
  have hl := Int.emod_lt_of_pos (s * 48271 + 7919 * (n + 1)) hp
  split
  · rename_i hc0
    refine ⟨h0, ⟨h0, h1⟩, q _ _ ⟨_, _, _, _, rfl, Int.ediv_nonneg hc (by omega), hs, hs2, hp, hp2, hn⟩ (Int.emod_nonneg _ (by omega)) (Int.emod_lt_of_pos _ h0)⟩
  · refine ⟨hp, ⟨by omega, by omega⟩, h0, q _ _ ⟨_, _, _, _, rfl, hc, hm, by omega, hp, hp2, by omega⟩ (Int.emod_nonneg _ (by omega)) (Int.emod_lt_of_pos _ h0)⟩
theorem at_lt {β : Type} {ds : List β} {v : Int} (h0 : 0 ≤ v) (h1 : v < ds.length) : ∃ d, atI ds v = some d ∧ d ∈ ds := by
  obtain ⟨k, rfl⟩ := Int.eq_ofNat_of_zero_le h0
  have hk : k < ds.length := by omega
  exact ⟨ds[k], by rw [atI_nat hk]; exact List.getElem?_eq_getElem hk, List.getElem_mem hk⟩
def primesL : List D := [.int 2147483647, .int 2147483629, .int 2147483587, .int 2147483579, .int 2147483563, .int 2147483549, .int 2147483543, .int 2147483497]
theorem prime_at (k : Nat) : ∃ p : Int, atI primesL ((k : Int) % 8) = some (.int p) ∧ 0 < p ∧ p < 2 ^ 33 := by
  obtain ⟨d, h1, h2⟩ := at_lt (ds := primesL) (v := (k : Int) % 8) (Int.emod_nonneg _ (by omega)) (Int.emod_lt_of_pos _ (by decide))
  simp only [primesL, List.mem_cons, List.not_mem_nil, or_false] at h2
  rcases h2 with rfl | rfl | rfl | rfl | rfl | rfl | rfl | rfl <;> exact ⟨_, h1, by decide, by decide⟩
def tl_source : EM Out :=
  (sSeq (sSet 3 (eLst (aCons (eC (.int 2147483647)) (aCons (eC (.int 2147483629)) (aCons (eC (.int 2147483587)) (aCons (eC (.int 2147483579)) (aCons (eC (.int 2147483563)) (aCons (eC (.int 2147483549)) (aCons (eC (.int 2147483543)) (aCons (eC (.int 2147483497)) aNil))))))))))
  (sSeq (sSet 4 (e2 gMod (e1 gInt (e2 gMul (e2 gAdd (e2 gMod (e1 gInt (eVar 2)) (eC (.int 2147483489))) (eC (.int 1))) (e2 gAdd (eC (.int 48271)) (e2 gMul (eC (.int 2)) (eVar 1))))) (eC (.int 2147483489))))
  (sSeq (sSet 4 (e2 gAdd (e2 gAdd (e2 gMod (e1 gInt (e2 gMul (eVar 4) (eVar 4))) (eC (.int 2147483477))) (eVar 1)) (eC (.int 1))))
  (sSeq (sIf (tB (e2 gGe (eVar 2) (e2 gPow (eC (.int 10)) (eC (.int 18)))))
  (sRet (eLst (aCons (eVar 2) (aCons (eVar 4) (aCons (e2 gIx (eVar 3) (e2 gMod (e1 gInt (eVar 1)) (eC (.int 8)))) (aCons (eC (.int 0)) aNil))))))
  sNx)
  (sRet (eLst (aCons (eC (.int 0)) (aCons (eVar 4) (aCons (e2 gIx (eVar 3) (e2 gMod (e1 gInt (eVar 1)) (eC (.int 8)))) (aCons (eC (.int 0)) aNil))))))))))
theorem source_tail {Q : Out → En → Prop} {d : D} {k : Nat} (hk : k < 100) (cell : Int) (q : ∀ st a b c, SrcOk st → Q (.rt (.fr (.lst st))) [.val d, .val (.int k), a, b, c]) : wp tl_source [.val d, .val (.int k), .val (.int cell), .unb, .unb] Q E := by
  unfold tl_source
  have sl : sizeLine = 16777216 := sizeLine_eq
  obtain ⟨p, hp, p0, p1⟩ := prime_at k
  unfold primesL at hp
  have m1 : ∀ x : Int, 0 ≤ x % 2147483489 ∧ x % 2147483489 < 2147483489 := fun x => ⟨Int.emod_nonneg _ (by decide), Int.emod_lt_of_pos _ (by decide)⟩
  have m2 : ∀ x : Int, 0 ≤ x % 2147483477 ∧ x % 2147483477 < 2147483477 := fun x => ⟨Int.emod_nonneg _ (by decide), Int.emod_lt_of_pos _ (by decide)⟩
  simp [sl, hp]
  have h1 := m1 ((cell % 2147483489 + 1) * (48271 + 2 * ↑k))
  generalize (cell % 2147483489 + 1) * (48271 + 2 * (k : Int)) % 2147483489 = s1 at h1 ⊢
  have h2 := m2 (s1 * s1)
  refine ⟨.inr ⟨by omega, by omega⟩, ⟨by omega, by omega⟩, ?_⟩
  split
  · exact q _ _ _ _ ⟨_, _, _, _, rfl, by omega, by omega, by omega, p0, p1, by decide⟩
  · exact q _ _ _ _ ⟨_, _, _, _, rfl, by decide, by omega, by omega, p0, p1, by decide⟩
theorem source_head {Q : Out → En → Prop} {ns : List Int} {k : Nat} {T : EM Out} (hT : ∀ cell : Int, wp T [.val (scr ns), .val (.int k), .val (.int cell), .unb, .unb] Q E) :
    wp (sSeq (sSet 2 (eC (.int 0))) (sSeq (sIf (tB (e2 gLt (eVar 1) (e1 gLen (eVar 0)))) (sSet 2 (e2 gIx (eVar 0) (eVar 1))) sNx) T)) [.val (scr ns), .val (.int k), .unb, .unb, .unb] Q E := by
  by_cases hl : k < ns.length
  · simp [hl, gIx_scr hl]
    exact hT _
  · simp [hl]
    exact hT _
theorem source_spec {ns : List Int} {k : Nat} (hk : k < 100) (q : ∀ st, SrcOk st → P (.fr (.lst st)) [.val (scr ns), .val (.int k)]) : wp f__law_source [.val (scr ns), .val (.int k)] P E := by
  have e : bd__law_source = sSeq (sSet 2 (eC (.int 0))) (sSeq (sIf (tB (e2 gLt (eVar 1) (e1 gLen (eVar 0)))) (sSet 2 (e2 gIx (eVar 0) (eVar 1))) sNx) tl_source) := rfl
  unfold f__law_source
  rw [e, wp_defF, if_pos ⟨rfl, rfl⟩]
  exact source_head fun cell => source_tail hk cell fun st a b c h => q st h
theorem chosen_spec {st xs : List D} (h : SrcOk st) (h0 : xs ≠ []) (h1 : xs.length < 1000000) (q : ∀ d st', SrcOk st' → d ∈ xs → P (.val d) [.own (.lst st') .bor, .val (.list xs)]) : wp f__law_chosen [.own (.lst st) .bor, .val (.list xs)] P E := by
  unfold f__law_chosen bd__law_chosen
  have hp : 0 < xs.length := List.length_pos_iff.mpr h0
  simp
  refine pick_spec h (by omega) (by omega) fun v st' h' v0 v1 => ?_
  obtain ⟨d, h2, h3⟩ := at_lt v0 v1
  simp [h2]
  exact q d st' h' h3
end
end LF
end

-- part K13P2
section
set_option Elab.async false
set_option linter.all false
set_option maxRecDepth 100000
set_option maxHeartbeats 4000000
namespace LF
open PySem PySem.Spec PyProof.Rows L2
def flatOk (n : Nat) : D → Bool
  | .str x => decide (x.length ≤ n) && PyData.strOk x
  | .none | .bool _ | .int _ => true
  | _ => false
/-- data of small lists and tuples -/
def okD (n : Nat) : Nat → D → Bool
  | 0, d => flatOk n d
  | k + 1, .list ds => decide (ds.length ≤ n) && ds.all (okD n k)
  | k + 1, .tuple ds => decide (ds.length ≤ n) && ds.all (okD n k)
  | _ + 1, d => flatOk n d
theorem flatOk_mono {n n' : Nat} (h : n ≤ n') : ∀ {d : D}, flatOk n d = true → flatOk n' d = true
  | .str x, e => by
    simp only [flatOk, Bool.and_eq_true, decide_eq_true_eq] at e ⊢
    exact ⟨by omega, e.2⟩
  | .none, _ => rfl
  | .bool _, _ => rfl
  | .int _, _ => rfl
  | .list _, e => by cases e
  | .tuple _, e => by cases e
  | .dict _, e => by cases e
theorem okD_flat {n k : Nat} {d : D} (h : flatOk n d = true) : okD n k d = true := by
  cases k with
  | zero => exact h
  | succ k => cases d <;> first | exact h | cases h
theorem okD_mono {n n' : Nat} (h : n ≤ n') : ∀ {k k' : Nat} {d : D}, k ≤ k' → okD n k d = true → okD n' k' d = true
  | 0, k', d, _, e => okD_flat (flatOk_mono h e)
  | k + 1, k', d, hk, e => by
    obtain ⟨k', rfl⟩ : ∃ j, k' = j + 1 := ⟨k' - 1, by omega⟩
    cases d with
    | list ds =>
      simp only [okD, Bool.and_eq_true, decide_eq_true_eq, List.all_eq_true] at e ⊢
      exact ⟨by omega, fun x hx => okD_mono h (by omega) (e.2 x hx)⟩
    | tuple ds =>
      simp only [okD, Bool.and_eq_true, decide_eq_true_eq, List.all_eq_true] at e ⊢
      exact ⟨by omega, fun x hx => okD_mono h (by omega) (e.2 x hx)⟩
    | _ => exact okD_flat (flatOk_mono h e)
theorem okD_lay {n : Nat} : ∀ {k : Nat} {d : D}, okD n k d = true → d.canLay0 = true ∧ d.depth ≤ k
  | 0, d, e => by
    have e : flatOk n d = true := e
    cases d with
    | str x =>
      simp only [flatOk, Bool.and_eq_true] at e
      exact ⟨by rw [PyData.canLay0]; exact e.2, by simp [PyData.depth]⟩
    | list _ => cases e
    | tuple _ => cases e
    | dict _ => cases e
    | _ => exact ⟨rfl, by simp [PyData.depth]⟩
  | k + 1, d, e => by
    have all : ∀ ds : List D, (∀ x ∈ ds, okD n k x = true) → PyData.canLayAll0 ds = true ∧ PyData.depthAll ds ≤ k := by
      intro ds
      induction ds with
      | nil => intro _; exact ⟨rfl, by simp [PyData.depthAll]⟩
      | cons x r ih =>
        intro h
        obtain ⟨h1, h2⟩ := okD_lay (h x List.mem_cons_self)
        obtain ⟨h3, h4⟩ := ih fun y hy => h y (List.mem_cons_of_mem _ hy)
        exact ⟨by rw [PyData.canLayAll0, h1, h3]; rfl, by rw [PyData.depthAll]; omega⟩
    cases d with
    | list ds =>
      simp only [okD, Bool.and_eq_true, List.all_eq_true] at e
      obtain ⟨h1, h2⟩ := all ds e.2
      exact ⟨by rw [PyData.canLay0]; exact h1, by rw [PyData.depth]; omega⟩
    | tuple ds =>
      simp only [okD, Bool.and_eq_true, List.all_eq_true] at e
      obtain ⟨h1, h2⟩ := all ds e.2
      exact ⟨by rw [PyData.canLay0]; exact h1, by rw [PyData.depth]; omega⟩
    | str x =>
      have e : flatOk n (.str x) = true := e
      simp only [flatOk, Bool.and_eq_true] at e
      exact ⟨by rw [PyData.canLay0]; exact e.2, by simp [PyData.depth]⟩
    | dict _ => cases (show flatOk n (.dict _) = true from e)
    | _ => exact ⟨rfl, by simp [PyData.depth]⟩
theorem okD_shaped {n k : Nat} {d : D} (h : okD n k d = true) (hk : k ≤ 64) : SeqAt.shaped d = true := by
  obtain ⟨h1, h2⟩ := okD_lay h
  unfold SeqAt.shaped
  rw [h1]
  simpa using by omega
def rOk (n k : Nat) : R → Prop
  | .val d => okD n k d = true
  | .fr m => okD n k m.d = true
  | .loc _ => False
section
variable {P : R → En → Prop} {E : Exc → En → Prop}
def anyL : List D := [.int 0, .int (-1), .int 1, .bool true, .bool false, .none, .str "", .str "a", .str "ab", .str "back", .str "a b", .str "abab", .int 2, .int 3, .int (-7), .str "|", .int 100000000000, .int 8, .tuple [], .list [], .tuple [.int 0, .int 1]]
theorem anyL_ok : ∀ d ∈ anyL, okD 30 1 d = true := by decide +kernel
end
end LF
end

-- part K13P3
section
set_option Elab.async false
set_option linter.all false
set_option maxRecDepth 100000
set_option maxHeartbeats 4000000
namespace LF
open PySem PySem.Spec PyProof.Rows L2
def nearL : List D := [.str "a", .str "b", .str "ab", .str "aa", .str "x", .str "back", .none, .bool true, .bool false, .int 0, .int 1, .int 2, .int 3, .int 4, .int (-1), .str "A", .str "", .str "1111", .str "|", .tuple []]
theorem nearL_ok : ∀ d ∈ nearL, okD 30 1 d = true := by decide +kernel
theorem okD_nodict {n k : Nat} {d : D} (h : okD n k d = true) : isDict d = false := by
  cases d with
  | dict kv => cases k <;> cases h
  | _ => rfl
section
variable {P : R → En → Prop} {E : Exc → En → Prop}
end
end LF
end

-- part K13P4
section
set_option Elab.async false
set_option linter.all false
set_option maxRecDepth 100000
set_option maxHeartbeats 4000000
namespace LF
open PySem PySem.Spec PyProof.Rows L2
/-- a comprehension whose parts change nothing -/
theorem lc_pure {tm : D → En → Option En} {c : EM Bool} {elt : EM R} {vs : List Nat} {ρ : En} {K : List D → En → Prop} {E : Exc → En → Prop} (ok : D → Prop) (cB : D → Bool) (h : D → D)
    (step : ∀ d, ok d → optP (tm d (wipeE ρ vs)) fun ρ1 => wp (lcTurn c elt) ρ1 (fun o ρ2 => o = (if cB d = true then some (h d) else none) ∧ backE ρ ρ2 vs = ρ) fun _ _ => False)
    (ds acc : List D) (hd : ∀ d ∈ ds, ok d) (hl : acc.length + ds.length ≤ sizeLine) (k : K (acc ++ (ds.filter cB).map h) ρ) : wp (runLc tm c elt vs ds acc) ρ K E := by
  refine wp_runLc (I := fun ds' acc' ρ' => ρ' = ρ ∧ (∀ d ∈ ds', ok d) ∧ acc'.length + ds'.length ≤ sizeLine ∧ acc' ++ (ds'.filter cB).map h = acc ++ (ds.filter cB).map h) ?_ ?_ _ _ _ ⟨rfl, hd, hl, rfl⟩
  · rintro d ds' acc' ρ' ⟨rfl, h1, h2, h3⟩
    refine (step d (h1 d List.mem_cons_self)).mono fun ρ1 q => wp.mono q (fun o ρ2 ⟨e1, e2⟩ => ?_) fun _ _ z => z
    subst e1
    simp only [List.length_cons] at h2
    cases hc : cB d with
    | true =>
      simp only [lcP, if_true, if_pos]
      refine ⟨by omega, e2, fun x hx => h1 x (List.mem_cons_of_mem _ hx), by simp; omega, ?_⟩
      rw [← h3, List.filter_cons_of_pos hc]
      simp
    | false =>
      simp only [lcP, Bool.false_eq_true, if_false]
      refine ⟨e2, fun x hx => h1 x (List.mem_cons_of_mem _ hx), by omega, ?_⟩
      rw [← h3, List.filter_cons_of_neg (by simp [hc])]
  · rintro acc' ρ' ⟨rfl, _, _, h3⟩
    simp only [List.filter_nil, List.map_nil, List.append_nil] at h3
    rw [h3]
    exact k
@[simp] theorem gIn_str {neg : Bool} {a b : Str} : gIn neg (.str a) (.str b) = some (.v (.bool (if neg then !subS a b else subS a b))) := rfl
theorem boolsD_map (f : D → Bool) : ∀ ds : List D, boolsD (ds.map fun d => .bool (f d)) = some (ds.map f)
  | [] => rfl
  | d :: ds => by
    rw [List.map_cons, boolsD, boolsD_map f ds]
    rfl
theorem gAll_map {f : D → Bool} {ds : List D} : gAll (.list (ds.map fun d => .bool (f d))) = some (.v (.bool (ds.all f))) := by
  show (boolsD _).map _ = _
  rw [boolsD_map]
  show some (Got.v (.bool ((ds.map f).all id))) = _
  rw [List.all_map]
  rfl
def inS (signs : Str) : D → Bool
  | .str s => subS s signs
  | _ => false
def isStrD : D → Prop := fun d => ∃ s, d = .str s
theorem chars_str {x : Str} : ∀ d ∈ chars x, isStrD d := fun d h => by
  obtain ⟨c, _, rfl⟩ := List.mem_map.mp h
  exact ⟨_, rfl⟩
theorem strOk_char {x : Str} (h : PyData.strOk x = true) : ∀ d ∈ chars x, okD 1 0 d = true := fun d hd => by
  obtain ⟨c, hc, rfl⟩ := List.mem_map.mp hd
  unfold PyData.strOk at h
  rw [← Array.all_toList, List.all_eq_true] at h
  have := h c hc
  show (decide (1 ≤ 1) && (#[c] : Array Nat).all (· < 0x110000)) = true
  simpa using this
def textB (signs : Str) : D → Bool
  | .str x => (chars x).all (inS signs)
  | _ => false
def lenB (lo hi : Int) : D → Bool
  | .str x => decide (lo ≤ (x.length : Int)) && decide ((x.length : Int) ≤ hi)
  | _ => false
def wordB (signs : Str) (lo hi : Int) (d : D) : Bool := textB signs d && lenB lo hi d
section
variable {P : R → En → Prop} {E : Exc → En → Prop} {n k : Nat}
theorem isstr_cases {v : D} (h : okD n k v = true) : (∃ x, v = .str x ∧ (x.length ≤ n ∧ x.cps.size ≤ n) ∧ PyData.strOk x = true) ∨ ((∀ x, v ≠ .str x) ∧ isTy (tyD v) "str" = false) := by
  cases v with
  | str x =>
    have e : flatOk n (.str x) = true := by cases k <;> exact h
    simp only [flatOk, Bool.and_eq_true, decide_eq_true_eq] at e
    exact .inl ⟨x, rfl, ⟨e.1, e.1⟩, e.2⟩
  | _ => exact .inr ⟨fun x hx => (by cases hx), by simp [tyD, isTy]⟩
theorem textB_no {s : Str} {v : D} (h : ∀ x, v ≠ .str x) : textB s v = false := by
  cases v <;> first | rfl | exact absurd rfl (h _)
theorem lenB_no {a b : Int} {v : D} (h : ∀ x, v ≠ .str x) : lenB a b v = false := by
  cases v <;> first | rfl | exact absurd rfl (h _)
theorem is_text_spec {s : Str} {v : D} (hv : okD n k v = true) (hn : n ≤ 100000) (q : P (.val (.bool (textB s v))) [.val (.str s), .val v]) : wp f_is_text [.val (.str s), .val v] P E := by
  have sl : sizeLine = 16777216 := sizeLine_eq
  unfold f_is_text bd_is_text
  rcases isstr_cases hv with ⟨x, rfl, h1, h2⟩ | ⟨h1, h2⟩
  · simp [isTy]
    refine lc_pure isStrD (fun _ => true) (fun d => .bool (inS s d)) ?_ _ _ chars_str (by rw [chars_len]; simp; omega) ?_
    · rintro d ⟨z, rfl⟩
      simp [inS]
    · simp [gAll_map]
      exact q
  · simp [gIsi_of (okD_nodict hv), h2]
    rw [textB_no h1] at q
    exact q
theorem is_form_spec {s : Str} {v : D} {lo : Int} (hv : okD n k v = true) (hn : n ≤ 100000) (q : P (.val (.bool (wordB s lo 3 v))) [.val (.str s), .val v, .val (.int lo)]) : wp f_is_form [.val (.str s), .val v, .val (.int lo)] P E := by
  have sl : sizeLine = 16777216 := sizeLine_eq
  unfold f_is_form bd_is_form
  simp
  refine is_text_spec hv hn ?_
  simp
  rcases isstr_cases hv with ⟨x, rfl, h1, h2⟩ | ⟨h1, h2⟩
  · have hz : x.length ≤ sizeLine := by omega
    simp [hz]
    rw [wordB, lenB] at q
    split
    · rename_i h3
      rw [h3] at q
      split
      · rename_i h4
        simpa [h4] using q
      · rename_i h4
        simpa [h4] using q
    · rename_i h3
      have h3 : textB s (.str x) = false := by simpa using h3
      rw [h3] at q
      exact q
  · rw [textB_no h1]
    simp
    rw [wordB, textB_no h1] at q
    exact q
theorem filter_nil_eqv {ds : List D} {f : D → Bool} (h : ∀ d ∈ ds, okD n k d = true) (hk : k < 64) (hl : ds.length ≤ n) : gEq (.list (ds.filter f)) (.list []) = some (.v (.bool (ds.all fun d => !f d))) ∧ gNe (.list (ds.filter f)) (.list []) = some (.v (.bool (!(ds.all fun d => !f d)))) := by
  have h1 : okD n (k + 1) (.list (ds.filter f)) = true := by
    show (decide ((ds.filter f).length ≤ n) && (ds.filter f).all (okD n k)) = true
    simp only [Bool.and_eq_true, decide_eq_true_eq, List.all_eq_true]
    exact ⟨Nat.le_trans (List.length_filter_le _ _) hl, fun x hx => h x (List.mem_filter.mp hx).1⟩
  have h2 : (ds.filter f).isEmpty = ds.all fun d => !f d := by
    clear h h1 hl
    induction ds with
    | nil => rfl
    | cons d ds ih =>
      cases hf : f d with
      | true => simp [List.filter_cons_of_pos hf, hf]
      | false => simp [List.filter_cons_of_neg (by simp [hf] : ¬ f d = true), hf, ih]
  refine ⟨?_, ?_⟩
  · rw [gEq_of (okD_shaped h1 (by omega)) rfl, PyData.eqv, eqvAll_nil, h2]
  · rw [gNe_of (okD_shaped h1 (by omega)) rfl, PyData.eqv, eqvAll_nil, h2]
def wideB (lo hi : Int) : D → Bool
  | .tuple ds => decide (lo ≤ (ds.length : Int)) && decide ((ds.length : Int) ≤ hi)
  | _ => false
theorem istup_cases {v : D} (h : okD n k v = true) : (∃ ds, v = .tuple ds ∧ ds.length ≤ n ∧ 0 < k ∧ ∀ d ∈ ds, okD n (k - 1) d = true) ∨ ((∀ x, v ≠ .tuple x) ∧ isTy (tyD v) "tuple" = false) := by
  cases v with
  | tuple ds =>
    cases k with
    | zero => cases h
    | succ k =>
      have h : (decide (ds.length ≤ n) && ds.all (okD n k)) = true := h
      simp only [Bool.and_eq_true, decide_eq_true_eq, List.all_eq_true] at h
      exact .inl ⟨ds, rfl, h.1, by omega, h.2⟩
  | _ => exact .inr ⟨fun x hx => (by cases hx), by simp [tyD, isTy]⟩
theorem wideB_no {a b : Int} {v : D} (h : ∀ x, v ≠ .tuple x) : wideB a b v = false := by
  cases v <;> first | rfl | exact absurd rfl (h _)
theorem is_wide_spec {v : D} {lo hi : Int} (hv : isDict v = false) (q : P (.val (.bool (wideB lo hi v))) [.val v, .val (.int lo), .val (.int hi)]) : wp f_is_wide [.val v, .val (.int lo), .val (.int hi)] P E := by
  unfold f_is_wide bd_is_wide
  cases v with
  | tuple ds =>
    simp [isTy]
    rw [wideB] at q
    by_cases h3 : lo ≤ (ds.length : Int)
    · simpa [h3] using q
    · simpa [h3] using q
  | dict _ => cases hv
  | _ =>
    simp [isTy]
    exact q
end
end LF
end

-- part K13P5
section
set_option Elab.async false
set_option linter.all false
set_option maxRecDepth 100000
set_option maxHeartbeats 4000000
namespace LF
open PySem PySem.Spec PyProof.Rows L2
/-! ### sets of texts, told plainly -/
theorem gath_go : ∀ (l acc : List Str), ((l.foldl addL acc).length = acc.length + l.length ↔ (l.Nodup ∧ ∀ x ∈ l, x ∉ acc))
  | [], acc => by simp
  | x :: l, acc => by
    have hle := gath_len l
    rw [List.foldl_cons]
    by_cases hx : x ∈ acc
    · rw [show addL acc x = acc from if_pos hx]
      have := hle acc
      constructor
      · intro h
        rw [List.length_cons] at h
        omega
      · rintro ⟨_, h⟩
        exact absurd hx (h x List.mem_cons_self)
    · rw [show addL acc x = x :: acc from if_neg hx]
      have ih := gath_go l (x :: acc)
      rw [List.length_cons] at ih
      rw [List.length_cons, show acc.length + (l.length + 1) = acc.length + 1 + l.length by omega, ih, List.nodup_cons]
      constructor
      · rintro ⟨h1, h2⟩
        refine ⟨⟨fun z => h2 x z List.mem_cons_self, h1⟩, fun y hy => ?_⟩
        rcases List.mem_cons.mp hy with rfl | hy
        · exact hx
        · exact fun z => h2 y hy (List.mem_cons_of_mem _ z)
      · rintro ⟨⟨h1, h2⟩, h3⟩
        refine ⟨h2, fun y hy z => ?_⟩
        rcases List.mem_cons.mp z with rfl | z
        · exact h1 hy
        · exact h3 y (List.mem_cons_of_mem _ hy) z
theorem gath_nodup (l : List Str) : (gathL l).length = l.length ↔ l.Nodup := by
  have h := gath_go l []
  simpa [gathL] using h
theorem gath_rev : ∀ (l acc : List Str), l.Nodup → (∀ x ∈ l, x ∉ acc) → l.foldl addL acc = l.reverse ++ acc
  | [], acc, _, _ => rfl
  | x :: l, acc, h1, h2 => by
    obtain ⟨h3, h4⟩ := List.nodup_cons.mp h1
    rw [List.foldl_cons, show addL acc x = x :: acc from if_neg (h2 x List.mem_cons_self)]
    have ih := gath_rev l (x :: acc) h4 fun y hy z => by
      rcases List.mem_cons.mp z with rfl | z
      · exact h3 hy
      · exact h2 y (List.mem_cons_of_mem _ hy) z
    rw [ih, List.reverse_cons, List.append_assoc]
    rfl
theorem add_nodup : ∀ (l acc : List Str), acc.Nodup → (l.foldl addL acc).Nodup
  | [], _, h => h
  | x :: l, acc, h => by
    rw [List.foldl_cons]
    refine add_nodup l _ ?_
    unfold addL
    split
    · exact h
    · exact List.nodup_cons.mpr ⟨by assumption, h⟩
def ltT (a b : Str) : Prop := leT a b ∧ a ≠ b
theorem sort_set (l : List Str) : l = sortT (gathL l) ↔ l.Pairwise ltT := by
  constructor
  · intro h
    have h1 : l.Pairwise leT := by rw [h]; exact sortT_sorted _
    have h2 : l.Nodup := by
      rw [h]
      exact (sortT_perm _).nodup_iff.mpr (add_nodup l [] List.nodup_nil)
    exact List.Pairwise.and h1 h2
  · intro h
    have h1 : l.Pairwise leT := h.imp fun q => q.1
    have h2 : l.Nodup := h.imp fun q => q.2
    have h3 : gathL l = l.reverse := by
      have := gath_rev l [] h2 (by simp)
      simpa [gathL] using this
    rw [h3]
    exact List.Perm.eq_of_pairwise (le := leT) (fun a b _ _ => leT_anti) h1 (sortT_sorted _) (l.reverse_perm.symm.trans (sortT_perm _).symm)
def sing (c : Nat) : Str := ⟨#[c]⟩
theorem ltT_sing {a b : Nat} : ltT (sing a) (sing b) ↔ a < b := by
  have e1 : sing a = sing b ↔ a = b := ⟨fun h => by
    have := congrArg Str.cps h
    simpa [sing] using this, fun h => by rw [h]⟩
  have e2 : leT (sing a) (sing b) ↔ a ≤ b := by
    unfold leT sing
    simp [List.cons_le_cons_iff]
    omega
  unfold ltT
  rw [e2, ne_eq, e1]
  omega
def ltAt (x : Str) : D → Bool
  | .int i => decide (x.cps.toList.getD i.toNat 0 < x.cps.toList.getD (i.toNat + 1) 0)
  | _ => false
theorem rising_eq {x : Str} (h1 : 1 ≤ x.length) (h3 : x.length ≤ 3) : (signsOf x == sortT (gathL (signsOf x))) = (rngD 0 (x.length - 1)).all (ltAt x) := by
  have e : (signsOf x).Pairwise ltT ↔ (rngD 0 (x.length - 1)).all (ltAt x) = true := by
    obtain ⟨⟨l⟩⟩ := x
    have hl : (⟨⟨l⟩⟩ : Str).length = l.length := rfl
    rw [hl] at h1 h3 ⊢
    have es : signsOf ⟨⟨l⟩⟩ = l.map sing := rfl
    rw [es]
    match l, h1, h3 with
    | [a], _, _ => simp [rngD]
    | [a, b], _, _ => simp [rngD, ltT_sing, ltAt, List.range_succ]
    | [a, b, c], _, _ =>
      simp [rngD, ltT_sing, ltAt, List.range_succ]
      omega
  rw [← sort_set] at e
  cases hb : (rngD 0 (x.length - 1)).all (ltAt x) with
  | true => exact beq_iff_eq.mpr (e.mpr hb)
  | false =>
    refine beq_eq_false_iff_ne.mpr fun z => ?_
    rw [e.mp z] at hb
    cases hb
end LF
end

-- part K13P6
section
set_option Elab.async false
set_option linter.all false
set_option maxRecDepth 100000
set_option maxHeartbeats 4000000
namespace LF
open PySem PySem.Spec PyProof.Rows L2
def lettersS : Str := "abcdefghijklmnopqrstuvwxyz"
def signsB : D → Bool
  | .str x => decide (1 ≤ x.length) && decide (x.length ≤ 3) && (rngD 0 (x.length - 1)).all (ltAt x) && (chars x).all (inS lettersS)
  | _ => false
theorem signsB_no {v : D} (h : ∀ x, v ≠ .str x) : signsB v = false := by
  cases v <;> first | rfl | exact absurd rfl (h _)
theorem gIx_str {z : Str} {i : Nat} (hz : z.length ≤ sizeLine) (hi : i < z.length) : gIx (.str z) (.int i) = some (.v (.str ⟨#[z.cps.toList.getD i 0]⟩)) := by
  have hl : i < z.cps.toList.length := by rw [Array.length_toList]; exact hi
  show (if z.length ≤ sizeLine then (atI z.cps.toList (i : Int)).map fun c => Got.v (.str ⟨#[c]⟩) else none) = _
  rw [if_pos hz, atI_nat hl, List.getElem?_eq_getElem hl, List.getD_eq_getElem?_getD, List.getElem?_eq_getElem hl]
  rfl
@[simp] theorem gLt_str {a b : Str} : gLt (.str a) (.str b) = some (.v (.bool (decide (a.cps.toList < b.cps.toList)))) := rfl
theorem rng_mem {m : Nat} : ∀ d ∈ rngD 0 m, ∃ i : Nat, i < m ∧ d = .int i := fun d h => by
  obtain ⟨i, hi, rfl⟩ := List.mem_map.mp h
  exact ⟨i, List.mem_range.mp hi, by simp⟩
section
variable {P : R → En → Prop} {E : Exc → En → Prop} {n k : Nat}
theorem are_signs_spec {v : D} (hv : okD n k v = true) (hn : n ≤ 100000) (q : P (.val (.bool (signsB v))) [.val v]) : wp f_are_signs [.val v] P E := by
  have sl : sizeLine = 16777216 := sizeLine_eq
  unfold f_are_signs bd_are_signs
  rcases isstr_cases hv with ⟨x, rfl, h1, h2⟩ | ⟨h1, h2⟩
  · have hz : x.length ≤ sizeLine := by omega
    by_cases hb : 1 ≤ x.length ∧ x.length ≤ 3
    · have hb1 : (1 : Int) ≤ (x.length : Int) := by omega
      have hb2 : (x.length : Int) ≤ 3 := by omega
      have qq : signsB (.str x) = ((rngD 0 (x.length - 1)).all (ltAt x) && (chars x).all (inS lettersS)) := by
        rw [signsB]
        simp [hb]
      rw [qq] at q
      simp [isTy, hz, hb1, hb2]
      refine ⟨⟨by omega, by omega⟩, ?_⟩
      refine lc_pure (fun d => ∃ i : Nat, i < (x.length - 1) ∧ d = .int i) (fun _ => true) (fun d => .bool (ltAt x d)) ?_ _ _ rng_mem (by simp [rngD]; omega) ?_
      · rintro d ⟨i, hi, rfl⟩
        have e1 : ((i : Int) + 1) = ((i + 1 : Nat) : Int) := by omega
        have g1 := gIx_str (z := x) (i := i) hz (by omega)
        have g2 := gIx_str (z := x) (i := i + 1) hz (by omega)
        rw [← e1] at g2
        simp [g1, g2, ltAt, List.cons_lt_cons_iff]
      · simp [gAll_map]
        split
        · rename_i h3
          refine lc_pure isStrD (fun _ => true) (fun d => .bool (inS lettersS d)) ?_ _ _ chars_str (by rw [chars_len]; simp; omega) ?_
          · rintro d ⟨z, rfl⟩
            simp [inS, lettersS]
          · simp [gAll_map]
            rw [show (rngD 0 (x.length - 1)).all (ltAt x) = true from List.all_eq_true.mpr h3] at q
            exact q
        · rename_i h3
          have h3 : (rngD 0 (x.length - 1)).all (ltAt x) = false := by simpa using h3
          rw [h3] at q
          exact q
    · have qq : signsB (.str x) = false := by
        rw [signsB]
        by_cases h3 : 1 ≤ x.length
        · have h4 : ¬ x.length ≤ 3 := fun z => hb ⟨h3, z⟩
          simp [h4]
        · simp [h3]
      rw [qq] at q
      by_cases h3 : (1 : Int) ≤ (x.length : Int)
      · have h4 : ¬ (x.length : Int) ≤ 3 := fun z => hb ⟨by omega, by omega⟩
        simp [isTy, hz, h3, h4]
        exact q
      · simp [isTy, hz, h3]
        exact q
  · rw [signsB_no h1] at q
    simp [gIsi_of (okD_nodict hv), h2]
    exact q
def ruleB (s : Str) : D → Bool
  | .tuple [a, b] => wordB s 1 3 a && wordB s 0 3 b
  | _ => false
theorem two_of {ds : List D} (h : wideB 2 2 (.tuple ds) = true) : ∃ a b, ds = [a, b] := by
  simp only [wideB, Bool.and_eq_true, decide_eq_true_eq] at h
  match ds, h with
  | [a, b], _ => exact ⟨a, b, rfl⟩
  | [], h => simp at h
  | [_], h => simp at h
  | _ :: _ :: _ :: _, h => simp at h; omega
theorem ruleB_wide {s : Str} {v : D} (h : wideB 2 2 v = false) : ruleB s v = false := by
  cases v with
  | tuple ds =>
    match ds, h with
    | [a, b], h => simp [wideB] at h
    | [], _ => rfl
    | [_], _ => rfl
    | _ :: _ :: _ :: _, _ => rfl
  | _ => rfl
theorem wide_tup {a b : Int} {v : D} (h : wideB a b v = true) : ∃ ds, v = .tuple ds := by
  cases v <;> first | exact ⟨_, rfl⟩ | cases h
theorem okT {ds : List D} (h : okD n k (.tuple ds) = true) : ds.length ≤ n ∧ ∀ d ∈ ds, okD n k d = true := by
  cases k with
  | zero => cases h
  | succ k =>
    have h : (decide (ds.length ≤ n) && ds.all (okD n k)) = true := h
    simp only [Bool.and_eq_true, decide_eq_true_eq, List.all_eq_true] at h
    exact ⟨h.1, fun d hd => okD_mono (Nat.le_refl _) (by omega) (h.2 d hd)⟩
theorem is_rule_spec {s : Str} {v : D} (hv : okD n k v = true) (hn : n ≤ 100000) (q : P (.val (.bool (ruleB s v))) [.val (.str s), .val v]) : wp f_is_rule [.val (.str s), .val v] P E := by
  unfold f_is_rule bd_is_rule
  simp
  refine is_wide_spec (okD_nodict hv) ?_
  cases hw : wideB 2 2 v with
  | false =>
    simp
    rw [ruleB_wide hw] at q
    exact q
  | true =>
    obtain ⟨ds, rfl⟩ := wide_tup hw
    obtain ⟨a, b, rfl⟩ := two_of hw
    have ho := okT hv
    simp
    refine is_form_spec (ho.2 a (by simp)) hn ?_
    simp
    rw [ruleB] at q
    cases ha : wordB s 1 3 a with
    | false =>
      rw [ha] at q
      simpa using q
    | true =>
      rw [ha] at q
      simp
      refine is_form_spec (ho.2 b (by simp)) hn ?_
      simpa using q
/-! tables -/
def shortD : D → D
  | .tuple (a :: _) => a
  | _ => .none
def strD : D → Str
  | .str s => s
  | _ => ⟨#[]⟩
def rulesB (s : Str) : D → Bool
  | .tuple rs => decide (rs.length ≤ 5) && rs.all (ruleB s) && decide ((rs.map fun r => strD (shortD r)).Nodup)
  | _ => false
def tableB : D → Bool
  | .tuple [.str s, .bool _, r] => signsB (.str s) && rulesB s r
  | _ => false
theorem three_of {ds : List D} (h : wideB 3 3 (.tuple ds) = true) : ∃ a b c, ds = [a, b, c] := by
  simp only [wideB, Bool.and_eq_true, decide_eq_true_eq] at h
  match ds, h with
  | [a, b, c], _ => exact ⟨a, b, c, rfl⟩
  | [], h => simp at h
  | [_], h => simp at h
  | [_, _], h => simp at h
  | _ :: _ :: _ :: _ :: _, h => simp at h; omega
theorem tableB_wide {v : D} (h : wideB 3 3 v = false) : tableB v = false := by
  unfold tableB
  split
  · simp [wideB] at h
  · rfl
theorem signsB_str {v : D} (h : signsB v = true) : ∃ s, v = .str s := by
  cases v <;> first | exact ⟨_, rfl⟩ | cases h
theorem tableB_signs {a b c : D} (h : signsB a = false) : tableB (.tuple [a, b, c]) = false := by
  unfold tableB
  split
  · rename_i e
    cases e
    rw [h]
    rfl
  · rfl
theorem tableB_bool {a b c : D} (h : isTy (tyD b) "bool" = false) : tableB (.tuple [a, b, c]) = false := by
  unfold tableB
  split
  · rename_i e
    cases e
    simp [tyD, isTy] at h
  · rfl
theorem bool_of {b : D} (h : isTy (tyD b) "bool" = true) : ∃ x, b = .bool x := by
  cases b <;> first | exact ⟨_, rfl⟩ | (simp [tyD, isTy] at h)
theorem rule_short {s : Str} {r : D} (h : ruleB s r = true) : ∃ x y, r = .tuple [.str x, y] := by
  unfold ruleB at h
  split at h
  · rename_i a b
    simp only [Bool.and_eq_true, wordB] at h
    cases a <;> first | exact ⟨_, _, rfl⟩ | (simp [textB] at h)
  · cases h
end
end LF
end

-- part K13P7
section
set_option Elab.async false
set_option linter.all false
set_option maxRecDepth 100000
set_option maxHeartbeats 4000000
namespace LF
open PySem PySem.Spec PyProof.Rows L2
def nin (ds : List D) : D → Bool
  | .tuple [.int i, d] => !inD d (cutD ds none (some i))
  | _ => false
theorem inD_strs (s : Str) (ys : List Str) : inD (.str s) (ys.map .str) = decide (s ∈ ys) := by
  unfold inD
  rw [List.any_map]
  induction ys with
  | nil => simp
  | cons y ys ih =>
    rw [List.any_cons, ih]
    simp only [Function.comp, PyData.eqv]
    by_cases h : y = s
    · subst h; simp
    · have h1 : (y == s) = false := beq_eq_false_iff_ne.mpr h
      have h2 : ¬ s = y := fun z => h z.symm
      simp [h1, h2]
theorem nin_nodup (xs : List Str) : (enumD (xs.map .str)).all (nin (xs.map .str)) = decide xs.Nodup := by
  have e : (enumD (xs.map .str)).all (nin (xs.map .str)) = true ↔ xs.Nodup := by
    rw [List.all_eq_true]
    unfold enumD
    have cut : ∀ i : Nat, i ≤ xs.length → cutD (xs.map PyData.str) none (some (i : Int)) = (xs.take i).map .str := fun i hi => by
      unfold cutD
      rw [HT.sIx_none, HT.sIx_nat, List.length_map, Nat.sub_zero, List.drop_zero, List.map_take, Nat.min_eq_left hi]
    constructor
    · intro h
      show xs.Pairwise (· ≠ ·)
      rw [List.pairwise_iff_getElem]
      intro i j hi hj hij z
      have hm : PyData.tuple [.int (j : Int), .str xs[j]] ∈ (xs.map PyData.str).mapIdx fun i d => PyData.tuple [.int (i : Nat), d] := by
        rw [List.mem_mapIdx]
        exact ⟨j, by rw [List.length_map]; exact hj, by simp⟩
      have := h _ hm
      simp only [nin, cut j (by omega), inD_strs] at this
      have hn : xs[j] ∉ xs.take j := by simpa using this
      exact hn (z ▸ List.mem_take_iff_getElem.mpr ⟨i, by omega, rfl⟩)
    · intro h d hd
      rw [List.mem_mapIdx] at hd
      obtain ⟨i, hi, rfl⟩ := hd
      rw [List.length_map] at hi
      rw [List.getElem_map]
      simp only [nin, cut i (by omega), inD_strs]
      have hn : xs[i] ∉ xs.take i := fun z => by
        obtain ⟨j, hj, e⟩ := List.mem_take_iff_getElem.mp z
        have := List.pairwise_iff_getElem.mp h j i (by omega) hi (by omega)
        exact this e
      simpa using hn
  cases hb : (enumD (xs.map .str)).all (nin (xs.map .str)) with
  | true => exact (decide_eq_true (e.mp hb)).symm
  | false => exact (decide_eq_false fun z => by rw [e.mpr z] at hb; cases hb).symm
theorem strsD_map : ∀ xs : List Str, strsD (xs.map .str) = some xs
  | [] => rfl
  | x :: xs => by
    rw [List.map_cons, strsD, strsD_map xs]
    rfl
theorem flat_strsD (xs : List Str) : (xs.map PyData.str).all flatD = true := by
  rw [List.all_map]
  exact List.all_eq_true.mpr fun _ _ => rfl
section
variable {P : R → En → Prop} {E : Exc → En → Prop} {n k : Nat}
def sh (rs : List D) : List Str := rs.map fun r => strD (shortD r)
theorem short_map {s : Str} {rs : List D} (h : ∀ r ∈ rs, ruleB s r = true) : rs.map shortD = (sh rs).map .str := by
  unfold sh
  rw [List.map_map]
  refine List.map_congr_left fun r hr => ?_
  obtain ⟨x, y, rfl⟩ := rule_short (h r hr)
  rfl
theorem filt_true (ds : List D) : ds.filter (fun _ => true) = ds := List.filter_eq_self.mpr fun _ _ => rfl
theorem gIn_flat {s : Str} {ds : List D} (h : ds.all flatD = true) : gIn true (.str s) (.list ds) = some (.v (.bool (!inD (.str s) ds))) := by
  show (if flatD (.str s) = true ∧ ds.all flatD = true then some (Got.v (.bool (if true = true then !inD (.str s) ds else inD (.str s) ds))) else none) = _
  rw [if_pos ⟨rfl, h⟩]
  rfl
theorem cut_flat {ds : List D} {l h : Option Int} (hf : ds.all flatD = true) : (cutD ds l h).all flatD = true := by
  rw [List.all_eq_true] at hf ⊢
  intro d hd
  unfold cutD at hd
  exact hf d (List.mem_of_mem_drop (List.mem_of_mem_take hd))
theorem enum_mem {xs : List Str} : ∀ d ∈ enumD (xs.map .str), ∃ (i : Nat) (s : Str), d = .tuple [.int (i : Int), .str s] := fun d hd => by
  unfold enumD at hd
  rw [List.mem_mapIdx] at hd
  obtain ⟨i, hi, rfl⟩ := hd
  rw [List.getElem_map]
  exact ⟨i, _, rfl⟩
theorem rulesB_eq {s : Str} {rs : List D} (h5 : rs.length ≤ 5) : rulesB s (.tuple rs) = (rs.all (ruleB s) && decide (sh rs).Nodup) := by
  unfold rulesB sh
  simp [h5]
theorem is_table_spec {v : D} (hv : okD n k v = true) (hn : n ≤ 100000) (q : P (.val (.bool (tableB v))) [.val v]) : wp f_is_table [.val v] P E := by
  have sl : sizeLine = 16777216 := sizeLine_eq
  unfold f_is_table bd_is_table
  simp
  refine is_wide_spec (okD_nodict hv) ?_
  cases hw : wideB 3 3 v with
  | false =>
    simp
    rw [tableB_wide hw] at q
    exact q
  | true =>
    obtain ⟨ds, rfl⟩ := wide_tup hw
    obtain ⟨a, b, c, rfl⟩ := three_of hw
    have ho := okT hv
    have oa := ho.2 a (by simp)
    have ob := ho.2 b (by simp)
    have oc := ho.2 c (by simp)
    simp
    refine are_signs_spec oa hn ?_
    cases hs : signsB a with
    | false =>
      simp
      rw [tableB_signs hs] at q
      exact q
    | true =>
      obtain ⟨s, rfl⟩ := signsB_str hs
      simp [gIsi_of (okD_nodict ob)]
      cases hb : isTy (tyD b) "bool" with
      | false =>
        simp
        rw [tableB_bool hb] at q
        exact q
      | true =>
        obtain ⟨x, rfl⟩ := bool_of hb
        have qq : tableB (.tuple [.str s, .bool x, c]) = rulesB s c := by
          rw [tableB, hs]
          rfl
        rw [qq] at q
        simp
        refine is_wide_spec (okD_nodict oc) ?_
        cases hw2 : wideB 0 5 c with
        | false =>
          simp
          have : rulesB s c = false := by
            cases c with
            | tuple rs =>
              simp [wideB] at hw2
              have : ¬ rs.length ≤ 5 := by omega
              simp [rulesB, this]
            | _ => rfl
          rw [this] at q
          exact q
        | true =>
          obtain ⟨rs, rfl⟩ := wide_tup hw2
          have or' := okT oc
          have h5 : rs.length ≤ 5 := by
            simp [wideB] at hw2
            omega
          simp
          refine lc_pure (fun d => d ∈ rs) (fun _ => true) (fun d => .bool (ruleB s d)) ?_ _ _ (fun d h => h) (by simp; omega) ?_
          · intro d hd
            simp
            refine is_rule_spec (or'.2 d hd) hn ?_
            simp
          · simp [gAll_map]
            rw [rulesB_eq h5] at q
            split
            · rename_i hr
              have hall : rs.all (ruleB s) = true := List.all_eq_true.mpr hr
              rw [hall] at q
              refine lc_pure (fun d => d ∈ rs) (fun _ => true) shortD ?_ _ _ (fun d h => h) (by simp; omega) ?_
              · intro d hd
                obtain ⟨x, y, rfl⟩ := rule_short (hr d hd)
                simp [shortD]
              · simp only [filt_true, short_map hr, List.nil_append]
                simp
                refine lc_pure (fun d => ∃ (i : Nat) (s : Str), d = .tuple [.int (i : Int), .str s]) (fun _ => true) (fun d => .bool (nin ((sh rs).map .str) d)) ?_ _ _ enum_mem (by simp [enumD, sh]; omega) ?_
                · rintro d ⟨i, z, rfl⟩
                  simp [gIn_flat (cut_flat (flat_strsD _)), nin]
                · simp [gAll_map, nin_nodup]
                  simpa using q
            · rename_i hr
              have hall : rs.all (ruleB s) = false := by
                cases h : rs.all (ruleB s) with
                | true => exact absurd (List.all_eq_true.mp h) hr
                | false => rfl
              rw [hall] at q
              exact q
end
end LF
end

-- part K13P8
section
set_option Elab.async false
set_option linter.all false
set_option maxRecDepth 100000
set_option maxHeartbeats 4000000
namespace LF
open PySem PySem.Spec PyProof.Rows L2
def backB : D → Bool
  | .str x => x == ("back" : Str)
  | _ => false
def keyB (s : Str) (d : D) : Bool := wordB s 1 1 d || backB d
def rowB (s : Str) : D → Bool
  | .tuple ks => decide (ks.length ≤ 300) && ks.all (keyB s)
  | _ => false
theorem wp_handle {isa : Str → Str → Bool} {e : Exc} {c : Str} {g : EM Out} {hs : List Hd} {ρ : En} {P : Out → En → Prop} {E : Exc → En → Prop} :
    wp (handle isa e ((c, g) :: hs)) ρ P E = if isa e.cls c = true then wp g ρ P (fun _ _ => False) else wp (handle isa e hs) ρ P E := by
  have hu : handle isa e ((c, g) :: hs) = if isa e.cls c = true then (fun ρ => (g ρ).bind fun y => match y with
    | (.error _, _) => none
    | (.ok o, ρ') => some (.ok o, ρ')) else handle isa e hs := rfl
  rw [hu]
  by_cases h : isa e.cls c = true
  · rw [if_pos h, if_pos h]
    unfold wp
    dsimp only
    cases g ρ with
    | none => rfl
    | some z => rcases z with ⟨z | z, ρ'⟩ <;> rfl
  · rw [if_neg h, if_neg h]
section
variable {P : R → En → Prop} {E : Exc → En → Prop} {n k : Nat}
theorem back_eq {v : D} (hv : okD n k v = true) (hk : k ≤ 64) : gEq v (.str "back") = some (.v (.bool (backB v))) ∧ gNe v (.str "back") = some (.v (.bool (!backB v))) := by
  have h1 := okD_shaped hv hk
  have h2 : SeqAt.shaped (.str "back") = true := shaped_str (by decide +kernel)
  have h3 : PyData.eqv v (.str "back") = backB v := by
    cases v <;> simp [PyData.eqv, backB]
  exact ⟨by rw [gEq_of h1 h2, h3], by rw [gNe_of h1 h2, h3]⟩
theorem is_sign_spec {s : Str} {v : D} (hv : okD n k v = true) (hn : n ≤ 100000) (q : P (.val (.bool (wordB s 1 1 v))) [.val (.str s), .val v]) : wp f_is_sign [.val (.str s), .val v] P E := by
  have sl : sizeLine = 16777216 := sizeLine_eq
  unfold f_is_sign bd_is_sign
  rcases isstr_cases hv with ⟨x, rfl, h1, h2⟩ | ⟨h1, h2⟩
  · have hz : x.length ≤ sizeLine := by omega
    simp [isTy, hz]
    by_cases h3 : (x.length : Int) = 1
    · simp [h3]
      have h4 : x.length = 1 := by omega
      have : wordB s 1 1 (.str x) = subS x s := by
        obtain ⟨⟨l⟩⟩ := x
        match l, h4 with
        | [c], _ => simp [wordB, textB, lenB, chars, inS, Str.length]
      rw [this] at q
      exact q
    · have : wordB s 1 1 (.str x) = false := by
        have h5 : lenB 1 1 (.str x) = false := by
          show (decide ((1 : Int) ≤ x.length) && decide ((x.length : Int) ≤ 1)) = false
          by_cases h6 : (1 : Int) ≤ x.length
          · have h7 : ¬ (x.length : Int) ≤ 1 := by omega
            rw [decide_eq_false h7]
            simp
          · rw [decide_eq_false h6]
            rfl
        rw [wordB, h5, Bool.and_false]
      rw [this] at q
      simp [h3]
      exact q
  · rw [wordB, textB_no h1] at q
    simp [gIsi_of (okD_nodict hv), h2]
    exact q
theorem is_key_spec {s : Str} {v : D} (hv : okD n k v = true) (hn : n ≤ 100000) (hk : k ≤ 64) (q : P (.val (.bool (keyB s v))) [.val (.str s), .val v]) : wp f_is_key [.val (.str s), .val v] P E := by
  unfold f_is_key bd_is_key
  simp
  refine is_sign_spec hv hn ?_
  simp
  rw [keyB] at q
  split
  · rename_i h
    rw [h] at q
    exact q
  · rename_i h
    have h : wordB s 1 1 v = false := by simpa using h
    rw [h] at q
    rw [gIsi_of (okD_nodict hv)]
    simp
    split
    · simp [(back_eq hv hk).1]
      exact q
    · rename_i h3
      have hb : backB v = false := by
        cases v <;> first | rfl | (simp [tyD, isTy] at h3)
      rw [hb] at q
      exact q
theorem are_keys_spec {s : Str} {v : D} (hv : okD n k v = true) (hn : n ≤ 100000) (hk : k ≤ 64) (q : P (.val (.bool (rowB s v))) [.val (.str s), .val v]) : wp f_are_keys [.val (.str s), .val v] P E := by
  have sl : sizeLine = 16777216 := sizeLine_eq
  unfold f_are_keys bd_are_keys
  simp
  refine is_wide_spec (okD_nodict hv) ?_
  cases hw : wideB 0 300 v with
  | false =>
    simp
    have : rowB s v = false := by
      cases v with
      | tuple ks =>
        simp [wideB] at hw
        have : ¬ ks.length ≤ 300 := by omega
        simp [rowB, this]
      | _ => rfl
    rw [this] at q
    exact q
  | true =>
    obtain ⟨ks, rfl⟩ := wide_tup hw
    have ho := okT hv
    have h3 : ks.length ≤ 300 := by
      simp [wideB] at hw
      omega
    have : rowB s (.tuple ks) = ks.all (keyB s) := by simp [rowB, h3]
    rw [this] at q
    simp
    refine lc_pure (fun d => d ∈ ks) (fun _ => true) (fun d => .bool (keyB s d)) ?_ _ _ (fun d h => h) (by simp; omega) ?_
    · intro d hd
      simp
      refine is_key_spec (ho.2 d hd) hn hk ?_
      simp
    · simp only [filt_true, List.nil_append, gAll_map]
      simp [gAll_map]
      exact q
def signsT : D → Str
  | .tuple (a :: _) => strD a
  | _ => ⟨#[]⟩
theorem tableB_tup {t : D} (h : tableB t = true) : ∃ b r, t = .tuple [.str (signsT t), b, r] := by
  unfold tableB at h
  split at h
  · exact ⟨_, _, rfl⟩
  · cases h
end
end LF
end

-- part K13P9
section
set_option Elab.async false
set_option linter.all false
set_option maxRecDepth 100000
set_option maxHeartbeats 4000000
namespace LF
open PySem PySem.Spec PyProof.Rows L2
theorem chosen_own {P : R → En → Prop} {E : Exc → En → Prop} {st xs : List D} (h : SrcOk st) (h0 : xs ≠ []) (h1 : xs.length < 1000000) (q : ∀ d st', SrcOk st' → d ∈ xs → P (.val d) [.own (.lst st') .bor, .own (.lst xs) .bor]) : wp f__law_chosen [.own (.lst st) .bor, .own (.lst xs) .bor] P E := by
  unfold f__law_chosen bd__law_chosen
  have hp : 0 < xs.length := List.length_pos_iff.mpr h0
  simp
  refine pick_spec h (by omega) (by omega) fun v st' h' v0 v1 => ?_
  obtain ⟨d, h2, h3⟩ := at_lt v0 v1
  simp [h2]
  exact q d st' h' h3
/-- texts of some signs -/
def inA (s y : Str) : Prop := ∀ c ∈ y.cps.toList, c ∈ s.cps.toList
theorem joinL_nil : ∀ ps : List (List Nat), TL.joinL [] ps = ps.flatten
  | [] => rfl
  | [p] => by simp [TL.joinL]
  | p :: q :: r => by
    rw [TL.joinL, joinL_nil (q :: r)]
    simp
theorem join_cps (ys : List Str) : (Txt.join "" ys).cps.toList = (ys.map fun y => y.cps.toList).flatten := by
  have h := TL.tl_join "" ys
  rw [← TL.join_eq] at h
  have e : TL.tl ("" : Str) = [] := by decide +kernel
  rw [e, joinL_nil] at h
  exact h
theorem join_signs {s : Str} {ys : List Str} (h : ∀ y ∈ ys, y ∈ signsOf s) : inA s (Txt.join "" ys) ∧ (Txt.join "" ys).length = ys.length := by
  have hl : (Txt.join "" ys).length = (Txt.join "" ys).cps.toList.length := by rw [Array.length_toList]; rfl
  unfold inA
  rw [hl, join_cps]
  refine ⟨fun c hc => ?_, ?_⟩
  · obtain ⟨l, hl, hc⟩ := List.mem_flatten.mp hc
    obtain ⟨y, hy, rfl⟩ := List.mem_map.mp hl
    obtain ⟨d, hd, rfl⟩ := List.mem_map.mp (h y hy)
    have : c = d := by simpa using hc
    exact this ▸ hd
  · clear hl
    induction ys with
    | nil => rfl
    | cons y ys ih =>
      obtain ⟨d, hd, rfl⟩ := List.mem_map.mp (h y List.mem_cons_self)
      rw [List.map_cons, List.flatten_cons, List.length_append, ih fun z hz => h z (List.mem_cons_of_mem _ hz)]
      simp
      omega
section
variable {P : R → En → Prop} {E : Exc → En → Prop}
theorem text_spec {s : Str} {m : Nat} {st : List D} (h : SrcOk st) (hs : 0 < s.length) (hs2 : s.length < 100) (hm : m ≤ 100)
    (q : ∀ y st', SrcOk st' → inA s y → y.length ≤ m → P (.val (.str y)) [.own (.lst st') .bor, .val (.str s), .val (.int m)]) : wp f__law_text [.own (.lst st) .bor, .val (.str s), .val (.int m)] P E := by
  have sl : sizeLine = 16777216 := sizeLine_eq
  have hz : s.cps.size ≤ sizeLine := by
    have : s.cps.size = s.length := rfl
    omega
  have hl : (signsOf s).length = s.length := by
    unfold signsOf
    rw [List.length_map, Array.length_toList]
    rfl
  unfold f__law_text bd__law_text
  simp
  refine pick_spec h (by omega) (by omega) fun v st1 h1 v0 v1 => ?_
  simp
  refine ⟨⟨by omega, by omega⟩, ?_⟩
  refine wp_runLc (I := fun ds acc ρ => ∃ st' ys, SrcOk st' ∧ acc = ys.map .str ∧ (∀ y ∈ ys, y ∈ signsOf s) ∧ ys.length + ds.length ≤ m ∧ ρ = [.own (.lst st') .bor, .val (.str s), .val (.int m), .unb]) ?_ ?_ _ _ _ ⟨st1, [], h1, rfl, by simp, by simp [rngD]; omega, rfl⟩
  · rintro d ds acc ρ ⟨st', ys, hs', rfl, hy, hle, rfl⟩
    simp only [List.length_cons] at hle
    simp [hz]
    refine chosen_spec hs' (by
      intro z
      have := congrArg List.length z
      rw [List.length_map, hl] at this
      simp at this
      omega) (by rw [List.length_map, hl]; omega) fun x st2 h2 hx => ?_
    obtain ⟨y, hy2, rfl⟩ := List.mem_map.mp hx
    have fin : ∃ (st' : List D) (ys' : List Str), SrcOk st' ∧ ys.map PyData.str ++ [.str y] = ys'.map .str ∧ (∀ y ∈ ys', y ∈ signsOf s) ∧ ys'.length + ds.length ≤ m ∧ [Slot.own (.lst st2) .bor, .val (.str s), .val (.int m), .unb] = [Slot.own (.lst st') .bor, .val (.str s), .val (.int m), .unb] := ⟨st2, ys ++ [y], h2, by simp, fun z hz => by
      rcases List.mem_append.mp hz with hz | hz
      · exact hy z hz
      · rw [List.mem_singleton.mp hz]
        exact hy2, by simp; omega, rfl⟩
    have hlen : ys.length < sizeLine := by omega
    simpa [hlen] using fin
  · rintro acc ρ ⟨st', ys, hs', rfl, hy, hle, rfl⟩
    simp only [List.length_nil] at hle
    have hj := join_signs hy
    have hsum : (ys.map (·.length)).sum = ys.length := by
      clear hle hj
      induction ys with
      | nil => rfl
      | cons y ys ih =>
        obtain ⟨d, hd, rfl⟩ := List.mem_map.mp (hy y List.mem_cons_self)
        rw [List.map_cons, List.sum_cons, ih fun z hz => hy z (List.mem_cons_of_mem _ hz)]
        show 1 + ys.length = ys.length + 1
        omega
    have hg : g_join "" (.list (ys.map .str)) = some (.v (.str (Txt.join "" ys))) := by
      show (strsD _).bind _ = _
      rw [strsD_map]
      refine if_pos ?_
      rw [hsum]
      have : ("" : Str).length = 0 := by decide +kernel
      rw [this]
      omega
    simp [hg]
    exact q _ _ hs' hj.1 (by omega)
def knownL : List D := [.tuple [.str "abx", .bool true, .tuple [.tuple [.str "ab", .str "x"], .tuple [.str "xx", .str "a"]]], .tuple [.str "ab", .bool true, .tuple [.tuple [.str "ab", .str "b"]]], .tuple [.str "ab", .bool true, .tuple [.tuple [.str "aa", .str "aba"], .tuple [.str "ba", .str "aa"]]], .tuple [.str "abx", .bool false, .tuple [.tuple [.str "x", .str "ab"], .tuple [.str "b", .str ""]]], .tuple [.str "ab", .bool true, .tuple [.tuple [.str "abb", .str "ba"], .tuple [.str "ba", .str "ab"]]], .tuple [.str "ab", .bool false, .tuple [.tuple [.str "a", .str "ab"], .tuple [.str "bb", .str ""]]], .tuple [.str "ab", .bool true, .tuple [.tuple [.str "aaa", .str ""], .tuple [.str "ab", .str ""]]], .tuple [.str "a", .bool true, .tuple [.tuple [.str "aa", .str "a"]]], .tuple [.str "ab", .bool true, .tuple [.tuple [.str "b", .str "ba"]]], .tuple [.str "abx", .bool false, .tuple [.tuple [.str "x", .str "ba"], .tuple [.str "a", .str ""], .tuple [.str "b", .str ""]]], .tuple [.str "ab", .bool false, .tuple [.tuple [.str "a", .str "bab"]]], .tuple [.str "ab", .bool true, .tuple [.tuple [.str "aaa", .str "aaa"]]], .tuple [.str "xyz", .bool true, .tuple [.tuple [.str "yyz", .str ""], .tuple [.str "xyz", .str "z"], .tuple [.str "z", .str "yxx"], .tuple [.str "xx", .str "xyz"]]]]
theorem knownL_ok : ∀ d ∈ knownL, (tableB d && okD 30 4 d) = true := by decide +kernel
theorem known_spec {st : List D} (h : SrcOk st) (q : ∀ t st', SrcOk st' → tableB t = true → okD 30 4 t = true → P (.val t) [.own (.lst st') .bor]) : wp f__law_known [.own (.lst st) .bor] P E := by
  have sl : sizeLine = 16777216 := sizeLine_eq
  unfold f__law_known bd__law_known
  simp [sl]
  refine pick_spec h (by omega) (by omega) fun v st1 h1 v0 v1 => ?_
  obtain ⟨d, h3, h4⟩ := at_lt (ds := knownL) v0 (by simpa [knownL] using v1)
  have hk := knownL_ok d h4
  simp only [Bool.and_eq_true] at hk
  simp only [knownL] at h3
  simp [h3]
  exact q _ _ h1 hk.1 hk.2
end
end LF
end

-- part K13PA
section
set_option Elab.async false
set_option linter.all false
set_option maxRecDepth 100000
set_option maxHeartbeats 4000000
namespace LF
open PySem PySem.Spec PyProof.Rows L2
def goodSB (s : Str) : Bool := signsB (.str s) && (decide (0 < s.length) && (decide (s.length ≤ 3) && (s.cps.toList.all (fun c => subS ⟨#[c]⟩ s) && PyData.strOk s)))
def sgL : List D := [.str "ab", .str "ab", .str "mn", .str "xyz", .str "a"]
theorem sgL_ok : ∀ d ∈ sgL, ∃ s, d = .str s ∧ goodSB s = true := by
  intro d hd
  simp only [sgL, List.mem_cons, List.not_mem_nil, or_false] at hd
  rcases hd with rfl | rfl | rfl | rfl | rfl <;> exact ⟨_, rfl, by decide +kernel⟩
def RuleIn (s : Str) (r : D) : Prop := ∃ x y : Str, r = .tuple [.str x, .str y] ∧ inA s x ∧ inA s y ∧ 1 ≤ x.length ∧ x.length ≤ 3 ∧ y.length ≤ 3
theorem text_in {s y : Str} (g : goodSB s = true) (h : inA s y) : textB s (.str y) = true ∧ PyData.strOk y = true := by
  simp only [goodSB, Bool.and_eq_true] at g
  obtain ⟨_, _, _, g1, g2⟩ := g
  constructor
  · show (chars y).all (inS s) = true
    rw [List.all_eq_true]
    intro d hd
    obtain ⟨c, hc, rfl⟩ := List.mem_map.mp hd
    exact List.all_eq_true.mp g1 c (h c hc)
  · unfold PyData.strOk at g2 ⊢
    rw [← Array.all_toList, List.all_eq_true] at g2 ⊢
    exact fun c hc => g2 c (h c hc)
theorem rule_in {s : Str} {r : D} (g : goodSB s = true) (h : RuleIn s r) : ruleB s r = true ∧ okD 30 2 r = true := by
  obtain ⟨x, y, rfl, hx, hy, l1, l2, l3⟩ := h
  obtain ⟨a1, a2⟩ := text_in g hx
  obtain ⟨b1, b2⟩ := text_in g hy
  have c1 : lenB 1 3 (.str x) = true := by
    show (decide ((1 : Int) ≤ x.length) && decide ((x.length : Int) ≤ 3)) = true
    rw [decide_eq_true (by omega), decide_eq_true (by omega)]
    rfl
  have c2 : lenB 0 3 (.str y) = true := by
    show (decide ((0 : Int) ≤ y.length) && decide ((y.length : Int) ≤ 3)) = true
    rw [decide_eq_true (by omega), decide_eq_true (by omega)]
    rfl
  constructor
  · show (wordB s 1 3 (.str x) && wordB s 0 3 (.str y)) = true
    rw [wordB, wordB, a1, b1, c1, c2]
    rfl
  · show (decide (2 ≤ 30) && ([PyData.str x, PyData.str y].all (okD 30 1))) = true
    have d1 : okD 30 1 (.str x) = true := okD_flat (by show (decide (x.length ≤ 30) && PyData.strOk x) = true; rw [a2, decide_eq_true (by omega)]; rfl)
    have d2 : okD 30 1 (.str y) = true := okD_flat (by show (decide (y.length ≤ 30) && PyData.strOk y) = true; rw [b2, decide_eq_true (by omega)]; rfl)
    simp [d1, d2]
theorem table_in {s : Str} {b : Bool} {rs : List D} (g : goodSB s = true) (h : ∀ r ∈ rs, RuleIn s r) (h5 : rs.length ≤ 5) (nd : (sh rs).Nodup) : tableB (.tuple [.str s, .bool b, .tuple rs]) = true ∧ okD 30 4 (.tuple [.str s, .bool b, .tuple rs]) = true := by
  have g' := g
  simp only [goodSB, Bool.and_eq_true, decide_eq_true_eq] at g'
  obtain ⟨g1, g2, g3, g4, g5⟩ := g'
  constructor
  · rw [tableB, g1, rulesB_eq h5, decide_eq_true nd, List.all_eq_true.mpr fun r hr => (rule_in g (h r hr)).1]
    rfl
  · have d1 : okD 30 3 (.str s) = true := okD_flat (by show (decide (s.length ≤ 30) && PyData.strOk s) = true; rw [g5, decide_eq_true (by omega)]; rfl)
    have d2 : okD 30 3 (.tuple rs) = true := by
      show (decide (rs.length ≤ 30) && rs.all (okD 30 2)) = true
      rw [decide_eq_true (by omega), List.all_eq_true.mpr fun r hr => (rule_in g (h r hr)).2]
      rfl
    show (decide (3 ≤ 30) && ([PyData.str s, .bool b, .tuple rs].all (okD 30 3))) = true
    have d3 : okD 30 3 (.bool b) = true := rfl
    simp [d1, d2, d3]
section
variable {P : R → En → Prop} {E : Exc → En → Prop}
def rulesN : D → Nat
  | .tuple [_, _, .tuple rs] => rs.length
  | _ => 0
theorem knownL_n : ∀ d ∈ knownL, rulesN d ≤ 4 := by decide +kernel
theorem known_spec' {st : List D} (h : SrcOk st) (q : ∀ t st', SrcOk st' → tableB t = true → okD 30 4 t = true → rulesN t ≤ 4 → P (.val t) [.own (.lst st') .bor]) : wp f__law_known [.own (.lst st) .bor] P E := by
  have sl : sizeLine = 16777216 := sizeLine_eq
  unfold f__law_known bd__law_known
  simp [sl]
  refine pick_spec h (by omega) (by omega) fun v st1 h1 v0 v1 => ?_
  obtain ⟨d, h3, h4⟩ := at_lt (ds := knownL) v0 (by simpa [knownL] using v1)
  have hk := knownL_ok d h4
  have hn := knownL_n d h4
  simp only [Bool.and_eq_true] at hk
  simp only [knownL] at h3
  simp [h3]
  exact q _ _ h1 hk.1 hk.2 hn
theorem table_spec {st : List D} {m : Nat} (hm4 : 4 ≤ m) (hm5 : m ≤ 5) (h : SrcOk st) (q : ∀ t st', SrcOk st' → tableB t = true → okD 30 4 t = true → rulesN t ≤ m → P (.val t) [.own (.lst st') .bor, .val (.int m)]) : wp f__law_table [.own (.lst st) .bor, .val (.int m)] P E := by
  have sl : sizeLine = 16777216 := sizeLine_eq
  unfold f__law_table bd__law_table
  simp [sl]
  refine pick_spec h (by omega) (by omega) fun v st1 h1 v0 v1 => ?_
  simp
  split
  · refine known_spec' h1 fun t st2 h2 h3 h4 h5 => ?_
    simp
    exact q t st2 h2 h3 h4 (by omega)
  · refine chosen_spec h1 (by simp) (by simp) fun d st2 h2 hd => ?_
    obtain ⟨s, rfl, g⟩ := sgL_ok d hd
    have g' := g
    simp only [goodSB, Bool.and_eq_true, decide_eq_true_eq] at g'
    obtain ⟨g1, g2, g3, g4, g5⟩ := g'
    have hz : s.cps.size ≤ 16777216 := by
      have : s.cps.size = s.length := rfl
      omega
    have hl : (signsOf s).length = s.length := by
      unfold signsOf
      rw [List.length_map, Array.length_toList]
      rfl
    simp [sl]
    refine pick_spec h2 (by omega) (by omega) fun v st3 h3 v0 v1 => ?_
    simp
    refine ⟨⟨by omega, by omega⟩, ?_⟩
    refine wp_runFor (I := fun ds ρ => ∃ (st' rs : List D) (a b c : Slot), SrcOk st' ∧ (∀ r ∈ rs, RuleIn s r) ∧ (sh rs).Nodup ∧ rs.length + ds.length ≤ m ∧ pinS (some a) = false ∧ pinS (some b) = false ∧ pinS (some c) = false ∧
      ρ = [.own (.lst st') .bor, .val (.int m), .val (.str s), .val (.tuple rs), a, b, c, .unb]) ?_ ?_ _ _ ⟨st3, [], .unb, .unb, .unb, h3, by simp, by simp [sh], by simp [rngD]; omega, rfl, rfl, rfl, rfl⟩
    · rintro d ds ρ ⟨st', rs, a, b, c, hs', hr, nd, hle, pa, pb, pc, rfl⟩
      simp only [List.length_cons] at hle
      simp [pa]
      refine text_spec (m := 2) hs' g2 (by omega) (by omega) fun y st4 h4 iy ly => ?_
      simp [hz, sl]
      refine chosen_spec h4 (by
        intro z
        have := congrArg List.length z
        rw [List.length_map, hl] at this
        simp at this
        omega) (by rw [List.length_map, hl]; omega) fun x st5 h5 hx => ?_
      obtain ⟨w, hw, rfl⟩ := List.mem_map.mp hx
      obtain ⟨cc, hcc, rfl⟩ := List.mem_map.mp hw
      have lw : (⟨#[cc]⟩ : Str).length = 1 := rfl
      have hsum : y.length + (⟨#[cc]⟩ : Str).length ≤ 16777216 := by omega
      have lx : (y ++ (⟨#[cc]⟩ : Str)).length = y.length + 1 := by
        rw [TL.len_tl, TL.tl_append, List.length_append, ← TL.len_tl]
        rfl
      have ix : inA s (y ++ (⟨#[cc]⟩ : Str)) := fun z hz => by
        have hz : z ∈ TL.tl (y ++ (⟨#[cc]⟩ : Str)) := hz
        rw [TL.tl_append] at hz
        rcases List.mem_append.mp hz with hz | hz
        · exact iy z hz
        · have : z = cc := by simpa [TL.tl] using hz
          exact this ▸ hcc
      generalize hxx : y ++ (⟨#[cc]⟩ : Str) = xx at lx ix
      simp [hsum, hxx, sl, pb]
      refine pick_spec h5 (by omega) (by omega) fun v st6 h6 v0 v1 => ?_
      obtain ⟨m2, rfl⟩ := Int.eq_ofNat_of_zero_le v0
      simp
      have e2 : (2 : Int) + (m2 : Int) = ((2 + m2 : Nat) : Int) := by omega
      rw [e2]
      refine text_spec (m := 2 + m2) h6 g2 (by omega) (by omega) fun y2 st7 h7 iy2 ly2 => ?_
      simp [pc]
      refine lc_pure (fun d => d ∈ rs) (fun _ => true) shortD ?_ _ _ (fun d h => h) (by simp; omega) ?_
      · intro d hd
        obtain ⟨x, y, rfl, _⟩ := hr d hd
        simp [shortD]
      · have hsm : rs.map shortD = (sh rs).map .str := short_map (s := s) fun r hr' => (rule_in g (hr r hr')).1
        simp only [filt_true, hsm, List.nil_append]
        simp [gIn_flat (flat_strsD _), inD_strs]
        split
        · exact ⟨st7, h7, rs, hr, nd, by omega, _, rfl, _, rfl, _, rfl, rfl, rfl, rfl, rfl, rfl⟩
        · rename_i hni
          have hsh : sh (rs ++ [.tuple [.str xx, .str y2]]) = sh rs ++ [xx] := by simp [sh, shortD, strD]
          refine ⟨by omega, st7, h7, rs ++ [.tuple [.str xx, .str y2]], fun r hr' => ?_, ?_, by simp; omega, _, rfl, _, rfl, _, rfl, rfl, rfl, rfl, rfl, rfl⟩
          · rcases List.mem_append.mp hr' with hr' | hr'
            · exact hr r hr'
            · rw [List.mem_singleton.mp hr']
              exact ⟨xx, y2, rfl, ix, iy2, by omega, by omega, by omega⟩
          · rw [hsh, List.nodup_append]
            refine ⟨nd, by simp, fun a ha b hb => ?_⟩
            rw [List.mem_singleton.mp hb]
            exact fun z => hni (z ▸ ha)
    · rintro ρ ⟨st', rs, a, b, c, hs', hr, nd, hle, pa, pb, pc, rfl⟩
      simp [sl]
      refine pick_spec hs' (by omega) (by omega) fun v st4 h4 v0 v1 => ?_
      simp
      have hle : rs.length ≤ m := by simpa using hle
      have ht := table_in (b := decide (0 < v)) g hr (by omega) nd
      exact q _ _ h4 ht.1 ht.2 hle
end
end LF
end

-- part K13PB
section
set_option Elab.async false
set_option linter.all false
set_option maxRecDepth 100000
set_option maxHeartbeats 4000000
namespace LF
open PySem PySem.Spec PyProof.Rows L2
theorem table_cases {t : D} (h : tableB t = true) (ho : okD 30 4 t = true) : ∃ s b r c, t = .tuple [.str s, b, r] ∧ signsT t = s ∧ 1 ≤ s.length ∧ s.length ≤ 3 ∧ PyData.strOk s = true ∧ gIx (.str s) (.int 0) = some (.v (.str ⟨#[c]⟩)) ∧ c < 0x110000 ∧ okD 30 3 b = true ∧ okD 30 3 r = true := by
  have sl : sizeLine = 16777216 := sizeLine_eq
  obtain ⟨b, r, e⟩ := tableB_tup h
  generalize signsT t = s at e
  subst e
  have ho' := ho
  have ho : (decide (3 ≤ 30) && ([PyData.str s, b, r].all (okD 30 3))) = true := ho
  simp only [Bool.and_eq_true, List.all_cons, List.all_nil] at ho
  obtain ⟨_, h1, h2, h3, _⟩ := ho
  have hs : signsB (.str s) = true := by
    unfold tableB at h
    split at h
    · rename_i e
      cases e
      simp only [Bool.and_eq_true] at h
      exact h.1
    · cases h
  have hs' : (decide (1 ≤ s.length) && decide (s.length ≤ 3) && (rngD 0 (s.length - 1)).all (ltAt s) && (chars s).all (inS lettersS)) = true := hs
  simp only [Bool.and_eq_true, decide_eq_true_eq] at hs'
  have hk : PyData.strOk s = true := by
    have h1 : (decide (s.length ≤ 30) && PyData.strOk s) = true := h1
    simp only [Bool.and_eq_true] at h1
    exact h1.2
  have hi := gIx_str (z := s) (i := 0) (by omega) (by omega)
  refine ⟨s, b, r, s.cps.toList.getD 0 0, rfl, rfl, hs'.1.1.1, hs'.1.1.2, hk, hi, ?_, h2, h3⟩
  unfold PyData.strOk at hk
  rw [← Array.all_toList, List.all_eq_true] at hk
  have hl : 0 < s.cps.toList.length := by
    rw [Array.length_toList]
    exact hs'.1.1.1
  rw [List.getD_eq_getElem?_getD, List.getElem?_eq_getElem hl]
  have := hk _ (List.getElem_mem hl)
  simpa using this
section
variable {P : R → En → Prop} {E : Exc → En → Prop}
theorem row_spec {st : List D} {s : Str} {b r : D} (h : SrcOk st) (h1 : 1 ≤ s.length) (h3 : s.length ≤ 3) (hk : PyData.strOk s = true)
    (q : ∀ ks st', SrcOk st' → ks.length ≤ 6 → (∀ d ∈ ks, okD 30 1 d = true) → P (.val (.tuple ks)) [.own (.lst st') .bor, .val (.tuple [.str s, b, r]), .val (.int 6)]) :
    wp f__law_row [.own (.lst st) .bor, .val (.tuple [.str s, b, r]), .val (.int 6)] P E := by
  have sl : sizeLine = 16777216 := sizeLine_eq
  have hz : s.cps.size ≤ 16777216 := by
    have : s.cps.size = s.length := rfl
    omega
  have hl : (signsOf s).length = s.length := by
    unfold signsOf
    rw [List.length_map, Array.length_toList]
    rfl
  have hm : gMul (.list ((signsOf s).map .str)) (.int 3) = some (.l (List.replicate 3 ((signsOf s).map PyData.str)).flatten) := if_pos ⟨by decide, by decide, by
    rw [List.length_map, hl]
    show s.length * 3 ≤ sizeLine
    omega⟩
  have hr : (List.replicate 3 ((signsOf s).map PyData.str)).flatten = (signsOf s).map PyData.str ++ ((signsOf s).map PyData.str ++ (signsOf s).map PyData.str) := by simp [List.replicate_succ]
  generalize hkk : (signsOf s).map PyData.str ++ ((signsOf s).map PyData.str ++ (signsOf s).map PyData.str) = ks0 at hr
  have l0 : ks0.length = 3 * s.length := by
    rw [← hkk]
    simp [hl]
    omega
  have ok0 : ∀ d ∈ ks0, okD 30 1 d = true := fun d hd => by
    have : d ∈ (signsOf s).map PyData.str := by
      rw [← hkk] at hd
      simpa using hd
    obtain ⟨y, hy, rfl⟩ := List.mem_map.mp this
    obtain ⟨c, hc, rfl⟩ := List.mem_map.mp hy
    exact okD_mono (by omega) (by omega) (strOk_char hk (.str ⟨#[c]⟩) (List.mem_map.mpr ⟨c, hc, rfl⟩))
  have hg : gAdd (.list ks0) (.list [.str "back"]) = some (.l (ks0 ++ [.str "back"])) := if_pos (by
    show ks0.length + 1 ≤ sizeLine
    omega)
  generalize hks : ks0 ++ [PyData.str "back"] = keys at hg
  have lk : keys.length = 3 * s.length + 1 := by
    rw [← hks]
    simp [l0]
  have ok1 : ∀ d ∈ keys, okD 30 1 d = true := fun d hd => by
    rw [← hks] at hd
    rcases List.mem_append.mp hd with hd | hd
    · exact ok0 d hd
    · rw [List.mem_singleton.mp hd]
      decide +kernel
  rw [hr] at hm
  unfold f__law_row bd__law_row
  simp only [wp_defF]
  rw [if_pos ⟨rfl, rfl⟩]
  simp only [wp_sSeq, wp_sSet, wp_e2, wp_e1, wp_eVar, wp_eC, wp_eLst, wp_aCons, wp_aNil]
  simp [hz, sl, hm, hg]
  refine pick_spec h (by omega) (by omega) fun v st1 h1' v0 v1 => ?_
  simp
  refine ⟨⟨by omega, by omega⟩, ?_⟩
  refine wp_runLc (I := fun ds acc ρ => ∃ st', SrcOk st' ∧ (∀ d ∈ acc, okD 30 1 d = true) ∧ acc.length + ds.length ≤ 6 ∧ ρ = [.own (.lst st') .bor, .val (.tuple [.str s, b, r]), .val (.int 6), .own (.lst keys) .loc, .unb]) ?_ ?_ _ _ _ ⟨st1, h1', by simp, by simp [rngD]; omega, rfl⟩
  · rintro d ds acc ρ ⟨st', hs', ha, hle, rfl⟩
    simp only [List.length_cons] at hle
    simp
    refine chosen_own hs' (by
      intro z
      rw [z] at lk
      simp at lk) (by omega) fun x st2 h2 hx => ?_
    have fin : ∃ st', SrcOk st' ∧ (∀ d ∈ acc ++ [x], okD 30 1 d = true) ∧ (acc ++ [x]).length + ds.length ≤ 6 ∧ [Slot.own (.lst st2) .bor, .val (.tuple [.str s, b, r]), .val (.int 6), .own (.lst keys) .loc, .unb] = [Slot.own (.lst st') .bor, .val (.tuple [.str s, b, r]), .val (.int 6), .own (.lst keys) .loc, .unb] :=
      ⟨st2, h2, fun y hy => by
        rcases List.mem_append.mp hy with hy | hy
        · exact ha y hy
        · rw [List.mem_singleton.mp hy]
          exact ok1 x hx, by simp; omega, rfl⟩
    have hlen : acc.length < sizeLine := by omega
    simpa [hlen] using fin
  · rintro acc ρ ⟨st', hs', ha, hle, rfl⟩
    simp only [List.length_nil] at hle
    simp
    exact q acc st' hs' (by omega) ha
end
def wrOk : D → Bool
  | .tuple [v, .bool b] => (tableB v == b) && okD 30 6 v
  | _ => false
end LF
end

-- part LFWp2
section
set_option Elab.async false
set_option linter.all false
set_option maxRecDepth 100000
set_option maxHeartbeats 2000000
namespace LF
open PySem PySem.Spec PyProof.Rows L2
section
variable {P : R → En → Prop} {Po : Out → En → Prop} {Pl : List R → En → Prop} {E : Exc → En → Prop} {ρ : En} {fa fb : EM R} {fs : EM (List R)}
/-! ### while -/
def whP (I : Nat → En → Prop) (n : Nat) (Po : Out → En → Prop) (ρ : En) : Out → Prop
  | .nx => ∃ m, m < n ∧ I m ρ
  | .ct => ∃ m, m < n ∧ I m ρ
  | .bk => Po .nx ρ
  | .rt r => Po (.rt r) ρ
@[simp] theorem whP_nx {I : Nat → En → Prop} {n : Nat} : whP I n Po ρ .nx = ∃ m, m < n ∧ I m ρ := rfl
@[simp] theorem whP_ct {I : Nat → En → Prop} {n : Nat} : whP I n Po ρ .ct = ∃ m, m < n ∧ I m ρ := rfl
@[simp] theorem whP_bk {I : Nat → En → Prop} {n : Nat} : whP I n Po ρ .bk = Po .nx ρ := rfl
@[simp] theorem whP_rt {I : Nat → En → Prop} {n : Nat} {r : R} : whP I n Po ρ (.rt r) = Po (.rt r) ρ := rfl
theorem wp_runWhile {c : EM Bool} {body : EM Out} (I : Nat → En → Prop) (h : ∀ n ρ, I n ρ → wp c ρ (fun k ρ1 => if k = true then wp body ρ1 (fun o ρ2 => whP I n Po ρ2 o) E else Po .nx ρ1) E) :
    ∀ (N n : Nat) (ρ : En), n < N → I n ρ → wp (runWhile c body N) ρ Po E
  | 0, n, ρ, hn, _ => by omega
  | N + 1, n, ρ, hn, hI => by
    have q := h n ρ hI
    show wp (EM.bind c fun k => if k = true then fun ρ => (body ρ).bind (turnOut (runWhile c body N)) else EM.pure .nx) ρ Po E
    rw [wp_bind]
    refine wp.mono q (fun k ρ1 q => ?_) fun _ _ z => z
    rw [wp_ite]
    split
    · rename_i hk
      rw [if_pos hk] at q
      unfold wp at q ⊢
      dsimp only
      cases hb : body ρ1 with
      | none =>
        rw [hb] at q
        exact q
      | some z =>
        rw [hb] at q
        rcases z with ⟨z | o, ρ2⟩
        · exact q
        · cases o with
          | nx =>
            obtain ⟨m, hm, q⟩ := q
            exact wp_runWhile I h N m ρ2 (by omega) q
          | ct =>
            obtain ⟨m, hm, q⟩ := q
            exact wp_runWhile I h N m ρ2 (by omega) q
          | bk => exact q
          | rt r => exact q
    · rename_i hk
      rw [if_neg hk] at q
      exact q
theorem wp_sWhile {c : EM Bool} {body : EM Out} (I : Nat → En → Prop) (n : Nat) (hn : n < 10 ^ 30) (hI : I n ρ) (h : ∀ n ρ, I n ρ → wp c ρ (fun k ρ1 => if k = true then wp body ρ1 (fun o ρ2 => whP I n Po ρ2 o) E else Po .nx ρ1) E) : wp (sWhile c body) ρ Po E :=
  wp_runWhile I h _ n ρ hn hI
/-! ### dicts -/
@[simp] theorem wp_eDnew : wp eDnew ρ P E = P (.fr (.dK [])) ρ := rfl
@[simp] theorem ownK_loc {xs : List (Key × D)} : ownK (some (.own (.dK xs) .loc)) = some (xs, .loc) := rfl
@[simp] theorem ownK_bor {xs : List (Key × D)} : ownK (some (.own (.dK xs) .bor)) = some (xs, .bor) := rfl
theorem M_dKd {xs : List (Key × D)} : M.d (.dK xs) = .dict (xs.map fun p => (dkey p.1, p.2)) := M_dK xs
def dictD (xs : List (Key × D)) : D := .dict (xs.map fun p => (dkey p.1, p.2))
@[simp] theorem M_dKD {xs : List (Key × D)} : M.d (.dK xs) = dictD xs := M_dK xs
@[simp] theorem gKeyIn_str {neg : Bool} {x : Str} {xs : List (Key × D)} : gKeyIn neg (.str x) (dictD xs) = some (.v (.bool (if neg then !(valD xs (.inr x)).isSome else (valD xs (.inr x)).isSome))) := by
  unfold dictD
  simp only [gKeyIn, unK_dkey]
  rfl
@[simp] theorem gKeyIx_str {x : Str} {xs : List (Key × D)} : gKeyIx (dictD xs) (.str x) = (valD xs (.inr x)).map .v := by
  unfold dictD
  simp only [gKeyIx, unK_dkey]
  rfl
@[simp] theorem keyD_str {x : Str} : keyD (.str x) = some (.inr x) := rfl
@[simp] theorem wp_sSetK {i : Nat} : wp (sSetK i fa fb) ρ Po E = wp fa ρ (fun r ρ1 => optP (ownK ρ1[i]?) fun _ => wp fb ρ1 (fun q ρ2 => optP ((rd q ρ2).bind keyD) fun k => fzR (fun d ρ3 => optP (ownK ρ3[i]?) fun p => if p.1.length < sizeLine then Po .nx (ρ3.set i (.own (.dK (putD p.1 k d)) p.2)) else False) ρ2 r) E) E := by
  unfold sSetK
  simp only [wp_bind]
  congr 1
  funext r ρ1
  rw [wp_opt (o := fun ρ => ownK ρ[i]?) (f := fun _ => EM.bind fb _)]
  congr 1
  funext _
  rw [wp_bind]
  congr 1
  funext q ρ2
  rw [wp_opt (o := fun ρ => (rd q ρ).bind keyD) (f := fun k => EM.bind (fz r) _)]
  congr 1
  funext k
  rw [wp_bind, wp_fz]
  congr 1
  funext d ρ3
  rw [wp_opt (o := fun ρ => ownK ρ[i]?) (f := fun p ρ => if p.1.length < sizeLine then some (Except.ok Out.nx, ρ.set i (.own (.dK (putD p.1 k d)) p.2)) else none)]
  congr 1
  funext p
  unfold wp
  dsimp only
  split <;> rfl
theorem valD_put (kvs : List (Key × D)) (k j : Key) (d : D) : valD (putD kvs k d) j = if j = k then some d else valD kvs j := by
  have hany : ∀ l : List (Key × D), (l.any fun kv => decide (kv.1 = k)) = (valD l k).isSome := by
    intro l
    induction l with
    | nil => rfl
    | cons p l ih =>
      unfold valD at ih ⊢
      by_cases e : p.1 = k
      · rw [List.any_cons, List.find?_cons_of_pos (by simpa using e)]
        simp [e]
      · rw [List.any_cons, List.find?_cons_of_neg (by simpa using e), ← ih]
        simp [e]
  unfold putD
  by_cases a : (kvs.any fun kv => decide (kv.1 = k)) = true
  · rw [if_pos a]
    have hm : ∀ l : List (Key × D), valD (l.map fun kv => if kv.1 = k then (kv.1, d) else kv) j = (valD l j).map fun x => if j = k then d else x := by
      intro l
      induction l with
      | nil => rfl
      | cons p l ih =>
        unfold valD at ih ⊢
        rw [List.map_cons]
        by_cases e : p.1 = k
        · rw [if_pos e]
          by_cases e2 : p.1 = j
          · rw [List.find?_cons_of_pos (by simpa using e2), List.find?_cons_of_pos (by simpa using e2)]
            simp [← e2, e]
          · rw [List.find?_cons_of_neg (by simpa using e2), List.find?_cons_of_neg (by simpa using e2), ih]
        · rw [if_neg e]
          by_cases e2 : p.1 = j
          · rw [List.find?_cons_of_pos (by simpa using e2), List.find?_cons_of_pos (by simpa using e2)]
            simp [← e2, e]
          · rw [List.find?_cons_of_neg (by simpa using e2), List.find?_cons_of_neg (by simpa using e2), ih]
    rw [hm]
    by_cases e : j = k
    · rw [hany] at a
      obtain ⟨x, hx⟩ := Option.isSome_iff_exists.mp a
      rw [if_pos e, e, hx]
      simp
    · rw [if_neg e]
      cases valD kvs j <;> simp [e]
  · rw [if_neg a]
    rw [hany] at a
    have hn : valD kvs k = none := by
      cases q : valD kvs k with
      | none => rfl
      | some x =>
        rw [q] at a
        exact (a rfl).elim
    have hs : ∀ l : List (Key × D), valD l k = none → valD (l ++ [(k, d)]) j = if j = k then some d else valD l j := by
      intro l
      induction l with
      | nil =>
        intro _
        unfold valD
        by_cases e : k = j
        · rw [List.nil_append, List.find?_cons_of_pos (by simpa using e), if_pos e.symm]
          rfl
        · rw [List.nil_append, List.find?_cons_of_neg (by simpa using e), if_neg fun z => e z.symm]
      | cons p l ih =>
        intro hl
        have hp : p.1 ≠ k := by
          intro z
          unfold valD at hl
          rw [List.find?_cons_of_pos (by simpa using z)] at hl
          cases hl
        have hl' : valD l k = none := by
          unfold valD at hl ⊢
          rwa [List.find?_cons_of_neg (by simpa using hp)] at hl
        have ih := ih hl'
        rw [List.cons_append]
        by_cases e2 : p.1 = j
        · have hj : j ≠ k := fun z => hp (e2.trans z)
          rw [if_neg hj]
          unfold valD
          rw [List.find?_cons_of_pos (by simpa using e2), List.find?_cons_of_pos (by simpa using e2)]
        · unfold valD at ih ⊢
          rw [List.find?_cons_of_neg (by simpa using e2), List.find?_cons_of_neg (by simpa using e2)]
          exact ih
    exact hs kvs hn
theorem putD_len (kvs : List (Key × D)) (k : Key) (d : D) : (putD kvs k d).length ≤ kvs.length + 1 := by
  unfold putD
  split
  · rw [List.length_map]
    omega
  · rw [List.length_append, List.length_singleton]
    omega
/-! ### a, b = x, y -/
def storNP (K : En → Prop) : List Nat → List R → En → Prop
  | [], [], ρ => K ρ
  | j :: js, .val d :: rs, ρ => if pinS ρ[j]? = true then False else storNP K js rs (ρ.set j (.val d))
  | j :: js, .fr m :: rs, ρ => if pinS ρ[j]? = true then False else storNP K js rs (ρ.set j (.own m .loc))
  | _, _, _ => False
@[simp] theorem storNP_nil {K : En → Prop} : storNP K [] [] ρ = K ρ := rfl
@[simp] theorem storNP_val {K : En → Prop} {j : Nat} {js : List Nat} {d : D} {rs : List R} : storNP K (j :: js) (.val d :: rs) ρ = if pinS ρ[j]? = true then False else storNP K js rs (ρ.set j (.val d)) := rfl
@[simp] theorem storNP_fr {K : En → Prop} {j : Nat} {js : List Nat} {m : M} {rs : List R} : storNP K (j :: js) (.fr m :: rs) ρ = if pinS ρ[j]? = true then False else storNP K js rs (ρ.set j (.own m .loc)) := rfl
theorem wp_storN {K : Unit → En → Prop} : ∀ {js : List Nat} {rs : List R} {ρ : En}, wp (storN js rs) ρ K E = storNP (K ()) js rs ρ
  | [], [], ρ => rfl
  | [], r :: rs, ρ => by cases r <;> rfl
  | j :: js, [], ρ => rfl
  | j :: js, .loc i :: rs, ρ => rfl
  | j :: js, .val d :: rs, ρ => by
    show wp (EM.bind (stor j (.val d)) fun _ => storN js rs) ρ K E = _
    rw [wp_bind]
    show resP _ _ ((stVal j d ρ).map fun ρ' => (Except.ok (), ρ')) = _
    rw [stVal_eq, pinned_eq]
    unfold storNP
    split
    · rfl
    · exact wp_storN
  | j :: js, .fr m :: rs, ρ => by
    show wp (EM.bind (stor j (.fr m)) fun _ => storN js rs) ρ K E = _
    rw [wp_bind]
    show resP _ _ (if pinned ρ j = true then none else some (Except.ok (), ρ.set j (.own m .loc))) = _
    rw [pinned_eq]
    unfold storNP
    split
    · rfl
    · exact wp_storN
@[simp] theorem wp_sPar {js : List Nat} : wp (sPar js fs) ρ Po E = wp fs ρ (fun rs ρ1 => storNP (fun ρ2 => Po .nx ρ2) js rs ρ1) E := by
  unfold sPar
  simp only [wp_bind, wp_storN, wp_pure]
/-! ### walks -/
@[simp] theorem wp_srcEnumT {f : EM R} {Ps : Src → En → Prop} : wp (srcEnumT f) ρ Ps E = wp f ρ (fun r ρ1 => optP (sEnumT (rd r ρ1)) fun s => Ps s ρ1) E := by
  unfold srcEnumT
  simp only [wp_bind]
  congr 1
  funext r ρ1
  exact wp_mapO (o := fun ρ => sEnumT (rd r ρ)) (g := id)
@[simp] theorem sEnumT_tuple {ds : List D} : sEnumT (some (.tuple ds)) = some (enumD ds, []) := rfl
def threeP (P : R → En → Prop) (ρ : En) (j1 j2 j3 : Nat) : Option Slot → Prop
  | some (.val (.str z)) => if z.cps.size ≤ 60 ∧ j1 < ρ.length ∧ j2 < ρ.length ∧ j3 < ρ.length then P (.fr (.lst ((threes z).map .str))) ρ else False
  | _ => False
@[simp] theorem threeP_str {j1 j2 j3 : Nat} {z : Str} : threeP P ρ j1 j2 j3 (some (.val (.str z))) = if z.cps.size ≤ 60 ∧ j1 < ρ.length ∧ j2 < ρ.length ∧ j3 < ρ.length then P (.fr (.lst ((threes z).map .str))) ρ else False := rfl
@[simp] theorem wp_eThree {i j1 j2 j3 : Nat} : wp (eThree i j1 j2 j3) ρ P E = threeP P ρ j1 j2 j3 ρ[i]? := by
  unfold wp eThree threeP
  cases ρ[i]? with
  | none => rfl
  | some s => cases s with
    | val d => cases d with
      | str z =>
        dsimp only
        split <;> rfl
      | _ => rfl
    | _ => rfl
end
end LF
end

-- part RwA
section
set_option linter.all false
/-! rewriting at the end of a text; a text stands with its last sign first -/
namespace Rw
abbrev Wd := List Nat
abbrev Rules := List (Wd × Wd)
def fitN (R : Rules) (w : Wd) : Option Nat := R.findIdx? fun r => r.1.isPrefixOf w
def stp (R : Rules) (w : Wd) : Option Wd := (fitN R w).bind fun n => R[n]?.map fun r => r.2 ++ w.drop r.1.length
structure Ok (R : Rules) : Prop where
  s1 : ∀ r ∈ R, 1 ≤ r.1.length
  s3 : ∀ r ∈ R, r.1.length ≤ 3
  l3 : ∀ r ∈ R, r.2.length ≤ 3
theorem pre_app : ∀ (r a u : Wd), r.length ≤ a.length → r.isPrefixOf (a ++ u) = r.isPrefixOf a
  | [], a, u, _ => by simp [List.isPrefixOf]
  | x :: r, [], u, h => by simp at h
  | x :: r, y :: a, u, h => by
    rw [List.cons_append, List.isPrefixOf, List.isPrefixOf, pre_app r a u (by simpa using h)]
theorem pre_len : ∀ {r a : Wd}, r.isPrefixOf a = true → r.length ≤ a.length
  | [], a, _ => by simp
  | x :: r, [], h => by simp [List.isPrefixOf] at h
  | x :: r, y :: a, h => by
    rw [List.isPrefixOf, Bool.and_eq_true] at h
    have := pre_len h.2
    simp only [List.length_cons]
    omega
theorem pre_eq : ∀ {r a : Wd}, r.isPrefixOf a = true → a = r ++ a.drop r.length
  | [], a, _ => by simp
  | x :: r, [], h => by simp [List.isPrefixOf] at h
  | x :: r, y :: a, h => by
    rw [List.isPrefixOf, Bool.and_eq_true] at h
    have e : x = y := by simpa using h.1
    have := pre_eq h.2
    simp only [List.length_cons, List.drop_succ_cons, List.cons_append]
    rw [← this, e]
theorem findIdx_ext {α : Type} {p q : α → Bool} : ∀ {l : List α}, (∀ x ∈ l, p x = q x) → l.findIdx? p = l.findIdx? q
  | [], _ => rfl
  | x :: l, h => by
    rw [List.findIdx?_cons, List.findIdx?_cons, h x List.mem_cons_self, findIdx_ext fun y hy => h y (List.mem_cons_of_mem _ hy)]
theorem findIdx_some {α : Type} {p : α → Bool} : ∀ {l : List α} {n : Nat}, l.findIdx? p = some n → ∃ x, l[n]? = some x ∧ p x = true
  | [], _, h => by simp at h
  | x :: l, n, h => by
    rw [List.findIdx?_cons] at h
    cases hp : p x with
    | true =>
      rw [hp] at h
      simp at h
      subst h
      exact ⟨x, rfl, hp⟩
    | false =>
      rw [hp] at h
      simp at h
      obtain ⟨m, hm, rfl⟩ := h
      obtain ⟨y, h1, h2⟩ := findIdx_some hm
      exact ⟨y, by simpa using h1, h2⟩
variable {R : Rules} {b : Bool}
theorem fit_rule {w : Wd} {n : Nat} (h : fitN R w = some n) : ∃ r, R[n]? = some r ∧ r ∈ R ∧ r.1.isPrefixOf w = true ∧ stp R w = some (r.2 ++ w.drop r.1.length) := by
  obtain ⟨r, h1, h2⟩ := findIdx_some h
  refine ⟨r, h1, List.mem_of_getElem? h1, h2, ?_⟩
  unfold stp
  rw [h]
  simp [h1]
theorem stp_none {w : Wd} : stp R w = none ↔ fitN R w = none := by
  constructor
  · intro h
    cases e : fitN R w with
    | none => rfl
    | some n =>
      obtain ⟨r, _, _, _, h2⟩ := fit_rule e
      rw [h] at h2
      cases h2
  · intro h
    unfold stp
    rw [h]
    rfl
theorem fit_app (ok : Ok R) {a : Wd} (u : Wd) (h : 3 ≤ a.length) : fitN R (a ++ u) = fitN R a :=
  findIdx_ext fun r hr => pre_app r.1 a u (Nat.le_trans (ok.s3 r hr) h)
theorem stp_app (ok : Ok R) {a : Wd} (u : Wd) (h : 3 ≤ a.length) : stp R (a ++ u) = (stp R a).map (· ++ u) := by
  cases e : fitN R a with
  | none =>
    rw [stp_none.mpr e, stp_none.mpr ((fit_app ok u h).trans e)]
    rfl
  | some n =>
    obtain ⟨r, h1, h2, h3, h4⟩ := fit_rule e
    obtain ⟨r', g1, g2, g3, g4⟩ := fit_rule ((fit_app ok u h).trans e)
    rw [h1] at g1
    injection g1 with g1
    subst g1
    rw [h4, g4, List.drop_append_of_le_length (pre_len h3)]
    simp
theorem stp_rule {w w' : Wd} (h : stp R w = some w') : ∃ r, r ∈ R ∧ r.1.isPrefixOf w = true ∧ w' = r.2 ++ w.drop r.1.length := by
  cases e : fitN R w with
  | none =>
    rw [stp_none.mpr e] at h
    cases h
  | some n =>
    obtain ⟨r, h1, h2, h3, h4⟩ := fit_rule e
    rw [h4] at h
    injection h with h
    exact ⟨r, h2, h3, h.symm⟩
theorem stp_len (ok : Ok R) {w w' : Wd} (h : stp R w = some w') : w'.length ≤ w.length + 2 ∧ w.length ≤ w'.length + 3 ∧ 1 ≤ w.length := by
  obtain ⟨r, h1, h2, rfl⟩ := stp_rule h
  have := pre_len h2
  have := ok.s1 r h1
  have := ok.s3 r h1
  have := ok.l3 r h1
  rw [List.length_append, List.length_drop]
  omega
def Over (S : Wd) (w : Wd) : Prop := ∀ c ∈ w, c ∈ S
def OverR (S : Wd) (R : Rules) : Prop := ∀ r ∈ R, Over S r.1 ∧ Over S r.2
theorem Over.app {S a u : Wd} (h : Over S a) (g : Over S u) : Over S (a ++ u) := fun c hc => (List.mem_append.mp hc).elim (h c) (g c)
theorem Over.drop {S a : Wd} (n : Nat) (h : Over S a) : Over S (a.drop n) := fun c hc => h c (List.mem_of_mem_drop hc)
theorem Over.take {S a : Wd} (n : Nat) (h : Over S a) : Over S (a.take n) := fun c hc => h c (List.mem_of_mem_take hc)
theorem stp_over {S w w' : Wd} (o : OverR S R) (hw : Over S w) (h : stp R w = some w') : Over S w' := by
  obtain ⟨r, h1, h2, rfl⟩ := stp_rule h
  exact (o r h1).2.app (hw.drop _)

/-! ### runs: b tells whether it is done again and again -/
/-- until fewer than three signs are left -/
inductive Need (R : Rules) (b : Bool) : Wd → Wd → Nat → Prop
  | nil {w : Wd} : w.length < 3 → Need R b w w 0
  | step {w w' r : Wd} {n : Nat} : b = true → 3 ≤ w.length → stp R w = some w' → Need R b w' r n → Need R b w r (n + 1)
/-- until it ends, with three signs or more -/
inductive End (R : Rules) (b : Bool) : Wd → Wd → Nat → Prop
  | stop {w : Wd} : 3 ≤ w.length → stp R w = none → End R b w w 0
  | once {w w' : Wd} : b = false → 3 ≤ w.length → stp R w = some w' → End R b w w' 1
  | step {w w' r : Wd} {n : Nat} : b = true → 3 ≤ w.length → stp R w = some w' → End R b w' r n → End R b w r (n + 1)
/-- of a whole text -/
inductive Fin (R : Rules) (b : Bool) : Wd → Wd → Nat → Prop
  | stop {w : Wd} : stp R w = none → Fin R b w w 0
  | once {w w' : Wd} : b = false → stp R w = some w' → Fin R b w w' 1
  | step {w w' r : Wd} {n : Nat} : b = true → stp R w = some w' → Fin R b w' r n → Fin R b w r (n + 1)
theorem Need.short {w r : Wd} {n : Nat} (h : Need R b w r n) : r.length < 3 := by
  induction h with
  | nil h => exact h
  | step _ _ _ _ ih => exact ih
theorem Need.det {w r r' : Wd} {n n' : Nat} (h : Need R b w r n) (h' : Need R b w r' n') : r = r' ∧ n = n' := by
  induction h generalizing r' n' with
  | nil h =>
    cases h' with
    | nil => exact ⟨rfl, rfl⟩
    | step _ h2 _ _ => omega
  | step hb h1 h2 _ ih =>
    cases h' with
    | nil h => omega
    | step _ _ g2 g3 =>
      rw [h2] at g2
      injection g2 with g2
      subst g2
      obtain ⟨e1, e2⟩ := ih g3
      exact ⟨e1, by rw [e2]⟩
theorem Fin.det {w r r' : Wd} {n n' : Nat} (h : Fin R b w r n) (h' : Fin R b w r' n') : r = r' ∧ n = n' := by
  induction h generalizing r' n' with
  | stop h =>
    cases h' with
    | stop => exact ⟨rfl, rfl⟩
    | once _ g =>
      rw [h] at g
      cases g
    | step _ g _ =>
      rw [h] at g
      cases g
  | once hb h =>
    cases h' with
    | stop g =>
      rw [h] at g
      cases g
    | once _ g =>
      rw [h] at g
      injection g with g
      exact ⟨g, rfl⟩
    | step g _ _ =>
      rw [hb] at g
      cases g
  | step hb h _ ih =>
    cases h' with
    | stop g =>
      rw [h] at g
      cases g
    | once g _ =>
      rw [hb] at g
      cases g
    | step _ g g3 =>
      rw [h] at g
      injection g with g
      subst g
      obtain ⟨e1, e2⟩ := ih g3
      exact ⟨e1, by rw [e2]⟩
theorem Need.need (ok : Ok R) {a r u r' : Wd} {n m : Nat} (h : Need R b a r n) (g : Need R b (r ++ u) r' m) : Need R b (a ++ u) r' (n + m) := by
  induction h with
  | nil h =>
    rw [Nat.zero_add]
    exact g
  | step hb h1 h2 _ ih =>
    have := ih g
    rw [Nat.add_right_comm]
    exact .step hb (by rw [List.length_append]; omega) (by rw [stp_app ok u h1, h2]; rfl) this
theorem Need.ends (ok : Ok R) {a r u t : Wd} {n m : Nat} (h : Need R b a r n) (g : End R b (r ++ u) t m) : End R b (a ++ u) t (n + m) := by
  induction h with
  | nil h =>
    rw [Nat.zero_add]
    exact g
  | step hb h1 h2 _ ih =>
    have := ih g
    rw [Nat.add_right_comm]
    exact .step hb (by rw [List.length_append]; omega) (by rw [stp_app ok u h1, h2]; rfl) this
theorem Need.fin (ok : Ok R) {a r u t : Wd} {n m : Nat} (h : Need R b a r n) (g : Fin R b (r ++ u) t m) : Fin R b (a ++ u) t (n + m) := by
  induction h with
  | nil h =>
    rw [Nat.zero_add]
    exact g
  | step hb h1 h2 _ ih =>
    have := ih g
    rw [Nat.add_right_comm]
    exact .step hb (by rw [stp_app ok u h1, h2]; rfl) this
theorem End.app (ok : Ok R) {a t : Wd} (u : Wd) {n : Nat} (h : End R b a t n) : End R b (a ++ u) (t ++ u) n := by
  induction h with
  | stop h1 h2 => exact .stop (by rw [List.length_append]; omega) (by rw [stp_app ok u h1, h2]; rfl)
  | once hb h1 h2 => exact .once hb (by rw [List.length_append]; omega) (by rw [stp_app ok u h1, h2]; rfl)
  | step hb h1 h2 _ ih => exact .step hb (by rw [List.length_append]; omega) (by rw [stp_app ok u h1, h2]; rfl) ih
theorem End.fin {a t : Wd} {n : Nat} (h : End R b a t n) : Fin R b a t n := by
  induction h with
  | stop h1 h2 => exact .stop h2
  | once hb h1 h2 => exact .once hb h2
  | step hb h1 h2 _ ih => exact .step hb h2 ih
/-- it neither ends nor gets short -/
structure Inf (R : Rules) (b : Bool) (w : Wd) : Prop where
  need : ∀ r n, ¬ Need R b w r n
  ends : ∀ r n, ¬ End R b w r n
def NoFin (R : Rules) (b : Bool) (w : Wd) : Prop := ∀ r n, ¬ Fin R b w r n
theorem Inf.out {w : Wd} (h : Inf R b w) : 3 ≤ w.length ∧ b = true ∧ ∃ w', stp R w = some w' ∧ Inf R b w' := by
  have h3 : 3 ≤ w.length := by
    by_cases z : w.length < 3
    · exact absurd (Need.nil z) (h.need _ _)
    · omega
  cases e : stp R w with
  | none => exact absurd (End.stop h3 e) (h.ends _ _)
  | some w' =>
    have hb : b = true := by
      cases hb : b with
      | true => rfl
      | false =>
        subst hb
        exact absurd (End.once rfl h3 e) (h.ends _ _)
    exact ⟨h3, hb, w', rfl, ⟨fun r n q => h.need _ _ (.step hb h3 e q), fun r n q => h.ends _ _ (.step hb h3 e q)⟩⟩
theorem Inf.noFin (ok : Ok R) {a : Wd} (h : Inf R b a) (u : Wd) : NoFin R b (a ++ u) := by
  intro r n
  induction n generalizing a with
  | zero =>
    intro g
    obtain ⟨h3, hb, w', e, _⟩ := h.out
    have e2 := stp_app ok u h3
    rw [e] at e2
    cases g with
    | stop g =>
      rw [g] at e2
      cases e2
  | succ n ih =>
    intro g
    obtain ⟨h3, hb, w', e, hi⟩ := h.out
    have e2 := stp_app ok u h3
    rw [e] at e2
    cases g with
    | once g _ =>
      rw [hb] at g
      cases g
    | step _ g1 g2 =>
      rw [g1] at e2
      injection e2 with e2
      subst e2
      exact ih hi g2
theorem Need.finInv (ok : Ok R) {a r u t : Wd} {n k : Nat} (h : Need R b a r n) (g : Fin R b (a ++ u) t k) : n ≤ k ∧ Fin R b (r ++ u) t (k - n) := by
  induction h generalizing k with
  | nil h => exact ⟨Nat.zero_le _, by simpa using g⟩
  | step hb h1 h2 _ ih =>
    have e2 := stp_app ok u h1
    rw [h2] at e2
    cases g with
    | stop g =>
      rw [g] at e2
      cases e2
    | once g _ =>
      rw [hb] at g
      cases g
    | step _ g1 g2 =>
      rw [g1] at e2
      injection e2 with e2
      subst e2
      obtain ⟨q1, q2⟩ := ih g2
      exact ⟨by omega, by rw [Nat.add_sub_add_right]; exact q2⟩
theorem Need.noFin (ok : Ok R) {a r u : Wd} {n : Nat} (h : Need R b a r n) (g : NoFin R b (r ++ u)) : NoFin R b (a ++ u) := fun t k q => g t _ (h.finInv ok q).2
theorem Need.needInv (ok : Ok R) {a r u t : Wd} {n k : Nat} (h : Need R b a r n) (g : Need R b (a ++ u) t k) : n ≤ k ∧ Need R b (r ++ u) t (k - n) := by
  induction h generalizing k with
  | nil h => exact ⟨Nat.zero_le _, by simpa using g⟩
  | step hb h1 h2 _ ih =>
    have e2 := stp_app ok u h1
    rw [h2] at e2
    cases g with
    | nil g =>
      rw [List.length_append] at g
      omega
    | step _ _ g1 g2 =>
      rw [g1] at e2
      injection e2 with e2
      subst e2
      obtain ⟨q1, q2⟩ := ih g2
      exact ⟨by omega, by rw [Nat.add_sub_add_right]; exact q2⟩
theorem Need.endInv (ok : Ok R) {a r u t : Wd} {n k : Nat} (h : Need R b a r n) (g : End R b (a ++ u) t k) : n ≤ k ∧ End R b (r ++ u) t (k - n) := by
  induction h generalizing k with
  | nil h => exact ⟨Nat.zero_le _, by simpa using g⟩
  | step hb h1 h2 _ ih =>
    have e2 := stp_app ok u h1
    rw [h2] at e2
    cases g with
    | stop _ g =>
      rw [g] at e2
      cases e2
    | once g _ _ =>
      rw [hb] at g
      cases g
    | step _ _ g1 g2 =>
      rw [g1] at e2
      injection e2 with e2
      subst e2
      obtain ⟨q1, q2⟩ := ih g2
      exact ⟨by omega, by rw [Nat.add_sub_add_right]; exact q2⟩
/-- what gets short is short at its end before -/
theorem Need.cut (ok : Ok R) : ∀ {k : Nat} {a u t : Wd}, Need R b (a ++ u) t k → ∃ r n, n ≤ k ∧ Need R b a r n
  | 0, a, u, t, h => by
    cases h with
    | nil h =>
      rw [List.length_append] at h
      exact ⟨a, 0, Nat.le_refl _, .nil (by omega)⟩
  | k + 1, a, u, t, h => by
    by_cases z : a.length < 3
    · exact ⟨a, 0, Nat.zero_le _, .nil z⟩
    · cases h with
      | step hb h1 h2 h3 =>
        have e2 := stp_app ok u (show 3 ≤ a.length by omega)
        rw [h2] at e2
        cases e : stp R a with
        | none =>
          rw [e] at e2
          cases e2
        | some w' =>
          rw [e] at e2
          injection e2 with e2
          subst e2
          obtain ⟨r, n, q1, q2⟩ := Need.cut ok h3
          exact ⟨r, n + 1, by omega, .step hb (by omega) e q2⟩
theorem End.cut (ok : Ok R) : ∀ {k : Nat} {a u t : Wd}, End R b (a ++ u) t k → ∃ r n, n ≤ k ∧ (Need R b a r n ∨ End R b a r n)
  | 0, a, u, t, h => by
    by_cases z : a.length < 3
    · exact ⟨a, 0, Nat.zero_le _, .inl (.nil z)⟩
    · cases h with
      | stop h1 h2 =>
        have e2 := stp_app ok u (show 3 ≤ a.length by omega)
        rw [h2] at e2
        cases e : stp R a with
        | none => exact ⟨a, 0, Nat.le_refl _, .inr (.stop (by omega) e)⟩
        | some w' =>
          rw [e] at e2
          cases e2
  | k + 1, a, u, t, h => by
    by_cases z : a.length < 3
    · exact ⟨a, 0, Nat.zero_le _, .inl (.nil z)⟩
    · have e2 := stp_app ok u (show 3 ≤ a.length by omega)
      cases h with
      | once hb h1 h2 =>
        rw [h2] at e2
        cases e : stp R a with
        | none =>
          rw [e] at e2
          cases e2
        | some w' => exact ⟨w', 1, by omega, .inr (.once hb (by omega) e)⟩
      | step hb h1 h2 h3 =>
        rw [h2] at e2
        cases e : stp R a with
        | none =>
          rw [e] at e2
          cases e2
        | some w' =>
          rw [e] at e2
          injection e2 with e2
          subst e2
          obtain ⟨r, n, q1, q2⟩ := End.cut ok h3
          refine ⟨r, n + 1, by omega, ?_⟩
          rcases q2 with q2 | q2
          · exact .inl (.step hb (by omega) e q2)
          · exact .inr (.step hb (by omega) e q2)
theorem Need.over {S w r : Wd} {n : Nat} (o : OverR S R) (h : Need R b w r n) (hw : Over S w) : Over S r := by
  induction h with
  | nil => exact hw
  | step _ _ h2 _ ih => exact ih (stp_over o hw h2)
theorem End.over {S w r : Wd} {n : Nat} (o : OverR S R) (h : End R b w r n) (hw : Over S w) : Over S r := by
  induction h with
  | stop => exact hw
  | once _ _ h2 => exact stp_over o hw h2
  | step _ _ h2 _ ih => exact ih (stp_over o hw h2)
theorem Fin.over {S w r : Wd} {n : Nat} (o : OverR S R) (h : Fin R b w r n) (hw : Over S w) : Over S r := by
  induction h with
  | stop => exact hw
  | once _ h2 => exact stp_over o hw h2
  | step _ h2 _ ih => exact ih (stp_over o hw h2)
end Rw
end

-- part RwB
section
set_option linter.all false
namespace Rw
inductive Rs where
  | need (r : Wd) (n : Nat) | ends (t : Wd) (n : Nat) | endl
def settle (f : Wd → Option Rs) (w : Wd) (k : Nat) : Option Rs :=
  if h : 3 ≤ w.length then
    match f (w.take 3) with
    | none => none
    | some .endl => some .endl
    | some (.ends t n) => some (.ends (t ++ w.drop 3) (k + n))
    | some (.need r n) => if h2 : r.length < 3 then settle f (r ++ w.drop 3) (k + n) else none
  else some (.need w k)
termination_by w.length
decreasing_by
  rw [List.length_append, List.length_drop]
  omega
def Cor (R : Rules) (b : Bool) (t : Wd) : Rs → Prop
  | .need r n => Need R b t r n
  | .ends r n => End R b t r n
  | .endl => Inf R b t
def CorK (R : Rules) (b : Bool) (t : Wd) (k : Nat) : Rs → Prop
  | .need r m => ∃ n, m = k + n ∧ Need R b t r n
  | .ends r m => ∃ n, m = k + n ∧ End R b t r n
  | .endl => Inf R b t
variable {R : Rules} {b : Bool} {f : Wd → Option Rs} {S : Wd}
theorem Inf.app (ok : Ok R) {a : Wd} (h : Inf R b a) (u : Wd) : Inf R b (a ++ u) :=
  ⟨fun r n q => by
    obtain ⟨r', n', _, q'⟩ := Need.cut ok q
    exact h.need _ _ q', fun r n q => by
    obtain ⟨r', n', _, q' | q'⟩ := End.cut ok q
    · exact h.need _ _ q'
    · exact h.ends _ _ q'⟩
theorem td (w : Wd) : w.take 3 ++ w.drop 3 = w := List.take_append_drop 3 w
theorem settle_cor (ok : Ok R) (hf : ∀ t x, f t = some x → Cor R b t x) : ∀ (L : Nat) (w : Wd) (k : Nat) (x : Rs), w.length ≤ L → settle f w k = some x → CorK R b w k x := by
  intro L
  induction L with
  | zero =>
    intro w k x hl h
    rw [settle, dif_neg (by omega)] at h
    injection h with h
    subst h
    exact ⟨0, rfl, .nil (by omega)⟩
  | succ L ih =>
    intro w k x hl h
    rw [settle] at h
    by_cases h3 : 3 ≤ w.length
    · rw [dif_pos h3] at h
      have e := td w
      cases hx : f (w.take 3) with
      | none =>
        rw [hx] at h
        cases h
      | some y =>
        have c := hf _ _ hx
        rw [hx] at h
        cases y with
        | endl =>
          injection h with h
          subst h
          have := Inf.app ok (u := w.drop 3) c
          rw [e] at this
          exact this
        | ends t n =>
          injection h with h
          subst h
          refine ⟨n, rfl, ?_⟩
          have := End.app ok (w.drop 3) c
          rw [e] at this
          exact this
        | need r n =>
          have c : Need R b (w.take 3) r n := c
          have h2 := c.short
          simp only [dif_pos h2] at h
          have q := ih (r ++ w.drop 3) (k + n) x (by rw [List.length_append, List.length_drop]; omega) h
          cases x with
          | need r' m =>
            obtain ⟨m', e1, q⟩ := q
            refine ⟨n + m', by omega, ?_⟩
            have := c.need ok q
            rw [e] at this
            exact this
          | ends r' m =>
            obtain ⟨m', e1, q⟩ := q
            refine ⟨n + m', by omega, ?_⟩
            have := c.ends ok q
            rw [e] at this
            exact this
          | endl =>
            refine ⟨fun r' m q' => ?_, fun r' m q' => ?_⟩
            · rw [← e] at q'
              exact q.need _ _ (c.needInv ok q').2
            · rw [← e] at q'
              exact q.ends _ _ (c.endInv ok q').2
    · rw [dif_neg h3] at h
      injection h with h
      subst h
      exact ⟨0, rfl, .nil (by omega)⟩
/-- where it is not known so far, that hangs on three signs that are not known -/
theorem settle_none (ok : Ok R) (o : OverR S R) (hf : ∀ t x, f t = some x → Cor R b t x) : ∀ (L : Nat) (w : Wd) (k : Nat), w.length ≤ L → Over S w → settle f w k = none →
    ∃ t, t.length = 3 ∧ Over S t ∧ f t = none ∧ (∀ r m, Need R b w r m → ∃ r' m', m' ≤ m ∧ Need R b t r' m') ∧ ∀ r m, End R b w r m → ∃ r' m', m' ≤ m ∧ (Need R b t r' m' ∨ End R b t r' m') := by
  intro L
  induction L with
  | zero =>
    intro w k hl _ h
    rw [settle, dif_neg (by omega)] at h
    cases h
  | succ L ih =>
    intro w k hl hS h
    rw [settle] at h
    by_cases h3 : 3 ≤ w.length
    · rw [dif_pos h3] at h
      have e := td w
      cases hx : f (w.take 3) with
      | none =>
        refine ⟨w.take 3, by rw [List.length_take]; omega, hS.take 3, hx, fun r m q => ?_, fun r m q => ?_⟩
        · rw [← e] at q
          obtain ⟨r', m', q1, q2⟩ := Need.cut ok q
          exact ⟨r', m', q1, q2⟩
        · rw [← e] at q
          obtain ⟨r', m', q1, q2⟩ := End.cut ok q
          exact ⟨r', m', q1, q2⟩
      | some y =>
        have c := hf _ _ hx
        rw [hx] at h
        cases y with
        | endl => cases h
        | ends t n => cases h
        | need r n =>
          have c : Need R b (w.take 3) r n := c
          have h2 := c.short
          simp only [dif_pos h2] at h
          obtain ⟨t, t1, t2, t3, t4, t5⟩ := ih (r ++ w.drop 3) (k + n) (by rw [List.length_append, List.length_drop]; omega) ((c.over o (hS.take 3)).app (hS.drop 3)) h
          refine ⟨t, t1, t2, t3, fun r' m q => ?_, fun r' m q => ?_⟩
          · rw [← e] at q
            obtain ⟨r2, m2, g1, g2⟩ := t4 _ _ (c.needInv ok q).2
            exact ⟨r2, m2, by omega, g2⟩
          · rw [← e] at q
            obtain ⟨r2, m2, g1, g2⟩ := t5 _ _ (c.endInv ok q).2
            exact ⟨r2, m2, by omega, g2⟩
    · rw [dif_neg h3] at h
      cases h
def Rs.up : Rs → Rs
  | .need r n => .need r (n + 1)
  | .ends r n => .ends r (n + 1)
  | .endl => .endl
def topRes (R : Rules) (b : Bool) (f : Wd → Option Rs) (t : Wd) : Option Rs := match stp R t with
  | none => some (.ends t 0)
  | some w => if b = true then (settle f w 0).map Rs.up else some (.ends w 1)
theorem topRes_cor (ok : Ok R) (hf : ∀ t x, f t = some x → Cor R b t x) {t : Wd} (ht : t.length = 3) {x : Rs} (h : topRes R b f t = some x) : Cor R b t x := by
  unfold topRes at h
  cases e : stp R t with
  | none =>
    rw [e] at h
    injection h with h
    subst h
    exact .stop (by omega) e
  | some w =>
    rw [e] at h
    have h : (if b = true then (settle f w 0).map Rs.up else some (.ends w 1)) = some x := h
    by_cases hb : b = true
    · rw [if_pos hb] at h
      cases hs : settle f w 0 with
      | none =>
        rw [hs] at h
        cases h
      | some y =>
        rw [hs] at h
        injection h with h
        subst h
        have c := settle_cor ok hf w.length w 0 y (Nat.le_refl _) hs
        cases y with
        | need r n =>
          obtain ⟨m, e1, c⟩ := c
          rw [Nat.zero_add] at e1
          subst e1
          exact .step hb (by omega) e c
        | ends r n =>
          obtain ⟨m, e1, c⟩ := c
          rw [Nat.zero_add] at e1
          subst e1
          exact .step hb (by omega) e c
        | endl =>
          refine ⟨fun r n q => ?_, fun r n q => ?_⟩
          · cases q with
            | nil q => omega
            | step _ _ q1 q2 =>
              rw [e] at q1
              injection q1 with q1
              subst q1
              exact c.need _ _ q2
          · cases q with
            | stop _ q =>
              rw [e] at q
              cases q
            | once q _ _ =>
              rw [hb] at q
              cases q
            | step _ _ q1 q2 =>
              rw [e] at q1
              injection q1 with q1
              subst q1
              exact c.ends _ _ q2
    · rw [if_neg hb] at h
      injection h with h
      subst h
      exact .once (by simpa using hb) (by omega) e
/-- where nothing more gets known, the rest is endless -/
theorem rest_inf (ok : Ok R) (o : OverR S R) (hf : ∀ t x, f t = some x → Cor R b t x) (fix : ∀ t, t.length = 3 → Over S t → f t = none → topRes R b f t = none) :
    ∀ t, t.length = 3 → Over S t → f t = none → Inf R b t := by
  have key : ∀ n t, t.length = 3 → Over S t → f t = none → ∀ r m, m < n → ¬ Need R b t r m ∧ ¬ End R b t r m := by
    intro n
    induction n with
    | zero => exact fun _ _ _ _ _ _ h => by omega
    | succ n ih =>
      intro t t1 t2 t3 r m hm
      have hn := fix t t1 t2 t3
      unfold topRes at hn
      cases e : stp R t with
      | none =>
        rw [e] at hn
        cases hn
      | some w =>
        rw [e] at hn
        have hn : (if b = true then (settle f w 0).map Rs.up else some (.ends w 1)) = none := hn
        by_cases hb : b = true
        · rw [if_pos hb] at hn
          have hs : settle f w 0 = none := by
            cases q : settle f w 0 with
            | none => rfl
            | some y =>
              rw [q] at hn
              cases hn
          obtain ⟨t', g1, g2, g3, g4, g5⟩ := settle_none ok o hf w.length w 0 (Nat.le_refl _) (stp_over o t2 e) hs
          refine ⟨fun q => ?_, fun q => ?_⟩
          · cases q with
            | nil q => omega
            | step _ _ q1 q2 =>
              rw [e] at q1
              injection q1 with q1
              subst q1
              obtain ⟨r', m', k1, k2⟩ := g4 _ _ q2
              exact (ih t' g1 g2 g3 r' m' (by omega)).1 k2
          · cases q with
            | stop _ q =>
              rw [e] at q
              cases q
            | once q _ _ =>
              rw [hb] at q
              cases q
            | step _ _ q1 q2 =>
              rw [e] at q1
              injection q1 with q1
              subst q1
              obtain ⟨r', m', k1, k2⟩ := g5 _ _ q2
              rcases k2 with k2 | k2
              · exact (ih t' g1 g2 g3 r' m' (by omega)).1 k2
              · exact (ih t' g1 g2 g3 r' m' (by omega)).2 k2
        · rw [if_neg hb] at hn
          cases hn
  exact fun t t1 t2 t3 => ⟨fun r m => (key (m + 1) t t1 t2 t3 r m (by omega)).1, fun r m => (key (m + 1) t t1 t2 t3 r m (by omega)).2⟩
/-! ### v comes to w in j steps -/
structure Red (R : Rules) (b : Bool) (v w : Wd) (j : Nat) : Prop where
  fwd : ∀ t m, Fin R b w t m → Fin R b v t (j + m)
  bwd : ∀ t m, Fin R b v t m → j ≤ m ∧ Fin R b w t (m - j)
theorem Red.refl (v : Wd) : Red R b v v 0 := ⟨fun t m h => by rw [Nat.zero_add]; exact h, fun t m h => ⟨Nat.zero_le _, h⟩⟩
theorem Red.trans {u v w : Wd} {i j : Nat} (h : Red R b u v i) (g : Red R b v w j) : Red R b u w (i + j) :=
  ⟨fun t m q => by rw [Nat.add_assoc]; exact h.fwd _ _ (g.fwd _ _ q), fun t m q => by
    obtain ⟨h1, h2⟩ := h.bwd _ _ q
    obtain ⟨g1, g2⟩ := g.bwd _ _ h2
    exact ⟨by omega, by rw [← Nat.sub_sub]; exact g2⟩⟩
theorem Red.need (ok : Ok R) {a r : Wd} {n : Nat} (h : Need R b a r n) (u : Wd) : Red R b (a ++ u) (r ++ u) n := ⟨fun t m q => h.fin ok q, fun t m q => h.finInv ok q⟩
theorem Red.stp (hb : b = true) {v w : Wd} (h : stp R v = some w) : Red R b v w 1 :=
  ⟨fun t m q => by rw [Nat.add_comm]; exact .step hb h q, fun t m q => by
    cases q with
    | stop q =>
      rw [h] at q
      cases q
    | once q _ =>
      rw [hb] at q
      cases q
    | step _ q1 q2 =>
      rw [h] at q1
      injection q1 with q1
      subst q1
      exact ⟨by omega, by simpa using q2⟩⟩
theorem Red.noFin {v w : Wd} {j : Nat} (h : Red R b v w j) (g : NoFin R b w) : NoFin R b v := fun t m q => g t _ (h.bwd t m q).2
theorem Red.loop {v : Wd} {j : Nat} (h : Red R b v v j) (hj : 1 ≤ j) : NoFin R b v := by
  intro t m
  induction m using Nat.strongRecOn with
  | ind m ih =>
    intro q
    obtain ⟨h1, h2⟩ := h.bwd t m q
    exact ih (m - j) (by omega) h2
end Rw
end

-- part RwC
section
set_option linter.all false
namespace Rw
/-! ### lists without doubles -/
section
variable {α : Type}
theorem sum_sub {f : α → Nat} : ∀ {J M : List α}, J.Nodup → (∀ i ∈ J, i ∈ M) → (J.map f).sum ≤ (M.map f).sum
  | [], _, _, _ => by simp
  | i :: J, M, h, s => by
    obtain ⟨h1, h2⟩ := List.nodup_cons.mp h
    obtain ⟨A, B, e⟩ := List.append_of_mem (s i List.mem_cons_self)
    have ih := sum_sub (f := f) (J := J) (M := A ++ B) h2 fun j hj => by
      have hm := s j (List.mem_cons_of_mem _ hj)
      rw [e] at hm
      have hne : j ≠ i := fun z => h1 (z ▸ hj)
      simp only [List.mem_append, List.mem_cons] at hm ⊢
      rcases hm with hm | hm | hm
      · exact .inl hm
      · exact absurd hm hne
      · exact .inr hm
    rw [e]
    simp only [List.map_append, List.map_cons, List.sum_append, List.sum_cons] at ih ⊢
    omega
theorem len_sub {J M : List α} (h : J.Nodup) (s : ∀ i ∈ J, i ∈ M) : J.length ≤ M.length := by
  have := sum_sub (f := fun _ => 1) h s
  have e : ∀ l : List α, (l.map fun _ => 1).sum = l.length := by
    intro l
    induction l with
    | nil => rfl
    | cons a l ih => simp [ih]; omega
  rwa [e, e] at this
theorem cover_sub {J M : List α} (h : J.Nodup) (s : ∀ i ∈ J, i ∈ M) (l : M.length ≤ J.length) : ∀ i ∈ M, i ∈ J := by
  intro i hi
  refine Classical.byContradiction fun hn => ?_
  have := len_sub (J := i :: J) (M := M) (List.nodup_cons.mpr ⟨hn, h⟩) fun j hj => by
    rcases List.mem_cons.mp hj with rfl | hj
    · exact hi
    · exact s j hj
  simp only [List.length_cons] at this
  omega
def sumlt (M : List α) (f : α → Nat) (v : Nat) : Nat := ((M.filter fun i => decide (f i < v)).map f).sum
def cntlt (M : List α) (f : α → Nat) (v : Nat) : Nat := (M.filter fun i => decide (f i < v)).length
def cnteq (M : List α) (f : α → Nat) (v : Nat) : Nat := (M.filter fun i => decide (f i = v)).length
theorem sumlt_succ (M : List α) (f : α → Nat) (v : Nat) : sumlt M f (v + 1) = sumlt M f v + v * cnteq M f v := by
  unfold sumlt cnteq
  induction M with
  | nil => rfl
  | cons a M ih =>
    by_cases h1 : f a < v
    · rw [List.filter_cons_of_pos (by simp; omega), List.filter_cons_of_pos (by simpa using h1), List.filter_cons_of_neg (by simp; omega)]
      simp only [List.map_cons, List.sum_cons]
      omega
    · by_cases h2 : f a = v
      · rw [List.filter_cons_of_pos (by simp; omega), List.filter_cons_of_neg (by simpa using h1), List.filter_cons_of_pos (by simpa using h2)]
        simp only [List.map_cons, List.sum_cons, List.length_cons, Nat.mul_add, Nat.mul_one]
        omega
      · rw [List.filter_cons_of_neg (by simp; omega), List.filter_cons_of_neg (by simpa using h1), List.filter_cons_of_neg (by simpa using h2)]
        exact ih
theorem cntlt_succ (M : List α) (f : α → Nat) (v : Nat) : cntlt M f (v + 1) = cntlt M f v + cnteq M f v := by
  unfold cntlt cnteq
  induction M with
  | nil => rfl
  | cons a M ih =>
    by_cases h1 : f a < v
    · rw [List.filter_cons_of_pos (by simp; omega), List.filter_cons_of_pos (by simpa using h1), List.filter_cons_of_neg (by simp; omega)]
      simp only [List.length_cons]
      omega
    · by_cases h2 : f a = v
      · rw [List.filter_cons_of_pos (by simp; omega), List.filter_cons_of_neg (by simpa using h1), List.filter_cons_of_pos (by simpa using h2)]
        simp only [List.length_cons]
        omega
      · rw [List.filter_cons_of_neg (by simp; omega), List.filter_cons_of_neg (by simpa using h1), List.filter_cons_of_neg (by simpa using h2)]
        exact ih
theorem sumlt_mono (M : List α) (f : α → Nat) {v v' : Nat} (h : v ≤ v') : sumlt M f v ≤ sumlt M f v' := by
  induction h with
  | refl => exact Nat.le_refl _
  | step _ ih =>
    rw [sumlt_succ]
    omega
theorem three_pow (k : Nat) : 1 + 2 * k ≤ 3 ^ k := by
  induction k with
  | zero => simp
  | succ k ih =>
    rw [Nat.pow_succ]
    omega
theorem sum_pow {M : List α} {f : α → Nat} (h : ∀ i ∈ M, f i ≤ 1 + 2 * sumlt M f (f i)) (v : Nat) : 2 * sumlt M f v + 1 ≤ 3 ^ cntlt M f v := by
  induction v with
  | zero =>
    have e : sumlt M f 0 = 0 := by
      unfold sumlt
      rw [List.filter_eq_nil_iff.mpr (by simp)]
      rfl
    rw [e]
    exact Nat.one_le_pow _ _ (by decide)
  | succ v ih =>
    rw [sumlt_succ, cntlt_succ]
    by_cases z : cnteq M f v = 0
    · rw [z, Nat.mul_zero, Nat.add_zero, Nat.add_zero]
      exact ih
    · have : ∃ i ∈ M, f i = v := by
        refine Classical.byContradiction fun hn => z ?_
        unfold cnteq
        rw [List.filter_eq_nil_iff.mpr]
        · rfl
        · intro i hi
          simp only [decide_eq_true_eq]
          exact fun q => hn ⟨i, hi, q⟩
      obtain ⟨i, hi, rfl⟩ := this
      have hv := h i hi
      generalize cnteq M f (f i) = k at *
      generalize sumlt M f (f i) = s at *
      generalize cntlt M f (f i) = c at *
      have t := three_pow k
      rw [Nat.pow_add]
      have m1 : (2 * s + 1) * (1 + 2 * k) ≤ 3 ^ c * 3 ^ k := Nat.mul_le_mul ih t
      have m2 : f i * k ≤ (1 + 2 * s) * k := Nat.mul_le_mul_right k hv
      have e1 : (2 * s + 1) * (1 + 2 * k) = 2 * s + 1 + 2 * ((1 + 2 * s) * k) := by
        rw [Nat.mul_add, Nat.mul_one]
        have : (2 * s + 1) * (2 * k) = 2 * ((1 + 2 * s) * k) := by
          rw [Nat.mul_comm 2 k, ← Nat.mul_assoc, Nat.mul_comm _ 2, Nat.add_comm]
        omega
      omega
theorem sumlt_pow {M : List α} {f : α → Nat} (h : ∀ i ∈ M, f i ≤ 1 + 2 * sumlt M f (f i)) (v : Nat) : 2 * sumlt M f v + 1 ≤ 3 ^ M.length :=
  Nat.le_trans (sum_pow h v) (Nat.pow_le_pow_right (by decide) (List.length_filter_le _ _))
end
/-! ### what three signs cost until they get short -/
section
variable {R : Rules} {S : Wd}
open Classical in
noncomputable def cst (R : Rules) (w : Wd) : Nat := if h : ∃ n r, Need R true w r n then h.choose else 0
theorem cst_eq {w r : Wd} {n : Nat} (h : Need R true w r n) : cst R w = n := by
  unfold cst
  have e : ∃ n r, Need R true w r n := ⟨n, r, h⟩
  rw [dif_pos e]
  obtain ⟨r', h'⟩ := e.choose_spec
  exact (h'.det h).2
abbrev Item := Bool × Wd
def itemsOf (S : Wd) (r : Wd × Wd) : List Item := if r.1.length = 1 then S.map fun y => (true, r.2 ++ [y]) else [(decide (r.1.length ≤ 2), r.2)]
def items (S : Wd) (R : Rules) : List Item := R.flatMap (itemsOf S)
open Classical in
noncomputable def pay (R : Rules) (i : Item) : Nat := if ∃ n r, Need R true i.2 r n then 1 + cst R i.2 else 0
theorem pay_eq {v r : Wd} {n : Nat} {k : Bool} (h : Need R true v r n) : pay R (k, v) = 1 + n := by
  unfold pay
  rw [if_pos ⟨n, r, h⟩, cst_eq h]
theorem drop_split (t : Wd) (s : Nat) (h : s ≤ 2) : t.drop s = (t.drop s).take (2 - s) ++ t.drop 2 := by
  have := List.take_append_drop (2 - s) (t.drop s)
  rw [List.drop_drop] at this
  rw [show s + (2 - s) = 2 by omega] at this
  exact this.symm
theorem chain (ok : Ok R) (o : OverR S R) : ∀ (n : Nat) (t r : Wd), t.length = 3 → Over S t → Need R true t r n →
    ∃ J : List Item, J.Nodup ∧ (∀ i ∈ J, i ∈ items S R ∧ pay R i ≤ n) ∧ n ≤ (J.map (pay R)).sum ∧ ∀ v, (true, v) ∈ J → ∃ r' m, Need R true (v ++ t.drop 2) r' m ∧ m + 1 ≤ n := by
  intro n
  induction n using Nat.strongRecOn with
  | ind n ih =>
    intro t r ht hS h
    cases h with
    | nil h => omega
    | @step _ w1 _ m hb h1 h2 h3 =>
      obtain ⟨p, p1, p2, p3⟩ := stp_rule h2
      have l1 := ok.s1 p p1
      have l3 := ok.s3 p p1
      by_cases hs : p.1.length = 3
      · -- a short form of three signs
        have e : w1 = p.2 := by
          rw [p3, List.drop_eq_nil_of_le (by omega), List.append_nil]
        subst e
        have hp : pay R (false, p.2) = 1 + m := pay_eq h3
        refine ⟨[(false, p.2)], by simp, fun i hi => ?_, ?_, fun v hv => ?_⟩
        · rw [List.mem_singleton.mp hi]
          refine ⟨List.mem_flatMap.mpr ⟨p, p1, ?_⟩, by omega⟩
          unfold itemsOf
          rw [if_neg (by omega)]
          simp
          omega
        · simp [hp]
          omega
        · simp at hv
      · have e : w1 = (p.2 ++ (t.drop p.1.length).take (2 - p.1.length)) ++ t.drop 2 := by
          rw [p3, List.append_assoc, ← drop_split t _ (by omega)]
        generalize hv : p.2 ++ (t.drop p.1.length).take (2 - p.1.length) = v at e
        have him : (true, v) ∈ items S R := by
          refine List.mem_flatMap.mpr ⟨p, p1, ?_⟩
          unfold itemsOf
          by_cases hq : p.1.length = 1
          · rw [if_pos hq]
            refine List.mem_map.mpr ?_
            have : ∃ z y x, t = [z, y, x] := match t, ht with
              | [z, y, x], _ => ⟨z, y, x, rfl⟩
            obtain ⟨z, y, x, et⟩ := this
            refine ⟨y, hS y (by rw [et]; simp), ?_⟩
            rw [← hv, hq, et]
            rfl
          · rw [if_neg hq, ← hv, show p.1.length = 2 by omega]
            simp
        subst e
        obtain ⟨r1, n1, hn1, hr1⟩ := Need.cut ok h3
        obtain ⟨_, h4⟩ := hr1.needInv ok h3
        have hp : pay R (true, v) = 1 + n1 := pay_eq hr1
        by_cases hl : r1.length = 2
        · have hvS : Over S v := by
            rw [← hv]
            exact (o p p1).2.app ((hS.drop _).take _)
          have ed : (r1 ++ t.drop 2).drop 2 = t.drop 2 := by
            rw [List.drop_append_of_le_length (by omega), List.drop_eq_nil_of_le (by omega), List.nil_append]
          obtain ⟨J, j1, j2, j3, j4⟩ := ih (m - n1) (by omega) (r1 ++ t.drop 2) r (by rw [List.length_append, List.length_drop]; omega) ((hr1.over o hvS).app (hS.drop 2)) h4
          rw [ed] at j4
          refine ⟨(true, v) :: J, List.nodup_cons.mpr ⟨fun hm => ?_, j1⟩, fun i hi => ?_, ?_, fun v' hv' => ?_⟩
          · obtain ⟨r', m', g1, g2⟩ := j4 v hm
            have := (g1.det h3).2
            omega
          · rcases List.mem_cons.mp hi with rfl | hi
            · exact ⟨him, by omega⟩
            · exact ⟨(j2 i hi).1, by have := (j2 i hi).2; omega⟩
          · simp only [List.map_cons, List.sum_cons]
            omega
          · rcases List.mem_cons.mp hv' with hv' | hv'
            · injection hv' with _ hv'
              subst hv'
              exact ⟨r, m, h3, Nat.le_refl _⟩
            · obtain ⟨r', m', g1, g2⟩ := j4 v' hv'
              exact ⟨r', m', g1, by omega⟩
        · have hs := hr1.short
          have hz : m - n1 = 0 := by
            have hlen : (r1 ++ t.drop 2).length < 3 := by
              rw [List.length_append, List.length_drop]
              omega
            exact (h4.det (.nil hlen)).2
          refine ⟨[(true, v)], by simp, fun i hi => ?_, ?_, fun v' hv' => ?_⟩
          · rw [List.mem_singleton.mp hi]
            exact ⟨him, by omega⟩
          · simp [hp]
            omega
          · simp at hv'
            subst hv'
            exact ⟨r, m, h3, Nat.le_refl _⟩
theorem cost_sum (ok : Ok R) (o : OverR S R) {n : Nat} {t r : Wd} (ht : t.length = 3) (hS : Over S t) (h : Need R true t r n) : n ≤ sumlt (items S R) (pay R) (n + 1) := by
  obtain ⟨J, j1, j2, j3, _⟩ := chain ok o n t r ht hS h
  refine Nat.le_trans j3 ?_
  unfold sumlt
  refine sum_sub j1 fun i hi => List.mem_filter.mpr ⟨(j2 i hi).1, ?_⟩
  have := (j2 i hi).2
  simp only [decide_eq_true_eq]
  omega
theorem item_word (ok : Ok R) (o : OverR S R) {i : Item} (h : i ∈ items S R) : i.2.length ≤ 4 ∧ Over S i.2 := by
  obtain ⟨p, p1, p2⟩ := List.mem_flatMap.mp h
  have := ok.l3 p p1
  unfold itemsOf at p2
  by_cases h1 : p.1.length = 1
  · rw [if_pos h1] at p2
    obtain ⟨y, y1, rfl⟩ := List.mem_map.mp p2
    refine ⟨by simp; omega, (o p p1).2.app fun c hc => ?_⟩
    rw [List.mem_singleton.mp hc]
    exact y1
  · rw [if_neg h1] at p2
    rw [List.mem_singleton.mp p2]
    exact ⟨by simp; omega, (o p p1).2⟩
theorem pay_bound (ok : Ok R) (o : OverR S R) : ∀ i ∈ items S R, pay R i ≤ 1 + 2 * sumlt (items S R) (pay R) (pay R i) := by
  intro i hi
  obtain ⟨k, v⟩ := i
  obtain ⟨hl, hS⟩ := item_word ok o hi
  have hl : v.length ≤ 4 := hl
  have hS : Over S v := hS
  by_cases z : ∃ n r, Need R true v r n
  · obtain ⟨n, r, h⟩ := z
    have hp : pay R (k, v) = 1 + n := pay_eq h
    rw [hp]
    by_cases h3 : v.length < 3
    · have := (h.det (.nil h3)).2
      omega
    · have e := td v
      have hcut : Need R true (v.take 3 ++ v.drop 3) r n := by rw [e]; exact h
      obtain ⟨r1, n1, hn1, hr1⟩ := Need.cut ok hcut
      obtain ⟨_, h4⟩ := hr1.needInv ok hcut
      have c1 := cost_sum ok o (by rw [List.length_take]; omega) (hS.take 3) hr1
      have c1' := sumlt_mono (items S R) (pay R) (show n1 + 1 ≤ 1 + n by omega)
      have hs := hr1.short
      have hlen : (r1 ++ v.drop 3).length ≤ 3 := by
        rw [List.length_append, List.length_drop]
        omega
      by_cases h5 : (r1 ++ v.drop 3).length = 3
      · have c2 := cost_sum ok o h5 ((hr1.over o (hS.take 3)).app (hS.drop 3)) h4
        have c2' := sumlt_mono (items S R) (pay R) (show n - n1 + 1 ≤ 1 + n by omega)
        omega
      · have := (h4.det (.nil (by omega))).2
        omega
  · have : pay R (k, v) = 0 := by
      unfold pay
      rw [if_neg z]
    omega
/-- three signs get short within so many steps, or never -/
theorem cost (ok : Ok R) (o : OverR S R) {n : Nat} {t r : Wd} (ht : t.length = 3) (hS : Over S t) (h : Need R true t r n) : 2 * n + 1 ≤ 3 ^ (items S R).length := by
  have c := cost_sum ok o ht hS h
  have := sumlt_pow (pay_bound ok o) (n + 1)
  omega
/-! how many items -/
def ones (R : Rules) : Nat := (R.filter fun r => decide (r.1.length = 1)).length
theorem items_len (hS : S.length ≤ 3) : (items S R).length ≤ R.length + 2 * ones R := by
  unfold items ones
  induction R with
  | nil => simp
  | cons p R ih =>
    rw [List.flatMap_cons, List.length_append, List.length_cons]
    by_cases h : p.1.length = 1
    · rw [List.filter_cons_of_pos (by simpa using h)]
      have e : (itemsOf S p).length = S.length := by
        unfold itemsOf
        rw [if_pos h, List.length_map]
      rw [e, List.length_cons]
      omega
    · rw [List.filter_cons_of_neg (by simpa using h)]
      have e : (itemsOf S p).length = 1 := by
        unfold itemsOf
        rw [if_neg h]
        rfl
      rw [e]
      omega
def oneL (R : Rules) : List Wd := (R.filter fun r => decide (r.1.length = 1)).map (·.1)
theorem oneL_len : (oneL R).length = ones R := by
  unfold oneL ones
  rw [List.length_map]
theorem oneL_sub (o : OverR S R) : ∀ v ∈ oneL R, v ∈ S.map fun c => [c] := by
  intro v hv
  obtain ⟨p, hp, rfl⟩ := List.mem_map.mp hv
  obtain ⟨h1, h2⟩ := List.mem_filter.mp hp
  have h2 : p.1.length = 1 := by simpa using h2
  have ho := (o p h1).1
  match h : p.1, h2 with
  | [c], _ => exact List.mem_map.mpr ⟨c, ho c (by rw [h]; simp), rfl⟩
theorem oneL_nodup (nd : (R.map (·.1)).Nodup) : (oneL R).Nodup := by
  unfold oneL
  exact List.Sublist.nodup (List.Sublist.map _ (List.filter_sublist)) nd
theorem ones_le (o : OverR S R) (nd : (R.map (·.1)).Nodup) : ones R ≤ S.length := by
  have := len_sub (oneL_nodup nd) (oneL_sub o)
  rwa [oneL_len, List.length_map] at this
theorem covered (o : OverR S R) (nd : (R.map (·.1)).Nodup) (h : S.length ≤ ones R) : ∀ w, Over S w → w ≠ [] → stp R w ≠ none := by
  intro w hw hn e
  match w, hn with
  | c :: u, _ =>
    have hc : [c] ∈ oneL R := cover_sub (oneL_nodup nd) (oneL_sub o) (by rw [List.length_map, oneL_len]; exact h) [c] (List.mem_map.mpr ⟨c, hw c (by simp), rfl⟩)
    obtain ⟨p, hp, e1⟩ := List.mem_map.mp hc
    obtain ⟨h1, _⟩ := List.mem_filter.mp hp
    have hf := stp_none.mp e
    unfold fitN at hf
    rw [List.findIdx?_eq_none_iff] at hf
    have := hf p h1
    rw [e1] at this
    simp [List.isPrefixOf] at this
end
end Rw
end

-- part RwD
section
set_option linter.all false
namespace Rw
/-! ### a run that stays at three signs or more -/
inductive Go (R : Rules) : Wd → Wd → Nat → Prop
  | refl (w : Wd) : Go R w w 0
  | snoc {v w w' : Wd} {n : Nat} : Go R v w n → 3 ≤ w.length → stp R w = some w' → Go R v w' (n + 1)
variable {R : Rules} {S : Wd}
theorem Go.app (ok : Ok R) {a v : Wd} (u : Wd) {n : Nat} (h : Go R a v n) : Go R (a ++ u) (v ++ u) n := by
  induction h with
  | refl => exact .refl _
  | snoc _ h1 h2 ih => exact .snoc ih (by rw [List.length_append]; omega) (by rw [stp_app ok u h1, h2]; rfl)
theorem Go.need {a v r : Wd} {n m : Nat} (h : Go R a v n) (g : Need R true a r m) : n ≤ m ∧ Need R true v r (m - n) := by
  induction h with
  | refl => exact ⟨Nat.zero_le _, g⟩
  | @snoc w w' n _ h1 h2 ih =>
    obtain ⟨q1, q2⟩ := ih
    generalize hk : m - n = k at q2
    cases q2 with
    | nil q => omega
    | @step _ _ _ k' _ _ p1 p2 =>
      rw [h2] at p1
      injection p1 with p1
      subst p1
      have ek : m - (n + 1) = k' := by omega
      exact ⟨by omega, by rw [ek]; exact p2⟩
theorem Go.red {a v : Wd} {n : Nat} (h : Go R a v n) : Red R true a v n := by
  induction h with
  | refl => exact .refl _
  | snoc _ _ h2 ih => exact ih.trans (.stp rfl h2)
theorem loop_need (ok : Ok R) {t x r : Wd} {n m : Nat} (h : Go R t (t ++ x) n) (hn : 1 ≤ n) : ¬ Need R true t r m := fun g => by
  obtain ⟨q1, q2⟩ := h.need g
  obtain ⟨r', m', q3, q4⟩ := Need.cut ok q2
  have := (q4.det g).2
  omega
theorem loop_fin (ok : Ok R) {t x : Wd} {n : Nat} (h : Go R t (t ++ x) n) (hn : 1 ≤ n) : ∀ (m : Nat) (u r : Wd), ¬ Fin R true (t ++ u) r m := by
  intro m
  induction m using Nat.strongRecOn with
  | ind m ih =>
    intro u r g
    obtain ⟨q1, q2⟩ := (h.app ok u).red.bwd _ _ g
    rw [List.append_assoc] at q2
    exact ih (m - n) (by omega) _ _ q2
/-! ### marks -/
abbrev Mk := Wd × Nat
def MkOk (R : Rules) (w : Wd) (m : Mk) : Prop := ∃ v u n, w = v ++ u ∧ u.length = m.2 ∧ 3 ≤ v.length ∧ 1 ≤ n ∧ m.1.length = 3 ∧ Go R m.1 v n
def keep (M : List Mk) (w : Wd) : List Mk := M.filter fun m => decide (m.2 + 3 ≤ w.length)
def addM (M : List Mk) (w : Wd) : List Mk := if 3 ≤ w.length then M ++ [(w.take 3, w.length - 3)] else M
def addS (Sn : List Wd) (w : Wd) : List Wd := if 3 ≤ w.length then Sn else Sn ++ [w]
def Dt (M : List Mk) (Sn : List Wd) (w : Wd) : Prop := (3 ≤ w.length ∧ ∃ m ∈ M, m.1 = w.take 3 ∧ m.2 + 3 ≤ w.length) ∨ w ∈ Sn
theorem MkOk.le {w : Wd} {m : Mk} (h : MkOk R w m) : m.2 + 3 ≤ w.length := by
  obtain ⟨v, u, n, rfl, h1, h2, _⟩ := h
  rw [List.length_append]
  omega
theorem MkOk.step (ok : Ok R) {w w' : Wd} {m : Mk} (h : MkOk R w m) (e : stp R w = some w') (hl : m.2 + 3 ≤ w'.length) : MkOk R w' m := by
  obtain ⟨v, u, n, rfl, h1, h2, h3, h4, h5⟩ := h
  rw [stp_app ok u h2] at e
  cases hv : stp R v with
  | none =>
    rw [hv] at e
    cases e
  | some v' =>
    rw [hv] at e
    injection e with e
    subst e
    rw [List.length_append] at hl
    exact ⟨v', u, n + 1, rfl, h1, by omega, by omega, h4, h5.snoc h2 hv⟩
theorem MkOk.new (ok : Ok R) {w w' : Wd} (h3 : 3 ≤ w.length) (e : stp R w = some w') (hl : w.length ≤ w'.length) : MkOk R w' (w.take 3, w.length - 3) := by
  have ew := td w
  have lt : (w.take 3).length = 3 := by
    rw [List.length_take]
    omega
  rw [← ew, stp_app ok _ (by omega)] at e
  cases hv : stp R (w.take 3) with
  | none =>
    rw [hv] at e
    cases e
  | some v' =>
    rw [hv] at e
    injection e with e
    have e : v' ++ w.drop 3 = w' := e
    subst e
    refine ⟨v', w.drop 3, 1, rfl, by simp, ?_, Nat.le_refl _, lt, (Go.refl _).snoc (show 3 ≤ (w.take 3).length by omega) hv⟩
    rw [List.length_append, List.length_drop] at hl
    omega
theorem MkOk.look {w : Wd} {m : Mk} (h : MkOk R w m) (e : m.1 = w.take 3) : ∃ x n, 1 ≤ n ∧ Go R (w.take 3) (w.take 3 ++ x) n := by
  obtain ⟨v, u, n, rfl, h1, h2, h3, h4, h5⟩ := h
  rw [List.take_append_of_le_length h2] at e ⊢
  refine ⟨v.drop 3, n, h3, ?_⟩
  rw [td v, ← e]
  exact h5
inductive LR (R : Rules) (b : Bool) : Wd → List Mk → List Wd → Option (Wd × Nat) → Nat → Prop
  | fin {w : Wd} {M : List Mk} {Sn : List Wd} : stp R w = none → LR R b w M Sn (some (w, 0)) 0
  | det {w w' : Wd} {M : List Mk} {Sn : List Wd} : stp R w = some w' → Dt M Sn w → LR R b w M Sn none 0
  | once {w w' : Wd} {M : List Mk} {Sn : List Wd} : b = false → stp R w = some w' → ¬ Dt M Sn w → LR R b w M Sn (some (w', 1)) 0
  | step {w w' : Wd} {M : List Mk} {Sn : List Wd} {res : Option (Wd × Nat)} {n : Nat} : b = true → stp R w = some w' → ¬ Dt M Sn w → LR R b w' (keep (addM M w) w') (addS Sn w) res n → LR R b w M Sn (res.map fun p => (p.1, p.2 + 1)) (n + 1)
theorem map_up (res : Option (Wd × Nat)) (n : Nat) : (res.map fun p => (p.1, p.2 + n)).map (fun p => (p.1, p.2 + 1)) = res.map fun p => (p.1, p.2 + (n + 1)) := by
  cases res <;> simp
  omega
theorem keep_all {M : List Mk} {w : Wd} (h : ∀ m ∈ M, m.2 + 3 ≤ w.length) : keep M w = M := by
  unfold keep
  rw [List.filter_eq_self]
  intro m hm
  simpa using h m hm
theorem keep_no {M : List Mk} {w : Wd} (h : ∀ m ∈ M, ¬ m.2 + 3 ≤ w.length) : keep M w = [] := by
  unfold keep
  rw [List.filter_eq_nil_iff]
  intro m hm
  simpa using h m hm
theorem keep_app (M X : List Mk) (w : Wd) : keep (M ++ X) w = keep M w ++ keep X w := List.filter_append ..
theorem mem_keep {M : List Mk} {w : Wd} {m : Mk} : m ∈ keep M w ↔ m ∈ M ∧ m.2 + 3 ≤ w.length := by
  unfold keep
  rw [List.mem_filter]
  simp
/-- what gets short is gone through -/
theorem jump (ok : Ok R) : ∀ (n : Nat) (v r : Wd), Need R true v r n → 3 ≤ v.length → ∀ (u : Wd) (M X : List Mk) (Sn : List Wd) (res : Option (Wd × Nat)) (k : Nat), (∀ m ∈ M ++ X, MkOk R (v ++ u) m) → (∀ m ∈ X, u.length ≤ m.2) → (∀ m ∈ M, m.2 ≤ u.length) → (∀ s ∈ Sn, s.length < 3) →
    LR R true (r ++ u) (keep M (r ++ u)) Sn res k → LR R true (v ++ u) (M ++ X) Sn (res.map fun p => (p.1, p.2 + n)) (k + n) := by
  intro n
  induction n with
  | zero =>
    intro v r h h3
    cases h with
    | nil h => omega
  | succ n ih =>
    intro v r h h3 u M X Sn res k hM hX hU hSn hLR
    have hh := h
    cases h with
    | @step _ v' _ _ _ _ h2 hN =>
      have e : stp R (v ++ u) = some (v' ++ u) := by
        rw [stp_app ok u h3, h2]
        rfl
      have hl : (v ++ u).length = v.length + u.length := List.length_append
      have hl' : (v' ++ u).length = v'.length + u.length := List.length_append
      have nd : ¬ Dt (M ++ X) Sn (v ++ u) := by
        rintro (⟨_, m, hm, e1, _⟩ | hs)
        · obtain ⟨x, j, hj, hgo⟩ := (hM m hm).look e1
          rw [List.take_append_of_le_length h3] at hgo
          rw [← td v] at hh
          obtain ⟨r', n', _, hq⟩ := Need.cut ok hh
          exact loop_need ok hgo hj hq
        · have := hSn _ hs
          omega
      have hS' : addS Sn (v ++ u) = Sn := if_pos (by omega)
      have hA : addM (M ++ X) (v ++ u) = M ++ (X ++ [((v ++ u).take 3, (v ++ u).length - 3)]) := by
        unfold addM
        rw [if_pos (by omega), List.append_assoc]
      have hX2 : ∀ m ∈ X ++ [((v ++ u).take 3, (v ++ u).length - 3)], u.length ≤ m.2 := by
        intro m hm
        rcases List.mem_append.mp hm with hm | hm
        · exact hX m hm
        · rw [List.mem_singleton.mp hm]
          show u.length ≤ (v ++ u).length - 3
          omega
      rw [← map_up, ← Nat.add_assoc]
      refine .step rfl e nd ?_
      rw [hS', hA, keep_app]
      by_cases h4 : v'.length < 3
      · obtain ⟨rfl, rfl⟩ := hN.det (.nil h4)
        rw [keep_no (M := X ++ _) fun m hm => by have := hX2 m hm; omega, List.append_nil]
        have q : (res.map fun p => (p.1, p.2 + 0)) = res := by cases res <;> rfl
        rw [q]
        exact hLR
      · rw [keep_all (M := M) fun m hm => by have := hU m hm; omega]
        refine ih v' r hN (by omega) u M _ Sn res k (fun m hm => ?_) (fun m hm => hX2 m (mem_keep.mp hm).1) hU hSn hLR
        rcases List.mem_append.mp hm with hm | hm
        · exact (hM m (List.mem_append_left _ hm)).step ok e (by have := hU m hm; omega)
        · obtain ⟨h5, h6⟩ := mem_keep.mp hm
          rcases List.mem_append.mp h5 with h5 | h5
          · exact (hM m (List.mem_append_right _ h5)).step ok e h6
          · rw [List.mem_singleton.mp h5] at h6 ⊢
            exact MkOk.new ok (by omega) e (by have h6 : (v ++ u).length - 3 + 3 ≤ (v' ++ u).length := h6; omega)
/-! ### how many marks there are -/
def words3 (S : Wd) : List Wd := S.flatMap fun a => S.flatMap fun b => S.map fun c => [a, b, c]
def words2 (S : Wd) : List Wd := [] :: (S.map (fun a => [a]) ++ S.flatMap fun a => S.map fun b => [a, b])
theorem mem_words3 {w : Wd} (h : w.length = 3) (o : Over S w) : w ∈ words3 S := by
  match w, h with
  | [a, b, c], _ => exact List.mem_flatMap.mpr ⟨a, o a (by simp), List.mem_flatMap.mpr ⟨b, o b (by simp), List.mem_map.mpr ⟨c, o c (by simp), rfl⟩⟩⟩
theorem mem_words2 {w : Wd} (h : w.length < 3) (o : Over S w) : w ∈ words2 S := by
  match w, h with
  | [], _ => exact List.mem_cons_self
  | [a], _ => exact List.mem_cons_of_mem _ (List.mem_append_left _ (List.mem_map.mpr ⟨a, o a (by simp), rfl⟩))
  | [a, b], _ => exact List.mem_cons_of_mem _ (List.mem_append_right _ (List.mem_flatMap.mpr ⟨a, o a (by simp), List.mem_map.mpr ⟨b, o b (by simp), rfl⟩⟩))
theorem len_flat {α β : Type} {f : α → List β} {k : Nat} : ∀ {l : List α}, (∀ a, (f a).length = k) → (l.flatMap f).length = l.length * k
  | [], _ => by simp
  | a :: l, h => by
    rw [List.flatMap_cons, List.length_append, h a, len_flat h, List.length_cons, Nat.add_mul]
    omega
theorem len_words3 (h : S.length ≤ 3) : (words3 S).length ≤ 27 := by
  have e : (words3 S).length = S.length * (S.length * S.length) := len_flat fun a => len_flat fun b => List.length_map ..
  rw [e]
  have h2 : S.length * S.length ≤ 3 * 3 := Nat.mul_le_mul h h
  have := Nat.mul_le_mul h h2
  omega
theorem len_words2 (h : S.length ≤ 3) : (words2 S).length ≤ 13 := by
  have e : (words2 S).length = S.length + S.length * S.length + 1 := by
    unfold words2
    rw [List.length_cons, List.length_append, List.length_map, len_flat (k := S.length) fun a => List.length_map ..]
  have h2 : S.length * S.length ≤ 3 * 3 := Nat.mul_le_mul h h
  omega
theorem dec_mul (a n C : Nat) (h : n + 1 ≤ a) : (a - n) * (1 + 2 * C) = (a - (n + 1)) * (1 + 2 * C) + (1 + 2 * C) := by
  have e : a - n = a - (n + 1) + 1 := by omega
  have q := Nat.add_mul (a - (n + 1)) 1 (1 + 2 * C)
  rw [e, q, Nat.one_mul]
structure LInv (R : Rules) (S : Wd) (w : Wd) (M : List Mk) (Sn : List Wd) : Prop where
  ok : ∀ m ∈ M, MkOk R w m
  non : ∀ m ∈ M, ∀ r n, ¬ Need R true m.1 r n
  nd : (M.map (·.1)).Nodup
  ov : ∀ m ∈ M, Over S m.1
  snd : Sn.Nodup
  ss : ∀ s ∈ Sn, s.length < 3 ∧ Over S s
  red : ∀ s ∈ Sn, ∃ n, 1 ≤ n ∧ Red R true s w n
  over : Over S w
def bnd (C : Nat) (w : Wd) (M : List Mk) (Sn : List Wd) : Nat := w.length * C + (27 - M.length) * (1 + 2 * C) + (13 - Sn.length) * (1 + 2 * C)
def Good (R : Rules) (w : Wd) (n g : Nat) : Option (Wd × Nat) → Prop
  | some (t, m) => Fin R true w t m ∧ m = n ∧ t.length ≤ g
  | none => NoFin R true w
theorem LInv.len (hS : S.length ≤ 3) {w : Wd} {M : List Mk} {Sn : List Wd} (I : LInv R S w M Sn) : M.length ≤ 27 ∧ Sn.length ≤ 13 := by
  constructor
  · have := len_sub (J := M.map (·.1)) (M := words3 S) I.nd fun t ht => by
      obtain ⟨m, hm, rfl⟩ := List.mem_map.mp ht
      obtain ⟨_, _, _, _, _, _, _, h, _⟩ := I.ok m hm
      exact mem_words3 h (I.ov m hm)
    rw [List.length_map] at this
    exact Nat.le_trans this (len_words3 hS)
  · exact Nat.le_trans (len_sub I.snd fun s hs => mem_words2 (I.ss s hs).1 (I.ss s hs).2) (len_words2 hS)
theorem Fin.red {v w t : Wd} {j m : Nat} (h : Red R true v w j) (g : Fin R true w t m) : Fin R true v t (j + m) := h.fwd _ _ g
theorem runs (ok : Ok R) (o : OverR S R) (hS : S.length ≤ 3) {C : Nat} (hC1 : 1 ≤ C) (hC : ∀ t r n, t.length = 3 → Over S t → Need R true t r n → n ≤ C) :
    ∀ (N : Nat) (w : Wd) (M : List Mk) (Sn : List Wd), LInv R S w M Sn → bnd C w M Sn ≤ N → ∃ res n, LR R true w M Sn res n ∧ n ≤ bnd C w M Sn ∧ Good R w n (max (w.length + 2 * (27 - M.length)) 58) res := by
  intro N
  induction N using Nat.strongRecOn with
  | ind N ih =>
    intro w M Sn I hN
    obtain ⟨lM, lS⟩ := I.len hS
    cases e : stp R w with
    | none => exact ⟨_, 0, .fin e, Nat.zero_le _, .stop e, rfl, by omega⟩
    | some w' =>
      have sl := stp_len ok e
      have ov' := stp_over o I.over e
      by_cases h3 : w.length < 3
      · -- a short text
        have hM : M = [] := by
          cases M with
          | nil => rfl
          | cons m M =>
            have := (I.ok m List.mem_cons_self).le
            omega
        subst hM
        by_cases hs : w ∈ Sn
        · refine ⟨none, 0, .det e (.inr hs), Nat.zero_le _, ?_⟩
          obtain ⟨n, hn, hr⟩ := I.red w hs
          exact hr.loop hn
        · have nd : ¬ Dt [] Sn w := by
            rintro (⟨h, _⟩ | h)
            · omega
            · exact hs h
          have ha : addM [] w = [] := if_neg (by omega)
          have hb : addS Sn w = Sn ++ [w] := if_neg (by omega)
          have I' : LInv R S w' [] (Sn ++ [w]) := by
            refine ⟨by simp, by simp, by simp, by simp, ?_, fun s hm => ?_, fun s hm => ?_, ov'⟩
            · rw [List.nodup_append]
              refine ⟨I.snd, by simp, fun a ha b hb => ?_⟩
              rw [List.mem_singleton.mp hb]
              exact fun z => hs (z ▸ ha)
            · rcases List.mem_append.mp hm with hm | hm
              · exact I.ss s hm
              · rw [List.mem_singleton.mp hm]
                exact ⟨h3, I.over⟩
            · rcases List.mem_append.mp hm with hm | hm
              · obtain ⟨n, hn, hr⟩ := I.red s hm
                exact ⟨n + 1, by omega, hr.trans (.stp rfl e)⟩
              · rw [List.mem_singleton.mp hm]
                exact ⟨1, Nat.le_refl _, .stp rfl e⟩
          have l13 := (I'.len hS).2
          rw [List.length_append, List.length_singleton] at l13
          have dec : bnd C w' [] (Sn ++ [w]) + 1 ≤ bnd C w [] Sn := by
            unfold bnd
            rw [List.length_append, List.length_singleton, List.length_nil]
            have := dec_mul 13 Sn.length C (by omega)
            have := Nat.mul_le_mul_right C sl.1
            rw [Nat.add_mul] at this
            omega
          obtain ⟨res, n, q1, q2, q3⟩ := ih _ (by omega) w' [] (Sn ++ [w]) I' (Nat.le_refl _)
          refine ⟨_, n + 1, .step rfl e nd (by rw [ha, hb]; exact q1), by omega, ?_⟩
          cases res with
          | none => exact (Red.stp rfl e).noFin q3
          | some p =>
            obtain ⟨g1, g2, g3⟩ := q3
            refine ⟨.step rfl e g1, by rw [g2], Nat.le_trans g3 ?_⟩
            simp only [List.length_nil]
            omega
      · have h3 : 3 ≤ w.length := by omega
        have ew := td w
        have lt : (w.take 3).length = 3 := by
          rw [List.length_take]
          omega
        have ld : (w.drop 3).length = w.length - 3 := List.length_drop
        by_cases hneed : ∃ r n, Need R true (w.take 3) r n
        · obtain ⟨r, n, hn⟩ := hneed
          have hr := hn.short
          have cn := hC _ _ _ lt (I.over.take 3) hn
          have lr : (r ++ w.drop 3).length + 1 ≤ w.length := by
            rw [List.length_append]
            omega
          have stay : ∀ m ∈ M, m.2 + 3 ≤ (r ++ w.drop 3).length := by
            intro m hm
            refine Classical.byContradiction fun hz => ?_
            obtain ⟨v, u, j, e1, e2, e3, e4, e5, e6⟩ := I.ok m hm
            -- then the mark's own signs would get short
            obtain ⟨x, hx⟩ : ∃ x, v = w.take 3 ++ x := by
              refine ⟨v.drop 3, ?_⟩
              rw [e1, List.take_append_of_le_length e3, td]
            have hd : w.drop 3 = x ++ u := by
              rw [e1, hx, List.append_assoc, List.drop_append_of_le_length (by omega), List.drop_eq_nil_of_le (by omega), List.nil_append]
            rw [hd, List.length_append, List.length_append] at hz
            have short : (r ++ x).length < 3 := by
              rw [List.length_append]
              omega
            have hv : Need R true v (r ++ x) (n + 0) := by
              rw [hx]
              exact hn.need ok (.nil short)
            have back : ∀ {a v : Wd} {j : Nat}, Go R a v j → ∀ {r m}, Need R true v r m → Need R true a r (j + m) := by
              intro a v j hg
              induction hg with
              | refl =>
                intro r m q
                rw [Nat.zero_add]
                exact q
              | @snoc w w' j _ h1 h2 ihg =>
                intro r m q
                have := ihg (.step rfl h1 h2 q)
                rw [show j + 1 + m = j + (m + 1) by omega]
                exact this
            exact I.non m hm _ _ (back e6 hv)
          have I' : LInv R S (r ++ w.drop 3) M Sn := by
            refine ⟨fun m hm => ?_, I.non, I.nd, I.ov, I.snd, I.ss, fun s hs => ?_, (hn.over o (I.over.take 3)).app (I.over.drop 3)⟩
            · have hst := stay m hm
              obtain ⟨v, u, j, e1, e2, e3, e4, e5, e6⟩ := I.ok m hm
              obtain ⟨x, hx⟩ : ∃ x, v = w.take 3 ++ x := by
                refine ⟨v.drop 3, ?_⟩
                rw [e1, List.take_append_of_le_length e3, td]
              have hd : w.drop 3 = x ++ u := by
                rw [e1, hx, List.append_assoc, List.drop_append_of_le_length (by omega), List.drop_eq_nil_of_le (by omega), List.nil_append]
              have gon : ∀ {a r : Wd} {n : Nat}, Need R true a r n → Go R a r n := by
                intro a r n hq
                have cons : ∀ {v w x : Wd} {n : Nat}, 3 ≤ v.length → stp R v = some w → Go R w x n → Go R v x (n + 1) := by
                  intro v w x n h1 h2 hg
                  induction hg with
                  | refl => exact .snoc (.refl _) h1 h2
                  | snoc _ g1 g2 ihg => exact .snoc ihg g1 g2
                induction hq with
                | nil => exact .refl _
                | step _ h1 h2 _ ihq => exact cons h1 h2 ihq
              have tr : ∀ {a v w : Wd} {i j : Nat}, Go R a v i → Go R v w j → Go R a w (i + j) := by
                intro a v w i j h1 h2
                induction h2 with
                | refl => exact h1
                | snoc _ g1 g2 ihg => exact .snoc ihg g1 g2
              refine ⟨r ++ x, u, j + n, by rw [hd, List.append_assoc], e2, ?_, by omega, e5, tr e6 (by rw [hx]; exact (gon hn).app ok x)⟩
              rw [hd, List.length_append, List.length_append] at hst
              rw [List.length_append]
              omega
            · obtain ⟨j, hj, hr'⟩ := I.red s hs
              refine ⟨j + n, by omega, hr'.trans ?_⟩
              have := Red.need ok hn (w.drop 3)
              rw [ew] at this
              exact this
          have dec : bnd C (r ++ w.drop 3) M Sn + C ≤ bnd C w M Sn := by
            unfold bnd
            have := Nat.mul_le_mul_right C lr
            rw [Nat.add_mul, Nat.one_mul] at this
            omega
          obtain ⟨res, k, q1, q2, q3⟩ := ih _ (by omega) _ M Sn I' (Nat.le_refl _)
          have J := jump ok n (w.take 3) r hn (by omega) (w.drop 3) M [] Sn res k (by rw [List.append_nil, ew]; exact I.ok) (by simp) (fun m hm => by have := (I.ok m hm).le; omega) (fun s hs => (I.ss s hs).1) (by rw [keep_all stay]; exact q1)
          rw [ew, List.append_nil] at J
          refine ⟨_, k + n, J, by omega, ?_⟩
          have rd := Red.need ok hn (w.drop 3)
          rw [ew] at rd
          cases res with
          | none => exact rd.noFin q3
          | some p =>
            obtain ⟨g1, g2, g3⟩ := q3
            refine ⟨?_, ?_, Nat.le_trans g3 (by omega)⟩
            · have := rd.fwd _ _ g1
              rw [Nat.add_comm] at this
              exact this
            · show p.2 + n = k + n
              rw [show p.2 = k from g2]
        · -- three signs that do not get short
          have hnon : ∀ r n, ¬ Need R true (w.take 3) r n := fun r n q => hneed ⟨r, n, q⟩
          by_cases hd : ∃ m ∈ M, m.1 = w.take 3
          · obtain ⟨m, hm, hm2⟩ := hd
            refine ⟨none, 0, .det e (.inl ⟨h3, m, hm, hm2, (I.ok m hm).le⟩), Nat.zero_le _, ?_⟩
            obtain ⟨x, j, hj, hgo⟩ := (I.ok m hm).look hm2
            intro r n q
            rw [← ew] at q
            exact loop_fin ok hgo hj n _ _ q
          · have nd : ¬ Dt M Sn w := by
              rintro (⟨_, m, hm, hm2, _⟩ | h)
              · exact hd ⟨m, hm, hm2⟩
              · have := (I.ss w h).1
                omega
            have ha : addM M w = M ++ [(w.take 3, w.length - 3)] := if_pos h3
            have hb : addS Sn w = Sn := if_pos h3
            have ew' : stp R (w.take 3 ++ w.drop 3) = some w' := by rw [ew]; exact e
            rw [stp_app ok _ (by omega)] at ew'
            have hge : w.length ≤ w'.length := by
              cases hv : stp R (w.take 3) with
              | none =>
                rw [hv] at ew'
                cases ew'
              | some v' =>
                rw [hv] at ew'
                injection ew' with ew'
                have : ¬ v'.length < 3 := fun z => hnon _ _ (.step rfl (by omega) hv (.nil z))
                rw [← ew', List.length_append]
                omega
            have kp : keep (M ++ [(w.take 3, w.length - 3)]) w' = M ++ [(w.take 3, w.length - 3)] := keep_all fun m hm => by
              rcases List.mem_append.mp hm with hm | hm
              · have := (I.ok m hm).le
                omega
              · rw [List.mem_singleton.mp hm]
                show w.length - 3 + 3 ≤ _
                omega
            have I' : LInv R S w' (M ++ [(w.take 3, w.length - 3)]) Sn := by
              refine ⟨fun m hm => ?_, fun m hm => ?_, ?_, fun m hm => ?_, I.snd, I.ss, fun s hs => ?_, ov'⟩
              · rcases List.mem_append.mp hm with hm | hm
                · exact (I.ok m hm).step ok e (by have := (I.ok m hm).le; omega)
                · rw [List.mem_singleton.mp hm]
                  exact .new ok h3 e hge
              · rcases List.mem_append.mp hm with hm | hm
                · exact I.non m hm
                · rw [List.mem_singleton.mp hm]
                  exact hnon
              · rw [List.map_append, List.nodup_append]
                refine ⟨I.nd, by simp, fun a ha b hb => ?_⟩
                simp at hb
                obtain ⟨m, hm, rfl⟩ := List.mem_map.mp ha
                rw [hb]
                exact fun z => hd ⟨m, hm, z⟩
              · rcases List.mem_append.mp hm with hm | hm
                · exact I.ov m hm
                · rw [List.mem_singleton.mp hm]
                  exact I.over.take 3
              · obtain ⟨j, hj, hr'⟩ := I.red s hs
                exact ⟨j + 1, by omega, hr'.trans (.stp rfl e)⟩
            have l27 := (I'.len hS).1
            rw [List.length_append, List.length_singleton] at l27
            have dec : bnd C w' (M ++ [(w.take 3, w.length - 3)]) Sn + 1 ≤ bnd C w M Sn := by
              unfold bnd
              rw [List.length_append, List.length_singleton]
              have := dec_mul 27 M.length C (by omega)
              have := Nat.mul_le_mul_right C sl.1
              rw [Nat.add_mul] at this
              omega
            obtain ⟨res, k, q1, q2, q3⟩ := ih _ (by omega) w' _ Sn I' (Nat.le_refl _)
            refine ⟨_, k + 1, .step rfl e nd (by rw [ha, hb, kp]; exact q1), by omega, ?_⟩
            cases res with
            | none => exact (Red.stp rfl e).noFin q3
            | some p =>
              obtain ⟨g1, g2, g3⟩ := q3
              refine ⟨.step rfl e g1, by rw [g2], Nat.le_trans g3 ?_⟩
              rw [List.length_append, List.length_singleton]
              omega
end Rw
end

-- part LFTx
section
set_option Elab.async false
set_option linter.all false
set_option maxRecDepth 100000
set_option maxHeartbeats 2000000
namespace LF
open PySem PySem.Spec PyProof.Rows L2 Rw
/-! ### a text from its signs, the last one first -/
def tx (w : Wd) : Str := ⟨w.reverse.toArray⟩
theorem tx_list (w : Wd) : (tx w).cps.toList = w.reverse := rfl
@[simp] theorem tx_len (w : Wd) : (tx w).length = w.length := by
  show w.reverse.toArray.size = _
  simp
theorem tx_size (w : Wd) : (tx w).cps.size = w.length := tx_len w
theorem tx_of (x : Str) : tx x.cps.toList.reverse = x := by
  unfold tx
  rw [List.reverse_reverse]
theorem tx_inj {u v : Wd} (h : tx u = tx v) : u = v := by
  have e := congrArg (fun x : Str => x.cps.toList) h
  simp only [tx_list] at e
  exact List.reverse_inj.mp e
@[simp] theorem tx_add (u v : Wd) : tx u ++ tx v = tx (v ++ u) := by
  show (⟨u.reverse.toArray ++ v.reverse.toArray⟩ : Str) = ⟨(v ++ u).reverse.toArray⟩
  congr 1
  simp
theorem tx_nil : tx [] = "" := rfl
theorem pre_iff : ∀ (s w : Wd), s.isPrefixOf w = decide (w.take s.length = s)
  | [], w => by simp [List.isPrefixOf]
  | a :: s, [] => by simp [List.isPrefixOf]
  | a :: s, b :: w => by
    rw [List.isPrefixOf, pre_iff s w]
    by_cases h : a = b
    · subst h
      simp
    · have h' : (a == b) = false := by simpa using h
      rw [h', Bool.false_and]
      symm
      simp only [List.length_cons, List.take_succ_cons, List.cons.injEq, decide_eq_false_iff_not]
      exact fun z => h z.1.symm
theorem ends_tx (w s : Wd) : Txt.endswith (tx w) (tx s) = s.isPrefixOf w := by
  unfold Txt.endswith
  rw [StrLaws.subAt_eq, tx_list, tx_list, tx_len, tx_len, Nat.zero_add]
  by_cases h : s.length ≤ w.length
  · rw [decide_eq_true h, Bool.true_and, pre_iff]
    have e1 : w.reverse.drop (w.length - s.length) = (w.take s.length).reverse := by
      rw [List.reverse_take]
    rw [e1, List.take_of_length_le (by rw [List.length_reverse, List.length_take]; omega)]
    rw [Bool.beq_eq_decide_eq]
    congr 1
    rw [List.reverse_inj]
  · rw [decide_eq_false h, Bool.false_and]
    cases e : s.isPrefixOf w with
    | false => rfl
    | true => exact absurd (pre_len e) h
section
variable {w u v : Wd}
@[simp] theorem gLen_tx (h : w.length ≤ sizeLine) : gLen (.str (tx w)) = some (.v (.int w.length)) := by
  rw [gLen_str, tx_len, if_pos h]
theorem gEnds_tx : g_endswith (tx w) (.str (tx v)) = some (.v (.bool (v.isPrefixOf w))) := by
  show some (Got.v (.bool (Txt.endswith _ _))) = _
  rw [ends_tx]
theorem gAdd_tx (h : u.length + v.length ≤ sizeLine) : gAdd (.str (tx u)) (.str (tx v)) = some (.v (.str (tx (v ++ u)))) := by
  rw [gAdd_str, tx_len, tx_len, if_pos h, tx_add]
/-- text[k:] -/
theorem gCut_last {k : Int} {j : Nat} (h : w.length ≤ sizeLine) (hj : j ≤ w.length) (hk : k = (w.length : Int) - (j : Int)) : gCut (.str (tx w)) (some k) none = some (.v (.str (tx (w.take j)))) := by
  have e : k = ((w.length - j : Nat) : Int) := by omega
  show (if (tx w).length ≤ sizeLine then some (Got.v (.str (cutS (tx w) (some k) none))) else none) = _
  rw [if_pos (by rw [tx_len]; exact h)]
  congr 3
  unfold cutS tx
  congr 2
  show (w.reverse.drop (HT.sIx (tx w).length 0 (some k))).take (HT.sIx (tx w).length (tx w).length none - HT.sIx (tx w).length 0 (some k)) = (w.take j).reverse
  rw [e, HT.sIx_nat, HT.sIx_none, tx_len, Nat.min_eq_left (by omega), List.reverse_take]
  rw [List.take_of_length_le]
  rw [List.length_drop, List.length_reverse]
  exact Nat.le_refl _
/-- text[:k] -/
theorem gCut_first {k : Int} {j : Nat} (h : w.length ≤ sizeLine) (hj : j ≤ w.length) (hk : k = (w.length : Int) - (j : Int)) : gCut (.str (tx w)) none (some k) = some (.v (.str (tx (w.drop j)))) := by
  have e : k = ((w.length - j : Nat) : Int) := by omega
  show (if (tx w).length ≤ sizeLine then some (Got.v (.str (cutS (tx w) none (some k)))) else none) = _
  rw [if_pos (by rw [tx_len]; exact h)]
  congr 3
  unfold cutS tx
  congr 2
  show (w.reverse.drop (HT.sIx (tx w).length 0 none)).take (HT.sIx (tx w).length (tx w).length (some k) - HT.sIx (tx w).length 0 none) = (w.drop j).reverse
  rw [e, HT.sIx_nat, HT.sIx_none, tx_len, Nat.min_eq_left (by omega), List.drop_zero, Nat.sub_zero, List.reverse_drop]
/-- text[len(text) - 1] -/
theorem gIx_last {c : Nat} {k : Int} (h : (c :: u).length ≤ sizeLine) (hk : k = ((c :: u).length : Int) - 1) : gIx (.str (tx (c :: u))) (.int k) = some (.v (.str (tx [c]))) := by
  have e : k = (u.length : Int) := by
    rw [hk, List.length_cons]
    omega
  show (if (tx (c :: u)).length ≤ sizeLine then (atI (tx (c :: u)).cps.toList k).map (fun z => Got.v (.str ⟨#[z]⟩)) else none) = _
  rw [if_pos (by rw [tx_len]; exact h), tx_list, e, atI_nat (by simp)]
  simp [tx]
end
theorem sR1_nat {n : Nat} (h : n < 4611686018427387904) : sR1 (some (.int (n : Int))) = some (rngD 0 n, []) := by
  have h1 : -(2 ^ 62) ≤ (n : Int) ∧ (n : Int) < 2 ^ 62 := ⟨by omega, by omega⟩
  rw [sR1_int, if_pos h1]
  simp
/-! ### tables -/
def ruleD (p : Wd × Wd) : D := .tuple [.str (tx p.1), .str (tx p.2)]
def sgS (S : Wd) : Str := ⟨S.toArray⟩
def tabD (S : Wd) (b : Bool) (R : Rules) : D := .tuple [.str (sgS S), .bool b, .tuple (R.map ruleD)]
/-- the number of a rule, or None -/
def numD : Option Nat → D
  | none => .none
  | some n => .int n
theorem enum_cons (d : D) (ds : List D) (f : Nat → Nat) : (ds.mapIdx fun i d => PyData.tuple [.int (i : Nat), d]) = enumD ds := rfl
end LF
end

-- part K13Q1
section
set_option Elab.async false
set_option linter.all false
set_option maxRecDepth 100000
set_option maxHeartbeats 4000000
namespace LF
open PySem PySem.Spec PyProof.Rows L2 Rw
section
variable {P : R → En → Prop} {E : Exc → En → Prop} {S : Wd} {b : Bool} {R : Rules}
theorem enumD_eq (ds : List D) (k : Nat) : (enumD ds)[k]? = (ds[k]?).map fun d => .tuple [.int (k : Nat), d] := by
  unfold enumD
  rw [List.getElem?_mapIdx]
theorem mapIdx_shift {α : Type} (f : Nat → D → α) : ∀ (ds : List D) (d : D), (d :: ds).mapIdx f = f 0 d :: ds.mapIdx (fun i => f (i + 1)) := fun ds d => List.mapIdx_cons
/-- the first rule that fits, from number k on -/
def fitFrom (w : Wd) : Rules → Nat → Option Nat
  | [], _ => none
  | r :: R, k => if r.1.isPrefixOf w = true then some k else fitFrom w R (k + 1)
theorem fitFrom_eq (w : Wd) : ∀ (R : Rules) (k : Nat), fitFrom w R k = (fitN R w).map (· + k)
  | [], k => rfl
  | r :: R, k => by
    unfold fitFrom fitN
    rw [List.findIdx?_cons]
    cases h : r.1.isPrefixOf w with
    | true => simp
    | false =>
      simp only [Bool.false_eq_true, if_false]
      rw [fitFrom_eq w R (k + 1)]
      unfold fitN
      cases List.findIdx? (fun r => r.1.isPrefixOf w) R with
      | none => rfl
      | some n =>
        simp
        omega
def enumK (ds : List D) (k : Nat) : List D := ds.mapIdx fun i d => .tuple [.int ((i + k : Nat) : Int), d]
theorem enumK_0 (ds : List D) : enumK ds 0 = enumD ds := rfl
theorem enumK_cons (d : D) (ds : List D) (k : Nat) : enumK (d :: ds) k = .tuple [.int (k : Nat), d] :: enumK ds (k + 1) := by
  unfold enumK
  rw [List.mapIdx_cons]
  congr 1
  · simp
  · congr 1
    funext i d
    rw [show i + 1 + k = i + (k + 1) by omega]
theorem fitting_spec {w : Wd} (q : P (.val (numD (fitN R w))) [.val (tabD S b R), .val (.str (tx w))]) : wp f_fitting [.val (tabD S b R), .val (.str (tx w))] P E := by
  unfold f_fitting bd_fitting
  unfold tabD at q ⊢
  simp
  refine wp_runFor (I := fun ds ρ => ∃ (R' : Rules) (k : Nat) (s2 s3 : Slot), ds = enumK (R'.map ruleD) k ∧ fitFrom w R' k = fitN R w ∧ pinS (some s2) = false ∧ pinS (some s3) = false ∧
    ρ = [.val (.tuple [.str (sgS S), .bool b, .tuple (R.map ruleD)]), .val (.str (tx w)), s2, s3]) ?_ ?_ _ _ ⟨R, 0, .unb, .unb, (enumK_0 _).symm, by rw [fitFrom_eq]; cases fitN R w <;> simp, rfl, rfl, rfl⟩
  · rintro d ds ρ ⟨R', k, s2, s3, e, hf, p2, p3, rfl⟩
    match R', e with
    | [], e => cases e
    | r :: R', e =>
      rw [List.map_cons, enumK_cons] at e
      injection e with e1 e2
      subst e1 e2
      unfold fitFrom at hf
      cases hpre : r.1.isPrefixOf w with
      | true =>
        rw [hpre, if_pos rfl] at hf
        simp [p2, p3, ruleD, gEnds_tx, hpre]
        rw [← hf] at q
        exact q
      | false =>
        rw [hpre, if_neg (by decide)] at hf
        simp [p2, p3, ruleD, gEnds_tx, hpre]
        exact ⟨R', k + 1, rfl, hf⟩
  · rintro ρ ⟨R', k, s2, s3, e, hf, p2, p3, rfl⟩
    match R', e with
    | [], e =>
      simp
      have hf : none = fitN R w := hf
      rw [← hf] at q
      exact q
    | r :: R', e =>
      rw [List.map_cons, enumK_cons] at e
      cases e
theorem replaced_spec (ok : Rw.Ok R) {w w' : Wd} {n : Nat} (hn : fitN R w = some n) (hs : stp R w = some w') (hw : w.length + 2 ≤ sizeLine) (q : P (.val (.str (tx w'))) [.val (tabD S b R), .val (.str (tx w)), .val (.int n)]) : wp f_replaced [.val (tabD S b R), .val (.str (tx w)), .val (.int n)] P E := by
  obtain ⟨r, h1, h2, h3, h4⟩ := fit_rule hn
  rw [h4] at hs
  injection hs with hs
  subst hs
  have hp := pre_len h3
  have r3 := ok.s3 r h2
  have r1 := ok.s1 r h2
  have l3 := ok.l3 r h2
  have sl : sizeLine = 16777216 := sizeLine_eq
  have hlt : n < (R.map ruleD).length := by
    rw [List.length_map]
    exact (List.getElem?_eq_some_iff.mp h1).1
  have hat : atI (R.map ruleD) (n : Int) = some (ruleD r) := by
    rw [atI_nat hlt, List.getElem?_map, h1]
    rfl
  unfold f_replaced bd_replaced
  unfold tabD at q ⊢
  have hr : ruleD r = .tuple [.str (tx r.1), .str (tx r.2)] := rfl
  simp [hat, hr, show w.length ≤ sizeLine by omega, show r.1.length ≤ sizeLine by omega, gCut_first (w := w) (j := r.1.length) (by omega) hp rfl]
  exact ⟨by omega, q⟩
end
end LF
end

-- part K13Q2
section
set_option Elab.async false
set_option linter.all false
set_option maxRecDepth 100000
set_option maxHeartbeats 4000000
namespace LF
open PySem PySem.Spec PyProof.Rows L2 Rw
def rsN : Rs → Nat
  | .need _ n => n
  | .ends _ n => n
  | .endl => 0
def resD : Rs → List D → D
  | .need r n, us => .tuple [.str "need", .str (tx r), .int n, .tuple us]
  | .ends r n, us => .tuple [.str "end", .str (tx r), .int n, .tuple us]
  | .endl, _ => .tuple [.str "endless", .str "", .int 0, .tuple []]
def TopSlot (kvs : List (Key × D)) (s : Slot) : Prop := s = .val (dictD kvs) ∨ s = .own (.dK kvs) .bor
def Tops (S : Wd) (kvs : List (Key × D)) (f : Wd → Option Rs) : Prop := ∀ t, t.length = 3 → Over S t → match f t with
  | none => valD kvs (.inr (tx t)) = none
  | some x => ∃ us, us.length = (rsN x) ∧ valD kvs (.inr (tx t)) = some (resD x us)
structure FOk (S : Wd) (Rl : Rules) (b : Bool) (C Em : Nat) (f : Wd → Option Rs) : Prop where
  dom : ∀ t x, f t = some x → t.length = 3 ∧ Over S t
  cor : ∀ t x, f t = some x → Cor Rl b t x
  need : ∀ t r n, f t = some (.need r n) → n ≤ C
  ends : ∀ t r n, f t = some (.ends r n) → n ≤ Em ∧ r.length ≤ 58
@[simp] theorem eq_w1 : gEq (.str "need") (.str "endless") = some (.v (.bool false)) := by
  rw [gEq_of (by decide +kernel) (by decide +kernel)]
  rfl
@[simp] theorem eq_w2 : gEq (.str "need") (.str "end") = some (.v (.bool false)) := by
  rw [gEq_of (by decide +kernel) (by decide +kernel)]
  rfl
@[simp] theorem eq_w3 : gEq (.str "end") (.str "endless") = some (.v (.bool false)) := by
  rw [gEq_of (by decide +kernel) (by decide +kernel)]
  rfl
@[simp] theorem eq_w4 : gEq (.str "end") (.str "end") = some (.v (.bool true)) := by
  rw [gEq_of (by decide +kernel) (by decide +kernel)]
  rfl
@[simp] theorem eq_w5 : gEq (.str "endless") (.str "endless") = some (.v (.bool true)) := by
  rw [gEq_of (by decide +kernel) (by decide +kernel)]
  rfl
@[simp] theorem eq_w6 : gEq (.str "need") (.str "need") = some (.v (.bool true)) := by
  rw [gEq_of (by decide +kernel) (by decide +kernel)]
  rfl
@[simp] theorem eq_w7 : gEq (.str "end") (.str "need") = some (.v (.bool false)) := by
  rw [gEq_of (by decide +kernel) (by decide +kernel)]
  rfl
@[simp] theorem eq_w8 : gEq (.str "endless") (.str "end") = some (.v (.bool false)) := by
  rw [gEq_of (by decide +kernel) (by decide +kernel)]
  rfl
section
variable {P : R → En → Prop} {E : Exc → En → Prop} {S : Wd} {b : Bool} {Rl : Rules} {C Em : Nat} {f : Wd → Option Rs}
theorem settled_spec {kvs : List (Key × D)} {s : Slot} {w : Wd} (hs : TopSlot kvs s) (ht : Tops S kvs f) (fo : FOk S Rl b C Em f) (o : OverR S Rl) (hw : Over S w) (hl : w.length ≤ 100000) (hz : w.length * C + Em + 100 ≤ sizeLine)
    (qn : settle f w 0 = none → P (.val .none) [s, .val (.str (tx w))]) (q : ∀ x us, settle f w 0 = some x → us.length = (rsN x) → P (.val (resD x us)) [s, .val (.str (tx w))]) : wp f_settled [s, .val (.str (tx w))] P E := by
  have sl : sizeLine = 16777216 := sizeLine_eq
  unfold f_settled bd_settled
  have hs0 : argOk s = true ∧ (∀ l : En, finArgs [s, .val (.str (tx w))] (s :: l) = s :: finArgs [.val (.str (tx w))] l) := by
    rcases hs with rfl | rfl <;> exact ⟨rfl, fun _ => rfl⟩
  have hrd : ∀ {Pv : R → En → Prop} {ρ : En}, (∀ r, rd r ρ = some (dictD kvs) → Pv r ρ) → ρ[0]? = some s → vrP ρ 0 Pv ρ[0]? := by
    intro Pv ρ h h0
    rw [h0]
    rcases hs with rfl | rfl
    · exact h (.val (dictD kvs)) rfl
    · exact h (.loc 0) (by show dSlot ρ[0]? = _; rw [h0]; simp)
  rw [wp_defF, if_pos ⟨rfl, by simp [hs0.1]⟩]
  show wp _ [s, .val (.str (tx w)), .unb, .unb, .unb, .unb, .unb, .unb, .unb] _ _
  simp [sl]
  refine wp_sWhile (I := fun n ρ => ∃ (v : Wd) (us : List D) (a4 a5 a6 a7 a8 : Slot), n = v.length ∧ Over S v ∧ settle f v us.length = settle f w 0 ∧ v.length ≤ 100000 ∧ us.length + v.length * C + Em + 100 ≤ sizeLine ∧ pinS (some a4) = false ∧ pinS (some a5) = false ∧ pinS (some a6) = false ∧ pinS (some a7) = false ∧ pinS (some a8) = false ∧
      ρ = [s, .val (.str (tx v)), .val (.int us.length), .val (.tuple us), a4, a5, a6, a7, a8]) w.length (by omega) ⟨w, [], .unb, .unb, .unb, .unb, .unb, rfl, hw, rfl, hl, by simpa using hz, rfl, rfl, rfl, rfl, rfl, rfl⟩ ?_
  rintro n ρ ⟨v, us, a4, a5, a6, a7, a8, rfl, hv, hst, hvl, hvz, p4, p5, p6, p7, p8, rfl⟩
  simp [sl, show v.length ≤ 16777216 by omega]
  split
  · rename_i h3
    have h3 : 3 ≤ v.length := by omega
    have lt : (v.take 3).length = 3 := by
      rw [List.length_take]
      omega
    have tt := ht _ lt (hv.take 3)
    rw [Rw.settle, dif_pos h3] at hst
    simp [gCut_last (w := v) (k := (v.length : Int) - 3) (j := 3) (by omega) h3 (by omega), p4]
    refine hrd (fun r hr => ?_) rfl
    simp [hr]
    cases hf : f (v.take 3) with
    | none =>
      rw [hf] at tt hst
      have tt : valD kvs (.inr (tx (v.take 3))) = none := tt
      simp [tt, hs0.2]
      exact qn hst.symm
    | some x =>
      rw [hf] at tt hst
      obtain ⟨us', hu, tt⟩ := tt
      simp [tt]
      refine hrd (fun r' hr' => ?_) rfl
      simp [hr', tt]
      cases x with
      | endl =>
        simp [resD, p5, p6, p7, p8, hs0.2, sl]
        have := q .endl [] hst.symm rfl
        exact this
      | ends t m =>
        have hu : us'.length = m := hu
        have hb := fo.ends _ _ _ hf
        have hst : some (Rs.ends (t ++ v.drop 3) (us.length + m)) = settle f w 0 := hst
        have e1 : (us.length : Int) + (m : Int) = ((us ++ us').length : Int) := by
          rw [List.length_append, hu]
          omega
        have hdl : (v.drop 3).length = v.length - 3 := List.length_drop
        simp [resD, sl, p5, p6, p7, p8, hs0.2, gCut_first (w := v) (k := (v.length : Int) - 3) (j := 3) (by omega) h3 (by omega)]
        have := q _ (us ++ us') hst.symm (by rw [List.length_append, hu]; rfl)
        refine ⟨by omega, by omega, by omega, ?_⟩
        rw [e1]
        have e2 : ((us ++ us').length : Int) = ((us.length + m : Nat) : Int) := by rw [List.length_append, hu]
        rw [e2]
        exact this
      | need r m =>
        have hu : us'.length = m := hu
        have hn := fo.need _ _ _ hf
        have hc : Need Rl b (v.take 3) r m := fo.cor _ _ hf
        have h2 := hc.short
        simp only [dif_pos h2] at hst
        have hdl : (v.drop 3).length = v.length - 3 := List.length_drop
        have hC : (v.length - 1) * C + C = v.length * C := by
          have := Nat.add_mul (v.length - 1) 1 C
          rw [Nat.sub_add_cancel (by omega), Nat.one_mul] at this
          exact this.symm
        have hC2 : (r ++ v.drop 3).length * C ≤ (v.length - 1) * C := Nat.mul_le_mul_right C (by rw [List.length_append, hdl]; omega)
        simp [resD, sl, p5, p6, p7, p8, hs0.2, gCut_first (w := v) (k := (v.length : Int) - 3) (j := 3) (by omega) h3 (by omega)]
        exact ⟨by omega, by omega, by omega, _, by rw [List.length_append, hdl]; omega, r ++ v.drop 3, rfl, (hc.over o (hv.take 3)).app (hv.drop 3), us ++ us', by rw [List.length_append, hu]; exact hst, by rw [List.length_append, hdl]; omega, by rw [List.length_append, hu]; omega, _, rfl, _, rfl, _, rfl, _, rfl, _, rfl, rfl, by rw [List.length_append, hu]; omega, rfl, rfl, rfl, rfl, rfl, rfl⟩
  · rename_i h3
    have h3 : ¬ 3 ≤ v.length := by omega
    rw [Rw.settle, dif_neg h3] at hst
    have := q _ us hst.symm rfl
    simp [hs0.2, sl]
    exact this
end
end LF
end

-- part K13Q3
section
set_option Elab.async false
set_option linter.all false
set_option maxRecDepth 100000
set_option maxHeartbeats 4000000
namespace LF
open PySem PySem.Spec PyProof.Rows L2 Rw
def tripW (S : Wd) : List Wd := S.flatMap fun a => S.flatMap fun b => S.map fun c => [c, b, a]
theorem three_tx (a b c : Nat) : three a b c = tx [c, b, a] := rfl
theorem threes_tx (S : Wd) : threes (sgS S) = (tripW S).map tx := by
  unfold threes tripW
  show (S.flatMap fun a => S.flatMap fun b => S.map fun c => three a b c) = _
  rw [List.map_flatMap]
  congr 1
  funext a
  rw [List.map_flatMap]
  congr 1
  funext b
  rw [List.map_map]
  rfl
theorem mem_tripW {S t : Wd} : t ∈ tripW S ↔ t.length = 3 ∧ Over S t := by
  constructor
  · intro h
    obtain ⟨a, ha, h⟩ := List.mem_flatMap.mp h
    obtain ⟨b, hb, h⟩ := List.mem_flatMap.mp h
    obtain ⟨c, hc, rfl⟩ := List.mem_map.mp h
    refine ⟨rfl, fun x hx => ?_⟩
    simp only [List.mem_cons, List.not_mem_nil, or_false] at hx
    rcases hx with rfl | rfl | rfl <;> assumption
  · rintro ⟨hl, ho⟩
    match t, hl with
    | [c, b, a], _ => exact List.mem_flatMap.mpr ⟨a, ho a (by simp), List.mem_flatMap.mpr ⟨b, ho b (by simp), List.mem_map.mpr ⟨c, ho c (by simp), rfl⟩⟩⟩
theorem tripW_len {S : Wd} (h : S.length ≤ 3) : (tripW S).length ≤ 27 := by
  have e : (tripW S).length = S.length * (S.length * S.length) := Rw.len_flat fun a => Rw.len_flat fun b => List.length_map ..
  rw [e]
  have h2 : S.length * S.length ≤ 3 * 3 := Nat.mul_le_mul h h
  have := Nat.mul_le_mul h h2
  omega
section
variable {P : R → En → Prop} {E : Exc → En → Prop} {S : Wd} {b : Bool} {Rl : Rules} {C Em : Nat} {f : Wd → Option Rs}
theorem three_signs_spec (hS : S.length ≤ 3) (q : P (.fr (.lst ((tripW S).map fun t => .str (tx t)))) [.val (.str (sgS S))]) : wp f_three_signs [.val (.str (sgS S))] P E := by
  unfold f_three_signs bd_three_signs
  have hz : (sgS S).cps.size ≤ 60 := by
    show S.toArray.size ≤ 60
    simp
    omega
  simp [hz, threes_tx]
  exact q
@[simp] theorem gIs_none {neg : Bool} : gIs neg .none .none = some (.v (.bool (!neg))) := by cases neg <;> rfl
@[simp] theorem gIs_int {neg : Bool} {i : Int} : gIs neg (.int i) .none = some (.v (.bool neg)) := by cases neg <;> rfl
@[simp] theorem gIs_tuple {neg : Bool} {ds : List D} : gIs neg (.tuple ds) .none = some (.v (.bool neg)) := by cases neg <;> rfl
@[simp] theorem gIs_str {neg : Bool} {x : Str} : gIs neg (.str x) .none = some (.v (.bool neg)) := by cases neg <;> rfl
def rsW : Rs → Wd
  | .need r _ => r
  | .ends r _ => r
  | .endl => []
theorem settle_lim (fo : FOk S Rl b C Em f) : ∀ (L : Nat) (w : Wd) (k : Nat) (x : Rs), w.length ≤ L → Rw.settle f w k = some x → rsN x ≤ k + w.length * C + Em ∧ (rsW x).length ≤ w.length + 58 := by
  intro L
  induction L with
  | zero =>
    intro w k x hl h
    rw [Rw.settle, dif_neg (by omega)] at h
    injection h with h
    subst h
    exact ⟨by show k ≤ _; omega, by show w.length ≤ _; omega⟩
  | succ L ih =>
    intro w k x hl h
    rw [Rw.settle] at h
    by_cases h3 : 3 ≤ w.length
    · rw [dif_pos h3] at h
      cases hx : f (w.take 3) with
      | none =>
        rw [hx] at h
        cases h
      | some y =>
        rw [hx] at h
        cases y with
        | endl =>
          injection h with h
          subst h
          exact ⟨Nat.zero_le _, Nat.zero_le _⟩
        | ends t n =>
          injection h with h
          subst h
          have := fo.ends _ _ _ hx
          refine ⟨by show k + n ≤ _; omega, ?_⟩
          show (t ++ w.drop 3).length ≤ _
          rw [List.length_append, List.length_drop]
          omega
        | need r n =>
          have c : Need Rl b (w.take 3) r n := fo.cor _ _ hx
          have h2 := c.short
          have hn := fo.need _ _ _ hx
          simp only [dif_pos h2] at h
          have hl2 : (r ++ w.drop 3).length + 1 ≤ w.length := by
            rw [List.length_append, List.length_drop]
            omega
          have q := ih (r ++ w.drop 3) (k + n) x (by omega) h
          have := Nat.mul_le_mul_right C hl2
          rw [Nat.add_mul, Nat.one_mul] at this
          exact ⟨by omega, by omega⟩
    · rw [dif_neg h3] at h
      injection h with h
      subst h
      exact ⟨by show k ≤ _; omega, by show w.length ≤ _; omega⟩
theorem top_result_spec {kvs : List (Key × D)} {s : Slot} {t : Wd} (hs : TopSlot kvs s) (ht : Tops S kvs f) (fo : FOk S Rl b C Em f) (ok : Rw.Ok Rl) (o : OverR S Rl) (t3 : t.length = 3) (tS : Over S t) (hz : 5 * C + Em + 200 ≤ sizeLine)
    (qn : topRes Rl b f t = none → P (.val .none) [.val (tabD S b Rl), s, .val (.str (tx t))]) (q : ∀ x us, topRes Rl b f t = some x → us.length = rsN x → P (.val (resD x us)) [.val (tabD S b Rl), s, .val (.str (tx t))]) : wp f_top_result [.val (tabD S b Rl), s, .val (.str (tx t))] P E := by
  have sl : sizeLine = 16777216 := sizeLine_eq
  have hs0 : argOk s = true ∧ (∀ (a : D) (l m : En), finArgs (.val a :: s :: m) (.val a :: s :: l) = .val a :: s :: finArgs m l) ∧ argSlot (some s) = some s := by
    rcases hs with rfl | rfl <;> exact ⟨rfl, fun _ _ _ => rfl, rfl⟩
  unfold f_top_result bd_top_result
  rw [wp_defF, if_pos ⟨rfl, by simp [hs0.1]⟩]
  show wp _ [.val (tabD S b Rl), s, .val (.str (tx t)), .unb, .unb, .unb] _ _
  simp [sl]
  refine fitting_spec ?_
  cases hn : fitN Rl t with
  | none =>
    have e := stp_none.mpr hn
    have ht : topRes Rl b f t = some (.ends t 0) := by
      unfold topRes
      rw [e]
    simp [numD, sl, hs0.2]
    exact q _ [] ht rfl
  | some n =>
    obtain ⟨r, h1, h2, h3, h4⟩ := fit_rule hn
    generalize hw : r.2 ++ t.drop r.1.length = w at h4
    simp [numD, sl]
    refine replaced_spec ok hn h4 (by rw [sl]; omega) ?_
    have wl : w.length ≤ 5 := by
      have := stp_len ok h4
      omega
    have wS := stp_over o tS h4
    have ht : topRes Rl b f t = if b = true then (Rw.settle f w 0).map Rs.up else some (.ends w 1) := by
      unfold topRes
      rw [h4]
    have hc := Nat.mul_le_mul_right C (show w.length ≤ 5 by omega)
    cases b with
    | false =>
      simp [tabD, sl, hs0.2]
      exact q _ [.int n] ht rfl
    | true =>
      simp [tabD, sl]
      rcases hs with rfl | rfl
      all_goals
        simp
        refine settled_spec (by first | exact .inl rfl | exact .inr rfl) ‹Tops S kvs f› fo o wS (by omega) (by rw [sl]; omega) (fun hx => ?_) fun x us hx hu => ?_
        · simp [sl]
          refine qn ?_
          rw [ht, if_pos rfl, hx]
          rfl
        · have ht : topRes Rl true f t = some x.up := by
            rw [ht, if_pos rfl, hx]
            rfl
          have lm := (settle_lim fo w.length w 0 x (Nat.le_refl _) hx).1
          cases x with
          | endl =>
            simp [resD, sl]
            exact q _ [] ht rfl
          | need r m =>
            have hu : us.length = m := hu
            have lm : m ≤ _ := lm
            simp [resD, sl]
            refine ⟨by omega, ?_⟩
            have := q _ (.int n :: us) ht (by rw [List.length_cons, hu]; rfl)
            exact this
          | ends r m =>
            have hu : us.length = m := hu
            have lm : m ≤ _ := lm
            simp [resD, sl]
            refine ⟨by omega, ?_⟩
            have := q _ (.int n :: us) ht (by rw [List.length_cons, hu]; rfl)
            exact this
end
end LF
end

-- part K13Q4
section
set_option Elab.async false
set_option linter.all false
set_option maxRecDepth 100000
set_option maxHeartbeats 4000000
namespace LF
open PySem PySem.Spec PyProof.Rows L2 Rw
def cnt (S : Wd) (f : Wd → Option Rs) : Nat := ((tripW S).filter fun t => (f t).isNone).length
theorem filter_le {α : Type} {p p' : α → Bool} : ∀ {l : List α}, (∀ u ∈ l, p' u = true → p u = true) → (l.filter p').length ≤ (l.filter p).length
  | [], _ => by simp
  | a :: l, h => by
    have ih := filter_le (l := l) fun u hu => h u (List.mem_cons_of_mem _ hu)
    by_cases h1 : p' a = true
    · rw [List.filter_cons_of_pos h1, List.filter_cons_of_pos (h a List.mem_cons_self h1)]
      simp only [List.length_cons]
      omega
    · rw [List.filter_cons_of_neg h1]
      by_cases h2 : p a = true
      · rw [List.filter_cons_of_pos h2]
        simp only [List.length_cons]
        omega
      · rw [List.filter_cons_of_neg h2]
        exact ih
theorem filter_lt {α : Type} {p p' : α → Bool} {t : α} : ∀ {l : List α}, (∀ u ∈ l, p' u = true → p u = true) → t ∈ l → p t = true → p' t = false → (l.filter p').length + 1 ≤ (l.filter p).length
  | [], _, h, _, _ => by simp at h
  | a :: l, h, hm, h1, h2 => by
    have hl := filter_le (l := l) fun u hu => h u (List.mem_cons_of_mem _ hu)
    rcases List.mem_cons.mp hm with rfl | hm
    · rw [List.filter_cons_of_pos h1, List.filter_cons_of_neg (by rw [h2]; decide)]
      simp only [List.length_cons]
      omega
    · have ih := filter_lt (l := l) (fun u hu => h u (List.mem_cons_of_mem _ hu)) hm h1 h2
      by_cases g1 : p' a = true
      · rw [List.filter_cons_of_pos g1, List.filter_cons_of_pos (h a List.mem_cons_self g1)]
        simp only [List.length_cons]
        omega
      · rw [List.filter_cons_of_neg g1]
        by_cases g2 : p a = true
        · rw [List.filter_cons_of_pos g2]
          simp only [List.length_cons]
          omega
        · rw [List.filter_cons_of_neg g2]
          exact ih
def setF (f : Wd → Option Rs) (t : Wd) (x : Rs) : Wd → Option Rs := fun u => if u = t then some x else f u
section
variable {P : R → En → Prop} {E : Exc → En → Prop} {S : Wd} {b : Bool} {Rl : Rules} {C Em : Nat} {f : Wd → Option Rs}
theorem cnt_set {t : Wd} {x : Rs} (ht : t ∈ tripW S) (hf : f t = none) : cnt S (setF f t x) + 1 ≤ cnt S f := by
  refine filter_lt (t := t) (fun u _ h => ?_) ht (by rw [hf]; rfl) (by unfold setF; rw [if_pos rfl]; rfl)
  unfold setF at h
  split at h
  · cases h
  · exact h
theorem tops_set {kvs : List (Key × D)} {t : Wd} {x : Rs} {us : List D} (ht : Tops S kvs f) (hu : us.length = rsN x) : Tops S (putD kvs (.inr (tx t)) (resD x us)) (setF f t x) := by
  intro u u3 uS
  unfold setF
  rw [valD_put]
  by_cases e : u = t
  · subst e
    rw [if_pos rfl, if_pos rfl]
    exact ⟨us, hu, rfl⟩
  · rw [if_neg e]
    have ne : ¬ (Sum.inr (tx u) : Key) = Sum.inr (tx t) := fun z => e (tx_inj (Sum.inr.inj z))
    have := ht u u3 uS
    cases hf : f u with
    | none =>
      rw [hf] at this
      rw [if_neg ne]
      exact this
    | some y =>
      rw [hf] at this
      obtain ⟨us', h1, h2⟩ := this
      exact ⟨us', h1, by rw [if_neg ne]; exact h2⟩
/-- what is known of the table's costs -/
structure Lims (S : Wd) (Rl : Rules) (b : Bool) (C Em : Nat) : Prop where
  ok : Rw.Ok Rl
  ov : OverR S Rl
  s3 : S.length ≤ 3
  need : ∀ t r n, t.length = 3 → Over S t → Need Rl b t r n → n ≤ C
  ends : ∀ t r n, t.length = 3 → Over S t → End Rl b t r n → n ≤ Em ∧ r.length ≤ 58
  room : 5 * C + Em + 200 ≤ sizeLine
theorem fok_set (lm : Lims S Rl b C Em) {t : Wd} {x : Rs} (fo : FOk S Rl b C Em f) (t3 : t.length = 3) (tS : Over S t) (c : Cor Rl b t x) : FOk S Rl b C Em (setF f t x) := by
  refine ⟨fun u y h => ?_, fun u y h => ?_, fun u r n h => ?_, fun u r n h => ?_⟩
  all_goals
    unfold setF at h
    split at h
    · rename_i e
      subst e
      injection h with h
      subst h
      first
        | exact ⟨t3, tS⟩
        | exact c
        | exact lm.need _ _ _ t3 tS c
        | exact lm.ends _ _ _ t3 tS c
    · first
        | exact fo.dom _ _ h
        | exact fo.cor _ _ h
        | exact fo.need _ _ _ h
        | exact fo.ends _ _ _ h
@[simp] theorem gIs_res {neg : Bool} {x : Rs} {us : List D} : gIs neg (resD x us) .none = some (.v (.bool neg)) := by
  cases x <;> exact gIs_tuple
def Fix (S : Wd) (Rl : Rules) (b : Bool) (f : Wd → Option Rs) : Prop := ∀ t, t.length = 3 → Over S t → f t = none → topRes Rl b f t = none
theorem fok0 : FOk S Rl b C Em (fun _ => none) := ⟨(fun _ _ h => by cases h), (fun _ _ h => by cases h), (fun _ _ _ h => by cases h), (fun _ _ _ h => by cases h)⟩
def wIn (S : Wd) (Rl : Rules) (b : Bool) (C Em : Nat) (n : Nat) (ρ : En) : Prop := ∃ (kvs : List (Key × D)) (f : Wd → Option Rs) (ch : Bool) (a3 a4 : Slot), Tops S kvs f ∧ FOk S Rl b C Em f ∧ kvs.length + cnt S f ≤ 27 ∧ (ch = false → Fix S Rl b f) ∧ n = 2 * cnt S f + (if ch = true then 1 else 0) ∧ pinS (some a3) = false ∧ pinS (some a4) = false ∧
    ρ = [.val (tabD S b Rl), .own (.dK kvs) .loc, .val (.bool ch), a3, a4]
def fIn (S : Wd) (Rl : Rules) (b : Bool) (C Em : Nat) (f : Wd → Option Rs) (ds : List D) (ρ : En) : Prop := ∃ (dn rs : List Wd) (kvs' : List (Key × D)) (f' : Wd → Option Rs) (ch : Bool) (a3 a4 : Slot), tripW S = dn ++ rs ∧ ds = rs.map (fun t => .str (tx t)) ∧ Tops S kvs' f' ∧ FOk S Rl b C Em f' ∧ kvs'.length + cnt S f' ≤ 27 ∧
        (ch = false → f' = f ∧ ∀ t ∈ dn, f t = none → topRes Rl b f t = none) ∧ (ch = true → cnt S f' + 1 ≤ cnt S f) ∧ pinS (some a3) = false ∧ pinS (some a4) = false ∧
        ρ = [.val (tabD S b Rl), .own (.dK kvs') .loc, .val (.bool ch), a3, a4]
def eIn (S : Wd) (Rl : Rules) (b : Bool) (C Em : Nat) (f : Wd → Option Rs) (ds : List D) (ρ : En) : Prop := ∃ (dn rs : List Wd) (kvs' : List (Key × D)) (f' : Wd → Option Rs) (a2 a3 a4 : Slot), tripW S = dn ++ rs ∧ ds = rs.map (fun t => .str (tx t)) ∧ Tops S kvs' f' ∧ FOk S Rl b C Em f' ∧ kvs'.length + cnt S f' ≤ 27 ∧
        (∀ t, f t ≠ none → f' t ≠ none) ∧ (∀ t ∈ dn, f' t ≠ none) ∧ pinS (some a3) = false ∧
        ρ = [.val (tabD S b Rl), .own (.dK kvs') .loc, a2, a3, a4]
theorem all_tops_spec (lm : Lims S Rl b C Em) (q : ∀ kvs f, Tops S kvs f → FOk S Rl b C Em f → (∀ t, t.length = 3 → Over S t → f t ≠ none) → P (.fr (.dK kvs)) [.val (tabD S b Rl)]) : wp f_all_tops [.val (tabD S b Rl)] P E := by
  have sl : sizeLine = 16777216 := sizeLine_eq
  have rm := lm.room
  unfold f_all_tops bd_all_tops
  rw [wp_defF, if_pos ⟨rfl, rfl⟩]
  show wp _ [.val (tabD S b Rl), .unb, .unb, .unb, .unb] _ _
  simp
  have h27 := tripW_len lm.s3
  have c0 : cnt S (fun _ => none) ≤ 27 := Nat.le_trans (List.length_filter_le _ _) h27
  refine wp_sWhile (I := wIn S Rl b C Em) (2 * cnt S (fun _ => none) + 1) (by omega) ⟨[], fun _ => none, true, .unb, .unb, fun t _ _ => rfl, fok0, by simpa using c0, (fun h => by cases h), rfl, rfl, rfl, rfl⟩ ?_
  rintro n ρ ⟨kvs, f, ch, a3, a4, ht, fo, hk, hfx, rfl, p3, p4, rfl⟩
  simp
  cases ch with
  | true =>
    simp [tabD]
    refine three_signs_spec lm.s3 ?_
    simp
    refine wp_runFor (I := fIn S Rl b C Em f) ?_ ?_ _ _ ⟨[], tripW S, kvs, f, false, a3, a4, rfl, rfl, ht, fo, hk, fun _ => ⟨rfl, fun _ h => by simp at h⟩, (fun h => by cases h), p3, p4, rfl⟩
    · rintro d ds ρ ⟨dn, rs, kvs', f', ch, b3, b4, htr, hds, ht', fo', hk', hc0, hc1, q3, q4, rfl⟩
      match rs, hds with
      | [], hds => cases hds
      | t :: rs, hds =>
        rw [List.map_cons] at hds
        injection hds with e1 e2
        subst e1 e2
        have htm : t ∈ tripW S := by
          rw [htr]
          simp
        have htr' : tripW S = (dn ++ [t]) ++ rs := by rw [htr]; simp
        obtain ⟨t3, tS⟩ := mem_tripW.mp htm
        have tt := ht' t t3 tS
        cases hf : f' t with
        | some x =>
          rw [hf] at tt
          obtain ⟨us, hu, tt⟩ := tt
          simp [q3, tt, q4]
          refine ⟨dn ++ [t], rs, kvs', f', ch, _, _, htr', rfl, ht', fo', hk', fun h => ?_, hc1, rfl, rfl, rfl⟩
          obtain ⟨h1, h2⟩ := hc0 h
          refine ⟨h1, fun u hu hn => ?_⟩
          rcases List.mem_append.mp hu with hu | hu
          · exact h2 u hu hn
          · rw [List.mem_singleton.mp hu, ← h1, hf] at hn
            cases hn
        | none =>
          rw [hf] at tt
          have tt : valD kvs' (.inr (tx t)) = none := tt
          simp [q3, tt]
          refine top_result_spec (.inr rfl) ht' fo' lm.ok lm.ov t3 tS (by omega) (fun hr => ?_) fun x us hr hu => ?_
          · simp [q4]
            refine ⟨dn ++ [t], rs, kvs', f', ch, _, _, htr', rfl, ht', fo', hk', fun h => ?_, hc1, rfl, rfl, rfl⟩
            obtain ⟨h1, h2⟩ := hc0 h
            refine ⟨h1, fun u hu hn => ?_⟩
            rcases List.mem_append.mp hu with hu | hu
            · exact h2 u hu hn
            · rw [List.mem_singleton.mp hu, ← h1]
              exact hr
          · have hcs := cnt_set (x := x) htm hf
            have hpl := putD_len kvs' (.inr (tx t)) (resD x us)
            simp [q4, sl]
            refine ⟨by omega, dn ++ [t], rs, _, setF f' t x, true, _, _, htr', rfl, tops_set ht' hu, fok_set lm fo' t3 tS (topRes_cor lm.ok fo'.cor t3 hr), by omega, (fun h => by cases h), fun _ => ?_, rfl, rfl, rfl⟩
            cases hch : ch with
            | true =>
              have := hc1 hch
              omega
            | false =>
              rw [(hc0 hch).1] at hcs ⊢
              exact hcs
    · rintro ρ ⟨dn, rs, kvs', f', ch, b3, b4, htr, hds, ht', fo', hk', hc0, hc1, q3, q4, rfl⟩
      have hrs : rs = [] := by
        cases rs with
        | nil => rfl
        | cons t rs => cases hds
      subst hrs
      rw [List.append_nil] at htr
      simp
      refine ⟨_, ?_, kvs', f', ch, b3, b4, ht', fo', hk', fun h => ?_, rfl, q3, q4, rfl⟩
      · cases hch : ch with
        | true =>
          have := hc1 hch
          simp
          omega
        | false =>
          rw [(hc0 hch).1]
          simp
      · obtain ⟨h1, h2⟩ := hc0 h
        intro t t3 tS hn
        rw [h1] at hn ⊢
        exact h2 t (by rw [← htr]; exact mem_tripW.mpr ⟨t3, tS⟩) hn
  | false =>
    simp [tabD]
    refine three_signs_spec lm.s3 ?_
    simp
    have hinf := rest_inf lm.ok lm.ov fo.cor (hfx rfl)
    refine wp_runFor (I := eIn S Rl b C Em f) ?_ ?_ _ _ ⟨[], tripW S, kvs, f, .val (.bool false), a3, a4, rfl, rfl, ht, fo, hk, fun _ h => h, fun _ h => by simp at h, p3, rfl⟩
    · rintro d ds ρ ⟨dn, rs, kvs', f', b2, b3, b4, htr, hds, ht', fo', hk', h1, h2, q3, rfl⟩
      match rs, hds with
      | [], hds => cases hds
      | t :: rs, hds =>
        rw [List.map_cons] at hds
        injection hds with e1 e2
        subst e1 e2
        have htm : t ∈ tripW S := by
          rw [htr]
          simp
        have htr' : tripW S = (dn ++ [t]) ++ rs := by rw [htr]; simp
        obtain ⟨t3, tS⟩ := mem_tripW.mp htm
        have tt := ht' t t3 tS
        cases hf : f' t with
        | some x =>
          rw [hf] at tt
          obtain ⟨us, hu, tt⟩ := tt
          simp [q3, tt]
          refine ⟨dn ++ [t], rs, kvs', f', _, _, _, htr', rfl, ht', fo', hk', h1, fun u hu => ?_, rfl, rfl⟩
          rcases List.mem_append.mp hu with hu | hu
          · exact h2 u hu
          · rw [List.mem_singleton.mp hu, hf]
            exact fun z => by cases z
        | none =>
          rw [hf] at tt
          have tt : valD kvs' (.inr (tx t)) = none := tt
          have hcs := cnt_set (x := .endl) htm hf
          have hpl := putD_len kvs' (.inr (tx t)) (resD .endl [])
          have hi : Inf Rl b t := hinf t t3 tS (Classical.byContradiction fun z => h1 t z hf)
          simp [q3, tt, sl]
          refine ⟨by omega, dn ++ [t], rs, _, setF f' t .endl, _, _, _, htr', rfl, tops_set (x := .endl) (us := []) ht' rfl, fok_set lm fo' t3 tS hi, by omega, fun u hu => ?_, fun u hu => ?_, rfl, rfl⟩
          · unfold setF
            split
            · exact fun z => by cases z
            · exact h1 u hu
          · unfold setF
            split
            · exact fun z => by cases z
            · rename_i hne
              rcases List.mem_append.mp hu with hu | hu
              · exact h2 u hu
              · exact absurd (List.mem_singleton.mp hu) hne
    · rintro ρ ⟨dn, rs, kvs', f', b2, b3, b4, htr, hds, ht', fo', hk', h1, h2, q3, rfl⟩
      have hrs : rs = [] := by
        cases rs with
        | nil => rfl
        | cons t rs => cases hds
      subst hrs
      rw [List.append_nil] at htr
      simp
      exact q kvs' f' ht' fo' fun t t3 tS => h2 t (by rw [← htr]; exact mem_tripW.mpr ⟨t3, tS⟩)
end
end LF
end

-- part K13Q5
section
set_option Elab.async false
set_option linter.all false
set_option maxRecDepth 100000
set_option maxHeartbeats 4000000
namespace LF
open PySem PySem.Spec PyProof.Rows L2 Rw
section
variable {P : R → En → Prop} {E : Exc → En → Prop} {S : Wd} {b : Bool} {Rl : Rules} {C Em : Nat} {f : Wd → Option Rs}
theorem settle_need (fo : FOk S Rl b C Em f) : ∀ (L : Nat) (w : Wd) (k : Nat) (r : Wd) (m : Nat), w.length ≤ L → Rw.settle f w k = some (.need r m) → m ≤ k + (w.length - 2) * C := by
  intro L
  induction L with
  | zero =>
    intro w k r m hl h
    rw [Rw.settle, dif_neg (by omega)] at h
    injection h with h
    injection h with _ h
    omega
  | succ L ih =>
    intro w k r m hl h
    rw [Rw.settle] at h
    by_cases h3 : 3 ≤ w.length
    · rw [dif_pos h3] at h
      cases hx : f (w.take 3) with
      | none =>
        rw [hx] at h
        cases h
      | some y =>
        rw [hx] at h
        cases y with
        | endl => cases h
        | ends t n => cases h
        | need r' n =>
          have c : Need Rl b (w.take 3) r' n := fo.cor _ _ hx
          have h2 := c.short
          have hn := fo.need _ _ _ hx
          simp only [dif_pos h2] at h
          have hl2 : (r' ++ w.drop 3).length + 1 ≤ w.length := by
            rw [List.length_append, List.length_drop]
            omega
          have q := ih (r' ++ w.drop 3) (k + n) r m (by omega) h
          have := Nat.mul_le_mul_right C (show (r' ++ w.drop 3).length - 2 ≤ w.length - 3 by omega)
          have e : w.length - 2 = w.length - 3 + 1 := by omega
          have := Nat.add_mul (w.length - 3) 1 C
          rw [e]
          omega
    · rw [dif_neg h3] at h
      injection h with h
      injection h with _ h
      omega
def Total (S : Wd) (f : Wd → Option Rs) : Prop := ∀ t, t.length = 3 → Over S t → f t ≠ none
theorem settle_some (lm : Lims S Rl b C Em) (fo : FOk S Rl b C Em f) (tot : Total S f) {w : Wd} (hw : Over S w) : Rw.settle f w 0 ≠ none := fun h => by
  obtain ⟨t, t1, t2, t3, _⟩ := settle_none lm.ok lm.ov fo.cor w.length w 0 (Nat.le_refl _) hw h
  exact tot t t1 t2 t3
theorem strs_in {x : Wd} {ws : List Wd} : gIn false (.str (tx x)) (.list (ws.map fun v => .str (tx v))) = some (.v (.bool (decide (x ∈ ws)))) := by
  have h1 : (ws.map fun v => PyData.str (tx v)).all flatD = true := by
    rw [List.all_map]
    exact List.all_eq_true.mpr fun _ _ => rfl
  have h2 : inD (.str (tx x)) (ws.map fun v => PyData.str (tx v)) = decide (x ∈ ws) := by
    unfold inD
    rw [List.any_map]
    by_cases h : x ∈ ws
    · rw [decide_eq_true h, List.any_eq_true]
      exact ⟨x, h, by simp [PyData.eqv]⟩
    · rw [decide_eq_false h, Bool.eq_false_iff]
      intro z
      obtain ⟨y, hy, e⟩ := List.any_eq_true.mp z
      simp [PyData.eqv] at e
      exact h (tx_inj e ▸ hy)
  show (if flatD (.str (tx x)) = true ∧ _ then _ else _) = _
  rw [if_pos ⟨rfl, h1⟩, h2]
  rfl
/-- between two turns of bottom -/
def bIn (S : Wd) (Rl : Rules) (b : Bool) (C : Nat) (w : Wd) (s : Slot) (n : Nat) (ρ : En) : Prop := ∃ (v : Wd) (us : List D) (kn : List Wd) (a6 a7 a8 a9 : Slot), Over S v ∧ v.length ≤ 4 ∧ Red Rl b w v us.length ∧ kn.Nodup ∧ (∀ x ∈ kn, x.length < 3 ∧ Over S x) ∧ (∀ x ∈ kn, ∃ j, 1 ≤ j ∧ Red Rl b x v j) ∧
  us.length ≤ kn.length * (1 + 2 * C) ∧ n = 20 - kn.length ∧ pinS (some a6) = false ∧ pinS (some a7) = false ∧ pinS (some a8) = false ∧ pinS (some a9) = false ∧
  ρ = [.val (tabD S b Rl), s, .val (.str (tx v)), .val (.int us.length), .val (.tuple us), .own (.lst (kn.map fun v => .str (tx v))) .loc, a6, a7, a8, a9]
theorem bottom_spec {kvs : List (Key × D)} {w : Wd} (ht : Tops S kvs f) (fo : FOk S Rl b C Em f) (lm : Lims S Rl b C Em) (tot : Total S f) (hw : Over S w) (hl : w.length ≤ 4) (hz : 16 * (1 + 2 * C) + Em + 1000 ≤ sizeLine)
    (q1 : ∀ t n us, Fin Rl b w t n → us.length = n → n ≤ 16 * (1 + 2 * C) + Em → t.length ≤ 100 → P (.val (resD (.ends t n) us)) [.val (tabD S b Rl), .val (dictD kvs), .val (.str (tx w))])
    (q2 : NoFin Rl b w → P (.val (resD .endl [])) [.val (tabD S b Rl), .val (dictD kvs), .val (.str (tx w))]) : wp f_bottom [.val (tabD S b Rl), .val (dictD kvs), .val (.str (tx w))] P E := by
  have sl : sizeLine = 16777216 := sizeLine_eq
  have rm := lm.room
  unfold f_bottom bd_bottom
  rw [wp_defF, if_pos ⟨rfl, rfl⟩]
  show wp _ [.val (tabD S b Rl), .val (dictD kvs), .val (.str (tx w)), .unb, .unb, .unb, .unb, .unb, .unb, .unb] _ _
  simp [sl]
  refine wp_sWhile (I := bIn S Rl b C w (.val (dictD kvs))) 20 (by decide) ⟨w, [], [], _, _, _, _, hw, hl, .refl w, by simp, by simp, by simp, by simp, rfl, rfl, rfl, rfl, rfl, rfl⟩ ?_
  rintro n ρ ⟨v, us, kn, a6, a7, a8, a9, hv, hvl, hr, nd, hk1, hk2, hus, rfl, p6, p7, p8, p9, rfl⟩
  have hkn : kn.length ≤ 13 := Nat.le_trans (len_sub nd fun x hx => mem_words2 (hk1 x hx).1 (hk1 x hx).2) (len_words2 lm.s3)
  have hus2 : us.length ≤ 13 * (1 + 2 * C) := Nat.le_trans hus (Nat.mul_le_mul_right _ hkn)
  have hvC : v.length * C ≤ 4 * C := Nat.mul_le_mul_right C hvl
  simp
  refine settled_spec (.inl rfl) ht fo lm.ov hv (by omega) (by rw [sl]; omega) (fun h => absurd h (settle_some lm fo tot hv)) fun x us' hx hu => ?_
  have c := settle_cor lm.ok fo.cor v.length v 0 x (Nat.le_refl _) hx
  have lim := settle_lim fo v.length v 0 x (Nat.le_refl _) hx
  cases x with
  | endl =>
    simp [resD, p6, p7, p8, sl]
    have c : Inf Rl b v := c
    have nf := c.noFin lm.ok []
    rw [List.append_nil] at nf
    exact q2 (hr.noFin nf)
  | ends t m =>
    obtain ⟨m', em, c⟩ := c
    rw [Nat.zero_add] at em
    subst em
    have hu : us'.length = m := hu
    have lim : m ≤ _ ∧ t.length ≤ _ := lim
    have hfin := hr.fwd _ _ c.fin
    simp [resD, p6, p7, p8, p9, sl, strs_in]
    refine ⟨by omega, by omega, ?_⟩
    refine fitting_spec ?_
    simp [p9]
    have e1 : (us.length : Int) + (m : Int) = ((us.length + m : Nat) : Int) := by omega
    rw [e1]
    exact q1 t _ (us ++ us') hfin (by rw [List.length_append, hu]) (by omega) (by omega)
  | need r m =>
    obtain ⟨m', em, c⟩ := c
    rw [Nat.zero_add] at em
    subst em
    have hu : us'.length = m := hu
    have hs := c.short
    have hn := settle_need fo v.length v 0 r m (Nat.le_refl _) hx
    have hn2 : (v.length - 2) * C ≤ 2 * C := Nat.mul_le_mul_right C (by omega)
    have rS := c.over lm.ov hv
    have red := Red.need lm.ok c []
    rw [List.append_nil, List.append_nil] at red
    have red2 := hr.trans red
    by_cases hrk : r ∈ kn
    · simp [resD, p6, p7, p8, sl, strs_in, hrk]
      obtain ⟨j, hj, hjr⟩ := hk2 r hrk
      exact q2 (red2.noFin ((hjr.trans red).loop (by omega)))
    · simp [resD, p6, p7, p8, p9, sl, strs_in, hrk]
      refine ⟨by omega, by omega, ?_⟩
      refine fitting_spec ?_
      have e1 : (us.length : Int) + (m : Int) = ((us.length + m : Nat) : Int) := by omega
      cases hf : fitN Rl r with
      | none =>
        have hst := stp_none.mpr hf
        simp [p9, numD, sl]
        rw [e1]
        exact q1 r _ (us ++ us') (red2.fwd _ _ (.stop hst)) (by rw [List.length_append, hu] <;> omega) (by omega) (by omega)
      | some num =>
        obtain ⟨ru, h1, h2, h3, h4⟩ := fit_rule hf
        generalize ru.2 ++ r.drop ru.1.length = v' at h4
        have sl' := stp_len lm.ok h4
        simp [p9, numD, sl]
        refine replaced_spec lm.ok hf h4 (by rw [sl]; omega) ?_
        have e2 : (us.length : Int) + (m : Int) + 1 = ((us.length + m + 1 : Nat) : Int) := by omega
        simp [sl]
        refine ⟨by omega, ?_⟩
        cases b with
        | false =>
          simp [tabD, sl]
          rw [e2]
          have := q1 v' _ (us ++ (us' ++ [.int num])) (red2.fwd _ _ (.once rfl h4)) (by simp only [List.length_append, List.length_singleton]; omega) (by omega) (by omega)
          exact this
        | true =>
          simp [tabD, sl]
          refine ⟨20 - (kn ++ [r]).length, by rw [List.length_append, List.length_singleton]; omega, v', us ++ (us' ++ [.int num]), kn ++ [r], .val (.str "need"), .val (.int m), .val (.tuple us'), .val (.int num), stp_over lm.ov rS h4, by omega, ?_, ?_, ?_, ?_, ?_, rfl, rfl, rfl, rfl, rfl, ?_⟩
          · have := red2.trans (Red.stp rfl h4)
            have e : (us ++ (us' ++ [PyData.int num])).length = us.length + m + 1 := by simp only [List.length_append, List.length_singleton]; omega
            rw [e]
            exact this
          · rw [List.nodup_append]
            refine ⟨nd, by simp, fun x hx y hy => ?_⟩
            rw [List.mem_singleton.mp hy]
            exact fun z => hrk (z ▸ hx)
          · intro x hx
            rcases List.mem_append.mp hx with hx | hx
            · exact hk1 x hx
            · rw [List.mem_singleton.mp hx]
              exact ⟨hs, rS⟩
          · intro x hx
            rcases List.mem_append.mp hx with hx | hx
            · obtain ⟨j, hj, hjr⟩ := hk2 x hx
              exact ⟨_, by omega, (hjr.trans red).trans (Red.stp rfl h4)⟩
            · rw [List.mem_singleton.mp hx]
              exact ⟨1, Nat.le_refl _, Red.stp rfl h4⟩
          · have e := Nat.add_mul kn.length 1 (1 + 2 * C)
            simp only [List.length_append, List.length_singleton, Nat.one_mul] at e ⊢
            omega
          · simp [tabD]
            omega
end
end LF
end

-- part K13Q6
section
set_option Elab.async false
set_option linter.all false
set_option maxRecDepth 100000
set_option maxHeartbeats 4000000
namespace LF
open PySem PySem.Spec PyProof.Rows L2 Rw
theorem strOk_tx {w : Wd} (h : ∀ c ∈ w, c < 0x110000) : PyData.strOk (tx w) = true := by
  unfold PyData.strOk
  rw [← Array.all_toList, List.all_eq_true]
  intro c hc
  rw [tx_list] at hc
  simpa using h c (List.mem_reverse.mp hc)
theorem gEq_tx {w v : Wd} (h : ∀ c ∈ w, c < 0x110000) (h' : ∀ c ∈ v, c < 0x110000) : gEq (.str (tx w)) (.str (tx v)) = some (.v (.bool (decide (w = v)))) := by
  rw [gEq_of (shaped_str (strOk_tx h)) (shaped_str (strOk_tx h'))]
  unfold PyData.eqv
  by_cases e : w = v
  · subst e
    simp
  · have : (tx w == tx v) = false := by
      rw [beq_eq_false_iff_ne]
      exact fun z => e (tx_inj z)
    rw [this, decide_eq_false e]
theorem gNe_tx {w v : Wd} (h : ∀ c ∈ w, c < 0x110000) (h' : ∀ c ∈ v, c < 0x110000) : gNe (.str (tx w)) (.str (tx v)) = some (.v (.bool (!decide (w = v)))) := by
  rw [gNe_of (shaped_str (strOk_tx h)) (shaped_str (strOk_tx h'))]
  unfold PyData.eqv
  by_cases e : w = v
  · subst e
    simp
  · have : (tx w == tx v) = false := by
      rw [beq_eq_false_iff_ne]
      exact fun z => e (tx_inj z)
    rw [this, decide_eq_false e]
def Cps (w : Wd) : Prop := ∀ c ∈ w, c < 0x110000
theorem gNe_empty {w : Wd} (h : Cps w) : gNe (.str (tx w)) (.str "") = some (.v (.bool (!decide (w = [])))) := gNe_tx (v := []) h (fun _ z => by simp at z)
theorem back_tx : ("back" : Str) = tx [107, 99, 97, 98] := by decide +kernel
theorem gEq_back {c : Nat} (h : c < 0x110000) : gEq (.str (tx [c])) (.str "back") = some (.v (.bool false)) := by
  rw [back_tx, gEq_tx (fun x hx => by rw [List.mem_singleton.mp hx]; exact h) (by decide)]
  simp
section
variable {P : R → En → Prop} {E : Exc → En → Prop} {S : Wd} {b : Bool} {Rl : Rules} {C Em : Nat} {f : Wd → Option Rs}
theorem read_on_spec {kvs : List (Key × D)} {c : Nat} {sp : Wd} (ht : Tops S kvs f) (fo : FOk S Rl b C Em f) (lm : Lims S Rl b C Em) (tot : Total S f) (hc : c ∈ S) (hsp : Over S sp) (hl : sp.length < 3)
    (q : ∀ x us, Rw.settle f (sp ++ [c]) 0 = some x → us.length = rsN x → P (.val (resD x us)) [.val (dictD kvs), .val (.str (tx [c])), .val (.str (tx sp))]) : wp f_read_on [.val (dictD kvs), .val (.str (tx [c])), .val (.str (tx sp))] P E := by
  have sl : sizeLine = 16777216 := sizeLine_eq
  have rm := lm.room
  have hS : Over S (sp ++ [c]) := hsp.app fun x hx => by rw [List.mem_singleton.mp hx]; exact hc
  have h3 := Nat.mul_le_mul_right C (show (sp ++ [c]).length ≤ 3 by rw [List.length_append, List.length_singleton]; omega)
  unfold f_read_on bd_read_on
  simp [sl]
  refine ⟨by omega, ?_⟩
  refine settled_spec (.inl rfl) ht fo lm.ov hS (by rw [List.length_append, List.length_singleton]; omega) (by omega) (fun h => absurd h (settle_some lm fo tot hS)) fun x us hx hu => ?_
  have := q x us hx hu
  cases x <;> simpa [resD] using this
/-- between two turns of put_on -/
def pIn (S : Wd) (Rl : Rules) (b : Bool) (C : Nat) (kvs : List (Key × D)) (c : Nat) (u : Wd) (n : Nat) (ρ : En) : Prop := ∃ (v sp : Wd) (us : List D) (a7 a8 a9 a10 : Slot), Over S v ∧ Over S sp ∧ sp.length < 3 ∧ Red Rl b (c :: u) (sp ++ v) us.length ∧ us.length + v.length * C ≤ u.length * C ∧ v.length ≤ u.length ∧ n = v.length ∧
  pinS (some a7) = false ∧ pinS (some a8) = false ∧ pinS (some a9) = false ∧ pinS (some a10) = false ∧
  ρ = [.val (tabD S b Rl), .val (dictD kvs), .val (.str (tx v)), .val (.str (tx [c])), .val (.str (tx sp)), .val (.int us.length), .val (.tuple us), a7, a8, a9, a10]
theorem put_on_spec {kvs : List (Key × D)} {c : Nat} {u : Wd} (ht : Tops S kvs f) (fo : FOk S Rl b C Em f) (lm : Lims S Rl b C Em) (tot : Total S f) (hS : Cps S) (hc : c ∈ S) (hu : Over S u) (hl : u.length ≤ 100000) (hz : u.length * C + 16 * (1 + 2 * C) + Em + 1000 ≤ sizeLine)
    (q1 : ∀ t n us, Fin Rl b (c :: u) t n → t.length ≤ 200000 → P (.val (resD (.ends t n) us)) [.val (tabD S b Rl), .val (dictD kvs), .val (.str (tx u)), .val (.str (tx [c]))])
    (q2 : ∀ y z, NoFin Rl b (c :: u) → P (.val (.tuple [.str "endless", .str "", y, z])) [.val (tabD S b Rl), .val (dictD kvs), .val (.str (tx u)), .val (.str (tx [c]))]) :
    wp f_put_on [.val (tabD S b Rl), .val (dictD kvs), .val (.str (tx u)), .val (.str (tx [c]))] P E := by
  have sl : sizeLine = 16777216 := sizeLine_eq
  have rm := lm.room
  have cps : ∀ {w : Wd}, Over S w → Cps w := fun h c hc => hS c (h c hc)
  unfold f_put_on bd_put_on
  rw [wp_defF, if_pos ⟨rfl, rfl⟩]
  show wp _ [.val (tabD S b Rl), .val (dictD kvs), .val (.str (tx u)), .val (.str (tx [c])), .unb, .unb, .unb, .unb, .unb, .unb, .unb] _ _
  simp [sl]
  refine wp_sWhile (I := pIn S Rl b C kvs c u) u.length (by omega) ⟨u, [c], [], _, _, _, _, hu, fun x hx => by rw [List.mem_singleton.mp hx]; exact hc, by simp, .refl _, by simp, Nat.le_refl _, rfl, rfl, rfl, rfl, rfl, rfl⟩ ?_
  rintro n ρ ⟨v, sp, us, a7, a8, a9, a10, hv, hsp, hsl, hr, hus, hvl, rfl, p7, p8, p9, p10, rfl⟩
  simp [gNe_empty (cps hv)]
  cases v with
  | nil =>
    have hus0 : us.length ≤ u.length * C := by simpa using hus
    rw [List.append_nil] at hr
    simp
    refine bottom_spec ht fo lm tot hsp (by omega) (by omega) (fun t m us' hf hu' hm ht' => ?_) fun nf => ?_
    · simp [resD, p7, p8, p9, p10, sl]
      refine ⟨by omega, ?_⟩
      have := q1 t _ (us ++ us') (hr.fwd _ _ hf) (by omega)
      have e1 : (us.length : Int) + (m : Int) = ((us.length + m : Nat) : Int) := by omega
      rw [e1]
      exact this
    · simp [resD, p7, p8, p9, p10, sl]
      refine ⟨by omega, ?_⟩
      exact q2 _ _ (hr.noFin nf)
  | cons c' v =>
    have hcS : c' ∈ S := hv c' (by simp)
    have hvS : Over S v := fun x hx => hv x (List.mem_cons_of_mem _ hx)
    have hlen : (c' :: v).length ≤ 16777216 := by omega
    have hC : (c' :: v).length * C = v.length * C + C := by rw [List.length_cons, Nat.add_mul, Nat.one_mul]
    have hl2 : v.length + 1 ≤ 16777216 := by simpa using hlen
    have hix : gIx (.str (tx (c' :: v))) (.int (v.length : Int)) = some (.v (.str (tx [c']))) := gIx_last (by rw [sl]; exact hlen) (by rw [List.length_cons]; omega)
    have hcut : gCut (.str (tx (c' :: v))) none (some (v.length : Int)) = some (.v (.str (tx v))) := gCut_first (w := c' :: v) (j := 1) (by rw [sl]; exact hlen) (by simp) (by rw [List.length_cons]; omega)
    have hvC := hC ▸ hus
    have hlc : (c' :: v).length = v.length + 1 := rfl
    simp [sl, hl2, hix]
    refine read_on_spec ht fo lm tot hcS hsp hsl fun x us' hx hu' => ?_
    have cr := settle_cor lm.ok fo.cor (sp ++ [c']).length (sp ++ [c']) 0 x (Nat.le_refl _) hx
    have lim := settle_lim fo (sp ++ [c']).length (sp ++ [c']) 0 x (Nat.le_refl _) hx
    have hlen3 : (sp ++ [c']).length ≤ 3 := by
      rw [List.length_append, List.length_singleton]
      omega
    have h3 := Nat.mul_le_mul_right C hlen3
    have es : sp ++ c' :: v = (sp ++ [c']) ++ v := by simp
    rw [es] at hr
    cases x with
    | endl =>
      have cr : Inf Rl b (sp ++ [c']) := cr
      simp [resD, sl, p7, p8, p9, hl2, hcut]
      refine ⟨by omega, ?_⟩
      exact q2 _ _ (hr.noFin (cr.noFin lm.ok v))
    | ends t m =>
      obtain ⟨m', em, cr⟩ := cr
      rw [Nat.zero_add] at em
      subst em
      have hu' : us'.length = m := hu'
      have lim : m ≤ _ ∧ t.length ≤ _ := lim
      have hfin := hr.fwd _ _ (cr.app lm.ok v).fin
      simp [resD, sl, p7, p8, p9, hl2, hcut]
      refine ⟨by omega, by omega, ?_⟩
      have e1 : (us.length : Int) + (m : Int) = ((us.length + m : Nat) : Int) := by omega
      rw [e1]
      exact q1 _ _ (us ++ us') hfin (by rw [List.length_append]; omega)
    | need r m =>
      obtain ⟨m', em, cr⟩ := cr
      rw [Nat.zero_add] at em
      subst em
      have hu' : us'.length = m := hu'
      have hn := settle_need fo (sp ++ [c']).length (sp ++ [c']) 0 r m (Nat.le_refl _) hx
      have hn2 := Nat.mul_le_mul_right C (show (sp ++ [c']).length - 2 ≤ 1 by omega)
      rw [Nat.one_mul] at hn2
      have e1 : (us.length : Int) + (m : Int) = ((us ++ us').length : Int) := by rw [List.length_append]; omega
      simp [resD, sl, p7, p8, p9, hl2, hcut]
      refine ⟨by omega, v.length, by omega, v, r, us ++ us', .val (.str "need"), .val (.int m), .val (.tuple us'), a10, hvS, cr.over lm.ov (hsp.app fun x hx => by rw [List.mem_singleton.mp hx]; exact hcS), cr.short, ?_, ?_, by omega, rfl, rfl, rfl, rfl, p10, ?_⟩
      · rw [List.length_append, hu']
        exact hr.trans (Red.need lm.ok cr v)
      · rw [List.length_append, hu']
        omega
      · rw [e1]
/-- between keys: what a key has done -/
theorem behind_key_spec {kvs : List (Key × D)} {c : Nat} {u : Wd} (ht : Tops S kvs f) (fo : FOk S Rl b C Em f) (lm : Lims S Rl b C Em) (tot : Total S f) (hS : Cps S) (hc : c ∈ S) (hu : Over S u) (hl : u.length ≤ 100000) (hz : u.length * C + 16 * (1 + 2 * C) + Em + 1000 ≤ sizeLine)
    (q1 : ∀ t n, Fin Rl b (c :: u) t n → P (.val (.tuple [.str (tx t), .int n])) [.val (tabD S b Rl), .val (dictD kvs), .val (.str (tx u)), .val (.str (tx [c]))])
    (q2 : NoFin Rl b (c :: u) → P (.val .none) [.val (tabD S b Rl), .val (dictD kvs), .val (.str (tx u)), .val (.str (tx [c]))]) :
    wp f_behind_key [.val (tabD S b Rl), .val (dictD kvs), .val (.str (tx u)), .val (.str (tx [c]))] P E := by
  have sl : sizeLine = 16777216 := sizeLine_eq
  unfold f_behind_key bd_behind_key
  simp [sl, gEq_back (hS c hc)]
  refine put_on_spec ht fo lm tot hS hc hu hl hz (fun t n us hf ht' => ?_) fun y z nf => ?_
  · simp [resD, sl]
    exact q1 t n hf
  · simp [sl]
    exact q2 nf
theorem back_key_spec {kvs : List (Key × D)} {u : Wd} (hS : Cps S) (hu : Over S u) (hl : u.length ≤ 100000)
    (q : P (.val (.tuple [.str (tx u.tail), .int 0])) [.val (tabD S b Rl), .val (dictD kvs), .val (.str (tx u)), .val (.str "back")]) :
    wp f_behind_key [.val (tabD S b Rl), .val (dictD kvs), .val (.str (tx u)), .val (.str "back")] P E := by
  have sl : sizeLine = 16777216 := sizeLine_eq
  have hb : gEq (.str "back") (.str "back") = some (.v (.bool true)) := by
    rw [gEq_of (by decide +kernel) (by decide +kernel)]
    rfl
  unfold f_behind_key bd_behind_key
  simp [sl, hb, gNe_empty fun c hc => hS c (hu c hc)]
  cases u with
  | nil =>
    simp
    exact q
  | cons c u =>
    have hcut : gCut (.str (tx (c :: u))) none (some (u.length : Int)) = some (.v (.str (tx u))) := gCut_first (w := c :: u) (j := 1) (by rw [sl]; omega) (by simp) (by rw [List.length_cons]; omega)
    have hl2 : u.length + 1 ≤ 16777216 := by
      rw [List.length_cons] at hl
      omega
    simp [sl, hl2, hcut]
    exact q
end
end LF
end

-- part RwE
section
set_option linter.all false
namespace Rw
variable {R : Rules} {S : Wd} {b : Bool}
def cap (S : Wd) (R : Rules) : Nat := 3 ^ (items S R).length / 2 + 1
theorem cap_need (ok : Ok R) (o : OverR S R) {t r : Wd} {n : Nat} (ht : t.length = 3) (hS : Over S t) (h : Need R b t r n) : n ≤ cap S R := by
  cases b with
  | true =>
    have := cost ok o ht hS h
    unfold cap
    omega
  | false =>
    cases h with
    | nil h => omega
    | step hb _ _ _ => cases hb
theorem cap_pos : 1 ≤ cap S R := Nat.le_add_left 1 _
theorem inv0 {w : Wd} (h : Over S w) : LInv R S w [] [] := ⟨by simp, by simp, by simp, by simp, by simp, by simp, by simp, h⟩
def top (C : Nat) (w : Wd) : Nat := w.length * C + 40 * (1 + 2 * C)
theorem bnd0 (C : Nat) (w : Wd) : bnd C w [] [] = top C w := by
  unfold bnd top
  simp only [List.length_nil]
  omega
theorem run0 (ok : Ok R) (o : OverR S R) (hS : S.length ≤ 3) {w : Wd} (hw : Over S w) : ∃ res n, LR R true w [] [] res n ∧ n ≤ top (cap S R) w ∧ Good R w n (max (w.length + 54) 58) res := by
  obtain ⟨res, n, h1, h2, h3⟩ := runs ok o hS cap_pos (fun t r n t1 t2 h => cap_need ok o t1 t2 h) _ w [] [] (inv0 hw) (Nat.le_refl _)
  rw [bnd0] at h2
  exact ⟨res, n, h1, h2, h3⟩
theorem fin_bound (ok : Ok R) (o : OverR S R) (hS : S.length ≤ 3) {w t : Wd} {n : Nat} (hw : Over S w) (h : Fin R b w t n) : n ≤ top (cap S R) w + 1 ∧ t.length ≤ max (w.length + 54) 58 := by
  cases b with
  | true =>
    obtain ⟨res, m, _, h2, h3⟩ := run0 ok o hS hw
    cases res with
    | none => exact absurd h (h3 _ _)
    | some p =>
      obtain ⟨g1, g2, g3⟩ := h3
      obtain ⟨e1, e2⟩ := h.det g1
      subst e1 e2
      exact ⟨by omega, g3⟩
  | false =>
    cases h with
    | stop => exact ⟨Nat.zero_le _, by omega⟩
    | once _ hs =>
      have := stp_len ok hs
      exact ⟨by omega, by omega⟩
    | step hb _ _ => cases hb
def endC (C : Nat) : Nat := 3 * C + 40 * (1 + 2 * C) + 1
theorem end_bound (ok : Ok R) (o : OverR S R) (hS : S.length ≤ 3) {w t : Wd} {n : Nat} (h3 : w.length = 3) (hw : Over S w) (h : End R b w t n) : n ≤ endC (cap S R) ∧ t.length ≤ 58 := by
  obtain ⟨h1, h2⟩ := fin_bound ok o hS hw h.fin
  unfold top at h1
  rw [h3] at h1 h2
  exact ⟨h1, by omega⟩
/-- what the run with marks comes to -/
def Res (R : Rules) (b : Bool) (w : Wd) : Option (Wd × Nat) → Prop
  | some (t, m) => Fin R b w t m
  | none => NoFin R b w
theorem run1 (ok : Ok R) (o : OverR S R) (hS : S.length ≤ 3) {w : Wd} (hw : Over S w) : ∃ res n, LR R b w [] [] res n ∧ n ≤ top (cap S R) w ∧ Res R b w res := by
  cases b with
  | true =>
    obtain ⟨res, n, h1, h2, h3⟩ := run0 ok o hS hw
    refine ⟨res, n, h1, h2, ?_⟩
    cases res with
    | none => exact h3
    | some p => exact h3.1
  | false =>
    cases e : stp R w with
    | none => exact ⟨_, 0, .fin e, Nat.zero_le _, .stop e⟩
    | some w' =>
      refine ⟨_, 0, .once rfl e ?_, Nat.zero_le _, .once rfl e⟩
      rintro (⟨_, m, hm, _⟩ | h)
      · simp at hm
      · simp at h
theorem cap_le {k : Nat} (h : (items S R).length ≤ k) : cap S R ≤ 3 ^ k / 2 + 1 := by
  unfold cap
  have := Nat.pow_le_pow_right (show 0 < 3 by decide) h
  omega
/-- where each sign is a short form, a text that ends is empty -/
theorem fin_empty (o : OverR S R) (nd : (R.map (·.1)).Nodup) (h : S.length ≤ ones R) {w t : Wd} {n : Nat} (hw : Over S w) (hf : Fin R true w t n) : t = [] := by
  have ht := hf.over o hw
  have hs : stp R t = none := by
    clear ht
    generalize hb : true = b at hf
    induction hf with
    | stop h => exact h
    | once h => rw [h] at hb; cases hb
    | step _ h2 _ ih => exact ih (stp_over o hw h2)
  exact Classical.byContradiction fun hn => covered o nd h t ht hn hs
end Rw
end

-- part K13Q7
section
set_option Elab.async false
set_option linter.all false
set_option maxRecDepth 100000
set_option maxHeartbeats 4000000
namespace LF
open PySem PySem.Spec PyProof.Rows L2 Rw
theorem subS_one {c : Nat} {s : Str} : subS ⟨#[c]⟩ s = true ↔ c ∈ s.cps.toList := by
  unfold subS
  rw [StrLaws.found_iff]
  constructor
  · rintro ⟨i, h⟩
    exact List.mem_of_getElem? ((StrLaws.subAt_one s c i).mp h)
  · intro h
    obtain ⟨i, hi, e⟩ := List.mem_iff_getElem.mp h
    exact ⟨i, (StrLaws.subAt_one s c i).mpr (by rw [List.getElem?_eq_getElem hi, e])⟩
theorem textB_in {s x : Str} : textB s (.str x) = true ↔ ∀ c ∈ x.cps.toList, c ∈ s.cps.toList := by
  show (chars x).all (inS s) = true ↔ _
  unfold chars
  rw [List.all_map, List.all_eq_true]
  exact ⟨fun h c hc => subS_one.mp (h c hc), fun h c hc => subS_one.mpr (h c hc)⟩
structure TOk (S : Wd) (Rl : Rules) : Prop where
  s1 : 1 ≤ S.length
  s3 : S.length ≤ 3
  ok : Rw.Ok Rl
  ov : OverR S Rl
  nd : (Rl.map (·.1)).Nodup
  r5 : Rl.length ≤ 5
  cps : Cps S
  lets : ∀ c ∈ S, c ∈ lettersS.cps.toList
def wordOf (d : D) : Wd := (strD d).cps.toList.reverse
def longD : D → D
  | .tuple [_, b] => b
  | _ => .none
def ruleOf (d : D) : Wd × Wd := (wordOf (shortD d), wordOf (longD d))
theorem sg_in {S w : Wd} : (∀ c ∈ (tx w).cps.toList, c ∈ (sgS S).cps.toList) ↔ Over S w := by
  rw [tx_list]
  show (∀ c ∈ w.reverse, c ∈ S) ↔ ∀ c ∈ w, c ∈ S
  exact ⟨fun h c hc => h c (List.mem_reverse.mpr hc), fun h c hc => h c (List.mem_reverse.mp hc)⟩
theorem word_of {S : Wd} {lo hi : Int} {d : D} (h : wordB (sgS S) lo hi d = true) : d = .str (tx (wordOf d)) ∧ Over S (wordOf d) ∧ lo ≤ (wordOf d).length ∧ ((wordOf d).length : Int) ≤ hi := by
  cases d with
  | str x =>
    unfold wordB at h
    rw [Bool.and_eq_true] at h
    have hx : wordOf (.str x) = x.cps.toList.reverse := rfl
    have e : tx (wordOf (.str x)) = x := tx_of x
    have h2 : (decide (lo ≤ (x.length : Int)) && decide ((x.length : Int) ≤ hi)) = true := h.2
    simp only [Bool.and_eq_true, decide_eq_true_eq] at h2
    have hl : (wordOf (.str x)).length = x.length := by
      rw [hx, List.length_reverse, Array.length_toList]
      rfl
    refine ⟨by rw [e], sg_in.mp (by rw [e]; exact textB_in.mp h.1), by omega, by omega⟩
  | _ => cases h
theorem rule_of {S : Wd} {d : D} (h : ruleB (sgS S) d = true) : d = ruleD (ruleOf d) ∧ (1 ≤ (ruleOf d).1.length ∧ (ruleOf d).1.length ≤ 3 ∧ (ruleOf d).2.length ≤ 3) ∧ Over S (ruleOf d).1 ∧ Over S (ruleOf d).2 := by
  unfold ruleB at h
  split at h
  · rename_i a c
    rw [Bool.and_eq_true] at h
    obtain ⟨a1, a2, a3, a4⟩ := word_of h.1
    obtain ⟨c1, c2, c3, c4⟩ := word_of h.2
    refine ⟨?_, ⟨by show 1 ≤ (wordOf a).length; omega, by show (wordOf a).length ≤ 3; omega, by show (wordOf c).length ≤ 3; omega⟩, a2, c2⟩
    show PyData.tuple [a, c] = .tuple [.str (tx (wordOf a)), .str (tx (wordOf c))]
    rw [← a1, ← c1]
  · cases h
theorem tab_of {n k : Nat} {t : D} (h : tableB t = true) (ho : okD n k t = true) : ∃ S b Rl, t = tabD S b Rl ∧ TOk S Rl ∧ signsT t = sgS S ∧ rulesN t = Rl.length := by
  obtain ⟨b0, r0, e⟩ := tableB_tup h
  have hsig : signsT t = signsT t := rfl
  generalize hs : signsT t = s at e
  unfold tableB at h
  split at h
  · rename_i s' bb r
    injection e with e
    injection e with e1 e
    injection e with e2 e
    injection e with e3 _
    injection e1 with e1
    subst e1 e2 e3
    rw [Bool.and_eq_true] at h
    obtain ⟨h1, h2⟩ := h
    have h1' : (decide (1 ≤ s'.length) && decide (s'.length ≤ 3) && (rngD 0 (s'.length - 1)).all (ltAt s') && (chars s').all (inS lettersS)) = true := h1
    simp only [Bool.and_eq_true, decide_eq_true_eq] at h1'
    have eS : s' = sgS s'.cps.toList := rfl
    cases r with
    | tuple rs =>
      have h2' : (decide (rs.length ≤ 5) && rs.all (ruleB s') && decide ((sh rs).Nodup)) = true := h2
      simp only [Bool.and_eq_true, decide_eq_true_eq, List.all_eq_true] at h2'
      obtain ⟨⟨r5, hr⟩, nd⟩ := h2'
      have hr' : ∀ d ∈ rs, ruleB (sgS s'.cps.toList) d = true := hr
      refine ⟨s'.cps.toList, bb, rs.map ruleOf, ?_, ⟨?_, ?_, ⟨?_, ?_, ?_⟩, ?_, ?_, ?_, ?_, ?_⟩, hs, ?_⟩
      · unfold tabD
        rw [List.map_map]
        have : rs.map (ruleD ∘ ruleOf) = rs := by
          conv => rhs; rw [← List.map_id rs]
          refine List.map_congr_left fun d hd => ?_
          exact (rule_of (hr' d hd)).1.symm
        rw [this]
        rfl
      · rw [Array.length_toList]
        exact h1'.1.1.1
      · rw [Array.length_toList]
        exact h1'.1.1.2
      · intro p hp
        obtain ⟨d, hd, rfl⟩ := List.mem_map.mp hp
        exact (rule_of (hr' d hd)).2.1.1
      · intro p hp
        obtain ⟨d, hd, rfl⟩ := List.mem_map.mp hp
        exact (rule_of (hr' d hd)).2.1.2.1
      · intro p hp
        obtain ⟨d, hd, rfl⟩ := List.mem_map.mp hp
        exact (rule_of (hr' d hd)).2.1.2.2
      · intro p hp
        obtain ⟨d, hd, rfl⟩ := List.mem_map.mp hp
        exact (rule_of (hr' d hd)).2.2
      · have e : (rs.map ruleOf).map (·.1) = (sh rs).map fun x => x.cps.toList.reverse := by
          unfold sh
          rw [List.map_map, List.map_map]
          rfl
        rw [e]
        refine List.Pairwise.map _ (fun a b hab z => hab ?_) nd
        have z := List.reverse_inj.mp z
        have := congrArg List.toArray z
        simp at this
        cases a
        cases b
        congr
      · rw [List.length_map]
        exact r5
      · intro c hc
        obtain ⟨j, rfl⟩ : ∃ j, k = j + 1 := by
          cases k with
          | zero => cases ho
          | succ j => exact ⟨j, rfl⟩
        have ho' : (decide (3 ≤ n) && ([PyData.str s', .bool bb, .tuple rs].all (okD n j))) = true := ho
        simp only [Bool.and_eq_true, List.all_cons] at ho'
        have h3 : flatOk n (.str s') = true := by
          have := ho'.2.1
          cases j <;> exact this
        simp only [flatOk, Bool.and_eq_true] at h3
        have h4 := h3.2
        unfold PyData.strOk at h4
        rw [← Array.all_toList, List.all_eq_true] at h4
        simpa using h4 c hc
      · intro c hc
        exact textB_in.mp (show textB lettersS (.str s') = true from h1'.2) c hc
      · show rs.length = _
        rw [List.length_map]
    | _ => cases h2
  · cases h
theorem lims {S : Wd} {Rl : Rules} {b : Bool} (T : TOk S Rl) (room : 5 * cap S Rl + endC (cap S Rl) + 200 ≤ sizeLine) : Lims S Rl b (cap S Rl) (endC (cap S Rl)) :=
  ⟨T.ok, T.ov, T.s3, fun t r n t1 t2 h => cap_need T.ok T.ov t1 t2 h, fun t r n t1 t2 h => end_bound T.ok T.ov T.s3 t1 t2 h, room⟩
theorem items_11 {S : Wd} {Rl : Rules} (T : TOk S Rl) : (items S Rl).length ≤ 11 := by
  have h1 := items_len (R := Rl) T.s3
  have h2 := ones_le T.ov T.nd
  have h3 := T.s3
  have h4 := T.r5
  omega
theorem cap_11 {S : Wd} {Rl : Rules} (T : TOk S Rl) : cap S Rl ≤ 88574 := cap_le (items_11 T)
end LF
end

-- part RwF
section
set_option linter.all false
namespace Rw
variable {R : Rules} {S : Wd} {b : Bool}
/-- how long a text gets between the turns -/
structure LI (S : Wd) (B : Nat) (w : Wd) (M : List Mk) : Prop where
  top : ∀ m ∈ M, m.1.length = 3 ∧ Over S m.1
  nd : (M.map (·.1)).Nodup
  le : ∀ m ∈ M, m.2 + 3 ≤ w.length
  seq : ∀ (i : Nat) (m : Mk), M[i]? = some m → m.2 + 3 ≤ B + 2 * i
  srt : M.Pairwise fun a c => a.2 ≤ c.2
  len : w.length ≤ B + 2 * M.length
theorem keep_take (w : Wd) : ∀ {M : List Mk}, M.Pairwise (fun a c => a.2 ≤ c.2) → keep M w = M.take (keep M w).length ∧ (keep M w = M ∨ ∃ m, M[(keep M w).length]? = some m ∧ ¬ m.2 + 3 ≤ w.length)
  | [], _ => ⟨rfl, .inl rfl⟩
  | a :: M, h => by
    obtain ⟨h1, h2⟩ := List.pairwise_cons.mp h
    by_cases ha : a.2 + 3 ≤ w.length
    · obtain ⟨i1, i2⟩ := keep_take w h2
      have e : keep (a :: M) w = a :: keep M w := List.filter_cons_of_pos (by simpa using ha)
      rw [e, List.length_cons]
      refine ⟨by rw [List.take_succ_cons, ← i1], ?_⟩
      rcases i2 with i2 | ⟨m, i2, i3⟩
      · exact .inl (by rw [i2])
      · exact .inr ⟨m, by simpa using i2, i3⟩
    · have e : keep (a :: M) w = [] := by
        refine keep_no fun m hm => ?_
        rcases List.mem_cons.mp hm with rfl | hm
        · exact ha
        · have := h1 m hm
          omega
      rw [e]
      exact ⟨rfl, .inr ⟨a, rfl, ha⟩⟩
theorem LI.m27 (hS : S.length ≤ 3) {B : Nat} {w : Wd} {M : List Mk} (I : LI S B w M) : M.length ≤ 27 := by
  have := len_sub (J := M.map (·.1)) (M := words3 S) I.nd fun t ht => by
    obtain ⟨m, hm, rfl⟩ := List.mem_map.mp ht
    exact mem_words3 (I.top m hm).1 (I.top m hm).2
  rw [List.length_map] at this
  exact Nat.le_trans this (len_words3 hS)
theorem LI.step {B : Nat} (hB : 4 ≤ B) {w w' : Wd} {M : List Mk} {Sn : List Wd} (I : LI S B w M) (ok : Ok R) (hw : Over S w) (e : stp R w = some w') (nd : ¬ Dt M Sn w) : LI S B w' (keep (addM M w) w') := by
  have sl := stp_len ok e
  -- with the new mark
  have A : LI S B w (addM M w) ∧ w'.length ≤ B + 2 * (addM M w).length := by
    unfold addM
    by_cases h3 : 3 ≤ w.length
    · rw [if_pos h3]
      have hlen := I.len
      refine ⟨⟨fun m hm => ?_, ?_, fun m hm => ?_, fun i m hm => ?_, ?_, ?_⟩, ?_⟩
      · rcases List.mem_append.mp hm with hm | hm
        · exact I.top m hm
        · rw [List.mem_singleton.mp hm]
          exact ⟨by show (w.take 3).length = 3; rw [List.length_take]; omega, hw.take 3⟩
      · rw [List.map_append, List.nodup_append]
        refine ⟨I.nd, by simp, fun a ha b hb => ?_⟩
        simp at hb
        obtain ⟨m, hm, rfl⟩ := List.mem_map.mp ha
        rw [hb]
        exact fun z => nd (.inl ⟨h3, m, hm, z, I.le m hm⟩)
      · rcases List.mem_append.mp hm with hm | hm
        · exact I.le m hm
        · rw [List.mem_singleton.mp hm]
          show w.length - 3 + 3 ≤ _
          omega
      · by_cases hi : i < M.length
        · rw [List.getElem?_append_left hi] at hm
          exact I.seq i m hm
        · rw [List.getElem?_append_right (by omega)] at hm
          have hi2 : i - M.length = 0 := by
            have := (List.getElem?_eq_some_iff.mp hm).1
            simp at this
            omega
          rw [hi2] at hm
          simp at hm
          rw [← hm]
          show w.length - 3 + 3 ≤ _
          omega
      · rw [List.pairwise_append]
        refine ⟨I.srt, by simp, fun a ha c hc => ?_⟩
        rw [List.mem_singleton.mp hc]
        have := I.le a ha
        show a.2 ≤ w.length - 3
        omega
      · rw [List.length_append, List.length_singleton]
        omega
      · rw [List.length_append, List.length_singleton]
        omega
    · rw [if_neg h3]
      have hM : M = [] := by
        cases M with
        | nil => rfl
        | cons m M =>
          have := I.le m List.mem_cons_self
          omega
      exact ⟨I, by rw [hM]; simp; omega⟩
  obtain ⟨J, hl⟩ := A
  generalize addM M w = N at J hl
  obtain ⟨k1, k2⟩ := keep_take w' J.srt
  have sub : ∀ m ∈ keep N w', m ∈ N ∧ m.2 + 3 ≤ w'.length := fun m hm => mem_keep.mp hm
  refine ⟨fun m hm => J.top m (sub m hm).1, ?_, fun m hm => (sub m hm).2, fun i m hm => ?_, ?_, ?_⟩
  · exact List.Sublist.nodup (List.Sublist.map _ List.filter_sublist) J.nd
  · rw [k1] at hm
    refine J.seq i m ?_
    by_cases hi : i < (keep N w').length
    · rw [List.getElem?_take_of_lt hi] at hm
      exact hm
    · rw [List.getElem?_take_eq_none (by omega)] at hm
      cases hm
  · exact List.Pairwise.sublist List.filter_sublist J.srt
  · rcases k2 with k2 | ⟨m, k2, k3⟩
    · rw [k2]
      exact hl
    · have := J.seq _ m k2
      omega
theorem li0 {B : Nat} {w : Wd} (h : w.length ≤ B) : LI S B w [] := ⟨by simp, by simp, by simp, by simp, by simp, by simpa using h⟩
end Rw
end

-- part K13Q8
section
set_option Elab.async false
set_option linter.all false
set_option maxRecDepth 100000
set_option maxHeartbeats 4000000
namespace LF
open PySem PySem.Spec PyProof.Rows L2 Rw
theorem rng_cons (k m : Nat) : rngD (k : Int) (m + 1) = .int k :: rngD ((k + 1 : Nat) : Int) m := by
  unfold rngD
  rw [List.range_succ_eq_map, List.map_cons, List.map_map]
  congr 1
  · simp
    intro a _
    omega
section
variable {P : R → En → Prop} {E : Exc → En → Prop} {S : Wd} {b : Bool} {Rl : Rules}
theorem wp_range {fa : EM LF.R} {ρ : En} {Ps : Src → En → Prop} {n : Nat} (h : n < 4611686018427387904) (ha : wp fa ρ (fun r ρ1 => rd r ρ1 = some (.int (n : Int)) ∧ Ps (rngD 0 n, []) ρ1) E) : wp (srcR1 fa) ρ Ps E := by
  rw [wp_srcR1]
  refine wp.mono ha (fun r ρ1 hr => ?_) fun _ _ z => z
  rw [hr.1, sR1_nat h]
  exact hr.2
def lfIn (t : D) (Rl : Rules) (w : Wd) (ds : List D) (ρ : En) : Prop := ∃ (k m : Nat) (s2 : Slot), k + m = Rl.length ∧ ds = rngD (k : Int) m ∧ fitFrom w (Rl.drop k) k = fitN Rl w ∧ pinS (some s2) = false ∧ ρ = [.val t, .val (.str (tx w)), s2]
theorem fits_at {t : D} {w : Wd} (hr : Rl.length ≤ 1000) (hix : gIx t (.int 2) = some (.v (.tuple (Rl.map ruleD)))) (q : P (.val (numD (fitN Rl w))) [.val t, .val (.str (tx w))]) : wp f__law_fits [.val t, .val (.str (tx w))] P E := by
  unfold f__law_fits bd__law_fits
  rw [wp_defF, if_pos ⟨rfl, rfl⟩]
  show wp _ [.val t, .val (.str (tx w)), .unb] _ _
  rw [wp_sSeq, wp_sFor]
  refine wp_range (n := Rl.length) (by omega) ?_
  simp [hix]
  have h0 : lfIn t Rl w (rngD 0 Rl.length) [.val t, .val (.str (tx w)), .unb] := ⟨0, Rl.length, .unb, by omega, rfl, by rw [fitFrom_eq]; show (fitN Rl w).map (· + 0) = _; cases fitN Rl w <;> simp, rfl, rfl⟩
  refine wp_runFor (I := lfIn t Rl w) ?_ ?_ _ _ h0
  · rintro d ds ρ ⟨k, m, s2, hkm, e, hf, p2, rfl⟩
    cases m with
    | zero => cases e
    | succ m =>
      rw [rng_cons] at e
      injection e with e1 e2
      subst e1 e2
      have hk : k < Rl.length := by omega
      have hat : atI (Rl.map ruleD) (k : Int) = some (ruleD Rl[k]) := by
        rw [atI_nat (by rw [List.length_map]; exact hk), List.getElem?_map, List.getElem?_eq_getElem hk]
        rfl
      have hdr : Rl.drop k = Rl[k] :: Rl.drop (k + 1) := List.drop_eq_getElem_cons hk
      rw [hdr] at hf
      unfold fitFrom at hf
      have hr : ruleD Rl[k] = .tuple [.str (tx Rl[k].1), .str (tx Rl[k].2)] := rfl
      cases hpre : Rl[k].1.isPrefixOf w with
      | true =>
        rw [hpre, if_pos rfl] at hf
        simp [p2, hix, hat, hr, gEnds_tx, hpre]
        rw [← hf] at q
        exact q
      | false =>
        rw [hpre, if_neg (by decide)] at hf
        simp [p2, hix, hat, hr, gEnds_tx, hpre]
        exact ⟨k + 1, m, _, by omega, rfl, hf, rfl, rfl⟩
  · rintro ρ ⟨k, m, s2, hkm, e, hf, p2, rfl⟩
    cases m with
    | zero =>
      have hk : k = Rl.length := by omega
      subst hk
      rw [List.drop_length] at hf
      simp
      have hf : none = fitN Rl w := hf
      rw [← hf] at q
      exact q
    | succ m =>
      rw [rng_cons] at e
      cases e
theorem tab_ix2 : gIx (tabD S b Rl) (.int 2) = some (.v (.tuple (Rl.map ruleD))) := by simp [tabD]
theorem tab_ix1 : gIx (tabD S b Rl) (.int 1) = some (.v (.bool b)) := by simp [tabD]
theorem tab_ix0 : gIx (tabD S b Rl) (.int 0) = some (.v (.str (sgS S))) := by simp [tabD]
end
end LF
end

-- part K13Q9
section
set_option Elab.async false
set_option linter.all false
set_option maxRecDepth 100000
set_option maxHeartbeats 4000000
namespace LF
open PySem PySem.Spec PyProof.Rows L2 Rw
/-- what a sign comes to: the datum of it -/
def dueD : Option (Wd × Nat) → D
  | some (t, n) => .tuple [.str (tx t), .int n]
  | none => .none
def putD' : Option (Wd × Nat) → D
  | some (t, _) => .str (tx t)
  | none => .none
def cntD : Option (Wd × Nat) → D
  | some (_, n) => .int n
  | none => .none
section
variable {P : R → En → Prop} {E : Exc → En → Prop} {S : Wd} {b : Bool} {Rl : Rules}
/-! ### the program's own checks -/
theorem need_table_spec {n k : Nat} {t : D} (ht : okD n k t = true) (hn : n ≤ 100000) (q : tableB t = true → P (.val .none) [.val t]) (qe : tableB t = false → E ⟨"InvalidTable", none⟩ [.val t]) : wp f_need_table [.val t] P E := by
  unfold f_need_table bd_need_table
  simp
  refine is_table_spec ht hn ?_
  cases h : tableB t with
  | false =>
    simp
    exact qe h
  | true =>
    simp
    exact q h
theorem need_text_spec {n k : Nat} {tb v : D} {s : Str} (i0 : gIx tb (.int 0) = some (.v (.str s))) (hv : okD n k v = true) (hn : n ≤ 100000) (q : textB s v = true → P (.val .none) [.val tb, .val v]) (qe : textB s v = false → E ⟨"InvalidText", none⟩ [.val tb, .val v]) : wp f_need_text [.val tb, .val v] P E := by
  unfold f_need_text bd_need_text
  simp [i0]
  refine is_text_spec hv hn ?_
  cases h : textB s v with
  | false =>
    simp
    exact qe h
  | true =>
    simp
    exact q h
theorem need_sign_spec {n k : Nat} {tb v : D} {s : Str} (i0 : gIx tb (.int 0) = some (.v (.str s))) (hv : okD n k v = true) (hn : n ≤ 100000) (q : wordB s 1 1 v = true → P (.val .none) [.val tb, .val v]) (qe : wordB s 1 1 v = false → E ⟨"InvalidSign", none⟩ [.val tb, .val v]) : wp f_need_sign [.val tb, .val v] P E := by
  unfold f_need_sign bd_need_sign
  simp [i0]
  refine is_sign_spec hv hn ?_
  cases h : wordB s 1 1 v with
  | false =>
    simp
    exact qe h
  | true =>
    simp
    exact q h
/-- the room that a table and a text's length need -/
def Fits (S : Wd) (Rl : Rules) (l : Nat) : Prop := l * cap S Rl + 16 * (1 + 2 * cap S Rl) + endC (cap S Rl) + 2000 ≤ sizeLine
theorem Fits.lm {l : Nat} (T : TOk S Rl) (h : Fits S Rl l) : Lims S Rl b (cap S Rl) (endC (cap S Rl)) := by
  unfold Fits at h
  have h2 : 5 * cap S Rl + endC (cap S Rl) + 200 ≤ sizeLine := by omega
  exact lims T h2
theorem res_ex (b : Bool) (T : TOk S Rl) {w : Wd} (hw : Over S w) : ∃ res, Rw.Res Rl b w res := by
  obtain ⟨res, n, h1, h2, h3⟩ := run1 (b := b) T.ok T.ov T.s3 hw
  exact ⟨res, h3⟩
theorem behind_res {kvs : List (Key × D)} {f : Wd → Option Rs} {c : Nat} {u : Wd} {res : Option (Wd × Nat)} (T : TOk S Rl) (hz : Fits S Rl u.length) (ht : Tops S kvs f) (fo : FOk S Rl b (cap S Rl) (endC (cap S Rl)) f) (tot : Total S f) (hc : c ∈ S) (hu : Over S u) (hl : u.length ≤ 100000) (hres : Rw.Res Rl b (c :: u) res)
    (q : P (.val (dueD res)) [.val (tabD S b Rl), .val (dictD kvs), .val (.str (tx u)), .val (.str (tx [c]))]) :
    wp f_behind_key [.val (tabD S b Rl), .val (dictD kvs), .val (.str (tx u)), .val (.str (tx [c]))] P E := by
  refine behind_key_spec ht fo (hz.lm T) tot T.cps hc hu hl (by unfold Fits at hz; omega) (fun t n hf => ?_) fun nf => ?_
  · cases res with
    | none => exact absurd hf (hres _ _)
    | some p =>
      obtain ⟨e1, e2⟩ := hf.det hres
      have : p = (t, n) := Prod.ext e1.symm e2.symm
      subst this
      exact q
  · cases res with
    | none => exact q
    | some p => exact absurd hres (nf _ _)
theorem put_ok {n k : Nat} {c : Nat} {u : Wd} {res : Option (Wd × Nat)} (T : TOk S Rl) (hz : Fits S Rl u.length) (hok : okD n k (tabD S b Rl) = true) (hn : n ≤ 100000) (htab : tableB (tabD S b Rl) = true) (hc : c ∈ S) (hu : Over S u) (hl : u.length ≤ 100000) (hres : Rw.Res Rl b (c :: u) res)
    (q : P (.val (putD' res)) [.val (tabD S b Rl), .val (.str (tx u)), .val (.str (tx [c]))]) : wp f_put [.val (tabD S b Rl), .val (.str (tx u)), .val (.str (tx [c]))] P E := by
  have sl : sizeLine = 16777216 := sizeLine_eq
  have cu : okD 100000 0 (.str (tx u)) = true := by
    show (decide ((tx u).length ≤ 100000) && PyData.strOk (tx u)) = true
    rw [tx_len, decide_eq_true hl, strOk_tx fun x hx => T.cps x (hu x hx)]
    rfl
  have cc : okD 100000 0 (.str (tx [c])) = true := by
    show (decide ((tx [c]).length ≤ 100000) && PyData.strOk (tx [c])) = true
    rw [tx_len, strOk_tx fun x hx => T.cps x (by rw [List.mem_singleton.mp hx]; exact hc)]
    rfl
  have hu' : textB (sgS S) (.str (tx u)) = true := textB_in.mpr (sg_in.mpr hu)
  have hc' : wordB (sgS S) 1 1 (.str (tx [c])) = true := by
    unfold wordB
    rw [textB_in.mpr (sg_in.mpr fun x hx => by rw [List.mem_singleton.mp hx]; exact hc)]
    rfl
  unfold f_put bd_put
  simp
  refine need_table_spec hok hn (fun _ => ?_) fun h => by rw [htab] at h; cases h
  simp
  refine need_text_spec tab_ix0 cu (by omega) (fun _ => ?_) fun h => by rw [hu'] at h; cases h
  simp
  refine need_sign_spec tab_ix0 cc (by omega) (fun _ => ?_) fun h => by rw [hc'] at h; cases h
  simp
  refine all_tops_spec (hz.lm T) fun kvs f ht fo tot => ?_
  simp
  refine behind_res T hz ht fo tot hc hu hl hres ?_
  cases res with
  | none =>
    simp [dueD]
    exact q
  | some p =>
    simp [dueD]
    exact q
theorem count_ok {n k : Nat} {c : Nat} {u : Wd} {res : Option (Wd × Nat)} (T : TOk S Rl) (hz : Fits S Rl u.length) (hok : okD n k (tabD S b Rl) = true) (hn : n ≤ 100000) (htab : tableB (tabD S b Rl) = true) (hc : c ∈ S) (hu : Over S u) (hl : u.length ≤ 100000) (hres : Rw.Res Rl b (c :: u) res)
    (q : P (.val (cntD res)) [.val (tabD S b Rl), .val (.str (tx u)), .val (.str (tx [c]))]) : wp f_count_steps [.val (tabD S b Rl), .val (.str (tx u)), .val (.str (tx [c]))] P E := by
  have sl : sizeLine = 16777216 := sizeLine_eq
  have cu : okD 100000 0 (.str (tx u)) = true := by
    show (decide ((tx u).length ≤ 100000) && PyData.strOk (tx u)) = true
    rw [tx_len, decide_eq_true hl, strOk_tx fun x hx => T.cps x (hu x hx)]
    rfl
  have cc : okD 100000 0 (.str (tx [c])) = true := by
    show (decide ((tx [c]).length ≤ 100000) && PyData.strOk (tx [c])) = true
    rw [tx_len, strOk_tx fun x hx => T.cps x (by rw [List.mem_singleton.mp hx]; exact hc)]
    rfl
  have hu' : textB (sgS S) (.str (tx u)) = true := textB_in.mpr (sg_in.mpr hu)
  have hc' : wordB (sgS S) 1 1 (.str (tx [c])) = true := by
    unfold wordB
    rw [textB_in.mpr (sg_in.mpr fun x hx => by rw [List.mem_singleton.mp hx]; exact hc)]
    rfl
  unfold f_count_steps bd_count_steps
  simp
  refine need_table_spec hok hn (fun _ => ?_) fun h => by rw [htab] at h; cases h
  simp
  refine need_text_spec tab_ix0 cu (by omega) (fun _ => ?_) fun h => by rw [hu'] at h; cases h
  simp
  refine need_sign_spec tab_ix0 cc (by omega) (fun _ => ?_) fun h => by rw [hc'] at h; cases h
  simp
  refine all_tops_spec (hz.lm T) fun kvs f ht fo tot => ?_
  simp
  refine behind_res T hz ht fo tot hc hu hl hres ?_
  cases res with
  | none =>
    simp [dueD]
    exact q
  | some p =>
    simp [dueD]
    exact q
end
end LF
end

-- part K13QA
section
set_option Elab.async false
set_option linter.all false
set_option maxRecDepth 100000
set_option maxHeartbeats 4000000
namespace LF
open PySem PySem.Spec PyProof.Rows L2 Rw
theorem gCut_m1 {u : Wd} (h : u.length ≤ sizeLine) : gCut (.str (tx u)) none (some (-1)) = some (.v (.str (tx u.tail))) := by
  have e : gCut (.str (tx u)) none (some (-1)) = gCut (.str (tx u)) none (some ((u.length : Int) - ((min 1 u.length : Nat) : Int))) := by
    show (if (tx u).length ≤ sizeLine then some (Got.v (.str (cutS (tx u) none (some (-1))))) else none) = (if (tx u).length ≤ sizeLine then some (Got.v (.str (cutS (tx u) none (some ((u.length : Int) - ((min 1 u.length : Nat) : Int)))))) else none)
    have : HT.sIx (tx u).length (tx u).length (some (-1)) = HT.sIx (tx u).length (tx u).length (some ((u.length : Int) - ((min 1 u.length : Nat) : Int))) := by
      rw [tx_len]
      unfold HT.sIx
      dsimp only
      rw [if_pos (by decide), if_neg (by omega)]
      omega
    have e2 : cutS (tx u) none (some (-1)) = cutS (tx u) none (some ((u.length : Int) - ((min 1 u.length : Nat) : Int))) := by
      unfold cutS
      rw [this]
    rw [e2]
  rw [e, gCut_first h (Nat.min_le_right _ _) rfl]
  congr 3
  cases u with
  | nil => rfl
  | cons c u =>
    have : min 1 (c :: u).length = 1 := by rw [List.length_cons]; omega
    rw [this]
    rfl
theorem over_nil {S : Wd} : Over S [] := fun c hc => by cases hc
/-! ### rows -/
def rkD : Option Nat → D
  | none => .str "back"
  | some c => .str (tx [c])
def KeyOk (S : Wd) (k : Option Nat) : Prop := ∀ c, k = some c → c ∈ S
def optD : Option Wd → D
  | none => .none
  | some t => .str (tx t)
open Classical in
noncomputable def resF (b : Bool) (Rl : Rules) (w : Wd) : Option (Wd × Nat) := if h : ∃ res, Rw.Res Rl b w res then Classical.choose h else none
noncomputable def keyF (b : Bool) (Rl : Rules) (u : Wd) : Option Nat → Option Wd
  | none => some u.tail
  | some c => (resF b Rl (c :: u)).map (·.1)
noncomputable def rowF (b : Bool) (Rl : Rules) : Wd → List (Option Nat) → Option Wd
  | u, [] => some u
  | u, k :: ks => (keyF b Rl u k).bind fun u' => rowF b Rl u' ks
variable {S : Wd} {b : Bool} {Rl : Rules}
theorem resF_ok (T : TOk S Rl) {w : Wd} (hw : Over S w) : Rw.Res Rl b w (resF b Rl w) := by
  unfold resF
  have h := res_ex b T hw
  rw [dif_pos h]
  exact Classical.choose_spec h
/-- how long a text may be after so many keys -/
def room (b : Bool) (Rl : Rules) (m : Nat) : Nat := if b = false then 3 * m else if 3 ≤ ones Rl then 0 else 58 + 55 * m
theorem room_cap (T : TOk S Rl) (r4 : Rl.length ≤ 4) {m l : Nat} (hm : m ≤ 60) (hl : l ≤ room b Rl m) : (l + 1) * cap S Rl ≤ 12000000 ∧ cap S Rl ≤ 29525 ∧ l ≤ 4000 := by
  have h1 := items_len (R := Rl) T.s3
  have h2 := ones_le T.ov T.nd
  have h3 := T.s3
  have hc : cap S Rl ≤ 29525 := cap_le (k := 10) (by omega)
  unfold room at hl
  split at hl
  · have hl2 : l ≤ 180 := by omega
    have : (l + 1) * cap S Rl ≤ 181 * 29525 := Nat.mul_le_mul (by omega) hc
    exact ⟨by omega, hc, by omega⟩
  · split at hl
    · have hl2 : l = 0 := by omega
      subst hl2
      exact ⟨by omega, hc, by omega⟩
    · have hl2 : l ≤ 3358 := by omega
      have hc2 : cap S Rl ≤ 3281 := cap_le (k := 8) (by omega)
      have : (l + 1) * cap S Rl ≤ 3359 * 3281 := Nat.mul_le_mul (by omega) hc2
      exact ⟨by omega, hc, by omega⟩
theorem room_fits (T : TOk S Rl) (r4 : Rl.length ≤ 4) {m l : Nat} (hm : m ≤ 60) (hl : l ≤ room b Rl m) : Fits S Rl l := by
  have sl : sizeLine = 16777216 := sizeLine_eq
  obtain ⟨h1, h2, h3⟩ := room_cap T r4 hm hl
  have h4 : l * cap S Rl ≤ (l + 1) * cap S Rl := Nat.mul_le_mul_right _ (by omega)
  unfold Fits endC
  omega
theorem room_top (T : TOk S Rl) (r4 : Rl.length ≤ 4) {m : Nat} {c : Nat} {u : Wd} (hm : m ≤ 60) (hl : u.length ≤ room b Rl m) : Rw.top (cap S Rl) (c :: u) ≤ 16000000 := by
  obtain ⟨h1, h2, h3⟩ := room_cap T r4 hm hl
  unfold Rw.top
  rw [List.length_cons]
  omega
theorem room_mono {m : Nat} : room b Rl m ≤ room b Rl (m + 1) := by
  unfold room
  split
  · omega
  · split <;> omega
theorem room_step (T : TOk S Rl) {m c n : Nat} {u t : Wd} (hw : Over S (c :: u)) (hl : u.length ≤ room b Rl m) (h : Rw.Fin Rl b (c :: u) t n) : t.length ≤ room b Rl (m + 1) ∧ Over S t := by
  refine ⟨?_, Fin.over T.ov h hw⟩
  have hb := (fin_bound T.ok T.ov T.s3 hw h).2
  rw [List.length_cons] at hb
  unfold room at hl ⊢
  split at hl
  · rename_i e
    rw [if_pos e]
    subst e
    cases h with
    | stop => rw [List.length_cons]; omega
    | once _ hs =>
      have := stp_len T.ok hs
      rw [List.length_cons] at this
      omega
    | step hb _ _ => cases hb
  · rename_i e
    rw [if_neg e]
    split at hl
    · rename_i e2
      rw [if_pos e2]
      have hb1 : b = true := by cases b <;> simp at e ⊢
      subst hb1
      have := fin_empty T.ov T.nd (Nat.le_trans T.s3 e2) hw h
      rw [this]
      exact Nat.le_refl 0
    · rename_i e2
      rw [if_neg e2]
      omega
/-- a key leaves the text in its room -/
theorem keyF_room (T : TOk S Rl) {m : Nat} {u t : Wd} {k : Option Nat} (hk : KeyOk S k) (hu : Over S u) (hl : u.length ≤ room b Rl m) (h : keyF b Rl u k = some t) : t.length ≤ room b Rl (m + 1) ∧ Over S t := by
  cases k with
  | none =>
    injection h with h
    subst h
    have := room_mono (b := b) (Rl := Rl) (m := m)
    exact ⟨by rw [List.length_tail]; omega, fun x hx => hu x (List.mem_of_mem_tail hx)⟩
  | some c =>
    have hw : Over S (c :: u) := fun x hx => by
      rcases List.mem_cons.mp hx with rfl | hx
      · exact hk x rfl
      · exact hu x hx
    have hr := resF_ok (b := b) T hw
    have h : (resF b Rl (c :: u)).map (·.1) = some t := h
    cases e : resF b Rl (c :: u) with
    | none => rw [e] at h; cases h
    | some p =>
      rw [e] at h hr
      injection h with h
      subst h
      exact room_step T hw hl hr
theorem rowF_over (T : TOk S Rl) : ∀ (ks : List (Option Nat)) (u t : Wd) (m : Nat), (∀ k ∈ ks, KeyOk S k) → Over S u → u.length ≤ room b Rl m → rowF b Rl u ks = some t → Over S t ∧ t.length ≤ room b Rl (m + ks.length) := by
  intro ks
  induction ks with
  | nil =>
    intro u t m hk hu hl h
    injection h with h
    subst h
    exact ⟨hu, hl⟩
  | cons k ks ih =>
    intro u t m hk hu hl h
    have h : (keyF b Rl u k).bind (fun u' => rowF b Rl u' ks) = some t := h
    cases e : keyF b Rl u k with
    | none => rw [e] at h; cases h
    | some u' =>
      rw [e] at h
      obtain ⟨g1, g2⟩ := keyF_room T (hk k List.mem_cons_self) hu hl e
      have := ih u' t (m + 1) (fun k hk2 => hk k (List.mem_cons_of_mem _ hk2)) g2 g1 h
      rw [List.length_cons, show m + (ks.length + 1) = m + 1 + ks.length by omega]
      exact this
end LF
end

-- part K13QB
section
set_option Elab.async false
set_option linter.all false
set_option maxRecDepth 100000
set_option maxHeartbeats 4000000
namespace LF
open PySem PySem.Spec PyProof.Rows L2 Rw
section
variable {P : R → En → Prop} {E : Exc → En → Prop} {S : Wd} {b : Bool} {Rl : Rules}
/-- the program's row -/
def brIn (S : Wd) (b : Bool) (Rl : Rules) (tb tp row : D) (x0 : Option Wd) (ds : List D) (ρ : En) : Prop := ∃ (ks : List (Option Nat)) (u : Wd) (m : Nat) (a4 a5 : Slot), ds = ks.map rkD ∧ (∀ k ∈ ks, KeyOk S k) ∧ Over S u ∧ u.length ≤ room b Rl m ∧ m + ks.length ≤ 60 ∧ x0 = rowF b Rl u ks ∧ pinS (some a4) = false ∧ pinS (some a5) = false ∧ ρ = [.val tb, .val tp, .val (.str (tx u)), .val row, a4, a5]
theorem behind_row_spec {kvs : List (Key × D)} {f : Wd → Option Rs} {ks : List (Option Nat)} (T : TOk S Rl) (r4 : Rl.length ≤ 4) (ht : Tops S kvs f) (fo : FOk S Rl b (cap S Rl) (endC (cap S Rl)) f) (tot : Total S f) (hk : ∀ k ∈ ks, KeyOk S k) (hl : ks.length ≤ 60)
    (q : P (.val (optD (rowF b Rl [] ks))) [.val (tabD S b Rl), .val (dictD kvs), .val (.str (tx [])), .val (.tuple (ks.map rkD))]) :
    wp f_behind_row [.val (tabD S b Rl), .val (dictD kvs), .val (.str (tx [])), .val (.tuple (ks.map rkD))] P E := by
  have sl : sizeLine = 16777216 := sizeLine_eq
  unfold f_behind_row bd_behind_row
  simp
  generalize hx : rowF b Rl [] ks = x0 at q
  refine wp_runFor (I := brIn S b Rl (tabD S b Rl) (dictD kvs) (.tuple (ks.map rkD)) x0) ?_ ?_ _ _ ⟨ks, [], 0, .unb, .unb, rfl, hk, over_nil, Nat.zero_le _, by omega, hx.symm, rfl, rfl, rfl⟩
  · rintro d ds ρ ⟨ks1, u, m, a4, a5, e, hk1, hu, hlu, hm, hx1, p4, p5, rfl⟩
    cases ks1 with
    | nil => cases e
    | cons k ks1 =>
      injection e with e1 e2
      subst e1 e2
      have hk0 := hk1 k List.mem_cons_self
      have hks : ∀ k ∈ ks1, KeyOk S k := fun k h => hk1 k (List.mem_cons_of_mem _ h)
      rw [List.length_cons] at hm
      obtain ⟨-, -, hl4⟩ := room_cap T r4 (by omega) hlu
      have hx1 : x0 = (keyF b Rl u k).bind fun u' => rowF b Rl u' ks1 := hx1
      simp [p4, p5]
      cases k with
      | none =>
        refine back_key_spec T.cps hu (by omega) ?_
        have h1 := keyF_room (b := b) T hk0 hu hlu rfl
        simp [p5]
        exact ⟨ks1, u.tail, m + 1, _, _, rfl, hks, h1.2, h1.1, by omega, hx1, rfl, rfl, rfl⟩
      | some c =>
        have hw : Over S (c :: u) := fun x hx => by
          rcases List.mem_cons.mp hx with rfl | hx
          · exact hk0 x rfl
          · exact hu x hx
        have hr := resF_ok (b := b) T hw
        refine behind_res T (room_fits T r4 (by omega) hlu) ht fo tot (hk0 c rfl) hu (by omega) hr ?_
        have hkf : keyF b Rl u (some c) = (resF b Rl (c :: u)).map (·.1) := rfl
        cases e : resF b Rl (c :: u) with
        | none =>
          rw [e] at hkf
          rw [hkf] at hx1
          subst hx1
          simp [dueD, p5]
          exact q
        | some p =>
          rw [e] at hkf
          have h1 := keyF_room (b := b) T hk0 hu hlu hkf
          rw [hkf] at hx1
          simp [dueD, p5]
          exact ⟨ks1, p.1, m + 1, _, _, rfl, hks, h1.2, h1.1, by omega, hx1, rfl, rfl, rfl⟩
  · rintro ρ ⟨ks1, u, m, a4, a5, e, hk1, hu, hlu, hm, hx1, p4, p5, rfl⟩
    cases ks1 with
    | cons k ks1 => cases e
    | nil =>
      have hx1 : x0 = some u := hx1
      subst hx1
      simp
      exact q
end
end LF
end

-- part K13QC
section
set_option Elab.async false
set_option linter.all false
set_option maxRecDepth 100000
set_option maxHeartbeats 4000000
namespace LF
open PySem PySem.Spec PyProof.Rows L2 Rw
section
variable {P : R → En → Prop} {E : Exc → En → Prop} {S : Wd} {b : Bool} {Rl : Rules}
theorem ok_txn {u : Wd} {n : Nat} (T : TOk S Rl) (h : Over S u) (hl : u.length ≤ n) {k : Nat} : okD n k (.str (tx u)) = true := by
  have : flatOk n (.str (tx u)) = true := by
    show (decide ((tx u).length ≤ n) && PyData.strOk (tx u)) = true
    rw [tx_len, decide_eq_true hl, strOk_tx fun x hx => T.cps x (h x hx)]
    rfl
  cases k <;> exact this
theorem rkD_ok (T : TOk S Rl) {o : Option Nat} (h : KeyOk S o) {k : Nat} : okD 30 k (rkD o) = true := by
  cases o with
  | none =>
    have : flatOk 30 (.str "back") = true := by decide +kernel
    cases k <;> exact this
  | some c => exact ok_txn T (fun x hx => by rw [List.mem_singleton.mp hx]; exact h c rfl) (by simp)
theorem keyB_ok (T : TOk S Rl) {o : Option Nat} (h : KeyOk S o) : keyB (sgS S) (rkD o) = true := by
  unfold keyB
  cases o with
  | none =>
    rw [show backB (rkD none) = true by decide +kernel, Bool.or_true]
  | some c =>
    have : wordB (sgS S) 1 1 (rkD (some c)) = true := by
      unfold wordB
      show (textB (sgS S) (.str (tx [c])) && lenB 1 1 (.str (tx [c]))) = true
      rw [textB_in.mpr (sg_in.mpr fun x hx => by rw [List.mem_singleton.mp hx]; exact h c rfl)]
      rfl
    rw [this, Bool.true_or]
theorem row_ok (T : TOk S Rl) {ks : List (Option Nat)} (hk : ∀ k ∈ ks, KeyOk S k) (hl : ks.length ≤ 60) : okD 400 3 (.tuple (ks.map rkD)) = true ∧ okD 400 3 (.list (ks.map rkD)) = true ∧ rowB (sgS S) (.tuple (ks.map rkD)) = true := by
  have h1 : (decide ((ks.map rkD).length ≤ 400) && ((ks.map rkD).all (okD 400 2))) = true := by
    rw [List.length_map, decide_eq_true (by omega), Bool.true_and, List.all_eq_true]
    intro d hd
    obtain ⟨k, hk2, rfl⟩ := List.mem_map.mp hd
    exact okD_mono (by omega) (Nat.le_refl _) (rkD_ok T (hk k hk2))
  refine ⟨h1, h1, ?_⟩
  show (decide ((ks.map rkD).length ≤ 300) && (ks.map rkD).all (keyB (sgS S))) = true
  rw [List.length_map, decide_eq_true (by omega), Bool.true_and, List.all_eq_true]
  intro d hd
  obtain ⟨k, hk2, rfl⟩ := List.mem_map.mp hd
  exact keyB_ok T (hk k hk2)
theorem need_row_spec {n k : Nat} {tb v : D} {s : Str} (i0 : gIx tb (.int 0) = some (.v (.str s))) (hv : okD n k v = true) (hn : n ≤ 100000) (hk : k ≤ 64) (q : rowB s v = true → P (.val .none) [.val tb, .val v]) (qe : rowB s v = false → E ⟨"InvalidRow", none⟩ [.val tb, .val v]) : wp f_need_row [.val tb, .val v] P E := by
  unfold f_need_row bd_need_row
  simp [i0]
  refine are_keys_spec hv hn hk ?_
  cases h : rowB s v with
  | false =>
    simp
    exact qe h
  | true =>
    simp
    exact q h
theorem behind_row_at {t0 : D} {kvs : List (Key × D)} {f : Wd → Option Rs} {ks : List (Option Nat)} (h0 : t0 = .str (tx [])) (T : TOk S Rl) (r4 : Rl.length ≤ 4) (ht : Tops S kvs f) (fo : FOk S Rl b (cap S Rl) (endC (cap S Rl)) f) (tot : Total S f) (hk : ∀ k ∈ ks, KeyOk S k) (hl : ks.length ≤ 60)
    (q : P (.val (optD (rowF b Rl [] ks))) [.val (tabD S b Rl), .val (dictD kvs), .val t0, .val (.tuple (ks.map rkD))]) :
    wp f_behind_row [.val (tabD S b Rl), .val (dictD kvs), .val t0, .val (.tuple (ks.map rkD))] P E := by
  subst h0
  exact behind_row_spec T r4 ht fo tot hk hl q
theorem empty_tx : ("" : Str) = tx [] := by decide +kernel
theorem typed_ok {ks : List (Option Nat)} (T : TOk S Rl) (r4 : Rl.length ≤ 4) (hok : okD 30 4 (tabD S b Rl) = true) (htab : tableB (tabD S b Rl) = true) (hk : ∀ k ∈ ks, KeyOk S k) (hl : ks.length ≤ 60)
    (q : P (.val (optD (rowF b Rl [] ks))) [.val (tabD S b Rl), .val (.tuple (ks.map rkD))]) : wp f_typed [.val (tabD S b Rl), .val (.tuple (ks.map rkD))] P E := by
  have sl : sizeLine = 16777216 := sizeLine_eq
  obtain ⟨o1, o2, o3⟩ := row_ok T hk hl
  unfold f_typed bd_typed
  simp
  refine need_table_spec hok (by omega) (fun _ => ?_) fun h => by rw [htab] at h; cases h
  simp
  refine need_row_spec tab_ix0 o1 (by omega) (by omega) (fun _ => ?_) fun h => by rw [o3] at h; cases h
  simp
  refine all_tops_spec ((room_fits (b := b) T r4 (show 0 ≤ 60 by omega) (Nat.zero_le _)).lm T) fun kvs f ht fo tot => ?_
  simp
  refine behind_row_at (congrArg PyData.str empty_tx) T r4 ht fo tot hk hl ?_
  simp
  exact q
/-! ### rows drawn -/
def ksOf (S : Wd) : List (Option Nat) := S.map some ++ (S.map some ++ S.map some) ++ [none]
theorem signs_key : (signsOf (sgS S)).map PyData.str = (S.map some).map rkD := by
  unfold signsOf
  rw [List.map_map, List.map_map]
  rfl
theorem ksOf_ok {k : Option Nat} (h : k ∈ ksOf S) : KeyOk S k := by
  intro c hc
  subst hc
  unfold ksOf at h
  simpa using h
theorem law_row_spec {st : List D} {m : Nat} (T : TOk S Rl) (hs : SrcOk st) (hm : m ≤ 60)
    (q : ∀ (ks : List (Option Nat)) (st' : List D), SrcOk st' → ks.length ≤ m → (∀ k ∈ ks, KeyOk S k) → P (.val (.tuple (ks.map rkD))) [.own (.lst st') .bor, .val (tabD S b Rl), .val (.int (m : Nat))]) :
    wp f__law_row [.own (.lst st) .bor, .val (tabD S b Rl), .val (.int (m : Nat))] P E := by
  have sl : sizeLine = 16777216 := sizeLine_eq
  have h3 := T.s3
  have hz : (sgS S).cps.size ≤ 16777216 := by
    have : (sgS S).cps.size = S.length := rfl
    omega
  have hmul : gMul (.list ((signsOf (sgS S)).map .str)) (.int 3) = some (.l ((S.map some ++ (S.map some ++ S.map some)).map rkD)) := by
    rw [signs_key]
    show (if _ then some (Got.l _) else none) = _
    rw [if_pos ⟨by decide, by decide, by
      rw [List.length_map, List.length_map]
      show S.length * 3 ≤ sizeLine
      omega⟩]
    congr 2
    simp [List.replicate_succ]
  have hg : gAdd (.list ((S.map some ++ (S.map some ++ S.map some)).map rkD)) (.list [.str "back"]) = some (.l ((ksOf S).map rkD)) := by
    show (if _ then some (Got.l _) else none) = _
    rw [if_pos (by
      show _ + 1 ≤ sizeLine
      rw [List.length_map, List.length_append, List.length_append, List.length_map]
      omega)]
    congr 2
    unfold ksOf
    rw [List.map_append (l₂ := [none])]
    rfl
  have lk : ((ksOf S).map rkD).length = 3 * S.length + 1 := by
    unfold ksOf
    simp
    omega
  have ok1 : ∀ d ∈ (ksOf S).map rkD, ∃ k, KeyOk S k ∧ d = rkD k := fun d hd => by
    obtain ⟨k, hk, rfl⟩ := List.mem_map.mp hd
    exact ⟨k, ksOf_ok hk, rfl⟩
  generalize (ksOf S).map rkD = keys at hg lk ok1
  generalize (S.map some ++ (S.map some ++ S.map some)).map rkD = ks0 at hg hmul
  unfold f__law_row bd__law_row
  simp only [wp_defF]
  rw [if_pos ⟨rfl, rfl⟩]
  simp only [wp_sSeq, wp_sSet, wp_e2, wp_e1, wp_eVar, wp_eC, wp_eLst, wp_aCons, wp_aNil]
  simp [tab_ix0, hz, sl, hmul, hg]
  refine pick_spec hs (by omega) (by omega) fun v st1 h1' v0 v1 => ?_
  simp
  refine ⟨⟨by omega, by omega⟩, ?_⟩
  refine wp_runLc (I := fun ds acc ρ => ∃ (st' : List D) (ks : List (Option Nat)), SrcOk st' ∧ acc = ks.map rkD ∧ (∀ k ∈ ks, KeyOk S k) ∧ ks.length + ds.length ≤ m ∧ ρ = [.own (.lst st') .bor, .val (tabD S b Rl), .val (.int (m : Nat)), .own (.lst keys) .loc, .unb]) ?_ ?_ _ _ _ ⟨st1, [], h1', rfl, by simp, by simp [rngD]; omega, rfl⟩
  · rintro d ds acc ρ ⟨st', ks, hs', rfl, ha, hle, rfl⟩
    simp only [List.length_cons] at hle
    simp
    refine chosen_own hs' (by
      intro z
      rw [z] at lk
      simp at lk) (by omega) fun x st2 h2 hx => ?_
    obtain ⟨k, hk, rfl⟩ := ok1 x hx
    have fin : ∃ (st' : List D) (ks' : List (Option Nat)), SrcOk st' ∧ ks.map rkD ++ [rkD k] = ks'.map rkD ∧ (∀ k ∈ ks', KeyOk S k) ∧ ks'.length + ds.length ≤ m ∧ [Slot.own (.lst st2) .bor, .val (tabD S b Rl), .val (.int (m : Nat)), .own (.lst keys) .loc, .unb] = [Slot.own (.lst st') .bor, .val (tabD S b Rl), .val (.int (m : Nat)), .own (.lst keys) .loc, .unb] :=
      ⟨st2, ks ++ [k], h2, by simp, fun y hy => by
        rcases List.mem_append.mp hy with hy | hy
        · exact ha y hy
        · rw [List.mem_singleton.mp hy]
          exact hk, by simp; omega, rfl⟩
    have hlen : ks.length < sizeLine := by omega
    simpa [hlen] using fin
  · rintro acc ρ ⟨st', ks, hs', rfl, ha, hle, rfl⟩
    simp only [List.length_nil] at hle
    simp
    exact q ks st' hs' (by omega) ha
end
end LF
end

-- part K13QD
section
set_option Elab.async false
set_option linter.all false
set_option maxRecDepth 100000
set_option maxHeartbeats 4000000
namespace LF
open PySem PySem.Spec PyProof.Rows L2 Rw
theorem fin_zero {R : Rules} {b : Bool} {w t : Wd} {n : Nat} (h : Rw.Fin R b w t n) : decide ((n : Int) = 0) = (fitN R w).isNone ∧ (n = 0 → t = w) := by
  cases h with
  | stop h =>
    rw [stp_none.mp h]
    exact ⟨rfl, fun _ => rfl⟩
  | once _ hs =>
    cases e : fitN R w with
    | none =>
      rw [stp_none.mpr e] at hs
      cases hs
    | some k => exact ⟨rfl, fun h => by cases h⟩
  | step _ hs _ =>
    cases e : fitN R w with
    | none =>
      rw [stp_none.mpr e] at hs
      cases hs
    | some k => exact ⟨decide_eq_false (by omega), fun h => by omega⟩
theorem fin_end {R : Rules} {b : Bool} {w t : Wd} {n : Nat} (h : Rw.Fin R b w t n) (hb : b = true) : fitN R t = none := by
  induction h with
  | stop h => exact stp_none.mp h
  | once h => rw [h] at hb; cases hb
  | step _ _ _ ih => exact ih
theorem fin_once {R : Rules} {w t : Wd} {n : Nat} (h : Rw.Fin R false w t n) : n ≤ 1 := by
  cases h with
  | stop h => exact Nat.zero_le _
  | once _ hs => exact Nat.le_refl _
  | step h _ _ => cases h
theorem rowF_app {b : Bool} {R : Rules} : ∀ (ks ls : List (Option Nat)) (u : Wd), rowF b R u (ks ++ ls) = (rowF b R u ks).bind fun u' => rowF b R u' ls := by
  intro ks
  induction ks with
  | nil => intro ls u; rfl
  | cons k ks ih =>
    intro ls u
    show (keyF b R u k).bind (fun u' => rowF b R u' (ks ++ ls)) = ((keyF b R u k).bind fun u' => rowF b R u' ks).bind _
    cases keyF b R u k with
    | none => rfl
    | some u' => exact ih ls u'
theorem ne_bool (a b : Bool) : gNe (.bool a) (.bool b) = some (.v (.bool (!(a == b)))) := by
  cases a <;> cases b <;> rfl
theorem num_none (o : Option Nat) : gIs false (numD o) .none = some (.v (.bool o.isNone)) := by
  cases o <;> simp [numD]
section
variable {P : R → En → Prop} {Q : Out → En → Prop} {E : Exc → En → Prop} {S : Wd} {b : Bool} {Rl : Rules}
def np (s : Slot) : Prop := pinS (some s) = false
theorem npv {d : D} : np (.val d) := rfl
theorem npo {m : M} : np (.own m .loc) := rfl
theorem ne_same {x : Str} (h : PyData.strOk x = true) : gNe (.str x) (.str x) = some (.v (.bool false)) := by
  rw [gNe_of (shaped_str h) (shaped_str h)]
  simp [PyData.eqv]
theorem ne_opt (T : TOk S Rl) {x : Option Wd} (h : ∀ t, x = some t → Over S t) : gNe (optD x) (optD x) = some (.v (.bool false)) := by
  cases x with
  | none =>
    show gNe .none .none = _
    rw [gNe_of (by decide +kernel) (by decide +kernel)]
    rfl
  | some t => exact ne_same (strOk_tx fun c hc => T.cps c (h t rfl c hc))
def ky_13 : EM Out :=
  (sIf (tAnd (tB (e2 (gIs true) (eVar 6) (eC .none))) (tB (e2 gEq (eVar 8) (eC (.str "back")))))
  (sSet 6 (eSl (eVar 6) pNone (pSome (e1 gNeg (eC (.int 1))))))
  (sIf (tB (e2 (gIs true) (eVar 6) (eC .none)))
  (sSet 6 (eCall f_put (aCons (eVar 3) (aCons (eVar 6) (aCons (eVar 8) aNil)))))
  sNx))
theorem ky_spec {s0 s1 s2 s4 s5 s7 s9 s10 s11 : Slot} {x : Option Wd} {k : Option Nat} {m : Nat} (T : TOk S Rl) (r4 : Rl.length ≤ 4) (hok : okD 30 4 (tabD S b Rl) = true) (htab : tableB (tabD S b Rl) = true) (hk : KeyOk S k) (hx : ∀ u, x = some u → Over S u ∧ u.length ≤ room b Rl m) (hm : m ≤ 60)
    (q : Q .nx [s0, s1, s2, .val (tabD S b Rl), s4, s5, .val (optD (x.bind fun u => keyF b Rl u k)), s7, .val (rkD k), s9, s10, s11]) :
    wp ky_13 [s0, s1, s2, .val (tabD S b Rl), s4, s5, .val (optD x), s7, .val (rkD k), s9, s10, s11] Q E := by
  have sl : sizeLine = 16777216 := sizeLine_eq
  unfold ky_13
  cases x with
  | none =>
    simp [optD]
    exact q
  | some u =>
    obtain ⟨hu, hlu⟩ := hx u rfl
    obtain ⟨-, -, hl4⟩ := room_cap T r4 hm hlu
    cases k with
    | none =>
      have hb : gEq (rkD none) (.str "back") = some (.v (.bool true)) := by
        show gEq (.str "back") (.str "back") = _
        rw [gEq_of (by decide +kernel) (by decide +kernel)]
        rfl
      simp [optD, hb, gCut_m1 (show u.length ≤ sizeLine by omega)]
      exact q
    | some c =>
      have hc := hk c rfl
      have hw : Over S (c :: u) := fun x hx => by
        rcases List.mem_cons.mp hx with rfl | hx
        · exact hc
        · exact hu x hx
      have hr := resF_ok (b := b) T hw
      have hb : gEq (rkD (some c)) (.str "back") = some (.v (.bool false)) := gEq_back (T.cps c hc)
      simp [optD, hb]
      refine put_ok T (room_fits T r4 hm hlu) hok (by omega) htab hc hu (by omega) hr ?_
      have e : putD' (resF b Rl (c :: u)) = optD (keyF b Rl u (some c)) := by
        show putD' (resF b Rl (c :: u)) = optD ((resF b Rl (c :: u)).map (·.1))
        cases resF b Rl (c :: u) <;> rfl
      rw [e]
      simp
      exact q
def s1_13 : EM Out :=
  (sIf (tOr (tB (e2 gNe (e2 gEq (eVar 11) (eC (.int 0))) (e2 (gIs false) (eCall f__law_fits (aCons (eVar 3) (aCons (e2 gAdd (eVar 6) (eVar 9)) aNil))) (eC .none)))) (tAnd (tB (e2 gEq (eVar 11) (eC (.int 0)))) (tB (e2 gNe (eVar 10) (e2 gAdd (eVar 6) (eVar 9))))))
  (sRet (eC (.bool false)))
  sNx)
def s2_13 : EM Out :=
  (sIf (tOr (tAnd (tTru (e2 gIx (eVar 3) (eC (.int 1)))) (tB (e2 (gIs true) (eCall f__law_fits (aCons (eVar 3) (aCons (eVar 10) aNil))) (eC .none)))) (tAnd (tNot (tTru (e2 gIx (eVar 3) (eC (.int 1))))) (tB (e2 gGt (eVar 11) (eC (.int 1))))))
  (sRet (eC (.bool false)))
  sNx)
def s3_13 : EM Out :=
  (sIf (tAnd (tB (e2 (gIs true) (eVar 7) (eC .none))) (tAnd (tB (e2 gLt (e1 gLen (eVar 4)) (eC (.int 299)))) (tB (e2 gNe (eCall f_typed (aCons (eVar 3) (aCons (e2 gAdd (eVar 4) (eTup (aCons (eVar 9) (aCons (eC (.str "back")) aNil)))) aNil))) (eSl (eVar 10) pNone (pSome (e1 gNeg (eC (.int 1)))))))))
  (sRet (eC (.bool false)))
  sNx)
def sg_13 : EM Out :=
  (sSeq (sPar [10, 11] (aCons (eCall f_put (aCons (eVar 3) (aCons (eVar 6) (aCons (eVar 9) aNil)))) (aCons (eCall f_count_steps (aCons (eVar 3) (aCons (eVar 6) (aCons (eVar 9) aNil)))) aNil)))
  (sSeq (sIf (tB (e2 gNe (e2 (gIs false) (eVar 10) (eC .none)) (e2 (gIs false) (eVar 11) (eC .none))))
  (sRet (eC (.bool false)))
  sNx)
  (sSeq (sIf (tB (e2 (gIs false) (eVar 10) (eC .none)))
  sCt
  sNx)
  (sSeq s1_13 (sSeq s2_13 s3_13)))))
theorem s1_spec {tb : D} {s0 s1 s2 s4 s5 s7 s8 : Slot} {u t : Wd} {c n : Nat} (hR : Rl.length ≤ 1000) (i2 : gIx tb (.int 2) = some (.v (.tuple (Rl.map ruleD)))) (hl4 : u.length ≤ 4000) (cw : Cps (c :: u)) (hf : Rw.Fin Rl b (c :: u) t n)
    (q : Q .nx [s0, s1, s2, .val tb, s4, s5, .val (.str (tx u)), s7, s8, .val (.str (tx [c])), .val (.str (tx t)), .val (.int (n : Nat))]) :
    wp s1_13 [s0, s1, s2, .val tb, s4, s5, .val (.str (tx u)), s7, s8, .val (.str (tx [c])), .val (.str (tx t)), .val (.int (n : Nat))] Q E := by
  have sl : sizeLine = 16777216 := sizeLine_eq
  obtain ⟨z1, z2⟩ := fin_zero hf
  have hadd : gAdd (.str (tx u)) (.str (tx [c])) = some (.v (.str (tx (c :: u)))) := gAdd_tx (by simp; omega)
  have zb : ((n : Int) == 0) = (fitN Rl (c :: u)).isNone := by
    rw [← z1]
    by_cases h : (n : Int) = 0
    · rw [h]
      rfl
    · rw [decide_eq_false h]
      simpa using h
  unfold s1_13
  simp [hadd]
  refine fits_at hR i2 ?_
  simp [num_none, ne_bool, zb]
  cases e : fitN Rl (c :: u) with
  | none =>
    rw [e] at z1
    have hn : n = 0 := by
      have : ((n : Int) = 0) := of_decide_eq_true z1
      omega
    have ht := z2 hn
    rw [ht]
    have hsame : gNe (.str (tx (c :: u))) (.str (tx (c :: u))) = some (.v (.bool false)) := ne_same (strOk_tx cw)
    rw [ht] at q
    simp [hsame]
    exact ⟨by omega, q⟩
  | some k =>
    simp
    exact q
theorem s2_spec {tb : D} {s0 s1 s2 s4 s5 s6 s7 s8 s9 : Slot} {w t : Wd} {n : Nat} (hR : Rl.length ≤ 1000) (i1 : gIx tb (.int 1) = some (.v (.bool b))) (i2 : gIx tb (.int 2) = some (.v (.tuple (Rl.map ruleD)))) (hf : Rw.Fin Rl b w t n)
    (q : Q .nx [s0, s1, s2, .val tb, s4, s5, s6, s7, s8, s9, .val (.str (tx t)), .val (.int (n : Nat))]) :
    wp s2_13 [s0, s1, s2, .val tb, s4, s5, s6, s7, s8, s9, .val (.str (tx t)), .val (.int (n : Nat))] Q E := by
  unfold s2_13
  cases b with
  | true =>
    have hn : fitN Rl t = none := fin_end hf rfl
    simp [i1]
    refine fits_at hR i2 ?_
    simp [hn, numD, i1]
    exact q
  | false =>
    have hn := fin_once hf
    simp [i1]
    rw [if_neg (by omega)]
    exact q
theorem s3_spec {tb : D} {s0 s1 s2 s5 s6 s8 s11 : Slot} {w : Option Wd} {t : Wd} {c : Nat} {ks : List (Option Nat)} (hl : ks.length ≤ 30) (ct : Cps t) (t4 : t.length ≤ 4000)
    (ty : ∀ {P : R → En → Prop} {E : Exc → En → Prop}, P (.val (optD (rowF b Rl [] (ks ++ [some c, none])))) [.val tb, .val (.tuple ((ks ++ [some c, none]).map rkD))] → wp f_typed [.val tb, .val (.tuple ((ks ++ [some c, none]).map rkD))] P E)
    (hrow : ∀ v, w = some v → rowF b Rl [] (ks ++ [some c, none]) = some t.tail)
    (q : Q .nx [s0, s1, s2, .val tb, .val (.tuple (ks.map rkD)), s5, s6, .val (optD w), s8, .val (.str (tx [c])), .val (.str (tx t)), s11]) :
    wp s3_13 [s0, s1, s2, .val tb, .val (.tuple (ks.map rkD)), s5, s6, .val (optD w), s8, .val (.str (tx [c])), .val (.str (tx t)), s11] Q E := by
  have sl : sizeLine = 16777216 := sizeLine_eq
  have htl : gCut (.str (tx t)) none (some (-1)) = some (.v (.str (tx t.tail))) := gCut_m1 (by omega)
  have hts : gNe (.str (tx t.tail)) (.str (tx t.tail)) = some (.v (.bool false)) := ne_same (strOk_tx fun x hx => ct x (List.mem_of_mem_tail hx))
  have hrk : List.map rkD ks ++ [PyData.str (tx [c]), PyData.str (Str.ofString "back")] = (ks ++ [some c, none]).map rkD := by
    rw [List.map_append]
    rfl
  unfold s3_13
  cases w with
  | none =>
    simp [optD]
    exact q
  | some v =>
    have hrw := hrow v rfl
    rw [hrw] at ty
    simp [optD, sl, show ks.length ≤ 16777216 by omega, show (ks.length : Int) < 299 by omega]
    refine ⟨by omega, ?_⟩
    rw [hrk]
    refine ty ?_
    simp [optD, htl, hts]
    exact q
theorem sg_spec {s0 s1 s2 s5 s8 a10 a11 : Slot} {w : Option Wd} {u : Wd} {c : Nat} {ks : List (Option Nat)} (T : TOk S Rl) (r4 : Rl.length ≤ 4) (hok : okD 30 4 (tabD S b Rl) = true) (htab : tableB (tabD S b Rl) = true) (hks : ∀ k ∈ ks, KeyOk S k) (hl : ks.length ≤ 30) (hw0 : w = rowF b Rl [] ks) (hwu : ∀ v, w = some v → v = u) (hu : Over S u) (hlu : u.length ≤ room b Rl 30) (hc : c ∈ S) (p10 : np a10) (p11 : np a11)
    (q : ∀ a10 a11, np a10 → np a11 → Q .nx [s0, s1, s2, .val (tabD S b Rl), .val (.tuple (ks.map rkD)), s5, .val (.str (tx u)), .val (optD w), s8, .val (.str (tx [c])), a10, a11] ∧ Q .ct [s0, s1, s2, .val (tabD S b Rl), .val (.tuple (ks.map rkD)), s5, .val (.str (tx u)), .val (optD w), s8, .val (.str (tx [c])), a10, a11]) :
    wp sg_13 [s0, s1, s2, .val (tabD S b Rl), .val (.tuple (ks.map rkD)), s5, .val (.str (tx u)), .val (optD w), s8, .val (.str (tx [c])), a10, a11] Q E := by
  obtain ⟨-, -, hl4⟩ := room_cap T r4 (show 30 ≤ 60 by omega) hlu
  have hz := room_fits T r4 (show 30 ≤ 60 by omega) hlu
  have hr5 := T.r5
  have hw : Over S (c :: u) := fun x hx => by
    rcases List.mem_cons.mp hx with rfl | hx
    · exact hc
    · exact hu x hx
  have cw : Cps (c :: u) := fun x hx => T.cps x (hw x hx)
  have hr := resF_ok (b := b) T hw
  unfold np at p10 p11
  have hks2 : ∀ k ∈ ks ++ [some c, none], KeyOk S k := fun k hk => by
    rcases List.mem_append.mp hk with hk | hk
    · exact hks k hk
    · rcases List.mem_cons.mp hk with rfl | hk
      · intro x hx
        injection hx with hx
        exact hx ▸ hc
      · rw [List.mem_singleton.mp hk]
        intro x hx
        cases hx
  have ty : ∀ {P : R → En → Prop} {E : Exc → En → Prop}, P (.val (optD (rowF b Rl [] (ks ++ [some c, none])))) [.val (tabD S b Rl), .val (.tuple ((ks ++ [some c, none]).map rkD))] → wp f_typed [.val (tabD S b Rl), .val (.tuple ((ks ++ [some c, none]).map rkD))] P E :=
    fun q => typed_ok T r4 hok htab hks2 (by rw [List.length_append]; simp; omega) q
  have pt : ∀ {P : R → En → Prop} {E : Exc → En → Prop}, P (.val (putD' (resF b Rl (c :: u)))) [.val (tabD S b Rl), .val (.str (tx u)), .val (.str (tx [c]))] → wp f_put [.val (tabD S b Rl), .val (.str (tx u)), .val (.str (tx [c]))] P E :=
    fun q => put_ok T hz hok (by omega) htab hc hu (by omega) hr q
  have cn : ∀ {P : R → En → Prop} {E : Exc → En → Prop}, P (.val (cntD (resF b Rl (c :: u)))) [.val (tabD S b Rl), .val (.str (tx u)), .val (.str (tx [c]))] → wp f_count_steps [.val (tabD S b Rl), .val (.str (tx u)), .val (.str (tx [c]))] P E :=
    fun q => count_ok T hz hok (by omega) htab hc hu (by omega) hr q
  have hR : Rl.length ≤ 1000 := Nat.le_trans hr5 (by decide)
  have i1 := @tab_ix1 S b Rl
  have i2 := @tab_ix2 S b Rl
  generalize tabD S b Rl = tb at q ty pt cn i1 i2 hok htab ⊢
  unfold sg_13
  simp
  refine pt ?_
  simp
  refine cn ?_
  cases e : resF b Rl (c :: u) with
  | none =>
    simp [putD', cntD, p10, p11, ne_bool]
    exact (q _ _ npv npv).2
  | some p =>
    obtain ⟨t, n⟩ := p
    rw [e] at hr
    have hf : Rw.Fin Rl b (c :: u) t n := hr
    obtain ⟨t1, t2⟩ := room_step T hw hlu hf
    obtain ⟨-, -, t4⟩ := room_cap T r4 (show 31 ≤ 60 by omega) t1
    have ct : Cps t := fun x hx => T.cps x (t2 x hx)
    have hrow : ∀ v, w = some v → rowF b Rl [] (ks ++ [some c, none]) = some t.tail := fun v hv => by
      rw [rowF_app, ← hw0, hv, hwu v hv]
      show (keyF b Rl u (some c)).bind (fun u' => rowF b Rl u' [none]) = _
      have : keyF b Rl u (some c) = some t := by
        show (resF b Rl (c :: u)).map (·.1) = _
        rw [e]
        rfl
      rw [this]
      rfl
    simp [putD', cntD, p10, p11, ne_bool]
    refine s1_spec hR i2 hl4 cw hf ?_
    rw [nxP_nx, wp_sSeq]
    refine s2_spec hR i1 i2 hf ?_
    rw [nxP_nx]
    refine s3_spec hl ct t4 ty hrow ?_
    exact (q _ _ npv npv).1
end
end LF
end

-- part K13QE
section
set_option Elab.async false
set_option linter.all false
set_option maxRecDepth 100000
set_option maxHeartbeats 4000000
namespace LF
open PySem PySem.Spec PyProof.Rows L2 Rw
section
variable {Q : Out → En → Prop} {E : Exc → En → Prop} {S : Wd} {b : Bool} {Rl : Rules}
def lw_13 : EM Out :=
  (sSeq (sSet 2 (eCall f__law_source (aCons (eVar 0) (aCons (eVar 1) aNil))))
  (sSeq (sSet 3 (eCall f__law_table (aCons (eVar 2) (aCons (eC (.int 4)) aNil))))
  (sSeq (sSet 4 (eCall f__law_row (aCons (eVar 2) (aCons (eVar 3) (aCons (eC (.int 30)) aNil)))))
  (sSeq (sSet 5 (eCall f__law_pick (aCons (eVar 2) (aCons (e2 gAdd (e1 gLen (eVar 4)) (eC (.int 1))) aNil))))
  (sSeq (sSet 6 (eCall f_typed (aCons (eVar 3) (aCons (eSl (eVar 4) pNone (pSome (eVar 5))) aNil))))
  (sSeq (sSet 7 (eCall f_typed (aCons (eVar 3) (aCons (eVar 4) aNil))))
  (sSeq (sFor (srcAny (eSl (eVar 4) (pSome (eVar 5)) pNone)) (stVal 8) ky_13)
  (sSeq (sIf (tB (e2 gNe (eVar 6) (eVar 7)))
  (sRet (eC (.bool false)))
  sNx)
  (sSeq (sSet 6 (eIf (tB (e2 (gIs false) (eVar 6) (eC .none))) (eC (.str "")) (eVar 6)))
  (sFor (srcAny (e2 gIx (eVar 3) (eC (.int 0)))) (stVal 9) sg_13))))))))))
theorem bd_law_eq : bd_law = sSeq (sFor (srcR1 (e2 gMax2 (eC (.int 6)) (e2 gMin2 (eC (.int 20)) (e1 gLen (eVar 0))))) (stVal 1) lw_13) (sRet (eC (.bool true))) := rfl
def kyIn (S : Wd) (b : Bool) (Rl : Rules) (x0 : Option Wd) (ds0 : D → Slot → En) (ds : List D) (ρ : En) : Prop := ∃ (ks : List (Option Nat)) (x : Option Wd) (m : Nat) (a8 : Slot), ds = ks.map rkD ∧ (∀ k ∈ ks, KeyOk S k) ∧ (∀ u, x = some u → Over S u ∧ u.length ≤ room b Rl m) ∧ m + ks.length ≤ 30 ∧ x0 = x.bind (fun u => rowF b Rl u ks) ∧ np a8 ∧ ρ = ds0 (optD x) a8
def sgIn (S : Wd) (ds0 : Slot → Slot → Slot → En) (ds : List D) (ρ : En) : Prop := ∃ (cs : Wd) (a9 a10 a11 : Slot), ds = cs.map (fun c => .str (tx [c])) ∧ (∀ c ∈ cs, c ∈ S) ∧ np a9 ∧ np a10 ∧ np a11 ∧ ρ = ds0 a9 a10 a11
theorem room_le {m k : Nat} (h : m ≤ k) : room b Rl m ≤ room b Rl k := by
  unfold room
  split
  · omega
  · split <;> omega
theorem sgs_spec {s0 s1 s2 s5 s8 a9 a10 a11 : Slot} {w : Option Wd} {u : Wd} {ks : List (Option Nat)} (T : TOk S Rl) (r4 : Rl.length ≤ 4) (hok : okD 30 4 (tabD S b Rl) = true) (htab : tableB (tabD S b Rl) = true) (hks : ∀ k ∈ ks, KeyOk S k) (hl : ks.length ≤ 30) (hw0 : w = rowF b Rl [] ks) (hwu : ∀ v, w = some v → v = u) (hu : Over S u) (hlu : u.length ≤ room b Rl 30) (p9 : np a9) (p10 : np a10) (p11 : np a11)
    (q : ∀ a9 a10 a11, np a9 → np a10 → np a11 → Q .nx [s0, s1, s2, .val (tabD S b Rl), .val (.tuple (ks.map rkD)), s5, .val (.str (tx u)), .val (optD w), s8, a9, a10, a11]) :
    wp (runFor (stVal 9) sg_13 (chars (sgS S))) [s0, s1, s2, .val (tabD S b Rl), .val (.tuple (ks.map rkD)), s5, .val (.str (tx u)), .val (optD w), s8, a9, a10, a11] Q E := by
  refine wp_runFor (I := sgIn S fun a9 a10 a11 => [s0, s1, s2, .val (tabD S b Rl), .val (.tuple (ks.map rkD)), s5, .val (.str (tx u)), .val (optD w), s8, a9, a10, a11]) ?_ ?_ _ _ ⟨S, a9, a10, a11, rfl, fun c h => h, p9, p10, p11, rfl⟩
  · rintro d ds ρ ⟨cs, a9, a10, a11, e, hcs, p9, p10, p11, rfl⟩
    cases cs with
    | nil => cases e
    | cons c cs =>
      injection e with e1 e2
      subst e1 e2
      unfold np at p9
      simp [p9]
      refine sg_spec T r4 hok htab hks hl hw0 hwu hu hlu (hcs c List.mem_cons_self) p10 p11 fun a10 a11 p10 p11 => ?_
      have hh : sgIn S (fun a9 a10 a11 => [s0, s1, s2, .val (tabD S b Rl), .val (.tuple (ks.map rkD)), s5, .val (.str (tx u)), .val (optD w), s8, a9, a10, a11]) (cs.map fun c => .str (tx [c])) [s0, s1, s2, .val (tabD S b Rl), .val (.tuple (ks.map rkD)), s5, .val (.str (tx u)), .val (optD w), s8, .val (.str (tx [c])), a10, a11] :=
        ⟨cs, _, a10, a11, rfl, fun x hx => hcs x (List.mem_cons_of_mem _ hx), npv, p10, p11, rfl⟩
      exact ⟨hh, hh⟩
  · rintro ρ ⟨cs, a9, a10, a11, e, hcs, p9, p10, p11, rfl⟩
    exact q _ _ _ p9 p10 p11
theorem lw_spec {ns : List Int} {k : Nat} {s2 s3 s4 s5 s6 s7 s8 s9 s10 s11 : Slot} (hk : k < 100) (p2 : np s2) (p3 : np s3) (p4 : np s4) (p5 : np s5) (p6 : np s6) (p7 : np s7) (p8 : np s8) (p9 : np s9) (p10 : np s10) (p11 : np s11)
    (q : ∀ s2 s3 s4 s5 s6 s7 s8 s9 s10 s11, np s2 → np s3 → np s4 → np s5 → np s6 → np s7 → np s8 → np s9 → np s10 → np s11 → Q .nx [.val (scr ns), .val (.int (k : Nat)), s2, s3, s4, s5, s6, s7, s8, s9, s10, s11]) :
    wp lw_13 [.val (scr ns), .val (.int (k : Nat)), s2, s3, s4, s5, s6, s7, s8, s9, s10, s11] Q E := by
  have sl : sizeLine = 16777216 := sizeLine_eq
  unfold lw_13
  have p2' := p2
  have p3' := p3
  have p4' := p4
  have p5' := p5
  have p6' := p6
  have p7' := p7
  unfold np at p2' p3' p4' p5' p6' p7'
  simp [p2', p3', p4', p5', p6', p7']
  refine source_spec hk fun st h => ?_
  simp [p2', p3', p4', p5', p6', p7']
  refine table_spec (m := 4) (by omega) (by omega) h fun t st1 h1 htab hok hr => ?_
  obtain ⟨S, b, Rl, rfl, T, hsig, hrn⟩ := tab_of htab hok
  have r4 : Rl.length ≤ 4 := by omega
  have h3 := T.s3
  simp [p2', p3', p4', p5', p6', p7']
  refine law_row_spec T h1 (m := 30) (by omega) fun ks st2 h2 hl hks => ?_
  simp [p2', p3', p4', p5', p6', p7', sl, show ks.length ≤ 16777216 by omega]
  refine pick_spec h2 (by omega) (by omega) fun v st3 h4 v0 v1 => ?_
  obtain ⟨n, rfl⟩ : ∃ n : Nat, v = (n : Int) := ⟨v.toNat, by omega⟩
  have hn : n ≤ ks.length := by omega
  obtain ⟨ka, kb, hab, hla⟩ : ∃ ka kb, ks = ka ++ kb ∧ ka.length = n := ⟨ks.take n, ks.drop n, (List.take_append_drop n ks).symm, by rw [List.length_take]; omega⟩
  have c1 : cutD (ks.map rkD) none (some (n : Int)) = ka.map rkD := by
    unfold cutD
    rw [HT.sIx_nat, HT.sIx_none, List.length_map, Nat.min_eq_left hn, List.drop_zero, Nat.sub_zero, hab, List.map_append, ← hla, ← List.length_map (f := rkD), List.take_left]
  have c2 : cutD (ks.map rkD) (some (n : Int)) none = kb.map rkD := by
    unfold cutD
    rw [HT.sIx_nat, HT.sIx_none, List.length_map, Nat.min_eq_left hn, hab, List.map_append, ← hla]
    rw [show ka.length = (ka.map rkD).length by rw [List.length_map], List.drop_left]
    rw [List.take_of_length_le (by simp)]
  simp [p2', p3', p4', p5', p6', p7', c1]
  have hks1 : ∀ k ∈ ka, KeyOk S k := fun k hk => hks k (by rw [hab]; exact List.mem_append_left _ hk)
  have hks2 : ∀ k ∈ kb, KeyOk S k := fun k hk => hks k (by rw [hab]; exact List.mem_append_right _ hk)
  have ov := fun t ht => rowF_over (b := b) T ks [] t 0 hks over_nil (Nat.zero_le _) ht
  have ov1 := fun t ht => rowF_over (b := b) T ka [] t 0 hks1 over_nil (Nat.zero_le _) ht
  have hlab : ka.length + kb.length = ks.length := by rw [hab, List.length_append]
  refine typed_ok T r4 hok htab hks1 (by omega) ?_
  simp [p2', p3', p4', p5', p6', p7', c1]
  refine typed_ok T r4 hok htab hks (by omega) ?_
  simp [p2', p3', p4', p5', p6', p7', c2]
  generalize hw0 : rowF b Rl [] ks = w
  rw [hw0] at ov
  refine wp_runFor (I := kyIn S b Rl w fun x a8 => [.val (scr ns), .val (.int (k : Nat)), .own (.lst st3) .loc, .val (tabD S b Rl), .val (.tuple (ks.map rkD)), .val (.int (n : Nat)), .val x, .val (optD w), a8, s9, s10, s11]) ?_ ?_ _ _ ?_
  · rintro d ds ρ ⟨ks1, x, m, a8, e, hk1, hx, hm, hx1, p8, rfl⟩
    cases ks1 with
    | nil => cases e
    | cons k ks1 =>
      injection e with e1 e2
      subst e1 e2
      have hk0 := hk1 k List.mem_cons_self
      have hks : ∀ k ∈ ks1, KeyOk S k := fun k h => hk1 k (List.mem_cons_of_mem _ h)
      rw [List.length_cons] at hm
      unfold np at p8
      simp [p8]
      refine ky_spec T r4 hok htab hk0 hx (by omega) ?_
      refine ⟨ks1, _, m + 1, _, rfl, hks, fun t ht => ?_, by omega, ?_, npv, rfl⟩
      · cases x with
        | none => cases ht
        | some u => exact (keyF_room T hk0 (hx u rfl).1 (hx u rfl).2 ht).symm
      · rw [hx1]
        cases x <;> rfl
  · rintro ρ ⟨ks1, x, m, a8, e, hk1, hx, hm, hx1, p8, rfl⟩
    cases ks1 with
    | cons k ks1 => cases e
    | nil =>
      have hx1 : w = x := by
        rw [hx1]
        cases x <;> rfl
      subst hx1
      simp [ne_opt T fun t ht => (ov t ht).1]
      have fin : ∀ a9 a10 a11 u, np a9 → np a10 → np a11 → Q .nx [.val (scr ns), .val (.int (k : Nat)), .own (.lst st3) .loc, .val (tabD S b Rl), .val (.tuple (ks.map rkD)), .val (.int (n : Nat)), .val (.str (tx u)), .val (optD w), a8, a9, a10, a11] :=
        fun a9 a10 a11 u p9 p10 p11 => q _ _ _ _ _ _ _ _ _ _ npo npv npv npv npv npv p8 p9 p10 p11
      cases w with
      | none =>
        simp [optD, tab_ix0]
        rw [show (PyData.str (Str.ofString "")) = .str (tx []) from congrArg PyData.str empty_tx]
        exact sgs_spec T r4 hok htab hks hl hw0.symm (fun v z => by cases z) over_nil (Nat.zero_le _) p9 p10 p11 fun a9 a10 a11 => fin a9 a10 a11 []
      | some u =>
        have hu := ov u rfl
        simp [optD, tab_ix0]
        exact sgs_spec T r4 hok htab hks hl hw0.symm (fun v z => by injection z with z; exact z.symm) hu.1 (by
          have h2 := hu.2
          rw [Nat.zero_add] at h2
          exact Nat.le_trans h2 (room_le hl)) p9 p10 p11 fun a9 a10 a11 => fin a9 a10 a11 u
  · refine ⟨kb, rowF b Rl [] ka, n, s8, rfl, hks2, fun u hu => ?_, ?_, ?_, p8, rfl⟩
    · have := ov1 u hu
      rw [hla, Nat.zero_add] at this
      exact this
    · omega
    · rw [← hw0, hab, rowF_app]
end
def lwIn (ns : List Int) (ds : List D) (ρ : En) : Prop := (∀ d ∈ ds, ∃ k : Nat, k < 100 ∧ d = .int (k : Int)) ∧ ∃ s1 s2 s3 s4 s5 s6 s7 s8 s9 s10 s11 : Slot, np s1 ∧ np s2 ∧ np s3 ∧ np s4 ∧ np s5 ∧ np s6 ∧ np s7 ∧ np s8 ∧ np s9 ∧ np s10 ∧ np s11 ∧ ρ = [.val (scr ns), s1, s2, s3, s4, s5, s6, s7, s8, s9, s10, s11]
theorem law_ok (ns : List Int) (h : ns.length ≤ 63) : ∃ ρ, f_law [.val (scr ns)] = some (.ok (.val (.bool true)), ρ) := by
  have key : wp f_law [.val (scr ns)] (fun r _ => r = .val (.bool true)) fun _ _ => False := by
    obtain ⟨m, hm, m0, m1⟩ : ∃ m : Int, gMax2 (.int 6) (.int (if (ns.length : Int) < 20 then (ns.length : Int) else 20)) = some (.v (.int m)) ∧ 0 ≤ m ∧ m ≤ 20 := by
      refine ⟨_, gMax2_int, ?_, ?_⟩ <;> (repeat split) <;> omega
    unfold f_law
    rw [bd_law_eq, wp_defF, if_pos ⟨rfl, rfl⟩]
    show wp _ [.val (scr ns), .unb, .unb, .unb, .unb, .unb, .unb, .unb, .unb, .unb, .unb, .unb] _ _
    simp [hm]
    refine ⟨⟨by omega, by omega⟩, ?_⟩
    refine wp_runFor (I := lwIn ns) ?_ ?_ _ _ ⟨fun d hd => ?_, .unb, .unb, .unb, .unb, .unb, .unb, .unb, .unb, .unb, .unb, .unb, rfl, rfl, rfl, rfl, rfl, rfl, rfl, rfl, rfl, rfl, rfl, rfl⟩
    · rintro d ds ρ ⟨hd, s1, s2, s3, s4, s5, s6, s7, s8, s9, s10, s11, p1, p2, p3, p4, p5, p6, p7, p8, p9, p10, p11, rfl⟩
      obtain ⟨k, hk, rfl⟩ := hd d List.mem_cons_self
      unfold np at p1
      simp [p1]
      refine lw_spec hk p2 p3 p4 p5 p6 p7 p8 p9 p10 p11 fun s2 s3 s4 s5 s6 s7 s8 s9 s10 s11 p2 p3 p4 p5 p6 p7 p8 p9 p10 p11 => ?_
      exact ⟨fun x hx => hd x (List.mem_cons_of_mem _ hx), _, s2, s3, s4, s5, s6, s7, s8, s9, s10, s11, npv, p2, p3, p4, p5, p6, p7, p8, p9, p10, p11, rfl⟩
    · rintro ρ ⟨_, s1, s2, s3, s4, s5, s6, s7, s8, s9, s10, s11, p1, p2, p3, p4, p5, p6, p7, p8, p9, p10, p11, rfl⟩
      simp
    · obtain ⟨i, hi, rfl⟩ := rng_mem d hd
      exact ⟨i, by omega, rfl⟩
  obtain ⟨a, ρ, h1, rfl⟩ := key.get
  exact ⟨ρ, h1⟩
end LF
end

-- part K13Law
section

end

-- part K13End
section
set_option Elab.async false
set_option linter.all false
set_option maxRecDepth 100000
set_option maxHeartbeats 2000000
namespace LF
open PySem PySem.Spec PyProof.Rows L2
end LF
open PySem PySem.W PySem.Calls PyProof.Rows
theorem PySem.Challenge.cw_lengthforms_k13_whole_rows_one_behind_an_holds : PySem.Challenge.rw_lengthforms_k13_whole_rows_one_behind_an.Holds := by
  w_on; o_law
  refine HandSHeadRun.head_any (r := OpenLaw.row PySem.Challenge.rw_lengthforms_k13_whole_rows_one_behind_an) (q := view (OpenLaw.row PySem.Challenge.rw_lengthforms_k13_whole_rows_one_behind_an).prog [51]) (H := LF.hkL) (ob := LF.obL) (M := 4000) (loose := LF.looseL) (d := HandSHeadRun.topDef (OpenLaw.row PySem.Challenge.rw_lengthforms_k13_whole_rows_one_behind_an).prog 51) (kwd := []) LF.ob_eqL
    (by kernel_rfl) (fun s => by kernel_rfl) LF.runL (by kernel_rfl) (by kernel_rfl) (by kernel_rfl) (by rfl) (by first | assumption | decide +kernel) (by decide +kernel) ⟨rfl, rfl, rfl, rfl, rfl, by decide +kernel⟩ ?hw ?hc
  case hw => w_witness2
  case hc =>
    refine L2.walk_ofE (l := PySem.Challenge.rw_lengthforms_k13_whole_rows_one_behind_an) (n := 63) (k := 7) (x := "script") (CX := LF.CXa (PySem.Challenge.rw_lengthforms_k13_whole_rows_one_behind_an).prog) rfl (by decide) (by kernel_rfl) ⟨rfl, by decide, by decide⟩ ?F LF.cxa_end
    intro w mg fa h Y G hmg0
    obtain ⟨K, KX, c⟩ := Y
    have hmg : mg ("law" : PySem.Str) = some (.ref fa) := by
      have e : (HandSHeadRun.topDef (OpenLaw.row PySem.Challenge.rw_lengthforms_k13_whole_rows_one_behind_an).prog 51).name = ("law" : PySem.Str) := by kernel_rfl
      rw [← e]
      exact hmg0
    obtain ⟨fd, hb, hF⟩ := LF.end_law (P := (PySem.Challenge.rw_lengthforms_k13_whole_rows_one_behind_an).prog) (w := w) KX G hmg c
    exact ⟨K, fd, _, KX, hb, fun H a ns hl _ hS => LF.end_sp hS (LF.law_ok ns hl), hF⟩
end
