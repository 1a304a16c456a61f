import PyProof.Rows.All
import Wide.All
import OpenK.AllK
import Wide.FinOn
import PyProof.EqAt
import PyProof.EqKinds
import PyProof.TupleCall
import HandS.ForMost
import HandS.Exc
import HandS.TryOnly
import HandS.TryMany
import HandS.ExcOwn
import HandS.WordsExc
import HandS.RaiseMore
import HandS.IsInst
import HandS.TupAny
import HandS.TupMul
import HandS.More
import HandS.Style
import HandS.Conv
import PyProof.Rows.IntBool
import HandS.Defaults
import HandS.Set
import HandS.Strs
import PyProof.Rows.SortStr
import HandS.List
import HandS.Text
import PySem.Challenge.RW_lengthforms_k01_tables_and_rows
import KE.KStateDown
import Lean
import HandS.Words
import HandS.Head0
import HandS.Head1
import HandS.Head2
import HandS.HeadEnd
import HandS.HeadHook1
import HandS.HeadHook2
import HandS.HeadHook4

-- part LFCore
section
set_option Elab.async false
set_option linter.all false
set_option maxRecDepth 100000
set_option maxHeartbeats 2000000
namespace LF
open PySem PySem.Spec PyProof.Rows L2

abbrev D := PyData
/-- an exception of a class of the module, with the value of its attribute -/
structure Exc where
  cls : Str
  att : Option (Str × D) := none
/-- what a mutable object holds -/
inductive M where
  | lst (xs : List D)
  | dK (kvs : List (Key × D))
def M.d : M → D
  | .lst xs => .list xs
  | .dK kvs => .dict (kvs.map fun p => ((match p.1 with | .inl i => PyData.int i | .inr x => PyData.str x), p.2))
/-- loc: the def's own; bor: a caller's; lck: being walked -/
inductive Ow where
  | loc | bor | lck
  deriving DecidableEq
inductive Slot where
  | unb | val (d : D) | own (m : M) (o : Ow)
abbrev En := List Slot
/-- what an expression gives: frozen data, a new object, the object of a slot -/
inductive R where
  | val (d : D) | fr (m : M) | loc (i : Nat)
structure Ctx where
  K : PySem.W.Frag
  ex : Str → Addr

/-! ### the pure monad -/
abbrev EM (α : Type) := En → Option (Except Exc α × En)
namespace EM
def pure {α : Type} (a : α) : EM α := fun ρ => some (.ok a, ρ)
def stuck {α : Type} : EM α := fun _ => none
def raise {α : Type} (e : Exc) : EM α := fun ρ => some (.error e, ρ)
def bind {α β : Type} (f : EM α) (g : α → EM β) : EM β := fun ρ => match f ρ with
  | none => none
  | some (.error e, ρ') => some (.error e, ρ')
  | some (.ok a, ρ') => g a ρ'
end EM

/-! ### data in the heap -/
mutual
inductive Rep (K : PySem.W.Frag) (F : Hp) : V → D → Prop
  | non : Rep K F .non .none
  | bl (b : Bool) : Rep K F (.bl b) (.bool b)
  | int (i : Int) : Rep K F (.int i) (.int i)
  | str (x : Str) : Rep K F (.str x) (.str x)
  | lst {a : Addr} {xs : List V} {ds : List D} : F a = some (.lst xs) → RepL K F xs ds → Rep K F (.ref a) (.list ds)
  | tup {a : Addr} {xs : List V} {ds : List D} : SqT K F a xs → RepL K F xs ds → Rep K F (.ref a) (.tuple ds)
  | dK {a : Addr} {kvs : List (Key × V)} {ds : List (Key × D)} : F a = some (.dK kvs) → RepK K F kvs ds → Rep K F (.ref a) (M.dK ds).d
  /-- a list that is only read -/
  | ro {a : Addr} {xs : List V} {ds : List D} : SqL K F a xs → RepL K F xs ds → Rep K F (.ref a) (.dict [(.none, .list ds)])
inductive RepL (K : PySem.W.Frag) (F : Hp) : List V → List D → Prop
  | nil : RepL K F [] []
  | cons {v : V} {vs : List V} {d : D} {ds : List D} : Rep K F v d → RepL K F vs ds → RepL K F (v :: vs) (d :: ds)
inductive RepK (K : PySem.W.Frag) (F : Hp) : List (Key × V) → List (Key × D) → Prop
  | nil : RepK K F [] []
  | cons {k : Key} {v : V} {vs : List (Key × V)} {d : D} {ds : List (Key × D)} : Rep K F v d → RepK K F vs ds → RepK K F ((k, v) :: vs) ((k, d) :: ds)
end

def Ex (H H' : Hp) : Prop := ∀ a o, H a = some o → H' a = some o
theorem Ex.refl (H : Hp) : Ex H H := fun _ _ h => h
theorem Ex.trans {H H1 H2 : Hp} (a : Ex H H1) (b : Ex H1 H2) : Ex H H2 := fun x o h => b x o (a x o h)
theorem Ex.new {H : Hp} {p : Addr} {o : HO} (h : H p = none) : Ex H (upd H p o) := fun a u e => by
  rw [upd_ne (ne_of_none e h)]
  exact e
theorem ex_t {K : PySem.W.Frag} {H H' : Hp} {a : Addr} {xs : List V} (e : Ex H H') (h : SqT K H a xs) : SqT K H' a xs := by
  rcases h with (h | ⟨o, h⟩) | h
  · exact Or.inl (Or.inl (e a _ h))
  · exact Or.inl (Or.inr ⟨o, e a _ h⟩)
  · exact Or.inr h
theorem ex_l {K : PySem.W.Frag} {H H' : Hp} {a : Addr} {xs : List V} (e : Ex H H') (h : SqL K H a xs) : SqL K H' a xs := by
  rcases h with (h | ⟨o, h⟩) | h
  · exact Or.inl (Or.inl (e a _ h))
  · exact Or.inl (Or.inr ⟨o, e a _ h⟩)
  · exact Or.inr h
theorem st_of {K : PySem.W.Frag} {H : Hp} {a : Addr} {xs : List V} (h : H a = some (.tup xs)) : SqT K H a xs := Or.inl (Or.inl h)
theorem sl_of {K : PySem.W.Frag} {H : Hp} {a : Addr} {xs : List V} (h : H a = some (.lst xs)) : SqL K H a xs := Or.inl (Or.inl h)
mutual
theorem Rep.mono {K : PySem.W.Frag} {F F' : Hp} (e : Ex F F') : ∀ {v : V} {d : D}, Rep K F v d → Rep K F' v d
  | _, _, .non => .non
  | _, _, .bl b => .bl b
  | _, _, .int i => .int i
  | _, _, .str x => .str x
  | _, _, .lst h r => .lst (e _ _ h) (RepL.mono e r)
  | _, _, .tup h r => .tup (ex_t e h) (RepL.mono e r)
  | _, _, .dK h r => .dK (e _ _ h) (RepK.mono e r)
  | _, _, .ro h r => .ro (ex_l e h) (RepL.mono e r)
theorem RepL.mono {K : PySem.W.Frag} {F F' : Hp} (e : Ex F F') : ∀ {v : List V} {d : List D}, RepL K F v d → RepL K F' v d
  | _, _, .nil => .nil
  | _, _, .cons h r => .cons (Rep.mono e h) (RepL.mono e r)
theorem RepK.mono {K : PySem.W.Frag} {F F' : Hp} (e : Ex F F') : ∀ {v : List (Key × V)} {d : List (Key × D)}, RepK K F v d → RepK K F' v d
  | _, _, .nil => .nil
  | _, _, .cons h r => .cons (Rep.mono e h) (RepK.mono e r)
end
section
variable {K : PySem.W.Frag} {F F' H : Hp}
theorem RepL.length : ∀ {vs : List V} {ds : List D}, RepL K F vs ds → vs.length = ds.length
  | _, _, .nil => rfl
  | _, _, .cons _ r => by rw [List.length_cons, List.length_cons, RepL.length r]
theorem RepL.get : ∀ {vs : List V} {ds : List D} {i : Nat} {d : D}, RepL K F vs ds → ds[i]? = some d → ∃ v, vs[i]? = some v ∧ Rep K F v d
  | _, _, _, _, .nil, e => by simp at e
  | _, _, 0, _, .cons r _, e => by
    simp at e
    subst e
    exact ⟨_, rfl, r⟩
  | _, _, i + 1, d, .cons _ t, e => by
    obtain ⟨u, h1, h2⟩ := RepL.get (i := i) (d := d) t (by simpa using e)
    exact ⟨u, by simpa using h1, h2⟩
theorem RepL.getV : ∀ {vs : List V} {ds : List D} {i : Nat} {v : V}, RepL K F vs ds → vs[i]? = some v → ∃ d, ds[i]? = some d ∧ Rep K F v d
  | _, _, _, _, .nil, e => by simp at e
  | _, _, 0, _, .cons r _, e => by
    simp at e
    subst e
    exact ⟨_, rfl, r⟩
  | _, _, i + 1, d, .cons _ t, e => by
    obtain ⟨u, h1, h2⟩ := RepL.getV (i := i) (v := d) t (by simpa using e)
    exact ⟨u, by simpa using h1, h2⟩
theorem RepL.append : ∀ {vs ws : List V} {ds es : List D}, RepL K F vs ds → RepL K F ws es → RepL K F (vs ++ ws) (ds ++ es)
  | _, _, _, _, .nil, s => s
  | _, _, _, _, .cons r t, s => .cons r (RepL.append t s)
theorem RepL.take : ∀ {vs : List V} {ds : List D} (n : Nat), RepL K F vs ds → RepL K F (vs.take n) (ds.take n)
  | _, _, 0, _ => .nil
  | _, _, _ + 1, .nil => .nil
  | _, _, n + 1, .cons r t => .cons r (RepL.take n t)
theorem RepL.drop : ∀ {vs : List V} {ds : List D} (n : Nat), RepL K F vs ds → RepL K F (vs.drop n) (ds.drop n)
  | _, _, 0, r => r
  | _, _, _ + 1, .nil => .nil
  | _, _, n + 1, .cons _ t => RepL.drop n t
theorem RepL.set {v : V} {d : D} (r : Rep K F v d) : ∀ {vs : List V} {ds : List D} (i : Nat), RepL K F vs ds → RepL K F (vs.set i v) (ds.set i d)
  | _, _, _, .nil => .nil
  | _, _, 0, .cons _ t => .cons r t
  | _, _, i + 1, .cons q t => .cons q (RepL.set r i t)
theorem RepL.erase : ∀ {vs : List V} {ds : List D} (i : Nat), RepL K F vs ds → RepL K F (vs.eraseIdx i) (ds.eraseIdx i)
  | _, _, _, .nil => .nil
  | _, _, 0, .cons _ t => t
  | _, _, i + 1, .cons q t => .cons q (RepL.erase i t)
theorem RepL.one {v : V} {d : D} (r : Rep K F v d) : RepL K F [v] [d] := .cons r .nil
theorem RepL.reverse : ∀ {vs : List V} {ds : List D}, RepL K F vs ds → RepL K F vs.reverse ds.reverse
  | _, _, .nil => .nil
  | _, _, .cons r t => by
    rw [List.reverse_cons, List.reverse_cons]
    exact (RepL.reverse t).append (.one r)
theorem RepL.rep {vs : List V} {ds : List D} (r : RepL K F vs ds) : ∀ k : Nat, RepL K F (List.replicate k vs).flatten (List.replicate k ds).flatten
  | 0 => .nil
  | k + 1 => by
    rw [List.replicate_succ, List.replicate_succ, List.flatten_cons, List.flatten_cons]
    exact r.append (r.rep k)

mutual
theorem Rep.dp (e : Ex F H) : ∀ {v : V} {d : D}, Rep K F v d → d.canLay0 = true → Dp K H v d
  | _, _, .non, _ => .non
  | _, _, .bl b, _ => .bl b
  | _, _, .int i, _ => .int i
  | _, _, .str x, _ => .str x
  | _, _, .lst h r, c => .lst (sl_of (e _ _ h)) (RepL.dp e r (by simpa [PyData.canLay0] using c))
  | _, _, .tup h r, c => .tup (ex_t e h) (RepL.dp e r (by simpa [PyData.canLay0] using c))
  | _, _, .dK h r, c => by simp [M.d, PyData.canLay0] at c
  | _, _, .ro h r, c => by simp [PyData.canLay0] at c
theorem RepL.dp (e : Ex F H) : ∀ {vs : List V} {ds : List D}, RepL K F vs ds → PyData.canLayAll0 ds = true → DpAll K H vs ds
  | _, _, .nil, _ => .nil
  | _, _, .cons h r, c => by
    simp only [PyData.canLayAll0, Bool.and_eq_true] at c
    exact .cons (Rep.dp e h c.1) (RepL.dp e r c.2)
end
end

/-- what a mutable object's content is -/
inductive MRep (K : PySem.W.Frag) (F : Hp) : HO → M → Prop
  | lst {xs : List V} {ds : List D} : RepL K F xs ds → MRep K F (.lst xs) (.lst ds)
  | dK {xs : List (Key × V)} {ds : List (Key × D)} : RepK K F xs ds → MRep K F (.dK xs) (.dK ds)
theorem MRep.mono {K : PySem.W.Frag} {F F' : Hp} (e : Ex F F') {o : HO} {m : M} (h : MRep K F o m) : MRep K F' o m := by
  cases h with
  | lst r => exact .lst (r.mono e)
  | dK r => exact .dK (r.mono e)
theorem MRep.rep {K : PySem.W.Frag} {F : Hp} {a : Addr} {o : HO} {m : M} (h : MRep K F o m) (e : F a = some o) : Rep K F (.ref a) m.d := by
  cases h with
  | lst r => exact .lst e r
  | dK r => exact .dK e r

def Owns (σ : L2.St) (ρ : En) (a : Addr) : Prop := ∃ (i : Nat) (m : M) (o : Ow), ρ[i]? = some (.own m o) ∧ σ[i]? = some (some (.ref a))
structure ER (K : PySem.W.Frag) (σ : L2.St) (ρ : En) (F H : Hp) : Prop where
  sub : Ex F H
  len : σ.length = ρ.length
  val : ∀ (i : Nat) (d : D), ρ[i]? = some (.val d) → ∃ v, σ[i]? = some (some v) ∧ Rep K F v d
  own : ∀ (i : Nat) (m : M) (o : Ow), ρ[i]? = some (.own m o) → ∃ a ho, σ[i]? = some (some (.ref a)) ∧ F a = none ∧ H a = some ho ∧ MRep K F ho m
  dis : ∀ (i j : Nat) (m m' : M) (o o' : Ow) (a : Addr), ρ[i]? = some (.own m o) → ρ[j]? = some (.own m' o') → σ[i]? = some (some (.ref a)) → σ[j]? = some (some (.ref a)) → i = j
/-- what a piece of the program leaves -/
structure Fm (σ : L2.St) (ρ : En) (F H : Hp) (σ' : L2.St) (ρ' : En) (F' H' : Hp) : Prop where
  len : ρ'.length = ρ.length
  dom : ∀ a, H a ≠ none → H' a ≠ none
  keep : ∀ a o, H a = some o → ¬ Owns σ ρ a → H' a = some o ∧ F' a = F a ∧ ¬ Owns σ' ρ' a
  pin : ∀ (i : Nat) (m : M) (o : Ow), ρ[i]? = some (.own m o) → o ≠ .loc → (∃ m', ρ'[i]? = some (.own m' o) ∧ (o = .lck → m' = m)) ∧ σ'[i]? = σ[i]?
  lck : ∀ (i : Nat) (m : M) (a : Addr), ρ[i]? = some (.own m .lck) → σ[i]? = some (some (.ref a)) → H' a = H a
section
variable {K : PySem.W.Frag} {σ σ' σ'' : L2.St} {ρ ρ' ρ'' : En} {F F' F'' H H' H'' : Hp}
theorem ER.not_own (E : ER K σ ρ F H) {a : Addr} {o : HO} (h : F a = some o) : ¬ Owns σ ρ a := by
  rintro ⟨i, m, w, h1, h2⟩
  obtain ⟨b, ho, h3, h4, _⟩ := E.own i m w h1
  rw [h2] at h3
  have e : a = b := by injection h3 with h3; injection h3 with h3; injection h3
  subst e
  rw [h] at h4
  cases h4
theorem Fm.ex (m : Fm σ ρ F H σ' ρ' F' H') (E : ER K σ ρ F H) : Ex F F' := fun a o h => by
  rw [(m.keep a o (E.sub a o h) (E.not_own h)).2.1]
  exact h
theorem Fm.refl (σ : L2.St) (ρ : En) (F H : Hp) : Fm σ ρ F H σ ρ F H := ⟨rfl, fun _ h => h, fun _ _ h n => ⟨h, rfl, n⟩, fun i m o h _ => ⟨⟨m, h, fun _ => rfl⟩, rfl⟩, fun _ _ _ _ _ => rfl⟩
theorem Fm.trans (a : Fm σ ρ F H σ' ρ' F' H') (b : Fm σ' ρ' F' H' σ'' ρ'' F'' H'') : Fm σ ρ F H σ'' ρ'' F'' H'' where
  len := b.len.trans a.len
  dom := fun x h => b.dom x (a.dom x h)
  keep := fun x o h n => by
    obtain ⟨h1, h2, h3⟩ := a.keep x o h n
    obtain ⟨g1, g2, g3⟩ := b.keep x o h1 h3
    exact ⟨g1, g2.trans h2, g3⟩
  pin := fun i m o h n => by
    obtain ⟨⟨m1, h1, l1⟩, h2⟩ := a.pin i m o h n
    obtain ⟨⟨m2, g1, l2⟩, g2⟩ := b.pin i m1 o h1 n
    exact ⟨⟨m2, g1, fun z => (l2 z).trans (l1 z)⟩, g2.trans h2⟩
  lck := fun i m x h1 h2 => by
    obtain ⟨⟨m1, g1, _⟩, g2⟩ := a.pin i m .lck h1 (by decide)
    rw [b.lck i m1 x g1 (g2.trans h2)]
    exact a.lck i m x h1 h2
end

/-- a result: H0 the heap where its making began -/
def RR (K : PySem.W.Frag) (H0 : Hp) (σ : L2.St) (ρ : En) (F H : Hp) (v : V) : R → Prop
  | .val d => Rep K F v d
  | .fr m => ∃ p ho, v = .ref p ∧ H0 p = none ∧ F p = none ∧ H p = some ho ∧ MRep K F ho m ∧ ¬ Owns σ ρ p
  | .loc i => σ[i]? = some (some v)
section
variable {K : PySem.W.Frag} {σ σ' σ'' : L2.St} {ρ ρ' ρ'' : En} {F F' F'' H H' H'' H0 H1 : Hp} {v : V} {r : R}
theorem RR.step (E : ER K σ ρ F H) (m : Fm σ ρ F H σ ρ' F' H') (h : RR K H0 σ ρ F H v r) : RR K H0 σ ρ' F' H' v r := by
  cases r with
  | val d => exact Rep.mono (m.ex E) h
  | fr mm =>
    obtain ⟨p, ho, e, h0, h1, h2, h3, h4⟩ := h
    obtain ⟨k1, k2, k3⟩ := m.keep p ho h2 h4
    exact ⟨p, ho, e, h0, k2.trans h1, k1, h3.mono (m.ex E), k3⟩
  | loc i => exact h
theorem RR.back (m : ∀ a, H1 a ≠ none → H0 a ≠ none) (h : RR K H0 σ ρ F H v r) : RR K H1 σ ρ F H v r := by
  cases r with
  | val d => exact h
  | fr mm =>
    obtain ⟨p, ho, e, h0, rest⟩ := h
    exact ⟨p, ho, e, Classical.byContradiction fun z => m p z h0, rest⟩
  | loc i => exact h
end

/-! ### transformers -/
def ExcIs (C : Ctx) (cls : Value) (d : Option Addr) (H : Hp) (e : Exc) : Prop := cls = .ref (C.ex e.cls) ∧ match e.att with
  | none => d = none
  | some (f, x) => ∃ dd v, d = some dd ∧ H dd = some (.xd [(f, v)]) ∧ Rep C.K H v x
def Res (C : Ctx) (W : WX) (σ : L2.St) (ρ : En) (F H : Hp) (x : Except Exc R × En) (Q : VK) : Prop := match x with
  | (.ok r, ρ') => ∀ v F' H', ER C.K σ ρ' F' H' → Fm σ ρ F H σ ρ' F' H' → RR C.K H σ ρ' F' H' v r → Q v H'
  | (.error e, ρ') => ∀ cls d F' H', ER C.K σ ρ' F' H' → Fm σ ρ F H σ ρ' F' H' → ExcIs C cls d H' e → W cls d σ H'
def DE (C : Ctx) (W : WX) (f : EM R) : TE := fun σ H Q => ∃ ρ F x, ER C.K σ ρ F H ∧ f ρ = some x ∧ Res C W σ ρ F H x Q
def ResT (C : Ctx) (W : WX) (σ : L2.St) (ρ : En) (F H : Hp) (x : Except Exc Bool × En) (Q : Bool → Hp → Prop) : Prop := match x with
  | (.ok b, ρ') => ∀ F' H', ER C.K σ ρ' F' H' → Fm σ ρ F H σ ρ' F' H' → Q b H'
  | (.error e, ρ') => ∀ cls d F' H', ER C.K σ ρ' F' H' → Fm σ ρ F H σ ρ' F' H' → ExcIs C cls d H' e → W cls d σ H'
def DT (C : Ctx) (W : WX) (f : EM Bool) : TT := fun σ H Q => ∃ ρ F x, ER C.K σ ρ F H ∧ f ρ = some x ∧ ResT C W σ ρ F H x Q
/-- several results: the new ones are different objects -/
inductive RRs (K : PySem.W.Frag) (H0 : Hp) (σ : L2.St) (ρ : En) (F H : Hp) : List V → List R → Prop
  | nil : RRs K H0 σ ρ F H [] []
  | cons {v : V} {r : R} {vs : List V} {rs : List R} : RR K H0 σ ρ F H v r → RRs K H0 σ ρ F H vs rs → (∀ m m' p, r = .fr m → v = .ref p → ¬ ((V.ref p, R.fr m') ∈ vs.zip rs)) → RRs K H0 σ ρ F H (v :: vs) (r :: rs)
def ResA (C : Ctx) (W : WX) (σ : L2.St) (ρ : En) (F H : Hp) (x : Except Exc (List R) × En) (Q : List V → Hp → Prop) : Prop := match x with
  | (.ok rs, ρ') => ∀ vs F' H', ER C.K σ ρ' F' H' → Fm σ ρ F H σ ρ' F' H' → RRs C.K H σ ρ' F' H' vs rs → Q vs H'
  | (.error e, ρ') => ∀ cls d F' H', ER C.K σ ρ' F' H' → Fm σ ρ F H σ ρ' F' H' → ExcIs C cls d H' e → W cls d σ H'
def DA (C : Ctx) (W : WX) (f : EM (List R)) : TA := fun σ H Q => ∃ ρ F x, ER C.K σ ρ F H ∧ f ρ = some x ∧ ResA C W σ ρ F H x Q
/-- how a statement ends -/
inductive Out where
  | nx | rt (r : R) | bk | ct
def ResS (C : Ctx) (W : WX) (σ : L2.St) (ρ : En) (F H : Hp) (x : Except Exc Out × En) (Q : Ends) : Prop := match x with
  | (.ok o, ρ') => ∀ σ' F' H', ER C.K σ' ρ' F' H' → Fm σ ρ F H σ' ρ' F' H' → match o with
    | .nx => Q.nx σ' H'
    | .bk => Q.bk σ' H'
    | .ct => Q.ct σ' H'
    | .rt r => ∀ v, RR C.K H σ' ρ' F' H' v r → Q.rt v H'
  | (.error e, ρ') => ∀ cls d σ' F' H', ER C.K σ' ρ' F' H' → Fm σ ρ F H σ' ρ' F' H' → ExcIs C cls d H' e → W cls d σ' H'
def DS (C : Ctx) (W : WX) (f : EM Out) : TS := fun Q σ H => ∃ ρ F x, ER C.K σ ρ F H ∧ f ρ = some x ∧ ResS C W σ ρ F H x Q
end LF
end

-- part LFRules
section
set_option Elab.async false
set_option linter.all false
set_option maxRecDepth 100000
set_option maxHeartbeats 2000000
namespace LF
open PySem PySem.Spec PyProof.Rows L2

/-! ### weaker transformers -/
section
variable {X : Cx}
theorem impE {e : Expr} {t t' : TE} (h : PE X e t) (f : ∀ σ H Q, t' σ H Q → t σ H Q) : PE X e t' := ⟨fun pins s σ H Q I k => h.run pins s σ H Q I (f σ H Q k)⟩
theorem impT {e : Expr} {t t' : TT} (h : PT X e t) (f : ∀ σ H Q, t' σ H Q → t σ H Q) : PT X e t' := ⟨fun pins s σ H Q I k => h.run pins s σ H Q I (f σ H Q k)⟩
theorem impW {e : Expr} {t t' : TT} (h : PW X e t) (f : ∀ σ H Q, t' σ H Q → t σ H Q) : PW X e t' := ⟨fun wh pins s σ H Q I k => h.run wh pins s σ H Q I (f σ H Q k)⟩
theorem impA {e : List Expr} {t t' : TA} (h : PA X e t) (f : ∀ σ H Q, t' σ H Q → t σ H Q) : PA X e t' := ⟨fun p pins s σ H Q I k => h.run p pins s σ H Q I (f σ H Q k)⟩
theorem impS {e : Stmt} {t t' : TS} (h : PS X e t) (f : ∀ D σ H, t' D σ H → t D σ H) : PS X e t' := ⟨fun pins s σ H D I k => h.run pins s σ H D I (f D σ H k)⟩
theorem impSs {e : List Stmt} {t t' : TS} (h : PSs X e t) (f : ∀ D σ H, t' D σ H → t D σ H) : PSs X e t' := ⟨fun pins s σ H D I k => h.run pins s σ H D I (f D σ H k)⟩
end

section
variable {C : Ctx} {W : WX} {σ : L2.St} {ρ ρ0 ρ1 : En} {F F0 F1 H H0 H1 : Hp}
/-- an error among the outcomes is wished -/
def ErrOk {α : Type} (C : Ctx) (W : WX) (σ : L2.St) (ρ : En) (F H : Hp) (x : Except Exc α × En) : Prop := ∀ e ρ', x = (.error e, ρ') → ∀ cls d F' H', ER C.K σ ρ' F' H' → Fm σ ρ F H σ ρ' F' H' → ExcIs C cls d H' e → W cls d σ H'
theorem Res.err {x : Except Exc R × En} {Q : VK} (h : Res C W σ ρ F H x Q) : ErrOk C W σ ρ F H x := fun e ρ' z => by
  subst z
  exact h
theorem ResT.err {x : Except Exc Bool × En} {Q : Bool → Hp → Prop} (h : ResT C W σ ρ F H x Q) : ErrOk C W σ ρ F H x := fun e ρ' z => by
  subst z
  exact h
theorem ResA.err {x : Except Exc (List R) × En} {Q : List V → Hp → Prop} (h : ResA C W σ ρ F H x Q) : ErrOk C W σ ρ F H x := fun e ρ' z => by
  subst z
  exact h
theorem ResS.err {x : Except Exc Out × En} {Q : Ends} (h : ResS C W σ ρ F H x Q) : ErrOk C W σ ρ F H x := fun e ρ' z cls d F' H' => by
  subst z
  exact h cls d σ F' H'
theorem DE.mono {f : EM R} {Q Q' : VK} (h : DE C W f σ H Q) (q : ∀ v H', Q v H' → Q' v H') : DE C W f σ H Q' := by
  obtain ⟨ρ, F, x, E, e, hr⟩ := h
  refine ⟨ρ, F, x, E, e, ?_⟩
  rcases x with ⟨x | r, ρ'⟩
  · exact hr
  · exact fun v F' H' E' m' rr => q v H' (hr v F' H' E' m' rr)
theorem DT.mono {f : EM Bool} {Q Q' : Bool → Hp → Prop} (h : DT C W f σ H Q) (q : ∀ v H', Q v H' → Q' v H') : DT C W f σ H Q' := by
  obtain ⟨ρ, F, x, E, e, hr⟩ := h
  refine ⟨ρ, F, x, E, e, ?_⟩
  rcases x with ⟨x | r, ρ'⟩
  · exact hr
  · exact fun F' H' E' m' => q r H' (hr F' H' E' m')
theorem DA.mono {f : EM (List R)} {Q Q' : List V → Hp → Prop} (h : DA C W f σ H Q) (q : ∀ v H', Q v H' → Q' v H') : DA C W f σ H Q' := by
  obtain ⟨ρ, F, x, E, e, hr⟩ := h
  refine ⟨ρ, F, x, E, e, ?_⟩
  rcases x with ⟨x | r, ρ'⟩
  · exact hr
  · exact fun v F' H' E' m' rr => q v H' (hr v F' H' E' m' rr)
/-- a piece, then the rest -/
theorem split {β : Type} {f : EM R} {g : R → EM β} {x : Except Exc β × En} (E : ER C.K σ ρ F H) (m : Fm σ ρ0 F0 H0 σ ρ F H) (e : EM.bind f g ρ = some x) (he : ErrOk C W σ ρ0 F0 H0 x) :
    DE C W f σ H fun v H1 => ∃ r ρ1 F1, ER C.K σ ρ1 F1 H1 ∧ Fm σ ρ0 F0 H0 σ ρ1 F1 H1 ∧ Fm σ ρ F H σ ρ1 F1 H1 ∧ RR C.K H σ ρ1 F1 H1 v r ∧ g r ρ1 = some x := by
  unfold EM.bind at e
  cases hf : f ρ with
  | none =>
    rw [hf] at e
    cases e
  | some y =>
    rw [hf] at e
    refine ⟨ρ, F, y, E, hf, ?_⟩
    rcases y with ⟨y | r, ρ'⟩
    · have e' : x = (.error y, ρ') := by injection e with e; exact e.symm
      exact fun cls d F' H' E' m' z => he y ρ' e' cls d F' H' E' (m.trans m') z
    · exact fun v F' H' E' m' rr => ⟨r, ρ', F', E', m.trans m', m', rr, e⟩
theorem splitT {β : Type} {f : EM Bool} {g : Bool → EM β} {x : Except Exc β × En} (E : ER C.K σ ρ F H) (m : Fm σ ρ0 F0 H0 σ ρ F H) (e : EM.bind f g ρ = some x) (he : ErrOk C W σ ρ0 F0 H0 x) :
    DT C W f σ H fun b H1 => ∃ ρ1 F1, ER C.K σ ρ1 F1 H1 ∧ Fm σ ρ0 F0 H0 σ ρ1 F1 H1 ∧ g b ρ1 = some x := by
  unfold EM.bind at e
  cases hf : f ρ with
  | none =>
    rw [hf] at e
    cases e
  | some y =>
    rw [hf] at e
    refine ⟨ρ, F, y, E, hf, ?_⟩
    rcases y with ⟨y | r, ρ'⟩
    · have e' : x = (.error y, ρ') := by injection e with e; exact e.symm
      exact fun cls d F' H' E' m' z => he y ρ' e' cls d F' H' E' (m.trans m') z
    · exact fun F' H' E' m' => ⟨ρ', F', E', m.trans m', e⟩
theorem splitA {β : Type} {f : EM (List R)} {g : List R → EM β} {x : Except Exc β × En} (E : ER C.K σ ρ F H) (m : Fm σ ρ0 F0 H0 σ ρ F H) (e : EM.bind f g ρ = some x) (he : ErrOk C W σ ρ0 F0 H0 x) :
    DA C W f σ H fun vs H1 => ∃ rs ρ1 F1, ER C.K σ ρ1 F1 H1 ∧ Fm σ ρ0 F0 H0 σ ρ1 F1 H1 ∧ Fm σ ρ F H σ ρ1 F1 H1 ∧ RRs C.K H σ ρ1 F1 H1 vs rs ∧ g rs ρ1 = some x := by
  unfold EM.bind at e
  cases hf : f ρ with
  | none =>
    rw [hf] at e
    cases e
  | some y =>
    rw [hf] at e
    refine ⟨ρ, F, y, E, hf, ?_⟩
    rcases y with ⟨y | r, ρ'⟩
    · have e' : x = (.error y, ρ') := by injection e with e; exact e.symm
      exact fun cls d F' H' E' m' z => he y ρ' e' cls d F' H' E' (m.trans m') z
    · exact fun v F' H' E' m' rr => ⟨r, ρ', F', E', m.trans m', m', rr, e⟩
end

/-! ### states -/
section
variable {K : PySem.W.Frag} {σ σ' : L2.St} {ρ ρ' ρ0 : En} {F F' F0 H H' H0 : Hp} {i : Nat} {v : V} {d : D} {m : M} {p : Addr} {o : HO}
theorem ER.newfr (E : ER K σ ρ F H) (h : H p = none) : ER K σ ρ F (upd H p o) where
  sub := fun a u e => Ex.new h a u (E.sub a u e)
  len := E.len
  val := E.val
  own := fun i m w e => by
    obtain ⟨a, ho, h1, h2, h3, h4⟩ := E.own i m w e
    exact ⟨a, ho, h1, h2, by rw [upd_ne (ne_of_none h3 h)]; exact h3, h4⟩
  dis := E.dis
theorem not_owns_new (E : ER K σ ρ F H) (h : H p = none) : ¬ Owns σ ρ p := by
  rintro ⟨i, m, w, h1, h2⟩
  obtain ⟨a, ho, h3, _, h5, _⟩ := E.own i m w h1
  rw [h2] at h3
  have e : p = a := by injection h3 with h3; injection h3 with h3; injection h3
  rw [← e, h] at h5
  cases h5
theorem own_ne (E : ER K σ ρ F H) (h : H p = none) {j : Nat} {mm : M} {w : Ow} {a : Addr} (h1 : ρ[j]? = some (.own mm w)) (h2 : σ[j]? = some (some (.ref a))) : a ≠ p := fun z => by
  subst z
  exact not_owns_new E h ⟨j, mm, w, h1, h2⟩
theorem Fm.newfr (E : ER K σ ρ F H) (h : H p = none) : Fm σ ρ F H σ ρ F (upd H p o) where
  len := rfl
  dom := fun a n => by
    by_cases e : a = p
    · rw [e]
      exact absurd h (e ▸ n)
    · rw [upd_ne e]
      exact n
  keep := fun a u e n => ⟨Ex.new h a u e, rfl, n⟩
  pin := fun i m o h _ => ⟨⟨m, h, fun _ => rfl⟩, rfl⟩
  lck := fun i m a h1 h2 => upd_ne (own_ne E h h1 h2)
theorem none_sub (E : ER K σ ρ F H) (h : H p = none) : F p = none := by
  cases e : F p with
  | none => rfl
  | some u =>
    rw [E.sub p u e] at h
    cases h
theorem ER.newF (E : ER K σ ρ F H) (h : H p = none) : ER K σ ρ (upd F p o) (upd H p o) where
  sub := fun a u e => by
    by_cases z : a = p
    · subst z
      rw [upd_same] at e ⊢
      exact e
    · rw [upd_ne z] at e ⊢
      exact E.sub a u e
  len := E.len
  val := fun i d e => by
    obtain ⟨v, h1, h2⟩ := E.val i d e
    exact ⟨v, h1, h2.mono (Ex.new (none_sub E h))⟩
  own := fun i m w e => by
    obtain ⟨a, ho, h1, h2, h3, h4⟩ := E.own i m w e
    have n := ne_of_none h3 h
    exact ⟨a, ho, h1, by rw [upd_ne n]; exact h2, by rw [upd_ne n]; exact h3, h4.mono (Ex.new (none_sub E h))⟩
  dis := E.dis
theorem Fm.newF (E : ER K σ ρ F H) (h : H p = none) : Fm σ ρ F H σ ρ (upd F p o) (upd H p o) where
  len := rfl
  dom := (Fm.newfr (o := o) E h).dom
  keep := fun a u e n => ⟨Ex.new h a u e, by rw [upd_ne (ne_of_none e h)], n⟩
  pin := fun i m o h _ => ⟨⟨m, h, fun _ => rfl⟩, rfl⟩
  lck := fun i m a h1 h2 => upd_ne (own_ne E h h1 h2)
theorem get_set {α : Type} {l : List α} {i j : Nat} {x y : α} (h : (l.set i x)[j]? = some y) : (j = i ∧ y = x) ∨ (j ≠ i ∧ l[j]? = some y) := by
  by_cases e : i = j
  · subst e
    by_cases hi : i < l.length
    · rw [List.getElem?_set_self hi] at h
      injection h with h
      exact .inl ⟨rfl, h.symm⟩
    · rw [List.getElem?_eq_none (by simpa using hi)] at h
      cases h
  · rw [List.getElem?_set_ne e] at h
    exact .inr ⟨fun z => e z.symm, h⟩
theorem ER.setVal (E : ER K σ ρ F H) (h : i < ρ.length) (r : Rep K F v d) : ER K (σ.set i (some v)) (ρ.set i (.val d)) F H where
  sub := E.sub
  len := by simp [E.len]
  val := fun j d' e => by
    rcases get_set e with ⟨rfl, q⟩ | ⟨n, e⟩
    · cases q
      exact ⟨v, by rw [List.getElem?_set_self (by rw [E.len]; exact h)], r⟩
    · obtain ⟨v', h1, h2⟩ := E.val j d' e
      exact ⟨v', by rw [List.getElem?_set_ne (Ne.symm n)]; exact h1, h2⟩
  own := fun j m' w e => by
    rcases get_set e with ⟨rfl, q⟩ | ⟨n, e⟩
    · cases q
    · obtain ⟨a, ho, h1, h2⟩ := E.own j m' w e
      exact ⟨a, ho, by rw [List.getElem?_set_ne (Ne.symm n)]; exact h1, h2⟩
  dis := fun j k m1 m2 o1 o2 a e1 e2 s1 s2 => by
    rcases get_set e1 with ⟨rfl, q⟩ | ⟨n1, e1⟩
    · cases q
    rcases get_set e2 with ⟨rfl, q⟩ | ⟨n2, e2⟩
    · cases q
    rw [List.getElem?_set_ne (Ne.symm n1)] at s1
    rw [List.getElem?_set_ne (Ne.symm n2)] at s2
    exact E.dis j k m1 m2 o1 o2 a e1 e2 s1 s2
theorem ER.setOwn (E : ER K σ ρ F H) (h : i < ρ.length) (hF : F p = none) (hH : H p = some o) (r : MRep K F o m) (n : ¬ Owns σ ρ p) : ER K (σ.set i (some (.ref p))) (ρ.set i (.own m .loc)) F H where
  sub := E.sub
  len := by simp [E.len]
  val := fun j d' e => by
    rcases get_set e with ⟨rfl, q⟩ | ⟨n, e⟩
    · cases q
    · obtain ⟨v', h1, h2⟩ := E.val j d' e
      exact ⟨v', by rw [List.getElem?_set_ne (Ne.symm n)]; exact h1, h2⟩
  own := fun j m' w e => by
    rcases get_set e with ⟨rfl, q⟩ | ⟨n, e⟩
    · cases q
      exact ⟨p, o, by rw [List.getElem?_set_self (by rw [E.len]; exact h)], hF, hH, r⟩
    · obtain ⟨a, ho, h1, h2⟩ := E.own j m' w e
      exact ⟨a, ho, by rw [List.getElem?_set_ne (Ne.symm n)]; exact h1, h2⟩
  dis := fun j k m1 m2 o1 o2 a e1 e2 s1 s2 => by
    have hl : i < σ.length := by rw [E.len]; exact h
    rcases get_set e1 with ⟨j1, q1⟩ | ⟨n1, f1⟩
    · rcases get_set e2 with ⟨j2, q2⟩ | ⟨n2, f2⟩
      · rw [j1, j2]
      · rw [j1, List.getElem?_set_self hl] at s1
        rw [List.getElem?_set_ne (Ne.symm n2)] at s2
        have z : p = a := by injection s1 with s1; injection s1 with s1; injection s1
        exact absurd ⟨k, m2, o2, f2, z ▸ s2⟩ n
    · rw [List.getElem?_set_ne (Ne.symm n1)] at s1
      rcases get_set e2 with ⟨j2, q2⟩ | ⟨n2, f2⟩
      · rw [j2, List.getElem?_set_self hl] at s2
        have z : p = a := by injection s2 with s2; injection s2 with s2; injection s2
        exact absurd ⟨j, m1, o1, f1, z ▸ s1⟩ n
      · rw [List.getElem?_set_ne (Ne.symm n2)] at s2
        exact E.dis j k m1 m2 o1 o2 a f1 f2 s1 s2
/-- a slot may be stored to -/
def pinned (ρ : En) (i : Nat) : Bool := match ρ[i]? with
  | some (.own _ .bor) => true
  | some (.own _ .lck) => true
  | none => true
  | _ => false
theorem pinned_lt (h : pinned ρ i = false) : i < ρ.length := by
  unfold pinned at h
  cases e : ρ[i]? with
  | none =>
    rw [e] at h
    cases h
  | some x => exact (List.getElem?_eq_some_iff.mp e).1
theorem pinned_own {w : Ow} (h : pinned ρ i = false) (e : ρ[i]? = some (.own m w)) : w = .loc := by
  unfold pinned at h
  rw [e] at h
  cases w with
  | loc => rfl
  | bor => cases h
  | lck => cases h
theorem pin_set {s : Slot} {w : Option V} (h : pinned ρ i = false) (j : Nat) (mm : M) (o : Ow) (e : ρ[j]? = some (.own mm o)) (n : o ≠ .loc) :
    (∃ m', (ρ.set i s)[j]? = some (.own m' o) ∧ (o = .lck → m' = mm)) ∧ (σ.set i w)[j]? = σ[j]? := by
  have hne : i ≠ j := fun z => n (pinned_own (z ▸ h) e)
  rw [List.getElem?_set_ne hne, List.getElem?_set_ne hne]
  exact ⟨⟨mm, e, fun _ => rfl⟩, rfl⟩
theorem Fm.setVal (h : pinned ρ i = false) : Fm σ ρ F H (σ.set i (some v)) (ρ.set i (.val d)) F H where
  len := List.length_set
  dom := fun _ n => n
  keep := fun a u e n => ⟨e, rfl, fun ⟨j, m', w, h1, h2⟩ => by
    rcases get_set h1 with ⟨rfl, q⟩ | ⟨n1, h1⟩
    · cases q
    · rw [List.getElem?_set_ne (Ne.symm n1)] at h2
      exact n ⟨j, m', w, h1, h2⟩⟩
  pin := fun j m o e n => pin_set h j m o e n
  lck := fun _ _ _ _ _ => rfl
theorem Fm.setOwn (b : Fm σ' ρ0 F0 H0 σ ρ F H) (h : pinned ρ i = false) (h0 : H0 p = none) : Fm σ' ρ0 F0 H0 (σ.set i (some (.ref p))) (ρ.set i (.own m .loc)) F H where
  len := List.length_set.trans b.len
  dom := b.dom
  keep := fun a u e n => by
    obtain ⟨k1, k2, k3⟩ := b.keep a u e n
    refine ⟨k1, k2, fun ⟨j, m', w, h1, h2⟩ => ?_⟩
    rcases get_set h1 with ⟨rfl, q1⟩ | ⟨n1, h1⟩
    · rcases get_set h2 with ⟨_, z⟩ | ⟨z, _⟩
      · have z : a = p := by injection z with z; injection z
        rw [z, h0] at e
        cases e
      · exact z rfl
    · rw [List.getElem?_set_ne (Ne.symm n1)] at h2
      exact k3 ⟨j, m', w, h1, h2⟩
  pin := fun j mm o e n => by
    obtain ⟨⟨m1, g1, g2⟩, g3⟩ := b.pin j mm o e n
    obtain ⟨⟨m2, k1, k2⟩, k3⟩ := pin_set (σ := σ) (s := .own m .loc) (w := some (.ref p)) h j m1 o g1 n
    exact ⟨⟨m2, k1, fun z => (k2 z).trans (g2 z)⟩, k3.trans g3⟩
  lck := b.lck
end

/-! ### a result made fast -/
def fzSlot (ρ : En) (i : Nat) : Option Slot → Option (Except Exc D × En)
  | some (.val d) => some (.ok d, ρ)
  | some (.own m .loc) => some (.ok m.d, ρ.set i (.val m.d))
  | _ => none
def fz : R → EM D
  | .val d => EM.pure d
  | .fr m => EM.pure m.d
  | .loc i => fun ρ => fzSlot ρ i ρ[i]?
structure Fz (K : PySem.W.Frag) (σ : L2.St) (ρ0 : En) (F0 H0 : Hp) (ρ : En) (F H : Hp) (v : V) (r : R) (d : D) (ρ' : En) (F' : Hp) : Prop where
  er : ER K σ ρ' F' H
  fm : Fm σ ρ0 F0 H0 σ ρ' F' H
  rep : Rep K F' v d
  ex : Ex F F'
  ch : ∀ a, F' a ≠ F a → (v = .ref a ∧ ∃ m, r = .fr m) ∨ Owns σ ρ a
  ow : ∀ a, Owns σ ρ' a → Owns σ ρ a
section
variable {K : PySem.W.Frag} {σ σ' : L2.St} {ρ ρ' ρ0 : En} {F F' F0 H H' H0 : Hp} {i : Nat} {v : V} {r : R} {d : D} {m : M} {p : Addr} {o : HO}
theorem fz_ok (E : ER K σ ρ F H) (b : Fm σ ρ0 F0 H0 σ ρ F H) (h : RR K H0 σ ρ F H v r) {y : Except Exc D × En} (e : fz r ρ = some y) : ∃ d ρ' F', y = (.ok d, ρ') ∧ Fz K σ ρ0 F0 H0 ρ F H v r d ρ' F' := by
  cases r with
  | val d =>
    cases e
    exact ⟨d, ρ, F, rfl, E, b, h, Ex.refl F, fun a n => absurd rfl n, fun a z => z⟩
  | fr m =>
    cases e
    obtain ⟨p, ho, rfl, h0, h1, h2, h3, h4⟩ := h
    have ex : Ex F (upd F p ho) := Ex.new h1
    refine ⟨m.d, ρ, upd F p ho, rfl, ⟨fun a u e => ?_, E.len, fun i d e => ?_, fun i m w e => ?_, E.dis⟩, ⟨b.len, b.dom, fun a u e n => ?_, b.pin, b.lck⟩, (h3.mono ex).rep upd_same, ex, fun a n => ?_, fun a z => z⟩
    · by_cases z : a = p
      · subst z
        rw [upd_same] at e
        cases e
        exact h2
      · rw [upd_ne z] at e
        exact E.sub a u e
    · obtain ⟨v', g1, g2⟩ := E.val i d e
      exact ⟨v', g1, g2.mono ex⟩
    · obtain ⟨a, ho', g1, g2, g3, g4⟩ := E.own i m w e
      have n : a ≠ p := fun z => h4 ⟨i, m, w, e, z ▸ g1⟩
      exact ⟨a, ho', g1, by rw [upd_ne n]; exact g2, g3, g4.mono ex⟩
    · obtain ⟨k1, k2, k3⟩ := b.keep a u e n
      exact ⟨k1, by rw [upd_ne (ne_of_none e h0)]; exact k2, k3⟩
    · by_cases z : a = p
      · subst z
        exact .inl ⟨rfl, m, rfl⟩
      · rw [upd_ne z] at n
        exact absurd rfl n
  | loc i =>
    have hs : σ[i]? = some (some v) := h
    have e : fzSlot ρ i ρ[i]? = some y := e
    cases hi : ρ[i]? with
    | none =>
      rw [hi] at e
      cases e
    | some s =>
      rw [hi] at e
      cases s with
      | unb => cases e
      | val d =>
        cases e
        obtain ⟨v', g1, g2⟩ := E.val i d hi
        have z : v = v' := by rw [hs] at g1; injection g1 with g1; injection g1
        subst z
        exact ⟨d, ρ, F, rfl, E, b, g2, Ex.refl F, fun a n => absurd rfl n, fun a z => z⟩
      | own m w =>
        cases w with
        | bor => cases e
        | lck => cases e
        | loc =>
          cases e
          obtain ⟨a, ho, g1, g2, g3, g4⟩ := E.own i m .loc hi
          have z : v = .ref a := by rw [hs] at g1; injection g1 with g1; injection g1
          subst z
          have ex : Ex F (upd F a ho) := Ex.new g2
          have hp : pinned ρ i = false := by unfold pinned; rw [hi] <;> rfl
          have hlt := pinned_lt hp
          have hset : σ.set i (some (.ref a)) = σ := by
            refine List.ext_getElem? fun j => ?_
            by_cases z : i = j
            · subst z
              rw [List.getElem?_set_self (by rw [E.len]; exact hlt), hs]
            · rw [List.getElem?_set_ne z]
          have ow : ∀ b, Owns σ (ρ.set i (.val m.d)) b → Owns σ ρ b ∧ b ≠ a := by
            rintro b ⟨j, m', w, h1, h2⟩
            rcases get_set h1 with ⟨rfl, q⟩ | ⟨n1, h1⟩
            · cases q
            · refine ⟨⟨j, m', w, h1, h2⟩, fun z => n1 ?_⟩
              subst z
              exact E.dis j i m' m w .loc b h1 hi h2 hs
          refine ⟨m.d, ρ.set i (.val m.d), upd F a ho, rfl, ?_, ⟨List.length_set.trans b.len, b.dom, fun c u e n => ?_, fun j mm o e n => ?_, b.lck⟩, (g4.mono ex).rep upd_same, ex, fun c n => ?_, fun c z => (ow c z).1⟩
          · have E2 : ER K σ (ρ.set i (.val m.d)) (upd F a ho) H := by
              refine ⟨fun c u e => ?_, by simp [E.len], fun j d e => ?_, fun j m' w e => ?_, fun j k m1 m2 o1 o2 c e1 e2 s1 s2 => ?_⟩
              · by_cases z : c = a
                · subst z
                  rw [upd_same] at e
                  cases e
                  exact g3
                · rw [upd_ne z] at e
                  exact E.sub c u e
              · rcases get_set e with ⟨rfl, q⟩ | ⟨n, e⟩
                · cases q
                  exact ⟨_, hs, (g4.mono ex).rep upd_same⟩
                · obtain ⟨v', k1, k2⟩ := E.val j d e
                  exact ⟨v', k1, k2.mono ex⟩
              · rcases get_set e with ⟨rfl, q⟩ | ⟨n, e⟩
                · cases q
                · obtain ⟨c, ho', k1, k2, k3, k4⟩ := E.own j m' w e
                  have n2 : c ≠ a := fun z => n (E.dis j i m' m w .loc c e hi k1 (z ▸ hs))
                  exact ⟨c, ho', k1, by rw [upd_ne n2]; exact k2, k3, k4.mono ex⟩
              · rcases get_set e1 with ⟨rfl, q⟩ | ⟨n1, e1⟩
                · cases q
                rcases get_set e2 with ⟨rfl, q⟩ | ⟨n2, e2⟩
                · cases q
                exact E.dis j k m1 m2 o1 o2 c e1 e2 s1 s2
            exact E2
          · obtain ⟨k1, k2, k3⟩ := b.keep c u e n
            have n2 : c ≠ a := fun z => k3 ⟨i, m, .loc, hi, z ▸ hs⟩
            exact ⟨k1, by rw [upd_ne n2]; exact k2, fun z => k3 (ow c z).1⟩
          · obtain ⟨⟨m1, k1, k2⟩, k3⟩ := b.pin j mm o e n
            have n2 : i ≠ j := fun z => n (by subst z; rw [hi] at k1; injection k1 with k1; injection k1 with _ k1; exact k1.symm)
            exact ⟨⟨m1, by rw [List.getElem?_set_ne n2]; exact k1, k2⟩, k3⟩
          · by_cases z : c = a
            · subst z
              exact .inr ⟨i, m, .loc, hi, hs⟩
            · rw [upd_ne z] at n
              exact absurd rfl n
theorem RR.fz {v' : V} {r' : R} (z : Fz K σ ρ0 F0 H0 ρ F H v r d ρ' F') (h : RR K H0 σ ρ F H v' r') (n : ∀ m m' p, r = .fr m → r' = .fr m' → v' = .ref p → v ≠ .ref p) : RR K H0 σ ρ' F' H v' r' := by
  cases r' with
  | val d' => exact Rep.mono z.ex h
  | fr m' =>
    obtain ⟨p, ho, e, h0, h1, h2, h3, h4⟩ := h
    refine ⟨p, ho, e, h0, ?_, h2, h3.mono z.ex, fun k => h4 (z.ow p k)⟩
    apply Classical.byContradiction
    intro k
    rcases z.ch p (fun q => k (q.trans h1)) with ⟨k1, m, k2⟩ | k1
    · exact n m m' p k2 rfl e k1
    · exact h4 k1
  | loc i => exact h
end
end LF
end

-- part LFRules2
section
set_option Elab.async false
set_option linter.all false
set_option maxRecDepth 100000
set_option maxHeartbeats 2000000
namespace LF
open PySem PySem.Spec PyProof.Rows L2

/-! ### reading -/
def dSlot : Option Slot → Option D
  | some (.val d) => some d
  | some (.own m _) => some m.d
  | _ => none
def rd : R → En → Option D
  | .val d, _ => some d
  | .fr m, _ => some m.d
  | .loc i, ρ => dSlot ρ[i]?
section
variable {K : PySem.W.Frag} {σ : L2.St} {ρ ρ' ρ0 : En} {F F' F0 H H' H0 : Hp} {i : Nat} {v : V} {r : R} {d : D} {m : M}
/-- what is read: fast data, or an object that may still change -/
theorem rd_cases (E : ER K σ ρ F H) (h : RR K H0 σ ρ F H v r) (e : rd r ρ = some d) : Rep K F v d ∨ ∃ a ho m, v = .ref a ∧ H a = some ho ∧ MRep K F ho m ∧ d = m.d := by
  cases r with
  | val d' =>
    cases e
    exact .inl h
  | fr m =>
    cases e
    obtain ⟨p, ho, e, h0, h1, h2, h3, h4⟩ := h
    exact .inr ⟨p, ho, m, e, h2, h3, rfl⟩
  | loc i =>
    have hs : σ[i]? = some (some v) := h
    have e : dSlot ρ[i]? = some d := e
    cases hi : ρ[i]? with
    | none =>
      rw [hi] at e
      cases e
    | some s =>
      rw [hi] at e
      cases s with
      | unb => cases e
      | val d' =>
        cases e
        obtain ⟨v', g1, g2⟩ := E.val i d hi
        rw [hs] at g1
        injection g1 with g1
        injection g1 with g1
        exact .inl (g1 ▸ g2)
      | own m w =>
        cases e
        obtain ⟨a, ho, g1, g2, g3, g4⟩ := E.own i m w hi
        rw [hs] at g1
        injection g1 with g1
        injection g1 with g1
        exact .inr ⟨a, ho, m, g1, g3, g4, rfl⟩
theorem rd_rep (E : ER K σ ρ F H) (h : RR K H0 σ ρ F H v r) (e : rd r ρ = some d) : Rep K H v d := by
  rcases rd_cases E h e with h | ⟨a, ho, m, rfl, h1, h2, rfl⟩
  · exact h.mono E.sub
  · exact (h2.mono E.sub).rep h1
theorem rd_F (E : ER K σ ρ F H) (h : RR K H0 σ ρ F H v r) (e : rd r ρ = some d) (n : ∀ m : M, d ≠ m.d) : Rep K F v d := by
  rcases rd_cases E h e with h | ⟨a, ho, m, rfl, h1, h2, e⟩
  · exact h
  · exact absurd e (n m)
theorem rep_list {ds : List D} (h : Rep K F v (.list ds)) : ∃ a xs, v = .ref a ∧ F a = some (.lst xs) ∧ RepL K F xs ds := by
  generalize e : PyData.list ds = d at h
  cases h with
  | lst h1 h2 =>
    cases e
    exact ⟨_, _, rfl, h1, h2⟩
  | dK h1 h2 => cases e
  | _ => cases e
theorem rep_tup {ds : List D} (h : Rep K F v (.tuple ds)) : ∃ a xs, v = .ref a ∧ SqT K F a xs ∧ RepL K F xs ds := by
  generalize e : PyData.tuple ds = d at h
  cases h with
  | tup h1 h2 =>
    cases e
    exact ⟨_, _, rfl, h1, h2⟩
  | dK h1 h2 => cases e
  | _ => cases e
theorem rep_int {n : Int} (h : Rep K F v (.int n)) : v = .int n := by
  generalize e : PyData.int n = d at h
  cases h with
  | int i =>
    cases e
    rfl
  | dK h1 h2 => cases e
  | _ => cases e
theorem rep_bl {n : Bool} (h : Rep K F v (.bool n)) : v = .bl n := by
  generalize e : PyData.bool n = d at h
  cases h with
  | bl i =>
    cases e
    rfl
  | dK h1 h2 => cases e
  | _ => cases e
theorem rep_str {n : Str} (h : Rep K F v (.str n)) : v = .str n := by
  generalize e : PyData.str n = d at h
  cases h with
  | str i =>
    cases e
    rfl
  | dK h1 h2 => cases e
  | _ => cases e
theorem rep_non (h : Rep K F v .none) : v = .non := by
  generalize e : PyData.none = d at h
  cases h with
  | non => rfl
  | dK h1 h2 => cases e
  | _ => cases e
theorem rd_list {ds : List D} (E : ER K σ ρ F H) (h : RR K H0 σ ρ F H v r) (e : rd r ρ = some (.list ds)) : ∃ a xs, v = .ref a ∧ H a = some (.lst xs) ∧ RepL K F xs ds := by
  rcases rd_cases E h e with h | ⟨a, ho, m, rfl, h1, h2, e⟩
  · obtain ⟨a, xs, e, h1, h2⟩ := rep_list h
    exact ⟨a, xs, e, E.sub _ _ h1, h2⟩
  · cases h2 with
    | lst h2 =>
      cases e
      exact ⟨a, _, rfl, h1, h2⟩
    | dK h2 => cases e
theorem rd_tup {ds : List D} (E : ER K σ ρ F H) (h : RR K H0 σ ρ F H v r) (e : rd r ρ = some (.tuple ds)) : ∃ a xs, v = .ref a ∧ SqT K F a xs ∧ RepL K F xs ds :=
  rep_tup (rd_F E h e fun m z => by cases m <;> cases z)
theorem rd_int {n : Int} (E : ER K σ ρ F H) (h : RR K H0 σ ρ F H v r) (e : rd r ρ = some (.int n)) : v = .int n := rep_int (rd_rep E h e)
theorem rd_bl {n : Bool} (E : ER K σ ρ F H) (h : RR K H0 σ ρ F H v r) (e : rd r ρ = some (.bool n)) : v = .bl n := rep_bl (rd_rep E h e)
theorem rd_str {n : Str} (E : ER K σ ρ F H) (h : RR K H0 σ ρ F H v r) (e : rd r ρ = some (.str n)) : v = .str n := rep_str (rd_rep E h e)
theorem rd_non (E : ER K σ ρ F H) (h : RR K H0 σ ρ F H v r) (e : rd r ρ = some .none) : v = .non := rep_non (rd_rep E h e)
end

/-! ### how a piece ends -/
section
variable {C : Ctx} {W : WX} {σ : L2.St} {ρ ρ0 ρ1 : En} {F F0 F1 H H0 H1 : Hp} {Q : VK} {v : V} {d : D} {p : Addr}
theorem fin_val (hr : Res C W σ ρ0 F0 H0 (.ok (.val d), ρ) Q) (E : ER C.K σ ρ F H) (m : Fm σ ρ0 F0 H0 σ ρ F H) (r : Rep C.K F v d) : Q v H := hr v F H E m r
theorem fin_new {o : HO} {mm : M} (hr : Res C W σ ρ0 F0 H0 (.ok (.fr mm), ρ) Q) (E : ER C.K σ ρ F H) (m : Fm σ ρ0 F0 H0 σ ρ F H) (r : MRep C.K F o mm) (hp : H p = none) : Q (.ref p) (upd H p o) :=
  hr (.ref p) F (upd H p o) (E.newfr hp) (m.trans (Fm.newfr E hp)) ⟨p, o, rfl, Classical.byContradiction fun z => m.dom p z hp, none_sub E hp, upd_same, r, not_owns_new E hp⟩
theorem fin_tup {vs : List V} {ds : List D} (hr : Res C W σ ρ0 F0 H0 (.ok (.val (.tuple ds)), ρ) Q) (E : ER C.K σ ρ F H) (m : Fm σ ρ0 F0 H0 σ ρ F H) (r : RepL C.K F vs ds) (hp : H p = none) : Q (.ref p) (upd H p (.tup vs)) :=
  hr (.ref p) (upd F p (.tup vs)) (upd H p (.tup vs)) (E.newF hp) (m.trans (Fm.newF E hp)) (.tup (st_of upd_same) (r.mono (Ex.new (none_sub E hp))))
end

section
variable {X : Cx} {ex : Str → Addr} {W : WX} {pos : Pos} {e a b c : Expr} {es : List Expr} {fa fb fc : EM R} {fs : EM (List R)}
/-! ### names, constants -/
def eVar (i : Nat) : EM R := fun ρ => match ρ[i]? with
  | some (.val d) => some (.ok (.val d), ρ)
  | some (.own _ _) => some (.ok (.loc i), ρ)
  | _ => none
theorem l_var (i : Nat) {x : Str} (hN : X.N[i]? = some x := by rfl) (hv : Vis X.env.scope x := by first | exact Or.inl rfl | exact Or.inr (Or.inl rfl) | exact Or.inr (Or.inr rfl)) (hd : (x == ("__debug__" : Str)) = false := by decide)
    (hcd : (x == ("__classdict__" : Str)) = false := by decide) : PE X (.Name x pos) (DE ⟨X.K, ex⟩ W (eVar i)) := by
  refine impE (pe_var hN hv hd hcd) fun σ H Q h => ?_
  obtain ⟨ρ, F, y, E, e, hr⟩ := h
  unfold eVar at e
  cases hi : ρ[i]? with
  | none =>
    rw [hi] at e
    cases e
  | some s =>
    rw [hi] at e
    cases s with
    | unb => cases e
    | val d =>
      cases e
      obtain ⟨v, g1, g2⟩ := E.val i d hi
      exact ⟨v, g1, hr v F H E (Fm.refl σ ρ F H) g2⟩
    | own m w =>
      cases e
      obtain ⟨a, ho, g1, g2⟩ := E.own i m w hi
      exact ⟨.ref a, g1, hr (.ref a) F H E (Fm.refl σ ρ F H) g1⟩
def eC (d : D) : EM R := EM.pure (.val d)
theorem c_in {v : V} {d : D} (h : ∀ F : Hp, Rep X.K F v d) {σ : L2.St} {H : Hp} {Q : VK} (k : DE ⟨X.K, ex⟩ W (eC d) σ H Q) : Q v H := by
  obtain ⟨ρ, F, y, E, e, hr⟩ := k
  cases e
  exact hr v F H E (Fm.refl σ ρ F H) (h F)
theorem l_int {i : Int} {j} : PE X (.Constant (.int i) j pos) (DE ⟨X.K, ex⟩ W (eC (.int i))) := impE pe_int fun _ _ _ h => c_in (fun _ => .int i) h
theorem l_bl {b : Bool} {j} : PE X (.Constant (.bool b) j pos) (DE ⟨X.K, ex⟩ W (eC (.bool b))) := impE pe_bl fun _ _ _ h => c_in (fun _ => .bl b) h
theorem l_non {j} : PE X (.Constant .none j pos) (DE ⟨X.K, ex⟩ W (eC .none)) := impE pe_non fun _ _ _ h => c_in (fun _ => .non) h
theorem l_str {x : Str} {j} : PE X (.Constant (.str x) j pos) (DE ⟨X.K, ex⟩ W (eC (.str x))) := impE pe_str fun _ _ _ h => c_in (fun _ => .str x) h
/-- a name of the module that holds a number, a text, a tuple -/
theorem l_glob {x : Str} {v : V} {u : Value} {d : D} (hg : Gl X x) (hm : X.mg x = some u) (r : RelV v u) (h : ∀ F : Hp, Rep X.K F v d) (hd : (x == ("__debug__" : Str)) = false := by decide) : PE X (.Name x pos) (DE ⟨X.K, ex⟩ W (eC d)) :=
  impE (pe_glob hg hm r hd) fun _ _ _ k => c_in h k

/-! ### arguments, displays -/
def aNil : EM (List R) := EM.pure []
def aCons (fa : EM R) (fs : EM (List R)) : EM (List R) := EM.bind fa fun r => EM.bind fs fun rs => EM.pure (r :: rs)
theorem l_nil : PA X [] (DA ⟨X.K, ex⟩ W aNil) := impA pa_nil fun σ H Q h => by
  obtain ⟨ρ, F, y, E, e, hr⟩ := h
  cases e
  exact hr [] F H E (Fm.refl σ ρ F H) .nil
theorem RRs.step {K : PySem.W.Frag} {H0 : Hp} {σ : L2.St} {ρ ρ' : En} {F F' H H' : Hp} (E : ER K σ ρ F H) (m : Fm σ ρ F H σ ρ' F' H') : ∀ {vs : List V} {rs : List R}, RRs K H0 σ ρ F H vs rs → RRs K H0 σ ρ' F' H' vs rs
  | _, _, .nil => .nil
  | _, _, .cons h r n => .cons (h.step E m) (RRs.step E m r) n
theorem RRs.back {K : PySem.W.Frag} {H0 H1 : Hp} {σ : L2.St} {ρ : En} {F H : Hp} (m : ∀ a, H1 a ≠ none → H0 a ≠ none) : ∀ {vs : List V} {rs : List R}, RRs K H0 σ ρ F H vs rs → RRs K H1 σ ρ F H vs rs
  | _, _, .nil => .nil
  | _, _, .cons h r n => .cons (h.back m) (RRs.back m r) n
theorem RRs.fresh {K : PySem.W.Frag} {H0 : Hp} {σ : L2.St} {ρ : En} {F H : Hp} {p : Addr} {m : M} : ∀ {vs : List V} {rs : List R}, RRs K H0 σ ρ F H vs rs → (V.ref p, R.fr m) ∈ vs.zip rs → H0 p = none
  | _, _, .nil, h => by simp at h
  | _, _, .cons h r n, q => by
    rw [List.zip_cons_cons] at q
    rcases List.mem_cons.mp q with q | q
    · cases q
      obtain ⟨p', ho, e, h0, _⟩ := h
      cases e
      exact h0
    · exact RRs.fresh r q
theorem l_cons (ha : PE X e (DE ⟨X.K, ex⟩ W fa)) (hr : PA X es (DA ⟨X.K, ex⟩ W fs)) (hs : starEach (e :: es) X.env = (false, eval e X.env) :: starEach es X.env := by rfl) : PA X (e :: es) (DA ⟨X.K, ex⟩ W (aCons fa fs)) :=
  impA (pa_cons ha hr hs) fun σ H Q h => by
    obtain ⟨ρ, F, y, E, e, hr⟩ := h
    refine (split E (Fm.refl σ ρ F H) e hr.err).mono fun v H1 ⟨r, ρ1, F1, E1, m1, _, rr, e1⟩ => ?_
    refine (splitA E1 m1 e1 hr.err).mono fun vs H2 ⟨rs, ρ2, F2, E2, m2, m12, rrs, e2⟩ => ?_
    cases e2
    refine hr (v :: vs) F2 H2 E2 m2 (.cons (rr.step E1 m12) (rrs.back m1.dom) fun m m' p q q' z => ?_)
    have h1 : H1 p = none := rrs.fresh z
    subst q
    subst q'
    obtain ⟨p', ho, e', _, _, h2, _⟩ := rr
    cases e'
    rw [h1] at h2
    cases h2
theorem RRs.fz {K : PySem.W.Frag} {σ : L2.St} {ρ0 ρ ρ' : En} {F0 H0 F F' H : Hp} {v : V} {r : R} {d : D} (Z : Fz K σ ρ0 F0 H0 ρ F H v r d ρ' F') : ∀ {vs : List V} {rs : List R}, RRs K H0 σ ρ F H vs rs →
    (∀ m m' p, r = .fr m → v = .ref p → ¬ ((V.ref p, R.fr m') ∈ vs.zip rs)) → RRs K H0 σ ρ' F' H vs rs
  | _, _, .nil, _ => .nil
  | _, _, .cons g gs gn, hn => by
    refine .cons (RR.fz Z g fun m1 m2 p q1 q2 q3 q4 => hn m1 m2 p q1 q4 ?_) (RRs.fz Z gs fun m1 m2 p q1 q2 q3 => hn m1 m2 p q1 q2 ?_) gn
    · rw [q2, q3, List.zip_cons_cons]
      exact List.mem_cons_self
    · rw [List.zip_cons_cons]
      exact List.mem_cons_of_mem _ q3
def fzAll : List R → EM (List D)
  | [] => EM.pure []
  | r :: rs => EM.bind (fz r) fun d => EM.bind (fzAll rs) fun ds => EM.pure (d :: ds)
theorem fzAll_ok {K : PySem.W.Frag} {σ : L2.St} {ρ0 : En} {F0 H0 H : Hp} : ∀ {rs : List R} {vs : List V} {ρ : En} {F : Hp} {y : Except Exc (List D) × En}, ER K σ ρ F H → Fm σ ρ0 F0 H0 σ ρ F H → RRs K H0 σ ρ F H vs rs → fzAll rs ρ = some y →
    ∃ ds ρ' F', y = (.ok ds, ρ') ∧ ER K σ ρ' F' H ∧ Fm σ ρ0 F0 H0 σ ρ' F' H ∧ RepL K F' vs ds ∧ Ex F F'
  | [], vs, ρ, F, y, E, m, h, e => by
    cases e
    cases h
    exact ⟨[], ρ, F, rfl, E, m, .nil, Ex.refl F⟩
  | r :: rs, vs, ρ, F, y, E, m, h, e => by
    cases h with
    | cons h hs n =>
      rename_i v vs
      unfold fzAll EM.bind at e
      cases hf : fz r ρ with
      | none =>
        rw [hf] at e
        cases e
      | some z =>
        obtain ⟨d, ρ1, F1, rfl, Z⟩ := fz_ok E m h hf
        rw [hf] at e
        have e : EM.bind (fzAll rs) (fun ds => EM.pure (d :: ds)) ρ1 = some y := e
        have hs1 : RRs K H0 σ ρ1 F1 H vs rs := hs.fz Z n
        unfold EM.bind at e
        cases hg : fzAll rs ρ1 with
        | none =>
          rw [hg] at e
          cases e
        | some z =>
          obtain ⟨ds, ρ2, F2, rfl, E2, m2, r2, x2⟩ := fzAll_ok Z.er Z.fm hs1 hg
          rw [hg] at e
          cases e
          exact ⟨d :: ds, ρ2, F2, rfl, E2, m2, .cons (Z.rep.mono x2) r2, Z.ex.trans x2⟩
def eTup (fs : EM (List R)) : EM R := EM.bind fs fun rs => EM.bind (fzAll rs) fun ds => if ds.length ≤ sizeLine then EM.pure (.val (.tuple ds)) else EM.stuck
def eLst (fs : EM (List R)) : EM R := EM.bind fs fun rs => EM.bind (fzAll rs) fun ds => if ds.length ≤ sizeLine then EM.pure (.fr (.lst ds)) else EM.stuck
theorem all_in {β : Type} {K : PySem.W.Frag} {σ : L2.St} {ρ0 : En} {F0 H0 H : Hp} {rs : List R} {vs : List V} {ρ : En} {F : Hp} {g : List D → EM β} {y : Except Exc β × En} (E : ER K σ ρ F H) (m : Fm σ ρ0 F0 H0 σ ρ F H) (h : RRs K H0 σ ρ F H vs rs)
    (e : EM.bind (fzAll rs) g ρ = some y) : ∃ ds ρ' F', ER K σ ρ' F' H ∧ Fm σ ρ0 F0 H0 σ ρ' F' H ∧ RepL K F' vs ds ∧ g ds ρ' = some y := by
  unfold EM.bind at e
  cases hf : fzAll rs ρ with
  | none =>
    rw [hf] at e
    cases e
  | some z =>
    obtain ⟨ds, ρ', F', rfl, E', m', r', _⟩ := fzAll_ok E m h hf
    rw [hf] at e
    exact ⟨ds, ρ', F', E', m', r', e⟩
theorem one_in {β : Type} {K : PySem.W.Frag} {σ : L2.St} {ρ0 : En} {F0 H0 H : Hp} {r : R} {v : V} {ρ : En} {F : Hp} {g : D → EM β} {y : Except Exc β × En} (E : ER K σ ρ F H) (m : Fm σ ρ0 F0 H0 σ ρ F H) (h : RR K H0 σ ρ F H v r)
    (e : EM.bind (fz r) g ρ = some y) : ∃ d ρ' F', Fz K σ ρ0 F0 H0 ρ F H v r d ρ' F' ∧ g d ρ' = some y := by
  unfold EM.bind at e
  cases hf : fz r ρ with
  | none =>
    rw [hf] at e
    cases e
  | some z =>
    obtain ⟨d, ρ', F', rfl, Z⟩ := fz_ok E m h hf
    rw [hf] at e
    exact ⟨d, ρ', F', Z, e⟩
theorem l_tup {k} (h : PA X es (DA ⟨X.K, ex⟩ W fs)) : PE X (.Tuple es k pos) (DE ⟨X.K, ex⟩ W (eTup fs)) := impE (pe_tup h) fun σ H Q h => by
  obtain ⟨ρ, F, y, E, e, hr⟩ := h
  refine (splitA E (Fm.refl σ ρ F H) e hr.err).mono fun vs H1 ⟨rs, ρ1, F1, E1, m1, _, rrs, e1⟩ => ?_
  obtain ⟨ds, ρ2, F2, E2, m2, r2, e2⟩ := all_in E1 m1 rrs e1
  by_cases hz : ds.length ≤ sizeLine
  · rw [if_pos hz] at e2
    cases e2
    exact ⟨by rw [r2.length]; exact hz, fun p hp => fin_tup hr E2 m2 r2 hp⟩
  · rw [if_neg hz] at e2
    cases e2
theorem l_lst (h : PA X es (DA ⟨X.K, ex⟩ W fs)) : PE X (.List es pos) (DE ⟨X.K, ex⟩ W (eLst fs)) := impE (pe_lst h) fun σ H Q h => by
  obtain ⟨ρ, F, y, E, e, hr⟩ := h
  refine (splitA E (Fm.refl σ ρ F H) e hr.err).mono fun vs H1 ⟨rs, ρ1, F1, E1, m1, _, rrs, e1⟩ => ?_
  obtain ⟨ds, ρ2, F2, E2, m2, r2, e2⟩ := all_in E1 m1 rrs e1
  by_cases hz : ds.length ≤ sizeLine
  · rw [if_pos hz] at e2
    cases e2
    exact ⟨by rw [r2.length]; exact hz, fun p hp => fin_new hr E2 m2 (.lst r2) hp⟩
  · rw [if_neg hz] at e2
    cases e2

/-! ### two-place operations on what is read -/
/-- what an operation hands on: data that stand, a new list -/
inductive Got where
  | v (d : D) | l (ds : List D)
def Got.r : Got → R
  | .v d => .val d
  | .l ds => .fr (.lst ds)
def e2 (g : D → D → Option Got) (fa fb : EM R) : EM R := EM.bind fa fun x => EM.bind fb fun y => fun ρ => match rd x ρ, rd y ρ with
  | some d, some d' => (g d d').map fun z => (.ok z.r, ρ)
  | _, _ => none
/-- g tells what r does -/
def Op2 (K : PySem.W.Frag) (r : R2) (g : D → D → Option Got) : Prop := ∀ (F H : Hp) (x y : V) (d d' : D) (z : Got) (Q : VK), Ex F H →
  (∀ ds, d = .list ds → ∃ a xs, x = .ref a ∧ H a = some (.lst xs) ∧ RepL K F xs ds) → (∀ ds, d' = .list ds → ∃ a xs, y = .ref a ∧ H a = some (.lst xs) ∧ RepL K F xs ds) →
  (∀ ds, d = .tuple ds → ∃ a xs, x = .ref a ∧ SqT K F a xs ∧ RepL K F xs ds) → (∀ ds, d' = .tuple ds → ∃ a xs, y = .ref a ∧ SqT K F a xs ∧ RepL K F xs ds) →
  Rep K H x d → Rep K H y d' → g d d' = some z →
  (∀ u e, z = .v e → Rep K F u e → Q u H) → (∀ ds vs p, z = .l ds → RepL K F vs ds → H p = none → Q (.ref p) (upd H p (.lst vs))) → (∀ ds vs p, z = .v (.tuple ds) → RepL K F vs ds → H p = none → Q (.ref p) (upd H p (.tup vs))) → r x y H Q
theorem l_2 {r : R2} {g : D → D → Option Got} {t : TE → TE → TE} (o : Op2 X.K r g) {fa fb : EM R} {σ : L2.St} {H : Hp} {Q : VK} (h : DE ⟨X.K, ex⟩ W (e2 g fa fb) σ H Q) : tOp r (DE ⟨X.K, ex⟩ W fa) (DE ⟨X.K, ex⟩ W fb) σ H Q := by
  obtain ⟨ρ, F, y, E, e, hr⟩ := h
  refine (split E (Fm.refl σ ρ F H) e hr.err).mono fun v H1 ⟨r1, ρ1, F1, E1, m1, _, rr1, e1⟩ => ?_
  refine (split E1 m1 e1 hr.err).mono fun u H2 ⟨r2, ρ2, F2, E2, m2, m12, rr2, e2⟩ => ?_
  have rr1 := rr1.step E1 m12
  have e2 : (match rd r1 ρ2, rd r2 ρ2 with
    | some d, some d' => (g d d').map fun z => (Except.ok (ε := Exc) z.r, ρ2)
    | _, _ => none) = some y := e2
  cases h1 : rd r1 ρ2 with
  | none =>
    rw [h1] at e2
    cases e2
  | some d =>
    rw [h1] at e2
    cases h2 : rd r2 ρ2 with
    | none =>
      rw [h2] at e2
      cases e2
    | some d' =>
      rw [h2] at e2
      have e2 : (g d d').map (fun z => (Except.ok (ε := Exc) z.r, ρ2)) = some y := e2
      cases hg : g d d' with
      | none =>
        rw [hg] at e2
        cases e2
      | some z =>
        rw [hg] at e2
        cases e2
        refine o F2 H2 v u d d' z Q E2.sub (fun ds q => rd_list E2 rr1 (q ▸ h1)) (fun ds q => rd_list E2 rr2 (q ▸ h2)) (fun ds q => rd_tup E2 rr1 (q ▸ h1)) (fun ds q => rd_tup E2 rr2 (q ▸ h2)) (rd_rep E2 rr1 h1) (rd_rep E2 rr2 h2) hg (fun u e q rp => ?_) (fun ds vs p q rp hp => ?_) fun ds vs p q rp hp => ?_
        · subst q
          exact fin_val hr E2 m2 rp
        · subst q
          exact fin_new hr E2 m2 (.lst rp) hp
        · subst q
          exact fin_tup hr E2 m2 rp hp
end
end LF
end

-- part LFRules3
section
set_option Elab.async false
set_option linter.all false
set_option maxRecDepth 100000
set_option maxHeartbeats 2000000
namespace LF
open PySem PySem.Spec PyProof.Rows L2

/-! ### the operators -/
def gAdd : D → D → Option Got
  | .int i, .int j => some (.v (.int (i + j)))
  | .int i, .bool b => some (.v (.int (i + b2i b)))
  | .bool b, .int i => some (.v (.int (b2i b + i)))
  | .str a, .str b => if a.length + b.length ≤ sizeLine then some (.v (.str (a ++ b))) else none
  | .list xs, .list ys => if xs.length + ys.length ≤ sizeLine then some (.l (xs ++ ys)) else none
  | .tuple xs, .tuple ys => if xs.length + ys.length ≤ sizeLine then some (.v (.tuple (xs ++ ys))) else none
  | _, _ => none
section
variable {X : Cx}
theorem op_add_bi : OpR X (binaryOp .Add) (fun x y H Q => ∃ i k, x = .bl k ∧ y = .int i ∧ Q (.int (b2i k + i)) H) := by
  intro pins s σ H x y v u Q I rx ry h
  obtain ⟨i, k, rfl, rfl, q⟩ := h
  obtain ⟨t, rfl⟩ := ry
  cases rx
  exact PySem.IntBool.add_bool_int ⟨.int (b2i k + i), H, I.tok _, ⟨_, rfl⟩, q⟩
def rAddU (K : PySem.W.Frag) : R2 := fun x y H Q => rI0 (fun i j => .int (i + j)) x y H Q ∨ (∃ i k, x = .int i ∧ y = .bl k ∧ Q (.int (i + b2i k)) H) ∨ (∃ i k, x = .bl k ∧ y = .int i ∧ Q (.int (b2i k + i)) H) ∨
  (∃ i j, x = .str i ∧ y = .str j ∧ i.length + j.length ≤ sizeLine ∧ Q (.str (i ++ j)) H) ∨ rCat x y H Q ∨ rCatA K x y H Q
theorem op_addU : OpR X (binaryOp .Add) (rAddU X.K) := op_add.or (op_add_ib.or (op_add_bi.or (op_add_str.or (op_cat.or op_catA))))
end
theorem add_2 (K : PySem.W.Frag) : Op2 K (rAddU K) gAdd := by
  intro F H x y d d' z Q e hl hl' ht ht' rx ry hg qv ql qt
  unfold gAdd at hg
  split at hg
  · cases hg
    exact .inl ⟨_, _, rep_int rx, rep_int ry, qv _ _ rfl (.int _)⟩
  · cases hg
    exact .inr (.inl ⟨_, _, rep_int rx, rep_bl ry, qv _ _ rfl (.int _)⟩)
  · cases hg
    exact .inr (.inr (.inl ⟨_, _, rep_bl rx, rep_int ry, qv _ _ rfl (.int _)⟩))
  · split at hg
    · rename_i hz
      cases hg
      exact .inr (.inr (.inr (.inl ⟨_, _, rep_str rx, rep_str ry, hz, qv _ _ rfl (.str _)⟩)))
    · cases hg
  · split at hg
    · rename_i hz
      cases hg
      obtain ⟨a, xs, e1, h1, r1⟩ := hl _ rfl
      obtain ⟨b, ys, e2, h2, r2⟩ := hl' _ rfl
      exact .inr (.inr (.inr (.inr (.inl ⟨a, b, xs, ys, e1, e2, h1, h2, by rw [r1.length, r2.length]; exact hz, fun p hp => ql _ _ p rfl (r1.append r2) hp⟩))))
    · cases hg
  · split at hg
    · rename_i hz
      cases hg
      obtain ⟨a, xs, e1, h1, r1⟩ := ht _ rfl
      obtain ⟨b, ys, e2, h2, r2⟩ := ht' _ rfl
      refine .inr (.inr (.inr (.inr (.inr ⟨a, b, xs, ys, e1, e2, ex_t e h1, ex_t e h2, by rw [r1.length, r2.length]; exact hz, fun z => ?_, fun n z => ?_, fun n n' p hp => qt _ _ p rfl (r1.append r2) hp⟩))))
      · subst z
        cases r1
        exact qv _ _ rfl (.tup h2 r2)
      · subst z
        cases r2
        refine qv _ _ rfl ?_
        rw [List.append_nil]
        exact .tup h1 r1
    · cases hg
  · cases hg
def gI (p : Int → Int → Option Int) : D → D → Option Got
  | .int i, .int j => (p i j).map fun k => .v (.int k)
  | _, _ => none
theorem gI_2 {K : PySem.W.Frag} {Cc : Int → Int → Prop} {g : Int → Int → Int} {p : Int → Int → Option Int} (h : ∀ i j k, p i j = some k → Cc i j ∧ k = g i j) : Op2 K (rI Cc fun i j => .int (g i j)) (gI p) := by
  intro F H x y d d' z Q e hl hl' ht ht' rx ry hg qv ql qt
  unfold gI at hg
  split at hg
  · rename_i i j
    cases hp : p i j with
    | none =>
      rw [hp] at hg
      cases hg
    | some k =>
      rw [hp] at hg
      cases hg
      obtain ⟨h1, rfl⟩ := h i j k hp
      exact ⟨i, j, rep_int rx, rep_int ry, h1, qv _ _ rfl (.int _)⟩
  · cases hg
theorem gI_20 {K : PySem.W.Frag} {g : Int → Int → Int} : Op2 K (rI0 fun i j => .int (g i j)) (gI fun i j => some (g i j)) := by
  intro F H x y d d' z Q e hl hl' ht ht' rx ry hg qv ql qt
  unfold gI at hg
  split at hg
  · cases hg
    exact ⟨_, _, rep_int rx, rep_int ry, qv _ _ rfl (.int _)⟩
  · cases hg
def gSub : D → D → Option Got := gI fun i j => some (i - j)
def pMod (i j : Int) : Option Int := if 0 < j then some (i % j) else none
def gMod : D → D → Option Got := gI pMod
def pDiv (i j : Int) : Option Int := if 0 < j ∧ j < 1073741824 then some (i / j) else none
def gDiv : D → D → Option Got := gI pDiv
def pPow (i j : Int) : Option Int := if 0 ≤ j ∧ j ≤ 1000000 ∧ i.natAbs < 2 ^ 64 then some (i ^ j.toNat) else none
def gPow : D → D → Option Got := gI pPow
theorem sub_2 (K : PySem.W.Frag) : Op2 K (rI0 fun i j => .int (i - j)) gSub := gI_20
theorem mod_2 (K : PySem.W.Frag) : Op2 K (rI (fun _ j => 0 < j) fun i j => .int (i % j)) gMod := gI_2 fun i j k h => by
  unfold pMod at h
  split at h
  · cases h
    exact ⟨by assumption, rfl⟩
  · cases h
theorem div_2 (K : PySem.W.Frag) : Op2 K (rI CDiv fun i j => .int (i / j)) gDiv := gI_2 fun i j k h => by
  unfold pDiv at h
  split at h
  · cases h
    exact ⟨by assumption, rfl⟩
  · cases h
theorem pow_2 (K : PySem.W.Frag) : Op2 K (rI CPow fun i j => .int (i ^ j.toNat)) gPow := gI_2 fun i j k h => by
  unfold pPow at h
  split at h
  · cases h
    exact ⟨by assumption, rfl⟩
  · cases h
/-- * -/
def gMul : D → D → Option Got
  | .int i, .int j => if (-(2 ^ 64) < i ∧ i < 2 ^ 64) ∨ (-(2 ^ 64) < j ∧ j < 2 ^ 64) then some (.v (.int (i * j))) else none
  | .list xs, .int k => if -(2 ^ 63) ≤ k ∧ k < 2 ^ 63 ∧ xs.length * k.toNat ≤ sizeLine then some (.l (List.replicate k.toNat xs).flatten) else none
  | .tuple xs, .int k => if xs.length ≠ 0 ∧ 2 ≤ k ∧ k ≤ 1000 ∧ xs.length ≤ 1000 then some (.v (.tuple (List.replicate k.toNat xs).flatten)) else none
  | .str a, .int k => if 0 ≤ k ∧ k ≤ 1000 ∧ a.length ≤ 1000 then some (.v (.str (Txt.mul a k))) else none
  | _, _ => none
def rMulS : R2 := fun x y H Q => ∃ (a : Str) (k : Int), x = .str a ∧ y = .int k ∧ 0 ≤ k ∧ k ≤ 1000 ∧ a.length ≤ 1000 ∧ Q (.str (Txt.mul a k)) H
theorem op_mulS {X : Cx} : OpR X (binaryOp .Mult) rMulS := by
  intro pins s σ H x y v u Q I rx ry h
  obtain ⟨a, k, rfl, rfl, h0, h1, h2, q⟩ := h
  obtain ⟨t, rfl⟩ := rx
  obtain ⟨t', rfl⟩ := ry
  exact SB.mul (mulOk_of 1000 1000 h2 h1 (by omega) (by decide) (by decide)) fun t'' c => ⟨.str (Txt.mul a k), H, I.tok _, ⟨_, rfl⟩, q⟩
def rMulU (K : PySem.W.Frag) : R2 := fun x y H Q => rI CMul (fun i j => .int (i * j)) x y H Q ∨ rRep x y H Q ∨ rRepT K x y H Q ∨ rMulS x y H Q
theorem op_mulU {X : Cx} : OpR X (binaryOp .Mult) (rMulU X.K) := op_mul.or (op_rep.or (op_repT.or op_mulS))
theorem mul_2 (K : PySem.W.Frag) : Op2 K (rMulU K) gMul := by
  intro F H x y d d' z Q e hl hl' ht ht' rx ry hg qv ql qt
  unfold gMul at hg
  split at hg
  · split at hg
    · rename_i hz
      cases hg
      exact .inl ⟨_, _, rep_int rx, rep_int ry, hz, qv _ _ rfl (.int _)⟩
    · cases hg
  · split at hg
    · rename_i hz
      cases hg
      obtain ⟨a, xs, e1, h1, r1⟩ := hl _ rfl
      exact .inr (.inl ⟨a, _, xs, e1, rep_int ry, h1, hz.1, hz.2.1, by rw [r1.length]; exact hz.2.2, fun p hp => ql _ _ p rfl (r1.rep _) hp⟩)
    · cases hg
  · split at hg
    · rename_i hz
      cases hg
      obtain ⟨a, xs, e1, h1, r1⟩ := ht _ rfl
      refine .inr (.inr (.inl ⟨a, _, xs, e1, rep_int ry, ex_t e h1, fun z => ?_, hz.2.1, hz.2.2.1, by rw [r1.length]; exact hz.2.2.2, fun p hp => qt _ _ p rfl (r1.rep _) hp⟩))
      have := r1.length
      rw [z] at this
      exact hz.1 this.symm
    · cases hg
  · split at hg
    · rename_i hz
      cases hg
      exact .inr (.inr (.inr ⟨_, _, rep_str rx, rep_int ry, hz.1, hz.2.1, hz.2.2, qv _ _ rfl (.str _)⟩))
    · cases hg
  · cases hg
/-- == and != -/
def gEq (d d' : D) : Option Got := if SeqAt.shaped d = true ∧ SeqAt.shaped d' = true then some (.v (.bool (PyData.eqv d d'))) else none
def gNe (d d' : D) : Option Got := if SeqAt.shaped d = true ∧ SeqAt.shaped d' = true then some (.v (.bool (!PyData.eqv d d'))) else none
theorem eq_2 (K : PySem.W.Frag) : Op2 K (rEqD K) gEq := by
  intro F H x y d d' z Q e hl hl' ht ht' rx ry hg qv ql qt
  unfold gEq at hg
  split at hg
  · rename_i hz
    cases hg
    exact ⟨d, d', rx.dp (Ex.refl H) (SeqAt.canLay_of_shaped hz.1), ry.dp (Ex.refl H) (SeqAt.canLay_of_shaped hz.2), hz.1, hz.2, qv _ _ rfl (.bl _)⟩
  · cases hg
theorem ne_2 (K : PySem.W.Frag) : Op2 K (rNeD K) gNe := by
  intro F H x y d d' z Q e hl hl' ht ht' rx ry hg qv ql qt
  unfold gNe at hg
  split at hg
  · rename_i hz
    cases hg
    exact ⟨d, d', rx.dp (Ex.refl H) (SeqAt.canLay_of_shaped hz.1), ry.dp (Ex.refl H) (SeqAt.canLay_of_shaped hz.2), hz.1, hz.2, qv _ _ rfl (.bl _)⟩
  · cases hg
/-- is None, is not None -/
def isNone : D → Bool
  | .none => true
  | _ => false
def gIs (neg : Bool) : D → D → Option Got
  | d, .none => some (.v (.bool (neg != isNone d)))
  | _, _ => none
theorem non_dec {K : PySem.W.Frag} {H : Hp} {x : V} {d : D} (r : Rep K H x d) : decide (x = .non) = isNone d := by
  cases r with
  | dK h1 h2 => rfl
  | _ => first | rfl | simp
theorem isN_2 (K : PySem.W.Frag) : Op2 K (fun x y H Q => y = .non ∧ Q (.bl (decide (x = .non))) H) (gIs false) := by
  intro F H x y d d' z Q e hl hl' ht ht' rx ry hg qv ql qt
  unfold gIs at hg
  split at hg
  · cases hg
    refine ⟨rep_non ry, qv _ _ rfl ?_⟩
    rw [non_dec rx, Bool.false_bne]
    exact .bl _
  · cases hg
theorem notN_2 (K : PySem.W.Frag) : Op2 K (fun x y H Q => y = .non ∧ Q (.bl (!decide (x = .non))) H) (gIs true) := by
  intro F H x y d d' z Q e hl hl' ht ht' rx ry hg qv ql qt
  unfold gIs at hg
  split at hg
  · cases hg
    refine ⟨rep_non ry, qv _ _ rfl ?_⟩
    rw [non_dec rx, Bool.true_bne]
    exact .bl _
  · cases hg
/-- order of numbers and texts -/
def sLt (a b : Str) : Bool := decide (a.cps.toList < b.cps.toList)
def gOrd (p : Int → Int → Bool) (q : Str → Str → Bool) : D → D → Option Got
  | .int i, .int j => some (.v (.bool (p i j)))
  | .str a, .str b => some (.v (.bool (q a b)))
  | _, _ => none
theorem ord_2 (K : PySem.W.Frag) {p : Int → Int → Bool} {q : Str → Str → Bool} : Op2 K (fun x y H Q => rI0 (fun i j => .bl (p i j)) x y H Q ∨ ∃ i j, x = .str i ∧ y = .str j ∧ Q (.bl (q i j)) H) (gOrd p q) := by
  intro F H x y d d' z Q e hl hl' ht ht' rx ry hg qv ql qt
  unfold gOrd at hg
  split at hg
  · cases hg
    exact .inl ⟨_, _, rep_int rx, rep_int ry, qv _ _ rfl (.bl _)⟩
  · cases hg
    exact .inr ⟨_, _, rep_str rx, rep_str ry, qv _ _ rfl (.bl _)⟩
  · cases hg
def gLt : D → D → Option Got := gOrd (fun i j => decide (i < j)) (fun a b => decide (a.cps.toList < b.cps.toList))
def gLe : D → D → Option Got := gOrd (fun i j => decide (i ≤ j)) (fun a b => !decide (b.cps.toList < a.cps.toList))
def gGt : D → D → Option Got := gOrd (fun i j => decide (j < i)) (fun a b => decide (b.cps.toList < a.cps.toList))
def gGe : D → D → Option Got := gOrd (fun i j => decide (j ≤ i)) (fun a b => !decide (a.cps.toList < b.cps.toList))
/-- in, over texts and flat things -/
def flatD : D → Bool
  | .none | .bool _ | .int _ | .str _ => true
  | _ => false
def subS (a b : Str) : Bool := !(Builtin.Str.occurrences b a 0 b.length 1).isEmpty
def inD (d : D) (ds : List D) : Bool := ds.any fun y => PyData.eqv y d
def gIn (neg : Bool) : D → D → Option Got
  | .str a, .str b => some (.v (.bool (if neg then !subS a b else subS a b)))
  | d, .list ds => if flatD d = true ∧ ds.all flatD = true then some (.v (.bool (if neg then !inD d ds else inD d ds))) else none
  | d, .tuple ds => if flatD d = true ∧ ds.all flatD = true then some (.v (.bool (if neg then !inD d ds else inD d ds))) else none
  | _, _ => none
theorem rep_flat {K : PySem.W.Frag} {H : Hp} {x : V} {d : D} (r : Rep K H x d) (f : flatD d = true) : flatV x = true := by
  cases r with
  | dK h1 h2 => cases f
  | ro h1 h2 => cases f
  | lst h1 h2 => cases f
  | tup h1 h2 => cases f
  | _ => rfl
theorem rep_flats {K : PySem.W.Frag} {H : Hp} : ∀ {xs : List V} {ds : List D}, RepL K H xs ds → ds.all flatD = true → xs.all flatV = true
  | _, _, .nil, _ => rfl
  | _, _, .cons r t, f => by
    rw [List.all_cons, Bool.and_eq_true] at f
    rw [List.all_cons, rep_flat r f.1, rep_flats t f.2] <;> rfl
theorem eqV_eqv {K : PySem.W.Frag} {H : Hp} {x y : V} {d d' : D} (r : Rep K H x d) (r' : Rep K H y d') (f : flatD d = true) (f' : flatD d' = true) : eqV x y = PyData.eqv d d' := by
  cases r with
  | dK h1 h2 => cases f
  | lst h1 h2 => cases f
  | tup h1 h2 => cases f
  | _ => cases r' with
    | dK h1 h2 => cases f'
    | lst h1 h2 => cases f'
    | tup h1 h2 => cases f'
    | _ => first | rfl | simp [eqV, PyData.eqv]
theorem inV_inD {K : PySem.W.Frag} {H : Hp} {x : V} {d : D} (r : Rep K H x d) (f : flatD d = true) : ∀ {xs : List V} {ds : List D}, RepL K H xs ds → ds.all flatD = true → inV x xs = inD d ds
  | _, _, .nil, _ => rfl
  | _, _, .cons (v := v) (d := e) q t, g => by
    rw [List.all_cons, Bool.and_eq_true] at g
    have h := inV_inD r f t g.2
    unfold inV inD at h ⊢
    rw [List.any_cons, List.any_cons, h, eqV_eqv q r g.1 f]
theorem in_2 (K : PySem.W.Frag) (neg : Bool) : Op2 K (fun x y H Q => (∃ i j, x = .str i ∧ y = .str j ∧ Q (.bl (if neg then !subS i j else subS i j)) H) ∨ rIn K neg x y H Q) (gIn neg) := by
  intro F H x y d d' z Q e hl hl' ht ht' rx ry hg qv ql qt
  unfold gIn at hg
  split at hg
  · cases hg
    exact .inl ⟨_, _, rep_str rx, rep_str ry, qv _ _ rfl (.bl _)⟩
  · split at hg
    · rename_i hz
      cases hg
      obtain ⟨a, xs, e1, h1, r1⟩ := hl' _ rfl
      refine .inr ⟨a, xs, e1, .inl (sl_of h1), rep_flat rx hz.1, rep_flats r1 hz.2, ?_⟩
      rw [inV_inD rx hz.1 (r1.mono e) hz.2]
      exact qv _ _ rfl (.bl _)
    · cases hg
  · split at hg
    · rename_i hz
      cases hg
      obtain ⟨a, xs, e1, h1, r1⟩ := ht' _ rfl
      refine .inr ⟨a, xs, e1, .inr (ex_t e h1), rep_flat rx hz.1, rep_flats r1 hz.2, ?_⟩
      rw [inV_inD rx hz.1 (r1.mono e) hz.2]
      exact qv _ _ rfl (.bl _)
    · cases hg
  · cases hg
section
variable {X : Cx}
theorem op_inU : OpR X (compareOp .In) (fun x y H Q => (∃ i j, x = .str i ∧ y = .str j ∧ Q (.bl (if false = true then !subS i j else subS i j)) H) ∨ rIn X.K false x y H Q) := op_in_str.or op_in_seq
theorem op_niU : OpR X (compareOp .NotIn) (fun x y H Q => (∃ i j, x = .str i ∧ y = .str j ∧ Q (.bl (if true = true then !subS i j else subS i j)) H) ∨ rIn X.K true x y H Q) := op_notin_str.or op_notIn_seq
theorem op_ltU : OpR X (compareOp .Lt) (fun x y H Q => rI0 (fun i j => .bl (decide (i < j))) x y H Q ∨ ∃ i j, x = .str i ∧ y = .str j ∧ Q (.bl (decide (i.cps.toList < j.cps.toList))) H) := op_lt.or op_lt_str
theorem op_leU : OpR X (compareOp .LtE) (fun x y H Q => rI0 (fun i j => .bl (decide (i ≤ j))) x y H Q ∨ ∃ i j, x = .str i ∧ y = .str j ∧ Q (.bl (!decide (j.cps.toList < i.cps.toList))) H) := op_le.or op_le_str
theorem op_gtU : OpR X (compareOp .Gt) (fun x y H Q => rI0 (fun i j => .bl (decide (j < i))) x y H Q ∨ ∃ i j, x = .str i ∧ y = .str j ∧ Q (.bl (decide (j.cps.toList < i.cps.toList))) H) := op_gt.or op_gt_str
theorem op_geU : OpR X (compareOp .GtE) (fun x y H Q => rI0 (fun i j => .bl (decide (j ≤ i))) x y H Q ∨ ∃ i j, x = .str i ∧ y = .str j ∧ Q (.bl (!decide (i.cps.toList < j.cps.toList))) H) := op_ge.or op_ge_str
end
/-- x[i] -/
def gIx : D → D → Option Got
  | .list ds, .int i => (atI ds i).map .v
  | .tuple ds, .int i => (atI ds i).map .v
  | .str z, .int i => if z.length ≤ sizeLine then (atI z.cps.toList i).map fun c => .v (.str ⟨#[c]⟩) else none
  | .dict [(.none, .list ds)], .int i => (atI ds i).bind fun u => match u with
    | .int n => some (.v (.int n))
    | _ => none
  | _, _ => none
theorem rep_ro {K : PySem.W.Frag} {F : Hp} {v : V} {ds : List D} (h : Rep K F v (.dict [(.none, .list ds)])) : ∃ a xs, v = .ref a ∧ SqL K F a xs ∧ RepL K F xs ds := by
  generalize hd : (PyData.dict [(.none, .list ds)] : D) = d at h
  cases h with
  | ro h1 h2 =>
    cases hd
    exact ⟨_, _, rfl, h1, h2⟩
  | dK h1 h2 =>
    rename_i kvs es
    cases es with
    | nil => simp [M.d] at hd
    | cons p r =>
      obtain ⟨k, u⟩ := p
      cases k <;> simp [M.d] at hd
  | _ => cases hd
theorem atI_rep {K : PySem.W.Frag} {F : Hp} {xs : List V} {ds : List D} {i : Int} {d : D} (r : RepL K F xs ds) (h : atI ds i = some d) : ∃ v, atI xs i = some v ∧ Rep K F v d := by
  unfold atI at h ⊢
  rw [r.length]
  cases e : ixN ds.length i with
  | none =>
    rw [e] at h
    cases h
  | some j =>
    rw [e] at h
    exact r.get h
theorem ix_2 (K : PySem.W.Frag) : Op2 K (rIx K) gIx := by
  intro F H x y d d' z Q e hl hl' ht ht' rx ry hg qv ql qt
  unfold gIx at hg
  split at hg
  · rename_i ds i
    cases h : atI ds i with
    | none =>
      rw [h] at hg
      cases hg
    | some u =>
      rw [h] at hg
      cases hg
      obtain ⟨a, xs, e1, h1, r1⟩ := hl _ rfl
      obtain ⟨v, h2, r2⟩ := atI_rep r1 h
      exact .inl ⟨a, xs, i, v, e1, rep_int ry, sl_of h1, h2, qv _ _ rfl r2⟩
  · rename_i ds i
    cases h : atI ds i with
    | none =>
      rw [h] at hg
      cases hg
    | some u =>
      rw [h] at hg
      cases hg
      obtain ⟨a, xs, e1, h1, r1⟩ := ht _ rfl
      obtain ⟨v, h2, r2⟩ := atI_rep r1 h
      exact .inr (.inl ⟨a, xs, i, v, e1, rep_int ry, ex_t e h1, h2, qv _ _ rfl r2⟩)
  · rename_i w i
    split at hg
    · rename_i hz
      cases h : atI w.cps.toList i with
      | none =>
        rw [h] at hg
        cases hg
      | some u =>
        rw [h] at hg
        cases hg
        exact .inr (.inr ⟨w, i, u, rep_str rx, rep_int ry, hz, h, qv _ _ rfl (.str _)⟩)
    · cases hg
  · rename_i ds i
    cases h : atI ds i with
    | none =>
      rw [h] at hg
      cases hg
    | some u =>
      rw [h] at hg
      cases u with
      | int n =>
        cases hg
        obtain ⟨a, xs, e1, h1, r1⟩ := rep_ro rx
        obtain ⟨v, h2, r2⟩ := atI_rep r1 h
        refine .inl ⟨a, xs, i, v, e1, rep_int ry, h1, h2, qv _ _ rfl ?_⟩
        rw [rep_int r2]
        exact .int n
      | _ => cases hg
  · cases hg

/-! ### one-place operations on what is read -/
def e1 (g : D → Option Got) (fa : EM R) : EM R := EM.bind fa fun x => fun ρ => match rd x ρ with
  | some d => (g d).map fun z => (.ok z.r, ρ)
  | _ => none
def Op1 (K : PySem.W.Frag) (r : V → Hp → VK → Prop) (g : D → Option Got) : Prop := ∀ (F H : Hp) (x : V) (d : D) (z : Got) (Q : VK), Ex F H →
  (∀ ds, d = .list ds → ∃ a xs, x = .ref a ∧ H a = some (.lst xs) ∧ RepL K F xs ds) → (∀ ds, d = .tuple ds → ∃ a xs, x = .ref a ∧ SqT K F a xs ∧ RepL K F xs ds) →
  Rep K H x d → g d = some z →
  (∀ u e, z = .v e → Rep K F u e → Q u H) → (∀ ds vs p, z = .l ds → RepL K F vs ds → H p = none → Q (.ref p) (upd H p (.lst vs))) → (∀ ds vs p, z = .v (.tuple ds) → RepL K F vs ds → H p = none → Q (.ref p) (upd H p (.tup vs))) → r x H Q
section
variable {X : Cx} {ex : Str → Addr} {W : WX} {pos : Pos} {e a b c : Expr} {es : List Expr} {fa fb fc : EM R} {fs : EM (List R)}
theorem l_1 {r : V → Hp → VK → Prop} {g : D → Option Got} (o : Op1 X.K r g) {fa : EM R} {σ : L2.St} {H : Hp} {Q : VK} (h : DE ⟨X.K, ex⟩ W (e1 g fa) σ H Q) : tUn r (DE ⟨X.K, ex⟩ W fa) σ H Q := by
  obtain ⟨ρ, F, y, E, e, hr⟩ := h
  refine (split E (Fm.refl σ ρ F H) e hr.err).mono fun v H1 ⟨r1, ρ1, F1, E1, m1, _, rr1, e1⟩ => ?_
  have e1 : (match rd r1 ρ1 with
    | some d => (g d).map fun z => (Except.ok (ε := Exc) z.r, ρ1)
    | _ => none) = some y := e1
  cases h1 : rd r1 ρ1 with
  | none =>
    rw [h1] at e1
    cases e1
  | some d =>
    rw [h1] at e1
    have e1 : (g d).map (fun z => (Except.ok (ε := Exc) z.r, ρ1)) = some y := e1
    cases hg : g d with
    | none =>
      rw [hg] at e1
      cases e1
    | some z =>
      rw [hg] at e1
      cases e1
      refine o F1 H1 v d z Q E1.sub (fun ds q => rd_list E1 rr1 (q ▸ h1)) (fun ds q => rd_tup E1 rr1 (q ▸ h1)) (rd_rep E1 rr1 h1) hg (fun u e q rp => ?_) (fun ds vs p q rp hp => ?_) fun ds vs p q rp hp => ?_
      · subst q
        exact fin_val hr E1 m1 rp
      · subst q
        exact fin_new hr E1 m1 (.lst rp) hp
      · subst q
        exact fin_tup hr E1 m1 rp hp
def gNeg : D → Option Got
  | .int i => some (.v (.int (-i)))
  | _ => none
theorem neg_1 (K : PySem.W.Frag) : Op1 K (rU fun i => .int (-i)) gNeg := by
  intro F H x d z Q e hl ht rx hg qv ql qt
  unfold gNeg at hg
  split at hg
  · cases hg
    exact ⟨_, rep_int rx, qv _ _ rfl (.int _)⟩
  · cases hg
def gLen : D → Option Got
  | .str y => if y.length ≤ sizeLine then some (.v (.int y.length)) else none
  | .list ds => some (.v (.int ds.length))
  | .tuple ds => some (.v (.int ds.length))
  | .dict [(.none, .list ds)] => some (.v (.int ds.length))
  | _ => none
theorem len_1 (K : PySem.W.Frag) : Op1 K (fun x H Q => ∃ x' n, [x] = [x'] ∧ LenV K x' H n ∧ Q (.int n) H) gLen := by
  intro F H x d z Q e hl ht rx hg qv ql qt
  unfold gLen at hg
  split at hg
  · split at hg
    · rename_i hz
      cases hg
      rw [rep_str rx]
      exact ⟨_, _, rfl, ⟨hz, rfl⟩, qv _ _ rfl (.int _)⟩
    · cases hg
  · cases hg
    obtain ⟨a, xs, rfl, h1, r1⟩ := hl _ rfl
    refine ⟨_, _, rfl, .inl ⟨xs, sl_of h1, rfl⟩, ?_⟩
    rw [r1.length]
    exact qv _ _ rfl (.int _)
  · cases hg
    obtain ⟨a, xs, rfl, h1, r1⟩ := ht _ rfl
    refine ⟨_, _, rfl, .inr ⟨xs, ex_t e h1, rfl⟩, ?_⟩
    rw [r1.length]
    exact qv _ _ rfl (.int _)
  · cases hg
    obtain ⟨a, xs, rfl, h1, r1⟩ := rep_ro rx
    refine ⟨_, _, rfl, .inl ⟨xs, h1, rfl⟩, ?_⟩
    rw [r1.length]
    exact qv _ _ rfl (.int _)
  · cases hg
/-- int(x) -/
def gInt : D → Option Got
  | .int i => some (.v (.int i))
  | .bool b => some (.v (.int (if b then 1 else 0)))
  | _ => none
theorem int_1 (K : PySem.W.Frag) : Op1 K (fun x H Q => (∃ i, [x] = [V.int i] ∧ Q (.int i) H) ∨ ∃ k, [x] = [V.bl k] ∧ Q (.int (if k then 1 else 0)) H) gInt := by
  intro F H x d z Q e hl ht rx hg qv ql qt
  unfold gInt at hg
  split at hg
  · cases hg
    rw [rep_int rx]
    exact .inl ⟨_, rfl, qv _ _ rfl (.int _)⟩
  · cases hg
    rw [rep_bl rx]
    exact .inr ⟨_, rfl, qv _ _ rfl (.int _)⟩
  · cases hg
/-- list(x), tuple(x) of lists and tuples -/
def gList : D → Option Got
  | .list ds => some (.l ds)
  | .tuple ds => some (.l ds)
  | _ => none
theorem list_1 (K : PySem.W.Frag) : Op1 K (fun x H Q => ∃ p ys, [x] = [V.ref p] ∧ (SqL K H p ys ∨ SqT K H p ys) ∧ ∀ l, H l = none → Q (.ref l) (upd H l (.lst ys))) gList := by
  intro F H x d z Q e hl ht rx hg qv ql qt
  unfold gList at hg
  split at hg
  · cases hg
    obtain ⟨a, xs, rfl, h1, r1⟩ := hl _ rfl
    exact ⟨a, xs, rfl, .inl (sl_of h1), fun l hl => ql _ _ l rfl r1 hl⟩
  · cases hg
    obtain ⟨a, xs, rfl, h1, r1⟩ := ht _ rfl
    exact ⟨a, xs, rfl, .inr (ex_t e h1), fun l hl => ql _ _ l rfl r1 hl⟩
  · cases hg
def gTuple : D → Option Got
  | .list ds => some (.v (.tuple ds))
  | .tuple ds => some (.v (.tuple ds))
  | _ => none
theorem tuple_1 (K : PySem.W.Frag) : Op1 K (fun x H Q => ∃ p ys, [x] = [V.ref p] ∧ ((SqL K H p ys ∧ ∀ l, H l = none → Q (.ref l) (upd H l (.tup ys))) ∨ (SqT K H p ys ∧ Q (.ref p) H))) gTuple := by
  intro F H x d z Q e hl ht rx hg qv ql qt
  unfold gTuple at hg
  split at hg
  · cases hg
    obtain ⟨a, xs, rfl, h1, r1⟩ := hl _ rfl
    exact ⟨a, xs, rfl, .inl ⟨sl_of h1, fun l hl => qt _ _ l rfl r1 hl⟩⟩
  · cases hg
    obtain ⟨a, xs, rfl, h1, r1⟩ := ht _ rfl
    exact ⟨a, xs, rfl, .inr ⟨ex_t e h1, qv _ _ rfl (.tup h1 r1)⟩⟩
  · cases hg
/-- all, any, sum of a list -/
def boolsD : List D → Option (List Bool)
  | [] => some []
  | .bool b :: r => (boolsD r).map (b :: ·)
  | _ => none
def intsD : List D → Option (List Int)
  | [] => some []
  | .int b :: r => (intsD r).map (b :: ·)
  | _ => none
def strsD : List D → Option (List Str)
  | [] => some []
  | .str b :: r => (strsD r).map (b :: ·)
  | _ => none
theorem bools_rep {K : PySem.W.Frag} {F : Hp} : ∀ {xs : List V} {ds : List D} {bs : List Bool}, RepL K F xs ds → boolsD ds = some bs → xs = bs.map V.bl
  | _, _, _, .nil, h => by
    cases h
    rfl
  | _, d :: ds, bs, .cons q t, h => by
    unfold boolsD at h
    split at h
    · rename_i h0
      cases h0
    · rename_i b r h0
      cases h0
      cases h1 : boolsD ds with
      | none =>
        rw [h1] at h
        cases h
      | some cs =>
        rw [h1] at h
        cases h
        rw [rep_bl q, bools_rep t h1]
        rfl
    · cases h
theorem ints_rep {K : PySem.W.Frag} {F : Hp} : ∀ {xs : List V} {ds : List D} {bs : List Int}, RepL K F xs ds → intsD ds = some bs → xs = bs.map V.int
  | _, _, _, .nil, h => by
    cases h
    rfl
  | _, d :: ds, bs, .cons q t, h => by
    unfold intsD at h
    split at h
    · rename_i h0
      cases h0
    · rename_i b r h0
      cases h0
      cases h1 : intsD ds with
      | none =>
        rw [h1] at h
        cases h
      | some cs =>
        rw [h1] at h
        cases h
        rw [rep_int q, ints_rep t h1]
        rfl
    · cases h
theorem strs_rep {K : PySem.W.Frag} {F : Hp} : ∀ {xs : List V} {ds : List D} {bs : List Str}, RepL K F xs ds → strsD ds = some bs → xs = bs.map V.str
  | _, _, _, .nil, h => by
    cases h
    rfl
  | _, d :: ds, bs, .cons q t, h => by
    unfold strsD at h
    split at h
    · rename_i h0
      cases h0
    · rename_i b r h0
      cases h0
      cases h1 : strsD ds with
      | none =>
        rw [h1] at h
        cases h
      | some cs =>
        rw [h1] at h
        cases h
        rw [rep_str q, strs_rep t h1]
        rfl
    · cases h
def gAll : D → Option Got
  | .list ds => (boolsD ds).map fun bs => .v (.bool (bs.all id))
  | _ => none
theorem all_1 (K : PySem.W.Frag) : Op1 K (fun x H Q => rAll K [x] H Q) gAll := by
  intro F H x d z Q e hl ht rx hg qv ql qt
  unfold gAll at hg
  split at hg
  · rename_i ds
    cases h : boolsD ds with
    | none =>
      rw [h] at hg
      cases hg
    | some bs =>
      rw [h] at hg
      cases hg
      obtain ⟨a, xs, rfl, h1, r1⟩ := hl _ rfl
      rw [bools_rep r1 h] at h1
      exact ⟨a, bs, rfl, sl_of h1, qv _ _ rfl (.bl _)⟩
  · cases hg
def gSum : D → Option Got
  | .list ds => (intsD ds).map fun bs => .v (.int bs.sum)
  | _ => none
theorem sum_1 (K : PySem.W.Frag) : Op1 K (fun x H Q => rSum K [x] H Q) gSum := by
  intro F H x d z Q e hl ht rx hg qv ql qt
  unfold gSum at hg
  split at hg
  · rename_i ds
    cases h : intsD ds with
    | none =>
      rw [h] at hg
      cases hg
    | some bs =>
      rw [h] at hg
      cases hg
      obtain ⟨a, xs, rfl, h1, r1⟩ := hl _ rfl
      rw [ints_rep r1 h] at h1
      exact ⟨a, bs, rfl, sl_of h1, qv _ _ rfl (.int _)⟩
  · cases hg
/-- max(a, b), min(a, b) -/
def gMax2 : D → D → Option Got := gI fun i j => some (if j > i then j else i)
def gMin2 : D → D → Option Got := gI fun i j => some (if j < i then j else i)

/-! ### isinstance -/
def tyD : D → String
  | .none => "NoneType"
  | .bool _ => "bool"
  | .int _ => "int"
  | .str _ => "str"
  | .list _ => "list"
  | .tuple _ => "tuple"
  | .dict _ => "dict"
def isTy (t T : String) : Bool := t == T || (t == "bool" && T == "int")
theorem kit_table : ∀ T ∈ ["bool", "int", "str", "list", "tuple"], ∀ t ∈ ["NoneType", "bool", "int", "str", "list", "tuple", "dict"], kitB t T = some (isTy t T) := by decide +kernel
theorem kit_is {d : D} {T : String} (hT : T ∈ ["bool", "int", "str", "list", "tuple"]) : kitB (tyD d) T = some (isTy (tyD d) T) := kit_table T hT _ (by cases d <;> simp [tyD])
def isDict : D → Bool
  | .dict _ => true
  | _ => false
theorem rep_ty {K : PySem.W.Frag} {H : Hp} {x : V} {d : D} (r : Rep K H x d) (nd : isDict d = false) : TyX K H x (.type (tyD d)) := by
  cases r with
  | ro h1 h2 => cases nd
  | non => exact .base .non
  | bl b => exact .base (.bl b)
  | int i => exact .base (.int i)
  | str x => exact .base (.str x)
  | lst h1 h2 => exact .base (.lst h1)
  | dK h1 h2 => exact .base (.dK h1)
  | tup h1 h2 =>
    rcases h1 with (h | ⟨o, h⟩) | ⟨o, its, n, h, c, _⟩
    · exact .base (.tup h)
    · exact .fTuple h
    · exact .kTuple h c
def gIsi (T : String) (d : D) : Option Got := if isDict d = false then some (.v (.bool (isTy (tyD d) T))) else none
theorem isi_1 (K : PySem.W.Frag) {T : String} (hT : T ∈ ["bool", "int", "str", "list", "tuple"]) : Op1 K (fun x H Q => rIsi K [x, .ty T] H Q) (gIsi T) := by
  intro F H x d z Q e hl ht rx hg qv ql qt
  unfold gIsi at hg
  split at hg
  · rename_i nd
    cases hg
    exact ⟨x, .ty T, .type (tyD d), .type T, _, rfl, .ty T, rep_ty rx nd, kit_ty (kit_is hT), qv _ _ rfl (.bl _)⟩
  · cases hg
end
end LF
end

-- part LFRules4
section
set_option Elab.async false
set_option linter.all false
set_option maxRecDepth 100000
set_option maxHeartbeats 2000000
namespace LF
open PySem PySem.Spec PyProof.Rows L2

/-! ### a def of data -/
def finArg : Slot → Slot → Slot
  | .own _ _, s => s
  | a, _ => a
def finArgs (args ρ' : En) : En := List.zipWith finArg args ρ'
def retOf (args : En) : Except Exc Out × En → Option (Except Exc R × En)
  | (.error e, ρ') => some (.error e, finArgs args ρ')
  | (.ok .nx, ρ') => some (.ok (.val .none), finArgs args ρ')
  | (.ok (.rt (.val d)), ρ') => some (.ok (.val d), finArgs args ρ')
  | (.ok (.rt (.fr m)), ρ') => some (.ok (.fr m), finArgs args ρ')
  | (.ok (.rt (.loc i)), ρ') => match ρ'[i]? with
    | some (.own m .loc) => some (.ok (.fr m), finArgs args ρ')
    | some (.val d) => some (.ok (.val d), finArgs args ρ')
    | _ => none
  | _ => none
/-- n parameters, N names -/
def argOk : Slot → Bool
  | .own _ .loc => false
  | _ => true
def defF (n N : Nat) (body : EM Out) : EM R := fun args => if args.length = n ∧ args.all argOk = true then (body (args ++ List.replicate (N - n) .unb)).bind (retOf args) else none
def spD (C : Ctx) (f : EM R) : Sp := fun vs H Q E => DE C (fun cls d _ H => E cls d H) f (vs.map some) H Q
section
variable {K : PySem.W.Frag} {σ σ' : L2.St} {ρ ρ' : En} {F F' H H' : Hp}
theorem app_get {l : En} {k i : Nat} {s : Slot} (h : (l ++ List.replicate k Slot.unb)[i]? = some s) : l[i]? = some s ∨ s = .unb := by
  by_cases hi : i < l.length
  · rw [List.getElem?_append_left hi] at h
    exact .inl h
  · rw [List.getElem?_append_right (by omega)] at h
    have := List.mem_of_getElem? h
    exact .inr (List.eq_of_mem_replicate this)
theorem start_get {N : List Str} {vs : List V} {i : Nat} (hi : i < vs.length) : (L2.start N vs)[i]? = (vs.map some)[i]? := by
  unfold L2.start
  rw [List.getElem?_append_left (by simpa using hi)]
theorem ER.start {N : List Str} {vs : List V} {args : En} (E : ER K (vs.map some) args F H) (hn : vs.length ≤ N.length) : ER K (L2.start N vs) (args ++ List.replicate (N.length - args.length) .unb) F H := by
  have hl : vs.length = args.length := by
    have := E.len
    simpa using this
  have lt : ∀ {i : Nat} {s : Slot}, args[i]? = some s → i < vs.length := fun h => by
    rw [hl]
    exact (List.getElem?_eq_some_iff.mp h).1
  refine ⟨E.sub, ?_, fun i d e => ?_, fun i m o e => ?_, fun i j m m' o o' a e1 e2 s1 s2 => ?_⟩
  · unfold L2.start
    simp [hl]
  · rcases app_get e with e | e
    · rw [start_get (lt e)]
      exact E.val i d e
    · cases e
  · rcases app_get e with e | e
    · rw [start_get (lt e)]
      exact E.own i m o e
    · cases e
  · rcases app_get e1 with e1 | e
    · rcases app_get e2 with e2 | e
      · rw [start_get (lt e1)] at s1
        rw [start_get (lt e2)] at s2
        exact E.dis i j m m' o o' a e1 e2 s1 s2
      · cases e
    · cases e
theorem fin_get {args ρ' : En} {k : Nat} {s : Slot} (h : (finArgs args ρ')[k]? = some s) : ∃ a t, args[k]? = some a ∧ ρ'[k]? = some t ∧ s = finArg a t := by
  unfold finArgs at h
  rw [List.getElem?_zipWith] at h
  cases h1 : args[k]? with
  | none =>
    rw [h1] at h
    simp at h
  | some a =>
    cases h2 : ρ'[k]? with
    | none =>
      rw [h1, h2] at h
      simp at h
    | some t =>
      rw [h1, h2] at h
      simp at h
      exact ⟨a, t, rfl, rfl, h.symm⟩
/-- no argument is the def's own object -/
def ArgsOk (args : En) : Prop := ∀ (i : Nat) (m : M) (o : Ow), args[i]? = some (.own m o) → o ≠ .loc
theorem fin_own {N : List Str} {vs : List V} {args : En} (E : ER K (vs.map some) args F H) (ao : ArgsOk args) (E' : ER K σ' ρ' F' H') (m : Fm (L2.start N vs) (args ++ List.replicate (N.length - args.length) .unb) F H σ' ρ' F' H') {k : Nat} {mm : M} {o : Ow}
    (h : (finArgs args ρ')[k]? = some (.own mm o)) : ∃ m0, args[k]? = some (.own m0 o) ∧ ρ'[k]? = some (.own mm o) ∧ o ≠ .loc ∧ σ'[k]? = (vs.map some)[k]? ∧ (o = .lck → mm = m0) := by
  obtain ⟨a, t, h1, h2, h3⟩ := fin_get h
  cases a with
  | unb => cases h3
  | val d => cases h3
  | own m0 o0 =>
    have h3 : Slot.own mm o = t := h3
    subst h3
    have hk : k < args.length := (List.getElem?_eq_some_iff.mp h1).1
    have hv : k < vs.length := by
      have := E.len
      simp at this
      omega
    obtain ⟨⟨m', g1, g2⟩, g3⟩ := m.pin k m0 o0 (by rw [List.getElem?_append_left hk]; exact h1) (ao k m0 o0 h1)
    rw [h2] at g1
    injection g1 with g1
    injection g1 with g1 g4
    subst g4
    subst g1
    rw [start_get hv] at g3
    exact ⟨m0, h1, h2, ao k m0 o h1, g3, g2⟩
theorem ret_ok {N : List Str} {vs : List V} {args : En} (E : ER K (vs.map some) args F H) (ao : ArgsOk args) (hn : vs.length ≤ N.length) (E' : ER K σ' ρ' F' H') (m : Fm (L2.start N vs) (args ++ List.replicate (N.length - args.length) .unb) F H σ' ρ' F' H') :
    ER K (vs.map some) (finArgs args ρ') F' H' ∧ Fm (vs.map some) args F H (vs.map some) (finArgs args ρ') F' H' := by
  have hl : vs.length = args.length := by
    have := E.len
    simpa using this
  have hl' : ρ'.length = σ'.length := E'.len.symm
  have ES := E.start hn
  have ow : ∀ a, Owns (vs.map some) (finArgs args ρ') a → Owns σ' ρ' a := by
    rintro a ⟨k, mm, o, h1, h2⟩
    obtain ⟨m0, g1, g2, g3, g4, _⟩ := fin_own E ao E' m h1
    exact ⟨k, mm, o, g2, g4.trans h2⟩
  have os : ∀ a, Owns (L2.start N vs) (args ++ List.replicate (N.length - args.length) .unb) a → Owns (vs.map some) args a := by
    rintro a ⟨k, mm, o, h1, h2⟩
    rcases app_get h1 with h1 | h1
    · have hk : k < vs.length := by
        rw [hl]
        exact (List.getElem?_eq_some_iff.mp h1).1
      rw [start_get hk] at h2
      exact ⟨k, mm, o, h1, h2⟩
    · cases h1
  have ex := m.ex ES
  have pl : ∀ (k : Nat) (m0 : M) (o : Ow), args[k]? = some (.own m0 o) → ∃ m', ρ'[k]? = some (.own m' o) ∧ (o = .lck → m' = m0) := fun k m0 o h => by
    have hk : k < args.length := (List.getElem?_eq_some_iff.mp h).1
    obtain ⟨⟨m', g1, g2⟩, g3⟩ := m.pin k m0 o (by rw [List.getElem?_append_left hk]; exact h) (ao k m0 o h)
    exact ⟨m', g1, g2⟩
  refine ⟨⟨E'.sub, ?_, fun k d e => ?_, fun k mm o e => ?_, fun i j m1 m2 o1 o2 a e1 e2 s1 s2 => ?_⟩, ⟨?_, m.dom, fun a o h n => ?_, fun k mm o h n => ?_, fun k mm a h1 h2 => ?_⟩⟩
  · unfold finArgs
    have hs : args.length ≤ ρ'.length := by
      rw [m.len, List.length_append]
      omega
    rw [List.length_map, List.length_zipWith, hl]
    omega
  · obtain ⟨a, t, h1, h2, h3⟩ := fin_get e
    cases a with
    | unb => cases h3
    | val d' =>
      have h3 : Slot.val d = Slot.val d' := h3
      cases h3
      obtain ⟨v, g1, g2⟩ := E.val k d h1
      exact ⟨v, g1, g2.mono ex⟩
    | own m0 o0 =>
      obtain ⟨m', g1, _⟩ := pl k m0 o0 h1
      rw [h2] at g1
      cases g1
      cases h3
  · obtain ⟨m0, g1, g2, g3, g4, _⟩ := fin_own E ao E' m e
    obtain ⟨a, ho, k1, k2⟩ := E'.own k mm o g2
    exact ⟨a, ho, g4 ▸ k1, k2⟩
  · obtain ⟨_, _, g2, _, g4, _⟩ := fin_own E ao E' m e1
    obtain ⟨_, _, k2, _, k4, _⟩ := fin_own E ao E' m e2
    exact E'.dis i j m1 m2 o1 o2 a g2 k2 (g4.trans s1) (k4.trans s2)
  · unfold finArgs
    have hs : args.length ≤ ρ'.length := by
      rw [m.len, List.length_append]
      omega
    rw [List.length_zipWith]
    omega
  · obtain ⟨k1, k2, k3⟩ := m.keep a o h fun z => n (os a z)
    exact ⟨k1, k2, fun z => k3 (ow a z)⟩
  · obtain ⟨m', g1, g2⟩ := pl k mm o h
    refine ⟨⟨m', ?_, g2⟩, rfl⟩
    unfold finArgs
    rw [List.getElem?_zipWith, h, g1]
    rfl
  · have hk : k < args.length := (List.getElem?_eq_some_iff.mp h1).1
    exact m.lck k mm a (by rw [List.getElem?_append_left hk]; exact h1) (by rw [start_get (by omega)]; exact h2)
end

/-! ### the end of a def -/
theorem def_end {C : Ctx} {n : Nat} {N : List Str} {body : EM Out} {vs : List V} {H : Hp} {Q : VK} {E : XK} (hn : n ≤ N.length) (h : spD C (defF n N.length body) vs H Q E) :
    DS C (fun cls d _ H => E cls d H) body { nx := fun _ H' => Q .non H', rt := Q } (L2.start N vs) H := by
  obtain ⟨args, F, x, ER0, e, hr⟩ := h
  unfold defF at e
  by_cases hl : args.length = n ∧ args.all argOk = true
  · rw [if_pos hl] at e
    have ok : ArgsOk args := fun i m o h z => by
      subst z
      have := List.all_eq_true.mp hl.2 _ (List.mem_of_getElem? h)
      cases this
    replace hl := hl.1
    have hv : vs.length = n := by
      have := ER0.len
      simp at this
      omega
    have hN : vs.length ≤ N.length := by omega
    cases hb : body (args ++ List.replicate (N.length - n) .unb) with
    | none =>
      rw [hb] at e
      cases e
    | some y =>
      rw [hb] at e
      have e : retOf args y = some x := e
      have E1 : ER C.K (L2.start N vs) (args ++ List.replicate (N.length - n) .unb) F H := by
        rw [← hl]
        exact ER0.start hN
      refine ⟨_, F, y, E1, hb, ?_⟩
      rcases y with ⟨y | o, ρ'⟩
      · cases e
        intro cls d σ' F' H' E' m' z
        rw [← hl] at m'
        obtain ⟨g1, g2⟩ := ret_ok ER0 ok hN E' m'
        exact hr cls d F' H' g1 g2 z
      · intro σ' F' H' E' m'
        rw [← hl] at m'
        obtain ⟨g1, g2⟩ := ret_ok ER0 ok hN E' m'
        cases o with
        | nx =>
          cases e
          exact hr .non F' H' g1 g2 .non
        | bk => cases e
        | ct => cases e
        | rt r =>
          intro v rr
          have hfr : ∀ {p : Addr} {ho : HO} {mm : M}, v = .ref p → H p = none → F' p = none → H' p = some ho → MRep C.K F' ho mm → (∀ (k : Nat) (m1 : M) (o1 : Ow), (finArgs args ρ')[k]? = some (.own m1 o1) → (vs.map some)[k]? = some (some (V.ref p)) → False) →
              RR C.K H (vs.map some) (finArgs args ρ') F' H' v (.fr mm) := fun e1 e2 e3 e4 e5 e6 => ⟨_, _, e1, e2, e3, e4, e5, fun ⟨k, m1, o1, k1, k2⟩ => e6 k m1 o1 k1 k2⟩
          cases r with
          | val d =>
            cases e
            exact hr v F' H' g1 g2 rr
          | fr mm =>
            cases e
            obtain ⟨p, ho, e1, e2, e3, e4, e5, e6⟩ := rr
            refine hr v F' H' g1 g2 (hfr e1 e2 e3 e4 e5 fun k m1 o1 k1 k2 => ?_)
            obtain ⟨_, _, q2, _, q4, _⟩ := fin_own ER0 ok E' m' k1
            exact e6 ⟨k, m1, o1, q2, q4.trans k2⟩
          | loc i =>
            have hs : σ'[i]? = some (some v) := rr
            have e : (match ρ'[i]? with
              | some (.own m .loc) => some (Except.ok (ε := Exc) (R.fr m), finArgs args ρ')
              | some (.val d) => some (Except.ok (ε := Exc) (R.val d), finArgs args ρ')
              | _ => none) = some x := e
            cases hi : ρ'[i]? with
            | none =>
              rw [hi] at e
              cases e
            | some s =>
              rw [hi] at e
              cases s with
              | unb => cases e
              | val d =>
                cases e
                obtain ⟨v', k1, k2⟩ := E'.val i d hi
                rw [hs] at k1
                injection k1 with k1
                injection k1 with k1
                subst k1
                exact hr v F' H' g1 g2 k2
              | own mm w =>
                cases w with
                | bor => cases e
                | lck => cases e
                | loc =>
                  cases e
                  obtain ⟨a, ho, k1, k2, k3, k4⟩ := E'.own i mm .loc hi
                  rw [hs] at k1
                  injection k1 with k1
                  injection k1 with k1
                  subst k1
                  have no : ∀ (k : Nat) (m1 : M) (o1 : Ow), (finArgs args ρ')[k]? = some (.own m1 o1) → (vs.map some)[k]? = some (some (V.ref a)) → False := fun k m1 o1 q1 q2 => by
                    obtain ⟨_, _, z2, z3, z4, _⟩ := fin_own ER0 ok E' m' q1
                    have := E'.dis k i m1 mm o1 .loc a z2 hi (z4.trans q2) hs
                    subst this
                    rw [hi] at z2
                    injection z2 with z2
                    injection z2 with _ z2
                    exact z3 z2.symm
                  refine hr _ F' H' g1 g2 (hfr rfl ?_ k2 k3 k4 no)
                  apply Classical.byContradiction
                  intro hne
                  cases ha : H a with
                  | none => exact hne ha
                  | some o' =>
                    by_cases hw : Owns (vs.map some) args a
                    · obtain ⟨k, m0, o0, q1, q2⟩ := hw
                      have hk : k < args.length := (List.getElem?_eq_some_iff.mp q1).1
                      obtain ⟨⟨m3, z1, _⟩, z3⟩ := m'.pin k m0 o0 (by rw [List.getElem?_append_left hk]; exact q1) (ok k m0 o0 q1)
                      rw [start_get (by omega)] at z3
                      have := E'.dis k i m3 mm o0 .loc a z1 hi (z3.trans q2) hs
                      subst this
                      rw [hi] at z1
                      injection z1 with z1
                      injection z1 with _ z1
                      exact ok k m0 o0 q1 z1.symm
                    · exact (m'.keep a o' ha fun ⟨k, m0, o0, q1, q2⟩ => hw (by
                        rcases app_get q1 with q1 | q1
                        · have hk : k < vs.length := by
                            rw [hv, ← hl]
                            exact (List.getElem?_eq_some_iff.mp q1).1
                          rw [start_get hk] at q2
                          exact ⟨k, m0, o0, q1, q2⟩
                        · cases q1)).2.2 ⟨i, mm, .loc, hi, hs⟩
  · rw [if_neg hl] at e
    cases e
end LF
end

-- part LFRules5
section
set_option Elab.async false
set_option linter.all false
set_option maxRecDepth 100000
set_option maxHeartbeats 2000000
namespace LF
open PySem PySem.Spec PyProof.Rows L2

/-! ### the call of a def -/
def bOw : Ow → Ow
  | .lck => .lck
  | _ => .bor
def argSlot : Option Slot → Option Slot
  | some (.val d) => some (.val d)
  | some (.own m o) => some (.own m (bOw o))
  | _ => none
def argOf (ρ : En) : R → Option Slot
  | .val d => some (.val d)
  | .fr m => some (.val m.d)
  | .loc i => argSlot ρ[i]?
def argsOf (ρ : En) : List R → Option En
  | [] => some []
  | r :: rs => (argOf ρ r).bind fun s => (argsOf ρ rs).map (s :: ·)
def locs : List R → List Nat
  | [] => []
  | .loc i :: rs => i :: locs rs
  | _ :: rs => locs rs
def putSlot (ρ : En) (i : Nat) (m : M) : Option Slot → En
  | some (.own _ o) => ρ.set i (.own m o)
  | _ => ρ
def putBack (ρ : En) : List R → En → En
  | .loc i :: rs, .own m _ :: ss => putBack (putSlot ρ i m ρ[i]?) rs ss
  | _ :: rs, _ :: ss => putBack ρ rs ss
  | _, _ => ρ
def callOut (ρ : En) (rs : List R) : Except Exc R × En → Option (Except Exc R × En)
  | (.error e, fin) => some (.error e, putBack ρ rs fin)
  | (.ok (.loc _), _) => none
  | (.ok r, fin) => some (.ok r, putBack ρ rs fin)
def callW (f : EM R) (rs : List R) : EM R := fun ρ => (argsOf ρ rs).bind fun args => if (locs rs).Nodup then (f args).bind (callOut ρ rs) else none
def eCall (f : EM R) (fs : EM (List R)) : EM R := EM.bind fs fun rs => callW f rs

inductive ARel (K : PySem.W.Frag) (σ : L2.St) (ρ : En) (F : Hp) : List V → List R → En → Prop
  | nil : ARel K σ ρ F [] [] []
  | val {v : V} {r : R} {d : D} {vs : List V} {rs : List R} {ss : En} : Rep K F v d → (∀ i, r = .loc i → ∃ d', ρ[i]? = some (.val d')) → ARel K σ ρ F vs rs ss → ARel K σ ρ F (v :: vs) (r :: rs) (.val d :: ss)
  | own {v : V} {i : Nat} {m : M} {o : Ow} {vs : List V} {rs : List R} {ss : En} : ρ[i]? = some (.own m o) → σ[i]? = some (some v) → ARel K σ ρ F vs rs ss → ARel K σ ρ F (v :: vs) (.loc i :: rs) (.own m (bOw o) :: ss)
section
variable {K : PySem.W.Frag} {σ σ' : L2.St} {ρ ρ' ρ0 : En} {F F' F0 F1 H H' H0 : Hp}
theorem ARel.mono (e : Ex F F') : ∀ {vs : List V} {rs : List R} {ss : En}, ARel K σ ρ F vs rs ss → ARel K σ ρ F' vs rs ss
  | _, _, _, .nil => .nil
  | _, _, _, .val h n t => .val (h.mono e) n (ARel.mono e t)
  | _, _, _, .own h n t => .own h n (ARel.mono e t)
theorem ARel.len : ∀ {vs : List V} {rs : List R} {ss : En}, ARel K σ ρ F vs rs ss → vs.length = ss.length
  | _, _, _, .nil => rfl
  | _, _, _, .val _ _ t => by rw [List.length_cons, List.length_cons, ARel.len t]
  | _, _, _, .own _ _ t => by rw [List.length_cons, List.length_cons, ARel.len t]
theorem ARel.getVal : ∀ {vs : List V} {rs : List R} {ss : En} {k : Nat} {d : D}, ARel K σ ρ F vs rs ss → ss[k]? = some (.val d) → ∃ v, vs[k]? = some v ∧ Rep K F v d
  | _, _, _, _, _, .nil, h => by simp at h
  | _, _, _, 0, _, .val r _ _, h => by
    simp at h
    subst h
    exact ⟨_, rfl, r⟩
  | _, _, _, 0, _, .own _ _ _, h => by simp at h
  | _, _, _, k + 1, _, .val _ _ t, h => by
    obtain ⟨v, h1, h2⟩ := ARel.getVal (k := k) t (by simpa using h)
    exact ⟨v, by simpa using h1, h2⟩
  | _, _, _, k + 1, _, .own _ _ t, h => by
    obtain ⟨v, h1, h2⟩ := ARel.getVal (k := k) t (by simpa using h)
    exact ⟨v, by simpa using h1, h2⟩
theorem ARel.getOwn : ∀ {vs : List V} {rs : List R} {ss : En} {k : Nat} {m : M} {o' : Ow}, ARel K σ ρ F vs rs ss → ss[k]? = some (.own m o') → ∃ (v : V) (i : Nat) (o : Ow), vs[k]? = some v ∧ rs[k]? = some (.loc i) ∧ o' = bOw o ∧ ρ[i]? = some (.own m o) ∧ σ[i]? = some (some v)
  | _, _, _, _, _, _, .nil, h => by simp at h
  | _, _, _, 0, _, _, .val r _ _, h => by simp at h
  | _, _, _, 0, _, _, .own (v := v) (i := i) (o := o) h1 h2 _, h => by
    simp at h
    obtain ⟨rfl, rfl⟩ := h
    exact ⟨v, i, o, rfl, rfl, rfl, h1, h2⟩
  | _, _, _, k + 1, _, _, .val _ _ t, h => by
    obtain ⟨v, i, o, h1, h2, h3⟩ := ARel.getOwn (k := k) t (by simpa using h)
    exact ⟨v, i, o, by simpa using h1, by simpa using h2, h3⟩
  | _, _, _, k + 1, _, _, .own _ _ t, h => by
    obtain ⟨v, i, o, h1, h2, h3⟩ := ARel.getOwn (k := k) t (by simpa using h)
    exact ⟨v, i, o, by simpa using h1, by simpa using h2, h3⟩
theorem ARel.atLoc : ∀ {vs : List V} {rs : List R} {ss : En} {k i : Nat} {m : M} {o : Ow}, ARel K σ ρ F vs rs ss → rs[k]? = some (.loc i) → ρ[i]? = some (.own m o) → ss[k]? = some (.own m (bOw o)) ∧ ∃ v, vs[k]? = some v ∧ σ[i]? = some (some v)
  | _, _, _, _, _, _, _, .nil, h, _ => by simp at h
  | _, _, _, 0, _, _, _, .val _ n _, h, q => by
    simp at h
    obtain ⟨d', e⟩ := n _ h
    rw [e] at q
    cases q
  | _, _, _, 0, _, _, _, .own h1 h2 _, h, q => by
    simp at h
    subst h
    rw [h1] at q
    cases q
    exact ⟨rfl, _, rfl, h2⟩
  | _, _, _, k + 1, _, _, _, .val _ _ t, h, q => by
    obtain ⟨h1, v, h2, h3⟩ := ARel.atLoc (k := k) t (by simpa using h) q
    exact ⟨by simpa using h1, v, by simpa using h2, h3⟩
  | _, _, _, k + 1, _, _, _, .own _ _ t, h, q => by
    obtain ⟨h1, v, h2, h3⟩ := ARel.atLoc (k := k) t (by simpa using h) q
    exact ⟨by simpa using h1, v, by simpa using h2, h3⟩
theorem arel_of : ∀ {rs : List R} {vs : List V} {args : En} {F : Hp}, ER K σ ρ F H → Fm σ ρ0 F0 H0 σ ρ F H → RRs K H0 σ ρ F H vs rs → argsOf ρ rs = some args →
    ∃ F', ER K σ ρ F' H ∧ Fm σ ρ0 F0 H0 σ ρ F' H ∧ Ex F F' ∧ ARel K σ ρ F' vs rs args
  | [], vs, args, F, E, m, h, e => by
    cases h
    cases e
    exact ⟨F, E, m, Ex.refl F, .nil⟩
  | r :: rs, vs, args, F, E, m, h, e => by
    cases h with
    | cons h hs n =>
      rename_i v vs
      unfold argsOf at e
      cases ha : argOf ρ r with
      | none =>
        rw [ha] at e
        cases e
      | some s =>
        rw [ha] at e
        have e : (argsOf ρ rs).map (s :: ·) = some args := e
        cases hb : argsOf ρ rs with
        | none =>
          rw [hb] at e
          cases e
        | some ss =>
          rw [hb] at e
          cases e
          cases r with
          | val d =>
            cases ha
            obtain ⟨F', E', m', x, t⟩ := arel_of E m hs hb
            exact ⟨F', E', m', x, .val (Rep.mono x h) (fun i z => by cases z) t⟩
          | fr mm =>
            cases ha
            obtain ⟨d, ρ1, F1, z, Z⟩ := fz_ok (y := (.ok mm.d, ρ)) E m h rfl
            cases z
            obtain ⟨F', E', m', x, t⟩ := arel_of Z.er Z.fm (hs.fz Z n) hb
            exact ⟨F', E', m', Z.ex.trans x, .val (Rep.mono x Z.rep) (fun i z => by cases z) t⟩
          | loc i =>
            have hs' : σ[i]? = some (some v) := h
            have ha : argSlot ρ[i]? = some s := ha
            cases hi : ρ[i]? with
            | none =>
              rw [hi] at ha
              cases ha
            | some w =>
              rw [hi] at ha
              cases w with
              | unb => cases ha
              | val d =>
                cases ha
                obtain ⟨F', E', m', x, t⟩ := arel_of E m hs hb
                obtain ⟨v', k1, k2⟩ := E'.val i d hi
                rw [hs'] at k1
                injection k1 with k1
                injection k1 with k1
                subst k1
                exact ⟨F', E', m', x, .val k2 (fun j z => by cases z; exact ⟨d, hi⟩) t⟩
              | own mm o =>
                cases ha
                obtain ⟨F', E', m', x, t⟩ := arel_of E m hs hb
                exact ⟨F', E', m', x, .own hi hs' t⟩
theorem mem_locs : ∀ {rs : List R} {k i : Nat}, rs[k]? = some (.loc i) → i ∈ locs rs
  | [], k, i, h => by simp at h
  | r :: rs, 0, i, h => by
    simp at h
    subst h
    exact List.mem_cons_self
  | r :: rs, k + 1, i, h => by
    have := mem_locs (rs := rs) (k := k) (i := i) (by simpa using h)
    cases r with
    | loc j => exact List.mem_cons_of_mem _ this
    | _ => exact this
theorem of_locs : ∀ {rs : List R} {i : Nat}, i ∈ locs rs → ∃ k : Nat, rs[k]? = some (.loc i)
  | [], i, h => by simp [locs] at h
  | r :: rs, i, h => by
    cases r with
    | loc j =>
      rcases List.mem_cons.mp h with e | h
      · subst e
        exact ⟨0, rfl⟩
      · obtain ⟨k, q⟩ := of_locs h
        exact ⟨k + 1, by simpa using q⟩
    | val d =>
      obtain ⟨k, q⟩ := of_locs (rs := rs) h
      exact ⟨k + 1, by simpa using q⟩
    | fr d =>
      obtain ⟨k, q⟩ := of_locs (rs := rs) h
      exact ⟨k + 1, by simpa using q⟩
theorem locs_inj : ∀ {rs : List R} {k l i : Nat}, (locs rs).Nodup → rs[k]? = some (.loc i) → rs[l]? = some (.loc i) → k = l
  | [], k, l, i, n, h, h' => by simp at h
  | r :: rs, 0, 0, i, n, h, h' => rfl
  | r :: rs, 0, l + 1, i, n, h, h' => by
    simp at h
    subst h
    have := mem_locs (rs := rs) (k := l) (i := i) (by simpa using h')
    exact absurd this (List.nodup_cons.mp n).1
  | r :: rs, k + 1, 0, i, n, h, h' => by
    simp at h'
    subst h'
    have := mem_locs (rs := rs) (k := k) (i := i) (by simpa using h)
    exact absurd this (List.nodup_cons.mp n).1
  | r :: rs, k + 1, l + 1, i, n, h, h' => by
    have n' : (locs rs).Nodup := by
      cases r with
      | loc j => exact (List.nodup_cons.mp n).2
      | _ => exact n
    rw [locs_inj (rs := rs) (k := k) (l := l) (i := i) n' (by simpa using h) (by simpa using h')]
theorem args_er (E : ER K σ ρ F H) {vs : List V} {rs : List R} {args : En} (A : ARel K σ ρ F vs rs args) (n : (locs rs).Nodup) : ER K (vs.map some) args F H := by
  refine ⟨E.sub, by simpa using A.len, fun k d e => ?_, fun k m o e => ?_, fun k l m m' o o' a e1 e2 s1 s2 => ?_⟩
  · obtain ⟨v, h1, h2⟩ := A.getVal e
    exact ⟨v, by rw [List.getElem?_map, h1] <;> rfl, h2⟩
  · obtain ⟨v, i, o1, h1, h2, h3, h4, h5⟩ := A.getOwn e
    obtain ⟨a, ho, g1, g2⟩ := E.own i m o1 h4
    rw [h5] at g1
    injection g1 with g1
    injection g1 with g1
    subst g1
    exact ⟨a, ho, by rw [List.getElem?_map, h1] <;> rfl, g2⟩
  · obtain ⟨v, i, o1, h1, h2, h3, h4, h5⟩ := A.getOwn e1
    obtain ⟨u, j, o2, g1, g2, g3, g4, g5⟩ := A.getOwn e2
    rw [List.getElem?_map, h1] at s1
    rw [List.getElem?_map, g1] at s2
    have s1 : some (some v) = some (some (V.ref a)) := s1
    have s2 : some (some u) = some (some (V.ref a)) := s2
    rw [s1] at h5
    rw [s2] at g5
    have := E.dis i j m m' o1 o2 a h4 g4 h5 g5
    subst this
    exact locs_inj n h2 g2
theorem ps_len (ρ : En) (i : Nat) (m : M) (s : Option Slot) : (putSlot ρ i m s).length = ρ.length := by
  unfold putSlot
  split <;> simp
theorem pb_len : ∀ (rs : List R) (ss : En) (ρ : En), (putBack ρ rs ss).length = ρ.length
  | [], _, _ => by simp [putBack]
  | r :: rs, [], _ => by
    cases r <;> simp [putBack]
  | r :: rs, s :: ss, ρ => by
    cases r with
    | loc i =>
      cases s with
      | own m o =>
        show (putBack (putSlot ρ i m ρ[i]?) rs ss).length = _
        rw [pb_len, ps_len]
      | _ => exact pb_len rs ss ρ
    | _ => exact pb_len rs ss ρ
theorem ps_ne {i j : Nat} {m : M} (n : j ≠ i) : (putSlot ρ i m ρ[i]?)[j]? = ρ[j]? := by
  unfold putSlot
  split
  · rw [List.getElem?_set_ne (Ne.symm n)]
  · rfl
theorem pb_out : ∀ {rs : List R} {ss ρ : En} {i : Nat}, i ∉ locs rs → (putBack ρ rs ss)[i]? = ρ[i]?
  | [], _, _, _, _ => by simp [putBack]
  | r :: rs, [], _, _, _ => by
    cases r <;> simp [putBack]
  | r :: rs, s :: ss, ρ, i, h => by
    cases r with
    | loc j =>
      have h1 : i ≠ j := fun z => h (z ▸ List.mem_cons_self)
      have h2 : i ∉ locs rs := fun z => h (List.mem_cons_of_mem _ z)
      cases s with
      | own m o =>
        show (putBack (putSlot ρ j m ρ[j]?) rs ss)[i]? = _
        rw [pb_out h2, ps_ne h1]
      | val d => exact pb_out (ρ := ρ) (ss := ss) h2
      | unb => exact pb_out (ρ := ρ) (ss := ss) h2
    | val d => exact pb_out (rs := rs) (ρ := ρ) (ss := ss) h
    | fr d => exact pb_out (rs := rs) (ρ := ρ) (ss := ss) h
theorem pb_at : ∀ {rs : List R} {ss ρ : En} {k i : Nat} {m m' : M} {o o' : Ow}, (locs rs).Nodup → rs[k]? = some (.loc i) → ss[k]? = some (.own m' o') → ρ[i]? = some (.own m o) → (putBack ρ rs ss)[i]? = some (.own m' o)
  | [], _, _, _, _, _, _, _, _, _, h, _, _ => by simp at h
  | r :: rs, [], _, _, _, _, _, _, _, _, _, h, _ => by simp at h
  | r :: rs, s :: ss, ρ, 0, i, m, m', o, o', n, h, h', e => by
    simp at h h'
    subst h
    subst h'
    show (putBack (putSlot ρ i m' ρ[i]?) rs ss)[i]? = _
    rw [pb_out (List.nodup_cons.mp n).1, e]
    show (ρ.set i (.own m' o))[i]? = _
    rw [List.getElem?_set_self (List.getElem?_eq_some_iff.mp e).1]
  | r :: rs, s :: ss, ρ, k + 1, i, m, m', o, o', n, h, h', e => by
    have h1 : rs[k]? = some (.loc i) := by simpa using h
    have h2 : ss[k]? = some (.own m' o') := by simpa using h'
    cases r with
    | loc j =>
      have n2 := List.nodup_cons.mp n
      have hj : i ≠ j := fun z => n2.1 (z ▸ mem_locs h1)
      cases s with
      | own m1 o1 =>
        show (putBack (putSlot ρ j m1 ρ[j]?) rs ss)[i]? = _
        exact pb_at n2.2 h1 h2 (by rw [ps_ne hj]; exact e)
      | val d => exact pb_at (rs := rs) (ρ := ρ) n2.2 h1 h2 e
      | unb => exact pb_at (rs := rs) (ρ := ρ) n2.2 h1 h2 e
    | val d => exact pb_at (rs := rs) (ρ := ρ) n h1 h2 e
    | fr d => exact pb_at (rs := rs) (ρ := ρ) n h1 h2 e
/-- what is no object of its own stays -/
theorem pb_val : ∀ {rs : List R} {ss ρ : En} {i : Nat}, (∀ m o, ρ[i]? ≠ some (.own m o)) → (putBack ρ rs ss)[i]? = ρ[i]?
  | [], _, _, _, _ => by simp [putBack]
  | r :: rs, [], _, _, _ => by
    cases r <;> simp [putBack]
  | r :: rs, s :: ss, ρ, i, h => by
    have keep : ∀ (j : Nat) (m : M), (putSlot ρ j m ρ[j]?)[i]? = ρ[i]? := fun j m => by
      by_cases z : i = j
      · subst z
        cases e : ρ[i]? with
        | none =>
          show ρ[i]? = _
          exact e
        | some t =>
          cases t with
          | own m1 o1 => exact absurd e (h m1 o1)
          | val d => exact e
          | unb => exact e
      · exact ps_ne z
    cases r with
    | loc j =>
      cases s with
      | own m o =>
        show (putBack (putSlot ρ j m ρ[j]?) rs ss)[i]? = _
        rw [pb_val (fun m1 o1 => by rw [keep]; exact h m1 o1), keep]
      | val d => exact pb_val (ρ := ρ) (ss := ss) h
      | unb => exact pb_val (ρ := ρ) (ss := ss) h
    | val d => exact pb_val (rs := rs) (ρ := ρ) (ss := ss) h
    | fr d => exact pb_val (rs := rs) (ρ := ρ) (ss := ss) h
theorem back_ok (E : ER K σ ρ F H) {vs : List V} {rs : List R} {args fin : En} (A : ARel K σ ρ F vs rs args) (n : (locs rs).Nodup) (E' : ER K (vs.map some) fin F' H') (m : Fm (vs.map some) args F H (vs.map some) fin F' H') :
    ER K σ (putBack ρ rs fin) F' H' ∧ Fm σ ρ F H σ (putBack ρ rs fin) F' H' := by
  have EA := args_er E A n
  have ex := m.ex EA
  have nb : ∀ o, bOw o ≠ .loc := fun o => by cases o <;> decide
  -- an object of a slot that isn't handed over
  have out : ∀ (i : Nat) (mm : M) (o : Ow) (a : Addr), ρ[i]? = some (.own mm o) → σ[i]? = some (some (V.ref a)) → i ∉ locs rs → ¬ Owns (vs.map some) args a := by
    rintro i mm o a h1 h2 h3 ⟨k, m1, o1, q1, q2⟩
    obtain ⟨v, j, o2, g1, g2, g3, g4, g5⟩ := A.getOwn q1
    rw [List.getElem?_map, g1] at q2
    have q2 : some (some v) = some (some (V.ref a)) := q2
    rw [q2] at g5
    have := E.dis i j mm m1 o o2 a h1 g4 h2 g5
    subst this
    exact h3 (mem_locs g2)
  have inn : ∀ (i k : Nat) (mm : M) (o : Ow), ρ[i]? = some (.own mm o) → rs[k]? = some (.loc i) → ∃ m' a ho, (putBack ρ rs fin)[i]? = some (.own m' o) ∧ (o = .lck → m' = mm) ∧ σ[i]? = some (some (V.ref a)) ∧ F' a = none ∧ H' a = some ho ∧ MRep K F' ho m' := by
    intro i k mm o h1 h2
    obtain ⟨g1, v, g2, g3⟩ := A.atLoc h2 h1
    obtain ⟨⟨m', k1, k2⟩, k3⟩ := m.pin k mm (bOw o) g1 (nb o)
    obtain ⟨a, ho, z1, z2, z3, z4⟩ := E'.own k m' (bOw o) k1
    rw [List.getElem?_map, g2] at z1
    have z1 : some (some v) = some (some (V.ref a)) := z1
    exact ⟨m', a, ho, pb_at n h2 k1 h1, fun z => k2 (by rw [z]; rfl), g3.trans z1, z2, z3, z4⟩
  -- a slot behind the call
  have sl : ∀ (i : Nat) (mm : M) (o : Ow), (putBack ρ rs fin)[i]? = some (.own mm o) → ∃ m0, ρ[i]? = some (.own m0 o) := by
    intro i mm o h
    cases e : ρ[i]? with
    | none =>
      rw [pb_val (fun m o z => by rw [e] at z; cases z), e] at h
      cases h
    | some t =>
      cases t with
      | unb =>
        rw [pb_val (fun m o z => by rw [e] at z; cases z), e] at h
        cases h
      | val d =>
        rw [pb_val (fun m o z => by rw [e] at z; cases z), e] at h
        cases h
      | own m0 o0 =>
        by_cases z : i ∈ locs rs
        · obtain ⟨k, q⟩ := of_locs z
          obtain ⟨m', a, ho, k1, _⟩ := inn i k m0 o0 e q
          rw [k1] at h
          cases h
          exact ⟨m0, rfl⟩
        · rw [pb_out z, e] at h
          cases h
          exact ⟨_, rfl⟩
  have os : ∀ a, Owns σ (putBack ρ rs fin) a → Owns σ ρ a := by
    rintro a ⟨i, mm, o, h1, h2⟩
    obtain ⟨m0, e⟩ := sl i mm o h1
    exact ⟨i, m0, o, e, h2⟩
  have oa : ∀ a, Owns (vs.map some) args a → Owns σ ρ a := by
    rintro a ⟨k, m1, o1, q1, q2⟩
    obtain ⟨v, j, o2, g1, g2, g3, g4, g5⟩ := A.getOwn q1
    rw [List.getElem?_map, g1] at q2
    have q2 : some (some v) = some (some (V.ref a)) := q2
    exact ⟨j, m1, o2, g4, g5.trans q2⟩
  refine ⟨⟨E'.sub, ?_, fun i d e => ?_, fun i mm o e => ?_, fun i j m1 m2 o1 o2 a e1 e2 s1 s2 => ?_⟩, ⟨pb_len _ _ _, m.dom, fun a o h n => ?_, fun i mm o e no => ?_, fun i mm a e e2 => ?_⟩⟩
  · rw [pb_len]
    exact E.len
  · have e' : ρ[i]? = some (.val d) := by
      cases q : ρ[i]? with
      | none =>
        rw [pb_val (fun m o z => by rw [q] at z; cases z), q] at e
        cases e
      | some t =>
        cases t with
        | own m0 o0 =>
          by_cases z : i ∈ locs rs
          · obtain ⟨k, q'⟩ := of_locs z
            obtain ⟨m', a, ho, k1, _⟩ := inn i k m0 o0 q q'
            rw [k1] at e
            cases e
          · rw [pb_out z, q] at e
            cases e
        | _ =>
          rw [pb_val (fun m o z => by rw [q] at z; cases z), q] at e
          exact e
    obtain ⟨v, h1, h2⟩ := E.val i d e'
    exact ⟨v, h1, h2.mono ex⟩
  · obtain ⟨m0, e0⟩ := sl i mm o e
    by_cases z : i ∈ locs rs
    · obtain ⟨k, q⟩ := of_locs z
      obtain ⟨m', a, ho, k1, _, k2⟩ := inn i k m0 o e0 q
      rw [k1] at e
      cases e
      exact ⟨a, ho, k2⟩
    · rw [pb_out z, e0] at e
      cases e
      obtain ⟨a, ho, g1, g2, g3, g4⟩ := E.own i _ o e0
      obtain ⟨k1, k2, _⟩ := m.keep a ho g3 (out i _ o a e0 g1 z)
      exact ⟨a, ho, g1, k2.trans g2, k1, g4.mono ex⟩
  · obtain ⟨m3, f1⟩ := sl i m1 o1 e1
    obtain ⟨m4, f2⟩ := sl j m2 o2 e2
    exact E.dis i j m3 m4 o1 o2 a f1 f2 s1 s2
  · obtain ⟨k1, k2, _⟩ := m.keep a o h fun z => n (oa a z)
    exact ⟨k1, k2, fun z => n (os a z)⟩
  · by_cases z : i ∈ locs rs
    · obtain ⟨k, q⟩ := of_locs z
      obtain ⟨m', a, ho, k1, k2, _⟩ := inn i k mm o e q
      exact ⟨⟨m', k1, k2⟩, rfl⟩
    · rw [pb_out z]
      exact ⟨⟨mm, e, fun _ => rfl⟩, rfl⟩
  · by_cases z : i ∈ locs rs
    · obtain ⟨k, q⟩ := of_locs z
      obtain ⟨g1, v, g2, g3⟩ := A.atLoc q e
      rw [e2] at g3
      injection g3 with g3
      injection g3 with g3
      subst g3
      exact m.lck k mm a g1 (by rw [List.getElem?_map, g2] <;> rfl)
    · obtain ⟨a', ho, k1, k2, k3, _⟩ := E.own i mm .lck e
      rw [e2] at k1
      injection k1 with k1
      injection k1 with k1
      injection k1 with k1
      subst k1
      rw [(m.keep a ho k3 (out i mm .lck a e e2 z)).1, k3]
end

theorem ExcIs.same {C : Ctx} {cls : Value} {d : Option Addr} {H : Hp} {e : Exc} (h : ExcIs C cls d H e) : ExcIs C cls d H e := h
section
variable {X : Cx} {ex : Str → Addr} {W : WX} {pos : Pos} {e : Expr} {es : List Expr} {fs : EM (List R)} {f : EM R} {k : Nat} {fA : Addr} {fd : FuncData} {ps : List Str} {x : Str} {p : Pos}
theorem call_in {C : Ctx} {σ : L2.St} {H : Hp} {Q : VK} (h : DE C W (eCall f fs) σ H Q) : DA C W fs σ H fun vs H1 => spD C f vs H1 Q (fun cls d H => W cls d σ H) := by
  obtain ⟨ρ, F, y, E, e, hr⟩ := h
  refine (splitA E (Fm.refl σ ρ F H) e hr.err).mono fun vs H1 ⟨rs, ρ1, F1, E1, m1, _, rrs, e1⟩ => ?_
  unfold callW at e1
  cases ha : argsOf ρ1 rs with
  | none =>
    rw [ha] at e1
    cases e1
  | some args =>
    rw [ha] at e1
    have e1 : (if (locs rs).Nodup then (f args).bind (callOut ρ1 rs) else none) = some y := e1
    by_cases n : (locs rs).Nodup
    · rw [if_pos n] at e1
      obtain ⟨F2, E2, m2, x2, A⟩ := arel_of E1 m1 rrs ha
      cases hf : f args with
      | none =>
        rw [hf] at e1
        cases e1
      | some z =>
        rw [hf] at e1
        have e1 : callOut ρ1 rs z = some y := e1
        refine ⟨args, F2, z, args_er E2 A n, hf, ?_⟩
        rcases z with ⟨z | r, fin⟩
        · cases e1
          intro cls d F' H' E' m' q
          obtain ⟨g1, g2⟩ := back_ok E2 A n E' m'
          exact hr cls d F' H' g1 (m2.trans g2) q
        · intro v F' H' E' m' rr
          obtain ⟨g1, g2⟩ := back_ok E2 A n E' m'
          cases r with
          | loc i => cases e1
          | val d =>
            cases e1
            exact hr v F' H' g1 (m2.trans g2) rr
          | fr mm =>
            cases e1
            obtain ⟨q, ho, z1, z2, z3, z4, z5, z6⟩ := rr
            refine hr v F' H' g1 (m2.trans g2) ⟨q, ho, z1, Classical.byContradiction fun w => m1.dom q w z2, z3, z4, z5, ?_⟩
            rintro ⟨i, m3, o3, w1, w2⟩
            obtain ⟨a, ho', u1, u2, u3, _⟩ := g1.own i m3 o3 w1
            rw [w2] at u1
            injection u1 with u1
            injection u1 with u1
            injection u1 with u1
            subst u1
            -- the slot's object stood before the call
            have b := g2.keep
            have : ∃ m0 o0, ρ1[i]? = some (Slot.own m0 o0) := by
              cases e : ρ1[i]? with
              | none =>
                rw [pb_val (fun m o z => by rw [e] at z; cases z), e] at w1
                cases w1
              | some t =>
                cases t with
                | own m0 o0 => exact ⟨m0, o0, rfl⟩
                | _ =>
                  rw [pb_val (fun m o z => by rw [e] at z; cases z), e] at w1
                  cases w1
            obtain ⟨m0, o0, e⟩ := this
            obtain ⟨a', ho2, t1, _, t3, _⟩ := E2.own i m0 o0 e
            rw [w2] at t1
            injection t1 with t1
            injection t1 with t1
            injection t1 with t1
            subst t1
            rw [z2] at t3
            cases t3
    · rw [if_neg n] at e1
      cases e1
theorem l_call (G : FnOk X.prog X.w X.K X.mg X.base (L2.CX X.prog X.w) k fA fd ps (spD ⟨X.K, ex⟩ f)) (hr : Room k X.A) (hm : X.mg x = some (.ref fA)) (hk : PySem.W.keepIn X.K (.ref fA) = true) (hb : Binds X.K fd ps []) (tk : Takes X W)
    (ha : PA X (e :: es) (DA ⟨X.K, ex⟩ W fs)) (hg : Gl X x := by rfl) (hdb : (x == ("__debug__" : Str)) = false := by decide) (he : starEach (e :: es) X.env = (false, eval e X.env) :: starEach es X.env := by rfl) (hpl : (backTo pos (starEach es X.env)).any (·.1) = false := by rfl) :
    PE X (.Call (.Name x p) (e :: es) [] pos) (DE ⟨X.K, ex⟩ W (eCall f fs)) :=
  impE (pe_callS G hr hg hm hk hb (fun σ => passAt tk σ) ha hdb he hpl) fun σ H Q h => call_in h
end
end LF
end

-- part LFRules6
section
set_option Elab.async false
set_option linter.all false
set_option maxRecDepth 100000
set_option maxHeartbeats 2000000
namespace LF
open PySem PySem.Spec PyProof.Rows L2

section
variable {X : Cx} {ex : Str → Addr} {W : WX} {pos : Pos} {e a b c : Expr} {es rest : List Expr} {fa fb fc : EM R} {ba bb : EM Bool} {fs : EM (List R)}
/-! ### expressions by their signs -/
theorem l_bin {op : Operator} {r : R2} {g : D → D → Option Got} (ho : OpR X (binaryOp op) r) (o : Op2 X.K r g) (ha : PE X a (DE ⟨X.K, ex⟩ W fa)) (hb : PE X b (DE ⟨X.K, ex⟩ W fb)) : PE X (.BinOp a op b pos) (DE ⟨X.K, ex⟩ W (e2 g fa fb)) :=
  impE (pe_op ho ha hb) fun _ _ _ h => l_2 (t := fun a _ => a) o h
theorem l_cmp {op : CmpOp} {r : R2} {g : D → D → Option Got} (ho : OpR X (compareOp op) r) (o : Op2 X.K r g) (ha : PE X a (DE ⟨X.K, ex⟩ W fa)) (hb : PE X b (DE ⟨X.K, ex⟩ W fb)) (hm : behindInMarks op b = false := by rfl) : PE X (.Compare a [op] [b] pos) (DE ⟨X.K, ex⟩ W (e2 g fa fb)) :=
  impE (pe_cmpR ho ha hb hm) fun _ _ _ h => l_2 (t := fun a _ => a) o h
theorem l_ix (ha : PE X a (DE ⟨X.K, ex⟩ W fa)) (hb : PE X b (DE ⟨X.K, ex⟩ W fb)) (hs : PlainIx b := by intro _ _; rfl) : PE X (.Subscript a b pos) (DE ⟨X.K, ex⟩ W (e2 gIx fa fb)) :=
  impE (pe_ix ix_seq ha hb hs) fun _ _ _ h => l_2 (t := fun a _ => a) (ix_2 X.K) h
theorem l_un {op : UnaryOp} {r : V → Hp → VK → Prop} {g : D → Option Got} (ho : UnR X (unaryOp op) r) (o : Op1 X.K r g) (ha : PE X a (DE ⟨X.K, ex⟩ W fa)) : PE X (.UnaryOp op a pos) (DE ⟨X.K, ex⟩ W (e1 g fa)) :=
  impE (pe_un ho ha) fun _ _ _ h => l_1 o h
theorem l_callB {x : Str} {id : String} {r : List V → Hp → VK → Prop} {g : D → Option Got} {p : Pos} (hc : CallR X (.builtin id) r) (o : Op1 X.K (fun x H Q => r [x] H Q) g) (hm : X.mg x = none) (hv : bootBuiltins x = some (.builtin id)) (ha : PE X a (DE ⟨X.K, ex⟩ W fa)) (hg : Gl X x := by rfl)
    (hn : x ≠ "__name__" := by decide) (hdb : (x == ("__debug__" : Str)) = false := by decide) (he : starEach (a :: []) X.env = (false, eval a X.env) :: starEach [] X.env := by rfl) (hpl : (backTo pos (starEach [] X.env)).any (·.1) = false := by rfl) : PE X (.Call (.Name x p) [a] [] pos) (DE ⟨X.K, ex⟩ W (e1 g fa)) :=
  impE (pe_callB hc hg hm hv (pa_cons ha pa_nil he) hn hdb he hpl) fun _ _ _ h => l_1 o h
theorem l_callTy {x : Str} {T : String} {r : List V → Hp → VK → Prop} {g : D → Option Got} {p : Pos} (hc : CallR X (.type T) r) (o : Op1 X.K (fun x H Q => r [x] H Q) g) (hm : X.mg x = none) (hv : bootBuiltins x = some (.type T)) (ha : PE X a (DE ⟨X.K, ex⟩ W fa)) (hg : Gl X x := by rfl)
    (hn : x ≠ "__name__" := by decide) (hdb : (x == ("__debug__" : Str)) = false := by decide) (he : starEach (a :: []) X.env = (false, eval a X.env) :: starEach [] X.env := by rfl) (hpl : (backTo pos (starEach [] X.env)).any (·.1) = false := by rfl) : PE X (.Call (.Name x p) [a] [] pos) (DE ⟨X.K, ex⟩ W (e1 g fa)) :=
  impE (pe_callTy hc hg hm hv (pa_cons ha pa_nil he) hn hdb he hpl) fun _ _ _ h => l_1 o h
theorem l_callB2 {x : Str} {id : String} {r : List V → Hp → VK → Prop} {g : D → D → Option Got} {p : Pos} (hc : CallR X (.builtin id) r) (o : Op2 X.K (fun x y H Q => r [x, y] H Q) g) (hm : X.mg x = none) (hv : bootBuiltins x = some (.builtin id)) (ha : PE X a (DE ⟨X.K, ex⟩ W fa)) (hb : PE X b (DE ⟨X.K, ex⟩ W fb)) (hg : Gl X x := by rfl)
    (hn : x ≠ "__name__" := by decide) (hdb : (x == ("__debug__" : Str)) = false := by decide) (hb' : starEach (b :: []) X.env = (false, eval b X.env) :: starEach [] X.env := by rfl) (he : starEach (a :: [b]) X.env = (false, eval a X.env) :: starEach [b] X.env := by rfl) (hpl : (backTo pos (starEach [b] X.env)).any (·.1) = false := by rfl) :
    PE X (.Call (.Name x p) [a, b] [] pos) (DE ⟨X.K, ex⟩ W (e2 g fa fb)) :=
  impE (pe_callB hc hg hm hv (pa_cons ha (pa_cons hb pa_nil hb') he) hn hdb he hpl) fun _ _ _ h => l_2 (t := fun a _ => a) o h
theorem max_2 (K : PySem.W.Frag) : Op2 K (fun x y H Q => ∃ i j, [x, y] = [V.int i, V.int j] ∧ Q (.int (if j > i then j else i)) H) gMax2 := by
  intro F H x y d d' z Q e hl hl' ht ht' rx ry hg qv ql qt
  unfold gMax2 gI at hg
  split at hg
  · cases hg
    rw [rep_int rx, rep_int ry]
    exact ⟨_, _, rfl, qv _ _ rfl (.int _)⟩
  · cases hg
theorem min_2 (K : PySem.W.Frag) : Op2 K (fun x y H Q => ∃ i j, [x, y] = [V.int i, V.int j] ∧ Q (.int (if j < i then j else i)) H) gMin2 := by
  intro F H x y d d' z Q e hl hl' ht ht' rx ry hg qv ql qt
  unfold gMin2 gI at hg
  split at hg
  · cases hg
    rw [rep_int rx, rep_int ry]
    exact ⟨_, _, rfl, qv _ _ rfl (.int _)⟩
  · cases hg
theorem l_isi {T : String} {xT : Str} {p pT : Pos} (hT : T ∈ ["bool", "int", "str", "list", "tuple"]) (hm : X.mg "isinstance" = none) (hmT : X.mg xT = none) (hvT : bootBuiltins xT = some (.type T)) (ha : PE X a (DE ⟨X.K, ex⟩ W fa)) (hg : Gl X "isinstance" := by rfl) (hgT : Gl X xT := by rfl) (hnT : xT ≠ "__name__" := by decide) (hdbT : (xT == ("__debug__" : Str)) = false := by decide)
    (hb' : starEach (.Name xT pT :: []) X.env = (false, eval (.Name xT pT) X.env) :: starEach [] X.env := by rfl) (he : starEach (a :: [.Name xT pT]) X.env = (false, eval a X.env) :: starEach [.Name xT pT] X.env := by rfl) (hpl : (backTo pos (starEach [.Name xT pT] X.env)).any (·.1) = false := by rfl) :
    PE X (.Call (.Name "isinstance" p) [a, .Name xT pT] [] pos) (DE ⟨X.K, ex⟩ W (e1 (gIsi T) fa)) :=
  impE (pe_callB call_isi hg hm (by decide +kernel) (pa_cons ha (pa_cons (pe_bltn (v := .ty T) hgT hmT hvT rfl hnT hdbT) pa_nil hb') he) (by decide) (by decide) he hpl) fun _ _ _ h => l_1 (isi_1 X.K hT) h

/-! ### chains a < b < c -/
def gB : Option Got → Option Bool
  | some (.v (.bool k)) => some k
  | _ => none
def g2R (g : D → D → Option Got) (x y : R) (ρ : En) : Option Got := match rd x ρ, rd y ρ with
  | some d, some d' => g d d'
  | _, _ => none
def eChain (g g' : D → D → Option Got) (fa fb fc : EM R) : EM R := EM.bind fa fun x => EM.bind fb fun y => fun ρ => match gB (g2R g x y ρ) with
  | none => none
  | some false => some (.ok (.val (.bool false)), ρ)
  | some true => EM.bind fc (fun w => fun ρ => (g2R g' y w ρ).map fun z => (.ok z.r, ρ)) ρ
theorem l_2c {r r' : R2} {g g' : D → D → Option Got} (o : Op2 X.K r g) (o' : Op2 X.K r' g') {σ : L2.St} {H : Hp} {Q : VK} (h : DE ⟨X.K, ex⟩ W (eChain g g' fa fb fc) σ H Q) :
    tChain r r' (DE ⟨X.K, ex⟩ W fa) (DE ⟨X.K, ex⟩ W fb) (DE ⟨X.K, ex⟩ W fc) σ H Q := by
  obtain ⟨ρ, F, y, E, e, hr⟩ := h
  refine (split E (Fm.refl σ ρ F H) e hr.err).mono fun v H1 ⟨r1, ρ1, F1, E1, m1, _, rr1, e1⟩ => ?_
  refine (split E1 m1 e1 hr.err).mono fun u H2 ⟨r2, ρ2, F2, E2, m2, m12, rr2, e2⟩ => ?_
  have rr1 := rr1.step E1 m12
  have e2 : (match gB (g2R g r1 r2 ρ2) with
    | none => none
    | some false => some (Except.ok (ε := Exc) (R.val (.bool false)), ρ2)
    | some true => EM.bind fc (fun w => fun ρ => (g2R g' r2 w ρ).map fun z => (Except.ok z.r, ρ)) ρ2) = some y := e2
  cases hz : g2R g r1 r2 ρ2 with
  | none =>
    rw [hz] at e2
    cases e2
  | some z =>
    have hz' := hz
    unfold g2R at hz
    cases h1 : rd r1 ρ2 with
    | none =>
      rw [h1] at hz
      cases hz
    | some d =>
      rw [h1] at hz
      cases h2 : rd r2 ρ2 with
      | none =>
        rw [h2] at hz
        cases hz
      | some d' =>
        rw [h2] at hz
        have hz : g d d' = some z := hz
        cases hk : gB (some z) with
        | none =>
          rw [hz', hk] at e2
          cases e2
        | some k =>
          rw [hz', hk] at e2
          have zk : z = .v (.bool k) := by
            unfold gB at hk
            split at hk
            · rename_i k' q
              injection q with q
              injection hk with hk
              rw [q, hk]
            · cases hk
          subst zk
          refine o F2 H2 v u d d' _ _ E2.sub (fun ds q => rd_list E2 rr1 (q ▸ h1)) (fun ds q => rd_list E2 rr2 (q ▸ h2)) (fun ds q => rd_tup E2 rr1 (q ▸ h1)) (fun ds q => rd_tup E2 rr2 (q ▸ h2)) (rd_rep E2 rr1 h1) (rd_rep E2 rr2 h2) hz (fun uu e q rp => ?_) (fun ds vs p q rp hp => by cases q) fun ds vs p q rp hp => by cases q
          cases q
          rw [rep_bl rp]
          refine ⟨k, rfl, ?_⟩
          cases k with
          | false =>
            cases e2
            show Q (.bl false) H2
            exact fin_val hr E2 m2 (.bl false)
          | true =>
            show DE ⟨X.K, ex⟩ W fc σ H2 fun w' H4 => r' u w' H4 Q
            refine (split E2 m2 e2 hr.err).mono fun w H3 ⟨r3, ρ3, F3, E3, m3, m23, rr3, e3⟩ => ?_
            have rr2 := rr2.step E2 m23
            have e3 : (g2R g' r2 r3 ρ3).map (fun z => (Except.ok (ε := Exc) z.r, ρ3)) = some y := e3
            cases hz3 : g2R g' r2 r3 ρ3 with
            | none =>
              rw [hz3] at e3
              cases e3
            | some z =>
              rw [hz3] at e3
              cases e3
              unfold g2R at hz3
              cases h1 : rd r2 ρ3 with
              | none =>
                rw [h1] at hz3
                cases hz3
              | some d =>
                rw [h1] at hz3
                cases h2 : rd r3 ρ3 with
                | none =>
                  rw [h2] at hz3
                  cases hz3
                | some d' =>
                  rw [h2] at hz3
                  refine o' F3 H3 u w d d' z Q E3.sub (fun ds q => rd_list E3 rr2 (q ▸ h1)) (fun ds q => rd_list E3 rr3 (q ▸ h2)) (fun ds q => rd_tup E3 rr2 (q ▸ h1)) (fun ds q => rd_tup E3 rr3 (q ▸ h2)) (rd_rep E3 rr2 h1) (rd_rep E3 rr3 h2) hz3 (fun u e q rp => ?_) (fun ds vs p q rp hp => ?_) fun ds vs p q rp hp => ?_
                  · subst q
                    exact fin_val hr E3 m3 rp
                  · subst q
                    exact fin_new hr E3 m3 (.lst rp) hp
                  · subst q
                    exact fin_tup hr E3 m3 rp hp
theorem l_chain {op op' : CmpOp} {r r' : R2} {g g' : D → D → Option Got} (ho : OpR X (compareOp op) r) (o : Op2 X.K r g) (ho' : OpR X (compareOp op') r') (o' : Op2 X.K r' g') (ha : PE X a (DE ⟨X.K, ex⟩ W fa)) (hb : PE X b (DE ⟨X.K, ex⟩ W fb)) (hc : PE X c (DE ⟨X.K, ex⟩ W fc))
    (hm : lastMarks [op, op'] [b, c] = false := by with_unfolding_all rfl) : PE X (.Compare a [op, op'] [b, c] pos) (DE ⟨X.K, ex⟩ W (eChain g g' fa fb fc)) := impE (pe_chain ho ho' ha hb hc hm) fun _ _ _ h => l_2c o o' h

/-! ### tests -/
def bOf : R → EM Bool
  | .val (.bool k) => EM.pure k
  | _ => EM.stuck
def tB (f : EM R) : EM Bool := EM.bind f bOf
theorem tb_in {σ : L2.St} {H : Hp} {Q : Bool → Hp → Prop} (h : DT ⟨X.K, ex⟩ W (tB fa) σ H Q) : DE ⟨X.K, ex⟩ W fa σ H fun x H' => ∃ k, x = .bl k ∧ Q k H' := by
  obtain ⟨ρ, F, y, E, e, hr⟩ := h
  refine (split E (Fm.refl σ ρ F H) e hr.err).mono fun v H1 ⟨r1, ρ1, F1, E1, m1, _, rr1, e1⟩ => ?_
  unfold bOf at e1
  split at e1
  · cases e1
    exact ⟨_, rep_bl rr1, hr F1 H1 E1 m1⟩
  · cases e1
theorem l_cmpT {op : CmpOp} {r : R2} {g : D → D → Option Got} (ho : OpR X (compareOp op) r) (o : Op2 X.K r g) (ha : PE X a (DE ⟨X.K, ex⟩ W fa)) (hb : PE X b (DE ⟨X.K, ex⟩ W fb)) (hm : behindInMarks op b = false := by rfl) : PT X (.Compare a [op] [b] pos) (DT ⟨X.K, ex⟩ W (tB (e2 g fa fb))) :=
  impT (pt_cmpR ho ha hb hm) fun _ _ _ h => l_2 (t := fun a _ => a) o (tb_in h)
theorem l_chainT {op op' : CmpOp} {r r' : R2} {g g' : D → D → Option Got} (ho : OpR X (compareOp op) r) (o : Op2 X.K r g) (ho' : OpR X (compareOp op') r') (o' : Op2 X.K r' g') (ha : PE X a (DE ⟨X.K, ex⟩ W fa)) (hb : PE X b (DE ⟨X.K, ex⟩ W fb)) (hc : PE X c (DE ⟨X.K, ex⟩ W fc))
    (hm : lastMarks [op, op'] [b, c] = false := by with_unfolding_all rfl) : PT X (.Compare a [op, op'] [b, c] pos) (DT ⟨X.K, ex⟩ W (tB (eChain g g' fa fb fc))) := impT (pt_chain ho ho' ha hb hc hm) fun _ _ _ h => l_2c o o' (tb_in h)
/-- the truth of anything -/
def gTru : D → Option Bool
  | .none => some false
  | .bool b => some b
  | .int i => some (i != 0)
  | .str y => if y.length ≤ sizeLine then some ((y.length : Int) != 0) else none
  | .list ds => some (!ds.isEmpty)
  | .tuple ds => some (!ds.isEmpty)
  | .dict [] => some false
  | .dict ((.int _, _) :: _) => some true
  | .dict ((.str _, _) :: _) => some true
  | .dict _ => none
def tTru (f : EM R) : EM Bool := EM.bind f fun r => fun ρ => ((rd r ρ).bind gTru).map fun k => (.ok k, ρ)
theorem isEmpty_len {α β : Type} {xs : List α} {ys : List β} (h : xs.length = ys.length) : xs.isEmpty = ys.isEmpty := by
  cases xs <;> cases ys <;> simp_all
theorem repK_len {K : PySem.W.Frag} {F : Hp} : ∀ {vs : List (Key × V)} {ds : List (Key × D)}, RepK K F vs ds → vs.length = ds.length
  | _, _, .nil => rfl
  | _, _, .cons _ r => by rw [List.length_cons, List.length_cons, repK_len r]
theorem tru_rep {K : PySem.W.Frag} {H : Hp} {v : V} {d : D} {k : Bool} (r : Rep K H v d) (h : gTru d = some k) : TruV K v H k := by
  cases r with
  | non =>
    cases h
    rfl
  | bl b =>
    cases h
    rfl
  | int i =>
    cases h
    rfl
  | str x =>
    unfold gTru at h
    dsimp only at h
    split at h
    · cases h
      exact ⟨by assumption, rfl⟩
    · cases h
  | lst h1 h2 =>
    cases h
    exact .inl ⟨_, sl_of h1, by rw [isEmpty_len h2.length]⟩
  | tup h1 h2 =>
    cases h
    exact .inr (.inl ⟨_, h1, by rw [isEmpty_len h2.length]⟩)
  | ro h1 h2 => cases h
  | dK h1 h2 =>
    cases h2 with
    | nil =>
      cases h
      exact .inr (.inr ⟨_, h1, rfl⟩)
    | cons r1 r2 =>
      rename_i key _ _ _ _
      cases key <;> (cases h; exact .inr (.inr ⟨_, h1, rfl⟩))
theorem l_tru (ha : PE X a (DE ⟨X.K, ex⟩ W fa)) (he : ∀ whole, isTrue a X.env whole = (do let v ← whole; standAt a.pos; holding [v] (truthy v)) := by intro _; rfl) : PT X a (DT ⟨X.K, ex⟩ W (tTru fa)) :=
  impT (pt_truth ha he) fun σ H Q h => by
    obtain ⟨ρ, F, y, E, e, hr⟩ := h
    refine (split E (Fm.refl σ ρ F H) e hr.err).mono fun v H1 ⟨r1, ρ1, F1, E1, m1, _, rr1, e1⟩ => ?_
    have e1 : ((rd r1 ρ1).bind gTru).map (fun k => (Except.ok (ε := Exc) k, ρ1)) = some y := e1
    cases h1 : rd r1 ρ1 with
    | none =>
      rw [h1] at e1
      cases e1
    | some d =>
      rw [h1] at e1
      have e1 : (gTru d).map (fun k => (Except.ok (ε := Exc) k, ρ1)) = some y := e1
      cases h2 : gTru d with
      | none =>
        rw [h2] at e1
        cases e1
      | some k =>
        rw [h2] at e1
        cases e1
        exact ⟨k, tru_rep (rd_rep E1 rr1 h1) h2, hr F1 H1 E1 m1⟩
def tAnd (fa fb : EM Bool) : EM Bool := EM.bind fa fun k => if k = true then fb else EM.pure false
def tOr (fa fb : EM Bool) : EM Bool := EM.bind fa fun k => if k = true then EM.pure true else fb
def tNot (fa : EM Bool) : EM Bool := EM.bind fa fun k => EM.pure (!k)
theorem ResT.base {C : Ctx} {σ : L2.St} {ρ ρ1 : En} {F F1 H H1 : Hp} {x : Except Exc Bool × En} {Q : Bool → Hp → Prop} (m : Fm σ ρ F H σ ρ1 F1 H1) (h : ResT C W σ ρ F H x Q) : ResT C W σ ρ1 F1 H1 x Q := by
  rcases x with ⟨x | k, ρ'⟩
  · exact fun cls d F' H' E' m' z => h cls d F' H' E' (m.trans m') z
  · exact fun F' H' E' m' => h F' H' E' (m.trans m')
theorem Res.base {C : Ctx} {σ : L2.St} {ρ ρ1 : En} {F F1 H H1 : Hp} {x : Except Exc R × En} {Q : VK} (m : Fm σ ρ F H σ ρ1 F1 H1) (h : Res C W σ ρ F H x Q) : Res C W σ ρ1 F1 H1 x Q := by
  rcases x with ⟨x | k, ρ'⟩
  · exact fun cls d F' H' E' m' z => h cls d F' H' E' (m.trans m') z
  · exact fun v F' H' E' m' rr => h v F' H' E' (m.trans m') (rr.back m.dom)
theorem l_and1 (h : PT X a (DT ⟨X.K, ex⟩ W ba)) : PW X (.BoolOp .And [a] pos) (DT ⟨X.K, ex⟩ W ba) := pw_and1 h
theorem l_or1 (h : PT X a (DT ⟨X.K, ex⟩ W ba)) : PW X (.BoolOp .Or [a] pos) (DT ⟨X.K, ex⟩ W ba) := pw_or1 h
theorem l_and (ha : PT X a (DT ⟨X.K, ex⟩ W ba)) (hb : PW X (.BoolOp .And (b :: rest) pos) (DT ⟨X.K, ex⟩ W bb)) : PW X (.BoolOp .And (a :: b :: rest) pos) (DT ⟨X.K, ex⟩ W (tAnd ba bb)) :=
  impW (pw_and ha hb) fun σ H Q h => by
    obtain ⟨ρ, F, y, E, e, hr⟩ := h
    refine (splitT E (Fm.refl σ ρ F H) e hr.err).mono fun k H1 ⟨ρ1, F1, E1, m1, e1⟩ => ?_
    cases k with
    | true =>
      show DT ⟨X.K, ex⟩ W bb σ H1 Q
      exact ⟨ρ1, F1, y, E1, e1, hr.base m1⟩
    | false =>
      cases e1
      show Q false H1
      exact hr F1 H1 E1 m1
theorem l_or (ha : PT X a (DT ⟨X.K, ex⟩ W ba)) (hb : PW X (.BoolOp .Or (b :: rest) pos) (DT ⟨X.K, ex⟩ W bb)) : PW X (.BoolOp .Or (a :: b :: rest) pos) (DT ⟨X.K, ex⟩ W (tOr ba bb)) :=
  impW (pw_or ha hb) fun σ H Q h => by
    obtain ⟨ρ, F, y, E, e, hr⟩ := h
    refine (splitT E (Fm.refl σ ρ F H) e hr.err).mono fun k H1 ⟨ρ1, F1, E1, m1, e1⟩ => ?_
    cases k with
    | false =>
      show DT ⟨X.K, ex⟩ W bb σ H1 Q
      exact ⟨ρ1, F1, y, E1, e1, hr.base m1⟩
    | true =>
      cases e1
      show Q true H1
      exact hr F1 H1 E1 m1
theorem l_not (ha : PT X a (DT ⟨X.K, ex⟩ W ba)) : PT X (.UnaryOp .Not a pos) (DT ⟨X.K, ex⟩ W (tNot ba)) :=
  impT (pt_not ha) fun σ H Q h => by
    obtain ⟨ρ, F, y, E, e, hr⟩ := h
    refine (splitT E (Fm.refl σ ρ F H) e hr.err).mono fun k H1 ⟨ρ1, F1, E1, m1, e1⟩ => ?_
    cases e1
    exact hr F1 H1 E1 m1
/-- and, or, not as values -/
def eAnd (fa fb : EM R) : EM R := EM.bind (tB fa) fun k => if k = true then fb else EM.pure (.val (.bool false))
def eOr (fa fb : EM R) : EM R := EM.bind (tB fa) fun k => if k = true then EM.pure (.val (.bool true)) else fb
def eNot (fa : EM R) : EM R := EM.bind (tB fa) fun k => EM.pure (.val (.bool !k))
theorem l_one {op} (h : PE X a (DE ⟨X.K, ex⟩ W fa)) : PE X (.BoolOp op [a] pos) (DE ⟨X.K, ex⟩ W fa) := pe_one h
theorem l_eand (ha : PE X a (DE ⟨X.K, ex⟩ W fa)) (hb : PE X (.BoolOp .And (b :: rest) pos) (DE ⟨X.K, ex⟩ W fb)) : PE X (.BoolOp .And (a :: b :: rest) pos) (DE ⟨X.K, ex⟩ W (eAnd fa fb)) :=
  impE (pe_and ha hb) fun σ H Q h => by
    obtain ⟨ρ, F, y, E, e, hr⟩ := h
    refine (tb_in (splitT E (Fm.refl σ ρ F H) e hr.err)).mono fun v H1 ⟨k, hk, ρ1, F1, E1, m1, e1⟩ => ⟨k, hk, ?_⟩
    cases k with
    | true =>
      show DE ⟨X.K, ex⟩ W fb σ H1 Q
      exact ⟨ρ1, F1, y, E1, e1, hr.base m1⟩
    | false =>
      cases e1
      show Q (.bl false) H1
      exact fin_val hr E1 m1 (.bl false)
theorem l_eor (ha : PE X a (DE ⟨X.K, ex⟩ W fa)) (hb : PE X (.BoolOp .Or (b :: rest) pos) (DE ⟨X.K, ex⟩ W fb)) : PE X (.BoolOp .Or (a :: b :: rest) pos) (DE ⟨X.K, ex⟩ W (eOr fa fb)) :=
  impE (pe_or ha hb) fun σ H Q h => by
    obtain ⟨ρ, F, y, E, e, hr⟩ := h
    refine (tb_in (splitT E (Fm.refl σ ρ F H) e hr.err)).mono fun v H1 ⟨k, hk, ρ1, F1, E1, m1, e1⟩ => ⟨k, hk, ?_⟩
    cases k with
    | false =>
      show DE ⟨X.K, ex⟩ W fb σ H1 Q
      exact ⟨ρ1, F1, y, E1, e1, hr.base m1⟩
    | true =>
      cases e1
      show Q (.bl true) H1
      exact fin_val hr E1 m1 (.bl true)
theorem l_enot (ha : PE X a (DE ⟨X.K, ex⟩ W fa)) : PE X (.UnaryOp .Not a pos) (DE ⟨X.K, ex⟩ W (eNot fa)) :=
  impE (pe_not ha) fun σ H Q h => by
    obtain ⟨ρ, F, y, E, e, hr⟩ := h
    refine (tb_in (splitT E (Fm.refl σ ρ F H) e hr.err)).mono fun v H1 ⟨k, hk, ρ1, F1, E1, m1, e1⟩ => ⟨k, hk, ?_⟩
    cases e1
    exact fin_val hr E1 m1 (.bl _)
def eIf (c : EM Bool) (fa fb : EM R) : EM R := EM.bind c fun k => if k = true then fa else fb
theorem l_if {bc : EM Bool} (hc : PT X c (DT ⟨X.K, ex⟩ W bc)) (ha : PE X a (DE ⟨X.K, ex⟩ W fa)) (hb : PE X b (DE ⟨X.K, ex⟩ W fb)) : PE X (.IfExp c a b pos) (DE ⟨X.K, ex⟩ W (eIf bc fa fb)) :=
  impE (pe_ifExp hc ha hb) fun σ H Q h => by
    obtain ⟨ρ, F, y, E, e, hr⟩ := h
    refine (splitT E (Fm.refl σ ρ F H) e hr.err).mono fun k H1 ⟨ρ1, F1, E1, m1, e1⟩ => ?_
    cases k with
    | true =>
      show DE ⟨X.K, ex⟩ W fa σ H1 Q
      exact ⟨ρ1, F1, y, E1, e1, hr.base m1⟩
    | false =>
      show DE ⟨X.K, ex⟩ W fb σ H1 Q
      exact ⟨ρ1, F1, y, E1, e1, hr.base m1⟩

/-! ### slices -/
def pNone : EM (Option Int) := EM.pure none
def pSome (f : EM R) : EM (Option Int) := EM.bind f fun r => fun ρ => match rd r ρ with
  | some (.int i) => some (.ok (some i), ρ)
  | _ => none
def cutD (xs : List D) (lo hi : Option Int) : List D := (xs.drop (HT.sIx xs.length 0 lo)).take (HT.sIx xs.length xs.length hi - HT.sIx xs.length 0 lo)
def gCut (d : D) (lo hi : Option Int) : Option Got := match d with
  | .list ds => some (.l (cutD ds lo hi))
  | .tuple ds => some (.v (.tuple (cutD ds lo hi)))
  | .str z => if z.length ≤ sizeLine then some (.v (.str (cutS z lo hi))) else none
  | _ => none
def eSl (fa : EM R) (lo hi : EM (Option Int)) : EM R := EM.bind fa fun x => EM.bind lo fun l => EM.bind hi fun h => fun ρ => ((rd x ρ).bind fun d => gCut d l h).map fun z => (.ok z.r, ρ)
def DO (C : Ctx) (W : WX) (f : EM (Option Int)) : TO := fun σ H Q => ∃ ρ F x, ER C.K σ ρ F H ∧ f ρ = some x ∧ match x with
  | (.ok o, ρ') => ∀ F' H', ER C.K σ ρ' F' H' → Fm σ ρ F H σ ρ' F' H' → Q o H'
  | (.error e, ρ') => ∀ cls d F' H', ER C.K σ ρ' F' H' → Fm σ ρ F H σ ρ' F' H' → ExcIs C cls d H' e → W cls d σ H'
theorem DO.mono {C : Ctx} {f : EM (Option Int)} {σ : L2.St} {H : Hp} {Q Q' : Option Int → Hp → Prop} (h : DO C W f σ H Q) (q : ∀ v H', Q v H' → Q' v H') : DO C W f σ H Q' := by
  obtain ⟨ρ, F, x, E, e, hr⟩ := h
  refine ⟨ρ, F, x, E, e, ?_⟩
  rcases x with ⟨x | r, ρ'⟩
  · exact hr
  · exact fun F' H' E' m' => q r H' (hr F' H' E' m')
theorem splitO {C : Ctx} {σ : L2.St} {ρ ρ0 : En} {F F0 H H0 : Hp} {β : Type} {f : EM (Option Int)} {g : Option Int → EM β} {x : Except Exc β × En} (E : ER C.K σ ρ F H) (m : Fm σ ρ0 F0 H0 σ ρ F H) (e : EM.bind f g ρ = some x) (he : ErrOk C W σ ρ0 F0 H0 x) :
    DO C W f σ H fun b H1 => ∃ ρ1 F1, ER C.K σ ρ1 F1 H1 ∧ Fm σ ρ0 F0 H0 σ ρ1 F1 H1 ∧ Fm σ ρ F H σ ρ1 F1 H1 ∧ g b ρ1 = some x := by
  unfold EM.bind at e
  cases hf : f ρ with
  | none =>
    rw [hf] at e
    cases e
  | some y =>
    rw [hf] at e
    refine ⟨ρ, F, y, E, hf, ?_⟩
    rcases y with ⟨y | r, ρ'⟩
    · have e' : x = (.error y, ρ') := by injection e with e; exact e.symm
      exact fun cls d F' H' E' m' z => he y ρ' e' cls d F' H' E' (m.trans m') z
    · exact fun F' H' E' m' => ⟨ρ', F', E', m.trans m', m', e⟩
theorem l_no : PO X none (DO ⟨X.K, ex⟩ W pNone) := by
  refine ⟨fun pins s σ H Q I h => po_none.run pins s σ H Q I ?_⟩
  obtain ⟨ρ, F, y, E, e, hr⟩ := h
  cases e
  exact hr F H E (Fm.refl σ ρ F H)
theorem l_so (ha : PE X a (DE ⟨X.K, ex⟩ W fa)) : PO X (some a) (DO ⟨X.K, ex⟩ W (pSome fa)) := by
  refine ⟨fun pins s σ H Q I h => (po_some ha).run pins s σ H Q I ?_⟩
  obtain ⟨ρ, F, y, E, e, hr⟩ := h
  have he : ErrOk ⟨X.K, ex⟩ W σ ρ F H y := fun e ρ' z cls d F' H' => by
    subst z
    exact hr cls d F' H'
  refine (split E (Fm.refl σ ρ F H) e he).mono fun v H1 ⟨r1, ρ1, F1, E1, m1, _, rr1, e1⟩ => ?_
  have e1 : (match rd r1 ρ1 with
    | some (.int i) => some (Except.ok (ε := Exc) (some i), ρ1)
    | _ => none) = some y := e1
  cases h1 : rd r1 ρ1 with
  | none =>
    rw [h1] at e1
    cases e1
  | some d =>
    rw [h1] at e1
    cases d with
    | int i =>
      cases e1
      exact ⟨i, rd_int E1 rr1 h1, hr F1 H1 E1 m1⟩
    | _ => cases e1
theorem cut_rep {K : PySem.W.Frag} {F : Hp} {xs : List V} {ds : List D} (r : RepL K F xs ds) (lo hi : Option Int) : RepL K F (cutV xs lo hi) (cutD ds lo hi) := by
  unfold cutV cutD
  rw [r.length]
  exact (r.drop _).take _
theorem l_sl {lo hi : Option Expr} {fl fh : EM (Option Int)} {p2 : Pos} (ha : PE X a (DE ⟨X.K, ex⟩ W fa)) (hl : PO X lo (DO ⟨X.K, ex⟩ W fl)) (hh : PO X hi (DO ⟨X.K, ex⟩ W fh)) : PE X (.Subscript a (.Slice lo hi none p2) pos) (DE ⟨X.K, ex⟩ W (eSl fa fl fh)) :=
  impE (pe_slice (sl_list.or (sl_tupA.or sl_str)) ha hl hh) fun σ H Q h => by
    obtain ⟨ρ, F, y, E, e, hr⟩ := h
    refine (split E (Fm.refl σ ρ F H) e hr.err).mono fun v H1 ⟨r1, ρ1, F1, E1, m1, _, rr1, e1⟩ => ?_
    refine (splitO E1 m1 e1 hr.err).mono fun l H2 ⟨ρ2, F2, E2, m2, m12, e2⟩ => ?_
    refine (splitO E2 m2 e2 hr.err).mono fun h H3 ⟨ρ3, F3, E3, m3, m23, e3⟩ => ?_
    have rr1 := (rr1.step E1 m12).step E2 m23
    have e3 : ((rd r1 ρ3).bind fun d => gCut d l h).map (fun z => (Except.ok (ε := Exc) z.r, ρ3)) = some y := e3
    cases h1 : rd r1 ρ3 with
    | none =>
      rw [h1] at e3
      cases e3
    | some d =>
      rw [h1] at e3
      have e3 : (gCut d l h).map (fun z => (Except.ok (ε := Exc) z.r, ρ3)) = some y := e3
      unfold gCut at e3
      split at e3
      · cases e3
        obtain ⟨a, xs, e, k1, k2⟩ := rd_list E3 rr1 h1
        exact .inl ⟨a, xs, e, sl_of k1, fun p hp => fin_new hr E3 m3 (.lst (cut_rep k2 l h)) hp⟩
      · cases e3
        obtain ⟨a, xs, e, k1, k2⟩ := rd_tup E3 rr1 h1
        refine .inr (.inl ⟨a, xs, e, ex_t E3.sub k1, fun z => ?_, fun _ p hp => fin_tup hr E3 m3 (cut_rep k2 l h) hp⟩)
        refine fin_val hr E3 m3 ?_
        have cut : ∀ ds : List D, RepL X.K F3 xs ds → cutD ds l h = ds := fun ds k2 => by
          unfold cutD
          rw [← k2.length, z.1, z.2, Nat.sub_zero, List.drop_zero, k2.length, List.take_length]
        rw [cut _ k2]
        exact .tup k1 k2
      · split at e3
        · cases e3
          exact .inr (.inr ⟨_, rd_str E3 rr1 h1, by assumption, fin_val hr E3 m3 (.str _)⟩)
        · cases e3
      · cases e3
end
end LF
end

-- part LFRules7
section
set_option Elab.async false
set_option linter.all false
set_option maxRecDepth 100000
set_option maxHeartbeats 2000000
namespace LF
open PySem PySem.Spec PyProof.Rows L2

theorem ResS.base {C : Ctx} {W : WX} {σ σ1 : L2.St} {ρ ρ1 : En} {F F1 H H1 : Hp} {x : Except Exc Out × En} {Q : Ends} (m : Fm σ ρ F H σ1 ρ1 F1 H1) (h : ResS C W σ ρ F H x Q) : ResS C W σ1 ρ1 F1 H1 x Q := by
  rcases x with ⟨x | o, ρ'⟩
  · exact fun cls d σ' F' H' E' m' z => h cls d σ' F' H' E' (m.trans m') z
  · intro σ' F' H' E' m'
    have k := h σ' F' H' E' (m.trans m')
    cases o with
    | rt r => exact fun v rr => k v (rr.back m.dom)
    | _ => exact k

section
variable {X : Cx} {ex : Str → Addr} {W : WX} {pos : Pos} {e a b c : Expr} {es rest : List Expr} {fa fb fc : EM R} {bc : EM Bool} {fs : EM (List R)} {s : Stmt} {ss s1 s2 : List Stmt} {f g : EM Out}
/-! ### blocks -/
def sSeq (f g : EM Out) : EM Out := EM.bind f fun o => match o with
  | .nx => g
  | o => EM.pure o
def sNx : EM Out := EM.pure .nx
theorem p_nil : PSs X [] (DS ⟨X.K, ex⟩ W sNx) := impSs pss_nil fun D σ H h => by
  obtain ⟨ρ, F, y, E, e, hr⟩ := h
  cases e
  exact hr σ F H E (Fm.refl σ ρ F H)
theorem p_one (h : PS X s (DS ⟨X.K, ex⟩ W f)) : PSs X [s] (DS ⟨X.K, ex⟩ W f) := pss_one h
theorem p_cons (h : PS X s (DS ⟨X.K, ex⟩ W f)) (hs : PSs X ss (DS ⟨X.K, ex⟩ W g)) : PSs X (s :: ss) (DS ⟨X.K, ex⟩ W (sSeq f g)) := impSs (pss_cons h hs) fun D σ H h => by
  obtain ⟨ρ, F, y, E, e, hr⟩ := h
  unfold sSeq EM.bind at e
  cases hf : f ρ with
  | none =>
    rw [hf] at e
    cases e
  | some z =>
    rw [hf] at e
    refine ⟨ρ, F, z, E, hf, ?_⟩
    rcases z with ⟨z | o, ρ1⟩
    · cases e
      exact hr
    · intro σ' F' H' E' m'
      cases o with
      | nx =>
        have e : g ρ1 = some y := e
        exact ⟨ρ1, F', y, E', e, hr.base m'⟩
      | rt r =>
        cases e
        exact hr σ' F' H' E' m'
      | bk =>
        cases e
        exact hr σ' F' H' E' m'
      | ct =>
        cases e
        exact hr σ' F' H' E' m'
/-! ### storing a name -/
def stVal (i : Nat) (d : D) : En → Option En := fun ρ => if pinned ρ i = true then none else some (ρ.set i (.val d))
def stor (i : Nat) : R → EM Unit
  | .val d => fun ρ => (stVal i d ρ).map fun ρ' => (.ok (), ρ')
  | .fr m => fun ρ => if pinned ρ i = true then none else some (.ok (), ρ.set i (.own m .loc))
  | .loc j => EM.bind (fz (.loc j)) fun d => fun ρ => (stVal i d ρ).map fun ρ' => (.ok (), ρ')
theorem stVal_ok {K : PySem.W.Frag} {σ σ0 : L2.St} {ρ ρ0 ρ' : En} {F F0 H H0 : Hp} {i : Nat} {d : D} {v : V} (E : ER K σ ρ F H) (m : Fm σ0 ρ0 F0 H0 σ ρ F H) (r : Rep K F v d) (e : stVal i d ρ = some ρ') :
    ER K (σ.set i (some v)) ρ' F H ∧ Fm σ0 ρ0 F0 H0 (σ.set i (some v)) ρ' F H ∧ ρ' = ρ.set i (.val d) := by
  unfold stVal at e
  split at e
  · cases e
  · rename_i h
    have h : pinned ρ i = false := by simpa using h
    cases e
    exact ⟨E.setVal (pinned_lt h) r, m.trans (Fm.setVal h), rfl⟩
theorem stor_ok {K : PySem.W.Frag} {σ : L2.St} {ρ ρ0 : En} {F F0 H H0 : Hp} {i : Nat} {r : R} {v : V} {y : Except Exc Unit × En} (E : ER K σ ρ F H) (m : Fm σ ρ0 F0 H0 σ ρ F H) (rr : RR K H0 σ ρ F H v r) (e : stor i r ρ = some y) :
    ∃ ρ' F', y = (.ok (), ρ') ∧ ER K (σ.set i (some v)) ρ' F' H ∧ Fm σ ρ0 F0 H0 (σ.set i (some v)) ρ' F' H := by
  cases r with
  | val d =>
    have e : (stVal i d ρ).map (fun ρ' => (Except.ok (ε := Exc) (), ρ')) = some y := e
    cases h : stVal i d ρ with
    | none =>
      rw [h] at e
      cases e
    | some ρ' =>
      rw [h] at e
      cases e
      obtain ⟨h1, h2, _⟩ := stVal_ok E m rr h
      exact ⟨ρ', F, rfl, h1, h2⟩
  | fr mm =>
    have e : (if pinned ρ i = true then none else some (Except.ok (ε := Exc) (), ρ.set i (.own mm .loc))) = some y := e
    split at e
    · cases e
    · rename_i h
      have h : pinned ρ i = false := by simpa using h
      cases e
      obtain ⟨p, ho, rfl, h0, h1, h2, h3, h4⟩ := rr
      exact ⟨_, F, rfl, E.setOwn (pinned_lt h) h1 h2 h3 h4, Fm.setOwn m h h0⟩
  | loc j =>
    obtain ⟨d, ρ1, F1, Z, e1⟩ := one_in E m rr (show EM.bind (fz (.loc j)) (fun d => fun ρ => (stVal i d ρ).map fun ρ' => (Except.ok (ε := Exc) (), ρ')) ρ = some y from e)
    cases h : stVal i d ρ1 with
    | none =>
      rw [h] at e1
      cases e1
    | some ρ' =>
      rw [h] at e1
      cases e1
      obtain ⟨h1, h2, _⟩ := stVal_ok Z.er Z.fm Z.rep h
      exact ⟨ρ', F1, rfl, h1, h2⟩
def sSet (i : Nat) (f : EM R) : EM Out := EM.bind f fun r => EM.bind (stor i r) fun _ => EM.pure .nx
theorem l_set {i : Nat} {x : Str} {pos' : Pos} (hN : X.N.Nodup) (he : PE X e (DE ⟨X.K, ex⟩ W fa)) (hi : X.N[i]? = some x := by rfl) (hx : Loc X.env.scope x := by first | exact .inl rfl | exact .inr rfl) (hs : swapsWith e (some (.Name x pos')) pos.line X.env = pure false := by rfl)
    (hf : X.fn x = true ∨ X.env.scope.names.lookup x = some .local := by first | exact .inl rfl | exact .inr rfl) : PS X (.Assign [.Name x pos'] e pos) (DS ⟨X.K, ex⟩ W (sSet i fa)) :=
  impS (ps_set hN hi hx he hs hf) fun D σ H h => by
    obtain ⟨ρ, F, y, E, e, hr⟩ := h
    refine (split E (Fm.refl σ ρ F H) e hr.err).mono fun v H1 ⟨r1, ρ1, F1, E1, m1, _, rr1, e1⟩ => ?_
    unfold EM.bind at e1
    cases hs : stor i r1 ρ1 with
    | none =>
      rw [hs] at e1
      cases e1
    | some z =>
      obtain ⟨ρ2, F2, rfl, h1, h2⟩ := stor_ok E1 m1 rr1 hs
      rw [hs] at e1
      cases e1
      exact hr _ F2 H1 h1 h2
/-! ### return, an expression alone, if, pass .. -/
def sRet (f : EM R) : EM Out := EM.bind f fun r => EM.pure (.rt r)
theorem l_ret (he : PE X e (DE ⟨X.K, ex⟩ W fa)) : PS X (.Return (some e) pos) (DS ⟨X.K, ex⟩ W (sRet fa)) := impS (ps_ret he) fun D σ H h => by
  obtain ⟨ρ, F, y, E, e, hr⟩ := h
  refine (split E (Fm.refl σ ρ F H) e hr.err).mono fun v H1 ⟨r1, ρ1, F1, E1, m1, _, rr1, e1⟩ => ?_
  cases e1
  exact hr σ F1 H1 E1 m1 v rr1
def sRetN : EM Out := EM.pure (.rt (.val .none))
theorem l_retN : PS X (.Return none pos) (DS ⟨X.K, ex⟩ W sRetN) := impS ps_retN fun D σ H h => by
  obtain ⟨ρ, F, y, E, e, hr⟩ := h
  cases e
  exact hr σ F H E (Fm.refl σ ρ F H) .non .non
def sExpr (f : EM R) : EM Out := EM.bind f fun _ => EM.pure .nx
theorem l_expr (he : PE X e (DE ⟨X.K, ex⟩ W fa)) (hs : swapsWith e none pos.line X.env = pure false := by rfl) : PS X (.Expr e pos) (DS ⟨X.K, ex⟩ W (sExpr fa)) := impS (ps_expr he hs) fun D σ H h => by
  obtain ⟨ρ, F, y, E, e, hr⟩ := h
  refine (split E (Fm.refl σ ρ F H) e hr.err).mono fun v H1 ⟨r1, ρ1, F1, E1, m1, _, rr1, e1⟩ => ?_
  cases e1
  exact hr σ F1 H1 E1 m1
def sIf (c : EM Bool) (f g : EM Out) : EM Out := EM.bind c fun k => if k = true then f else g
theorem l_ifs (hc : PT X c (DT ⟨X.K, ex⟩ W bc)) (h1 : PSs X s1 (DS ⟨X.K, ex⟩ W f)) (h2 : PSs X s2 (DS ⟨X.K, ex⟩ W g)) : PS X (.If c s1 s2 pos) (DS ⟨X.K, ex⟩ W (sIf bc f g)) := impS (ps_if hc h1 h2) fun D σ H h => by
  obtain ⟨ρ, F, y, E, e, hr⟩ := h
  refine (splitT E (Fm.refl σ ρ F H) e hr.err).mono fun k H1 ⟨ρ1, F1, E1, m1, e1⟩ => ?_
  cases k with
  | true =>
    show DS ⟨X.K, ex⟩ W f D σ H1
    exact ⟨ρ1, F1, y, E1, e1, hr.base m1⟩
  | false =>
    show DS ⟨X.K, ex⟩ W g D σ H1
    exact ⟨ρ1, F1, y, E1, e1, hr.base m1⟩
theorem l_pass : PS X (.Pass pos) (DS ⟨X.K, ex⟩ W sNx) := impS ps_pass fun D σ H h => by
  obtain ⟨ρ, F, y, E, e, hr⟩ := h
  cases e
  exact hr σ F H E (Fm.refl σ ρ F H)
def sBk : EM Out := EM.pure .bk
def sCt : EM Out := EM.pure .ct
theorem l_break : PS X (.Break pos) (DS ⟨X.K, ex⟩ W sBk) := impS ps_break fun D σ H h => by
  obtain ⟨ρ, F, y, E, e, hr⟩ := h
  cases e
  exact hr σ F H E (Fm.refl σ ρ F H)
theorem l_continue : PS X (.Continue pos) (DS ⟨X.K, ex⟩ W sCt) := impS ps_continue fun D σ H h => by
  obtain ⟨ρ, F, y, E, e, hr⟩ := h
  cases e
  exact hr σ F H E (Fm.refl σ ρ F H)
/-! ### raise X('..') -/
def sRaise (x : Exc) : EM Out := EM.raise x
theorem l_raise {C : Addr} {bmB : List Value} {B newId initId : String} {x m : Str} {j : Nat} {p p2 pos2 : Pos} (hc : X.calm = true) (tk : Takes X W) (B0 : ExcBaseFacts B newId initId bmB) (q : PySem.W.excIn X.K C bmB newId = true) (gC : X.mg x = some (.ref C)) (kC : PySem.W.keepIn X.K (.ref C) = true)
    (r : Raises X (.ref C)) (hx : ex x = C) (hg : Gl X x := by rfl) (hdb : (x == ("__debug__" : Str)) = false := by decide) : PS X (.Raise (some (.Call (.Name x p) [.Constant (.str m) j p2] [] pos2)) none pos) (DS ⟨X.K, ex⟩ W (sRaise ⟨x, none⟩)) :=
  impS (ps_raise hc tk (pmk_own B0 q gC kC r hg hdb)) fun D σ H h => by
    obtain ⟨ρ, F, y, E, e, hr⟩ := h
    cases e
    exact hr (.ref C) none σ F H E (Fm.refl σ ρ F H) ⟨by show Value.ref C = .ref (ex x); rw [hx], rfl⟩
end

/-! ### an object of a slot changes -/
section
variable {K : PySem.W.Frag} {σ σ0 : L2.St} {ρ ρ0 : En} {F F0 H H0 : Hp} {i : Nat} {v : V} {m mm : M} {w : Ow} {a : Addr} {o : HO}
theorem ER.chg (E : ER K σ ρ F H) (hi : ρ[i]? = some (.own m w)) (hs : σ[i]? = some (some (.ref a))) (hw : w ≠ .lck) (r : MRep K F o mm) : ER K σ (ρ.set i (.own mm w)) F (upd H a o) := by
  have hF : F a = none := by
    obtain ⟨a', ho, g1, g2, _⟩ := E.own i m w hi
    rw [hs] at g1
    injection g1 with g1
    injection g1 with g1
    injection g1 with g1
    rw [g1]
    exact g2
  refine ⟨fun b u e => ?_, by simp [E.len], fun j d e => ?_, fun j m' w' e => ?_, fun j k m1 m2 o1 o2 b e1 e2 s1 s2 => ?_⟩
  · have n : b ≠ a := fun z => by rw [z, hF] at e; cases e
    rw [upd_ne n]
    exact E.sub b u e
  · rcases get_set e with ⟨rfl, q⟩ | ⟨n, e⟩
    · cases q
    · exact E.val j d e
  · rcases get_set e with ⟨j1, q⟩ | ⟨n, e⟩
    · cases q
      exact ⟨a, o, by rw [j1]; exact hs, hF, upd_same, r⟩
    · obtain ⟨b, ho, g1, g2, g3, g4⟩ := E.own j m' w' e
      have nb : b ≠ a := fun z => n (E.dis j i m' m w' w b e hi g1 (by rw [z]; exact hs))
      exact ⟨b, ho, g1, g2, by rw [upd_ne nb]; exact g3, g4⟩
  · rcases get_set e1 with ⟨j1, q1⟩ | ⟨n1, f1⟩
    · rcases get_set e2 with ⟨j2, q2⟩ | ⟨n2, f2⟩
      · rw [j1, j2]
      · rw [j1] at s1
        exact j1.trans (E.dis i k m m2 w o2 b hi f2 s1 s2)
    · rcases get_set e2 with ⟨j2, q2⟩ | ⟨n2, f2⟩
      · rw [j2] at s2
        exact (E.dis j i m1 m o1 w b f1 hi s1 s2).trans j2.symm
      · exact E.dis j k m1 m2 o1 o2 b f1 f2 s1 s2
theorem Fm.chg (E : ER K σ ρ F H) (hi : ρ[i]? = some (.own m w)) (hs : σ[i]? = some (some (.ref a))) (hw : w ≠ .lck) : Fm σ ρ F H σ (ρ.set i (.own mm w)) F (upd H a o) where
  len := List.length_set
  dom := fun b n => by
    by_cases z : b = a
    · rw [z, upd_same]
      simp
    · rw [upd_ne z]
      exact n
  keep := fun b u e n => by
    have nb : b ≠ a := fun z => n ⟨i, m, w, hi, by rw [z]; exact hs⟩
    refine ⟨by rw [upd_ne nb]; exact e, rfl, fun ⟨j, m', w', h1, h2⟩ => ?_⟩
    rcases get_set h1 with ⟨j1, q⟩ | ⟨n1, h1⟩
    · rw [j1] at h2
      exact n ⟨i, m, w, hi, h2⟩
    · exact n ⟨j, m', w', h1, h2⟩
  pin := fun j m' w' h n => by
    by_cases z : i = j
    · subst z
      rw [hi] at h
      cases h
      exact ⟨⟨mm, by rw [List.getElem?_set_self (List.getElem?_eq_some_iff.mp hi).1], fun z => absurd z hw⟩, rfl⟩
    · exact ⟨⟨m', by rw [List.getElem?_set_ne z]; exact h, fun _ => rfl⟩, rfl⟩
  lck := fun j m' b h1 h2 => by
    have n : b ≠ a := fun z => by
      have := E.dis j i m' m .lck w b h1 hi h2 (by rw [z]; exact hs)
      subst this
      rw [hi] at h1
      injection h1 with h1
      injection h1 with _ h1
      exact hw h1
    exact upd_ne n
end
/-- the list of slot i, where it may be changed -/
def ownL : Option Slot → Option (List D × Ow)
  | some (.own (.lst xs) .loc) => some (xs, .loc)
  | some (.own (.lst xs) .bor) => some (xs, .bor)
  | _ => none
theorem ownL_ok {s : Option Slot} {xs : List D} {w : Ow} (h : ownL s = some (xs, w)) : s = some (.own (.lst xs) w) ∧ w ≠ .lck := by
  unfold ownL at h
  split at h
  · cases h
    exact ⟨rfl, by decide⟩
  · cases h
    exact ⟨rfl, by decide⟩
  · cases h
/-- a method of the list in slot i: arguments' data, old items -> new items, answer -/
def sMeth1 (i : Nat) (g : List D → List D → Option (List D × D)) (fs : EM (List R)) : EM R := EM.bind fs fun rs => EM.bind (fzAll rs) fun ds => fun ρ => (ownL ρ[i]?).bind fun p => (g ds p.1).map fun q => (.ok (.val q.2), ρ.set i (.own (.lst q.1) p.2))
def sMeth (i : Nat) (g : List D → List D → Option (List D × D)) (fs : EM (List R)) : EM R := fun ρ => (ownL ρ[i]?).bind fun _ => sMeth1 i g fs ρ
def MethOk (K : PySem.W.Frag) (r : V → List V → Hp → VK → Prop) (g : List D → List D → Option (List D × D)) : Prop := ∀ (F H : Hp) (l : Addr) (xs vs : List V) (ds args ds' : List D) (d : D) (Q : VK), H l = some (.lst xs) → RepL K F xs ds → RepL K F vs args → g args ds = some (ds', d) →
  (∀ xs' v, RepL K F xs' ds' → Rep K F v d → Q v (upd H l (.lst xs'))) → r (.ref l) vs H Q
section
variable {X : Cx} {ex : Str → Addr} {W : WX} {fs : EM (List R)}
theorem meth_in {i : Nat} {x : V} {r : V → List V → Hp → VK → Prop} {g : List D → List D → Option (List D × D)} (ok : MethOk X.K r g) {σ : L2.St} {H : Hp} {Q : VK} (h : DE ⟨X.K, ex⟩ W (sMeth i g fs) σ H Q) :
    tBM X.K "list" r (L2.tVar i) (DA ⟨X.K, ex⟩ W fs) σ H Q := by
  obtain ⟨ρ, F, y, E, e, hr⟩ := h
  unfold sMeth at e
  cases h0 : ownL ρ[i]? with
  | none =>
    rw [h0] at e
    cases e
  | some p0 =>
    rw [h0] at e
    have e : sMeth1 i g fs ρ = some y := e
    obtain ⟨hi0, _⟩ := ownL_ok (w := p0.2) (xs := p0.1) h0
    obtain ⟨l, ho0, k1, k2, k3, k4⟩ := E.own i _ _ hi0
    refine ⟨.ref l, k1, ?_, ?_⟩
    · cases k4 with
      | lst k4 => exact .inl ⟨rfl, _, sl_of k3⟩
    refine (splitA E (Fm.refl σ ρ F H) e hr.err).mono fun vs H1 ⟨rs, ρ1, F1, E1, m1, _, rrs, e1⟩ => ?_
    obtain ⟨ds, ρ2, F2, E2, m2, r2, e2⟩ := all_in E1 m1 rrs e1
    cases ho : ownL ρ2[i]? with
    | none =>
      rw [ho] at e2
      cases e2
    | some p =>
      obtain ⟨items, w⟩ := p
      rw [ho] at e2
      obtain ⟨hi, hw⟩ := ownL_ok ho
      have e2 : (g ds items).map (fun q => (Except.ok (ε := Exc) (R.val q.2), ρ2.set i (.own (.lst q.1) w))) = some y := e2
      cases hg : g ds items with
      | none =>
        rw [hg] at e2
        cases e2
      | some q =>
        rw [hg] at e2
        cases e2
        obtain ⟨a, ho', g1, g2, g3, g4⟩ := E2.own i (.lst items) w hi
        have z : l = a := by
          rw [k1] at g1
          injection g1 with g1
          injection g1 with g1
          injection g1
        subst z
        cases g4 with
        | lst g4 =>
          refine ok F2 H1 l _ vs items ds q.1 q.2 Q g3 g4 r2 hg fun xs' v r' rv => ?_
          exact fin_val hr (E2.chg hi g1 hw (.lst r')) (m2.trans (Fm.chg E2 hi g1 hw)) rv
def gAppend : List D → List D → Option (List D × D)
  | [d], xs => if xs.length < sizeLine then some (xs ++ [d], .none) else none
  | _, _ => none
theorem append_ok (K : PySem.W.Frag) : MethOk K rAppend gAppend := by
  intro F H l xs vs ds args ds' d Q h r1 r2 hg q
  unfold gAppend at hg
  split at hg
  · split at hg
    · rename_i hz
      cases hg
      cases r2 with
      | cons ra rn =>
        cases rn
        exact ⟨l, xs, _, rfl, rfl, h, by rw [r1.length]; exact hz, q _ _ (r1.append (.one ra)) .non⟩
    · cases hg
  · cases hg
def gPop : List D → List D → Option (List D × D)
  | [], xs => (xs[xs.length - 1]?).map fun d => (xs.dropLast, d)
  | _, _ => none
theorem dropLast_rep {K : PySem.W.Frag} {F : Hp} {xs : List V} {ds : List D} (r : RepL K F xs ds) : RepL K F xs.dropLast ds.dropLast := by
  rw [List.dropLast_eq_take, List.dropLast_eq_take, r.length]
  exact r.take _
theorem pop_ok (K : PySem.W.Frag) : MethOk K rPop gPop := by
  intro F H l xs vs ds args ds' d Q h r1 r2 hg q
  unfold gPop at hg
  split at hg
  · cases r2
    cases hx : ds[ds.length - 1]? with
    | none =>
      rw [hx] at hg
      cases hg
    | some z =>
      rw [hx] at hg
      cases hg
      obtain ⟨v, h1, h2⟩ := r1.get hx
      exact ⟨l, xs, v, rfl, rfl, h, by rw [r1.length]; exact h1, q _ _ (dropLast_rep r1) h2⟩
  · cases hg
def gPopAt : List D → List D → Option (List D × D)
  | [.int i], xs => if 0 ≤ i ∧ i < xs.length ∧ i < 2 ^ 63 then (xs[i.toNat]?).map fun d => (xs.eraseIdx i.toNat, d) else none
  | _, _ => none
theorem seqIx {i : Int} {n : Nat} (h : 0 ≤ i ∧ i < n) : seqIndex? i n = some i.toNat := (ixN_seq (n := n) (i := i) (j := i.toNat) (by unfold ixN; rw [if_pos h.1, if_pos h.2])).1
theorem popAt_ok (K : PySem.W.Frag) : MethOk K rPopAt gPopAt := by
  intro F H l xs vs ds args ds' d Q h r1 r2 hg q
  unfold gPopAt at hg
  split at hg
  · rename_i i
    split at hg
    · rename_i hz
      cases hx : ds[i.toNat]? with
      | none =>
        rw [hx] at hg
        cases hg
      | some z =>
        rw [hx] at hg
        cases hg
        obtain ⟨v, h1, h2⟩ := r1.get hx
        cases r2 with
        | cons ra rn =>
          cases rn
          exact ⟨l, xs, i, i.toNat, v, rfl, by rw [rep_int ra], h, by omega, hz.2.2, by rw [r1.length]; exact seqIx ⟨hz.1, hz.2.1⟩, h1, q _ _ (r1.erase _) h2⟩
    · cases hg
  · cases hg
def gInsert : List D → List D → Option (List D × D)
  | [.int i, d], xs => if xs.length < sizeLine ∧ 0 ≤ i ∧ i < 2 ^ 63 then some (xs.take i.toNat ++ [d] ++ xs.drop i.toNat, .none) else none
  | _, _ => none
def rInsert : V → List V → Hp → VK → Prop := fun x vs H Q => ∃ (l : Addr) (xs : List V) (i : Int) (y : V), x = .ref l ∧ vs = [.int i, y] ∧ H l = some (.lst xs) ∧ xs.length < sizeLine ∧ 0 ≤ i ∧ i < 2 ^ 63 ∧
    Q .non (upd H l (.lst (xs.take i.toNat ++ [y] ++ xs.drop i.toNat)))
theorem insert_ok (K : PySem.W.Frag) : MethOk K rInsert gInsert := by
  intro F H l xs vs ds args ds' d Q h r1 r2 hg q
  unfold gInsert at hg
  split at hg
  · split at hg
    · rename_i hz
      cases hg
      cases r2 with
      | cons ra rn =>
        cases rn with
        | cons rb rn =>
          cases rn
          exact ⟨l, xs, _, _, rfl, by rw [rep_int ra], h, by rw [r1.length]; exact hz.1, hz.2.1, hz.2.2, q _ _ (((r1.take _).append (.one rb)).append (r1.drop _)) .non⟩
    · cases hg
  · cases hg
variable {pos apos p : Pos} {e : Expr} {es : List Expr} {x name : Str} {id : String} {r : V → List V → Hp → VK → Prop} {g : List D → List D → Option (List D × D)}
theorem l_meth {i : Nat} (slot : PySem.Slot "list" name id) (hty : typeOf (.builtin id) = pure (.type "method_descriptor")) (hm : MtR X id r) (ok : MethOk X.K r g) (ha : PA X (e :: es) (DA ⟨X.K, ex⟩ W fs)) (hN : X.N[i]? = some x := by rfl)
    (hv : Vis X.env.scope x := by first | exact Or.inl rfl | exact Or.inr (Or.inl rfl) | exact Or.inr (Or.inr rfl)) (hd : (x == ("__debug__" : Str)) = false := by decide) (hcd : (x == ("__classdict__" : Str)) = false := by decide)
    (hbase : attributeBase (.Name x p) name X.env (eval (.Name x p) X.env) = eval (.Name x p) X.env := by rfl)
    (hfew : ((backTo pos (starEach (e :: es) X.env)).all (fun x => !x.1) && (backToKw pos (keywordEach [] X.env)).all (fun x => x.1.isSome)
      && decide ((e :: es).length + ([] : List Keyword).length + (if ([] : List Keyword).isEmpty then 0 else 1) < 30)) = true := by rfl)
    (hline : (apos.endLine == pos.line) = true := by rfl) (hs : starEach (e :: es) X.env = (false, eval e X.env) :: starEach es X.env := by rfl) (hplain : (backTo pos (starEach es X.env)).any (·.1) = false := by rfl) :
    PE X (.Call (.Attribute (.Name x p) name apos) (e :: es) [] pos) (DE ⟨X.K, ex⟩ W (sMeth i g fs)) :=
  impE (pe_bm PySem.F.plainAttrs_list slot hty hm (pe_var hN hv hd hcd) ha hbase hfew hline hs hplain) fun σ H Q h => meth_in (x := .non) ok h
theorem l_meth0 {i : Nat} (slot : PySem.Slot "list" name id) (hty : typeOf (.builtin id) = pure (.type "method_descriptor")) (hm : MtR X id r) (ok : MethOk X.K r g) (hN : X.N[i]? = some x := by rfl)
    (hv : Vis X.env.scope x := by first | exact Or.inl rfl | exact Or.inr (Or.inl rfl) | exact Or.inr (Or.inr rfl)) (hd : (x == ("__debug__" : Str)) = false := by decide) (hcd : (x == ("__classdict__" : Str)) = false := by decide)
    (hbase : attributeBase (.Name x p) name X.env (eval (.Name x p) X.env) = eval (.Name x p) X.env := by rfl) (hline : (apos.endLine == pos.line) = true := by rfl) :
    PE X (.Call (.Attribute (.Name x p) name apos) [] [] pos) (DE ⟨X.K, ex⟩ W (sMeth i g aNil)) :=
  impE (pe_bm0 PySem.F.plainAttrs_list slot hty hm (pe_var hN hv hd hcd) hbase hline) fun σ H Q h => by
    obtain ⟨v, hv, ty, t⟩ := meth_in (x := .non) ok h
    refine ⟨v, hv, ty, ?_⟩
    obtain ⟨ρ, F, y, E, e, hr⟩ := t
    cases e
    exact hr [] F H E (Fm.refl σ ρ F H) .nil
end
end LF
end

-- part LFRules8
section
set_option Elab.async false
set_option linter.all false
set_option maxRecDepth 100000
set_option maxHeartbeats 2000000
namespace LF
open PySem PySem.Spec PyProof.Rows L2

section
variable {X : Cx} {ex : Str → Addr} {W : WX} {pos pos' p : Pos} {e a b c o : Expr} {es rest : List Expr} {fa fb fc : EM R} {bc : EM Bool} {fs : EM (List R)} {s : Stmt} {ss s1 s2 : List Stmt} {f g : EM Out} {x : Str}
/-! ### xs[i] = e -/
def sSetIx (i : Nat) (fv fi : EM R) : EM Out := EM.bind fv fun r => fun ρ => (ownL ρ[i]?).bind fun _ => EM.bind fi (fun q => fun ρ => match rd q ρ with
  | some (.int k) => EM.bind (fz r) (fun d => fun ρ => (ownL ρ[i]?).bind fun p => (ixN p.1.length k).map fun j => (.ok .nx, ρ.set i (.own (.lst (p.1.set j d)) p.2))) ρ
  | _ => none) ρ
theorem l_setIx {i : Nat} (hv : PE X e (DE ⟨X.K, ex⟩ W fa)) (hi : PE X b (DE ⟨X.K, ex⟩ W fb)) (hN : X.N[i]? = some x := by rfl) (hvis : Vis X.env.scope x := by first | exact Or.inl rfl | exact Or.inr (Or.inl rfl) | exact Or.inr (Or.inr rfl))
    (ha : ∀ v, assign (.Subscript (.Name x p) b pos') X.env v = (do
      let ov ← holding [v] (eval (.Name x p) X.env)
      let iv ← holding [v, ov] (eval b X.env)
      standAt pos'
      holding [v, ov, iv] (setItem ov iv v)
      release [v, ov, iv] []) := by intro _; rfl) (hs : swapsWithSole [.Subscript (.Name x p) b pos'] e pos.line X.env = pure false := by rfl) (hw : swappedStores [.Subscript (.Name x p) b pos'] e X.env = pure none := by rfl)
    (h1 : (assignEach [.Subscript (.Name x p) b pos'] X.env).map (·.2) = [assign (.Subscript (.Name x p) b pos') X.env] := by rfl) (hd : (x == ("__debug__" : Str)) = false := by decide) (hcd : (x == ("__classdict__" : Str)) = false := by decide) :
    PS X (.Assign [.Subscript (.Name x p) b pos'] e pos) (DS ⟨X.K, ex⟩ W (sSetIx i fa fb)) :=
  impS (ps_asg hv (pg_sub (pe_var hN hvis hd hcd) hi set_list ha) hs hw h1) fun D σ H h => by
    obtain ⟨ρ, F, y, E, e, hr⟩ := h
    refine (split E (Fm.refl σ ρ F H) e hr.err).mono fun v H1 ⟨r1, ρ1, F1, E1, m1, _, rr1, e1⟩ => ?_
    cases h0 : ownL ρ1[i]? with
    | none =>
      rw [h0] at e1
      cases e1
    | some p0 =>
      rw [h0] at e1
      obtain ⟨hi0, _⟩ := ownL_ok (w := p0.2) (xs := p0.1) h0
      obtain ⟨l, ho0, k1, k2, k3, k4⟩ := E1.own i _ _ hi0
      refine ⟨.ref l, k1, ?_⟩
      refine (split E1 m1 e1 hr.err).mono fun u H2 ⟨r2, ρ2, F2, E2, m2, m12, rr2, e2⟩ => ?_
      have rr1 := rr1.step E1 m12
      cases hq : rd r2 ρ2 with
      | none =>
        rw [hq] at e2
        cases e2
      | some d =>
        rw [hq] at e2
        cases d with
        | int k =>
          obtain ⟨d, ρ3, F3, Z, e3⟩ := one_in E2 m2 rr1 e2
          cases ho : ownL ρ3[i]? with
          | none =>
            rw [ho] at e3
            cases e3
          | some q =>
            obtain ⟨items, w⟩ := q
            rw [ho] at e3
            obtain ⟨hi, hw⟩ := ownL_ok ho
            have e3 : (ixN items.length k).map (fun j => (Except.ok (ε := Exc) Out.nx, ρ3.set i (.own (.lst (items.set j d)) w))) = some y := e3
            cases hj : ixN items.length k with
            | none =>
              rw [hj] at e3
              cases e3
            | some j =>
              rw [hj] at e3
              cases e3
              obtain ⟨a, ho', g1, g2, g3, g4⟩ := Z.er.own i (.lst items) w hi
              cases g4 with
              | lst g4 =>
                rw [k1] at g1
                injection g1 with g1
                injection g1 with g1
                injection g1 with g1
                subst g1
                refine ⟨l, _, k, j, rfl, rd_int E2 rr2 hq, g3, by rw [g4.length]; exact hj, ?_⟩
                exact hr σ F3 _ (Z.er.chg hi k1 hw (.lst (RepL.set Z.rep j g4))) (Z.fm.trans (Fm.chg Z.er hi k1 hw))
        | _ => cases e2

/-! ### what is walked -/
/-- J yields the data ds as long as S stands -/
structure Feeds (K : PySem.W.Frag) (J : It) (ds : List D) (S : Hp → Hp → Prop) : Prop where
  stop : ∀ F H, Ex F H → S F H → J.stop ds.length H
  go : ∀ i F H, Ex F H → S F H → i < ds.length → J.go i H
  yld : ∀ i F H x H', Ex F H → S F H → i < ds.length → J.yld i H x H' → ∃ d, ds[i]? = some d ∧ ((H' = H ∧ Rep K F x d) ∨ ∃ p vs es, x = .ref p ∧ H p = none ∧ H' = upd H p (.tup vs) ∧ d = .tuple es ∧ RepL K F vs es)
/-- slots that are being walked -/
def lockOne (ρ : En) (i : Nat) : Option Slot → En
  | some (.own m _) => ρ.set i (.own m .lck)
  | _ => ρ
def lockE (ρ : En) : List Nat → En
  | [] => ρ
  | i :: is => lockE (lockOne ρ i ρ[i]?) is
def freeOne (ρ : En) (i : Nat) : Option Slot → Option Slot → En
  | some (.own _ o), some (.own m _) => ρ.set i (.own m o)
  | _, _ => ρ
/-- ρ0: the environment ahead of the walk -/
def freeE (ρ0 ρ : En) : List Nat → En
  | [] => ρ
  | i :: is => freeE ρ0 (freeOne ρ i ρ0[i]? ρ[i]?) is
end
/-- the same but for the kinds of objects -/
def SameK (ρ ρ' : En) : Prop := ρ.length = ρ'.length ∧ ∀ i : Nat, ρ'[i]? = ρ[i]? ∨ ∃ m o o', ρ[i]? = some (.own m o) ∧ ρ'[i]? = some (.own m o')
section
variable {K : PySem.W.Frag} {σ σ' : L2.St} {ρ ρ' ρ0 : En} {F F' F0 H H' H0 : Hp}
theorem SameK.refl (ρ : En) : SameK ρ ρ := ⟨rfl, fun _ => .inl rfl⟩
theorem SameK.trans {ρ'' : En} (a : SameK ρ ρ') (b : SameK ρ' ρ'') : SameK ρ ρ'' := ⟨a.1.trans b.1, fun i => by
  rcases b.2 i with h | ⟨m, o, o', h1, h2⟩
  · rw [h]
    exact a.2 i
  · rcases a.2 i with g | ⟨m', q, q', g1, g2⟩
    · exact .inr ⟨m, o, o', g ▸ h1, h2⟩
    · rw [h1] at g2
      injection g2 with g2
      injection g2 with g2 g3
      subst g2
      exact .inr ⟨m, q, o', g1, h2⟩⟩
theorem SameK.one {i : Nat} {m : M} {o o' : Ow} (h : ρ[i]? = some (.own m o)) : SameK ρ (ρ.set i (.own m o')) := ⟨by simp, fun j => by
  by_cases z : i = j
  · subst z
    exact .inr ⟨m, o, o', h, List.getElem?_set_self (List.getElem?_eq_some_iff.mp h).1⟩
  · exact .inl (List.getElem?_set_ne z)⟩
theorem ER.same (k : SameK ρ ρ') (E : ER K σ ρ F H) : ER K σ ρ' F H := by
  have back : ∀ (i : Nat) (m : M) (o : Ow), ρ'[i]? = some (.own m o) → ∃ o', ρ[i]? = some (.own m o') := fun i m o h => by
    rcases k.2 i with g | ⟨m', q, q', g1, g2⟩
    · exact ⟨o, g ▸ h⟩
    · rw [h] at g2
      injection g2 with g2
      injection g2 with g2 g3
      subst g2
      exact ⟨q, g1⟩
  refine ⟨E.sub, E.len.trans k.1, fun i d e => ?_, fun i m o e => ?_, fun i j m m' o o' a e1 e2 s1 s2 => ?_⟩
  · rcases k.2 i with g | ⟨m', q, q', g1, g2⟩
    · exact E.val i d (g ▸ e)
    · rw [e] at g2
      cases g2
  · obtain ⟨o', h⟩ := back i m o e
    exact E.own i m o' h
  · obtain ⟨_, h1⟩ := back i m o e1
    obtain ⟨_, h2⟩ := back j m' o' e2
    exact E.dis i j m m' _ _ a h1 h2 s1 s2
theorem SameK.owns (k : SameK ρ ρ') {a : Addr} (h : Owns σ ρ' a) : Owns σ ρ a := by
  obtain ⟨i, m, o, h1, h2⟩ := h
  rcases k.2 i with g | ⟨m', q, q', g1, g2⟩
  · exact ⟨i, m, o, g ▸ h1, h2⟩
  · exact ⟨i, m', q, g1, h2⟩
theorem lockOne_same (ρ : En) (i : Nat) : SameK ρ (lockOne ρ i ρ[i]?) := by
  cases h : ρ[i]? with
  | none => exact SameK.refl ρ
  | some s =>
    cases s with
    | own m o => exact SameK.one h
    | _ => exact SameK.refl ρ
theorem lock_same : ∀ (is : List Nat) (ρ : En), SameK ρ (lockE ρ is)
  | [], ρ => SameK.refl ρ
  | i :: is, ρ => (lockOne_same ρ i).trans (lock_same is _)
theorem lock_at : ∀ {is : List Nat} {ρ : En} {i : Nat} {m : M} {o : Ow}, i ∈ is → ρ[i]? = some (.own m o) → (lockE ρ is)[i]? = some (.own m .lck)
  | [], _, _, _, _, h, _ => by simp at h
  | j :: is, ρ, i, m, o, h, e => by
    show (lockE (lockOne ρ j ρ[j]?) is)[i]? = _
    have keep : ∀ (is : List Nat) (ρ : En), ρ[i]? = some (.own m .lck) → (lockE ρ is)[i]? = some (.own m .lck) := by
      intro is
      induction is with
      | nil => exact fun _ h => h
      | cons j is ih =>
        intro ρ h
        refine ih _ ?_
        by_cases z : j = i
        · subst z
          rw [h]
          exact List.getElem?_set_self (List.getElem?_eq_some_iff.mp h).1
        · unfold lockOne
          split
          · rw [List.getElem?_set_ne z]
            exact h
          · exact h
    by_cases z : j = i
    · subst z
      refine keep is _ ?_
      rw [e]
      exact List.getElem?_set_self (List.getElem?_eq_some_iff.mp e).1
    · have hm : i ∈ is := (List.mem_cons.mp h).resolve_left (Ne.symm z)
      refine lock_at hm (o := o) ?_
      unfold lockOne
      split
      · rw [List.getElem?_set_ne z]
        exact e
      · exact e
theorem lock_out : ∀ {is : List Nat} {ρ : En} {i : Nat}, i ∉ is → (lockE ρ is)[i]? = ρ[i]?
  | [], _, _, _ => rfl
  | j :: is, ρ, i, h => by
    show (lockE (lockOne ρ j ρ[j]?) is)[i]? = _
    rw [lock_out fun z => h (List.mem_cons_of_mem _ z)]
    have z : j ≠ i := fun z => h (z ▸ List.mem_cons_self)
    unfold lockOne
    split
    · rw [List.getElem?_set_ne z]
    · rfl
theorem freeOne_same (ρ ρ0 : En) (i : Nat) : SameK ρ (freeOne ρ i ρ0[i]? ρ[i]?) := by
  unfold freeOne
  split
  · rename_i h1 h2
    exact SameK.one h2
  · exact SameK.refl ρ
theorem free_same : ∀ (is : List Nat) (ρ0 ρ : En), SameK ρ (freeE ρ0 ρ is)
  | [], _, ρ => SameK.refl ρ
  | i :: is, ρ0, ρ => (freeOne_same ρ ρ0 i).trans (free_same is ρ0 _)
theorem free_out : ∀ {is : List Nat} {ρ0 ρ : En} {i : Nat}, i ∉ is → (freeE ρ0 ρ is)[i]? = ρ[i]?
  | [], _, _, _, _ => rfl
  | j :: is, ρ0, ρ, i, h => by
    show (freeE ρ0 (freeOne ρ j ρ0[j]? ρ[j]?) is)[i]? = _
    rw [free_out fun z => h (List.mem_cons_of_mem _ z)]
    have z : j ≠ i := fun z => h (z ▸ List.mem_cons_self)
    unfold freeOne
    split
    · rw [List.getElem?_set_ne z]
    · rfl
theorem free_at : ∀ {is : List Nat} {ρ0 ρ : En} {i : Nat} {m m0 : M} {o o' : Ow}, i ∈ is → ρ0[i]? = some (.own m0 o) → ρ[i]? = some (.own m o') → (freeE ρ0 ρ is)[i]? = some (.own m o)
  | [], _, _, _, _, _, _, _, h, _, _ => by simp at h
  | j :: is, ρ0, ρ, i, m, m0, o, o', h, h0, h1 => by
    show (freeE ρ0 (freeOne ρ j ρ0[j]? ρ[j]?) is)[i]? = _
    by_cases z : j = i
    · subst z
      by_cases hm : j ∈ is
      · refine free_at (o' := o) hm h0 ?_
        rw [h0, h1]
        exact List.getElem?_set_self (List.getElem?_eq_some_iff.mp h1).1
      · rw [free_out hm, h0, h1]
        exact List.getElem?_set_self (List.getElem?_eq_some_iff.mp h1).1
    · have hm : i ∈ is := (List.mem_cons.mp h).resolve_left (Ne.symm z)
      refine free_at hm h0 (o' := o') ?_
      unfold freeOne
      split
      · rw [List.getElem?_set_ne z]
        exact h1
      · exact h1
/-- behind a walk -/
theorem Fm.free {is : List Nat} (m : Fm σ (lockE ρ is) F H σ' ρ' F' H') : Fm σ ρ F H σ' (freeE ρ ρ' is) F' H' where
  len := by
    rw [← (free_same is ρ ρ').1, m.len, ← (lock_same is ρ).1]
  dom := m.dom
  keep := fun a o h n => by
    obtain ⟨k1, k2, k3⟩ := m.keep a o h fun z => n ((lock_same is ρ).owns z)
    exact ⟨k1, k2, fun z => k3 ((free_same is ρ ρ').owns z)⟩
  pin := fun i mm o h n => by
    by_cases z : i ∈ is
    · obtain ⟨⟨m', g1, g2⟩, g3⟩ := m.pin i mm .lck (lock_at z h) (by decide)
      exact ⟨⟨m', free_at z h g1, fun _ => g2 rfl⟩, g3⟩
    · rw [free_out z]
      exact m.pin i mm o (by rw [lock_out z]; exact h) n
  lck := fun i mm a h h2 => by
    by_cases z : i ∈ is
    · exact m.lck i mm a (lock_at z h) h2
    · exact m.lck i mm a (by rw [lock_out z]; exact h) h2
/-- with walked slots: an outcome behind the walk -/
def unlock {α : Type} (ρ : En) (is : List Nat) : Except Exc α × En → Except Exc α × En := fun y => (y.1, freeE ρ y.2 is)
theorem ResS.lock {C : Ctx} {W : WX} {is : List Nat} {y : Except Exc Out × En} {Q : Ends} (h : ResS C W σ ρ F H (unlock ρ is y) Q) : ResS C W σ (lockE ρ is) F H y Q := by
  rcases y with ⟨y | o, ρ'⟩
  · exact fun cls d σ' F' H' E' m' z => h cls d σ' F' H' (E'.same (free_same is ρ ρ')) m'.free z
  · intro σ' F' H' E' m'
    have k := h σ' F' H' (E'.same (free_same is ρ ρ')) m'.free
    cases o with
    | rt r =>
      intro v rr
      refine k v ?_
      cases r with
      | val d => exact rr
      | loc i => exact rr
      | fr mm =>
        obtain ⟨p, ho, e, h0, h1, h2, h3, h4⟩ := rr
        exact ⟨p, ho, e, h0, h1, h2, h3, fun z => h4 ((free_same is ρ ρ').owns z)⟩
    | _ => exact k
end
end LF
end

-- part LFRules9
section
set_option Elab.async false
set_option linter.all false
set_option maxRecDepth 100000
set_option maxHeartbeats 2000000
namespace LF
open PySem PySem.Spec PyProof.Rows L2

/-! ### sources -/
abbrev Src := List D × List Nat
theorem bind_ok {α β : Type} {f : EM α} {g : α → EM β} {ρ ρ' : En} {a : α} (h : f ρ = some (.ok a, ρ')) : EM.bind f g ρ = g a ρ' := by
  unfold EM.bind
  rw [h]
theorem bind_err {α β : Type} {f : EM α} {g : α → EM β} {ρ ρ' : En} {e : Exc} (h : f ρ = some (.error e, ρ')) : EM.bind f g ρ = some (.error e, ρ') := by
  unfold EM.bind
  rw [h]
theorem bind_none {α β : Type} {f : EM α} {g : α → EM β} {ρ : En} (h : f ρ = none) : EM.bind f g ρ = none := by
  unfold EM.bind
  rw [h]
def lkSlot (i : Nat) : Option Slot → List Nat
  | some (.own _ _) => [i]
  | _ => []
def lkOf (ρ : En) : R → List Nat
  | .loc i => lkSlot i ρ[i]?
  | _ => []
def chars (z : Str) : List D := z.cps.toList.map fun c => .str ⟨#[c]⟩
def srcOf (r : R) (ρ : En) : Option D → Option Src
  | some (.list ds) => some (ds, lkOf ρ r)
  | some (.tuple ds) => some (ds, [])
  | some (.str z) => some (chars z, [])
  | _ => none
def srcAny (f : EM R) : EM Src := EM.bind f fun r => fun ρ => (srcOf r ρ (rd r ρ)).map fun s => (.ok s, ρ)
def rngD (lo : Int) (n : Nat) : List D := (List.range n).map fun (i : Nat) => PyData.int (lo + (i : Int))
def sR1 : Option D → Option Src
  | some (.int j) => if -(2 ^ 62) ≤ j ∧ j < 2 ^ 62 then some (rngD 0 j.toNat, []) else none
  | _ => none
def srcR1 (f : EM R) : EM Src := EM.bind f fun r => fun ρ => (sR1 (rd r ρ)).map fun s => (.ok s, ρ)
def sR2 : Option D → Option D → Option Src
  | some (.int i), some (.int j) => if -(2 ^ 62) ≤ i ∧ i < 2 ^ 62 ∧ -(2 ^ 62) ≤ j ∧ j < 2 ^ 62 then some (rngD i (j - i).toNat, []) else none
  | _, _ => none
def srcR2 (f g : EM R) : EM Src := EM.bind f fun r => EM.bind g fun q => fun ρ => (sR2 (rd r ρ) (rd q ρ)).map fun s => (.ok s, ρ)
def enumD (ds : List D) : List D := ds.mapIdx fun i d => .tuple [.int (i : Nat), d]
def sEnum (l : List Nat) : Option D → Option Src
  | some (.list ds) => some (enumD ds, l)
  | _ => none
def srcEnum (f : EM R) : EM Src := EM.bind f fun r => fun ρ => (sEnum (lkOf ρ r) (rd r ρ)).map fun s => (.ok s, ρ)
def zipD (ds es : List D) : List D := List.zipWith (fun d e => .tuple [d, e]) ds es
def sZip (l : List Nat) : Option D → Option D → Option Src
  | some (.list ds), some (.list es) => some (zipD ds es, l)
  | _, _ => none
def srcZip (f g : EM R) : EM Src := EM.bind f fun r => EM.bind g fun q => fun ρ => (sZip (lkOf ρ r ++ lkOf ρ q) (rd r ρ) (rd q ρ)).map fun s => (.ok s, ρ)
theorem src_in {β : Type} {o : En → Option Src} {g : Src → EM β} {ρ : En} {x : Except Exc β × En} (e : EM.bind (fun ρ => (o ρ).map fun s => (Except.ok s, ρ)) g ρ = some x) : ∃ s, o ρ = some s ∧ g s ρ = some x := by
  cases h : o ρ with
  | none =>
    rw [bind_none (show (fun ρ => (o ρ).map fun s => (Except.ok (ε := Exc) s, ρ)) ρ = none by show (o ρ).map _ = none; rw [h] <;> rfl)] at e
    cases e
  | some s =>
    rw [bind_ok (show (fun ρ => (o ρ).map fun s => (Except.ok (ε := Exc) s, ρ)) ρ = some (.ok s, ρ) by show (o ρ).map _ = _; rw [h] <;> rfl)] at e
    exact ⟨s, rfl, e⟩
/-- wi walks what src tells, as long as its objects stand -/
def SrcIn (C : Ctx) (W : WX) (wi : TI) (src : EM Src) : Prop := ∀ (σ : L2.St) (ρ : En) (F H : Hp) (β : Type) (g : Src → EM β) (x : Except Exc β × En) (Rr : It → Hp → Prop), ER C.K σ ρ F H → EM.bind src g ρ = some x → ErrOk C W σ ρ F H x →
  (∀ s ρ1 F1 H1 J S, ER C.K σ ρ1 F1 H1 → Fm σ ρ F H σ ρ1 F1 H1 → g s ρ1 = some x → Feeds C.K J s.1 S → (∀ σ' ρ' F' H' Z, Fm σ (lockE ρ1 s.2) F1 H1 σ' ρ' F' Z → (∀ a, H1 a ≠ none → H' a = Z a) → S F' H') → Rr J H1) → wi σ H Rr
section
variable {K : PySem.W.Frag} {σ σ' : L2.St} {ρ ρ' ρ0 : En} {F F' F0 H H' H0 : Hp} {r : R} {v : V}
/-- a list that is walked stands: it is fast, new, or locked -/
theorem stands {ds : List D} (E : ER K σ ρ F H) (rr : RR K H0 σ ρ F H v r) (e : rd r ρ = some (.list ds)) : ∃ a xs, v = .ref a ∧ H a = some (.lst xs) ∧ RepL K F xs ds ∧
    ∀ (is : List Nat), (∀ i ∈ lkOf ρ r, i ∈ is) → ∀ σ' ρ' F' H', Fm σ (lockE ρ is) F H σ' ρ' F' H' → H' a = some (.lst xs) ∧ Ex F F' := by
  have exx : ∀ (is : List Nat) σ' ρ' F' H', Fm σ (lockE ρ is) F H σ' ρ' F' H' → Ex F F' := fun is σ' ρ' F' H' m => m.ex (E.same (lock_same is ρ))
  have fast : ∀ {a : Addr} {xs : List V}, F a = some (.lst xs) → ∀ (is : List Nat) σ' ρ' F' H', Fm σ (lockE ρ is) F H σ' ρ' F' H' → H' a = some (.lst xs) := fun {a xs} h is σ' ρ' F' H' m => by
    have E2 := E.same (lock_same is ρ)
    exact (m.keep a _ (E2.sub _ _ h) (E2.not_own h)).1
  cases r with
  | val d =>
    cases e
    obtain ⟨a, xs, rfl, h1, h2⟩ := rep_list rr
    exact ⟨a, xs, rfl, E.sub _ _ h1, h2, fun is _ σ' ρ' F' H' m => ⟨fast h1 is σ' ρ' F' H' m, exx is σ' ρ' F' H' m⟩⟩
  | fr mm =>
    obtain ⟨p, ho, rfl, h0, h1, h2, h3, h4⟩ := rr
    cases h3 with
    | lst h3 =>
      cases e
      exact ⟨p, _, rfl, h2, h3, fun is _ σ' ρ' F' H' m => ⟨(m.keep p _ h2 fun z => h4 ((lock_same is ρ).owns z)).1, exx is σ' ρ' F' H' m⟩⟩
    | dK h3 => cases e
  | loc i =>
    have hs : σ[i]? = some (some v) := rr
    have e : dSlot ρ[i]? = some (.list ds) := e
    cases hi : ρ[i]? with
    | none =>
      rw [hi] at e
      cases e
    | some s =>
      rw [hi] at e
      cases s with
      | unb => cases e
      | val d =>
        cases e
        obtain ⟨v', g1, g2⟩ := E.val i _ hi
        rw [hs] at g1
        injection g1 with g1
        injection g1 with g1
        subst g1
        obtain ⟨a, xs, rfl, h1, h2⟩ := rep_list g2
        exact ⟨a, xs, rfl, E.sub _ _ h1, h2, fun is _ σ' ρ' F' H' m => ⟨fast h1 is σ' ρ' F' H' m, exx is σ' ρ' F' H' m⟩⟩
      | own mm w =>
        obtain ⟨a, ho, g1, g2, g3, g4⟩ := E.own i mm w hi
        rw [hs] at g1
        injection g1 with g1
        injection g1 with g1
        subst g1
        cases g4 with
        | lst g4 =>
          cases e
          refine ⟨a, _, rfl, g3, g4, fun is hl σ' ρ' F' H' m => ⟨?_, exx is σ' ρ' F' H' m⟩⟩
          have hm : i ∈ is := hl i (by show i ∈ lkSlot i ρ[i]?; rw [hi]; exact List.mem_cons_self)
          rw [m.lck i _ a (lock_at hm hi) hs, g3]
        | dK g4 => cases e
theorem feeds_list {a : Addr} {xs : List V} {ds : List D} {Fb : Hp} (h : RepL K Fb xs ds) : Feeds K (Itl K a) ds (fun F H => H a = some (.lst xs) ∧ Ex Fb F) where
  stop := fun F H _ s => ⟨xs, sl_of s.1, by rw [h.length]; exact Nat.le_refl _⟩
  go := fun i F H _ s hi => by
    obtain ⟨v, h1, _⟩ := h.get (List.getElem?_eq_getElem hi)
    exact ⟨xs, v, sl_of s.1, h1⟩
  yld := fun i F H x H' _ s hi y => by
    obtain ⟨rfl, y⟩ := y
    obtain ⟨d, h1, h2⟩ := h.getV (y xs (sl_of s.1))
    exact ⟨d, h1, .inl ⟨rfl, h2.mono s.2⟩⟩
theorem feeds_tup {a : Addr} {xs : List V} {ds : List D} {Fb : Hp} (ht : SqT K Fb a xs) (h : RepL K Fb xs ds) : Feeds K (Itt K a) ds (fun F _ => Ex Fb F) where
  stop := fun F H e s => ⟨xs, ex_t (s.trans e) ht, by rw [h.length]; exact Nat.le_refl _⟩
  go := fun i F H e s hi => by
    obtain ⟨v, h1, _⟩ := h.get (List.getElem?_eq_getElem hi)
    exact ⟨xs, v, ex_t (s.trans e) ht, h1⟩
  yld := fun i F H x H' e s hi y => by
    obtain ⟨rfl, y⟩ := y
    obtain ⟨d, h1, h2⟩ := h.getV (y xs (ex_t (s.trans e) ht))
    exact ⟨d, h1, .inl ⟨rfl, h2.mono s⟩⟩
theorem chars_len (z : Str) : (chars z).length = z.cps.size := by simp [chars]
theorem feeds_str (z : Str) : Feeds K (Its z) (chars z) (fun _ _ => True) where
  stop := fun F H e s => by
    show z.cps.size ≤ (chars z).length
    rw [chars_len]
    exact Nat.le_refl _
  go := fun i F H e s hi => by
    show i < z.cps.size
    rw [← chars_len]
    exact hi
  yld := fun i F H x H' e s hi y => by
    obtain ⟨rfl, c, h1, rfl⟩ := y
    refine ⟨.str ⟨#[c]⟩, ?_, .inl ⟨rfl, .str _⟩⟩
    unfold chars
    rw [List.getElem?_map, Array.getElem?_toList, h1]
    rfl
theorem rng_len (lo : Int) (n : Nat) : (rngD lo n).length = n := by simp [rngD]
theorem feeds_rng (lo : Int) (n : Nat) : Feeds K (Itr lo n) (rngD lo n) (fun _ _ => True) where
  stop := fun F H e s => by
    show n ≤ (rngD lo n).length
    rw [rng_len]
    exact Nat.le_refl _
  go := fun i F H e s hi => by
    show i < n
    rw [rng_len] at hi
    exact hi
  yld := fun i F H x H' e s hi y => by
    obtain ⟨rfl, rfl⟩ := y
    rw [rng_len] at hi
    refine ⟨.int (lo + (i : Int)), ?_, .inl ⟨rfl, .int _⟩⟩
    unfold rngD
    rw [List.getElem?_map, List.getElem?_range hi]
    rfl
theorem enum_len (ds : List D) : (enumD ds).length = ds.length := by simp [enumD]
theorem feeds_enum {a : Addr} {xs : List V} {ds : List D} {Fb : Hp} (h : RepL K Fb xs ds) : Feeds K (Ite K a) (enumD ds) (fun F H => H a = some (.lst xs) ∧ Ex Fb F) where
  stop := fun F H _ s => ⟨xs, sl_of s.1, by rw [h.length, enum_len]; exact Nat.le_refl _⟩
  go := fun i F H _ s hi => by
    rw [enum_len] at hi
    obtain ⟨v, h1, _⟩ := h.get (List.getElem?_eq_getElem hi)
    exact ⟨xs, v, sl_of s.1, h1⟩
  yld := fun i F H x H' _ s hi y => by
    obtain ⟨T, x', rfl, n, rfl, y⟩ := y
    obtain ⟨d, h1, h2⟩ := h.getV (y xs (sl_of s.1))
    refine ⟨.tuple [.int (i : Nat), d], ?_, .inr ⟨T, _, _, rfl, n, rfl, rfl, .cons (.int _) (.one (h2.mono s.2))⟩⟩
    unfold enumD
    rw [List.getElem?_mapIdx, h1]
    rfl
theorem feeds_zip {a b : Addr} {xs ys : List V} {ds es : List D} {Fb : Hp} (h : RepL K Fb xs ds) (h' : RepL K Fb ys es) : Feeds K (Itz K a b) (zipD ds es) (fun F H => (H a = some (.lst xs) ∧ Ex Fb F) ∧ H b = some (.lst ys) ∧ Ex Fb F) where
  stop := fun F H _ s => ⟨xs, ys, sl_of s.1.1, sl_of s.2.1, by
    rw [h.length, h'.length]
    unfold zipD
    rw [List.length_zipWith]
    omega⟩
  go := fun i F H _ s hi => by
    unfold zipD at hi
    rw [List.length_zipWith] at hi
    obtain ⟨v, h1, _⟩ := h.get (List.getElem?_eq_getElem (show i < ds.length by omega))
    obtain ⟨u, h2, _⟩ := h'.get (List.getElem?_eq_getElem (show i < es.length by omega))
    exact ⟨xs, ys, v, u, sl_of s.1.1, sl_of s.2.1, h1, h2⟩
  yld := fun i F H x H' _ s hi y => by
    obtain ⟨T, x1, x2, rfl, n, rfl, y1, y2⟩ := y
    obtain ⟨d, h1, h2⟩ := h.getV (y1 xs (sl_of s.1.1))
    obtain ⟨e, g1, g2⟩ := h'.getV (y2 ys (sl_of s.2.1))
    refine ⟨.tuple [d, e], ?_, .inr ⟨T, _, _, rfl, n, rfl, rfl, .cons (h2.mono s.1.2) (.one (g2.mono s.1.2))⟩⟩
    unfold zipD
    rw [List.getElem?_zipWith, h1, g1]
end
section
variable {X : Cx} {ex : Str → Addr} {W : WX} {pos pos' p : Pos} {e a b c tg : Expr} {fa fb fc : EM R}
theorem pi_or {w1 w2 : TI} (h1 : PI X tg e w1) (h2 : PI X tg e w2) : PI X tg e (fun σ H R => w1 σ H R ∨ w2 σ H R) := ⟨fun pins s σ H R I h => h.elim (fun h => h1.run pins s σ H R I h) fun h => h2.run pins s σ H R I h⟩
def iAny (K : PySem.W.Frag) (te : TE) : TI := fun σ H R => iList K te σ H R ∨ iTup K te σ H R ∨ iStr te σ H R
theorem pi_any {te : TE} (h : PE X e te) : PI X tg e (iAny X.K te) := pi_or (pi_list h) (pi_or (pi_tup h) (pi_str h))
theorem src_any : SrcIn ⟨X.K, ex⟩ W (iAny X.K (DE ⟨X.K, ex⟩ W fa)) (srcAny fa) := by
  intro σ ρ F H β g x Rr E e he k
  -- what is walked is known from the data alone
  have e' : EM.bind fa (fun r => EM.bind (fun ρ => (srcOf r ρ (rd r ρ)).map fun s => (Except.ok s, ρ)) g) ρ = some x := by
    unfold srcAny EM.bind at e
    unfold EM.bind
    cases hf : fa ρ with
    | none =>
      rw [hf] at e
      cases e
    | some z =>
      rw [hf] at e
      rcases z with ⟨z | z, ρ'⟩
      · exact e
      · exact e
  have step := fun {Q : VK} (q : ∀ v H1, (∃ r ρ1 F1, ER X.K σ ρ1 F1 H1 ∧ Fm σ ρ F H σ ρ1 F1 H1 ∧ Fm σ ρ F H σ ρ1 F1 H1 ∧ RR X.K H σ ρ1 F1 H1 v r ∧ EM.bind (fun ρ => (srcOf r ρ (rd r ρ)).map fun s => (Except.ok s, ρ)) g ρ1 = some x ∧ fa ρ = some (.ok r, ρ1)) → Q v H1) => (show DE ⟨X.K, ex⟩ W fa σ H Q from by
    cases hf : fa ρ with
    | none =>
      rw [bind_none hf] at e'
      cases e'
    | some y =>
      refine ⟨ρ, F, y, E, hf, ?_⟩
      rcases y with ⟨y | r, ρ'⟩
      · rw [bind_err hf] at e'
        have e3 : x = (.error y, ρ') := by injection e' with e2; exact e2.symm
        exact fun cls d F' H' E' m' z => he y ρ' e3 cls d F' H' E' m' z
      · rw [bind_ok hf] at e'
        exact fun v F' H' E' m' rr => q v H' ⟨r, ρ', F', E', m', m', rr, e', hf⟩)
  have kind : (∀ r ρ1, fa ρ = some (.ok r, ρ1) → ∃ ds, rd r ρ1 = some (.list ds)) ∨ (∀ r ρ1, fa ρ = some (.ok r, ρ1) → ∃ ds, rd r ρ1 = some (.tuple ds)) ∨ (∀ r ρ1, fa ρ = some (.ok r, ρ1) → ∃ ds, rd r ρ1 = some (.str ds)) := by
    cases hf : fa ρ with
    | none => exact .inl fun r ρ1 h => by cases h
    | some y =>
      rcases y with ⟨y | r, ρ1⟩
      · exact .inl fun r ρ1 h => by cases h
      · have e2 := e'
        rw [bind_ok hf] at e2
        have no : ∀ d, rd r ρ1 = d → srcOf r ρ1 d = none → False := fun d h1 h2 => by
          have : (fun ρ => (srcOf r ρ (rd r ρ)).map fun s => (Except.ok (ε := Exc) s, ρ)) ρ1 = none := by
            show (srcOf r ρ1 (rd r ρ1)).map _ = none
            rw [h1, h2]
            rfl
          rw [bind_none this] at e2
          cases e2
        cases hr : rd r ρ1 with
        | none => exact (no _ hr rfl).elim
        | some d =>
          cases d with
          | list ds => exact .inl fun r' ρ' h => by cases h; exact ⟨ds, hr⟩
          | tuple ds => exact .inr (.inl fun r' ρ' h => by cases h; exact ⟨ds, hr⟩)
          | str ds => exact .inr (.inr fun r' ρ' h => by cases h; exact ⟨ds, hr⟩)
          | _ => exact (no _ hr rfl).elim
  have got : ∀ {r : R} {ρ1 : En} {d : Option D} {s : Src}, rd r ρ1 = d → srcOf r ρ1 d = some s → EM.bind (fun ρ => (srcOf r ρ (rd r ρ)).map fun s => (Except.ok s, ρ)) g ρ1 = some x → g s ρ1 = some x := fun {r ρ1 d s} h1 h2 h3 => by
    have : (fun ρ => (srcOf r ρ (rd r ρ)).map fun s => (Except.ok (ε := Exc) s, ρ)) ρ1 = some (.ok s, ρ1) := by
      show (srcOf r ρ1 (rd r ρ1)).map _ = _
      rw [h1, h2]
      rfl
    rw [bind_ok this] at h3
    exact h3
  rcases kind with kd | kd | kd
  · refine .inl (step fun v H1 ⟨r, ρ1, F1, E1, m1, _, rr, e1, hf⟩ => ?_)
    obtain ⟨ds, hr⟩ := kd r ρ1 hf
    obtain ⟨a, xs, rfl, h1, h2, h3⟩ := stands E1 rr hr
    refine ⟨a, rfl, ⟨xs, sl_of h1⟩, k (ds, lkOf ρ1 r) ρ1 F1 H1 _ _ E1 m1 (got hr rfl e1) (feeds_list h2) fun σ' ρ' F' H' Z m' hz => ?_⟩
    · obtain ⟨g1, g2⟩ := h3 _ (fun i h => h) σ' ρ' F' Z m'
      exact ⟨by rw [hz a (by rw [h1]; simp)]; exact g1, g2⟩
  · refine .inr (.inl (step fun v H1 ⟨r, ρ1, F1, E1, m1, _, rr, e1, hf⟩ => ?_))
    obtain ⟨ds, hr⟩ := kd r ρ1 hf
    obtain ⟨a, xs, rfl, h1, h2⟩ := rd_tup E1 rr hr
    refine ⟨a, rfl, ⟨xs, ex_t E1.sub h1⟩, k (ds, []) ρ1 F1 H1 _ _ E1 m1 (got hr rfl e1) (feeds_tup h1 h2) fun σ' ρ' F' H' Z m' hz => m'.ex E1⟩
  · refine .inr (.inr (step fun v H1 ⟨r, ρ1, F1, E1, m1, _, rr, e1, hf⟩ => ?_))
    obtain ⟨ds, hr⟩ := kd r ρ1 hf
    refine ⟨ds, rd_str E1 rr hr, k (chars ds, []) ρ1 F1 H1 _ _ E1 m1 (got hr rfl e1) (feeds_str ds) fun _ _ _ _ _ _ _ => trivial⟩
theorem bind_map {α β γ : Type} {f : EM α} {h : α → EM β} {g : β → EM γ} {ρ : En} : EM.bind (EM.bind f h) g ρ = EM.bind f (fun a => EM.bind (h a) g) ρ := by
  unfold EM.bind
  cases f ρ with
  | none => rfl
  | some z =>
    rcases z with ⟨z | z, ρ'⟩
    · rfl
    · rfl
theorem src_r1 : SrcIn ⟨X.K, ex⟩ W (iRng1 (tCons (DE ⟨X.K, ex⟩ W fa) tNil)) (srcR1 fa) := by
  intro σ ρ F H β g x Rr E e he k
  unfold srcR1 at e
  rw [bind_map] at e
  refine (split E (Fm.refl σ ρ F H) e he).mono fun v H1 ⟨r, ρ1, F1, E1, m1, _, rr, e1⟩ => ?_
  show ∃ j : Int, [v] = [.int j] ∧ -(2 ^ 62) ≤ j ∧ j < 2 ^ 62 ∧ Rr (Itr 0 j.toNat) H1
  obtain ⟨s, hs, e1⟩ := src_in e1
  cases hr : rd r ρ1 with
  | none =>
    rw [hr] at hs
    cases hs
  | some d =>
    rw [hr] at hs
    cases d with
    | int j =>
      unfold sR1 at hs
      dsimp only at hs
      split at hs
      · rename_i hz
        cases hs
        rw [rd_int E1 rr hr]
        exact ⟨j, rfl, hz.1, hz.2, k (rngD 0 j.toNat, []) ρ1 F1 H1 _ _ E1 m1 e1 (feeds_rng 0 j.toNat) fun _ _ _ _ _ _ _ => trivial⟩
      · cases hs
    | _ => cases hs
theorem src_r2 : SrcIn ⟨X.K, ex⟩ W (iRng2 (tCons (DE ⟨X.K, ex⟩ W fa) (tCons (DE ⟨X.K, ex⟩ W fb) tNil))) (srcR2 fa fb) := by
  intro σ ρ F H β g x Rr E e he k
  unfold srcR2 at e
  rw [bind_map] at e
  refine (split E (Fm.refl σ ρ F H) e he).mono fun v H1 ⟨r, ρ1, F1, E1, m1, _, rr, e1⟩ => ?_
  rw [bind_map] at e1
  refine (split E1 m1 e1 he).mono fun u H2 ⟨q, ρ2, F2, E2, m2, m12, rq, e2⟩ => ?_
  have rr := rr.step E1 m12
  show ∃ i j : Int, [v, u] = [.int i, .int j] ∧ (-(2 ^ 62) ≤ i ∧ i < 2 ^ 62 ∧ -(2 ^ 62) ≤ j ∧ j < 2 ^ 62) ∧ Rr (Itr i (j - i).toNat) H2
  obtain ⟨s, hs, e2⟩ := src_in e2
  unfold sR2 at hs
  split at hs
  · rename_i i j hr hq
    split at hs
    · rename_i hz
      cases hs
      rw [rd_int E2 rr hr, rd_int E2 rq hq]
      exact ⟨i, j, rfl, hz, k (rngD i (j - i).toNat, []) ρ2 F2 H2 _ _ E2 m2 e2 (feeds_rng i (j - i).toNat) fun _ _ _ _ _ _ _ => trivial⟩
    · cases hs
  · cases hs
theorem src_enum : SrcIn ⟨X.K, ex⟩ W (iEnum X.K (tCons (DE ⟨X.K, ex⟩ W fa) tNil)) (srcEnum fa) := by
  intro σ ρ F H β g x Rr E e he k
  unfold srcEnum at e
  rw [bind_map] at e
  refine (split E (Fm.refl σ ρ F H) e he).mono fun v H1 ⟨r, ρ1, F1, E1, m1, _, rr, e1⟩ => ?_
  show ∃ a xs, [v] = [.ref a] ∧ SqL X.K H1 a xs ∧ Rr (Ite X.K a) H1
  obtain ⟨s, hs, e1⟩ := src_in e1
  unfold sEnum at hs
  split at hs
  · rename_i ds hr
    cases hs
    obtain ⟨a, xs, rfl, h1, h2, h3⟩ := stands E1 rr hr
    refine ⟨a, xs, rfl, sl_of h1, k (enumD ds, lkOf ρ1 r) ρ1 F1 H1 _ _ E1 m1 e1 (feeds_enum h2) fun σ' ρ' F' H' Z m' hz => ?_⟩
    obtain ⟨g1, g2⟩ := h3 _ (fun i h => h) σ' ρ' F' Z m'
    exact ⟨by rw [hz a (by rw [h1]; simp)]; exact g1, g2⟩
  · cases hs
theorem src_zip : SrcIn ⟨X.K, ex⟩ W (iZip X.K (tCons (DE ⟨X.K, ex⟩ W fa) (tCons (DE ⟨X.K, ex⟩ W fb) tNil))) (srcZip fa fb) := by
  intro σ ρ F H β g x Rr E e he k
  unfold srcZip at e
  rw [bind_map] at e
  refine (split E (Fm.refl σ ρ F H) e he).mono fun v H1 ⟨r, ρ1, F1, E1, m1, _, rr, e1⟩ => ?_
  rw [bind_map] at e1
  refine (split E1 m1 e1 he).mono fun u H2 ⟨q, ρ2, F2, E2, m2, m12, rq, e2⟩ => ?_
  have rr := rr.step E1 m12
  show ∃ a b xs ys, [v, u] = [.ref a, .ref b] ∧ SqL X.K H2 a xs ∧ SqL X.K H2 b ys ∧ Rr (Itz X.K a b) H2
  obtain ⟨s, hs, e2⟩ := src_in e2
  unfold sZip at hs
  split at hs
  · rename_i ds es hr hq
    cases hs
    obtain ⟨a, xs, rfl, h1, h2, h3⟩ := stands E2 rr hr
    obtain ⟨b, ys, rfl, g1, g2, g3⟩ := stands E2 rq hq
    refine ⟨a, b, xs, ys, rfl, sl_of h1, sl_of g1, k (zipD ds es, lkOf ρ2 r ++ lkOf ρ2 q) ρ2 F2 H2 _ _ E2 m2 e2 (feeds_zip h2 g2) fun σ' ρ' F' H' Z m' hz => ?_⟩
    obtain ⟨p1, p2⟩ := h3 _ (fun i h => List.mem_append_left _ h) σ' ρ' F' Z m'
    obtain ⟨q1, q2⟩ := g3 _ (fun i h => List.mem_append_right _ h) σ' ρ' F' Z m'
    exact ⟨⟨by rw [hz a (by rw [h1]; simp)]; exact p1, p2⟩, by rw [hz b (by rw [g1]; simp)]; exact q1, q2⟩
  · cases hs

/-! ### targets -/
/-- g stores what tm tells, in the slots js -/
structure TgOk (K : PySem.W.Frag) (js : List Nat) (g : TG) (tm : D → En → Option En) : Prop where
  ok : ∀ (σ : L2.St) (ρ : En) (F H : Hp) (v : V) (d : D) (ρ' : En) (Q : L2.St → Hp → Prop), ER K σ ρ F H → Rep K F v d → tm d ρ = some ρ' →
    (∀ σ', ER K σ' ρ' F H → Fm σ ρ F H σ' ρ' F H → (∀ k : Nat, k ∉ js → σ'[k]? = σ[k]?) → (∀ k : Nat, k ∉ js → ρ'[k]? = ρ[k]?) → Q σ' H) → g v σ H Q
theorem ne_of_out {i j : Nat} {js : List Nat} (h : i ∉ j :: js) : j ≠ i := fun z => h (by rw [z]; exact List.mem_cons_self)
theorem tg_name (K : PySem.W.Frag) (j : Nat) : TgOk K [j] (gName j) (stVal j) := ⟨fun σ ρ F H v d ρ' Q E r e k => by
  obtain ⟨h1, h2, h3⟩ := stVal_ok E (Fm.refl σ ρ F H) r e
  refine k _ h1 h2 (fun i hi => List.getElem?_set_ne (ne_of_out hi)) fun i hi => ?_
  rw [h3, List.getElem?_set_ne (ne_of_out hi)]⟩
def stVals : List Nat → List D → En → Option En
  | [], [], ρ => some ρ
  | j :: js, d :: ds, ρ => (stVal j d ρ).bind (stVals js ds)
  | _, _, _ => none
def stTup (js : List Nat) : D → En → Option En
  | .tuple ds, ρ => stVals js ds ρ
  | _, _ => none
structure TgsOk (K : PySem.W.Frag) (js : List Nat) (g : TGs) : Prop where
  ok : ∀ (σ : L2.St) (ρ : En) (F H : Hp) (vs : List V) (ds : List D) (ρ' : En) (Q : L2.St → Hp → Prop), ER K σ ρ F H → RepL K F vs ds → stVals js ds ρ = some ρ' →
    (∀ σ', ER K σ' ρ' F H → Fm σ ρ F H σ' ρ' F H → (∀ k : Nat, k ∉ js → σ'[k]? = σ[k]?) → (∀ k : Nat, k ∉ js → ρ'[k]? = ρ[k]?) → Q σ' H) → g vs σ H Q
theorem tg_nil (K : PySem.W.Frag) : TgsOk K [] gNil := ⟨fun σ ρ F H vs ds ρ' Q E r e k => by
  cases r with
  | nil =>
    cases e
    exact ⟨rfl, k σ E (Fm.refl σ ρ F H) (fun _ _ => rfl) fun _ _ => rfl⟩
  | cons _ _ => cases e⟩
theorem tg_cons {K : PySem.W.Frag} {j : Nat} {js : List Nat} {g : TGs} (h : TgsOk K js g) : TgsOk K (j :: js) (gCons (gName j) g) := ⟨fun σ ρ F H vs ds ρ' Q E r e k => by
  cases r with
  | nil => cases e
  | cons r rs =>
    rename_i v vs d ds
    have e : (stVal j d ρ).bind (stVals js ds) = some ρ' := e
    cases h1 : stVal j d ρ with
    | none =>
      rw [h1] at e
      cases e
    | some ρ1 =>
      rw [h1] at e
      obtain ⟨k1, k2, k3⟩ := stVal_ok E (Fm.refl σ ρ F H) r h1
      refine ⟨v, vs, rfl, h.ok _ ρ1 F H vs ds ρ' Q k1 rs e fun σ' E' m' n1 n2 => k σ' E' (k2.trans m') (fun i hi => ?_) fun i hi => ?_⟩
      · rw [n1 i fun z => hi (List.mem_cons_of_mem _ z), List.getElem?_set_ne (ne_of_out hi)]
      · rw [n2 i fun z => hi (List.mem_cons_of_mem _ z), k3, List.getElem?_set_ne (ne_of_out hi)]⟩
theorem tg_tup {K : PySem.W.Frag} {js : List Nat} {n : Nat} {g : TGs} (h : TgsOk K js g) (hn : js.length = n) : TgOk K js (gTup K n g) (stTup js) := ⟨fun σ ρ F H v d ρ' Q E r e k => by
  unfold stTup at e
  split at e
  · rename_i ds
    obtain ⟨a, xs, rfl, h1, h2⟩ := rep_tup r
    have hl : ∀ (js : List Nat) (ds : List D) (ρ : En), stVals js ds ρ = some ρ' → js.length = ds.length := by
      intro js
      induction js with
      | nil =>
        intro ds ρ e
        cases ds with
        | nil => rfl
        | cons _ _ => cases e
      | cons j js ih =>
        intro ds ρ e
        cases ds with
        | nil => cases e
        | cons d ds =>
          have e : (stVal j d ρ).bind (stVals js ds) = some ρ' := e
          cases h1 : stVal j d ρ with
          | none =>
            rw [h1] at e
            cases e
          | some ρ1 =>
            rw [h1] at e
            rw [List.length_cons, List.length_cons, ih ds ρ1 e]
    exact ⟨a, xs, rfl, ex_t E.sub h1, by rw [h2.length, ← hl _ _ _ e, hn], h.ok σ ρ F H xs ds ρ' Q E h2 e k⟩
  · cases e⟩
end
end LF
end

-- part LFRulesA
section
set_option Elab.async false
set_option linter.all false
set_option maxRecDepth 100000
set_option maxHeartbeats 2000000
namespace LF
open PySem PySem.Spec PyProof.Rows L2

def turnOut (k : EM Out) : Except Exc Out × En → Option (Except Exc Out × En)
  | (.error e, ρ) => some (.error e, ρ)
  | (.ok .nx, ρ) => k ρ
  | (.ok .ct, ρ) => k ρ
  | (.ok .bk, ρ) => some (.ok .nx, ρ)
  | (.ok (.rt r), ρ) => some (.ok (.rt r), ρ)
def runFor (tm : D → En → Option En) (body : EM Out) : List D → EM Out
  | [] => fun ρ => some (.ok .nx, ρ)
  | d :: ds => fun ρ => (tm d ρ).bind fun ρ1 => (body ρ1).bind (turnOut (runFor tm body ds))
def sFor (src : EM Src) (tm : D → En → Option En) (body : EM Out) : EM Out := EM.bind src fun s => fun ρ => (runFor tm body s.1 (lockE ρ s.2)).map (unlock ρ s.2)
def runWhile (c : EM Bool) (body : EM Out) : Nat → EM Out
  | 0 => fun _ => none
  | n + 1 => EM.bind c fun k => if k = true then fun ρ => (body ρ).bind (turnOut (runWhile c body n)) else EM.pure .nx
section
variable {X : Cx} {ex : Str → Addr} {W : WX} {pos : Pos} {tg iter e c : Expr} {body : List Stmt} {f : EM Out} {bc : EM Bool}
theorem turn_in {C : Ctx} {σ σ1 : L2.St} {ρ ρ1 : En} {F F1 H H1 : Hp} {k : EM Out} {y : Except Exc Out × En} {Q : Ends} {N : L2.St → Hp → Prop} (E1 : ER C.K σ1 ρ1 F1 H1) (m1 : Fm σ ρ F H σ1 ρ1 F1 H1) (hr : ResS C W σ ρ F H y Q) (e : (f ρ1).bind (turnOut k) = some y)
    (hN : ∀ σ' ρ' F' H', ER C.K σ' ρ' F' H' → Fm σ ρ F H σ' ρ' F' H' → k ρ' = some y → N σ' H') : DS C W f { Q with nx := N, ct := N, bk := Q.nx } σ1 H1 := by
  cases hf : f ρ1 with
  | none =>
    rw [hf] at e
    cases e
  | some z =>
    rw [hf] at e
    have e : turnOut k z = some y := e
    refine ⟨ρ1, F1, z, E1, hf, ?_⟩
    rcases z with ⟨z | o, ρ2⟩
    · cases e
      exact fun cls d σ' F' H' E' m' q => hr cls d σ' F' H' E' (m1.trans m') q
    · intro σ' F' H' E' m'
      cases o with
      | nx => exact hN σ' ρ2 F' H' E' (m1.trans m') e
      | ct => exact hN σ' ρ2 F' H' E' (m1.trans m') e
      | bk =>
        cases e
        exact hr σ' F' H' E' (m1.trans m')
      | rt r =>
        cases e
        exact fun v rr => hr σ' F' H' E' (m1.trans m') v (rr.back m1.dom)
theorem drop_cons {α : Type} {l : List α} {i : Nat} {d : α} (h : l[i]? = some d) : l.drop i = d :: l.drop (i + 1) := by
  obtain ⟨hi, e⟩ := List.getElem?_eq_some_iff.mp h
  rw [List.drop_eq_getElem_cons hi, e]
theorem l_for {wi : TI} {src : EM Src} {g : TG} {js : List Nat} {tm : D → En → Option En} (hp : PassesOwn (model X.prog X.w) X.A X.env X.xe) (hc : X.calm = true) (hi : PI X tg iter wi) (si : SrcIn ⟨X.K, ex⟩ W wi src) (hg : PG X tg g) (to : TgOk X.K js g tm) (hb : PSs X body (DS ⟨X.K, ex⟩ W f))
    (hs : ∀ x, foldedSetIterable iter X.env x = pure x := by intro _; rfl) : PS X (.For tg iter body [] pos) (DS ⟨X.K, ex⟩ W (sFor src tm f)) :=
  impS (ps_for hp hc hi hg hb hs) fun Q σ H h => by
    obtain ⟨ρ, F, y, E, e, hr⟩ := h
    refine si σ ρ F H _ _ y _ E e hr.err fun s ρ1 F1 H1 J S E1 m1 e1 fd st => ?_
    cases hrun : runFor tm f s.1 (lockE ρ1 s.2) with
    | none =>
      rw [hrun] at e1
      cases e1
    | some y' =>
      rw [hrun] at e1
      have ey : unlock ρ1 s.2 y' = y := by injection e1
      have hr' : ResS ⟨X.K, ex⟩ W σ (lockE ρ1 s.2) F1 H1 y' Q := by
        refine ResS.lock ?_
        rw [ey]
        exact hr.base m1
      have EL := E1.same (lock_same s.2 ρ1)
      refine ⟨fun i m σ' H' => m = s.1.length - i ∧ i ≤ s.1.length ∧ ∃ ρ' F', ER X.K σ' ρ' F' H' ∧ Fm σ (lockE ρ1 s.2) F1 H1 σ' ρ' F' H' ∧ runFor tm f (s.1.drop i) ρ' = some y', ⟨_, rfl, Nat.zero_le _, _, F1, EL, Fm.refl _ _ _ _, hrun⟩, ?_⟩
      rintro i m σ' H' ⟨rfl, hi, ρ', F', E', m', er⟩
      have hS : S F' H' := st σ' ρ' F' H' H' m' fun _ _ => rfl
      by_cases hlt : i < s.1.length
      · refine .inr ⟨fd.go i F' H' E'.sub hS hlt, fun σ2 H2 => ∃ ρ2 F2, ER X.K σ2 ρ2 F2 H2 ∧ Fm σ (lockE ρ1 s.2) F1 H1 σ2 ρ2 F2 H2 ∧ runFor tm f (s.1.drop (i + 1)) ρ2 = some y', ?_, fun x H2 yd => ?_⟩
        · rintro σ2 H2 ⟨ρ2, F2, h1, h2, h3⟩
          exact ⟨_, by omega, rfl, hlt, ρ2, F2, h1, h2, h3⟩
        · obtain ⟨d, hd, alt⟩ := fd.yld i F' H' x H2 E'.sub hS hlt yd
          rw [drop_cons hd] at er
          have er : (tm d ρ').bind (fun ρ1 => (f ρ1).bind (turnOut (runFor tm f (s.1.drop (i + 1))))) = some y' := er
          cases ht : tm d ρ' with
          | none =>
            rw [ht] at er
            cases er
          | some ρ2 =>
            rw [ht] at er
            have fin : ∀ F2 H2, ER X.K σ' ρ' F2 H2 → Fm σ (lockE ρ1 s.2) F1 H1 σ' ρ' F2 H2 → Rep X.K F2 x d → g x σ' H2 fun σ2 H2 => DS ⟨X.K, ex⟩ W f { Q with nx := fun σ2 H2 => ∃ ρ2 F2, ER X.K σ2 ρ2 F2 H2 ∧ Fm σ (lockE ρ1 s.2) F1 H1 σ2 ρ2 F2 H2 ∧ runFor tm f (s.1.drop (i + 1)) ρ2 = some y', ct := fun σ2 H2 => ∃ ρ2 F2, ER X.K σ2 ρ2 F2 H2 ∧ Fm σ (lockE ρ1 s.2) F1 H1 σ2 ρ2 F2 H2 ∧ runFor tm f (s.1.drop (i + 1)) ρ2 = some y', bk := Q.nx } σ2 H2 :=
              fun F2 H2 E2 m2 r2 => to.ok σ' ρ' F2 H2 x d ρ2 _ E2 r2 ht fun σ3 E3 m3 _ _ => turn_in E3 (m2.trans m3) hr' er fun σ4 ρ4 F4 H4 E4 m4 e4 => ⟨ρ4, F4, E4, m4, e4⟩
            rcases alt with ⟨rfl, r⟩ | ⟨p, vs, es, rfl, np, rfl, rfl, r⟩
            · exact fin F' H2 E' m' r
            · exact fin _ _ (E'.newF np) (m'.trans (Fm.newF E' np)) (.tup (st_of upd_same) (r.mono (Ex.new (none_sub E' np))))
      · have : i = s.1.length := by omega
        subst this
        rw [List.drop_length] at er
        have er : some (Except.ok (ε := Exc) Out.nx, ρ') = some y' := er
        cases er
        exact .inl ⟨fd.stop F' H' E'.sub hS, hr' σ' F' H' E' m'⟩
def fuel : Nat := 10 ^ 30
def sWhile (c : EM Bool) (body : EM Out) : EM Out := runWhile c body fuel
theorem l_while (hp : PassesOwn (model X.prog X.w) X.A X.env X.xe) (hc : PT X c (DT ⟨X.K, ex⟩ W bc)) (hb : PSs X body (DS ⟨X.K, ex⟩ W f)) : PS X (.While c body [] pos) (DS ⟨X.K, ex⟩ W (sWhile bc f)) :=
  impS (ps_while hp hc hb) fun Q σ H h => by
    obtain ⟨ρ, F, y, E, e, hr⟩ := h
    refine ⟨fun m σ' H' => ∃ ρ' F', ER X.K σ' ρ' F' H' ∧ Fm σ ρ F H σ' ρ' F' H' ∧ runWhile bc f m ρ' = some y, ⟨fuel, ρ, F, E, Fm.refl _ _ _ _, e⟩, ?_⟩
    rintro m σ' H' ⟨ρ', F', E', m', er⟩
    cases m with
    | zero => cases er
    | succ n =>
      have hr' : ResS ⟨X.K, ex⟩ W σ' ρ' F' H' y Q := hr.base m'
      refine (splitT (ρ0 := ρ') (F0 := F') (H0 := H') E' (Fm.refl _ _ _ _) er hr'.err).mono fun k H1 ⟨ρ1, F1, E1, m1, e1⟩ => ?_
      cases k with
      | true =>
        show ∃ N : L2.St → Hp → Prop, _
        refine ⟨fun σ2 H2 => ∃ ρ2 F2, ER X.K σ2 ρ2 F2 H2 ∧ Fm σ ρ F H σ2 ρ2 F2 H2 ∧ runWhile bc f n ρ2 = some y, fun σ2 H2 ⟨ρ2, F2, h1, h2, h3⟩ => ⟨n, Nat.lt_succ_self n, ρ2, F2, h1, h2, h3⟩, ?_⟩
        exact turn_in E1 (m'.trans m1) hr e1 fun σ4 ρ4 F4 H4 E4 m4 e4 => ⟨ρ4, F4, E4, m4, e4⟩
      | false =>
        cases e1
        show Q.nx σ' H1
        exact hr' σ' F1 H1 E1 m1
end

/-! ### [e for x in xs if c] -/
def wipeE (ρ : En) : List Nat → En
  | [] => ρ
  | v :: vs => (wipeE ρ vs).set v .unb
def backOne (ρ : En) (v : Nat) : Option Slot → En
  | some s => ρ.set v s
  | none => ρ
def backE (ρ0 ρ : En) : List Nat → En
  | [] => ρ
  | v :: vs => backOne (backE ρ0 ρ vs) v ρ0[v]?
def isOwn : Option Slot → Bool
  | some (.own _ _) => true
  | _ => false
def noOwn (ρ : En) (vs : List Nat) : Bool := vs.all fun v => !isOwn ρ[v]?
def lcTurn (c : EM Bool) (elt : EM R) : EM (Option D) := EM.bind c fun k => if k = true then EM.bind elt fun r => EM.bind (fz r) fun d => EM.pure (some d) else EM.pure none
def lcOut (k : List D → EM (List D)) (acc : List D) (ρ : En) (vs : List Nat) : Except Exc (Option D) × En → Option (Except Exc (List D) × En)
  | (.ok (some e), ρ2) => if acc.length < sizeLine then k (acc ++ [e]) (backE ρ ρ2 vs) else none
  | (.ok none, ρ2) => k acc (backE ρ ρ2 vs)
  | _ => none
def runLc (tm : D → En → Option En) (c : EM Bool) (elt : EM R) (vs : List Nat) : List D → List D → EM (List D)
  | [], acc => fun ρ => some (.ok acc, ρ)
  | d :: ds, acc => fun ρ => (tm d (wipeE ρ vs)).bind fun ρ1 => (lcTurn c elt ρ1).bind (lcOut (runLc tm c elt vs ds) acc ρ vs)
def lcEnd (ρ : En) (is : List Nat) : Except Exc (List D) × En → Option (Except Exc R × En)
  | (.ok acc, ρ') => some (.ok (.fr (.lst acc)), freeE ρ ρ' is)
  | _ => none
def eLc (src : EM Src) (tm : D → En → Option En) (c : EM Bool) (elt : EM R) (vs : List Nat) : EM R := EM.bind src fun s => fun ρ => if noOwn ρ vs = true then (runLc tm c elt vs s.1 [] (lockE ρ s.2)).bind (lcEnd ρ s.2) else none
def tYesM : EM Bool := EM.pure true
section
variable {K : PySem.W.Frag} {σ σ' σ2 : L2.St} {ρ ρ' ρ2 ρ0 : En} {F F' F0 F2 H H' H2 H0 : Hp} {vs : List Nat} {Dd : Addr}
theorem wipeE_len (ρ : En) : ∀ vs : List Nat, (wipeE ρ vs).length = ρ.length
  | [] => rfl
  | v :: vs => by
    show ((wipeE ρ vs).set v .unb).length = _
    rw [List.length_set, wipeE_len]
theorem wipeE_out : ∀ {vs : List Nat} {i : Nat}, i ∉ vs → (wipeE ρ vs)[i]? = ρ[i]?
  | [], _, _ => rfl
  | v :: vs, i, h => by
    show ((wipeE ρ vs).set v .unb)[i]? = _
    rw [List.getElem?_set_ne (ne_of_out h), wipeE_out fun z => h (List.mem_cons_of_mem _ z)]
theorem wipeE_in : ∀ {vs : List Nat} {i : Nat} {s : Slot}, i ∈ vs → (wipeE ρ vs)[i]? = some s → s = .unb
  | [], _, _, h, _ => by simp at h
  | v :: vs, i, s, h, e => by
    have e : ((wipeE ρ vs).set v .unb)[i]? = some s := e
    rcases get_set e with ⟨_, q⟩ | ⟨n, e⟩
    · exact q
    · exact wipeE_in ((List.mem_cons.mp h).resolve_left n) e
theorem wipe_outV : ∀ {vs : List Nat} {i : Nat}, i ∉ vs → (wipe σ vs)[i]? = σ[i]?
  | [], _, _ => rfl
  | v :: vs, i, h => by
    show ((wipe σ vs).set v none)[i]? = _
    rw [List.getElem?_set_ne (ne_of_out h), wipe_outV fun z => h (List.mem_cons_of_mem _ z)]
theorem wipe_inV : ∀ {vs : List Nat} {i : Nat}, i ∈ vs → i < σ.length → (wipe σ vs)[i]? = some none
  | [], _, h, _ => by simp at h
  | v :: vs, i, h, hl => by
    show ((wipe σ vs).set v none)[i]? = _
    by_cases z : v = i
    · subst z
      rw [List.getElem?_set_self (by rw [wipe_length]; exact hl)]
    · rw [List.getElem?_set_ne z]
      exact wipe_inV ((List.mem_cons.mp h).resolve_left (Ne.symm z)) hl
theorem wipe_ext (hl : σ2.length = σ.length) (h : ∀ k : Nat, k ∉ vs → σ2[k]? = σ[k]?) : wipe σ2 vs = wipe σ vs := by
  refine List.ext_getElem? fun i => ?_
  by_cases z : i ∈ vs
  · by_cases hi : i < σ.length
    · rw [wipe_inV z hi, wipe_inV z (by rw [hl]; exact hi)]
    · rw [List.getElem?_eq_none (by rw [wipe_length]; omega), List.getElem?_eq_none (by rw [wipe_length]; omega)]
  · rw [wipe_outV z, wipe_outV z, h i z]
theorem ER.wiped (E : ER K σ ρ F H) (vs : List Nat) : ER K (wipe σ vs) (wipeE ρ vs) F H := by
  have back : ∀ {i : Nat} {s : Slot}, (wipeE ρ vs)[i]? = some s → s ≠ .unb → i ∉ vs ∧ ρ[i]? = some s := fun {i s} h n => by
    have hi : i ∉ vs := fun z => n (wipeE_in z h)
    exact ⟨hi, by rw [← wipeE_out hi]; exact h⟩
  refine ⟨E.sub, by rw [wipe_length, wipeE_len, E.len], fun i d e => ?_, fun i m o e => ?_, fun i j m m' o o' a e1 e2 s1 s2 => ?_⟩
  · obtain ⟨h1, h2⟩ := back e (by intro z; cases z)
    rw [wipe_outV h1]
    exact E.val i d h2
  · obtain ⟨h1, h2⟩ := back e (by intro z; cases z)
    rw [wipe_outV h1]
    exact E.own i m o h2
  · obtain ⟨h1, h2⟩ := back e1 (by intro z; cases z)
    obtain ⟨g1, g2⟩ := back e2 (by intro z; cases z)
    rw [wipe_outV h1] at s1
    rw [wipe_outV g1] at s2
    exact E.dis i j m m' o o' a h2 g2 s1 s2
theorem backE_len (ρ0 ρ : En) : ∀ vs : List Nat, (backE ρ0 ρ vs).length = ρ.length
  | [] => rfl
  | v :: vs => by
    show (backOne (backE ρ0 ρ vs) v ρ0[v]?).length = _
    unfold backOne
    split
    · rw [List.length_set, backE_len]
    · rw [backE_len]
theorem backE_out : ∀ {vs : List Nat} {i : Nat}, i ∉ vs → (backE ρ0 ρ vs)[i]? = ρ[i]?
  | [], _, _ => rfl
  | v :: vs, i, h => by
    show (backOne (backE ρ0 ρ vs) v ρ0[v]?)[i]? = _
    have n : v ≠ i := fun z => h (z ▸ List.mem_cons_self)
    have ih : (backE ρ0 ρ vs)[i]? = ρ[i]? := backE_out fun z => h (List.mem_cons_of_mem _ z)
    unfold backOne
    split
    · rw [List.getElem?_set_ne n, ih]
    · exact ih
theorem backE_in : ∀ {vs : List Nat} {i : Nat}, ρ.length = ρ0.length → i ∈ vs → (backE ρ0 ρ vs)[i]? = ρ0[i]?
  | [], _, _, h => by simp at h
  | v :: vs, i, hl, h => by
    show (backOne (backE ρ0 ρ vs) v ρ0[v]?)[i]? = _
    by_cases z : v = i
    · subst z
      cases e : ρ0[v]? with
      | none =>
        show (backE ρ0 ρ vs)[v]? = none
        rw [List.getElem?_eq_none_iff] at e
        exact List.getElem?_eq_none (by rw [backE_len, hl]; exact e)
      | some s =>
        show ((backE ρ0 ρ vs).set v s)[v]? = some s
        rw [List.getElem?_set_self (by rw [backE_len, hl]; exact (List.getElem?_eq_some_iff.mp e).1)]
    · have ih := backE_in (vs := vs) (i := i) hl ((List.mem_cons.mp h).resolve_left (Ne.symm z))
      unfold backOne
      split
      · rw [List.getElem?_set_ne z, ih]
      · exact ih
theorem noOwn_at (h : noOwn ρ vs = true) {i : Nat} {m : M} {o : Ow} (hi : i ∈ vs) : ρ[i]? ≠ some (.own m o) := fun e => by
  have := List.all_eq_true.mp h i hi
  rw [e] at this
  cases this
/-- behind a turn: the outer names hold again what they held -/
theorem ER.backed (E : ER K σ ρ F H) (E2 : ER K σ2 ρ2 F2 H2) (ho : noOwn ρ vs = true) (hl : ρ2.length = ρ.length) (hs : ∀ k : Nat, k ∉ vs → σ2[k]? = σ[k]?) (ef : Ex F F2) : ER K σ (backE ρ ρ2 vs) F2 H2 ∧ ∀ a, Owns σ (backE ρ ρ2 vs) a → Owns σ2 ρ2 a := by
  have ow : ∀ {i : Nat} {m : M} {o : Ow}, (backE ρ ρ2 vs)[i]? = some (.own m o) → i ∉ vs ∧ ρ2[i]? = some (.own m o) := fun {i m o} e => by
    have hi : i ∉ vs := fun z => by
      rw [backE_in hl z] at e
      exact noOwn_at ho z e
    exact ⟨hi, (backE_out hi).symm.trans e⟩
  refine ⟨⟨E2.sub, by rw [backE_len, hl, E.len], fun i d e => ?_, fun i m o e => ?_, fun i j m m' o o' a e1 e2 s1 s2 => ?_⟩, fun a ⟨i, m, o, h1, h2⟩ => ?_⟩
  · by_cases z : i ∈ vs
    · rw [backE_in hl z] at e
      obtain ⟨v, h1, h2⟩ := E.val i d e
      exact ⟨v, h1, h2.mono ef⟩
    · rw [backE_out z] at e
      rw [← hs i z]
      exact E2.val i d e
  · obtain ⟨h1, h2⟩ := ow e
    rw [← hs i h1]
    exact E2.own i m o h2
  · obtain ⟨h1, h2⟩ := ow e1
    obtain ⟨g1, g2⟩ := ow e2
    rw [← hs i h1] at s1
    rw [← hs j g1] at s2
    exact E2.dis i j m m' o o' a h2 g2 s1 s2
  · obtain ⟨g1, g2⟩ := ow h1
    exact ⟨i, m, o, g2, by rw [hs i g1]; exact h2⟩
def off (H : Hp) (p : Addr) : Hp := fun a => if a = p then none else H a
theorem off_ne {a p : Addr} (h : a ≠ p) : off H p a = H a := if_neg h
theorem off_same {p : Addr} : off H p p = none := if_pos rfl
theorem upd_off {p : Addr} {o : HO} : upd (off H p) p o = upd H p o := by
  funext a
  by_cases z : a = p
  · rw [z, upd_same, upd_same]
  · rw [upd_ne z, upd_ne z, off_ne z]
theorem upd_self {p : Addr} {o : HO} (h : H p = some o) : upd H p o = H := by
  funext a
  by_cases z : a = p
  · rw [z, upd_same, h]
  · rw [upd_ne z]
theorem ER.off {p : Addr} (E : ER K σ ρ F H) (hF : F p = none) (n : ¬ Owns σ ρ p) : ER K σ ρ F (off H p) where
  sub := fun a o h => by
    rw [off_ne fun z => by rw [z, hF] at h; cases h]
    exact E.sub a o h
  len := E.len
  val := E.val
  own := fun i m o h => by
    obtain ⟨a, ho, h1, h2, h3, h4⟩ := E.own i m o h
    exact ⟨a, ho, h1, h2, by rw [off_ne (fun z => by rw [z] at h1; exact n ⟨i, m, o, h, h1⟩)]; exact h3, h4⟩
  dis := E.dis
end

/-- between two turns: Z the heap without the new list -/
def LcSt (K : PySem.W.Frag) (σ : L2.St) (ρL : En) (F1 H1 : Hp) (Dd : Addr) (vs : List Nat) (k : List D → EM (List D)) (y : Except Exc (List D) × En) (H' : Hp) : Prop :=
  ∃ Z ρ' F' accV acc, H' = upd Z Dd (.lst accV) ∧ Z Dd = none ∧ ER K σ ρ' F' Z ∧ Fm σ ρL F1 H1 σ ρ' F' Z ∧ RepL K F' accV acc ∧ noOwn ρ' vs = true ∧ k acc ρ' = some y
section
variable {X : Cx} {ex : Str → Addr} {pos : Pos} {c : EM Bool} {elt : EM R} {σ : L2.St} {ρL : En} {F1 H1 : Hp} {Dd : Addr} {vs js : List Nat} {k : List D → EM (List D)} {y : Except Exc (List D) × En}
abbrev WF : WX := fun _ _ _ _ => False
/-- one turn of a comprehension -/
theorem lc_turn {g : TG} {tm : D → En → Option En} (to : TgOk X.K js g tm) (hj : ∀ j ∈ js, j ∈ vs) (hD : H1 Dd = none) {Z : Hp} {ρ' : En} {F' : Hp} {accV : List V} {acc : List D} {H2 : Hp} {x : V} {d : D} (hZ : Z Dd = none) (E : ER X.K σ ρ' F' Z)
    (m : Fm σ ρL F1 H1 σ ρ' F' Z) (ra : RepL X.K F' accV acc) (no : noOwn ρ' vs = true) (e : ((tm d (wipeE ρ' vs)).bind fun ρ1 => (lcTurn c elt ρ1).bind (lcOut k acc ρ' vs)) = some y) (hH : H2 Dd = some (.lst accV))
    (alt : ∃ F2, ER X.K σ ρ' F2 H2 ∧ Fm σ ρ' F' (upd Z Dd (.lst accV)) σ ρ' F2 H2 ∧ F2 Dd = none ∧ Rep X.K F2 x d) (Nx : Hp → Prop) (hN : ∀ H', LcSt X.K σ ρL F1 H1 Dd vs k y H' → Nx H') :
    g x (wipe σ vs) H2 fun σ2 H2 => wipe σ2 vs = wipe σ vs ∧ (DT ⟨X.K, ex⟩ WF c) σ2 H2 fun b H3 =>
      if b = true then (DE ⟨X.K, ex⟩ WF elt) σ2 H3 fun y H4 => ∃ acc, H4 Dd = some (.lst acc) ∧ acc.length < sizeLine ∧ Nx (upd H4 Dd (.lst (acc ++ [y]))) else Nx H3 := by
  obtain ⟨F2, E2, m2, hF2, rx⟩ := alt
  have nD : ¬ Owns σ ρ' Dd := not_owns_new E hZ
  cases ht : tm d (wipeE ρ' vs) with
  | none =>
    rw [ht] at e
    cases e
  | some ρ1 =>
    rw [ht] at e
    have e : (lcTurn c elt ρ1).bind (lcOut k acc ρ' vs) = some y := e
    have EW := E2.wiped vs
    refine to.ok (wipe σ vs) (wipeE ρ' vs) F2 H2 x d ρ1 _ EW rx ht fun σ2 E3 m3 n1 n2 => ?_
    have out : ∀ i : Nat, i ∉ vs → σ2[i]? = σ[i]? := fun i hi => by rw [n1 i fun z => hi (hj i z), wipe_outV hi]
    have outE : ∀ i : Nat, i ∉ vs → ρ1[i]? = ρ'[i]? := fun i hi => by rw [n2 i fun z => hi (hj i z), wipeE_out hi]
    have len1 : ρ1.length = ρ'.length := by rw [m3.len, wipeE_len]
    have len2 : σ2.length = σ.length := by rw [E3.len, len1, E.len]
    refine ⟨wipe_ext len2 out, ?_⟩
    -- what is not owned outside is not owned within
    have ow1 : ∀ a o, H2 a = some o → ¬ Owns σ ρ' a → ¬ Owns σ2 ρ1 a := fun a o h n => by
      refine (m3.keep a o h fun ⟨i, mm, w, h1, h2⟩ => n ?_).2.2
      have hi : i ∉ vs := fun z => by
        have := wipeE_in z h1
        cases this
      rw [wipeE_out hi] at h1
      rw [wipe_outV hi] at h2
      exact ⟨i, mm, w, h1, h2⟩
    have nD1 := ow1 Dd _ hH nD
    -- an end of the turn
    have fin : ∀ {ρ2 : En} {F4 H4 : Hp} {accV' : List V} {acc' : List D}, ER X.K σ2 ρ2 F4 H4 → Fm σ2 ρ1 F2 H2 σ2 ρ2 F4 H4 → RepL X.K F4 accV' acc' → k acc' (backE ρ' ρ2 vs) = some y → LcSt X.K σ ρL F1 H1 Dd vs k y (upd H4 Dd (.lst accV')) := by
      intro ρ2 F4 H4 accV' acc' E4 m4 r4 e4
      have l4 : ρ2.length = ρ'.length := m4.len.trans len1
      have ef : Ex F' F4 := (m2.ex (E.newfr hZ)).trans (m4.ex E3)
      obtain ⟨EB, owB⟩ := E2.backed E4 no l4 out (m4.ex E3)
      obtain ⟨kD1, kD2, kD3⟩ := m4.keep Dd _ hH nD1
      have F4D : F4 Dd = none := kD2.trans hF2
      have nDB : ¬ Owns σ (backE ρ' ρ2 vs) Dd := fun z => kD3 (owB Dd z)
      have noB : noOwn (backE ρ' ρ2 vs) vs = true := by
        refine List.all_eq_true.mpr fun i hi => ?_
        rw [backE_in l4 hi]
        exact List.all_eq_true.mp no i hi
      refine ⟨off H4 Dd, backE ρ' ρ2 vs, F4, accV', acc', upd_off.symm, off_same, EB.off F4D nDB, ⟨?_, fun a h => ?_, fun a o h n => ?_, fun i mm o h n => ?_, fun i mm a h h2 => ?_⟩, r4, noB, e4⟩
      · rw [backE_len, l4, m.len]
      · have ha : a ≠ Dd := fun z => h (z ▸ hD)
        rw [off_ne ha]
        refine m4.dom a (m2.dom a ?_)
        rw [upd_ne ha]
        exact m.dom a h
      · have ha : a ≠ Dd := ne_of_none h hD
        obtain ⟨k1, k2, k3⟩ := m.keep a o h n
        obtain ⟨q1, q2, q3⟩ := m2.keep a o (by rw [upd_ne ha]; exact k1) k3
        obtain ⟨z1, z2, z3⟩ := m4.keep a o q1 (ow1 a o q1 q3)
        exact ⟨by rw [off_ne ha]; exact z1, z2.trans (q2.trans k2), fun z => z3 (owB a z)⟩
      · obtain ⟨⟨m', g1, g2⟩, g3⟩ := m.pin i mm o h n
        have hi : i ∉ vs := fun z => noOwn_at no z g1
        obtain ⟨⟨m'', q1, q2⟩, _⟩ := m4.pin i m' o (by rw [outE i hi]; exact g1) n
        exact ⟨⟨m'', by rw [backE_out hi]; exact q1, fun z => (q2 z).trans (g2 z)⟩, rfl⟩
      · obtain ⟨⟨m', g1, g2⟩, g3⟩ := m.pin i mm .lck h (by decide)
        have hi : i ∉ vs := fun z => noOwn_at no z g1
        have hl := m.lck i mm a h h2
        have hne : a ≠ Dd := fun z => nD ⟨i, m', .lck, g1, by rw [← z]; exact h2⟩
        have e2 := m2.lck i m' a g1 h2
        have e4 := m4.lck i m' a (by rw [outE i hi]; exact g1) (by rw [out i hi]; exact h2)
        rw [off_ne hne, e4, e2, upd_ne hne, hl]
    unfold lcTurn at e
    cases hz : EM.bind c (fun k => if k = true then EM.bind elt fun r => EM.bind (fz r) fun d => EM.pure (some d) else EM.pure none) ρ1 with
    | none =>
      rw [hz] at e
      cases e
    | some z =>
      rw [hz] at e
      have e : lcOut k acc ρ' vs z = some y := e
      have noerr : ErrOk ⟨X.K, ex⟩ WF σ2 ρ1 F2 H2 z := fun er ρ' q => by
        subst q
        cases e
      refine (splitT E3 (Fm.refl _ _ _ _) hz noerr).mono fun b H3 ⟨ρ3, F3, E4, m4, e4⟩ => ?_
      cases b with
      | false =>
        cases e4
        have e : k acc (backE ρ' ρ3 vs) = some y := e
        have kD := m4.keep Dd _ hH nD1
        have ef : Ex F' F3 := (m2.ex (E.newfr hZ)).trans (m4.ex E3)
        have := fin E4 m4 (ra.mono ef) e
        rw [upd_self kD.1] at this
        exact hN _ this
      | true =>
        show DE ⟨X.K, ex⟩ WF elt σ2 H3 _
        refine (split E4 m4 e4 noerr).mono fun v H4 ⟨r, ρ4, F4, E5, m5, _, rr, e5⟩ => ?_
        obtain ⟨d', ρ5, F5, Zf, e6⟩ := one_in E5 m5 (rr.back m4.dom) e5
        cases e6
        have e : (if acc.length < sizeLine then k (acc ++ [d']) (backE ρ' ρ5 vs) else none) = some y := e
        have kD := m5.keep Dd _ hH nD1
        have ef : Ex F' F5 := (m2.ex (E.newfr hZ)).trans (Zf.fm.ex E3)
        split at e
        · rename_i hlt
          exact ⟨accV, kD.1, by rw [ra.length]; exact hlt, hN _ (fin Zf.er Zf.fm ((ra.mono ef).append (.one Zf.rep)) e)⟩
        · cases e
variable {W : WX} {tg iter eltE : Expr} {ifs : List Expr} {scope : Scope} {own : List (Str × Nat)}
theorem lc_in {wi : TI} {src : EM Src} {g : TG} {tm : D → En → Option En} {Q : VK} {σ : L2.St} {H : Hp} (si : SrcIn ⟨X.K, ex⟩ W wi src) (to : TgOk X.K js g tm) (hj : ∀ j ∈ js, j ∈ vs) (h : DE ⟨X.K, ex⟩ W (eLc src tm c elt vs) σ H Q) :
    tLc wi g (DT ⟨X.K, ex⟩ WF c) (DE ⟨X.K, ex⟩ WF elt) vs σ H Q := by
  obtain ⟨ρ, F, y, E, e, hr⟩ := h
  refine si σ ρ F H _ _ y _ E e hr.err fun s ρ1 F1 H1 J S E1 m1 e1 fd st => ?_
  intro Dd hD
  by_cases hno : noOwn ρ1 vs = true
  · rw [if_pos hno] at e1
    cases hrun : runLc tm c elt vs s.1 [] (lockE ρ1 s.2) with
    | none =>
      rw [hrun] at e1
      cases e1
    | some y' =>
      rw [hrun] at e1
      have e1 : lcEnd ρ1 s.2 y' = some y := e1
      have EL := E1.same (lock_same s.2 ρ1)
      have noL : noOwn (lockE ρ1 s.2) vs = true := by
        refine List.all_eq_true.mpr fun i hi => ?_
        have h1 := List.all_eq_true.mp hno i hi
        rcases (lock_same s.2 ρ1).2 i with q | ⟨mm, o, o', q1, q2⟩
        · rw [q]
          exact h1
        · rw [q1] at h1
          cases h1
      refine ⟨fun i m H' => m = s.1.length - i ∧ i ≤ s.1.length ∧ LcSt X.K σ (lockE ρ1 s.2) F1 H1 Dd vs (fun acc => runLc tm c elt vs (s.1.drop i) acc) y' H', ⟨_, rfl, Nat.zero_le _, H1, lockE ρ1 s.2, F1, [], [], rfl, hD, EL, Fm.refl _ _ _ _, .nil, noL, hrun⟩, ?_⟩
      rintro i m H' ⟨rfl, hi, Z, ρ', F', accV, acc, rfl, hZ, E', m', ra, no, er⟩
      have hS : S F' (upd Z Dd (.lst accV)) := st σ ρ' F' _ Z m' fun a ha => upd_ne fun z => ha (z ▸ hD)
      have EN := E'.newfr (o := .lst accV) hZ
      by_cases hlt : i < s.1.length
      · refine .inr ⟨fd.go i F' _ EN.sub hS hlt, fun H2 => LcSt X.K σ (lockE ρ1 s.2) F1 H1 Dd vs (fun acc => runLc tm c elt vs (s.1.drop (i + 1)) acc) y' H2, fun H2 h2 => ⟨_, by omega, rfl, hlt, h2⟩, fun x H2 yd => ?_⟩
        obtain ⟨d, hd, alt⟩ := fd.yld i F' _ x H2 EN.sub hS hlt yd
        have er : runLc tm c elt vs (s.1.drop i) acc ρ' = some y' := er
        rw [drop_cons hd] at er
        rcases alt with ⟨rfl, r⟩ | ⟨p, us, es, rfl, np, rfl, rfl, r⟩
        · exact lc_turn to hj hD hZ E' m' ra no er upd_same ⟨F', EN, Fm.refl _ _ _ _, none_sub E' hZ, r⟩ _ fun H' h => h
        · have pD : Dd ≠ p := ne_of_none upd_same np
          refine lc_turn to hj hD hZ E' m' ra no er (by rw [upd_ne pD]; exact upd_same) ⟨_, EN.newF np, Fm.newF EN np, ?_, .tup (st_of upd_same) (r.mono (Ex.new (none_sub EN np)))⟩ _ fun H' h => h
          rw [upd_ne pD]
          exact none_sub E' hZ
      · have : i = s.1.length := by omega
        subst this
        have er : runLc tm c elt vs (s.1.drop s.1.length) acc ρ' = some y' := er
        rw [List.drop_length] at er
        have er : some (Except.ok (ε := Exc) acc, ρ') = some y' := er
        cases er
        have e1 : some (Except.ok (ε := Exc) (R.fr (.lst acc)), freeE ρ1 ρ' s.2) = some y := e1
        cases e1
        refine .inl ⟨fd.stop F' _ EN.sub hS, ?_⟩
        exact fin_new hr (E'.same (free_same s.2 ρ1 ρ')) (m1.trans m'.free) (.lst ra) hZ
  · rw [if_neg hno] at e1
    cases e1
theorem l_lc {wi : TI} {src : EM Src} {g : TG} {tm : D → En → Option En} (hc : X.calm = true) (hN : X.N.Nodup) (hi : PI X tg iter wi) (si : SrcIn ⟨X.K, ex⟩ W wi src) (ok : BlkOk X.N X.env.scope scope own) (to : TgOk X.K js g tm) (hj : ∀ j ∈ js, j ∈ own.map (·.2))
    (hg : ∀ (s : Shared) (H : Hp) (C : Addr) (cl : List (Str × Addr)) (fp : List Addr), PG (X.blk s H scope (compEnvC scope cl C X.env) fp) tg g) (ht : ∀ (s : Shared) (H : Hp) (C : Addr) (cl : List (Str × Addr)) (fp : List Addr), PTs (X.blk s H scope (compEnvC scope cl C X.env) fp) ifs (DT ⟨X.K, ex⟩ WF c))
    (he : ∀ (s : Shared) (H : Hp) (C : Addr) (cl : List (Str × Addr)) (fp : List Addr), PE (X.blk s H scope (compEnvC scope cl C X.env) fp) eltE (DE ⟨X.K, ex⟩ WF elt)) (hs : ∀ x, foldedSetIterable iter X.env x = pure x := by intro _; rfl) :
    PE X (.ListComp eltE [⟨tg, iter, ifs, 0⟩] scope pos) (DE ⟨X.K, ex⟩ W (eLc src tm c elt (own.map (·.2)))) := impE (pe_lc hc hN hi ok hg ht he hs) fun σ H Q h => lc_in si to hj h
theorem l_setLc {wi : TI} {src : EM Src} {g : TG} {tm : D → En → Option En} {i : Nat} {x : Str} {py spos : Pos} (hc : X.calm = true) (hN : X.N.Nodup) (hx : X.N[i]? = some x) (hxl : X.env.scope.names.lookup x = some .local)
    (hsw : swapsWith (.ListComp eltE [⟨tg, iter, ifs, 0⟩] scope pos) (some (.Name x py)) spos.line X.env = pure true) (hi : PI X tg iter wi) (si : SrcIn ⟨X.K, ex⟩ W wi src) (ok : BlkOk X.N X.env.scope scope own) (to : TgOk X.K js g tm) (hj : ∀ j ∈ js, j ∈ own.map (·.2))
    (hg : ∀ (s : Shared) (H : Hp) (C : Addr) (cl : List (Str × Addr)) (fp : List Addr), PG (X.blk s H scope (compEnvC scope cl C X.env) fp) tg g) (ht : ∀ (s : Shared) (H : Hp) (C : Addr) (cl : List (Str × Addr)) (fp : List Addr), PTs (X.blk s H scope (compEnvC scope cl C X.env) fp) ifs (DT ⟨X.K, ex⟩ WF c))
    (he : ∀ (s : Shared) (H : Hp) (C : Addr) (cl : List (Str × Addr)) (fp : List Addr), PE (X.blk s H scope (compEnvC scope cl C X.env) fp) eltE (DE ⟨X.K, ex⟩ WF elt)) (hs : ∀ x, foldedSetIterable iter X.env x = pure x := by intro _; rfl) :
    PS X (.Assign [.Name x py] (.ListComp eltE [⟨tg, iter, ifs, 0⟩] scope pos) spos) (DS ⟨X.K, ex⟩ W (sSet i (eLc src tm c elt (own.map (·.2))))) :=
  impS (ps_setLc hc hN hx hxl hsw hi ok hg ht he hs) fun Q σ H h => by
    obtain ⟨ρ, F, y, E, e, hr⟩ := h
    refine lc_in si to hj ((split E (Fm.refl σ ρ F H) e hr.err).mono fun v H1 ⟨r1, ρ1, F1, E1, m1, _, rr1, e1⟩ => ?_)
    cases hs : stor i r1 ρ1 with
    | none =>
      rw [bind_none hs] at e1
      cases e1
    | some z =>
      obtain ⟨ρ2, F2, rfl, h1, h2⟩ := stor_ok E1 m1 rr1 hs
      rw [bind_ok hs] at e1
      cases e1
      exact hr _ F2 H1 h1 h2
theorem l_yes {X' : Cx} : PTs X' [] (DT ⟨X'.K, ex⟩ WF tYesM) := ⟨fun pins s σ H Q I h => pts_nil.run pins s σ H Q I (by
  obtain ⟨ρ, F, y, E, e, hr⟩ := h
  cases e
  exact hr F H E (Fm.refl σ ρ F H))⟩
end
end LF
end

-- part LFRulesB
section
set_option Elab.async false
set_option linter.all false
set_option maxRecDepth 100000
set_option maxHeartbeats 2000000
namespace LF
open PySem PySem.Spec PyProof.Rows L2

/-! ### try .. except X: .. except Y: .. -/
abbrev Hd := Str × EM Out
/-- isa: which class is named by which clause -/
def handle (isa : Str → Str → Bool) (e : Exc) : List Hd → EM Out
  | [] => EM.raise e
  | (c, g) :: hs => if isa e.cls c = true then (fun ρ => (g ρ).bind fun y => match y with
    | (.error _, _) => none
    | (.ok o, ρ') => some (.ok o, ρ')) else handle isa e hs
def tryOut (cl : List Str) (isa : Str → Str → Bool) (hs : List Hd) : Except Exc Out × En → Option (Except Exc Out × En)
  | (.error e, ρ) => if cl.contains e.cls = true then handle isa e hs ρ else none
  | y => some y
def sTry (cl : List Str) (isa : Str → Str → Bool) (f : EM Out) (hs : List Hd) : EM Out := fun ρ => (f ρ).bind (tryOut cl isa hs)
/-- the clauses as HandS wants them -/
def hdL (C : Ctx) (vals : Str → Value) : List Hd → List (Value × (Addr → Value → Option Addr → TS))
  | [] => []
  | (c, g) :: hs => (vals c, fun _ _ _ => DS C WF g) :: hdL C vals hs
section
variable {X : Cx} {ex : Str → Addr} {W : WX} {pos : Pos} {body : List Stmt} {h₀ : ExceptHandler} {hds : List ExceptHandler} {f : EM Out} {hs : List Hd} {cl : List Str} {isa : Str → Str → Bool} {vals : Str → Value}
theorem many_in {D : Ends} {cls : Value} {d : Option Addr} {σ : L2.St} {ρ : En} {F H : Hp} {e : Exc} {x : Except Exc Out × En} (he : e.cls ∈ cl) (hx : ExcIs ⟨X.K, ex⟩ cls d H e) (E : ER X.K σ ρ F H) (hr : ResS ⟨X.K, ex⟩ W σ ρ F H x D) :
    ∀ {hs : List Hd}, (∀ p ∈ hs, ∀ y ∈ cl, PySem.W.exmOne X.K (.ref (ex y)) (vals p.1) = some (isa y p.1)) → handle isa e hs ρ = some x → wMany X.K W D (hdL ⟨X.K, ex⟩ vals hs) cls d σ H
  | [], _, h => by
    have h : some (Except.error e, ρ) = some x := h
    cases h
    exact hr cls d σ F H E (Fm.refl _ _ _ _) hx
  | (c, g) :: hs, hm, h => by
    have hc : cls = .ref (ex e.cls) := hx.1
    refine ⟨isa e.cls c, by rw [hc]; exact hm (c, g) List.mem_cons_self e.cls he, fun b a na => ?_, fun b => ?_⟩
    · have h : (if isa e.cls c = true then (fun ρ => (g ρ).bind fun y => match y with
        | (.error _, _) => none
        | (.ok o, ρ') => some (Except.ok (ε := Exc) o, ρ')) else handle isa e hs) ρ = some x := h
      rw [if_pos b] at h
      cases hg : g ρ with
      | none =>
        rw [hg] at h
        cases h
      | some y =>
        rw [hg] at h
        rcases y with ⟨y | o, ρ'⟩
        · cases h
        · cases h
          refine ⟨ρ, F, _, E, hg, fun σ' F' H' E' m' => ?_⟩
          exact hr σ' F' H' E' m'
    · have h : (if isa e.cls c = true then (fun ρ => (g ρ).bind fun y => match y with
        | (.error _, _) => none
        | (.ok o, ρ') => some (Except.ok (ε := Exc) o, ρ')) else handle isa e hs) ρ = some x := h
      rw [if_neg (by rw [b]; exact Bool.false_ne_true)] at h
      exact many_in he hx E hr (fun p hp => hm p (List.mem_cons_of_mem _ hp)) h
theorem l_try (hst : X.stack = X.env :: X.outer) (hf : X.env.frame = some X.env.locals) (tk : Takes X W) (hm : ∀ p ∈ hs, ∀ y ∈ cl, PySem.W.exmOne X.K (.ref (ex y)) (vals p.1) = some (isa y p.1))
    (hb : ∀ (W : WX) (pn : List (Addr × Obj)) (xe : Value → Shared → Prop), Takes (X.tr pn xe) W → PassesOwn (model X.prog X.w) X.A X.env xe → PSs (X.tr pn xe) body (DS ⟨X.K, ex⟩ W f))
    (hh : HdsOk X (h₀ :: hds) (hdL ⟨X.K, ex⟩ vals hs)) : PS X (.Try body (h₀ :: hds) [] [] pos) (DS ⟨X.K, ex⟩ W (sTry cl isa f hs)) :=
  impS (ps_try_many (tb := fun W => DS ⟨X.K, ex⟩ W f) hst hf tk hb hh) fun D σ H h => by
    obtain ⟨ρ, F, y, E, e, hr⟩ := h
    unfold sTry at e
    show DS ⟨X.K, ex⟩ (wMany X.K W D (hdL ⟨X.K, ex⟩ vals hs)) f D σ H
    cases hf : f ρ with
    | none =>
      rw [hf] at e
      cases e
    | some z =>
      rw [hf] at e
      have e : tryOut cl isa hs z = some y := e
      refine ⟨ρ, F, z, E, hf, ?_⟩
      rcases z with ⟨z | o, ρ'⟩
      · have e : (if cl.contains z.cls = true then handle isa z hs ρ' else none) = some y := e
        split at e
        · rename_i hcl
          have hcl : z.cls ∈ cl := by simpa using hcl
          exact fun cls d σ' F' H' E' m' q => many_in hcl q E' (hr.base m') hm e
        · cases e
      · cases e
        exact hr
theorem hd_nil : HdsOk X [] (hdL ⟨X.K, ex⟩ vals []) := .nil
theorem hd_cons {x : Str} {b₀ : Stmt} {suite : List Stmt} {np pos' : Pos} {hds : List ExceptHandler} {g : EM Out} {hs : List Hd} (hc : Names X x (vals x)) (hsu : ∀ (a : Addr) (oe : Obj) (pn : List (Addr × Obj)), PSs (X.suite a ((a, oe) :: pn)) (b₀ :: suite) (DS ⟨X.K, ex⟩ WF g)) (r : HdsOk X hds (hdL ⟨X.K, ex⟩ vals hs)) :
    HdsOk X (.ExceptHandler (some (.Name x np)) none (b₀ :: suite) pos' :: hds) (hdL ⟨X.K, ex⟩ vals ((x, g) :: hs)) := .cons hc (fun a oe cls d pn _ _ => hsu a oe pn) r
end
end LF
end

-- part LFRulesC
section
set_option Elab.async false
set_option linter.all false
set_option maxRecDepth 100000
set_option maxHeartbeats 2000000
namespace LF
open PySem PySem.Spec PyProof.Rows L2

/-! ### defs of the module -/
/-- the def st stands at the module's name x, with the parameters ps -/
def DefAt (K : PySem.W.Frag) (mg : Str → Option Value) (x : Str) (st : Stmt) (ps : List Str) : Prop := ∃ f fd, FunD K x x (defArgs st) (defBody st) (defScope st) [] [] f fd ∧ mg x = some (.ref f) ∧ Binds K fd ps []
/-- .. and does what F tells -/
def Ok (P : Program) (w : World) (K : PySem.W.Frag) (mg : Str → Option Value) (base : Heap) (ex : Str → Addr) (k : Nat) (x : Str) (ps : List Str) (F : EM R) : Prop :=
  ∃ f fd, mg x = some (.ref f) ∧ PySem.W.keepIn K (.ref f) = true ∧ Binds K fd ps [] ∧ FnOk P w K mg base (L2.CX P w) k f fd ps (spD ⟨K, ex⟩ F)
section
variable {P : Program} {w : World} {K : PySem.W.Frag} {mg : Str → Option Value} {base : Heap} {ex : Str → Addr} {k : Nat} {x : Str} {st : Stmt} {N ps : List Str} {b : EM Out}
theorem fn_mk {f : Addr} {fd : FuncData} (F : FunD K x x (defArgs st) (defBody st) (defScope st) [] [] f fd) (S : FnScope N ps (defScope st)) (hn : ps.length ≤ N.length)
    (h : ∀ (fA : Addr) (cdv : Value) (A : Around) (outer : List Env) (s : Shared) (H : Hp) (E : XK), Room k (cxOf (L2.CX P w) P w K mg base N x (defScope st) fA cdv A outer s H E).A → PSs (cxOf (L2.CX P w) P w K mg base N x (defScope st) fA cdv A outer s H E) (defBody st) (DS ⟨K, ex⟩ (fun cls d _ H => E cls d H) b)) :
    FnOk P w K mg base (L2.CX P w) (k + 1) f fd ps (spD ⟨K, ex⟩ (defF ps.length N.length b)) := by
  refine F.ok S (fun vs H Q E q => ?_) fun cdv A outer s H vs Q E hr q => ⟨_, h f cdv A outer s H E hr, def_end hn q⟩
  obtain ⟨args, F', y, E', e, _⟩ := q
  have h1 := E'.len
  rw [List.length_map] at h1
  unfold defF at e
  split at e
  · rename_i h2
    omega
  · cases e
theorem ok_mk (D : DefAt K mg x st ps) (S : FnScope N ps (defScope st)) (hn : ps.length ≤ N.length)
    (h : ∀ (fA : Addr) (cdv : Value) (A : Around) (outer : List Env) (s : Shared) (H : Hp) (E : XK), Room k (cxOf (L2.CX P w) P w K mg base N x (defScope st) fA cdv A outer s H E).A → PSs (cxOf (L2.CX P w) P w K mg base N x (defScope st) fA cdv A outer s H E) (defBody st) (DS ⟨K, ex⟩ (fun cls d _ H => E cls d H) b)) :
    Ok P w K mg base ex (k + 1) x ps (defF ps.length N.length b) := by
  obtain ⟨f, fd, F, hm, hb⟩ := D
  exact ⟨f, fd, hm, F.kp, hb, fn_mk F S hn h⟩
theorem ok_none (D : DefAt K mg x st ps) (k : Nat) : Ok P w K mg base ex k x ps (fun _ => none) := by
  obtain ⟨f, fd, F, hm, hb⟩ := D
  refine ⟨f, fd, hm, F.kp, hb, ⟨fun vs H Q E q => ?_, fun A outer s H args us vs Q E hr he hbn hv q => ?_⟩⟩
  · obtain ⟨args, F', y, E', e, _⟩ := q
    cases e
  · obtain ⟨args, F', y, E', e, _⟩ := q
    cases e
end
section
variable {X : Cx} {ex : Str → Addr} {W : WX} {pos : Pos} {f : EM R} {k : Nat} {fA : Addr} {fd : FuncData} {x : Str} {p : Pos}
/-- f() -/
theorem l_call0 (G : FnOk X.prog X.w X.K X.mg X.base (L2.CX X.prog X.w) k fA fd [] (spD ⟨X.K, ex⟩ f)) (hr : Room k X.A) (hm : X.mg x = some (.ref fA)) (hk : PySem.W.keepIn X.K (.ref fA) = true) (hb : Binds X.K fd [] []) (tk : Takes X W) (hg : Gl X x := by rfl) (hdb : (x == ("__debug__" : Str)) = false := by decide) :
    PE X (.Call (.Name x p) [] [] pos) (DE ⟨X.K, ex⟩ W (eCall f aNil)) := by
  refine ⟨fun pins s σ H Q I h => ?_⟩
  refine wpAny_Call_Name_kw (ld_glob I hg hm ?_ hdb)
  refine PySem.W.callWith_K0 I.kIn hk (run_fnS (us := []) (vs := []) (E := WE W) G hr hb (passAt tk σ) I .nil ?_)
  have := call_in h
  obtain ⟨ρ, F, y, E, e, hr⟩ := this
  cases e
  exact hr [] F H E (Fm.refl _ _ _ _) .nil
end
/-! ### what the module's top tells besides -/
structure XFacts (K : PySem.W.Frag) (mg : Str → Option Value) (x : Str) (C : Addr) : Prop where
  exc : PySem.W.excIn K C [.type "ValueError", .type "Exception", .type "BaseException", .type "object"] "ValueError.__new__" = true
  glo : mg x = some (.ref C)
  keep : PySem.W.keepIn K (.ref C) = true
  sub : PySem.W.subIn K (.ref C) (.type "BaseException") = some true
  ty : PySem.W.typeIn K (.ref C) = some (.type "type")
theorem XFacts.raises {K : PySem.W.Frag} {mg : Str → Option Value} {x : Str} {C : Addr} (h : XFacts K mg x C) {X : Cx} (hK : X.K = K) : Raises X (.ref C) := by
  subst hK
  exact raises_own h.sub h.ty
theorem lt_2 (K : PySem.W.Frag) : Op2 K (fun x y H Q => rI0 (fun i j => .bl (decide (i < j))) x y H Q ∨ ∃ i j, x = .str i ∧ y = .str j ∧ Q (.bl (decide (i.cps.toList < j.cps.toList))) H) gLt := ord_2 K
theorem le_2 (K : PySem.W.Frag) : Op2 K (fun x y H Q => rI0 (fun i j => .bl (decide (i ≤ j))) x y H Q ∨ ∃ i j, x = .str i ∧ y = .str j ∧ Q (.bl (!decide (j.cps.toList < i.cps.toList))) H) gLe := ord_2 K
theorem gt_2 (K : PySem.W.Frag) : Op2 K (fun x y H Q => rI0 (fun i j => .bl (decide (j < i))) x y H Q ∨ ∃ i j, x = .str i ∧ y = .str j ∧ Q (.bl (decide (j.cps.toList < i.cps.toList))) H) gGt := ord_2 K
theorem ge_2 (K : PySem.W.Frag) : Op2 K (fun x y H Q => rI0 (fun i j => .bl (decide (j ≤ i))) x y H Q ∨ ∃ i j, x = .str i ∧ y = .str j ∧ Q (.bl (!decide (i.cps.toList < j.cps.toList))) H) gGe := ord_2 K
end LF
namespace LF
open PySem PySem.Spec PyProof.Rows L2
theorem fm_nil {φ : Hd → Prop} : ∀ p ∈ ([] : List Hd), φ p := fun _ h => by simp at h
theorem fm_cons {K : PySem.W.Frag} {ex : Str → Addr} {vals : Str → Value} {isa : Str → Str → Bool} {cl : List Str} {c : Str} {g : EM Out} {hs : List Hd} (h : ∀ y ∈ cl, PySem.W.exmOne K (.ref (ex y)) (vals c) = some (isa y c))
    (r : ∀ p ∈ hs, ∀ y ∈ cl, PySem.W.exmOne K (.ref (ex y)) (vals p.1) = some (isa y p.1)) : ∀ p ∈ (c, g) :: hs, ∀ y ∈ cl, PySem.W.exmOne K (.ref (ex y)) (vals p.1) = some (isa y p.1) := fun p hp => by
  rcases List.mem_cons.mp hp with e | hp
  · subst e
    exact h
  · exact r p hp
/-! ### the law's end -/
def CXa (P : Program) : CXT := fun outer H s E u s' => ∃ w, L2.CX P w outer H s E u s'
theorem fn_cxa {P : Program} {w : World} {K : PySem.W.Frag} {mg : Str → Option Value} {base : Heap} {k : Nat} {f : Addr} {fd : FuncData} {ps : List Str} {sp : Sp} (F : FnOk P w K mg base (L2.CX P w) k f fd ps sp) : FnOk P w K mg base (CXa P) k f fd ps sp :=
  ⟨F.len, fun A outer s H args us vs Q E hr he hb hv hs => codeAny_mono (F.run A outer s H args us vs Q E hr he hb hv hs) fun r s' h => by
    cases r with
    | error e => exact ⟨w, h⟩
    | ok v => cases v <;> exact h⟩
theorem cxa_end {P : Program} (H : Hp) (s : Shared) (e : Value) (s' : Shared) (h : CXa P [] H s (fun _ _ _ => False) e s') : False := by
  obtain ⟨w, a, B, H', cls, d, h⟩ := h
  exact h.2.2.2.2.2.2.2
/-- the script -/
def scr (ns : List Int) : D := .dict [(.none, .list (ns.map .int))]
theorem ints_repL {K : PySem.W.Frag} {F : Hp} : ∀ xs : List Int, RepL K F (xs.map V.int) (xs.map .int)
  | [] => .nil
  | x :: xs => .cons (.int x) (ints_repL xs)
theorem end_sp {K : PySem.W.Frag} {ex : Str → Addr} {f : EM R} {H : Hp} {a : Addr} {ns : List Int} (hS : SqL K H a (ns.map V.int)) (h : ∃ ρ, f [.val (scr ns)] = some (.ok (.val (.bool true)), ρ)) :
    spD ⟨K, ex⟩ f [.ref a] H (fun v _ => v = .bl true) fun _ _ _ => False := by
  obtain ⟨ρ, h⟩ := h
  refine ⟨[.val (scr ns)], H, _, ⟨Ex.refl H, rfl, fun i d e => ?_, fun i m o e => ?_, fun i j m m' o o' a e => ?_⟩, h, fun v F' H' _ _ r => rep_bl r⟩
  · match i, e with
    | 0, e =>
      cases e
      exact ⟨_, rfl, .ro hS (ints_repL ns)⟩
  · match i, e with
    | 0, e => cases e
  · match i, e with
    | 0, e => cases e
end LF
end

-- part LFSetT
section
set_option Elab.async false
set_option linter.all false
set_option maxRecDepth 100000
set_option maxHeartbeats 4000000
namespace LF
open PySem PySem.Spec PyProof.Rows L2

/-! ### sets of texts: what is in them -/
def keyT (e : Int × Value) : Str := match e.2 with | .str k _ => k | _ => ⟨#[]⟩
def GoodT (w : World) (e : Int × Value) : Prop := ∃ k tk, e.2 = Value.str k tk ∧ e.1 = hashStr w k
def SetT (w : World) (h : Heap) (a : Addr) (l : List Str) : Prop :=
  ∃ o es ep t, h.get? a = some o ∧ o.ExactSet ∧ o.data = .set es ep t ∧ (∀ e ∈ es.toList, GoodT w e) ∧ (es.toList.map keyT).Perm l ∧ l.Nodup ∧
    es.size < scanBound ∧ t.fits es.size = true ∧ Ris t.place.toList ∧ (w.params.followText "set-order" = true ∨ t.led = true)
def addL (l : List Str) (k : Str) : List Str := if k ∈ l then l else k :: l
section
variable {P : Program} {w : World} {h h' : Heap} {a : Addr} {l : List Str}
theorem SetT.at (R : SetT w h a l) (k : ∀ o, h.get? a = some o → h'.get? a = some o) : SetT w h' a l := by
  obtain ⟨o, es, ep, t, ho, r⟩ := R
  exact ⟨o, es, ep, t, k o ho, r⟩
theorem goodT_elems {l : List (Int × Value)} (g : ∀ e ∈ l, GoodT w e) : ElemsOf (PySem.strKind P w) l := fun e he => by
  obtain ⟨k, tk, h1, h2⟩ := g e he
  refine ⟨⟨k, ?_, h2⟩, ?_⟩
  · rw [h1]
    exact PySem.strKind_is _ _ _ _
  · rw [h1]
    rfl
theorem goodT_is {e : Int × Value} (g : GoodT w e) (k : Str) : (PySem.strKind P w).is k e.2 = true ↔ keyT e = k := by
  obtain ⟨k0, tk, h1, h2⟩ := g
  unfold keyT
  rw [h1]
  constructor
  · intro z
    exact ((PySem.strKind P w).inj _ _ _ z (PySem.strKind_is P w k0 tk)).symm
  · intro z
    subst z
    exact PySem.strKind_is _ _ _ _
theorem goodT_mem {l : List (Int × Value)} (g : ∀ e ∈ l, GoodT w e) (k : Str) : k ∈ l.map keyT ↔ ∃ e ∈ l, (PySem.strKind P w).is k e.2 = true := by
  rw [List.mem_map]
  exact ⟨fun ⟨e, he, q⟩ => ⟨e, he, (goodT_is (g e he) k).2 q⟩, fun ⟨e, he, q⟩ => ⟨e, he, (goodT_is (g e he) k).1 q⟩⟩
end

section
variable {P : Program} {w : World} {A : Around} {E : Value → Shared → Prop} {s : Shared} {a : Addr} {l : List Str}
theorem setT_add_tail {g : Bool → Sem Unit} (hg : ∀ (b : Bool) (s₁ : Shared) (Q' : Unit → Shared → Prop), Q' () s₁ → wpAny (model P w) A (g b) Q' E s₁)
    {o : Obj} {es : Array (Int × Value)} {ep : Nat} {t : SetTable} (ho : s.heap.get? a = some o) (hex : o.ExactSet) (hd : o.data = .set es ep t)
    {es1 : Array (Int × Value)} {t2 : SetTable} {l' : List Str} (g1 : ∀ e ∈ es1.toList, GoodT w e) (p1 : (es1.toList.map keyT).Perm l') (nd1 : l'.Nodup)
    (hb1 : es1.size < scanBound) (hf2 : t2.fits es1.size = true) (hr : Ris t2.place.toList) (hl : w.params.followText "set-order" = true ∨ t2.led = true) {wasDummy : Bool} {R : Option Bool → Shared → Prop}
    (hR : ∀ h', Heap.SameBut a s.heap h' → SetT w h' a l' → R (some true) { s with heap := h' }) :
    wpAny (model P w) A (do
        storeSet a es1 t2
        if (!wasDummy && t2.tooFull) = true then do
            g (relayAll t2 es1 (SetTable.grown es1.size)).2.2
            storeSet a (relayAll t2 es1 (SetTable.grown es1.size)).1 (relayAll t2 es1 (SetTable.grown es1.size)).2.1
            pure (some true)
          else pure (some true)) R E s := by
  refine wpAny_bind (wpAny_storeSet_of ho hd ?_ (fits_of_scanBound hb1))
  have ho1 := store_at (es' := es1) (t' := t2) ho hd
  have sb1 := Heap.SameBut.update s.heap a (Obj.putSet es1 t2)
  split
  · have pm := relayAll_perm t2 es1 (SetTable.grown es1.size)
    have hf3 := relayAll_fits t2 es1 (SetTable.grown es1.size)
    have hr3 := relayAll_ris t2 es1 (SetTable.grown es1.size)
    have hl3 := relayAll_led t2 es1 (SetTable.grown es1.size)
    generalize relayAll t2 es1 (SetTable.grown es1.size) = Z at pm hf3 hr3 hl3 ⊢
    obtain ⟨es2, t3, gave⟩ := Z
    dsimp only at pm hf3 hr3 hl3 ⊢
    have hsz : es2.size = es1.size := by rw [← Array.length_toList, pm.length_eq, Array.length_toList]
    have hb2 : es2.size < scanBound := by rw [hsz]; exact hb1
    refine wpAny_bind (hg _ _ _ ?_)
    refine wpAny_bind (wpAny_storeSet_of ho1 rfl ?_ (fits_of_scanBound hb2))
    have ho2 := store_at (es' := es2) (t' := t3) ho1 rfl
    refine wpAny_pure (hR _ (sb1.trans (Heap.SameBut.update _ a _)) ?_)
    exact ⟨_, es2, _, t3, ho2, hex, rfl, fun e he => g1 e (pm.mem_iff.mp he), (pm.map keyT).trans p1, nd1, hb2, hf3, hr3,
      hl.imp id fun z => by rw [hl3]; exact z⟩
  · exact wpAny_pure (hR _ sb1 ⟨_, es1, _, t2, ho1, hex, rfl, g1, p1, nd1, hb1, hf2, hr, hl⟩)

theorem setT_add_hashed {k : Str} {tk : Tok} {Q : Bool → Shared → Prop} (R : SetT w s.heap a l) (room : l.length + 1 < scanBound)
    (hQ : ∀ h' b, Heap.SameBut a s.heap h' → SetT w h' a (addL l k) → Q b { s with heap := h' }) :
    wpAny (model P w) A (setAddHashed a (.str k tk) ((PySem.strKind P w).hash k)) Q E s := by
  obtain ⟨o, es, ep, t, ho, hex, hd, g, pl, nd, hb, hf, hr, hl⟩ := R
  have hkey : (PySem.strKind P w).is k (.str k tk) = true := PySem.strKind_is P w k tk
  have hsc : (Value.str k tk).scannable = true := rfl
  have hel : ElemsOf (PySem.strKind P w) es.toList := goodT_elems g
  unfold setAddHashed setAddHashedIn
  refine wpAny_holding (wpAny_bind (wpAny_setState_of ho hd hf ?_))
  dsimp only
  rw [byScan_of hsc hb hel]
  simp only [↓reduceIte]
  unfold setAddByScan
  refine wpAny_bind ?_
  refine wpAny_bind (wpAny_rule ?_)
  refine wpAny_bind (wpAny_setScan_of hkey ho hd hf hel ?_)
  cases hfi : List.findIdx? (fun e => (PySem.strKind P w).is k e.2) es.toList with
  | some j =>
    dsimp only
    obtain ⟨hj, pj, _⟩ := List.findIdx?_eq_some_iff_getElem.mp hfi
    have hk : k ∈ l := pl.mem_iff.mp ((goodT_mem (P := P) (w := w) g k).2 ⟨es.toList[j], List.getElem_mem hj, pj⟩)
    refine wpAny_pure (wpAny_pure ?_)
    refine hQ s.heap _ (Heap.SameBut.refl a s.heap) ?_
    unfold addL
    rw [if_pos hk]
    exact ⟨o, es, ep, t, ho, hex, hd, g, pl, nd, hb, hf, hr, hl⟩
  | none =>
    dsimp only
    have hnk : k ∉ l := fun z => by
      obtain ⟨e, he, q⟩ := (goodT_mem (P := P) (w := w) g k).1 (pl.mem_iff.mpr z)
      have c := List.findIdx?_eq_none_iff.mp hfi e he
      rw [q] at c
      cases c
    have hgw : ∀ (b : Bool) {s₁ : Shared} {Q' : Unit → Shared → Prop}, Q' () s₁ → wpAny (model P w) A (match b with | true => rule "set.scan.the-table-gave-way" | false => pure ()) Q' E s₁ :=
      fun b s₁ Q' q => by cases b <;> first | exact wpAny_pure q | exact wpAny_rule q
    have pm := layNew_perm t es ((PySem.strKind P w).hash k) (.str k tk)
    have hf1 := layNew_fits t es ((PySem.strKind P w).hash k) (.str k tk)
    have hr1 := layNew_ris t es ((PySem.strKind P w).hash k) (.str k tk) hr
    have hl1 := layNew_led t es ((PySem.strKind P w).hash k) (.str k tk)
    generalize layNew t es ((PySem.strKind P w).hash k) (.str k tk) = Z at pm hf1 hr1 hl1 ⊢
    obtain ⟨es1, t1, wasDummy, gave⟩ := Z
    dsimp only at pm hf1 hr1 hl1 ⊢
    rw [Array.toList_push] at pm
    have pc : es1.toList.Perm (((PySem.strKind P w).hash k, Value.str k tk) :: es.toList) := pm.trans (List.perm_append_singleton _ _)
    have pk : (es1.toList.map keyT).Perm (k :: l) := (pc.map keyT).trans (List.Perm.cons k pl)
    have g1 : ∀ e ∈ es1.toList, GoodT w e := fun e he => by
      rcases List.mem_cons.mp (pc.mem_iff.mp he) with z | z
      · rw [z]; exact ⟨k, tk, rfl, rfl⟩
      · exact g e z
    have nd1 : (k :: l).Nodup := List.nodup_cons.mpr ⟨hnk, nd⟩
    have hsz : es1.size = l.length + 1 := by
      have q := pk.length_eq
      rw [List.length_map, Array.length_toList] at q
      exact q
    have hb1 : es1.size < scanBound := by rw [hsz]; exact room
    have hled : w.params.followText "set-order" = true ∨ t1.led = true := hl.imp id fun z => by rw [hl1]; exact z
    have fin : ∀ h', Heap.SameBut a s.heap h' → SetT w h' a (k :: l) → Q true { s with heap := h' } := fun h' sb r => by
      refine hQ h' _ sb ?_
      unfold addL
      rw [if_neg hnk]
      exact r
    refine wpAny_bind (hgw _ ?_)
    split
    · refine wpAny_bind ?_
      rw [hashByValue_scannable 8 hsc]
      refine wpAny_pure ?_
      refine setT_add_tail ?_ ho hex hd g1 pk nd1 hb1 ?_ ?_ ?_ ?_
      · intro b s₁ Q' q; cases b <;> first | exact wpAny_pure q | exact wpAny_rule q
      · first | (split <;> first | exact hf1 | exact SetTable.fits_plain_off hf1) | exact hf1
      · first | (split <;> exact hr1) | exact hr1
      · first | (split <;> exact hled) | exact hled
      · intro h' sb r; dsimp only; exact wpAny_pure (fin h' sb r)
    · refine wpAny_bind (wpAny_pure ?_)
      simp only [↓reduceIte]
      refine setT_add_tail ?_ ho hex hd g1 pk nd1 hb1 hf1 hr1 hled ?_
      · intro b s₁ Q' q; cases b <;> first | exact wpAny_pure q | exact wpAny_rule q
      · intro h' sb r; dsimp only; exact wpAny_pure (fin h' sb r)
end

/-! ### the loop of set(..) -/
section
variable {prog : Program} {w : World} {A : Around} {R : Result → Shared → Prop} {I : Addr} {fp wr : List Addr} {G : Array GenState → Array GenState → Prop} {n : Nat} {P : Nat → Value → Prop} {St : Nat → Shared → Prop}
def gathL (xs : List Str) : List Str := xs.foldl addL []
theorem gath_len (xs : List Str) : ∀ l : List Str, (xs.foldl addL l).length ≤ l.length + xs.length := by
  induction xs with
  | nil => intro l; simp
  | cons x xs ih =>
    intro l
    have h := ih (addL l x)
    have h2 : (addL l x).length ≤ l.length + 1 := by unfold addL; split <;> simp
    simp only [List.foldl_cons, List.length_cons]
    omega
theorem loopT (W : WalksS prog w A.in1 I fp wr G n P St) (S : Addr) (hSf : S ∉ fp) (xs : List Str) (hsz : xs.length = n) (hn : n + 1 < scanBound)
    (hval : ∀ i v, P i v → ∃ t, v = .str (xs.getD i Str.empty) t) :
    ∀ (k i : Nat) (s : Shared), n - i = k → i ≤ n → St i s →
      SetT w s.heap S (gathL (xs.take i)) →
      (∀ s', Moved (S :: wr) G s s' → SetT w s'.heap S (gathL xs) → R (.ok (.ret .none)) s') →
      codeAny (model prog w) A (.builtin "set.update.loop" ⟨[.ref S, .ref I], []⟩) R s := by
  have hSw : S ∉ wr := fun h => hSf (W.sub _ h)
  have hsub : ∀ b ∈ wr, b ∈ S :: wr := fun b hb => List.mem_cons_of_mem _ hb
  intro k
  induction k with
  | zero =>
    intro i s hk hi hst hS hR
    have hin : i = n := by omega
    subst hin
    refine codeAny_builtin PyProof.Rows.F.entry_set_update_loop ?_
    rw [Around.under_plainId PyProof.Rows.F.plain_set_update_loop _]
    show wpAny _ A.in1 (pyNext (.ref I) >>= _) _ _ s
    refine wpAny_bind (W.done s _ _ hst fun s' hm => ?_)
    show wpAny _ A.in1 (ret Value.none) _ _ s'
    rw [← hsz, List.take_length] at hS
    exact wpAny_pure (hR s' (hm.mono hsub) (hS.at fun o e => hm.heap S _ hSw e))
  | succ k ih =>
    intro i s hk hi hst hS hR
    have hlt : i < n := by omega
    refine codeAny_builtin PyProof.Rows.F.entry_set_update_loop ?_
    rw [Around.under_plainId PyProof.Rows.F.plain_set_update_loop _]
    show wpAny _ A.in1 (pyNext (.ref I) >>= _) _ _ s
    refine wpAny_bind (W.item i s _ _ hlt hst fun v s' hP hst' hm => ?_)
    obtain ⟨t, rfl⟩ := hval i v hP
    have hS' : SetT w s'.heap S (gathL (xs.take i)) := hS.at fun o e => hm.heap S _ hSw e
    show wpAny _ A.in1 (holding [Value.str (xs.getD i Str.empty) t] (setAdd S (.str (xs.getD i Str.empty) t)) >>= _) _ _ s'
    refine wpAny_bind (wpAny_holding ?_)
    unfold setAdd
    refine wpAny_holding ?_
    refine wpAny_bind ((PySem.strKind prog w).pyHash (k := xs.getD i Str.empty) (PySem.strKind_is _ _ _ _) ?_)
    have hroom : (gathL (xs.take i)).length + 1 < scanBound := by
      have q := gath_len (xs.take i) []
      rw [List.length_take] at q
      unfold gathL
      simp only [List.length_nil, Nat.zero_add] at q
      omega
    refine setT_add_hashed (s := { s' with toks := s'.toks + 1 }) hS' hroom fun h' b hsb hS2 => ?_
    have hSi : SetT w h' S (gathL (xs.take (i + 1))) := by
      have e : gathL (xs.take (i + 1)) = addL (gathL (xs.take i)) (xs.getD i Str.empty) := by
        have hx : i < xs.length := by omega
        rw [List.take_add_one, List.getElem?_eq_getElem hx]
        unfold gathL
        rw [List.foldl_append, List.getD_eq_getElem?_getD, List.getElem?_eq_getElem hx]
        rfl
      rw [e]
      exact hS2
    refine wpAny_pure ⟨plainId_quiet PyProof.Rows.F.plain_set_update_loop _, ih (i + 1) _ (by omega) hlt (W.frame _ s' _ _ hst' (Nat.le_succ _) fun b hb o e => ?_) hSi fun s'' hm'' hS'' => ?_⟩
    · rw [hsb.2 b (fun h : b = S => hSf (by rw [← h]; exact hb))]; exact e
    · refine hR s'' (Moved.trans W.gtrans ((hm.mono hsub).then_heap (Nat.le_succ _) fun b o hb e => ?_) hm'') hS''
      rw [hsb.2 b (fun h : b = S => hb (by rw [h]; exact List.mem_cons_self))]; exact e
end

section
variable {prog P : Program} {w : World} {A : Around} {E : Value → Shared → Prop} {s : Shared}
theorem code_set_led1 (a : Value) {Q₁ : Value → Shared → Prop}
    (h : Q₁ (.ref s.heap.objs.size) { s with heap := s.heap.push { cls := .type "set", dict := none, data := .set #[] 0 (.fresh 0 0 (!w.params.followText "set-order")) } }) :
    codeAny (model P w) A (.call (.builtin "set.__new__") ⟨[.type "set", a], []⟩) (wants Q₁ E) s := by
  refine codeAny_of_tree ?_
  show wpAny _ A.in1 (do checkBuiltinCall "set.__new__" ⟨[.type "set", a], []⟩; again (.builtin "set.__new__" ⟨[.type "set", a], []⟩)) _ _ s
  refine wpAny_bind (wpAny_of_eq (F.newCall_set_1 a) (wpAny_pure ⟨plainId_quiet F.plain_set_new _, codeAny_builtin F.entry_set_new ?_⟩))
  rw [Around.under_plainId F.plain_set_new _]
  unfold Builtin.«set.__new__» Builtin.Frozenset.newClass
  have hsub := sub_set_self
  obtain ⟨hp, g, d, tk, os⟩ := s
  dsimp only
  wp_walk
  refine wpAny_askSetting (wpAny_pure ?_)
  dsimp only
  simp only [newObj]
  refine wpAny_bind (wpAny_alloc (wpAny_pure ?_))
  exact wpAny_pure h
theorem setT_fresh {h : Heap} (w : World) : SetT w (h.push { cls := .type "set", dict := none, data := .set #[] 0 (.fresh 0 0 (!w.params.followText "set-order")) }) h.objs.size [] :=
  ⟨_, #[], 0, _, Heap.get?_push_size _ rfl, ⟨rfl, rfl, rfl⟩, rfl, (fun e he => by simp at he), (by simp), List.nodup_nil, (by decide), (by rfl), List.Pairwise.nil, by
    show _ ∨ (!w.params.followText "set-order") = true
    cases w.params.followText "set-order"
    · exact .inr rfl
    · exact .inl rfl⟩
end
end LF
end

-- part LFSetT2
section
set_option Elab.async false
set_option linter.all false
set_option maxRecDepth 100000
set_option maxHeartbeats 4000000
namespace LF
open PySem PySem.Spec PyProof.Rows L2
section
variable {prog P : Program} {w : World} {A : Around} {E : Value → Shared → Prop} {s : Shared} {a : Addr} {l : List Str}
theorem call_setT_list {l : Addr} {items : Array Value} {xs : List Str} {Q : Value → Shared → Prop}
    (hh : A.handled = none) (hl : s.heap.IsList l items) (hi : PyProof.Rows.StrsAre items.toList xs) (hn : xs.length + 1 < scanBound)
    (h : ∀ (h' : Heap) (tk : Nat), SetT w h' s.heap.objs.size (gathL xs) →
      (∀ b o, b < s.heap.objs.size → s.heap.get? b = some o → h'.get? b = some o) → Q (.ref s.heap.objs.size) { s with heap := h', toks := tk }) :
    wpAny (model prog w) A (call (.type "set") [.ref l]) Q E s := by
  obtain ⟨c, tl, hmro⟩ := PySem.F.called_set.mro
  have hmade := PySem.F.called_set.made
  have hsub := PySem.F.called_set.sub
  refine wpAny_call (codeAny_of_tree ?_)
  show wpAny _ _ (callAny (.type "set") _) _ _ _
  refine wpAny_pure ⟨Code.quiet_builtin _ (by decide +kernel), codeAny_builtin PySem.F.entry_type_call ?_⟩
  rw [Around.under_plain (weight_type_call_type "set" [.ref l] []) rfl]
  have h1 := PySem.F.called_set.notType
  have h2 := PySem.F.called_set.canCreate
  have hct := PySem.F.typeCall_set_1 (.ref l)
  repeat (any_goals (first | assumption | wp_step))
  refine codeAny_mono (code_set_led1 (.ref l) (E := E) (Q₁ := fun obj s₁ => obj = .ref s.heap.objs.size ∧ s₁ = { s with heap := s.heap.push { cls := .type "set", dict := none, data := .set #[] 0 (.fresh 0 0 (!w.params.followText "set-order")) } }) ⟨rfl, rfl⟩) fun r s₁ hr => ?_
  cases r with
  | error e => exact hr
  | ok fl =>
    cases fl with
    | ret obj =>
      obtain ⟨rfl, rfl⟩ := hr
      have hS : (s.heap.push { cls := .type "set", dict := none, data := .set #[] 0 (.fresh 0 0 (!w.params.followText "set-order")) }).get? s.heap.objs.size = some { cls := .type "set", dict := none, data := .set #[] 0 (.fresh 0 0 (!w.params.followText "set-order")) } := Heap.get?_push_size _ rfl
      have hT : Shared.TypeIs { s with heap := s.heap.push { cls := .type "set", dict := none, data := .set #[] 0 (.fresh 0 0 (!w.params.followText "set-order")) } } (.ref s.heap.objs.size) "set" := ⟨_, hS, rfl⟩
      have hli := PySem.F.called_set.init.lookup
      have hbi := PySem.F.called_set.init.bind (.ref s.heap.objs.size)
      repeat (any_goals (first | assumption | wp_step))
      refine codeAny_mono (codeAny_call_builtin (R := wants (fun r s₂ => r = .none ∧ ∃ h' tk, s₂ = { s with heap := h', toks := tk } ∧
          SetT w h' s.heap.objs.size (gathL xs) ∧
          (∀ b o, b < s.heap.objs.size → s.heap.get? b = some o → h'.get? b = some o)) E) PySem.F.called_set.init.plain PySem.F.entry_set_init (check_set_init_1 hT ?_)) fun r₂ s₂ hr₂ => ?_
      · obtain ⟨ol, hol, hcl, nl, hdl⟩ := hl
        obtain ⟨ocls, odict, odata, oslots⟩ := ol
        simp only at hcl hdl
        subst hcl; subst hdl
        have hol' : (s.heap.push { cls := .type "set", dict := none, data := .set #[] 0 (.fresh 0 0 (!w.params.followText "set-order")) }).get? l = some { cls := .type "list", dict := odict, data := .seq items nl, slots := oslots } := Heap.get?_push_of_some _ hol
        have hsls := PySem.F.sub_list_set
        have hslf := PySem.F.sub_list_frozenset
        have hne : (Value.type "list" == Value.type "dict") = false := by decide
        have hl1 : (s.heap.push { cls := .type "set", dict := none, data := .set #[] 0 (.fresh 0 0 (!w.params.followText "set-order")) }).IsList l items := ⟨_, hol', rfl, nl, rfl⟩
        unfold Builtin.«set.__init__» noKeywords Builtin.Frozenset.updateFrom
        generalize hPI : pyIter = PI
        wp_walk
        subst hPI
        refine wpAny_pyIter_list hl1 ?_
        refine wpAny_bind (wpAny_runValue ?_)
        have hlS : l < s.heap.objs.size := Heap.lt_size hol
        have hh3 : A.in1.in1.in1.handled = none := by simp [hh]
        have hneI : l ≠ (s.heap.push { cls := .type "set", dict := none, data := .set #[] 0 (.fresh 0 0 (!w.params.followText "set-order")) }).objs.size := by
          rw [Heap.size_push]; exact Nat.ne_of_lt (Nat.lt_succ_of_lt hlS)
        have hSf : s.heap.objs.size ∉ [(s.heap.push { cls := .type "set", dict := none, data := .set #[] 0 (.fresh 0 0 (!w.params.followText "set-order")) }).objs.size, l] := by
          rw [Heap.size_push]; simp only [List.mem_cons, List.mem_singleton, List.not_mem_nil, or_false, not_or]
          exact ⟨Nat.ne_of_lt (Nat.lt_succ_self _), Nat.ne_of_gt hlS⟩
        have hsz : xs.length = items.size := by rw [← StrsAre.len_eq hi, Array.length_toList]
        have hval : ∀ (i : Nat) (v : Value), items[i]? = some v → ∃ t, v = .str (xs.getD i Str.empty) t := fun i v hv => SS.strs_at hi i v (by rw [Array.getElem?_toList]; exact hv)
        refine loopT ((Walks.list hh3 _ l hneI items).toS) s.heap.objs.size
          hSf xs hsz (by rw [← hsz]; exact hn) hval (items.size - 0) 0 _ (by omega) (Nat.zero_le _)
          ⟨⟨_, Heap.get?_push_size _ rfl, rfl, rfl⟩, (hl1.push _)⟩ ?hS0 ?hR
        case hS0 => exact (setT_fresh w).at fun o e => Heap.get?_push_of_some _ e
        case hR =>
          intro s' hm hS'
          obtain ⟨h', g', d', tk', os'⟩ := s'
          have eg : g' = s.gens := hm.gens
          have ed : d' = s.drawn := hm.drawn
          have eo : os' = s.os := hm.os
          subst eg; subst ed; subst eo
          show wpAny _ _ _ _ _ _
          refine wpAny_pure ?_
          show wpAny _ _ (ret Value.none) _ _ _
          refine wpAny_pure ⟨rfl, h', tk', rfl, hS', fun b o hb e => ?_⟩
          have hb1 : b ≠ s.heap.objs.size := Nat.ne_of_lt hb
          have hb2 : b ≠ (s.heap.push { cls := .type "set", dict := none, data := .set #[] 0 (.fresh 0 0 (!w.params.followText "set-order")) }).objs.size := by
            rw [Heap.size_push]; exact Nat.ne_of_lt (Nat.lt_succ_of_lt hb)
          exact hm.heap b o (by simp only [List.mem_cons, List.mem_singleton, List.not_mem_nil, or_false, not_or]; exact ⟨hb1, hb2⟩) (Heap.get?_push_of_some _ (Heap.get?_push_of_some _ e))
      · cases r₂ with
        | error e => exact hr₂
        | ok fl₂ =>
          cases fl₂ with
          | ret r =>
            obtain ⟨rfl, h', tk, rfl, hS', hk'⟩ := hr₂
            repeat (any_goals (first | assumption | wp_step))
            exact h _ _ hS' hk'
          | _ => exact hr₂.elim
    | _ => exact hr.elim
theorem call_setT_str {x : Str} {t : Tok} {Q : Value → Shared → Prop}
    (hh : A.handled = none) (hn : x.cps.size + 1 < scanBound)
    (h : ∀ (h' : Heap) (tk : Nat), SetT w h' s.heap.objs.size (gathL (x.cps.toList.map fun c => (⟨#[c]⟩ : Str))) →
      (∀ b o, b < s.heap.objs.size → s.heap.get? b = some o → h'.get? b = some o) → Q (.ref s.heap.objs.size) { s with heap := h', toks := tk }) :
    wpAny (model prog w) A (call (.type "set") [.str x t]) Q E s := by
  obtain ⟨c, tl, hmro⟩ := PySem.F.called_set.mro
  have hmade := PySem.F.called_set.made
  have hsub := PySem.F.called_set.sub
  refine wpAny_call (codeAny_of_tree ?_)
  show wpAny _ _ (callAny (.type "set") _) _ _ _
  refine wpAny_pure ⟨Code.quiet_builtin _ (by decide +kernel), codeAny_builtin PySem.F.entry_type_call ?_⟩
  rw [Around.under_plain (weight_type_call_type "set" [.str x t] []) rfl]
  have h1 := PySem.F.called_set.notType
  have h2 := PySem.F.called_set.canCreate
  have hct := PySem.F.typeCall_set_1 (.str x t)
  repeat (any_goals (first | assumption | wp_step))
  refine codeAny_mono (code_set_led1 (.str x t) (E := E) (Q₁ := fun obj s₁ => obj = .ref s.heap.objs.size ∧ s₁ = { s with heap := s.heap.push { cls := .type "set", dict := none, data := .set #[] 0 (.fresh 0 0 (!w.params.followText "set-order")) } }) ⟨rfl, rfl⟩) fun r s₁ hr => ?_
  cases r with
  | error e => exact hr
  | ok fl =>
    cases fl with
    | ret obj =>
      obtain ⟨rfl, rfl⟩ := hr
      have hS : (s.heap.push { cls := .type "set", dict := none, data := .set #[] 0 (.fresh 0 0 (!w.params.followText "set-order")) }).get? s.heap.objs.size = some { cls := .type "set", dict := none, data := .set #[] 0 (.fresh 0 0 (!w.params.followText "set-order")) } := Heap.get?_push_size _ rfl
      have hT : Shared.TypeIs { s with heap := s.heap.push { cls := .type "set", dict := none, data := .set #[] 0 (.fresh 0 0 (!w.params.followText "set-order")) } } (.ref s.heap.objs.size) "set" := ⟨_, hS, rfl⟩
      have hli := PySem.F.called_set.init.lookup
      have hbi := PySem.F.called_set.init.bind (.ref s.heap.objs.size)
      repeat (any_goals (first | assumption | wp_step))
      refine codeAny_mono (codeAny_call_builtin (R := wants (fun r s₂ => r = .none ∧ ∃ h' tk, s₂ = { s with heap := h', toks := tk } ∧
          SetT w h' s.heap.objs.size (gathL (x.cps.toList.map fun c => (⟨#[c]⟩ : Str))) ∧
          (∀ b o, b < s.heap.objs.size → s.heap.get? b = some o → h'.get? b = some o)) E) PySem.F.called_set.init.plain PySem.F.entry_set_init (check_set_init_1 hT ?_)) fun r₂ s₂ hr₂ => ?_
      · have hsls := PySem.F.sub_str_set
        have hslf := PySem.F.sub_str_frozenset
        have hne : (Value.type "str" == Value.type "dict") = false := by decide
        unfold Builtin.«set.__init__» noKeywords Builtin.Frozenset.updateFrom
        generalize hPI : pyIter = PI
        wp_walk
        subst hPI
        refine wpAny_pyIter_str fun ob St Wk hst => ?_
        refine wpAny_bind (wpAny_runValue ?_)
        have hh3 : A.in1.in1.in1.handled = none := by simp [hh]
        have hSf : s.heap.objs.size ∉ [(s.heap.push { cls := .type "set", dict := none, data := .set #[] 0 (.fresh 0 0 (!w.params.followText "set-order")) }).objs.size] := by
          rw [Heap.size_push]; simp only [List.mem_singleton]
          exact Nat.ne_of_lt (Nat.lt_succ_self _)
        have hval : ∀ (i : Nat) (v : Value), SignAt x i v → ∃ t, v = .str ((x.cps.toList.map fun c => (⟨#[c]⟩ : Str)).getD i Str.empty) t := fun i v ⟨c, u, hc, e⟩ => ⟨u, by
          rw [e, List.getD_eq_getElem?_getD, List.getElem?_map, Array.getElem?_toList, hc]
          rfl⟩
        refine loopT ((Wk _ hh3).toS) s.heap.objs.size
          hSf (x.cps.toList.map fun c => (⟨#[c]⟩ : Str)) (by simp) (by simpa using hn) hval (x.cps.size - 0) 0 _ (by omega) (Nat.zero_le _)
          hst ?hS0 ?hR
        case hS0 => exact (setT_fresh w).at fun o e => Heap.get?_push_of_some _ e
        case hR =>
          intro s' hm hS'
          obtain ⟨h', g', d', tk', os'⟩ := s'
          have eg : g' = s.gens := hm.gens
          have ed : d' = s.drawn := hm.drawn
          have eo : os' = s.os := hm.os
          subst eg; subst ed; subst eo
          show wpAny _ _ _ _ _ _
          refine wpAny_pure ?_
          show wpAny _ _ (ret Value.none) _ _ _
          refine wpAny_pure ⟨rfl, h', tk', rfl, hS', fun b o hb e => ?_⟩
          have hb1 : b ≠ s.heap.objs.size := Nat.ne_of_lt hb
          have hb2 : b ≠ (s.heap.push { cls := .type "set", dict := none, data := .set #[] 0 (.fresh 0 0 (!w.params.followText "set-order")) }).objs.size := by
            rw [Heap.size_push]; exact Nat.ne_of_lt (Nat.lt_succ_of_lt hb)
          exact hm.heap b o (by simp only [List.mem_cons, List.mem_singleton, List.not_mem_nil, or_false, not_or]; exact ⟨hb1, hb2⟩) (Heap.get?_push_of_some _ (Heap.get?_push_of_some _ e))
      · cases r₂ with
        | error e => exact hr₂
        | ok fl₂ =>
          cases fl₂ with
          | ret r =>
            obtain ⟨rfl, h', tk, rfl, hS', hk'⟩ := hr₂
            repeat (any_goals (first | assumption | wp_step))
            exact h _ _ hS' hk'
          | _ => exact hr₂.elim
    | _ => exact hr.elim
end
end LF
end

-- part LFSetT3
section
set_option Elab.async false
set_option linter.all false
set_option maxRecDepth 100000
set_option maxHeartbeats 4000000
namespace LF
open PySem PySem.Spec PyProof.Rows L2
section
variable {prog P : Program} {w : World} {A : Around} {E : Value → Shared → Prop} {s : Shared} {a : Addr} {l : List Str}

theorem strsT_of : ∀ (vs : List Value), (∀ v ∈ vs, ∃ k tk, v = Value.str k tk) → StrsAre vs (vs.map strOf)
  | [], _ => .nil
  | v :: vs, h => by
    obtain ⟨k, tk, rfl⟩ := h v List.mem_cons_self
    exact .cons k tk (strsT_of vs fun u hu => h u (List.mem_cons_of_mem _ hu))
theorem sorted_setT {Q : Value → Shared → Prop} (R : SetT w s.heap a l) (hh : A.handled = none) (h64 : l.length < 64)
    (hQ : ∀ s' p (out : Array Value) (c : Nat) (ns : List Str), (∀ b o, s.heap.get? b = some o → s'.heap.get? b = some o) → s'.gens = s.gens → s'.os = s.os → s.heap.objs.size ≤ p →
      s'.heap.get? p = some (seqObj "list" out c) → StrsAre out.toList ns → ns.Perm l → sortedS ns = true → Q (.ref p) s') :
    wpAny (model P w) A (call (.builtin "sorted") [.ref a]) Q E s := by
  obtain ⟨o, es, ep, t, ho, hex, hd, g, pl, nd, hb, hf, hr, hl⟩ := R
  refine Calls.call_function_entry kind_sorted plain_sorted entry_sorted (args_sorted1 _) ?_
  unfold Builtin.«sorted»
  refine wpAny_bind (m := checkCount "sorted" 1 1 _) (wpAny_pure ?_)
  refine wpAny_bind (collect_set (A := A.in1) hh ⟨o, ho, hex.1, hd⟩ hf hb hr hl fun s1 vs k1 hz g1 o1 pm => ?_)
  have hesl : es.size = l.length := by
    have q := pl.length_eq
    rw [List.length_map, Array.length_toList] at q
    exact q
  have hvl : vs.length = l.length := by rw [pm.length_eq, List.length_map, Array.length_toList]; exact hesl
  have hI : StrsAre vs (vs.map strOf) := strsT_of vs fun v hv => by
    obtain ⟨e, he, q⟩ := List.mem_map.mp (pm.mem_iff.mp hv)
    obtain ⟨k, tk, h1, _⟩ := g e he
    exact ⟨k, tk, by rw [← q]; exact h1⟩
  have pk : (vs.map strOf).Perm l := by
    have q := pm.map strOf
    rw [List.map_map] at q
    have e : (strOf ∘ fun e : Int × Value => e.2) = keyT := rfl
    rw [e] at q
    exact q.trans pl
  refine wpAny_bind (wpAny_newList ?_ (by rw [hvl, sizeLine_eq]; omega))
  have hoL : (s1.heap.push (seqObj "list" vs.toArray 0)).get? s1.heap.objs.size = some (seqObj "list" vs.toArray 0) := Heap.get?_push_size _ rfl
  refine wpAny_bind (wpAny_holding (wpAny_call_entry slot_list_sort ⟨_, hoL, rfl⟩ entry_list_sort (list_sort_treeK strKind_oneLt hoL hI.keysOf (fun v₁ v₂ rest e => keyKind_strs (by rw [← e]; exact hI)) (by rw [hvl]; exact h64) fun st' hp hs => ⟨_, rfl, ?_⟩) (args_list_sort _)))
  obtain ⟨ns', a1, a2, a3⟩ := sorted_out_str hI hp hs
  obtain ⟨c, hc⟩ := sortedHeap_at (vs := vs) (out := (arrOf st').map (·.2)) hoL
  refine wpAny_pure ⟨_, rfl, hQ _ s1.heap.objs.size _ c ns' (fun b u e => ?_) g1 o1 hz hc a1 (a2.trans pk) a3⟩
  have q := k1 b u e
  have hlt := Heap.lt_size q
  show (sortedHeap (s1.heap.push (seqObj "list" vs.toArray 0)) s1.heap.objs.size vs ((arrOf st').map (·.2))).get? b = some u
  rw [sortedHeap_old (Nat.ne_of_lt hlt) (by rw [size_push']; exact Nat.lt_succ_of_lt hlt)]
  exact Heap.get?_push_of_some _ q
end
end LF
end

-- part LFRulesD
section
set_option Elab.async false
set_option linter.all false
set_option maxRecDepth 100000
set_option maxHeartbeats 4000000
namespace LF
open PySem PySem.Spec PyProof.Rows L2

/-! ### xs[a:b] = ys, b behind the end too -/
section
variable {prog : Program} {w : World} {A : Around} {E : Value → Shared → Prop} {s : Shared}
theorem bounds_clip {a c n : Nat} (hac : a ≤ c) (ha : a ≤ n) : sliceBounds (some (a : Int)) (some (c : Int)) none n = ((a : Int), ((min c n : Nat) : Int), 1) := by
  simp only [sliceBounds, Option.getD_none]
  have h1 : ¬ ((a : Int) < 0) := by omega
  have h2 : ¬ ((c : Int) < 0) := by omega
  simp only [h1, h2, if_false, show (1 : Int) > 0 by decide, if_true]
  congr 1
  · omega
  · congr 1; omega
theorem setItem_sliceC {l b sl : Addr} {items new : Array Value} {n n2 : Nat} {vl vu : Value} {a c : Nat} {Q : Unit → Shared → Prop}
    (e : s.heap.get? l = some { cls := .type "list", data := .seq items n }) (e2 : s.heap.get? b = some { cls := .type "list", data := .seq new n2 }) (hne : l ≠ b)
    (hs : s.heap.IsSliceOf sl vl vu .none) (pl : IsPart vl (some (a : Int))) (pu : IsPart vu (some (c : Int))) (hac : a ≤ c) (ha : a ≤ items.size)
    (hsz : items.size + new.size ≤ sizeLine) (h : Q () { s with heap := s.heap.update l (Obj.mapSeq fun xs => xs.extract 0 a ++ new ++ xs.extract (min c items.size) xs.size) }) :
    wpAny (model prog w) A (setItem (.ref l) (.ref sl) (.ref b)) Q E s := by
  have hl : s.heap.IsList l items := PySem.IsL.isList e
  have hb : s.heap.IsList b new := PySem.IsL.isList e2
  obtain ⟨os, hos, hcs, hds⟩ := id hs
  have hTs : s.TypeIs (.ref sl) "slice" := ⟨os, hos, hcs⟩
  have hstep : ¬ ((rawPart none == rawInt 0) = true) := Bool.false_ne_true
  have hsame : Builtin.List.listSameRef (.ref l) (.ref b) = false := by
    unfold Builtin.List.listSameRef
    exact beq_eq_false_iff_ne.mpr hne
  have hmax : (max (a : Int) ((min c items.size : Nat) : Int)).toNat = min c items.size := by omega
  have hz' : ((fun xs : Array Value => xs.extract 0 a ++ new ++ xs.extract (min c items.size) xs.size) items).size ≤ sizeLine + 1 := by
    simp only [Array.size_append, Array.size_extract]
    omega
  unfold setItem
  try with_reducible refine wpAny_holding ?_
  first | refine wpAny_bind (wpAny_pure ?_) | skip
  refine wpAny_bind (wpAny_sequenceKey hl.typeIs (by decide) ?_)
  refine wpAny_bind (wpAny_callSpecial?_slot (name := Str.ofString "__setitem__") hl.typeIs slot_list_setitem
    (wpAny_call_entry slot_list_setitem hl.typeIs entry_list_setitem ?_ (args_list_setitem _ _ _)))
  show wpAny _ _ (Builtin.List.listSubscript? (.ref sl) >>= _) _ _ s
  refine wpAny_bind ?_
  unfold Builtin.List.listSubscript?
  refine wpAny_bind (wpAny_specialOf hTs slice_no_index ?_)
  simp only [Option.isNone_none, if_true]
  refine wpAny_pure ?_
  show wpAny _ _ (typeOf (.ref sl) >>= _) _ _ s
  refine wpAny_bind (wpAny_typeOf hTs ?_)
  first
    | rw [if_neg (by decide)]
    | refine PySem.W.KFB.if_not (by decide) ?_
  rw [listSliceParts_eq]
  refine wpAny_bind (wpAny_bind (wpAny_field hos hds (x := .none) rfl (wpAny_bind (wpAny_listPart .none ?_))))
  rw [if_neg hstep]
  refine wpAny_bind (wpAny_field hos hds (x := vl) rfl (wpAny_bind (wpAny_listPart pl ?_)))
  refine wpAny_bind (wpAny_field hos hds (x := vu) rfl (wpAny_bind (wpAny_listPart pu (wpAny_pure ?_))))
  first
    | simp only [hsame, Bool.false_eq_true, if_false]
    | refine PySem.W.KFB.if_not hsame ?_
    | (dsimp only
       rw [if_neg (by rw [hsame]; exact Bool.false_ne_true)])
  refine wpAny_bind (m := Builtin.List.listAllItems (.ref b) "must assign iterable to extended slice") ?_
  unfold Builtin.List.listAllItems
  refine wpAny_bind (wpAny_typeOf hb.typeIs ?_)
  first
    | refine PySem.W.KFB.if_so (by decide) ?_
    | rw [if_pos (by decide)]
    | simp only [beq_self_eq_true, Bool.true_or, if_true]
  unfold Builtin.List.listItems
  refine wpAny_bind (wpAny_seqItems e2 rfl (wpAny_pure ?_))
  refine wpAny_bind (wpAny_bind (wpAny_seqItems e rfl (wpAny_pure ?_)))
  refine wpAny_bind (wpAny_of_eq ((sliceIndices_raw (some (a : Int)) (some (c : Int)) none items.size (by simp)).trans (congrArg (pure : Int × Int × Int → Sem (Int × Int × Int)) (bounds_clip hac ha))) ?_)
  show wpAny _ _ (if ((1 : Int) == 1) = true then _ else _) _ _ s
  rw [if_pos (by decide)]
  refine wpAny_bind (wpAny_rule ?_)
  first
    | simp only [notLongL hsz, Bool.false_eq_true, if_false]
    | refine PySem.W.KFB.if_not (notLongL hsz) ?_
  first | refine wpAny_bind (wpAny_pure ?_) | skip
  show wpAny _ _ (updateSeq l (fun xs => xs.extract 0 ((a : Int)).toNat ++ new ++ xs.extract (max (a : Int) ((min c items.size : Nat) : Int)).toNat xs.size) >>= _) _ _ s
  rw [hmax, Int.toNat_natCast]
  refine wpAny_bind (wpAny_updateSeq (hz := Nat.le_trans (Nat.le_add_right _ _) hsz) (_hz' := hz') e rfl ?_)
  refine wpAny_bind (wpAny_letGo ?_)
  first
    | exact wpAny_bind (wpAny_pure (wpAny_pure ⟨.none, rfl, wpAny_pure h⟩))
    | exact wpAny_pure ⟨.none, rfl, wpAny_pure h⟩
end
section
variable {X : Cx}
theorem set_sliceC {pins : List (Addr × Obj)} {s : Shared} {σ : L2.St} {H : Hp} {l b sl : Addr} {xs ys : List V} {a c : Nat} {vl vu : Value} {Q : Unit → Shared → Prop} (I : Inv X pins σ H s)
    (hH : H l = some (.lst xs)) (hB : H b = some (.lst ys)) (hne : l ≠ b) (hs : s.heap.IsSliceOf sl vl vu .none) (ra : RelV (.int a) vl) (rc : RelV (.int c) vu) (hac : a ≤ c) (ha : a ≤ xs.length)
    (hz : xs.length + ys.length ≤ sizeLine) (h : ∀ s', Inv X pins σ (upd H l (.lst (xs.take a ++ ys ++ xs.drop (min c xs.length)))) s' → Q () s') :
    wpAny (model X.prog X.w) X.A (setItem (.ref l) (.ref sl) (.ref b)) Q X.xe s := by
  obtain ⟨ta, rfl⟩ := ra
  obtain ⟨tc, rfl⟩ := rc
  obtain ⟨z, its, n, r, hl, e⟩ := I.lstM hH
  obtain ⟨z2, its2, n2, r2, hl2, e2⟩ := I.lstM hB
  refine setItem_sliceC (a := a) (c := c) e e2 hne hs (.int _ _) (.int _ _) hac (by rw [List.size_toArray]; omega) (by rw [List.size_toArray, List.size_toArray]; omega) (h _ ?_)
  refine I.lset (its' := its.take a ++ its2 ++ its.drop (min c xs.length)) (t' := s.toks) hH e ?_ (Vals.append (Vals.append (r.take _) r2) (r.drop _)) ?_
  · have q : min c its.toArray.size = min c xs.length := by rw [List.size_toArray, hl]
    rw [q]
    exact splice_eq its its2 a (min c xs.length)
  · rw [List.length_append, List.length_append, List.length_take, List.length_drop]
    omega
def gSl (to : TE) (tl th : TE) : TG := fun v σ H Q => to σ H fun o H1 => tl σ H1 fun x H2 => th σ H2 fun y H3 => ∃ (l b : Addr) (xs ys : List V) (a c : Nat), o = .ref l ∧ v = .ref b ∧ x = .int a ∧ y = .int c ∧ l ≠ b ∧
  H3 l = some (.lst xs) ∧ H3 b = some (.lst ys) ∧ a ≤ c ∧ a ≤ xs.length ∧ xs.length + ys.length ≤ sizeLine ∧ Q σ (upd H3 l (.lst (xs.take a ++ ys ++ xs.drop (min c xs.length))))
theorem pg_sl {o e1 e2 : Expr} {to tl th : TE} {p2 pos : Pos} (ho : PE X o to) (hl : PE X e1 tl) (hh : PE X e2 th)
    (ha : ∀ v, assign (.Subscript o (.Slice (some e1) (some e2) none p2) pos) X.env v = (do
      let ov ← holding [v] (eval o X.env)
      let iv ← holding [v, ov] (eval (.Slice (some e1) (some e2) none p2) X.env)
      standAt pos
      holding [v, ov, iv] (setItem ov iv v)
      release [iv, v, ov] []) := by intro _; rfl) : PG X (.Subscript o (.Slice (some e1) (some e2) none p2) pos) (gSl to tl th) := by
  refine ⟨fun pins s σ H v u Q I r h => ?_⟩
  rw [ha]
  refine wpAny_bind (wpAny_holding (thn (ho.run pins s σ H _ I h) fun ov s1 ⟨x, H1, I1, r1, q1⟩ => ?_))
  refine wpAny_bind (wpAny_holding ?_)
  refine wpAny_Slice (thn (hl.run pins s1 σ H1 _ I1 q1) fun vl s2 ⟨xl, H2, I2, r2, q2⟩ => thn (hh.run pins s2 σ H2 _ I2 q2) fun vu s3 ⟨xu, H3, I3, r3, q3⟩ => ?_)
  rw [evalPart_none]
  refine wpAny_pure ?_
  obtain ⟨l, b, xs, ys, a, c, rfl, rfl, rfl, rfl, hne, k1, k2, hac, haz, hz, q⟩ := q3
  have I4 : Inv X pins σ H3 { s3 with heap := s3.heap.push { cls := .type "slice", data := .fields #[vl, vu, .none] } } := I3.kept (t' := s3.toks) fun b ob q => Heap.get?_push_of_some _ q
  cases r1
  cases r
  refine wpAny_bind (wpAny_standAt (wpAny_bind (wpAny_holding (set_sliceC I4 k1 k2 hne (Heap.IsSliceOf.new ..) r2 r3 hac haz hz fun s' I5 => ?_))))
  exact wpAny_release ⟨σ, _, I5, q⟩
end
section
variable {X : Cx} {ex : Str → Addr} {W : WX} {pos pos' p p2 : Pos} {e a b c o : Expr} {fa fb fc fd : EM R} {x : Str}
def slSt (r : R) (k m : Option D) (o : Option (List D × Ow)) : Option (List D × Ow) := match r, k, m, o with
  | .fr (.lst ys), some (.int k), some (.int m), some (xs, w) => if 0 ≤ k ∧ k ≤ m ∧ k ≤ xs.length ∧ xs.length + ys.length ≤ sizeLine then some (xs.take k.toNat ++ ys ++ xs.drop (min m.toNat xs.length), w) else none
  | _, _, _, _ => none
theorem slSt_ok {r : R} {k m : Option D} {o : Option (List D × Ow)} {z : List D × Ow} (h : slSt r k m o = some z) : ∃ ys a c xs w, r = .fr (.lst ys) ∧ k = some (.int (a : Nat)) ∧ m = some (.int (c : Nat)) ∧ o = some (xs, w) ∧ a ≤ c ∧ a ≤ xs.length ∧ xs.length + ys.length ≤ sizeLine ∧ z = (xs.take a ++ ys ++ xs.drop (min c xs.length), w) := by
  unfold slSt at h
  split at h
  · split at h
    · rename_i k m xs w hc
      obtain ⟨c0, c1, c2, c3⟩ := hc
      obtain ⟨a', rfl⟩ := Int.eq_ofNat_of_zero_le c0
      obtain ⟨c', rfl⟩ := Int.eq_ofNat_of_zero_le (Int.le_trans c0 c1)
      cases h
      exact ⟨_, a', c', xs, w, rfl, rfl, rfl, rfl, by omega, by omega, c3, by simp only [Int.toNat_natCast]⟩
    · cases h
  · cases h
def sSetSl (i : Nat) (fv fl fh : EM R) : EM Out := EM.bind fv fun r => fun ρ => (ownL ρ[i]?).bind fun _ => EM.bind fl (fun q => EM.bind fh fun q' => fun ρ => (slSt r (rd q ρ) (rd q' ρ) (ownL ρ[i]?)).map fun z => (.ok .nx, ρ.set i (.own (.lst z.1) z.2))) ρ
theorem l_setSl {i : Nat} (hv : PE X e (DE ⟨X.K, ex⟩ W fa)) (hl : PE X a (DE ⟨X.K, ex⟩ W fb)) (hh : PE X b (DE ⟨X.K, ex⟩ W fc)) (hN : X.N[i]? = some x := by rfl) (hvis : Vis X.env.scope x := by first | exact Or.inl rfl | exact Or.inr (Or.inl rfl) | exact Or.inr (Or.inr rfl))
    (ha : ∀ v, assign (.Subscript (.Name x p) (.Slice (some a) (some b) none p2) pos') X.env v = (do
      let ov ← holding [v] (eval (.Name x p) X.env)
      let iv ← holding [v, ov] (eval (.Slice (some a) (some b) none p2) X.env)
      standAt pos'
      holding [v, ov, iv] (setItem ov iv v)
      release [iv, v, ov] []) := by intro _; rfl) (hs : swapsWithSole [.Subscript (.Name x p) (.Slice (some a) (some b) none p2) pos'] e pos.line X.env = pure false := by rfl) (hw : swappedStores [.Subscript (.Name x p) (.Slice (some a) (some b) none p2) pos'] e X.env = pure none := by rfl)
    (h1 : (assignEach [.Subscript (.Name x p) (.Slice (some a) (some b) none p2) pos'] X.env).map (·.2) = [assign (.Subscript (.Name x p) (.Slice (some a) (some b) none p2) pos') X.env] := by rfl) (hd : (x == ("__debug__" : Str)) = false := by decide) (hcd : (x == ("__classdict__" : Str)) = false := by decide) :
    PS X (.Assign [.Subscript (.Name x p) (.Slice (some a) (some b) none p2) pos'] e pos) (DS ⟨X.K, ex⟩ W (sSetSl i fa fb fc)) :=
  impS (ps_asg hv (pg_sl (pe_var hN hvis hd hcd) hl hh ha) hs hw h1) fun D σ H h => by
    obtain ⟨ρ, F, y, E, e, hr⟩ := h
    refine (split E (Fm.refl σ ρ F H) e hr.err).mono fun v H1 ⟨r1, ρ1, F1, E1, m1, _, rr1, e1⟩ => ?_
    cases h0 : ownL ρ1[i]? with
    | none =>
      rw [h0] at e1
      cases e1
    | some p0 =>
      rw [h0] at e1
      obtain ⟨hi0, _⟩ := ownL_ok (w := p0.2) (xs := p0.1) h0
      obtain ⟨l, ho0, k1, k2, k3, k4⟩ := E1.own i _ _ hi0
      refine ⟨.ref l, k1, ?_⟩
      refine (split E1 m1 e1 hr.err).mono fun u H2 ⟨r2, ρ2, F2, E2, m2, m12, rr2, e2⟩ => ?_
      have rr1 := rr1.step E1 m12
      refine (split E2 m2 e2 hr.err).mono fun u' H3 ⟨r3, ρ3, F3, E3, m3, m23, rr3, e3⟩ => ?_
      have rr1 := rr1.step E2 m23
      have rr2 := rr2.step E2 m23
      have e3 : (slSt r1 (rd r2 ρ3) (rd r3 ρ3) (ownL ρ3[i]?)).map (fun z => (Except.ok (ε := Exc) Out.nx, ρ3.set i (.own (.lst z.1) z.2))) = some y := e3
      cases hz : slSt r1 (rd r2 ρ3) (rd r3 ρ3) (ownL ρ3[i]?) with
      | none =>
        rw [hz] at e3
        cases e3
      | some z =>
        rw [hz] at e3
        cases e3
        obtain ⟨ys, a', c', xs, w, rfl, h2, h3, h4, c1, c2, c3, rfl⟩ := slSt_ok hz
        obtain ⟨hi, hw⟩ := ownL_ok h4
        obtain ⟨l', ho', g1, g2, g3, g4⟩ := E3.own i (.lst xs) w hi
        obtain ⟨b, bo, rfl, b0, b1, b2, b3, b4⟩ := rr1
        rw [k1] at g1
        injection g1 with g1
        injection g1 with g1
        injection g1 with g1
        subst g1
        cases g4 with
        | lst g4 =>
          cases b3 with
          | lst b3 =>
            rename_i vs ws
            have hne : l ≠ b := fun z => b4 ⟨i, _, _, hi, z ▸ k1⟩
            refine ⟨l, b, vs, ws, a', c', rfl, rfl, rd_int E3 rr2 h2, rd_int E3 rr3 h3, hne, g3, b2, c1, by rw [g4.length]; omega, by rw [g4.length, b3.length]; omega, ?_⟩
            refine hr σ F3 _ (E3.chg hi k1 hw (.lst ?_)) (m3.trans (Fm.chg E3 hi k1 hw))
            rw [g4.length]
            exact ((g4.take _).append b3).append (g4.drop _)
end
end LF
end

-- part LFRulesE
section
set_option Elab.async false
set_option linter.all false
set_option maxRecDepth 100000
set_option maxHeartbeats 4000000
namespace LF
open PySem PySem.Spec PyProof.Rows L2

/-! ### list(text) -/
def signsOf (x : Str) : List Str := x.cps.toList.map fun c => ⟨#[c]⟩
section
variable {prog : Program} {w : World} {A : Around} {E : Value → Shared → Prop} {s : Shared}
theorem hint_str {x : Str} {t : Tok} {Q : Bool → Shared → Prop} (h : Q false s) : wpAny (model prog w) A (Builtin.List.listLengthHint (.str x t)) Q E s := by
  unfold Builtin.List.listLengthHint
  refine wpAny_bind (wpAny_specialOf (T := "str") (v := .str x t) rfl PySem.F.str_len ?_)
  wp_delta
  refine wpAny_bind (wpAny_isInstance (T := "str") (v := .str x t) (b := true) rfl (by rw [isSubtype_type]; kernel_rfl) ?_)
  show wpAny _ A (typeOf (Value.str x t) >>= _) _ _ _
  refine wpAny_bind (wpAny_typeOf (T := "str") (v := .str x t) rfl ?_)
  exact wpAny_pure h
theorem extend_str {R : Result → Shared → Prop} (hh : A.handled = none) (x : Str) (t : Tok) (S : Addr) (res : Value) (c₀ : Nat) (hS : s.heap.get? S = some { cls := .type "list", data := .seq #[] c₀ })
    (hR : ∀ h' tk acc' c', (∀ b o, b ≠ S → s.heap.get? b = some o → h'.get? b = some o) → h'.get? S = some { cls := .type "list", dict := none, data := .seq acc' c', slots := #[] } →
      ItemsOf (SignAt x) acc' x.cps.size → R (.ok (.ret res)) { s with heap := h', toks := tk }) (hn : x.cps.size ≤ sizeLine) :
    wpAny (model prog w) A.in1 (Builtin.List.listExtendWith (.ref S) (.str x t) res)
      (fun fin s' => match fin with | .done f => R (.ok f) s' | .again c' => c'.quiet = true ∧ codeAny (model prog w) A c' R s') (fun e s' => R (.error e) s') s := by
  have hSI : S ≠ s.heap.objs.size := Nat.ne_of_lt (Heap.lt_size hS)
  have hSf : S ∉ [s.heap.objs.size] := fun hm => hSI (List.mem_singleton.mp hm)
  unfold Builtin.List.listExtendWith
  refine wpAny_bind (wpAny_typeOf (T := "str") (v := .str x t) rfl ?_)
  have h1 : Builtin.List.listSameRef (.ref S) (.str x t) = false := rfl
  have h2 : (Value.type "str" == Value.type "list") = false := by decide
  have h3 : (Value.type "str" == Value.type "tuple") = false := by decide
  simp only [h1, h2, h3, Bool.or_false, Bool.false_eq_true, if_false]
  refine wpAny_bind (wpAny_pyIter_str fun o St Wk hst => ?_)
  refine wpAny_bind (wpAny_holding (hint_str ?_))
  rw [if_neg (by first | decide | decide +kernel)]
  refine wpAny_pure ⟨plainId_quiet PySem.F.plain_extend_loop _, codeAny_extend_loopS (Wk A.in1 hh).toS hn _ hSf _ x.cps.size 0 _ _ _ rfl (Nat.zero_le _) hst (Heap.get?_push_of_some _ hS) (ItemsOf.nil _) fun s' acc' c' hm hS' hacc => ?_⟩
  rw [Moved.eq_with hm]
  refine hR s'.heap s'.toks acc' c' (fun b ob hb e => hm.heap b ob (fun hmem => ?_) (Heap.get?_push_of_some _ e)) hS' hacc
  rcases List.mem_cons.mp hmem with e' | hmem
  · exact hb e'
  · exact absurd (Heap.lt_size e) (by rw [List.mem_singleton.mp hmem]; exact Nat.lt_irrefl _)
theorem list_init_str {R : Result → Shared → Prop} (hh : A.handled = none) (x : Str) (t : Tok) (S : Addr) (hS : s.heap.get? S = some { cls := .type "list", data := .seq #[] })
    (hR : ∀ h' tk acc' c', (∀ b o, b ≠ S → s.heap.get? b = some o → h'.get? b = some o) → h'.get? S = some { cls := .type "list", dict := none, data := .seq acc' c', slots := #[] } →
      ItemsOf (SignAt x) acc' x.cps.size → R (.ok (.ret .none)) { s with heap := h', toks := tk }) (hn : x.cps.size ≤ sizeLine) :
    wpAny (model prog w) A.in1 (Builtin.«list.__init__» ⟨[.ref S, .str x t], []⟩)
      (fun fin s' => match fin with | .done f => R (.ok f) s' | .again c' => c'.quiet = true ∧ codeAny (model prog w) A c' R s') (fun e s' => R (.error e) s') s := by
  show wpAny _ _ (do let old ← Builtin.List.listItems (.ref S); Builtin.List.listUpdate (.ref S) (fun _ => #[]); letGo old.toList.reverse; Builtin.List.listExtendWith (.ref S) (.str x t) .none) _ _ s
  refine wpAny_bind ?_
  unfold Builtin.List.listItems
  refine wpAny_bind (wpAny_seqItems hS rfl (wpAny_pure ?_))
  show wpAny _ _ (updateSeq S (fun _ => #[]) >>= fun _ => letGo (#[] : Array Value).toList.reverse >>= fun _ => Builtin.List.listExtendWith (.ref S) (.str x t) .none) _ _ s
  refine wpAny_bind (wpAny_updateSeq hS rfl ?_)
  have hS₂ := Heap.get?_update_self (Obj.mapSeq (fun _ => (#[] : Array Value))) hS rfl
  have oth : ∀ b o, b ≠ S → s.heap.get? b = some o → (s.heap.update S (Obj.mapSeq (fun _ => (#[] : Array Value)))).get? b = some o :=
    fun b o hb e => (Heap.get?_update_other _ _ (Ne.symm hb)).trans e
  refine wpAny_bind (wpAny_letGo ?_)
  refine extend_str hh x t S .none _ hS₂ (fun h' tk acc' c' hk hS' hacc => ?_) hn
  exact hR h' tk acc' c' (fun b o hb e => hk b o hb (oth b o hb e)) hS' hacc
theorem call_list_str {x : Str} {t : Tok} {Q : Value → Shared → Prop} (hh : A.handled = none) (hn : x.cps.size ≤ sizeLine)
    (hQ : ∀ h' tk acc' c', (∀ b o, s.heap.get? b = some o → h'.get? b = some o) →
      h'.get? s.heap.objs.size = some { cls := .type "list", dict := none, data := .seq acc' c', slots := #[] } → ItemsOf (SignAt x) acc' x.cps.size → Q (.ref s.heap.objs.size) { s with heap := h', toks := tk }) :
    wpAny (model prog w) A (call (.type "list") [.str x t]) Q E s := by
  refine callType_codes (Q₁ := fun obj s₁ => obj = .ref s.heap.objs.size ∧ s₁ = { s with heap := s.heap.push { cls := .type "list", data := .seq #[] } }) PySem.F.called_list (PySem.F.typeCall_list_1 _) PySem.F.entry_list_init
    (code_list_new _ ⟨rfl, rfl⟩) fun obj s₁ h₁ => ?_
  obtain ⟨rfl, rfl⟩ := h₁
  have hS : (s.heap.push { cls := .type "list", data := .seq #[] }).get? s.heap.objs.size = some { cls := .type "list", data := .seq #[] } := Heap.get?_push_size _ rfl
  refine ⟨⟨_, hS, rfl⟩, PySem.F.args_list_init_2 _ _, list_init_str (A := A.in1) hh x t _ hS (fun h' tk acc' c' hk hS' hacc => ?_) hn⟩
  exact ⟨rfl, hQ h' tk acc' c' (fun b o e => hk b o (Nat.ne_of_lt (Heap.lt_size e)) (Heap.get?_push_of_some _ e)) hS' hacc⟩
end
def rListU (K : PySem.W.Frag) (xs : List V) (H : Hp) (Q : VK) : Prop := (∃ p ys, xs = [V.ref p] ∧ (SqL K H p ys ∨ SqT K H p ys) ∧ ∀ l, H l = none → Q (.ref l) (upd H l (.lst ys))) ∨
  ∃ x, xs = [V.str x] ∧ x.cps.size ≤ sizeLine ∧ ∀ l, H l = none → Q (.ref l) (upd H l (.lst ((signsOf x).map V.str)))
section
variable {X : Cx}
theorem call_listS (hc : X.calm = true) : CallR X (.type "list") (fun xs H Q => ∃ x, xs = [V.str x] ∧ x.cps.size ≤ sizeLine ∧ ∀ l, H l = none → Q (.ref l) (upd H l (.lst ((signsOf x).map V.str)))) := by
  intro pins s σ H xs us Q I r h
  obtain ⟨x, rfl, hz, q⟩ := h
  obtain ⟨u, rfl, t, rfl⟩ := vals1 r
  refine call_list_str (I.ok.hd hc) hz fun h' tk acc c' hk e hi => ?_
  have hl : (signsOf x).length = x.cps.size := by
    unfold signsOf
    rw [List.length_map, Array.length_toList]
  refine ⟨.ref s.heap.objs.size, upd H s.heap.objs.size (.lst ((signsOf x).map V.str)), I.laid hk (Nat.le_refl _) ⟨by rw [List.length_map, hl]; exact hz, acc.toList, c', ?_, by rw [Array.toArray_toList]; exact e⟩, rfl, q _ (I.hok.fresh (Nat.le_refl _))⟩
  refine vals_of_idx _ _ (by rw [List.length_map, hl, Array.length_toList]; exact hi.1) fun j u hj => ?_
  obtain ⟨c, t', hc, rfl⟩ := hi.2 j u (by rw [← Array.getElem?_toList]; exact hj)
  refine ⟨.str ⟨#[c]⟩, ?_, ⟨_, rfl⟩⟩
  unfold signsOf
  rw [List.getElem?_map, List.getElem?_map, Array.getElem?_toList, hc]
  rfl
theorem call_listU (hc : X.calm = true) : CallR X (.type "list") (rListU X.K) := call_list_of.or (call_listS hc)
end
def gListU : D → Option Got
  | .list ds => some (.l ds)
  | .tuple ds => some (.l ds)
  | .str x => if x.cps.size ≤ sizeLine then some (.l ((signsOf x).map .str)) else none
  | _ => none
theorem strs_repL {K : PySem.W.Frag} {F : Hp} : ∀ xs : List Str, RepL K F (xs.map V.str) (xs.map .str)
  | [] => .nil
  | x :: xs => .cons (.str x) (strs_repL xs)
theorem listU_1 (K : PySem.W.Frag) : Op1 K (fun x H Q => rListU K [x] H Q) gListU := by
  intro F H x d z Q e hl ht rx hg qv ql qt
  unfold gListU at hg
  split at hg
  · cases hg
    obtain ⟨a, xs, rfl, h1, r1⟩ := hl _ rfl
    exact .inl ⟨a, xs, rfl, .inl (sl_of h1), fun l hl => ql _ _ l rfl r1 hl⟩
  · cases hg
    obtain ⟨a, xs, rfl, h1, r1⟩ := ht _ rfl
    exact .inl ⟨a, xs, rfl, .inr (ex_t e h1), fun l hl => ql _ _ l rfl r1 hl⟩
  · split at hg
    · cases hg
      exact .inr ⟨_, congrArg (· :: []) (rep_str rx), by assumption, fun l hl => ql _ _ l rfl (strs_repL _) hl⟩
    · cases hg
  · cases hg

/-! ### sorted(set(text)), len(set(texts)) -/
def insT (k : Str) : List Str → List Str
  | [] => [k]
  | x :: r => if k.cps.toList ≤ x.cps.toList then k :: x :: r else x :: insT k r
def sortT (l : List Str) : List Str := l.foldr insT []
def leT (a b : Str) : Prop := a.cps.toList ≤ b.cps.toList
theorem leT_anti {a b : Str} (h : leT a b) (k : leT b a) : a = b := Str.ext' (Array.toList_inj.mp (List.le_antisymm h k))
theorem insT_perm (k : Str) : ∀ l, (insT k l).Perm (k :: l)
  | [] => List.Perm.refl _
  | x :: r => by
    unfold insT
    split
    · exact List.Perm.refl _
    · exact ((insT_perm k r).cons x).trans (List.Perm.swap _ _ _)
theorem insT_sorted (k : Str) : ∀ l, l.Pairwise leT → (insT k l).Pairwise leT
  | [], _ => List.pairwise_singleton _ _
  | x :: r, h => by
    have hx := List.pairwise_cons.mp h
    unfold insT
    split
    · rename_i q
      refine List.pairwise_cons.mpr ⟨fun y hy => ?_, h⟩
      rcases List.mem_cons.mp hy with rfl | hy
      · exact q
      · exact List.le_trans q (hx.1 y hy)
    · rename_i q
      refine List.pairwise_cons.mpr ⟨fun y hy => ?_, insT_sorted k r hx.2⟩
      rcases List.mem_cons.mp ((insT_perm k r).mem_iff.mp hy) with rfl | hy
      · exact (List.le_total _ _).resolve_left q
      · exact hx.1 y hy
theorem sortT_perm : ∀ l, (sortT l).Perm l
  | [] => List.Perm.refl _
  | x :: r => (insT_perm x (sortT r)).trans ((sortT_perm r).cons x)
theorem sortT_sorted : ∀ l, (sortT l).Pairwise leT
  | [] => List.Pairwise.nil
  | x :: r => insT_sorted x _ (sortT_sorted r)
theorem rising_pw : ∀ (l : List Str) (p : Str), risingS p l = true → (p :: l).Pairwise leT
  | [], p, _ => List.pairwise_singleton _ _
  | x :: r, p, h => by
    have h : (!ltCps x.cps.toList p.cps.toList && risingS x r) = true := h
    rw [Bool.and_eq_true] at h
    have q := rising_pw r x h.2
    have hp : leT p x := by
      have h1 := h.1
      rw [ltCps_eq] at h1
      exact List.not_lt.mp (by simpa using h1)
    refine List.pairwise_cons.mpr ⟨fun y hy => ?_, q⟩
    rcases List.mem_cons.mp hy with rfl | hy
    · exact hp
    · exact List.le_trans hp ((List.pairwise_cons.mp q).1 y hy)
theorem sorted_is {l ns : List Str} (p : ns.Perm l) (h : sortedS ns = true) : ns = sortT l := by
  refine List.Perm.eq_of_pairwise (le := leT) (fun a b _ _ => leT_anti) ?_ (sortT_sorted l) (p.trans (sortT_perm l).symm)
  cases ns with
  | nil => exact List.Pairwise.nil
  | cons x r => exact rising_pw r x h

def gSortSet : D → Option Got
  | .str x => if x.cps.size ≤ 60 then some (.l ((sortT (gathL (signsOf x))).map .str)) else none
  | _ => none
def gLenSet : D → Option Got
  | .list ds => (strsD ds).bind fun xs => if xs.length ≤ 4000 then some (.v (.int (gathL xs).length)) else none
  | _ => none
section
variable {X : Cx} {ex : Str → Addr} {W : WX} {pos q p p2 p3 : Pos} {a o e : Expr} {fa fb fo : EM R} {ta : TE}
theorem gath_le (xs : List Str) : (gathL xs).length ≤ xs.length := by
  have h := gath_len xs []
  simpa [gathL] using h
def tSortSet (ta : TE) : TE := fun σ H Q => ta σ H fun x H1 => ∃ z : Str, x = .str z ∧ z.cps.size ≤ 60 ∧ ∀ p, H1 p = none → Q (.ref p) (upd H1 p (.lst ((sortT (gathL (signsOf z))).map V.str)))
theorem pe_sortSet (hg : Gl X "sorted") (hm : X.mg "sorted" = none) (hg2 : Gl X "set") (hm2 : X.mg "set" = none) (ha : PE X a ta) (hc : X.calm = true := by rfl)
    (na : starEach [a] X.env = (false, eval a X.env) :: starEach [] X.env := by rfl) : PE X (.Call (.Name "sorted" p) [.Call (.Name "set" p2) [a] [] q] [] pos) (tSortSet ta) := by
  refine ⟨fun pins s σ H Q I h => ?_⟩
  refine Call_ (ld_blt (u := .builtin "sorted") I hg hm (by decide +kernel) ?_)
  refine PyProof.Rows.callWith_builtin1 (PyProof.Rows.args_cons ?_ rfl) rfl rfl
  refine Call_ (ld_blt I hg2 hm2 PyProof.Rows.boot_set ?_)
  refine PyProof.Rows.callWith_type1 (PyProof.Rows.args_cons (thn (ha.run pins s σ H _ I h) fun v s1 ⟨x, H1, I1, r1, q1⟩ => PyProof.Rows.args_nil ?_) na) na rfl
  obtain ⟨z, rfl, hz, q1⟩ := q1
  obtain ⟨t, rfl⟩ := r1
  refine call_setT_str (I1.ok.hd hc) (by unfold scanBound; omega) fun h' tk hS hk => ?_
  refine PyProof.Rows.args_nil ?_
  have I2 : Inv X pins σ H1 { s1 with heap := h', toks := tk } := I1.kept fun b o e => hk b o (Heap.lt_size e) e
  have hl : (gathL (signsOf z)).length < 64 := by
    have h1 := gath_le (signsOf z)
    have h2 : (signsOf z).length = z.cps.size := by
      unfold signsOf
      rw [List.length_map, Array.length_toList]
    omega
  refine sorted_setT (s := { s1 with heap := h', toks := tk }) hS (I2.ok.hd hc) hl fun s' p out c ns k g o hp hgt hi pm hs => ?_
  have hns := sorted_is pm hs
  have hlen : (ns.map V.str).length ≤ sizeLine := by
    rw [List.length_map, pm.length_eq, sizeLine_eq]
    have h1 : (gathL (signsOf z)).length < 64 := hl
    unfold signsOf at h1
    omega
  have hn : H1 p = none := I2.hok.fresh hp
  have J : Inv X pins σ (upd H1 p (.lst (ns.map V.str))) { heap := s'.heap, gens := s'.gens, drawn := s'.drawn, toks := s'.toks, os := s1.os } :=
    Inv.call (s := { s1 with heap := h', toks := tk }) I2 (ch := []) (Un.laid k hp hn) (I2.hok.laid k hp ⟨hlen, out.toList, c, vals_of_strs hi, hgt⟩) (by rw [g]; exact I2.bare) (fun _ z => nomatch z)
  have e : s' = { heap := s'.heap, gens := s'.gens, drawn := s'.drawn, toks := s'.toks, os := s1.os } := by
    cases s'
    cases o
    rfl
  rw [e]
  refine ⟨.ref p, _, J, rfl, ?_⟩
  rw [hns]
  exact q1 p hn
theorem l_sortSet (hm : X.mg "sorted" = none) (hm2 : X.mg "set" = none) (ha : PE X a (DE ⟨X.K, ex⟩ W fa)) (hg : Gl X "sorted" := by rfl) (hg2 : Gl X "set" := by rfl) (hc : X.calm = true := by rfl)
    (na : starEach [a] X.env = (false, eval a X.env) :: starEach [] X.env := by rfl) : PE X (.Call (.Name "sorted" p) [.Call (.Name "set" p2) [a] [] q] [] pos) (DE ⟨X.K, ex⟩ W (e1 gSortSet fa)) :=
  impE (pe_sortSet hg hm hg2 hm2 ha hc na) fun _ _ _ h => l_1 (r := fun x H1 Q => ∃ z : Str, x = .str z ∧ z.cps.size ≤ 60 ∧ ∀ p, H1 p = none → Q (.ref p) (upd H1 p (.lst ((sortT (gathL (signsOf z))).map V.str)))) (by
    intro F H x d z Q e hl ht rx hg qv ql qt
    unfold gSortSet at hg
    split at hg
    · split at hg
      · cases hg
        exact ⟨_, rep_str rx, by assumption, fun l hl => ql _ _ l rfl (strs_repL _) hl⟩
      · cases hg
    · cases hg) h
def tLenSetT (ta : TE) : TE := fun σ H Q => ta σ H fun x H1 => ∃ (l : Addr) (xs : List Str), x = .ref l ∧ H1 l = some (.lst (xs.map V.str)) ∧ xs.length ≤ 4000 ∧ Q (.int ((gathL xs).length : Nat)) H1
theorem pe_lenSetT (hg : Gl X "len") (hm : X.mg "len" = none) (hg2 : Gl X "set") (hm2 : X.mg "set" = none) (ha : PE X a ta) (hc : X.calm = true := by rfl)
    (na : starEach [a] X.env = (false, eval a X.env) :: starEach [] X.env := by rfl) : PE X (.Call (.Name "len" p) [.Call (.Name "set" p2) [a] [] q] [] pos) (tLenSetT ta) := by
  refine ⟨fun pins s σ H Q I h => ?_⟩
  refine Call_ (ld_blt I hg hm boot_len ?_)
  refine PyProof.Rows.callWith_builtin1 (PyProof.Rows.args_cons ?_ rfl) rfl rfl
  refine Call_ (ld_blt I hg2 hm2 PyProof.Rows.boot_set ?_)
  refine PyProof.Rows.callWith_type1 (PyProof.Rows.args_cons (thn (ha.run pins s σ H _ I h) fun v s1 ⟨x, H1, I1, r1, q1⟩ => PyProof.Rows.args_nil ?_) na) na rfl
  obtain ⟨l, xs, rfl, hq, hz, q1⟩ := q1
  cases r1
  obtain ⟨its, r, pl, _⟩ := I1.list (sl_of hq)
  refine call_setT_list (I1.ok.hd hc) pl.isList (by simpa using strsAre_of r) (by unfold scanBound; omega) fun h' tk hS hk => ?_
  refine PyProof.Rows.args_nil ?_
  have I2 : Inv X pins σ H1 { s1 with heap := h', toks := tk } := I1.kept fun b o e => hk b o (Heap.lt_size e) e
  obtain ⟨o, es, ep, t, ho, hex, hd, g, pl2, nd, hb, hf, _⟩ := hS
  have hes : es.size = (gathL xs).length := by
    have q := pl2.length_eq
    rw [List.length_map, Array.length_toList] at q
    exact q
  have hle := gath_le xs
  exact call_len_set ho hex hd hf (by omega) ⟨.int ((gathL xs).length : Nat), H1, I2.tok _, ⟨_, by rw [hes]⟩, q1⟩
theorem l_lenSet (hm : X.mg "len" = none) (hm2 : X.mg "set" = none) (ha : PE X a (DE ⟨X.K, ex⟩ W fa)) (hg : Gl X "len" := by rfl) (hg2 : Gl X "set" := by rfl) (hc : X.calm = true := by rfl)
    (na : starEach [a] X.env = (false, eval a X.env) :: starEach [] X.env := by rfl) : PE X (.Call (.Name "len" p) [.Call (.Name "set" p2) [a] [] q] [] pos) (DE ⟨X.K, ex⟩ W (e1 gLenSet fa)) :=
  impE (pe_lenSetT hg hm hg2 hm2 ha hc na) fun _ _ _ h => l_1 (r := fun x H1 Q => ∃ (l : Addr) (xs : List Str), x = .ref l ∧ H1 l = some (.lst (xs.map V.str)) ∧ xs.length ≤ 4000 ∧ Q (.int ((gathL xs).length : Nat)) H1) (by
    intro F H x d z Q e hl ht rx hg qv ql qt
    unfold gLenSet at hg
    split at hg
    · rename_i ds
      cases hs : strsD ds with
      | none =>
        rw [hs] at hg
        cases hg
      | some xs =>
        rw [hs] at hg
        obtain ⟨a, vs, rfl, h1, r1⟩ := hl _ rfl
        have hv := strs_rep r1 hs
        subst hv
        simp only [Option.bind_some] at hg
        split at hg
        · cases hg
          exact ⟨a, xs, rfl, h1, by assumption, qv _ _ rfl (.int _)⟩
        · cases hg
    · cases hg) h
/-! ### xs[::-1] -/
def gRev : D → Option Got
  | .list ds => some (.l ds.reverse)
  | _ => none
theorem l_rev {k : Nat} {p1 p2 p3 : Pos} (ha : PE X a (DE ⟨X.K, ex⟩ W fa)) : PE X (.Subscript a (.Slice none none (some (.UnaryOp .USub (.Constant (.int 1) k p1) p2)) p3) pos) (DE ⟨X.K, ex⟩ W (e1 gRev fa)) :=
  impE (pe_revL ha) fun _ _ _ h => l_1 (r := fun x H1 Q => ∃ a xs, x = .ref a ∧ SqL X.K H1 a xs ∧ ∀ p, H1 p = none → Q (.ref p) (upd H1 p (.lst xs.reverse))) (by
    intro F H x d z Q e hl ht rx hg qv ql qt
    unfold gRev at hg
    split at hg
    · cases hg
      obtain ⟨a, xs, rfl, h1, r1⟩ := hl _ rfl
      exact ⟨a, xs, rfl, sl_of h1, fun l hl => ql _ _ l rfl r1.reverse hl⟩
    · cases hg) h
/-! ### methods of texts -/
def strR (x : R) (ρ : En) : Option Str := match rd x ρ with
  | some (.str a) => some a
  | _ => none
theorem strR_ok {x : R} {ρ : En} {a : Str} (h : strR x ρ = some a) : rd x ρ = some (.str a) := by
  unfold strR at h
  split at h
  · cases h
    assumption
  · cases h
def eS1 (g : Str → D → Option Got) (fo fa : EM R) : EM R := EM.bind fo fun x => fun ρ => (strR x ρ).bind fun a => e1 (g a) fa ρ
def g_join (a : Str) : D → Option Got
  | .list ds => (strsD ds).bind fun ys => if (ys.map (·.length)).sum + ys.length * a.length ≤ 16777216 then some (.v (.str (Txt.join a ys))) else none
  | .tuple ds => (strsD ds).bind fun ys => if (ys.map (·.length)).sum + ys.length * a.length ≤ 16777216 then some (.v (.str (Txt.join a ys))) else none
  | _ => none
def g_endswith (a : Str) : D → Option Got
  | .str b => some (.v (.bool (Txt.endswith a b)))
  | _ => none
def g_split (a : Str) : D → Option Got
  | .str b => if (b.length == 0) = false ∧ a.length + 2 ≤ sizeLine then some (.l ((Txt.split a b).map .str)) else none
  | _ => none
theorem s1_in {r : V → List V → Hp → VK → Prop} {g : Str → D → Option Got} (o : ∀ a, Op1 X.K (fun y H Q => r (.str a) [y] H Q) (g a)) {σ : L2.St} {H : Hp} {Q : VK} (h : DE ⟨X.K, ex⟩ W (eS1 g fo fa) σ H Q) : tM1 r (DE ⟨X.K, ex⟩ W fo) (DE ⟨X.K, ex⟩ W fa) σ H Q := by
  obtain ⟨ρ, F, y, E, e, hr⟩ := h
  refine (split E (Fm.refl σ ρ F H) e hr.err).mono fun v H1 ⟨r1, ρ1, F1, E1, m1, _, rr1, e1⟩ => ?_
  cases h1 : strR r1 ρ1 with
  | none =>
    rw [h1] at e1
    cases e1
  | some a =>
    rw [h1] at e1
    have e1 : LF.e1 (g a) fa ρ1 = some y := e1
    have hv := rd_str E1 rr1 (strR_ok h1)
    subst hv
    exact ⟨⟨a, rfl⟩, l_1 (o a) ⟨ρ1, F1, y, E1, e1, Res.base m1 hr⟩⟩
theorem l_join {apos : Pos} (ho : PE X o (DE ⟨X.K, ex⟩ W fo)) (he : PE X e (DE ⟨X.K, ex⟩ W fa)) (hs : starEach [e] X.env = [(false, eval e X.env)] := by rfl) (hbase : attributeBase o "join" X.env (eval o X.env) = eval o X.env := by rfl) (hline : (apos.endLine == pos.line) = true := by rfl) :
    PE X (.Call (.Attribute o "join" apos) [e] [] pos) (DE ⟨X.K, ex⟩ W (eS1 g_join fo fa)) :=
  impE (pe_join ho he hs hbase hline) fun _ _ _ h => s1_in (fun a => by
    intro F H x d z Q e hl ht rx hg qv ql qt
    unfold g_join at hg
    split at hg
    · rename_i ds
      cases hs : strsD ds with
      | none =>
        rw [hs] at hg
        cases hg
      | some xs =>
        rw [hs] at hg
        obtain ⟨p, vs, rfl, h1, r1⟩ := hl _ rfl
        have hv := strs_rep r1 hs
        subst hv
        simp only [Option.bind_some] at hg
        split at hg
        · cases hg
          exact ⟨a, p, xs, rfl, rfl, .inl (sl_of h1), by assumption, qv _ _ rfl (.str _)⟩
        · cases hg
    · rename_i ds
      cases hs : strsD ds with
      | none =>
        rw [hs] at hg
        cases hg
      | some xs =>
        rw [hs] at hg
        obtain ⟨p, vs, rfl, h1, r1⟩ := ht _ rfl
        have hv := strs_rep r1 hs
        subst hv
        simp only [Option.bind_some] at hg
        split at hg
        · cases hg
          exact ⟨a, p, xs, rfl, rfl, .inr (ex_t e h1), by assumption, qv _ _ rfl (.str _)⟩
        · cases hg
    · cases hg) h
theorem l_endswith {apos : Pos} (ho : PE X o (DE ⟨X.K, ex⟩ W fo)) (he : PE X e (DE ⟨X.K, ex⟩ W fa)) (hs : starEach [e] X.env = [(false, eval e X.env)] := by rfl) (hbase : attributeBase o "endswith" X.env (eval o X.env) = eval o X.env := by rfl) (hline : (apos.endLine == pos.line) = true := by rfl) :
    PE X (.Call (.Attribute o "endswith" apos) [e] [] pos) (DE ⟨X.K, ex⟩ W (eS1 g_endswith fo fa)) :=
  impE (pe_m1 F.slot_str_endswith F.type_str_endswith mt_endswith ho he hs hbase hline) fun _ _ _ h => s1_in (fun a => by
    intro F H x d z Q e hl ht rx hg qv ql qt
    unfold g_endswith at hg
    split at hg
    · cases hg
      exact ⟨a, _, rfl, congrArg (· :: []) (rep_str rx), qv _ _ rfl (.bl _)⟩
    · cases hg) h
theorem l_split {apos : Pos} (ho : PE X o (DE ⟨X.K, ex⟩ W fo)) (he : PE X e (DE ⟨X.K, ex⟩ W fa)) (hs : starEach [e] X.env = [(false, eval e X.env)] := by rfl) (hbase : attributeBase o "split" X.env (eval o X.env) = eval o X.env := by rfl) (hline : (apos.endLine == pos.line) = true := by rfl) :
    PE X (.Call (.Attribute o "split" apos) [e] [] pos) (DE ⟨X.K, ex⟩ W (eS1 g_split fo fa)) :=
  impE (pe_split ho he hs hbase hline) fun _ _ _ h => s1_in (fun a => by
    intro F H x d z Q e hl ht rx hg qv ql qt
    unfold g_split at hg
    split at hg
    · split at hg
      · rename_i hc
        cases hg
        exact ⟨a, _, rfl, congrArg (· :: []) (rep_str rx), hc.1, hc.2, fun l hl => ql _ _ l rfl (strs_repL _) hl⟩
      · cases hg
    · cases hg) h
end
end LF
end

-- part K01Defs
section
set_option Elab.async false
set_option linter.all false
set_option maxRecDepth 100000
set_option maxHeartbeats 2000000
namespace LF
open PySem PySem.Spec PyProof.Rows L2

def top (i : Nat) : Stmt := PySem.Challenge.pw_lengthforms_k01_tables_and_rows.main.body.getD i (.Pass ⟨0, 0, 0, 0⟩)
def excl : List Str := ["InvalidTable"]
def caught : List Str := ["InvalidTable"]
def isa (x c : Str) : Bool := x == c || c == "FormError"
structure Txt (K : PySem.W.Frag) (mg : Str → Option Value) (ex : Str → Addr) : Prop where
  b_all : mg "all" = none
  b_bool : mg "bool" = none
  b_enumerate : mg "enumerate" = none
  b_int : mg "int" = none
  b_isinstance : mg "isinstance" = none
  b_len : mg "len" = none
  b_list : mg "list" = none
  b_max : mg "max" = none
  b_min : mg "min" = none
  b_range : mg "range" = none
  b_set : mg "set" = none
  b_sorted : mg "sorted" = none
  b_str : mg "str" = none
  b_tuple : mg "tuple" = none
  c_BACK : ∃ t, mg "BACK" = some (.str "back" t)
  c_LETTERS : ∃ t, mg "LETTERS" = some (.str "abcdefghijklmnopqrstuvwxyz" t)
  c_LONGEST : ∃ t, mg "LONGEST" = some (.int 3 t)
  c_MOST_ROW : ∃ t, mg "MOST_ROW" = some (.int 300 t)
  c_MOST_RULES : ∃ t, mg "MOST_RULES" = some (.int 5 t)
  x_InvalidTable : XFacts K mg "InvalidTable" (ex "InvalidTable")
  isa : ∀ c ∈ caught, ∀ y ∈ excl, PySem.W.exmOne K (.ref (ex y)) (.ref (ex c)) = some (isa y c)
section
variable {P : Program} {w : World} {K : PySem.W.Frag} {mg : Str → Option Value} {base : Heap} {ex : Str → Addr}

abbrev s_is_wide : Stmt := top 9
abbrev n_is_wide : List Str := ["value", "low", "high"]
theorem sc_is_wide : FnScope n_is_wide ["value", "low", "high"] (defScope s_is_wide) := ⟨rfl, rfl, rfl, by decide +kernel, rfl, by decide +kernel, by decide +kernel⟩
def bd_is_wide : EM Out :=
  (sRet (eAnd (e1 (gIsi "tuple") (eVar 0)) (eChain gLe gLe (eVar 1) (e1 gLen (eVar 0)) (eVar 2))))
def f_is_wide : EM R := defF 3 3 bd_is_wide
theorem ok_is_wide (T : Txt K mg ex) (D : DefAt K mg "is_wide" s_is_wide ["value", "low", "high"]) : Ok P w K mg base ex 1 "is_wide" ["value", "low", "high"] f_is_wide := by
  refine ok_mk (k := 0) D sc_is_wide (by decide) fun fA cdv A outer s H E hr => ?_
  have nd := sc_is_wide.nd
  have tk := takes_of (X := cxOf (L2.CX P w) P w K mg base n_is_wide "is_wide" (defScope s_is_wide) fA cdv A outer s H E) (E := E) rfl rfl rfl rfl
  have hp : PassesOwn (model P w) _ _ _ := passes_of (X := cxOf (L2.CX P w) P w K mg base n_is_wide "is_wide" (defScope s_is_wide) fA cdv A outer s H E) rfl
  exact (p_one (l_ret (l_eand (l_isi (T := "tuple") (by decide) T.b_isinstance T.b_tuple (by decide +kernel) (l_var 0)) (l_one (l_chain (op_leU) (le_2 _) (op_leU) (le_2 _) (l_var 1) (l_callB call_len (len_1 _) T.b_len boot_len (l_var 0)) (l_var 2))))))

abbrev s_are_signs : Stmt := top 10
abbrev n_are_signs : List Str := ["value", "rising", "at", "sign"]
theorem sc_are_signs : FnScope n_are_signs ["value"] (defScope s_are_signs) := ⟨rfl, rfl, rfl, by decide +kernel, rfl, by decide +kernel, by decide +kernel⟩
def bd_are_signs : EM Out :=
  (sSeq (sIf (tOr (tNot (tTru (e1 (gIsi "str") (eVar 0)))) (tNot (tB (eChain gLe gLe (eC (.int 1)) (e1 gLen (eVar 0)) (eC (.int 3))))))
  (sRet (eC (.bool false)))
  sNx)
  (sSeq (sSet 1 (e1 gAll (eLc (srcR1 (e2 gSub (e1 gLen (eVar 0)) (eC (.int 1)))) (stVal 2) tYesM (e2 gLt (e2 gIx (eVar 0) (eVar 2)) (e2 gIx (eVar 0) (e2 gAdd (eVar 2) (eC (.int 1))))) [2])))
  (sRet (eAnd (eVar 1) (e1 gAll (eLc (srcAny (eVar 0)) (stVal 3) tYesM (e2 (gIn false) (eVar 3) (eC (.str "abcdefghijklmnopqrstuvwxyz"))) [3]))))))
def f_are_signs : EM R := defF 1 4 bd_are_signs
theorem ok_are_signs (T : Txt K mg ex) (D : DefAt K mg "are_signs" s_are_signs ["value"]) : Ok P w K mg base ex 1 "are_signs" ["value"] f_are_signs := by
  obtain ⟨t_LETTERS, m_LETTERS⟩ := T.c_LETTERS
  refine ok_mk (k := 0) D sc_are_signs (by decide) fun fA cdv A outer s H E hr => ?_
  have nd := sc_are_signs.nd
  have tk := takes_of (X := cxOf (L2.CX P w) P w K mg base n_are_signs "are_signs" (defScope s_are_signs) fA cdv A outer s H E) (E := E) rfl rfl rfl rfl
  have hp : PassesOwn (model P w) _ _ _ := passes_of (X := cxOf (L2.CX P w) P w K mg base n_are_signs "are_signs" (defScope s_are_signs) fA cdv A outer s H E) rfl
  exact (p_cons (l_ifs (PW.pt (l_or (l_not (l_tru (l_isi (T := "str") (by decide) T.b_isinstance T.b_str (by decide +kernel) (l_var 0)))) (l_or1 (l_not (l_chainT (op_leU) (le_2 _) (op_leU) (le_2 _) l_int (l_callB call_len (len_1 _) T.b_len boot_len (l_var 0)) l_int)))))
    (p_one (l_ret l_bl))
    p_nil)
    (p_cons (l_set (i := 1) nd (l_callB (cr_all rfl) (all_1 _) T.b_all (by decide +kernel) (l_lc (own := [("at", 2)]) rfl nd (pi_range1 rfl T.b_range (pa_cons (l_bin op_sub (sub_2 _) (l_callB call_len (len_1 _) T.b_len boot_len (l_var 0)) l_int) pa_nil)) src_r1 (blkOk_by (N := n_are_signs) (sc := defScope s_are_signs) (own := [("at", 2)]) (by decide +kernel)) (tg_name _ 2) (by decide) (fun _ _ _ _ _ => (pg_name (i := 2) nd rfl (by first | exact Or.inl rfl | exact Or.inr rfl))) (fun _ _ _ _ _ => l_yes) (fun _ _ _ _ _ => (l_cmp (op_ltU) (lt_2 _) (l_ix (l_var 0) (l_var 2)) (l_ix (l_var 0) (l_bin op_addU (add_2 _) (l_var 2) l_int)))))))
    (p_one (l_ret (l_eand (l_var 1) (l_one (l_callB (cr_all rfl) (all_1 _) T.b_all (by decide +kernel) (l_lc (own := [("sign", 3)]) rfl nd (pi_any (l_var 0)) src_any (blkOk_by (N := n_are_signs) (sc := defScope s_are_signs) (own := [("sign", 3)]) (by decide +kernel)) (tg_name _ 3) (by decide) (fun _ _ _ _ _ => (pg_name (i := 3) nd rfl (by first | exact Or.inl rfl | exact Or.inr rfl))) (fun _ _ _ _ _ => l_yes) (fun _ _ _ _ _ => (l_cmp (op_inU) (in_2 _ false) (l_var 3) (l_glob (v := .str "abcdefghijklmnopqrstuvwxyz") rfl m_LETTERS ⟨_, rfl⟩ (fun _ => .str _))))))))))))

abbrev s_is_text : Stmt := top 11
abbrev n_is_text : List Str := ["signs", "value", "sign"]
theorem sc_is_text : FnScope n_is_text ["signs", "value"] (defScope s_is_text) := ⟨rfl, rfl, rfl, by decide +kernel, rfl, by decide +kernel, by decide +kernel⟩
def bd_is_text : EM Out :=
  (sRet (eAnd (e1 (gIsi "str") (eVar 1)) (e1 gAll (eLc (srcAny (eVar 1)) (stVal 2) tYesM (e2 (gIn false) (eVar 2) (eVar 0)) [2]))))
def f_is_text : EM R := defF 2 3 bd_is_text
theorem ok_is_text (T : Txt K mg ex) (D : DefAt K mg "is_text" s_is_text ["signs", "value"]) : Ok P w K mg base ex 1 "is_text" ["signs", "value"] f_is_text := by
  refine ok_mk (k := 0) D sc_is_text (by decide) fun fA cdv A outer s H E hr => ?_
  have nd := sc_is_text.nd
  have tk := takes_of (X := cxOf (L2.CX P w) P w K mg base n_is_text "is_text" (defScope s_is_text) fA cdv A outer s H E) (E := E) rfl rfl rfl rfl
  have hp : PassesOwn (model P w) _ _ _ := passes_of (X := cxOf (L2.CX P w) P w K mg base n_is_text "is_text" (defScope s_is_text) fA cdv A outer s H E) rfl
  exact (p_one (l_ret (l_eand (l_isi (T := "str") (by decide) T.b_isinstance T.b_str (by decide +kernel) (l_var 1)) (l_one (l_callB (cr_all rfl) (all_1 _) T.b_all (by decide +kernel) (l_lc (own := [("sign", 2)]) rfl nd (pi_any (l_var 1)) src_any (blkOk_by (N := n_is_text) (sc := defScope s_is_text) (own := [("sign", 2)]) (by decide +kernel)) (tg_name _ 2) (by decide) (fun _ _ _ _ _ => (pg_name (i := 2) nd rfl (by first | exact Or.inl rfl | exact Or.inr rfl))) (fun _ _ _ _ _ => l_yes) (fun _ _ _ _ _ => (l_cmp (op_inU) (in_2 _ false) (l_var 2) (l_var 0)))))))))

abbrev s_is_form : Stmt := top 12
abbrev n_is_form : List Str := ["signs", "value", "low"]
theorem sc_is_form : FnScope n_is_form ["signs", "value", "low"] (defScope s_is_form) := ⟨rfl, rfl, rfl, by decide +kernel, rfl, by decide +kernel, by decide +kernel⟩
def bd_is_form : EM Out :=
  (sRet (eAnd (eCall f_is_text (aCons (eVar 0) (aCons (eVar 1) aNil))) (eChain gLe gLe (eVar 2) (e1 gLen (eVar 1)) (eC (.int 3)))))
def f_is_form : EM R := defF 3 3 bd_is_form
theorem ok_is_form (T : Txt K mg ex) (D : DefAt K mg "is_form" s_is_form ["signs", "value", "low"]) (g_is_text : Ok P w K mg base ex 1 "is_text" ["signs", "value"] f_is_text) : Ok P w K mg base ex 2 "is_form" ["signs", "value", "low"] f_is_form := by
  obtain ⟨f_is_text_, fd_is_text, m_is_text, k_is_text, b_is_text, G_is_text⟩ := g_is_text
  obtain ⟨t_LONGEST, m_LONGEST⟩ := T.c_LONGEST
  refine ok_mk (k := 1) D sc_is_form (by decide) fun fA cdv A outer s H E hr => ?_
  have nd := sc_is_form.nd
  have tk := takes_of (X := cxOf (L2.CX P w) P w K mg base n_is_form "is_form" (defScope s_is_form) fA cdv A outer s H E) (E := E) rfl rfl rfl rfl
  have hp : PassesOwn (model P w) _ _ _ := passes_of (X := cxOf (L2.CX P w) P w K mg base n_is_form "is_form" (defScope s_is_form) fA cdv A outer s H E) rfl
  exact (p_one (l_ret (l_eand (l_call G_is_text (hr.mono (by decide)) m_is_text k_is_text b_is_text tk (l_cons (l_var 0) (l_cons (l_var 1) l_nil))) (l_one (l_chain (op_leU) (le_2 _) (op_leU) (le_2 _) (l_var 2) (l_callB call_len (len_1 _) T.b_len boot_len (l_var 1)) (l_glob (v := .int 3) rfl m_LONGEST ⟨_, rfl⟩ (fun _ => .int _)))))))

abbrev s_is_rule : Stmt := top 13
abbrev n_is_rule : List Str := ["signs", "value"]
theorem sc_is_rule : FnScope n_is_rule ["signs", "value"] (defScope s_is_rule) := ⟨rfl, rfl, rfl, by decide +kernel, rfl, by decide +kernel, by decide +kernel⟩
def bd_is_rule : EM Out :=
  (sRet (eAnd (eCall f_is_wide (aCons (eVar 1) (aCons (eC (.int 2)) (aCons (eC (.int 2)) aNil)))) (eAnd (eCall f_is_form (aCons (eVar 0) (aCons (e2 gIx (eVar 1) (eC (.int 0))) (aCons (eC (.int 1)) aNil)))) (eCall f_is_form (aCons (eVar 0) (aCons (e2 gIx (eVar 1) (eC (.int 1))) (aCons (eC (.int 0)) aNil)))))))
def f_is_rule : EM R := defF 2 2 bd_is_rule
theorem ok_is_rule (T : Txt K mg ex) (D : DefAt K mg "is_rule" s_is_rule ["signs", "value"]) (g_is_wide : Ok P w K mg base ex 1 "is_wide" ["value", "low", "high"] f_is_wide) (g_is_form : Ok P w K mg base ex 2 "is_form" ["signs", "value", "low"] f_is_form) : Ok P w K mg base ex 3 "is_rule" ["signs", "value"] f_is_rule := by
  obtain ⟨f_is_wide_, fd_is_wide, m_is_wide, k_is_wide, b_is_wide, G_is_wide⟩ := g_is_wide
  obtain ⟨f_is_form_, fd_is_form, m_is_form, k_is_form, b_is_form, G_is_form⟩ := g_is_form
  refine ok_mk (k := 2) D sc_is_rule (by decide) fun fA cdv A outer s H E hr => ?_
  have nd := sc_is_rule.nd
  have tk := takes_of (X := cxOf (L2.CX P w) P w K mg base n_is_rule "is_rule" (defScope s_is_rule) fA cdv A outer s H E) (E := E) rfl rfl rfl rfl
  have hp : PassesOwn (model P w) _ _ _ := passes_of (X := cxOf (L2.CX P w) P w K mg base n_is_rule "is_rule" (defScope s_is_rule) fA cdv A outer s H E) rfl
  exact (p_one (l_ret (l_eand (l_call G_is_wide (hr.mono (by decide)) m_is_wide k_is_wide b_is_wide tk (l_cons (l_var 1) (l_cons l_int (l_cons l_int l_nil)))) (l_eand (l_call G_is_form (hr.mono (by decide)) m_is_form k_is_form b_is_form tk (l_cons (l_var 0) (l_cons (l_ix (l_var 1) l_int) (l_cons l_int l_nil)))) (l_one (l_call G_is_form (hr.mono (by decide)) m_is_form k_is_form b_is_form tk (l_cons (l_var 0) (l_cons (l_ix (l_var 1) l_int) (l_cons l_int l_nil)))))))))

abbrev s_is_table : Stmt := top 14
abbrev n_is_table : List Str := ["value", "shorts", "rule", "at", "short"]
theorem sc_is_table : FnScope n_is_table ["value"] (defScope s_is_table) := ⟨rfl, rfl, rfl, by decide +kernel, rfl, by decide +kernel, by decide +kernel⟩
def bd_is_table : EM Out :=
  (sSeq (sIf (tOr (tNot (tTru (eCall f_is_wide (aCons (eVar 0) (aCons (eC (.int 3)) (aCons (eC (.int 3)) aNil)))))) (tOr (tNot (tTru (eCall f_are_signs (aCons (e2 gIx (eVar 0) (eC (.int 0))) aNil)))) (tNot (tTru (e1 (gIsi "bool") (e2 gIx (eVar 0) (eC (.int 1))))))))
  (sRet (eC (.bool false)))
  sNx)
  (sSeq (sIf (tOr (tNot (tTru (eCall f_is_wide (aCons (e2 gIx (eVar 0) (eC (.int 2))) (aCons (eC (.int 0)) (aCons (eC (.int 5)) aNil)))))) (tNot (tTru (e1 gAll (eLc (srcAny (e2 gIx (eVar 0) (eC (.int 2)))) (stVal 2) tYesM (eCall f_is_rule (aCons (e2 gIx (eVar 0) (eC (.int 0))) (aCons (eVar 2) aNil))) [2])))))
  (sRet (eC (.bool false)))
  sNx)
  (sSeq (sSet 1 (eLc (srcAny (e2 gIx (eVar 0) (eC (.int 2)))) (stVal 2) tYesM (e2 gIx (eVar 2) (eC (.int 0))) [2]))
  (sRet (e1 gAll (eLc (srcEnum (eVar 1)) (stTup [3, 4]) tYesM (e2 (gIn true) (eVar 4) (eSl (eVar 1) pNone (pSome (eVar 3)))) [3, 4]))))))
def f_is_table : EM R := defF 1 5 bd_is_table
theorem ok_is_table (T : Txt K mg ex) (D : DefAt K mg "is_table" s_is_table ["value"]) (g_is_wide : Ok P w K mg base ex 1 "is_wide" ["value", "low", "high"] f_is_wide) (g_are_signs : Ok P w K mg base ex 1 "are_signs" ["value"] f_are_signs) (g_is_rule : Ok P w K mg base ex 3 "is_rule" ["signs", "value"] f_is_rule) : Ok P w K mg base ex 4 "is_table" ["value"] f_is_table := by
  obtain ⟨f_is_wide_, fd_is_wide, m_is_wide, k_is_wide, b_is_wide, G_is_wide⟩ := g_is_wide
  obtain ⟨f_are_signs_, fd_are_signs, m_are_signs, k_are_signs, b_are_signs, G_are_signs⟩ := g_are_signs
  obtain ⟨f_is_rule_, fd_is_rule, m_is_rule, k_is_rule, b_is_rule, G_is_rule⟩ := g_is_rule
  obtain ⟨t_MOST_RULES, m_MOST_RULES⟩ := T.c_MOST_RULES
  refine ok_mk (k := 3) D sc_is_table (by decide) fun fA cdv A outer s H E hr => ?_
  have nd := sc_is_table.nd
  have tk := takes_of (X := cxOf (L2.CX P w) P w K mg base n_is_table "is_table" (defScope s_is_table) fA cdv A outer s H E) (E := E) rfl rfl rfl rfl
  have hp : PassesOwn (model P w) _ _ _ := passes_of (X := cxOf (L2.CX P w) P w K mg base n_is_table "is_table" (defScope s_is_table) fA cdv A outer s H E) rfl
  exact (p_cons (l_ifs (PW.pt (l_or (l_not (l_tru (l_call G_is_wide (hr.mono (by decide)) m_is_wide k_is_wide b_is_wide tk (l_cons (l_var 0) (l_cons l_int (l_cons l_int l_nil)))))) (l_or (l_not (l_tru (l_call G_are_signs (hr.mono (by decide)) m_are_signs k_are_signs b_are_signs tk (l_cons (l_ix (l_var 0) l_int) l_nil)))) (l_or1 (l_not (l_tru (l_isi (T := "bool") (by decide) T.b_isinstance T.b_bool (by decide +kernel) (l_ix (l_var 0) l_int))))))))
    (p_one (l_ret l_bl))
    p_nil)
    (p_cons (l_ifs (PW.pt (l_or (l_not (l_tru (l_call G_is_wide (hr.mono (by decide)) m_is_wide k_is_wide b_is_wide tk (l_cons (l_ix (l_var 0) l_int) (l_cons l_int (l_cons (l_glob (v := .int 5) rfl m_MOST_RULES ⟨_, rfl⟩ (fun _ => .int _)) l_nil)))))) (l_or1 (l_not (l_tru (l_callB (cr_all rfl) (all_1 _) T.b_all (by decide +kernel) (l_lc (own := [("rule", 2)]) rfl nd (pi_any (l_ix (l_var 0) l_int)) src_any (blkOk_by (N := n_is_table) (sc := defScope s_is_table) (own := [("rule", 2)]) (by decide +kernel)) (tg_name _ 2) (by decide) (fun _ _ _ _ _ => (pg_name (i := 2) nd rfl (by first | exact Or.inl rfl | exact Or.inr rfl))) (fun _ _ _ _ _ => l_yes) (fun _ _ _ _ _ => (l_call G_is_rule (hr.mono (by decide)) m_is_rule k_is_rule b_is_rule takes0 (l_cons (l_ix (l_var 0) l_int) (l_cons (l_var 2) l_nil)))))))))))
    (p_one (l_ret l_bl))
    p_nil)
    (p_cons (l_set (i := 1) nd (l_lc (own := [("rule", 2)]) rfl nd (pi_any (l_ix (l_var 0) l_int)) src_any (blkOk_by (N := n_is_table) (sc := defScope s_is_table) (own := [("rule", 2)]) (by decide +kernel)) (tg_name _ 2) (by decide) (fun _ _ _ _ _ => (pg_name (i := 2) nd rfl (by first | exact Or.inl rfl | exact Or.inr rfl))) (fun _ _ _ _ _ => l_yes) (fun _ _ _ _ _ => (l_ix (l_var 2) l_int))))
    (p_one (l_ret (l_callB (cr_all rfl) (all_1 _) T.b_all (by decide +kernel) (l_lc (own := [("at", 3), ("short", 4)]) rfl nd (pi_enum rfl T.b_enumerate (pa_cons (l_var 1) pa_nil)) src_enum (blkOk_by (N := n_is_table) (sc := defScope s_is_table) (own := [("at", 3), ("short", 4)]) (by decide +kernel)) (tg_tup (tg_cons (j := 3) (tg_cons (j := 4) (tg_nil _))) rfl) (by decide) (fun _ _ _ _ _ => (pg_tup rfl (pgs_cons (pg_name (i := 3) nd rfl (by first | exact Or.inl rfl | exact Or.inr rfl)) (pgs_cons (pg_name (i := 4) nd rfl (by first | exact Or.inl rfl | exact Or.inr rfl)) pgs_nil)))) (fun _ _ _ _ _ => l_yes) (fun _ _ _ _ _ => (l_cmp (op_niU) (in_2 _ true) (l_var 4) (l_sl (l_var 1) l_no (l_so (l_var 3))))))))))))

abbrev s_is_sign : Stmt := top 15
abbrev n_is_sign : List Str := ["signs", "value"]
theorem sc_is_sign : FnScope n_is_sign ["signs", "value"] (defScope s_is_sign) := ⟨rfl, rfl, rfl, by decide +kernel, rfl, by decide +kernel, by decide +kernel⟩
def bd_is_sign : EM Out :=
  (sRet (eAnd (e1 (gIsi "str") (eVar 1)) (eAnd (e2 gEq (e1 gLen (eVar 1)) (eC (.int 1))) (e2 (gIn false) (eVar 1) (eVar 0)))))
def f_is_sign : EM R := defF 2 2 bd_is_sign
theorem ok_is_sign (T : Txt K mg ex) (D : DefAt K mg "is_sign" s_is_sign ["signs", "value"]) : Ok P w K mg base ex 1 "is_sign" ["signs", "value"] f_is_sign := by
  refine ok_mk (k := 0) D sc_is_sign (by decide) fun fA cdv A outer s H E hr => ?_
  have nd := sc_is_sign.nd
  have tk := takes_of (X := cxOf (L2.CX P w) P w K mg base n_is_sign "is_sign" (defScope s_is_sign) fA cdv A outer s H E) (E := E) rfl rfl rfl rfl
  have hp : PassesOwn (model P w) _ _ _ := passes_of (X := cxOf (L2.CX P w) P w K mg base n_is_sign "is_sign" (defScope s_is_sign) fA cdv A outer s H E) rfl
  exact (p_one (l_ret (l_eand (l_isi (T := "str") (by decide) T.b_isinstance T.b_str (by decide +kernel) (l_var 1)) (l_eand (l_cmp (op_eqD hr.units) (eq_2 _) (l_callB call_len (len_1 _) T.b_len boot_len (l_var 1)) l_int) (l_one (l_cmp (op_inU) (in_2 _ false) (l_var 1) (l_var 0)))))))

abbrev s_is_key : Stmt := top 16
abbrev n_is_key : List Str := ["signs", "value"]
theorem sc_is_key : FnScope n_is_key ["signs", "value"] (defScope s_is_key) := ⟨rfl, rfl, rfl, by decide +kernel, rfl, by decide +kernel, by decide +kernel⟩
def bd_is_key : EM Out :=
  (sRet (eOr (eCall f_is_sign (aCons (eVar 0) (aCons (eVar 1) aNil))) (eAnd (e1 (gIsi "str") (eVar 1)) (e2 gEq (eVar 1) (eC (.str "back"))))))
def f_is_key : EM R := defF 2 2 bd_is_key
theorem ok_is_key (T : Txt K mg ex) (D : DefAt K mg "is_key" s_is_key ["signs", "value"]) (g_is_sign : Ok P w K mg base ex 1 "is_sign" ["signs", "value"] f_is_sign) : Ok P w K mg base ex 2 "is_key" ["signs", "value"] f_is_key := by
  obtain ⟨f_is_sign_, fd_is_sign, m_is_sign, k_is_sign, b_is_sign, G_is_sign⟩ := g_is_sign
  obtain ⟨t_BACK, m_BACK⟩ := T.c_BACK
  refine ok_mk (k := 1) D sc_is_key (by decide) fun fA cdv A outer s H E hr => ?_
  have nd := sc_is_key.nd
  have tk := takes_of (X := cxOf (L2.CX P w) P w K mg base n_is_key "is_key" (defScope s_is_key) fA cdv A outer s H E) (E := E) rfl rfl rfl rfl
  have hp : PassesOwn (model P w) _ _ _ := passes_of (X := cxOf (L2.CX P w) P w K mg base n_is_key "is_key" (defScope s_is_key) fA cdv A outer s H E) rfl
  exact (p_one (l_ret (l_eor (l_call G_is_sign (hr.mono (by decide)) m_is_sign k_is_sign b_is_sign tk (l_cons (l_var 0) (l_cons (l_var 1) l_nil))) (l_one (l_eand (l_isi (T := "str") (by decide) T.b_isinstance T.b_str (by decide +kernel) (l_var 1)) (l_one (l_cmp (op_eqD hr.units) (eq_2 _) (l_var 1) (l_glob (v := .str "back") rfl m_BACK ⟨_, rfl⟩ (fun _ => .str _)))))))))

abbrev s_are_keys : Stmt := top 17
abbrev n_are_keys : List Str := ["signs", "value", "key"]
theorem sc_are_keys : FnScope n_are_keys ["signs", "value"] (defScope s_are_keys) := ⟨rfl, rfl, rfl, by decide +kernel, rfl, by decide +kernel, by decide +kernel⟩
def bd_are_keys : EM Out :=
  (sRet (eAnd (eCall f_is_wide (aCons (eVar 1) (aCons (eC (.int 0)) (aCons (eC (.int 300)) aNil)))) (e1 gAll (eLc (srcAny (eVar 1)) (stVal 2) tYesM (eCall f_is_key (aCons (eVar 0) (aCons (eVar 2) aNil))) [2]))))
def f_are_keys : EM R := defF 2 3 bd_are_keys
theorem ok_are_keys (T : Txt K mg ex) (D : DefAt K mg "are_keys" s_are_keys ["signs", "value"]) (g_is_wide : Ok P w K mg base ex 1 "is_wide" ["value", "low", "high"] f_is_wide) (g_is_key : Ok P w K mg base ex 2 "is_key" ["signs", "value"] f_is_key) : Ok P w K mg base ex 3 "are_keys" ["signs", "value"] f_are_keys := by
  obtain ⟨f_is_wide_, fd_is_wide, m_is_wide, k_is_wide, b_is_wide, G_is_wide⟩ := g_is_wide
  obtain ⟨f_is_key_, fd_is_key, m_is_key, k_is_key, b_is_key, G_is_key⟩ := g_is_key
  obtain ⟨t_MOST_ROW, m_MOST_ROW⟩ := T.c_MOST_ROW
  refine ok_mk (k := 2) D sc_are_keys (by decide) fun fA cdv A outer s H E hr => ?_
  have nd := sc_are_keys.nd
  have tk := takes_of (X := cxOf (L2.CX P w) P w K mg base n_are_keys "are_keys" (defScope s_are_keys) fA cdv A outer s H E) (E := E) rfl rfl rfl rfl
  have hp : PassesOwn (model P w) _ _ _ := passes_of (X := cxOf (L2.CX P w) P w K mg base n_are_keys "are_keys" (defScope s_are_keys) fA cdv A outer s H E) rfl
  exact (p_one (l_ret (l_eand (l_call G_is_wide (hr.mono (by decide)) m_is_wide k_is_wide b_is_wide tk (l_cons (l_var 1) (l_cons l_int (l_cons (l_glob (v := .int 300) rfl m_MOST_ROW ⟨_, rfl⟩ (fun _ => .int _)) l_nil)))) (l_one (l_callB (cr_all rfl) (all_1 _) T.b_all (by decide +kernel) (l_lc (own := [("key", 2)]) rfl nd (pi_any (l_var 1)) src_any (blkOk_by (N := n_are_keys) (sc := defScope s_are_keys) (own := [("key", 2)]) (by decide +kernel)) (tg_name _ 2) (by decide) (fun _ _ _ _ _ => (pg_name (i := 2) nd rfl (by first | exact Or.inl rfl | exact Or.inr rfl))) (fun _ _ _ _ _ => l_yes) (fun _ _ _ _ _ => (l_call G_is_key (hr.mono (by decide)) m_is_key k_is_key b_is_key takes0 (l_cons (l_var 0) (l_cons (l_var 2) l_nil))))))))))

abbrev s_need_table : Stmt := top 18
abbrev n_need_table : List Str := ["value"]
theorem sc_need_table : FnScope n_need_table ["value"] (defScope s_need_table) := ⟨rfl, rfl, rfl, by decide +kernel, rfl, by decide +kernel, by decide +kernel⟩
def bd_need_table : EM Out :=
  (sIf (tNot (tTru (eCall f_is_table (aCons (eVar 0) aNil))))
  (sRaise ⟨"InvalidTable", none⟩)
  sNx)
def f_need_table : EM R := defF 1 1 bd_need_table
theorem ok_need_table (T : Txt K mg ex) (D : DefAt K mg "need_table" s_need_table ["value"]) (g_is_table : Ok P w K mg base ex 4 "is_table" ["value"] f_is_table) : Ok P w K mg base ex 5 "need_table" ["value"] f_need_table := by
  obtain ⟨f_is_table_, fd_is_table, m_is_table, k_is_table, b_is_table, G_is_table⟩ := g_is_table
  refine ok_mk (k := 4) D sc_need_table (by decide) fun fA cdv A outer s H E hr => ?_
  have nd := sc_need_table.nd
  have tk := takes_of (X := cxOf (L2.CX P w) P w K mg base n_need_table "need_table" (defScope s_need_table) fA cdv A outer s H E) (E := E) rfl rfl rfl rfl
  have hp : PassesOwn (model P w) _ _ _ := passes_of (X := cxOf (L2.CX P w) P w K mg base n_need_table "need_table" (defScope s_need_table) fA cdv A outer s H E) rfl
  exact (p_one (l_ifs (l_not (l_tru (l_call G_is_table (hr.mono (by decide)) m_is_table k_is_table b_is_table tk (l_cons (l_var 0) l_nil))))
    (p_one (l_raise rfl tk PySem.F.excBase_ValueError T.x_InvalidTable.exc T.x_InvalidTable.glo T.x_InvalidTable.keep (T.x_InvalidTable.raises rfl) rfl))
    p_nil))

abbrev s_is_row : Stmt := top 19
abbrev n_is_row : List Str := ["table", "value"]
theorem sc_is_row : FnScope n_is_row ["table", "value"] (defScope s_is_row) := ⟨rfl, rfl, rfl, by decide +kernel, rfl, by decide +kernel, by decide +kernel⟩
def bd_is_row : EM Out :=
  (sSeq (sExpr (eCall f_need_table (aCons (eVar 0) aNil)))
  (sRet (eCall f_are_keys (aCons (e2 gIx (eVar 0) (eC (.int 0))) (aCons (eVar 1) aNil)))))
def f_is_row : EM R := defF 2 2 bd_is_row
theorem ok_is_row (T : Txt K mg ex) (D : DefAt K mg "is_row" s_is_row ["table", "value"]) (g_are_keys : Ok P w K mg base ex 3 "are_keys" ["signs", "value"] f_are_keys) (g_need_table : Ok P w K mg base ex 5 "need_table" ["value"] f_need_table) : Ok P w K mg base ex 6 "is_row" ["table", "value"] f_is_row := by
  obtain ⟨f_are_keys_, fd_are_keys, m_are_keys, k_are_keys, b_are_keys, G_are_keys⟩ := g_are_keys
  obtain ⟨f_need_table_, fd_need_table, m_need_table, k_need_table, b_need_table, G_need_table⟩ := g_need_table
  refine ok_mk (k := 5) D sc_is_row (by decide) fun fA cdv A outer s H E hr => ?_
  have nd := sc_is_row.nd
  have tk := takes_of (X := cxOf (L2.CX P w) P w K mg base n_is_row "is_row" (defScope s_is_row) fA cdv A outer s H E) (E := E) rfl rfl rfl rfl
  have hp : PassesOwn (model P w) _ _ _ := passes_of (X := cxOf (L2.CX P w) P w K mg base n_is_row "is_row" (defScope s_is_row) fA cdv A outer s H E) rfl
  exact (p_cons (l_expr (l_call G_need_table (hr.mono (by decide)) m_need_table k_need_table b_need_table tk (l_cons (l_var 0) l_nil)))
    (p_one (l_ret (l_call G_are_keys (hr.mono (by decide)) m_are_keys k_are_keys b_are_keys tk (l_cons (l_ix (l_var 0) l_int) (l_cons (l_var 1) l_nil))))))

abbrev s__law_source : Stmt := top 21
abbrev n__law_source : List Str := ["script", "k", "cell", "primes", "seed"]
theorem sc__law_source : FnScope n__law_source ["script", "k"] (defScope s__law_source) := ⟨rfl, rfl, rfl, by decide +kernel, rfl, by decide +kernel, by decide +kernel⟩
def bd__law_source : EM Out :=
  (sSeq (sSet 2 (eC (.int 0)))
  (sSeq (sIf (tB (e2 gLt (eVar 1) (e1 gLen (eVar 0))))
  (sSet 2 (e2 gIx (eVar 0) (eVar 1)))
  sNx)
  (sSeq (sSet 3 (eLst (aCons (eC (.int 2147483647)) (aCons (eC (.int 2147483629)) (aCons (eC (.int 2147483587)) (aCons (eC (.int 2147483579)) (aCons (eC (.int 2147483563)) (aCons (eC (.int 2147483549)) (aCons (eC (.int 2147483543)) (aCons (eC (.int 2147483497)) aNil))))))))))
  (sSeq (sSet 4 (e2 gMod (e1 gInt (e2 gMul (e2 gAdd (e2 gMod (e1 gInt (eVar 2)) (eC (.int 2147483489))) (eC (.int 1))) (e2 gAdd (eC (.int 48271)) (e2 gMul (eC (.int 2)) (eVar 1))))) (eC (.int 2147483489))))
  (sSeq (sSet 4 (e2 gAdd (e2 gAdd (e2 gMod (e1 gInt (e2 gMul (eVar 4) (eVar 4))) (eC (.int 2147483477))) (eVar 1)) (eC (.int 1))))
  (sSeq (sIf (tB (e2 gGe (eVar 2) (e2 gPow (eC (.int 10)) (eC (.int 18)))))
  (sRet (eLst (aCons (eVar 2) (aCons (eVar 4) (aCons (e2 gIx (eVar 3) (e2 gMod (e1 gInt (eVar 1)) (eC (.int 8)))) (aCons (eC (.int 0)) aNil))))))
  sNx)
  (sRet (eLst (aCons (eC (.int 0)) (aCons (eVar 4) (aCons (e2 gIx (eVar 3) (e2 gMod (e1 gInt (eVar 1)) (eC (.int 8)))) (aCons (eC (.int 0)) aNil))))))))))))
def f__law_source : EM R := defF 2 5 bd__law_source
theorem ok__law_source (T : Txt K mg ex) (D : DefAt K mg "_law_source" s__law_source ["script", "k"]) : Ok P w K mg base ex 1 "_law_source" ["script", "k"] f__law_source := by
  refine ok_mk (k := 0) D sc__law_source (by decide) fun fA cdv A outer s H E hr => ?_
  have nd := sc__law_source.nd
  have tk := takes_of (X := cxOf (L2.CX P w) P w K mg base n__law_source "_law_source" (defScope s__law_source) fA cdv A outer s H E) (E := E) rfl rfl rfl rfl
  have hp : PassesOwn (model P w) _ _ _ := passes_of (X := cxOf (L2.CX P w) P w K mg base n__law_source "_law_source" (defScope s__law_source) fA cdv A outer s H E) rfl
  exact (p_cons (l_set (i := 2) nd l_int)
    (p_cons (l_ifs (l_cmpT (op_ltU) (lt_2 _) (l_var 1) (l_callB call_len (len_1 _) T.b_len boot_len (l_var 0)))
    (p_one (l_set (i := 2) nd (l_ix (l_var 0) (l_var 1))))
    p_nil)
    (p_cons (l_set (i := 3) nd (l_lst (l_cons l_int (l_cons l_int (l_cons l_int (l_cons l_int (l_cons l_int (l_cons l_int (l_cons l_int (l_cons l_int l_nil))))))))))
    (p_cons (l_set (i := 4) nd (l_bin op_mod (mod_2 _) (l_callTy call_int1 (int_1 _) T.b_int (by decide +kernel) (l_bin op_mulU (mul_2 _) (l_bin op_addU (add_2 _) (l_bin op_mod (mod_2 _) (l_callTy call_int1 (int_1 _) T.b_int (by decide +kernel) (l_var 2)) l_int) l_int) (l_bin op_addU (add_2 _) l_int (l_bin op_mulU (mul_2 _) l_int (l_var 1))))) l_int))
    (p_cons (l_set (i := 4) nd (l_bin op_addU (add_2 _) (l_bin op_addU (add_2 _) (l_bin op_mod (mod_2 _) (l_callTy call_int1 (int_1 _) T.b_int (by decide +kernel) (l_bin op_mulU (mul_2 _) (l_var 4) (l_var 4))) l_int) (l_var 1)) l_int))
    (p_cons (l_ifs (l_cmpT (op_geU) (ge_2 _) (l_var 2) (l_bin op_pow (pow_2 _) l_int l_int))
    (p_one (l_ret (l_lst (l_cons (l_var 2) (l_cons (l_var 4) (l_cons (l_ix (l_var 3) (l_bin op_mod (mod_2 _) (l_callTy call_int1 (int_1 _) T.b_int (by decide +kernel) (l_var 1)) l_int)) (l_cons l_int l_nil)))))))
    p_nil)
    (p_one (l_ret (l_lst (l_cons l_int (l_cons (l_var 4) (l_cons (l_ix (l_var 3) (l_bin op_mod (mod_2 _) (l_callTy call_int1 (int_1 _) T.b_int (by decide +kernel) (l_var 1)) l_int)) (l_cons l_int l_nil)))))))))))))

abbrev s__law_pick : Stmt := top 22
abbrev n__law_pick : List Str := ["source", "limit", "drawn"]
theorem sc__law_pick : FnScope n__law_pick ["source", "limit"] (defScope s__law_pick) := ⟨rfl, rfl, rfl, by decide +kernel, rfl, by decide +kernel, by decide +kernel⟩
def bd__law_pick : EM Out :=
  (sSeq (sIf (tB (e2 gGt (e2 gIx (eVar 0) (eC (.int 0))) (eC (.int 0))))
  (sSeq (sSet 2 (e2 gMod (e1 gInt (e2 gIx (eVar 0) (eC (.int 0)))) (eVar 1)))
  (sSeq (sSetIx 0 (e2 gDiv (e2 gIx (eVar 0) (eC (.int 0))) (eVar 1)) (eC (.int 0)))
  (sRet (eVar 2))))
  sNx)
  (sSeq (sSetIx 0 (e2 gAdd (e2 gIx (eVar 0) (eC (.int 3))) (eC (.int 1))) (eC (.int 3)))
  (sSeq (sSetIx 0 (e2 gMod (e1 gInt (e2 gAdd (e2 gMul (e2 gIx (eVar 0) (eC (.int 1))) (eC (.int 48271))) (e2 gMul (eC (.int 7919)) (e2 gIx (eVar 0) (eC (.int 3)))))) (e2 gIx (eVar 0) (eC (.int 2)))) (eC (.int 1)))
  (sRet (e2 gMod (e1 gInt (e2 gDiv (e2 gMod (e1 gInt (e2 gAdd (e2 gMul (e2 gIx (eVar 0) (eC (.int 1))) (e2 gIx (eVar 0) (eC (.int 1)))) (e2 gIx (eVar 0) (eC (.int 3))))) (eC (.int 2147483423))) (eC (.int 7)))) (eVar 1))))))
def f__law_pick : EM R := defF 2 3 bd__law_pick
theorem ok__law_pick (T : Txt K mg ex) (D : DefAt K mg "_law_pick" s__law_pick ["source", "limit"]) : Ok P w K mg base ex 1 "_law_pick" ["source", "limit"] f__law_pick := by
  refine ok_mk (k := 0) D sc__law_pick (by decide) fun fA cdv A outer s H E hr => ?_
  have nd := sc__law_pick.nd
  have tk := takes_of (X := cxOf (L2.CX P w) P w K mg base n__law_pick "_law_pick" (defScope s__law_pick) fA cdv A outer s H E) (E := E) rfl rfl rfl rfl
  have hp : PassesOwn (model P w) _ _ _ := passes_of (X := cxOf (L2.CX P w) P w K mg base n__law_pick "_law_pick" (defScope s__law_pick) fA cdv A outer s H E) rfl
  exact (p_cons (l_ifs (l_cmpT (op_gtU) (gt_2 _) (l_ix (l_var 0) l_int) l_int)
    (p_cons (l_set (i := 2) nd (l_bin op_mod (mod_2 _) (l_callTy call_int1 (int_1 _) T.b_int (by decide +kernel) (l_ix (l_var 0) l_int)) (l_var 1)))
    (p_cons (l_setIx (i := 0) (l_bin op_fdiv (div_2 _) (l_ix (l_var 0) l_int) (l_var 1)) l_int)
    (p_one (l_ret (l_var 2)))))
    p_nil)
    (p_cons (l_setIx (i := 0) (l_bin op_addU (add_2 _) (l_ix (l_var 0) l_int) l_int) l_int)
    (p_cons (l_setIx (i := 0) (l_bin op_mod (mod_2 _) (l_callTy call_int1 (int_1 _) T.b_int (by decide +kernel) (l_bin op_addU (add_2 _) (l_bin op_mulU (mul_2 _) (l_ix (l_var 0) l_int) l_int) (l_bin op_mulU (mul_2 _) l_int (l_ix (l_var 0) l_int)))) (l_ix (l_var 0) l_int)) l_int)
    (p_one (l_ret (l_bin op_mod (mod_2 _) (l_callTy call_int1 (int_1 _) T.b_int (by decide +kernel) (l_bin op_fdiv (div_2 _) (l_bin op_mod (mod_2 _) (l_callTy call_int1 (int_1 _) T.b_int (by decide +kernel) (l_bin op_addU (add_2 _) (l_bin op_mulU (mul_2 _) (l_ix (l_var 0) l_int) (l_ix (l_var 0) l_int)) (l_ix (l_var 0) l_int))) l_int) l_int)) (l_var 1)))))))

abbrev s__law_is_bool : Stmt := top 23
abbrev n__law_is_bool : List Str := ["actual", "expected"]
theorem sc__law_is_bool : FnScope n__law_is_bool ["actual", "expected"] (defScope s__law_is_bool) := ⟨rfl, rfl, rfl, by decide +kernel, rfl, by decide +kernel, by decide +kernel⟩
def bd__law_is_bool : EM Out :=
  (sRet (eAnd (e1 (gIsi "bool") (eVar 0)) (e2 gEq (eVar 0) (eVar 1))))
def f__law_is_bool : EM R := defF 2 2 bd__law_is_bool
theorem ok__law_is_bool (T : Txt K mg ex) (D : DefAt K mg "_law_is_bool" s__law_is_bool ["actual", "expected"]) : Ok P w K mg base ex 1 "_law_is_bool" ["actual", "expected"] f__law_is_bool := by
  refine ok_mk (k := 0) D sc__law_is_bool (by decide) fun fA cdv A outer s H E hr => ?_
  have nd := sc__law_is_bool.nd
  have tk := takes_of (X := cxOf (L2.CX P w) P w K mg base n__law_is_bool "_law_is_bool" (defScope s__law_is_bool) fA cdv A outer s H E) (E := E) rfl rfl rfl rfl
  have hp : PassesOwn (model P w) _ _ _ := passes_of (X := cxOf (L2.CX P w) P w K mg base n__law_is_bool "_law_is_bool" (defScope s__law_is_bool) fA cdv A outer s H E) rfl
  exact (p_one (l_ret (l_eand (l_isi (T := "bool") (by decide) T.b_isinstance T.b_bool (by decide +kernel) (l_var 0)) (l_one (l_cmp (op_eqD hr.units) (eq_2 _) (l_var 0) (l_var 1))))))

abbrev s__law_chosen : Stmt := top 24
abbrev n__law_chosen : List Str := ["source", "some"]
theorem sc__law_chosen : FnScope n__law_chosen ["source", "some"] (defScope s__law_chosen) := ⟨rfl, rfl, rfl, by decide +kernel, rfl, by decide +kernel, by decide +kernel⟩
def bd__law_chosen : EM Out :=
  (sRet (e2 gIx (eVar 1) (eCall f__law_pick (aCons (eVar 0) (aCons (e1 gLen (eVar 1)) aNil)))))
def f__law_chosen : EM R := defF 2 2 bd__law_chosen
theorem ok__law_chosen (T : Txt K mg ex) (D : DefAt K mg "_law_chosen" s__law_chosen ["source", "some"]) (g__law_pick : Ok P w K mg base ex 1 "_law_pick" ["source", "limit"] f__law_pick) : Ok P w K mg base ex 2 "_law_chosen" ["source", "some"] f__law_chosen := by
  obtain ⟨f__law_pick_, fd__law_pick, m__law_pick, k__law_pick, b__law_pick, G__law_pick⟩ := g__law_pick
  refine ok_mk (k := 1) D sc__law_chosen (by decide) fun fA cdv A outer s H E hr => ?_
  have nd := sc__law_chosen.nd
  have tk := takes_of (X := cxOf (L2.CX P w) P w K mg base n__law_chosen "_law_chosen" (defScope s__law_chosen) fA cdv A outer s H E) (E := E) rfl rfl rfl rfl
  have hp : PassesOwn (model P w) _ _ _ := passes_of (X := cxOf (L2.CX P w) P w K mg base n__law_chosen "_law_chosen" (defScope s__law_chosen) fA cdv A outer s H E) rfl
  exact (p_one (l_ret (l_ix (l_var 1) (l_call G__law_pick (hr.mono (by decide)) m__law_pick k__law_pick b__law_pick tk (l_cons (l_var 0) (l_cons (l_callB call_len (len_1 _) T.b_len boot_len (l_var 1)) l_nil))))))

abbrev s__law_any_value : Stmt := top 25
abbrev n__law_any_value : List Str := ["source", "depth", "kind", "some", "items", "k"]
theorem sc__law_any_value : FnScope n__law_any_value ["source", "depth"] (defScope s__law_any_value) := ⟨rfl, rfl, rfl, by decide +kernel, rfl, by decide +kernel, by decide +kernel⟩
def bd__law_any_value (f_rec : EM R) : EM Out :=
  (sSeq (sSet 2 (eCall f__law_pick (aCons (eVar 0) (aCons (eC (.int 9)) aNil))))
  (sSeq (sIf (tOr (tB (e2 gLt (eVar 2) (eC (.int 6)))) (tB (e2 gEq (eVar 1) (eC (.int 0)))))
  (sSeq (sSet 3 (eLst (aCons (eC (.int 0)) (aCons (e1 gNeg (eC (.int 1))) (aCons (eC (.int 1)) (aCons (eC (.bool true)) (aCons (eC (.bool false)) (aCons (eC .none) (aCons (eC (.str "")) (aCons (eC (.str "a")) (aCons (eC (.str "ab")) (aCons (eC (.str "back")) (aCons (eC (.str "a b")) (aCons (eC (.str "abab")) (aCons (eC (.int 2)) (aCons (eC (.int 3)) (aCons (e1 gNeg (eC (.int 7))) (aCons (eC (.str "|")) (aCons (e2 gPow (eC (.int 10)) (eC (.int 11))) (aCons (eC (.int 8)) aNil))))))))))))))))))))
  (sRet (e2 gIx (e2 gAdd (eVar 3) (eLst (aCons (eTup aNil) (aCons (eLst aNil) (aCons (eTup (aCons (eC (.int 0)) (aCons (eC (.int 1)) aNil))) aNil))))) (eCall f__law_pick (aCons (eVar 0) (aCons (eC (.int 21)) aNil))))))
  sNx)
  (sSeq (sSet 4 (eLc (srcR1 (eCall f__law_pick (aCons (eVar 0) (aCons (eC (.int 6)) aNil)))) (stVal 5) tYesM (eCall f_rec (aCons (eVar 0) (aCons (e2 gSub (eVar 1) (eC (.int 1))) aNil))) [5]))
  (sRet (e2 gIx (eLst (aCons (eVar 4) (aCons (e1 gTuple (eVar 4)) (aCons (e1 gTuple (eVar 4)) aNil)))) (e2 gSub (eVar 2) (eC (.int 6))))))))
def f__law_any_value : Nat → EM R
  | 0 => fun _ => none
  | n + 1 => defF 2 6 (bd__law_any_value (f__law_any_value n))
theorem ok__law_any_value (T : Txt K mg ex) (D : DefAt K mg "_law_any_value" s__law_any_value ["source", "depth"]) (g__law_pick : Ok P w K mg base ex 1 "_law_pick" ["source", "limit"] f__law_pick) : ∀ n : Nat, Ok P w K mg base ex (2 + n) "_law_any_value" ["source", "depth"] (f__law_any_value n)
  | 0 => ok_none D _
  | n + 1 => by
    obtain ⟨f__law_any_value_, fd__law_any_value, m__law_any_value, k__law_any_value, b__law_any_value, G__law_any_value⟩ := ok__law_any_value T D g__law_pick n
    obtain ⟨f__law_pick_, fd__law_pick, m__law_pick, k__law_pick, b__law_pick, G__law_pick⟩ := g__law_pick
    refine ok_mk (k := 2 + n) D sc__law_any_value (by decide) fun fA cdv A outer s H E hr => ?_
    have nd := sc__law_any_value.nd
    have tk := takes_of (X := cxOf (L2.CX P w) P w K mg base n__law_any_value "_law_any_value" (defScope s__law_any_value) fA cdv A outer s H E) (E := E) rfl rfl rfl rfl
    have hp : PassesOwn (model P w) _ _ _ := passes_of (X := cxOf (L2.CX P w) P w K mg base n__law_any_value "_law_any_value" (defScope s__law_any_value) fA cdv A outer s H E) rfl
    exact (p_cons (l_set (i := 2) nd (l_call G__law_pick (hr.mono (by omega)) m__law_pick k__law_pick b__law_pick tk (l_cons (l_var 0) (l_cons l_int l_nil))))
      (p_cons (l_ifs (PW.pt (l_or (l_cmpT (op_ltU) (lt_2 _) (l_var 2) l_int) (l_or1 (l_cmpT (op_eqD hr.units) (eq_2 _) (l_var 1) l_int))))
      (p_cons (l_set (i := 3) nd (l_lst (l_cons l_int (l_cons (l_un un_neg (neg_1 _) l_int) (l_cons l_int (l_cons l_bl (l_cons l_bl (l_cons l_non (l_cons l_str (l_cons l_str (l_cons l_str (l_cons l_str (l_cons l_str (l_cons l_str (l_cons l_int (l_cons l_int (l_cons (l_un un_neg (neg_1 _) l_int) (l_cons l_str (l_cons (l_bin op_pow (pow_2 _) l_int l_int) (l_cons l_int l_nil))))))))))))))))))))
      (p_one (l_ret (l_ix (l_bin op_addU (add_2 _) (l_var 3) (l_lst (l_cons (l_tup l_nil) (l_cons (l_lst l_nil) (l_cons (l_tup (l_cons l_int (l_cons l_int l_nil))) l_nil))))) (l_call G__law_pick (hr.mono (by omega)) m__law_pick k__law_pick b__law_pick tk (l_cons (l_var 0) (l_cons l_int l_nil)))))))
      p_nil)
      (p_cons (l_setLc (i := 4) (own := [("k", 5)]) rfl nd rfl rfl (sw_true rfl rfl rfl (by decide +kernel)) (pi_range1 rfl T.b_range (pa_cons (l_call G__law_pick (hr.mono (by omega)) m__law_pick k__law_pick b__law_pick tk (l_cons (l_var 0) (l_cons l_int l_nil))) pa_nil)) src_r1 (blkOk_by (N := n__law_any_value) (sc := defScope s__law_any_value) (own := [("k", 5)]) (by decide +kernel)) (tg_name _ 5) (by decide) (fun _ _ _ _ _ => (pg_name (i := 5) nd rfl (by first | exact Or.inl rfl | exact Or.inr rfl))) (fun _ _ _ _ _ => l_yes) (fun _ _ _ _ _ => (l_call G__law_any_value (hr.mono (by omega)) m__law_any_value k__law_any_value b__law_any_value takes0 (l_cons (l_var 0) (l_cons (l_bin op_sub (sub_2 _) (l_var 1) l_int) l_nil)))))
      (p_one (l_ret (l_ix (l_lst (l_cons (l_var 4) (l_cons (l_callTy call_tuple_of (tuple_1 _) T.b_tuple (by decide +kernel) (l_var 4)) (l_cons (l_callTy call_tuple_of (tuple_1 _) T.b_tuple (by decide +kernel) (l_var 4)) l_nil)))) (l_bin op_sub (sub_2 _) (l_var 2) l_int)))))))

abbrev s__law_wide : Stmt := top 26
abbrev n__law_wide : List Str := ["value", "least", "most"]
theorem sc__law_wide : FnScope n__law_wide ["value", "least", "most"] (defScope s__law_wide) := ⟨rfl, rfl, rfl, by decide +kernel, rfl, by decide +kernel, by decide +kernel⟩
def bd__law_wide : EM Out :=
  (sRet (eAnd (e1 (gIsi "tuple") (eVar 0)) (eChain gLe gLe (eVar 1) (e1 gLen (eVar 0)) (eVar 2))))
def f__law_wide : EM R := defF 3 3 bd__law_wide
theorem ok__law_wide (T : Txt K mg ex) (D : DefAt K mg "_law_wide" s__law_wide ["value", "least", "most"]) : Ok P w K mg base ex 1 "_law_wide" ["value", "least", "most"] f__law_wide := by
  refine ok_mk (k := 0) D sc__law_wide (by decide) fun fA cdv A outer s H E hr => ?_
  have nd := sc__law_wide.nd
  have tk := takes_of (X := cxOf (L2.CX P w) P w K mg base n__law_wide "_law_wide" (defScope s__law_wide) fA cdv A outer s H E) (E := E) rfl rfl rfl rfl
  have hp : PassesOwn (model P w) _ _ _ := passes_of (X := cxOf (L2.CX P w) P w K mg base n__law_wide "_law_wide" (defScope s__law_wide) fA cdv A outer s H E) rfl
  exact (p_one (l_ret (l_eand (l_isi (T := "tuple") (by decide) T.b_isinstance T.b_tuple (by decide +kernel) (l_var 0)) (l_one (l_chain (op_leU) (le_2 _) (op_leU) (le_2 _) (l_var 1) (l_callB call_len (len_1 _) T.b_len boot_len (l_var 0)) (l_var 2))))))

abbrev s__law_variant : Stmt := top 27
abbrev n__law_variant : List Str := ["source", "value", "depth", "items", "at", "kind", "near"]
theorem sc__law_variant : FnScope n__law_variant ["source", "value", "depth"] (defScope s__law_variant) := ⟨rfl, rfl, rfl, by decide +kernel, rfl, by decide +kernel, by decide +kernel⟩
def bd__law_variant (f_rec : EM R) : EM Out :=
  (sSeq (sSet 3 (e1 gListU (eVar 1)))
  (sSeq (sIf (tB (e2 gEq (eVar 3) (eLst aNil)))
  (sRet (eTup (aCons (eCall (f__law_any_value 5) (aCons (eVar 0) (aCons (eC (.int 1)) aNil))) aNil)))
  sNx)
  (sSeq (sSet 4 (eCall f__law_pick (aCons (eVar 0) (aCons (e1 gLen (eVar 3)) aNil))))
  (sSeq (sIf (tAnd (tTru (e1 (gIsi "tuple") (e2 gIx (eVar 3) (eVar 4)))) (tAnd (tB (e2 gGt (eVar 2) (eC (.int 0)))) (tB (e2 gGt (eCall f__law_pick (aCons (eVar 0) (aCons (eC (.int 4)) aNil))) (eC (.int 0))))))
  (sSeq (sSetIx 3 (eCall f_rec (aCons (eVar 0) (aCons (e2 gIx (eVar 3) (eVar 4)) (aCons (e2 gSub (eVar 2) (eC (.int 1))) aNil)))) (eVar 4))
  (sRet (e1 gTuple (eVar 3))))
  sNx)
  (sSeq (sSet 5 (eCall f__law_pick (aCons (eVar 0) (aCons (eC (.int 8)) aNil))))
  (sSeq (sIf (tB (e2 gEq (eVar 5) (eC (.int 0))))
  (sExpr (sMeth 3 gPopAt (aCons (eVar 4) aNil)))
  (sIf (tB (e2 gEq (eVar 5) (eC (.int 1))))
  (sExpr (sMeth 3 gInsert (aCons (eVar 4) (aCons (e2 gIx (eVar 3) (eVar 4)) aNil))))
  (sIf (tB (e2 gEq (eVar 5) (eC (.int 2))))
  (sSetSl 3 (e1 gRev (eSl (eVar 3) (pSome (eVar 4)) (pSome (e2 gAdd (eVar 4) (eC (.int 2)))))) (eVar 4) (e2 gAdd (eVar 4) (eC (.int 2))))
  (sIf (tB (e2 gEq (eVar 5) (eC (.int 3))))
  (sSetIx 3 (eCall (f__law_any_value 5) (aCons (eVar 0) (aCons (eC (.int 2)) aNil))) (eVar 4))
  (sIf (tB (e2 gLt (eVar 5) (eC (.int 6))))
  (sSeq (sSet 6 (eLst (aCons (eC (.str "a")) (aCons (eC (.str "b")) (aCons (eC (.str "ab")) (aCons (eC (.str "aa")) (aCons (eC (.str "x")) (aCons (eC (.str "back")) (aCons (eC .none) (aCons (eC (.bool true)) (aCons (eC (.bool false)) aNil)))))))))))
  (sSetIx 3 (eCall f__law_chosen (aCons (eVar 0) (aCons (e2 gAdd (eVar 6) (eLst (aCons (eC (.int 0)) (aCons (eC (.int 1)) (aCons (eC (.int 2)) (aCons (eC (.int 3)) (aCons (eC (.int 4)) (aCons (e1 gNeg (eC (.int 1))) (aCons (eC (.str "A")) (aCons (eC (.str "")) (aCons (eC (.str "1111")) (aCons (eC (.str "|")) (aCons (eTup aNil) aNil))))))))))))) aNil))) (eVar 4)))
  (sIf (tAnd (tB (e2 gEq (eVar 5) (eC (.int 6)))) (tTru (e1 (gIsi "tuple") (e2 gIx (eVar 3) (eVar 4)))))
  (sSetIx 3 (e1 gListU (e2 gIx (eVar 3) (eVar 4))) (eVar 4))
  (sIf (tAnd (tB (e2 gEq (eVar 5) (eC (.int 7)))) (tTru (e1 (gIsi "int") (e2 gIx (eVar 3) (eVar 4)))))
  (sSetIx 3 (e2 gAdd (e2 gIx (eVar 3) (eVar 4)) (e2 gIx (eLst (aCons (eC (.int 1)) (aCons (e1 gNeg (eC (.int 1))) aNil))) (eCall f__law_pick (aCons (eVar 0) (aCons (eC (.int 2)) aNil))))) (eVar 4))
  (sRet (eVar 3)))))))))
  (sRet (e1 gTuple (eVar 3)))))))))
def f__law_variant : Nat → EM R
  | 0 => fun _ => none
  | n + 1 => defF 3 7 (bd__law_variant (f__law_variant n))
theorem ok__law_variant (T : Txt K mg ex) (D : DefAt K mg "_law_variant" s__law_variant ["source", "value", "depth"]) (g__law_pick : Ok P w K mg base ex 1 "_law_pick" ["source", "limit"] f__law_pick) (g__law_chosen : Ok P w K mg base ex 2 "_law_chosen" ["source", "some"] f__law_chosen) (g__law_any_value : Ok P w K mg base ex 7 "_law_any_value" ["source", "depth"] (f__law_any_value 5)) : ∀ n : Nat, Ok P w K mg base ex (8 + n) "_law_variant" ["source", "value", "depth"] (f__law_variant n)
  | 0 => ok_none D _
  | n + 1 => by
    obtain ⟨f__law_variant_, fd__law_variant, m__law_variant, k__law_variant, b__law_variant, G__law_variant⟩ := ok__law_variant T D g__law_pick g__law_chosen g__law_any_value n
    obtain ⟨f__law_pick_, fd__law_pick, m__law_pick, k__law_pick, b__law_pick, G__law_pick⟩ := g__law_pick
    obtain ⟨f__law_chosen_, fd__law_chosen, m__law_chosen, k__law_chosen, b__law_chosen, G__law_chosen⟩ := g__law_chosen
    obtain ⟨f__law_any_value_, fd__law_any_value, m__law_any_value, k__law_any_value, b__law_any_value, G__law_any_value⟩ := g__law_any_value
    refine ok_mk (k := 8 + n) D sc__law_variant (by decide) fun fA cdv A outer s H E hr => ?_
    have nd := sc__law_variant.nd
    have tk := takes_of (X := cxOf (L2.CX P w) P w K mg base n__law_variant "_law_variant" (defScope s__law_variant) fA cdv A outer s H E) (E := E) rfl rfl rfl rfl
    have hp : PassesOwn (model P w) _ _ _ := passes_of (X := cxOf (L2.CX P w) P w K mg base n__law_variant "_law_variant" (defScope s__law_variant) fA cdv A outer s H E) rfl
    exact (p_cons (l_set (i := 3) nd (l_callTy (call_listU rfl) (listU_1 _) T.b_list (by decide +kernel) (l_var 1)))
      (p_cons (l_ifs (l_cmpT (op_eqD hr.units) (eq_2 _) (l_var 3) (l_lst l_nil))
      (p_one (l_ret (l_tup (l_cons (l_call G__law_any_value (hr.mono (by omega)) m__law_any_value k__law_any_value b__law_any_value tk (l_cons (l_var 0) (l_cons l_int l_nil))) l_nil))))
      p_nil)
      (p_cons (l_set (i := 4) nd (l_call G__law_pick (hr.mono (by omega)) m__law_pick k__law_pick b__law_pick tk (l_cons (l_var 0) (l_cons (l_callB call_len (len_1 _) T.b_len boot_len (l_var 3)) l_nil))))
      (p_cons (l_ifs (PW.pt (l_and (l_tru (l_isi (T := "tuple") (by decide) T.b_isinstance T.b_tuple (by decide +kernel) (l_ix (l_var 3) (l_var 4)))) (l_and (l_cmpT (op_gtU) (gt_2 _) (l_var 2) l_int) (l_and1 (l_cmpT (op_gtU) (gt_2 _) (l_call G__law_pick (hr.mono (by omega)) m__law_pick k__law_pick b__law_pick tk (l_cons (l_var 0) (l_cons l_int l_nil))) l_int)))))
      (p_cons (l_setIx (i := 3) (l_call G__law_variant (hr.mono (by omega)) m__law_variant k__law_variant b__law_variant tk (l_cons (l_var 0) (l_cons (l_ix (l_var 3) (l_var 4)) (l_cons (l_bin op_sub (sub_2 _) (l_var 2) l_int) l_nil)))) (l_var 4))
      (p_one (l_ret (l_callTy call_tuple_of (tuple_1 _) T.b_tuple (by decide +kernel) (l_var 3)))))
      p_nil)
      (p_cons (l_set (i := 5) nd (l_call G__law_pick (hr.mono (by omega)) m__law_pick k__law_pick b__law_pick tk (l_cons (l_var 0) (l_cons l_int l_nil))))
      (p_cons (l_ifs (l_cmpT (op_eqD hr.units) (eq_2 _) (l_var 5) l_int)
      (p_one (l_expr (l_meth (i := 3) PySem.F.slot_list_pop PySem.F.type_list_pop mt_popAt (popAt_ok _) (l_cons (l_var 4) l_nil))))
      (p_one (l_ifs (l_cmpT (op_eqD hr.units) (eq_2 _) (l_var 5) l_int)
      (p_one (l_expr (l_meth (i := 3) PySem.F.slot_list_insert PySem.F.type_list_insert mt_insert (insert_ok _) (l_cons (l_var 4) (l_cons (l_ix (l_var 3) (l_var 4)) l_nil)))))
      (p_one (l_ifs (l_cmpT (op_eqD hr.units) (eq_2 _) (l_var 5) l_int)
      (p_one (l_setSl (i := 3) (l_rev (l_sl (l_var 3) (l_so (l_var 4)) (l_so (l_bin op_addU (add_2 _) (l_var 4) l_int)))) (l_var 4) (l_bin op_addU (add_2 _) (l_var 4) l_int)))
      (p_one (l_ifs (l_cmpT (op_eqD hr.units) (eq_2 _) (l_var 5) l_int)
      (p_one (l_setIx (i := 3) (l_call G__law_any_value (hr.mono (by omega)) m__law_any_value k__law_any_value b__law_any_value tk (l_cons (l_var 0) (l_cons l_int l_nil))) (l_var 4)))
      (p_one (l_ifs (l_cmpT (op_ltU) (lt_2 _) (l_var 5) l_int)
      (p_cons (l_set (i := 6) nd (l_lst (l_cons l_str (l_cons l_str (l_cons l_str (l_cons l_str (l_cons l_str (l_cons l_str (l_cons l_non (l_cons l_bl (l_cons l_bl l_nil)))))))))))
      (p_one (l_setIx (i := 3) (l_call G__law_chosen (hr.mono (by omega)) m__law_chosen k__law_chosen b__law_chosen tk (l_cons (l_var 0) (l_cons (l_bin op_addU (add_2 _) (l_var 6) (l_lst (l_cons l_int (l_cons l_int (l_cons l_int (l_cons l_int (l_cons l_int (l_cons (l_un un_neg (neg_1 _) l_int) (l_cons l_str (l_cons l_str (l_cons l_str (l_cons l_str (l_cons (l_tup l_nil) l_nil))))))))))))) l_nil))) (l_var 4))))
      (p_one (l_ifs (PW.pt (l_and (l_cmpT (op_eqD hr.units) (eq_2 _) (l_var 5) l_int) (l_and1 (l_tru (l_isi (T := "tuple") (by decide) T.b_isinstance T.b_tuple (by decide +kernel) (l_ix (l_var 3) (l_var 4)))))))
      (p_one (l_setIx (i := 3) (l_callTy (call_listU rfl) (listU_1 _) T.b_list (by decide +kernel) (l_ix (l_var 3) (l_var 4))) (l_var 4)))
      (p_one (l_ifs (PW.pt (l_and (l_cmpT (op_eqD hr.units) (eq_2 _) (l_var 5) l_int) (l_and1 (l_tru (l_isi (T := "int") (by decide) T.b_isinstance T.b_int (by decide +kernel) (l_ix (l_var 3) (l_var 4)))))))
      (p_one (l_setIx (i := 3) (l_bin op_addU (add_2 _) (l_ix (l_var 3) (l_var 4)) (l_ix (l_lst (l_cons l_int (l_cons (l_un un_neg (neg_1 _) l_int) l_nil))) (l_call G__law_pick (hr.mono (by omega)) m__law_pick k__law_pick b__law_pick tk (l_cons (l_var 0) (l_cons l_int l_nil))))) (l_var 4)))
      (p_one (l_ret (l_var 3))))))))))))))))
      (p_one (l_ret (l_callTy call_tuple_of (tuple_1 _) T.b_tuple (by decide +kernel) (l_var 3))))))))))

abbrev s__law_is_word : Stmt := top 28
abbrev n__law_is_word : List Str := ["signs", "value", "low", "high", "sign"]
theorem sc__law_is_word : FnScope n__law_is_word ["signs", "value", "low", "high"] (defScope s__law_is_word) := ⟨rfl, rfl, rfl, by decide +kernel, rfl, by decide +kernel, by decide +kernel⟩
def bd__law_is_word : EM Out :=
  (sSeq (sIf (tOr (tNot (tTru (e1 (gIsi "str") (eVar 1)))) (tNot (tB (eChain gLe gLe (eVar 2) (e1 gLen (eVar 1)) (eVar 3)))))
  (sRet (eC (.bool false)))
  sNx)
  (sRet (e2 gEq (eLc (srcAny (eVar 1)) (stVal 4) (tB (e2 (gIn true) (eVar 4) (eVar 0))) (eVar 4) [4]) (eLst aNil))))
def f__law_is_word : EM R := defF 4 5 bd__law_is_word
theorem ok__law_is_word (T : Txt K mg ex) (D : DefAt K mg "_law_is_word" s__law_is_word ["signs", "value", "low", "high"]) : Ok P w K mg base ex 1 "_law_is_word" ["signs", "value", "low", "high"] f__law_is_word := by
  refine ok_mk (k := 0) D sc__law_is_word (by decide) fun fA cdv A outer s H E hr => ?_
  have nd := sc__law_is_word.nd
  have tk := takes_of (X := cxOf (L2.CX P w) P w K mg base n__law_is_word "_law_is_word" (defScope s__law_is_word) fA cdv A outer s H E) (E := E) rfl rfl rfl rfl
  have hp : PassesOwn (model P w) _ _ _ := passes_of (X := cxOf (L2.CX P w) P w K mg base n__law_is_word "_law_is_word" (defScope s__law_is_word) fA cdv A outer s H E) rfl
  exact (p_cons (l_ifs (PW.pt (l_or (l_not (l_tru (l_isi (T := "str") (by decide) T.b_isinstance T.b_str (by decide +kernel) (l_var 1)))) (l_or1 (l_not (l_chainT (op_leU) (le_2 _) (op_leU) (le_2 _) (l_var 2) (l_callB call_len (len_1 _) T.b_len boot_len (l_var 1)) (l_var 3))))))
    (p_one (l_ret l_bl))
    p_nil)
    (p_one (l_ret (l_cmp (op_eqD hr.units) (eq_2 _) (l_lc (own := [("sign", 4)]) rfl nd (pi_any (l_var 1)) src_any (blkOk_by (N := n__law_is_word) (sc := defScope s__law_is_word) (own := [("sign", 4)]) (by decide +kernel)) (tg_name _ 4) (by decide) (fun _ _ _ _ _ => (pg_name (i := 4) nd rfl (by first | exact Or.inl rfl | exact Or.inr rfl))) (fun _ _ _ _ _ => (pts_one (l_cmpT (op_niU) (in_2 _ true) (l_var 4) (l_var 0)))) (fun _ _ _ _ _ => (l_var 4))) (l_lst l_nil)))))

abbrev s__law_text : Stmt := top 29
abbrev n__law_text : List Str := ["source", "signs", "most", "turn"]
theorem sc__law_text : FnScope n__law_text ["source", "signs", "most"] (defScope s__law_text) := ⟨rfl, rfl, rfl, by decide +kernel, rfl, by decide +kernel, by decide +kernel⟩
def bd__law_text : EM Out :=
  (sRet (eS1 g_join (eC (.str "")) (eLc (srcR1 (eCall f__law_pick (aCons (eVar 0) (aCons (e2 gAdd (eVar 2) (eC (.int 1))) aNil)))) (stVal 3) tYesM (eCall f__law_chosen (aCons (eVar 0) (aCons (e1 gListU (eVar 1)) aNil))) [3])))
def f__law_text : EM R := defF 3 4 bd__law_text
theorem ok__law_text (T : Txt K mg ex) (D : DefAt K mg "_law_text" s__law_text ["source", "signs", "most"]) (g__law_pick : Ok P w K mg base ex 1 "_law_pick" ["source", "limit"] f__law_pick) (g__law_chosen : Ok P w K mg base ex 2 "_law_chosen" ["source", "some"] f__law_chosen) : Ok P w K mg base ex 3 "_law_text" ["source", "signs", "most"] f__law_text := by
  obtain ⟨f__law_pick_, fd__law_pick, m__law_pick, k__law_pick, b__law_pick, G__law_pick⟩ := g__law_pick
  obtain ⟨f__law_chosen_, fd__law_chosen, m__law_chosen, k__law_chosen, b__law_chosen, G__law_chosen⟩ := g__law_chosen
  refine ok_mk (k := 2) D sc__law_text (by decide) fun fA cdv A outer s H E hr => ?_
  have nd := sc__law_text.nd
  have tk := takes_of (X := cxOf (L2.CX P w) P w K mg base n__law_text "_law_text" (defScope s__law_text) fA cdv A outer s H E) (E := E) rfl rfl rfl rfl
  have hp : PassesOwn (model P w) _ _ _ := passes_of (X := cxOf (L2.CX P w) P w K mg base n__law_text "_law_text" (defScope s__law_text) fA cdv A outer s H E) rfl
  exact (p_one (l_ret (l_join l_str (l_lc (own := [("turn", 3)]) rfl nd (pi_range1 rfl T.b_range (pa_cons (l_call G__law_pick (hr.mono (by decide)) m__law_pick k__law_pick b__law_pick tk (l_cons (l_var 0) (l_cons (l_bin op_addU (add_2 _) (l_var 2) l_int) l_nil))) pa_nil)) src_r1 (blkOk_by (N := n__law_text) (sc := defScope s__law_text) (own := [("turn", 3)]) (by decide +kernel)) (tg_name _ 3) (by decide) (fun _ _ _ _ _ => (pg_name (i := 3) nd rfl (by first | exact Or.inl rfl | exact Or.inr rfl))) (fun _ _ _ _ _ => l_yes) (fun _ _ _ _ _ => (l_call G__law_chosen (hr.mono (by decide)) m__law_chosen k__law_chosen b__law_chosen takes0 (l_cons (l_var 0) (l_cons (l_callTy (call_listU rfl) (listU_1 _) T.b_list (by decide +kernel) (l_var 1)) l_nil))))))))

abbrev s__law_good_signs : Stmt := top 30
abbrev n__law_good_signs : List Str := ["value", "sign"]
theorem sc__law_good_signs : FnScope n__law_good_signs ["value"] (defScope s__law_good_signs) := ⟨rfl, rfl, rfl, by decide +kernel, rfl, by decide +kernel, by decide +kernel⟩
def bd__law_good_signs : EM Out :=
  (sSeq (sIf (tOr (tNot (tTru (e1 (gIsi "str") (eVar 0)))) (tOr (tNot (tB (eChain gLe gLe (eC (.int 1)) (e1 gLen (eVar 0)) (eC (.int 3))))) (tB (e2 gNe (e1 gListU (eVar 0)) (e1 gSortSet (eVar 0))))))
  (sRet (eC (.bool false)))
  sNx)
  (sRet (e2 gEq (eLc (srcAny (eVar 0)) (stVal 1) (tB (e2 (gIn true) (eVar 1) (eC (.str "abcdefghijklmnopqrstuvwxyz")))) (eVar 1) [1]) (eLst aNil))))
def f__law_good_signs : EM R := defF 1 2 bd__law_good_signs
theorem ok__law_good_signs (T : Txt K mg ex) (D : DefAt K mg "_law_good_signs" s__law_good_signs ["value"]) : Ok P w K mg base ex 1 "_law_good_signs" ["value"] f__law_good_signs := by
  refine ok_mk (k := 0) D sc__law_good_signs (by decide) fun fA cdv A outer s H E hr => ?_
  have nd := sc__law_good_signs.nd
  have tk := takes_of (X := cxOf (L2.CX P w) P w K mg base n__law_good_signs "_law_good_signs" (defScope s__law_good_signs) fA cdv A outer s H E) (E := E) rfl rfl rfl rfl
  have hp : PassesOwn (model P w) _ _ _ := passes_of (X := cxOf (L2.CX P w) P w K mg base n__law_good_signs "_law_good_signs" (defScope s__law_good_signs) fA cdv A outer s H E) rfl
  exact (p_cons (l_ifs (PW.pt (l_or (l_not (l_tru (l_isi (T := "str") (by decide) T.b_isinstance T.b_str (by decide +kernel) (l_var 0)))) (l_or (l_not (l_chainT (op_leU) (le_2 _) (op_leU) (le_2 _) l_int (l_callB call_len (len_1 _) T.b_len boot_len (l_var 0)) l_int)) (l_or1 (l_cmpT (op_neD hr.units) (ne_2 _) (l_callTy (call_listU rfl) (listU_1 _) T.b_list (by decide +kernel) (l_var 0)) (l_sortSet T.b_sorted T.b_set (l_var 0)))))))
    (p_one (l_ret l_bl))
    p_nil)
    (p_one (l_ret (l_cmp (op_eqD hr.units) (eq_2 _) (l_lc (own := [("sign", 1)]) rfl nd (pi_any (l_var 0)) src_any (blkOk_by (N := n__law_good_signs) (sc := defScope s__law_good_signs) (own := [("sign", 1)]) (by decide +kernel)) (tg_name _ 1) (by decide) (fun _ _ _ _ _ => (pg_name (i := 1) nd rfl (by first | exact Or.inl rfl | exact Or.inr rfl))) (fun _ _ _ _ _ => (pts_one (l_cmpT (op_niU) (in_2 _ true) (l_var 1) l_str))) (fun _ _ _ _ _ => (l_var 1))) (l_lst l_nil)))))

abbrev s__law_good_rule : Stmt := top 31
abbrev n__law_good_rule : List Str := ["signs", "value"]
theorem sc__law_good_rule : FnScope n__law_good_rule ["signs", "value"] (defScope s__law_good_rule) := ⟨rfl, rfl, rfl, by decide +kernel, rfl, by decide +kernel, by decide +kernel⟩
def bd__law_good_rule : EM Out :=
  (sRet (eAnd (eCall f__law_wide (aCons (eVar 1) (aCons (eC (.int 2)) (aCons (eC (.int 2)) aNil)))) (eAnd (eCall f__law_is_word (aCons (eVar 0) (aCons (e2 gIx (eVar 1) (eC (.int 0))) (aCons (eC (.int 1)) (aCons (eC (.int 3)) aNil))))) (eCall f__law_is_word (aCons (eVar 0) (aCons (e2 gIx (eVar 1) (eC (.int 1))) (aCons (eC (.int 0)) (aCons (eC (.int 3)) aNil))))))))
def f__law_good_rule : EM R := defF 2 2 bd__law_good_rule
theorem ok__law_good_rule (T : Txt K mg ex) (D : DefAt K mg "_law_good_rule" s__law_good_rule ["signs", "value"]) (g__law_wide : Ok P w K mg base ex 1 "_law_wide" ["value", "least", "most"] f__law_wide) (g__law_is_word : Ok P w K mg base ex 1 "_law_is_word" ["signs", "value", "low", "high"] f__law_is_word) : Ok P w K mg base ex 2 "_law_good_rule" ["signs", "value"] f__law_good_rule := by
  obtain ⟨f__law_wide_, fd__law_wide, m__law_wide, k__law_wide, b__law_wide, G__law_wide⟩ := g__law_wide
  obtain ⟨f__law_is_word_, fd__law_is_word, m__law_is_word, k__law_is_word, b__law_is_word, G__law_is_word⟩ := g__law_is_word
  refine ok_mk (k := 1) D sc__law_good_rule (by decide) fun fA cdv A outer s H E hr => ?_
  have nd := sc__law_good_rule.nd
  have tk := takes_of (X := cxOf (L2.CX P w) P w K mg base n__law_good_rule "_law_good_rule" (defScope s__law_good_rule) fA cdv A outer s H E) (E := E) rfl rfl rfl rfl
  have hp : PassesOwn (model P w) _ _ _ := passes_of (X := cxOf (L2.CX P w) P w K mg base n__law_good_rule "_law_good_rule" (defScope s__law_good_rule) fA cdv A outer s H E) rfl
  exact (p_one (l_ret (l_eand (l_call G__law_wide (hr.mono (by decide)) m__law_wide k__law_wide b__law_wide tk (l_cons (l_var 1) (l_cons l_int (l_cons l_int l_nil)))) (l_eand (l_call G__law_is_word (hr.mono (by decide)) m__law_is_word k__law_is_word b__law_is_word tk (l_cons (l_var 0) (l_cons (l_ix (l_var 1) l_int) (l_cons l_int (l_cons l_int l_nil))))) (l_one (l_call G__law_is_word (hr.mono (by decide)) m__law_is_word k__law_is_word b__law_is_word tk (l_cons (l_var 0) (l_cons (l_ix (l_var 1) l_int) (l_cons l_int (l_cons l_int l_nil))))))))))

abbrev s__law_good_table : Stmt := top 32
abbrev n__law_good_table : List Str := ["value", "rule"]
theorem sc__law_good_table : FnScope n__law_good_table ["value"] (defScope s__law_good_table) := ⟨rfl, rfl, rfl, by decide +kernel, rfl, by decide +kernel, by decide +kernel⟩
def bd__law_good_table : EM Out :=
  (sSeq (sIf (tOr (tNot (tTru (eCall f__law_wide (aCons (eVar 0) (aCons (eC (.int 3)) (aCons (eC (.int 3)) aNil)))))) (tOr (tNot (tTru (eCall f__law_good_signs (aCons (e2 gIx (eVar 0) (eC (.int 0))) aNil)))) (tNot (tTru (e1 (gIsi "bool") (e2 gIx (eVar 0) (eC (.int 1))))))))
  (sRet (eC (.bool false)))
  sNx)
  (sSeq (sIf (tOr (tNot (tTru (eCall f__law_wide (aCons (e2 gIx (eVar 0) (eC (.int 2))) (aCons (eC (.int 0)) (aCons (eC (.int 5)) aNil)))))) (tB (e2 gNe (eLc (srcAny (e2 gIx (eVar 0) (eC (.int 2)))) (stVal 1) (tNot (tTru (eCall f__law_good_rule (aCons (e2 gIx (eVar 0) (eC (.int 0))) (aCons (eVar 1) aNil))))) (eVar 1) [1]) (eLst aNil))))
  (sRet (eC (.bool false)))
  sNx)
  (sRet (e2 gEq (e1 gLenSet (eLc (srcAny (e2 gIx (eVar 0) (eC (.int 2)))) (stVal 1) tYesM (e2 gIx (eVar 1) (eC (.int 0))) [1])) (e1 gLen (e2 gIx (eVar 0) (eC (.int 2))))))))
def f__law_good_table : EM R := defF 1 2 bd__law_good_table
theorem ok__law_good_table (T : Txt K mg ex) (D : DefAt K mg "_law_good_table" s__law_good_table ["value"]) (g__law_wide : Ok P w K mg base ex 1 "_law_wide" ["value", "least", "most"] f__law_wide) (g__law_good_signs : Ok P w K mg base ex 1 "_law_good_signs" ["value"] f__law_good_signs) (g__law_good_rule : Ok P w K mg base ex 2 "_law_good_rule" ["signs", "value"] f__law_good_rule) : Ok P w K mg base ex 3 "_law_good_table" ["value"] f__law_good_table := by
  obtain ⟨f__law_wide_, fd__law_wide, m__law_wide, k__law_wide, b__law_wide, G__law_wide⟩ := g__law_wide
  obtain ⟨f__law_good_signs_, fd__law_good_signs, m__law_good_signs, k__law_good_signs, b__law_good_signs, G__law_good_signs⟩ := g__law_good_signs
  obtain ⟨f__law_good_rule_, fd__law_good_rule, m__law_good_rule, k__law_good_rule, b__law_good_rule, G__law_good_rule⟩ := g__law_good_rule
  refine ok_mk (k := 2) D sc__law_good_table (by decide) fun fA cdv A outer s H E hr => ?_
  have nd := sc__law_good_table.nd
  have tk := takes_of (X := cxOf (L2.CX P w) P w K mg base n__law_good_table "_law_good_table" (defScope s__law_good_table) fA cdv A outer s H E) (E := E) rfl rfl rfl rfl
  have hp : PassesOwn (model P w) _ _ _ := passes_of (X := cxOf (L2.CX P w) P w K mg base n__law_good_table "_law_good_table" (defScope s__law_good_table) fA cdv A outer s H E) rfl
  exact (p_cons (l_ifs (PW.pt (l_or (l_not (l_tru (l_call G__law_wide (hr.mono (by decide)) m__law_wide k__law_wide b__law_wide tk (l_cons (l_var 0) (l_cons l_int (l_cons l_int l_nil)))))) (l_or (l_not (l_tru (l_call G__law_good_signs (hr.mono (by decide)) m__law_good_signs k__law_good_signs b__law_good_signs tk (l_cons (l_ix (l_var 0) l_int) l_nil)))) (l_or1 (l_not (l_tru (l_isi (T := "bool") (by decide) T.b_isinstance T.b_bool (by decide +kernel) (l_ix (l_var 0) l_int))))))))
    (p_one (l_ret l_bl))
    p_nil)
    (p_cons (l_ifs (PW.pt (l_or (l_not (l_tru (l_call G__law_wide (hr.mono (by decide)) m__law_wide k__law_wide b__law_wide tk (l_cons (l_ix (l_var 0) l_int) (l_cons l_int (l_cons l_int l_nil)))))) (l_or1 (l_cmpT (op_neD hr.units) (ne_2 _) (l_lc (own := [("rule", 1)]) rfl nd (pi_any (l_ix (l_var 0) l_int)) src_any (blkOk_by (N := n__law_good_table) (sc := defScope s__law_good_table) (own := [("rule", 1)]) (by decide +kernel)) (tg_name _ 1) (by decide) (fun _ _ _ _ _ => (pg_name (i := 1) nd rfl (by first | exact Or.inl rfl | exact Or.inr rfl))) (fun _ _ _ _ _ => (pts_one (l_not (l_tru (l_call G__law_good_rule (hr.mono (by decide)) m__law_good_rule k__law_good_rule b__law_good_rule takes0 (l_cons (l_ix (l_var 0) l_int) (l_cons (l_var 1) l_nil))))))) (fun _ _ _ _ _ => (l_var 1))) (l_lst l_nil)))))
    (p_one (l_ret l_bl))
    p_nil)
    (p_one (l_ret (l_cmp (op_eqD hr.units) (eq_2 _) (l_lenSet T.b_len T.b_set (l_lc (own := [("rule", 1)]) rfl nd (pi_any (l_ix (l_var 0) l_int)) src_any (blkOk_by (N := n__law_good_table) (sc := defScope s__law_good_table) (own := [("rule", 1)]) (by decide +kernel)) (tg_name _ 1) (by decide) (fun _ _ _ _ _ => (pg_name (i := 1) nd rfl (by first | exact Or.inl rfl | exact Or.inr rfl))) (fun _ _ _ _ _ => l_yes) (fun _ _ _ _ _ => (l_ix (l_var 1) l_int)))) (l_callB call_len (len_1 _) T.b_len boot_len (l_ix (l_var 0) l_int)))))))

abbrev s__law_good_row : Stmt := top 33
abbrev n__law_good_row : List Str := ["table", "value", "key"]
theorem sc__law_good_row : FnScope n__law_good_row ["table", "value"] (defScope s__law_good_row) := ⟨rfl, rfl, rfl, by decide +kernel, rfl, by decide +kernel, by decide +kernel⟩
def bd__law_good_row : EM Out :=
  (sSeq (sIf (tNot (tTru (eCall f__law_wide (aCons (eVar 1) (aCons (eC (.int 0)) (aCons (eC (.int 300)) aNil))))))
  (sRet (eC (.bool false)))
  sNx)
  (sRet (e2 gEq (eLc (srcAny (eVar 1)) (stVal 2) (tAnd (tNot (tTru (eCall f__law_is_word (aCons (e2 gIx (eVar 0) (eC (.int 0))) (aCons (eVar 2) (aCons (eC (.int 1)) (aCons (eC (.int 1)) aNil))))))) (tB (e2 gNe (eVar 2) (eC (.str "back"))))) (eVar 2) [2]) (eLst aNil))))
def f__law_good_row : EM R := defF 2 3 bd__law_good_row
theorem ok__law_good_row (T : Txt K mg ex) (D : DefAt K mg "_law_good_row" s__law_good_row ["table", "value"]) (g__law_wide : Ok P w K mg base ex 1 "_law_wide" ["value", "least", "most"] f__law_wide) (g__law_is_word : Ok P w K mg base ex 1 "_law_is_word" ["signs", "value", "low", "high"] f__law_is_word) : Ok P w K mg base ex 2 "_law_good_row" ["table", "value"] f__law_good_row := by
  obtain ⟨f__law_wide_, fd__law_wide, m__law_wide, k__law_wide, b__law_wide, G__law_wide⟩ := g__law_wide
  obtain ⟨f__law_is_word_, fd__law_is_word, m__law_is_word, k__law_is_word, b__law_is_word, G__law_is_word⟩ := g__law_is_word
  refine ok_mk (k := 1) D sc__law_good_row (by decide) fun fA cdv A outer s H E hr => ?_
  have nd := sc__law_good_row.nd
  have tk := takes_of (X := cxOf (L2.CX P w) P w K mg base n__law_good_row "_law_good_row" (defScope s__law_good_row) fA cdv A outer s H E) (E := E) rfl rfl rfl rfl
  have hp : PassesOwn (model P w) _ _ _ := passes_of (X := cxOf (L2.CX P w) P w K mg base n__law_good_row "_law_good_row" (defScope s__law_good_row) fA cdv A outer s H E) rfl
  exact (p_cons (l_ifs (l_not (l_tru (l_call G__law_wide (hr.mono (by decide)) m__law_wide k__law_wide b__law_wide tk (l_cons (l_var 1) (l_cons l_int (l_cons l_int l_nil))))))
    (p_one (l_ret l_bl))
    p_nil)
    (p_one (l_ret (l_cmp (op_eqD hr.units) (eq_2 _) (l_lc (own := [("key", 2)]) rfl nd (pi_any (l_var 1)) src_any (blkOk_by (N := n__law_good_row) (sc := defScope s__law_good_row) (own := [("key", 2)]) (by decide +kernel)) (tg_name _ 2) (by decide) (fun _ _ _ _ _ => (pg_name (i := 2) nd rfl (by first | exact Or.inl rfl | exact Or.inr rfl))) (fun _ _ _ _ _ => (pts_one (PW.pt (l_and (l_not (l_tru (l_call G__law_is_word (hr.mono (by decide)) m__law_is_word k__law_is_word b__law_is_word takes0 (l_cons (l_ix (l_var 0) l_int) (l_cons (l_var 2) (l_cons l_int (l_cons l_int l_nil))))))) (l_and1 (l_cmpT (op_neD hr.units) (ne_2 _) (l_var 2) l_str)))))) (fun _ _ _ _ _ => (l_var 2))) (l_lst l_nil)))))

abbrev s__law_known : Stmt := top 34
abbrev n__law_known : List Str := ["source", "some"]
theorem sc__law_known : FnScope n__law_known ["source"] (defScope s__law_known) := ⟨rfl, rfl, rfl, by decide +kernel, rfl, by decide +kernel, by decide +kernel⟩
def bd__law_known : EM Out :=
  (sSeq (sSet 1 (eLst (aCons (eTup (aCons (eC (.str "abx")) (aCons (eC (.bool true)) (aCons (eTup (aCons (eTup (aCons (eC (.str "ab")) (aCons (eC (.str "x")) aNil))) (aCons (eTup (aCons (eC (.str "xx")) (aCons (eC (.str "a")) aNil))) aNil))) aNil)))) (aCons (eTup (aCons (eC (.str "ab")) (aCons (eC (.bool true)) (aCons (eTup (aCons (eTup (aCons (eC (.str "ab")) (aCons (eC (.str "b")) aNil))) aNil)) aNil)))) aNil))))
  (sSeq (sSet 1 (e2 gAdd (eVar 1) (eLst (aCons (eTup (aCons (eC (.str "ab")) (aCons (eC (.bool true)) (aCons (eTup (aCons (eTup (aCons (eC (.str "aa")) (aCons (eC (.str "aba")) aNil))) (aCons (eTup (aCons (eC (.str "ba")) (aCons (eC (.str "aa")) aNil))) aNil))) aNil)))) (aCons (eTup (aCons (eC (.str "abx")) (aCons (eC (.bool false)) (aCons (eTup (aCons (eTup (aCons (eC (.str "x")) (aCons (eC (.str "ab")) aNil))) (aCons (eTup (aCons (eC (.str "b")) (aCons (eC (.str "")) aNil))) aNil))) aNil)))) aNil)))))
  (sSeq (sSet 1 (e2 gAdd (eVar 1) (eLst (aCons (eTup (aCons (eC (.str "ab")) (aCons (eC (.bool true)) (aCons (eTup (aCons (eTup (aCons (eC (.str "abb")) (aCons (eC (.str "ba")) aNil))) (aCons (eTup (aCons (eC (.str "ba")) (aCons (eC (.str "ab")) aNil))) aNil))) aNil)))) (aCons (eTup (aCons (eC (.str "ab")) (aCons (eC (.bool false)) (aCons (eTup (aCons (eTup (aCons (eC (.str "a")) (aCons (eC (.str "ab")) aNil))) (aCons (eTup (aCons (eC (.str "bb")) (aCons (eC (.str "")) aNil))) aNil))) aNil)))) aNil)))))
  (sSeq (sSet 1 (e2 gAdd (eVar 1) (eLst (aCons (eTup (aCons (eC (.str "ab")) (aCons (eC (.bool true)) (aCons (eTup (aCons (eTup (aCons (eC (.str "aaa")) (aCons (eC (.str "")) aNil))) (aCons (eTup (aCons (eC (.str "ab")) (aCons (eC (.str "")) aNil))) aNil))) aNil)))) (aCons (eTup (aCons (eC (.str "a")) (aCons (eC (.bool true)) (aCons (eTup (aCons (eTup (aCons (eC (.str "aa")) (aCons (eC (.str "a")) aNil))) aNil)) aNil)))) (aCons (eTup (aCons (eC (.str "ab")) (aCons (eC (.bool true)) (aCons (eTup (aCons (eTup (aCons (eC (.str "b")) (aCons (eC (.str "ba")) aNil))) aNil)) aNil)))) aNil))))))
  (sSeq (sSet 1 (e2 gAdd (eVar 1) (eLst (aCons (eTup (aCons (eC (.str "abx")) (aCons (eC (.bool false)) (aCons (eTup (aCons (eTup (aCons (eC (.str "x")) (aCons (eC (.str "ba")) aNil))) (aCons (eTup (aCons (eC (.str "a")) (aCons (eC (.str "")) aNil))) (aCons (eTup (aCons (eC (.str "b")) (aCons (eC (.str "")) aNil))) aNil)))) aNil)))) (aCons (eTup (aCons (eC (.str "ab")) (aCons (eC (.bool false)) (aCons (eTup (aCons (eTup (aCons (eC (.str "a")) (aCons (eC (.str "bab")) aNil))) aNil)) aNil)))) aNil)))))
  (sSeq (sExpr (sMeth 1 gAppend (aCons (eTup (aCons (eC (.str "ab")) (aCons (eC (.bool true)) (aCons (eTup (aCons (eTup (aCons (eC (.str "aaa")) (aCons (eC (.str "aaa")) aNil))) aNil)) aNil)))) aNil)))
  (sSeq (sExpr (sMeth 1 gAppend (aCons (eTup (aCons (eC (.str "xyz")) (aCons (eC (.bool true)) (aCons (eTup (aCons (eTup (aCons (eC (.str "yyz")) (aCons (eC (.str "")) aNil))) (aCons (eTup (aCons (eC (.str "xyz")) (aCons (eC (.str "z")) aNil))) (aCons (eTup (aCons (eC (.str "z")) (aCons (eC (.str "yxx")) aNil))) (aCons (eTup (aCons (eC (.str "xx")) (aCons (eC (.str "xyz")) aNil))) aNil))))) aNil)))) aNil)))
  (sRet (e2 gIx (eVar 1) (eCall f__law_pick (aCons (eVar 0) (aCons (eC (.int 13)) aNil))))))))))))
def f__law_known : EM R := defF 1 2 bd__law_known
theorem ok__law_known (T : Txt K mg ex) (D : DefAt K mg "_law_known" s__law_known ["source"]) (g__law_pick : Ok P w K mg base ex 1 "_law_pick" ["source", "limit"] f__law_pick) : Ok P w K mg base ex 2 "_law_known" ["source"] f__law_known := by
  obtain ⟨f__law_pick_, fd__law_pick, m__law_pick, k__law_pick, b__law_pick, G__law_pick⟩ := g__law_pick
  refine ok_mk (k := 1) D sc__law_known (by decide) fun fA cdv A outer s H E hr => ?_
  have nd := sc__law_known.nd
  have tk := takes_of (X := cxOf (L2.CX P w) P w K mg base n__law_known "_law_known" (defScope s__law_known) fA cdv A outer s H E) (E := E) rfl rfl rfl rfl
  have hp : PassesOwn (model P w) _ _ _ := passes_of (X := cxOf (L2.CX P w) P w K mg base n__law_known "_law_known" (defScope s__law_known) fA cdv A outer s H E) rfl
  exact (p_cons (l_set (i := 1) nd (l_lst (l_cons (l_tup (l_cons l_str (l_cons l_bl (l_cons (l_tup (l_cons (l_tup (l_cons l_str (l_cons l_str l_nil))) (l_cons (l_tup (l_cons l_str (l_cons l_str l_nil))) l_nil))) l_nil)))) (l_cons (l_tup (l_cons l_str (l_cons l_bl (l_cons (l_tup (l_cons (l_tup (l_cons l_str (l_cons l_str l_nil))) l_nil)) l_nil)))) l_nil))))
    (p_cons (l_set (i := 1) nd (l_bin op_addU (add_2 _) (l_var 1) (l_lst (l_cons (l_tup (l_cons l_str (l_cons l_bl (l_cons (l_tup (l_cons (l_tup (l_cons l_str (l_cons l_str l_nil))) (l_cons (l_tup (l_cons l_str (l_cons l_str l_nil))) l_nil))) l_nil)))) (l_cons (l_tup (l_cons l_str (l_cons l_bl (l_cons (l_tup (l_cons (l_tup (l_cons l_str (l_cons l_str l_nil))) (l_cons (l_tup (l_cons l_str (l_cons l_str l_nil))) l_nil))) l_nil)))) l_nil)))))
    (p_cons (l_set (i := 1) nd (l_bin op_addU (add_2 _) (l_var 1) (l_lst (l_cons (l_tup (l_cons l_str (l_cons l_bl (l_cons (l_tup (l_cons (l_tup (l_cons l_str (l_cons l_str l_nil))) (l_cons (l_tup (l_cons l_str (l_cons l_str l_nil))) l_nil))) l_nil)))) (l_cons (l_tup (l_cons l_str (l_cons l_bl (l_cons (l_tup (l_cons (l_tup (l_cons l_str (l_cons l_str l_nil))) (l_cons (l_tup (l_cons l_str (l_cons l_str l_nil))) l_nil))) l_nil)))) l_nil)))))
    (p_cons (l_set (i := 1) nd (l_bin op_addU (add_2 _) (l_var 1) (l_lst (l_cons (l_tup (l_cons l_str (l_cons l_bl (l_cons (l_tup (l_cons (l_tup (l_cons l_str (l_cons l_str l_nil))) (l_cons (l_tup (l_cons l_str (l_cons l_str l_nil))) l_nil))) l_nil)))) (l_cons (l_tup (l_cons l_str (l_cons l_bl (l_cons (l_tup (l_cons (l_tup (l_cons l_str (l_cons l_str l_nil))) l_nil)) l_nil)))) (l_cons (l_tup (l_cons l_str (l_cons l_bl (l_cons (l_tup (l_cons (l_tup (l_cons l_str (l_cons l_str l_nil))) l_nil)) l_nil)))) l_nil))))))
    (p_cons (l_set (i := 1) nd (l_bin op_addU (add_2 _) (l_var 1) (l_lst (l_cons (l_tup (l_cons l_str (l_cons l_bl (l_cons (l_tup (l_cons (l_tup (l_cons l_str (l_cons l_str l_nil))) (l_cons (l_tup (l_cons l_str (l_cons l_str l_nil))) (l_cons (l_tup (l_cons l_str (l_cons l_str l_nil))) l_nil)))) l_nil)))) (l_cons (l_tup (l_cons l_str (l_cons l_bl (l_cons (l_tup (l_cons (l_tup (l_cons l_str (l_cons l_str l_nil))) l_nil)) l_nil)))) l_nil)))))
    (p_cons (l_expr (l_meth (i := 1) PySem.F.slot_list_append PySem.F.type_list_append mt_append (append_ok _) (l_cons (l_tup (l_cons l_str (l_cons l_bl (l_cons (l_tup (l_cons (l_tup (l_cons l_str (l_cons l_str l_nil))) l_nil)) l_nil)))) l_nil)))
    (p_cons (l_expr (l_meth (i := 1) PySem.F.slot_list_append PySem.F.type_list_append mt_append (append_ok _) (l_cons (l_tup (l_cons l_str (l_cons l_bl (l_cons (l_tup (l_cons (l_tup (l_cons l_str (l_cons l_str l_nil))) (l_cons (l_tup (l_cons l_str (l_cons l_str l_nil))) (l_cons (l_tup (l_cons l_str (l_cons l_str l_nil))) (l_cons (l_tup (l_cons l_str (l_cons l_str l_nil))) l_nil))))) l_nil)))) l_nil)))
    (p_one (l_ret (l_ix (l_var 1) (l_call G__law_pick (hr.mono (by decide)) m__law_pick k__law_pick b__law_pick tk (l_cons (l_var 0) (l_cons l_int l_nil)))))))))))))

abbrev s__law_table : Stmt := top 35
abbrev n__law_table : List Str := ["source", "most", "signs", "rules", "turn", "short", "long", "rule"]
theorem sc__law_table : FnScope n__law_table ["source", "most"] (defScope s__law_table) := ⟨rfl, rfl, rfl, by decide +kernel, rfl, by decide +kernel, by decide +kernel⟩
def bd__law_table : EM Out :=
  (sSeq (sIf (tB (e2 gEq (eCall f__law_pick (aCons (eVar 0) (aCons (eC (.int 3)) aNil))) (eC (.int 0))))
  (sRet (eCall f__law_known (aCons (eVar 0) aNil)))
  sNx)
  (sSeq (sSet 2 (eCall f__law_chosen (aCons (eVar 0) (aCons (eLst (aCons (eC (.str "ab")) (aCons (eC (.str "ab")) (aCons (eC (.str "mn")) (aCons (eC (.str "xyz")) (aCons (eC (.str "a")) aNil)))))) aNil))))
  (sSeq (sSet 3 (eTup aNil))
  (sSeq (sFor (srcR1 (eCall f__law_pick (aCons (eVar 0) (aCons (e2 gAdd (eVar 1) (eC (.int 1))) aNil)))) (stVal 4)
  (sSeq (sSet 5 (e2 gAdd (eCall f__law_text (aCons (eVar 0) (aCons (eVar 2) (aCons (eC (.int 2)) aNil)))) (eCall f__law_chosen (aCons (eVar 0) (aCons (e1 gListU (eVar 2)) aNil)))))
  (sSeq (sSet 6 (eCall f__law_text (aCons (eVar 0) (aCons (eVar 2) (aCons (e2 gAdd (eC (.int 2)) (eCall f__law_pick (aCons (eVar 0) (aCons (eC (.int 2)) aNil)))) aNil)))))
  (sIf (tB (e2 (gIn true) (eVar 5) (eLc (srcAny (eVar 3)) (stVal 7) tYesM (e2 gIx (eVar 7) (eC (.int 0))) [7])))
  (sSet 3 (e2 gAdd (eVar 3) (eTup (aCons (eTup (aCons (eVar 5) (aCons (eVar 6) aNil))) aNil))))
  sNx))))
  (sRet (eTup (aCons (eVar 2) (aCons (e2 gGt (eCall f__law_pick (aCons (eVar 0) (aCons (eC (.int 3)) aNil))) (eC (.int 0))) (aCons (eVar 3) aNil)))))))))
def f__law_table : EM R := defF 2 8 bd__law_table
theorem ok__law_table (T : Txt K mg ex) (D : DefAt K mg "_law_table" s__law_table ["source", "most"]) (g__law_pick : Ok P w K mg base ex 1 "_law_pick" ["source", "limit"] f__law_pick) (g__law_chosen : Ok P w K mg base ex 2 "_law_chosen" ["source", "some"] f__law_chosen) (g__law_text : Ok P w K mg base ex 3 "_law_text" ["source", "signs", "most"] f__law_text) (g__law_known : Ok P w K mg base ex 2 "_law_known" ["source"] f__law_known) : Ok P w K mg base ex 4 "_law_table" ["source", "most"] f__law_table := by
  obtain ⟨f__law_pick_, fd__law_pick, m__law_pick, k__law_pick, b__law_pick, G__law_pick⟩ := g__law_pick
  obtain ⟨f__law_chosen_, fd__law_chosen, m__law_chosen, k__law_chosen, b__law_chosen, G__law_chosen⟩ := g__law_chosen
  obtain ⟨f__law_text_, fd__law_text, m__law_text, k__law_text, b__law_text, G__law_text⟩ := g__law_text
  obtain ⟨f__law_known_, fd__law_known, m__law_known, k__law_known, b__law_known, G__law_known⟩ := g__law_known
  refine ok_mk (k := 3) D sc__law_table (by decide) fun fA cdv A outer s H E hr => ?_
  have nd := sc__law_table.nd
  have tk := takes_of (X := cxOf (L2.CX P w) P w K mg base n__law_table "_law_table" (defScope s__law_table) fA cdv A outer s H E) (E := E) rfl rfl rfl rfl
  have hp : PassesOwn (model P w) _ _ _ := passes_of (X := cxOf (L2.CX P w) P w K mg base n__law_table "_law_table" (defScope s__law_table) fA cdv A outer s H E) rfl
  exact (p_cons (l_ifs (l_cmpT (op_eqD hr.units) (eq_2 _) (l_call G__law_pick (hr.mono (by decide)) m__law_pick k__law_pick b__law_pick tk (l_cons (l_var 0) (l_cons l_int l_nil))) l_int)
    (p_one (l_ret (l_call G__law_known (hr.mono (by decide)) m__law_known k__law_known b__law_known tk (l_cons (l_var 0) l_nil))))
    p_nil)
    (p_cons (l_set (i := 2) nd (l_call G__law_chosen (hr.mono (by decide)) m__law_chosen k__law_chosen b__law_chosen tk (l_cons (l_var 0) (l_cons (l_lst (l_cons l_str (l_cons l_str (l_cons l_str (l_cons l_str (l_cons l_str l_nil)))))) l_nil))))
    (p_cons (l_set (i := 3) nd (l_tup l_nil))
    (p_cons (l_for hp rfl (pi_range1 rfl T.b_range (pa_cons (l_call G__law_pick (hr.mono (by decide)) m__law_pick k__law_pick b__law_pick tk (l_cons (l_var 0) (l_cons (l_bin op_addU (add_2 _) (l_var 1) l_int) l_nil))) pa_nil)) src_r1 (pg_name (i := 4) nd rfl (by first | exact Or.inl rfl | exact Or.inr rfl)) (tg_name _ 4)
    (p_cons (l_set (i := 5) nd (l_bin op_addU (add_2 _) (l_call G__law_text (hr.mono (by decide)) m__law_text k__law_text b__law_text tk (l_cons (l_var 0) (l_cons (l_var 2) (l_cons l_int l_nil)))) (l_call G__law_chosen (hr.mono (by decide)) m__law_chosen k__law_chosen b__law_chosen tk (l_cons (l_var 0) (l_cons (l_callTy (call_listU rfl) (listU_1 _) T.b_list (by decide +kernel) (l_var 2)) l_nil)))))
    (p_cons (l_set (i := 6) nd (l_call G__law_text (hr.mono (by decide)) m__law_text k__law_text b__law_text tk (l_cons (l_var 0) (l_cons (l_var 2) (l_cons (l_bin op_addU (add_2 _) l_int (l_call G__law_pick (hr.mono (by decide)) m__law_pick k__law_pick b__law_pick tk (l_cons (l_var 0) (l_cons l_int l_nil)))) l_nil)))))
    (p_one (l_ifs (l_cmpT (op_niU) (in_2 _ true) (l_var 5) (l_lc (own := [("rule", 7)]) rfl nd (pi_any (l_var 3)) src_any (blkOk_by (N := n__law_table) (sc := defScope s__law_table) (own := [("rule", 7)]) (by decide +kernel)) (tg_name _ 7) (by decide) (fun _ _ _ _ _ => (pg_name (i := 7) nd rfl (by first | exact Or.inl rfl | exact Or.inr rfl))) (fun _ _ _ _ _ => l_yes) (fun _ _ _ _ _ => (l_ix (l_var 7) l_int))))
    (p_one (l_set (i := 3) nd (l_bin op_addU (add_2 _) (l_var 3) (l_tup (l_cons (l_tup (l_cons (l_var 5) (l_cons (l_var 6) l_nil))) l_nil)))))
    p_nil)))))
    (p_one (l_ret (l_tup (l_cons (l_var 2) (l_cons (l_cmp (op_gtU) (gt_2 _) (l_call G__law_pick (hr.mono (by decide)) m__law_pick k__law_pick b__law_pick tk (l_cons (l_var 0) (l_cons l_int l_nil))) l_int) (l_cons (l_var 3) l_nil))))))))))

abbrev s__law_row : Stmt := top 36
abbrev n__law_row : List Str := ["source", "table", "most", "keys", "turn"]
theorem sc__law_row : FnScope n__law_row ["source", "table", "most"] (defScope s__law_row) := ⟨rfl, rfl, rfl, by decide +kernel, rfl, by decide +kernel, by decide +kernel⟩
def bd__law_row : EM Out :=
  (sSeq (sSet 3 (e2 gAdd (e2 gMul (e1 gListU (e2 gIx (eVar 1) (eC (.int 0)))) (eC (.int 3))) (eLst (aCons (eC (.str "back")) aNil))))
  (sRet (e1 gTuple (eLc (srcR1 (eCall f__law_pick (aCons (eVar 0) (aCons (e2 gAdd (eVar 2) (eC (.int 1))) aNil)))) (stVal 4) tYesM (eCall f__law_chosen (aCons (eVar 0) (aCons (eVar 3) aNil))) [4]))))
def f__law_row : EM R := defF 3 5 bd__law_row
theorem ok__law_row (T : Txt K mg ex) (D : DefAt K mg "_law_row" s__law_row ["source", "table", "most"]) (g__law_pick : Ok P w K mg base ex 1 "_law_pick" ["source", "limit"] f__law_pick) (g__law_chosen : Ok P w K mg base ex 2 "_law_chosen" ["source", "some"] f__law_chosen) : Ok P w K mg base ex 3 "_law_row" ["source", "table", "most"] f__law_row := by
  obtain ⟨f__law_pick_, fd__law_pick, m__law_pick, k__law_pick, b__law_pick, G__law_pick⟩ := g__law_pick
  obtain ⟨f__law_chosen_, fd__law_chosen, m__law_chosen, k__law_chosen, b__law_chosen, G__law_chosen⟩ := g__law_chosen
  refine ok_mk (k := 2) D sc__law_row (by decide) fun fA cdv A outer s H E hr => ?_
  have nd := sc__law_row.nd
  have tk := takes_of (X := cxOf (L2.CX P w) P w K mg base n__law_row "_law_row" (defScope s__law_row) fA cdv A outer s H E) (E := E) rfl rfl rfl rfl
  have hp : PassesOwn (model P w) _ _ _ := passes_of (X := cxOf (L2.CX P w) P w K mg base n__law_row "_law_row" (defScope s__law_row) fA cdv A outer s H E) rfl
  exact (p_cons (l_set (i := 3) nd (l_bin op_addU (add_2 _) (l_bin op_mulU (mul_2 _) (l_callTy (call_listU rfl) (listU_1 _) T.b_list (by decide +kernel) (l_ix (l_var 1) l_int)) l_int) (l_lst (l_cons l_str l_nil))))
    (p_one (l_ret (l_callTy call_tuple_of (tuple_1 _) T.b_tuple (by decide +kernel) (l_lc (own := [("turn", 4)]) rfl nd (pi_range1 rfl T.b_range (pa_cons (l_call G__law_pick (hr.mono (by decide)) m__law_pick k__law_pick b__law_pick tk (l_cons (l_var 0) (l_cons (l_bin op_addU (add_2 _) (l_var 2) l_int) l_nil))) pa_nil)) src_r1 (blkOk_by (N := n__law_row) (sc := defScope s__law_row) (own := [("turn", 4)]) (by decide +kernel)) (tg_name _ 4) (by decide) (fun _ _ _ _ _ => (pg_name (i := 4) nd rfl (by first | exact Or.inl rfl | exact Or.inr rfl))) (fun _ _ _ _ _ => l_yes) (fun _ _ _ _ _ => (l_call G__law_chosen (hr.mono (by decide)) m__law_chosen k__law_chosen b__law_chosen takes0 (l_cons (l_var 0) (l_cons (l_var 3) l_nil)))))))))

abbrev s__law_written : Stmt := top 37
abbrev n__law_written : List Str := ["found", "rules"]
theorem sc__law_written : FnScope n__law_written [] (defScope s__law_written) := ⟨rfl, rfl, rfl, by decide +kernel, rfl, by decide +kernel, by decide +kernel⟩
def bd__law_written : EM Out :=
  (sSeq (sSet 0 (eLst (aCons (eTup (aCons (eTup (aCons (eC (.str "a")) (aCons (eC (.bool true)) (aCons (eTup aNil) aNil)))) (aCons (eC (.bool true)) aNil))) (aCons (eTup (aCons (eTup (aCons (eC (.str "")) (aCons (eC (.bool true)) (aCons (eTup aNil) aNil)))) (aCons (eC (.bool false)) aNil))) (aCons (eTup (aCons (eTup (aCons (eC (.str "ba")) (aCons (eC (.bool true)) (aCons (eTup aNil) aNil)))) (aCons (eC (.bool false)) aNil))) (aCons (eTup (aCons (eTup (aCons (eC (.str "aa")) (aCons (eC (.bool true)) (aCons (eTup aNil) aNil)))) (aCons (eC (.bool false)) aNil))) aNil))))))
  (sSeq (sSet 0 (e2 gAdd (eVar 0) (eLst (aCons (eTup (aCons (eTup (aCons (eC (.str "abcd")) (aCons (eC (.bool true)) (aCons (eTup aNil) aNil)))) (aCons (eC (.bool false)) aNil))) (aCons (eTup (aCons (eTup (aCons (eC (.str "a1")) (aCons (eC (.bool true)) (aCons (eTup aNil) aNil)))) (aCons (eC (.bool false)) aNil))) (aCons (eTup (aCons (eTup (aCons (eC (.str "A")) (aCons (eC (.bool false)) (aCons (eTup aNil) aNil)))) (aCons (eC (.bool false)) aNil))) aNil))))))
  (sSeq (sSet 0 (e2 gAdd (eVar 0) (eLst (aCons (eTup (aCons (eTup (aCons (eC (.str "a")) (aCons (eC (.int 1)) (aCons (eTup aNil) aNil)))) (aCons (eC (.bool false)) aNil))) (aCons (eTup (aCons (eTup (aCons (eC (.str "a")) (aCons (eC .none) (aCons (eTup aNil) aNil)))) (aCons (eC (.bool false)) aNil))) (aCons (eTup (aCons (eTup (aCons (eC (.str "a")) (aCons (eC (.bool true)) (aCons (eLst aNil) aNil)))) (aCons (eC (.bool false)) aNil))) (aCons (eTup (aCons (eTup (aCons (eC (.str "a")) (aCons (eC (.bool true)) aNil))) (aCons (eC (.bool false)) aNil))) aNil)))))))
  (sSeq (sSet 0 (e2 gAdd (eVar 0) (eLst (aCons (eTup (aCons (eTup (aCons (eC (.str "a")) (aCons (eC (.bool false)) (aCons (eTup (aCons (eTup (aCons (eC (.str "a")) (aCons (eC (.str "")) aNil))) aNil)) aNil)))) (aCons (eC (.bool true)) aNil))) (aCons (eTup (aCons (eTup (aCons (eC (.str "a")) (aCons (eC (.bool false)) (aCons (eTup (aCons (eTup (aCons (eC (.str "")) (aCons (eC (.str "a")) aNil))) aNil)) aNil)))) (aCons (eC (.bool false)) aNil))) aNil)))))
  (sSeq (sSet 0 (e2 gAdd (eVar 0) (eLst (aCons (eTup (aCons (eTup (aCons (eC (.str "a")) (aCons (eC (.bool false)) (aCons (eTup (aCons (eTup (aCons (eC (.str "aaa")) (aCons (eC (.str "aaa")) aNil))) aNil)) aNil)))) (aCons (eC (.bool true)) aNil))) (aCons (eTup (aCons (eTup (aCons (eC (.str "a")) (aCons (eC (.bool false)) (aCons (eTup (aCons (eTup (aCons (eC (.str "aaaa")) (aCons (eC (.str "")) aNil))) aNil)) aNil)))) (aCons (eC (.bool false)) aNil))) aNil)))))
  (sSeq (sSet 0 (e2 gAdd (eVar 0) (eLst (aCons (eTup (aCons (eTup (aCons (eC (.str "a")) (aCons (eC (.bool false)) (aCons (eTup (aCons (eTup (aCons (eC (.str "a")) (aCons (eC (.str "aaaa")) aNil))) aNil)) aNil)))) (aCons (eC (.bool false)) aNil))) (aCons (eTup (aCons (eTup (aCons (eC (.str "a")) (aCons (eC (.bool false)) (aCons (eTup (aCons (eTup (aCons (eC (.str "a")) (aCons (eC (.str "b")) aNil))) aNil)) aNil)))) (aCons (eC (.bool false)) aNil))) aNil)))))
  (sSeq (sSet 0 (e2 gAdd (eVar 0) (eLst (aCons (eTup (aCons (eTup (aCons (eC (.str "a")) (aCons (eC (.bool false)) (aCons (eTup (aCons (eTup (aCons (eC (.str "b")) (aCons (eC (.str "a")) aNil))) aNil)) aNil)))) (aCons (eC (.bool false)) aNil))) (aCons (eTup (aCons (eTup (aCons (eC (.str "a")) (aCons (eC (.bool false)) (aCons (eTup (aCons (eLst (aCons (eC (.str "a")) (aCons (eC (.str "")) aNil))) aNil)) aNil)))) (aCons (eC (.bool false)) aNil))) aNil)))))
  (sSeq (sSet 0 (e2 gAdd (eVar 0) (eLst (aCons (eTup (aCons (eTup (aCons (eC (.str "a")) (aCons (eC (.bool false)) (aCons (eTup (aCons (eTup (aCons (eC (.str "a")) (aCons (eC (.str "")) aNil))) (aCons (eTup (aCons (eC (.str "a")) (aCons (eC (.str "a")) aNil))) aNil))) aNil)))) (aCons (eC (.bool false)) aNil))) (aCons (eTup (aCons (eTup (aCons (eC (.str "a")) (aCons (eC (.bool false)) (aCons (eTup (aCons (eTup (aCons (eC (.str "a")) (aCons (eC (.str "")) (aCons (eC (.str "")) aNil)))) aNil)) aNil)))) (aCons (eC (.bool false)) aNil))) aNil)))))
  (sSeq (sSet 1 (eTup (aCons (eTup (aCons (eC (.str "a")) (aCons (eC (.str "a")) aNil))) (aCons (eTup (aCons (eC (.str "b")) (aCons (eC (.str "a")) aNil))) (aCons (eTup (aCons (eC (.str "aa")) (aCons (eC (.str "")) aNil))) (aCons (eTup (aCons (eC (.str "ab")) (aCons (eC (.str "a")) aNil))) (aCons (eTup (aCons (eC (.str "ba")) (aCons (eC (.str "b")) aNil))) (aCons (eTup (aCons (eC (.str "bb")) (aCons (eC (.str "")) aNil))) aNil))))))))
  (sRet (e2 gAdd (eVar 0) (eLst (aCons (eTup (aCons (eTup (aCons (eC (.str "ab")) (aCons (eC (.bool true)) (aCons (eSl (eVar 1) pNone (pSome (eC (.int 5)))) aNil)))) (aCons (eC (.bool true)) aNil))) (aCons (eTup (aCons (eTup (aCons (eC (.str "ab")) (aCons (eC (.bool true)) (aCons (eVar 1) aNil)))) (aCons (eC (.bool false)) aNil))) (aCons (eTup (aCons (eTup (aCons (eC (.str "ab")) (aCons (eC (.bool true)) (aCons (eSl (eVar 1) (pSome (eC (.int 1))) pNone) aNil)))) (aCons (eC (.bool true)) aNil))) aNil)))))))))))))))
def f__law_written : EM R := defF 0 2 bd__law_written
theorem ok__law_written (T : Txt K mg ex) (D : DefAt K mg "_law_written" s__law_written []) : Ok P w K mg base ex 1 "_law_written" [] f__law_written := by
  refine ok_mk (k := 0) D sc__law_written (by decide) fun fA cdv A outer s H E hr => ?_
  have nd := sc__law_written.nd
  have tk := takes_of (X := cxOf (L2.CX P w) P w K mg base n__law_written "_law_written" (defScope s__law_written) fA cdv A outer s H E) (E := E) rfl rfl rfl rfl
  have hp : PassesOwn (model P w) _ _ _ := passes_of (X := cxOf (L2.CX P w) P w K mg base n__law_written "_law_written" (defScope s__law_written) fA cdv A outer s H E) rfl
  exact (p_cons (l_set (i := 0) nd (l_lst (l_cons (l_tup (l_cons (l_tup (l_cons l_str (l_cons l_bl (l_cons (l_tup l_nil) l_nil)))) (l_cons l_bl l_nil))) (l_cons (l_tup (l_cons (l_tup (l_cons l_str (l_cons l_bl (l_cons (l_tup l_nil) l_nil)))) (l_cons l_bl l_nil))) (l_cons (l_tup (l_cons (l_tup (l_cons l_str (l_cons l_bl (l_cons (l_tup l_nil) l_nil)))) (l_cons l_bl l_nil))) (l_cons (l_tup (l_cons (l_tup (l_cons l_str (l_cons l_bl (l_cons (l_tup l_nil) l_nil)))) (l_cons l_bl l_nil))) l_nil))))))
    (p_cons (l_set (i := 0) nd (l_bin op_addU (add_2 _) (l_var 0) (l_lst (l_cons (l_tup (l_cons (l_tup (l_cons l_str (l_cons l_bl (l_cons (l_tup l_nil) l_nil)))) (l_cons l_bl l_nil))) (l_cons (l_tup (l_cons (l_tup (l_cons l_str (l_cons l_bl (l_cons (l_tup l_nil) l_nil)))) (l_cons l_bl l_nil))) (l_cons (l_tup (l_cons (l_tup (l_cons l_str (l_cons l_bl (l_cons (l_tup l_nil) l_nil)))) (l_cons l_bl l_nil))) l_nil))))))
    (p_cons (l_set (i := 0) nd (l_bin op_addU (add_2 _) (l_var 0) (l_lst (l_cons (l_tup (l_cons (l_tup (l_cons l_str (l_cons l_int (l_cons (l_tup l_nil) l_nil)))) (l_cons l_bl l_nil))) (l_cons (l_tup (l_cons (l_tup (l_cons l_str (l_cons l_non (l_cons (l_tup l_nil) l_nil)))) (l_cons l_bl l_nil))) (l_cons (l_tup (l_cons (l_tup (l_cons l_str (l_cons l_bl (l_cons (l_lst l_nil) l_nil)))) (l_cons l_bl l_nil))) (l_cons (l_tup (l_cons (l_tup (l_cons l_str (l_cons l_bl l_nil))) (l_cons l_bl l_nil))) l_nil)))))))
    (p_cons (l_set (i := 0) nd (l_bin op_addU (add_2 _) (l_var 0) (l_lst (l_cons (l_tup (l_cons (l_tup (l_cons l_str (l_cons l_bl (l_cons (l_tup (l_cons (l_tup (l_cons l_str (l_cons l_str l_nil))) l_nil)) l_nil)))) (l_cons l_bl l_nil))) (l_cons (l_tup (l_cons (l_tup (l_cons l_str (l_cons l_bl (l_cons (l_tup (l_cons (l_tup (l_cons l_str (l_cons l_str l_nil))) l_nil)) l_nil)))) (l_cons l_bl l_nil))) l_nil)))))
    (p_cons (l_set (i := 0) nd (l_bin op_addU (add_2 _) (l_var 0) (l_lst (l_cons (l_tup (l_cons (l_tup (l_cons l_str (l_cons l_bl (l_cons (l_tup (l_cons (l_tup (l_cons l_str (l_cons l_str l_nil))) l_nil)) l_nil)))) (l_cons l_bl l_nil))) (l_cons (l_tup (l_cons (l_tup (l_cons l_str (l_cons l_bl (l_cons (l_tup (l_cons (l_tup (l_cons l_str (l_cons l_str l_nil))) l_nil)) l_nil)))) (l_cons l_bl l_nil))) l_nil)))))
    (p_cons (l_set (i := 0) nd (l_bin op_addU (add_2 _) (l_var 0) (l_lst (l_cons (l_tup (l_cons (l_tup (l_cons l_str (l_cons l_bl (l_cons (l_tup (l_cons (l_tup (l_cons l_str (l_cons l_str l_nil))) l_nil)) l_nil)))) (l_cons l_bl l_nil))) (l_cons (l_tup (l_cons (l_tup (l_cons l_str (l_cons l_bl (l_cons (l_tup (l_cons (l_tup (l_cons l_str (l_cons l_str l_nil))) l_nil)) l_nil)))) (l_cons l_bl l_nil))) l_nil)))))
    (p_cons (l_set (i := 0) nd (l_bin op_addU (add_2 _) (l_var 0) (l_lst (l_cons (l_tup (l_cons (l_tup (l_cons l_str (l_cons l_bl (l_cons (l_tup (l_cons (l_tup (l_cons l_str (l_cons l_str l_nil))) l_nil)) l_nil)))) (l_cons l_bl l_nil))) (l_cons (l_tup (l_cons (l_tup (l_cons l_str (l_cons l_bl (l_cons (l_tup (l_cons (l_lst (l_cons l_str (l_cons l_str l_nil))) l_nil)) l_nil)))) (l_cons l_bl l_nil))) l_nil)))))
    (p_cons (l_set (i := 0) nd (l_bin op_addU (add_2 _) (l_var 0) (l_lst (l_cons (l_tup (l_cons (l_tup (l_cons l_str (l_cons l_bl (l_cons (l_tup (l_cons (l_tup (l_cons l_str (l_cons l_str l_nil))) (l_cons (l_tup (l_cons l_str (l_cons l_str l_nil))) l_nil))) l_nil)))) (l_cons l_bl l_nil))) (l_cons (l_tup (l_cons (l_tup (l_cons l_str (l_cons l_bl (l_cons (l_tup (l_cons (l_tup (l_cons l_str (l_cons l_str (l_cons l_str l_nil)))) l_nil)) l_nil)))) (l_cons l_bl l_nil))) l_nil)))))
    (p_cons (l_set (i := 1) nd (l_tup (l_cons (l_tup (l_cons l_str (l_cons l_str l_nil))) (l_cons (l_tup (l_cons l_str (l_cons l_str l_nil))) (l_cons (l_tup (l_cons l_str (l_cons l_str l_nil))) (l_cons (l_tup (l_cons l_str (l_cons l_str l_nil))) (l_cons (l_tup (l_cons l_str (l_cons l_str l_nil))) (l_cons (l_tup (l_cons l_str (l_cons l_str l_nil))) l_nil))))))))
    (p_one (l_ret (l_bin op_addU (add_2 _) (l_var 0) (l_lst (l_cons (l_tup (l_cons (l_tup (l_cons l_str (l_cons l_bl (l_cons (l_sl (l_var 1) l_no (l_so l_int)) l_nil)))) (l_cons l_bl l_nil))) (l_cons (l_tup (l_cons (l_tup (l_cons l_str (l_cons l_bl (l_cons (l_var 1) l_nil)))) (l_cons l_bl l_nil))) (l_cons (l_tup (l_cons (l_tup (l_cons l_str (l_cons l_bl (l_cons (l_sl (l_var 1) (l_so l_int) l_no) l_nil)))) (l_cons l_bl l_nil))) l_nil))))))))))))))))

abbrev s__law_outcome : Stmt := top 38
abbrev n__law_outcome : List Str := ["table", "row"]
theorem sc__law_outcome : FnScope n__law_outcome ["table", "row"] (defScope s__law_outcome) := ⟨rfl, rfl, rfl, by decide +kernel, rfl, by decide +kernel, by decide +kernel⟩
def bd__law_outcome : EM Out :=
  (sTry excl isa
  (sRet (eCall f_is_row (aCons (eVar 0) (aCons (eVar 1) aNil))))
  [("InvalidTable", (sRet (eC (.str "table"))))])
def f__law_outcome : EM R := defF 2 2 bd__law_outcome
theorem ok__law_outcome (T : Txt K mg ex) (D : DefAt K mg "_law_outcome" s__law_outcome ["table", "row"]) (g_is_row : Ok P w K mg base ex 6 "is_row" ["table", "value"] f_is_row) : Ok P w K mg base ex 7 "_law_outcome" ["table", "row"] f__law_outcome := by
  obtain ⟨f_is_row_, fd_is_row, m_is_row, k_is_row, b_is_row, G_is_row⟩ := g_is_row
  refine ok_mk (k := 6) D sc__law_outcome (by decide) fun fA cdv A outer s H E hr => ?_
  have nd := sc__law_outcome.nd
  have tk := takes_of (X := cxOf (L2.CX P w) P w K mg base n__law_outcome "_law_outcome" (defScope s__law_outcome) fA cdv A outer s H E) (E := E) rfl rfl rfl rfl
  have hp : PassesOwn (model P w) _ _ _ := passes_of (X := cxOf (L2.CX P w) P w K mg base n__law_outcome "_law_outcome" (defScope s__law_outcome) fA cdv A outer s H E) rfl
  exact (p_one (l_try (vals := fun x => .ref (ex x)) rfl rfl tk (fm_cons (vals := fun x => .ref (ex x)) (ex := ex) (isa := isa) (T.isa "InvalidTable" (by decide +kernel)) fm_nil) (fun _ _ _ tk1 hp1 => (p_one (l_ret (l_call G_is_row (hr.mono (by decide)) m_is_row k_is_row b_is_row tk1 (l_cons (l_var 0) (l_cons (l_var 1) l_nil))))))
    (hd_cons ⟨rfl, by decide, .inl T.x_InvalidTable.glo⟩ (fun _ _ _ => (p_one (l_ret l_str))) hd_nil)))

abbrev s_law : Stmt := top 39
abbrev n_law : List Str := ["script", "value", "good", "k", "source", "table", "row", "values", "turn", "odd"]
theorem sc_law : FnScope n_law ["script"] (defScope s_law) := ⟨rfl, rfl, rfl, by decide +kernel, rfl, by decide +kernel, by decide +kernel⟩
def bd_law : EM Out :=
  (sSeq (sFor (srcAny (eCall f__law_written aNil)) (stTup [1, 2])
  (sIf (tNot (tTru (eCall f__law_is_bool (aCons (eCall f_is_table (aCons (eVar 1) aNil)) (aCons (eVar 2) aNil)))))
  (sRet (eC (.bool false)))
  sNx))
  (sSeq (sFor (srcR1 (e2 gMax2 (eC (.int 6)) (e2 gMin2 (eC (.int 20)) (e1 gLen (eVar 0))))) (stVal 3)
  (sSeq (sSet 4 (eCall f__law_source (aCons (eVar 0) (aCons (eVar 3) aNil))))
  (sSeq (sSet 5 (eCall f__law_table (aCons (eVar 4) (aCons (eC (.int 5)) aNil))))
  (sSeq (sSet 6 (eCall f__law_row (aCons (eVar 4) (aCons (eVar 5) (aCons (eC (.int 6)) aNil)))))
  (sSeq (sSet 7 (eLst (aCons (eVar 5) (aCons (e1 gListU (eVar 5)) (aCons (eSl (eVar 5) pNone (pSome (eC (.int 2)))) (aCons (eVar 6) (aCons (e1 gListU (eVar 6)) (aCons (e2 gMul (eTup (aCons (eC (.str "back")) aNil)) (eC (.int 300))) (aCons (e2 gMul (eTup (aCons (eC (.str "back")) aNil)) (eC (.int 301))) (aCons (eC .none) (aCons (eTup aNil) (aCons (eC (.str "back")) aNil))))))))))))
  (sSeq (sSet 7 (e2 gAdd (eVar 7) (eLst (aCons (eTup (aCons (e2 gMul (e2 gIx (e2 gIx (eVar 5) (eC (.int 0))) (eC (.int 0))) (eC (.int 2))) aNil)) (aCons (eTup (aCons (eC (.str "")) aNil)) (aCons (eTup (aCons (eC (.str "BACK")) aNil)) (aCons (eTup (aCons (e2 gIx (e2 gIx (eVar 5) (eC (.int 0))) (eC (.int 0))) (aCons (eC .none) aNil))) (aCons (eTup (aCons (eC (.str "Z")) aNil)) (aCons (eCall (f__law_any_value 5) (aCons (eVar 4) (aCons (eC (.int 3)) aNil))) aNil)))))))))
  (sSeq (sFor (srcR1 (eC (.int 8))) (stVal 8)
  (sSeq (sSet 9 (eCall (f__law_variant 5) (aCons (eVar 4) (aCons (e2 gIx (eLst (aCons (eVar 5) (aCons (e2 gAdd (eVar 6) (eTup (aCons (eC (.str "back")) aNil))) aNil))) (eCall f__law_pick (aCons (eVar 4) (aCons (eC (.int 2)) aNil)))) (aCons (eC (.int 3)) aNil)))))
  (sSeq (sExpr (sMeth 7 gAppend (aCons (eVar 9) aNil)))
  (sIf (tAnd (tTru (e1 (gIsi "tuple") (eVar 9))) (tB (e2 gEq (eCall f__law_pick (aCons (eVar 4) (aCons (eC (.int 3)) aNil))) (eC (.int 0)))))
  (sExpr (sMeth 7 gAppend (aCons (eCall (f__law_variant 5) (aCons (eVar 4) (aCons (eVar 9) (aCons (eC (.int 3)) aNil)))) aNil)))
  sNx))))
  (sFor (srcAny (eVar 7)) (stVal 1)
  (sSeq (sSet 2 (eCall f__law_good_table (aCons (eVar 1) aNil)))
  (sSeq (sIf (tNot (tTru (eCall f__law_is_bool (aCons (eCall f_is_table (aCons (eVar 1) aNil)) (aCons (eVar 2) aNil)))))
  (sRet (eC (.bool false)))
  sNx)
  (sSeq (sIf (tNot (tTru (eCall f__law_is_bool (aCons (eCall f_is_row (aCons (eVar 5) (aCons (eVar 1) aNil))) (aCons (eCall f__law_good_row (aCons (eVar 5) (aCons (eVar 1) aNil))) aNil)))))
  (sRet (eC (.bool false)))
  sNx)
  (sIf (tB (e2 gEq (e2 gEq (eCall f__law_outcome (aCons (eVar 1) (aCons (eTup aNil) aNil))) (eC (.str "table"))) (eVar 2)))
  (sRet (eC (.bool false)))
  sNx))))))))))))
  (sRet (eC (.bool true)))))
def f_law : EM R := defF 1 10 bd_law
theorem ok_law {f : Addr} {fd : FuncData} (T : Txt K mg ex) (D : FunD K "law" "law" (defArgs s_law) (defBody s_law) (defScope s_law) [] [] f fd) (g_is_table : Ok P w K mg base ex 4 "is_table" ["value"] f_is_table) (g_is_row : Ok P w K mg base ex 6 "is_row" ["table", "value"] f_is_row) (g__law_source : Ok P w K mg base ex 1 "_law_source" ["script", "k"] f__law_source) (g__law_pick : Ok P w K mg base ex 1 "_law_pick" ["source", "limit"] f__law_pick) (g__law_is_bool : Ok P w K mg base ex 1 "_law_is_bool" ["actual", "expected"] f__law_is_bool) (g__law_any_value : Ok P w K mg base ex 7 "_law_any_value" ["source", "depth"] (f__law_any_value 5)) (g__law_variant : Ok P w K mg base ex 13 "_law_variant" ["source", "value", "depth"] (f__law_variant 5)) (g__law_good_table : Ok P w K mg base ex 3 "_law_good_table" ["value"] f__law_good_table) (g__law_good_row : Ok P w K mg base ex 2 "_law_good_row" ["table", "value"] f__law_good_row) (g__law_table : Ok P w K mg base ex 4 "_law_table" ["source", "most"] f__law_table) (g__law_row : Ok P w K mg base ex 3 "_law_row" ["source", "table", "most"] f__law_row) (g__law_written : Ok P w K mg base ex 1 "_law_written" [] f__law_written) (g__law_outcome : Ok P w K mg base ex 7 "_law_outcome" ["table", "row"] f__law_outcome) : FnOk P w K mg base (L2.CX P w) 14 f fd ["script"] (spD ⟨K, ex⟩ f_law) := by
  obtain ⟨f_is_table_, fd_is_table, m_is_table, k_is_table, b_is_table, G_is_table⟩ := g_is_table
  obtain ⟨f_is_row_, fd_is_row, m_is_row, k_is_row, b_is_row, G_is_row⟩ := g_is_row
  obtain ⟨f__law_source_, fd__law_source, m__law_source, k__law_source, b__law_source, G__law_source⟩ := g__law_source
  obtain ⟨f__law_pick_, fd__law_pick, m__law_pick, k__law_pick, b__law_pick, G__law_pick⟩ := g__law_pick
  obtain ⟨f__law_is_bool_, fd__law_is_bool, m__law_is_bool, k__law_is_bool, b__law_is_bool, G__law_is_bool⟩ := g__law_is_bool
  obtain ⟨f__law_any_value_, fd__law_any_value, m__law_any_value, k__law_any_value, b__law_any_value, G__law_any_value⟩ := g__law_any_value
  obtain ⟨f__law_variant_, fd__law_variant, m__law_variant, k__law_variant, b__law_variant, G__law_variant⟩ := g__law_variant
  obtain ⟨f__law_good_table_, fd__law_good_table, m__law_good_table, k__law_good_table, b__law_good_table, G__law_good_table⟩ := g__law_good_table
  obtain ⟨f__law_good_row_, fd__law_good_row, m__law_good_row, k__law_good_row, b__law_good_row, G__law_good_row⟩ := g__law_good_row
  obtain ⟨f__law_table_, fd__law_table, m__law_table, k__law_table, b__law_table, G__law_table⟩ := g__law_table
  obtain ⟨f__law_row_, fd__law_row, m__law_row, k__law_row, b__law_row, G__law_row⟩ := g__law_row
  obtain ⟨f__law_written_, fd__law_written, m__law_written, k__law_written, b__law_written, G__law_written⟩ := g__law_written
  obtain ⟨f__law_outcome_, fd__law_outcome, m__law_outcome, k__law_outcome, b__law_outcome, G__law_outcome⟩ := g__law_outcome
  refine fn_mk (k := 13) D sc_law (by decide) fun fA cdv A outer s H E hr => ?_
  have nd := sc_law.nd
  have tk := takes_of (X := cxOf (L2.CX P w) P w K mg base n_law "law" (defScope s_law) fA cdv A outer s H E) (E := E) rfl rfl rfl rfl
  have hp : PassesOwn (model P w) _ _ _ := passes_of (X := cxOf (L2.CX P w) P w K mg base n_law "law" (defScope s_law) fA cdv A outer s H E) rfl
  exact (p_cons (l_for hp rfl (pi_any (l_call0 G__law_written (hr.mono (by decide)) m__law_written k__law_written b__law_written tk)) src_any (pg_tup rfl (pgs_cons (pg_name (i := 1) nd rfl (by first | exact Or.inl rfl | exact Or.inr rfl)) (pgs_cons (pg_name (i := 2) nd rfl (by first | exact Or.inl rfl | exact Or.inr rfl)) pgs_nil))) (tg_tup (tg_cons (j := 1) (tg_cons (j := 2) (tg_nil _))) rfl)
    (p_one (l_ifs (l_not (l_tru (l_call G__law_is_bool (hr.mono (by decide)) m__law_is_bool k__law_is_bool b__law_is_bool tk (l_cons (l_call G_is_table (hr.mono (by decide)) m_is_table k_is_table b_is_table tk (l_cons (l_var 1) l_nil)) (l_cons (l_var 2) l_nil)))))
    (p_one (l_ret l_bl))
    p_nil)))
    (p_cons (l_for hp rfl (pi_range1 rfl T.b_range (pa_cons (l_callB2 (call_max2 rfl) (max_2 _) T.b_max (by decide +kernel) l_int (l_callB2 (call_min2 rfl) (min_2 _) T.b_min (by decide +kernel) l_int (l_callB call_len (len_1 _) T.b_len boot_len (l_var 0)))) pa_nil)) src_r1 (pg_name (i := 3) nd rfl (by first | exact Or.inl rfl | exact Or.inr rfl)) (tg_name _ 3)
    (p_cons (l_set (i := 4) nd (l_call G__law_source (hr.mono (by decide)) m__law_source k__law_source b__law_source tk (l_cons (l_var 0) (l_cons (l_var 3) l_nil))))
    (p_cons (l_set (i := 5) nd (l_call G__law_table (hr.mono (by decide)) m__law_table k__law_table b__law_table tk (l_cons (l_var 4) (l_cons l_int l_nil))))
    (p_cons (l_set (i := 6) nd (l_call G__law_row (hr.mono (by decide)) m__law_row k__law_row b__law_row tk (l_cons (l_var 4) (l_cons (l_var 5) (l_cons l_int l_nil)))))
    (p_cons (l_set (i := 7) nd (l_lst (l_cons (l_var 5) (l_cons (l_callTy (call_listU rfl) (listU_1 _) T.b_list (by decide +kernel) (l_var 5)) (l_cons (l_sl (l_var 5) l_no (l_so l_int)) (l_cons (l_var 6) (l_cons (l_callTy (call_listU rfl) (listU_1 _) T.b_list (by decide +kernel) (l_var 6)) (l_cons (l_bin op_mulU (mul_2 _) (l_tup (l_cons l_str l_nil)) l_int) (l_cons (l_bin op_mulU (mul_2 _) (l_tup (l_cons l_str l_nil)) l_int) (l_cons l_non (l_cons (l_tup l_nil) (l_cons l_str l_nil))))))))))))
    (p_cons (l_set (i := 7) nd (l_bin op_addU (add_2 _) (l_var 7) (l_lst (l_cons (l_tup (l_cons (l_bin op_mulU (mul_2 _) (l_ix (l_ix (l_var 5) l_int) l_int) l_int) l_nil)) (l_cons (l_tup (l_cons l_str l_nil)) (l_cons (l_tup (l_cons l_str l_nil)) (l_cons (l_tup (l_cons (l_ix (l_ix (l_var 5) l_int) l_int) (l_cons l_non l_nil))) (l_cons (l_tup (l_cons l_str l_nil)) (l_cons (l_call G__law_any_value (hr.mono (by decide)) m__law_any_value k__law_any_value b__law_any_value tk (l_cons (l_var 4) (l_cons l_int l_nil))) l_nil)))))))))
    (p_cons (l_for hp rfl (pi_range1 rfl T.b_range (pa_cons l_int pa_nil)) src_r1 (pg_name (i := 8) nd rfl (by first | exact Or.inl rfl | exact Or.inr rfl)) (tg_name _ 8)
    (p_cons (l_set (i := 9) nd (l_call G__law_variant (hr.mono (by decide)) m__law_variant k__law_variant b__law_variant tk (l_cons (l_var 4) (l_cons (l_ix (l_lst (l_cons (l_var 5) (l_cons (l_bin op_addU (add_2 _) (l_var 6) (l_tup (l_cons l_str l_nil))) l_nil))) (l_call G__law_pick (hr.mono (by decide)) m__law_pick k__law_pick b__law_pick tk (l_cons (l_var 4) (l_cons l_int l_nil)))) (l_cons l_int l_nil)))))
    (p_cons (l_expr (l_meth (i := 7) PySem.F.slot_list_append PySem.F.type_list_append mt_append (append_ok _) (l_cons (l_var 9) l_nil)))
    (p_one (l_ifs (PW.pt (l_and (l_tru (l_isi (T := "tuple") (by decide) T.b_isinstance T.b_tuple (by decide +kernel) (l_var 9))) (l_and1 (l_cmpT (op_eqD hr.units) (eq_2 _) (l_call G__law_pick (hr.mono (by decide)) m__law_pick k__law_pick b__law_pick tk (l_cons (l_var 4) (l_cons l_int l_nil))) l_int))))
    (p_one (l_expr (l_meth (i := 7) PySem.F.slot_list_append PySem.F.type_list_append mt_append (append_ok _) (l_cons (l_call G__law_variant (hr.mono (by decide)) m__law_variant k__law_variant b__law_variant tk (l_cons (l_var 4) (l_cons (l_var 9) (l_cons l_int l_nil)))) l_nil))))
    p_nil)))))
    (p_one (l_for hp rfl (pi_any (l_var 7)) src_any (pg_name (i := 1) nd rfl (by first | exact Or.inl rfl | exact Or.inr rfl)) (tg_name _ 1)
    (p_cons (l_set (i := 2) nd (l_call G__law_good_table (hr.mono (by decide)) m__law_good_table k__law_good_table b__law_good_table tk (l_cons (l_var 1) l_nil)))
    (p_cons (l_ifs (l_not (l_tru (l_call G__law_is_bool (hr.mono (by decide)) m__law_is_bool k__law_is_bool b__law_is_bool tk (l_cons (l_call G_is_table (hr.mono (by decide)) m_is_table k_is_table b_is_table tk (l_cons (l_var 1) l_nil)) (l_cons (l_var 2) l_nil)))))
    (p_one (l_ret l_bl))
    p_nil)
    (p_cons (l_ifs (l_not (l_tru (l_call G__law_is_bool (hr.mono (by decide)) m__law_is_bool k__law_is_bool b__law_is_bool tk (l_cons (l_call G_is_row (hr.mono (by decide)) m_is_row k_is_row b_is_row tk (l_cons (l_var 5) (l_cons (l_var 1) l_nil))) (l_cons (l_call G__law_good_row (hr.mono (by decide)) m__law_good_row k__law_good_row b__law_good_row tk (l_cons (l_var 5) (l_cons (l_var 1) l_nil))) l_nil)))))
    (p_one (l_ret l_bl))
    p_nil)
    (p_one (l_ifs (l_cmpT (op_eqD hr.units) (eq_2 _) (l_cmp (op_eqD hr.units) (eq_2 _) (l_call G__law_outcome (hr.mono (by decide)) m__law_outcome k__law_outcome b__law_outcome tk (l_cons (l_var 1) (l_cons (l_tup l_nil) l_nil))) l_str) (l_var 2))
    (p_one (l_ret l_bl))
    p_nil))))))))))))))
    (p_one (l_ret l_bl))))
end
end LF
end

-- part K01Head
section
set_option Elab.async false
set_option linter.all false
set_option maxRecDepth 100000
set_option maxHeartbeats 2000000
namespace LF
open PySem PySem.Spec PyProof.Rows L2
def dd_is_wide : He.DefD := ⟨("is_wide", none), "is_wide", "is_wide", defArgs s_is_wide, defBody s_is_wide, defScope s_is_wide, [], []⟩
def dd_are_signs : He.DefD := ⟨("are_signs", none), "are_signs", "are_signs", defArgs s_are_signs, defBody s_are_signs, defScope s_are_signs, [], []⟩
def dd_is_text : He.DefD := ⟨("is_text", none), "is_text", "is_text", defArgs s_is_text, defBody s_is_text, defScope s_is_text, [], []⟩
def dd_is_form : He.DefD := ⟨("is_form", none), "is_form", "is_form", defArgs s_is_form, defBody s_is_form, defScope s_is_form, [], []⟩
def dd_is_rule : He.DefD := ⟨("is_rule", none), "is_rule", "is_rule", defArgs s_is_rule, defBody s_is_rule, defScope s_is_rule, [], []⟩
def dd_is_table : He.DefD := ⟨("is_table", none), "is_table", "is_table", defArgs s_is_table, defBody s_is_table, defScope s_is_table, [], []⟩
def dd_is_sign : He.DefD := ⟨("is_sign", none), "is_sign", "is_sign", defArgs s_is_sign, defBody s_is_sign, defScope s_is_sign, [], []⟩
def dd_is_key : He.DefD := ⟨("is_key", none), "is_key", "is_key", defArgs s_is_key, defBody s_is_key, defScope s_is_key, [], []⟩
def dd_are_keys : He.DefD := ⟨("are_keys", none), "are_keys", "are_keys", defArgs s_are_keys, defBody s_are_keys, defScope s_are_keys, [], []⟩
def dd_need_table : He.DefD := ⟨("need_table", none), "need_table", "need_table", defArgs s_need_table, defBody s_need_table, defScope s_need_table, [], []⟩
def dd_is_row : He.DefD := ⟨("is_row", none), "is_row", "is_row", defArgs s_is_row, defBody s_is_row, defScope s_is_row, [], []⟩
def dd__law_source : He.DefD := ⟨("_law_source", none), "_law_source", "_law_source", defArgs s__law_source, defBody s__law_source, defScope s__law_source, [], []⟩
def dd__law_pick : He.DefD := ⟨("_law_pick", none), "_law_pick", "_law_pick", defArgs s__law_pick, defBody s__law_pick, defScope s__law_pick, [], []⟩
def dd__law_is_bool : He.DefD := ⟨("_law_is_bool", none), "_law_is_bool", "_law_is_bool", defArgs s__law_is_bool, defBody s__law_is_bool, defScope s__law_is_bool, [], []⟩
def dd__law_chosen : He.DefD := ⟨("_law_chosen", none), "_law_chosen", "_law_chosen", defArgs s__law_chosen, defBody s__law_chosen, defScope s__law_chosen, [], []⟩
def dd__law_any_value : He.DefD := ⟨("_law_any_value", none), "_law_any_value", "_law_any_value", defArgs s__law_any_value, defBody s__law_any_value, defScope s__law_any_value, [], []⟩
def dd__law_wide : He.DefD := ⟨("_law_wide", none), "_law_wide", "_law_wide", defArgs s__law_wide, defBody s__law_wide, defScope s__law_wide, [], []⟩
def dd__law_variant : He.DefD := ⟨("_law_variant", none), "_law_variant", "_law_variant", defArgs s__law_variant, defBody s__law_variant, defScope s__law_variant, [], []⟩
def dd__law_is_word : He.DefD := ⟨("_law_is_word", none), "_law_is_word", "_law_is_word", defArgs s__law_is_word, defBody s__law_is_word, defScope s__law_is_word, [], []⟩
def dd__law_text : He.DefD := ⟨("_law_text", none), "_law_text", "_law_text", defArgs s__law_text, defBody s__law_text, defScope s__law_text, [], []⟩
def dd__law_good_signs : He.DefD := ⟨("_law_good_signs", none), "_law_good_signs", "_law_good_signs", defArgs s__law_good_signs, defBody s__law_good_signs, defScope s__law_good_signs, [], []⟩
def dd__law_good_rule : He.DefD := ⟨("_law_good_rule", none), "_law_good_rule", "_law_good_rule", defArgs s__law_good_rule, defBody s__law_good_rule, defScope s__law_good_rule, [], []⟩
def dd__law_good_table : He.DefD := ⟨("_law_good_table", none), "_law_good_table", "_law_good_table", defArgs s__law_good_table, defBody s__law_good_table, defScope s__law_good_table, [], []⟩
def dd__law_good_row : He.DefD := ⟨("_law_good_row", none), "_law_good_row", "_law_good_row", defArgs s__law_good_row, defBody s__law_good_row, defScope s__law_good_row, [], []⟩
def dd__law_known : He.DefD := ⟨("_law_known", none), "_law_known", "_law_known", defArgs s__law_known, defBody s__law_known, defScope s__law_known, [], []⟩
def dd__law_table : He.DefD := ⟨("_law_table", none), "_law_table", "_law_table", defArgs s__law_table, defBody s__law_table, defScope s__law_table, [], []⟩
def dd__law_row : He.DefD := ⟨("_law_row", none), "_law_row", "_law_row", defArgs s__law_row, defBody s__law_row, defScope s__law_row, [], []⟩
def dd__law_written : He.DefD := ⟨("_law_written", none), "_law_written", "_law_written", defArgs s__law_written, defBody s__law_written, defScope s__law_written, [], []⟩
def dd__law_outcome : He.DefD := ⟨("_law_outcome", none), "_law_outcome", "_law_outcome", defArgs s__law_outcome, defBody s__law_outcome, defScope s__law_outcome, [], []⟩
def dd_law : He.DefD := ⟨("law", none), "law", "law", defArgs s_law, defBody s_law, defScope s_law, [], []⟩
def fnL : List He.DefD := [dd_is_wide, dd_are_signs, dd_is_text, dd_is_form, dd_is_rule, dd_is_table, dd_is_sign, dd_is_key, dd_are_keys, dd_need_table, dd_is_row, dd__law_source, dd__law_pick, dd__law_is_bool, dd__law_chosen, dd__law_any_value, dd__law_wide, dd__law_variant, dd__law_is_word, dd__law_text, dd__law_good_signs, dd__law_good_rule, dd__law_good_table, dd__law_good_row, dd__law_known, dd__law_table, dd__law_row, dd__law_written, dd__law_outcome, dd_law]
def faL : List He.Fa := [.glo "is_wide", .glo "are_signs", .glo "is_text", .glo "is_form", .glo "is_rule", .glo "is_table", .glo "is_sign", .glo "is_key", .glo "are_keys", .glo "need_table", .glo "is_row", .glo "_law_source", .glo "_law_pick", .glo "_law_is_bool", .glo "_law_chosen", .glo "_law_any_value", .glo "_law_wide", .glo "_law_variant", .glo "_law_is_word", .glo "_law_text", .glo "_law_good_signs", .glo "_law_good_rule", .glo "_law_good_table", .glo "_law_good_row", .glo "_law_known", .glo "_law_table", .glo "_law_row", .glo "_law_written", .glo "_law_outcome", .glo "law", .free "all", .free "bool", .free "enumerate", .free "int", .free "isinstance", .free "len", .free "list", .free "max", .free "min", .free "range", .free "set", .free "sorted", .free "str", .free "tuple", .str "BACK" "back", .str "LETTERS" "abcdefghijklmnopqrstuvwxyz", .int "LONGEST" 3, .int "MOST_ROW" 300, .int "MOST_RULES" 5, .glo "InvalidTable", .exc "InvalidTable", .exm "InvalidTable" "InvalidTable" true]
abbrev Rw : PySem.W.OpenRow := PySem.W.OpenLaw.row PySem.Challenge.rw_lengthforms_k01_tables_and_rows
abbrev hkL : PySem.W.Hook := He.hookD 4 faL fnL
def obL (s : PySem.W.SharedT) : He.AlD := He.obsDG 4 faL fnL (HandSHeadRun.getT s)
theorem ob_eqL (s : PySem.W.SharedT) : obL s = hkL.obs s.abs := He.obsDG_eq (HandSHeadRun.getT_eq s)
def loose0 : List Str := ["__name__", "FormError", "InvalidTable", "LETTERS", "BACK", "MOST_RULES", "MOST_ROW", "LONGEST", "is_wide", "are_signs", "is_text", "is_form", "is_rule", "is_table", "is_sign", "is_key", "are_keys", "need_table", "is_row", "_law_source", "_law_pick", "_law_is_bool", "_law_chosen", "_law_any_value", "_law_wide", "_law_variant", "_law_is_word", "_law_text", "_law_good_signs", "_law_good_rule"]
def loose1 : List Str := ["_law_good_table", "_law_good_row", "_law_known", "_law_table", "_law_row", "_law_written", "_law_outcome"]
abbrev looseL : List Str := loose0 ++ loose1
theorem runL (w : World) : HandSHeadRun.RunEq Rw (PySem.W.view Rw.prog [39]) hkL obL 2000 looseL w := by
  intro os
  kernel_rfl
section
variable {P : Program} {w : World} {K : PySem.W.Frag} {h : Heap} {mg : Str → Option Value}
theorem da_is_wide (X : K.In h) (G : h.Ns mainGlobals mg) (c : He.SaysD faL fnL K) : DefAt K mg "is_wide" s_is_wide ["value", "low", "high"] := by
  obtain ⟨fd, F⟩ := c.def_ 0 (d := dd_is_wide) rfl
  exact ⟨_, fd, F, He.glo_ok X G (c.fact 0 (f := .glo "is_wide") rfl), F.bindsN fun _ _ _ _ _ _ us hl => match us, hl with | [_, _, _], _ => rfl⟩
theorem da_are_signs (X : K.In h) (G : h.Ns mainGlobals mg) (c : He.SaysD faL fnL K) : DefAt K mg "are_signs" s_are_signs ["value"] := by
  obtain ⟨fd, F⟩ := c.def_ 1 (d := dd_are_signs) rfl
  exact ⟨_, fd, F, He.glo_ok X G (c.fact 1 (f := .glo "are_signs") rfl), F.bindsN fun _ _ _ _ _ _ us hl => match us, hl with | [_], _ => rfl⟩
theorem da_is_text (X : K.In h) (G : h.Ns mainGlobals mg) (c : He.SaysD faL fnL K) : DefAt K mg "is_text" s_is_text ["signs", "value"] := by
  obtain ⟨fd, F⟩ := c.def_ 2 (d := dd_is_text) rfl
  exact ⟨_, fd, F, He.glo_ok X G (c.fact 2 (f := .glo "is_text") rfl), F.bindsN fun _ _ _ _ _ _ us hl => match us, hl with | [_, _], _ => rfl⟩
theorem da_is_form (X : K.In h) (G : h.Ns mainGlobals mg) (c : He.SaysD faL fnL K) : DefAt K mg "is_form" s_is_form ["signs", "value", "low"] := by
  obtain ⟨fd, F⟩ := c.def_ 3 (d := dd_is_form) rfl
  exact ⟨_, fd, F, He.glo_ok X G (c.fact 3 (f := .glo "is_form") rfl), F.bindsN fun _ _ _ _ _ _ us hl => match us, hl with | [_, _, _], _ => rfl⟩
theorem da_is_rule (X : K.In h) (G : h.Ns mainGlobals mg) (c : He.SaysD faL fnL K) : DefAt K mg "is_rule" s_is_rule ["signs", "value"] := by
  obtain ⟨fd, F⟩ := c.def_ 4 (d := dd_is_rule) rfl
  exact ⟨_, fd, F, He.glo_ok X G (c.fact 4 (f := .glo "is_rule") rfl), F.bindsN fun _ _ _ _ _ _ us hl => match us, hl with | [_, _], _ => rfl⟩
theorem da_is_table (X : K.In h) (G : h.Ns mainGlobals mg) (c : He.SaysD faL fnL K) : DefAt K mg "is_table" s_is_table ["value"] := by
  obtain ⟨fd, F⟩ := c.def_ 5 (d := dd_is_table) rfl
  exact ⟨_, fd, F, He.glo_ok X G (c.fact 5 (f := .glo "is_table") rfl), F.bindsN fun _ _ _ _ _ _ us hl => match us, hl with | [_], _ => rfl⟩
theorem da_is_sign (X : K.In h) (G : h.Ns mainGlobals mg) (c : He.SaysD faL fnL K) : DefAt K mg "is_sign" s_is_sign ["signs", "value"] := by
  obtain ⟨fd, F⟩ := c.def_ 6 (d := dd_is_sign) rfl
  exact ⟨_, fd, F, He.glo_ok X G (c.fact 6 (f := .glo "is_sign") rfl), F.bindsN fun _ _ _ _ _ _ us hl => match us, hl with | [_, _], _ => rfl⟩
theorem da_is_key (X : K.In h) (G : h.Ns mainGlobals mg) (c : He.SaysD faL fnL K) : DefAt K mg "is_key" s_is_key ["signs", "value"] := by
  obtain ⟨fd, F⟩ := c.def_ 7 (d := dd_is_key) rfl
  exact ⟨_, fd, F, He.glo_ok X G (c.fact 7 (f := .glo "is_key") rfl), F.bindsN fun _ _ _ _ _ _ us hl => match us, hl with | [_, _], _ => rfl⟩
theorem da_are_keys (X : K.In h) (G : h.Ns mainGlobals mg) (c : He.SaysD faL fnL K) : DefAt K mg "are_keys" s_are_keys ["signs", "value"] := by
  obtain ⟨fd, F⟩ := c.def_ 8 (d := dd_are_keys) rfl
  exact ⟨_, fd, F, He.glo_ok X G (c.fact 8 (f := .glo "are_keys") rfl), F.bindsN fun _ _ _ _ _ _ us hl => match us, hl with | [_, _], _ => rfl⟩
theorem da_need_table (X : K.In h) (G : h.Ns mainGlobals mg) (c : He.SaysD faL fnL K) : DefAt K mg "need_table" s_need_table ["value"] := by
  obtain ⟨fd, F⟩ := c.def_ 9 (d := dd_need_table) rfl
  exact ⟨_, fd, F, He.glo_ok X G (c.fact 9 (f := .glo "need_table") rfl), F.bindsN fun _ _ _ _ _ _ us hl => match us, hl with | [_], _ => rfl⟩
theorem da_is_row (X : K.In h) (G : h.Ns mainGlobals mg) (c : He.SaysD faL fnL K) : DefAt K mg "is_row" s_is_row ["table", "value"] := by
  obtain ⟨fd, F⟩ := c.def_ 10 (d := dd_is_row) rfl
  exact ⟨_, fd, F, He.glo_ok X G (c.fact 10 (f := .glo "is_row") rfl), F.bindsN fun _ _ _ _ _ _ us hl => match us, hl with | [_, _], _ => rfl⟩
theorem da__law_source (X : K.In h) (G : h.Ns mainGlobals mg) (c : He.SaysD faL fnL K) : DefAt K mg "_law_source" s__law_source ["script", "k"] := by
  obtain ⟨fd, F⟩ := c.def_ 11 (d := dd__law_source) rfl
  exact ⟨_, fd, F, He.glo_ok X G (c.fact 11 (f := .glo "_law_source") rfl), F.bindsN fun _ _ _ _ _ _ us hl => match us, hl with | [_, _], _ => rfl⟩
theorem da__law_pick (X : K.In h) (G : h.Ns mainGlobals mg) (c : He.SaysD faL fnL K) : DefAt K mg "_law_pick" s__law_pick ["source", "limit"] := by
  obtain ⟨fd, F⟩ := c.def_ 12 (d := dd__law_pick) rfl
  exact ⟨_, fd, F, He.glo_ok X G (c.fact 12 (f := .glo "_law_pick") rfl), F.bindsN fun _ _ _ _ _ _ us hl => match us, hl with | [_, _], _ => rfl⟩
theorem da__law_is_bool (X : K.In h) (G : h.Ns mainGlobals mg) (c : He.SaysD faL fnL K) : DefAt K mg "_law_is_bool" s__law_is_bool ["actual", "expected"] := by
  obtain ⟨fd, F⟩ := c.def_ 13 (d := dd__law_is_bool) rfl
  exact ⟨_, fd, F, He.glo_ok X G (c.fact 13 (f := .glo "_law_is_bool") rfl), F.bindsN fun _ _ _ _ _ _ us hl => match us, hl with | [_, _], _ => rfl⟩
theorem da__law_chosen (X : K.In h) (G : h.Ns mainGlobals mg) (c : He.SaysD faL fnL K) : DefAt K mg "_law_chosen" s__law_chosen ["source", "some"] := by
  obtain ⟨fd, F⟩ := c.def_ 14 (d := dd__law_chosen) rfl
  exact ⟨_, fd, F, He.glo_ok X G (c.fact 14 (f := .glo "_law_chosen") rfl), F.bindsN fun _ _ _ _ _ _ us hl => match us, hl with | [_, _], _ => rfl⟩
theorem da__law_any_value (X : K.In h) (G : h.Ns mainGlobals mg) (c : He.SaysD faL fnL K) : DefAt K mg "_law_any_value" s__law_any_value ["source", "depth"] := by
  obtain ⟨fd, F⟩ := c.def_ 15 (d := dd__law_any_value) rfl
  exact ⟨_, fd, F, He.glo_ok X G (c.fact 15 (f := .glo "_law_any_value") rfl), F.bindsN fun _ _ _ _ _ _ us hl => match us, hl with | [_, _], _ => rfl⟩
theorem da__law_wide (X : K.In h) (G : h.Ns mainGlobals mg) (c : He.SaysD faL fnL K) : DefAt K mg "_law_wide" s__law_wide ["value", "least", "most"] := by
  obtain ⟨fd, F⟩ := c.def_ 16 (d := dd__law_wide) rfl
  exact ⟨_, fd, F, He.glo_ok X G (c.fact 16 (f := .glo "_law_wide") rfl), F.bindsN fun _ _ _ _ _ _ us hl => match us, hl with | [_, _, _], _ => rfl⟩
theorem da__law_variant (X : K.In h) (G : h.Ns mainGlobals mg) (c : He.SaysD faL fnL K) : DefAt K mg "_law_variant" s__law_variant ["source", "value", "depth"] := by
  obtain ⟨fd, F⟩ := c.def_ 17 (d := dd__law_variant) rfl
  exact ⟨_, fd, F, He.glo_ok X G (c.fact 17 (f := .glo "_law_variant") rfl), F.bindsN fun _ _ _ _ _ _ us hl => match us, hl with | [_, _, _], _ => rfl⟩
theorem da__law_is_word (X : K.In h) (G : h.Ns mainGlobals mg) (c : He.SaysD faL fnL K) : DefAt K mg "_law_is_word" s__law_is_word ["signs", "value", "low", "high"] := by
  obtain ⟨fd, F⟩ := c.def_ 18 (d := dd__law_is_word) rfl
  exact ⟨_, fd, F, He.glo_ok X G (c.fact 18 (f := .glo "_law_is_word") rfl), F.bindsN fun _ _ _ _ _ _ us hl => match us, hl with | [_, _, _, _], _ => rfl⟩
theorem da__law_text (X : K.In h) (G : h.Ns mainGlobals mg) (c : He.SaysD faL fnL K) : DefAt K mg "_law_text" s__law_text ["source", "signs", "most"] := by
  obtain ⟨fd, F⟩ := c.def_ 19 (d := dd__law_text) rfl
  exact ⟨_, fd, F, He.glo_ok X G (c.fact 19 (f := .glo "_law_text") rfl), F.bindsN fun _ _ _ _ _ _ us hl => match us, hl with | [_, _, _], _ => rfl⟩
theorem da__law_good_signs (X : K.In h) (G : h.Ns mainGlobals mg) (c : He.SaysD faL fnL K) : DefAt K mg "_law_good_signs" s__law_good_signs ["value"] := by
  obtain ⟨fd, F⟩ := c.def_ 20 (d := dd__law_good_signs) rfl
  exact ⟨_, fd, F, He.glo_ok X G (c.fact 20 (f := .glo "_law_good_signs") rfl), F.bindsN fun _ _ _ _ _ _ us hl => match us, hl with | [_], _ => rfl⟩
theorem da__law_good_rule (X : K.In h) (G : h.Ns mainGlobals mg) (c : He.SaysD faL fnL K) : DefAt K mg "_law_good_rule" s__law_good_rule ["signs", "value"] := by
  obtain ⟨fd, F⟩ := c.def_ 21 (d := dd__law_good_rule) rfl
  exact ⟨_, fd, F, He.glo_ok X G (c.fact 21 (f := .glo "_law_good_rule") rfl), F.bindsN fun _ _ _ _ _ _ us hl => match us, hl with | [_, _], _ => rfl⟩
theorem da__law_good_table (X : K.In h) (G : h.Ns mainGlobals mg) (c : He.SaysD faL fnL K) : DefAt K mg "_law_good_table" s__law_good_table ["value"] := by
  obtain ⟨fd, F⟩ := c.def_ 22 (d := dd__law_good_table) rfl
  exact ⟨_, fd, F, He.glo_ok X G (c.fact 22 (f := .glo "_law_good_table") rfl), F.bindsN fun _ _ _ _ _ _ us hl => match us, hl with | [_], _ => rfl⟩
theorem da__law_good_row (X : K.In h) (G : h.Ns mainGlobals mg) (c : He.SaysD faL fnL K) : DefAt K mg "_law_good_row" s__law_good_row ["table", "value"] := by
  obtain ⟨fd, F⟩ := c.def_ 23 (d := dd__law_good_row) rfl
  exact ⟨_, fd, F, He.glo_ok X G (c.fact 23 (f := .glo "_law_good_row") rfl), F.bindsN fun _ _ _ _ _ _ us hl => match us, hl with | [_, _], _ => rfl⟩
theorem da__law_known (X : K.In h) (G : h.Ns mainGlobals mg) (c : He.SaysD faL fnL K) : DefAt K mg "_law_known" s__law_known ["source"] := by
  obtain ⟨fd, F⟩ := c.def_ 24 (d := dd__law_known) rfl
  exact ⟨_, fd, F, He.glo_ok X G (c.fact 24 (f := .glo "_law_known") rfl), F.bindsN fun _ _ _ _ _ _ us hl => match us, hl with | [_], _ => rfl⟩
theorem da__law_table (X : K.In h) (G : h.Ns mainGlobals mg) (c : He.SaysD faL fnL K) : DefAt K mg "_law_table" s__law_table ["source", "most"] := by
  obtain ⟨fd, F⟩ := c.def_ 25 (d := dd__law_table) rfl
  exact ⟨_, fd, F, He.glo_ok X G (c.fact 25 (f := .glo "_law_table") rfl), F.bindsN fun _ _ _ _ _ _ us hl => match us, hl with | [_, _], _ => rfl⟩
theorem da__law_row (X : K.In h) (G : h.Ns mainGlobals mg) (c : He.SaysD faL fnL K) : DefAt K mg "_law_row" s__law_row ["source", "table", "most"] := by
  obtain ⟨fd, F⟩ := c.def_ 26 (d := dd__law_row) rfl
  exact ⟨_, fd, F, He.glo_ok X G (c.fact 26 (f := .glo "_law_row") rfl), F.bindsN fun _ _ _ _ _ _ us hl => match us, hl with | [_, _, _], _ => rfl⟩
theorem da__law_written (X : K.In h) (G : h.Ns mainGlobals mg) (c : He.SaysD faL fnL K) : DefAt K mg "_law_written" s__law_written [] := by
  obtain ⟨fd, F⟩ := c.def_ 27 (d := dd__law_written) rfl
  exact ⟨_, fd, F, He.glo_ok X G (c.fact 27 (f := .glo "_law_written") rfl), F.bindsN fun _ _ _ _ _ _ us hl => match us, hl with | [], _ => rfl⟩
theorem da__law_outcome (X : K.In h) (G : h.Ns mainGlobals mg) (c : He.SaysD faL fnL K) : DefAt K mg "_law_outcome" s__law_outcome ["table", "row"] := by
  obtain ⟨fd, F⟩ := c.def_ 28 (d := dd__law_outcome) rfl
  exact ⟨_, fd, F, He.glo_ok X G (c.fact 28 (f := .glo "_law_outcome") rfl), F.bindsN fun _ _ _ _ _ _ us hl => match us, hl with | [_, _], _ => rfl⟩
theorem da_law (X : K.In h) (G : h.Ns mainGlobals mg) (c : He.SaysD faL fnL K) : DefAt K mg "law" s_law ["script"] := by
  obtain ⟨fd, F⟩ := c.def_ 29 (d := dd_law) rfl
  exact ⟨_, fd, F, He.glo_ok X G (c.fact 29 (f := .glo "law") rfl), F.bindsN fun _ _ _ _ _ _ us hl => match us, hl with | [_], _ => rfl⟩
theorem txt (X : K.In h) (G : h.Ns mainGlobals mg) (c : He.SaysD faL fnL K) : Txt K mg (He.ga K) where
  b_all := He.free_ok X G (c.fact 30 (f := .free "all") rfl)
  b_bool := He.free_ok X G (c.fact 31 (f := .free "bool") rfl)
  b_enumerate := He.free_ok X G (c.fact 32 (f := .free "enumerate") rfl)
  b_int := He.free_ok X G (c.fact 33 (f := .free "int") rfl)
  b_isinstance := He.free_ok X G (c.fact 34 (f := .free "isinstance") rfl)
  b_len := He.free_ok X G (c.fact 35 (f := .free "len") rfl)
  b_list := He.free_ok X G (c.fact 36 (f := .free "list") rfl)
  b_max := He.free_ok X G (c.fact 37 (f := .free "max") rfl)
  b_min := He.free_ok X G (c.fact 38 (f := .free "min") rfl)
  b_range := He.free_ok X G (c.fact 39 (f := .free "range") rfl)
  b_set := He.free_ok X G (c.fact 40 (f := .free "set") rfl)
  b_sorted := He.free_ok X G (c.fact 41 (f := .free "sorted") rfl)
  b_str := He.free_ok X G (c.fact 42 (f := .free "str") rfl)
  b_tuple := He.free_ok X G (c.fact 43 (f := .free "tuple") rfl)
  c_BACK := He.str_ok X G (c.fact 44 (f := .str "BACK" "back") rfl)
  c_LETTERS := He.str_ok X G (c.fact 45 (f := .str "LETTERS" "abcdefghijklmnopqrstuvwxyz") rfl)
  c_LONGEST := He.int_ok X G (c.fact 46 (f := .int "LONGEST" 3) rfl)
  c_MOST_ROW := He.int_ok X G (c.fact 47 (f := .int "MOST_ROW" 300) rfl)
  c_MOST_RULES := He.int_ok X G (c.fact 48 (f := .int "MOST_RULES" 5) rfl)
  x_InvalidTable := by
    obtain ⟨a, b, d, e⟩ := He.exc_ok (c.fact 50 (f := .exc "InvalidTable") rfl)
    exact ⟨a, He.glo_ok X G (c.fact 49 (f := .glo "InvalidTable") rfl), b, d, e⟩
  isa := by
    intro cc hc y hy
    simp only [caught, List.mem_cons, List.not_mem_nil, or_false] at hc
    simp only [excl, List.mem_cons, List.not_mem_nil, or_false] at hy
    rcases hc with rfl <;> rcases hy with rfl
    · exact (He.exm_ok (c.fact 51 (f := .exm "InvalidTable" "InvalidTable" true) rfl)).trans (congrArg some (by decide +kernel))
theorem end_law {f : Addr} (X : K.In h) (G : h.Ns mainGlobals mg) (hfa : mg ("law" : Str) = some (.ref f)) (c : He.SaysD faL fnL K) :
    ∃ fd : FuncData, (∀ (s : Shared) (v : Value), BindsTo s fd ⟨[v], []⟩ [("script", v)]) ∧ ∀ base : Heap, K.In base → base.Ns mainGlobals mg → FnOk P w K mg base (CXa P) 14 f fd ["script"] (spD ⟨K, He.ga K⟩ f_law) := by
  obtain ⟨fd, F⟩ := c.def_ 29 (d := dd_law) rfl
  have e := hfa.symm.trans (He.glo_ok X G (c.fact 29 (f := .glo "law") rfl))
  cases e
  have b := FunD.bindsA (ps := ["script"]) F fun _ _ _ _ _ _ us hl => match us, hl with | [_], _ => rfl
  refine ⟨fd, fun s v => b s [v] rfl, fun base _ _ => ?_⟩
  have T := txt X G c
  have o_is_wide := ok_is_wide (P := P) (w := w) (base := base) T (da_is_wide X G c) 
  have o_are_signs := ok_are_signs (P := P) (w := w) (base := base) T (da_are_signs X G c) 
  have o_is_text := ok_is_text (P := P) (w := w) (base := base) T (da_is_text X G c) 
  have o_is_form := ok_is_form (P := P) (w := w) (base := base) T (da_is_form X G c) o_is_text
  have o_is_rule := ok_is_rule (P := P) (w := w) (base := base) T (da_is_rule X G c) o_is_wide o_is_form
  have o_is_table := ok_is_table (P := P) (w := w) (base := base) T (da_is_table X G c) o_is_wide o_are_signs o_is_rule
  have o_is_sign := ok_is_sign (P := P) (w := w) (base := base) T (da_is_sign X G c) 
  have o_is_key := ok_is_key (P := P) (w := w) (base := base) T (da_is_key X G c) o_is_sign
  have o_are_keys := ok_are_keys (P := P) (w := w) (base := base) T (da_are_keys X G c) o_is_wide o_is_key
  have o_need_table := ok_need_table (P := P) (w := w) (base := base) T (da_need_table X G c) o_is_table
  have o_is_row := ok_is_row (P := P) (w := w) (base := base) T (da_is_row X G c) o_are_keys o_need_table
  have o__law_source := ok__law_source (P := P) (w := w) (base := base) T (da__law_source X G c) 
  have o__law_pick := ok__law_pick (P := P) (w := w) (base := base) T (da__law_pick X G c) 
  have o__law_is_bool := ok__law_is_bool (P := P) (w := w) (base := base) T (da__law_is_bool X G c) 
  have o__law_chosen := ok__law_chosen (P := P) (w := w) (base := base) T (da__law_chosen X G c) o__law_pick
  have o__law_any_value := ok__law_any_value (P := P) (w := w) (base := base) T (da__law_any_value X G c) o__law_pick 5
  have o__law_wide := ok__law_wide (P := P) (w := w) (base := base) T (da__law_wide X G c) 
  have o__law_variant := ok__law_variant (P := P) (w := w) (base := base) T (da__law_variant X G c) o__law_pick o__law_chosen o__law_any_value 5
  have o__law_is_word := ok__law_is_word (P := P) (w := w) (base := base) T (da__law_is_word X G c) 
  have o__law_text := ok__law_text (P := P) (w := w) (base := base) T (da__law_text X G c) o__law_pick o__law_chosen
  have o__law_good_signs := ok__law_good_signs (P := P) (w := w) (base := base) T (da__law_good_signs X G c) 
  have o__law_good_rule := ok__law_good_rule (P := P) (w := w) (base := base) T (da__law_good_rule X G c) o__law_wide o__law_is_word
  have o__law_good_table := ok__law_good_table (P := P) (w := w) (base := base) T (da__law_good_table X G c) o__law_wide o__law_good_signs o__law_good_rule
  have o__law_good_row := ok__law_good_row (P := P) (w := w) (base := base) T (da__law_good_row X G c) o__law_wide o__law_is_word
  have o__law_known := ok__law_known (P := P) (w := w) (base := base) T (da__law_known X G c) o__law_pick
  have o__law_table := ok__law_table (P := P) (w := w) (base := base) T (da__law_table X G c) o__law_pick o__law_chosen o__law_text o__law_known
  have o__law_row := ok__law_row (P := P) (w := w) (base := base) T (da__law_row X G c) o__law_pick o__law_chosen
  have o__law_written := ok__law_written (P := P) (w := w) (base := base) T (da__law_written X G c) 
  have o__law_outcome := ok__law_outcome (P := P) (w := w) (base := base) T (da__law_outcome X G c) o_is_row
  exact fn_cxa (ok_law (P := P) (w := w) (base := base) T F o_is_table o_is_row o__law_source o__law_pick o__law_is_bool o__law_any_value o__law_variant o__law_good_table o__law_good_row o__law_table o__law_row o__law_written o__law_outcome)
end
end LF
end

-- part LFWp
section
set_option Elab.async false
set_option linter.all false
set_option maxRecDepth 100000
set_option maxHeartbeats 2000000
namespace LF
open PySem PySem.Spec PyProof.Rows L2

/-! ### what a pure computation yields -/
def resP {α : Type} (P : α → En → Prop) (E : Exc → En → Prop) : Option (Except Exc α × En) → Prop
  | some (.ok a, ρ') => P a ρ'
  | some (.error e, ρ') => E e ρ'
  | none => False
def wp {α : Type} (f : EM α) (ρ : En) (P : α → En → Prop) (E : Exc → En → Prop) : Prop := resP P E (f ρ)
def optP {α : Type} : Option α → (α → Prop) → Prop
  | some a, K => K a
  | none, _ => False
section
variable {α β : Type} {P : α → En → Prop} {E : Exc → En → Prop} {ρ : En}
theorem wp.mono {f : EM α} {P' : α → En → Prop} {E' : Exc → En → Prop} (h : wp f ρ P E) (p : ∀ a ρ', P a ρ' → P' a ρ') (e : ∀ a ρ', E a ρ' → E' a ρ') : wp f ρ P' E' := by
  unfold wp at h ⊢
  cases hf : f ρ with
  | none =>
    rw [hf] at h
    exact h
  | some z =>
    rw [hf] at h
    rcases z with ⟨z | z, ρ'⟩
    · exact e _ _ h
    · exact p _ _ h
theorem wp.get {f : EM α} (h : wp f ρ P fun _ _ => False) : ∃ a ρ', f ρ = some (.ok a, ρ') ∧ P a ρ' := by
  unfold wp at h
  try dsimp only
  cases hf : f ρ with
  | none =>
    rw [hf] at h
    cases h
  | some z =>
    rw [hf] at h
    rcases z with ⟨z | z, ρ'⟩
    · cases h
    · exact ⟨_, _, rfl, h⟩
theorem wp_some {a : α} {ρ' : En} : wp (fun _ => some (.ok a, ρ')) ρ P E = P a ρ' := rfl
theorem wp_of {f : EM α} {a : α} {ρ' : En} (h : f ρ = some (.ok a, ρ')) (p : P a ρ') : wp f ρ P E := by
  unfold wp
  try dsimp only
  rw [h]
  exact p
@[simp] theorem wp_bind {f : EM β} {g : β → EM α} : wp (EM.bind f g) ρ P E = wp f ρ (fun a ρ' => wp (g a) ρ' P E) E := by
  unfold wp EM.bind
  cases f ρ with
  | none => rfl
  | some z => rcases z with ⟨z | z, ρ'⟩ <;> rfl
@[simp] theorem wp_pure {a : α} : wp (EM.pure a) ρ P E = P a ρ := rfl
@[simp] theorem wp_raise {e : Exc} : wp (EM.raise (α := α) e) ρ P E = E e ρ := rfl
@[simp] theorem wp_ite {c : Prop} [Decidable c] {f g : EM α} : wp (if c then f else g) ρ P E = if c then wp f ρ P E else wp g ρ P E := by split <;> rfl
theorem wp_map {o : Option β} {g : β → α} : wp (fun ρ => o.map fun z => (.ok (g z), ρ)) ρ P E = optP o fun z => P (g z) ρ := by
  cases o <;> rfl
theorem wp_mapO {o : En → Option β} {g : β → α} : wp (fun ρ => (o ρ).map fun z => (.ok (g z), ρ)) ρ P E = optP (o ρ) fun z => P (g z) ρ := by
  unfold wp
  try dsimp only
  cases o ρ <;> rfl
@[simp] theorem optP_some {a : α} {K : α → Prop} : optP (some a) K = K a := rfl
@[simp] theorem optP_ite {c : Prop} [Decidable c] {a b : Option α} {K : α → Prop} : optP (if c then a else b) K = if c then optP a K else optP b K := by split <;> rfl
@[simp] theorem optP_map {o : Option β} {g : β → α} {K : α → Prop} : optP (o.map g) K = optP o fun z => K (g z) := by cases o <;> rfl
@[simp] theorem optP_bind {o : Option β} {g : β → Option α} {K : α → Prop} : optP (o.bind g) K = optP o fun z => optP (g z) K := by cases o <;> rfl
theorem optP.mono {o : Option α} {K K' : α → Prop} (h : optP o K) (k : ∀ a, K a → K' a) : optP o K' := by
  cases o with
  | none => exact h
  | some a => exact k a h
end
section
variable {P : R → En → Prop} {Pb : Bool → En → Prop} {Po : Out → En → Prop} {Pl : List R → En → Prop} {E : Exc → En → Prop} {ρ : En} {fa fb fc : EM R} {fs : EM (List R)} {ca cb : EM Bool} {sf sg : EM Out}
def vrP (ρ : En) (i : Nat) (P : R → En → Prop) : Option Slot → Prop
  | some (.val d) => P (.val d) ρ
  | some (.own _ _) => P (.loc i) ρ
  | _ => False
@[simp] theorem wp_eVar {i : Nat} : wp (eVar i) ρ P E = vrP ρ i P ρ[i]? := by
  unfold wp eVar
  try dsimp only
  cases ρ[i]? with
  | none => rfl
  | some s => cases s <;> rfl
@[simp] theorem wp_eC {d : D} : wp (eC d) ρ P E = P (.val d) ρ := rfl
@[simp] theorem wp_aNil : wp aNil ρ Pl E = Pl [] ρ := rfl
@[simp] theorem wp_aCons : wp (aCons fa fs) ρ Pl E = wp fa ρ (fun r ρ1 => wp fs ρ1 (fun rs ρ2 => Pl (r :: rs) ρ2) E) E := by
  unfold aCons
  simp only [wp_bind, wp_pure]
def opt2 (a b : Option D) (g : D → D → Option Got) : Option Got := a.bind fun d => b.bind fun d' => g d d'
@[simp] theorem wp_e2 {g : D → D → Option Got} : wp (e2 g fa fb) ρ P E = wp fa ρ (fun x ρ1 => wp fb ρ1 (fun y ρ2 => optP (opt2 (rd x ρ2) (rd y ρ2) g) fun z => P z.r ρ2) E) E := by
  unfold e2
  simp only [wp_bind]
  congr 1
  funext x ρ1
  congr 1
  funext y ρ2
  unfold wp opt2
  try dsimp only
  cases rd x ρ2 with
  | none => rfl
  | some d => cases rd y ρ2 with
    | none => rfl
    | some d' => cases h : g d d' <;> simp [h, optP, resP]
@[simp] theorem wp_e1 {g : D → Option Got} : wp (e1 g fa) ρ P E = wp fa ρ (fun x ρ1 => optP ((rd x ρ1).bind g) fun z => P z.r ρ1) E := by
  unfold e1
  simp only [wp_bind]
  congr 1
  funext x ρ1
  unfold wp
  try dsimp only
  cases rd x ρ1 with
  | none => rfl
  | some d => cases h : g d <;> simp [h, optP, resP]
def bP (P : Bool → En → Prop) (ρ : En) : R → Prop
  | .val (.bool k) => P k ρ
  | _ => False
@[simp] theorem wp_tB : wp (tB fa) ρ Pb E = wp fa ρ (fun r ρ1 => bP Pb ρ1 r) E := by
  unfold tB
  simp only [wp_bind]
  congr 1
  funext r ρ1
  cases r with
  | val d => cases d <;> rfl
  | _ => rfl
@[simp] theorem wp_tTru : wp (tTru fa) ρ Pb E = wp fa ρ (fun r ρ1 => optP ((rd r ρ1).bind gTru) fun k => Pb k ρ1) E := by
  unfold tTru
  simp only [wp_bind]
  congr 1
  funext r ρ1
  exact wp_mapO (o := fun ρ => (rd r ρ).bind gTru) (g := id)
@[simp] theorem wp_tAnd : wp (tAnd ca cb) ρ Pb E = wp ca ρ (fun k ρ1 => if k = true then wp cb ρ1 Pb E else Pb false ρ1) E := by
  unfold tAnd
  simp only [wp_bind, wp_ite, wp_pure]
@[simp] theorem wp_tOr : wp (tOr ca cb) ρ Pb E = wp ca ρ (fun k ρ1 => if k = true then Pb true ρ1 else wp cb ρ1 Pb E) E := by
  unfold tOr
  simp only [wp_bind, wp_ite, wp_pure]
@[simp] theorem wp_tNot : wp (tNot ca) ρ Pb E = wp ca ρ (fun k ρ1 => Pb (!k) ρ1) E := by
  unfold tNot
  simp only [wp_bind, wp_pure]
@[simp] theorem wp_tYesM : wp tYesM ρ Pb E = Pb true ρ := rfl
@[simp] theorem wp_eAnd : wp (eAnd fa fb) ρ P E = wp (tB fa) ρ (fun k ρ1 => if k = true then wp fb ρ1 P E else P (.val (.bool false)) ρ1) E := by
  unfold eAnd
  simp only [wp_bind, wp_ite, wp_pure]
@[simp] theorem wp_eOr : wp (eOr fa fb) ρ P E = wp (tB fa) ρ (fun k ρ1 => if k = true then P (.val (.bool true)) ρ1 else wp fb ρ1 P E) E := by
  unfold eOr
  simp only [wp_bind, wp_ite, wp_pure]
@[simp] theorem wp_eNot : wp (eNot fa) ρ P E = wp (tB fa) ρ (fun k ρ1 => P (.val (.bool !k)) ρ1) E := by
  unfold eNot
  simp only [wp_bind, wp_pure]
@[simp] theorem wp_eIf : wp (eIf ca fa fb) ρ P E = wp ca ρ (fun k ρ1 => if k = true then wp fa ρ1 P E else wp fb ρ1 P E) E := by
  unfold eIf
  simp only [wp_bind, wp_ite]
@[simp] theorem wp_eChain {g g' : D → D → Option Got} : wp (eChain g g' fa fb fc) ρ P E = wp fa ρ (fun x ρ1 => wp fb ρ1 (fun y ρ2 => optP (gB (g2R g x y ρ2)) fun k => if k = true then wp fc ρ2 (fun w ρ3 => optP (g2R g' y w ρ3) fun z => P z.r ρ3) E else P (.val (.bool false)) ρ2) E) E := by
  unfold eChain
  simp only [wp_bind]
  congr 1
  funext x ρ1
  congr 1
  funext y ρ2
  have key : wp (EM.bind fc (fun w => fun ρ => (g2R g' y w ρ).map fun z => (.ok z.r, ρ))) ρ2 P E = wp fc ρ2 (fun w ρ3 => optP (g2R g' y w ρ3) fun z => P z.r ρ3) E := by
    rw [wp_bind]
    congr 1
    funext w ρ3
    exact wp_mapO (o := fun ρ => g2R g' y w ρ) (g := Got.r)
  cases h : gB (g2R g x y ρ2) with
  | none =>
    unfold wp
    try dsimp only
    rw [h]
    rfl
  | some k =>
    cases k with
    | false =>
      unfold wp
      try dsimp only
      rw [h]
      rfl
    | true =>
      refine Eq.trans ?_ key
      unfold wp
      try dsimp only
      rw [h]
theorem g2R_eq {g : D → D → Option Got} {x y : R} : g2R g x y ρ = opt2 (rd x ρ) (rd y ρ) g := by
  unfold g2R opt2
  cases rd x ρ <;> cases rd y ρ <;> rfl
/-! statements -/
def nxP (g : EM Out) (P : Out → En → Prop) (E : Exc → En → Prop) (ρ : En) : Out → Prop
  | .nx => wp g ρ P E
  | o => P o ρ
@[simp] theorem wp_sSeq : wp (sSeq sf sg) ρ Po E = wp sf ρ (fun o ρ1 => nxP sg Po E ρ1 o) E := by
  unfold sSeq
  simp only [wp_bind]
  congr 1
  funext o ρ1
  cases o <;> rfl
@[simp] theorem wp_sNx : wp sNx ρ Po E = Po .nx ρ := rfl
@[simp] theorem wp_sBk : wp sBk ρ Po E = Po .bk ρ := rfl
@[simp] theorem wp_sCt : wp sCt ρ Po E = Po .ct ρ := rfl
@[simp] theorem wp_sRetN : wp sRetN ρ Po E = Po (.rt (.val .none)) ρ := rfl
@[simp] theorem wp_sRaise {x : Exc} : wp (sRaise x) ρ Po E = E x ρ := rfl
@[simp] theorem wp_sRet : wp (sRet fa) ρ Po E = wp fa ρ (fun r ρ1 => Po (.rt r) ρ1) E := by
  unfold sRet
  simp only [wp_bind, wp_pure]
@[simp] theorem wp_sExpr : wp (sExpr fa) ρ Po E = wp fa ρ (fun r ρ1 => Po .nx ρ1) E := by
  unfold sExpr
  simp only [wp_bind, wp_pure]
@[simp] theorem wp_sIf : wp (sIf ca sf sg) ρ Po E = wp ca ρ (fun k ρ1 => if k = true then wp sf ρ1 Po E else wp sg ρ1 Po E) E := by
  unfold sIf
  simp only [wp_bind, wp_ite]
def fzP (ρ : En) (i : Nat) (K : D → En → Prop) : Option Slot → Prop
  | some (.val d) => K d ρ
  | some (.own m .loc) => K m.d (ρ.set i (.val m.d))
  | _ => False
def fzR (K : D → En → Prop) (ρ : En) : R → Prop
  | .val d => K d ρ
  | .fr m => K m.d ρ
  | .loc i => fzP ρ i K ρ[i]?
@[simp] theorem wp_fz {K : D → En → Prop} {r : R} : wp (fz r) ρ K E = fzR K ρ r := by
  cases r with
  | val d => rfl
  | fr m => rfl
  | loc i =>
    unfold fz fzR wp
    try dsimp only
    show resP K E (fzSlot ρ i ρ[i]?) = _
    cases h : ρ[i]? with
    | none => rfl
    | some s => cases s with
      | own m o => cases o <;> rfl
      | _ => rfl
def fzA (K : List D → En → Prop) : List R → En → Prop
  | [], ρ => K [] ρ
  | r :: rs, ρ => fzR (fun d ρ1 => fzA (fun ds ρ2 => K (d :: ds) ρ2) rs ρ1) ρ r
@[simp] theorem wp_fzAll : ∀ {rs : List R} {ρ : En} {K : List D → En → Prop}, wp (fzAll rs) ρ K E = fzA K rs ρ
  | [], _, _ => rfl
  | r :: rs, ρ, K => by
    have e : fzAll (r :: rs) = EM.bind (fz r) fun d => EM.bind (fzAll rs) fun ds => EM.pure (d :: ds) := rfl
    rw [e, wp_bind, wp_fz]
    show fzR _ ρ r = fzR _ ρ r
    congr 1
    funext d ρ1
    rw [wp_bind, wp_fzAll]
    rfl
@[simp] theorem wp_eTup : wp (eTup fs) ρ P E = wp fs ρ (fun rs ρ1 => fzA (fun ds ρ2 => if ds.length ≤ sizeLine then P (.val (.tuple ds)) ρ2 else False) rs ρ1) E := by
  unfold eTup
  simp only [wp_bind, wp_fzAll, wp_ite, wp_pure]
  rfl
@[simp] theorem wp_eLst : wp (eLst fs) ρ P E = wp fs ρ (fun rs ρ1 => fzA (fun ds ρ2 => if ds.length ≤ sizeLine then P (.fr (.lst ds)) ρ2 else False) rs ρ1) E := by
  unfold eLst
  simp only [wp_bind, wp_fzAll, wp_ite, wp_pure]
  rfl
def stP (i : Nat) (K : En → Prop) (ρ : En) : R → Prop
  | .val d => if pinned ρ i = true then False else K (ρ.set i (.val d))
  | .fr m => if pinned ρ i = true then False else K (ρ.set i (.own m .loc))
  | .loc j => fzP ρ j (fun d ρ1 => if pinned ρ1 i = true then False else K (ρ1.set i (.val d))) ρ[j]?
@[simp] theorem wp_sSet {i : Nat} : wp (sSet i fa) ρ Po E = wp fa ρ (fun r ρ1 => stP i (fun ρ2 => Po .nx ρ2) ρ1 r) E := by
  unfold sSet
  simp only [wp_bind, wp_pure]
  congr 1
  funext r ρ1
  cases r with
  | val d =>
    unfold stor stVal stP wp
    try dsimp only
    split <;> simp_all [resP]
  | fr m =>
    unfold stor stP wp
    try dsimp only
    split <;> simp_all [resP]
  | loc j =>
    unfold stor stP
    simp only [wp_bind, wp_fz, fzR]
    congr 1
    funext d ρ2
    unfold stVal wp
    try dsimp only
    split <;> simp_all [resP]
/-! calls -/
def outP (K : R → Prop) : R → Prop
  | .loc _ => False
  | r => K r
@[simp] theorem wp_callW {f : EM R} {rs : List R} : wp (callW f rs) ρ P E = optP (argsOf ρ rs) fun args => if (locs rs).Nodup then wp f args (fun r fin => outP (fun r => P r (putBack ρ rs fin)) r) (fun e fin => E e (putBack ρ rs fin)) else False := by
  unfold callW
  cases h : argsOf ρ rs with
  | none =>
    unfold wp
    try dsimp only
    simp only [h]
    rfl
  | some args =>
    show _ = if (locs rs).Nodup then _ else _
    unfold wp
    try dsimp only
    simp only [h, Option.bind_some]
    by_cases hn : (locs rs).Nodup
    · simp only [if_pos hn]
      cases f args with
      | none => rfl
      | some z =>
        rcases z with ⟨z | r, fin⟩
        · rfl
        · cases r <;> rfl
    · simp only [if_neg hn, resP]
@[simp] theorem wp_eCall {f : EM R} : wp (eCall f fs) ρ P E = wp fs ρ (fun rs ρ1 => wp (callW f rs) ρ1 P E) E := by
  unfold eCall
  rw [wp_bind]
def retS (args : En) (K : R → En → Prop) (ρ : En) : Option Slot → Prop
  | some (.own m .loc) => K (.fr m) (finArgs args ρ)
  | some (.val d) => K (.val d) (finArgs args ρ)
  | _ => False
def retP (args : En) (K : R → En → Prop) (ρ' : En) : Out → Prop
  | .nx => K (.val .none) (finArgs args ρ')
  | .rt (.val d) => K (.val d) (finArgs args ρ')
  | .rt (.fr m) => K (.fr m) (finArgs args ρ')
  | .rt (.loc i) => retS args K ρ' ρ'[i]?
  | _ => False
@[simp] theorem wp_defF {n N : Nat} {b : EM Out} {args : En} : wp (defF n N b) args P E = if args.length = n ∧ args.all argOk = true then wp b (args ++ List.replicate (N - n) .unb) (fun o ρ' => retP args P ρ' o) (fun e ρ' => E e (finArgs args ρ')) else False := by
  unfold defF wp
  dsimp only
  by_cases hc : args.length = n ∧ args.all argOk = true
  · simp only [if_pos hc]
    cases b (args ++ List.replicate (N - n) .unb) with
    | none => rfl
    | some z =>
      rcases z with ⟨z | o, ρ'⟩
      · rfl
      · cases o with
        | rt r =>
          cases r with
          | loc i =>
            show resP P E (match ρ'[i]? with
              | some (.own m .loc) => some (.ok (.fr m), finArgs args ρ')
              | some (.val d) => some (.ok (.val d), finArgs args ρ')
              | _ => none) = retS args P ρ' ρ'[i]?
            cases ρ'[i]? with
            | none => rfl
            | some s => cases s with
              | own m o => cases o <;> rfl
              | _ => rfl
          | _ => rfl
        | _ => rfl
  · simp only [if_neg hc, resP]
/-! lists of slots -/
theorem wp_opt {α β : Type} {o : En → Option β} {f : β → EM α} {P : α → En → Prop} {ρ : En} : wp (fun ρ => (o ρ).bind fun z => f z ρ) ρ P E = optP (o ρ) fun z => wp (f z) ρ P E := by
  unfold wp
  try dsimp only
  cases o ρ <;> rfl
@[simp] theorem wp_sMeth {i : Nat} {g : List D → List D → Option (List D × D)} : wp (sMeth i g fs) ρ P E = optP (ownL ρ[i]?) fun _ => wp fs ρ (fun rs ρ1 => fzA (fun ds ρ2 => optP (ownL ρ2[i]?) fun p => optP (g ds p.1) fun q => P (.val q.2) (ρ2.set i (.own (.lst q.1) p.2))) rs ρ1) E := by
  unfold sMeth
  rw [wp_opt (o := fun ρ => ownL ρ[i]?) (f := fun _ => sMeth1 i g fs)]
  congr 1
  funext _
  unfold sMeth1
  simp only [wp_bind, wp_fzAll]
  congr 1
  funext rs ρ1
  congr 1
  funext ds ρ2
  refine (wp_opt (o := fun ρ => ownL ρ[i]?) (f := fun p ρ => (g ds p.1).map fun q => (Except.ok (R.val q.2), ρ.set i (.own (.lst q.1) p.2)))).trans ?_
  congr 1
  funext p
  unfold wp
  try dsimp only
  cases g ds p.1 <;> rfl
@[simp] theorem wp_sSetIx {i : Nat} : wp (sSetIx i fa fb) ρ Po E = wp fa ρ (fun r ρ1 => optP (ownL ρ1[i]?) fun _ => wp fb ρ1 (fun q ρ2 => match rd q ρ2 with
    | some (.int k) => fzR (fun d ρ3 => optP (ownL ρ3[i]?) fun p => optP (ixN p.1.length k) fun j => Po .nx (ρ3.set i (.own (.lst (p.1.set j d)) p.2))) ρ2 r
    | _ => False) E) E := by
  unfold sSetIx
  simp only [wp_bind]
  congr 1
  funext r ρ1
  rw [wp_opt (o := fun ρ => ownL ρ[i]?) (f := fun _ => EM.bind fb _)]
  congr 1
  funext _
  rw [wp_bind]
  congr 1
  funext q ρ2
  have key : ∀ k, wp (EM.bind (fz r) (fun d => fun ρ => (ownL ρ[i]?).bind fun p => (ixN p.1.length k).map fun j => (.ok .nx, ρ.set i (.own (.lst (p.1.set j d)) p.2)))) ρ2 Po E = fzR (fun d ρ3 => optP (ownL ρ3[i]?) fun p => optP (ixN p.1.length k) fun j => Po .nx (ρ3.set i (.own (.lst (p.1.set j d)) p.2))) ρ2 r := fun k => by
    rw [wp_bind, wp_fz]
    congr 1
    funext d ρ3
    refine (wp_opt (o := fun ρ => ownL ρ[i]?) (f := fun p ρ => (ixN p.1.length k).map fun j => (Except.ok Out.nx, ρ.set i (.own (.lst (p.1.set j d)) p.2)))).trans ?_
    congr 1
    funext p
    unfold wp
    try dsimp only
    cases ixN p.1.length k <;> rfl
  cases h : rd q ρ2 with
  | none =>
    unfold wp
    dsimp only
    rw [h]
    rfl
  | some d => cases d with
    | int k =>
      refine Eq.trans ?_ (key k)
      unfold wp
      dsimp only
      rw [h]
    | _ =>
      unfold wp
      dsimp only
      rw [h]
      rfl
@[simp] theorem wp_sSetSl {i : Nat} : wp (sSetSl i fa fb fc) ρ Po E = wp fa ρ (fun r ρ1 => optP (ownL ρ1[i]?) fun _ => wp fb ρ1 (fun q ρ2 => wp fc ρ2 (fun q' ρ3 => optP (slSt r (rd q ρ3) (rd q' ρ3) (ownL ρ3[i]?)) fun z => Po .nx (ρ3.set i (.own (.lst z.1) z.2))) E) E) E := by
  unfold sSetSl
  simp only [wp_bind]
  congr 1
  funext r ρ1
  rw [wp_opt (o := fun ρ => ownL ρ[i]?) (f := fun _ => EM.bind fb _)]
  congr 1
  funext _
  rw [wp_bind]
  congr 1
  funext q ρ2
  rw [wp_bind]
  congr 1
  funext q' ρ3
  unfold wp
  try dsimp only
  cases slSt r (rd q ρ3) (rd q' ρ3) (ownL ρ3[i]?) <;> rfl
/-! slices, texts -/
@[simp] theorem wp_pNone {Pq : Option Int → En → Prop} : wp pNone ρ Pq E = Pq none ρ := rfl
@[simp] theorem wp_pSome {Pq : Option Int → En → Prop} : wp (pSome fa) ρ Pq E = wp fa ρ (fun r ρ1 => match rd r ρ1 with | some (.int i) => Pq (some i) ρ1 | _ => False) E := by
  unfold pSome
  simp only [wp_bind]
  congr 1
  funext r ρ1
  unfold wp
  try dsimp only
  cases h : rd r ρ1 with
  | none => rfl
  | some d => cases d <;> rfl
@[simp] theorem wp_eSl {fl fh : EM (Option Int)} : wp (eSl fa fl fh) ρ P E = wp fa ρ (fun x ρ1 => wp fl ρ1 (fun l ρ2 => wp fh ρ2 (fun h ρ3 => optP ((rd x ρ3).bind fun d => gCut d l h) fun z => P z.r ρ3) E) E) E := by
  unfold eSl
  simp only [wp_bind]
  congr 1
  funext x ρ1
  congr 1
  funext l ρ2
  congr 1
  funext h ρ3
  exact wp_mapO (o := fun ρ => (rd x ρ).bind fun d => gCut d l h) (g := Got.r)
@[simp] theorem wp_eS1 {g : Str → D → Option Got} : wp (eS1 g fa fb) ρ P E = wp fa ρ (fun x ρ1 => optP (strR x ρ1) fun a => wp fb ρ1 (fun y ρ2 => optP ((rd y ρ2).bind (g a)) fun z => P z.r ρ2) E) E := by
  unfold eS1
  simp only [wp_bind]
  congr 1
  funext x ρ1
  rw [wp_opt (o := fun ρ => strR x ρ) (f := fun a => e1 (g a) fb)]
  congr 1
  funext a
  rw [wp_e1]
end
/-! ### loops -/
section
variable {Po : Out → En → Prop} {P : R → En → Prop} {E : Exc → En → Prop} {ρ : En}
def srcP (K : Src → Prop) (o : Option Src) : Prop := optP o K
@[simp] theorem wp_srcAny {f : EM R} {Ps : Src → En → Prop} : wp (srcAny f) ρ Ps E = wp f ρ (fun r ρ1 => optP (srcOf r ρ1 (rd r ρ1)) fun s => Ps s ρ1) E := by
  unfold srcAny
  simp only [wp_bind]
  congr 1
  funext r ρ1
  exact wp_mapO (o := fun ρ => srcOf r ρ (rd r ρ)) (g := id)
@[simp] theorem wp_srcR1 {f : EM R} {Ps : Src → En → Prop} : wp (srcR1 f) ρ Ps E = wp f ρ (fun r ρ1 => optP (sR1 (rd r ρ1)) fun s => Ps s ρ1) E := by
  unfold srcR1
  simp only [wp_bind]
  congr 1
  funext r ρ1
  exact wp_mapO (o := fun ρ => sR1 (rd r ρ)) (g := id)
@[simp] theorem wp_srcR2 {f g : EM R} {Ps : Src → En → Prop} : wp (srcR2 f g) ρ Ps E = wp f ρ (fun r ρ1 => wp g ρ1 (fun q ρ2 => optP (sR2 (rd r ρ2) (rd q ρ2)) fun s => Ps s ρ2) E) E := by
  unfold srcR2
  simp only [wp_bind]
  congr 1
  funext r ρ1
  congr 1
  funext q ρ2
  exact wp_mapO (o := fun ρ => sR2 (rd r ρ) (rd q ρ)) (g := id)
@[simp] theorem wp_srcEnum {f : EM R} {Ps : Src → En → Prop} : wp (srcEnum f) ρ Ps E = wp f ρ (fun r ρ1 => optP (sEnum (lkOf ρ1 r) (rd r ρ1)) fun s => Ps s ρ1) E := by
  unfold srcEnum
  simp only [wp_bind]
  congr 1
  funext r ρ1
  exact wp_mapO (o := fun ρ => sEnum (lkOf ρ r) (rd r ρ)) (g := id)
@[simp] theorem wp_srcZip {f g : EM R} {Ps : Src → En → Prop} : wp (srcZip f g) ρ Ps E = wp f ρ (fun r ρ1 => wp g ρ1 (fun q ρ2 => optP (sZip (lkOf ρ2 r ++ lkOf ρ2 q) (rd r ρ2) (rd q ρ2)) fun s => Ps s ρ2) E) E := by
  unfold srcZip
  simp only [wp_bind]
  congr 1
  funext r ρ1
  congr 1
  funext q ρ2
  exact wp_mapO (o := fun ρ => sZip (lkOf ρ r ++ lkOf ρ q) (rd r ρ) (rd q ρ)) (g := id)
@[simp] theorem wp_sFor {src : EM Src} {tm : D → En → Option En} {body : EM Out} : wp (sFor src tm body) ρ Po E = wp src ρ (fun s ρ1 => wp (runFor tm body s.1) (lockE ρ1 s.2) (fun o ρ2 => Po o (freeE ρ1 ρ2 s.2)) (fun e ρ2 => E e (freeE ρ1 ρ2 s.2))) E := by
  unfold sFor
  simp only [wp_bind]
  congr 1
  funext s ρ1
  unfold wp
  try dsimp only
  cases h : runFor tm body s.1 (lockE ρ1 s.2) with
  | none => rfl
  | some z => rcases z with ⟨z | z, ρ2⟩ <;> rfl
def turnP (I : List D → En → Prop) (ds : List D) (Po : Out → En → Prop) (ρ : En) : Out → Prop
  | .nx => I ds ρ
  | .ct => I ds ρ
  | .bk => Po .nx ρ
  | .rt r => Po (.rt r) ρ
/-- a loop by an invariant over what is left -/
theorem wp_runFor {tm : D → En → Option En} {body : EM Out} (I : List D → En → Prop) (h1 : ∀ d ds ρ, I (d :: ds) ρ → optP (tm d ρ) fun ρ1 => wp body ρ1 (fun o ρ2 => turnP I ds Po ρ2 o) E) (h0 : ∀ ρ, I [] ρ → Po .nx ρ) :
    ∀ (ds : List D) (ρ : En), I ds ρ → wp (runFor tm body ds) ρ Po E
  | [], ρ, hI => h0 ρ hI
  | d :: ds, ρ, hI => by
    have q := h1 d ds ρ hI
    unfold wp
    try dsimp only
    show resP Po E ((tm d ρ).bind fun ρ1 => (body ρ1).bind (turnOut (runFor tm body ds)))
    cases ht : tm d ρ with
    | none =>
      rw [ht] at q
      exact q
    | some ρ1 =>
      rw [ht] at q
      have q : wp body ρ1 (fun o ρ2 => turnP I ds Po ρ2 o) E := q
      unfold wp at q
      try dsimp only
      simp only [Option.bind_some]
      cases hb : body ρ1 with
      | none =>
        rw [hb] at q
        exact q
      | some z =>
        rw [hb] at q
        rcases z with ⟨z | o, ρ2⟩
        · exact q
        · cases o with
          | nx => exact wp_runFor I h1 h0 ds ρ2 q
          | ct => exact wp_runFor I h1 h0 ds ρ2 q
          | bk => exact q
          | rt r => exact q
/-- a comprehension by an invariant over what is left and what is there -/
def lcP (I : List D → List D → En → Prop) (ds acc : List D) (ρ : En) (vs : List Nat) (o : Option D) (ρ2 : En) : Prop := match o with
  | some e => acc.length < sizeLine ∧ I ds (acc ++ [e]) (backE ρ ρ2 vs)
  | none => I ds acc (backE ρ ρ2 vs)
theorem wp_runLc {tm : D → En → Option En} {c : EM Bool} {elt : EM R} {vs : List Nat} {Pl : List D → En → Prop} (I : List D → List D → En → Prop)
    (h1 : ∀ d ds acc ρ, I (d :: ds) acc ρ → optP (tm d (wipeE ρ vs)) fun ρ1 => wp (lcTurn c elt) ρ1 (fun o ρ2 => lcP I ds acc ρ vs o ρ2) fun _ _ => False) (h0 : ∀ acc ρ, I [] acc ρ → Pl acc ρ) :
    ∀ (ds acc : List D) (ρ : En), I ds acc ρ → wp (runLc tm c elt vs ds acc) ρ Pl E
  | [], acc, ρ, hI => h0 acc ρ hI
  | d :: ds, acc, ρ, hI => by
    have q := h1 d ds acc ρ hI
    unfold wp
    try dsimp only
    show resP Pl E ((tm d (wipeE ρ vs)).bind fun ρ1 => (lcTurn c elt ρ1).bind (lcOut (runLc tm c elt vs ds) acc ρ vs))
    cases ht : tm d (wipeE ρ vs) with
    | none =>
      rw [ht] at q
      exact q
    | some ρ1 =>
      rw [ht] at q
      have q : wp (lcTurn c elt) ρ1 (fun o ρ2 => lcP I ds acc ρ vs o ρ2) (fun _ _ => False) := q
      unfold wp at q
      try dsimp only
      simp only [Option.bind_some]
      cases hb : lcTurn c elt ρ1 with
      | none =>
        rw [hb] at q
        exact q
      | some z =>
        rw [hb] at q
        rcases z with ⟨z | o, ρ2⟩
        · exact q.elim
        · cases o with
          | none => exact wp_runLc I h1 h0 ds acc _ q
          | some e =>
            obtain ⟨q1, q2⟩ := q
            have r := wp_runLc I h1 h0 ds (acc ++ [e]) _ q2
            simp only [Option.bind_some, lcOut, if_pos q1]
            exact r
@[simp] theorem wp_lcTurn {c : EM Bool} {elt : EM R} {Pq : Option D → En → Prop} : wp (lcTurn c elt) ρ Pq E = wp c ρ (fun k ρ1 => if k = true then wp elt ρ1 (fun r ρ2 => fzR (fun d ρ3 => Pq (some d) ρ3) ρ2 r) E else Pq none ρ1) E := by
  unfold lcTurn
  simp only [wp_bind, wp_ite, wp_pure, wp_fz]
@[simp] theorem wp_eLc {src : EM Src} {tm : D → En → Option En} {c : EM Bool} {elt : EM R} {vs : List Nat} : wp (eLc src tm c elt vs) ρ P E = wp src ρ (fun s ρ1 => if noOwn ρ1 vs = true then wp (runLc tm c elt vs s.1 []) (lockE ρ1 s.2) (fun acc ρ2 => P (.fr (.lst acc)) (freeE ρ1 ρ2 s.2)) (fun _ _ => False) else False) E := by
  unfold eLc
  simp only [wp_bind]
  congr 1
  funext s ρ1
  unfold wp
  try dsimp only
  split
  · cases h : runLc tm c elt vs s.1 [] (lockE ρ1 s.2) with
    | none => rfl
    | some z => rcases z with ⟨z | z, ρ2⟩ <;> rfl
  · rfl
@[simp] theorem wp_sTry {cl : List Str} {isa : Str → Str → Bool} {f : EM Out} {hs : List Hd} : wp (sTry cl isa f hs) ρ Po E = wp f ρ Po (fun e ρ1 => if cl.contains e.cls = true then wp (handle isa e hs) ρ1 Po E else False) := by
  unfold sTry wp
  try dsimp only
  cases f ρ with
  | none => rfl
  | some z =>
    rcases z with ⟨e | o, ρ1⟩
    · show resP Po E (if cl.contains e.cls = true then handle isa e hs ρ1 else none) = (if cl.contains e.cls = true then resP Po E (handle isa e hs ρ1) else False)
      split <;> rfl
    · cases o <;> rfl
end

/-! ### evaluation -/
section
variable {α : Type} {ρ : En} {P : R → En → Prop} {d d' : D} {m : M} {o : Ow} {i : Nat}
@[simp] theorem optP_none {K : α → Prop} : optP (none : Option α) K = False := rfl
@[simp] theorem vrP_val : vrP ρ i P (some (.val d)) = P (.val d) ρ := rfl
@[simp] theorem vrP_own : vrP ρ i P (some (.own m o)) = P (.loc i) ρ := rfl
@[simp] theorem rd_val : rd (.val d) ρ = some d := rfl
@[simp] theorem rd_fr : rd (.fr m) ρ = some m.d := rfl
@[simp] theorem rd_loc : rd (.loc i) ρ = dSlot ρ[i]? := rfl
@[simp] theorem dSlot_val : dSlot (some (.val d)) = some d := rfl
@[simp] theorem dSlot_own : dSlot (some (.own m o)) = some m.d := rfl
@[simp] theorem M_lst {xs : List D} : M.d (.lst xs) = .list xs := rfl
@[simp] theorem opt2_some {g : D → D → Option Got} : opt2 (some d) (some d') g = g d d' := rfl
@[simp] theorem Got_v : Got.r (.v d) = .val d := rfl
@[simp] theorem Got_l {ds : List D} : Got.r (.l ds) = .fr (.lst ds) := rfl
@[simp] theorem bP_val {Pb : Bool → En → Prop} {k : Bool} : bP Pb ρ (.val (.bool k)) = Pb k ρ := rfl
@[simp] theorem nxP_nx {g : EM Out} {Po : Out → En → Prop} {E : Exc → En → Prop} : nxP g Po E ρ .nx = wp g ρ Po E := rfl
@[simp] theorem nxP_rt {g : EM Out} {Po : Out → En → Prop} {E : Exc → En → Prop} {r : R} : nxP g Po E ρ (.rt r) = Po (.rt r) ρ := rfl
@[simp] theorem nxP_bk {g : EM Out} {Po : Out → En → Prop} {E : Exc → En → Prop} : nxP g Po E ρ .bk = Po .bk ρ := rfl
@[simp] theorem nxP_ct {g : EM Out} {Po : Out → En → Prop} {E : Exc → En → Prop} : nxP g Po E ρ .ct = Po .ct ρ := rfl
@[simp] theorem fzR_val {K : D → En → Prop} : fzR K ρ (.val d) = K d ρ := rfl
@[simp] theorem fzR_fr {K : D → En → Prop} : fzR K ρ (.fr m) = K m.d ρ := rfl
@[simp] theorem fzR_loc {K : D → En → Prop} : fzR K ρ (.loc i) = fzP ρ i K ρ[i]? := rfl
@[simp] theorem fzP_val {K : D → En → Prop} : fzP ρ i K (some (.val d)) = K d ρ := rfl
@[simp] theorem fzP_own {K : D → En → Prop} : fzP ρ i K (some (.own m .loc)) = K m.d (ρ.set i (.val m.d)) := rfl
@[simp] theorem fzA_nil {K : List D → En → Prop} : fzA K [] ρ = K [] ρ := rfl
@[simp] theorem fzA_cons {K : List D → En → Prop} {r : R} {rs : List R} : fzA K (r :: rs) ρ = fzR (fun d ρ1 => fzA (fun ds ρ2 => K (d :: ds) ρ2) rs ρ1) ρ r := rfl
@[simp] theorem stP_val {K : En → Prop} : stP i K ρ (.val d) = if pinned ρ i = true then False else K (ρ.set i (.val d)) := rfl
@[simp] theorem stP_fr {K : En → Prop} : stP i K ρ (.fr m) = if pinned ρ i = true then False else K (ρ.set i (.own m .loc)) := rfl
@[simp] theorem stP_loc {K : En → Prop} {j : Nat} : stP i K ρ (.loc j) = fzP ρ j (fun d ρ1 => if pinned ρ1 i = true then False else K (ρ1.set i (.val d))) ρ[j]? := rfl
def pinS : Option Slot → Bool
  | some (.own _ .bor) => true
  | some (.own _ .lck) => true
  | none => true
  | _ => false
@[simp] theorem pinned_eq : pinned ρ i = pinS ρ[i]? := rfl
@[simp] theorem pinS_val : pinS (some (.val d)) = false := rfl
@[simp] theorem pinS_unb : pinS (some .unb) = false := rfl
@[simp] theorem pinS_loc : pinS (some (.own m .loc)) = false := rfl
@[simp] theorem pinS_bor : pinS (some (.own m .bor)) = true := rfl
@[simp] theorem outP_val {K : R → Prop} : outP K (.val d) = K (.val d) := rfl
@[simp] theorem outP_fr {K : R → Prop} : outP K (.fr m) = K (.fr m) := rfl
@[simp] theorem argsOf_nil : argsOf ρ [] = some [] := rfl
@[simp] theorem argsOf_cons {r : R} {rs : List R} : argsOf ρ (r :: rs) = (argOf ρ r).bind fun s => (argsOf ρ rs).map (s :: ·) := rfl
@[simp] theorem argOf_val : argOf ρ (.val d) = some (.val d) := rfl
@[simp] theorem argOf_fr : argOf ρ (.fr m) = some (.val m.d) := rfl
@[simp] theorem argOf_loc : argOf ρ (.loc i) = argSlot ρ[i]? := rfl
@[simp] theorem argSlot_val : argSlot (some (.val d)) = some (.val d) := rfl
@[simp] theorem argSlot_own : argSlot (some (.own m o)) = some (.own m (bOw o)) := rfl
@[simp] theorem bOw_loc : bOw .loc = .bor := rfl
@[simp] theorem bOw_bor : bOw .bor = .bor := rfl
@[simp] theorem locs_nil : locs [] = [] := rfl
@[simp] theorem locs_val {rs : List R} : locs (.val d :: rs) = locs rs := rfl
@[simp] theorem locs_fr {rs : List R} : locs (.fr m :: rs) = locs rs := rfl
@[simp] theorem locs_loc {rs : List R} : locs (.loc i :: rs) = i :: locs rs := rfl
@[simp] theorem putBack_nil {ss : En} : putBack ρ [] ss = ρ := by cases ss <;> rfl
@[simp] theorem putBack_val {rs : List R} {s : Slot} {ss : En} : putBack ρ (.val d :: rs) (s :: ss) = putBack ρ rs ss := rfl
@[simp] theorem putBack_fr {rs : List R} {s : Slot} {ss : En} : putBack ρ (.fr m :: rs) (s :: ss) = putBack ρ rs ss := rfl
@[simp] theorem putBack_own {rs : List R} {ss : En} : putBack ρ (.loc i :: rs) (.own m o :: ss) = putBack (putSlot ρ i m ρ[i]?) rs ss := rfl
@[simp] theorem putSlot_own {m' : M} : putSlot ρ i m (some (.own m' o)) = ρ.set i (.own m o) := rfl
@[simp] theorem finArgs_nil {s : En} : finArgs [] s = [] := rfl
@[simp] theorem finArgs_val {a s : En} {t : Slot} : finArgs (.val d :: a) (t :: s) = .val d :: finArgs a s := rfl
@[simp] theorem finArgs_own {a s : En} {t : Slot} : finArgs (.own m o :: a) (t :: s) = t :: finArgs a s := rfl
@[simp] theorem argOk_val : argOk (.val d) = true := rfl
@[simp] theorem argOk_bor : argOk (.own m .bor) = true := rfl
@[simp] theorem retP_nx {args : En} {K : R → En → Prop} : retP args K ρ .nx = K (.val .none) (finArgs args ρ) := rfl
@[simp] theorem retP_val {args : En} {K : R → En → Prop} : retP args K ρ (.rt (.val d)) = K (.val d) (finArgs args ρ) := rfl
@[simp] theorem retP_fr {args : En} {K : R → En → Prop} : retP args K ρ (.rt (.fr m)) = K (.fr m) (finArgs args ρ) := rfl
@[simp] theorem retP_loc {args : En} {K : R → En → Prop} : retP args K ρ (.rt (.loc i)) = retS args K ρ ρ[i]? := rfl
@[simp] theorem retS_own {args : En} {K : R → En → Prop} : retS args K ρ (some (.own m .loc)) = K (.fr m) (finArgs args ρ) := rfl
@[simp] theorem retS_val {args : En} {K : R → En → Prop} : retS args K ρ (some (.val d)) = K (.val d) (finArgs args ρ) := rfl
@[simp] theorem ownL_loc {xs : List D} : ownL (some (.own (.lst xs) .loc)) = some (xs, .loc) := rfl
@[simp] theorem ownL_bor {xs : List D} : ownL (some (.own (.lst xs) .bor)) = some (xs, .bor) := rfl
@[simp] theorem strR_eq {r : R} : strR r ρ = (rd r ρ).bind fun d => match d with | .str a => some a | _ => none := by
  unfold strR
  cases rd r ρ with
  | none => rfl
  | some d => cases d <;> rfl
@[simp] theorem turnP_nx {I : List D → En → Prop} {ds : List D} {Po : Out → En → Prop} : turnP I ds Po ρ .nx = I ds ρ := rfl
@[simp] theorem turnP_ct {I : List D → En → Prop} {ds : List D} {Po : Out → En → Prop} : turnP I ds Po ρ .ct = I ds ρ := rfl
@[simp] theorem turnP_bk {I : List D → En → Prop} {ds : List D} {Po : Out → En → Prop} : turnP I ds Po ρ .bk = Po .nx ρ := rfl
@[simp] theorem turnP_rt {I : List D → En → Prop} {ds : List D} {Po : Out → En → Prop} {r : R} : turnP I ds Po ρ (.rt r) = Po (.rt r) ρ := rfl
@[simp] theorem stVal_eq : stVal i d ρ = if pinned ρ i = true then none else some (ρ.set i (.val d)) := rfl
@[simp] theorem stVals_nil : stVals [] [] ρ = some ρ := rfl
@[simp] theorem stVals_cons {j : Nat} {js : List Nat} {ds : List D} : stVals (j :: js) (d :: ds) ρ = (stVal j d ρ).bind (stVals js ds) := rfl
@[simp] theorem stTup_eq {js : List Nat} {ds : List D} : stTup js (.tuple ds) ρ = stVals js ds ρ := rfl
@[simp] theorem lockE_nil : lockE ρ [] = ρ := rfl
@[simp] theorem lockE_cons {is : List Nat} : lockE ρ (i :: is) = lockE (lockOne ρ i ρ[i]?) is := rfl
@[simp] theorem lockOne_own : lockOne ρ i (some (.own m o)) = ρ.set i (.own m .lck) := rfl
@[simp] theorem freeE_nil {ρ0 : En} : freeE ρ0 ρ [] = ρ := rfl
@[simp] theorem freeE_cons {ρ0 : En} {is : List Nat} : freeE ρ0 ρ (i :: is) = freeE ρ0 (freeOne ρ i ρ0[i]? ρ[i]?) is := rfl
@[simp] theorem freeOne_own {m' : M} {o' : Ow} : freeOne ρ i (some (.own m o)) (some (.own m' o')) = ρ.set i (.own m' o) := rfl
@[simp] theorem lkOf_val : lkOf ρ (.val d) = [] := rfl
@[simp] theorem lkOf_fr : lkOf ρ (.fr m) = [] := rfl
@[simp] theorem lkOf_loc : lkOf ρ (.loc i) = lkSlot i ρ[i]? := rfl
@[simp] theorem lkSlot_own : lkSlot i (some (.own m o)) = [i] := rfl
@[simp] theorem lkSlot_val : lkSlot i (some (.val d)) = [] := rfl
@[simp] theorem srcOf_list {r : R} {ds : List D} : srcOf r ρ (some (.list ds)) = some (ds, lkOf ρ r) := rfl
@[simp] theorem srcOf_tuple {r : R} {ds : List D} : srcOf r ρ (some (.tuple ds)) = some (ds, []) := rfl
@[simp] theorem srcOf_str {r : R} {z : Str} : srcOf r ρ (some (.str z)) = some (chars z, []) := rfl
@[simp] theorem sR1_int {j : Int} : sR1 (some (.int j)) = if -(2 ^ 62) ≤ j ∧ j < 2 ^ 62 then some (rngD 0 j.toNat, []) else none := rfl
@[simp] theorem sEnum_list {l : List Nat} {ds : List D} : sEnum l (some (.list ds)) = some (enumD ds, l) := rfl
@[simp] theorem wipeE_nil : wipeE ρ [] = ρ := rfl
@[simp] theorem wipeE_cons {v : Nat} {vs : List Nat} : wipeE ρ (v :: vs) = (wipeE ρ vs).set v .unb := rfl
@[simp] theorem backE_nil {ρ0 : En} : backE ρ0 ρ [] = ρ := rfl
@[simp] theorem backE_cons {ρ0 : En} {v : Nat} {vs : List Nat} : backE ρ0 ρ (v :: vs) = backOne (backE ρ0 ρ vs) v ρ0[v]? := rfl
@[simp] theorem backOne_some {s : Slot} {v : Nat} : backOne ρ v (some s) = ρ.set v s := rfl
@[simp] theorem noOwn_nil : noOwn ρ [] = true := rfl
@[simp] theorem noOwn_cons {v : Nat} {vs : List Nat} : noOwn ρ (v :: vs) = (!isOwn ρ[v]? && noOwn ρ vs) := rfl
@[simp] theorem isOwn_unb : isOwn (some .unb) = false := rfl
@[simp] theorem isOwn_val : isOwn (some (.val d)) = false := rfl
@[simp] theorem lcP_some {I : List D → List D → En → Prop} {ds acc : List D} {vs : List Nat} {e : D} {ρ2 : En} : lcP I ds acc ρ vs (some e) ρ2 = (acc.length < sizeLine ∧ I ds (acc ++ [e]) (backE ρ ρ2 vs)) := rfl
@[simp] theorem lcP_none {I : List D → List D → En → Prop} {ds acc : List D} {vs : List Nat} {ρ2 : En} : lcP I ds acc ρ vs none ρ2 = I ds acc (backE ρ ρ2 vs) := rfl
/-! operations -/
@[simp] theorem gAdd_int {i j : Int} : gAdd (.int i) (.int j) = some (.v (.int (i + j))) := rfl
@[simp] theorem gSub_int {i j : Int} : gSub (.int i) (.int j) = some (.v (.int (i - j))) := rfl
@[simp] theorem gMul_int {i j : Int} : gMul (.int i) (.int j) = if (-(2 ^ 64) < i ∧ i < 2 ^ 64) ∨ (-(2 ^ 64) < j ∧ j < 2 ^ 64) then some (.v (.int (i * j))) else none := rfl
@[simp] theorem gMod_int {i j : Int} : gMod (.int i) (.int j) = if 0 < j then some (.v (.int (i % j))) else none := by
  show (if 0 < j then some (i % j) else none).map (fun k => Got.v (.int k)) = _
  split <;> rfl
@[simp] theorem gDiv_int {i j : Int} : gDiv (.int i) (.int j) = if 0 < j ∧ j < 1073741824 then some (.v (.int (i / j))) else none := by
  show (if 0 < j ∧ j < 1073741824 then some (i / j) else none).map (fun k => Got.v (.int k)) = _
  split <;> rfl
@[simp] theorem gPow_int {i j : Int} : gPow (.int i) (.int j) = if 0 ≤ j ∧ j ≤ 1000000 ∧ i.natAbs < 2 ^ 64 then some (.v (.int (i ^ j.toNat))) else none := by
  show (if 0 ≤ j ∧ j ≤ 1000000 ∧ i.natAbs < 2 ^ 64 then some (i ^ j.toNat) else none).map (fun k => Got.v (.int k)) = _
  split <;> rfl
@[simp] theorem gInt_int {i : Int} : gInt (.int i) = some (.v (.int i)) := rfl
@[simp] theorem gNeg_int {i : Int} : gNeg (.int i) = some (.v (.int (-i))) := rfl
@[simp] theorem gLt_int {i j : Int} : gLt (.int i) (.int j) = some (.v (.bool (decide (i < j)))) := rfl
@[simp] theorem gLe_int {i j : Int} : gLe (.int i) (.int j) = some (.v (.bool (decide (i ≤ j)))) := rfl
@[simp] theorem gGt_int {i j : Int} : gGt (.int i) (.int j) = some (.v (.bool (decide (j < i)))) := rfl
@[simp] theorem gGe_int {i j : Int} : gGe (.int i) (.int j) = some (.v (.bool (decide (j ≤ i)))) := rfl
@[simp] theorem gB_bool {k : Bool} : gB (some (.v (.bool k))) = some k := rfl
@[simp] theorem gTru_bool {k : Bool} : gTru (.bool k) = some k := rfl
@[simp] theorem gLen_list {ds : List D} : gLen (.list ds) = some (.v (.int ds.length)) := rfl
@[simp] theorem gLen_tuple {ds : List D} : gLen (.tuple ds) = some (.v (.int ds.length)) := rfl
@[simp] theorem gLen_str {y : Str} : gLen (.str y) = if y.length ≤ sizeLine then some (.v (.int y.length)) else none := rfl
@[simp] theorem gIx_list {ds : List D} {i : Int} : gIx (.list ds) (.int i) = (atI ds i).map .v := rfl
@[simp] theorem gIx_tuple {ds : List D} {i : Int} : gIx (.tuple ds) (.int i) = (atI ds i).map .v := rfl
@[simp] theorem gListU_list {ds : List D} : gListU (.list ds) = some (.l ds) := rfl
@[simp] theorem gListU_tuple {ds : List D} : gListU (.tuple ds) = some (.l ds) := rfl
@[simp] theorem gListU_str {x : Str} : gListU (.str x) = if x.cps.size ≤ sizeLine then some (.l ((signsOf x).map .str)) else none := rfl
@[simp] theorem gTuple_list {ds : List D} : gTuple (.list ds) = some (.v (.tuple ds)) := rfl
@[simp] theorem gTuple_tuple {ds : List D} : gTuple (.tuple ds) = some (.v (.tuple ds)) := rfl
@[simp] theorem g2R_eq' {g : D → D → Option Got} {x y : R} : g2R g x y ρ = opt2 (rd x ρ) (rd y ρ) g := g2R_eq
theorem ixN_nat {n k : Nat} (h : k < n) : ixN n (k : Int) = some k := by
  unfold ixN
  rw [if_pos (by omega), if_pos (by omega)]
  rfl
theorem atI_nat {β : Type} {ds : List β} {k : Nat} (h : k < ds.length) : atI ds (k : Int) = ds[k]? := by
  unfold atI
  rw [ixN_nat h]
  rfl
@[simp] theorem ixN_0 {n : Nat} : ixN (n + 1) 0 = some 0 := ixN_nat (k := 0) (by omega)
@[simp] theorem ixN_1 {n : Nat} : ixN (n + 2) 1 = some 1 := ixN_nat (k := 1) (by omega)
@[simp] theorem ixN_2 {n : Nat} : ixN (n + 3) 2 = some 2 := ixN_nat (k := 2) (by omega)
@[simp] theorem ixN_3 {n : Nat} : ixN (n + 4) 3 = some 3 := ixN_nat (k := 3) (by omega)
@[simp] theorem atI_0 {β : Type} {a : β} {l : List β} : atI (a :: l) 0 = some a := atI_nat (ds := a :: l) (k := 0) (by simp)
@[simp] theorem atI_1 {β : Type} {a b : β} {l : List β} : atI (a :: b :: l) 1 = some b := atI_nat (ds := a :: b :: l) (k := 1) (by simp)
@[simp] theorem atI_2 {β : Type} {a b c : β} {l : List β} : atI (a :: b :: c :: l) 2 = some c := atI_nat (ds := a :: b :: c :: l) (k := 2) (by simp)
@[simp] theorem atI_3 {β : Type} {a b c e : β} {l : List β} : atI (a :: b :: c :: e :: l) 3 = some e := atI_nat (ds := a :: b :: c :: e :: l) (k := 3) (by simp)
@[simp] theorem gIsi_none {T : String} : gIsi T .none = some (.v (.bool (isTy "NoneType" T))) := rfl
@[simp] theorem gIsi_bool {T : String} {b : Bool} : gIsi T (.bool b) = some (.v (.bool (isTy "bool" T))) := rfl
@[simp] theorem gIsi_int {T : String} {b : Int} : gIsi T (.int b) = some (.v (.bool (isTy "int" T))) := rfl
@[simp] theorem gIsi_str {T : String} {b : Str} : gIsi T (.str b) = some (.v (.bool (isTy "str" T))) := rfl
@[simp] theorem gIsi_list {T : String} {b : List D} : gIsi T (.list b) = some (.v (.bool (isTy "list" T))) := rfl
@[simp] theorem gIsi_tuple {T : String} {b : List D} : gIsi T (.tuple b) = some (.v (.bool (isTy "tuple" T))) := rfl
@[simp] theorem gEq_bool {a b : Bool} : gEq (.bool a) (.bool b) = some (.v (.bool (a == b))) := by
  unfold gEq
  rw [if_pos ⟨rfl, rfl⟩, PyData.eqv]
@[simp] theorem gEq_int {a b : Int} : gEq (.int a) (.int b) = some (.v (.bool (a == b))) := by
  unfold gEq
  rw [if_pos ⟨rfl, rfl⟩, PyData.eqv]
theorem gEq_of {a b : D} (ha : SeqAt.shaped a = true) (hb : SeqAt.shaped b = true) : gEq a b = some (.v (.bool (PyData.eqv a b))) := if_pos ⟨ha, hb⟩
theorem gNe_of {a b : D} (ha : SeqAt.shaped a = true) (hb : SeqAt.shaped b = true) : gNe a b = some (.v (.bool (!PyData.eqv a b))) := if_pos ⟨ha, hb⟩
theorem shaped_str {x : Str} (h : PyData.strOk x = true) : SeqAt.shaped (.str x) = true := by
  unfold SeqAt.shaped
  rw [PyData.canLay0, h]
  rfl
theorem shaped_strs {xs : List Str} (h : ∀ x ∈ xs, PyData.strOk x = true) : SeqAt.shaped (.list (xs.map .str)) = true := by
  have h1 : PyData.canLayAll0 (xs.map .str) = true := by
    induction xs with
    | nil => rfl
    | cons x xs ih =>
      rw [List.map_cons, PyData.canLayAll0, PyData.canLay0, h x List.mem_cons_self, ih fun y hy => h y (List.mem_cons_of_mem _ hy)]
      rfl
  have h2 : PyData.depthAll (xs.map .str) = 0 := by
    clear h1 h
    induction xs with
    | nil => rfl
    | cons x xs ih =>
      rw [List.map_cons, PyData.depthAll, PyData.depth, ih]
      rfl
  unfold SeqAt.shaped
  rw [PyData.canLay0, h1, PyData.depth, h2]
  rfl
theorem eqvAll_strs : ∀ xs ys : List Str, PyData.eqvAll (xs.map .str) (ys.map .str) = (xs == ys)
  | [], [] => by simp [PyData.eqvAll]
  | [], _ :: _ => by simp [PyData.eqvAll]
  | _ :: _, [] => by simp [PyData.eqvAll]
  | x :: xs, y :: ys => by
    rw [List.map_cons, List.map_cons, PyData.eqvAll, PyData.eqv, eqvAll_strs xs ys]
    simp
theorem eqvAll_nil : ∀ xs : List D, PyData.eqvAll xs [] = xs.isEmpty
  | [] => by simp [PyData.eqvAll]
  | _ :: _ => by simp [PyData.eqvAll]
@[simp] theorem gLen_scr {ns : List Int} : gLen (scr ns) = some (.v (.int ns.length)) := by
  show some (Got.v (.int ((ns.map PyData.int).length : Int))) = _
  rw [List.length_map]
theorem gIx_scr {ns : List Int} {k : Nat} (h : k < ns.length) : gIx (scr ns) (.int k) = some (.v (.int ns[k])) := by
  show (atI (ns.map PyData.int) (k : Int)).bind (fun u => match u with | .int n => some (Got.v (.int n)) | _ => none) = _
  rw [atI_nat (by rw [List.length_map]; exact h), List.getElem?_map, List.getElem?_eq_getElem h]
  rfl
@[simp] theorem gAdd_list {a b : List D} : gAdd (.list a) (.list b) = if a.length + b.length ≤ sizeLine then some (.l (a ++ b)) else none := by
  first | rfl | (unfold gAdd; split <;> simp_all)
@[simp] theorem gAdd_str {a b : Str} : gAdd (.str a) (.str b) = if a.length + b.length ≤ sizeLine then some (.v (.str (a ++ b))) else none := by
  first | rfl | (unfold gAdd; split <;> simp_all)
@[simp] theorem gAdd_tuple {a b : List D} : gAdd (.tuple a) (.tuple b) = if a.length + b.length ≤ sizeLine then some (.v (.tuple (a ++ b))) else none := by
  first | rfl | (unfold gAdd; split <;> simp_all)
theorem gIsi_of {T : String} {d : D} (h : isDict d = false) : gIsi T d = some (.v (.bool (isTy (tyD d) T))) := if_pos h
@[simp] theorem gAdd_bi {a : Bool} {i : Int} : gAdd (.bool a) (.int i) = some (.v (.int (b2i a + i))) := rfl
@[simp] theorem gPopAt_eq {i : Int} {xs : List D} : gPopAt [.int i] xs = if 0 ≤ i ∧ i < xs.length ∧ i < 2 ^ 63 then (xs[i.toNat]?).map fun d => (xs.eraseIdx i.toNat, d) else none := rfl
@[simp] theorem gInsert_eq {i : Int} {d : D} {xs : List D} : gInsert [.int i, d] xs = if xs.length < sizeLine ∧ 0 ≤ i ∧ i < 2 ^ 63 then some (xs.take i.toNat ++ [d] ++ xs.drop i.toNat, .none) else none := rfl
@[simp] theorem gAppend_eq {d : D} {xs : List D} : gAppend [d] xs = if xs.length < sizeLine then some (xs ++ [d], .none) else none := rfl
@[simp] theorem gCut_list {ds : List D} {l h : Option Int} : gCut (.list ds) l h = some (.l (cutD ds l h)) := rfl
@[simp] theorem gCut_tuple {ds : List D} {l h : Option Int} : gCut (.tuple ds) l h = some (.v (.tuple (cutD ds l h))) := rfl
@[simp] theorem gRev_list {ds : List D} : gRev (.list ds) = some (.l ds.reverse) := rfl
theorem slSt_eq {ys xs : List D} {a c : Int} {w : Ow} : slSt (.fr (.lst ys)) (some (.int a)) (some (.int c)) (some (xs, w)) = if 0 ≤ a ∧ a ≤ c ∧ a ≤ xs.length ∧ xs.length + ys.length ≤ sizeLine then some (xs.take a.toNat ++ ys ++ xs.drop (min c.toNat xs.length), w) else none := rfl
theorem cutD_nat {xs : List D} {a c : Nat} : cutD xs (some (a : Int)) (some (c : Int)) = (xs.drop (min a xs.length)).take (min c xs.length - min a xs.length) := by
  unfold cutD
  rw [HT.sIx_nat, HT.sIx_nat]
@[simp] theorem gMul_list {xs : List D} {k : Int} : gMul (.list xs) (.int k) = if -(2 ^ 63) ≤ k ∧ k < 2 ^ 63 ∧ xs.length * k.toNat ≤ sizeLine then some (.l (List.replicate k.toNat xs).flatten) else none := rfl
@[simp] theorem gMul_tuple {xs : List D} {k : Int} : gMul (.tuple xs) (.int k) = if xs.length ≠ 0 ∧ 2 ≤ k ∧ k ≤ 1000 ∧ xs.length ≤ 1000 then some (.v (.tuple (List.replicate k.toNat xs).flatten)) else none := rfl
@[simp] theorem gMul_str {a : Str} {k : Int} : gMul (.str a) (.int k) = if 0 ≤ k ∧ k ≤ 1000 ∧ a.length ≤ 1000 then some (.v (.str (Txt.mul a k))) else none := rfl
@[simp] theorem gMax2_int {i j : Int} : gMax2 (.int i) (.int j) = some (.v (.int (if j > i then j else i))) := rfl
@[simp] theorem gMin2_int {i j : Int} : gMin2 (.int i) (.int j) = some (.v (.int (if j < i then j else i))) := rfl
end
end LF
end

-- part K01P1
section
set_option Elab.async false
set_option linter.all false
set_option maxRecDepth 100000
set_option maxHeartbeats 4000000
namespace LF
open PySem PySem.Spec PyProof.Rows L2
section
variable {P : R → En → Prop} {E : Exc → En → Prop}
/-- a source of drawn numbers -/
def SrcOk (st : List D) : Prop := ∃ c s p n : Int, st = [.int c, .int s, .int p, .int n] ∧ 0 ≤ c ∧ 0 ≤ s ∧ s < 2 ^ 33 ∧ 0 < p ∧ p < 2 ^ 33 ∧ 0 ≤ n
theorem pick_spec {st : List D} {k : Int} (h : SrcOk st) (h0 : 0 < k) (h1 : k < 1073741824)
    (q : ∀ v st', SrcOk st' → 0 ≤ v → v < k → P (.val (.int v)) [.own (.lst st') .bor, .val (.int k)]) : wp f__law_pick [.own (.lst st) .bor, .val (.int k)] P E := by
  obtain ⟨c, s, p, n, rfl, hc, hs, hs2, hp, hp2, hn⟩ := h
  unfold f__law_pick bd__law_pick
  simp
  have hm := Int.emod_nonneg (s * 48271 + 7919 * (n + 1)) (Int.ne_of_gt hp)
  have hl := Int.emod_lt_of_pos (s * 48271 + 7919 * (n + 1)) hp
  split
  · rename_i hc0
    refine ⟨h0, ⟨h0, h1⟩, q _ _ ⟨_, _, _, _, rfl, Int.ediv_nonneg hc (by omega), hs, hs2, hp, hp2, hn⟩ (Int.emod_nonneg _ (by omega)) (Int.emod_lt_of_pos _ h0)⟩
  · refine ⟨hp, ⟨by omega, by omega⟩, h0, q _ _ ⟨_, _, _, _, rfl, hc, hm, by omega, hp, hp2, by omega⟩ (Int.emod_nonneg _ (by omega)) (Int.emod_lt_of_pos _ h0)⟩
theorem at_lt {β : Type} {ds : List β} {v : Int} (h0 : 0 ≤ v) (h1 : v < ds.length) : ∃ d, atI ds v = some d ∧ d ∈ ds := by
  obtain ⟨k, rfl⟩ := Int.eq_ofNat_of_zero_le h0
  have hk : k < ds.length := by omega
  exact ⟨ds[k], by rw [atI_nat hk]; exact List.getElem?_eq_getElem hk, List.getElem_mem hk⟩
def primesL : List D := [.int 2147483647, .int 2147483629, .int 2147483587, .int 2147483579, .int 2147483563, .int 2147483549, .int 2147483543, .int 2147483497]
theorem prime_at (k : Nat) : ∃ p : Int, atI primesL ((k : Int) % 8) = some (.int p) ∧ 0 < p ∧ p < 2 ^ 33 := by
  obtain ⟨d, h1, h2⟩ := at_lt (ds := primesL) (v := (k : Int) % 8) (Int.emod_nonneg _ (by omega)) (Int.emod_lt_of_pos _ (by decide))
  simp only [primesL, List.mem_cons, List.not_mem_nil, or_false] at h2
  rcases h2 with rfl | rfl | rfl | rfl | rfl | rfl | rfl | rfl <;> exact ⟨_, h1, by decide, by decide⟩
def tl_source : EM Out :=
  (sSeq (sSet 3 (eLst (aCons (eC (.int 2147483647)) (aCons (eC (.int 2147483629)) (aCons (eC (.int 2147483587)) (aCons (eC (.int 2147483579)) (aCons (eC (.int 2147483563)) (aCons (eC (.int 2147483549)) (aCons (eC (.int 2147483543)) (aCons (eC (.int 2147483497)) aNil))))))))))
  (sSeq (sSet 4 (e2 gMod (e1 gInt (e2 gMul (e2 gAdd (e2 gMod (e1 gInt (eVar 2)) (eC (.int 2147483489))) (eC (.int 1))) (e2 gAdd (eC (.int 48271)) (e2 gMul (eC (.int 2)) (eVar 1))))) (eC (.int 2147483489))))
  (sSeq (sSet 4 (e2 gAdd (e2 gAdd (e2 gMod (e1 gInt (e2 gMul (eVar 4) (eVar 4))) (eC (.int 2147483477))) (eVar 1)) (eC (.int 1))))
  (sSeq (sIf (tB (e2 gGe (eVar 2) (e2 gPow (eC (.int 10)) (eC (.int 18)))))
  (sRet (eLst (aCons (eVar 2) (aCons (eVar 4) (aCons (e2 gIx (eVar 3) (e2 gMod (e1 gInt (eVar 1)) (eC (.int 8)))) (aCons (eC (.int 0)) aNil))))))
  sNx)
  (sRet (eLst (aCons (eC (.int 0)) (aCons (eVar 4) (aCons (e2 gIx (eVar 3) (e2 gMod (e1 gInt (eVar 1)) (eC (.int 8)))) (aCons (eC (.int 0)) aNil))))))))))
theorem source_tail {Q : Out → En → Prop} {d : D} {k : Nat} (hk : k < 100) (cell : Int) (q : ∀ st a b c, SrcOk st → Q (.rt (.fr (.lst st))) [.val d, .val (.int k), a, b, c]) : wp tl_source [.val d, .val (.int k), .val (.int cell), .unb, .unb] Q E := by
  unfold tl_source
  have sl : sizeLine = 16777216 := sizeLine_eq
  obtain ⟨p, hp, p0, p1⟩ := prime_at k
  unfold primesL at hp
  have m1 : ∀ x : Int, 0 ≤ x % 2147483489 ∧ x % 2147483489 < 2147483489 := fun x => ⟨Int.emod_nonneg _ (by decide), Int.emod_lt_of_pos _ (by decide)⟩
  have m2 : ∀ x : Int, 0 ≤ x % 2147483477 ∧ x % 2147483477 < 2147483477 := fun x => ⟨Int.emod_nonneg _ (by decide), Int.emod_lt_of_pos _ (by decide)⟩
  simp [sl, hp]
  have h1 := m1 ((cell % 2147483489 + 1) * (48271 + 2 * ↑k))
  generalize (cell % 2147483489 + 1) * (48271 + 2 * (k : Int)) % 2147483489 = s1 at h1 ⊢
  have h2 := m2 (s1 * s1)
  refine ⟨.inr ⟨by omega, by omega⟩, ⟨by omega, by omega⟩, ?_⟩
  split
  · exact q _ _ _ _ ⟨_, _, _, _, rfl, by omega, by omega, by omega, p0, p1, by decide⟩
  · exact q _ _ _ _ ⟨_, _, _, _, rfl, by decide, by omega, by omega, p0, p1, by decide⟩
theorem source_head {Q : Out → En → Prop} {ns : List Int} {k : Nat} {T : EM Out} (hT : ∀ cell : Int, wp T [.val (scr ns), .val (.int k), .val (.int cell), .unb, .unb] Q E) :
    wp (sSeq (sSet 2 (eC (.int 0))) (sSeq (sIf (tB (e2 gLt (eVar 1) (e1 gLen (eVar 0)))) (sSet 2 (e2 gIx (eVar 0) (eVar 1))) sNx) T)) [.val (scr ns), .val (.int k), .unb, .unb, .unb] Q E := by
  by_cases hl : k < ns.length
  · simp [hl, gIx_scr hl]
    exact hT _
  · simp [hl]
    exact hT _
theorem source_spec {ns : List Int} {k : Nat} (hk : k < 100) (q : ∀ st, SrcOk st → P (.fr (.lst st)) [.val (scr ns), .val (.int k)]) : wp f__law_source [.val (scr ns), .val (.int k)] P E := by
  have e : bd__law_source = sSeq (sSet 2 (eC (.int 0))) (sSeq (sIf (tB (e2 gLt (eVar 1) (e1 gLen (eVar 0)))) (sSet 2 (e2 gIx (eVar 0) (eVar 1))) sNx) tl_source) := rfl
  unfold f__law_source
  rw [e, wp_defF, if_pos ⟨rfl, rfl⟩]
  exact source_head fun cell => source_tail hk cell fun st a b c h => q st h
theorem chosen_spec {st xs : List D} (h : SrcOk st) (h0 : xs ≠ []) (h1 : xs.length < 1000000) (q : ∀ d st', SrcOk st' → d ∈ xs → P (.val d) [.own (.lst st') .bor, .val (.list xs)]) : wp f__law_chosen [.own (.lst st) .bor, .val (.list xs)] P E := by
  unfold f__law_chosen bd__law_chosen
  have hp : 0 < xs.length := List.length_pos_iff.mpr h0
  simp
  refine pick_spec h (by omega) (by omega) fun v st' h' v0 v1 => ?_
  obtain ⟨d, h2, h3⟩ := at_lt v0 v1
  simp [h2]
  exact q d st' h' h3
theorem is_bool_spec {a b : Bool} (q : P (.val (.bool (a == b))) [.val (.bool a), .val (.bool b)]) : wp f__law_is_bool [.val (.bool a), .val (.bool b)] P E := by
  unfold f__law_is_bool bd__law_is_bool
  simp [isTy]
  exact q
end
end LF
end

-- part K01P2
section
set_option Elab.async false
set_option linter.all false
set_option maxRecDepth 100000
set_option maxHeartbeats 4000000
namespace LF
open PySem PySem.Spec PyProof.Rows L2
def flatOk (n : Nat) : D → Bool
  | .str x => decide (x.length ≤ n) && PyData.strOk x
  | .none | .bool _ | .int _ => true
  | _ => false
/-- data of small lists and tuples -/
def okD (n : Nat) : Nat → D → Bool
  | 0, d => flatOk n d
  | k + 1, .list ds => decide (ds.length ≤ n) && ds.all (okD n k)
  | k + 1, .tuple ds => decide (ds.length ≤ n) && ds.all (okD n k)
  | _ + 1, d => flatOk n d
theorem flatOk_mono {n n' : Nat} (h : n ≤ n') : ∀ {d : D}, flatOk n d = true → flatOk n' d = true
  | .str x, e => by
    simp only [flatOk, Bool.and_eq_true, decide_eq_true_eq] at e ⊢
    exact ⟨by omega, e.2⟩
  | .none, _ => rfl
  | .bool _, _ => rfl
  | .int _, _ => rfl
  | .list _, e => by cases e
  | .tuple _, e => by cases e
  | .dict _, e => by cases e
theorem okD_flat {n k : Nat} {d : D} (h : flatOk n d = true) : okD n k d = true := by
  cases k with
  | zero => exact h
  | succ k => cases d <;> first | exact h | cases h
theorem okD_mono {n n' : Nat} (h : n ≤ n') : ∀ {k k' : Nat} {d : D}, k ≤ k' → okD n k d = true → okD n' k' d = true
  | 0, k', d, _, e => okD_flat (flatOk_mono h e)
  | k + 1, k', d, hk, e => by
    obtain ⟨k', rfl⟩ : ∃ j, k' = j + 1 := ⟨k' - 1, by omega⟩
    cases d with
    | list ds =>
      simp only [okD, Bool.and_eq_true, decide_eq_true_eq, List.all_eq_true] at e ⊢
      exact ⟨by omega, fun x hx => okD_mono h (by omega) (e.2 x hx)⟩
    | tuple ds =>
      simp only [okD, Bool.and_eq_true, decide_eq_true_eq, List.all_eq_true] at e ⊢
      exact ⟨by omega, fun x hx => okD_mono h (by omega) (e.2 x hx)⟩
    | _ => exact okD_flat (flatOk_mono h e)
theorem okD_lay {n : Nat} : ∀ {k : Nat} {d : D}, okD n k d = true → d.canLay0 = true ∧ d.depth ≤ k
  | 0, d, e => by
    have e : flatOk n d = true := e
    cases d with
    | str x =>
      simp only [flatOk, Bool.and_eq_true] at e
      exact ⟨by rw [PyData.canLay0]; exact e.2, by simp [PyData.depth]⟩
    | list _ => cases e
    | tuple _ => cases e
    | dict _ => cases e
    | _ => exact ⟨rfl, by simp [PyData.depth]⟩
  | k + 1, d, e => by
    have all : ∀ ds : List D, (∀ x ∈ ds, okD n k x = true) → PyData.canLayAll0 ds = true ∧ PyData.depthAll ds ≤ k := by
      intro ds
      induction ds with
      | nil => intro _; exact ⟨rfl, by simp [PyData.depthAll]⟩
      | cons x r ih =>
        intro h
        obtain ⟨h1, h2⟩ := okD_lay (h x List.mem_cons_self)
        obtain ⟨h3, h4⟩ := ih fun y hy => h y (List.mem_cons_of_mem _ hy)
        exact ⟨by rw [PyData.canLayAll0, h1, h3]; rfl, by rw [PyData.depthAll]; omega⟩
    cases d with
    | list ds =>
      simp only [okD, Bool.and_eq_true, List.all_eq_true] at e
      obtain ⟨h1, h2⟩ := all ds e.2
      exact ⟨by rw [PyData.canLay0]; exact h1, by rw [PyData.depth]; omega⟩
    | tuple ds =>
      simp only [okD, Bool.and_eq_true, List.all_eq_true] at e
      obtain ⟨h1, h2⟩ := all ds e.2
      exact ⟨by rw [PyData.canLay0]; exact h1, by rw [PyData.depth]; omega⟩
    | str x =>
      have e : flatOk n (.str x) = true := e
      simp only [flatOk, Bool.and_eq_true] at e
      exact ⟨by rw [PyData.canLay0]; exact e.2, by simp [PyData.depth]⟩
    | dict _ => cases (show flatOk n (.dict _) = true from e)
    | _ => exact ⟨rfl, by simp [PyData.depth]⟩
theorem okD_shaped {n k : Nat} {d : D} (h : okD n k d = true) (hk : k ≤ 64) : SeqAt.shaped d = true := by
  obtain ⟨h1, h2⟩ := okD_lay h
  unfold SeqAt.shaped
  rw [h1]
  simpa using by omega
def rOk (n k : Nat) : R → Prop
  | .val d => okD n k d = true
  | .fr m => okD n k m.d = true
  | .loc _ => False
section
variable {P : R → En → Prop} {E : Exc → En → Prop}
def anyL : List D := [.int 0, .int (-1), .int 1, .bool true, .bool false, .none, .str "", .str "a", .str "ab", .str "back", .str "a b", .str "abab", .int 2, .int 3, .int (-7), .str "|", .int 100000000000, .int 8, .tuple [], .list [], .tuple [.int 0, .int 1]]
theorem anyL_ok : ∀ d ∈ anyL, okD 30 1 d = true := by decide +kernel
theorem any_spec : ∀ (m : Nat) {P : R → En → Prop} {E : Exc → En → Prop} {st : List D} {e : Nat}, SrcOk st → e < m → (q : ∀ r st', SrcOk st' → rOk 30 (e + 1) r → P r [.own (.lst st') .bor, .val (.int e)]) → wp (f__law_any_value m) [.own (.lst st) .bor, .val (.int e)] P E
  | 0, _, _, _, _, _, h, _ => by omega
  | m + 1, P, E, st, e, hs, he, q => by
    have sl : sizeLine = 16777216 := sizeLine_eq
    unfold f__law_any_value bd__law_any_value
    simp [sl]
    refine pick_spec hs (by omega) (by omega) fun kind st1 h1 k0 k1 => ?_
    by_cases hk : kind < 6
    · simp [sl, hk]
      refine pick_spec h1 (by omega) (by omega) fun v st2 h2 v0 v1 => ?_
      obtain ⟨d, h3, h4⟩ := at_lt (ds := anyL) v0 (by simpa [anyL] using v1)
      simp only [anyL] at h3
      simp [h3]
      exact q _ _ h2 (okD_mono (Nat.le_refl _) (by omega) (anyL_ok d h4))
    by_cases he0 : e = 0
    · subst he0
      simp [sl, hk]
      refine pick_spec h1 (by omega) (by omega) fun v st2 h2 v0 v1 => ?_
      obtain ⟨d, h3, h4⟩ := at_lt (ds := anyL) v0 (by simpa [anyL] using v1)
      simp only [anyL] at h3
      simp [h3]
      exact q _ _ h2 (okD_mono (Nat.le_refl _) (by omega) (anyL_ok d h4))
    simp [hk, he0]
    refine pick_spec h1 (by omega) (by omega) fun v st2 h2 v0 v1 => ?_
    obtain ⟨e, rfl⟩ : ∃ j, e = j + 1 := ⟨e - 1, by omega⟩
    simp
    refine ⟨⟨by omega, by omega⟩, ?_⟩
    refine wp_runLc (I := fun ds acc ρ => ∃ st', SrcOk st' ∧ (∀ x ∈ acc, okD 30 (e + 1) x = true) ∧ acc.length + ds.length ≤ 6 ∧ ρ = [.own (.lst st') .bor, .val (.int (e + 1)), .val (.int kind), .unb, .unb, .unb]) ?_ ?_ _ _ _ ⟨st2, h2, by simp, by simp [rngD]; omega, by simp⟩
    · rintro d ds acc ρ ⟨st', hs', ha, hl, rfl⟩
      simp only [List.length_cons] at hl
      have e1 : (e : Int) + 1 - 1 = e := by omega
      simp [e1]
      refine any_spec m (e := e) hs' (by omega) fun r st'' h'' hr => ?_
      have fin : ∀ x : D, okD 30 (e + 1) x = true → (acc.length < sizeLine ∧ ∃ st', SrcOk st' ∧ (∀ y ∈ acc ++ [x], okD 30 (e + 1) y = true) ∧ (acc ++ [x]).length + ds.length ≤ 6 ∧ [Slot.own (.lst st'') .bor, .val (.int (e + 1)), .val (.int kind), .unb, .unb, .unb] = [Slot.own (.lst st') .bor, .val (.int (e + 1)), .val (.int kind), .unb, .unb, .unb]) := fun x hx =>
        ⟨by omega, st'', h'', fun y hy => by
          rcases List.mem_append.mp hy with hy | hy
          · exact ha y hy
          · rw [List.mem_singleton.mp hy]; exact hx, by simp; omega, rfl⟩
      cases r with
      | loc i => exact hr.elim
      | val x => simpa using fin x hr
      | fr mm => simpa using fin mm.d hr
    · rintro acc ρ ⟨st', hs', ha, hl, rfl⟩
      simp only [List.length_nil] at hl
      have hacc : (decide (acc.length ≤ 30) && acc.all (okD 30 (e + 1))) = true := by
        simp only [Bool.and_eq_true, decide_eq_true_eq, List.all_eq_true]
        exact ⟨by omega, ha⟩
      simp
      obtain ⟨d, h3, h4⟩ := at_lt (ds := [PyData.list acc, PyData.tuple acc, PyData.tuple acc]) (v := kind - 6) (by omega) (by simp; omega)
      simp [h3]
      refine q _ _ hs' ?_
      simp only [List.mem_cons, List.not_mem_nil, or_false] at h4
      rcases h4 with rfl | rfl | rfl <;> exact hacc
end
end LF
end

-- part K01P3
section
set_option Elab.async false
set_option linter.all false
set_option maxRecDepth 100000
set_option maxHeartbeats 4000000
namespace LF
open PySem PySem.Spec PyProof.Rows L2
def tl_variant : EM Out :=
  (sSeq (sSet 5 (eCall f__law_pick (aCons (eVar 0) (aCons (eC (.int 8)) aNil))))
  (sSeq (sIf (tB (e2 gEq (eVar 5) (eC (.int 0))))
  (sExpr (sMeth 3 gPopAt (aCons (eVar 4) aNil)))
  (sIf (tB (e2 gEq (eVar 5) (eC (.int 1))))
  (sExpr (sMeth 3 gInsert (aCons (eVar 4) (aCons (e2 gIx (eVar 3) (eVar 4)) aNil))))
  (sIf (tB (e2 gEq (eVar 5) (eC (.int 2))))
  (sSetSl 3 (e1 gRev (eSl (eVar 3) (pSome (eVar 4)) (pSome (e2 gAdd (eVar 4) (eC (.int 2)))))) (eVar 4) (e2 gAdd (eVar 4) (eC (.int 2))))
  (sIf (tB (e2 gEq (eVar 5) (eC (.int 3))))
  (sSetIx 3 (eCall (f__law_any_value 5) (aCons (eVar 0) (aCons (eC (.int 2)) aNil))) (eVar 4))
  (sIf (tB (e2 gLt (eVar 5) (eC (.int 6))))
  (sSeq (sSet 6 (eLst (aCons (eC (.str "a")) (aCons (eC (.str "b")) (aCons (eC (.str "ab")) (aCons (eC (.str "aa")) (aCons (eC (.str "x")) (aCons (eC (.str "back")) (aCons (eC .none) (aCons (eC (.bool true)) (aCons (eC (.bool false)) aNil)))))))))))
  (sSetIx 3 (eCall f__law_chosen (aCons (eVar 0) (aCons (e2 gAdd (eVar 6) (eLst (aCons (eC (.int 0)) (aCons (eC (.int 1)) (aCons (eC (.int 2)) (aCons (eC (.int 3)) (aCons (eC (.int 4)) (aCons (e1 gNeg (eC (.int 1))) (aCons (eC (.str "A")) (aCons (eC (.str "")) (aCons (eC (.str "1111")) (aCons (eC (.str "|")) (aCons (eTup aNil) aNil))))))))))))) aNil))) (eVar 4)))
  (sIf (tAnd (tB (e2 gEq (eVar 5) (eC (.int 6)))) (tTru (e1 (gIsi "tuple") (e2 gIx (eVar 3) (eVar 4)))))
  (sSetIx 3 (e1 gListU (e2 gIx (eVar 3) (eVar 4))) (eVar 4))
  (sIf (tAnd (tB (e2 gEq (eVar 5) (eC (.int 7)))) (tTru (e1 (gIsi "int") (e2 gIx (eVar 3) (eVar 4)))))
  (sSetIx 3 (e2 gAdd (e2 gIx (eVar 3) (eVar 4)) (e2 gIx (eLst (aCons (eC (.int 1)) (aCons (e1 gNeg (eC (.int 1))) aNil))) (eCall f__law_pick (aCons (eVar 0) (aCons (eC (.int 2)) aNil))))) (eVar 4))
  (sRet (eVar 3)))))))))
  (sRet (e1 gTuple (eVar 3)))))
def nearL : List D := [.str "a", .str "b", .str "ab", .str "aa", .str "x", .str "back", .none, .bool true, .bool false, .int 0, .int 1, .int 2, .int 3, .int 4, .int (-1), .str "A", .str "", .str "1111", .str "|", .tuple []]
theorem nearL_ok : ∀ d ∈ nearL, okD 30 1 d = true := by decide +kernel
theorem okD_nodict {n k : Nat} {d : D} (h : okD n k d = true) : isDict d = false := by
  cases d with
  | dict kv => cases k <;> cases h
  | _ => rfl
section
variable {P : R → En → Prop} {E : Exc → En → Prop}
theorem variant_tail {st st1 ds : List D} {e j n k : Nat} (hs : SrcOk st) (hn : 30 ≤ n) (hn2 : n ≤ 1000) (hk : 3 ≤ k) (hl : ds.length ≤ n) (ha : ∀ x ∈ ds, okD n k x = true) (hj : j < ds.length)
    (q : ∀ r st', SrcOk st' → rOk (n + 1) (k + 1) r → P r [.own (.lst st') .bor, .val (.tuple ds), .val (.int e)]) :
    wp tl_variant [.own (.lst st) .bor, .val (.tuple ds), .val (.int e), .own (.lst ds) .loc, .val (.int j), .unb, .unb]
      (fun o ρ' => retP [.own (.lst st1) .bor, .val (.tuple ds), .val (.int e)] P ρ' o) E := by
  have sl : sizeLine = 16777216 := sizeLine_eq
  have hx : atI ds (j : Int) = some ds[j] := by rw [atI_nat hj, List.getElem?_eq_getElem hj]
  have hxm := ha ds[j] (List.getElem_mem hj)
  have hixn : ixN ds.length (j : Int) = some j := ixN_nat hj
  obtain ⟨x, hxe⟩ : ∃ x, ds[j] = x := ⟨_, rfl⟩
  rw [hxe] at hx hxm
  have up : ∀ x, okD n k x = true → okD (n + 1) k x = true := fun x h => okD_mono (by omega) (Nat.le_refl _) h
  have mk : ∀ zs : List D, zs.length ≤ n + 1 → (∀ x ∈ zs, okD (n + 1) k x = true) → okD (n + 1) (k + 1) (.tuple zs) = true ∧ okD (n + 1) (k + 1) (.list zs) = true := fun zs h1 h2 => by
    have : (decide (zs.length ≤ n + 1) && zs.all (okD (n + 1) k)) = true := by
      simp only [Bool.and_eq_true, decide_eq_true_eq, List.all_eq_true]
      exact ⟨h1, h2⟩
    exact ⟨this, this⟩
  have mset : ∀ x, okD (n + 1) k x = true → okD (n + 1) (k + 1) (.tuple (ds.set j x)) = true := fun x h => (mk _ (by rw [List.length_set]; omega) fun y hy => by
    rcases List.mem_or_eq_of_mem_set hy with hy | rfl
    · exact up y (ha y hy)
    · exact h).1
  unfold tl_variant
  rw [wp_sSeq, wp_sSet, wp_eCall, wp_aCons, wp_eVar]
  simp
  refine pick_spec hs (by omega) (by omega) fun kind st2 h2 k0 k1 => ?_
  simp
  have : kind = 0 ∨ kind = 1 ∨ kind = 2 ∨ kind = 3 ∨ kind = 4 ∨ kind = 5 ∨ kind = 6 ∨ kind = 7 := by omega
  rcases this with rfl | rfl | rfl | rfl | rfl | rfl | rfl | rfl
  · simp
    refine ⟨⟨hj, by omega⟩, ?_⟩
    rw [List.getElem?_eq_getElem hj]
    refine q _ _ h2 (mk _ ?_ fun y hy => up y (ha y (List.mem_of_mem_eraseIdx hy))).1
    rw [List.length_eraseIdx]
    split <;> omega
  · simp [hx, sl]
    refine ⟨⟨by omega, by omega⟩, ?_⟩
    refine q _ _ h2 (mk _ ?_ fun y hy => ?_).1
    · simp; omega
    · simp at hy
      rcases hy with hy | rfl | hy
      · exact up y (ha y (List.mem_of_mem_take hy))
      · exact up _ hxm
      · exact up y (ha y (List.mem_of_mem_drop hy))
  · simp
    have e2 : ((j : Int) + 2) = ((j + 2 : Nat) : Int) := by omega
    rw [e2, slSt_eq, cutD_nat]
    have hc : (((ds.drop (min j ds.length)).take (min (j + 2) ds.length - min j ds.length)).reverse).length ≤ ds.length := by
      simp only [List.length_reverse, List.length_take, List.length_drop]
      omega
    rw [if_pos ⟨by omega, by omega, by omega, by omega⟩]
    refine q _ _ h2 (mk _ ?_ fun y hy => up y (ha y ?_)).1
    · simp only [List.length_append, List.length_reverse, List.length_take, List.length_drop, Int.toNat_natCast]
      omega
    · simp only [List.mem_append, List.mem_reverse] at hy
      rcases hy with (hy | hy) | hy
      · exact List.mem_of_mem_take hy
      · exact List.mem_of_mem_drop (List.mem_of_mem_take hy)
      · exact List.mem_of_mem_drop hy
  · simp
    refine any_spec 5 (e := 2) h2 (by omega) fun r st3 h3 hr => ?_
    cases r with
    | loc i => exact hr.elim
    | val x =>
      simp [hixn]
      exact q _ _ h3 (mset _ (okD_mono (by omega) hk hr))
    | fr mm =>
      simp [hixn]
      exact q _ _ h3 (mset _ (okD_mono (by omega) hk hr))
  · simp [sl]
    refine chosen_spec h2 (by simp) (by simp) fun d st3 h3 hd => ?_
    simp [hixn]
    exact q _ _ h3 (mset _ (okD_mono (by omega) (by omega) (nearL_ok d hd)))
  · simp [sl]
    refine chosen_spec h2 (by simp) (by simp) fun d st3 h3 hd => ?_
    simp [hixn]
    exact q _ _ h3 (mset _ (okD_mono (by omega) (by omega) (nearL_ok d hd)))
  · simp [hx, gIsi_of (okD_nodict hxm)]
    have fl : P (.fr (.lst ds)) [.own (.lst st2) .bor, .val (.tuple ds), .val (.int e)] := q _ _ h2 (mk _ (by omega) fun y hy => up y (ha y hy)).2
    cases x with
    | tuple es =>
      simp [tyD, isTy, hixn]
      refine q _ _ h2 (mset _ (up _ ?_))
      cases k with
      | zero => omega
      | succ k => exact hxm
    | _ => simpa [tyD, isTy] using fl
  · simp [hx, gIsi_of (okD_nodict hxm)]
    have fl : P (.fr (.lst ds)) [.own (.lst st2) .bor, .val (.tuple ds), .val (.int e)] := q _ _ h2 (mk _ (by omega) fun y hy => up y (ha y hy)).2
    cases x with
    | int z =>
      simp [tyD, isTy, sl]
      refine pick_spec h2 (by omega) (by omega) fun v st3 h3 v0 v1 => ?_
      have hv : v = 0 ∨ v = 1 := by omega
      rcases hv with rfl | rfl
      · simp [hixn]
        exact q _ _ h3 (mset _ (okD_flat rfl))
      · simp [hixn]
        exact q _ _ h3 (mset _ (okD_flat rfl))
    | bool z =>
      simp [tyD, isTy, sl]
      refine pick_spec h2 (by omega) (by omega) fun v st3 h3 v0 v1 => ?_
      have hv : v = 0 ∨ v = 1 := by omega
      rcases hv with rfl | rfl
      · simp [hixn]
        exact q _ _ h3 (mset _ (okD_flat rfl))
      · simp [hixn]
        exact q _ _ h3 (mset _ (okD_flat rfl))
    | _ => simpa [tyD, isTy] using fl
def hd_variant (f_rec : EM R) (T : EM Out) : EM Out :=
  (sSeq (sSet 3 (e1 gListU (eVar 1)))
  (sSeq (sIf (tB (e2 gEq (eVar 3) (eLst aNil)))
  (sRet (eTup (aCons (eCall (f__law_any_value 5) (aCons (eVar 0) (aCons (eC (.int 1)) aNil))) aNil)))
  sNx)
  (sSeq (sSet 4 (eCall f__law_pick (aCons (eVar 0) (aCons (e1 gLen (eVar 3)) aNil))))
  (sSeq (sIf (tAnd (tTru (e1 (gIsi "tuple") (e2 gIx (eVar 3) (eVar 4)))) (tAnd (tB (e2 gGt (eVar 2) (eC (.int 0)))) (tB (e2 gGt (eCall f__law_pick (aCons (eVar 0) (aCons (eC (.int 4)) aNil))) (eC (.int 0))))))
  (sSeq (sSetIx 3 (eCall f_rec (aCons (eVar 0) (aCons (e2 gIx (eVar 3) (eVar 4)) (aCons (e2 gSub (eVar 2) (eC (.int 1))) aNil)))) (eVar 4))
  (sRet (e1 gTuple (eVar 3))))
  sNx)
  T))))
theorem variant_head {m : Nat} {T : EM Out} {st ds : List D} {e n k : Nat} (hs : SrcOk st) (hn : 30 ≤ n) (hn2 : n ≤ 1000) (hk : 3 ≤ k) (hk2 : k ≤ 60) (hl : ds.length ≤ n) (ha : ∀ x ∈ ds, okD n k x = true)
    (rec : ∀ {P : R → En → Prop} {E : Exc → En → Prop} {st es : List D} {e' : Nat}, e = e' + 1 → SrcOk st → okD n k (.tuple es) = true →
      (∀ r st', SrcOk st' → rOk (n + 1) k r → P r [.own (.lst st') .bor, .val (.tuple es), .val (.int e')]) → wp (f__law_variant m) [.own (.lst st) .bor, .val (.tuple es), .val (.int e')] P E)
    (hT : ∀ st1 j, SrcOk st1 → j < ds.length → wp T [.own (.lst st1) .bor, .val (.tuple ds), .val (.int e), .own (.lst ds) .loc, .val (.int (j : Nat)), .unb, .unb] (fun o ρ' => retP [.own (.lst st) .bor, .val (.tuple ds), .val (.int e)] P ρ' o) (fun x ρ' => E x (finArgs [.own (.lst st) .bor, .val (.tuple ds), .val (.int e)] ρ')))
    (q : ∀ r st', SrcOk st' → rOk (n + 1) (k + 1) r → P r [.own (.lst st') .bor, .val (.tuple ds), .val (.int e)]) :
    wp (hd_variant (f__law_variant m) T) [.own (.lst st) .bor, .val (.tuple ds), .val (.int e), .unb, .unb, .unb, .unb]
      (fun o ρ' => retP [.own (.lst st) .bor, .val (.tuple ds), .val (.int e)] P ρ' o) (fun x ρ' => E x (finArgs [.own (.lst st) .bor, .val (.tuple ds), .val (.int e)] ρ')) := by
  have sl : sizeLine = 16777216 := sizeLine_eq
  have up : ∀ x, okD n k x = true → okD (n + 1) k x = true := fun x h => okD_mono (by omega) (Nat.le_refl _) h
  have hds : okD n (k + 1) (.list ds) = true := by
    show (decide (ds.length ≤ n) && ds.all (okD n k)) = true
    simp only [Bool.and_eq_true, decide_eq_true_eq, List.all_eq_true]
    exact ⟨hl, ha⟩
  have hg : gEq (.list ds) (.list []) = some (.v (.bool ds.isEmpty)) := by
    rw [gEq_of (okD_shaped hds (by omega)) rfl, PyData.eqv, eqvAll_nil]
  have mset : ∀ j x, okD (n + 1) k x = true → okD (n + 1) (k + 1) (.tuple (ds.set j x)) = true := fun j x h => by
    show (decide ((ds.set j x).length ≤ n + 1) && (ds.set j x).all (okD (n + 1) k)) = true
    simp only [Bool.and_eq_true, decide_eq_true_eq, List.all_eq_true]
    refine ⟨by rw [List.length_set]; omega, fun y hy => ?_⟩
    rcases List.mem_or_eq_of_mem_set hy with hy | rfl
    · exact up y (ha y hy)
    · exact h
  unfold hd_variant
  by_cases h0 : ds = []
  · subst h0
    simp [sl, hg]
    refine any_spec 5 (e := 1) hs (by omega) fun r st3 h3 hr => ?_
    have fin : ∀ x, okD 30 2 x = true → okD (n + 1) (k + 1) (.tuple [x]) = true := fun x hx => by
      show (decide (1 ≤ n + 1) && [x].all (okD (n + 1) k)) = true
      simp only [Bool.and_eq_true, decide_eq_true_eq, List.all_eq_true, List.mem_singleton, forall_eq]
      exact ⟨by omega, okD_mono (by omega) (by omega) hx⟩
    cases r with
    | loc i => exact hr.elim
    | val x =>
      simp
      exact q _ _ h3 (fin x hr)
    | fr mm =>
      simp
      exact q _ _ h3 (fin mm.d hr)
  · have hpos : 0 < ds.length := List.length_pos_iff.mpr h0
    have hemp : ds.isEmpty = false := by cases ds <;> first | rfl | (exact absurd rfl h0)
    simp [sl, hg, hemp]
    refine pick_spec hs (by omega) (by omega) fun v st1 h1 v0 v1 => ?_
    obtain ⟨j, rfl⟩ := Int.eq_ofNat_of_zero_le v0
    have hj : j < ds.length := by omega
    have hixn : ixN ds.length (j : Int) = some j := ixN_nat hj
    obtain ⟨x, hxe⟩ : ∃ x, ds[j] = x := ⟨_, rfl⟩
    have hx : atI ds (j : Int) = some x := by rw [atI_nat hj, List.getElem?_eq_getElem hj, hxe]
    have hxm : okD n k x = true := hxe ▸ ha _ (List.getElem_mem hj)
    simp [hx, gIsi_of (okD_nodict hxm)]
    have ty : isTy (tyD x) "tuple" = true → ∃ es, x = .tuple es := fun h => by
      cases x <;> first | exact ⟨_, rfl⟩ | (simp [tyD, isTy] at h)
    by_cases hb : isTy (tyD x) "tuple" = true
    · obtain ⟨es, rfl⟩ := ty hb
      simp [hb]
      by_cases he : 0 < e
      · obtain ⟨e, rfl⟩ : ∃ i, e = i + 1 := ⟨e - 1, by omega⟩
        have e1 : (e : Int) + 1 - 1 = e := by omega
        have e0 : (0 : Int) < (e : Int) + 1 := by omega
        simp [e0]
        refine pick_spec h1 (by omega) (by omega) fun v st2 h2 v0 v1 => ?_
        by_cases hv : 0 < v
        · simp [hv, hx, e1]
          refine rec rfl h2 hxm fun r st3 h3 hr => ?_
          cases r with
          | loc i => exact hr.elim
          | val y =>
            simp [hixn]
            exact q _ _ h3 (mset _ _ hr)
          | fr mm =>
            simp [hixn]
            exact q _ _ h3 (mset _ _ hr)
        · simp [hv]
          exact hT _ _ h2 hj
      · simp [he]
        exact hT _ _ h1 hj
    · simp [hb]
      exact hT _ _ h1 hj
theorem variant_spec : ∀ (m : Nat) {P : R → En → Prop} {E : Exc → En → Prop} {st ds : List D} {e n k : Nat}, SrcOk st → e < m → 30 ≤ n → n ≤ 1000 → e + 4 ≤ k → k ≤ 60 → okD n k (.tuple ds) = true →
    (∀ r st', SrcOk st' → rOk (n + 1) k r → P r [.own (.lst st') .bor, .val (.tuple ds), .val (.int e)]) → wp (f__law_variant m) [.own (.lst st) .bor, .val (.tuple ds), .val (.int e)] P E
  | 0, _, _, _, _, _, _, _, _, h, _, _, _, _, _, _ => by omega
  | m + 1, P, E, st, ds, e, n, k, hs, he, hn, hn2, hk, hk2, hd, q => by
    obtain ⟨k, rfl⟩ : ∃ i, k = i + 1 := ⟨k - 1, by omega⟩
    have hd : (decide (ds.length ≤ n) && ds.all (okD n k)) = true := hd
    simp only [Bool.and_eq_true, decide_eq_true_eq, List.all_eq_true] at hd
    have e0 : bd__law_variant (f__law_variant m) = hd_variant (f__law_variant m) tl_variant := rfl
    unfold f__law_variant
    rw [e0, wp_defF, if_pos ⟨rfl, rfl⟩]
    refine variant_head hs hn hn2 (by omega) (by omega) hd.1 hd.2 (fun {P E st es e'} h1 h2 h3 h4 => ?_) (fun st1 j h1 hj => variant_tail h1 hn hn2 (by omega) hd.1 hd.2 hj q) q
    exact variant_spec m h2 (by omega) hn hn2 (by omega) (by omega) h3 h4
end
end LF
end

-- part K01P4
section
set_option Elab.async false
set_option linter.all false
set_option maxRecDepth 100000
set_option maxHeartbeats 4000000
namespace LF
open PySem PySem.Spec PyProof.Rows L2
/-- a comprehension whose parts change nothing -/
theorem lc_pure {tm : D → En → Option En} {c : EM Bool} {elt : EM R} {vs : List Nat} {ρ : En} {K : List D → En → Prop} {E : Exc → En → Prop} (ok : D → Prop) (cB : D → Bool) (h : D → D)
    (step : ∀ d, ok d → optP (tm d (wipeE ρ vs)) fun ρ1 => wp (lcTurn c elt) ρ1 (fun o ρ2 => o = (if cB d = true then some (h d) else none) ∧ backE ρ ρ2 vs = ρ) fun _ _ => False)
    (ds acc : List D) (hd : ∀ d ∈ ds, ok d) (hl : acc.length + ds.length ≤ sizeLine) (k : K (acc ++ (ds.filter cB).map h) ρ) : wp (runLc tm c elt vs ds acc) ρ K E := by
  refine wp_runLc (I := fun ds' acc' ρ' => ρ' = ρ ∧ (∀ d ∈ ds', ok d) ∧ acc'.length + ds'.length ≤ sizeLine ∧ acc' ++ (ds'.filter cB).map h = acc ++ (ds.filter cB).map h) ?_ ?_ _ _ _ ⟨rfl, hd, hl, rfl⟩
  · rintro d ds' acc' ρ' ⟨rfl, h1, h2, h3⟩
    refine (step d (h1 d List.mem_cons_self)).mono fun ρ1 q => wp.mono q (fun o ρ2 ⟨e1, e2⟩ => ?_) fun _ _ z => z
    subst e1
    simp only [List.length_cons] at h2
    cases hc : cB d with
    | true =>
      simp only [lcP, if_true, if_pos]
      refine ⟨by omega, e2, fun x hx => h1 x (List.mem_cons_of_mem _ hx), by simp; omega, ?_⟩
      rw [← h3, List.filter_cons_of_pos hc]
      simp
    | false =>
      simp only [lcP, Bool.false_eq_true, if_false]
      refine ⟨e2, fun x hx => h1 x (List.mem_cons_of_mem _ hx), by omega, ?_⟩
      rw [← h3, List.filter_cons_of_neg (by simp [hc])]
  · rintro acc' ρ' ⟨rfl, _, _, h3⟩
    simp only [List.filter_nil, List.map_nil, List.append_nil] at h3
    rw [h3]
    exact k
@[simp] theorem gIn_str {neg : Bool} {a b : Str} : gIn neg (.str a) (.str b) = some (.v (.bool (if neg then !subS a b else subS a b))) := rfl
theorem boolsD_map (f : D → Bool) : ∀ ds : List D, boolsD (ds.map fun d => .bool (f d)) = some (ds.map f)
  | [] => rfl
  | d :: ds => by
    rw [List.map_cons, boolsD, boolsD_map f ds]
    rfl
theorem gAll_map {f : D → Bool} {ds : List D} : gAll (.list (ds.map fun d => .bool (f d))) = some (.v (.bool (ds.all f))) := by
  show (boolsD _).map _ = _
  rw [boolsD_map]
  show some (Got.v (.bool ((ds.map f).all id))) = _
  rw [List.all_map]
  rfl
def inS (signs : Str) : D → Bool
  | .str s => subS s signs
  | _ => false
def isStrD : D → Prop := fun d => ∃ s, d = .str s
theorem chars_str {x : Str} : ∀ d ∈ chars x, isStrD d := fun d h => by
  obtain ⟨c, _, rfl⟩ := List.mem_map.mp h
  exact ⟨_, rfl⟩
theorem strOk_char {x : Str} (h : PyData.strOk x = true) : ∀ d ∈ chars x, okD 1 0 d = true := fun d hd => by
  obtain ⟨c, hc, rfl⟩ := List.mem_map.mp hd
  unfold PyData.strOk at h
  rw [← Array.all_toList, List.all_eq_true] at h
  have := h c hc
  show (decide (1 ≤ 1) && (#[c] : Array Nat).all (· < 0x110000)) = true
  simpa using this
def textB (signs : Str) : D → Bool
  | .str x => (chars x).all (inS signs)
  | _ => false
def lenB (lo hi : Int) : D → Bool
  | .str x => decide (lo ≤ (x.length : Int)) && decide ((x.length : Int) ≤ hi)
  | _ => false
def wordB (signs : Str) (lo hi : Int) (d : D) : Bool := textB signs d && lenB lo hi d
section
variable {P : R → En → Prop} {E : Exc → En → Prop} {n k : Nat}
theorem isstr_cases {v : D} (h : okD n k v = true) : (∃ x, v = .str x ∧ (x.length ≤ n ∧ x.cps.size ≤ n) ∧ PyData.strOk x = true) ∨ ((∀ x, v ≠ .str x) ∧ isTy (tyD v) "str" = false) := by
  cases v with
  | str x =>
    have e : flatOk n (.str x) = true := by cases k <;> exact h
    simp only [flatOk, Bool.and_eq_true, decide_eq_true_eq] at e
    exact .inl ⟨x, rfl, ⟨e.1, e.1⟩, e.2⟩
  | _ => exact .inr ⟨fun x hx => (by cases hx), by simp [tyD, isTy]⟩
theorem textB_no {s : Str} {v : D} (h : ∀ x, v ≠ .str x) : textB s v = false := by
  cases v <;> first | rfl | exact absurd rfl (h _)
theorem lenB_no {a b : Int} {v : D} (h : ∀ x, v ≠ .str x) : lenB a b v = false := by
  cases v <;> first | rfl | exact absurd rfl (h _)
theorem is_text_spec {s : Str} {v : D} (hv : okD n k v = true) (hn : n ≤ 1000) (q : P (.val (.bool (textB s v))) [.val (.str s), .val v]) : wp f_is_text [.val (.str s), .val v] P E := by
  have sl : sizeLine = 16777216 := sizeLine_eq
  unfold f_is_text bd_is_text
  rcases isstr_cases hv with ⟨x, rfl, h1, h2⟩ | ⟨h1, h2⟩
  · simp [isTy]
    refine lc_pure isStrD (fun _ => true) (fun d => .bool (inS s d)) ?_ _ _ chars_str (by rw [chars_len]; simp; omega) ?_
    · rintro d ⟨z, rfl⟩
      simp [inS]
    · simp [gAll_map]
      exact q
  · simp [gIsi_of (okD_nodict hv), h2]
    rw [textB_no h1] at q
    exact q
theorem is_form_spec {s : Str} {v : D} {lo : Int} (hv : okD n k v = true) (hn : n ≤ 1000) (q : P (.val (.bool (wordB s lo 3 v))) [.val (.str s), .val v, .val (.int lo)]) : wp f_is_form [.val (.str s), .val v, .val (.int lo)] P E := by
  have sl : sizeLine = 16777216 := sizeLine_eq
  unfold f_is_form bd_is_form
  simp
  refine is_text_spec hv hn ?_
  simp
  rcases isstr_cases hv with ⟨x, rfl, h1, h2⟩ | ⟨h1, h2⟩
  · have hz : x.length ≤ sizeLine := by omega
    simp [hz]
    rw [wordB, lenB] at q
    split
    · rename_i h3
      rw [h3] at q
      split
      · rename_i h4
        simpa [h4] using q
      · rename_i h4
        simpa [h4] using q
    · rename_i h3
      have h3 : textB s (.str x) = false := by simpa using h3
      rw [h3] at q
      exact q
  · rw [textB_no h1]
    simp
    rw [wordB, textB_no h1] at q
    exact q
theorem filter_nil_eqv {ds : List D} {f : D → Bool} (h : ∀ d ∈ ds, okD n k d = true) (hk : k < 64) (hl : ds.length ≤ n) : gEq (.list (ds.filter f)) (.list []) = some (.v (.bool (ds.all fun d => !f d))) ∧ gNe (.list (ds.filter f)) (.list []) = some (.v (.bool (!(ds.all fun d => !f d)))) := by
  have h1 : okD n (k + 1) (.list (ds.filter f)) = true := by
    show (decide ((ds.filter f).length ≤ n) && (ds.filter f).all (okD n k)) = true
    simp only [Bool.and_eq_true, decide_eq_true_eq, List.all_eq_true]
    exact ⟨Nat.le_trans (List.length_filter_le _ _) hl, fun x hx => h x (List.mem_filter.mp hx).1⟩
  have h2 : (ds.filter f).isEmpty = ds.all fun d => !f d := by
    clear h h1 hl
    induction ds with
    | nil => rfl
    | cons d ds ih =>
      cases hf : f d with
      | true => simp [List.filter_cons_of_pos hf, hf]
      | false => simp [List.filter_cons_of_neg (by simp [hf] : ¬ f d = true), hf, ih]
  refine ⟨?_, ?_⟩
  · rw [gEq_of (okD_shaped h1 (by omega)) rfl, PyData.eqv, eqvAll_nil, h2]
  · rw [gNe_of (okD_shaped h1 (by omega)) rfl, PyData.eqv, eqvAll_nil, h2]
theorem is_word_spec {s : Str} {v : D} {lo hi : Int} (hv : okD n k v = true) (hn : n ≤ 1000) (q : P (.val (.bool (wordB s lo hi v))) [.val (.str s), .val v, .val (.int lo), .val (.int hi)]) :
    wp f__law_is_word [.val (.str s), .val v, .val (.int lo), .val (.int hi)] P E := by
  have sl : sizeLine = 16777216 := sizeLine_eq
  unfold f__law_is_word bd__law_is_word
  rcases isstr_cases hv with ⟨x, rfl, h1, h2⟩ | ⟨h1, h2⟩
  · have hz : x.length ≤ sizeLine := by omega
    by_cases hb : lo ≤ (x.length : Int) ∧ (x.length : Int) ≤ hi
    · have qq : wordB s lo hi (.str x) = textB s (.str x) := by
        rw [wordB, lenB]
        simp [hb]
      rw [qq] at q
      simp [isTy, hz, hb]
      refine lc_pure isStrD (fun d => !inS s d) (fun d => d) ?_ _ _ chars_str (by rw [chars_len]; simp; omega) ?_
      · rintro d ⟨z, rfl⟩
        cases hs : subS z s <;> simp [inS, hs]
      · have hf := filter_nil_eqv (ds := chars x) (f := fun d => !inS s d) (n := 1000) (k := 0) (fun d hd => okD_mono (by omega) (Nat.le_refl _) (strOk_char h2 d hd)) (by omega) (by rw [chars_len]; omega)
        simp [hf.1]
        simpa [textB] using q
    · have qq : wordB s lo hi (.str x) = false := by
        rw [wordB, lenB]
        by_cases h3 : lo ≤ (x.length : Int)
        · have h4 : ¬ (x.length : Int) ≤ hi := fun z => hb ⟨h3, z⟩
          simp [h4]
        · simp [h3]
      rw [qq] at q
      by_cases h3 : lo ≤ (x.length : Int)
      · have h4 : ¬ (x.length : Int) ≤ hi := fun z => hb ⟨h3, z⟩
        simp [isTy, hz, h3, h4]
        exact q
      · simp [isTy, hz, h3]
        exact q
  · rw [wordB, textB_no h1] at q
    simp [gIsi_of (okD_nodict hv), h2]
    exact q
def wideB (lo hi : Int) : D → Bool
  | .tuple ds => decide (lo ≤ (ds.length : Int)) && decide ((ds.length : Int) ≤ hi)
  | _ => false
theorem istup_cases {v : D} (h : okD n k v = true) : (∃ ds, v = .tuple ds ∧ ds.length ≤ n ∧ 0 < k ∧ ∀ d ∈ ds, okD n (k - 1) d = true) ∨ ((∀ x, v ≠ .tuple x) ∧ isTy (tyD v) "tuple" = false) := by
  cases v with
  | tuple ds =>
    cases k with
    | zero => cases h
    | succ k =>
      have h : (decide (ds.length ≤ n) && ds.all (okD n k)) = true := h
      simp only [Bool.and_eq_true, decide_eq_true_eq, List.all_eq_true] at h
      exact .inl ⟨ds, rfl, h.1, by omega, h.2⟩
  | _ => exact .inr ⟨fun x hx => (by cases hx), by simp [tyD, isTy]⟩
theorem wideB_no {a b : Int} {v : D} (h : ∀ x, v ≠ .tuple x) : wideB a b v = false := by
  cases v <;> first | rfl | exact absurd rfl (h _)
theorem is_wide_spec {v : D} {lo hi : Int} (hv : isDict v = false) (q : P (.val (.bool (wideB lo hi v))) [.val v, .val (.int lo), .val (.int hi)]) : wp f_is_wide [.val v, .val (.int lo), .val (.int hi)] P E := by
  unfold f_is_wide bd_is_wide
  cases v with
  | tuple ds =>
    simp [isTy]
    rw [wideB] at q
    by_cases h3 : lo ≤ (ds.length : Int)
    · simpa [h3] using q
    · simpa [h3] using q
  | dict _ => cases hv
  | _ =>
    simp [isTy]
    exact q
theorem law_wide_spec {v : D} {lo hi : Int} (hv : isDict v = false) (q : P (.val (.bool (wideB lo hi v))) [.val v, .val (.int lo), .val (.int hi)]) : wp f__law_wide [.val v, .val (.int lo), .val (.int hi)] P E := is_wide_spec hv q
end
end LF
end

-- part K01P5
section
set_option Elab.async false
set_option linter.all false
set_option maxRecDepth 100000
set_option maxHeartbeats 4000000
namespace LF
open PySem PySem.Spec PyProof.Rows L2
/-! ### sets of texts, told plainly -/
theorem gath_go : ∀ (l acc : List Str), ((l.foldl addL acc).length = acc.length + l.length ↔ (l.Nodup ∧ ∀ x ∈ l, x ∉ acc))
  | [], acc => by simp
  | x :: l, acc => by
    have hle := gath_len l
    rw [List.foldl_cons]
    by_cases hx : x ∈ acc
    · rw [show addL acc x = acc from if_pos hx]
      have := hle acc
      constructor
      · intro h
        rw [List.length_cons] at h
        omega
      · rintro ⟨_, h⟩
        exact absurd hx (h x List.mem_cons_self)
    · rw [show addL acc x = x :: acc from if_neg hx]
      have ih := gath_go l (x :: acc)
      rw [List.length_cons] at ih
      rw [List.length_cons, show acc.length + (l.length + 1) = acc.length + 1 + l.length by omega, ih, List.nodup_cons]
      constructor
      · rintro ⟨h1, h2⟩
        refine ⟨⟨fun z => h2 x z List.mem_cons_self, h1⟩, fun y hy => ?_⟩
        rcases List.mem_cons.mp hy with rfl | hy
        · exact hx
        · exact fun z => h2 y hy (List.mem_cons_of_mem _ z)
      · rintro ⟨⟨h1, h2⟩, h3⟩
        refine ⟨h2, fun y hy z => ?_⟩
        rcases List.mem_cons.mp z with rfl | z
        · exact h1 hy
        · exact h3 y (List.mem_cons_of_mem _ hy) z
theorem gath_nodup (l : List Str) : (gathL l).length = l.length ↔ l.Nodup := by
  have h := gath_go l []
  simpa [gathL] using h
theorem gath_rev : ∀ (l acc : List Str), l.Nodup → (∀ x ∈ l, x ∉ acc) → l.foldl addL acc = l.reverse ++ acc
  | [], acc, _, _ => rfl
  | x :: l, acc, h1, h2 => by
    obtain ⟨h3, h4⟩ := List.nodup_cons.mp h1
    rw [List.foldl_cons, show addL acc x = x :: acc from if_neg (h2 x List.mem_cons_self)]
    have ih := gath_rev l (x :: acc) h4 fun y hy z => by
      rcases List.mem_cons.mp z with rfl | z
      · exact h3 hy
      · exact h2 y (List.mem_cons_of_mem _ hy) z
    rw [ih, List.reverse_cons, List.append_assoc]
    rfl
theorem add_nodup : ∀ (l acc : List Str), acc.Nodup → (l.foldl addL acc).Nodup
  | [], _, h => h
  | x :: l, acc, h => by
    rw [List.foldl_cons]
    refine add_nodup l _ ?_
    unfold addL
    split
    · exact h
    · exact List.nodup_cons.mpr ⟨by assumption, h⟩
def ltT (a b : Str) : Prop := leT a b ∧ a ≠ b
theorem sort_set (l : List Str) : l = sortT (gathL l) ↔ l.Pairwise ltT := by
  constructor
  · intro h
    have h1 : l.Pairwise leT := by rw [h]; exact sortT_sorted _
    have h2 : l.Nodup := by
      rw [h]
      exact (sortT_perm _).nodup_iff.mpr (add_nodup l [] List.nodup_nil)
    exact List.Pairwise.and h1 h2
  · intro h
    have h1 : l.Pairwise leT := h.imp fun q => q.1
    have h2 : l.Nodup := h.imp fun q => q.2
    have h3 : gathL l = l.reverse := by
      have := gath_rev l [] h2 (by simp)
      simpa [gathL] using this
    rw [h3]
    exact List.Perm.eq_of_pairwise (le := leT) (fun a b _ _ => leT_anti) h1 (sortT_sorted _) (l.reverse_perm.symm.trans (sortT_perm _).symm)
def sing (c : Nat) : Str := ⟨#[c]⟩
theorem ltT_sing {a b : Nat} : ltT (sing a) (sing b) ↔ a < b := by
  have e1 : sing a = sing b ↔ a = b := ⟨fun h => by
    have := congrArg Str.cps h
    simpa [sing] using this, fun h => by rw [h]⟩
  have e2 : leT (sing a) (sing b) ↔ a ≤ b := by
    unfold leT sing
    simp [List.cons_le_cons_iff]
    omega
  unfold ltT
  rw [e2, ne_eq, e1]
  omega
def ltAt (x : Str) : D → Bool
  | .int i => decide (x.cps.toList.getD i.toNat 0 < x.cps.toList.getD (i.toNat + 1) 0)
  | _ => false
theorem rising_eq {x : Str} (h1 : 1 ≤ x.length) (h3 : x.length ≤ 3) : (signsOf x == sortT (gathL (signsOf x))) = (rngD 0 (x.length - 1)).all (ltAt x) := by
  have e : (signsOf x).Pairwise ltT ↔ (rngD 0 (x.length - 1)).all (ltAt x) = true := by
    obtain ⟨⟨l⟩⟩ := x
    have hl : (⟨⟨l⟩⟩ : Str).length = l.length := rfl
    rw [hl] at h1 h3 ⊢
    have es : signsOf ⟨⟨l⟩⟩ = l.map sing := rfl
    rw [es]
    match l, h1, h3 with
    | [a], _, _ => simp [rngD]
    | [a, b], _, _ => simp [rngD, ltT_sing, ltAt, List.range_succ]
    | [a, b, c], _, _ =>
      simp [rngD, ltT_sing, ltAt, List.range_succ]
      omega
  rw [← sort_set] at e
  cases hb : (rngD 0 (x.length - 1)).all (ltAt x) with
  | true => exact beq_iff_eq.mpr (e.mpr hb)
  | false =>
    refine beq_eq_false_iff_ne.mpr fun z => ?_
    rw [e.mp z] at hb
    cases hb
end LF
end

-- part K01P6
section
set_option Elab.async false
set_option linter.all false
set_option maxRecDepth 100000
set_option maxHeartbeats 4000000
namespace LF
open PySem PySem.Spec PyProof.Rows L2
def lettersS : Str := "abcdefghijklmnopqrstuvwxyz"
def signsB : D → Bool
  | .str x => decide (1 ≤ x.length) && decide (x.length ≤ 3) && (rngD 0 (x.length - 1)).all (ltAt x) && (chars x).all (inS lettersS)
  | _ => false
theorem signsB_no {v : D} (h : ∀ x, v ≠ .str x) : signsB v = false := by
  cases v <;> first | rfl | exact absurd rfl (h _)
theorem gIx_str {z : Str} {i : Nat} (hz : z.length ≤ sizeLine) (hi : i < z.length) : gIx (.str z) (.int i) = some (.v (.str ⟨#[z.cps.toList.getD i 0]⟩)) := by
  have hl : i < z.cps.toList.length := by rw [Array.length_toList]; exact hi
  show (if z.length ≤ sizeLine then (atI z.cps.toList (i : Int)).map fun c => Got.v (.str ⟨#[c]⟩) else none) = _
  rw [if_pos hz, atI_nat hl, List.getElem?_eq_getElem hl, List.getD_eq_getElem?_getD, List.getElem?_eq_getElem hl]
  rfl
@[simp] theorem gLt_str {a b : Str} : gLt (.str a) (.str b) = some (.v (.bool (decide (a.cps.toList < b.cps.toList)))) := rfl
theorem rng_mem {m : Nat} : ∀ d ∈ rngD 0 m, ∃ i : Nat, i < m ∧ d = .int i := fun d h => by
  obtain ⟨i, hi, rfl⟩ := List.mem_map.mp h
  exact ⟨i, List.mem_range.mp hi, by simp⟩
section
variable {P : R → En → Prop} {E : Exc → En → Prop} {n k : Nat}
theorem are_signs_spec {v : D} (hv : okD n k v = true) (hn : n ≤ 1000) (q : P (.val (.bool (signsB v))) [.val v]) : wp f_are_signs [.val v] P E := by
  have sl : sizeLine = 16777216 := sizeLine_eq
  unfold f_are_signs bd_are_signs
  rcases isstr_cases hv with ⟨x, rfl, h1, h2⟩ | ⟨h1, h2⟩
  · have hz : x.length ≤ sizeLine := by omega
    by_cases hb : 1 ≤ x.length ∧ x.length ≤ 3
    · have hb1 : (1 : Int) ≤ (x.length : Int) := by omega
      have hb2 : (x.length : Int) ≤ 3 := by omega
      have qq : signsB (.str x) = ((rngD 0 (x.length - 1)).all (ltAt x) && (chars x).all (inS lettersS)) := by
        rw [signsB]
        simp [hb]
      rw [qq] at q
      simp [isTy, hz, hb1, hb2]
      refine ⟨⟨by omega, by omega⟩, ?_⟩
      refine lc_pure (fun d => ∃ i : Nat, i < (x.length - 1) ∧ d = .int i) (fun _ => true) (fun d => .bool (ltAt x d)) ?_ _ _ rng_mem (by simp [rngD]; omega) ?_
      · rintro d ⟨i, hi, rfl⟩
        have e1 : ((i : Int) + 1) = ((i + 1 : Nat) : Int) := by omega
        have g1 := gIx_str (z := x) (i := i) hz (by omega)
        have g2 := gIx_str (z := x) (i := i + 1) hz (by omega)
        rw [← e1] at g2
        simp [g1, g2, ltAt, List.cons_lt_cons_iff]
      · simp [gAll_map]
        split
        · rename_i h3
          refine lc_pure isStrD (fun _ => true) (fun d => .bool (inS lettersS d)) ?_ _ _ chars_str (by rw [chars_len]; simp; omega) ?_
          · rintro d ⟨z, rfl⟩
            simp [inS, lettersS]
          · simp [gAll_map]
            rw [show (rngD 0 (x.length - 1)).all (ltAt x) = true from List.all_eq_true.mpr h3] at q
            exact q
        · rename_i h3
          have h3 : (rngD 0 (x.length - 1)).all (ltAt x) = false := by simpa using h3
          rw [h3] at q
          exact q
    · have qq : signsB (.str x) = false := by
        rw [signsB]
        by_cases h3 : 1 ≤ x.length
        · have h4 : ¬ x.length ≤ 3 := fun z => hb ⟨h3, z⟩
          simp [h4]
        · simp [h3]
      rw [qq] at q
      by_cases h3 : (1 : Int) ≤ (x.length : Int)
      · have h4 : ¬ (x.length : Int) ≤ 3 := fun z => hb ⟨by omega, by omega⟩
        simp [isTy, hz, h3, h4]
        exact q
      · simp [isTy, hz, h3]
        exact q
  · rw [signsB_no h1] at q
    simp [gIsi_of (okD_nodict hv), h2]
    exact q
theorem good_signs_spec {v : D} (hv : okD n k v = true) (hn : n ≤ 1000) (q : P (.val (.bool (signsB v))) [.val v]) : wp f__law_good_signs [.val v] P E := by
  have sl : sizeLine = 16777216 := sizeLine_eq
  unfold f__law_good_signs bd__law_good_signs
  rcases isstr_cases hv with ⟨x, rfl, h1, h2⟩ | ⟨h1, h2⟩
  · have hz : x.length ≤ sizeLine := by omega
    have hz2 : x.cps.size ≤ sizeLine := by omega
    by_cases hb : 1 ≤ x.length ∧ x.length ≤ 3
    · have hb1 : (1 : Int) ≤ (x.length : Int) := by omega
      have hb2 : (x.length : Int) ≤ 3 := by omega
      have hb3 : x.cps.size ≤ 60 := Nat.le_trans hb.2 (by omega)
      have qq : signsB (.str x) = ((signsOf x == sortT (gathL (signsOf x))) && (chars x).all (inS lettersS)) := by
        rw [rising_eq hb.1 hb.2, signsB]
        simp [hb]
      rw [qq] at q
      have ok1 : ∀ y ∈ signsOf x, PyData.strOk y = true := fun y hy => by
        have := strOk_char h2 (.str y) (by
          obtain ⟨c, hc, rfl⟩ := List.mem_map.mp hy
          exact List.mem_map.mpr ⟨c, hc, rfl⟩)
        have e : (decide (y.length ≤ 1) && PyData.strOk y) = true := this
        simp only [Bool.and_eq_true] at e
        exact e.2
      have mem : ∀ (l acc : List Str) y, y ∈ l.foldl addL acc → y ∈ l ∨ y ∈ acc := by
        intro l
        induction l with
        | nil => intro acc y hy; exact .inr hy
        | cons a l ih =>
          intro acc y hy
          rcases ih _ y hy with h | h
          · exact .inl (List.mem_cons_of_mem _ h)
          · unfold addL at h
            split at h
            · exact .inr h
            · rcases List.mem_cons.mp h with rfl | h
              · exact .inl List.mem_cons_self
              · exact .inr h
      have ok2 : ∀ y ∈ sortT (gathL (signsOf x)), PyData.strOk y = true := fun y hy => by
        rcases mem _ _ y ((sortT_perm _).mem_iff.mp hy) with h | h
        · exact ok1 y h
        · simp at h
      have hne : gNe (.list ((signsOf x).map .str)) (.list ((sortT (gathL (signsOf x))).map .str)) = some (.v (.bool (!(signsOf x == sortT (gathL (signsOf x)))))) := by
        rw [gNe_of (shaped_strs ok1) (shaped_strs ok2), PyData.eqv, eqvAll_strs]
      have hss : gSortSet (.str x) = some (.l ((sortT (gathL (signsOf x))).map .str)) := if_pos hb3
      simp [isTy, hz, hz2, hb1, hb2, hss, hne]
      split
      · rename_i h3
        rw [← h3] at q
        simp at q
        refine lc_pure isStrD (fun d => !inS lettersS d) (fun d => d) ?_ _ _ chars_str (by rw [chars_len]; simp; omega) ?_
        · rintro d ⟨z, rfl⟩
          cases hs : subS z lettersS <;> simp [inS, hs] <;> (unfold lettersS at hs; simp [hs])
        · have hf := filter_nil_eqv (ds := chars x) (f := fun d => !inS lettersS d) (n := 1000) (k := 0) (fun d hd => okD_mono (by omega) (Nat.le_refl _) (strOk_char h2 d hd)) (by omega) (by rw [chars_len]; omega)
          simp [hf.1]
          simpa using q
      · rename_i h3
        have h4 : (signsOf x == sortT (gathL (signsOf x))) = false := beq_eq_false_iff_ne.mpr h3
        rw [h4] at q
        exact q
    · have qq : signsB (.str x) = false := by
        rw [signsB]
        by_cases h3 : 1 ≤ x.length
        · have h4 : ¬ x.length ≤ 3 := fun z => hb ⟨h3, z⟩
          simp [h4]
        · simp [h3]
      rw [qq] at q
      by_cases h3 : (1 : Int) ≤ (x.length : Int)
      · have h4 : ¬ (x.length : Int) ≤ 3 := fun z => hb ⟨by omega, by omega⟩
        simp [isTy, hz, h3, h4]
        exact q
      · simp [isTy, hz, h3]
        exact q
  · rw [signsB_no h1] at q
    simp [gIsi_of (okD_nodict hv), h2]
    exact q
def ruleB (s : Str) : D → Bool
  | .tuple [a, b] => wordB s 1 3 a && wordB s 0 3 b
  | _ => false
theorem two_of {ds : List D} (h : wideB 2 2 (.tuple ds) = true) : ∃ a b, ds = [a, b] := by
  simp only [wideB, Bool.and_eq_true, decide_eq_true_eq] at h
  match ds, h with
  | [a, b], _ => exact ⟨a, b, rfl⟩
  | [], h => simp at h
  | [_], h => simp at h
  | _ :: _ :: _ :: _, h => simp at h; omega
theorem ruleB_wide {s : Str} {v : D} (h : wideB 2 2 v = false) : ruleB s v = false := by
  cases v with
  | tuple ds =>
    match ds, h with
    | [a, b], h => simp [wideB] at h
    | [], _ => rfl
    | [_], _ => rfl
    | _ :: _ :: _ :: _, _ => rfl
  | _ => rfl
theorem wide_tup {a b : Int} {v : D} (h : wideB a b v = true) : ∃ ds, v = .tuple ds := by
  cases v <;> first | exact ⟨_, rfl⟩ | cases h
theorem okT {ds : List D} (h : okD n k (.tuple ds) = true) : ds.length ≤ n ∧ ∀ d ∈ ds, okD n k d = true := by
  cases k with
  | zero => cases h
  | succ k =>
    have h : (decide (ds.length ≤ n) && ds.all (okD n k)) = true := h
    simp only [Bool.and_eq_true, decide_eq_true_eq, List.all_eq_true] at h
    exact ⟨h.1, fun d hd => okD_mono (Nat.le_refl _) (by omega) (h.2 d hd)⟩
theorem is_rule_spec {s : Str} {v : D} (hv : okD n k v = true) (hn : n ≤ 1000) (q : P (.val (.bool (ruleB s v))) [.val (.str s), .val v]) : wp f_is_rule [.val (.str s), .val v] P E := by
  unfold f_is_rule bd_is_rule
  simp
  refine is_wide_spec (okD_nodict hv) ?_
  cases hw : wideB 2 2 v with
  | false =>
    simp
    rw [ruleB_wide hw] at q
    exact q
  | true =>
    obtain ⟨ds, rfl⟩ := wide_tup hw
    obtain ⟨a, b, rfl⟩ := two_of hw
    have ho := okT hv
    simp
    refine is_form_spec (ho.2 a (by simp)) hn ?_
    simp
    rw [ruleB] at q
    cases ha : wordB s 1 3 a with
    | false =>
      rw [ha] at q
      simpa using q
    | true =>
      rw [ha] at q
      simp
      refine is_form_spec (ho.2 b (by simp)) hn ?_
      simpa using q
theorem good_rule_spec {s : Str} {v : D} (hv : okD n k v = true) (hn : n ≤ 1000) (q : P (.val (.bool (ruleB s v))) [.val (.str s), .val v]) : wp f__law_good_rule [.val (.str s), .val v] P E := by
  unfold f__law_good_rule bd__law_good_rule
  simp
  refine law_wide_spec (okD_nodict hv) ?_
  cases hw : wideB 2 2 v with
  | false =>
    simp
    rw [ruleB_wide hw] at q
    exact q
  | true =>
    obtain ⟨ds, rfl⟩ := wide_tup hw
    obtain ⟨a, b, rfl⟩ := two_of hw
    have ho := okT hv
    simp
    refine is_word_spec (ho.2 a (by simp)) hn ?_
    simp
    rw [ruleB] at q
    cases ha : wordB s 1 3 a with
    | false =>
      rw [ha] at q
      simpa using q
    | true =>
      rw [ha] at q
      simp
      refine is_word_spec (ho.2 b (by simp)) hn ?_
      simpa using q
/-! tables -/
def shortD : D → D
  | .tuple (a :: _) => a
  | _ => .none
def strD : D → Str
  | .str s => s
  | _ => ⟨#[]⟩
def rulesB (s : Str) : D → Bool
  | .tuple rs => decide (rs.length ≤ 5) && rs.all (ruleB s) && decide ((rs.map fun r => strD (shortD r)).Nodup)
  | _ => false
def tableB : D → Bool
  | .tuple [.str s, .bool _, r] => signsB (.str s) && rulesB s r
  | _ => false
theorem three_of {ds : List D} (h : wideB 3 3 (.tuple ds) = true) : ∃ a b c, ds = [a, b, c] := by
  simp only [wideB, Bool.and_eq_true, decide_eq_true_eq] at h
  match ds, h with
  | [a, b, c], _ => exact ⟨a, b, c, rfl⟩
  | [], h => simp at h
  | [_], h => simp at h
  | [_, _], h => simp at h
  | _ :: _ :: _ :: _ :: _, h => simp at h; omega
theorem tableB_wide {v : D} (h : wideB 3 3 v = false) : tableB v = false := by
  unfold tableB
  split
  · simp [wideB] at h
  · rfl
theorem signsB_str {v : D} (h : signsB v = true) : ∃ s, v = .str s := by
  cases v <;> first | exact ⟨_, rfl⟩ | cases h
theorem tableB_signs {a b c : D} (h : signsB a = false) : tableB (.tuple [a, b, c]) = false := by
  unfold tableB
  split
  · rename_i e
    cases e
    rw [h]
    rfl
  · rfl
theorem tableB_bool {a b c : D} (h : isTy (tyD b) "bool" = false) : tableB (.tuple [a, b, c]) = false := by
  unfold tableB
  split
  · rename_i e
    cases e
    simp [tyD, isTy] at h
  · rfl
theorem bool_of {b : D} (h : isTy (tyD b) "bool" = true) : ∃ x, b = .bool x := by
  cases b <;> first | exact ⟨_, rfl⟩ | (simp [tyD, isTy] at h)
theorem rule_short {s : Str} {r : D} (h : ruleB s r = true) : ∃ x y, r = .tuple [.str x, y] := by
  unfold ruleB at h
  split at h
  · rename_i a b
    simp only [Bool.and_eq_true, wordB] at h
    cases a <;> first | exact ⟨_, _, rfl⟩ | (simp [textB] at h)
  · cases h
end
end LF
end

-- part K01P7
section
set_option Elab.async false
set_option linter.all false
set_option maxRecDepth 100000
set_option maxHeartbeats 4000000
namespace LF
open PySem PySem.Spec PyProof.Rows L2
def nin (ds : List D) : D → Bool
  | .tuple [.int i, d] => !inD d (cutD ds none (some i))
  | _ => false
theorem inD_strs (s : Str) (ys : List Str) : inD (.str s) (ys.map .str) = decide (s ∈ ys) := by
  unfold inD
  rw [List.any_map]
  induction ys with
  | nil => simp
  | cons y ys ih =>
    rw [List.any_cons, ih]
    simp only [Function.comp, PyData.eqv]
    by_cases h : y = s
    · subst h; simp
    · have h1 : (y == s) = false := beq_eq_false_iff_ne.mpr h
      have h2 : ¬ s = y := fun z => h z.symm
      simp [h1, h2]
theorem nin_nodup (xs : List Str) : (enumD (xs.map .str)).all (nin (xs.map .str)) = decide xs.Nodup := by
  have e : (enumD (xs.map .str)).all (nin (xs.map .str)) = true ↔ xs.Nodup := by
    rw [List.all_eq_true]
    unfold enumD
    have cut : ∀ i : Nat, i ≤ xs.length → cutD (xs.map PyData.str) none (some (i : Int)) = (xs.take i).map .str := fun i hi => by
      unfold cutD
      rw [HT.sIx_none, HT.sIx_nat, List.length_map, Nat.sub_zero, List.drop_zero, List.map_take, Nat.min_eq_left hi]
    constructor
    · intro h
      show xs.Pairwise (· ≠ ·)
      rw [List.pairwise_iff_getElem]
      intro i j hi hj hij z
      have hm : PyData.tuple [.int (j : Int), .str xs[j]] ∈ (xs.map PyData.str).mapIdx fun i d => PyData.tuple [.int (i : Nat), d] := by
        rw [List.mem_mapIdx]
        exact ⟨j, by rw [List.length_map]; exact hj, by simp⟩
      have := h _ hm
      simp only [nin, cut j (by omega), inD_strs] at this
      have hn : xs[j] ∉ xs.take j := by simpa using this
      exact hn (z ▸ List.mem_take_iff_getElem.mpr ⟨i, by omega, rfl⟩)
    · intro h d hd
      rw [List.mem_mapIdx] at hd
      obtain ⟨i, hi, rfl⟩ := hd
      rw [List.length_map] at hi
      rw [List.getElem_map]
      simp only [nin, cut i (by omega), inD_strs]
      have hn : xs[i] ∉ xs.take i := fun z => by
        obtain ⟨j, hj, e⟩ := List.mem_take_iff_getElem.mp z
        have := List.pairwise_iff_getElem.mp h j i (by omega) hi (by omega)
        exact this e
      simpa using hn
  cases hb : (enumD (xs.map .str)).all (nin (xs.map .str)) with
  | true => exact (decide_eq_true (e.mp hb)).symm
  | false => exact (decide_eq_false fun z => by rw [e.mpr z] at hb; cases hb).symm
theorem strsD_map : ∀ xs : List Str, strsD (xs.map .str) = some xs
  | [] => rfl
  | x :: xs => by
    rw [List.map_cons, strsD, strsD_map xs]
    rfl
theorem flat_strsD (xs : List Str) : (xs.map PyData.str).all flatD = true := by
  rw [List.all_map]
  exact List.all_eq_true.mpr fun _ _ => rfl
section
variable {P : R → En → Prop} {E : Exc → En → Prop} {n k : Nat}
def sh (rs : List D) : List Str := rs.map fun r => strD (shortD r)
theorem short_map {s : Str} {rs : List D} (h : ∀ r ∈ rs, ruleB s r = true) : rs.map shortD = (sh rs).map .str := by
  unfold sh
  rw [List.map_map]
  refine List.map_congr_left fun r hr => ?_
  obtain ⟨x, y, rfl⟩ := rule_short (h r hr)
  rfl
theorem filt_true (ds : List D) : ds.filter (fun _ => true) = ds := List.filter_eq_self.mpr fun _ _ => rfl
theorem gIn_flat {s : Str} {ds : List D} (h : ds.all flatD = true) : gIn true (.str s) (.list ds) = some (.v (.bool (!inD (.str s) ds))) := by
  show (if flatD (.str s) = true ∧ ds.all flatD = true then some (Got.v (.bool (if true = true then !inD (.str s) ds else inD (.str s) ds))) else none) = _
  rw [if_pos ⟨rfl, h⟩]
  rfl
theorem cut_flat {ds : List D} {l h : Option Int} (hf : ds.all flatD = true) : (cutD ds l h).all flatD = true := by
  rw [List.all_eq_true] at hf ⊢
  intro d hd
  unfold cutD at hd
  exact hf d (List.mem_of_mem_drop (List.mem_of_mem_take hd))
theorem enum_mem {xs : List Str} : ∀ d ∈ enumD (xs.map .str), ∃ (i : Nat) (s : Str), d = .tuple [.int (i : Int), .str s] := fun d hd => by
  unfold enumD at hd
  rw [List.mem_mapIdx] at hd
  obtain ⟨i, hi, rfl⟩ := hd
  rw [List.getElem_map]
  exact ⟨i, _, rfl⟩
theorem rulesB_eq {s : Str} {rs : List D} (h5 : rs.length ≤ 5) : rulesB s (.tuple rs) = (rs.all (ruleB s) && decide (sh rs).Nodup) := by
  unfold rulesB sh
  simp [h5]
theorem is_table_spec {v : D} (hv : okD n k v = true) (hn : n ≤ 1000) (q : P (.val (.bool (tableB v))) [.val v]) : wp f_is_table [.val v] P E := by
  have sl : sizeLine = 16777216 := sizeLine_eq
  unfold f_is_table bd_is_table
  simp
  refine is_wide_spec (okD_nodict hv) ?_
  cases hw : wideB 3 3 v with
  | false =>
    simp
    rw [tableB_wide hw] at q
    exact q
  | true =>
    obtain ⟨ds, rfl⟩ := wide_tup hw
    obtain ⟨a, b, c, rfl⟩ := three_of hw
    have ho := okT hv
    have oa := ho.2 a (by simp)
    have ob := ho.2 b (by simp)
    have oc := ho.2 c (by simp)
    simp
    refine are_signs_spec oa hn ?_
    cases hs : signsB a with
    | false =>
      simp
      rw [tableB_signs hs] at q
      exact q
    | true =>
      obtain ⟨s, rfl⟩ := signsB_str hs
      simp [gIsi_of (okD_nodict ob)]
      cases hb : isTy (tyD b) "bool" with
      | false =>
        simp
        rw [tableB_bool hb] at q
        exact q
      | true =>
        obtain ⟨x, rfl⟩ := bool_of hb
        have qq : tableB (.tuple [.str s, .bool x, c]) = rulesB s c := by
          rw [tableB, hs]
          rfl
        rw [qq] at q
        simp
        refine is_wide_spec (okD_nodict oc) ?_
        cases hw2 : wideB 0 5 c with
        | false =>
          simp
          have : rulesB s c = false := by
            cases c with
            | tuple rs =>
              simp [wideB] at hw2
              have : ¬ rs.length ≤ 5 := by omega
              simp [rulesB, this]
            | _ => rfl
          rw [this] at q
          exact q
        | true =>
          obtain ⟨rs, rfl⟩ := wide_tup hw2
          have or' := okT oc
          have h5 : rs.length ≤ 5 := by
            simp [wideB] at hw2
            omega
          simp
          refine lc_pure (fun d => d ∈ rs) (fun _ => true) (fun d => .bool (ruleB s d)) ?_ _ _ (fun d h => h) (by simp; omega) ?_
          · intro d hd
            simp
            refine is_rule_spec (or'.2 d hd) hn ?_
            simp
          · simp [gAll_map]
            rw [rulesB_eq h5] at q
            split
            · rename_i hr
              have hall : rs.all (ruleB s) = true := List.all_eq_true.mpr hr
              rw [hall] at q
              refine lc_pure (fun d => d ∈ rs) (fun _ => true) shortD ?_ _ _ (fun d h => h) (by simp; omega) ?_
              · intro d hd
                obtain ⟨x, y, rfl⟩ := rule_short (hr d hd)
                simp [shortD]
              · simp only [filt_true, short_map hr, List.nil_append]
                simp
                refine lc_pure (fun d => ∃ (i : Nat) (s : Str), d = .tuple [.int (i : Int), .str s]) (fun _ => true) (fun d => .bool (nin ((sh rs).map .str) d)) ?_ _ _ enum_mem (by simp [enumD, sh]; omega) ?_
                · rintro d ⟨i, z, rfl⟩
                  simp [gIn_flat (cut_flat (flat_strsD _)), nin]
                · simp [gAll_map, nin_nodup]
                  simpa using q
            · rename_i hr
              have hall : rs.all (ruleB s) = false := by
                cases h : rs.all (ruleB s) with
                | true => exact absurd (List.all_eq_true.mp h) hr
                | false => rfl
              rw [hall] at q
              exact q
theorem good_table_spec {v : D} (hv : okD n k v = true) (hn : n ≤ 1000) (hk : k < 64) (q : P (.val (.bool (tableB v))) [.val v]) : wp f__law_good_table [.val v] P E := by
  have sl : sizeLine = 16777216 := sizeLine_eq
  unfold f__law_good_table bd__law_good_table
  simp
  refine law_wide_spec (okD_nodict hv) ?_
  cases hw : wideB 3 3 v with
  | false =>
    simp
    rw [tableB_wide hw] at q
    exact q
  | true =>
    obtain ⟨ds, rfl⟩ := wide_tup hw
    obtain ⟨a, b, c, rfl⟩ := three_of hw
    have ho := okT hv
    have oa := ho.2 a (by simp)
    have ob := ho.2 b (by simp)
    have oc := ho.2 c (by simp)
    simp
    refine good_signs_spec oa hn ?_
    cases hs : signsB a with
    | false =>
      simp
      rw [tableB_signs hs] at q
      exact q
    | true =>
      obtain ⟨s, rfl⟩ := signsB_str hs
      simp [gIsi_of (okD_nodict ob)]
      cases hb : isTy (tyD b) "bool" with
      | false =>
        simp
        rw [tableB_bool hb] at q
        exact q
      | true =>
        obtain ⟨x, rfl⟩ := bool_of hb
        have qq : tableB (.tuple [.str s, .bool x, c]) = rulesB s c := by
          rw [tableB, hs]
          rfl
        rw [qq] at q
        simp
        refine law_wide_spec (okD_nodict oc) ?_
        cases hw2 : wideB 0 5 c with
        | false =>
          simp
          have : rulesB s c = false := by
            cases c with
            | tuple rs =>
              simp [wideB] at hw2
              have : ¬ rs.length ≤ 5 := by omega
              simp [rulesB, this]
            | _ => rfl
          rw [this] at q
          exact q
        | true =>
          obtain ⟨rs, rfl⟩ := wide_tup hw2
          have or' := okT oc
          have h5 : rs.length ≤ 5 := by
            simp [wideB] at hw2
            omega
          rw [rulesB_eq h5] at q
          simp
          refine lc_pure (fun d => d ∈ rs) (fun d => !ruleB s d) (fun d => d) ?_ _ _ (fun d h => h) (by simp; omega) ?_
          · intro d hd
            simp
            refine good_rule_spec (or'.2 d hd) hn ?_
            cases hr : ruleB s d <;> simp [hr]
          · have hf := filter_nil_eqv (ds := rs) (f := fun d => !ruleB s d) (n := n) (k := k) or'.2 hk or'.1
            simp [hf.2]
            split
            · rename_i hr
              have hall : rs.all (ruleB s) = false := by
                cases h : rs.all (ruleB s) with
                | true =>
                  obtain ⟨x, hx, hx2⟩ := hr
                  rw [List.all_eq_true.mp h x hx] at hx2
                  cases hx2
                | false => rfl
              rw [hall] at q
              exact q
            · rename_i hr
              have hr : ∀ x ∈ rs, ruleB s x = true := fun x hx => by
                cases h : ruleB s x with
                | true => rfl
                | false => exact absurd ⟨x, hx, h⟩ hr
              have hall : rs.all (ruleB s) = true := List.all_eq_true.mpr hr
              rw [hall] at q
              refine lc_pure (fun d => d ∈ rs) (fun _ => true) shortD ?_ _ _ (fun d h => h) (by simp; omega) ?_
              · intro d hd
                obtain ⟨x, y, rfl⟩ := rule_short (hr d hd)
                simp [shortD]
              · have hg : gLenSet (.list ((sh rs).map .str)) = some (.v (.int ((gathL (sh rs)).length : Nat))) := by
                  show (strsD _).bind _ = _
                  rw [strsD_map]
                  exact if_pos (by simp [sh]; omega)
                simp only [filt_true, short_map hr, List.nil_append]
                simp [hg]
                have e : (((gathL (sh rs)).length : Int) == (rs.length : Int)) = decide (sh rs).Nodup := by
                  have h1 := gath_nodup (sh rs)
                  have h2 : (sh rs).length = rs.length := by simp [sh]
                  rw [h2] at h1
                  by_cases hd : (sh rs).Nodup
                  · rw [decide_eq_true hd, h1.mpr hd]
                    simp
                  · have h3 : ¬ (gathL (sh rs)).length = rs.length := fun z => hd (h1.mp z)
                    rw [decide_eq_false hd]
                    exact beq_eq_false_iff_ne.mpr fun z => h3 (by omega)
                rw [e]
                simpa using q
end
end LF
end

-- part K01P8
section
set_option Elab.async false
set_option linter.all false
set_option maxRecDepth 100000
set_option maxHeartbeats 4000000
namespace LF
open PySem PySem.Spec PyProof.Rows L2
def backB : D → Bool
  | .str x => x == ("back" : Str)
  | _ => false
def keyB (s : Str) (d : D) : Bool := wordB s 1 1 d || backB d
def rowB (s : Str) : D → Bool
  | .tuple ks => decide (ks.length ≤ 300) && ks.all (keyB s)
  | _ => false
theorem wp_handle {isa : Str → Str → Bool} {e : Exc} {c : Str} {g : EM Out} {hs : List Hd} {ρ : En} {P : Out → En → Prop} {E : Exc → En → Prop} :
    wp (handle isa e ((c, g) :: hs)) ρ P E = if isa e.cls c = true then wp g ρ P (fun _ _ => False) else wp (handle isa e hs) ρ P E := by
  have hu : handle isa e ((c, g) :: hs) = if isa e.cls c = true then (fun ρ => (g ρ).bind fun y => match y with
    | (.error _, _) => none
    | (.ok o, ρ') => some (.ok o, ρ')) else handle isa e hs := rfl
  rw [hu]
  by_cases h : isa e.cls c = true
  · rw [if_pos h, if_pos h]
    unfold wp
    dsimp only
    cases g ρ with
    | none => rfl
    | some z => rcases z with ⟨z | z, ρ'⟩ <;> rfl
  · rw [if_neg h, if_neg h]
section
variable {P : R → En → Prop} {E : Exc → En → Prop} {n k : Nat}
theorem back_eq {v : D} (hv : okD n k v = true) (hk : k ≤ 64) : gEq v (.str "back") = some (.v (.bool (backB v))) ∧ gNe v (.str "back") = some (.v (.bool (!backB v))) := by
  have h1 := okD_shaped hv hk
  have h2 : SeqAt.shaped (.str "back") = true := shaped_str (by decide +kernel)
  have h3 : PyData.eqv v (.str "back") = backB v := by
    cases v <;> simp [PyData.eqv, backB]
  exact ⟨by rw [gEq_of h1 h2, h3], by rw [gNe_of h1 h2, h3]⟩
theorem is_sign_spec {s : Str} {v : D} (hv : okD n k v = true) (hn : n ≤ 1000) (q : P (.val (.bool (wordB s 1 1 v))) [.val (.str s), .val v]) : wp f_is_sign [.val (.str s), .val v] P E := by
  have sl : sizeLine = 16777216 := sizeLine_eq
  unfold f_is_sign bd_is_sign
  rcases isstr_cases hv with ⟨x, rfl, h1, h2⟩ | ⟨h1, h2⟩
  · have hz : x.length ≤ sizeLine := by omega
    simp [isTy, hz]
    by_cases h3 : (x.length : Int) = 1
    · simp [h3]
      have h4 : x.length = 1 := by omega
      have : wordB s 1 1 (.str x) = subS x s := by
        obtain ⟨⟨l⟩⟩ := x
        match l, h4 with
        | [c], _ => simp [wordB, textB, lenB, chars, inS, Str.length]
      rw [this] at q
      exact q
    · have : wordB s 1 1 (.str x) = false := by
        have h5 : lenB 1 1 (.str x) = false := by
          show (decide ((1 : Int) ≤ x.length) && decide ((x.length : Int) ≤ 1)) = false
          by_cases h6 : (1 : Int) ≤ x.length
          · have h7 : ¬ (x.length : Int) ≤ 1 := by omega
            rw [decide_eq_false h7]
            simp
          · rw [decide_eq_false h6]
            rfl
        rw [wordB, h5, Bool.and_false]
      rw [this] at q
      simp [h3]
      exact q
  · rw [wordB, textB_no h1] at q
    simp [gIsi_of (okD_nodict hv), h2]
    exact q
theorem is_key_spec {s : Str} {v : D} (hv : okD n k v = true) (hn : n ≤ 1000) (hk : k ≤ 64) (q : P (.val (.bool (keyB s v))) [.val (.str s), .val v]) : wp f_is_key [.val (.str s), .val v] P E := by
  unfold f_is_key bd_is_key
  simp
  refine is_sign_spec hv hn ?_
  simp
  rw [keyB] at q
  split
  · rename_i h
    rw [h] at q
    exact q
  · rename_i h
    have h : wordB s 1 1 v = false := by simpa using h
    rw [h] at q
    rw [gIsi_of (okD_nodict hv)]
    simp
    split
    · simp [(back_eq hv hk).1]
      exact q
    · rename_i h3
      have hb : backB v = false := by
        cases v <;> first | rfl | (simp [tyD, isTy] at h3)
      rw [hb] at q
      exact q
theorem are_keys_spec {s : Str} {v : D} (hv : okD n k v = true) (hn : n ≤ 1000) (hk : k ≤ 64) (q : P (.val (.bool (rowB s v))) [.val (.str s), .val v]) : wp f_are_keys [.val (.str s), .val v] P E := by
  have sl : sizeLine = 16777216 := sizeLine_eq
  unfold f_are_keys bd_are_keys
  simp
  refine is_wide_spec (okD_nodict hv) ?_
  cases hw : wideB 0 300 v with
  | false =>
    simp
    have : rowB s v = false := by
      cases v with
      | tuple ks =>
        simp [wideB] at hw
        have : ¬ ks.length ≤ 300 := by omega
        simp [rowB, this]
      | _ => rfl
    rw [this] at q
    exact q
  | true =>
    obtain ⟨ks, rfl⟩ := wide_tup hw
    have ho := okT hv
    have h3 : ks.length ≤ 300 := by
      simp [wideB] at hw
      omega
    have : rowB s (.tuple ks) = ks.all (keyB s) := by simp [rowB, h3]
    rw [this] at q
    simp
    refine lc_pure (fun d => d ∈ ks) (fun _ => true) (fun d => .bool (keyB s d)) ?_ _ _ (fun d h => h) (by simp; omega) ?_
    · intro d hd
      simp
      refine is_key_spec (ho.2 d hd) hn hk ?_
      simp
    · simp only [filt_true, List.nil_append, gAll_map]
      simp [gAll_map]
      exact q
def signsT : D → Str
  | .tuple (a :: _) => strD a
  | _ => ⟨#[]⟩
theorem tableB_tup {t : D} (h : tableB t = true) : ∃ b r, t = .tuple [.str (signsT t), b, r] := by
  unfold tableB at h
  split at h
  · exact ⟨_, _, rfl⟩
  · cases h
theorem is_row_spec {t v : D} (ht : okD n k t = true) (hv : okD n k v = true) (hn : n ≤ 1000) (hk : k ≤ 64) (q : tableB t = true → P (.val (.bool (rowB (signsT t) v))) [.val t, .val v]) (qe : tableB t = false → E ⟨"InvalidTable", none⟩ [.val t, .val v]) : wp f_is_row [.val t, .val v] P E := by
  unfold f_is_row bd_is_row
  simp
  unfold f_need_table bd_need_table
  simp
  refine is_table_spec ht hn ?_
  cases h : tableB t with
  | false =>
    simp
    exact qe h
  | true =>
    have q := q h
    obtain ⟨b, r, e⟩ := tableB_tup h
    simp
    have hg : gIx t (.int 0) = some (.v (.str (signsT t))) := by
      rw [e]
      simp [signsT, strD]
    simp [hg]
    refine are_keys_spec hv hn hk ?_
    simpa using q
theorem good_row_spec {t v : D} (hv : okD n k v = true) (hn : n ≤ 1000) (hk : k < 64) (h : tableB t = true) (q : P (.val (.bool (rowB (signsT t) v))) [.val t, .val v]) : wp f__law_good_row [.val t, .val v] P E := by
  have sl : sizeLine = 16777216 := sizeLine_eq
  unfold f__law_good_row bd__law_good_row
  simp
  refine law_wide_spec (okD_nodict hv) ?_
  have hg : gIx t (.int 0) = some (.v (.str (signsT t))) := by
    obtain ⟨b, r, e⟩ := tableB_tup h
    rw [e]
    simp [signsT, strD]
  generalize hst : signsT t = s at q hg
  cases hw : wideB 0 300 v with
  | false =>
    simp
    have : rowB s v = false := by
      cases v with
      | tuple ks =>
        simp [wideB] at hw
        have : ¬ ks.length ≤ 300 := by omega
        simp [rowB, this]
      | _ => rfl
    rw [this] at q
    exact q
  | true =>
    obtain ⟨ks, rfl⟩ := wide_tup hw
    have ho := okT hv
    have h3 : ks.length ≤ 300 := by
      simp [wideB] at hw
      omega
    have : rowB s (.tuple ks) = ks.all (keyB s) := by simp [rowB, h3]
    rw [this] at q
    simp
    refine lc_pure (fun d => d ∈ ks) (fun d => !keyB s d) (fun d => d) ?_ _ _ (fun d h => h) (by simp; omega) ?_
    · intro d hd
      simp [hg]
      refine is_word_spec (ho.2 d hd) hn ?_
      simp [keyB]
      cases hb : wordB s 1 1 d with
      | true => simp
      | false =>
        simp [(back_eq (ho.2 d hd) (by omega)).2]
        try (cases hc : backB d <;> simp)
    · have hf := filter_nil_eqv (ds := ks) (f := fun d => !keyB s d) (n := n) (k := k) ho.2 hk ho.1
      simp [hf.1]
      simpa using q
theorem outcome_spec {t v : D} (ht : okD n k t = true) (hv : okD n k v = true) (hn : n ≤ 1000) (hk : k ≤ 64) (q : tableB t = true → P (.val (.bool (rowB (signsT t) v))) [.val t, .val v]) (qe : tableB t = false → P (.val (.str "table")) [.val t, .val v]) : wp f__law_outcome [.val t, .val v] P E := by
  unfold f__law_outcome bd__law_outcome
  simp
  refine is_row_spec ht hv hn hk (fun h => ?_) fun h => ?_
  · simpa using q h
  · simp [excl, wp_handle, isa]
    exact qe h
end
end LF
end

-- part K01P9
section
set_option Elab.async false
set_option linter.all false
set_option maxRecDepth 100000
set_option maxHeartbeats 4000000
namespace LF
open PySem PySem.Spec PyProof.Rows L2
theorem chosen_own {P : R → En → Prop} {E : Exc → En → Prop} {st xs : List D} (h : SrcOk st) (h0 : xs ≠ []) (h1 : xs.length < 1000000) (q : ∀ d st', SrcOk st' → d ∈ xs → P (.val d) [.own (.lst st') .bor, .own (.lst xs) .bor]) : wp f__law_chosen [.own (.lst st) .bor, .own (.lst xs) .bor] P E := by
  unfold f__law_chosen bd__law_chosen
  have hp : 0 < xs.length := List.length_pos_iff.mpr h0
  simp
  refine pick_spec h (by omega) (by omega) fun v st' h' v0 v1 => ?_
  obtain ⟨d, h2, h3⟩ := at_lt v0 v1
  simp [h2]
  exact q d st' h' h3
/-- texts of some signs -/
def inA (s y : Str) : Prop := ∀ c ∈ y.cps.toList, c ∈ s.cps.toList
theorem joinL_nil : ∀ ps : List (List Nat), TL.joinL [] ps = ps.flatten
  | [] => rfl
  | [p] => by simp [TL.joinL]
  | p :: q :: r => by
    rw [TL.joinL, joinL_nil (q :: r)]
    simp
theorem join_cps (ys : List Str) : (Txt.join "" ys).cps.toList = (ys.map fun y => y.cps.toList).flatten := by
  have h := TL.tl_join "" ys
  rw [← TL.join_eq] at h
  have e : TL.tl ("" : Str) = [] := by decide +kernel
  rw [e, joinL_nil] at h
  exact h
theorem join_signs {s : Str} {ys : List Str} (h : ∀ y ∈ ys, y ∈ signsOf s) : inA s (Txt.join "" ys) ∧ (Txt.join "" ys).length = ys.length := by
  have hl : (Txt.join "" ys).length = (Txt.join "" ys).cps.toList.length := by rw [Array.length_toList]; rfl
  unfold inA
  rw [hl, join_cps]
  refine ⟨fun c hc => ?_, ?_⟩
  · obtain ⟨l, hl, hc⟩ := List.mem_flatten.mp hc
    obtain ⟨y, hy, rfl⟩ := List.mem_map.mp hl
    obtain ⟨d, hd, rfl⟩ := List.mem_map.mp (h y hy)
    have : c = d := by simpa using hc
    exact this ▸ hd
  · clear hl
    induction ys with
    | nil => rfl
    | cons y ys ih =>
      obtain ⟨d, hd, rfl⟩ := List.mem_map.mp (h y List.mem_cons_self)
      rw [List.map_cons, List.flatten_cons, List.length_append, ih fun z hz => h z (List.mem_cons_of_mem _ hz)]
      simp
      omega
section
variable {P : R → En → Prop} {E : Exc → En → Prop}
theorem text_spec {s : Str} {m : Nat} {st : List D} (h : SrcOk st) (hs : 0 < s.length) (hs2 : s.length < 100) (hm : m ≤ 100)
    (q : ∀ y st', SrcOk st' → inA s y → y.length ≤ m → P (.val (.str y)) [.own (.lst st') .bor, .val (.str s), .val (.int m)]) : wp f__law_text [.own (.lst st) .bor, .val (.str s), .val (.int m)] P E := by
  have sl : sizeLine = 16777216 := sizeLine_eq
  have hz : s.cps.size ≤ sizeLine := by
    have : s.cps.size = s.length := rfl
    omega
  have hl : (signsOf s).length = s.length := by
    unfold signsOf
    rw [List.length_map, Array.length_toList]
    rfl
  unfold f__law_text bd__law_text
  simp
  refine pick_spec h (by omega) (by omega) fun v st1 h1 v0 v1 => ?_
  simp
  refine ⟨⟨by omega, by omega⟩, ?_⟩
  refine wp_runLc (I := fun ds acc ρ => ∃ st' ys, SrcOk st' ∧ acc = ys.map .str ∧ (∀ y ∈ ys, y ∈ signsOf s) ∧ ys.length + ds.length ≤ m ∧ ρ = [.own (.lst st') .bor, .val (.str s), .val (.int m), .unb]) ?_ ?_ _ _ _ ⟨st1, [], h1, rfl, by simp, by simp [rngD]; omega, rfl⟩
  · rintro d ds acc ρ ⟨st', ys, hs', rfl, hy, hle, rfl⟩
    simp only [List.length_cons] at hle
    simp [hz]
    refine chosen_spec hs' (by
      intro z
      have := congrArg List.length z
      rw [List.length_map, hl] at this
      simp at this
      omega) (by rw [List.length_map, hl]; omega) fun x st2 h2 hx => ?_
    obtain ⟨y, hy2, rfl⟩ := List.mem_map.mp hx
    have fin : ∃ (st' : List D) (ys' : List Str), SrcOk st' ∧ ys.map PyData.str ++ [.str y] = ys'.map .str ∧ (∀ y ∈ ys', y ∈ signsOf s) ∧ ys'.length + ds.length ≤ m ∧ [Slot.own (.lst st2) .bor, .val (.str s), .val (.int m), .unb] = [Slot.own (.lst st') .bor, .val (.str s), .val (.int m), .unb] := ⟨st2, ys ++ [y], h2, by simp, fun z hz => by
      rcases List.mem_append.mp hz with hz | hz
      · exact hy z hz
      · rw [List.mem_singleton.mp hz]
        exact hy2, by simp; omega, rfl⟩
    have hlen : ys.length < sizeLine := by omega
    simpa [hlen] using fin
  · rintro acc ρ ⟨st', ys, hs', rfl, hy, hle, rfl⟩
    simp only [List.length_nil] at hle
    have hj := join_signs hy
    have hsum : (ys.map (·.length)).sum = ys.length := by
      clear hle hj
      induction ys with
      | nil => rfl
      | cons y ys ih =>
        obtain ⟨d, hd, rfl⟩ := List.mem_map.mp (hy y List.mem_cons_self)
        rw [List.map_cons, List.sum_cons, ih fun z hz => hy z (List.mem_cons_of_mem _ hz)]
        show 1 + ys.length = ys.length + 1
        omega
    have hg : g_join "" (.list (ys.map .str)) = some (.v (.str (Txt.join "" ys))) := by
      show (strsD _).bind _ = _
      rw [strsD_map]
      refine if_pos ?_
      rw [hsum]
      have : ("" : Str).length = 0 := by decide +kernel
      rw [this]
      omega
    simp [hg]
    exact q _ _ hs' hj.1 (by omega)
def knownL : List D := [.tuple [.str "abx", .bool true, .tuple [.tuple [.str "ab", .str "x"], .tuple [.str "xx", .str "a"]]], .tuple [.str "ab", .bool true, .tuple [.tuple [.str "ab", .str "b"]]], .tuple [.str "ab", .bool true, .tuple [.tuple [.str "aa", .str "aba"], .tuple [.str "ba", .str "aa"]]], .tuple [.str "abx", .bool false, .tuple [.tuple [.str "x", .str "ab"], .tuple [.str "b", .str ""]]], .tuple [.str "ab", .bool true, .tuple [.tuple [.str "abb", .str "ba"], .tuple [.str "ba", .str "ab"]]], .tuple [.str "ab", .bool false, .tuple [.tuple [.str "a", .str "ab"], .tuple [.str "bb", .str ""]]], .tuple [.str "ab", .bool true, .tuple [.tuple [.str "aaa", .str ""], .tuple [.str "ab", .str ""]]], .tuple [.str "a", .bool true, .tuple [.tuple [.str "aa", .str "a"]]], .tuple [.str "ab", .bool true, .tuple [.tuple [.str "b", .str "ba"]]], .tuple [.str "abx", .bool false, .tuple [.tuple [.str "x", .str "ba"], .tuple [.str "a", .str ""], .tuple [.str "b", .str ""]]], .tuple [.str "ab", .bool false, .tuple [.tuple [.str "a", .str "bab"]]], .tuple [.str "ab", .bool true, .tuple [.tuple [.str "aaa", .str "aaa"]]], .tuple [.str "xyz", .bool true, .tuple [.tuple [.str "yyz", .str ""], .tuple [.str "xyz", .str "z"], .tuple [.str "z", .str "yxx"], .tuple [.str "xx", .str "xyz"]]]]
theorem knownL_ok : ∀ d ∈ knownL, (tableB d && okD 30 4 d) = true := by decide +kernel
theorem known_spec {st : List D} (h : SrcOk st) (q : ∀ t st', SrcOk st' → tableB t = true → okD 30 4 t = true → P (.val t) [.own (.lst st') .bor]) : wp f__law_known [.own (.lst st) .bor] P E := by
  have sl : sizeLine = 16777216 := sizeLine_eq
  unfold f__law_known bd__law_known
  simp [sl]
  refine pick_spec h (by omega) (by omega) fun v st1 h1 v0 v1 => ?_
  obtain ⟨d, h3, h4⟩ := at_lt (ds := knownL) v0 (by simpa [knownL] using v1)
  have hk := knownL_ok d h4
  simp only [Bool.and_eq_true] at hk
  simp only [knownL] at h3
  simp [h3]
  exact q _ _ h1 hk.1 hk.2
end
end LF
end

-- part K01PA
section
set_option Elab.async false
set_option linter.all false
set_option maxRecDepth 100000
set_option maxHeartbeats 4000000
namespace LF
open PySem PySem.Spec PyProof.Rows L2
def goodSB (s : Str) : Bool := signsB (.str s) && (decide (0 < s.length) && (decide (s.length ≤ 3) && (s.cps.toList.all (fun c => subS ⟨#[c]⟩ s) && PyData.strOk s)))
def sgL : List D := [.str "ab", .str "ab", .str "mn", .str "xyz", .str "a"]
theorem sgL_ok : ∀ d ∈ sgL, ∃ s, d = .str s ∧ goodSB s = true := by
  intro d hd
  simp only [sgL, List.mem_cons, List.not_mem_nil, or_false] at hd
  rcases hd with rfl | rfl | rfl | rfl | rfl <;> exact ⟨_, rfl, by decide +kernel⟩
def RuleIn (s : Str) (r : D) : Prop := ∃ x y : Str, r = .tuple [.str x, .str y] ∧ inA s x ∧ inA s y ∧ 1 ≤ x.length ∧ x.length ≤ 3 ∧ y.length ≤ 3
theorem text_in {s y : Str} (g : goodSB s = true) (h : inA s y) : textB s (.str y) = true ∧ PyData.strOk y = true := by
  simp only [goodSB, Bool.and_eq_true] at g
  obtain ⟨_, _, _, g1, g2⟩ := g
  constructor
  · show (chars y).all (inS s) = true
    rw [List.all_eq_true]
    intro d hd
    obtain ⟨c, hc, rfl⟩ := List.mem_map.mp hd
    exact List.all_eq_true.mp g1 c (h c hc)
  · unfold PyData.strOk at g2 ⊢
    rw [← Array.all_toList, List.all_eq_true] at g2 ⊢
    exact fun c hc => g2 c (h c hc)
theorem rule_in {s : Str} {r : D} (g : goodSB s = true) (h : RuleIn s r) : ruleB s r = true ∧ okD 30 2 r = true := by
  obtain ⟨x, y, rfl, hx, hy, l1, l2, l3⟩ := h
  obtain ⟨a1, a2⟩ := text_in g hx
  obtain ⟨b1, b2⟩ := text_in g hy
  have c1 : lenB 1 3 (.str x) = true := by
    show (decide ((1 : Int) ≤ x.length) && decide ((x.length : Int) ≤ 3)) = true
    rw [decide_eq_true (by omega), decide_eq_true (by omega)]
    rfl
  have c2 : lenB 0 3 (.str y) = true := by
    show (decide ((0 : Int) ≤ y.length) && decide ((y.length : Int) ≤ 3)) = true
    rw [decide_eq_true (by omega), decide_eq_true (by omega)]
    rfl
  constructor
  · show (wordB s 1 3 (.str x) && wordB s 0 3 (.str y)) = true
    rw [wordB, wordB, a1, b1, c1, c2]
    rfl
  · show (decide (2 ≤ 30) && ([PyData.str x, PyData.str y].all (okD 30 1))) = true
    have d1 : okD 30 1 (.str x) = true := okD_flat (by show (decide (x.length ≤ 30) && PyData.strOk x) = true; rw [a2, decide_eq_true (by omega)]; rfl)
    have d2 : okD 30 1 (.str y) = true := okD_flat (by show (decide (y.length ≤ 30) && PyData.strOk y) = true; rw [b2, decide_eq_true (by omega)]; rfl)
    simp [d1, d2]
theorem table_in {s : Str} {b : Bool} {rs : List D} (g : goodSB s = true) (h : ∀ r ∈ rs, RuleIn s r) (h5 : rs.length ≤ 5) (nd : (sh rs).Nodup) : tableB (.tuple [.str s, .bool b, .tuple rs]) = true ∧ okD 30 4 (.tuple [.str s, .bool b, .tuple rs]) = true := by
  have g' := g
  simp only [goodSB, Bool.and_eq_true, decide_eq_true_eq] at g'
  obtain ⟨g1, g2, g3, g4, g5⟩ := g'
  constructor
  · rw [tableB, g1, rulesB_eq h5, decide_eq_true nd, List.all_eq_true.mpr fun r hr => (rule_in g (h r hr)).1]
    rfl
  · have d1 : okD 30 3 (.str s) = true := okD_flat (by show (decide (s.length ≤ 30) && PyData.strOk s) = true; rw [g5, decide_eq_true (by omega)]; rfl)
    have d2 : okD 30 3 (.tuple rs) = true := by
      show (decide (rs.length ≤ 30) && rs.all (okD 30 2)) = true
      rw [decide_eq_true (by omega), List.all_eq_true.mpr fun r hr => (rule_in g (h r hr)).2]
      rfl
    show (decide (3 ≤ 30) && ([PyData.str s, .bool b, .tuple rs].all (okD 30 3))) = true
    have d3 : okD 30 3 (.bool b) = true := rfl
    simp [d1, d2, d3]
section
variable {P : R → En → Prop} {E : Exc → En → Prop}
theorem table_spec {st : List D} (h : SrcOk st) (q : ∀ t st', SrcOk st' → tableB t = true → okD 30 4 t = true → P (.val t) [.own (.lst st') .bor, .val (.int 5)]) : wp f__law_table [.own (.lst st) .bor, .val (.int 5)] P E := by
  have sl : sizeLine = 16777216 := sizeLine_eq
  unfold f__law_table bd__law_table
  simp [sl]
  refine pick_spec h (by omega) (by omega) fun v st1 h1 v0 v1 => ?_
  simp
  split
  · refine known_spec h1 fun t st2 h2 h3 h4 => ?_
    simp
    exact q t st2 h2 h3 h4
  · refine chosen_spec h1 (by simp) (by simp) fun d st2 h2 hd => ?_
    obtain ⟨s, rfl, g⟩ := sgL_ok d hd
    have g' := g
    simp only [goodSB, Bool.and_eq_true, decide_eq_true_eq] at g'
    obtain ⟨g1, g2, g3, g4, g5⟩ := g'
    have hz : s.cps.size ≤ 16777216 := by
      have : s.cps.size = s.length := rfl
      omega
    have hl : (signsOf s).length = s.length := by
      unfold signsOf
      rw [List.length_map, Array.length_toList]
      rfl
    simp [sl]
    refine pick_spec h2 (by omega) (by omega) fun v st3 h3 v0 v1 => ?_
    simp
    refine ⟨⟨by omega, by omega⟩, ?_⟩
    refine wp_runFor (I := fun ds ρ => ∃ (st' rs : List D) (a b c : Slot), SrcOk st' ∧ (∀ r ∈ rs, RuleIn s r) ∧ (sh rs).Nodup ∧ rs.length + ds.length ≤ 5 ∧ pinS (some a) = false ∧ pinS (some b) = false ∧ pinS (some c) = false ∧
      ρ = [.own (.lst st') .bor, .val (.int 5), .val (.str s), .val (.tuple rs), a, b, c, .unb]) ?_ ?_ _ _ ⟨st3, [], .unb, .unb, .unb, h3, by simp, by simp [sh], by simp [rngD]; omega, rfl, rfl, rfl, rfl⟩
    · rintro d ds ρ ⟨st', rs, a, b, c, hs', hr, nd, hle, pa, pb, pc, rfl⟩
      simp only [List.length_cons] at hle
      simp [pa]
      refine text_spec (m := 2) hs' g2 (by omega) (by omega) fun y st4 h4 iy ly => ?_
      simp [hz, sl]
      refine chosen_spec h4 (by
        intro z
        have := congrArg List.length z
        rw [List.length_map, hl] at this
        simp at this
        omega) (by rw [List.length_map, hl]; omega) fun x st5 h5 hx => ?_
      obtain ⟨w, hw, rfl⟩ := List.mem_map.mp hx
      obtain ⟨cc, hcc, rfl⟩ := List.mem_map.mp hw
      have lw : (⟨#[cc]⟩ : Str).length = 1 := rfl
      have hsum : y.length + (⟨#[cc]⟩ : Str).length ≤ 16777216 := by omega
      have lx : (y ++ (⟨#[cc]⟩ : Str)).length = y.length + 1 := by
        rw [TL.len_tl, TL.tl_append, List.length_append, ← TL.len_tl]
        rfl
      have ix : inA s (y ++ (⟨#[cc]⟩ : Str)) := fun z hz => by
        have hz : z ∈ TL.tl (y ++ (⟨#[cc]⟩ : Str)) := hz
        rw [TL.tl_append] at hz
        rcases List.mem_append.mp hz with hz | hz
        · exact iy z hz
        · have : z = cc := by simpa [TL.tl] using hz
          exact this ▸ hcc
      generalize hxx : y ++ (⟨#[cc]⟩ : Str) = xx at lx ix
      simp [hsum, hxx, sl, pb]
      refine pick_spec h5 (by omega) (by omega) fun v st6 h6 v0 v1 => ?_
      obtain ⟨m, rfl⟩ := Int.eq_ofNat_of_zero_le v0
      simp
      have e2 : (2 : Int) + (m : Int) = ((2 + m : Nat) : Int) := by omega
      rw [e2]
      refine text_spec (m := 2 + m) h6 g2 (by omega) (by omega) fun y2 st7 h7 iy2 ly2 => ?_
      simp [pc]
      refine lc_pure (fun d => d ∈ rs) (fun _ => true) shortD ?_ _ _ (fun d h => h) (by simp; omega) ?_
      · intro d hd
        obtain ⟨x, y, rfl, _⟩ := hr d hd
        simp [shortD]
      · have hsm : rs.map shortD = (sh rs).map .str := short_map (s := s) fun r hr' => (rule_in g (hr r hr')).1
        simp only [filt_true, hsm, List.nil_append]
        simp [gIn_flat (flat_strsD _), inD_strs]
        split
        · exact ⟨st7, h7, rs, hr, nd, by omega, _, rfl, _, rfl, _, rfl, rfl, rfl, rfl, rfl, rfl⟩
        · rename_i hni
          have hsh : sh (rs ++ [.tuple [.str xx, .str y2]]) = sh rs ++ [xx] := by simp [sh, shortD, strD]
          refine ⟨by omega, st7, h7, rs ++ [.tuple [.str xx, .str y2]], fun r hr' => ?_, ?_, by simp; omega, _, rfl, _, rfl, _, rfl, rfl, rfl, rfl, rfl, rfl⟩
          · rcases List.mem_append.mp hr' with hr' | hr'
            · exact hr r hr'
            · rw [List.mem_singleton.mp hr']
              exact ⟨xx, y2, rfl, ix, iy2, by omega, by omega, by omega⟩
          · rw [hsh, List.nodup_append]
            refine ⟨nd, by simp, fun a ha b hb => ?_⟩
            rw [List.mem_singleton.mp hb]
            exact fun z => hni (z ▸ ha)
    · rintro ρ ⟨st', rs, a, b, c, hs', hr, nd, hle, pa, pb, pc, rfl⟩
      simp [sl]
      refine pick_spec hs' (by omega) (by omega) fun v st4 h4 v0 v1 => ?_
      simp
      have ht := table_in (b := decide (0 < v)) g hr (by simpa using hle) nd
      exact q _ _ h4 ht.1 ht.2
end
end LF
end

-- part K01PB
section
set_option Elab.async false
set_option linter.all false
set_option maxRecDepth 100000
set_option maxHeartbeats 4000000
namespace LF
open PySem PySem.Spec PyProof.Rows L2
theorem table_cases {t : D} (h : tableB t = true) (ho : okD 30 4 t = true) : ∃ s b r c, t = .tuple [.str s, b, r] ∧ signsT t = s ∧ 1 ≤ s.length ∧ s.length ≤ 3 ∧ PyData.strOk s = true ∧ gIx (.str s) (.int 0) = some (.v (.str ⟨#[c]⟩)) ∧ c < 0x110000 ∧ okD 30 3 b = true ∧ okD 30 3 r = true := by
  have sl : sizeLine = 16777216 := sizeLine_eq
  obtain ⟨b, r, e⟩ := tableB_tup h
  generalize signsT t = s at e
  subst e
  have ho' := ho
  have ho : (decide (3 ≤ 30) && ([PyData.str s, b, r].all (okD 30 3))) = true := ho
  simp only [Bool.and_eq_true, List.all_cons, List.all_nil] at ho
  obtain ⟨_, h1, h2, h3, _⟩ := ho
  have hs : signsB (.str s) = true := by
    unfold tableB at h
    split at h
    · rename_i e
      cases e
      simp only [Bool.and_eq_true] at h
      exact h.1
    · cases h
  have hs' : (decide (1 ≤ s.length) && decide (s.length ≤ 3) && (rngD 0 (s.length - 1)).all (ltAt s) && (chars s).all (inS lettersS)) = true := hs
  simp only [Bool.and_eq_true, decide_eq_true_eq] at hs'
  have hk : PyData.strOk s = true := by
    have h1 : (decide (s.length ≤ 30) && PyData.strOk s) = true := h1
    simp only [Bool.and_eq_true] at h1
    exact h1.2
  have hi := gIx_str (z := s) (i := 0) (by omega) (by omega)
  refine ⟨s, b, r, s.cps.toList.getD 0 0, rfl, rfl, hs'.1.1.1, hs'.1.1.2, hk, hi, ?_, h2, h3⟩
  unfold PyData.strOk at hk
  rw [← Array.all_toList, List.all_eq_true] at hk
  have hl : 0 < s.cps.toList.length := by
    rw [Array.length_toList]
    exact hs'.1.1.1
  rw [List.getD_eq_getElem?_getD, List.getElem?_eq_getElem hl]
  have := hk _ (List.getElem_mem hl)
  simpa using this
section
variable {P : R → En → Prop} {E : Exc → En → Prop}
theorem row_spec {st : List D} {s : Str} {b r : D} (h : SrcOk st) (h1 : 1 ≤ s.length) (h3 : s.length ≤ 3) (hk : PyData.strOk s = true)
    (q : ∀ ks st', SrcOk st' → ks.length ≤ 6 → (∀ d ∈ ks, okD 30 1 d = true) → P (.val (.tuple ks)) [.own (.lst st') .bor, .val (.tuple [.str s, b, r]), .val (.int 6)]) :
    wp f__law_row [.own (.lst st) .bor, .val (.tuple [.str s, b, r]), .val (.int 6)] P E := by
  have sl : sizeLine = 16777216 := sizeLine_eq
  have hz : s.cps.size ≤ 16777216 := by
    have : s.cps.size = s.length := rfl
    omega
  have hl : (signsOf s).length = s.length := by
    unfold signsOf
    rw [List.length_map, Array.length_toList]
    rfl
  have hm : gMul (.list ((signsOf s).map .str)) (.int 3) = some (.l (List.replicate 3 ((signsOf s).map PyData.str)).flatten) := if_pos ⟨by decide, by decide, by
    rw [List.length_map, hl]
    show s.length * 3 ≤ sizeLine
    omega⟩
  have hr : (List.replicate 3 ((signsOf s).map PyData.str)).flatten = (signsOf s).map PyData.str ++ ((signsOf s).map PyData.str ++ (signsOf s).map PyData.str) := by simp [List.replicate_succ]
  generalize hkk : (signsOf s).map PyData.str ++ ((signsOf s).map PyData.str ++ (signsOf s).map PyData.str) = ks0 at hr
  have l0 : ks0.length = 3 * s.length := by
    rw [← hkk]
    simp [hl]
    omega
  have ok0 : ∀ d ∈ ks0, okD 30 1 d = true := fun d hd => by
    have : d ∈ (signsOf s).map PyData.str := by
      rw [← hkk] at hd
      simpa using hd
    obtain ⟨y, hy, rfl⟩ := List.mem_map.mp this
    obtain ⟨c, hc, rfl⟩ := List.mem_map.mp hy
    exact okD_mono (by omega) (by omega) (strOk_char hk (.str ⟨#[c]⟩) (List.mem_map.mpr ⟨c, hc, rfl⟩))
  have hg : gAdd (.list ks0) (.list [.str "back"]) = some (.l (ks0 ++ [.str "back"])) := if_pos (by
    show ks0.length + 1 ≤ sizeLine
    omega)
  generalize hks : ks0 ++ [PyData.str "back"] = keys at hg
  have lk : keys.length = 3 * s.length + 1 := by
    rw [← hks]
    simp [l0]
  have ok1 : ∀ d ∈ keys, okD 30 1 d = true := fun d hd => by
    rw [← hks] at hd
    rcases List.mem_append.mp hd with hd | hd
    · exact ok0 d hd
    · rw [List.mem_singleton.mp hd]
      decide +kernel
  rw [hr] at hm
  unfold f__law_row bd__law_row
  simp only [wp_defF]
  rw [if_pos ⟨rfl, rfl⟩]
  simp only [wp_sSeq, wp_sSet, wp_e2, wp_e1, wp_eVar, wp_eC, wp_eLst, wp_aCons, wp_aNil]
  simp [hz, sl, hm, hg]
  refine pick_spec h (by omega) (by omega) fun v st1 h1' v0 v1 => ?_
  simp
  refine ⟨⟨by omega, by omega⟩, ?_⟩
  refine wp_runLc (I := fun ds acc ρ => ∃ st', SrcOk st' ∧ (∀ d ∈ acc, okD 30 1 d = true) ∧ acc.length + ds.length ≤ 6 ∧ ρ = [.own (.lst st') .bor, .val (.tuple [.str s, b, r]), .val (.int 6), .own (.lst keys) .loc, .unb]) ?_ ?_ _ _ _ ⟨st1, h1', by simp, by simp [rngD]; omega, rfl⟩
  · rintro d ds acc ρ ⟨st', hs', ha, hle, rfl⟩
    simp only [List.length_cons] at hle
    simp
    refine chosen_own hs' (by
      intro z
      rw [z] at lk
      simp at lk) (by omega) fun x st2 h2 hx => ?_
    have fin : ∃ st', SrcOk st' ∧ (∀ d ∈ acc ++ [x], okD 30 1 d = true) ∧ (acc ++ [x]).length + ds.length ≤ 6 ∧ [Slot.own (.lst st2) .bor, .val (.tuple [.str s, b, r]), .val (.int 6), .own (.lst keys) .loc, .unb] = [Slot.own (.lst st') .bor, .val (.tuple [.str s, b, r]), .val (.int 6), .own (.lst keys) .loc, .unb] :=
      ⟨st2, h2, fun y hy => by
        rcases List.mem_append.mp hy with hy | hy
        · exact ha y hy
        · rw [List.mem_singleton.mp hy]
          exact ok1 x hx, by simp; omega, rfl⟩
    have hlen : acc.length < sizeLine := by omega
    simpa [hlen] using fin
  · rintro acc ρ ⟨st', hs', ha, hle, rfl⟩
    simp only [List.length_nil] at hle
    simp
    exact q acc st' hs' (by omega) ha
end
def writtenL : List D := match f__law_written [] with
  | some (.ok (.fr (.lst l)), _) => l
  | _ => []
theorem written_eq : f__law_written [] = some (.ok (.fr (.lst writtenL)), []) := by kernel_rfl
def wrOk : D → Bool
  | .tuple [v, .bool b] => (tableB v == b) && okD 30 6 v
  | _ => false
theorem written_ok : ∀ d ∈ writtenL, wrOk d = true := by
  have : writtenL.all wrOk = true := by decide +kernel
  exact List.all_eq_true.mp this
end LF
end

-- part K01PC
section
set_option Elab.async false
set_option linter.all false
set_option maxRecDepth 100000
set_option maxHeartbeats 4000000
namespace LF
open PySem PySem.Spec PyProof.Rows L2
def lw1 : EM Out :=
  (sIf (tNot (tTru (eCall f__law_is_bool (aCons (eCall f_is_table (aCons (eVar 1) aNil)) (aCons (eVar 2) aNil)))))
  (sRet (eC (.bool false)))
  sNx)
def lw8 : EM Out :=
  (sSeq (sSet 9 (eCall (f__law_variant 5) (aCons (eVar 4) (aCons (e2 gIx (eLst (aCons (eVar 5) (aCons (e2 gAdd (eVar 6) (eTup (aCons (eC (.str "back")) aNil))) aNil))) (eCall f__law_pick (aCons (eVar 4) (aCons (eC (.int 2)) aNil)))) (aCons (eC (.int 3)) aNil)))))
  (sSeq (sExpr (sMeth 7 gAppend (aCons (eVar 9) aNil)))
  (sIf (tAnd (tTru (e1 (gIsi "tuple") (eVar 9))) (tB (e2 gEq (eCall f__law_pick (aCons (eVar 4) (aCons (eC (.int 3)) aNil))) (eC (.int 0)))))
  (sExpr (sMeth 7 gAppend (aCons (eCall (f__law_variant 5) (aCons (eVar 4) (aCons (eVar 9) (aCons (eC (.int 3)) aNil)))) aNil)))
  sNx)))
def lwv : EM Out :=
  (sSeq (sSet 2 (eCall f__law_good_table (aCons (eVar 1) aNil)))
  (sSeq (sIf (tNot (tTru (eCall f__law_is_bool (aCons (eCall f_is_table (aCons (eVar 1) aNil)) (aCons (eVar 2) aNil)))))
  (sRet (eC (.bool false)))
  sNx)
  (sSeq (sIf (tNot (tTru (eCall f__law_is_bool (aCons (eCall f_is_row (aCons (eVar 5) (aCons (eVar 1) aNil))) (aCons (eCall f__law_good_row (aCons (eVar 5) (aCons (eVar 1) aNil))) aNil)))))
  (sRet (eC (.bool false)))
  sNx)
  (sIf (tB (e2 gEq (e2 gEq (eCall f__law_outcome (aCons (eVar 1) (aCons (eTup aNil) aNil))) (eC (.str "table"))) (eVar 2)))
  (sRet (eC (.bool false)))
  sNx))))
def lwB : EM Out :=
  (sSeq (sSet 4 (eCall f__law_source (aCons (eVar 0) (aCons (eVar 3) aNil))))
  (sSeq (sSet 5 (eCall f__law_table (aCons (eVar 4) (aCons (eC (.int 5)) aNil))))
  (sSeq (sSet 6 (eCall f__law_row (aCons (eVar 4) (aCons (eVar 5) (aCons (eC (.int 6)) aNil)))))
  (sSeq (sSet 7 (eLst (aCons (eVar 5) (aCons (e1 gListU (eVar 5)) (aCons (eSl (eVar 5) pNone (pSome (eC (.int 2)))) (aCons (eVar 6) (aCons (e1 gListU (eVar 6)) (aCons (e2 gMul (eTup (aCons (eC (.str "back")) aNil)) (eC (.int 300))) (aCons (e2 gMul (eTup (aCons (eC (.str "back")) aNil)) (eC (.int 301))) (aCons (eC .none) (aCons (eTup aNil) (aCons (eC (.str "back")) aNil))))))))))))
  (sSeq (sSet 7 (e2 gAdd (eVar 7) (eLst (aCons (eTup (aCons (e2 gMul (e2 gIx (e2 gIx (eVar 5) (eC (.int 0))) (eC (.int 0))) (eC (.int 2))) aNil)) (aCons (eTup (aCons (eC (.str "")) aNil)) (aCons (eTup (aCons (eC (.str "BACK")) aNil)) (aCons (eTup (aCons (e2 gIx (e2 gIx (eVar 5) (eC (.int 0))) (eC (.int 0))) (aCons (eC .none) aNil))) (aCons (eTup (aCons (eC (.str "Z")) aNil)) (aCons (eCall (f__law_any_value 5) (aCons (eVar 4) (aCons (eC (.int 3)) aNil))) aNil)))))))))
  (sSeq (sFor (srcR1 (eC (.int 8))) (stVal 8) lw8)
  (sFor (srcAny (eVar 7)) (stVal 1) lwv)))))))
theorem bd_law_eq : bd_law = sSeq (sFor (srcAny (eCall f__law_written aNil)) (stTup [1, 2]) lw1) (sSeq (sFor (srcR1 (e2 gMax2 (eC (.int 6)) (e2 gMin2 (eC (.int 20)) (e1 gLen (eVar 0))))) (stVal 3) lwB) (sRet (eC (.bool true)))) := rfl
def okV (d : D) : Prop := okD 400 12 d = true
section
variable {Q : Out → En → Prop} {E : Exc → En → Prop}
theorem eq_bt {b : Bool} : gEq (.bool b) (.str "table") = some (.v (.bool false)) := by
  rw [gEq_of rfl (shaped_str (by decide +kernel)), PyData.eqv]
theorem eq_tt : gEq (.str "table") (.str "table") = some (.v (.bool true)) := by
  rw [gEq_of (shaped_str (by decide +kernel)) (shaped_str (by decide +kernel)), PyData.eqv]
  simp
theorem lw1_spec {S v : D} {b : Bool} {s3 s4 s5 s6 s7 s8 s9 : Slot} (h : wrOk (.tuple [v, .bool b]) = true) (q : Q .nx [.val S, .val v, .val (.bool b), s3, s4, s5, s6, s7, s8, s9]) : wp lw1 [.val S, .val v, .val (.bool b), s3, s4, s5, s6, s7, s8, s9] Q E := by
  have h : ((tableB v == b) && okD 30 6 v) = true := h
  simp only [Bool.and_eq_true, beq_iff_eq] at h
  unfold lw1
  simp
  refine is_table_spec h.2 (by omega) ?_
  rw [h.1]
  simp
  refine is_bool_spec ?_
  simp
  exact q
theorem lwv_spec {S v t row : D} {st vals : List D} {s2 s3 s8 s9 : Slot} (ht : tableB t = true) (hto : okV t) (hv : okV v) (p2 : pinS (some s2) = false)
    (q : ∀ b, Q .nx [.val S, .val v, .val b, s3, .own (.lst st) .loc, .val t, .val row, .own (.lst vals) .lck, s8, s9]) : wp lwv [.val S, .val v, s2, s3, .own (.lst st) .loc, .val t, .val row, .own (.lst vals) .lck, s8, s9] Q E := by
  have sl : sizeLine = 16777216 := sizeLine_eq
  unfold okV at hto hv
  unfold lwv
  simp [p2]
  refine good_table_spec hv (by omega) (by omega) ?_
  simp [p2]
  refine is_table_spec hv (by omega) ?_
  simp
  refine is_bool_spec ?_
  simp
  refine is_row_spec hto hv (by omega) (by omega) (fun _ => ?_) fun h => ?_
  · simp
    refine good_row_spec hv (by omega) (by omega) ht ?_
    simp
    refine is_bool_spec ?_
    simp
    refine outcome_spec (n := 400) (k := 12) hv (by decide +kernel) (by omega) (by omega) (fun h => ?_) fun h => ?_
    · simp [eq_bt, h]
      exact q _
    · simp [eq_tt, h]
      exact q _
  · rw [ht] at h
    cases h
theorem lw8_spec {S d : D} {st vals ts ks : List D} {s1 s2 s3 s9 : Slot} (hs : SrcOk st) (hto : okD 30 12 (.tuple ts) = true) (hko : okD 30 12 (.tuple (ks ++ [.str "back"])) = true) (hkl : ks.length ≤ 6) (hv : ∀ d ∈ vals, okV d) (hl : vals.length ≤ 100) (p9 : pinS (some s9) = false)
    (q : ∀ st' vals' s9', SrcOk st' → (∀ d ∈ vals', okV d) → vals'.length ≤ vals.length + 2 → pinS (some s9') = false → Q .nx [.val S, s1, s2, s3, .own (.lst st') .loc, .val (.tuple ts), .val (.tuple ks), .own (.lst vals') .loc, .val d, s9']) :
    wp lw8 [.val S, s1, s2, s3, .own (.lst st) .loc, .val (.tuple ts), .val (.tuple ks), .own (.lst vals) .loc, .val d, s9] Q E := by
  have sl : sizeLine = 16777216 := sizeLine_eq
  have lv : vals.length < 16777216 := by omega
  have up : ∀ {n : Nat} {x : D}, n ≤ 400 → okD n 12 x = true → okV x := fun hn h => okD_mono hn (Nat.le_refl _) h
  have app : ∀ x, okV x → ∀ y ∈ vals ++ [x], okV y := fun x hx y hy => by
    rcases List.mem_append.mp hy with hy | hy
    · exact hv y hy
    · rw [List.mem_singleton.mp hy]
      exact hx
  have hadd : gAdd (.tuple ks) (.tuple [.str "back"]) = some (.v (.tuple (ks ++ [.str "back"]))) := if_pos (by
    show ks.length + 1 ≤ sizeLine
    omega)
  unfold lw8
  simp [sl, hadd, p9]
  refine pick_spec hs (by omega) (by omega) fun v st1 h1 v0 v1 => ?_
  have hv' : v = 0 ∨ v = 1 := by omega
  rcases hv' with rfl | rfl
  · simp [p9]
    refine variant_spec 5 (e := 3) (n := 30) (k := 12) h1 (by omega) (by omega) (by omega) (by omega) (by omega) hto fun r st2 h2 hr => ?_
    cases r with
    | loc i => exact hr.elim
    | fr mm =>
      cases mm with
      | dK kv => cases hr
      | lst xs =>
        simp [p9, lv, isTy]
        exact q _ _ _ h2 (app _ (up (by omega) hr)) (by simp) rfl
    | val x =>
      have hx : okD 31 12 x = true := hr
      simp [p9, lv, gIsi_of (okD_nodict hx)]
      split
      · rename_i ht
        obtain ⟨es, rfl⟩ : ∃ es, x = .tuple es := by
          cases x <;> first | exact ⟨_, rfl⟩ | (simp [tyD, isTy] at ht)
        refine pick_spec h2 (by omega) (by omega) fun v st3 h3 v0 v1 => ?_
        by_cases hv0 : v = 0
        · simp [hv0]
          refine variant_spec 5 (e := 3) (n := 31) (k := 12) h3 (by omega) (by omega) (by omega) (by omega) (by omega) hx fun r st4 h4 hr4 => ?_
          have lv3 : vals.length + 1 < 16777216 := by omega
          cases r with
          | loc i => exact hr4.elim
          | val y =>
            simp [lv3]
            refine q _ _ _ h4 (fun z hz => ?_) (by simp) rfl
            have hz : z ∈ vals ∨ z = .tuple es ∨ z = y := by simpa using hz
            rcases hz with hz | rfl | rfl
            · exact hv z hz
            · exact up (by omega) hx
            · exact up (n := 32) (by omega) hr4
          | fr mm =>
            simp [lv3]
            refine q _ _ _ h4 (fun z hz => ?_) (by simp) rfl
            have hz : z ∈ vals ∨ z = .tuple es ∨ z = mm.d := by simpa using hz
            rcases hz with hz | rfl | rfl
            · exact hv z hz
            · exact up (by omega) hx
            · exact up (n := 32) (by omega) hr4
        · simp [hv0]
          exact q _ _ _ h3 (app _ (up (by omega) hx)) (by simp) rfl
      · exact q _ _ _ h2 (app _ (up (by omega) hx)) (by simp) rfl
  · simp [p9]
    refine variant_spec 5 (e := 3) (n := 30) (k := 12) h1 (by omega) (by omega) (by omega) (by omega) (by omega) hko fun r st2 h2 hr => ?_
    cases r with
    | loc i => exact hr.elim
    | fr mm =>
      cases mm with
      | dK kv => cases hr
      | lst xs =>
        simp [p9, lv, isTy]
        exact q _ _ _ h2 (app _ (up (by omega) hr)) (by simp) rfl
    | val x =>
      have hx : okD 31 12 x = true := hr
      simp [p9, lv, gIsi_of (okD_nodict hx)]
      split
      · rename_i ht
        obtain ⟨es, rfl⟩ : ∃ es, x = .tuple es := by
          cases x <;> first | exact ⟨_, rfl⟩ | (simp [tyD, isTy] at ht)
        refine pick_spec h2 (by omega) (by omega) fun v st3 h3 v0 v1 => ?_
        by_cases hv0 : v = 0
        · simp [hv0]
          refine variant_spec 5 (e := 3) (n := 31) (k := 12) h3 (by omega) (by omega) (by omega) (by omega) (by omega) hx fun r st4 h4 hr4 => ?_
          have lv3 : vals.length + 1 < 16777216 := by omega
          cases r with
          | loc i => exact hr4.elim
          | val y =>
            simp [lv3]
            refine q _ _ _ h4 (fun z hz => ?_) (by simp) rfl
            have hz : z ∈ vals ∨ z = .tuple es ∨ z = y := by simpa using hz
            rcases hz with hz | rfl | rfl
            · exact hv z hz
            · exact up (by omega) hx
            · exact up (n := 32) (by omega) hr4
          | fr mm =>
            simp [lv3]
            refine q _ _ _ h4 (fun z hz => ?_) (by simp) rfl
            have hz : z ∈ vals ∨ z = .tuple es ∨ z = mm.d := by simpa using hz
            rcases hz with hz | rfl | rfl
            · exact hv z hz
            · exact up (by omega) hx
            · exact up (n := 32) (by omega) hr4
        · simp [hv0]
          exact q _ _ _ h3 (app _ (up (by omega) hx)) (by simp) rfl
      · exact q _ _ _ h2 (app _ (up (by omega) hx)) (by simp) rfl
end
end LF
end

-- part K01PD
section
set_option Elab.async false
set_option linter.all false
set_option maxRecDepth 100000
set_option maxHeartbeats 4000000
namespace LF
open PySem PySem.Spec PyProof.Rows L2
theorem mul2 (c : Nat) : Txt.mul ⟨#[c]⟩ 2 = ⟨#[c, c]⟩ := rfl
theorem okV_seq {k : Nat} {ds : List D} (hk : k < 12) (hl : ds.length ≤ 400) (h : ∀ d ∈ ds, okD 400 k d = true) : okV (.tuple ds) ∧ okV (.list ds) := by
  have : (decide (ds.length ≤ 400) && ds.all (okD 400 11)) = true := by
    simp only [Bool.and_eq_true, decide_eq_true_eq, List.all_eq_true]
    exact ⟨hl, fun d hd => okD_mono (Nat.le_refl _) (by omega) (h d hd)⟩
  exact ⟨this, this⟩
section
variable {Q : Out → En → Prop} {E : Exc → En → Prop}
/-- the loops over the values -/
theorem lwE_spec {S : D} {k : Int} {st vals ts ks : List D} {s1 s2 s8 s9 : Slot} (hs : SrcOk st) (ht : tableB (.tuple ts) = true) (hto : okD 30 12 (.tuple ts) = true) (hko : okD 30 12 (.tuple (ks ++ [.str "back"])) = true) (hkl : ks.length ≤ 6)
    (hv : ∀ d ∈ vals, okV d) (hl : vals.length ≤ 20) (p1 : pinS (some s1) = false) (p2 : pinS (some s2) = false) (p8 : pinS (some s8) = false) (p9 : pinS (some s9) = false)
    (q : ∀ s1 s2 st' vals' s8 s9, pinS (some s1) = false → pinS (some s2) = false → pinS (some s8) = false → pinS (some s9) = false → Q .nx [.val S, s1, s2, .val (.int k), .own (.lst st') .loc, .val (.tuple ts), .val (.tuple ks), .own (.lst vals') .loc, s8, s9]) :
    wp (sSeq (sFor (srcR1 (eC (.int 8))) (stVal 8) lw8) (sFor (srcAny (eVar 7)) (stVal 1) lwv)) [.val S, s1, s2, .val (.int k), .own (.lst st) .loc, .val (.tuple ts), .val (.tuple ks), .own (.lst vals) .loc, s8, s9] Q E := by
  have tov : okV (.tuple ts) := okD_mono (by omega) (Nat.le_refl _) hto
  simp
  refine wp_runFor (I := fun ds ρ => ∃ (st' vals' : List D) (s8' s9' : Slot), SrcOk st' ∧ (∀ d ∈ vals', okV d) ∧ vals'.length + 2 * ds.length ≤ 40 ∧ pinS (some s8') = false ∧ pinS (some s9') = false ∧
    ρ = [.val S, s1, s2, .val (.int k), .own (.lst st') .loc, .val (.tuple ts), .val (.tuple ks), .own (.lst vals') .loc, s8', s9']) ?_ ?_ _ _ ⟨st, vals, s8, s9, hs, hv, by simp [rngD]; omega, p8, p9, rfl⟩
  · rintro d ds ρ ⟨st', vals', s8', s9', hs', hv', hle, p8', p9', rfl⟩
    simp only [List.length_cons] at hle
    simp [p8']
    refine lw8_spec hs' hto hko hkl hv' (by omega) p9' fun st2 vals2 s92 h2 hv2 hl2 p92 => ?_
    have fin : ∃ (st' vals' : List D) (s8' s9' : Slot), SrcOk st' ∧ (∀ d ∈ vals', okV d) ∧ vals'.length + 2 * ds.length ≤ 40 ∧ pinS (some s8') = false ∧ pinS (some s9') = false ∧
      [Slot.val S, s1, s2, .val (.int k), .own (.lst st2) .loc, .val (.tuple ts), .val (.tuple ks), .own (.lst vals2) .loc, .val d, s92] = [Slot.val S, s1, s2, .val (.int k), .own (.lst st') .loc, .val (.tuple ts), .val (.tuple ks), .own (.lst vals') .loc, s8', s9'] := ⟨st2, vals2, _, s92, h2, hv2, by omega, rfl, p92, rfl⟩
    simpa using fin
  · rintro ρ ⟨st', vals', s8', s9', hs', hv', hle, p8', p9', rfl⟩
    simp
    refine wp_runFor (I := fun ds ρ => (∀ d ∈ ds, okV d) ∧ ∃ (a b : Slot), pinS (some a) = false ∧ pinS (some b) = false ∧
      ρ = [.val S, a, b, .val (.int k), .own (.lst st') .loc, .val (.tuple ts), .val (.tuple ks), .own (.lst vals') .lck, s8', s9']) ?_ ?_ _ _ ⟨hv', s1, s2, p1, p2, rfl⟩
    · rintro d ds ρ ⟨hd, a, b, pa, pb, rfl⟩
      simp [pa]
      refine lwv_spec ht tov (hd d List.mem_cons_self) pb fun b' => ?_
      have fin : (∀ x ∈ ds, okV x) ∧ ∃ (a b : Slot), pinS (some a) = false ∧ pinS (some b) = false ∧
        [Slot.val S, .val d, .val b', .val (.int k), .own (.lst st') .loc, .val (.tuple ts), .val (.tuple ks), .own (.lst vals') .lck, s8', s9'] = [Slot.val S, a, b, .val (.int k), .own (.lst st') .loc, .val (.tuple ts), .val (.tuple ks), .own (.lst vals') .lck, s8', s9'] := ⟨fun x hx => hd x (List.mem_cons_of_mem _ hx), _, _, rfl, rfl, rfl⟩
      simpa using fin
    · rintro ρ ⟨_, a, b, pa, pb, rfl⟩
      simp
      exact q a b st' vals' s8' s9' pa pb p8' p9'
theorem lwB_spec {ns : List Int} {k : Nat} {s1 s2 s4 s5 s6 s7 s8 s9 : Slot} (hk : k < 100) (p1 : pinS (some s1) = false) (p2 : pinS (some s2) = false) (p4 : pinS (some s4) = false) (p5 : pinS (some s5) = false) (p6 : pinS (some s6) = false) (p7 : pinS (some s7) = false) (p8 : pinS (some s8) = false) (p9 : pinS (some s9) = false)
    (q : ∀ s1 s2 s4 s5 s6 s7 s8 s9, pinS (some s1) = false → pinS (some s2) = false → pinS (some s4) = false → pinS (some s5) = false → pinS (some s6) = false → pinS (some s7) = false → pinS (some s8) = false → pinS (some s9) = false → Q .nx [.val (scr ns), s1, s2, .val (.int k), s4, s5, s6, s7, s8, s9]) :
    wp lwB [.val (scr ns), s1, s2, .val (.int k), s4, s5, s6, s7, s8, s9] Q E := by
  have sl : sizeLine = 16777216 := sizeLine_eq
  have fin : ∀ {st vals ts ks : List D}, SrcOk st → tableB (.tuple ts) = true → okD 30 12 (.tuple ts) = true → okD 30 12 (.tuple (ks ++ [.str "back"])) = true → ks.length ≤ 6 → (∀ d ∈ vals, okV d) → vals.length ≤ 20 →
      wp (sSeq (sFor (srcR1 (eC (.int 8))) (stVal 8) lw8) (sFor (srcAny (eVar 7)) (stVal 1) lwv)) [.val (scr ns), s1, s2, .val (.int k), .own (.lst st) .loc, .val (.tuple ts), .val (.tuple ks), .own (.lst vals) .loc, s8, s9] Q E :=
    fun hs ht hto hko hkl hv hl => lwE_spec hs ht hto hko hkl hv hl p1 p2 p8 p9 fun a b st' vals' c d pa pb pc pd => q a b _ _ _ _ c d pa pb rfl rfl rfl rfl pc pd
  obtain ⟨B, hB, okB⟩ : ∃ B, gMul (.tuple [.str "back"]) (.int 300) = some (.v (.tuple B)) ∧ okV (.tuple B) := ⟨(List.replicate 300 [PyData.str "back"]).flatten, rfl, by unfold okV; decide +kernel⟩
  obtain ⟨B1, hB1, okB1⟩ : ∃ B, gMul (.tuple [.str "back"]) (.int 301) = some (.v (.tuple B)) ∧ okV (.tuple B) := ⟨(List.replicate 301 [PyData.str "back"]).flatten, rfl, by unfold okV; decide +kernel⟩
  unfold lwB
  generalize hL : sSeq (sFor (srcR1 (eC (.int 8))) (stVal 8) lw8) (sFor (srcAny (eVar 7)) (stVal 1) lwv) = L at fin
  simp [hB, hB1, -gMul_tuple]
  refine source_spec hk fun st h => ?_
  simp [p4, hB, hB1, -gMul_tuple]
  refine table_spec h fun t st1 h1 ht hto => ?_
  obtain ⟨s, b, r, c, rfl, hsg, l1, l3, hsk, hi, hc, ob, or'⟩ := table_cases ht hto
  simp [p5, hB, hB1, -gMul_tuple]
  refine row_spec h1 l1 l3 hsk fun ks st2 h2 hkl hks => ?_
  have hcl : (⟨#[c]⟩ : Str).length ≤ 1000 := by show 1 ≤ 1000; omega
  have hM : gMul (.str ⟨#[c]⟩) (.int 2) = some (.v (.str ⟨#[c, c]⟩)) := by
    rw [gMul_str, if_pos ⟨by decide, by decide, hcl⟩, mul2]
  simp [p6, sl, p7, hi, hM, hB, hB1, -gMul_tuple, -gMul_str]
  refine any_spec 5 (e := 3) h2 (by omega) fun rr st3 h3 hrr => ?_
  have ok1 : ∀ x : D, okD 30 4 x = true → okV x := fun x hx => okD_mono (by omega) (by omega) hx
  have okc : okD 400 1 (.str ⟨#[c]⟩) = true := okD_flat (by
    show (decide (1 ≤ 400) && (#[c] : Array Nat).all (· < 0x110000)) = true
    simp [hc])
  have okcc : okD 400 1 (.str ⟨#[c, c]⟩) = true := okD_flat (by
    show (decide (2 ≤ 400) && (#[c, c] : Array Nat).all (· < 0x110000)) = true
    simp [hc])
  have oks : okD 30 3 (.str s) = true := okD_flat (by
    show (decide (s.length ≤ 30) && PyData.strOk s) = true
    rw [hsk, decide_eq_true (by omega)]
    rfl)
  have okp : ∀ d ∈ [PyData.str s, b, r], okD 400 3 d = true := fun d hd => by
    simp only [List.mem_cons, List.not_mem_nil, or_false] at hd
    rcases hd with rfl | rfl | rfl
    · exact okD_mono (by omega) (Nat.le_refl _) oks
    · exact okD_mono (by omega) (Nat.le_refl _) ob
    · exact okD_mono (by omega) (Nat.le_refl _) or'
  have okt := okV_seq (by omega) (by simp) okp
  have okcut : okV (.tuple (cutD [PyData.str s, b, r] none (some 2))) := (okV_seq (k := 3) (by omega) (by
    unfold cutD
    rw [List.length_take, List.length_drop]
    simp
    omega) fun d hd => okp d (by
      unfold cutD at hd
      exact List.mem_of_mem_drop (List.mem_of_mem_take hd))).1
  have okr := okV_seq (k := 1) (ds := ks) (by omega) (by omega) fun d hd => okD_mono (by omega) (Nat.le_refl _) (hks d hd)
  have hko : okD 30 12 (.tuple (ks ++ [.str "back"])) = true := by
    show (decide ((ks ++ [PyData.str "back"]).length ≤ 30) && (ks ++ [PyData.str "back"]).all (okD 30 11)) = true
    simp only [Bool.and_eq_true, decide_eq_true_eq, List.all_eq_true]
    refine ⟨by simp; omega, fun d hd => ?_⟩
    rcases List.mem_append.mp hd with hd | hd
    · exact okD_mono (Nat.le_refl _) (by omega) (hks d hd)
    · rw [List.mem_singleton.mp hd]
      decide +kernel
  have all : ∀ z : D, okD 30 4 z = true → ∀ d ∈ [PyData.tuple [PyData.str s, b, r], PyData.list [PyData.str s, b, r], PyData.tuple (cutD [PyData.str s, b, r] none (some 2)), PyData.tuple ks, PyData.list ks, PyData.tuple B, PyData.tuple B1, PyData.none, PyData.tuple [], PyData.str "back",
      PyData.tuple [PyData.str ⟨#[c, c]⟩], PyData.tuple [PyData.str ""], PyData.tuple [PyData.str "BACK"], PyData.tuple [PyData.str ⟨#[c]⟩, PyData.none], PyData.tuple [PyData.str "Z"], z], okV d := fun z hz d hd => by
    simp only [List.mem_cons, List.not_mem_nil, or_false] at hd
    rcases hd with rfl | rfl | rfl | rfl | rfl | rfl | rfl | rfl | rfl | rfl | rfl | rfl | rfl | rfl | rfl | rfl
    · exact okt.1
    · exact okt.2
    · exact okcut
    · exact okr.1
    · exact okr.2
    · exact okB
    · exact okB1
    · unfold okV; decide +kernel
    · unfold okV; decide +kernel
    · unfold okV; decide +kernel
    · exact (okV_seq (k := 1) (by omega) (by simp) fun d hd => by rw [List.mem_singleton.mp hd]; exact okcc).1
    · unfold okV; decide +kernel
    · unfold okV; decide +kernel
    · exact (okV_seq (k := 1) (by omega) (by simp) fun d hd => by
        simp only [List.mem_cons, List.not_mem_nil, or_false] at hd
        rcases hd with rfl | rfl
        · exact okc
        · rfl).1
    · unfold okV; decide +kernel
    · exact ok1 _ hz
  have hto12 : okD 30 12 (.tuple [.str s, b, r]) = true := okD_mono (Nat.le_refl _) (by omega) hto
  cases rr with
  | loc i => exact hrr.elim
  | val z =>
    simp [sl]
    exact fin h3 ht hto12 hko hkl (all z hrr) (by simp)
  | fr mm =>
    simp [sl]
    exact fin h3 ht hto12 hko hkl (all mm.d hrr) (by simp)
end
end LF
end

-- part K01Law
section
set_option Elab.async false
set_option linter.all false
set_option maxRecDepth 100000
set_option maxHeartbeats 4000000
namespace LF
open PySem PySem.Spec PyProof.Rows L2
theorem law_ok (ns : List Int) (h : ns.length ≤ 63) : ∃ ρ, f_law [.val (scr ns)] = some (.ok (.val (.bool true)), ρ) := by
  have key : wp f_law [.val (scr ns)] (fun r _ => r = .val (.bool true)) fun _ _ => False := by
    obtain ⟨m, hm, m0, m1⟩ : ∃ m : Int, gMax2 (.int 6) (.int (if (ns.length : Int) < 20 then (ns.length : Int) else 20)) = some (.v (.int m)) ∧ 0 ≤ m ∧ m ≤ 20 := by
      refine ⟨_, gMax2_int, ?_, ?_⟩ <;> (repeat split) <;> omega
    unfold f_law
    rw [bd_law_eq, wp_defF, if_pos ⟨rfl, rfl⟩, wp_sSeq, wp_sFor, wp_srcAny, wp_eCall]
    rw [show wp aNil ([Slot.val (scr ns)] ++ List.replicate (10 - 1) Slot.unb) _ _ = _ from wp_aNil]
    have hc : ∀ {P : R → En → Prop} {E : Exc → En → Prop} {ρ : En}, P (.fr (.lst writtenL)) ρ → wp (callW f__law_written []) ρ P E := fun {P E ρ} q => by
      rw [wp_callW, argsOf_nil]
      show (if (locs []).Nodup then wp f__law_written [] _ _ else False)
      rw [if_pos (show (locs []).Nodup from List.nodup_nil)]
      exact wp_of written_eq (by rw [outP_fr, putBack_nil]; exact q)
    refine hc ?_
    rw [rd_fr, M_lst, srcOf_list, optP_some, lkOf_fr, lockE_nil]
    refine wp_runFor (I := fun ds ρ => (∀ d ∈ ds, wrOk d = true) ∧ ∃ a b : Slot, pinS (some a) = false ∧ pinS (some b) = false ∧ ρ = [.val (scr ns), a, b, .unb, .unb, .unb, .unb, .unb, .unb, .unb]) ?_ ?_ _ _ ⟨written_ok, .unb, .unb, rfl, rfl, rfl⟩
    · rintro d ds ρ ⟨hd, a, b, pa, pb, rfl⟩
      have hw := hd d List.mem_cons_self
      obtain ⟨v, g, rfl⟩ : ∃ v g, d = .tuple [v, .bool g] := by
        unfold wrOk at hw
        split at hw
        · exact ⟨_, _, rfl⟩
        · cases hw
      simp [pa, pb]
      refine lw1_spec hw ?_
      have fin : (∀ d ∈ ds, wrOk d = true) ∧ ∃ a b : Slot, pinS (some a) = false ∧ pinS (some b) = false ∧ [Slot.val (scr ns), .val v, .val (.bool g), .unb, .unb, .unb, .unb, .unb, .unb, .unb] = [Slot.val (scr ns), a, b, .unb, .unb, .unb, .unb, .unb, .unb, .unb] :=
        ⟨fun x hx => hd x (List.mem_cons_of_mem _ hx), _, _, rfl, rfl, rfl⟩
      simpa using fin
    · rintro ρ ⟨_, a, b, pa, pb, rfl⟩
      simp [hm]
      refine ⟨⟨by omega, by omega⟩, ?_⟩
      refine wp_runFor (I := fun ds ρ => (∀ d ∈ ds, ∃ k : Nat, k < 100 ∧ d = .int (k : Int)) ∧ ∃ s1 s2 s3 s4 s5 s6 s7 s8 s9 : Slot, pinS (some s1) = false ∧ pinS (some s2) = false ∧ pinS (some s3) = false ∧ pinS (some s4) = false ∧ pinS (some s5) = false ∧ pinS (some s6) = false ∧ pinS (some s7) = false ∧ pinS (some s8) = false ∧ pinS (some s9) = false ∧
        ρ = [.val (scr ns), s1, s2, s3, s4, s5, s6, s7, s8, s9]) ?_ ?_ _ _ ⟨fun d hd => ?_, a, b, .unb, .unb, .unb, .unb, .unb, .unb, .unb, pa, pb, rfl, rfl, rfl, rfl, rfl, rfl, rfl, rfl⟩
      · rintro d ds ρ ⟨hd, s1, s2, s3, s4, s5, s6, s7, s8, s9, p1, p2, p3, p4, p5, p6, p7, p8, p9, rfl⟩
        obtain ⟨k, hk, rfl⟩ := hd d List.mem_cons_self
        simp [p3]
        refine lwB_spec hk p1 p2 p4 p5 p6 p7 p8 p9 fun s1 s2 s4 s5 s6 s7 s8 s9 p1 p2 p4 p5 p6 p7 p8 p9 => ?_
        have fin : (∀ d ∈ ds, ∃ k : Nat, k < 100 ∧ d = .int (k : Int)) ∧ ∃ a1 a2 a3 a4 a5 a6 a7 a8 a9 : Slot, pinS (some a1) = false ∧ pinS (some a2) = false ∧ pinS (some a3) = false ∧ pinS (some a4) = false ∧ pinS (some a5) = false ∧ pinS (some a6) = false ∧ pinS (some a7) = false ∧ pinS (some a8) = false ∧ pinS (some a9) = false ∧
          [Slot.val (scr ns), s1, s2, .val (.int (k : Int)), s4, s5, s6, s7, s8, s9] = [Slot.val (scr ns), a1, a2, a3, a4, a5, a6, a7, a8, a9] := ⟨fun x hx => hd x (List.mem_cons_of_mem _ hx), s1, s2, _, s4, s5, s6, s7, s8, s9, p1, p2, rfl, p4, p5, p6, p7, p8, p9, rfl⟩
        simpa using fin
      · rintro ρ ⟨_, s1, s2, s3, s4, s5, s6, s7, s8, s9, p1, p2, p3, p4, p5, p6, p7, p8, p9, rfl⟩
        simp
      · obtain ⟨i, hi, rfl⟩ := rng_mem d hd
        exact ⟨i, by omega, rfl⟩
  obtain ⟨a, ρ, h1, rfl⟩ := key.get
  exact ⟨ρ, h1⟩
end LF
end

-- part K01End
section
set_option Elab.async false
set_option linter.all false
set_option maxRecDepth 100000
set_option maxHeartbeats 2000000
namespace LF
open PySem PySem.Spec PyProof.Rows L2
end LF
open PySem PySem.W PySem.Calls PyProof.Rows
theorem PySem.Challenge.cw_lengthforms_k01_tables_and_rows_holds : PySem.Challenge.rw_lengthforms_k01_tables_and_rows.Holds := by
  w_on; o_law
  refine HandSHeadRun.head_any (r := OpenLaw.row PySem.Challenge.rw_lengthforms_k01_tables_and_rows) (q := view (OpenLaw.row PySem.Challenge.rw_lengthforms_k01_tables_and_rows).prog [39]) (H := LF.hkL) (ob := LF.obL) (M := 2000) (loose := LF.looseL) (d := HandSHeadRun.topDef (OpenLaw.row PySem.Challenge.rw_lengthforms_k01_tables_and_rows).prog 39) (kwd := []) LF.ob_eqL
    (by kernel_rfl) (fun s => by kernel_rfl) LF.runL (by kernel_rfl) (by kernel_rfl) (by kernel_rfl) (by rfl) (by first | assumption | decide +kernel) (by decide +kernel) ⟨rfl, rfl, rfl, rfl, rfl, by decide +kernel⟩ ?hw ?hc
  case hw => w_witness2
  case hc =>
    refine L2.walk_ofE (l := PySem.Challenge.rw_lengthforms_k01_tables_and_rows) (n := 63) (k := 14) (x := "script") (CX := LF.CXa (PySem.Challenge.rw_lengthforms_k01_tables_and_rows).prog) rfl (by decide) (by kernel_rfl) ⟨rfl, by decide, by decide⟩ ?F LF.cxa_end
    intro w mg fa h Y G hmg0
    obtain ⟨K, KX, c⟩ := Y
    have hmg : mg ("law" : PySem.Str) = some (.ref fa) := by
      have e : (HandSHeadRun.topDef (OpenLaw.row PySem.Challenge.rw_lengthforms_k01_tables_and_rows).prog 39).name = ("law" : PySem.Str) := by kernel_rfl
      rw [← e]
      exact hmg0
    obtain ⟨fd, hb, hF⟩ := LF.end_law (P := (PySem.Challenge.rw_lengthforms_k01_tables_and_rows).prog) (w := w) KX G hmg c
    exact ⟨K, fd, _, KX, hb, fun H a ns hl _ hS => LF.end_sp hS (LF.law_ok ns hl), hF⟩
end
