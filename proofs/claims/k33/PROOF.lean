import PyProof.Rows.All
import Wide.All
import OpenK.AllK
import Wide.FinOn
import HandS.ForMost
import HandS.Deep
import HandS.Style
import HandS.IsInst
import HandS.SortInts
import HandS.RaiseMore
import HandS.More
import PySem.Challenge.RW_pairblocks_k33_whole_what_bars_planes_by
set_option Elab.async false
set_option linter.all false
set_option maxRecDepth 100000
namespace Sim
open PySem PySem.Spec L2
open PyProof.Rows hiding St

/-! ## data -/
inductive D where
  | non | bl (b : Bool) | int (i : Int) | str (x : Str)
  | tup (l : List D) | lst (l : List D) | frl (l : List D) | dct (l : List (D × D)) | dcT (l : List (D × D)) | ins (c : Str) (fs : List (Str × D))

/-- what the text's classes are -/
structure En where
  K : PySem.W.Frag
  cl : Str → Option Addr

def keyD : Key → D
  | .inl i => .int i
  | .inr x => .str x

mutual
def Rep (e : En) (F : Hp) : D → V → Prop
  | .non, v => v = .non
  | .bl b, v => v = .bl b
  | .int i, v => v = .int i
  | .str x, v => v = .str x
  | .tup l, v => ∃ a vs, v = .ref a ∧ SqT e.K F a vs ∧ Reps e F l vs
  | .lst l, v => ∃ a vs, v = .ref a ∧ F a = some (.lst vs) ∧ Reps e F l vs
  | .frl l, v => ∃ a vs, v = .ref a ∧ SqL e.K F a vs ∧ Reps e F l vs
  | .dct l, v => ∃ a ks, v = .ref a ∧ F a = some (.dK ks) ∧ RepK e F l ks
  | .dcT l, v => ∃ a ks, v = .ref a ∧ F a = some (.dT ks) ∧ RepT e F l ks
  | .ins c fs, v => ∃ a C dx vs, v = .ref a ∧ e.cl c = some C ∧ F a = some (.ins C dx vs) ∧ RepF e F fs vs
def Reps (e : En) (F : Hp) : List D → List V → Prop
  | [], vs => vs = []
  | d :: l, vs => ∃ v r, vs = v :: r ∧ Rep e F d v ∧ Reps e F l r
def RepK (e : En) (F : Hp) : List (D × D) → List (Key × V) → Prop
  | [], vs => vs = []
  | (k, d) :: l, vs => ∃ q v r, vs = (q, v) :: r ∧ k = keyD q ∧ Rep e F d v ∧ RepK e F l r
def RepT (e : En) (F : Hp) : List (D × D) → List (List Key × V) → Prop
  | [], vs => vs = []
  | (k, d) :: l, vs => ∃ q v r, vs = (q, v) :: r ∧ k = .tup (q.map keyD) ∧ Rep e F d v ∧ RepT e F l r
def RepF (e : En) (F : Hp) : List (Str × D) → List (Str × V) → Prop
  | [], vs => vs = []
  | (k, d) :: l, vs => ∃ v r, vs = (k, v) :: r ∧ Rep e F d v ∧ RepF e F l r
end

/-- a smaller tracked heap -/
def Sub (F H : Hp) : Prop := ∀ a o, F a = some o → H a = some o
theorem Sub.refl (H : Hp) : Sub H H := fun _ _ h => h
theorem Sub.trans {A B C : Hp} (h : Sub A B) (k : Sub B C) : Sub A C := fun a o x => k a o (h a o x)
theorem Sub.seq {K : PySem.W.Frag} {F H : Hp} {a : Addr} {xs : List V} (s : Sub F H) (h : SqL K F a xs) : SqL K H a xs := by
  rcases h with (h | ⟨o, h⟩) | h
  · exact .inl (.inl (s _ _ h))
  · exact .inl (.inr ⟨o, s _ _ h⟩)
  · exact .inr h
theorem Sub.tup {K : PySem.W.Frag} {F H : Hp} {a : Addr} {xs : List V} (s : Sub F H) (h : SqT K F a xs) : SqT K H a xs := by
  rcases h with (h | ⟨o, h⟩) | h
  · exact .inl (.inl (s _ _ h))
  · exact .inl (.inr ⟨o, s _ _ h⟩)
  · exact .inr h

mutual
theorem Rep.mono {e : En} {F H : Hp} (s : Sub F H) : ∀ (d : D) (v : V), Rep e F d v → Rep e H d v
  | .non, _, h => h
  | .bl _, _, h => h
  | .int _, _, h => h
  | .str _, _, h => h
  | .tup l, _, ⟨a, vs, p, q, r⟩ => ⟨a, vs, p, s.tup q, Reps.mono s l vs r⟩
  | .lst l, _, ⟨a, vs, p, q, r⟩ => ⟨a, vs, p, s _ _ q, Reps.mono s l vs r⟩
  | .frl l, _, ⟨a, vs, p, q, r⟩ => ⟨a, vs, p, s.seq q, Reps.mono s l vs r⟩
  | .dct l, _, ⟨a, ks, p, q, r⟩ => ⟨a, ks, p, s _ _ q, RepK.mono s l ks r⟩
  | .dcT l, _, ⟨a, ks, p, q, r⟩ => ⟨a, ks, p, s _ _ q, RepT.mono s l ks r⟩
  | .ins c fs, _, ⟨a, C, dx, vs, p, q, r, t⟩ => ⟨a, C, dx, vs, p, q, s _ _ r, RepF.mono s fs vs t⟩
theorem Reps.mono {e : En} {F H : Hp} (s : Sub F H) : ∀ (l : List D) (vs : List V), Reps e F l vs → Reps e H l vs
  | [], _, h => h
  | d :: l, _, ⟨v, r, p, q, t⟩ => ⟨v, r, p, Rep.mono s d v q, Reps.mono s l r t⟩
theorem RepK.mono {e : En} {F H : Hp} (s : Sub F H) : ∀ (l : List (D × D)) (vs : List (Key × V)), RepK e F l vs → RepK e H l vs
  | [], _, h => h
  | (k, d) :: l, _, ⟨q, v, r, p, t, u, w⟩ => ⟨q, v, r, p, t, Rep.mono s d v u, RepK.mono s l r w⟩
theorem RepT.mono {e : En} {F H : Hp} (s : Sub F H) : ∀ (l : List (D × D)) (vs : List (List Key × V)), RepT e F l vs → RepT e H l vs
  | [], _, h => h
  | (k, d) :: l, _, ⟨q, v, r, p, t, u, w⟩ => ⟨q, v, r, p, t, Rep.mono s d v u, RepT.mono s l r w⟩
theorem RepF.mono {e : En} {F H : Hp} (s : Sub F H) : ∀ (l : List (Str × D)) (vs : List (Str × V)), RepF e F l vs → RepF e H l vs
  | [], _, h => h
  | (k, d) :: l, _, ⟨v, r, p, u, w⟩ => ⟨v, r, p, Rep.mono s d v u, RepF.mono s l r w⟩
end

theorem Reps.length {e : En} {F : Hp} : ∀ {l : List D} {vs : List V}, Reps e F l vs → vs.length = l.length
  | [], _, h => by rw [h]; rfl
  | d :: l, _, ⟨v, r, p, _, t⟩ => by rw [p, List.length_cons, List.length_cons, Reps.length t]
theorem Reps.get {e : En} {F : Hp} : ∀ {l : List D} {vs : List V} {i : Nat} {d : D}, Reps e F l vs → l[i]? = some d → ∃ v, vs[i]? = some v ∧ Rep e F d v
  | d :: l, _, 0, _, ⟨v, r, p, q, t⟩, h => by
    subst p; simp only [List.getElem?_cons_zero, Option.some.injEq] at h; subst h
    exact ⟨v, by simp, q⟩
  | d :: l, _, i + 1, _, ⟨v, r, p, q, t⟩, h => by
    subst p
    obtain ⟨u, h1, h2⟩ := Reps.get (i := i) t (by simpa using h)
    exact ⟨u, by simpa using h1, h2⟩
theorem Reps.getV {e : En} {F : Hp} {l : List D} {vs : List V} {i : Nat} {v : V} (r : Reps e F l vs) (h : vs[i]? = some v) : ∃ d, l[i]? = some d ∧ Rep e F d v := by
  have hi : i < l.length := by rw [← r.length]; exact (List.getElem?_eq_some_iff.mp h).1
  obtain ⟨u, h1, h2⟩ := r.get (List.getElem?_eq_getElem hi)
  rw [h] at h1; cases h1
  exact ⟨_, List.getElem?_eq_getElem hi, h2⟩
theorem Reps.append {e : En} {F : Hp} : ∀ {l m : List D} {vs us : List V}, Reps e F l vs → Reps e F m us → Reps e F (l ++ m) (vs ++ us)
  | [], _, _, _, h, k => by rw [h]; exact k
  | d :: l, _, _, _, ⟨v, r, p, q, t⟩, k => ⟨v, r ++ _, by rw [p]; rfl, q, Reps.append t k⟩
theorem Reps.one {e : En} {F : Hp} {d : D} {v : V} (h : Rep e F d v) : Reps e F [d] [v] := ⟨v, [], rfl, h, rfl⟩
theorem Reps.set {e : En} {F : Hp} {d : D} {v : V} (q : Rep e F d v) : ∀ {l : List D} {vs : List V} (i : Nat), Reps e F l vs → Reps e F (l.set i d) (vs.set i v)
  | [], _, _, h => by rw [h]; rfl
  | _ :: l, _, 0, ⟨u, r, p, _, t⟩ => ⟨v, r, by rw [p]; rfl, q, t⟩
  | _ :: l, _, i + 1, ⟨u, r, p, w, t⟩ => ⟨u, r.set i v, by rw [p]; rfl, w, Reps.set q i t⟩
theorem Reps.take {e : En} {F : Hp} : ∀ {l : List D} {vs : List V} (i : Nat), Reps e F l vs → Reps e F (l.take i) (vs.take i)
  | _, _, 0, _ => rfl
  | [], _, i + 1, h => by rw [h]; rfl
  | _ :: l, _, i + 1, ⟨u, r, p, w, t⟩ => ⟨u, r.take i, by rw [p]; rfl, w, Reps.take i t⟩
theorem Reps.drop {e : En} {F : Hp} : ∀ {l : List D} {vs : List V} (i : Nat), Reps e F l vs → Reps e F (l.drop i) (vs.drop i)
  | _, _, 0, h => h
  | [], _, i + 1, h => by rw [h]; rfl
  | _ :: l, _, i + 1, ⟨u, r, p, w, t⟩ => by rw [p]; exact Reps.drop i t
theorem Reps.reverse {e : En} {F : Hp} : ∀ {l : List D} {vs : List V}, Reps e F l vs → Reps e F l.reverse vs.reverse
  | [], _, h => by rw [h]; rfl
  | d :: l, _, ⟨v, r, p, q, t⟩ => by
    rw [p, List.reverse_cons, List.reverse_cons]; exact Reps.append (Reps.reverse t) (.one q)

/-! ## the state of a body -/
inductive Md where | ow | mu | lk deriving DecidableEq
/-- a slot: empty, data that does not change, an object that this body alone may change (own, lent to it, locked) -/
inductive C where
  | no | fz (d : D) | ob (m : Md) (d : D)

/-- an object that stands at a, its parts frozen -/
def ObjAt (e : En) (H F : Hp) (a : Addr) : D → Prop
  | .lst l => ∃ vs, H a = some (.lst vs) ∧ Reps e F l vs
  | .dct l => ∃ ks, H a = some (.dK ks) ∧ RepK e F l ks
  | .dcT l => ∃ ks, H a = some (.dT ks) ∧ RepT e F l ks
  | .ins c fs => ∃ C dx vs, e.cl c = some C ∧ H a = some (.ins C dx vs) ∧ RepF e F fs vs
  | _ => False
theorem ObjAt.mono {e : En} {H F H' F' : Hp} {a : Addr} {d : D} (h : ObjAt e H F a d) (s : Sub F F') (k : H' a = H a) : ObjAt e H' F' a d := by
  cases d with
  | lst l => obtain ⟨vs, p, q⟩ := h; exact ⟨vs, k.trans p, q.mono s⟩
  | dct l => obtain ⟨ks, p, q⟩ := h; exact ⟨ks, k.trans p, q.mono s⟩
  | dcT l => obtain ⟨ks, p, q⟩ := h; exact ⟨ks, k.trans p, q.mono s⟩
  | ins c fs => obtain ⟨C, dx, vs, p, q, r⟩ := h; exact ⟨C, dx, vs, p, k.trans q, r.mono s⟩
  | _ => exact h.elim
theorem ObjAt.some {e : En} {H F : Hp} {a : Addr} {d : D} (h : ObjAt e H F a d) : ∃ o, H a = some o := by
  cases d with
  | lst l => obtain ⟨vs, p, q⟩ := h; exact ⟨_, p⟩
  | dct l => obtain ⟨ks, p, q⟩ := h; exact ⟨_, p⟩
  | dcT l => obtain ⟨ks, p, q⟩ := h; exact ⟨_, p⟩
  | ins c fs => obtain ⟨C, dx, vs, p, q, r⟩ := h; exact ⟨_, q⟩
  | _ => exact h.elim
/-- frozen, it is data -/
theorem ObjAt.rep {e : En} {H F G : Hp} {a : Addr} {d : D} (h : ObjAt e H F a d) (s : Sub F G) (k : G a = H a) : Rep e G d (.ref a) := by
  cases d with
  | lst l => obtain ⟨vs, p, q⟩ := h; exact ⟨a, vs, rfl, k.trans p, q.mono s⟩
  | dct l => obtain ⟨ks, p, q⟩ := h; exact ⟨a, ks, rfl, k.trans p, q.mono s⟩
  | dcT l => obtain ⟨ks, p, q⟩ := h; exact ⟨a, ks, rfl, k.trans p, q.mono s⟩
  | ins c fs => obtain ⟨C, dx, vs, p, q, r⟩ := h; exact ⟨a, C, dx, vs, rfl, p, k.trans q, r.mono s⟩
  | _ => exact h.elim

structure SR (e : En) (σc : List C) (σ : St) (H F : Hp) : Prop where
  len : σc.length = σ.length
  sub : Sub F H
  fz : ∀ (i : Nat) (d : D), σc[i]? = some (.fz d) → ∃ v, σ[i]? = some (some v) ∧ Rep e F d v
  ob : ∀ (i : Nat) (m : Md) (d : D), σc[i]? = some (.ob m d) → ∃ a : Addr, σ[i]? = some (some (.ref a)) ∧ F a = none ∧ ObjAt e H F a d
  inj : ∀ (i j : Nat) (m : Md) (d : D) (m' : Md) (d' : D), σc[i]? = some (.ob m d) → σc[j]? = some (.ob m' d') → σ[i]? = σ[j]? → i = j

/-- what the body may change -/
def Own (σc : List C) (σ : St) (a : Addr) : Prop := ∃ (i : Nat) (m : Md) (d : D), σc[i]? = some (.ob m d) ∧ m ≠ .lk ∧ σ[i]? = some (some (.ref a))

structure Ext (σc : List C) (σ : St) (F H : Hp) (σc' : List C) (σ' : St) (F' H' : Hp) : Prop where
  f : Sub F F'
  h : ∀ a o, H a = some o → ¬ Own σc σ a → H' a = some o
  n : ∀ a o, F' a = some o → F a = some o ∨ H a = none ∨ Own σc σ a
  o : ∀ a, Own σc' σ' a → Own σc σ a ∨ H a = none
  m : ∀ (i : Nat) (m : Md) (d : D), σc[i]? = some (.ob m d) → m ≠ .ow → σ'[i]? = σ[i]? ∧ ∃ d', σc'[i]? = some (.ob m d') ∧ (m = .lk → d' = d)
  p : ∀ (i : Nat) (d : D), σc'[i]? = some (.ob .lk d) → σc[i]? = some (.ob .lk d) ∧ σ'[i]? = σ[i]?
theorem Ext.refl (σc : List C) (σ : St) (F H : Hp) : Ext σc σ F H σc σ F H :=
  ⟨.refl F, fun _ _ h _ => h, fun _ _ h => .inl h, fun _ h => .inl h, fun _ _ d h _ => ⟨rfl, d, h, fun _ => rfl⟩, fun _ _ h => ⟨h, rfl⟩⟩
theorem Ext.keepNo {σc : List C} {σ : St} {F H : Hp} {σc' : List C} {σ' : St} {F' H' : Hp} (x : Ext σc σ F H σc' σ' F' H') {a : Addr} (h : H' a = none) : H a = none ∨ Own σc σ a := by
  cases q : H a with
  | none => exact .inl rfl
  | some o =>
    refine .inr (Classical.byContradiction fun k => ?_)
    rw [x.h a o q k] at h; cases h
theorem Ext.trans {σc σc1 σc2 : List C} {σ σ1 σ2 : St} {F F1 F2 H H1 H2 : Hp} (x : Ext σc σ F H σc1 σ1 F1 H1) (y : Ext σc1 σ1 F1 H1 σc2 σ2 F2 H2) : Ext σc σ F H σc2 σ2 F2 H2 where
  f := x.f.trans y.f
  h := fun a o p q => y.h a o (x.h a o p q) fun k => by
    rcases x.o a k with z | z
    · exact q z
    · rw [z] at p; cases p
  n := fun a o p => by
    rcases y.n a o p with z | z | z
    · exact x.n a o z
    · exact .inr (x.keepNo z)
    · rcases x.o a z with w | w
      · exact .inr (.inr w)
      · exact .inr (.inl w)
  o := fun a p => by
    rcases y.o a p with z | z
    · exact x.o a z
    · exact (x.keepNo z).elim .inr .inl
  m := fun i m d p q => by
    obtain ⟨h1, d1, h2, h3⟩ := x.m i m d p q
    obtain ⟨k1, d2, k2, k3⟩ := y.m i m d1 h2 q
    exact ⟨k1.trans h1, d2, k2, fun z => (k3 z).trans (h3 z)⟩
  p := fun i d h => by
    obtain ⟨h1, h2⟩ := y.p i d h
    obtain ⟨k1, k2⟩ := x.p i d h1
    exact ⟨k1, h2.trans k2⟩

/-- an expression's value: data, or a new object that nobody else holds -/
def RepC (e : En) (σc : List C) (σ : St) (H : Hp) (σc' : List C) (σ' : St) (F' H' : Hp) : C → V → Prop
  | .no, _ => False
  | .fz d, v => Rep e F' d v
  | .ob _ d, v => ∃ a, v = .ref a ∧ F' a = none ∧ ¬ Own σc' σ' a ∧ ObjAt e H' F' a d ∧ (H a = none ∨ Own σc σ a) ∧ ∀ (i : Nat) (m : Md) (d : D), σc'[i]? = some (.ob m d) → σ'[i]? ≠ some (some (.ref a))

/-- the data of a value -/
def C.dat : C → Option D
  | .no => none
  | .fz d => some d
  | .ob _ d => some d
/-- to be read at once -/
def RepH (e : En) (H F : Hp) (d : D) (v : V) : Prop := Rep e F d v ∨ ∃ a, v = .ref a ∧ F a = none ∧ ObjAt e H F a d

abbrev EM := List C → Option (C × List C)
abbrev TM := List C → Option (Bool × List C)
abbrev AM := List C → Option (List D × List C)
inductive O where | nx (σ : List C) | rt (c : C) (σ : List C) | bk (σ : List C) | ct (σ : List C)
abbrev SM := List C → Option O

def tE (e : En) (m : EM) : TE := fun σ H Q => ∃ σc F c σc', SR e σc σ H F ∧ m σc = some (c, σc') ∧
  ∀ v F' H', SR e σc' σ H' F' → Ext σc σ F H σc' σ F' H' → RepC e σc σ H σc' σ F' H' c v → Q v H'
def tT (e : En) (m : TM) : TT := fun σ H Q => ∃ σc F c σc', SR e σc σ H F ∧ m σc = some (c, σc') ∧
  ∀ F' H', SR e σc' σ H' F' → Ext σc σ F H σc' σ F' H' → Q c H'
/-- arguments that are read at once -/
def tA (e : En) (m : AM) : TA := fun σ H Q => ∃ σc F ds σc', SR e σc σ H F ∧ m σc = some (ds, σc') ∧
  ∀ vs F' H', SR e σc' σ H' F' → Ext σc σ F H σc' σ F' H' → Paired (RepH e H' F') ds vs → Q vs H'
/-- arguments that are data -/
def tAF (e : En) (m : AM) : TA := fun σ H Q => ∃ σc F ds σc', SR e σc σ H F ∧ m σc = some (ds, σc') ∧
  ∀ vs F' H', SR e σc' σ H' F' → Ext σc σ F H σc' σ F' H' → Reps e F' ds vs → Q vs H'
/-- what is wanted behind an end -/
def Post (e : En) (D : Ends) (σc : List C) (σ : St) (F H : Hp) : O → Prop
  | .nx σc' => ∀ σ' F' H', SR e σc' σ' H' F' → Ext σc σ F H σc' σ' F' H' → D.nx σ' H'
  | .bk σc' => ∀ σ' F' H', SR e σc' σ' H' F' → Ext σc σ F H σc' σ' F' H' → D.bk σ' H'
  | .ct σc' => ∀ σ' F' H', SR e σc' σ' H' F' → Ext σc σ F H σc' σ' F' H' → D.ct σ' H'
  | .rt c σc' => ∀ v σ' F' H', SR e σc' σ' H' F' → Ext σc σ F H σc' σ' F' H' → RepC e σc σ H σc' σ' F' H' c v → D.rt v H'
def tS (e : En) (m : SM) : TS := fun D σ H => ∃ σc F o, SR e σc σ H F ∧ m σc = some o ∧ Post e D σc σ F H o
theorem Post.after {e : En} {D : Ends} {σc σ1 : List C} {σ σ' : St} {F F1 H H1 : Hp} {o : O} (x1 : Ext σc σ F H σ1 σ' F1 H1)
    (rb : ∀ {σc' : List C} {σ'' : St} {F' H' : Hp} {c : C} {v : V}, RepC e σ1 σ' H1 σc' σ'' F' H' c v → RepC e σc σ H σc' σ'' F' H' c v) (k : Post e D σc σ F H o) : Post e D σ1 σ' F1 H1 o := by
  cases o with
  | nx σ2 => exact fun σ'' F2 H2 s2 x2 => k σ'' F2 H2 s2 (x1.trans x2)
  | bk σ2 => exact fun σ'' F2 H2 s2 x2 => k σ'' F2 H2 s2 (x1.trans x2)
  | ct σ2 => exact fun σ'' F2 H2 s2 x2 => k σ'' F2 H2 s2 (x1.trans x2)
  | rt c σ2 => exact fun v σ'' F2 H2 s2 x2 r2 => k v σ'' F2 H2 s2 (x1.trans x2) (rb r2)

/-! ## weakening -/
section
variable {X : Cx}
theorem _root_.L2.PE.imp {e : Expr} {t t' : TE} (h : PE X e t) (k : ∀ σ H Q, t' σ H Q → t σ H Q) : PE X e t' := ⟨fun pins s σ H Q I q => h.run pins s σ H Q I (k _ _ _ q)⟩
theorem _root_.L2.PT.imp {e : Expr} {t t' : TT} (h : PT X e t) (k : ∀ σ H Q, t' σ H Q → t σ H Q) : PT X e t' := ⟨fun pins s σ H Q I q => h.run pins s σ H Q I (k _ _ _ q)⟩
theorem _root_.L2.PA.imp {e : List Expr} {t t' : TA} (h : PA X e t) (k : ∀ σ H Q, t' σ H Q → t σ H Q) : PA X e t' := ⟨fun pos pins s σ H Q I q => h.run pos pins s σ H Q I (k _ _ _ q)⟩
theorem _root_.L2.PS.imp {e : Stmt} {t t' : TS} (h : PS X e t) (k : ∀ D σ H, t' D σ H → t D σ H) : PS X e t' := ⟨fun pins s σ H D I q => h.run pins s σ H D I (k _ _ _ q)⟩
theorem _root_.L2.PSs.imp {e : List Stmt} {t t' : TS} (h : PSs X e t) (k : ∀ D σ H, t' D σ H → t D σ H) : PSs X e t' := ⟨fun pins s σ H D I q => h.run pins s σ H D I (k _ _ _ q)⟩
theorem _root_.L2.PG.imp {e : Expr} {t t' : TG} (h : PG X e t) (k : ∀ v σ H Q, t' v σ H Q → t v σ H Q) : PG X e t' := ⟨fun pins s σ H v u Q I r q => h.run pins s σ H v u Q I r (k _ _ _ _ q)⟩
theorem _root_.L2.PI.imp {g e : Expr} {t t' : TI} (h : PI X g e t) (k : ∀ σ H Q, t' σ H Q → t σ H Q) : PI X g e t' := ⟨fun pins s σ H Q I q => h.run pins s σ H Q I (k _ _ _ q)⟩
end
end Sim

set_option Elab.async false
set_option linter.all false
set_option maxRecDepth 100000
namespace Sim
open PySem PySem.Spec L2
open PyProof.Rows hiding St

/-! ## the state, changed -/
section
variable {e : En} {σc σc' : List C} {σ σ' : St} {H H' F F' : Hp} {a : Addr}
theorem SR.ne_none (s : SR e σc σ H F) {i : Nat} {m : Md} {d : D} (h : σc[i]? = some (.ob m d)) (p : σ[i]? = some (some (.ref a))) : F a = none ∧ ObjAt e H F a d := by
  obtain ⟨b, q, n, o⟩ := s.ob i m d h
  rw [p] at q; cases q
  exact ⟨n, o⟩
theorem Own.none (s : SR e σc σ H F) (w : Own σc σ a) : F a = none ∧ ∃ o, H a = some o := by
  obtain ⟨i, m, d, h, _, p⟩ := w
  obtain ⟨n, o⟩ := s.ne_none h p
  exact ⟨n, o.some⟩
theorem SR.notOwn (s : SR e σc σ H F) {o : HO} (h : F a = some o) : ¬ Own σc σ a := fun w => by
  rw [(Own.none s w).1] at h; cases h
/-- more is tracked, more is frozen -/
theorem SR.grow (s : SR e σc σ H F) (hH : Sub H H') (hF : Sub F F') (hS : Sub F' H') (hn : ∀ a o, F' a = some o → F a = some o ∨ H a = none) : SR e σc σ H' F' ∧ Ext σc σ F H σc σ F' H' := by
  refine ⟨⟨s.len, hS, fun i d h => ?_, fun i m d h => ?_, s.inj⟩, ⟨hF, fun a o h _ => hH a o h, fun a o h => (hn a o h).elim .inl (fun z => .inr (.inl z)), fun _ h => .inl h, fun i m d h _ => ⟨rfl, d, h, fun _ => rfl⟩, fun _ _ h => ⟨h, rfl⟩⟩⟩
  · obtain ⟨v, p, q⟩ := s.fz i d h
    exact ⟨v, p, q.mono hF⟩
  · obtain ⟨a, p, n, o⟩ := s.ob i m d h
    obtain ⟨ho, e1⟩ := o.some
    refine ⟨a, p, ?_, o.mono hF (by rw [e1]; exact hH _ _ e1)⟩
    cases q : F' a with
    | none => rfl
    | some u =>
      rcases hn a u q with z | z
      · rw [n] at z; cases z
      · rw [e1] at z; cases z
/-- a new object, frozen -/
theorem SR.newF (s : SR e σc σ H F) {p : Addr} {o : HO} (hp : H p = none) : SR e σc σ (upd H p o) (upd F p o) ∧ Ext σc σ F H σc σ (upd F p o) (upd H p o) := by
  have hFp : F p = none := by
    cases q : F p with
    | none => rfl
    | some u => rw [s.sub p u q] at hp; cases hp
  refine s.grow (fun b u h => ?_) (fun b u h => ?_) (fun b u h => ?_) fun b u h => ?_
  · rw [upd_ne (ne_of_none h hp)]; exact h
  · rw [upd_ne (ne_of_none h hFp)]; exact h
  · by_cases z : b = p
    · subst z; rw [upd_same] at h ⊢; exact h
    · rw [upd_ne z] at h ⊢; exact s.sub b u h
  · by_cases z : b = p
    · subst z; exact .inr hp
    · rw [upd_ne z] at h; exact .inl h
/-- a new object, nobody's yet -/
theorem SR.newO (s : SR e σc σ H F) {p : Addr} {o : HO} (hp : H p = none) : SR e σc σ (upd H p o) F ∧ Ext σc σ F H σc σ F (upd H p o) := by
  refine s.grow (fun b u h => ?_) (.refl F) (fun b u h => ?_) fun b u h => .inl h
  · rw [upd_ne (ne_of_none h hp)]; exact h
  · rw [upd_ne (ne_of_none (s.sub _ _ h) hp)]; exact s.sub b u h
theorem SR.free (s : SR e σc σ H F) (h : H a = none) : F a = none := by
  cases q : F a with
  | none => rfl
  | some u => rw [s.sub a u q] at h; cases h
theorem SR.notOwnNew (s : SR e σc σ H F) (h : H a = none) : ¬ Own σc σ a := fun w => by
  obtain ⟨_, o, z⟩ := Own.none s w
  rw [h] at z; cases z
theorem SR.notSlotNew (s : SR e σc σ H F) (h : H a = none) (i : Nat) (m : Md) (d : D) (k : σc[i]? = some (.ob m d)) : σ[i]? ≠ some (some (.ref a)) := fun p => by
  obtain ⟨o, z⟩ := (s.ne_none k p).2.some
  rw [h] at z; cases z
/-- a new object as an expression's value -/
theorem RepC.new {d : D} {p : Addr} {o : HO} (s : SR e σc σ H F) (hp : H p = none) (k : ObjAt e (upd H p o) F p d) : RepC e σc σ H σc σ F (upd H p o) (.ob .ow d) (.ref p) :=
  ⟨p, rfl, s.free hp, s.notOwnNew hp, k, .inl hp, s.notSlotNew hp⟩

/-- what an expression gave, later -/
theorem RepC.base {σc1 : List C} {σ1 : St} {F1 H1 : Hp} {c : C} {v : V} (x : Ext σc σ F H σc1 σ1 F1 H1) (r : RepC e σc1 σ1 H1 σc' σ' F' H' c v) : RepC e σc σ H σc' σ' F' H' c v := by
  cases c with
  | no => exact r
  | fz d => exact r
  | ob m d =>
    obtain ⟨a, p, q, w, o, f, i⟩ := r
    refine ⟨a, p, q, w, o, ?_, i⟩
    rcases f with z | z
    · exact x.keepNo z
    · exact (x.o a z).symm
theorem RepC.later {σ0 : List C} {H0 : Hp} {σc1 : List C} {F1 H1 : Hp} {c : C} {v : V} {d : D} (s : SR e σc σ H F) (r : RepC e σ0 σ H0 σc σ F H c v) (x : Ext σc σ F H σc1 σ F1 H1) (h : c.dat = some d) : RepH e H1 F1 d v := by
  cases c with
  | no => exact r.elim
  | fz d' => cases h; exact .inl (Rep.mono x.f _ _ r)
  | ob m d' =>
    cases h
    obtain ⟨a, p, q, w, o, _, _⟩ := r
    obtain ⟨ho, e1⟩ := o.some
    refine .inr ⟨a, p, ?_, o.mono x.f (by rw [e1]; exact x.h a _ e1 w)⟩
    cases z : F1 a with
    | none => rfl
    | some u =>
      rcases x.n a u z with y | y | y
      · rw [q] at y; cases y
      · rw [e1] at y; cases y
      · exact (w y).elim
/-- .. frozen -/
theorem RepC.freeze {σ0 : List C} {H0 : Hp} {c : C} {v : V} {d : D} (s : SR e σc σ H F) (r : RepC e σ0 σ H0 σc σ F H c v) (h : c.dat = some d) :
    ∃ F', SR e σc σ H F' ∧ Sub F F' ∧ (∀ a o, F' a = some o → F a = some o ∨ (H0 a = none ∨ Own σ0 σ a)) ∧ Rep e F' d v ∧ ∀ a, Own σc σ a → F' a = none := by
  cases c with
  | no => exact r.elim
  | fz d' => cases h; exact ⟨F, s, .refl F, fun _ _ h => .inl h, r, fun a w => (Own.none s w).1⟩
  | ob m d' =>
    cases h
    obtain ⟨a, p, q, w, o, f, i⟩ := r
    obtain ⟨ho, e1⟩ := o.some
    have sub : Sub F (upd F a ho) := fun b u z => by rw [upd_ne (ne_of_none z q)]; exact z
    refine ⟨upd F a ho, ⟨s.len, fun b u z => ?_, fun j d z => ?_, fun j m d z => ?_, s.inj⟩, sub, fun b u z => ?_, ?_, fun b z => ?_⟩
    · by_cases y : b = a
      · subst y; rw [upd_same] at z; cases z; exact e1
      · rw [upd_ne y] at z; exact s.sub b u z
    · obtain ⟨v, z1, z2⟩ := s.fz j d z
      exact ⟨v, z1, z2.mono sub⟩
    · obtain ⟨b, z1, z2, z3⟩ := s.ob j m d z
      have nb : b ≠ a := fun y => by subst y; exact i j m d z z1
      exact ⟨b, z1, by rw [upd_ne nb]; exact z2, z3.mono sub rfl⟩
    · by_cases y : b = a
      · subst y; exact .inr f
      · rw [upd_ne y] at z; exact .inl z
    · rw [p]; exact o.rep sub (by rw [upd_same, e1])
    · have nb : b ≠ a := fun y => by subst y; exact w z
      rw [upd_ne nb]; exact (Own.none s z).1
theorem Ext.frozen {G : Hp} (x : Ext σc σ F H σc' σ' F' H') (sub : Sub F' G) (n : ∀ a o, G a = some o → F' a = some o ∨ (H a = none ∨ Own σc σ a)) : Ext σc σ F H σc' σ' G H' :=
  ⟨x.f.trans sub, x.h, fun a o h => (n a o h).elim (x.n a o) .inr, x.o, x.m, x.p⟩
end

/-! ## operands -/
abbrev LM := List C → Option ((List C → Option D) × List C)
def tL (e : En) (m : LM) : TE := fun σ H Q => ∃ σc F g σc', SR e σc σ H F ∧ m σc = some (g, σc') ∧
  ∀ v F' H', SR e σc' σ H' F' → Ext σc σ F H σc' σ F' H' →
    (∀ σ2 F2 H2 d, SR e σ2 σ H2 F2 → Ext σc' σ F' H' σ2 σ F2 H2 → g σ2 = some d → RepH e H2 F2 d v) → Q v H'
def ev (m : EM) : LM := fun σ => (m σ).bind fun p => p.1.dat.map fun d => (fun _ => some d, p.2)
def sDat (i : Nat) (σ : List C) : Option D := σ[i]?.bind C.dat
def sl (i : Nat) : LM := fun σ => some (sDat i, σ)
def frzO (p : C × List C) : Option (C × List C) := p.1.dat.map fun d => (C.fz d, p.2)
section
variable {X : Cx} {e : En} {a b c : Expr} {pos : Pos}
theorem L.ev {m : EM} (h : PE X a (tE e m)) : PE X a (tL e (ev m)) := by
  refine h.imp fun σ H Q ⟨σc, F, g, σc', s, hm, k⟩ => ?_
  simp only [Sim.ev, Option.bind_eq_some_iff, Option.map_eq_some_iff, Prod.mk.injEq] at hm
  obtain ⟨⟨c, σ1⟩, h1, d, h2, rfl, rfl⟩ := hm
  exact ⟨σc, F, c, σ1, s, h1, fun v F' H' s' x r => k v F' H' s' x fun σ2 F2 H2 d' s2 x2 e2 => by cases e2; exact r.later s' x2 h2⟩
theorem slot_rep {σc : List C} {σ : St} {H F : Hp} {i : Nat} {d : D} {v : V} (s : SR e σc σ H F) (hv : σ[i]? = some (some v)) (h : sDat i σc = some d) : RepH e H F d v := by
  simp only [sDat, Option.bind_eq_some_iff] at h
  obtain ⟨c, h1, h2⟩ := h
  cases c with
  | no => cases h2
  | fz d' =>
    cases h2
    obtain ⟨w, p, q⟩ := s.fz i d h1
    rw [hv] at p; cases p; exact .inl q
  | ob m d' =>
    cases h2
    obtain ⟨a, p, n, o⟩ := s.ob i m d h1
    rw [hv] at p; cases p; exact .inr ⟨a, rfl, n, o⟩
/-- a slot that is read later: it must hold something now -/
def slq (i : Nat) : LM := fun σ => (sDat i σ).bind fun _ => some (sDat i, σ)
theorem L.sl {i : Nat} (h : PE X a (tVar i)) : PE X a (tL e (slq i)) := by
  refine h.imp fun σ H Q ⟨σc, F, g, σc', s, hm, k⟩ => ?_
  simp only [slq, Option.bind_eq_some_iff, Option.some.injEq, Prod.mk.injEq] at hm
  obtain ⟨d, h1, rfl, rfl⟩ := hm
  have hv : ∃ v, σ[i]? = some (some v) := by
    simp only [sDat, Option.bind_eq_some_iff] at h1
    obtain ⟨c, h1, h2⟩ := h1
    cases c with
    | no => cases h2
    | fz d' => obtain ⟨v, p, _⟩ := s.fz i d' h1; exact ⟨v, p⟩
    | ob m d' => obtain ⟨v, p, _⟩ := s.ob i m d' h1; exact ⟨_, p⟩
  obtain ⟨v, hv⟩ := hv
  exact ⟨v, hv, k v F H s (.refl ..) fun σ2 F2 H2 d2 s2 x2 e2 => slot_rep s2 hv e2⟩

/-! ## operations by values -/
def SOp (e : En) (r : R2) (f : D → D → Option C) : Prop := ∀ (σc : List C) (σ : St) (H F : Hp) (d1 d2 : D) (v1 v2 : V) (c : C) (Q : VK), SR e σc σ H F → RepH e H F d1 v1 → RepH e H F d2 v2 → f d1 d2 = some c →
  (∀ v F' H', SR e σc σ H' F' → Ext σc σ F H σc σ F' H' → RepC e σc σ H σc σ F' H' c v → Q v H') → r v1 v2 H Q
def mBin (f : D → D → Option C) (l1 l2 : LM) : EM := fun σ => (l1 σ).bind fun p => (l2 p.2).bind fun q => (p.1 q.2).bind fun x => (q.1 q.2).bind fun y => (f x y).map fun c => (c, q.2)
theorem op2 {r : R2} {f : D → D → Option C} {m1 m2 : LM} {ta tb : TE} (so : SOp e r f) (ha : ∀ σ H Q, tL e m1 σ H Q → ta σ H Q) (hb : ∀ σ H Q, tL e m2 σ H Q → tb σ H Q) {σ : St} {H : Hp} {Q : VK} (h : tE e (mBin f m1 m2) σ H Q) :
    ta σ H fun x H1 => tb σ H1 fun y H2 => r x y H2 Q := by
  obtain ⟨σc, F, c, σc', s, hm, k⟩ := h
  simp only [mBin, Option.bind_eq_some_iff, Option.map_eq_some_iff, Prod.mk.injEq] at hm
  obtain ⟨⟨g1, σ1⟩, h1, ⟨g2, σ2⟩, h2, x, h3, y, h4, c', h5, rfl, rfl⟩ := hm
  refine ha _ _ _ ⟨σc, F, g1, σ1, s, h1, fun v1 F1 H1 s1 x1 r1 => hb _ _ _ ⟨σ1, F1, g2, σ2, s1, h2, fun v2 F2 H2 s2 x2 r2 => ?_⟩⟩
  have q1 := r1 σ2 F2 H2 x s2 x2 h3
  have q2 := r2 σ2 F2 H2 y s2 (.refl ..) h4
  exact so σ2 σ H2 F2 x y v1 v2 c' Q s2 q1 q2 h5 fun v F' H' s' x' r' => k v F' H' s' ((x1.trans x2).trans x') (r'.base (x1.trans x2))
theorem E.bin {op : Operator} {r : R2} {f : D → D → Option C} {m1 m2 : LM} (ho : OpR X (binaryOp op) r) (so : SOp e r f) (ha : PE X a (tL e m1)) (hb : PE X b (tL e m2)) : PE X (.BinOp a op b pos) (tE e (mBin f m1 m2)) :=
  (pe_op ho ha hb).imp fun _ _ _ h => op2 so (fun _ _ _ h => h) (fun _ _ _ h => h) h
theorem E.cmp {op : CmpOp} {r : R2} {f : D → D → Option C} {m1 m2 : LM} (ho : OpR X (compareOp op) r) (so : SOp e r f) (ha : PE X a (tL e m1)) (hb : PE X b (tL e m2)) (hm : behindInMarks op b = false) : PE X (.Compare a [op] [b] pos) (tE e (mBin f m1 m2)) :=
  (pe_cmpR ho ha hb hm).imp fun _ _ _ h => op2 so (fun _ _ _ h => h) (fun _ _ _ h => h) h
/-- an expression's value as a test -/
def eT (m : EM) : TM := fun σ => (m σ).bind fun p => match p.1 with | .fz (.bl b) => some (b, p.2) | _ => none
theorem eT_some {m : EM} {σ σ' : List C} {b : Bool} : eT m σ = some (b, σ') ↔ m σ = some (.fz (.bl b), σ') := by
  simp only [eT, Option.bind_eq_some_iff]
  constructor
  · rintro ⟨⟨c, σ1⟩, h1, h2⟩
    rw [h1]
    split at h2 <;> first | (cases h2; rename_i h; dsimp only at h; subst h; rfl) | cases h2
  · intro h
    exact ⟨_, h, rfl⟩
theorem tT_of {m : EM} {σ : St} {H : Hp} {Q : Bool → Hp → Prop} (h : tT e (eT m) σ H Q) : tE e m σ H fun x H1 => ∃ c, x = .bl c ∧ Q c H1 := by
  obtain ⟨σc, F, c, σc', s, hm, k⟩ := h
  exact ⟨σc, F, _, σc', s, eT_some.mp hm, fun v F' H' s' x r => ⟨c, r, k F' H' s' x⟩⟩
theorem T.cmp {op : CmpOp} {r : R2} {f : D → D → Option C} {m1 m2 : LM} (ho : OpR X (compareOp op) r) (so : SOp e r f) (ha : PE X a (tL e m1)) (hb : PE X b (tL e m2)) (hm : behindInMarks op b = false) : PT X (.Compare a [op] [b] pos) (tT e (eT (mBin f m1 m2))) :=
  (pt_cmpR ho ha hb hm).imp fun _ _ _ h => op2 so (fun _ _ _ h => h) (fun _ _ _ h => h) (tT_of h)
theorem T.val {m : EM} (h : PE X a (tE e m)) (he : ∀ whole, isTrue a X.env whole = (do let v ← whole; standAt a.pos; holding [v] (truthy v)) := by intro _; rfl) : PT X a (tT e (eT m)) :=
  (pt_val h he).imp fun _ _ _ h => tT_of h

/-! ## names and constants -/
def mC (d : D) : EM := fun σ => some (.fz d, σ)
theorem E.int {i : Int} {j pos} : PE X (.Constant (.int i) j pos) (tE e (mC (.int i))) := pe_int.imp fun σ H Q ⟨σc, F, c, σc', s, hm, k⟩ => by cases hm; exact k _ F H s (.refl ..) rfl
theorem E.bl {i : Bool} {j pos} : PE X (.Constant (.bool i) j pos) (tE e (mC (.bl i))) := pe_bl.imp fun σ H Q ⟨σc, F, c, σc', s, hm, k⟩ => by cases hm; exact k _ F H s (.refl ..) rfl
theorem E.non {j pos} : PE X (.Constant .none j pos) (tE e (mC .non)) := pe_non.imp fun σ H Q ⟨σc, F, c, σc', s, hm, k⟩ => by cases hm; exact k _ F H s (.refl ..) rfl
theorem E.str {i : Str} {j pos} : PE X (.Constant (.str i) j pos) (tE e (mC (.str i))) := pe_str.imp fun σ H Q ⟨σc, F, c, σc', s, hm, k⟩ => by cases hm; exact k _ F H s (.refl ..) rfl
/-- a constant of the module -/
theorem E.gl {x : Str} {v : V} {u : Value} {d : D} {p : Pos} (hg : Gl X x) (hm : X.mg x = some u) (r : RelV v u) (hr : ∀ F, Rep e F d v) (hd : (x == ("__debug__" : Str)) = false := by decide) : PE X (.Name x p) (tE e (mC d)) :=
  (pe_glob hg hm r hd).imp fun σ H Q ⟨σc, F, c, σc', s, hm, k⟩ => by cases hm; exact k _ F H s (.refl ..) (hr F)

/-- read; an own object is frozen by it -/
def mVar (i : Nat) : EM := fun σ => match σ[i]? with
  | some (.fz d) => some (.fz d, σ)
  | some (.ob .ow d) => some (.fz d, σ.set i (.fz d))
  | _ => none
theorem getSet {α : Type} {l : List α} {i j : Nat} {x y : α} (h : (l.set i x)[j]? = some y) : (i = j ∧ x = y ∧ i < l.length) ∨ (i ≠ j ∧ l[j]? = some y) := by
  by_cases e : i = j
  · subst e
    by_cases hl : i < l.length
    · rw [List.getElem?_set_self hl] at h; cases h; exact .inl ⟨rfl, rfl, hl⟩
    · rw [List.getElem?_eq_none (by simpa using hl)] at h; cases h
  · rw [List.getElem?_set_ne e] at h; exact .inr ⟨e, h⟩
/-- an own slot is frozen -/
theorem SR.frzSlot {σc : List C} {σ : St} {H F : Hp} {i : Nat} {d : D} (s : SR e σc σ H F) (h : σc[i]? = some (.ob .ow d)) :
    ∃ a F', σ[i]? = some (some (.ref a)) ∧ Rep e F' d (.ref a) ∧ SR e (σc.set i (.fz d)) σ H F' ∧ Ext σc σ F H (σc.set i (.fz d)) σ F' H := by
  obtain ⟨a, p, n, o⟩ := s.ob i _ d h
  obtain ⟨ho, e1⟩ := o.some
  have sub : Sub F (upd F a ho) := fun b u z => by rw [upd_ne (ne_of_none z n)]; exact z
  have rp : Rep e (upd F a ho) d (.ref a) := o.rep sub (by rw [upd_same, e1])
  have ow : Own σc σ a := ⟨i, _, d, h, by decide, p⟩
  refine ⟨a, upd F a ho, p, rp, ⟨by rw [List.length_set]; exact s.len, fun b u z => ?_, fun j d' z => ?_, fun j m d' z => ?_, fun j k m d1 m' d2 z1 z2 z3 => ?_⟩, ⟨sub, fun b u z _ => z, fun b u z => ?_, fun b w => ?_, fun j m d' z ne => ?_, fun j d' z => (getSet z).elim (fun y => nomatch y.2.1) fun y => ⟨y.2, rfl⟩⟩⟩
  · by_cases y : b = a
    · subst y; rw [upd_same] at z; cases z; exact e1
    · rw [upd_ne y] at z; exact s.sub b u z
  · rcases getSet z with ⟨rfl, z1, _⟩ | ⟨ne, z1⟩
    · cases z1; exact ⟨_, p, rp⟩
    · obtain ⟨v, y1, y2⟩ := s.fz j d' z1
      exact ⟨v, y1, y2.mono sub⟩
  · rcases getSet z with ⟨rfl, z1, _⟩ | ⟨ne, z1⟩
    · cases z1
    · obtain ⟨b, y1, y2, y3⟩ := s.ob j m d' z1
      have nb : b ≠ a := fun y => by subst y; exact ne (s.inj i j _ _ _ _ h z1 (p.trans y1.symm))
      exact ⟨b, y1, by rw [upd_ne nb]; exact y2, y3.mono sub rfl⟩
  · rcases getSet z1 with ⟨_, y, _⟩ | ⟨_, y1⟩
    · cases y
    · rcases getSet z2 with ⟨_, y, _⟩ | ⟨_, y2⟩
      · cases y
      · exact s.inj j k _ _ _ _ y1 y2 z3
  · by_cases y : b = a
    · subst y; exact .inr (.inr ow)
    · rw [upd_ne y] at z; exact .inl z
  · obtain ⟨j, m, d', z1, z2, z3⟩ := w
    rcases getSet z1 with ⟨_, y, _⟩ | ⟨_, y1⟩
    · cases y
    · exact .inl ⟨j, m, d', y1, z2, z3⟩
  · refine ⟨rfl, d', ?_, fun _ => rfl⟩
    have nij : i ≠ j := fun y => by subst y; rw [h] at z; cases z; exact ne rfl
    rw [List.getElem?_set_ne nij]; exact z
theorem E.var {i : Nat} (h : PE X a (tVar i)) : PE X a (tE e (mVar i)) := by
  refine h.imp fun σ H Q ⟨σc, F, c, σc', s, hm, k⟩ => ?_
  simp only [mVar] at hm
  split at hm
  · rename_i d h1
    cases hm
    obtain ⟨v, p, q⟩ := s.fz i d h1
    exact ⟨v, p, k v F H s (.refl ..) q⟩
  · rename_i d h1
    cases hm
    obtain ⟨a, F', p, rp, s', x⟩ := s.frzSlot h1
    exact ⟨_, p, k _ F' H s' x rp⟩
  · cases hm
/-- given away (return x) -/
def mMove (i : Nat) : EM := fun σ => match σ[i]? with
  | some (.fz d) => some (.fz d, σ)
  | some (.ob .ow d) => some (.ob .ow d, σ.set i .no)
  | _ => none
/-- a slot of no mark is emptied -/
theorem SR.drop {σc : List C} {σ : St} {H F : Hp} {i : Nat} (s : SR e σc σ H F) (hm : ∀ m d, σc[i]? = some (.ob m d) → m = .ow) : SR e (σc.set i .no) σ H F ∧ Ext σc σ F H (σc.set i .no) σ F H := by
  refine ⟨⟨by rw [List.length_set]; exact s.len, s.sub, fun j d' z => ?_, fun j m d' z => ?_, fun j k m d1 m' d2 z1 z2 z3 => ?_⟩, ⟨.refl F, fun b u z _ => z, fun b u z => .inl z, fun b w => ?_, fun j m d' z ne => ?_, fun j d' z => (getSet z).elim (fun y => nomatch y.2.1) fun y => ⟨y.2, rfl⟩⟩⟩
  · rcases getSet z with ⟨_, y, _⟩ | ⟨_, y⟩
    · cases y
    · exact s.fz j d' y
  · rcases getSet z with ⟨_, y, _⟩ | ⟨_, y⟩
    · cases y
    · exact s.ob j m d' y
  · rcases getSet z1 with ⟨_, y, _⟩ | ⟨_, y1⟩
    · cases y
    · rcases getSet z2 with ⟨_, y, _⟩ | ⟨_, y2⟩
      · cases y
      · exact s.inj j k _ _ _ _ y1 y2 z3
  · obtain ⟨j, m, d', z1, z2, z3⟩ := w
    rcases getSet z1 with ⟨_, y, _⟩ | ⟨_, y1⟩
    · cases y
    · exact .inl ⟨j, m, d', y1, z2, z3⟩
  · have nij : i ≠ j := fun y => by subst y; exact ne (hm m d' z)
    exact ⟨rfl, d', by rw [List.getElem?_set_ne nij]; exact z, fun _ => rfl⟩
theorem E.move {i : Nat} (h : PE X a (tVar i)) : PE X a (tE e (mMove i)) := by
  refine h.imp fun σ H Q ⟨σc, F, c, σc', s, hm, k⟩ => ?_
  simp only [mMove] at hm
  split at hm
  · rename_i d h1
    cases hm
    obtain ⟨v, p, q⟩ := s.fz i d h1
    exact ⟨v, p, k v F H s (.refl ..) q⟩
  · rename_i d h1
    cases hm
    obtain ⟨a, p, n, o⟩ := s.ob i _ d h1
    obtain ⟨s', x⟩ := s.drop (i := i) fun m d' z => by rw [h1] at z; cases z; rfl
    have no : ∀ (j : Nat) (m : Md) (d' : D), (σc.set i .no)[j]? = some (.ob m d') → σ[j]? ≠ some (some (.ref a)) := fun j m d' z q => by
      rcases getSet z with ⟨_, y, _⟩ | ⟨ne, y⟩
      · cases y
      · exact ne (s.inj i j _ _ _ _ h1 y (p.trans q.symm))
    exact ⟨_, p, k _ F H s' x ⟨a, rfl, n, fun ⟨j, m, d', z1, _, z3⟩ => no j m d' z1 z3, o, .inr ⟨i, _, d, h1, by decide, p⟩, no⟩⟩
  · cases hm

/-! ## and, or, not, if -/
def mAndT (t u : TM) : TM := fun σ => (t σ).bind fun p => if p.1 = true then u p.2 else some (false, p.2)
def mOrT (t u : TM) : TM := fun σ => (t σ).bind fun p => if p.1 = true then some (true, p.2) else u p.2
def mNotT (t : TM) : TM := fun σ => (t σ).map fun p => (!p.1, p.2)
theorem tT_bind {t : TM} {u : Bool → TM} {σ : St} {H : Hp} {Q : Bool → Hp → Prop} (h : tT e (fun σ => (t σ).bind fun p => u p.1 p.2) σ H Q) : tT e t σ H fun b H1 => tT e (u b) σ H1 Q := by
  obtain ⟨σc, F, c, σc', s, hm, k⟩ := h
  obtain ⟨⟨b, σ1⟩, h1, h2⟩ := Option.bind_eq_some_iff.mp hm
  exact ⟨σc, F, b, σ1, s, h1, fun F1 H1 s1 x1 => ⟨σ1, F1, c, σc', s1, h2, fun F2 H2 s2 x2 => k F2 H2 s2 (x1.trans x2)⟩⟩
theorem tT_pure {b : Bool} {σ : St} {H : Hp} {Q : Bool → Hp → Prop} (h : tT e (fun σ => some (b, σ)) σ H Q) : Q b H := by
  obtain ⟨σc, F, c, σc', s, hm, k⟩ := h
  cases hm
  exact k F H s (.refl ..)
theorem T.and1 {t : TM} (ha : PT X a (tT e t)) : PW X (.BoolOp .And [a] pos) (tT e t) := pw_and1 ha
theorem T.or1 {t : TM} (ha : PT X a (tT e t)) : PW X (.BoolOp .Or [a] pos) (tT e t) := pw_or1 ha
theorem _root_.L2.PW.imp {e : Expr} {t t' : TT} (h : PW X e t) (k : ∀ σ H Q, t' σ H Q → t σ H Q) : PW X e t' := ⟨fun w pins s σ H Q I q => h.run w pins s σ H Q I (k _ _ _ q)⟩
theorem tT_congr {t u : TM} (h : ∀ σ, t σ = u σ) {σ : St} {H : Hp} {Q : Bool → Hp → Prop} (q : tT e t σ H Q) : tT e u σ H Q := by
  obtain ⟨σc, F, c, σc', s, hm, k⟩ := q
  exact ⟨σc, F, c, σc', s, (h σc).symm.trans hm, k⟩
theorem T.and {rest : List Expr} {t u : TM} (ha : PT X a (tT e t)) (hb : PW X (.BoolOp .And (b :: rest) pos) (tT e u)) : PW X (.BoolOp .And (a :: b :: rest) pos) (tT e (mAndT t u)) := by
  refine (pw_and ha hb).imp fun σ H Q h => ?_
  obtain ⟨σc, F, c, σc', s, hm, k⟩ := tT_bind (t := t) (u := fun b σ => if b = true then u σ else some (false, σ)) h
  refine ⟨σc, F, c, σc', s, hm, fun F' H' s' x' => ?_⟩
  have q := k F' H' s' x'
  cases c with
  | true => exact tT_congr (fun σ => if_pos rfl) q
  | false => exact tT_pure (tT_congr (fun σ => if_neg Bool.false_ne_true) q)
theorem T.or {rest : List Expr} {t u : TM} (ha : PT X a (tT e t)) (hb : PW X (.BoolOp .Or (b :: rest) pos) (tT e u)) : PW X (.BoolOp .Or (a :: b :: rest) pos) (tT e (mOrT t u)) := by
  refine (pw_or ha hb).imp fun σ H Q h => ?_
  obtain ⟨σc, F, c, σc', s, hm, k⟩ := tT_bind (t := t) (u := fun b σ => if b = true then some (true, σ) else u σ) h
  refine ⟨σc, F, c, σc', s, hm, fun F' H' s' x' => ?_⟩
  have q := k F' H' s' x'
  cases c with
  | true => exact tT_pure (tT_congr (fun σ => if_pos rfl) q)
  | false => exact tT_congr (fun σ => if_neg Bool.false_ne_true) q
theorem T.not {t : TM} (ha : PT X a (tT e t)) : PT X (.UnaryOp .Not a pos) (tT e (mNotT t)) := by
  refine (pt_not ha).imp fun σ H Q h => ?_
  obtain ⟨σc, F, c, σc', s, hm, k⟩ := h
  simp only [mNotT, Option.map_eq_some_iff, Prod.mk.injEq] at hm
  obtain ⟨⟨b, σ1⟩, h1, rfl, rfl⟩ := hm
  exact ⟨σc, F, b, σ1, s, h1, k⟩
/-- .. as values, of truths -/
def asB (c : C) : Option Bool := match c with | .fz (.bl b) => some b | _ => none
theorem asB_some {c : C} {b : Bool} (h : asB c = some b) : c = .fz (.bl b) := by
  unfold asB at h; split at h <;> cases h; rfl
def mAnd (t u : EM) : EM := fun σ => (t σ).bind fun p => (asB p.1).bind fun b => if b = true then u p.2 else some (.fz (.bl false), p.2)
def mOr (t u : EM) : EM := fun σ => (t σ).bind fun p => (asB p.1).bind fun b => if b = true then some (.fz (.bl true), p.2) else u p.2
def mNot (t : EM) : EM := fun σ => (t σ).bind fun p => (asB p.1).map fun b => (.fz (.bl (!b)), p.2)
theorem E.one {op} {m : EM} (h : PE X a (tE e m)) : PE X (.BoolOp op [a] pos) (tE e m) := pe_one h
theorem E.and {rest : List Expr} {t u : EM} (ha : PE X a (tE e t)) (hb : PE X (.BoolOp .And (b :: rest) pos) (tE e u)) : PE X (.BoolOp .And (a :: b :: rest) pos) (tE e (mAnd t u)) := by
  refine (pe_and ha hb).imp fun σ H Q ⟨σc, F, c, σc', s, hm, k⟩ => ?_
  simp only [mAnd, Option.bind_eq_some_iff] at hm
  obtain ⟨⟨c1, σ1⟩, h1, d, h2, h3⟩ := hm
  cases asB_some h2
  refine ⟨σc, F, _, σ1, s, h1, fun v F1 H1 s1 x1 r1 => ⟨d, r1, ?_⟩⟩
  cases d with
  | true => rw [if_pos rfl] at h3 ⊢; exact ⟨σ1, F1, c, σc', s1, h3, fun v F2 H2 s2 x2 r2 => k v F2 H2 s2 (x1.trans x2) (r2.base x1)⟩
  | false => rw [if_neg Bool.false_ne_true] at h3 ⊢; cases h3; exact k _ F1 H1 s1 x1 rfl
theorem E.or {rest : List Expr} {t u : EM} (ha : PE X a (tE e t)) (hb : PE X (.BoolOp .Or (b :: rest) pos) (tE e u)) : PE X (.BoolOp .Or (a :: b :: rest) pos) (tE e (mOr t u)) := by
  refine (pe_or ha hb).imp fun σ H Q ⟨σc, F, c, σc', s, hm, k⟩ => ?_
  simp only [mOr, Option.bind_eq_some_iff] at hm
  obtain ⟨⟨c1, σ1⟩, h1, d, h2, h3⟩ := hm
  cases asB_some h2
  refine ⟨σc, F, _, σ1, s, h1, fun v F1 H1 s1 x1 r1 => ⟨d, r1, ?_⟩⟩
  cases d with
  | true => rw [if_pos rfl] at h3 ⊢; cases h3; exact k _ F1 H1 s1 x1 rfl
  | false => rw [if_neg Bool.false_ne_true] at h3 ⊢; exact ⟨σ1, F1, c, σc', s1, h3, fun v F2 H2 s2 x2 r2 => k v F2 H2 s2 (x1.trans x2) (r2.base x1)⟩
theorem E.not {t : EM} (ha : PE X a (tE e t)) : PE X (.UnaryOp .Not a pos) (tE e (mNot t)) := by
  refine (pe_not ha).imp fun σ H Q ⟨σc, F, c, σc', s, hm, k⟩ => ?_
  simp only [mNot, Option.bind_eq_some_iff, Option.map_eq_some_iff, Prod.mk.injEq] at hm
  obtain ⟨⟨c1, σ1⟩, h1, d, h2, rfl, rfl⟩ := hm
  cases asB_some h2
  exact ⟨σc, F, _, σ1, s, h1, fun v F1 H1 s1 x1 r1 => ⟨d, r1, k _ F1 H1 s1 x1 rfl⟩⟩
def mIf (t : TM) (m1 m2 : EM) : EM := fun σ => (t σ).bind fun p => if p.1 = true then m1 p.2 else m2 p.2
theorem E.ite {t : TM} {m1 m2 : EM} (hc : PT X c (tT e t)) (ha : PE X a (tE e m1)) (hb : PE X b (tE e m2)) : PE X (.IfExp c a b pos) (tE e (mIf t m1 m2)) := by
  refine (pe_ifExp hc ha hb).imp fun σ H Q ⟨σc, F, c, σc', s, hm, k⟩ => ?_
  simp only [mIf, Option.bind_eq_some_iff] at hm
  obtain ⟨⟨d, σ1⟩, h1, h3⟩ := hm
  refine ⟨σc, F, _, σ1, s, h1, fun F1 H1 s1 x1 => ?_⟩
  cases d with
  | true => rw [if_pos rfl] at h3 ⊢; exact ⟨σ1, F1, c, σc', s1, h3, fun v F2 H2 s2 x2 r2 => k v F2 H2 s2 (x1.trans x2) (r2.base x1)⟩
  | false => rw [if_neg Bool.false_ne_true] at h3 ⊢; exact ⟨σ1, F1, c, σc', s1, h3, fun v F2 H2 s2 x2 r2 => k v F2 H2 s2 (x1.trans x2) (r2.base x1)⟩
/-- a < b < c -/
def mChain (f f' : D → D → Option C) (l1 l2 l3 : LM) : EM := fun σ => (l1 σ).bind fun p => (l2 p.2).bind fun q => (p.1 q.2).bind fun x => (q.1 q.2).bind fun y => (f x y).bind fun z => (asB z).bind fun b =>
  if b = true then (l3 q.2).bind fun r => (q.1 r.2).bind fun y' => (r.1 r.2).bind fun w => (f' y' w).map fun z => (z, r.2) else some (.fz (.bl false), q.2)
end
end Sim

set_option Elab.async false
set_option linter.all false
set_option maxRecDepth 100000
namespace Sim
open PySem PySem.Spec L2
open PyProof.Rows hiding St
section
variable {e : En} {H F : Hp} {v : V}
theorem RepH.int {i : Int} (h : RepH e H F (.int i) v) : v = .int i := by
  rcases h with h | ⟨a, _, _, h⟩
  · exact h
  · exact h.elim
theorem RepH.bl {i : Bool} (h : RepH e H F (.bl i) v) : v = .bl i := by
  rcases h with h | ⟨a, _, _, h⟩
  · exact h
  · exact h.elim
theorem RepH.str {i : Str} (h : RepH e H F (.str i) v) : v = .str i := by
  rcases h with h | ⟨a, _, _, h⟩
  · exact h
  · exact h.elim
theorem RepH.non (h : RepH e H F .non v) : v = .non := by
  rcases h with h | ⟨a, _, _, h⟩
  · exact h
  · exact h.elim
theorem RepH.lst {l : List D} (s : Sub F H) (h : RepH e H F (.lst l) v) : ∃ a vs, v = .ref a ∧ H a = some (.lst vs) ∧ Reps e F l vs := by
  rcases h with ⟨a, vs, p, q, r⟩ | ⟨a, p, _, vs, q, r⟩
  · exact ⟨a, vs, p, s _ _ q, r⟩
  · exact ⟨a, vs, p, q, r⟩
theorem RepH.tup {l : List D} (s : Sub F H) (h : RepH e H F (.tup l) v) : ∃ a vs, v = .ref a ∧ SqT e.K H a vs ∧ Reps e F l vs := by
  rcases h with ⟨a, vs, p, q, r⟩ | ⟨a, _, _, h⟩
  · exact ⟨a, vs, p, s.tup q, r⟩
  · exact h.elim
theorem RepH.tupF {l : List D} (h : RepH e H F (.tup l) v) : Rep e F (.tup l) v := by
  rcases h with h | ⟨a, _, _, h⟩
  · exact h
  · exact h.elim
/-- items of a list, a foreign list, a tuple -/
def items : D → Option (List D)
  | .lst l => some l
  | .frl l => some l
  | .tup l => some l
  | _ => none
theorem RepH.items {d : D} {l : List D} (s : Sub F H) (h : RepH e H F d v) (k : items d = some l) : ∃ a vs, v = .ref a ∧ (SqL e.K H a vs ∨ SqT e.K H a vs) ∧ Reps e F l vs := by
  cases d <;> simp only [Sim.items, reduceCtorEq, Option.some.injEq] at k
  · subst k
    obtain ⟨a, vs, p, q, r⟩ := h.tup s
    exact ⟨a, vs, p, .inr q, r⟩
  · subst k
    obtain ⟨a, vs, p, q, r⟩ := h.lst s
    exact ⟨a, vs, p, .inl (.inl (.inl q)), r⟩
  · subst k
    rcases h with ⟨a, vs, p, q, r⟩ | ⟨a, _, _, h⟩
    · exact ⟨a, vs, p, .inl (s.seq q), r⟩
    · exact h.elim

/-! ## operations on intsOf -/
def fI (g : Int → Int → D) (x y : D) : Option C := match x, y with
  | .int i, .int j => some (.fz (g i j))
  | _, _ => none
theorem fI_some {g : Int → Int → D} {x y : D} {c : C} (h : fI g x y = some c) : ∃ i j, x = .int i ∧ y = .int j ∧ c = .fz (g i j) := by
  unfold fI at h; split at h
  · cases h; exact ⟨_, _, rfl, rfl, rfl⟩
  · cases h
theorem so_I {g : Int → Int → V} {g' : Int → Int → D} (hg : ∀ i j F, Rep e F (g' i j) (g i j)) : SOp e (rI0 g) (fI g') := by
  intro σc σ H F d1 d2 v1 v2 c Q s h1 h2 hf k
  obtain ⟨i, j, rfl, rfl, rfl⟩ := fI_some hf
  exact ⟨i, j, h1.int, h2.int, k _ F H s (.refl ..) (hg i j F)⟩
def fIC (C' : Int → Int → Bool) (g : Int → Int → D) (x y : D) : Option C := match x, y with
  | .int i, .int j => if C' i j = true then some (.fz (g i j)) else none
  | _, _ => none
theorem so_IC {C0 : Int → Int → Prop} {C' : Int → Int → Bool} {g : Int → Int → V} {g' : Int → Int → D} (hc : ∀ i j, C' i j = true → C0 i j) (hg : ∀ i j F, Rep e F (g' i j) (g i j)) : SOp e (rI C0 g) (fIC C' g') := by
  intro σc σ H F d1 d2 v1 v2 c Q s h1 h2 hf k
  unfold fIC at hf; split at hf
  · rename_i i j
    split at hf
    · rename_i hcc
      cases hf
      exact ⟨i, j, h1.int, h2.int, hc i j hcc, k _ F H s (.refl ..) (hg i j F)⟩
    · cases hf
  · cases hf
def dAdd := fI fun i j => .int (i + j)
def dSub := fI fun i j => .int (i - j)
def okMul (i j : Int) : Bool := decide (i.natAbs < 18446744073709551616) || decide (j.natAbs < 18446744073709551616)
def dMul := fIC okMul fun i j => .int (i * j)
def okDiv (_ j : Int) : Bool := decide (j ≠ 0) && decide (j.natAbs < 1073741824)
def dDiv := fIC okDiv fun i j => .int (i.fdiv j)
def dMod := fIC (fun _ j => decide (j ≠ 0)) fun i j => .int (i.fmod j)
def okPow (i j : Int) : Bool := decide (0 ≤ j) && decide (j ≤ 1000000) && decide (i.natAbs < 18446744073709551616)
def dPow := fIC okPow fun i j => .int (i ^ j.toNat)
def dShl := fIC okPow fun i j => .int (i * 2 ^ j.toNat)
def dAnd := fI fun i j => .int (Builtin.bitAnd i j)
def dOr := fI fun i j => .int (Builtin.bitOr i j)
def dXor := fI fun i j => .int (Builtin.bitXor i j)
def dLt := fI fun i j => .bl (decide (i < j))
def dLe := fI fun i j => .bl (decide (i ≤ j))
def dGt := fI fun i j => .bl (decide (j < i))
def dGe := fI fun i j => .bl (decide (j ≤ i))
theorem so_add : SOp e (rI0 fun i j => .int (i + j)) dAdd := so_I fun _ _ _ => rfl
theorem so_sub : SOp e (rI0 fun i j => .int (i - j)) dSub := so_I fun _ _ _ => rfl
theorem so_mul : SOp e (rI CMul fun i j => .int (i * j)) dMul := so_IC (fun i j h => by
  simp only [okMul, Bool.or_eq_true, decide_eq_true_eq] at h
  unfold CMul
  have e : (2 : Int) ^ 64 = 18446744073709551616 := by decide
  rw [e]
  omega) fun _ _ _ => rfl
theorem so_div : SOp e (rI CDivN fun i j => .int (i.fdiv j)) dDiv := so_IC (fun i j h => by
  simp only [okDiv, Bool.and_eq_true, decide_eq_true_eq] at h
  exact h) fun _ _ _ => rfl
theorem so_mod : SOp e (rI (fun _ j => j ≠ 0) fun i j => .int (i.fmod j)) dMod := so_IC (fun i j h => by simpa using h) fun _ _ _ => rfl
theorem so_pow : SOp e (rI CPow fun i j => .int (i ^ j.toNat)) dPow := so_IC (fun i j h => by
  simp only [okPow, Bool.and_eq_true, decide_eq_true_eq] at h
  have e : (2 : Nat) ^ 64 = 18446744073709551616 := by decide
  exact ⟨h.1.1, h.1.2, by rw [e]; exact h.2⟩) fun _ _ _ => rfl
theorem so_shl : SOp e (rI CPow fun i j => .int (i * 2 ^ j.toNat)) dShl := so_IC (fun i j h => by
  simp only [okPow, Bool.and_eq_true, decide_eq_true_eq] at h
  have e : (2 : Nat) ^ 64 = 18446744073709551616 := by decide
  exact ⟨h.1.1, h.1.2, by rw [e]; exact h.2⟩) fun _ _ _ => rfl
theorem so_and : SOp e (rI0 fun i j => .int (Builtin.bitAnd i j)) dAnd := so_I fun _ _ _ => rfl
theorem so_or : SOp e (rI0 fun i j => .int (Builtin.bitOr i j)) dOr := so_I fun _ _ _ => rfl
theorem so_xor : SOp e (rI0 fun i j => .int (Builtin.bitXor i j)) dXor := so_I fun _ _ _ => rfl
theorem so_lt : SOp e (rI0 fun i j => .bl (decide (i < j))) dLt := so_I fun _ _ _ => rfl
theorem so_le : SOp e (rI0 fun i j => .bl (decide (i ≤ j))) dLe := so_I fun _ _ _ => rfl
theorem so_gt : SOp e (rI0 fun i j => .bl (decide (j < i))) dGt := so_I fun _ _ _ => rfl
theorem so_ge : SOp e (rI0 fun i j => .bl (decide (j ≤ i))) dGe := so_I fun _ _ _ => rfl

/-! ## == of data -/
mutual
def pd : D → Option PyData
  | .non => some .none
  | .bl b => some (.bool b)
  | .int i => some (.int i)
  | .str x => some (.str x)
  | .tup l => (pds l).map .tuple
  | .lst l => (pds l).map .list
  | .frl l => (pds l).map .list
  | _ => none
def pds : List D → Option (List PyData)
  | [] => some []
  | d :: l => (pd d).bind fun x => (pds l).map fun r => x :: r
end
mutual
theorem rep_dp : ∀ (d : D) (v : V) (p : PyData), Rep e F d v → pd d = some p → Dp e.K F v p
  | .non, _, _, h, k => by cases h; cases k; exact .non
  | .bl _, _, _, h, k => by cases h; cases k; exact .bl _
  | .int _, _, _, h, k => by cases h; cases k; exact .int _
  | .str _, _, _, h, k => by cases h; cases k; exact .str _
  | .tup l, _, _, ⟨a, vs, p, q, r⟩, k => by
    simp only [pd, Option.map_eq_some_iff] at k
    obtain ⟨ps, k1, rfl⟩ := k
    subst p; exact .tup q (reps_dp l vs ps r k1)
  | .lst l, _, _, ⟨a, vs, p, q, r⟩, k => by
    simp only [pd, Option.map_eq_some_iff] at k
    obtain ⟨ps, k1, rfl⟩ := k
    subst p; exact .lst (.inl (.inl q)) (reps_dp l vs ps r k1)
  | .frl l, _, _, ⟨a, vs, p, q, r⟩, k => by
    simp only [pd, Option.map_eq_some_iff] at k
    obtain ⟨ps, k1, rfl⟩ := k
    subst p; exact .lst q (reps_dp l vs ps r k1)
  | .dct _, _, _, _, k => by simp [pd] at k
  | .dcT _, _, _, _, k => by simp [pd] at k
  | .ins _ _, _, _, _, k => by simp [pd] at k
theorem reps_dp : ∀ (l : List D) (vs : List V) (ps : List PyData), Reps e F l vs → pds l = some ps → DpAll e.K F vs ps
  | [], _, _, h, k => by cases h; cases k; exact .nil
  | d :: l, _, _, ⟨v, r, p, q, t⟩, k => by
    simp only [pds, Option.bind_eq_some_iff, Option.map_eq_some_iff] at k
    obtain ⟨x, k1, ys, k2, rfl⟩ := k
    subst p
    exact .cons (rep_dp d v x q k1) (reps_dp l r ys t k2)
end
theorem RepH.dp {d : D} {p : PyData} (s : Sub F H) (h : RepH e H F d v) (k : pd d = some p) : Dp e.K H v p := by
  rcases h with h | ⟨a, rfl, _, h⟩
  · exact rep_dp d v p (Rep.mono s _ _ h) k
  · cases d <;> first | exact h.elim | skip
    · obtain ⟨vs, q, r⟩ := h
      simp only [pd, Option.map_eq_some_iff] at k
      obtain ⟨ps, k1, rfl⟩ := k
      exact .lst (.inl (.inl q)) (reps_dp _ vs ps (r.mono s) k1)
    · simp [pd] at k
    · simp [pd] at k
    · simp [pd] at k
def eqD (x y : D) : Option Bool := (pd x).bind fun p => (pd y).bind fun q => if (SeqAt.shaped p && SeqAt.shaped q) = true then some (PyData.eqv p q) else none
def dEq (x y : D) : Option C := (eqD x y).map fun b => .fz (.bl b)
def dNe (x y : D) : Option C := (eqD x y).map fun b => .fz (.bl (!b))
theorem so_eq : SOp e (rEqD e.K) dEq := by
  intro σc σ H F d1 d2 v1 v2 c Q s h1 h2 hf k
  simp only [dEq, eqD, Option.map_eq_some_iff, Option.bind_eq_some_iff] at hf
  obtain ⟨b, ⟨p, k1, q, k2, hs⟩, rfl⟩ := hf
  split at hs
  · rename_i hsh
    cases hs
    rw [Bool.and_eq_true] at hsh
    exact ⟨p, q, h1.dp s.sub k1, h2.dp s.sub k2, hsh.1, hsh.2, k _ F H s (.refl ..) rfl⟩
  · cases hs
theorem so_ne : SOp e (rNeD e.K) dNe := by
  intro σc σ H F d1 d2 v1 v2 c Q s h1 h2 hf k
  simp only [dNe, eqD, Option.map_eq_some_iff, Option.bind_eq_some_iff] at hf
  obtain ⟨b, ⟨p, k1, q, k2, hs⟩, rfl⟩ := hf
  split at hs
  · rename_i hsh
    cases hs
    rw [Bool.and_eq_true] at hsh
    exact ⟨p, q, h1.dp s.sub k1, h2.dp s.sub k2, hsh.1, hsh.2, k _ F H s (.refl ..) rfl⟩
  · cases hs
/-- is True, is not True, is None .. -/
def isN (x : D) : Bool := match x with | .non => true | _ => false
def dIsN (x y : D) : Option C := match y with | .non => some (.fz (.bl (isN x))) | _ => none
def dNotN (x y : D) : Option C := match y with | .non => some (.fz (.bl (!isN x))) | _ => none
theorem RepH.isN {d : D} (h : RepH e H F d v) : decide (v = .non) = isN d := by
  rcases h with h | ⟨a, rfl, _, h⟩
  · cases d <;> first | (cases h; rfl) | skip
    · obtain ⟨a, vs, rfl, _⟩ := h; rfl
    · obtain ⟨a, vs, rfl, _⟩ := h; rfl
    · obtain ⟨a, vs, rfl, _⟩ := h; rfl
    · obtain ⟨a, ks, rfl, _⟩ := h; rfl
    · obtain ⟨a, ks, rfl, _⟩ := h; rfl
    · obtain ⟨a, C, dx, vs, rfl, _⟩ := h; rfl
  · cases d <;> first | exact h.elim | rfl
theorem so_isN : SOp e (fun x y H Q => y = .non ∧ Q (.bl (decide (x = .non))) H) dIsN := by
  intro σc σ H F d1 d2 v1 v2 c Q s h1 h2 hf k
  unfold dIsN at hf; split at hf
  · cases hf
    exact ⟨h2.non, k _ F H s (.refl ..) (by rw [h1.isN]; rfl)⟩
  · cases hf
theorem so_notN : SOp e (fun x y H Q => y = .non ∧ Q (.bl (!decide (x = .non))) H) dNotN := by
  intro σc σ H F d1 d2 v1 v2 c Q s h1 h2 hf k
  unfold dNotN at hf; split at hf
  · cases hf
    exact ⟨h2.non, k _ F H s (.refl ..) (by rw [h1.isN]; rfl)⟩
  · cases hf

/-! ## calls of what is built in -/
abbrev LAM := List C → Option ((List C → Option (List D)) × List C)
/-- arguments that are read at the call -/
def tLA (e : En) (m : LAM) : TA := fun σ H Q => ∃ σc F g σc', SR e σc σ H F ∧ m σc = some (g, σc') ∧
  ∀ vs F' H', SR e σc' σ H' F' → Ext σc σ F H σc' σ F' H' →
    (∀ σ2 F2 H2 ds, SR e σ2 σ H2 F2 → Ext σc' σ F' H' σ2 σ F2 H2 → g σ2 = some ds → Paired (RepH e H2 F2) ds vs) → Q vs H'
def lNil : LAM := fun σ => some (fun _ => some [], σ)
def lCons (m : LM) (r : LAM) : LAM := fun σ => (m σ).bind fun p => (r p.2).map fun q => (fun σ => (p.1 σ).bind fun d => (q.1 σ).map fun ds => d :: ds, q.2)
variable {X : Cx} {a b c : Expr} {es : List Expr} {pos p : Pos}
theorem A.nil : PA X [] (tLA e lNil) := pa_nil.imp fun σ H Q ⟨σc, F, g, σc', s, hm, k⟩ => by
  cases hm
  exact k [] F H s (.refl ..) fun σ2 F2 H2 ds _ _ z => by cases z; exact .nil
theorem A.cons {m : LM} {r : LAM} (ha : PE X a (tL e m)) (hr : PA X es (tLA e r)) (hs : starEach (a :: es) X.env = (false, eval a X.env) :: starEach es X.env := by rfl) : PA X (a :: es) (tLA e (lCons m r)) := by
  refine (pa_cons ha hr hs).imp fun σ H Q ⟨σc, F, g, σc', s, hm, k⟩ => ?_
  simp only [lCons, Option.bind_eq_some_iff, Option.map_eq_some_iff, Prod.mk.injEq] at hm
  obtain ⟨⟨g1, σ1⟩, h1, ⟨g2, σ2⟩, h2, rfl, rfl⟩ := hm
  refine ⟨σc, F, g1, σ1, s, h1, fun v1 F1 H1 s1 x1 r1 => ⟨σ1, F1, g2, σ2, s1, h2, fun vs F2 H2 s2 x2 r2 => k (v1 :: vs) F2 H2 s2 (x1.trans x2) fun σ3 F3 H3 ds s3 x3 z => ?_⟩⟩
  simp only [Option.bind_eq_some_iff, Option.map_eq_some_iff] at z
  obtain ⟨d, z1, ds', z2, rfl⟩ := z
  exact .cons (r1 σ3 F3 H3 d s3 (x2.trans x3) z1) (r2 σ3 F3 H3 ds' s3 x3 z2)
def SCall (e : En) (r : List V → Hp → VK → Prop) (f : List D → Option C) : Prop := ∀ (σc : List C) (σ : St) (H F : Hp) (ds : List D) (vs : List V) (c : C) (Q : VK), SR e σc σ H F → Paired (RepH e H F) ds vs → f ds = some c →
  (∀ v F' H', SR e σc σ H' F' → Ext σc σ F H σc σ F' H' → RepC e σc σ H σc σ F' H' c v → Q v H') → r vs H Q
def mCallB (f : List D → Option C) (m : LAM) : EM := fun σ => (m σ).bind fun p => (p.1 p.2).bind fun ds => (f ds).map fun c => (c, p.2)
theorem callB_use {r : List V → Hp → VK → Prop} {f : List D → Option C} {m : LAM} (sc : SCall e r f) {σ : St} {H : Hp} {Q : VK} (h : tE e (mCallB f m) σ H Q) : tCB r (tLA e m) σ H Q := by
  obtain ⟨σc, F, c, σc', s, hm, k⟩ := h
  simp only [mCallB, Option.bind_eq_some_iff, Option.map_eq_some_iff, Prod.mk.injEq] at hm
  obtain ⟨⟨g, σ1⟩, h1, ds, h2, c', h3, rfl, rfl⟩ := hm
  refine ⟨σc, F, g, σ1, s, h1, fun vs F1 H1 s1 x1 r1 => ?_⟩
  exact sc σ1 σ H1 F1 ds vs c' Q s1 (r1 σ1 F1 H1 ds s1 (.refl ..) h2) h3 fun v F' H' s' x' r' => k v F' H' s' (x1.trans x') (r'.base x1)
theorem E.callB {x : Str} {id : String} {r : List V → Hp → VK → Prop} {f : List D → Option C} {m : LAM} (hc : CallR X (.builtin id) r) (sc : SCall e r f) (hg : Gl X x) (hm : X.mg x = none) (hv : bootBuiltins x = some (.builtin id)) (ha : PA X (a :: es) (tLA e m)) (hn : x ≠ "__name__" := by decide) (hdb : (x == ("__debug__" : Str)) = false := by decide)
    (he : starEach (a :: es) X.env = (false, eval a X.env) :: starEach es X.env := by rfl) (hpl : (backTo pos (starEach es X.env)).any (·.1) = false := by rfl) : PE X (.Call (.Name x p) (a :: es) [] pos) (tE e (mCallB f m)) :=
  (pe_callB hc hg hm hv ha hn hdb he hpl).imp fun _ _ _ h => callB_use sc h
theorem E.callTy {x : Str} {id : String} {r : List V → Hp → VK → Prop} {f : List D → Option C} {m : LAM} (hc : CallR X (.type id) r) (sc : SCall e r f) (hg : Gl X x) (hm : X.mg x = none) (hv : bootBuiltins x = some (.type id)) (ha : PA X (a :: es) (tLA e m)) (hn : x ≠ "__name__" := by decide) (hdb : (x == ("__debug__" : Str)) = false := by decide)
    (he : starEach (a :: es) X.env = (false, eval a X.env) :: starEach es X.env := by rfl) (hpl : (backTo pos (starEach es X.env)).any (·.1) = false := by rfl) : PE X (.Call (.Name x p) (a :: es) [] pos) (tE e (mCallB f m)) :=
  (pe_callTy hc hg hm hv ha hn hdb he hpl).imp fun _ _ _ h => callB_use sc h

theorem prs1 {ds : D} {vs : List V} (h : Paired (RepH e H F) [ds] vs) : ∃ v, vs = [v] ∧ RepH e H F ds v := by
  cases h with | cons h t => cases t; exact ⟨_, rfl, h⟩
theorem prs2 {d d' : D} {vs : List V} (h : Paired (RepH e H F) [d, d'] vs) : ∃ v u, vs = [v, u] ∧ RepH e H F d v ∧ RepH e H F d' u := by
  cases h with | cons h t => cases t with | cons k t => cases t; exact ⟨_, _, rfl, h, k⟩

def cAbs (ds : List D) : Option C := match ds with | [.int i] => some (.fz (.int (if i < 0 then -i else i))) | _ => none
theorem sc_abs : SCall e (fun xs H Q => ∃ i, xs = [.int i] ∧ Q (.int (if i < 0 then -i else i)) H) cAbs := by
  intro σc σ H F ds vs c Q s hr hf k
  unfold cAbs at hf; split at hf
  · cases hf
    obtain ⟨v, rfl, h⟩ := prs1 hr
    cases h.int
    exact ⟨_, rfl, k _ F H s (.refl ..) rfl⟩
  · cases hf
def cMin (ds : List D) : Option C := match ds with | [.int i, .int j] => some (.fz (.int (if j < i then j else i))) | _ => none
theorem sc_min : SCall e (fun xs H Q => ∃ i j, xs = [.int i, .int j] ∧ Q (.int (if j < i then j else i)) H) cMin := by
  intro σc σ H F ds vs c Q s hr hf k
  unfold cMin at hf; split at hf
  · cases hf
    obtain ⟨v, u, rfl, h, h'⟩ := prs2 hr
    cases h.int
    cases h'.int
    exact ⟨_, _, rfl, k _ F H s (.refl ..) rfl⟩
  · cases hf
def cMax (ds : List D) : Option C := match ds with | [.int i, .int j] => some (.fz (.int (if j > i then j else i))) | _ => none
theorem sc_max : SCall e (fun xs H Q => ∃ i j, xs = [.int i, .int j] ∧ Q (.int (if j > i then j else i)) H) cMax := by
  intro σc σ H F ds vs c Q s hr hf k
  unfold cMax at hf; split at hf
  · cases hf
    obtain ⟨v, u, rfl, h, h'⟩ := prs2 hr
    cases h.int
    cases h'.int
    exact ⟨_, _, rfl, k _ F H s (.refl ..) rfl⟩
  · cases hf
def cInt (ds : List D) : Option C := match ds with
  | [.int i] => some (.fz (.int i))
  | [.bl b] => some (.fz (.int (if b then 1 else 0)))
  | _ => none
theorem sc_int : SCall e (fun xs H Q => (∃ i, xs = [.int i] ∧ Q (.int i) H) ∨ ∃ k, xs = [.bl k] ∧ Q (.int (if k then 1 else 0)) H) cInt := by
  intro σc σ H F ds vs c Q s hr hf k
  unfold cInt at hf; split at hf
  · cases hf
    obtain ⟨v, rfl, h⟩ := prs1 hr
    cases h.int
    exact .inl ⟨_, rfl, k _ F H s (.refl ..) rfl⟩
  · cases hf
    obtain ⟨v, rfl, h⟩ := prs1 hr
    cases h.bl
    exact .inr ⟨_, rfl, k _ F H s (.refl ..) rfl⟩
  · cases hf
def cLen (ds : List D) : Option C := match ds with
  | [d] => (items d).map fun l => .fz (.int l.length)
  | _ => none
theorem sc_len : SCall e (fun xs H Q => ∃ x n, xs = [x] ∧ LenV e.K x H n ∧ Q (.int n) H) cLen := by
  intro σc σ H F ds vs c Q s hr hf k
  unfold cLen at hf; split at hf
  · rename_i d
    simp only [Option.map_eq_some_iff] at hf
    obtain ⟨l, hl, rfl⟩ := hf
    obtain ⟨v, rfl, h⟩ := prs1 hr
    obtain ⟨a, ws, rfl, hs, r⟩ := h.items s.sub hl
    refine ⟨_, l.length, rfl, ?_, k _ F H s (.refl ..) rfl⟩
    rcases hs with hs | hs
    · exact .inl ⟨ws, hs, r.length.symm⟩
    · exact .inr ⟨ws, hs, r.length.symm⟩
  · cases hf
/-- a list of truths -/
def boolsOf : List D → Option (List Bool)
  | [] => some []
  | .bl b :: l => (boolsOf l).map fun r => b :: r
  | _ :: _ => none
theorem bools_rep : ∀ {l : List D} {bs : List Bool} {vs : List V}, boolsOf l = some bs → Reps e F l vs → vs = bs.map V.bl
  | [], _, _, h, r => by cases h; exact r
  | .bl b :: l, bs, _, h, ⟨v, r, p, q, t⟩ => by
    simp only [boolsOf, Option.map_eq_some_iff] at h
    obtain ⟨bs', h1, rfl⟩ := h
    subst p; cases q; rw [List.map_cons, bools_rep h1 t]
  | .non :: _, _, _, h, _ => by simp [boolsOf] at h
  | .int _ :: _, _, _, h, _ => by simp [boolsOf] at h
  | .str _ :: _, _, _, h, _ => by simp [boolsOf] at h
  | .tup _ :: _, _, _, h, _ => by simp [boolsOf] at h
  | .lst _ :: _, _, _, h, _ => by simp [boolsOf] at h
  | .frl _ :: _, _, _, h, _ => by simp [boolsOf] at h
  | .dct _ :: _, _, _, h, _ => by simp [boolsOf] at h
  | .dcT _ :: _, _, _, h, _ => by simp [boolsOf] at h
  | .ins _ _ :: _, _, _, h, _ => by simp [boolsOf] at h
def cAll (ds : List D) : Option C := match ds with
  | [.lst l] => (boolsOf l).map fun bs => .fz (.bl (bs.all id))
  | _ => none
def cAny (ds : List D) : Option C := match ds with
  | [.lst l] => (boolsOf l).map fun bs => .fz (.bl (bs.any id))
  | _ => none
theorem sc_all : SCall e (rAll e.K) cAll := by
  intro σc σ H F ds vs c Q s hr hf k
  unfold cAll at hf; split at hf
  · rename_i l
    simp only [Option.map_eq_some_iff] at hf
    obtain ⟨bs, hl, rfl⟩ := hf
    obtain ⟨v, rfl, h⟩ := prs1 hr
    obtain ⟨a, ws, rfl, hs, r⟩ := h.lst s.sub
    cases bools_rep hl r
    exact ⟨a, bs, rfl, .inl (.inl hs), k _ F H s (.refl ..) rfl⟩
  · cases hf
theorem sc_any : SCall e (rAny e.K) cAny := by
  intro σc σ H F ds vs c Q s hr hf k
  unfold cAny at hf; split at hf
  · rename_i l
    simp only [Option.map_eq_some_iff] at hf
    obtain ⟨bs, hl, rfl⟩ := hf
    obtain ⟨v, rfl, h⟩ := prs1 hr
    obtain ⟨a, ws, rfl, hs, r⟩ := h.lst s.sub
    cases bools_rep hl r
    exact ⟨a, bs, rfl, .inl (.inl hs), k _ F H s (.refl ..) rfl⟩
  · cases hf
/-- intsOf of a list -/
def intsOf : List D → Option (List Int)
  | [] => some []
  | .int b :: l => (intsOf l).map fun r => b :: r
  | _ :: _ => none
theorem ints_rep : ∀ {l : List D} {bs : List Int} {vs : List V}, intsOf l = some bs → Reps e F l vs → vs = bs.map V.int
  | [], _, _, h, r => by cases h; exact r
  | .int b :: l, bs, _, h, ⟨v, r, p, q, t⟩ => by
    simp only [intsOf, Option.map_eq_some_iff] at h
    obtain ⟨bs', h1, rfl⟩ := h
    subst p; cases q; rw [List.map_cons, ints_rep h1 t]
  | .non :: _, _, _, h, _ => by simp [intsOf] at h
  | .bl _ :: _, _, _, h, _ => by simp [intsOf] at h
  | .str _ :: _, _, _, h, _ => by simp [intsOf] at h
  | .tup _ :: _, _, _, h, _ => by simp [intsOf] at h
  | .lst _ :: _, _, _, h, _ => by simp [intsOf] at h
  | .frl _ :: _, _, _, h, _ => by simp [intsOf] at h
  | .dct _ :: _, _, _, h, _ => by simp [intsOf] at h
  | .dcT _ :: _, _, _, h, _ => by simp [intsOf] at h
  | .ins _ _ :: _, _, _, h, _ => by simp [intsOf] at h
theorem reps_ints : ∀ (ns : List Int), Reps e F (ns.map D.int) (ns.map V.int)
  | [] => rfl
  | n :: ns => ⟨_, _, rfl, rfl, reps_ints ns⟩
end
end Sim

set_option Elab.async false
set_option linter.all false
set_option maxRecDepth 100000
namespace Sim
open PySem PySem.Spec L2
open PyProof.Rows hiding St
def lineN : Nat := 16777216
theorem lineN_eq : (sizeLine : Nat) = lineN := sizeLine_eq

/-! ## arguments that are data -/
def fNil : AM := fun σ => some ([], σ)
def fCons (m : EM) (r : AM) : AM := fun σ => (m σ).bind fun p => p.1.dat.bind fun d => (r p.2).map fun q => (d :: q.1, q.2)
section
variable {X : Cx} {e : En} {a b c : Expr} {es : List Expr} {pos p : Pos}
theorem AF.nil : PA X [] (tAF e fNil) := pa_nil.imp fun σ H Q ⟨σc, F, g, σc', s, hm, k⟩ => by
  cases hm
  exact k [] F H s (.refl ..) rfl
theorem AF.cons {m : EM} {r : AM} (ha : PE X a (tE e m)) (hr : PA X es (tAF e r)) (hs : starEach (a :: es) X.env = (false, eval a X.env) :: starEach es X.env := by rfl) : PA X (a :: es) (tAF e (fCons m r)) := by
  refine (pa_cons ha hr hs).imp fun σ H Q ⟨σc, F, ds, σc', s, hm, k⟩ => ?_
  simp only [fCons, Option.bind_eq_some_iff, Option.map_eq_some_iff, Prod.mk.injEq] at hm
  obtain ⟨⟨c1, σ1⟩, h1, d, hd, ⟨ds2, σ2⟩, h2, rfl, rfl⟩ := hm
  refine ⟨σc, F, c1, σ1, s, h1, fun v1 F1 H1 s1 x1 r1 => ?_⟩
  obtain ⟨G, s1', sub, n, rp, _⟩ := r1.freeze s1 hd
  refine ⟨σ1, G, ds2, σ2, s1', h2, fun vs F2 H2 s2 x2 r2 => k (v1 :: vs) F2 H2 s2 ((x1.frozen sub n).trans x2) ⟨v1, vs, rfl, Rep.mono x2.f _ _ rp, r2⟩⟩

/-! ## displays -/
def mTup (m : AM) : EM := fun σ => (m σ).bind fun p => if p.1.length ≤ lineN then some (.fz (.tup p.1), p.2) else none
def mLst (m : AM) : EM := fun σ => (m σ).bind fun p => if p.1.length ≤ lineN then some (.ob .ow (.lst p.1), p.2) else none
theorem E.tup {m : AM} {k} (h : PA X es (tAF e m)) : PE X (.Tuple es k pos) (tE e (mTup m)) := by
  refine (pe_tup h).imp fun σ H Q ⟨σc, F, c, σc', s, hm, k⟩ => ?_
  simp only [mTup, Option.bind_eq_some_iff] at hm
  obtain ⟨⟨ds, σ1⟩, h1, h2⟩ := hm
  split at h2
  · rename_i hl
    cases h2
    refine ⟨σc, F, ds, σ1, s, h1, fun vs F1 H1 s1 x1 r1 => ⟨by rw [r1.length, lineN_eq]; exact hl, fun p hp => ?_⟩⟩
    obtain ⟨s2, x2⟩ := s1.newF (o := .tup vs) hp
    exact k _ _ _ s2 (x1.trans x2) ⟨p, vs, rfl, .inl (.inl upd_same), r1.mono x2.f⟩
  · cases h2
theorem E.lst {m : AM} (h : PA X es (tAF e m)) : PE X (.List es pos) (tE e (mLst m)) := by
  refine (pe_lst h).imp fun σ H Q ⟨σc, F, c, σc', s, hm, k⟩ => ?_
  simp only [mLst, Option.bind_eq_some_iff] at hm
  obtain ⟨⟨ds, σ1⟩, h1, h2⟩ := hm
  split at h2
  · rename_i hl
    cases h2
    refine ⟨σc, F, ds, σ1, s, h1, fun vs F1 H1 s1 x1 r1 => ⟨by rw [r1.length, lineN_eq]; exact hl, fun p hp => ?_⟩⟩
    obtain ⟨s2, x2⟩ := s1.newO (o := .lst vs) hp
    exact k _ _ _ s2 (x1.trans x2) ((RepC.new (d := .lst ds) s1 hp ⟨vs, upd_same, r1⟩).base x1)
  · cases h2

/-! ## subscripts -/
def E.ix0 : Unit := ()
theorem E.ix {r : R2} {f : D → D → Option C} {m1 m2 : LM} (ho : IxR X r) (so : SOp e r f) (ha : PE X a (tL e m1)) (hb : PE X b (tL e m2)) (hs : PlainIx b) : PE X (.Subscript a b pos) (tE e (mBin f m1 m2)) :=
  (pe_ix ho ha hb hs).imp fun _ _ _ h => op2 so (fun _ _ _ h => h) (fun _ _ _ h => h) h
def dIx (x y : D) : Option C := match y with
  | .int i => (items x).bind fun l => (atI l i).map C.fz
  | _ => none
theorem Reps.atI {F : Hp} {l : List D} {vs : List V} {i : Int} {d : D} (r : Reps e F l vs) (h : atI l i = some d) : ∃ v, L2.atI vs i = some v ∧ Rep e F d v := by
  unfold L2.atI at h ⊢
  rw [r.length]
  obtain ⟨j, h1, h2⟩ := Option.bind_eq_some_iff.mp h
  obtain ⟨v, p, q⟩ := r.get h2
  exact ⟨v, by rw [h1]; exact p, q⟩
theorem so_ix : SOp e (rIx e.K) dIx := by
  intro σc σ H F d1 d2 v1 v2 c Q s h1 h2 hf k
  unfold dIx at hf; split at hf
  · rename_i i
    simp only [Option.bind_eq_some_iff, Option.map_eq_some_iff] at hf
    obtain ⟨l, hl, d, hd, rfl⟩ := hf
    obtain ⟨a, vs, rfl, hq, r⟩ := h1.items s.sub hl
    cases h2.int
    obtain ⟨v, hv, rv⟩ := r.atI hd
    have fin : Q v H := k _ F H s (.refl ..) rv
    rcases hq with hq | hq
    · exact .inl ⟨a, vs, i, v, rfl, rfl, hq, hv, fin⟩
    · exact .inr (.inl ⟨a, vs, i, v, rfl, rfl, hq, hv, fin⟩)
  · cases hf

/-! ## blocks, small statements -/
def sNil : SM := fun σ => some (.nx σ)
def sSeq (m1 m2 : SM) : SM := fun σ => (m1 σ).bind fun o => match o with
  | .nx σ1 => m2 σ1
  | o => some o
variable {st : Stmt} {sts : List Stmt}
theorem S.nil : PSs X [] (tS e sNil) := pss_nil.imp fun D σ H ⟨σc, F, o, s, hm, k⟩ => by cases hm; exact k σ F H s (.refl ..)
theorem S.cons {m1 m2 : SM} (h1 : PS X st (tS e m1)) (h2 : PSs X sts (tS e m2)) : PSs X (st :: sts) (tS e (sSeq m1 m2)) := by
  refine (pss_cons h1 h2).imp fun D σ H ⟨σc, F, o, s, hm, k⟩ => ?_
  simp only [sSeq, Option.bind_eq_some_iff] at hm
  obtain ⟨o1, hm1, hm2⟩ := hm
  cases o1 with
  | nx σ1 =>
    exact ⟨σc, F, .nx σ1, s, hm1, fun σ' F1 H1 s1 x1 => ⟨σ1, F1, o, s1, hm2, Post.after x1 (fun r => r.base x1) k⟩⟩
  | rt c σ1 => cases hm2; exact ⟨σc, F, _, s, hm1, k⟩
  | bk σ1 => cases hm2; exact ⟨σc, F, _, s, hm1, k⟩
  | ct σ1 => cases hm2; exact ⟨σc, F, _, s, hm1, k⟩
theorem S.one {m : SM} (h : PS X st (tS e m)) : PSs X [st] (tS e m) := pss_one h
def sPass : SM := fun σ => some (.nx σ)
def sBreak : SM := fun σ => some (.bk σ)
def sCont : SM := fun σ => some (.ct σ)
def sNever : SM := fun _ => none
theorem S.pass : PS X (.Pass pos) (tS e sPass) := ps_pass.imp fun D σ H ⟨σc, F, o, s, hm, k⟩ => by cases hm; exact k σ F H s (.refl ..)
theorem S.brk : PS X (.Break pos) (tS e sBreak) := ps_break.imp fun D σ H ⟨σc, F, o, s, hm, k⟩ => by cases hm; exact k σ F H s (.refl ..)
theorem S.cont : PS X (.Continue pos) (tS e sCont) := ps_continue.imp fun D σ H ⟨σc, F, o, s, hm, k⟩ => by cases hm; exact k σ F H s (.refl ..)
theorem S.never : PS X st (tS e sNever) := ps_never.imp fun D σ H ⟨σc, F, o, s, hm, k⟩ => by cases hm
theorem S.doc {x j pos pos'} : PS X (.Expr (.Constant (.str x) j pos) pos') (tS e sPass) := ps_doc.imp fun D σ H ⟨σc, F, o, s, hm, k⟩ => by cases hm; exact k σ F H s (.refl ..)
def sExpr (m : EM) : SM := fun σ => (m σ).map fun p => .nx p.2
theorem S.expr {m : EM} (h : PE X a (tE e m)) (hs : swapsWith a none pos.line X.env = pure false := by rfl) : PS X (.Expr a pos) (tS e (sExpr m)) :=
  (ps_expr h hs).imp fun D σ H ⟨σc, F, o, s, hm, k⟩ => by
    simp only [sExpr, Option.map_eq_some_iff] at hm
    obtain ⟨⟨c, σ1⟩, h1, rfl⟩ := hm
    exact ⟨σc, F, c, σ1, s, h1, fun v F1 H1 s1 x1 r1 => k σ F1 H1 s1 x1⟩
def sRet (m : EM) : SM := fun σ => (m σ).map fun p => .rt p.1 p.2
theorem S.ret {m : EM} (h : PE X a (tE e m)) : PS X (.Return (some a) pos) (tS e (sRet m)) :=
  (ps_ret h).imp fun D σ H ⟨σc, F, o, s, hm, k⟩ => by
    simp only [sRet, Option.map_eq_some_iff] at hm
    obtain ⟨⟨c, σ1⟩, h1, rfl⟩ := hm
    exact ⟨σc, F, c, σ1, s, h1, fun v F1 H1 s1 x1 r1 => k v σ F1 H1 s1 x1 r1⟩
def sRetN : SM := fun σ => some (.rt (.fz .non) σ)
theorem S.retN : PS X (.Return none pos) (tS e sRetN) := ps_retN.imp fun D σ H ⟨σc, F, o, s, hm, k⟩ => by cases hm; exact k .non σ F H s (.refl ..) rfl
def sIf (t : TM) (m1 m2 : SM) : SM := fun σ => (t σ).bind fun p => if p.1 = true then m1 p.2 else m2 p.2
theorem tS_after {m : SM} {D : Ends} {σc σ1 : List C} {σ σ' : St} {F F1 H H1 : Hp} {o : O} (x1 : Ext σc σ F H σ1 σ' F1 H1) (s1 : SR e σ1 σ' H1 F1) (hm : m σ1 = some o) (k : Post e D σc σ F H o) : tS e m D σ' H1 :=
  ⟨σ1, F1, o, s1, hm, k.after x1 fun r => r.base x1⟩
theorem S.ite {t : TM} {m1 m2 : SM} {sa sb : List Stmt} (hc : PT X c (tT e t)) (ha : PSs X sa (tS e m1)) (hb : PSs X sb (tS e m2)) : PS X (.If c sa sb pos) (tS e (sIf t m1 m2)) := by
  refine (ps_if hc ha hb).imp fun D σ H ⟨σc, F, o, s, hm, k⟩ => ?_
  simp only [sIf, Option.bind_eq_some_iff] at hm
  obtain ⟨⟨d, σ1⟩, h1, h3⟩ := hm
  refine ⟨σc, F, _, σ1, s, h1, fun F1 H1 s1 x1 => ?_⟩
  cases d with
  | true => rw [if_pos rfl] at h3 ⊢; exact tS_after x1 s1 h3 k
  | false => rw [if_neg Bool.false_ne_true] at h3 ⊢; exact tS_after x1 s1 h3 k

/-! ## stores -/
def isFree : C → Bool
  | .ob .mu _ => false
  | .ob .lk _ => false
  | _ => true
def storeC (i : Nat) (c : C) (σ : List C) : Option (List C) := match σ[i]? with
  | some x => if isFree x = true then some (σ.set i c) else none
  | none => none
theorem storeC_some {i : Nat} {c : C} {σ σ' : List C} (h : storeC i c σ = some σ') : ∃ x, σ[i]? = some x ∧ isFree x = true ∧ σ' = σ.set i c := by
  unfold storeC at h; split at h
  · rename_i x hx
    split at h
    · rename_i hf; cases h; exact ⟨x, hx, hf, rfl⟩
    · cases h
  · cases h
/-- an owned value is own -/
def C.own : C → C
  | .ob _ d => .ob .ow d
  | c => c
theorem SR.store {σc σ1 : List C} {σ : St} {F F1 H H1 : Hp} {i : Nat} {c x : C} {v : V} (x1 : Ext σc σ F H σ1 σ F1 H1) (s1 : SR e σ1 σ H1 F1) (r : RepC e σc σ H σ1 σ F1 H1 c v) (hx : σ1[i]? = some x) (hf : isFree x = true) :
    SR e (σ1.set i c.own) (σ.set i (some v)) H1 F1 ∧ Ext σc σ F H (σ1.set i c.own) (σ.set i (some v)) F1 H1 := by
  have hi : i < σ.length := by rw [← s1.len]; exact (List.getElem?_eq_some_iff.mp hx).1
  have gi : (σ.set i (some v))[i]? = some (some v) := List.getElem?_set_self hi
  have gn : ∀ {j}, i ≠ j → (σ.set i (some v))[j]? = σ[j]? := fun {j} ne => List.getElem?_set_ne ne
  have notI : ∀ {m d}, σ1[i]? = some (.ob m d) → m ≠ .ow → False := fun {m d} z ne => by
    rw [hx] at z; cases z
    cases m <;> first | exact ne rfl | cases hf
  refine ⟨⟨by rw [List.length_set, List.length_set]; exact s1.len, s1.sub, fun j d z => ?_, fun j m d z => ?_, fun j k m d1 m' d2 z1 z2 z3 => ?_⟩, ⟨x1.f, x1.h, x1.n, fun b w => ?_, fun j m d' z ne => ?_, fun j d' z => ?_⟩⟩
  · rcases getSet z with ⟨rfl, z1, _⟩ | ⟨ne, z1⟩
    · cases c with
      | fz d' => cases z1; exact ⟨v, gi, r⟩
      | no => exact r.elim
      | ob m d' => cases z1
    · rw [gn ne]; exact s1.fz j d z1
  · rcases getSet z with ⟨rfl, z1, _⟩ | ⟨ne, z1⟩
    · cases c with
      | fz d' => cases z1
      | no => exact r.elim
      | ob m' d' =>
        cases z1
        obtain ⟨a, p, q, w, o, f, n⟩ := r
        exact ⟨a, by rw [gi, p], q, o⟩
    · rw [gn ne]; exact s1.ob j m d z1
  · rcases getSet z1 with ⟨rfl, y1, _⟩ | ⟨ne1, y1⟩
    · rcases getSet z2 with ⟨rfl, y2, _⟩ | ⟨ne2, y2⟩
      · rfl
      · cases c with
        | fz d' => cases y1
        | no => exact r.elim
        | ob m' d' =>
          obtain ⟨a, p, q, w, o, f, n⟩ := r
          rw [gi, gn ne2, p] at z3
          exact (n k _ _ y2 z3.symm).elim
    · rcases getSet z2 with ⟨rfl, y2, _⟩ | ⟨ne2, y2⟩
      · cases c with
        | fz d' => cases y2
        | no => exact r.elim
        | ob m' d' =>
          obtain ⟨a, p, q, w, o, f, n⟩ := r
          rw [gi, gn ne1, p] at z3
          exact (n j _ _ y1 z3).elim
      · rw [gn ne1, gn ne2] at z3
        exact s1.inj j k _ _ _ _ y1 y2 z3
  · obtain ⟨j, m, d', z1, z2, z3⟩ := w
    rcases getSet z1 with ⟨rfl, y1, _⟩ | ⟨ne, y1⟩
    · cases c with
      | fz d' => cases y1
      | no => exact r.elim
      | ob m' d' =>
        obtain ⟨a, p, q, w, o, f, n⟩ := r
        rw [gi, p] at z3
        cases z3
        exact f.symm
    · rw [gn ne] at z3
      exact x1.o b ⟨j, m, d', y1, z2, z3⟩
  · obtain ⟨h1, d1, h2, h3⟩ := x1.m j m d' z ne
    have nij : i ≠ j := fun y => by subst y; exact notI h2 ne
    exact ⟨gn nij, d1, by rw [List.getElem?_set_ne nij]; exact h2, h3⟩
  · rcases getSet z with ⟨rfl, y, _⟩ | ⟨ne, y⟩
    · cases c <;> cases y
    · rw [gn ne]; exact x1.p j d' y
def sSet (i : Nat) (m : EM) : SM := fun σ => (m σ).bind fun p => (storeC i p.1.own p.2).map .nx
theorem S.set {i : Nat} {x : Str} {m : EM} {pos' : Pos} (hN : X.N.Nodup) (hi : X.N[i]? = some x) (hx : Loc X.env.scope x) (he : PE X a (tE e m)) (hs : swapsWith a (some (.Name x pos')) pos.line X.env = pure false := by rfl) (hf : X.fn x = true ∨ X.env.scope.names.lookup x = some .local := by first | exact .inl rfl | exact .inr rfl | assumption) :
    PS X (.Assign [.Name x pos'] a pos) (tS e (sSet i m)) :=
  (ps_set hN hi hx he hs hf).imp fun D σ H ⟨σc, F, o, s, hm, k⟩ => by
    simp only [sSet, Option.bind_eq_some_iff, Option.map_eq_some_iff] at hm
    obtain ⟨⟨c, σ1⟩, h1, σ2, h2, rfl⟩ := hm
    obtain ⟨y, hy, hfr, rfl⟩ := storeC_some h2
    refine ⟨σc, F, c, σ1, s, h1, fun v F1 H1 s1 x1 r1 => ?_⟩
    obtain ⟨s2, x2⟩ := SR.store x1 s1 r1 hy hfr
    exact k _ F1 H1 s2 x2

/-! ## targets -/
def tG (e : En) (is : List Nat) (f : D → List C → Option (List C)) : TG := fun v σ H Q => ∃ σc F d σc', SR e σc σ H F ∧ Rep e F d v ∧ f d σc = some σc' ∧
  ∀ σ', SR e σc' σ' H F → Ext σc σ F H σc' σ' F H → (σ'.length = σ.length ∧ ∀ j, j ∉ is → σ'[j]? = σ[j]?) → Q σ' H
def tGs (e : En) (is : List Nat) (f : List D → List C → Option (List C)) : TGs := fun vs σ H Q => ∃ σc F ds σc', SR e σc σ H F ∧ Reps e F ds vs ∧ f ds σc = some σc' ∧
  ∀ σ', SR e σc' σ' H F → Ext σc σ F H σc' σ' F H → (σ'.length = σ.length ∧ ∀ j, j ∉ is → σ'[j]? = σ[j]?) → Q σ' H
def gN (i : Nat) (d : D) (σ : List C) : Option (List C) := storeC i (.fz d) σ
theorem G.name {i : Nat} {x : Str} (hN : X.N.Nodup) (hi : X.N[i]? = some x) (hx : Loc X.env.scope x) (hf : X.fn x = true ∨ X.env.scope.names.lookup x = some .local := by first | exact .inl rfl | exact .inr rfl | assumption) : PG X (.Name x pos) (tG e [i] (gN i)) :=
  (pg_name hN hi hx hf).imp fun v σ H Q ⟨σc, F, d, σc', s, r, hm, k⟩ => by
    obtain ⟨y, hy, hfr, rfl⟩ := storeC_some hm
    obtain ⟨s2, x2⟩ := SR.store (c := .fz d) (.refl ..) s r hy hfr
    exact k _ s2 x2 ⟨by rw [List.length_set], fun j hj => List.getElem?_set_ne fun z => hj (by simp [z])⟩
def gsNil (ds : List D) (σ : List C) : Option (List C) := match ds with | [] => some σ | _ => none
def gsCons (f : D → List C → Option (List C)) (g : List D → List C → Option (List C)) (ds : List D) (σ : List C) : Option (List C) := match ds with
  | d :: r => (f d σ).bind (g r)
  | [] => none
theorem G.nil : PGs X [] (tGs e [] gsNil) := ⟨fun pins s σ H vs us Q I r h => by
  refine pgs_nil.run pins s σ H vs us Q I r ?_
  obtain ⟨σc, F, ds, σc', s', rp, hm, k⟩ := h
  unfold gsNil at hm; split at hm
  · cases hm; exact ⟨rp, k σ s' (.refl ..) ⟨rfl, fun _ _ => rfl⟩⟩
  · cases hm⟩
theorem G.cons {i j : List Nat} {f : D → List C → Option (List C)} {g : List D → List C → Option (List C)} (h1 : PG X a (tG e i f)) (h2 : PGs X es (tGs e j g))
    (hs : (assignEach (a :: es) X.env).map (·.2) = assign a X.env :: (assignEach es X.env).map (·.2) := by rfl) : PGs X (a :: es) (tGs e (i ++ j) (gsCons f g)) := ⟨fun pins s σ H vs us Q I r h => by
  refine (pgs_cons h1 h2 hs).run pins s σ H vs us Q I r ?_
  obtain ⟨σc, F, ds, σc', s', rp, hm, k⟩ := h
  unfold gsCons at hm; split at hm
  · rename_i d ds'
    obtain ⟨σ1, m1, m2⟩ := Option.bind_eq_some_iff.mp hm
    obtain ⟨v, vr, rfl, q1, q2⟩ := rp
    refine ⟨v, vr, rfl, σc, F, d, σ1, s', q1, m1, fun σ' s1 x1 n1 => ⟨σ1, F, ds', σc', s1, q2, m2, fun σ'' s2 x2 n2 => k σ'' s2 (x1.trans x2) ⟨n2.1.trans n1.1, fun t ht => ?_⟩⟩⟩
    rw [List.mem_append] at ht
    exact (n2.2 t fun z => ht (.inr z)).trans (n1.2 t fun z => ht (.inl z))
  · cases hm⟩
def gT (g : List D → List C → Option (List C)) (n : Nat) (d : D) (σ : List C) : Option (List C) := match d with
  | .tup l => if l.length = n then g l σ else none
  | _ => none
theorem G.tup {k : Nat} {is : List Nat} {g : List D → List C → Option (List C)} {n : Nat} (hK : X.K = e.K) (hc : X.calm = true) (h : PGs X es (tGs e is g))
    (hn : (assignEach es X.env).length = n := by rfl) (hst : (assignEach es X.env).findIdx? (·.1) = none := by rfl) : PG X (.Tuple es k pos) (tG e is (gT g n)) :=
  (pg_tup hc h hn hst).imp fun v σ H Q ⟨σc, F, d, σc', s, r, hm, k⟩ => by
    unfold gT at hm; split at hm
    · rename_i l
      split at hm
      · rename_i hl
        obtain ⟨a, vs, rfl, q, rp⟩ := r
        rw [hK]
        exact ⟨a, vs, rfl, s.sub.tup q, by rw [rp.length, hl], σc, F, l, σc', s, rp, hm, k⟩
      · cases hm
    · cases hm
/-- a tuple's places stored: (a, b, ..) = e -/
def sAsg (g : D → List C → Option (List C)) (m : EM) : SM := fun σ => (m σ).bind fun p => p.1.dat.bind fun d => (g d p.2).map .nx
theorem S.asg {tg : Expr} {is : List Nat} {m : EM} {g : D → List C → Option (List C)} (he : PE X a (tE e m)) (hg : PG X tg (tG e is g)) (hs : swapsWithSole [tg] a pos.line X.env = pure false := by rfl) (hw : swappedStores [tg] a X.env = pure none := by rfl)
    (h1 : (assignEach [tg] X.env).map (·.2) = [assign tg X.env] := by rfl) : PS X (.Assign [tg] a pos) (tS e (sAsg g m)) :=
  (ps_asg he hg hs hw h1).imp fun D σ H ⟨σc, F, o, s, hm, k⟩ => by
    simp only [sAsg, Option.bind_eq_some_iff, Option.map_eq_some_iff] at hm
    obtain ⟨⟨c, σ1⟩, h1, d, hd, σ2, h2, rfl⟩ := hm
    refine ⟨σc, F, c, σ1, s, h1, fun v F1 H1 s1 x1 r1 => ?_⟩
    obtain ⟨G, s1', sub, n, rp, _⟩ := r1.freeze s1 hd
    exact ⟨σ1, G, d, σ2, s1', rp, h2, fun σ' s2 x2 _ => k σ' G H1 s2 ((x1.frozen sub n).trans x2)⟩
/-- a, b = e1, e2 -/
def sPar (i j : Nat) (m1 m2 : EM) : SM := fun σ => (m1 σ).bind fun p => p.1.dat.bind fun d1 => (m2 p.2).bind fun q => q.1.dat.bind fun d2 => (storeC i (.fz d1) q.2).bind fun σ1 => (storeC j (.fz d2) σ1).map .nx
theorem S.par {i j : Nat} {x y : Str} {m1 m2 : EM} {px py pt : Pos} {kt k2 pt2} (hc : X.calm = true) (hN : X.N.Nodup) (hi : X.N[i]? = some x) (hj : X.N[j]? = some y) (hij : i ≠ j)
    (hx : X.env.scope.names.lookup x = some .local) (hy : X.env.scope.names.lookup y = some .local) (ha : PE X a (tE e m1)) (hb : PE X b (tE e m2))
    (hw : swappedStores [.Tuple [.Name x px, .Name y py] kt pt] (.Tuple [a, b] k2 pt2) X.env = pure (some [x, y]))
    (hs : swapsWithSole [.Tuple [.Name x px, .Name y py] kt pt] (.Tuple [a, b] k2 pt2) pos.line X.env = pure false := by rfl)
    (hs1 : starEach [a, b] X.env = (false, eval a X.env) :: starEach [b] X.env := by rfl) (hs2 : starEach [b] X.env = (false, eval b X.env) :: starEach [] X.env := by rfl) :
    PS X (.Assign [.Tuple [.Name x px, .Name y py] kt pt] (.Tuple [a, b] k2 pt2) pos) (tS e (sPar i j m1 m2)) :=
  (ps_par hc hN hi hj hij hx hy (AF.cons ha (AF.cons hb AF.nil hs2) hs1) hw hs).imp fun D σ H ⟨σc, F, o, s, hm, k⟩ => by
    simp only [sPar, Option.bind_eq_some_iff, Option.map_eq_some_iff] at hm
    obtain ⟨⟨c1, σ1⟩, h1, d1, e1, ⟨c2, σ2⟩, h2, d2, e2, σ3, h3, σ4, h4, rfl⟩ := hm
    refine ⟨σc, F, [d1, d2], σ2, s, by simp [fCons, fNil, h1, e1, h2, e2], fun vs F1 H1 s1 x1 r1 => ?_⟩
    obtain ⟨v, r, rfl, q1, w, r', rfl, q2, rfl⟩ := r1
    refine ⟨v, w, rfl, ?_⟩
    obtain ⟨y1, hy1, hf1, rfl⟩ := storeC_some h3
    obtain ⟨y2, hy2, hf2, rfl⟩ := storeC_some h4
    obtain ⟨s2, x2⟩ := SR.store (c := .fz d1) (.refl ..) s1 q1 hy1 hf1
    obtain ⟨s3, x3⟩ := SR.store (c := .fz d2) (.refl ..) s2 q2 hy2 hf2
    exact k _ F1 H1 s3 ((x1.trans x2).trans x3)
/-- name op= e, on data -/
def sAug (i : Nat) (f : D → D → Option C) (m : LM) : SM := fun σ => (m σ).bind fun q => (sDat i σ).bind fun x => (q.1 q.2).bind fun y => (f x y).bind fun c => match σ[i]? with
  | some (.fz _) => (storeC i c.own q.2).map .nx
  | _ => none
end
end Sim

set_option Elab.async false
set_option linter.all false
set_option maxRecDepth 100000
namespace Sim
open PySem PySem.Spec L2
open PyProof.Rows hiding St
section
variable {X : Cx} {e : En} {a b c : Expr} {es : List Expr} {pos p : Pos} {st : Stmt} {sts : List Stmt}

/-! ## name op= e -/
theorem S.aug {i : Nat} {x : Str} {m : LM} {f : D → D → Option C} {r : R2} {op : Operator} {pos' : Pos} (hN : X.N.Nodup) (hi : X.N[i]? = some x) (hx : Loc X.env.scope x) (ho : OpR X (inplaceOp op) r) (so : SOp e r f) (he : PE X a (tL e m)) (hf : X.fn x = true ∨ X.env.scope.names.lookup x = some .local := by first | exact .inl rfl | exact .inr rfl | assumption) :
    PS X (.AugAssign (.Name x pos') op a pos) (tS e (sAug i f m)) :=
  (ps_aug hN hi hx he (ti := r) (fun pins s σ H x y v u Q I r1 r2 h => ho pins s σ H x y v u Q I r1 r2 h) hf).imp fun D σ H ⟨σc, F, o, s, hm, k⟩ => by
    simp only [sAug, Option.bind_eq_some_iff] at hm
    obtain ⟨⟨g, σ1⟩, h1, d, hd, y, hy, c, hc, hm⟩ := hm
    split at hm
    · rename_i d' hσ
      simp only [Option.map_eq_some_iff] at hm
      obtain ⟨σ2, h2, rfl⟩ := hm
      have : d' = d := by simp only [sDat, hσ] at hd; cases hd; rfl
      subst this
      obtain ⟨v, pv, rv⟩ := s.fz i _ hσ
      refine ⟨v, pv, σc, F, g, σ1, s, h1, fun w F1 H1 s1 x1 r1 => ?_⟩
      refine so σ1 σ H1 F1 d' y v w c _ s1 (.inl (Rep.mono x1.f _ _ rv)) (r1 σ1 F1 H1 y s1 (.refl ..) hy) hc fun z F2 H2 s2 x2 r2 => ?_
      obtain ⟨q, hq, hfr, rfl⟩ := storeC_some h2
      obtain ⟨s3, x3⟩ := SR.store (x1.trans x2) s2 (r2.base x1) hq hfr
      have e2 : c.own.own = c.own := by cases c <;> rfl
      rw [← e2] at k
      exact k _ F2 H2 (by rw [e2]; exact s3) (by rw [e2]; exact x3)
    · cases hm

/-! ## while -/
def whileN (t : TM) (body : SM) : Nat → SM
  | 0, _ => none
  | n + 1, σ => (t σ).bind fun p => if p.1 = true then (body p.2).bind fun o => match o with
    | .nx σ2 => whileN t body n σ2
    | .ct σ2 => whileN t body n σ2
    | .bk σ2 => some (.nx σ2)
    | .rt c σ2 => some (.rt c σ2) else some (.nx p.2)
theorem S.while {t : TM} {m : SM} (n : Nat) (hp : PassesOwn (model X.prog X.w) X.A X.env X.xe) (hc : PT X c (tT e t)) (hb : PSs X sts (tS e m)) : PS X (.While c sts [] pos) (tS e (whileN t m n)) := by
  refine (ps_while hp hc hb).imp fun D σ H ⟨σc, F, o, s, hm, k⟩ => ?_
  refine ⟨fun j σ' H' => ∃ σ1 F1, SR e σ1 σ' H' F1 ∧ Ext σc σ F H σ1 σ' F1 H' ∧ whileN t m j σ1 = some o, ⟨n, σc, F, s, .refl .., hm⟩, ?_⟩
  rintro j σ' H' ⟨σ1, F1, s1, x1, w1⟩
  cases j with
  | zero => cases w1
  | succ j =>
    simp only [whileN, Option.bind_eq_some_iff] at w1
    obtain ⟨⟨b, σ2⟩, h2, w2⟩ := w1
    refine ⟨σ1, F1, b, σ2, s1, h2, fun F2 H2 s2 x2 => ?_⟩
    cases b with
    | false =>
      rw [if_neg Bool.false_ne_true] at w2 ⊢
      cases w2
      exact k σ' F2 H2 s2 (x1.trans x2)
    | true =>
      rw [if_pos rfl] at w2 ⊢
      obtain ⟨o2, h3, w3⟩ := Option.bind_eq_some_iff.mp w2
      refine ⟨fun σ3 H3 => ∃ σ4 F4, SR e σ4 σ3 H3 F4 ∧ Ext σc σ F H σ4 σ3 F4 H3 ∧ whileN t m j σ4 = some o, fun σ3 H3 h => ⟨j, Nat.lt_succ_self _, h⟩, σ2, F2, o2, s2, h3, ?_⟩
      cases o2 with
      | nx σ5 => exact fun σ6 F6 H6 s6 x6 => ⟨σ5, F6, s6, (x1.trans x2).trans x6, w3⟩
      | ct σ5 => exact fun σ6 F6 H6 s6 x6 => ⟨σ5, F6, s6, (x1.trans x2).trans x6, w3⟩
      | bk σ5 => cases w3; exact fun σ6 F6 H6 s6 x6 => k σ6 F6 H6 s6 ((x1.trans x2).trans x6)
      | rt c σ5 => cases w3; exact fun v σ6 F6 H6 s6 x6 r6 => k v σ6 F6 H6 s6 ((x1.trans x2).trans x6) (r6.base (x1.trans x2))

/-! ## what is walked -/
/-- an iterator's items: L holds what it reads -/
structure ItOk (e : En) (J : It) (L : List (Addr × HO)) (F0 : Hp) (its : List D) : Prop where
  go : ∀ i H, (∀ p ∈ L, H p.1 = some p.2) → i < its.length → J.go i H
  stop : ∀ i H, (∀ p ∈ L, H p.1 = some p.2) → its.length ≤ i → J.stop i H
  yld : ∀ i H x H' F d, (∀ p ∈ L, H p.1 = some p.2) → Sub F0 F → Sub F H → its[i]? = some d → J.yld i H x H' → ∃ F', Sub F F' ∧ Sub H H' ∧ Sub F' H' ∧ (∀ a o, F' a = some o → F a = some o ∨ H a = none) ∧ Rep e F' d x
abbrev IM := List C → Option (List D × List C)
def tI (e : En) (m : IM) : TI := fun σ H R => ∃ σc F its σc', SR e σc σ H F ∧ m σc = some (its, σc') ∧
  ∀ J L F' H', SR e σc' σ H' F' → Ext σc σ F H σc' σ F' H' → ItOk e J L F' its → (∀ p ∈ L, H' p.1 = some p.2 ∧ ¬ Own σc' σ p.1) → R J H'
def rangeD (lo : Int) (n : Nat) : List D := (List.range n).map fun (i : Nat) => .int (lo + i)
theorem rangeD_get {lo : Int} {n i : Nat} {d : D} (h : (rangeD lo n)[i]? = some d) : i < n ∧ d = .int (lo + i) := by
  simp only [rangeD, List.getElem?_map, Option.map_eq_some_iff] at h
  obtain ⟨j, h1, rfl⟩ := h
  obtain ⟨h2, h3⟩ := List.getElem?_eq_some_iff.mp h1
  simp only [List.length_range] at h2
  simp only [List.getElem_range] at h3
  subst h3
  exact ⟨h2, rfl⟩
theorem itOk_range (lo : Int) (n : Nat) (F0 : Hp) : ItOk e (Itr lo n) [] F0 (rangeD lo n) where
  go := fun i H _ h => show i < n by simpa [rangeD] using h
  stop := fun i H _ h => show n ≤ i by simpa [rangeD] using h
  yld := fun i H x H' F d _ h1 h2 hd y => by
    obtain ⟨rfl, rfl⟩ := y
    obtain ⟨_, rfl⟩ := rangeD_get hd
    exact ⟨F, .refl F, .refl _, h2, fun _ _ z => .inl z, rfl⟩
/-- the items of a list, a tuple -/
theorem itOk_list {a : Addr} {vs : List V} {l : List D} {L : List (Addr × HO)} {F0 : Hp} (hq : ∀ H, (∀ p ∈ L, H p.1 = some p.2) → SqL e.K H a vs) (hr : Reps e F0 l vs)
    (inj : ∀ H xs, (∀ p ∈ L, H p.1 = some p.2) → SqL e.K H a xs → True) : ItOk e (Itl e.K a) L F0 l where
  go := fun i H p h => by
    obtain ⟨v, h1, _⟩ := hr.get (List.getElem?_eq_getElem h)
    exact ⟨vs, v, hq H p, h1⟩
  stop := fun i H p h => ⟨vs, hq H p, by rw [hr.length]; exact h⟩
  yld := fun i H x H' F d p h1 h2 hd y => by
    obtain ⟨rfl, y⟩ := y
    obtain ⟨v, q1, q2⟩ := hr.get hd
    have := y vs (hq _ p)
    rw [q1] at this; cases this
    exact ⟨F, .refl F, .refl _, h2, fun _ _ z => .inl z, Rep.mono h1 _ _ q2⟩
theorem itOk_tup {a : Addr} {vs : List V} {l : List D} {L : List (Addr × HO)} {F0 : Hp} (hq : ∀ H, (∀ p ∈ L, H p.1 = some p.2) → SqT e.K H a vs) (hr : Reps e F0 l vs) : ItOk e (Itt e.K a) L F0 l where
  go := fun i H p h => by
    obtain ⟨v, h1, _⟩ := hr.get (List.getElem?_eq_getElem h)
    exact ⟨vs, v, hq H p, h1⟩
  stop := fun i H p h => ⟨vs, hq H p, by rw [hr.length]; exact h⟩
  yld := fun i H x H' F d p h1 h2 hd y => by
    obtain ⟨rfl, y⟩ := y
    obtain ⟨v, q1, q2⟩ := hr.get hd
    have := y vs (hq _ p)
    rw [q1] at this; cases this
    exact ⟨F, .refl F, .refl _, h2, fun _ _ z => .inl z, Rep.mono h1 _ _ q2⟩
/-- what a sequence's reading leans on -/
theorem seqL_pin {F : Hp} {a : Addr} {vs : List V} (h : SqL e.K F a vs) : ∃ L : List (Addr × HO), (∀ p ∈ L, F p.1 = some p.2) ∧ ∀ H, (∀ p ∈ L, H p.1 = some p.2) → SqL e.K H a vs := by
  rcases h with (h | ⟨o, h⟩) | h
  · exact ⟨[(a, _)], by simpa using h, fun H q => .inl (.inl (by simpa using q))⟩
  · exact ⟨[(a, _)], by simpa using h, fun H q => .inl (.inr ⟨o, by simpa using q⟩)⟩
  · exact ⟨[], by simp, fun H _ => .inr h⟩
theorem seqT_pin {F : Hp} {a : Addr} {vs : List V} (h : SqT e.K F a vs) : ∃ L : List (Addr × HO), (∀ p ∈ L, F p.1 = some p.2) ∧ ∀ H, (∀ p ∈ L, H p.1 = some p.2) → SqT e.K H a vs := by
  rcases h with (h | ⟨o, h⟩) | h
  · exact ⟨[(a, _)], by simpa using h, fun H q => .inl (.inl (by simpa using q))⟩
  · exact ⟨[(a, _)], by simpa using h, fun H q => .inl (.inr ⟨o, by simpa using q⟩)⟩
  · exact ⟨[], by simp, fun H _ => .inr h⟩
/-- over a list, a tuple -/
def iLst (m : EM) : IM := fun σ => (m σ).bind fun p => match p.1.dat with
  | some (.lst l) => some (l, p.2)
  | some (.frl l) => some (l, p.2)
  | _ => none
def iTupl (m : EM) : IM := fun σ => (m σ).bind fun p => match p.1 with
  | .fz (.tup l) => some (l, p.2)
  | _ => none
theorem I.tup {tg : Expr} {m : EM} (hK : X.K = e.K) (h : PE X a (tE e m)) : PI X tg a (tI e (iTupl m)) := by
  refine (pi_tup h).imp fun σ H R ⟨σc, F, its, σc', s, hm, k⟩ => ?_
  simp only [iTupl, Option.bind_eq_some_iff] at hm
  obtain ⟨⟨c, σ1⟩, h1, h2⟩ := hm
  split at h2
  · rename_i l hc
    cases h2
    have hc' : c = .fz (.tup its) := hc
    subst hc'
    refine ⟨σc, F, _, σ1, s, h1, fun v F1 H1 s1 x1 r1 => ?_⟩
    obtain ⟨a, vs, rfl, q, r⟩ := r1
    obtain ⟨L, hL, hq⟩ := seqT_pin q
    rw [hK]
    exact ⟨a, rfl, ⟨vs, s1.sub.tup q⟩, k _ L F1 H1 s1 x1 (itOk_tup hq r) fun p hp => ⟨s1.sub _ _ (hL p hp), s1.notOwn (hL p hp)⟩⟩
  · cases h2
theorem I.lst {tg : Expr} {m : EM} (hK : X.K = e.K) (h : PE X a (tE e m)) : PI X tg a (tI e (iLst m)) := by
  refine (pi_list h).imp fun σ H R ⟨σc, F, its, σc', s, hm, k⟩ => ?_
  simp only [iLst, Option.bind_eq_some_iff] at hm
  obtain ⟨⟨c, σ1⟩, h1, h2⟩ := hm
  refine ⟨σc, F, _, σ1, s, h1, fun v F1 H1 s1 x1 r1 => ?_⟩
  rw [hK]
  cases c with
  | no => cases h2
  | fz d =>
    cases d <;> first | cases h2 | skip
    · obtain ⟨a, vs, rfl, q, r⟩ := r1
      exact ⟨a, rfl, ⟨vs, .inl (.inl (s1.sub _ _ q))⟩, k _ [(a, .lst vs)] F1 H1 s1 x1 (itOk_list (fun H q => .inl (.inl (by simpa using q))) r fun _ _ _ _ => trivial) (by simpa using ⟨s1.sub _ _ q, s1.notOwn q⟩)⟩
    · obtain ⟨a, vs, rfl, q, r⟩ := r1
      obtain ⟨L, hL, hq⟩ := seqL_pin q
      exact ⟨a, rfl, ⟨vs, s1.sub.seq q⟩, k _ L F1 H1 s1 x1 (itOk_list hq r fun _ _ _ _ => trivial) fun p hp => ⟨s1.sub _ _ (hL p hp), s1.notOwn (hL p hp)⟩⟩
  | ob md d =>
    obtain ⟨a, rfl, q, w, o, f, n⟩ := r1
    cases d <;> first | (cases h2; done) | exact (show False from o).elim | skip
    cases h2
    obtain ⟨vs, q, r⟩ := o
    exact ⟨a, rfl, ⟨vs, .inl (.inl q)⟩, k _ [(a, .lst vs)] F1 H1 s1 x1 (itOk_list (fun H q => .inl (.inl (by simpa using q))) r fun _ _ _ _ => trivial) (by simpa using ⟨q, w⟩)⟩
/-- over a range -/
def okRng (j : Int) : Bool := decide (-4611686018427387904 ≤ j) && decide (j < 4611686018427387904)
theorem okRng_iff {j : Int} (h : okRng j = true) : -(2 ^ 62) ≤ j ∧ j < 2 ^ 62 := by
  simp only [okRng, Bool.and_eq_true, decide_eq_true_eq] at h
  have e : (2 : Int) ^ 62 = 4611686018427387904 := by decide
  rw [e]; exact h
def iR1 (m : AM) : IM := fun σ => (m σ).bind fun p => match p.1 with
  | [.int j] => if okRng j = true then some (rangeD 0 j.toNat, p.2) else none
  | _ => none
def iR2 (m : AM) : IM := fun σ => (m σ).bind fun p => match p.1 with
  | [.int i, .int j] => if (okRng i && okRng j) = true then some (rangeD i (j - i).toNat, p.2) else none
  | _ => none
theorem I.range1 {tg : Expr} {m : AM} (hg : Gl X "range") (hm : X.mg "range" = none) (ha : PA X [a] (tAF e m)) (hs : starEach [a] X.env = [(false, eval a X.env)] := by rfl) : PI X tg (.Call (.Name "range" p) [a] [] pos) (tI e (iR1 m)) := by
  refine (pi_range1 hg hm ha hs).imp fun σ H R ⟨σc, F, its, σc', s, hm, k⟩ => ?_
  simp only [iR1, Option.bind_eq_some_iff] at hm
  obtain ⟨⟨ds, σ1⟩, h1, h2⟩ := hm
  split at h2
  · rename_i j hj
    split at h2
    · rename_i ok
      cases h2
      have hj' : ds = [.int j] := hj
      subst hj'
      refine ⟨σc, F, _, σ1, s, h1, fun vs F1 H1 s1 x1 r1 => ?_⟩
      obtain ⟨v, r, rfl, q, rfl⟩ := r1
      cases q
      obtain ⟨o1, o2⟩ := okRng_iff ok
      exact ⟨j, rfl, o1, o2, k _ [] F1 H1 s1 x1 (itOk_range 0 j.toNat F1) (by simp)⟩
    · cases h2
  · cases h2
theorem I.range2 {tg : Expr} {m : AM} (hg : Gl X "range") (hm : X.mg "range" = none) (ha : PA X [a, b] (tAF e m)) (hs : starEach [a, b] X.env = [(false, eval a X.env), (false, eval b X.env)] := by rfl) (hs2 : starEach [b] X.env = [(false, eval b X.env)] := by rfl) : PI X tg (.Call (.Name "range" p) [a, b] [] pos) (tI e (iR2 m)) := by
  refine (pi_range2 hg hm ha hs hs2).imp fun σ H R ⟨σc, F, its, σc', s, hm, k⟩ => ?_
  simp only [iR2, Option.bind_eq_some_iff] at hm
  obtain ⟨⟨ds, σ1⟩, h1, h2⟩ := hm
  split at h2
  · rename_i i j hj
    split at h2
    · rename_i ok
      cases h2
      have hj' : ds = [.int i, .int j] := hj
      subst hj'
      refine ⟨σc, F, _, σ1, s, h1, fun vs F1 H1 s1 x1 r1 => ?_⟩
      obtain ⟨v, r, rfl, q, v', r', rfl, q', rfl⟩ := r1
      cases q
      cases q'
      rw [Bool.and_eq_true] at ok
      obtain ⟨o1, o2⟩ := okRng_iff ok.1
      obtain ⟨o3, o4⟩ := okRng_iff ok.2
      exact ⟨i, j, rfl, ⟨o1, o2, o3, o4⟩, k _ [] F1 H1 s1 x1 (itOk_range i (j - i).toNat F1) (by simp)⟩
    · cases h2
  · cases h2

/-! ## for -/
def forI (g : D → List C → Option (List C)) (body : SM) : List D → SM
  | [], σ => some (.nx σ)
  | d :: ds, σ => (g d σ).bind fun σ1 => (body σ1).bind fun o => match o with
    | .nx σ2 => forI g body ds σ2
    | .ct σ2 => forI g body ds σ2
    | .bk σ2 => some (.nx σ2)
    | .rt c σ2 => some (.rt c σ2)
def sFor (src : IM) (g : D → List C → Option (List C)) (body : SM) : SM := fun σ => (src σ).bind fun p => forI g body p.1 p.2
theorem pins_kept {σc σ1 : List C} {σ σ' : St} {F F1 H H1 : Hp} {L : List (Addr × HO)} (x : Ext σc σ F H σ1 σ' F1 H1) (h : ∀ p ∈ L, H p.1 = some p.2 ∧ ¬ Own σc σ p.1) : ∀ p ∈ L, H1 p.1 = some p.2 ∧ ¬ Own σ1 σ' p.1 := fun p hp => by
  obtain ⟨h1, h2⟩ := h p hp
  refine ⟨x.h _ _ h1 h2, fun w => ?_⟩
  rcases x.o _ w with z | z
  · exact h2 z
  · rw [h1] at z; cases z
theorem S.for {iter tg : Expr} {src : IM} {is : List Nat} {g : D → List C → Option (List C)} {m : SM} (hp : PassesOwn (model X.prog X.w) X.A X.env X.xe) (hc : X.calm = true) (hi : PI X tg iter (tI e src)) (hg : PG X tg (tG e is g)) (hb : PSs X sts (tS e m))
    (hs : ∀ x, foldedSetIterable iter X.env x = pure x := by intro _; rfl) : PS X (.For tg iter sts [] pos) (tS e (sFor src g m)) := by
  refine (ps_for hp hc hi hg hb hs).imp fun D σ H ⟨σc, F, o, s, hm, k⟩ => ?_
  simp only [sFor, Option.bind_eq_some_iff] at hm
  obtain ⟨⟨its, σ1⟩, h1, h2⟩ := hm
  refine ⟨σc, F, its, σ1, s, h1, fun J L F1 H1 s1 x1 ok pin1 => ?_⟩
  refine ⟨fun i n σ' H' => ∃ σ2 F2, SR e σ2 σ' H' F2 ∧ Ext σ1 σ F1 H1 σ2 σ' F2 H' ∧ forI g m (its.drop i) σ2 = some o ∧ n = its.length - i, ⟨its.length, σ1, F1, s1, .refl .., by simpa using h2, by simp⟩, ?_⟩
  rintro i n σ' H' ⟨σ2, F2, s2, x2, w2, rfl⟩
  have pin2 := pins_kept x2 pin1
  by_cases hlt : i < its.length
  · refine .inr ⟨ok.go i H' (fun p hp => (pin2 p hp).1) hlt, fun σ3 H3 => ∃ σ4 F4, SR e σ4 σ3 H3 F4 ∧ Ext σ1 σ F1 H1 σ4 σ3 F4 H3 ∧ forI g m (its.drop (i + 1)) σ4 = some o, fun σ3 H3 ⟨σ4, F4, y1, y2, y3⟩ => ⟨its.length - (i + 1), by omega, σ4, F4, y1, y2, y3, rfl⟩, fun x H3 y => ?_⟩
    have hd : its[i]? = some its[i] := List.getElem?_eq_getElem hlt
    obtain ⟨F3, f1, f2, f3, f4, rp⟩ := ok.yld i H' x H3 F2 its[i] (fun p hp => (pin2 p hp).1) x2.f s2.sub hd y
    obtain ⟨s3, x3⟩ := s2.grow f2 f1 f3 f4
    rw [List.drop_eq_getElem_cons hlt] at w2
    simp only [forI, Option.bind_eq_some_iff] at w2
    obtain ⟨σ5, w5, o5, w6, w7⟩ := w2
    refine ⟨σ2, F3, its[i], σ5, s3, rp, w5, fun σ6 s6 x6 _ => ⟨σ5, F3, o5, s6, w6, ?_⟩⟩
    have x26 := (x2.trans x3).trans x6
    cases o5 with
    | nx σ7 => exact fun σ8 F8 H8 s8 x8 => ⟨σ7, F8, s8, x26.trans x8, w7⟩
    | ct σ7 => exact fun σ8 F8 H8 s8 x8 => ⟨σ7, F8, s8, x26.trans x8, w7⟩
    | bk σ7 => cases w7; exact fun σ8 F8 H8 s8 x8 => k σ8 F8 H8 s8 ((x1.trans x26).trans x8)
    | rt c σ7 => cases w7; exact fun v σ8 F8 H8 s8 x8 r8 => k v σ8 F8 H8 s8 ((x1.trans x26).trans x8) (r8.base (x1.trans x26))
  · refine .inl ⟨ok.stop i H' (fun p hp => (pin2 p hp).1) (by omega), ?_⟩
    rw [List.drop_eq_nil_of_le (by omega)] at w2
    cases w2
    exact k σ' F2 H' s2 (x1.trans x2)
end
end Sim

set_option Elab.async false
set_option linter.all false
set_option maxRecDepth 100000
namespace Sim
open PySem PySem.Spec L2
open PyProof.Rows hiding St
section
variable {X : Cx} {e : En} {a b c : Expr} {es : List Expr} {pos p : Pos} {st : Stmt} {sts : List Stmt}

/-! ## defs -/
abbrev FM := List C → Option (C × List C)
def runFn (np N : Nat) (body : SM) : FM := fun cs => if cs.length = np then (body (cs ++ List.replicate (N - np) .no)).bind fun o => match o with
  | .rt c σ => some (c, σ)
  | .nx σ => some (.fz .non, σ)
  | _ => none else none
def spF (e : En) (f : FM) : Sp := fun vs H Q _ => ∃ F cs c σc', SR e cs (vs.map some) H F ∧ f cs = some (c, σc') ∧
  ∀ v σ' F' H', SR e σc' σ' H' F' → Ext cs (vs.map some) F H σc' σ' F' H' → RepC e cs (vs.map some) H σc' σ' F' H' c v → Q v H'
theorem getPad {α : Type} {l : List α} {k j : Nat} {x y : α} (h : (l ++ List.replicate k x)[j]? = some y) : l[j]? = some y ∨ (l.length ≤ j ∧ x = y) := by
  by_cases hj : j < l.length
  · rw [List.getElem?_append_left hj] at h; exact .inl h
  · rw [List.getElem?_append_right (by omega)] at h
    obtain ⟨h1, h2⟩ := List.getElem?_eq_some_iff.mp h
    rw [List.getElem_replicate] at h2
    exact .inr ⟨by omega, h2⟩
theorem padGet {α : Type} {l : List α} {k j : Nat} {x y : α} (h : l[j]? = some y) : (l ++ List.replicate k x)[j]? = some y := by
  rw [List.getElem?_append_left (List.getElem?_eq_some_iff.mp h).1]; exact h
theorem SR.pad {cs : List C} {σ : St} {H F : Hp} (s : SR e cs σ H F) (k : Nat) : SR e (cs ++ List.replicate k .no) (σ ++ List.replicate k none) H F := by
  refine ⟨by simp [s.len], s.sub, fun i d h => ?_, fun i m d h => ?_, fun i j m d m' d' h1 h2 h3 => ?_⟩
  · rcases getPad h with h | ⟨_, h⟩
    · obtain ⟨v, p, q⟩ := s.fz i d h
      exact ⟨v, padGet p, q⟩
    · cases h
  · rcases getPad h with h | ⟨_, h⟩
    · obtain ⟨a, p, q⟩ := s.ob i m d h
      exact ⟨a, padGet p, q⟩
    · cases h
  · rcases getPad h1 with h1 | ⟨_, h⟩
    · rcases getPad h2 with h2 | ⟨_, h⟩
      · refine s.inj i j _ _ _ _ h1 h2 ?_
        obtain ⟨a, p, _⟩ := s.ob i m d h1
        obtain ⟨b, q, _⟩ := s.ob j m' d' h2
        rw [padGet p, padGet q] at h3
        rw [p, q, Option.some.inj h3]
      · cases h
    · cases h
theorem own_pad {cs : List C} {σ : St} {H F : Hp} (s : SR e cs σ H F) {k : Nat} {a : Addr} : Own (cs ++ List.replicate k .no) (σ ++ List.replicate k none) a ↔ Own cs σ a := by
  constructor
  · rintro ⟨i, m, d, h1, h2, h3⟩
    rcases getPad h1 with h | ⟨_, h⟩
    · obtain ⟨b, p, _⟩ := s.ob i m d h
      rw [padGet p] at h3; cases h3
      exact ⟨i, m, d, h, h2, p⟩
    · cases h
  · rintro ⟨i, m, d, h1, h2, h3⟩
    exact ⟨i, m, d, padGet h1, h2, padGet h3⟩
theorem Ext.unpad {cs σc' : List C} {σ σ' : St} {H F H' F' : Hp} {k : Nat} (s : SR e cs σ H F) (x : Ext (cs ++ List.replicate k .no) (σ ++ List.replicate k none) F H σc' σ' F' H') : Ext cs σ F H σc' σ' F' H' := by
  refine ⟨x.f, fun a o h w => x.h a o h fun z => w ((own_pad s).mp z), fun a o h => ?_, fun a h => ?_, fun i m d h ne => ?_, fun i d h => ?_⟩
  · exact (x.n a o h).imp id fun z => z.imp id (own_pad s).mp
  · exact (x.o a h).imp (own_pad s).mp id
  · obtain ⟨h1, h2⟩ := x.m i m d (padGet h) ne
    obtain ⟨b, p, _⟩ := s.ob i m d h
    exact ⟨by rw [h1, padGet p, p], h2⟩
  · obtain ⟨h1, h2⟩ := x.p i d h
    rcases getPad h1 with h1 | ⟨_, h1⟩
    · obtain ⟨b, p, _⟩ := s.ob i _ d h1
      exact ⟨h1, by rw [h2, padGet p, p]⟩
    · cases h1
theorem RepC.unpad {cs σc' : List C} {σ σ' : St} {H F H' F' : Hp} {k : Nat} {c : C} {v : V} (s : SR e cs σ H F) (r : RepC e (cs ++ List.replicate k .no) (σ ++ List.replicate k none) H σc' σ' F' H' c v) : RepC e cs σ H σc' σ' F' H' c v := by
  cases c with
  | no => exact r
  | fz d => exact r
  | ob m d =>
    obtain ⟨a, p, q, w, o, f, n⟩ := r
    exact ⟨a, p, q, w, o, f.imp id (own_pad s).mp, n⟩
/-- a def's body gives its promise -/
theorem body_ok {N : List Str} {np : Nat} {m : SM} {vs : List V} {H : Hp} {Q : VK} {E : XK} (h : spF e (runFn np N.length m) vs H Q E) : tS e m { nx := fun _ H' => Q .non H', rt := Q } (start N vs) H := by
  obtain ⟨F, cs, c, σc', s, hm, k⟩ := h
  have hcs : cs.length = vs.length := by have := s.len; simpa using this
  unfold runFn at hm
  split at hm
  · rename_i hn
    simp only [Option.bind_eq_some_iff] at hm
    obtain ⟨o, h1, h2⟩ := hm
    refine ⟨_, F, o, s.pad (N.length - vs.length), by rw [← hcs, hn]; exact h1, ?_⟩
    cases o with
    | nx σ1 => cases h2; exact fun σ' F' H' s' x' => k .non σ' F' H' s' (Ext.unpad s x') rfl
    | rt c1 σ1 => cases h2; exact fun v σ' F' H' s' x' r' => k v σ' F' H' s' (Ext.unpad s x') (RepC.unpad s r')
    | bk σ1 => cases h2
    | ct σ1 => cases h2
  · cases hm
theorem fn_ok {P : Program} {w : World} {K : PySem.W.Frag} {mg : Str → Option Value} {base : Heap} {x qual : Str} {st : Stmt} {f : Addr} {fd : FuncData} {N ps : List Str} {k np nn : Nat} {m : SM} (Fn : Fun K x qual st f fd) (S : FnScope N ps (defScope st)) (hp : ps.length = np) (hN : N.length = nn)
    (hb : ∀ (cdv : Value) (A : Around) (outer : List Env) (s : Shared) (H : Hp) (E : XK), Room k (A.deeper (envOfC qual (defScope st) s.heap.objs.size f cdv)) → PSs (cxOf CX0 P w K mg base N qual (defScope st) f cdv A outer s H E).nox (defBody st) (tS e m)) :
    FnOk P w K mg base CX0 (k + 1) f fd ps (spF e (runFn np nn m)) := by
  subst hN
  refine Fn.ok S (fun vs H Q E h => ?_) fun cdv A outer s H vs Q E hr h => ⟨_, hb cdv A outer s H E hr, body_ok h⟩
  obtain ⟨F, cs, c, σc', s, hm, k⟩ := h
  have hcs : cs.length = vs.length := by have := s.len; simpa using this
  unfold runFn at hm
  split at hm
  · omega
  · cases hm

/-! ## calls -/
theorem own_fz {ds : List D} {σ : St} {a : Addr} : ¬ Own (ds.map C.fz) σ a := by
  rintro ⟨i, m, d, h, _⟩
  simp only [List.getElem?_map, Option.map_eq_some_iff] at h
  obtain ⟨_, _, h⟩ := h
  cases h
theorem SR.args {ds : List D} {vs : List V} {H F : Hp} (s : Sub F H) (r : Reps e F ds vs) : SR e (ds.map .fz) (vs.map some) H F := by
  refine ⟨by simp [r.length], s, fun i d h => ?_, fun i m d h => ?_, fun i j m d m' d' h _ _ => ?_⟩
  · simp only [List.getElem?_map, Option.map_eq_some_iff] at h
    obtain ⟨d', h, e1⟩ := h
    cases e1
    obtain ⟨v, p, q⟩ := r.get h
    exact ⟨v, by simp [p], q⟩
  · simp only [List.getElem?_map, Option.map_eq_some_iff] at h
    obtain ⟨_, _, h⟩ := h
    cases h
  · simp only [List.getElem?_map, Option.map_eq_some_iff] at h
    obtain ⟨_, _, h⟩ := h
    cases h
def mCall (f : FM) (m : AM) : EM := fun σ => (m σ).bind fun p => (f (p.1.map .fz)).map fun q => (q.1, p.2)
/-- behind a callee that changes nothing of ours -/
theorem call_back {σ1 : List C} {σ : St} {H1 F1 F0 : Hp} {cs σc' : List C} {τ σ' : St} {F' H' : Hp} {c : C} {v : V} (s1 : SR e σ1 σ H1 F1) (sF : Sub F1 F0) (no : ∀ a, ¬ Own cs τ a) (x : Ext cs τ F0 H1 σc' σ' F' H') : Sub H1 H' := fun a o h => x.h a o h (no a)
theorem E.call {CX : CXT} {k : Nat} {f : Addr} {fd : FuncData} {ps : List Str} {fm : FM} {x : Str} {E : XK} {m : AM} (G : FnOk X.prog X.w X.K X.mg X.base CX k f fd ps (spF e fm)) (hr : Room k X.A) (hg : Gl X x) (hm : X.mg x = some (.ref f)) (hk : PySem.W.keepIn X.K (.ref f) = true) (hb : Binds X.K fd ps []) (hx : Passes CX X E)
    (ha : PA X (a :: es) (tAF e m)) (hdb : (x == ("__debug__" : Str)) = false := by decide) (he : starEach (a :: es) X.env = (false, eval a X.env) :: starEach es X.env := by rfl) (hpl : (backTo pos (starEach es X.env)).any (·.1) = false := by rfl) :
    PE X (.Call (.Name x p) (a :: es) [] pos) (tE e (mCall fm m)) :=
  (pe_call G hr hg hm hk hb .nil hx ha hdb he hpl).imp fun σ H Q ⟨σc, F, c, σc', s, hm, k⟩ => by
    simp only [mCall, Option.bind_eq_some_iff, Option.map_eq_some_iff, Prod.mk.injEq] at hm
    obtain ⟨⟨ds, σ1⟩, h1, ⟨c', σf⟩, h2, rfl, rfl⟩ := hm
    refine ⟨σc, F, ds, σ1, s, h1, fun vs F1 H1 s1 x1 r1 => ?_⟩
    show spF e fm (vs ++ []) H1 Q _
    rw [List.append_nil]
    refine ⟨F1, ds.map .fz, c', σf, SR.args s1.sub r1, h2, fun v σ' F' H' s' x' r' => ?_⟩
    have hH : Sub H1 H' := fun a o h => x'.h a o h own_fz
    obtain ⟨s2, x2⟩ := s1.grow hH x'.f s'.sub fun a o h => (x'.n a o h).imp id fun z => z.elim id fun w => (own_fz w).elim
    refine k v F' H' s2 (x1.trans x2) ?_
    cases c' with
    | no => exact r'
    | fz d => exact r'
    | ob md d =>
      obtain ⟨a, p, q, w, o, fr, n⟩ := r'
      have fr' : H1 a = none := fr.elim id fun w => (own_fz w).elim
      refine ⟨a, p, q, fun w => ?_, o, x1.keepNo fr', fun i m d hi hv => ?_⟩
      · obtain ⟨i, m, d, z1, z2, z3⟩ := w
        exact s1.notSlotNew fr' i m d z1 z3
      · exact s1.notSlotNew fr' i m d hi hv
/-- f(..) whose answer holds no object: its arguments are lent -/
def flatD : D → Bool
  | .non => true
  | .bl _ => true
  | .int _ => true
  | .str _ => true
  | _ => false
theorem flat_rep {d : D} (h : flatD d = true) {F G : Hp} {v : V} (r : Rep e F d v) : Rep e G d v := by
  cases d <;> first | exact r | cases h
def mCallL (f : FM) (m : LAM) : EM := fun σ => (m σ).bind fun p => (p.1 p.2).bind fun ds => (f (ds.map .fz)).bind fun q => match q.1 with
  | .fz d => if flatD d = true then some (.fz d, p.2) else none
  | _ => none
theorem RepH.lend {d : D} {v : V} {H F : Hp} (s : Sub F H) (h : RepH e H F d v) : Rep e H d v := by
  rcases h with h | ⟨a, rfl, _, h⟩
  · exact Rep.mono s _ _ h
  · exact h.rep s rfl
theorem lend_all {H F : Hp} (s : Sub F H) : ∀ {ds : List D} {vs : List V}, Paired (RepH e H F) ds vs → Reps e H ds vs
  | _, _, .nil => rfl
  | _, _, .cons h t => ⟨_, _, rfl, h.lend s, lend_all s t⟩
theorem E.callL {CX : CXT} {k : Nat} {f : Addr} {fd : FuncData} {ps : List Str} {fm : FM} {x : Str} {E : XK} {m : LAM} (G : FnOk X.prog X.w X.K X.mg X.base CX k f fd ps (spF e fm)) (hr : Room k X.A) (hg : Gl X x) (hm : X.mg x = some (.ref f)) (hk : PySem.W.keepIn X.K (.ref f) = true) (hb : Binds X.K fd ps []) (hx : Passes CX X E)
    (ha : PA X (a :: es) (tLA e m)) (hdb : (x == ("__debug__" : Str)) = false := by decide) (he : starEach (a :: es) X.env = (false, eval a X.env) :: starEach es X.env := by rfl) (hpl : (backTo pos (starEach es X.env)).any (·.1) = false := by rfl) :
    PE X (.Call (.Name x p) (a :: es) [] pos) (tE e (mCallL fm m)) :=
  (pe_call G hr hg hm hk hb .nil hx ha hdb he hpl).imp fun σ H Q ⟨σc, F, c, σc', s, hm, k⟩ => by
    simp only [mCallL, Option.bind_eq_some_iff] at hm
    obtain ⟨⟨g, σ1⟩, h1, ds, h2, ⟨c', σf⟩, h3, h4⟩ := hm
    cases c' with
    | no => cases h4
    | ob md d => cases h4
    | fz d =>
      dsimp only at h4
      split at h4
      · rename_i hf
        cases h4
        refine ⟨σc, F, g, σc', s, h1, fun vs F1 H1 s1 x1 r1 => ?_⟩
        show spF e fm (vs ++ []) H1 Q _
        rw [List.append_nil]
        have rp := lend_all s1.sub (r1 σc' F1 H1 ds s1 (.refl ..) h2)
        refine ⟨H1, ds.map .fz, .fz d, σf, SR.args (.refl H1) rp, h3, fun v σ' F' H' s' x' r' => ?_⟩
        have hH : Sub H1 H' := fun a o h => x'.h a o h own_fz
        obtain ⟨s2, x2⟩ := s1.grow hH (.refl F1) (s1.sub.trans hH) fun a o h => .inl h
        exact k v F1 H' s2 (x1.trans x2) (flat_rep hf r')
      · cases h4
/-- f(x, ..), x an object that f may change -/
def mCallM (f : FM) (i : Nat) (m : AM) : EM := fun σ => match σ[i]? with
  | some (C.ob _ _) => (m σ).bind fun (p : List D × List C) => match p.2[i]? with
    | some (C.ob md d) => if md = Md.lk then none else (f (C.ob Md.mu d :: p.1.map C.fz)).bind fun (q : C × List C) => match q.2[0]? with
      | some (C.ob Md.mu d') => some (q.1, p.2.set i (C.ob md d'))
      | _ => none
    | _ => none
  | _ => none
theorem own_mu {ds : List D} {vs : List V} {d : D} {a b : Addr} : Own (.ob .mu d :: ds.map C.fz) (some (.ref a) :: vs.map some) b ↔ b = a := by
  constructor
  · rintro ⟨i, m, d, h, h2, h3⟩
    cases i with
    | zero => simp at h3; exact h3.symm
    | succ i =>
      simp only [List.getElem?_cons_succ, List.getElem?_map, Option.map_eq_some_iff] at h
      obtain ⟨_, _, h⟩ := h
      cases h
  · rintro rfl
    exact ⟨0, .mu, d, rfl, by decide, rfl⟩
theorem SR.argsM {ds : List D} {vs : List V} {H F : Hp} {d : D} {a : Addr} (s : Sub F H) (r : Reps e F ds vs) (n : F a = none) (o : ObjAt e H F a d) : SR e (.ob .mu d :: ds.map .fz) (some (.ref a) :: vs.map some) H F := by
  have t := SR.args (H := H) s r
  refine ⟨by simp [r.length], s, fun i d' h => ?_, fun i m d' h => ?_, fun i j m d1 m' d2 h h' _ => ?_⟩
  · cases i with
    | zero => cases h
    | succ i => exact t.fz i d' (by simpa using h)
  · cases i with
    | zero => cases h; exact ⟨a, rfl, n, o⟩
    | succ i =>
      simp only [List.getElem?_cons_succ, List.getElem?_map, Option.map_eq_some_iff] at h
      obtain ⟨_, _, h⟩ := h
      cases h
  · cases i with
    | zero =>
      cases j with
      | zero => rfl
      | succ j =>
        simp only [List.getElem?_cons_succ, List.getElem?_map, Option.map_eq_some_iff] at h'
        obtain ⟨_, _, h⟩ := h'
        cases h
    | succ i =>
      simp only [List.getElem?_cons_succ, List.getElem?_map, Option.map_eq_some_iff] at h
      obtain ⟨_, _, h⟩ := h
      cases h
/-- behind a callee that may change the object at slot i -/
theorem back_mu {σ1 σf : List C} {σ σ' : St} {H1 F1 H' F' : Hp} {i : Nat} {md : Md} {d d' : D} {a : Addr} {ds : List D} {vs : List V} {c : C} {v : V} (s1 : SR e σ1 σ H1 F1) (hi : σ1[i]? = some (.ob md d)) (hlk : md ≠ .lk) (hv : σ[i]? = some (some (.ref a)))
    (s' : SR e σf σ' H' F') (x' : Ext (.ob .mu d :: ds.map .fz) (some (.ref a) :: vs.map some) F1 H1 σf σ' F' H') (r' : RepC e (.ob .mu d :: ds.map .fz) (some (.ref a) :: vs.map some) H1 σf σ' F' H' c v) (hd' : σf[0]? = some (.ob .mu d')) :
    SR e (σ1.set i (.ob md d')) σ H' F' ∧ Ext σ1 σ F1 H1 (σ1.set i (.ob md d')) σ F' H' ∧ RepC e σ1 σ H1 (σ1.set i (.ob md d')) σ F' H' c v := by
  have oa : Own σ1 σ a := ⟨i, md, d, hi, hlk, hv⟩
  obtain ⟨p0, _⟩ := x'.m 0 .mu d rfl (by decide)
  have pa : σ'[0]? = some (some (.ref a)) := p0
  obtain ⟨na, ob⟩ := s'.ne_none hd' pa
  have hl : i < σ1.length := (List.getElem?_eq_some_iff.mp hi).1
  have hob : ∀ {j : Nat} {m : Md} {d2 : D}, (σ1.set i (.ob md d'))[j]? = some (.ob m d2) → ∃ d3, σ1[j]? = some (.ob m d3) ∧ (i ≠ j → d3 = d2) := fun {j m d2} h => by
    rcases getSet h with ⟨rfl, h, _⟩ | ⟨ne, h⟩
    · cases h; exact ⟨d, hi, fun z => (z rfl).elim⟩
    · exact ⟨d2, h, fun _ => rfl⟩
  have away : ∀ {j : Nat} {m : Md} {d2 : D} {b : Addr}, i ≠ j → σ1[j]? = some (.ob m d2) → σ[j]? = some (some (.ref b)) → b ≠ a := fun {j m d2 b} ne h hb z => by
    subst z; exact ne (s1.inj i j _ _ _ _ hi h (hv.trans hb.symm))
  refine ⟨⟨by rw [List.length_set]; exact s1.len, s'.sub, fun j d2 h => ?_, fun j m d2 h => ?_, fun j k m d1 m' d2 h1 h2 h3 => ?_⟩, ⟨x'.f, fun b o h w => ?_, fun b o h => ?_, fun b w => ?_, fun j m d2 h ne => ?_, fun j d2 h => ?_⟩, ?_⟩
  · rcases getSet h with ⟨rfl, h, _⟩ | ⟨ne, h⟩
    · cases h
    · obtain ⟨u, q1, q2⟩ := s1.fz j d2 h
      exact ⟨u, q1, q2.mono x'.f⟩
  · rcases getSet h with ⟨rfl, h, _⟩ | ⟨ne, h⟩
    · cases h; exact ⟨a, hv, na, ob⟩
    · obtain ⟨b, q1, q2, q3⟩ := s1.ob j m d2 h
      have nb := away ne h q1
      obtain ⟨ho, e1⟩ := q3.some
      refine ⟨b, q1, ?_, q3.mono x'.f (by rw [e1]; exact x'.h b _ e1 fun w => nb (own_mu.mp w))⟩
      cases z : F' b with
      | none => rfl
      | some u =>
        rcases x'.n b u z with y | y | y
        · rw [q2] at y; cases y
        · rw [e1] at y; cases y
        · exact (nb (own_mu.mp y)).elim
  · obtain ⟨_, g1, _⟩ := hob h1
    obtain ⟨_, g2, _⟩ := hob h2
    exact s1.inj j k _ _ _ _ g1 g2 h3
  · exact x'.h b o h fun z => w (by rw [own_mu.mp z]; exact oa)
  · exact (x'.n b o h).imp id fun z => z.imp id fun w => by rw [own_mu.mp w]; exact oa
  · obtain ⟨j, m, d2, h1, h2, h3⟩ := w
    obtain ⟨d3, g1, _⟩ := hob h1
    exact .inl ⟨j, m, d3, g1, h2, h3⟩
  · by_cases ij : i = j
    · subst ij
      rw [hi] at h; cases h
      exact ⟨rfl, d', by rw [List.getElem?_set_self hl], fun z => (hlk z).elim⟩
    · exact ⟨rfl, d2, by rw [List.getElem?_set_ne ij]; exact h, fun _ => rfl⟩
  · rcases getSet h with ⟨rfl, h, _⟩ | ⟨ne, h⟩
    · cases h; exact (hlk rfl).elim
    · exact ⟨h, rfl⟩
  · cases c with
    | no => exact r'
    | fz d => exact r'
    | ob m2 d2 =>
      obtain ⟨b, p, q, w, o, fr, n⟩ := r'
      have fr' : H1 b = none := fr.elim id fun z => by
        have eb := own_mu.mp z
        subst eb
        exact (w ⟨0, .mu, d', hd', by decide, pa⟩).elim
      have far : ∀ {j : Nat} {m : Md} {d : D}, (σ1.set i (.ob md d'))[j]? = some (.ob m d) → σ[j]? ≠ some (some (.ref b)) := fun {j m d} h hb => by
        obtain ⟨d3, g1, _⟩ := hob h
        exact s1.notSlotNew fr' j m d3 g1 hb
      exact ⟨b, p, q, fun ⟨j, m, d, z1, _, z3⟩ => far z1 z3, o, .inl fr', fun j m d hi hv => far hi hv⟩
theorem E.callM {CX : CXT} {k : Nat} {f : Addr} {fd : FuncData} {ps : List Str} {fm : FM} {x : Str} {E : XK} {i : Nat} {m : AM} (G : FnOk X.prog X.w X.K X.mg X.base CX k f fd ps (spF e fm)) (hr : Room k X.A) (hg : Gl X x) (hm : X.mg x = some (.ref f)) (hk : PySem.W.keepIn X.K (.ref f) = true) (hb : Binds X.K fd ps []) (hx : Passes CX X E)
    (h0 : PE X a (tVar i)) (ha : PA X es (tAF e m)) (hdb : (x == ("__debug__" : Str)) = false := by decide) (he : starEach (a :: es) X.env = (false, eval a X.env) :: starEach es X.env := by rfl) (hpl : (backTo pos (starEach es X.env)).any (·.1) = false := by rfl) :
    PE X (.Call (.Name x p) (a :: es) [] pos) (tE e (mCallM fm i m)) :=
  (pe_call G hr hg hm hk hb .nil hx (pa_cons h0 ha he) hdb he hpl).imp fun σ H Q ⟨σc, F, c, σc', s, hm, k⟩ => by
    unfold mCallM at hm
    split at hm
    · rename_i md0 d0 hi0
      obtain ⟨a, hv, _, _⟩ := s.ob i _ _ hi0
      obtain ⟨⟨ds, σ1⟩, h1, h2⟩ := Option.bind_eq_some_iff.mp hm
      dsimp only at h2
      split at h2
      · rename_i md d hi
        split at h2
        · cases h2
        · rename_i hlk
          obtain ⟨⟨c', σf⟩, h3, h4⟩ := Option.bind_eq_some_iff.mp h2
          dsimp only at h4
          split at h4
          · rename_i d' hd'
            cases h4
            refine ⟨_, hv, σc, F, ds, σ1, s, h1, fun vs F1 H1 s1 x1 r1 => ?_⟩
            show spF e fm ((.ref a :: vs) ++ []) H1 Q _
            rw [List.append_nil]
            obtain ⟨na, oa⟩ := s1.ne_none hi hv
            refine ⟨F1, _, _, σf, SR.argsM s1.sub r1 na oa, h3, fun v σ' F' H' s' x' r' => ?_⟩
            obtain ⟨s2, x2, r2⟩ := back_mu s1 hi hlk hv s' x' r' hd'
            exact k v F' H' s2 (x1.trans x2) (r2.base x1)
          · cases h4
      · cases h2
    · cases hm
end
end Sim

set_option Elab.async false
set_option linter.all false
set_option maxRecDepth 100000
namespace Sim
open PySem PySem.Spec L2
open PyProof.Rows hiding St
section
variable {X : Cx} {e : En} {a b c : Expr} {es : List Expr} {pos p : Pos} {st : Stmt} {sts : List Stmt} {H F : Hp} {v : V}

/-! ## chains -/
theorem chain_use {r r' : R2} {f f' : D → D → Option C} {m1 m2 m3 : LM} (so : SOp e r f) (so' : SOp e r' f') {σ : St} {H : Hp} {Q : VK} (h : tE e (mChain f f' m1 m2 m3) σ H Q) : tChain r r' (tL e m1) (tL e m2) (tL e m3) σ H Q := by
  obtain ⟨σc, F, c, σc', s, hm, k⟩ := h
  simp only [mChain, Option.bind_eq_some_iff] at hm
  obtain ⟨⟨g1, σ1⟩, h1, ⟨g2, σ2⟩, h2, x, h3, y, h4, z, h5, t, h6, h7⟩ := hm
  have hz := asB_some h6
  subst hz
  refine ⟨σc, F, g1, σ1, s, h1, fun v1 F1 H1 s1 x1 r1 => ⟨σ1, F1, g2, σ2, s1, h2, fun v2 F2 H2 s2 x2 r2 => ?_⟩⟩
  refine so σ2 σ H2 F2 x y v1 v2 _ _ s2 (r1 σ2 F2 H2 x s2 x2 h3) (r2 σ2 F2 H2 y s2 (.refl ..) h4) h5 fun v F3 H3 s3 x3 r3 => ⟨t, r3, ?_⟩
  cases t with
  | false =>
    rw [if_neg Bool.false_ne_true] at h7 ⊢
    cases h7
    exact k _ F3 H3 s3 ((x1.trans x2).trans x3) rfl
  | true =>
    rw [if_pos rfl] at h7 ⊢
    simp only [Option.bind_eq_some_iff, Option.map_eq_some_iff, Prod.mk.injEq] at h7
    obtain ⟨⟨g3, σ3⟩, h8, y', h9, w, h10, c', h11, rfl, rfl⟩ := h7
    refine ⟨σ2, F3, g3, σ3, s3, h8, fun v4 F4 H4 s4 x4 r4 => ?_⟩
    exact so' σ3 σ H4 F4 y' w v2 v4 c' Q s4 (r2 σ3 F4 H4 y' s4 (x3.trans x4) h9) (r4 σ3 F4 H4 w s4 (.refl ..) h10) h11 fun v F5 H5 s5 x5 r5 =>
      k v F5 H5 s5 ((((x1.trans x2).trans x3).trans x4).trans x5) (r5.base (((x1.trans x2).trans x3).trans x4))
theorem E.chain {op op' : CmpOp} {r r' : R2} {f f' : D → D → Option C} {m1 m2 m3 : LM} (ho : OpR X (compareOp op) r) (ho' : OpR X (compareOp op') r') (so : SOp e r f) (so' : SOp e r' f') (ha : PE X a (tL e m1)) (hb : PE X b (tL e m2)) (hc : PE X c (tL e m3))
    (hm : lastMarks [op, op'] [b, c] = false := by with_unfolding_all rfl) : PE X (.Compare a [op, op'] [b, c] pos) (tE e (mChain f f' m1 m2 m3)) :=
  (pe_chain ho ho' ha hb hc hm).imp fun _ _ _ h => chain_use so so' h
theorem T.chain {op op' : CmpOp} {r r' : R2} {f f' : D → D → Option C} {m1 m2 m3 : LM} (ho : OpR X (compareOp op) r) (ho' : OpR X (compareOp op') r') (so : SOp e r f) (so' : SOp e r' f') (ha : PE X a (tL e m1)) (hb : PE X b (tL e m2)) (hc : PE X c (tL e m3))
    (hm : lastMarks [op, op'] [b, c] = false := by with_unfolding_all rfl) : PT X (.Compare a [op, op'] [b, c] pos) (tT e (eT (mChain f f' m1 m2 m3))) :=
  (pt_chain ho ho' ha hb hc hm).imp fun _ _ _ h => by
    obtain ⟨σc, F, c, σc', s, hm, k⟩ := h
    exact chain_use so so' ⟨σc, F, _, σc', s, eT_some.mp hm, fun v F' H' s' x r => ⟨c, r, k F' H' s' x⟩⟩
def mUn (f : D → Option D) (m : EM) : EM := fun σ => (m σ).bind fun p => p.1.dat.bind fun d => (f d).map fun r => (.fz r, p.2)
def dNeg (d : D) : Option D := match d with | .int i => some (.int (-i)) | _ => none
theorem E.neg {m : EM} (ha : PE X a (tE e m)) : PE X (.UnaryOp .USub a pos) (tE e (mUn dNeg m)) :=
  (pe_un un_neg ha).imp fun σ H Q ⟨σc, F, c, σc', s, hm, k⟩ => by
    simp only [mUn, Option.bind_eq_some_iff, Option.map_eq_some_iff, Prod.mk.injEq] at hm
    obtain ⟨⟨c1, σ1⟩, h1, d, h2, d', h3, rfl, rfl⟩ := hm
    unfold dNeg at h3; split at h3
    · cases h3
      refine ⟨σc, F, c1, σ1, s, h1, fun v F1 H1 s1 x1 r1 => ?_⟩
      have hv := (r1.later s1 (.refl ..) h2).int
      exact ⟨_, hv, k _ F1 H1 s1 x1 rfl⟩
    · cases h3

/-! ## is True -/
def dIsB (x y : D) : Option C := match x, y with | .bl a, .bl b => some (.fz (.bl (decide (a = b)))) | _, _ => none
def dNotB (x y : D) : Option C := match x, y with | .bl a, .bl b => some (.fz (.bl (!decide (a = b)))) | _, _ => none
theorem so_isB : SOp e rIsB dIsB := by
  intro σc σ H F d1 d2 v1 v2 c Q s h1 h2 hf k
  unfold dIsB at hf; split at hf
  · cases hf; exact ⟨_, _, h1.bl, h2.bl, k _ F H s (.refl ..) rfl⟩
  · cases hf
theorem so_notB : SOp e rNotB dNotB := by
  intro σc σ H F d1 d2 v1 v2 c Q s h1 h2 hf k
  unfold dNotB at hf; split at hf
  · cases hf; exact ⟨_, _, h1.bl, h2.bl, k _ F H s (.refl ..) rfl⟩
  · cases hf

/-! ## isinstance of data against a built-in class -/
def tyD : D → Option String
  | .non => some "NoneType"
  | .bl _ => some "bool"
  | .int _ => some "int"
  | .str _ => some "str"
  | .lst _ => some "list"
  | .dct _ => some "dict"
  | .dcT _ => some "dict"
  | _ => none
def cIsI (T : String) (d : D) : Option C := (tyD d).bind fun t => (kitB t T).map fun b => .fz (.bl b)
theorem RepH.tyOf {d : D} {t : String} (s : Sub F H) (h : RepH e H F d v) (k : tyD d = some t) : TyX e.K H v (.type t) := by
  refine .base ?_
  cases d <;> first | (cases k; done) | (cases k; skip)
  · cases h.non; exact .non
  · cases h.bl; exact .bl _
  · cases h.int; exact .int _
  · cases h.str; exact .str _
  · obtain ⟨a, vs, rfl, q, _⟩ := h.lst s; exact .lst q
  · rcases h with ⟨a, ks, rfl, q, _⟩ | ⟨a, rfl, _, ks, q, _⟩
    · exact .dK (s _ _ q)
    · exact .dK q
  · rcases h with ⟨a, ks, rfl, q, _⟩ | ⟨a, rfl, _, ks, q, _⟩
    · exact .dT (s _ _ q)
    · exact .dT q
def mIsI (T : String) (m : LM) : EM := fun σ => (m σ).bind fun p => (p.1 p.2).bind fun d => (cIsI T d).map fun c => (c, p.2)
theorem E.isI {T : String} {m : LM} (hK : X.K = e.K) (ha : PE X a (tL e m)) (hb : PE X b (tC (.ty T))) (hg : Gl X "isinstance") (hm : X.mg "isinstance" = none)
    (he : starEach (a :: [b]) X.env = (false, eval a X.env) :: starEach [b] X.env := by rfl) (he2 : starEach (b :: []) X.env = (false, eval b X.env) :: starEach [] X.env := by rfl) (hpl : (backTo pos (starEach [b] X.env)).any (·.1) = false := by rfl) :
    PE X (.Call (.Name "isinstance" p) [a, b] [] pos) (tE e (mIsI T m)) :=
  (pe_callB call_isi hg hm (by decide +kernel) (pa_cons ha (pa_cons hb pa_nil he2) he) (he := he) (hpl := hpl)).imp fun σ H Q ⟨σc, F, c, σc', s, hm, k⟩ => by
    simp only [mIsI, cIsI, Option.bind_eq_some_iff, Option.map_eq_some_iff, Prod.mk.injEq] at hm
    obtain ⟨⟨g, σ1⟩, h1, d, h2, c', ⟨t, ht, r, hr, rfl⟩, rfl, rfl⟩ := hm
    refine ⟨σc, F, g, σ1, s, h1, fun v F1 H1 s1 x1 r1 => ?_⟩
    have hd := r1 σ1 F1 H1 d s1 (.refl ..) h2
    rw [hK]
    exact ⟨v, .ty T, .type t, .type T, r, rfl, .ty T, hd.tyOf s1.sub ht, kit_ty hr, k _ F1 H1 s1 x1 rfl⟩

/-! ## repr of scalars -/
def cRepr (ds : List D) : Option C := match ds with
  | [.non] => some (.fz (.str "None"))
  | [.bl b] => some (.fz (.str (if b then "True" else "False")))
  | [.str x] => if (reprText x).length ≤ lineN then some (.fz (.str (reprText x))) else none
  | _ => none
def rRepr : List V → Hp → VK → Prop := fun xs H Q => (xs = [.non] ∧ Q (.str "None") H) ∨ (∃ b : Bool, xs = [.bl b] ∧ Q (.str (if b then "True" else "False")) H) ∨ ∃ x, xs = [.str x] ∧ (reprText x).length ≤ sizeLine ∧ Q (.str (reprText x)) H
theorem call_repr : CallR X (.builtin "repr") rRepr := by
  intro pins s σ H xs us Q I r h
  rcases h with ⟨rfl, q⟩ | ⟨b, rfl, q⟩ | ⟨x, rfl, hz, q⟩
  · obtain ⟨u, rfl, rx⟩ := vals1 r
    cases rx
    exact PySem.P.repr_of_none ⟨.str _, H, I.tok _, ⟨_, rfl⟩, q⟩
  · obtain ⟨u, rfl, rx⟩ := vals1 r
    cases rx
    exact PySem.P.repr_of_bool ⟨.str _, H, I.tok _, ⟨_, rfl⟩, q⟩
  · obtain ⟨u, rfl, t, rfl⟩ := vals1 r
    exact PySem.P.repr_of_str ⟨.str _, H, I.tok _, ⟨_, rfl⟩, q⟩ hz
theorem sc_repr : SCall e rRepr cRepr := by
  intro σc σ H F ds vs c Q s hr hf k
  unfold cRepr at hf; split at hf
  · cases hf
    obtain ⟨v, rfl, h⟩ := prs1 hr
    cases h.non
    exact .inl ⟨rfl, k _ F H s (.refl ..) rfl⟩
  · cases hf
    obtain ⟨v, rfl, h⟩ := prs1 hr
    cases h.bl
    exact .inr (.inl ⟨_, rfl, k _ F H s (.refl ..) rfl⟩)
  · split at hf
    · rename_i hz
      cases hf
      obtain ⟨v, rfl, h⟩ := prs1 hr
      cases h.str
      exact .inr (.inr ⟨_, rfl, by rw [lineN_eq]; exact hz, k _ F H s (.refl ..) rfl⟩)
    · cases hf
  · cases hf

/-! ## in -/
theorem DpAll.length {K : PySem.W.Frag} {H : Hp} : ∀ {vs : List V} {ds : List PyData}, DpAll K H vs ds → vs.length = ds.length
  | _, _, .nil => rfl
  | _, _, .cons _ t => by rw [List.length_cons, List.length_cons, DpAll.length t]

/-! ## lists -/
def dCat (x y : D) : Option C := match x, y with
  | .lst l, .lst m => if l.length + m.length ≤ lineN then some (.ob .ow (.lst (l ++ m))) else none
  | _, _ => none
theorem so_cat : SOp e rCat dCat := by
  intro σc σ H F d1 d2 v1 v2 c Q s h1 h2 hf k
  unfold dCat at hf; split at hf
  · split at hf
    · rename_i hl
      cases hf
      obtain ⟨a, vs, rfl, q1, r1⟩ := h1.lst s.sub
      obtain ⟨b, us, rfl, q2, r2⟩ := h2.lst s.sub
      refine ⟨a, b, vs, us, rfl, rfl, q1, q2, by rw [r1.length, r2.length, lineN_eq]; exact hl, fun p hp => ?_⟩
      obtain ⟨s2, x2⟩ := s.newO (o := .lst (vs ++ us)) hp
      exact k _ _ _ s2 x2 (RepC.new (d := .lst _) s hp ⟨_, upd_same, r1.append r2⟩)
    · cases hf
  · cases hf
/-- x[:j], x[i:], x[i:j] of a list: the parts' values -/
def cutD (l : List D) (lo hi : Option Int) : List D := (l.drop (HT.sIx l.length 0 lo)).take (HT.sIx l.length l.length hi - HT.sIx l.length 0 lo)
theorem Reps.cut {l : List D} {vs : List V} (r : Reps e F l vs) (lo hi : Option Int) : Reps e F (cutD l lo hi) (cutV vs lo hi) := by
  unfold cutD cutV
  rw [r.length]
  exact (r.drop _).take _
def asI (c : C) : Option Int := match c with | .fz (.int j) => some j | _ => none
theorem asI_some {c : C} {j : Int} (h : asI c = some j) : c = .fz (.int j) := by
  unfold asI at h; split at h <;> cases h; rfl
def listOf (d : D) : Option (List D) := match d with | .lst l => some l | .frl l => some l | _ => none
theorem RepH.listOf {d : D} {l : List D} (s : Sub F H) (h : RepH e H F d v) (k : listOf d = some l) : ∃ a vs, v = .ref a ∧ SqL e.K H a vs ∧ Reps e F l vs := by
  cases d <;> simp only [Sim.listOf, reduceCtorEq, Option.some.injEq] at k
  · subst k
    obtain ⟨a, vs, p, q, r⟩ := h.lst s
    exact ⟨a, vs, p, .inl (.inl q), r⟩
  · subst k
    rcases h with ⟨a, vs, p, q, r⟩ | ⟨a, _, _, h⟩
    · exact ⟨a, vs, p, s.seq q, r⟩
    · exact h.elim
def mCutHi (l1 : LM) (m2 : EM) : EM := fun σ => (l1 σ).bind fun p => (m2 p.2).bind fun q => (asI q.1).bind fun j => (p.1 q.2).bind fun d => (listOf d).map fun l => (.ob .ow (.lst (cutD l none (some j))), q.2)
theorem E.cutHi {m1 : LM} {m2 : EM} {p2 : Pos} (hK : X.K = e.K) (ha : PE X a (tL e m1)) (hb : PE X b (tE e m2)) : PE X (.Subscript a (.Slice none (some b) none p2) pos) (tE e (mCutHi m1 m2)) :=
  (pe_slice sl_list ha po_none (po_some hb)).imp fun σ H Q ⟨σc, F, c, σc', s, hm, k⟩ => by
    simp only [mCutHi, Option.bind_eq_some_iff, Option.map_eq_some_iff, Prod.mk.injEq] at hm
    obtain ⟨⟨g, σ1⟩, h1, ⟨c2, σ2⟩, h2, j, hj, d, hd, l, hl, rfl, rfl⟩ := hm
    cases asI_some hj
    refine ⟨σc, F, g, σ1, s, h1, fun v F1 H1 s1 x1 r1 => ⟨σ1, F1, _, σ2, s1, h2, fun v2 F2 H2 s2 x2 r2 => ⟨j, r2, ?_⟩⟩⟩
    rw [hK]
    obtain ⟨a, vs, rfl, q1, rp⟩ := (r1 _ F2 H2 _ s2 x2 hd).listOf s2.sub hl
    refine ⟨a, vs, rfl, q1, fun p hp => ?_⟩
    obtain ⟨s3, x3⟩ := s2.newO (o := .lst (cutV vs none (some j))) hp
    exact k _ _ _ s3 ((x1.trans x2).trans x3) ((RepC.new (d := .lst _) s2 hp ⟨_, upd_same, rp.cut _ _⟩).base (x1.trans x2))

/-! ## an own object is changed -/
theorem SR.write {σc : List C} {σ : St} {i : Nat} {md : Md} {d d' : D} {a : Addr} {o : HO} (s : SR e σc σ H F) (hi : σc[i]? = some (.ob md d)) (hlk : md ≠ .lk) (hv : σ[i]? = some (some (.ref a))) (ok : ObjAt e (upd H a o) F a d') :
    SR e (σc.set i (.ob md d')) σ (upd H a o) F ∧ Ext σc σ F H (σc.set i (.ob md d')) σ F (upd H a o) := by
  have oa : Own σc σ a := ⟨i, md, d, hi, hlk, hv⟩
  obtain ⟨na, _⟩ := s.ne_none hi hv
  have hl : i < σc.length := (List.getElem?_eq_some_iff.mp hi).1
  have hob : ∀ {j : Nat} {m : Md} {d2 : D}, (σc.set i (.ob md d'))[j]? = some (.ob m d2) → ∃ d3, σc[j]? = some (.ob m d3) := fun {j m d2} h => by
    rcases getSet h with ⟨rfl, h, _⟩ | ⟨ne, h⟩
    · cases h; exact ⟨d, hi⟩
    · exact ⟨d2, h⟩
  refine ⟨⟨by rw [List.length_set]; exact s.len, fun b u h => ?_, fun j d2 h => ?_, fun j m d2 h => ?_, fun j k m d1 m' d2 h1 h2 h3 => ?_⟩, ⟨.refl F, fun b u h w => ?_, fun b u h => .inl h, fun b w => ?_, fun j m d2 h ne => ?_, fun j d2 h => ?_⟩⟩
  · rw [upd_ne (ne_of_none h na)]; exact s.sub b u h
  · rcases getSet h with ⟨rfl, h, _⟩ | ⟨ne, h⟩
    · cases h
    · exact s.fz j d2 h
  · rcases getSet h with ⟨rfl, h, _⟩ | ⟨ne, h⟩
    · cases h; exact ⟨a, hv, na, ok⟩
    · obtain ⟨b, q1, q2, q3⟩ := s.ob j m d2 h
      have nb : b ≠ a := fun z => by subst z; exact ne (s.inj i j _ _ _ _ hi h (hv.trans q1.symm))
      exact ⟨b, q1, q2, q3.mono (.refl F) (by rw [upd_ne nb])⟩
  · obtain ⟨_, g1⟩ := hob h1
    obtain ⟨_, g2⟩ := hob h2
    exact s.inj j k _ _ _ _ g1 g2 h3
  · have nb : b ≠ a := fun z => by subst z; exact w oa
    rw [upd_ne nb]; exact h
  · obtain ⟨j, m, d2, h1, h2, h3⟩ := w
    obtain ⟨_, g1⟩ := hob h1
    exact .inl ⟨j, m, _, g1, h2, h3⟩
  · by_cases ij : i = j
    · subst ij
      rw [hi] at h; cases h
      exact ⟨rfl, d', by rw [List.getElem?_set_self hl], fun z => by subst z; exact (hlk rfl).elim⟩
    · exact ⟨rfl, d2, by rw [List.getElem?_set_ne ij]; exact h, fun _ => rfl⟩
  · rcases getSet h with ⟨rfl, h, _⟩ | ⟨ne, h⟩
    · cases h; exact (hlk rfl).elim
    · exact ⟨h, rfl⟩
/-- x.append(e) -/
def mApp (i : Nat) (m : EM) : EM := fun σ => match σ[i]? with
  | some (C.ob _ (.lst _)) => (m σ).bind fun p => p.1.dat.bind fun d => match p.2[i]? with
    | some (C.ob md (.lst l)) => if md = Md.lk then none else if l.length < lineN then some (.fz .non, p.2.set i (C.ob md (.lst (l ++ [d])))) else none
    | _ => none
  | _ => none
theorem E.app {i : Nat} {m : EM} {apos : Pos} (h0 : PE X a (tVar i)) (hb : PE X b (tE e m)) (hbase : attributeBase a "append" X.env (eval a X.env) = eval a X.env := by rfl)
    (hfew : ((backTo pos (starEach (b :: []) X.env)).all (fun x => !x.1) && (backToKw pos (keywordEach [] X.env)).all (fun x => x.1.isSome)
      && decide ((b :: []).length + ([] : List Keyword).length + (if ([] : List Keyword).isEmpty then 0 else 1) < 30)) = true := by rfl)
    (hline : (apos.endLine == pos.line) = true := by rfl) (hs : starEach (b :: []) X.env = (false, eval b X.env) :: starEach [] X.env := by rfl) (hplain : (backTo pos (starEach [] X.env)).any (·.1) = false := by rfl) :
    PE X (.Call (.Attribute a "append" apos) [b] [] pos) (tE e (mApp i m)) :=
  (pe_bm PySem.F.plainAttrs_list PySem.F.slot_list_append PySem.F.type_list_append mt_append h0 (pa_cons hb pa_nil hs) hbase hfew hline hs hplain).imp fun σ H Q ⟨σc, F, c, σc', s, hm, k⟩ => by
    unfold mApp at hm
    split at hm
    · rename_i md0 d0 hi0
      obtain ⟨a, hv, _, o0⟩ := s.ob i _ _ hi0
      simp only [Option.bind_eq_some_iff] at hm
      obtain ⟨⟨c1, σ1⟩, h1, d, h2, h3⟩ := hm
      dsimp only at h3
      split at h3
      · rename_i md l hi
        split at h3
        · cases h3
        · rename_i hlk
          split at h3
          · rename_i hl
            cases h3
            refine ⟨_, hv, ?_, σc, F, c1, σ1, s, h1, fun w F1 H1 s1 x1 r1 => ?_⟩
            · obtain ⟨vs, q, _⟩ := o0; exact .inl ⟨rfl, _, .inl (.inl q)⟩
            · obtain ⟨G, s1', sub, n, rp, _⟩ := r1.freeze s1 h2
              obtain ⟨_, vs, q, r⟩ := s1'.ne_none hi hv
              have rp' := Reps.append r (.one rp)
              obtain ⟨s2, x2⟩ := s1'.write (o := .lst (vs ++ [w])) hi hlk hv (d' := .lst (l ++ [d])) ⟨_, upd_same, rp'⟩
              exact ⟨_, vs, w, rfl, rfl, q, by rw [r.length, lineN_eq]; exact hl, k _ G _ s2 ((x1.frozen sub n).trans x2) rfl⟩
          · cases h3
      · cases h3
    · cases hm
end
end Sim

set_option Elab.async false
set_option linter.all false
set_option maxRecDepth 100000
namespace Sim
open PySem PySem.Spec L2
open PyProof.Rows hiding St
/-! ## comprehensions -/
def wipeC (σ : List C) : List Nat → List C
  | [] => σ
  | v :: vs => (wipeC σ vs).set v .no
theorem wipeC_length (σ : List C) : ∀ vs : List Nat, (wipeC σ vs).length = σ.length
  | [] => rfl
  | v :: vs => by unfold wipeC; rw [List.length_set, wipeC_length σ vs]
theorem wipeC_some {σ : List C} {i : Nat} {c : C} : ∀ {vs : List Nat}, (wipeC σ vs)[i]? = some c → (i ∈ vs ∧ c = .no) ∨ (i ∉ vs ∧ σ[i]? = some c)
  | [], h => .inr ⟨by simp, h⟩
  | v :: vs, h => by
    unfold wipeC at h
    rcases getSet h with ⟨rfl, h, _⟩ | ⟨ne, h⟩
    · exact .inl ⟨by simp, h.symm⟩
    · rcases wipeC_some h with ⟨h1, h2⟩ | ⟨h1, h2⟩
      · exact .inl ⟨by simp [h1], h2⟩
      · exact .inr ⟨by simp only [List.mem_cons, not_or]; exact ⟨fun z => ne z.symm, h1⟩, h2⟩
theorem wipeC_out {σ : List C} {i : Nat} : ∀ {vs : List Nat}, i ∉ vs → (wipeC σ vs)[i]? = σ[i]?
  | [], _ => rfl
  | v :: vs, h => by
    simp only [List.mem_cons, not_or] at h
    unfold wipeC
    rw [List.getElem?_set_ne (fun z => h.1 z.symm), wipeC_out h.2]
theorem wipe_out' {σ : St} {i : Nat} : ∀ {vs : List Nat}, i ∉ vs → (wipe σ vs)[i]? = σ[i]?
  | [], _ => rfl
  | v :: vs, h => by
    simp only [List.mem_cons, not_or] at h
    unfold wipe
    rw [List.getElem?_set_ne (fun z => h.1 z.symm), wipe_out' h.2]
theorem wipe_in {σ : St} {i : Nat} : ∀ {vs : List Nat}, i ∈ vs → i < σ.length → (wipe σ vs)[i]? = some none
  | v :: vs, h, hl => by
    unfold wipe
    by_cases e : v = i
    · subst e; exact List.getElem?_set_self (by rw [wipe_length]; exact hl)
    · rw [List.getElem?_set_ne e]
      exact wipe_in ((List.mem_cons.mp h).resolve_left fun z => e z.symm) hl
theorem wipe_eq {σ τ : St} {vs : List Nat} (hl : τ.length = σ.length) (h : ∀ j, j ∉ vs → τ[j]? = σ[j]?) : wipe τ vs = wipe σ vs := by
  apply List.ext_getElem?
  intro j
  by_cases hj : j ∈ vs
  · by_cases hlt : j < σ.length
    · rw [wipe_in hj hlt, wipe_in hj (by rw [hl]; exact hlt)]
    · rw [List.getElem?_eq_none (by rw [wipe_length]; omega), List.getElem?_eq_none (by rw [wipe_length]; omega)]
  · rw [wipe_out' hj, wipe_out' hj, h j hj]
def restC (τ σ : List C) : List Nat → List C
  | [] => τ
  | v :: vs => match σ[v]? with
    | some c => (restC τ σ vs).set v c
    | none => restC τ σ vs
theorem restC_length (τ σ : List C) : ∀ vs : List Nat, (restC τ σ vs).length = τ.length
  | [] => rfl
  | v :: vs => by
    unfold restC; split
    · rw [List.length_set, restC_length τ σ vs]
    · exact restC_length τ σ vs
theorem restC_some {τ σ : List C} {i : Nat} {c : C} (hl : τ.length = σ.length) : ∀ {vs : List Nat}, (restC τ σ vs)[i]? = some c → (i ∈ vs ∧ σ[i]? = some c) ∨ (i ∉ vs ∧ τ[i]? = some c)
  | [], h => .inr ⟨by simp, h⟩
  | v :: vs, h => by
    unfold restC at h; split at h
    · rename_i c' hc'
      rcases getSet h with ⟨rfl, h, _⟩ | ⟨ne, h⟩
      · subst h; exact .inl ⟨by simp, hc'⟩
      · rcases restC_some hl h with ⟨h1, h2⟩ | ⟨h1, h2⟩
        · exact .inl ⟨by simp [h1], h2⟩
        · exact .inr ⟨by simp only [List.mem_cons, not_or]; exact ⟨fun z => ne z.symm, h1⟩, h2⟩
    · rename_i hc'
      have hi : i < τ.length := by have := (List.getElem?_eq_some_iff.mp h).1; rw [restC_length] at this; exact this
      have ne : i ≠ v := fun z => by
        subst z
        rw [List.getElem?_eq_none_iff] at hc'
        omega
      rcases restC_some hl h with ⟨h1, h2⟩ | ⟨h1, h2⟩
      · exact .inl ⟨by simp [h1], h2⟩
      · exact .inr ⟨by simp only [List.mem_cons, not_or]; exact ⟨ne, h1⟩, h2⟩
theorem restC_out {τ σ : List C} {i : Nat} : ∀ {vs : List Nat}, i ∉ vs → (restC τ σ vs)[i]? = τ[i]?
  | [], _ => rfl
  | v :: vs, h => by
    simp only [List.mem_cons, not_or] at h
    unfold restC; split
    · rw [List.getElem?_set_ne (fun z => h.1 z.symm), restC_out h.2]
    · exact restC_out h.2
def notOb (c : Option C) : Bool := match c with | some (.ob _ _) => false | _ => true
section
variable {X : Cx} {e : En} {a b c : Expr} {es : List Expr} {pos p : Pos} {st : Stmt} {sts : List Stmt} {H F : Hp} {v : V}
theorem SR.wipe {σc : List C} {σ : St} {vs : List Nat} (s : SR e σc σ H F) : SR e (wipeC σc vs) (L2.wipe σ vs) H F := by
  refine ⟨by rw [wipeC_length, wipe_length]; exact s.len, s.sub, fun i d h => ?_, fun i m d h => ?_, fun i j m d m' d' h1 h2 h3 => ?_⟩
  · rcases wipeC_some h with ⟨_, h⟩ | ⟨h1, h2⟩
    · cases h
    · rw [wipe_out' h1]; exact s.fz i d h2
  · rcases wipeC_some h with ⟨_, h⟩ | ⟨h1, h2⟩
    · cases h
    · rw [wipe_out' h1]; exact s.ob i m d h2
  · rcases wipeC_some h1 with ⟨_, h⟩ | ⟨k1, g1⟩
    · cases h
    · rcases wipeC_some h2 with ⟨_, h⟩ | ⟨k2, g2⟩
      · cases h
      · rw [wipe_out' k1, wipe_out' k2] at h3
        exact s.inj i j _ _ _ _ g1 g2 h3
theorem own_wipe {σc : List C} {σ : St} {vs : List Nat} {a : Addr} (w : Own (wipeC σc vs) (L2.wipe σ vs) a) : Own σc σ a := by
  obtain ⟨i, m, d, h1, h2, h3⟩ := w
  rcases wipeC_some h1 with ⟨_, h⟩ | ⟨k1, g1⟩
  · cases h
  · rw [wipe_out' k1] at h3; exact ⟨i, m, d, g1, h2, h3⟩
/-- a turn's end: the own slots are emptied -/
theorem Ext.wipe {τ τ' : List C} {σ σ' : St} {F F' H H' : Hp} {vs : List Nat} (x : Ext τ σ F H τ' σ' F' H') (hn : ∀ i ∈ vs, ∀ m d, τ[i]? ≠ some (.ob m d)) : Ext τ σ F H (wipeC τ' vs) (L2.wipe σ' vs) F' H' := by
  refine ⟨x.f, x.h, x.n, fun a w => x.o a (own_wipe w), fun i m d h ne => ?_, fun i d h => ?_⟩
  · have hi : i ∉ vs := fun z => hn i z m d h
    rw [wipe_out' hi, wipeC_out hi]
    exact x.m i m d h ne
  · rcases wipeC_some h with ⟨_, h⟩ | ⟨h1, h2⟩
    · cases h
    · rw [wipe_out' h1]; exact x.p i d h2
/-- no slot holds the object at D -/
def NoSlot (τ : List C) (σ : St) (D : Addr) : Prop := ∀ (i : Nat) (m : Md) (d : Sim.D), τ[i]? = some (.ob m d) → σ[i]? ≠ some (some (.ref D))
theorem NoSlot.own {τ : List C} {σ : St} {D : Addr} (n : NoSlot τ σ D) : ¬ Own τ σ D := fun ⟨i, m, d, h1, _, h3⟩ => n i m d h1 h3
theorem inflight {τ τ' : List C} {σ σ' : St} {F F' H H' : Hp} {D : Addr} {o : HO} (x : Ext τ σ F H τ' σ' F' H') (hD : H D = some o) (fD : F D = none) (n : NoSlot τ σ D) : H' D = some o ∧ F' D = none ∧ NoSlot τ' σ' D := by
  refine ⟨x.h D o hD n.own, ?_, fun i m d h1 h2 => ?_⟩
  · cases z : F' D with
    | none => rfl
    | some u =>
      rcases x.n D u z with q | q | q
      · rw [fD] at q; cases q
      · rw [hD] at q; cases q
      · exact (n.own q).elim
  · by_cases hm : m = .lk
    · subst hm
      obtain ⟨q1, q2⟩ := x.p i d h1
      exact n i _ d q1 (q2.symm.trans h2)
    · rcases x.o D ⟨i, m, d, h1, hm, h2⟩ with q | q
      · exact n.own q
      · rw [hD] at q; cases q
theorem NoSlot.wipe {τ : List C} {σ : St} {D : Addr} {vs : List Nat} (n : NoSlot τ σ D) : NoSlot (wipeC τ vs) (L2.wipe σ vs) D := fun i m d h => by
  rcases wipeC_some h with ⟨_, h⟩ | ⟨h1, h2⟩
  · cases h
  · rw [wipe_out' h1]; exact n i m d h2
/-- an object that nobody holds is written -/
theorem SR.writeFree {τ : List C} {σ : St} {D : Addr} {o : HO} (s : SR e τ σ H F) (fD : F D = none) (n : NoSlot τ σ D) : SR e τ σ (upd H D o) F := by
  refine ⟨s.len, fun b u h => ?_, s.fz, fun i m d h => ?_, s.inj⟩
  · rw [upd_ne (ne_of_none h fD)]; exact s.sub b u h
  · obtain ⟨b, q1, q2, q3⟩ := s.ob i m d h
    have nb : b ≠ D := fun z => by subst z; exact n i m d h q1
    exact ⟨b, q1, q2, q3.mono (.refl F) (by rw [upd_ne nb])⟩
theorem Ext.writeNew {τ τ' : List C} {σ σ' : St} {F F' H H' : Hp} {D : Addr} {o : HO} (x : Ext τ σ F H τ' σ' F' H') (hD : H D = none) : Ext τ σ F H τ' σ' F' (upd H' D o) :=
  ⟨x.f, fun b u h w => by rw [upd_ne (ne_of_none h hD)]; exact x.h b u h w, x.n, x.o, x.m, x.p⟩
def tsYes : TM := fun σ => some (true, σ)
theorem TS.nil : PTs X [] (tT e tsYes) := ⟨fun pins s σ H Q I h => by
  refine pts_nil.run pins s σ H Q I ?_
  obtain ⟨σc, F, b, σc', s', hm, k⟩ := h
  cases hm
  exact k F H s' (.refl ..)⟩
theorem TS.one {t : TM} (h : PT X c (tT e t)) : PTs X [c] (tT e t) := pts_one h
def lcI (g : D → List C → Option (List C)) (t : TM) (m : EM) (vs : List Nat) : List D → List C → Option (List D × List C)
  | [], τ => some ([], τ)
  | d :: ds, τ => (g d τ).bind fun τ1 => (t τ1).bind fun p => if p.1 = true then (m p.2).bind fun q => q.1.dat.bind fun d' => (lcI g t m vs ds (wipeC q.2 vs)).map fun r => (d' :: r.1, r.2)
    else lcI g t m vs ds (wipeC p.2 vs)
def mLc (src : IM) (g : D → List C → Option (List C)) (t : TM) (m : EM) (vs : List Nat) : EM := fun σ => (src σ).bind fun p => if (vs.all fun j => notOb p.2[j]?) = true then
  (lcI g t m vs p.1 (wipeC p.2 vs)).bind fun r => if r.1.length ≤ lineN then some (.ob .ow (.lst r.1), restC r.2 p.2 vs) else none else none
theorem lc_use {src : IM} {is vs : List Nat} {g : D → List C → Option (List C)} {t : TM} {m : EM} {wi : TI} {tg : TG} {tt : TT} {te : TE} (hwi : ∀ σ H R, tI e src σ H R → wi σ H R) (hg : ∀ v σ H Q, tG e is g v σ H Q → tg v σ H Q) (ht : ∀ σ H Q, tT e t σ H Q → tt σ H Q) (he : ∀ σ H Q, tE e m σ H Q → te σ H Q)
    (hi : ∀ i ∈ is, i ∈ vs) {σ : St} {H : Hp} {Q : VK} (h : tE e (mLc src g t m vs) σ H Q) : tLc wi tg tt te vs σ H Q := by
  obtain ⟨σc, F, c, σc', s, hm, k⟩ := h
  simp only [mLc, Option.bind_eq_some_iff] at hm
  obtain ⟨⟨its, σ1⟩, h1, h2⟩ := hm
  split at h2
  · rename_i hob
    obtain ⟨⟨res, τe⟩, h3, h4⟩ := Option.bind_eq_some_iff.mp h2
    split at h4
    · rename_i hlen
      cases h4
      have nob : ∀ i ∈ vs, ∀ m d, σ1[i]? ≠ some (.ob m d) := fun i hi m d z => by
        have := List.all_eq_true.mp hob i hi
        dsimp only at this
        rw [z] at this; cases this
      refine hwi _ _ _ ⟨σc, F, its, σ1, s, h1, fun J L F1 H1 s1 x1 ok pin1 D hD => ?_⟩
      have s1w : SR e (wipeC σ1 vs) (L2.wipe σ vs) H1 F1 := s1.wipe
      have nobw : ∀ i ∈ vs, ∀ m d, (wipeC σ1 vs)[i]? ≠ some (.ob m d) := fun i hi m d z => by
        rcases wipeC_some z with ⟨_, z⟩ | ⟨z, _⟩
        · cases z
        · exact z hi
      have pin1w : ∀ p ∈ L, H1 p.1 = some p.2 ∧ ¬ Own (wipeC σ1 vs) (L2.wipe σ vs) p.1 := fun p hp => ⟨(pin1 p hp).1, fun w => (pin1 p hp).2 (own_wipe w)⟩
      refine ⟨fun i n H' => ∃ τ F' acc accD rest, SR e τ (L2.wipe σ vs) H' F' ∧ Ext (wipeC σ1 vs) (L2.wipe σ vs) F1 H1 τ (L2.wipe σ vs) F' H' ∧ H' D = some (.lst acc) ∧ Reps e F' accD acc ∧ F' D = none ∧ NoSlot τ (L2.wipe σ vs) D ∧
        lcI g t m vs (its.drop i) τ = some (rest, τe) ∧ accD ++ rest = res ∧ n = its.length - i, ⟨its.length, ?_⟩, ?_⟩
      · obtain ⟨s2, x2⟩ := s1w.newO (o := .lst []) hD
        exact ⟨wipeC σ1 vs, F1, [], [], res, s2, x2, upd_same, rfl, s1.free hD, s1w.notSlotNew hD, by simpa using h3, rfl, by simp⟩
      · rintro i n H' ⟨τ, F', acc, accD, rest, s2, x2, hD2, rep2, fD2, oD2, w2, eres, rfl⟩
        have pin2 := pins_kept x2 pin1w
        by_cases hlt : i < its.length
        · refine .inr ⟨ok.go i H' (fun p hp => (pin2 p hp).1) hlt, fun H3 => ∃ τ F' acc accD rest, SR e τ (L2.wipe σ vs) H3 F' ∧ Ext (wipeC σ1 vs) (L2.wipe σ vs) F1 H1 τ (L2.wipe σ vs) F' H3 ∧ H3 D = some (.lst acc) ∧ Reps e F' accD acc ∧ F' D = none ∧ NoSlot τ (L2.wipe σ vs) D ∧
            lcI g t m vs (its.drop (i + 1)) τ = some (rest, τe) ∧ accD ++ rest = res, fun H3 ⟨τ', F3, a3, b3, c3, y1, y2, y3, y4, y5, y6, y7, y8⟩ => ⟨its.length - (i + 1), by omega, τ', F3, a3, b3, c3, y1, y2, y3, y4, y5, y6, y7, y8, rfl⟩, fun x H3 y => ?_⟩
          have hd : its[i]? = some its[i] := List.getElem?_eq_getElem hlt
          obtain ⟨F3, f1, f2, f3, f4, rp⟩ := ok.yld i H' x H3 F' its[i] (fun p hp => (pin2 p hp).1) x2.f s2.sub hd y
          obtain ⟨s3, x3⟩ := s2.grow f2 f1 f3 f4
          rw [List.drop_eq_getElem_cons hlt] at w2
          simp only [lcI, Option.bind_eq_some_iff] at w2
          obtain ⟨τ1, w5, ⟨b, τ2⟩, w6, w7⟩ := w2
          refine hg _ _ _ _ ⟨τ, F3, its[i], τ1, s3, rp, w5, fun σ6 s6 x6 n6 => ?_⟩
          have ew : L2.wipe σ6 vs = L2.wipe σ vs := wipe_eq (by rw [n6.1, wipe_length]) fun j hj => by
            rw [n6.2 j fun z => hj (hi j z), wipe_out' hj]
          refine ⟨ew, ht _ _ _ ⟨τ1, F3, b, τ2, s6, w6, fun F7 H7 s7 x7 => ?_⟩⟩
          have x37 := (x3.trans x6).trans x7
          obtain ⟨hD7, fD7, oD7⟩ := inflight x37 hD2 fD2 oD2
          cases b with
          | false =>
            rw [if_neg Bool.false_ne_true] at w7
            refine iteF ?_
            have xw := (x2.trans x37).wipe nobw
            have sw := s7.wipe (vs := vs)
            have ow := oD7.wipe (vs := vs)
            rw [ew] at xw sw ow
            exact ⟨_, F7, acc, accD, rest, sw, xw, hD7, rep2.mono x37.f, fD7, ow, w7, eres⟩
          | true =>
            rw [if_pos rfl] at w7
            refine iteT ?_
            simp only [Option.bind_eq_some_iff, Option.map_eq_some_iff, Prod.mk.injEq] at w7
            obtain ⟨⟨c8, τ3⟩, w8, d', w9, ⟨rest', τe'⟩, w10, rfl, rfl⟩ := w7
            refine he _ _ _ ⟨τ2, F7, c8, τ3, s7, w8, fun y8 F8 H8 s8 x8 r8 => ?_⟩
            obtain ⟨hD8, fD8, oD8⟩ := inflight x8 hD7 fD7 oD7
            obtain ⟨G, s8', sub, n, rp8, _⟩ := r8.freeze s8 w9
            have gD : G D = none := by
              cases z : G D with
              | none => rfl
              | some u =>
                rcases n D u z with q | q | q
                · rw [fD8] at q; cases q
                · rw [hD7] at q; cases q
                · exact (oD7.own q).elim
            have x28 := (x2.trans x37).trans (x8.frozen sub n)
            have xw := x28.wipe nobw
            have sw := s8'.wipe (vs := vs)
            have ow := oD8.wipe (vs := vs)
            rw [ew] at xw sw ow
            refine ⟨acc, hD8, ?_, _, G, acc ++ [y8], accD ++ [d'], rest', sw.writeFree gD ow, xw.writeNew hD, upd_same, ?_, gD, ow, w10, by rw [← eres]; simp⟩
            · have l1 := rep2.length
              rw [lineN_eq]
              rw [← eres] at hlen
              simp only [List.length_append, List.length_cons] at hlen
              omega
            · exact (rep2.mono (x37.f.trans (x8.f.trans sub))).append (.one rp8)
        · refine .inl ⟨ok.stop i H' (fun p hp => (pin2 p hp).1) (by omega), ?_⟩
          rw [List.drop_eq_nil_of_le (by omega)] at w2
          cases w2
          rw [List.append_nil] at eres
          subst eres
          have hlt : τe.length = σ1.length := by
            have l1 := s2.len
            have l2 := s1.len
            rw [wipe_length] at l1
            omega
          have xo : Ext σ1 σ F1 H1 (restC τe σ1 vs) σ F' H' := by
            refine ⟨x2.f, fun b u h w => x2.h b u h fun z => w (own_wipe z), fun b u h => (x2.n b u h).imp id fun z => z.imp id own_wipe, fun b w => ?_, fun j m d h ne => ?_, fun j d h => ?_⟩
            · obtain ⟨j, m, d, z1, z2, z3⟩ := w
              rcases restC_some hlt z1 with ⟨q1, q2⟩ | ⟨q1, q2⟩
              · exact (nob j q1 m d q2).elim
              · exact (x2.o b ⟨j, m, d, q2, z2, by rw [wipe_out' q1]; exact z3⟩).imp own_wipe id
            · have hj : j ∉ vs := fun z => nob j z m d h
              obtain ⟨_, d', y2, y3⟩ := x2.m j m d (by rw [wipeC_out hj]; exact h) ne
              exact ⟨rfl, d', by rw [restC_out hj]; exact y2, y3⟩
            · rcases restC_some hlt h with ⟨q1, q2⟩ | ⟨q1, q2⟩
              · exact (nob j q1 _ d q2).elim
              · obtain ⟨y1, _⟩ := x2.p j d q2
                rw [wipeC_out q1] at y1
                exact ⟨y1, rfl⟩
          have so : SR e (restC τe σ1 vs) σ H' F' := by
            refine ⟨by rw [restC_length, hlt]; exact s1.len, s2.sub, fun j d h => ?_, fun j m d h => ?_, fun j k m d m' d' z1 z2 z3 => ?_⟩
            · rcases restC_some hlt h with ⟨q1, q2⟩ | ⟨q1, q2⟩
              · obtain ⟨v, y1, y2⟩ := s1.fz j d q2
                exact ⟨v, y1, y2.mono x2.f⟩
              · have := s2.fz j d q2
                rw [wipe_out' q1] at this; exact this
            · rcases restC_some hlt h with ⟨q1, q2⟩ | ⟨q1, q2⟩
              · exact (nob j q1 m d q2).elim
              · have := s2.ob j m d q2
                rw [wipe_out' q1] at this; exact this
            · rcases restC_some hlt z1 with ⟨q1, q2⟩ | ⟨q1, q2⟩
              · exact (nob j q1 m d q2).elim
              · rcases restC_some hlt z2 with ⟨y1, y2⟩ | ⟨y1, y2⟩
                · exact (nob k y1 _ _ y2).elim
                · exact s2.inj j k _ _ _ _ q2 y2 (by rw [wipe_out' q1, wipe_out' y1]; exact z3)
          have ns : NoSlot (restC τe σ1 vs) σ D := fun j m d h z => by
            rcases restC_some hlt h with ⟨q1, q2⟩ | ⟨q1, q2⟩
            · exact nob j q1 m d q2
            · exact oD2 j m d q2 (by rw [wipe_out' q1]; exact z)
          exact k _ F' H' so (x1.trans xo) ⟨D, rfl, fD2, ns.own, ⟨acc, hD2, rep2⟩, x1.keepNo hD, ns⟩
    · cases h4
  · cases h2
theorem E.lc {elt tg iter : Expr} {ifs : List Expr} {scope : Scope} {own : List (Str × Nat)} {src : IM} {is : List Nat} {g : D → List C → Option (List C)} {t : TM} {m : EM} (hc : X.calm = true) (hN : X.N.Nodup) (hi : PI X tg iter (tI e src)) (ok : BlkOk X.N X.env.scope scope own)
    (hg : ∀ (s : Shared) (H : Hp) (C : Addr) (cl : List (Str × Addr)) (fp : List Addr), PG (X.blk s H scope (compEnvC scope cl C X.env) fp) tg (tG e is g)) (ht : ∀ (s : Shared) (H : Hp) (C : Addr) (cl : List (Str × Addr)) (fp : List Addr), PTs (X.blk s H scope (compEnvC scope cl C X.env) fp) ifs (tT e t))
    (he : ∀ (s : Shared) (H : Hp) (C : Addr) (cl : List (Str × Addr)) (fp : List Addr), PE (X.blk s H scope (compEnvC scope cl C X.env) fp) elt (tE e m)) (his : ∀ i ∈ is, i ∈ own.map (·.2) := by decide) (hs : ∀ x, foldedSetIterable iter X.env x = pure x := by intro _; rfl) :
    PE X (.ListComp elt [⟨tg, iter, ifs, 0⟩] scope pos) (tE e (mLc src g t m (own.map (·.2)))) :=
  (pe_lc hc hN hi ok hg ht he hs).imp fun _ _ _ h => lc_use (fun _ _ _ h => h) (fun _ _ _ _ h => h) (fun _ _ _ h => h) (fun _ _ _ h => h) his h
/-- y = [..] -/
theorem S.setLc {i : Nat} {y : Str} {py spos : Pos} {elt tg iter : Expr} {ifs : List Expr} {scope : Scope} {own : List (Str × Nat)} {src : IM} {is : List Nat} {g : D → List C → Option (List C)} {t : TM} {m : EM} (hc : X.calm = true) (hN : X.N.Nodup) (hy : X.N[i]? = some y) (hyl : X.env.scope.names.lookup y = some .local)
    (hsw : swapsWith (.ListComp elt [⟨tg, iter, ifs, 0⟩] scope pos) (some (.Name y py)) spos.line X.env = pure true) (hi : PI X tg iter (tI e src)) (ok : BlkOk X.N X.env.scope scope own)
    (hg : ∀ (s : Shared) (H : Hp) (C : Addr) (cl : List (Str × Addr)) (fp : List Addr), PG (X.blk s H scope (compEnvC scope cl C X.env) fp) tg (tG e is g)) (ht : ∀ (s : Shared) (H : Hp) (C : Addr) (cl : List (Str × Addr)) (fp : List Addr), PTs (X.blk s H scope (compEnvC scope cl C X.env) fp) ifs (tT e t))
    (he : ∀ (s : Shared) (H : Hp) (C : Addr) (cl : List (Str × Addr)) (fp : List Addr), PE (X.blk s H scope (compEnvC scope cl C X.env) fp) elt (tE e m)) (his : ∀ i ∈ is, i ∈ own.map (·.2) := by decide) (hs : ∀ x, foldedSetIterable iter X.env x = pure x := by intro _; rfl) :
    PS X (.Assign [.Name y py] (.ListComp elt [⟨tg, iter, ifs, 0⟩] scope pos) spos) (tS e (sSet i (mLc src g t m (own.map (·.2))))) :=
  (ps_setLc hc hN hy hyl hsw hi ok hg ht he hs).imp fun D σ H ⟨σc, F, o, s, hm, k⟩ => by
    simp only [sSet, Option.bind_eq_some_iff, Option.map_eq_some_iff] at hm
    obtain ⟨⟨c, σ1⟩, h1, σ2, h2, rfl⟩ := hm
    obtain ⟨y, hy, hfr, rfl⟩ := storeC_some h2
    refine lc_use (fun _ _ _ h => h) (fun _ _ _ _ h => h) (fun _ _ _ h => h) (fun _ _ _ h => h) his ⟨σc, F, c, σ1, s, h1, fun v F1 H1 s1 x1 r1 => ?_⟩
    obtain ⟨s2, x2⟩ := SR.store x1 s1 r1 hy hfr
    exact k _ F1 H1 s2 x2
end
end Sim

set_option Elab.async false
set_option linter.all false
set_option maxRecDepth 100000
namespace Sim
open PySem PySem.Spec L2
open PyProof.Rows hiding St
section
variable {X : Cx} {e : En} {a b c : Expr} {es : List Expr} {pos p : Pos} {st : Stmt} {sts : List Stmt} {H F : Hp} {v : V}
/-! ## x.extend(e), x[i] = e -/
def mExt (i : Nat) (m : EM) : EM := fun σ => match σ[i]? with
  | some (C.ob _ (.lst _)) => (m σ).bind fun p => p.1.dat.bind fun d => match d with
    | .lst r => match p.2[i]? with
      | some (C.ob md (.lst l)) => if md = Md.lk then none else if l.length + r.length ≤ lineN then some (.fz .non, p.2.set i (C.ob md (.lst (l ++ r)))) else none
      | _ => none
    | _ => none
  | _ => none
theorem E.ext {i : Nat} {m : EM} {apos : Pos} (h0 : PE X a (tVar i)) (hb : PE X b (tE e m)) (hbase : attributeBase a "extend" X.env (eval a X.env) = eval a X.env := by rfl)
    (hfew : ((backTo pos (starEach (b :: []) X.env)).all (fun x => !x.1) && (backToKw pos (keywordEach [] X.env)).all (fun x => x.1.isSome)
      && decide ((b :: []).length + ([] : List Keyword).length + (if ([] : List Keyword).isEmpty then 0 else 1) < 30)) = true := by rfl)
    (hline : (apos.endLine == pos.line) = true := by rfl) (hs : starEach (b :: []) X.env = (false, eval b X.env) :: starEach [] X.env := by rfl) (hplain : (backTo pos (starEach [] X.env)).any (·.1) = false := by rfl) :
    PE X (.Call (.Attribute a "extend" apos) [b] [] pos) (tE e (mExt i m)) :=
  (pe_bm PySem.F.plainAttrs_list PySem.F.slot_list_extend PySem.F.type_list_extend mt_extend h0 (pa_cons hb pa_nil hs) hbase hfew hline hs hplain).imp fun σ H Q ⟨σc, F, c, σc', s, hm, k⟩ => by
    unfold mExt at hm
    split at hm
    · rename_i md0 d0 hi0
      obtain ⟨a, hv, _, o0⟩ := s.ob i _ _ hi0
      simp only [Option.bind_eq_some_iff] at hm
      obtain ⟨⟨c1, σ1⟩, h1, d, h2, h3⟩ := hm
      cases d <;> first | (cases h3; done) | skip
      rename_i r
      dsimp only at h3
      split at h3
      · rename_i md l hi
        split at h3
        · cases h3
        · rename_i hlk
          split at h3
          · rename_i hl
            cases h3
            refine ⟨_, hv, ?_, σc, F, c1, σ1, s, h1, fun w F1 H1 s1 x1 r1 => ?_⟩
            · obtain ⟨vs, q, _⟩ := o0; exact .inl ⟨rfl, _, .inl (.inl q)⟩
            · obtain ⟨G, s1', sub, n, rp, _⟩ := r1.freeze s1 h2
              obtain ⟨b, zs, rfl, qb, rz⟩ := rp
              obtain ⟨_, vs, q, r'⟩ := s1'.ne_none hi hv
              obtain ⟨s2, x2⟩ := s1'.write (o := .lst (vs ++ zs)) hi hlk hv (d' := .lst (l ++ r)) ⟨_, upd_same, r'.append rz⟩
              exact ⟨_, b, vs, zs, rfl, rfl, q, s1'.sub _ _ qb, by rw [r'.length, rz.length, lineN_eq]; exact hl, k _ G _ s2 ((x1.frozen sub n).trans x2) rfl⟩
          · cases h3
      · cases h3
    · cases hm
/-- the slot's list is popped: x.pop() -/
def mPop (i : Nat) : EM := fun σ => match σ[i]? with
  | some (C.ob md (.lst l)) => if md = Md.lk then none else (l[l.length - 1]?).map fun d => (.fz d, σ.set i (C.ob md (.lst l.dropLast)))
  | _ => none
theorem Reps.dropLast {l : List D} {vs : List V} (r : Reps e F l vs) : Reps e F l.dropLast vs.dropLast := by
  rw [List.dropLast_eq_take, List.dropLast_eq_take, r.length]; exact r.take _
theorem E.pop {i : Nat} {apos : Pos} (h0 : PE X a (tVar i)) (hbase : attributeBase a "pop" X.env (eval a X.env) = eval a X.env := by rfl) (hline : (apos.endLine == pos.line) = true := by rfl) :
    PE X (.Call (.Attribute a "pop" apos) [] [] pos) (tE e (mPop i)) :=
  (pe_bm0 PySem.F.plainAttrs_list PySem.F.slot_list_pop PySem.F.type_list_pop mt_pop h0 hbase hline).imp fun σ H Q ⟨σc, F, c, σc', s, hm, k⟩ => by
    unfold mPop at hm
    split at hm
    · rename_i md l hi
      split at hm
      · cases hm
      · rename_i hlk
        simp only [Option.map_eq_some_iff, Prod.mk.injEq] at hm
        obtain ⟨d, hd, rfl, rfl⟩ := hm
        obtain ⟨a, hv, _, vs, q, r⟩ := s.ob i _ _ hi
        obtain ⟨v, hv2, rv⟩ := r.get hd
        obtain ⟨s2, x2⟩ := s.write (o := .lst vs.dropLast) hi hlk hv (d' := .lst l.dropLast) ⟨_, upd_same, r.dropLast⟩
        exact ⟨_, hv, .inl ⟨rfl, _, .inl (.inl q)⟩, a, vs, v, rfl, rfl, q, by rw [r.length]; exact hv2, k v F _ s2 x2 rv⟩
    · cases hm
/-- x[i] = e -/
def sSetIx (i : Nat) (mi mv : EM) : SM := fun σ => match σ[i]? with
  | some (C.ob _ _) => (mv σ).bind fun p => p.1.dat.bind fun d => (mi p.2).bind fun q => (asI q.1).bind fun k => match q.2[i]? with
    | some (C.ob md (.lst l)) => if md = Md.lk then none else (ixN l.length k).map fun j => .nx (q.2.set i (C.ob md (.lst (l.set j d))))
    | _ => none
  | _ => none
theorem S.setIx {i : Nat} {mi mv : EM} {tpos : Pos} (h0 : PE X a (tVar i)) (hi : PE X b (tE e mi)) (hv : PE X c (tE e mv)) (hs : swapsWithSole [.Subscript a b tpos] c pos.line X.env = pure false := by rfl) (hw : swappedStores [.Subscript a b tpos] c X.env = pure none := by rfl)
    (h1 : (assignEach [.Subscript a b tpos] X.env).map (·.2) = [assign (.Subscript a b tpos) X.env] := by rfl)
    (ha : ∀ v, assign (.Subscript a b tpos) X.env v = (do
      let ov ← holding [v] (eval a X.env)
      let iv ← holding [v, ov] (eval b X.env)
      standAt tpos
      holding [v, ov, iv] (setItem ov iv v)
      release [v, ov, iv] []) := by intro _; rfl) : PS X (.Assign [.Subscript a b tpos] c pos) (tS e (sSetIx i mi mv)) :=
  (ps_asg hv (pg_sub h0 hi set_list ha) hs hw h1).imp fun D σ H ⟨σc, F, o, s, hm, k⟩ => by
    unfold sSetIx at hm
    split at hm
    · rename_i md0 d0 hi0
      obtain ⟨a, hva, _, _⟩ := s.ob i _ _ hi0
      simp only [Option.bind_eq_some_iff] at hm
      obtain ⟨⟨c1, σ1⟩, h1, d, h2, ⟨c2, σ2⟩, h3, j, h4, h5⟩ := hm
      dsimp only at h5
      split at h5
      · rename_i md l hi2
        split at h5
        · cases h5
        · rename_i hlk
          simp only [Option.map_eq_some_iff] at h5
          obtain ⟨t, ht, rfl⟩ := h5
          cases asI_some h4
          refine ⟨σc, F, c1, σ1, s, h1, fun w F1 H1 s1 x1 r1 => ?_⟩
          obtain ⟨G, s1', sub, n, rp, _⟩ := r1.freeze s1 h2
          refine ⟨_, hva, σ1, G, _, σ2, s1', h3, fun v2 F2 H2 s2 x2 r2 => ?_⟩
          cases (show v2 = .int j from r2)
          obtain ⟨_, vs, q, r'⟩ := s2.ne_none hi2 hva
          obtain ⟨s3, x3⟩ := s2.write (o := .lst (vs.set t w)) hi2 hlk hva (d' := .lst (l.set t d)) ⟨_, upd_same, r'.set (Rep.mono x2.f _ _ rp) t⟩
          exact ⟨a, vs, j, t, rfl, rfl, q, by rw [r'.length]; exact ht, k σ F2 _ s3 (((x1.frozen sub n).trans x2).trans x3)⟩
      · cases h5
    · cases hm

/-! ## in -/
def inT (x : D) (l : List D) : Option Bool := match x with
  | .int i => (intsOf l).map fun ns => ns.any fun n => n == i
  | _ => none
def inL (x : D) (l : List D) : Option Bool := (pd x).bind fun d => (pds l).bind fun ds => if (SeqAt.shaped d && SeqAt.shaped (.list ds)) = true then some (ds.any fun z => PyData.eqv z d) else none
def inD (x y : D) : Option Bool := match y with
  | .tup l => inT x l
  | .lst l => inL x l
  | _ => none
def dIn (x y : D) : Option C := (inD x y).map fun b => .fz (.bl b)
def dNotIn (x y : D) : Option C := (inD x y).map fun b => .fz (.bl (!b))
theorem flat_ints : ∀ ns : List Int, (ns.map V.int).all flatV = true
  | [] => rfl
  | n :: ns => by rw [List.map_cons, List.all_cons, flat_ints ns]; rfl
theorem inV_ints (i : Int) : ∀ ns : List Int, inV (.int i) (ns.map V.int) = ns.any fun n => n == i
  | [] => rfl
  | n :: ns => by
    have := inV_ints i ns
    unfold inV at this ⊢
    rw [List.map_cons, List.any_cons, List.any_cons, this]; rfl
theorem so_in : SOp e (fun x y H Q => rIn e.K false x y H Q ∨ rInD e.K x y H Q) dIn := by
  intro σc σ H F d1 d2 v1 v2 c Q s h1 h2 hf k
  simp only [dIn, Option.map_eq_some_iff] at hf
  obtain ⟨b, hb, rfl⟩ := hf
  cases d2 <;> simp only [inD, reduceCtorEq] at hb
  · rename_i l
    refine .inl ?_
    unfold inT at hb; split at hb
    · rename_i i
      simp only [Option.map_eq_some_iff] at hb
      obtain ⟨ns, hn, rfl⟩ := hb
      cases h1.int
      obtain ⟨a, vs, rfl, q, r⟩ := h2.tup s.sub
      cases ints_rep hn r
      exact ⟨a, _, rfl, .inr q, rfl, flat_ints ns, by rw [if_neg Bool.false_ne_true, inV_ints]; exact k _ F H s (.refl ..) rfl⟩
    · cases hb
  · refine .inr ?_
    rename_i l
    simp only [inL, Option.bind_eq_some_iff] at hb
    obtain ⟨d, hd, ds, hds, hb⟩ := hb
    split at hb
    · rename_i hs
      cases hb
      rw [Bool.and_eq_true] at hs
      exact ⟨d, ds, h1.dp s.sub hd, h2.dp s.sub (by simp [pd, hds]), hs.1, hs.2, k _ F H s (.refl ..) rfl⟩
    · cases hb
theorem so_notIn : SOp e (fun x y H Q => rIn e.K true x y H Q ∨ rNotInD e.K x y H Q) dNotIn := by
  intro σc σ H F d1 d2 v1 v2 c Q s h1 h2 hf k
  simp only [dNotIn, Option.map_eq_some_iff] at hf
  obtain ⟨b, hb, rfl⟩ := hf
  cases d2 <;> simp only [inD, reduceCtorEq] at hb
  · rename_i l
    refine .inl ?_
    unfold inT at hb; split at hb
    · rename_i i
      simp only [Option.map_eq_some_iff] at hb
      obtain ⟨ns, hn, rfl⟩ := hb
      cases h1.int
      obtain ⟨a, vs, rfl, q, r⟩ := h2.tup s.sub
      cases ints_rep hn r
      exact ⟨a, _, rfl, .inr q, rfl, flat_ints ns, by rw [if_pos rfl, inV_ints]; exact k _ F H s (.refl ..) rfl⟩
    · cases hb
  · refine .inr ?_
    rename_i l
    simp only [inL, Option.bind_eq_some_iff] at hb
    obtain ⟨d, hd, ds, hds, hb⟩ := hb
    split at hb
    · rename_i hs
      cases hb
      rw [Bool.and_eq_true] at hs
      exact ⟨d, ds, h1.dp s.sub hd, h2.dp s.sub (by simp [pd, hds]), hs.1, hs.2, k _ F H s (.refl ..) rfl⟩
    · cases hb
theorem op_in (hu : X.A.units + 65 < cLine) : OpR X (compareOp .In) (fun x y H Q => rIn X.K false x y H Q ∨ rInD X.K x y H Q) := op_in_seq.or (op_inD hu)
theorem op_notIn (hu : X.A.units + 65 < cLine) : OpR X (compareOp .NotIn) (fun x y H Q => rIn X.K true x y H Q ∨ rNotInD X.K x y H Q) := op_notIn_seq.or (op_notInD hu)

/-! ## dict of pairs, sorted of ints -/
def putG {κ β : Type} [DecidableEq κ] (kvs : List (κ × β)) (k : κ) (v : β) : List (κ × β) :=
  if (kvs.any fun kv => decide (kv.1 = k)) = true then kvs.map (fun kv => if kv.1 = k then (kv.1, v) else kv) else kvs ++ [(k, v)]
abbrev KD (e : En) (F : Hp) : List (Key × D) → List (Key × V) → Prop := Paired fun p q => p.1 = q.1 ∧ Rep e F p.2 q.2
def dKey (d : D) : Option Key := match d with | .int i => some (.inl i) | .str x => some (.inr x) | _ => none
theorem dKey_rep {d : D} {k : Key} {v : V} (h : dKey d = some k) (r : Rep e F d v) : v = kV k := by
  unfold dKey at h; split at h <;> cases h <;> exact r
def pairsOf : List D → Option (List (Key × D))
  | [] => some []
  | .tup [k, v] :: l => (dKey k).bind fun k => (pairsOf l).map fun r => (k, v) :: r
  | _ => none
def ofKD (l : List (Key × D)) : List (D × D) := l.map fun p => (keyD p.1, p.2)
theorem KD.rep : ∀ {l : List (Key × D)} {vs : List (Key × V)}, KD e F l vs → RepK e F (ofKD l) vs
  | _, _, .nil => rfl
  | _, _, .cons (a := p) (b := q) h t => ⟨q.1, q.2, _, rfl, by rw [h.1], h.2, KD.rep t⟩
theorem KD.append {l m : List (Key × D)} {vs us : List (Key × V)} (h : KD e F l vs) (k : KD e F m us) : KD e F (l ++ m) (vs ++ us) := by
  induction h with
  | nil => exact k
  | cons r t ih => exact .cons r ih
theorem KD.any {k : Key} : ∀ {l : List (Key × D)} {vs : List (Key × V)}, KD e F l vs → (l.any fun kv => decide (kv.1 = k)) = (vs.any fun kv => decide (kv.1 = k))
  | _, _, .nil => rfl
  | _, _, .cons h t => by rw [List.any_cons, List.any_cons, KD.any t, h.1]
theorem KD.put {l : List (Key × D)} {vs : List (Key × V)} (h : KD e F l vs) (k : Key) {d : D} {v : V} (r : Rep e F d v) : KD e F (putG l k d) (putK vs k v) := by
  unfold putG putK
  rw [KD.any h]
  split
  · have : ∀ {l : List (Key × D)} {vs : List (Key × V)}, KD e F l vs → KD e F (l.map fun kv => if kv.1 = k then (kv.1, d) else kv) (vs.map fun kv => if kv.1 = k then (kv.1, v) else kv) := fun {l vs} h => by
      induction h with
      | nil => exact .nil
      | @cons p q ps qs h t ih =>
        refine .cons ?_ ih
        dsimp only
        rw [h.1]
        split
        · exact ⟨rfl, r⟩
        · exact h
    exact this h
  · exact KD.append h (.cons ⟨rfl, r⟩ .nil)
def mergeG (kvs more : List (Key × D)) : List (Key × D) := more.foldl (fun acc kv => putG acc kv.1 kv.2) kvs
theorem KD.merge {m : List (Key × D)} {us : List (Key × V)} (k : KD e F m us) : ∀ {l : List (Key × D)} {vs : List (Key × V)}, KD e F l vs → KD e F (mergeG l m) (mergeK vs us) := by
  induction k with
  | nil => intro l vs h; exact h
  | @cons p q ps qs r t ih =>
    intro l vs h
    have := ih (h.put p.1 r.2)
    rw [show putK vs p.1 q.2 = putK vs q.1 q.2 by rw [r.1]] at this
    exact this
theorem pairs_rep (sub : Sub F H) : ∀ {l : List D} {kvs : List (Key × D)} {vs : List V}, pairsOf l = some kvs → Reps e F l vs → ∃ (ps : List Addr) (kv : List (Key × V)), vs = ps.map V.ref ∧ Paired (fun p kv => SqT e.K H p [kV kv.1, kv.2]) ps kv ∧ KD e F kvs kv
  | [], _, _, h, r => by cases h; cases r; exact ⟨[], [], rfl, .nil, .nil⟩
  | d :: l, kvs, _, h, ⟨v, r, rfl, q, t⟩ => by
    unfold pairsOf at h; split at h
    · cases ‹_ :: _ = []›
    · rename_i k w l' heq
      cases heq
      simp only [Option.bind_eq_some_iff, Option.map_eq_some_iff] at h
      obtain ⟨key, hk, kvs', h1, rfl⟩ := h
      obtain ⟨ps, kv, e1, e2, e3⟩ := pairs_rep sub h1 t
      obtain ⟨a, us, rfl, q1, u1, r1, rfl, q2, u2, r2, rfl, q3, rfl⟩ := q
      cases dKey_rep hk q2
      exact ⟨a :: ps, (key, u2) :: kv, by rw [e1]; rfl, .cons (sub.tup q1) e2, .cons ⟨rfl, q3⟩ e3⟩
    · cases h
def cDictP (ds : List D) : Option C := match ds with
  | [.lst l] => (pairsOf l).map fun kvs => .ob .ow (.dct (ofKD (mergeG [] kvs)))
  | _ => none
theorem sc_dictP : SCall e (fun xs H Q => ∃ (a : Addr) (ps : List Addr) (kvs : List (Key × V)), xs = [.ref a] ∧ SqL e.K H a (ps.map V.ref) ∧ Paired (fun p kv => SqT e.K H p [kV kv.1, kv.2]) ps kvs ∧
    ∀ p, H p = none → Q (.ref p) (upd H p (.dK (mergeK [] kvs)))) cDictP := by
  intro σc σ H F ds vs c Q s hr hf k
  unfold cDictP at hf; split at hf
  · rename_i l
    simp only [Option.map_eq_some_iff] at hf
    obtain ⟨kvs, hl, rfl⟩ := hf
    obtain ⟨v, rfl, h⟩ := prs1 hr
    obtain ⟨a, ws, rfl, hs, r⟩ := h.lst s.sub
    obtain ⟨ps, kv, rfl, e2, e3⟩ := pairs_rep s.sub hl r
    refine ⟨a, ps, kv, rfl, .inl (.inl hs), e2, fun p hp => ?_⟩
    obtain ⟨s2, x2⟩ := s.newO (o := .dK (mergeK [] kv)) hp
    exact k _ _ _ s2 x2 (RepC.new (d := .dct _) s hp ⟨_, upd_same, (KD.merge e3 .nil).rep⟩)
  · cases hf
def ins1 (x : Int) : List Int → List Int
  | [] => [x]
  | y :: l => if x ≤ y then x :: y :: l else y :: ins1 x l
def isort : List Int → List Int
  | [] => []
  | x :: l => ins1 x (isort l)
theorem ins1_perm (x : Int) : ∀ l : List Int, (ins1 x l).Perm (x :: l)
  | [] => .refl _
  | y :: l => by
    unfold ins1; split
    · exact .refl _
    · exact ((ins1_perm x l).cons y).trans (.swap x y l)
theorem isort_perm : ∀ l : List Int, (isort l).Perm l
  | [] => .refl _
  | x :: l => (ins1_perm x _).trans ((isort_perm l).cons x)
theorem ins1_sorted (x : Int) : ∀ {l : List Int}, l.Pairwise (· ≤ ·) → (ins1 x l).Pairwise (· ≤ ·)
  | [], _ => by simp [ins1]
  | y :: l, h => by
    unfold ins1; split
    · rename_i hxy
      refine List.pairwise_cons.mpr ⟨fun z hz => ?_, h⟩
      rcases List.mem_cons.mp hz with rfl | hz
      · exact hxy
      · exact Int.le_trans hxy ((List.pairwise_cons.mp h).1 z hz)
    · rename_i hxy
      refine List.pairwise_cons.mpr ⟨fun z hz => ?_, ins1_sorted x (List.pairwise_cons.mp h).2⟩
      rcases List.mem_cons.mp ((ins1_perm x l).mem_iff.mp hz) with rfl | hz
      · omega
      · exact (List.pairwise_cons.mp h).1 z hz
theorem isort_sorted : ∀ l : List Int, (isort l).Pairwise (· ≤ ·)
  | [] => .nil
  | x :: l => ins1_sorted x (isort_sorted l)
theorem isort_uniq {l m : List Int} (h : m.Perm l) (s : m.Pairwise (· ≤ ·)) : m = isort l :=
  List.Perm.eq_of_pairwise (fun a b _ _ h1 h2 => Int.le_antisymm h1 h2) s (isort_sorted l) (h.trans (isort_perm l).symm)
/-- sorted of a list of ints, of a dict with fewer than 64 keys that are ints -/
def keysI : List (D × D) → Option (List Int)
  | [] => some []
  | (.int i, _) :: l => (keysI l).map fun r => i :: r
  | _ => none
def cSortI (ds : List D) : Option C := match ds with
  | [.lst l] => (intsOf l).map fun ns => .ob .ow (.lst ((isort ns).map .int))
  | [.dct l] => (keysI l).bind fun ns => if ns.length < 64 then some (.ob .ow (.lst ((isort ns).map .int))) else none
  | _ => none
theorem keysI_rep : ∀ {l : List (D × D)} {ks : List (Key × V)} {ns : List Int}, keysI l = some ns → RepK e F l ks → ks.map (·.1) = ns.map Sum.inl
  | [], _, _, h, r => by cases h; cases r; rfl
  | (k, d) :: l, _, ns, h, ⟨q, v, r, rfl, hk, _, t⟩ => by
    unfold keysI at h; split at h
    · cases ‹_ :: _ = []›
    · rename_i i d' l' heq
      cases heq
      simp only [Option.map_eq_some_iff] at h
      obtain ⟨ns', h1, rfl⟩ := h
      rw [List.map_cons, List.map_cons, keysI_rep h1 t]
      cases q with
      | inl j => cases hk; rfl
      | inr x => cases hk
    · cases h
def rSortLD (K : PySem.W.Frag) : List V → Hp → VK → Prop := fun vs H Q => rSortedI K vs H Q ∨ ∃ (a : Addr) (kvs : List (Key × V)) (ks : List Int), vs = [.ref a] ∧ Rd H a (.dK kvs) ∧ kvs.map (·.1) = ks.map Sum.inl ∧ ks.length < 64 ∧
    ∀ (ys : List Int) (p : Addr), ys.Perm ks → ys.Pairwise (· ≤ ·) → H p = none → Q (.ref p) (upd H p (.lst (ys.map V.int)))
theorem cr_sortLD (hc : X.calm = true) : CallR X (.builtin "sorted") (rSortLD X.K) := cr_sortedI.or (call_sortedDI hc)
theorem RepH.dct {l : List (D × D)} (s : Sub F H) (h : RepH e H F (.dct l) v) : ∃ a ks, v = .ref a ∧ H a = some (.dK ks) ∧ RepK e F l ks := by
  rcases h with ⟨a, ks, p, q, r⟩ | ⟨a, p, _, ks, q, r⟩
  · exact ⟨a, ks, p, s _ _ q, r⟩
  · exact ⟨a, ks, p, q, r⟩
theorem sc_sortI : SCall e (rSortLD e.K) cSortI := by
  intro σc σ H F ds vs c Q s hr hf k
  have fin : ∀ {ns ns' : List Int} {p : Addr}, ns'.Perm ns → ns'.Pairwise (· ≤ ·) → H p = none → c = .ob .ow (.lst ((isort ns).map .int)) → Q (.ref p) (upd H p (.lst (ns'.map V.int))) := fun {ns ns' p} h1 h2 hp hc => by
    subst hc
    rw [isort_uniq h1 h2]
    obtain ⟨s2, x2⟩ := s.newO (o := .lst ((isort ns).map V.int)) hp
    exact k _ _ _ s2 x2 (RepC.new (d := .lst _) s hp ⟨_, upd_same, reps_ints _⟩)
  unfold cSortI at hf; split at hf
  · rename_i l
    simp only [Option.map_eq_some_iff] at hf
    obtain ⟨ns, hl, hc⟩ := hf
    obtain ⟨v, rfl, h⟩ := prs1 hr
    obtain ⟨a, ws, rfl, hs, r⟩ := h.lst s.sub
    cases ints_rep hl r
    exact .inl ⟨a, ns, rfl, .inl (.inl hs), fun ns' p h1 h2 hp => fin h1 h2 hp hc.symm⟩
  · rename_i l
    simp only [Option.bind_eq_some_iff] at hf
    obtain ⟨ns, hl, hf⟩ := hf
    split at hf
    · rename_i h64
      obtain ⟨v, rfl, h⟩ := prs1 hr
      obtain ⟨a, ks, rfl, q, r⟩ := h.dct s.sub
      exact .inr ⟨a, ks, ns, rfl, .inl q, keysI_rep hl r, h64, fun ns' p h1 h2 hp => fin h1 h2 hp (Option.some.inj hf).symm⟩
    · cases hf
  · cases hf
end
end Sim

set_option Elab.async false
set_option linter.all false
set_option maxRecDepth 100000
namespace Sim
open PySem PySem.Spec L2
open PyProof.Rows hiding St
section
variable {X : Cx} {e : En} {a b c : Expr} {es : List Expr} {pos p : Pos} {st : Stmt} {sts : List Stmt} {H F : Hp} {v : V}
/-- + of ints, lists, tuples -/
def dCatT (x y : D) : Option C := match x, y with
  | .tup (q :: l), .tup m => if l.length + 1 + m.length ≤ lineN then some (.fz (.tup (q :: l ++ m))) else none
  | _, _ => none
def dPlus (x y : D) : Option C := match x, y with
  | .int i, .int j => some (.fz (.int (i + j)))
  | .lst l, .lst m => dCat (.lst l) (.lst m)
  | .tup l, .tup m => dCatT (.tup l) (.tup m)
  | _, _ => none
def rPlus (K : PySem.W.Frag) : R2 := fun x y H Q => rI0 (fun i j => .int (i + j)) x y H Q ∨ rCat x y H Q ∨ rCatT K x y H Q
theorem op_plus : OpR X (binaryOp .Add) (rPlus X.K) := op_add.or (op_cat.or op_catT)
theorem so_catT : SOp e (rCatT e.K) dCatT := by
  intro σc σ H F d1 d2 v1 v2 c Q s h1 h2 hf k
  unfold dCatT at hf; split at hf
  · rename_i q l m
    split at hf
    · rename_i hl
      cases hf
      obtain ⟨a, vs, rfl, q1, r1⟩ := h1.tup s.sub
      have h2' := h2
      obtain ⟨b, us, rfl, q2, r2⟩ := h2.tup s.sub
      have l1 := r1.length
      have l2 := r2.length
      have hz : (sizeLine : Nat) = lineN := lineN_eq
      simp only [List.length_cons] at l1
      refine ⟨a, b, vs, us, rfl, rfl, q1, q2, fun z => by rw [z] at l1; simp at l1, by rw [l1, l2, hz]; exact hl, fun hu => ?_, fun hu p hp => ?_⟩
      · have hm : m = [] := by
          rw [hu] at l2
          exact List.length_eq_zero_iff.mp l2.symm
        subst hm
        rw [List.append_nil] at k
        exact k _ F H s (.refl ..) h1.tupF
      · obtain ⟨s2, x2⟩ := s.newF (o := .tup (vs ++ us)) hp
        exact k _ _ _ s2 x2 ⟨p, vs ++ us, rfl, .inl (.inl upd_same), (r1.append r2).mono x2.f⟩
    · cases hf
  · cases hf
theorem so_plus : SOp e (rPlus e.K) dPlus := by
  intro σc σ H F d1 d2 v1 v2 c Q s h1 h2 hf k
  unfold dPlus at hf; split at hf
  · exact .inl (so_add σc σ H F _ _ v1 v2 c Q s h1 h2 hf k)
  · exact .inr (.inl (so_cat σc σ H F _ _ v1 v2 c Q s h1 h2 hf k))
  · exact .inr (.inr (so_catT σc σ H F _ _ v1 v2 c Q s h1 h2 hf k))
  · cases hf
/-- a, b, c = e1, e2, e3 -/
def sPar3 (i j l : Nat) (m1 m2 m3 : EM) : SM := fun σ => (m1 σ).bind fun p => p.1.dat.bind fun d1 => (m2 p.2).bind fun q => q.1.dat.bind fun d2 => (m3 q.2).bind fun r => r.1.dat.bind fun d3 =>
  (storeC i (.fz d1) r.2).bind fun σ1 => (storeC j (.fz d2) σ1).bind fun σ2 => (storeC l (.fz d3) σ2).map .nx
theorem S.par3 {i j l : Nat} {x y z : Str} {m1 m2 m3 : EM} {px py pz pt : Pos} {kt k2 pt2} (hc : X.calm = true) (hN : X.N.Nodup) (hi : X.N[i]? = some x) (hj : X.N[j]? = some y) (hl : X.N[l]? = some z) (hij : i ≠ j) (hil : i ≠ l) (hjl : j ≠ l)
    (hx : X.env.scope.names.lookup x = some .local) (hy : X.env.scope.names.lookup y = some .local) (hz : X.env.scope.names.lookup z = some .local) (ha : PE X a (tE e m1)) (hb : PE X b (tE e m2)) (hcc : PE X c (tE e m3))
    (hw : swappedStores [.Tuple [.Name x px, .Name y py, .Name z pz] kt pt] (.Tuple [a, b, c] k2 pt2) X.env = pure (some [x, y, z]))
    (hs : swapsWithSole [.Tuple [.Name x px, .Name y py, .Name z pz] kt pt] (.Tuple [a, b, c] k2 pt2) pos.line X.env = pure false := by rfl)
    (hs0 : starEach [a, b, c] X.env = (false, eval a X.env) :: starEach [b, c] X.env := by rfl) (hs1 : starEach [b, c] X.env = (false, eval b X.env) :: starEach [c] X.env := by rfl) (hs2 : starEach [c] X.env = (false, eval c X.env) :: starEach [] X.env := by rfl) :
    PS X (.Assign [.Tuple [.Name x px, .Name y py, .Name z pz] kt pt] (.Tuple [a, b, c] k2 pt2) pos) (tS e (sPar3 i j l m1 m2 m3)) :=
  (ps_par3 hc hN hi hj hl hij hil hjl hx hy hz (AF.cons ha (AF.cons hb (AF.cons hcc AF.nil hs2) hs1) hs0) hw hs).imp fun D σ H ⟨σc, F, o, s, hm, k⟩ => by
    simp only [sPar3, Option.bind_eq_some_iff, Option.map_eq_some_iff] at hm
    obtain ⟨⟨c1, σ1⟩, h1, d1, e1, ⟨c2, σ2⟩, h2, d2, e2, ⟨c3, σ3⟩, h3, d3, e3, σ4, h4, σ5, h5, σ6, h6, rfl⟩ := hm
    refine ⟨σc, F, [d1, d2, d3], σ3, s, by simp [fCons, fNil, h1, e1, h2, e2, h3, e3], fun vs F1 H1 s1 x1 r1 => ?_⟩
    obtain ⟨v, r, rfl, q1, w, r', rfl, q2, u, r'', rfl, q3, rfl⟩ := r1
    refine ⟨v, w, u, rfl, ?_⟩
    obtain ⟨y1, hy1, hf1, rfl⟩ := storeC_some h4
    obtain ⟨y2, hy2, hf2, rfl⟩ := storeC_some h5
    obtain ⟨y3, hy3, hf3, rfl⟩ := storeC_some h6
    obtain ⟨s2, x2⟩ := SR.store (c := .fz d1) (.refl ..) s1 q1 hy1 hf1
    obtain ⟨s3, x3⟩ := SR.store (c := .fz d2) (.refl ..) s2 q2 hy2 hf2
    obtain ⟨s4, x4⟩ := SR.store (c := .fz d3) (.refl ..) s3 q3 hy3 hf3
    exact k _ F1 H1 s4 (((x1.trans x2).trans x3).trans x4)
/-- a, b = e1, k where e1 may be an own object and k is an int as written -/
def sParO (i j : Nat) (m1 : EM) (k : Int) : SM := fun σ => (m1 σ).bind fun p => (storeC i p.1.own p.2).bind fun σ1 => (storeC j (.fz (.int k)) σ1).map .nx
theorem S.parO {i j : Nat} {x y : Str} {m1 : EM} {n : Int} {px py pt pi : Pos} {kt k2 pt2 ji} (hc : X.calm = true) (hN : X.N.Nodup) (hi : X.N[i]? = some x) (hj : X.N[j]? = some y) (hij : i ≠ j)
    (hx : X.env.scope.names.lookup x = some .local) (hy : X.env.scope.names.lookup y = some .local) (ha : PE X a (tE e m1))
    (hw : swappedStores [.Tuple [.Name x px, .Name y py] kt pt] (.Tuple [a, .Constant (.int n) ji pi] k2 pt2) X.env = pure (some [x, y]))
    (hs : swapsWithSole [.Tuple [.Name x px, .Name y py] kt pt] (.Tuple [a, .Constant (.int n) ji pi] k2 pt2) pos.line X.env = pure false := by rfl)
    (hs1 : starEach [a, .Constant (.int n) ji pi] X.env = (false, eval a X.env) :: starEach [.Constant (.int n) ji pi] X.env := by rfl) (hs2 : starEach [.Constant (.int n) ji pi] X.env = (false, eval (.Constant (.int n) ji pi) X.env) :: starEach [] X.env := by rfl) :
    PS X (.Assign [.Tuple [.Name x px, .Name y py] kt pt] (.Tuple [a, .Constant (.int n) ji pi] k2 pt2) pos) (tS e (sParO i j m1 n)) :=
  (ps_par hc hN hi hj hij hx hy (pa_cons ha (pa_cons pe_int pa_nil hs2) hs1) hw hs).imp fun D σ H ⟨σc, F, o, s, hm, k⟩ => by
    simp only [sParO, Option.bind_eq_some_iff, Option.map_eq_some_iff] at hm
    obtain ⟨⟨c1, σ1⟩, h1, σ3, h3, σ4, h4, rfl⟩ := hm
    refine ⟨σc, F, c1, σ1, s, h1, fun v F1 H1 s1 x1 r1 => ?_⟩
    refine ⟨v, .int n, rfl, ?_⟩
    obtain ⟨y1, hy1, hf1, rfl⟩ := storeC_some h3
    obtain ⟨y2, hy2, hf2, rfl⟩ := storeC_some h4
    obtain ⟨s2, x2⟩ := SR.store x1 s1 r1 hy1 hf1
    obtain ⟨s3, x3⟩ := SR.store (c := .fz (.int n)) (.refl ..) s2 (by rfl) hy2 hf2
    exact k _ F1 H1 s3 (x2.trans x3)
theorem hu65 {A : Around} {k : Nat} (hr : Room k A) : A.units + 65 < cLine := by have := hr.un; omega
end

/-! ## what is known of the text's defs -/
structure Fac (K : PySem.W.Frag) (mg : Str → Option Value) (x : Str) (st : Stmt) (ps : List Str) : Prop where
  ex : ∃ (f : Addr) (fd : FuncData), Fun K x x st f fd ∧ mg x = some (.ref f) ∧ Binds K fd ps []
structure Known (P : Program) (w : World) (K : PySem.W.Frag) (mg : Str → Option Value) (base : Heap) (e : En) (x : Str) (k : Nat) (fm : FM) : Prop where
  ex : ∃ (f : Addr) (fd : FuncData) (ps : List Str), FnOk P w K mg base CX0 k f fd ps (spF e fm) ∧ mg x = some (.ref f) ∧ PySem.W.keepIn K (.ref f) = true ∧ Binds K fd ps []
theorem known {P : Program} {w : World} {K : PySem.W.Frag} {mg : Str → Option Value} {base : Heap} {e : En} {x : Str} {st : Stmt} {N ps : List Str} {k np nn : Nat} {m : SM} (Fc : Fac K mg x st ps) (S : FnScope N ps (defScope st)) (hp : ps.length = np) (hN : N.length = nn)
    (hb : ∀ (f : Addr) (cdv : Value) (A : Around) (outer : List Env) (s : Shared) (H : Hp) (E : XK), Room k (A.deeper (envOfC x (defScope st) s.heap.objs.size f cdv)) → PSs (cxOf CX0 P w K mg base N x (defScope st) f cdv A outer s H E).nox (defBody st) (tS e m)) :
    Known P w K mg base e x (k + 1) (runFn np nn m) := by
  obtain ⟨f, fd, Fn, g, b⟩ := Fc.ex
  exact ⟨f, fd, ps, fn_ok Fn S hp hN fun cdv A outer s H E hr => hb f cdv A outer s H E hr, g, Fn.kp, b⟩
theorem fac_mk {K : PySem.W.Frag} {mg : Str → Option Value} {x : Str} {st : Stmt} {ps : List Str} {f : Addr} {oc : Value} {od an : Option Addr} {osl : Array (Option Value)} {kV doc pm cdv ct : Value} {h : Heap} (X : K.In h) (G : h.Ns mainGlobals mg)
    (hb : ∀ (kV doc pm : Value) (an : Option Addr) (cdv ct : Value) (us : List Value), us.length = ps.length → bindArgs (PySem.W.fnOf x x (defArgs st) (defBody st) (defScope st) .none kV doc pm an cdv ct) ⟨us, []⟩ = pure (ps.zip us))
    (a : PySem.W.nsIn K mainGlobals x = some (some (.ref f))) (l : K.lookup f = some ⟨oc, od, .func (PySem.W.fnOf x x (defArgs st) (defBody st) (defScope st) .none kV doc pm an cdv ct), osl⟩)
    (c : PySem.W.codeIn K cdv x = true) (k : PySem.W.keepIn K (.ref f) = true) : Fac K mg x st ps := by
  have Fn := fun_mk (st := st) l c k
  exact ⟨f, _, Fn, PySem.W.mg_of X G a, Fn.binds hb⟩
section
variable {X : Cx} {e : En} {a b c : Expr} {es : List Expr} {pos p : Pos}
theorem K.call {k j : Nat} {fm : FM} {x : Str} {m : AM} (G : Known X.prog X.w X.K X.mg X.base e x j fm) (hr : Room k X.A) (hj : j ≤ k) (hg : Gl X x)
    (ha : PA X (a :: es) (tAF e m)) (hdb : (x == ("__debug__" : Str)) = false := by decide) (he : starEach (a :: es) X.env = (false, eval a X.env) :: starEach es X.env := by rfl) (hpl : (backTo pos (starEach es X.env)).any (·.1) = false := by rfl) :
    PE X (.Call (.Name x p) (a :: es) [] pos) (tE e (mCall fm m)) := by
  obtain ⟨f, fd, ps, G, g, kp, b⟩ := G.ex
  exact E.call G (hr.mono hj) hg g kp b pass0 ha hdb he hpl
theorem K.callL {k j : Nat} {fm : FM} {x : Str} {m : LAM} (G : Known X.prog X.w X.K X.mg X.base e x j fm) (hr : Room k X.A) (hj : j ≤ k) (hg : Gl X x)
    (ha : PA X (a :: es) (tLA e m)) (hdb : (x == ("__debug__" : Str)) = false := by decide) (he : starEach (a :: es) X.env = (false, eval a X.env) :: starEach es X.env := by rfl) (hpl : (backTo pos (starEach es X.env)).any (·.1) = false := by rfl) :
    PE X (.Call (.Name x p) (a :: es) [] pos) (tE e (mCallL fm m)) := by
  obtain ⟨f, fd, ps, G, g, kp, b⟩ := G.ex
  exact E.callL G (hr.mono hj) hg g kp b pass0 ha hdb he hpl
theorem K.callM {k j : Nat} {fm : FM} {x : Str} {i : Nat} {m : AM} (G : Known X.prog X.w X.K X.mg X.base e x j fm) (hr : Room k X.A) (hj : j ≤ k) (hg : Gl X x)
    (h0 : PE X a (tVar i)) (ha : PA X es (tAF e m)) (hdb : (x == ("__debug__" : Str)) = false := by decide) (he : starEach (a :: es) X.env = (false, eval a X.env) :: starEach es X.env := by rfl) (hpl : (backTo pos (starEach es X.env)).any (·.1) = false := by rfl) :
    PE X (.Call (.Name x p) (a :: es) [] pos) (tE e (mCallM fm i m)) := by
  obtain ⟨f, fd, ps, G, g, kp, b⟩ := G.ex
  exact E.callM G (hr.mono hj) hg g kp b pass0 h0 ha hdb he hpl
end
end Sim

set_option Elab.async false
set_option linter.all false
set_option maxRecDepth 100000
namespace Sim
open PySem PySem.Spec L2
/-! ## reading the pure functions -/
/-- a def's answer on data -/
def val (f : FM) (ds : List D) : Option C := (f (ds.map C.fz)).map (·.1)
/-- a def's answer, and its first argument behind it -/
def valM (f : FM) (d : D) (ds : List D) : Option (C × D) := (f (C.ob Md.mu d :: ds.map C.fz)).bind fun q => match q.2[0]? with
  | some (C.ob Md.mu d') => some (q.1, d')
  | _ => none
def asFlat (c : C) : Option D := match c with | .fz d => if flatD d = true then some d else none | _ => none
section
variable {σ : List C} {f : FM} {m m1 m2 m3 : EM} {l l1 l2 l3 : LM} {t u : TM} {s s1 s2 : SM} {d d1 : D} {i j k n : Nat}
@[simp] theorem rs_call {a : AM} : mCall f a σ = (a σ).bind fun p => (val f p.1).map fun c => (c, p.2) := by
  unfold mCall val
  cases a σ with
  | none => rfl
  | some p =>
    show (f (p.1.map .fz)).map _ = ((f (p.1.map .fz)).map _).map _
    rw [Option.map_map]; rfl
@[simp] theorem rs_callL {a : LAM} : mCallL f a σ = (a σ).bind fun p => (p.1 p.2).bind fun ds => (val f ds).bind fun c => (asFlat c).map fun d => (.fz d, p.2) := by
  unfold mCallL val
  cases a σ with
  | none => rfl
  | some p =>
    show (p.1 p.2).bind _ = (p.1 p.2).bind _
    cases p.1 p.2 with
    | none => rfl
    | some ds =>
      show (f (ds.map .fz)).bind _ = ((f (ds.map .fz)).map _).bind _
      cases f (ds.map .fz) with
      | none => rfl
      | some q =>
        obtain ⟨c, σ'⟩ := q
        cases c with
        | no => rfl
        | fz d => show (if _ then _ else _) = Option.map _ (if _ then _ else _); split <;> rfl
        | ob m d => rfl
@[simp] theorem rs_bin {g : D → D → Option C} : mBin g l1 l2 σ = (l1 σ).bind fun p => (l2 p.2).bind fun q => (p.1 q.2).bind fun x => (q.1 q.2).bind fun y => (g x y).map fun c => (c, q.2) := rfl
@[simp] theorem rs_ev : ev m σ = (m σ).bind fun p => p.1.dat.map fun d => (fun _ => some d, p.2) := rfl
@[simp] theorem rs_slq : slq i σ = (sDat i σ).bind fun _ => some (sDat i, σ) := rfl
@[simp] theorem rs_sDat : sDat i σ = σ[i]?.bind C.dat := rfl
@[simp] theorem rs_eT : eT m σ = (m σ).bind fun p => (asB p.1).map fun b => (b, p.2) := by
  unfold eT
  cases m σ with
  | none => rfl
  | some p =>
    obtain ⟨c, σ'⟩ := p
    cases c with
    | no => rfl
    | fz d => cases d <;> rfl
    | ob m d => rfl
@[simp] theorem rs_C : mC d σ = some (.fz d, σ) := rfl
@[simp] theorem rs_var : mVar i σ = match σ[i]? with
  | some (.fz d) => some (.fz d, σ)
  | some (.ob .ow d) => some (.fz d, σ.set i (.fz d))
  | _ => none := rfl
@[simp] theorem rs_move : mMove i σ = match σ[i]? with
  | some (.fz d) => some (.fz d, σ)
  | some (.ob .ow d) => some (.ob .ow d, σ.set i .no)
  | _ => none := rfl
@[simp] theorem rs_andT : mAndT t u σ = (t σ).bind fun p => if p.1 = true then u p.2 else some (false, p.2) := rfl
@[simp] theorem rs_orT : mOrT t u σ = (t σ).bind fun p => if p.1 = true then some (true, p.2) else u p.2 := rfl
@[simp] theorem rs_notT : mNotT t σ = (t σ).map fun p => (!p.1, p.2) := rfl
@[simp] theorem rs_and : mAnd m1 m2 σ = (m1 σ).bind fun p => (asB p.1).bind fun b => if b = true then m2 p.2 else some (.fz (.bl false), p.2) := rfl
@[simp] theorem rs_or : mOr m1 m2 σ = (m1 σ).bind fun p => (asB p.1).bind fun b => if b = true then some (.fz (.bl true), p.2) else m2 p.2 := rfl
@[simp] theorem rs_not : mNot m σ = (m σ).bind fun p => (asB p.1).map fun b => (.fz (.bl (!b)), p.2) := rfl
@[simp] theorem rs_if : mIf t m1 m2 σ = (t σ).bind fun p => if p.1 = true then m1 p.2 else m2 p.2 := rfl
@[simp] theorem rs_chain {g g' : D → D → Option C} : mChain g g' l1 l2 l3 σ = (l1 σ).bind fun p => (l2 p.2).bind fun q => (p.1 q.2).bind fun x => (q.1 q.2).bind fun y => (g x y).bind fun z => (asB z).bind fun b =>
  if b = true then (l3 q.2).bind fun r => (q.1 r.2).bind fun y' => (r.1 r.2).bind fun w => (g' y' w).map fun z => (z, r.2) else some (.fz (.bl false), q.2) := rfl
@[simp] theorem rs_un {g : D → Option D} : mUn g m σ = (m σ).bind fun p => p.1.dat.bind fun d => (g d).map fun r => (.fz r, p.2) := rfl
@[simp] theorem rs_lNil : lNil σ = some (fun _ => some [], σ) := rfl
@[simp] theorem rs_lCons {r : LAM} : lCons l r σ = (l σ).bind fun p => (r p.2).map fun q => (fun σ => (p.1 σ).bind fun d => (q.1 σ).map fun ds => d :: ds, q.2) := rfl
@[simp] theorem rs_callB {g : List D → Option C} {r : LAM} : mCallB g r σ = (r σ).bind fun p => (p.1 p.2).bind fun ds => (g ds).map fun c => (c, p.2) := rfl
@[simp] theorem rs_fNil : fNil σ = some ([], σ) := rfl
@[simp] theorem rs_fCons {r : AM} : fCons m r σ = (m σ).bind fun p => p.1.dat.bind fun d => (r p.2).map fun q => (d :: q.1, q.2) := rfl
@[simp] theorem rs_tup {r : AM} : mTup r σ = (r σ).bind fun p => if p.1.length ≤ lineN then some (.fz (.tup p.1), p.2) else none := rfl
@[simp] theorem rs_lst {r : AM} : mLst r σ = (r σ).bind fun p => if p.1.length ≤ lineN then some (.ob .ow (.lst p.1), p.2) else none := rfl
@[simp] theorem rs_sNil : sNil σ = some (.nx σ) := rfl
@[simp] theorem rs_seq : sSeq s1 s2 σ = (s1 σ).bind fun o => match o with
  | .nx σ1 => s2 σ1
  | o => some o := rfl
@[simp] theorem rs_expr : sExpr m σ = (m σ).map fun p => .nx p.2 := rfl
@[simp] theorem rs_ret : sRet m σ = (m σ).map fun p => .rt p.1 p.2 := rfl
@[simp] theorem rs_retN : sRetN σ = some (.rt (.fz .non) σ) := rfl
@[simp] theorem rs_sIf : sIf t s1 s2 σ = (t σ).bind fun p => if p.1 = true then s1 p.2 else s2 p.2 := rfl
@[simp] theorem rs_set : sSet i m σ = (m σ).bind fun p => (storeC i p.1.own p.2).map .nx := rfl
@[simp] theorem rs_store {c : C} : storeC i c σ = match σ[i]? with
  | some x => if isFree x = true then some (σ.set i c) else none
  | none => none := rfl
@[simp] theorem rs_asg {g : D → List C → Option (List C)} : sAsg g m σ = (m σ).bind fun p => p.1.dat.bind fun d => (g d p.2).map .nx := rfl
@[simp] theorem rs_par : sPar i j m1 m2 σ = (m1 σ).bind fun p => p.1.dat.bind fun d1 => (m2 p.2).bind fun q => q.1.dat.bind fun d2 => (storeC i (.fz d1) q.2).bind fun σ1 => (storeC j (.fz d2) σ1).map .nx := rfl
@[simp] theorem rs_parO {i j : Nat} {k : Int} {m1 : EM} : sParO i j m1 k σ = (m1 σ).bind fun p => (storeC i p.1.own p.2).bind fun σ1 => (storeC j (.fz (.int k)) σ1).map .nx := rfl
@[simp] theorem rs_par3 : sPar3 i j k m1 m2 m3 σ = (m1 σ).bind fun p => p.1.dat.bind fun d1 => (m2 p.2).bind fun q => q.1.dat.bind fun d2 => (m3 q.2).bind fun r => r.1.dat.bind fun d3 =>
  (storeC i (.fz d1) r.2).bind fun σ1 => (storeC j (.fz d2) σ1).bind fun σ2 => (storeC k (.fz d3) σ2).map .nx := rfl
@[simp] theorem rs_ext : mExt i m σ = match σ[i]? with
  | some (C.ob _ (.lst _)) => (m σ).bind fun p => p.1.dat.bind fun d => match d with
    | .lst r => match p.2[i]? with
      | some (C.ob md (.lst l)) => if md = Md.lk then none else if l.length + r.length ≤ lineN then some (.fz .non, p.2.set i (C.ob md (.lst (l ++ r)))) else none
      | _ => none
    | _ => none
  | _ => none := rfl
@[simp] theorem rs_app : mApp i m σ = match σ[i]? with
  | some (C.ob _ (.lst _)) => (m σ).bind fun p => p.1.dat.bind fun d => match p.2[i]? with
    | some (C.ob md (.lst l)) => if md = Md.lk then none else if l.length < lineN then some (.fz .non, p.2.set i (C.ob md (.lst (l ++ [d])))) else none
    | _ => none
  | _ => none := rfl
@[simp] theorem rs_setIx : sSetIx i m1 m2 σ = match σ[i]? with
  | some (C.ob _ _) => (m2 σ).bind fun p => p.1.dat.bind fun d => (m1 p.2).bind fun q => (asI q.1).bind fun k => match q.2[i]? with
    | some (C.ob md (.lst l)) => if md = Md.lk then none else (ixN l.length k).map fun j => .nx (q.2.set i (C.ob md (.lst (l.set j d))))
    | _ => none
  | _ => none := rfl
@[simp] theorem rs_cat {x y : List D} : dPlus (.lst x) (.lst y) = if x.length + y.length ≤ lineN then some (.ob .ow (.lst (x ++ y))) else none := rfl
@[simp] theorem rs_asI {b : Int} : asI (.fz (.int b)) = some b := rfl
@[simp] theorem rs_gN : gN i d σ = storeC i (.fz d) σ := rfl
@[simp] theorem rs_gT {g : List D → List C → Option (List C)} {ds : List D} : gT g n (.tup ds) σ = if ds.length = n then g ds σ else none := rfl
@[simp] theorem rs_gsNil : gsNil [] σ = some σ := rfl
@[simp] theorem rs_gsCons {g : D → List C → Option (List C)} {gs : List D → List C → Option (List C)} {ds : List D} : gsCons g gs (d :: ds) σ = (g d σ).bind (gs ds) := rfl
@[simp] theorem rs_aug {g : D → D → Option C} : sAug i g l σ = (l σ).bind fun q => (sDat i σ).bind fun x => (q.1 q.2).bind fun y => (g x y).bind fun c => match σ[i]? with
  | some (.fz _) => (storeC i c.own q.2).map .nx
  | _ => none := rfl
@[simp] theorem rs_for {src : IM} {g : D → List C → Option (List C)} : sFor src g s σ = (src σ).bind fun p => forI g s p.1 p.2 := rfl
@[simp] theorem rs_iR1 {r : AM} : iR1 r σ = (r σ).bind fun p => match p.1 with
  | [.int j] => if okRng j = true then some (rangeD 0 j.toNat, p.2) else none
  | _ => none := rfl
@[simp] theorem rs_iR2 {r : AM} : iR2 r σ = (r σ).bind fun p => match p.1 with
  | [.int i, .int j] => if (okRng i && okRng j) = true then some (rangeD i (j - i).toNat, p.2) else none
  | _ => none := rfl
@[simp] theorem rs_iLst : iLst m σ = (m σ).bind fun p => match p.1.dat with
  | some (.lst l) => some (l, p.2)
  | some (.frl l) => some (l, p.2)
  | _ => none := rfl
@[simp] theorem rs_iTup : iTupl m σ = (m σ).bind fun p => match p.1 with
  | .fz (.tup l) => some (l, p.2)
  | _ => none := rfl
@[simp] theorem rs_isI {T : String} : mIsI T l σ = (l σ).bind fun p => (p.1 p.2).bind fun d => (cIsI T d).map fun c => (c, p.2) := rfl
@[simp] theorem rs_asB {b : Bool} : asB (.fz (.bl b)) = some b := rfl
@[simp] theorem rs_dat_fz : C.dat (.fz d) = some d := rfl
@[simp] theorem rs_dat_ob {md : Md} : C.dat (.ob md d) = some d := rfl
@[simp] theorem rs_own_fz : C.own (.fz d) = .fz d := rfl
@[simp] theorem rs_own_ob {md : Md} : C.own (.ob md d) = .ob .ow d := rfl
@[simp] theorem rs_free_no : isFree .no = true := rfl
@[simp] theorem rs_free_fz : isFree (.fz d) = true := rfl
@[simp] theorem rs_free_ow : isFree (.ob .ow d) = true := rfl
@[simp] theorem rs_flat_int {a : Int} : asFlat (.fz (.int a)) = some (.int a) := rfl
@[simp] theorem rs_flat_bl {a : Bool} : asFlat (.fz (.bl a)) = some (.bl a) := rfl
@[simp] theorem rs_flat_str {a : Str} : asFlat (.fz (.str a)) = some (.str a) := rfl
@[simp] theorem rs_flat_non : asFlat (.fz .non) = some .non := rfl
section
variable {a b : Int}
@[simp] theorem rs_add : dPlus (.int a) (.int b) = some (.fz (.int (a + b))) := rfl
@[simp] theorem rs_add' : dAdd (.int a) (.int b) = some (.fz (.int (a + b))) := rfl
@[simp] theorem rs_sub : dSub (.int a) (.int b) = some (.fz (.int (a - b))) := rfl
@[simp] theorem rs_mul : dMul (.int a) (.int b) = if okMul a b = true then some (.fz (.int (a * b))) else none := rfl
@[simp] theorem rs_div : dDiv (.int a) (.int b) = if okDiv a b = true then some (.fz (.int (a.fdiv b))) else none := rfl
@[simp] theorem rs_mod : dMod (.int a) (.int b) = if (decide (b ≠ 0)) = true then some (.fz (.int (a.fmod b))) else none := rfl
@[simp] theorem rs_pow : dPow (.int a) (.int b) = if okPow a b = true then some (.fz (.int (a ^ b.toNat))) else none := rfl
@[simp] theorem rs_lt : dLt (.int a) (.int b) = some (.fz (.bl (decide (a < b)))) := rfl
@[simp] theorem rs_le : dLe (.int a) (.int b) = some (.fz (.bl (decide (a ≤ b)))) := rfl
@[simp] theorem rs_gt : dGt (.int a) (.int b) = some (.fz (.bl (decide (b < a)))) := rfl
@[simp] theorem rs_ge : dGe (.int a) (.int b) = some (.fz (.bl (decide (b ≤ a)))) := rfl
theorem eqD_int : eqD (.int a) (.int b) = some (a == b) := rfl
@[simp] theorem rs_eq : dEq (.int a) (.int b) = some (.fz (.bl (decide (a = b)))) := by
  unfold dEq; rw [eqD_int, Bool.beq_eq_decide_eq]; rfl
@[simp] theorem rs_ne : dNe (.int a) (.int b) = some (.fz (.bl (!decide (a = b)))) := by
  unfold dNe; rw [eqD_int, Bool.beq_eq_decide_eq]; rfl
@[simp] theorem rs_isB {x y : Bool} : dIsB (.bl x) (.bl y) = some (.fz (.bl (decide (x = y)))) := rfl
@[simp] theorem rs_notB {x y : Bool} : dNotB (.bl x) (.bl y) = some (.fz (.bl (!decide (x = y)))) := rfl
@[simp] theorem rs_isN : dIsN d .non = some (.fz (.bl (isN d))) := rfl
@[simp] theorem rs_notN : dNotN d .non = some (.fz (.bl (!isN d))) := rfl
@[simp] theorem rs_isN_non : isN .non = true := rfl
@[simp] theorem rs_isN_int : isN (.int a) = false := rfl
@[simp] theorem rs_isN_str {x : Str} : isN (.str x) = false := rfl
@[simp] theorem rs_isN_lst {x : List D} : isN (.lst x) = false := rfl
@[simp] theorem rs_neg : dNeg (.int a) = some (.int (-a)) := rfl
@[simp] theorem rs_cabs : cAbs [.int a] = some (.fz (.int (if a < 0 then -a else a))) := rfl
@[simp] theorem rs_cint : cInt [.int a] = some (.fz (.int a)) := rfl
@[simp] theorem rs_cmin : cMin [.int a, .int b] = some (.fz (.int (if b < a then b else a))) := rfl
@[simp] theorem rs_clen {x : List D} : cLen [.lst x] = some (.fz (.int x.length)) := rfl
@[simp] theorem rs_clenf {x : List D} : cLen [.frl x] = some (.fz (.int x.length)) := rfl
end
@[simp] theorem val_run {np N : Nat} {body : SM} {ds : List D} : val (runFn np N body) ds = if ds.length = np then (body (ds.map C.fz ++ List.replicate (N - np) .no)).bind fun o => match o with
  | .rt c _ => some c
  | .nx _ => some (.fz .non)
  | _ => none else none := by
  unfold val runFn
  by_cases h : ds.length = np
  case neg => rw [if_neg (by simpa using h), if_neg h]; rfl
  rw [if_pos (by simp [h]), if_pos h]
  cases body (ds.map C.fz ++ List.replicate (N - np) .no) with
  | none => rfl
  | some o => cases o <;> rfl
@[simp] theorem valM_run {np N : Nat} {body : SM} {d : D} {ds : List D} : valM (runFn np N body) d ds = if ds.length + 1 = np then (body (C.ob Md.mu d :: ds.map C.fz ++ List.replicate (N - np) .no)).bind fun o => match o with
  | .rt c σ => (match σ[0]? with | some (C.ob Md.mu d') => some (c, d') | _ => none)
  | .nx σ => (match σ[0]? with | some (C.ob Md.mu d') => some (.fz .non, d') | _ => none)
  | _ => none else none := by
  unfold valM runFn
  by_cases h : ds.length + 1 = np
  case neg => rw [if_neg (by simpa using h), if_neg h]; rfl
  rw [if_pos (by simp [h]), if_pos h]
  cases body (C.ob Md.mu d :: ds.map C.fz ++ List.replicate (N - np) .no) with
  | none => rfl
  | some o => cases o <;> rfl
@[simp] theorem rs_callM {a : AM} : mCallM f i a σ = match σ[i]? with
  | some (C.ob _ _) => (a σ).bind fun p => match p.2[i]? with
    | some (C.ob md d) => if md = Md.lk then none else (valM f d p.1).map fun q => (q.1, p.2.set i (C.ob md q.2))
    | _ => none
  | _ => none := by
  unfold mCallM
  cases σ[i]? with
  | none => rfl
  | some c =>
    cases c with
    | no => rfl
    | fz d => rfl
    | ob md d =>
      show (a σ).bind _ = (a σ).bind _
      cases a σ with
      | none => rfl
      | some p =>
        show (match p.2[i]? with | some (C.ob md d) => _ | _ => none) = (match p.2[i]? with | some (C.ob md d) => _ | _ => none)
        cases p.2[i]? with
        | none => rfl
        | some c =>
          cases c with
          | no => rfl
          | fz d => rfl
          | ob md d =>
            dsimp only
            split
            · rfl
            · unfold valM
              cases f (C.ob Md.mu d :: p.1.map C.fz) with
              | none => rfl
              | some q =>
                show (match q.2[0]? with | some (C.ob Md.mu d') => _ | _ => none) = Option.map _ (match q.2[0]? with | some (C.ob Md.mu d') => _ | _ => none)
                split <;> rfl
@[simp] theorem lineN_val : lineN = 16777216 := rfl
@[simp] theorem rangeD_0 {lo : Int} : rangeD lo 0 = [] := rfl
@[simp] theorem rangeD_1 {lo : Int} : rangeD lo 1 = [.int lo] := by simp [rangeD, List.range_succ]
@[simp] theorem rangeD_2 {lo : Int} : rangeD lo 2 = [.int lo, .int (lo + 1)] := by simp [rangeD, List.range_succ]
@[simp] theorem rangeD_3 {lo : Int} : rangeD lo 3 = [.int lo, .int (lo + 1), .int (lo + 2)] := by simp [rangeD, List.range_succ]
@[simp] theorem rs_forI_nil {g : D → List C → Option (List C)} {b : SM} {σ : List C} : forI g b [] σ = some (.nx σ) := rfl
@[simp] theorem rs_forI_cons {g : D → List C → Option (List C)} {b : SM} {σ : List C} {d : D} {ds : List D} : forI g b (d :: ds) σ = (g d σ).bind fun σ1 => (b σ1).bind fun o => match o with
    | .nx σ2 => forI g b ds σ2
    | .ct σ2 => forI g b ds σ2
    | .bk σ2 => some (.nx σ2)
    | .rt c σ2 => some (.rt c σ2) := rfl
/-! ## loops -/
theorem while_rule {α : Type} (st : α → List C) (P : α → Prop) (μ : α → Nat) {t : TM} {body : SM} {c : α → Bool} (ht : ∀ a, P a → t (st a) = some (c a, st a))
    (hb : ∀ a, P a → c a = true → ∃ a', body (st a) = some (.nx (st a')) ∧ P a' ∧ μ a' < μ a) : ∀ (n : Nat) (a : α), P a → μ a < n → ∃ a', whileN t body n (st a) = some (.nx (st a')) ∧ P a' ∧ c a' = false
  | 0, _, _, h => absurd h (Nat.not_lt_zero _)
  | n + 1, a, p, h => by
    unfold whileN
    rw [ht a p]
    cases hc : c a with
    | false => exact ⟨a, by simp, p, hc⟩
    | true =>
      obtain ⟨a', h1, h2, h3⟩ := hb a p hc
      obtain ⟨a2, q1, q2, q3⟩ := while_rule st P μ ht hb n a' h2 (by omega)
      refine ⟨a2, ?_, q2, q3⟩
      rw [Option.bind_some, if_pos rfl, h1]
      exact q1
end
end Sim

set_option linter.all false
namespace NT
/-! primes, Fermat, Euler; core Lean alone -/
def Pr (p : Nat) : Prop := 2 ≤ p ∧ ∀ d, d ∣ p → d = 1 ∨ d = p
theorem Pr.pos {p : Nat} (h : Pr p) : 0 < p := by have := h.1; omega
theorem Pr.cop {p a : Nat} (h : Pr p) (n : ¬ p ∣ a) : Nat.Coprime p a := by
  have g := Nat.gcd_dvd_left p a
  rcases h.2 _ g with e | e
  · exact e
  · exact absurd (e ▸ Nat.gcd_dvd_right p a) n
theorem Pr.dvd_mul {p a b : Nat} (h : Pr p) (d : p ∣ a * b) : p ∣ a ∨ p ∣ b := by
  by_cases n : p ∣ a
  · exact .inl n
  · exact .inr ((h.cop n).dvd_of_dvd_mul_left d)
theorem Pr.eq {p q : Nat} (hp : Pr p) (hq : Pr q) (d : p ∣ q) : p = q := by
  rcases hq.2 p d with e | e
  · have := hp.1; omega
  · exact e
theorem Pr.not_one {p : Nat} (h : Pr p) : ¬ p ∣ 1 := fun d => by
  have := Nat.le_of_dvd (by omega) d
  have := h.1; omega
/-- a least divisor above 1 is a prime -/
theorem exists_pr : ∀ (n : Nat), 2 ≤ n → ∃ p, Pr p ∧ p ∣ n := by
  intro n
  induction n using Nat.strongRecOn with
  | _ n ih =>
    intro h
    by_cases hp : Pr n
    · exact ⟨n, hp, Nat.dvd_refl n⟩
    · have : ∃ d, d ∣ n ∧ d ≠ 1 ∧ d ≠ n := by
        apply Classical.byContradiction
        intro k
        apply hp
        refine ⟨h, fun d hd => ?_⟩
        apply Classical.byContradiction
        intro kk
        apply k
        refine ⟨d, hd, fun z => kk (.inl z), fun z => kk (.inr z)⟩
      obtain ⟨d, hd, h1, h2⟩ := this
      have hle := Nat.le_of_dvd (by omega) hd
      have h0 : d ≠ 0 := fun z => by subst z; have := Nat.eq_zero_of_zero_dvd hd; omega
      obtain ⟨p, pp, pd⟩ := ih d (by omega) (by omega)
      exact ⟨p, pp, Nat.dvd_trans pd hd⟩

/-! binomials -/
def C : Nat → Nat → Nat
  | _, 0 => 1
  | 0, _ + 1 => 0
  | n + 1, k + 1 => C n k + C n (k + 1)
theorem C_zero (n : Nat) : C n 0 = 1 := by cases n <;> rfl
theorem C_lt : ∀ {n k : Nat}, n < k → C n k = 0
  | 0, 0, h => by omega
  | 0, k + 1, _ => rfl
  | n + 1, 0, h => by omega
  | n + 1, k + 1, h => by
    show C n k + C n (k + 1) = 0
    rw [C_lt (by omega), C_lt (by omega)]
theorem C_self : ∀ n : Nat, C n n = 1
  | 0 => rfl
  | n + 1 => by
    show C n n + C n (n + 1) = 1
    rw [C_self n, C_lt (by omega)]
theorem C_absorb : ∀ n k : Nat, (k + 1) * C (n + 1) (k + 1) = (n + 1) * C n k
  | 0, 0 => rfl
  | 0, k + 1 => by
    show (k + 1 + 1) * (C 0 (k + 1) + C 0 (k + 1 + 1)) = _
    simp [C]
  | n + 1, 0 => by
    have := C_absorb n 0
    show (0 + 1) * (C (n + 1) 0 + C (n + 1) (0 + 1)) = (n + 1 + 1) * C (n + 1) 0
    rw [C_zero] at *
    rw [Nat.mul_add, this]
    omega
  | n + 1, k + 1 => by
    have h1 := C_absorb n k
    have h2 := C_absorb n (k + 1)
    show (k + 1 + 1) * (C (n + 1) (k + 1) + C (n + 1) (k + 1 + 1)) = (n + 1 + 1) * (C n k + C n (k + 1))
    rw [Nat.mul_add, h2, Nat.add_mul (k + 1) 1, h1]
    have e : C (n + 1) (k + 1) = C n k + C n (k + 1) := rfl
    rw [e]
    simp only [Nat.mul_add, Nat.add_mul, Nat.one_mul]
    omega
/-- sums over range -/
def S (f : Nat → Nat) : Nat → Nat
  | 0 => 0
  | n + 1 => S f n + f n
theorem S_add (f g : Nat → Nat) : ∀ n, S (fun k => f k + g k) n = S f n + S g n
  | 0 => rfl
  | n + 1 => by simp only [S, S_add f g n]; omega
theorem S_mul (f : Nat → Nat) (a : Nat) : ∀ n, S (fun k => a * f k) n = a * S f n
  | 0 => rfl
  | n + 1 => by simp only [S, S_mul f a n, Nat.mul_add]
theorem S_congr {f g : Nat → Nat} : ∀ {n}, (∀ k, k < n → f k = g k) → S f n = S g n
  | 0, _ => rfl
  | n + 1, h => by simp only [S]; rw [S_congr fun k hk => h k (by omega), h n (by omega)]
theorem S_shift (f : Nat → Nat) : ∀ n, S f (n + 1) = f 0 + S (fun k => f (k + 1)) n
  | 0 => by simp [S]
  | n + 1 => by
    have := S_shift f n
    show S f (n + 1) + f (n + 1) = f 0 + (S (fun k => f (k + 1)) n + f (n + 1))
    omega
theorem binom (a : Nat) : ∀ n, (a + 1) ^ n = S (fun k => C n k * a ^ k) (n + 1)
  | 0 => by simp [S, C]
  | n + 1 => by
    rw [Nat.pow_succ, binom a n, Nat.mul_add, Nat.mul_one, S_shift (fun k => C (n + 1) k * a ^ k)]
    have e1 : S (fun k => C n k * a ^ k) (n + 1) * a = S (fun k => C n k * a ^ (k + 1)) (n + 1) := by
      rw [Nat.mul_comm, ← S_mul]
      apply S_congr
      intro k _
      rw [Nat.pow_succ, Nat.mul_comm a, Nat.mul_assoc]
    have e2 : S (fun k => C (n + 1) (k + 1) * a ^ (k + 1)) (n + 1) = S (fun k => C n k * a ^ (k + 1)) (n + 1) + S (fun k => C n (k + 1) * a ^ (k + 1)) (n + 1) := by
      rw [← S_add]
      apply S_congr
      intro k _
      show (C n k + C n (k + 1)) * a ^ (k + 1) = _
      rw [Nat.add_mul]
    rw [e1, e2]
    have e3 : S (fun k => C n k * a ^ k) (n + 1) = 1 + S (fun k => C n (k + 1) * a ^ (k + 1)) (n + 1) := by
      have : S (fun k => C n (k + 1) * a ^ (k + 1)) (n + 1) = S (fun k => C n (k + 1) * a ^ (k + 1)) n := by
        show _ + C n (n + 1) * a ^ (n + 1) = _
        rw [C_lt (by omega)]; omega
      rw [this, S_shift (fun k => C n k * a ^ k), C_zero]
      simp
    rw [C_zero]
    simp only [Nat.pow_zero, Nat.mul_one]
    omega
theorem S_dvd {p : Nat} {f : Nat → Nat} : ∀ {n}, (∀ k, k < n → p ∣ f k) → p ∣ S f n
  | 0, _ => Nat.dvd_zero p
  | n + 1, h => Nat.dvd_add (S_dvd fun k hk => h k (by omega)) (h n (by omega))
theorem Pr.dvd_C {p k : Nat} (h : Pr p) (h0 : 0 < k) (h1 : k < p) : p ∣ C p k := by
  obtain ⟨q, rfl⟩ : ∃ q, p = q + 1 := ⟨p - 1, by have := h.pos; omega⟩
  obtain ⟨j, rfl⟩ : ∃ j, k = j + 1 := ⟨k - 1, by omega⟩
  have e := C_absorb q j
  have d : (q + 1) ∣ (j + 1) * C (q + 1) (j + 1) := ⟨_, e⟩
  rcases h.dvd_mul d with z | z
  · have := Nat.le_of_dvd (by omega) z; omega
  · exact z
theorem fermat0 {p : Nat} (h : Pr p) : ∀ a : Nat, a ^ p % p = a % p
  | 0 => by have := h.1; rw [Nat.zero_pow (by omega)]
  | a + 1 => by
    obtain ⟨q, rfl⟩ : ∃ q, p = q + 1 := ⟨p - 1, by have := h.pos; omega⟩
    rw [binom]
    show (S (fun k => C (q + 1) k * a ^ k) (q + 1) + C (q + 1) (q + 1) * a ^ (q + 1)) % (q + 1) = _
    rw [S_shift, C_zero, C_self]
    have d : (q + 1) ∣ S (fun k => C (q + 1) (k + 1) * a ^ (k + 1)) q := S_dvd fun k hk => Nat.dvd_mul_right_of_dvd (h.dvd_C (by omega) (by omega)) _
    obtain ⟨m, hm⟩ := d
    rw [hm]
    have ih := fermat0 h a
    simp only [Nat.pow_zero, Nat.mul_one, Nat.one_mul]
    rw [show 1 + (q + 1) * m + a ^ (q + 1) = 1 + a ^ (q + 1) + (q + 1) * m by omega, Nat.add_mul_mod_self_left, Nat.add_mod, ih, ← Nat.add_mod, Nat.add_comm]
theorem fermat {p a : Nat} (h : Pr p) (n : ¬ p ∣ a) : a ^ (p - 1) % p = 1 := by
  have e := fermat0 h a
  have hp := h.1
  obtain ⟨q, rfl⟩ : ∃ q, p = q + 1 := ⟨p - 1, by omega⟩
  rw [Nat.add_sub_cancel]
  have hpos : 0 < a := Nat.pos_of_ne_zero fun z => n (by subst z; exact Nat.dvd_zero _)
  have hq : 0 < a ^ q := Nat.pow_pos hpos
  have h1 : a ≤ a ^ (q + 1) := by rw [Nat.pow_succ]; exact Nat.le_mul_of_pos_left a hq
  have d : (q + 1) ∣ a ^ (q + 1) - a := Nat.dvd_of_mod_eq_zero (Nat.sub_mod_eq_zero_of_mod_eq e)
  have e2 : a ^ (q + 1) - a = a * (a ^ q - 1) := by
    rw [Nat.pow_succ, Nat.mul_sub, Nat.mul_one, Nat.mul_comm]
  rw [e2] at d
  obtain ⟨t, ht⟩ := (h.dvd_mul d).resolve_left n
  have e4 : a ^ q = 1 + (q + 1) * t := by omega
  rw [e4, Nat.add_mul_mod_self_left]
  exact Nat.mod_eq_of_lt (by omega)
/-- Euler: the half power is 1 or less 1 -/
theorem euler {p a : Nat} (h : Pr p) (h2 : p ≠ 2) (n : ¬ p ∣ a) : a ^ ((p - 1) / 2) % p = 1 ∨ a ^ ((p - 1) / 2) % p = p - 1 := by
  have hp := h.1
  have odd : p % 2 = 1 := by
    rcases Nat.mod_two_eq_zero_or_one p with z | z
    · have := h.2 2 (Nat.dvd_of_mod_eq_zero z)
      omega
    · exact z
  have f := fermat h n
  have e1 : (p - 1) = (p - 1) / 2 + (p - 1) / 2 := by omega
  rw [e1, Nat.pow_add] at f
  generalize a ^ ((p - 1) / 2) = y at f
  have hr : y % p < p := Nat.mod_lt _ (by omega)
  have f2 : (y % p) * (y % p) % p = 1 := by rw [← Nat.mul_mod]; exact f
  generalize y % p = r at *
  have r0 : 0 < r := Nat.pos_of_ne_zero fun z => by subst z; simp at f2
  have d : p ∣ (r - 1) * (r + 1) := by
    have e : (r - 1) * (r + 1) = r * r - 1 := by
      obtain ⟨s, rfl⟩ : ∃ s, r = s + 1 := ⟨r - 1, by omega⟩
      rw [Nat.add_sub_cancel]
      have : (s + 1) * (s + 1) = s * (s + 1 + 1) + 1 := by
        simp only [Nat.mul_add, Nat.add_mul]; omega
      omega
    rw [e]
    have e3 : r * r % p = 1 % p := by rw [f2, Nat.mod_eq_of_lt (by omega)]
    exact Nat.dvd_of_mod_eq_zero (Nat.sub_mod_eq_zero_of_mod_eq e3)
  rcases h.dvd_mul d with z | z
  · by_cases e : r - 1 = 0
    · exact .inl (by omega)
    · have := Nat.le_of_dvd (by omega) z; omega
  · have := Nat.le_of_dvd (by omega) z
    exact .inr (by omega)

/-! the sign of squares of an integer -/
def resI (p : Nat) (x : Int) : Nat := (x % (p : Int)).toNat
def chi (p : Nat) (x : Int) : Bool := decide (resI p x ^ ((p - 1) / 2) % p = 1)
theorem resI_mul (p : Nat) (hp : 0 < p) (x y : Int) : resI p (x * y) = resI p x * resI p y % p := by
  unfold resI
  have h1 := Int.emod_nonneg x (show (p : Int) ≠ 0 by omega)
  have h2 := Int.emod_nonneg y (show (p : Int) ≠ 0 by omega)
  have h3 := Int.emod_nonneg (x * y) (show (p : Int) ≠ 0 by omega)
  apply Int.ofNat.inj
  show ((((x * y) % (p : Int)).toNat : Nat) : Int) = ((((x % (p : Int)).toNat * (y % (p : Int)).toNat % p : Nat)) : Int)
  rw [Int.natCast_emod, Int.natCast_mul, Int.toNat_of_nonneg h1, Int.toNat_of_nonneg h2, Int.toNat_of_nonneg h3, ← Int.mul_emod]
theorem resI_lt (p : Nat) (hp : 0 < p) (x : Int) : resI p x < p := by
  unfold resI
  have h1 := Int.emod_nonneg x (show (p : Int) ≠ 0 by omega)
  have h2 := Int.emod_lt_of_pos x (show (0 : Int) < p by omega)
  omega
theorem resI_dvd (p : Nat) (hp : 0 < p) (x : Int) : p ∣ resI p x ↔ (p : Int) ∣ x := by
  have hlt := resI_lt p hp x
  have h1 := Int.emod_nonneg x (show (p : Int) ≠ 0 by omega)
  constructor
  · intro d
    have : resI p x = 0 := by
      apply Classical.byContradiction
      intro z
      have := Nat.le_of_dvd (Nat.pos_of_ne_zero z) d
      omega
    unfold resI at this
    exact Int.dvd_of_emod_eq_zero (by omega)
  · intro d
    have := Int.emod_eq_zero_of_dvd d
    unfold resI
    rw [this]
    exact Nat.dvd_zero _
theorem chi_mul {p : Nat} (h : Pr p) (h2 : p ≠ 2) {x y : Int} (hx : ¬ (p : Int) ∣ x) (hy : ¬ (p : Int) ∣ y) : chi p (x * y) = (chi p x == chi p y) := by
  have hp := h.1
  have ex := euler h h2 (a := resI p x) (by rw [resI_dvd p h.pos]; exact hx)
  have ey := euler h h2 (a := resI p y) (by rw [resI_dvd p h.pos]; exact hy)
  have e : resI p (x * y) ^ ((p - 1) / 2) % p = (resI p x ^ ((p - 1) / 2) % p) * (resI p y ^ ((p - 1) / 2) % p) % p := by
    rw [resI_mul p h.pos, ← Nat.pow_mod, Nat.mul_pow, Nat.mul_mod]
  have hp3 : 3 ≤ p := by omega
  have q1 : (p - 1) * (p - 1) % p = 1 := by
    obtain ⟨s, rfl⟩ : ∃ s, p = s + 2 := ⟨p - 2, by omega⟩
    show (s + 1) * (s + 1) % (s + 2) = 1
    rw [show (s + 1) * (s + 1) = 1 + (s + 2) * s by simp only [Nat.mul_add, Nat.add_mul]; omega, Nat.add_mul_mod_self_left]
    exact Nat.mod_eq_of_lt (by omega)
  unfold chi
  rw [e]
  rcases ex with a | a <;> rcases ey with b | b <;> rw [a, b]
  · rw [Nat.one_mul, Nat.mod_eq_of_lt (by omega)]; simp
  · rw [Nat.one_mul, Nat.mod_eq_of_lt (by omega)]
    have : p - 1 ≠ 1 := by omega
    simp [this]
  · rw [Nat.mul_one, Nat.mod_eq_of_lt (by omega)]
    have : p - 1 ≠ 1 := by omega
    simp [this]
  · rw [q1]
    have : p - 1 ≠ 1 := by omega
    simp [this]
theorem chi_sq {p : Nat} (h : Pr p) (h2 : p ≠ 2) {x : Int} (hx : ¬ (p : Int) ∣ x) : chi p (x * x) = true := by
  rw [chi_mul h h2 hx hx]; simp
theorem Pr.dvd_mulI {p : Nat} (h : Pr p) {x y : Int} (d : (p : Int) ∣ x * y) : (p : Int) ∣ x ∨ (p : Int) ∣ y := by
  rw [← Int.natAbs_dvd_natAbs, Int.natAbs_natCast] at d ⊢
  rw [← Int.natAbs_dvd_natAbs (b := y), Int.natAbs_natCast]
  rw [Int.natAbs_mul] at d
  exact h.dvd_mul d
theorem chi_mul_sq {p : Nat} (h : Pr p) (h2 : p ≠ 2) {x k : Int} (hx : ¬ (p : Int) ∣ x) (hk : ¬ (p : Int) ∣ k) : chi p (x * (k * k)) = chi p x := by
  have hkk : ¬ (p : Int) ∣ k * k := fun d => (h.dvd_mulI d).elim hk hk
  rw [chi_mul h h2 hx hkk, chi_sq h h2 hk]; simp
theorem chi_one {p : Nat} (h : Pr p) : chi p 1 = true := by
  have := h.1
  unfold chi resI
  rw [Int.emod_eq_of_lt (by omega) (by omega)]
  have : (1 : Int).toNat = 1 := rfl
  rw [this, Nat.one_pow, Nat.mod_eq_of_lt (by omega)]
  simp
theorem chi_congr {p : Nat} {x y : Int} (h : x % (p : Int) = y % (p : Int)) : chi p x = chi p y := by
  unfold chi resI; rw [h]

/-! squarefree parts -/
def Sqf (s : Nat) : Prop := s ≠ 0 ∧ ∀ p, Pr p → ¬ p * p ∣ s
theorem sq_dvd {p a b : Nat} (h : Pr p) (n : ¬ p ∣ a) (d : p * p ∣ a * b) : p * p ∣ b :=
  (Nat.Coprime.mul_left (h.cop n) (h.cop n)).dvd_of_dvd_mul_left d
/-- the squarefree part is one -/
theorem sqf_uniq : ∀ (n : Nat) {s t k m : Nat}, k * m ≤ n → Sqf s → Sqf t → k ≠ 0 → m ≠ 0 → s * (k * k) = t * (m * m) → s = t := by
  intro n
  induction n with
  | zero => intro s t k m hn _ _ hk hm _; exact absurd (Nat.le_zero.mp hn) (Nat.mul_ne_zero hk hm)
  | succ n ih =>
    intro s t k m hn hs ht hk hm e
    by_cases k1 : k = 1
    · by_cases m1 : m = 1
      · subst k1; subst m1; simpa using e
      · obtain ⟨p, pp, pd⟩ := exists_pr m (by omega)
        subst k1
        have d := Nat.dvd_mul_left_of_dvd (Nat.mul_dvd_mul pd pd) t
        rw [← e] at d
        simp only [Nat.mul_one] at d
        exact absurd d (hs.2 p pp)
    · obtain ⟨p, pp, pd⟩ := exists_pr k (by omega)
      have pm : p ∣ m := by
        apply Classical.byContradiction
        intro nm
        have d : p * p ∣ (m * m) * t := by
          rw [Nat.mul_comm (m * m) t, ← e]; exact Nat.dvd_mul_left_of_dvd (Nat.mul_dvd_mul pd pd) s
        have nmm : ¬ p ∣ m * m := fun z => (pp.dvd_mul z).elim nm nm
        exact ht.2 p pp (sq_dvd pp nmm d)
      obtain ⟨k', rfl⟩ := pd
      obtain ⟨m', rfl⟩ := pm
      have hp := pp.1
      have hk' : k' ≠ 0 := fun z => by subst z; exact hk (by simp)
      have hm' : m' ≠ 0 := fun z => by subst z; exact hm (by simp)
      have e2 : s * (k' * k') = t * (m' * m') := by
        have : (p * p) * (s * (k' * k')) = (p * p) * (t * (m' * m')) := by
          have a1 : (p * p) * (s * (k' * k')) = s * ((p * k') * (p * k')) := by
            simp only [Nat.mul_assoc, Nat.mul_left_comm, Nat.mul_comm]
          have a2 : (p * p) * (t * (m' * m')) = t * ((p * m') * (p * m')) := by
            simp only [Nat.mul_assoc, Nat.mul_left_comm, Nat.mul_comm]
          rw [a1, a2, e]
        exact Nat.eq_of_mul_eq_mul_left (Nat.mul_pos (by omega) (by omega)) this
      refine ih ?_ hs ht hk' hm' e2
      have hpos : 0 < k' * m' := Nat.mul_pos (Nat.pos_of_ne_zero hk') (Nat.pos_of_ne_zero hm')
      have : p * k' * (p * m') = (p * p) * (k' * m') := by
        simp only [Nat.mul_assoc, Nat.mul_left_comm, Nat.mul_comm]
      rw [this] at hn
      have h4 : 4 ≤ p * p := Nat.mul_le_mul hp hp
      have : 4 * (k' * m') ≤ p * p * (k' * m') := Nat.mul_le_mul_right _ h4
      omega
end NT

set_option linter.all false
namespace NT
def SqfI (A : Int) : Prop := Sqf A.natAbs
theorem SqfI.ne {A : Int} (h : SqfI A) : A ≠ 0 := fun z => h.1 (by rw [z]; rfl)
/-- p goes into a squarefree number once -/
theorem SqfI.once {A x : Int} {p : Nat} (hp : Pr p) (h : SqfI A) (e : A = p * x) : ¬ (p : Int) ∣ x := by
  rintro ⟨y, rfl⟩
  apply h.2 p hp
  rw [e, Int.natAbs_mul, Int.natAbs_mul, Int.natAbs_natCast, ← Nat.mul_assoc]
  exact Nat.dvd_mul_right _ _
def hs (p : Nat) (A B : Int) : Bool :=
  if (p : Int) ∣ A then (if (p : Int) ∣ B then chi p (0 - A / p * (B / p)) else chi p B) else if (p : Int) ∣ B then chi p A else true
theorem Pr.ne0 {p : Nat} (h : Pr p) : (p : Int) ≠ 0 := by have := h.1; omega
theorem mulL {p : Int} (h : p ≠ 0) {a b : Int} (e : p * a = p * b) : a = b := Int.eq_of_mul_eq_mul_left h e
theorem hs_comm (p : Nat) (A B : Int) : hs p A B = hs p B A := by
  unfold hs
  by_cases ha : (p : Int) ∣ A <;> by_cases hb : (p : Int) ∣ B <;> simp [ha, hb, Int.mul_comm]
theorem pm_iff {p : Nat} (hp : Pr p) {B Cc M g : Int} (hB : SqfI B) (hC : SqfI Cc) (hM : SqfI M) (e : M * (g * g) = B * Cc) : (p : Int) ∣ M ↔ ¬ ((p : Int) ∣ B ↔ (p : Int) ∣ Cc) := by
  by_cases b : (p : Int) ∣ B <;> by_cases c : (p : Int) ∣ Cc
  · simp only [b, c, not_true_eq_false, iff_false]
    rintro ⟨M', rfl⟩
    obtain ⟨B', rfl⟩ := b
    obtain ⟨C', rfl⟩ := c
    have nB := hB.once hp rfl
    have nC := hC.once hp rfl
    have nM := hM.once hp rfl
    have e2 : M' * (g * g) = p * (B' * C') := mulL hp.ne0 (by
      have : (p : Int) * (M' * (g * g)) = p * M' * (g * g) := by rw [Int.mul_assoc]
      rw [this, e]
      simp only [Int.mul_assoc, Int.mul_left_comm])
    have dg : (p : Int) ∣ g := by
      have : (p : Int) ∣ M' * (g * g) := ⟨_, e2⟩
      rcases hp.dvd_mulI this with z | z
      · exact absurd z nM
      · exact (hp.dvd_mulI z).elim id id
    obtain ⟨g', rfl⟩ := dg
    have e3 : B' * C' = p * (M' * (g' * g')) := mulL hp.ne0 (by
      rw [← e2]
      simp only [Int.mul_assoc, Int.mul_left_comm])
    exact (hp.dvd_mulI ⟨_, e3⟩).elim nB nC
  · simp only [b, c, true_iff, iff_false, not_true_eq_false, not_false_eq_true, iff_true]
    obtain ⟨B', rfl⟩ := b
    have nB := hB.once hp rfl
    apply Classical.byContradiction
    intro nM
    have : (p : Int) ∣ M * (g * g) := ⟨B' * Cc, by rw [e, Int.mul_assoc]⟩
    have dg : (p : Int) ∣ g := by
      rcases hp.dvd_mulI this with z | z
      · exact absurd z nM
      · exact (hp.dvd_mulI z).elim id id
    obtain ⟨g', rfl⟩ := dg
    have e3 : B' * Cc = p * (M * (g' * g')) := mulL hp.ne0 (by
      rw [← Int.mul_assoc, ← e]
      simp only [Int.mul_assoc, Int.mul_left_comm])
    exact (hp.dvd_mulI ⟨_, e3⟩).elim nB c
  · simp only [b, c, false_iff, not_true_eq_false, not_false_eq_true, iff_true, iff_true]
    obtain ⟨C', rfl⟩ := c
    have nC := hC.once hp rfl
    apply Classical.byContradiction
    intro nM
    have : (p : Int) ∣ M * (g * g) := ⟨B * C', by rw [e, Int.mul_left_comm]⟩
    have dg : (p : Int) ∣ g := by
      rcases hp.dvd_mulI this with z | z
      · exact absurd z nM
      · exact (hp.dvd_mulI z).elim id id
    obtain ⟨g', rfl⟩ := dg
    have e3 : B * C' = p * (M * (g' * g')) := mulL hp.ne0 (by
      rw [Int.mul_left_comm, ← e]
      simp only [Int.mul_assoc, Int.mul_left_comm])
    exact (hp.dvd_mulI ⟨_, e3⟩).elim b nC
  · simp only [b, c, iff_self, not_true_eq_false, iff_false]
    rintro ⟨M', rfl⟩
    have : (p : Int) ∣ B * Cc := ⟨M' * (g * g), by rw [← e, Int.mul_assoc]⟩
    exact (hp.dvd_mulI this).elim b c
theorem ediv_of {p x : Int} (h : p ≠ 0) : p * x / p = x := Int.mul_ediv_cancel_left x h
theorem hs_mul {p : Nat} (hp : Pr p) (h2 : p ≠ 2) {A B Cc M g : Int} (hA : SqfI A) (hB : SqfI B) (hC : SqfI Cc) (hM : SqfI M) (e : M * (g * g) = B * Cc) : hs p A M = (hs p A B == hs p A Cc) := by
  have pm := pm_iff hp hB hC hM e
  by_cases a : (p : Int) ∣ A
  · obtain ⟨A', rfl⟩ := a
    have nA := hA.once hp rfl
    have dA : (p : Int) ∣ p * A' := Int.dvd_mul_right _ _
    by_cases b : (p : Int) ∣ B <;> by_cases c : (p : Int) ∣ Cc
    · have nM : ¬ (p : Int) ∣ M := by simp [pm, b, c]
      obtain ⟨B', rfl⟩ := b
      obtain ⟨C', rfl⟩ := c
      have nB := hB.once hp rfl
      have nC := hC.once hp rfl
      have dg : (p : Int) ∣ g := by
        have : (p : Int) ∣ M * (g * g) := ⟨B' * (p * C'), by rw [e, Int.mul_assoc]⟩
        rcases hp.dvd_mulI this with z | z
        · exact absurd z nM
        · exact (hp.dvd_mulI z).elim id id
      obtain ⟨g', rfl⟩ := dg
      have e2 : M * (g' * g') = B' * C' := mulL hp.ne0 (mulL hp.ne0 (by
        have : (p : Int) * (p * (M * (g' * g'))) = M * (p * g' * (p * g')) := by simp only [Int.mul_assoc, Int.mul_left_comm]
        rw [this, e]
        simp only [Int.mul_assoc, Int.mul_left_comm]))
      have ng : ¬ (p : Int) ∣ g' := fun z => by
        have : (p : Int) ∣ B' * C' := by rw [← e2]; exact Int.dvd_mul_of_dvd_right (Int.dvd_mul_of_dvd_left z)
        exact (hp.dvd_mulI this).elim nB nC
      have nAB : ¬ (p : Int) ∣ 0 - A' * B' := fun z => by
        rw [Int.zero_sub, Int.dvd_neg] at z
        exact (hp.dvd_mulI z).elim nA nB
      have nAC : ¬ (p : Int) ∣ 0 - A' * C' := fun z => by
        rw [Int.zero_sub, Int.dvd_neg] at z
        exact (hp.dvd_mulI z).elim nA nC
      have nBC : ¬ (p : Int) ∣ B' * C' := fun z => (hp.dvd_mulI z).elim nB nC
      unfold hs
      rw [if_pos dA, if_neg nM, if_pos (Int.dvd_mul_right _ _), if_pos (Int.dvd_mul_right _ _), if_pos dA, if_pos (Int.dvd_mul_right _ _), ediv_of hp.ne0, ediv_of hp.ne0, ediv_of hp.ne0]
      rw [← chi_mul hp h2 nAB nAC, ← chi_mul_sq hp h2 nM ng, e2]
      have : (0 - A' * B') * (0 - A' * C') = B' * C' * (A' * A') := by
        rw [Int.zero_sub, Int.zero_sub, Int.neg_mul_neg]
        simp only [Int.mul_assoc, Int.mul_left_comm, Int.mul_comm]
      rw [this, chi_mul_sq hp h2 nBC nA]
    · have dM : (p : Int) ∣ M := by simp [pm, b, c]
      obtain ⟨B', rfl⟩ := b
      obtain ⟨M', rfl⟩ := dM
      have nB := hB.once hp rfl
      have nM := hM.once hp rfl
      have e2 : M' * (g * g) = B' * Cc := mulL hp.ne0 (by rw [← Int.mul_assoc (p : Int) M' (g * g), e, Int.mul_assoc])
      have ng : ¬ (p : Int) ∣ g := fun z => by
        have : (p : Int) ∣ B' * Cc := by rw [← e2]; exact Int.dvd_mul_of_dvd_right (Int.dvd_mul_of_dvd_left z)
        exact (hp.dvd_mulI this).elim nB c
      have nAM : ¬ (p : Int) ∣ 0 - A' * M' := fun z => by
        rw [Int.zero_sub, Int.dvd_neg] at z
        exact (hp.dvd_mulI z).elim nA nM
      have nAB : ¬ (p : Int) ∣ 0 - A' * B' := fun z => by
        rw [Int.zero_sub, Int.dvd_neg] at z
        exact (hp.dvd_mulI z).elim nA nB
      unfold hs
      rw [if_pos dA, if_pos (Int.dvd_mul_right _ _), if_pos dA, if_pos (Int.dvd_mul_right _ _), if_pos dA, if_neg c, ediv_of hp.ne0, ediv_of hp.ne0, ediv_of hp.ne0]
      rw [← chi_mul hp h2 nAB c, ← chi_mul_sq hp h2 nAM ng]
      congr 1
      rw [Int.zero_sub, Int.zero_sub, Int.neg_mul, Int.neg_mul, Int.mul_assoc, e2, Int.mul_assoc]
    · have dM : (p : Int) ∣ M := by simp [pm, b, c]
      obtain ⟨C', rfl⟩ := c
      obtain ⟨M', rfl⟩ := dM
      have nC := hC.once hp rfl
      have nM := hM.once hp rfl
      have e2 : M' * (g * g) = B * C' := mulL hp.ne0 (by rw [← Int.mul_assoc, e, Int.mul_left_comm])
      have ng : ¬ (p : Int) ∣ g := fun z => by
        have : (p : Int) ∣ B * C' := by rw [← e2]; exact Int.dvd_mul_of_dvd_right (Int.dvd_mul_of_dvd_left z)
        exact (hp.dvd_mulI this).elim b nC
      have nAM : ¬ (p : Int) ∣ 0 - A' * M' := fun z => by
        rw [Int.zero_sub, Int.dvd_neg] at z
        exact (hp.dvd_mulI z).elim nA nM
      have nAC : ¬ (p : Int) ∣ 0 - A' * C' := fun z => by
        rw [Int.zero_sub, Int.dvd_neg] at z
        exact (hp.dvd_mulI z).elim nA nC
      unfold hs
      rw [if_pos dA, if_pos (Int.dvd_mul_right _ _), if_pos dA, if_neg b, if_pos dA, if_pos (Int.dvd_mul_right _ _), ediv_of hp.ne0, ediv_of hp.ne0, ediv_of hp.ne0]
      rw [← chi_mul hp h2 b nAC, ← chi_mul_sq hp h2 nAM ng]
      congr 1
      rw [Int.zero_sub, Int.zero_sub, Int.neg_mul, Int.mul_neg, Int.mul_assoc, e2, Int.mul_left_comm]
    · have nM : ¬ (p : Int) ∣ M := by simp [pm, b, c]
      have ng : ¬ (p : Int) ∣ g := fun z => by
        have : (p : Int) ∣ B * Cc := by rw [← e]; exact Int.dvd_mul_of_dvd_right (Int.dvd_mul_of_dvd_left z)
        exact (hp.dvd_mulI this).elim b c
      unfold hs
      rw [if_pos dA, if_neg nM, if_pos dA, if_neg b, if_pos dA, if_neg c, ← chi_mul hp h2 b c, ← chi_mul_sq hp h2 nM ng, e]
  · unfold hs
    rw [if_neg a, if_neg a, if_neg a]
    by_cases b : (p : Int) ∣ B <;> by_cases c : (p : Int) ∣ Cc <;> simp only [b, c, pm, if_true, if_false, iff_self, not_true_eq_false, iff_true, iff_false, not_false_eq_true, true_iff, false_iff] <;> simp
/-- both flags -/
def LS (A B : Int) : Prop := ¬ (A < 0 ∧ B < 0) ∧ ∀ p, Pr p → p ≠ 2 → hs p A B = true
theorem LS.comm {A B : Int} (h : LS A B) : LS B A := ⟨fun z => h.1 ⟨z.2, z.1⟩, fun p hp h2 => by rw [hs_comm]; exact h.2 p hp h2⟩
theorem LS.comm_iff {A B : Int} : LS A B ↔ LS B A := ⟨LS.comm, LS.comm⟩
/-- the product of two seconds, one of which is told yes -/
theorem LS.mul {A B Cc M g : Int} (hA : SqfI A) (hB : SqfI B) (hC : SqfI Cc) (hM : SqfI M) (g0 : g ≠ 0) (e : M * (g * g) = B * Cc) (h : LS A B) : LS A M ↔ LS A Cc := by
  have gg : 0 < g * g := by
    rcases Int.lt_or_lt_of_ne g0 with z | z
    · exact Int.mul_pos_of_neg_of_neg z z
    · exact Int.mul_pos z z
  have sgn : (A < 0 ∧ M < 0) ↔ (A < 0 ∧ Cc < 0) := by
    refine and_congr_right fun ha => ?_
    have hb : 0 < B := by
      have := hB.ne
      have : ¬ B < 0 := fun z => h.1 ⟨ha, z⟩
      omega
    have c0 := hC.ne
    have m0 := hM.ne
    constructor
    · intro m
      have : M * (g * g) < 0 := Int.mul_neg_of_neg_of_pos m gg
      apply Classical.byContradiction
      intro z
      have := Int.mul_nonneg (Int.le_of_lt hb) (by omega : 0 ≤ Cc)
      omega
    · intro c
      have : B * Cc < 0 := Int.mul_neg_of_pos_of_neg hb c
      apply Classical.byContradiction
      intro z
      have := Int.mul_nonneg (by omega : 0 ≤ M) (Int.le_of_lt gg)
      omega
  unfold LS
  rw [sgn]
  refine and_congr_right fun _ => forall_congr' fun p => forall_congr' fun hp => forall_congr' fun h2 => ?_
  rw [hs_mul hp h2 hA hB hC hM e, h.2 p hp h2]
  simp
theorem LS.neg_self {A : Int} (hA : SqfI A) : LS A (-A) := by
  refine ⟨fun z => by omega, fun p hp h2 => ?_⟩
  unfold hs
  by_cases a : (p : Int) ∣ A
  · obtain ⟨A', rfl⟩ := a
    have nA := hA.once hp rfl
    rw [if_pos (Int.dvd_mul_right _ _), if_pos (Int.dvd_neg.mpr (Int.dvd_mul_right _ _)), ← Int.mul_neg, ediv_of hp.ne0, ediv_of hp.ne0]
    have : 0 - A' * -A' = A' * A' := by rw [Int.mul_neg]; omega
    rw [this]
    exact chi_sq hp h2 nA
  · rw [if_neg a, if_neg fun z => a (Int.dvd_neg.mp z)]
/-- a and 1 - a -/
theorem LS.one_less {a A B k m : Int} (hA : SqfI A) (hB : SqfI B) (ea : a = A * (k * k)) (eb : 1 - a = B * (m * m)) (k0 : k ≠ 0) (m0 : m ≠ 0) : LS A B := by
  have pos : ∀ {x : Int}, x ≠ 0 → 0 < x * x := fun {x} x0 => by
    rcases Int.lt_or_lt_of_ne x0 with z | z
    · exact Int.mul_pos_of_neg_of_neg z z
    · exact Int.mul_pos z z
  refine ⟨fun z => ?_, fun p hp h2 => ?_⟩
  · have h1 : A * (k * k) < 0 := Int.mul_neg_of_neg_of_pos z.1 (pos k0)
    have h2 : B * (m * m) < 0 := Int.mul_neg_of_neg_of_pos z.2 (pos m0)
    omega
  · have nbx : ∀ x : Int, (p : Int) ∣ x → ¬ (p : Int) ∣ 1 - x := fun x d z => by
      have := Int.dvd_add d z
      rw [show x + (1 - x) = 1 by omega] at this
      have h3 := Int.natAbs_dvd_natAbs.mpr this
      rw [Int.natAbs_natCast] at h3
      exact hp.not_one h3
    have nb := nbx a
    have one : ∀ {x y t : Int}, x = y * (t * t) → (p : Int) ∣ 1 - x → chi p y = true := fun {x y t} ex d => by
      have nx : ¬ (p : Int) ∣ x := fun z => nbx x z d
      have ny : ¬ (p : Int) ∣ y := fun z => nx (by rw [ex]; exact Int.dvd_mul_of_dvd_left z)
      have nt : ¬ (p : Int) ∣ t := fun z => nx (by rw [ex]; exact Int.dvd_mul_of_dvd_right (Int.dvd_mul_of_dvd_left z))
      rw [← chi_mul_sq hp h2 ny nt, ← ex, ← chi_one hp]
      refine chi_congr ?_
      exact (Int.emod_eq_emod_iff_emod_sub_eq_zero.mpr (Int.emod_eq_zero_of_dvd d)).symm
    unfold hs
    by_cases da : (p : Int) ∣ A
    · have d : (p : Int) ∣ a := by rw [ea]; exact Int.dvd_mul_of_dvd_left da
      have ndb : ¬ (p : Int) ∣ B := fun z => nb d (by rw [eb]; exact Int.dvd_mul_of_dvd_left z)
      rw [if_pos da, if_neg ndb]
      exact one eb (by rw [show 1 - (1 - a) = a by omega]; exact d)
    · rw [if_neg da]
      by_cases db : (p : Int) ∣ B
      · rw [if_pos db]
        exact one ea (by rw [eb]; exact Int.dvd_mul_of_dvd_left db)
      · rw [if_neg db]
/-- the program's way: by what both have -/
def rest (p : Nat) (x : Int) : Prop := chi p x = true ∨ (p : Int) ∣ x
theorem LS_split {A B A1 B1 c t k : Int} (hA : SqfI A) (hB : SqfI B) (ea : A = c * A1) (eb : B = c * B1) (hcop : ∀ p : Nat, Pr p → (p : Int) ∣ A → (p : Int) ∣ B → (p : Int) ∣ c) (et : t * (k * k) = -A1 * B1) (hk : k ≠ 0) :
    (∀ p : Nat, Pr p → p ≠ 2 → hs p A B = true) ↔ (∀ p : Nat, Pr p → p ≠ 2 → (p : Int) ∣ B1 → rest p A) ∧ (∀ p : Nat, Pr p → p ≠ 2 → (p : Int) ∣ A1 → rest p B) ∧ (∀ p : Nat, Pr p → p ≠ 2 → (p : Int) ∣ c → rest p t) := by
  have nA1 : ∀ {p : Nat}, Pr p → (p : Int) ∣ c → ¬ (p : Int) ∣ A1 := fun {p} hp d z => by
    obtain ⟨c', rfl⟩ := d
    exact hA.once hp (x := c' * A1) (by rw [ea, Int.mul_assoc]) (Int.dvd_mul_of_dvd_right z)
  have nB1 : ∀ {p : Nat}, Pr p → (p : Int) ∣ c → ¬ (p : Int) ∣ B1 := fun {p} hp d z => by
    obtain ⟨c', rfl⟩ := d
    exact hB.once hp (x := c' * B1) (by rw [eb, Int.mul_assoc]) (Int.dvd_mul_of_dvd_right z)
  have key : ∀ {p : Nat}, Pr p → p ≠ 2 → (p : Int) ∣ c → (hs p A B = true ↔ rest p t) := fun {p} hp h2 d => by
    have a1 := nA1 hp d
    have b1 := nB1 hp d
    obtain ⟨c', rfl⟩ := d
    have nc : ¬ (p : Int) ∣ c' := fun z => hA.once hp (x := c' * A1) (by rw [ea, Int.mul_assoc]) (Int.dvd_mul_of_dvd_left z)
    have n1 : ¬ (p : Int) ∣ -A1 * B1 := fun z => by
      rcases hp.dvd_mulI z with q | q
      · exact a1 (Int.dvd_neg.mp q)
      · exact b1 q
    have nt : ¬ (p : Int) ∣ t := fun z => n1 (by rw [← et]; exact Int.dvd_mul_of_dvd_left z)
    have nk : ¬ (p : Int) ∣ k := fun z => n1 (by rw [← et]; exact Int.dvd_mul_of_dvd_right (Int.dvd_mul_of_dvd_left z))
    have eA : A = p * (c' * A1) := by rw [ea, Int.mul_assoc]
    have eB : B = p * (c' * B1) := by rw [eb, Int.mul_assoc]
    unfold hs rest
    rw [eA, eB, if_pos (Int.dvd_mul_right _ _), if_pos (Int.dvd_mul_right _ _), ediv_of hp.ne0, ediv_of hp.ne0]
    have e1 : 0 - c' * A1 * (c' * B1) = -A1 * B1 * (c' * c') := by
      rw [Int.zero_sub, Int.neg_mul, Int.neg_mul]
      congr 1
      simp only [Int.mul_assoc, Int.mul_left_comm, Int.mul_comm]
    rw [e1, chi_mul_sq hp h2 n1 nc, ← et, chi_mul_sq hp h2 nt nk]
    simp [nt]
  constructor
  · intro h
    refine ⟨fun p hp h2 d => ?_, fun p hp h2 d => ?_, fun p hp h2 d => (key hp h2 d).mp (h p hp h2)⟩
    · have dB : (p : Int) ∣ B := by rw [eb]; exact Int.dvd_mul_of_dvd_right d
      have nA : ¬ (p : Int) ∣ A := fun z => nB1 hp (hcop p hp z dB) d
      have q := h p hp h2
      unfold hs at q
      rw [if_neg nA, if_pos dB] at q
      exact .inl q
    · have dA : (p : Int) ∣ A := by rw [ea]; exact Int.dvd_mul_of_dvd_right d
      have nB : ¬ (p : Int) ∣ B := fun z => nA1 hp (hcop p hp dA z) d
      have q := h p hp h2
      unfold hs at q
      rw [if_pos dA, if_neg nB] at q
      exact .inl q
  · rintro ⟨h1, h3, h4⟩ p hp h2
    by_cases dA : (p : Int) ∣ A <;> by_cases dB : (p : Int) ∣ B
    · exact (key hp h2 (hcop p hp dA dB)).mpr (h4 p hp h2 (hcop p hp dA dB))
    · have d : (p : Int) ∣ A1 := by
        rw [ea] at dA
        refine (hp.dvd_mulI dA).resolve_left fun z => dB ?_
        rw [eb]; exact Int.dvd_mul_of_dvd_left z
      unfold hs
      rw [if_pos dA, if_neg dB]
      exact (h3 p hp h2 d).resolve_right dB
    · have d : (p : Int) ∣ B1 := by
        rw [eb] at dB
        refine (hp.dvd_mulI dB).resolve_left fun z => dA ?_
        rw [ea]; exact Int.dvd_mul_of_dvd_left z
      unfold hs
      rw [if_neg dA, if_pos dB]
      exact (h1 p hp h2 d).resolve_right dA
    · unfold hs
      rw [if_neg dA, if_neg dB]
end NT

set_option linter.all false
namespace NT
theorem Pr.of_least {p N : Nat} (hp : 2 ≤ p) (d : p ∣ N) (h : ∀ q, Pr q → q ∣ N → p ≤ q) : Pr p := by
  obtain ⟨q, hq, dq⟩ := exists_pr p hp
  have := h q hq (Nat.dvd_trans dq d)
  have := Nat.le_of_dvd (by omega) dq
  have : q = p := by omega
  subst this; exact hq
theorem Sqf.mul_pr {f p : Nat} (hf : Sqf f) (hp : Pr p) (n : ¬ p ∣ f) : Sqf (f * p) := by
  refine ⟨Nat.mul_ne_zero hf.1 (by have := hp.1; omega), fun q hq d => ?_⟩
  by_cases e : q = p
  · subst e
    have h1 : q ∣ f := Nat.dvd_of_mul_dvd_mul_right hq.pos d
    exact n h1
  · have nq : ¬ q ∣ p := fun z => e (hq.eq hp z)
    exact hf.2 q hq (sq_dvd hq nq (by rw [Nat.mul_comm p f]; exact d))
theorem sqf_step {X N0 N f p k : Nat} (hp : 2 ≤ p) (hf : Sqf f) (hfp : ∀ q, Pr q → q ∣ f → q < p) (hNp : ∀ q, Pr q → q ∣ N0 → p ≤ q) (e : N0 = N * p ^ k) (hN : ¬ p ∣ N) (eX : ∃ t, t ≠ 0 ∧ X = f * N0 * (t * t)) :
    Sqf (if k % 2 = 1 then f * p else f) ∧ (∀ q, Pr q → q ∣ (if k % 2 = 1 then f * p else f) → q < p + 1) ∧ (∀ q, Pr q → q ∣ N → p + 1 ≤ q) ∧ ∃ t, t ≠ 0 ∧ X = (if k % 2 = 1 then f * p else f) * N * (t * t) := by
  obtain ⟨t, t0, et⟩ := eX
  have nN : ∀ q, Pr q → q ∣ N → p + 1 ≤ q := fun q hq d => by
    have := hNp q hq (by rw [e]; exact Nat.dvd_mul_right_of_dvd d _)
    by_cases z : q = p
    · subst z; exact absurd d hN
    · omega
  by_cases hk : k % 2 = 1
  · rw [if_pos hk]
    have pp : Pr p := Pr.of_least hp (by rw [e, show k = (k - 1) + 1 by omega, Nat.pow_succ]; exact Nat.dvd_mul_left_of_dvd (Nat.dvd_mul_left _ _) _) hNp
    have nf : ¬ p ∣ f := fun z => by have := hfp p pp z; omega
    refine ⟨hf.mul_pr pp nf, fun q hq d => ?_, nN, t * p ^ (k / 2), Nat.mul_ne_zero t0 (Nat.ne_of_gt (Nat.pow_pos (by omega))), ?_⟩
    · rcases hq.dvd_mul d with z | z
      · have := hfp q hq z; omega
      · have := hq.eq pp z; omega
    · have e2 : p ^ k = p * (p ^ (k / 2) * p ^ (k / 2)) := by
        rw [← Nat.pow_add, ← Nat.pow_succ']
        congr 1; omega
      rw [et, e, e2]
      simp only [Nat.mul_assoc, Nat.mul_left_comm, Nat.mul_comm]
  · rw [if_neg hk]
    refine ⟨hf, fun q hq d => by have := hfp q hq d; omega, nN, t * p ^ (k / 2), Nat.mul_ne_zero t0 (Nat.ne_of_gt (Nat.pow_pos (by omega))), ?_⟩
    have e2 : p ^ k = p ^ (k / 2) * p ^ (k / 2) := by
      rw [← Nat.pow_add]
      congr 1; omega
    rw [et, e, e2]
    simp only [Nat.mul_assoc, Nat.mul_left_comm, Nat.mul_comm]
/-- what is left is 1 or a prime -/
theorem left_pr {N p : Nat} (h0 : 0 < N) (hNp : ∀ q, Pr q → q ∣ N → p ≤ q) (h : N < p * p) : N = 1 ∨ Pr N := by
  by_cases h1 : N = 1
  · exact .inl h1
  · obtain ⟨q, hq, d⟩ := exists_pr N (by omega)
    have hqp := hNp q hq d
    obtain ⟨m, rfl⟩ := d
    by_cases hm : m = 1
    · subst hm; rw [Nat.mul_one]; exact .inr hq
    · have m0 : m ≠ 0 := fun z => by subst z; simp at h0
      obtain ⟨r, hr, dr⟩ := exists_pr m (by omega)
      have hrp := hNp r hr (Nat.dvd_mul_left_of_dvd dr q)
      have hrm := Nat.le_of_dvd (Nat.pos_of_ne_zero m0) dr
      have := Nat.mul_le_mul hqp (Nat.le_trans hrp hrm)
      omega
theorem sqf_end {f N p : Nat} (h0 : 0 < N) (hf : Sqf f) (hfp : ∀ q, Pr q → q ∣ f → q < p) (hNp : ∀ q, Pr q → q ∣ N → p ≤ q) (h : N < p * p) : Sqf (f * N) := by
  rcases left_pr h0 hNp h with e | e
  · subst e; rw [Nat.mul_one]; exact hf
  · refine hf.mul_pr e fun z => ?_
    have := hfp N e z
    have := hNp N e (Nat.dvd_refl N)
    omega
theorem sqf_one : Sqf 1 := ⟨by omega, fun p hp d => by
  have h1 := Nat.le_of_dvd (by omega) d
  have h2 := Nat.mul_le_mul hp.1 hp.1
  omega⟩
/-- the squarefree part of an integer -/
def IsBare (x s : Int) : Prop := SqfI s ∧ ∃ k : Int, k ≠ 0 ∧ x = s * (k * k)
theorem IsBare.uniq {x s t : Int} (h : IsBare x s) (h' : IsBare x t) : s = t := by
  obtain ⟨hs, k, k0, ek⟩ := h
  obtain ⟨ht, m, m0, em⟩ := h'
  have kk : 0 < k * k := by
    rcases Int.lt_or_lt_of_ne k0 with z | z
    · exact Int.mul_pos_of_neg_of_neg z z
    · exact Int.mul_pos z z
  have mm : 0 < m * m := by
    rcases Int.lt_or_lt_of_ne m0 with z | z
    · exact Int.mul_pos_of_neg_of_neg z z
    · exact Int.mul_pos z z
  have e : s.natAbs = t.natAbs := by
    refine sqf_uniq _ (Nat.le_refl _) hs ht (Int.natAbs_ne_zero.mpr k0) (Int.natAbs_ne_zero.mpr m0) ?_
    rw [← Int.natAbs_mul, ← Int.natAbs_mul, ← Int.natAbs_mul, ← Int.natAbs_mul, ← ek, ← em]
  have s0 := hs.ne
  have t0 := ht.ne
  rcases Int.lt_or_lt_of_ne s0 with zs | zs <;> rcases Int.lt_or_lt_of_ne t0 with zt | zt
  · omega
  · have h1 : s * (k * k) < 0 := Int.mul_neg_of_neg_of_pos zs kk
    have h2 : 0 < t * (m * m) := Int.mul_pos zt mm
    omega
  · have h1 : 0 < s * (k * k) := Int.mul_pos zs kk
    have h2 : t * (m * m) < 0 := Int.mul_neg_of_neg_of_pos zt mm
    omega
  · omega
theorem IsBare.le {x s : Int} (h : IsBare x s) : s.natAbs ≤ x.natAbs := by
  obtain ⟨hs, k, k0, ek⟩ := h
  rw [ek, Int.natAbs_mul, Int.natAbs_mul]
  have : 0 < k.natAbs * k.natAbs := Nat.mul_pos (Int.natAbs_pos.mpr k0) (Int.natAbs_pos.mpr k0)
  exact Nat.le_mul_of_pos_right _ this
theorem IsBare.mk {x : Int} {f : Nat} (hf : Sqf f) (h : ∃ t, t ≠ 0 ∧ x.natAbs = f * (t * t)) (x0 : x ≠ 0) : IsBare x (if x > 0 then (f : Int) else -f) := by
  obtain ⟨t, t0, e⟩ := h
  have nab : (if x > 0 then (f : Int) else -f).natAbs = f := by split <;> omega
  refine ⟨by unfold SqfI; rw [nab]; exact hf, (t : Int), by omega, ?_⟩
  have e' : (x.natAbs : Int) = (f : Int) * ((t : Int) * t) := by rw [e]; simp
  split
  · rw [← e']; omega
  · rw [Int.neg_mul, ← e']; omega
end NT

set_option Elab.async false
set_option linter.all false
set_option maxRecDepth 100000
namespace K33
open PySem Sim
def ce1__law_hand (n : Nat) : EM := (mCallB cAbs (lCons (ev (mCallB cInt (lCons (slq 2) lNil))) lNil))
def m__law_hand (n : Nat) : FM := runFn 1 3 ((sSeq (sSet 1 (mLc (iLst (mCutHi (slq 0) (mC (.int 63)))) (gN 2) tsYes (ce1__law_hand n) [2]))
    (sRet (mLst (fCons (mVar 1) (fCons (mC (.int 0)) (fCons (mC (.int 0)) (fCons (mBin dPlus (ev (mC (.int 97301))) (ev (mBin dMul (ev (mC (.int 7))) (ev (mCallB cLen (lCons (slq 1) lNil)))))) (fCons (mC (.int 0)) fNil)))))))))
def m_is_integer (n : Nat) : FM := runFn 1 1 ((sRet (mAnd (mIsI "int" (slq 0)) (mNot (mIsI "bool" (slq 0))))))
def m_is_within (n : Nat) : FM := runFn 3 3 ((sRet (mAnd (mCallL (m_is_integer n) (lCons (slq 0) lNil)) (mChain dLe dLe (slq 1) (slq 0) (slq 2)))))
def m_check_numbers (n : Nat) : FM := runFn 4 4 ((sSeq (sIf (mOrT (mNotT (eT (mCallL (m_is_within n) (lCons (slq 0) (lCons (ev (mC (.int 1))) (lCons (ev (mC (.int 1000))) lNil)))))) (mOrT (mNotT (eT (mCallL (m_is_within n) (lCons (slq 1) (lCons (ev (mC (.int 1))) (lCons (slq 0) lNil)))))) (mNotT (eT (mCallL (m_is_within n) (lCons (slq 2) (lCons (ev (mC (.int 1))) (lCons (ev (mBin dPow (ev (mC (.int 10))) (ev (mC (.int 6))))) lNil)))))))) sNever sNil)
    (sIf (mNotT (eT (mCallL (m_is_within n) (lCons (slq 3) (lCons (ev (mC (.int 1))) (lCons (ev (mCallB cMin (lCons (slq 1) (lCons (ev (mC (.int 6))) lNil)))) lNil)))))) sNever sNil)))
def fb1_choose (n : Nat) : SM := (sPar 2 3 (mBin dMul (slq 2) (ev (mBin dSub (slq 0) (slq 4)))) (mBin dMul (slq 3) (ev (mBin dPlus (slq 4) (ev (mC (.int 1)))))))
def m_choose (n : Nat) : FM := runFn 2 5 ((sSeq (sIf (mOrT (eT (mBin dLt (slq 1) (ev (mC (.int 0))))) (eT (mBin dGt (slq 1) (slq 0)))) (sRet (mC (.int 0))) sNil)
    (sSeq (sAsg (gT (gsCons (gN 2) (gsCons (gN 3) gsNil)) 2) (mTup (fCons (mC (.int 1)) (fCons (mC (.int 1)) fNil))))
    (sSeq (sFor (iR1 (fCons (mVar 1) fNil)) (gN 4) (fb1_choose n))
    (sRet (mBin dDiv (slq 2) (slq 3)))))))
def fb1_shares_by (n : Nat) : SM := (sSeq (sPar 6 7 (mBin dMul (slq 2) (ev (mCallL (m_choose n) (lCons (ev (mBin dSub (slq 0) (slq 5))) (lCons (ev (mBin dSub (slq 3) (slq 5))) lNil))))) (mCallL (m_choose n) (lCons (ev (mBin dSub (slq 1) (slq 5))) (lCons (ev (mBin dSub (slq 3) (slq 5))) lNil))))
    (sSeq (sIf (eT (mBin dNe (ev (mBin dMod (slq 6) (slq 7))) (ev (mC (.int 0))))) (sRet (mC .non)) sNil)
    (sExpr (mApp 4 (mBin dDiv (slq 6) (slq 7))))))
def m_shares_by (n : Nat) : FM := runFn 4 8 ((sSeq (sSet 4 (mLst fNil))
    (sSeq (sFor (iR1 (fCons (mBin dPlus (slq 3) (ev (mC (.int 1)))) fNil)) (gN 5) (fb1_shares_by n))
    (sRet (mMove 4)))))
def m_is_square_family (n : Nat) : FM := runFn 3 3 ((sSeq (sExpr (mCallL (m_check_numbers n) (lCons (slq 0) (lCons (slq 1) (lCons (slq 2) (lCons (ev (mCallB cMin (lCons (ev (mC (.int 2))) (lCons (slq 1) lNil)))) lNil))))))
    (sRet (mBin dEq (ev (mBin dMul (slq 2) (ev (mBin dSub (slq 0) (ev (mC (.int 1))))))) (ev (mBin dMul (slq 1) (ev (mBin dSub (slq 1) (ev (mC (.int 1)))))))))))
def wt1_shared (n : Nat) : TM := (eT (mBin dGt (slq 1) (ev (mC (.int 0)))))
def wb1_shared (n : Nat) : SM := (sPar 0 1 (mVar 1) (mBin dMod (slq 0) (slq 1)))
def m_shared (n : Nat) : FM := runFn 2 2 ((sSeq (whileN (wt1_shared n) (wb1_shared n) n)
    (sRet (mMove 0))))
def wt2_square_free (n : Nat) : TM := (eT (mBin dEq (ev (mBin dMod (slq 0) (slq 3))) (ev (mC (.int 0)))))
def wb2_square_free (n : Nat) : SM := (sPar 0 4 (mBin dDiv (slq 0) (slq 3)) (mBin dPlus (slq 4) (ev (mC (.int 1)))))
def wt1_square_free (n : Nat) : TM := (eT (mBin dLe (ev (mBin dMul (slq 3) (slq 3))) (slq 0)))
def wb1_square_free (n : Nat) : SM := (sSeq (sSet 4 (mC (.int 0)))
    (sSeq (whileN (wt2_square_free n) (wb2_square_free n) n)
    (sSeq (sIf (eT (mBin dEq (ev (mBin dMod (slq 4) (ev (mC (.int 2))))) (ev (mC (.int 1))))) (sSet 2 (mBin dMul (slq 2) (slq 3))) sNil)
    (sAug 3 dAdd (ev (mC (.int 1)))))))
def m_square_free (n : Nat) : FM := runFn 1 5 ((sSeq (sAsg (gT (gsCons (gN 1) (gsCons (gN 0) (gsCons (gN 2) (gsCons (gN 3) gsNil)))) 4) (mTup (fCons (mIf (eT (mBin dGt (slq 0) (ev (mC (.int 0))))) (mC (.int 1)) (mUn dNeg (mC (.int 1)))) (fCons (mCallB cAbs (lCons (slq 0) lNil)) (fCons (mC (.int 1)) (fCons (mC (.int 2)) fNil))))))
    (sSeq (whileN (wt1_square_free n) (wb1_square_free n) n)
    (sRet (mBin dMul (ev (mBin dMul (slq 1) (slq 2))) (slq 0))))))
def wt1_is_rest_square (n : Nat) : TM := (eT (mBin dGt (slq 4) (ev (mC (.int 0)))))
def wb1_is_rest_square (n : Nat) : SM := (sSeq (sIf (eT (mBin dEq (ev (mBin dMod (slq 4) (ev (mC (.int 2))))) (ev (mC (.int 1))))) (sSet 2 (mBin dMod (ev (mBin dMul (slq 2) (slq 3))) (slq 1))) sNil)
    (sPar 3 4 (mBin dMod (ev (mBin dMul (slq 3) (slq 3))) (slq 1)) (mBin dDiv (slq 4) (ev (mC (.int 2))))))
def m_is_rest_square (n : Nat) : FM := runFn 2 5 ((sSeq (sPar3 2 3 4 (mC (.int 1)) (mBin dMod (slq 0) (slq 1)) (mBin dDiv (ev (mBin dSub (slq 1) (ev (mC (.int 1))))) (ev (mC (.int 2)))))
    (sSeq (whileN (wt1_is_rest_square n) (wb1_is_rest_square n) n)
    (sRet (mOr (mBin dEq (slq 2) (ev (mC (.int 1)))) (mBin dEq (ev (mBin dMod (slq 0) (slq 1))) (ev (mC (.int 0)))))))))
def wt2_primes_of (n : Nat) : TM := (eT (mBin dEq (ev (mBin dMod (slq 0) (slq 2))) (ev (mC (.int 0)))))
def wb2_primes_of (n : Nat) : SM := (sSet 0 (mBin dDiv (slq 0) (slq 2)))
def wt1_primes_of (n : Nat) : TM := (eT (mBin dLe (ev (mBin dMul (slq 2) (slq 2))) (slq 0)))
def wb1_primes_of (n : Nat) : SM := (sSeq (sIf (eT (mBin dEq (ev (mBin dMod (slq 0) (slq 2))) (ev (mC (.int 0))))) (sSeq (sExpr (mApp 1 (mVar 2)))
    (whileN (wt2_primes_of n) (wb2_primes_of n) n)) sNil)
    (sAug 2 dAdd (ev (mC (.int 1)))))
def m_primes_of (n : Nat) : FM := runFn 1 3 ((sSeq (sParO 1 2 (mLst fNil) (2))
    (sSeq (whileN (wt1_primes_of n) (wb1_primes_of n) n)
    (sRet (mIf (eT (mBin dGt (slq 0) (ev (mC (.int 1))))) (mBin dPlus (slq 1) (ev (mLst (fCons (mVar 0) fNil)))) (mVar 1))))))
def ct1_is_rest_of_all (n : Nat) : TM := (eT (mBin dGt (slq 2) (ev (mC (.int 2)))))
def ce1_is_rest_of_all (n : Nat) : EM := (mCallL (m_is_rest_square n) (lCons (slq 0) (lCons (slq 2) lNil)))
def m_is_rest_of_all (n : Nat) : FM := runFn 2 3 ((sRet (mCallB cAll (lCons (ev (mLc (iLst (mCall (m_primes_of n) (fCons (mCallB cAbs (lCons (slq 1) lNil)) fNil))) (gN 2) (ct1_is_rest_of_all n) (ce1_is_rest_of_all n) [2])) lNil))))
def m_sums_to_nought (n : Nat) : FM := runFn 2 6 ((sSeq (sPar 0 1 (mCallL (m_square_free n) (lCons (slq 0) lNil)) (mCallL (m_square_free n) (lCons (slq 1) lNil)))
    (sSeq (sIf (mAndT (eT (mBin dLt (slq 0) (ev (mC (.int 0))))) (eT (mBin dLt (slq 1) (ev (mC (.int 0)))))) (sRet (mC (.bl false))) sNil)
    (sSeq (sSet 2 (mCallL (m_shared n) (lCons (ev (mCallB cAbs (lCons (slq 0) lNil))) (lCons (ev (mCallB cAbs (lCons (slq 1) lNil))) lNil))))
    (sSeq (sPar 3 4 (mBin dDiv (slq 0) (slq 2)) (mBin dDiv (slq 1) (slq 2)))
    (sSeq (sSet 5 (mCallL (m_square_free n) (lCons (ev (mBin dMul (ev (mUn dNeg (mVar 3))) (slq 4))) lNil)))
    (sSeq (sIf (mOrT (mNotT (eT (mCallL (m_is_rest_of_all n) (lCons (slq 0) (lCons (ev (mBin dDiv (slq 1) (slq 2))) lNil))))) (mNotT (eT (mCallL (m_is_rest_of_all n) (lCons (slq 1) (lCons (ev (mBin dDiv (slq 0) (slq 2))) lNil)))))) (sRet (mC (.bl false))) sNil)
    (sRet (mCallL (m_is_rest_of_all n) (lCons (slq 5) (lCons (slq 2) lNil)))))))))))
def wt1_root_of (n : Nat) : TM := (eT (mBin dGt (ev (mBin dSub (slq 2) (slq 1))) (ev (mC (.int 1)))))
def wb1_root_of (n : Nat) : SM := (sSeq (sSet 3 (mBin dDiv (ev (mBin dPlus (slq 1) (slq 2))) (ev (mC (.int 2)))))
    (sIf (eT (mBin dLe (ev (mBin dMul (slq 3) (slq 3))) (slq 0))) (sSet 1 (mVar 3)) (sSet 2 (mVar 3))))
def m_root_of (n : Nat) : FM := runFn 1 4 ((sSeq (sPar 1 2 (mC (.int 0)) (mBin dPlus (slq 0) (ev (mC (.int 1)))))
    (sSeq (whileN (wt1_root_of n) (wb1_root_of n) n)
    (sRet (mMove 1)))))
def m_is_square (n : Nat) : FM := runFn 1 1 ((sRet (mAnd (mBin dGe (slq 0) (ev (mC (.int 0)))) (mBin dEq (ev (mBin dMul (ev (mCallL (m_root_of n) (lCons (slq 0) lNil))) (ev (mCallL (m_root_of n) (lCons (slq 0) lNil))))) (slq 0)))))
def m_square_bar (n : Nat) : FM := runFn 3 4 ((sSeq (sIf (mNotT (eT (mCallL (m_is_square_family n) (lCons (slq 0) (lCons (slq 1) (lCons (slq 2) lNil)))))) sNever sNil)
    (sSeq (sIf (eT (mBin dEq (slq 1) (slq 2))) (sRet (mC .non)) sNil)
    (sSeq (sIf (eT (mBin dEq (ev (mBin dMod (slq 0) (ev (mC (.int 2))))) (ev (mC (.int 0))))) (sRet (mIf (eT (mCallL (m_is_square n) (lCons (ev (mBin dSub (slq 1) (slq 2))) lNil))) (mC .non) (mC (.str "square")))) sNil)
    (sSeq (sSet 3 (mIf (eT (mBin dEq (ev (mBin dMod (ev (mBin dDiv (ev (mBin dSub (slq 0) (ev (mC (.int 1))))) (ev (mC (.int 2))))) (ev (mC (.int 2))))) (ev (mC (.int 0))))) (mC (.int 1)) (mUn dNeg (mC (.int 1)))))
    (sRet (mIf (eT (mCallL (m_sums_to_nought n) (lCons (ev (mBin dSub (slq 1) (slq 2))) (lCons (ev (mBin dMul (slq 3) (slq 2))) lNil)))) (mC .non) (mC (.str "sums")))))))))
def m_bars (n : Nat) : FM := runFn 4 7 ((sSeq (sExpr (mCallL (m_check_numbers n) (lCons (slq 0) (lCons (slq 1) (lCons (slq 2) (lCons (slq 3) lNil))))))
    (sSeq (sSet 4 (mCall (m_shares_by n) (fCons (mVar 0) (fCons (mVar 1) (fCons (mVar 2) (fCons (mVar 3) fNil))))))
    (sSeq (sIf (eT (mBin dIsN (slq 4) (ev (mC .non)))) (sRet (mLst (fCons (mC (.str "counts")) fNil))) sNil)
    (sSeq (sSet 5 (mLst fNil))
    (sSeq (sIf (mAndT (eT (mBin dGe (slq 3) (ev (mC (.int 2))))) (eT (mBin dLt (slq 1) (slq 0)))) (sSeq (sSet 6 (mBin dIx (slq 4) (ev (mC (.int 2)))))
    (sSeq (sIf (eT (mBin dLt (ev (mBin dIx (slq 4) (ev (mC (.int 0))))) (slq 0))) (sExpr (mApp 5 (mC (.str "fisher")))) sNil)
    (sIf (mAndT (eT (mBin dEq (ev (mBin dIx (slq 4) (ev (mC (.int 0))))) (slq 0))) (eT (mBin dNotN (ev (mCallL (m_square_bar n) (lCons (slq 0) (lCons (slq 1) (lCons (slq 6) lNil))))) (ev (mC .non))))) (sExpr (mApp 5 (mCallL (m_square_bar n) (lCons (slq 0) (lCons (slq 1) (lCons (slq 6) lNil)))))) sNil))) sNil)
    (sRet (mMove 5))))))))
def wt2_free_numbers (n : Nat) : TM := (mAndT (eT (mBin dLe (slq 4) (ev (mC (.int 200))))) (eT (mBin dGt (ev (mCallB cLen (lCons (ev (mCall (m_bars n) (fCons (mVar 0) (fCons (mVar 3) (fCons (mVar 4) (fCons (mVar 1) fNil)))))) lNil))) (ev (mC (.int 0))))))
def wb2_free_numbers (n : Nat) : SM := (sAug 4 dAdd (ev (mC (.int 1))))
def fb1_free_numbers (n : Nat) : SM := (sSeq (sSet 4 (mC (.int 1)))
    (sSeq (whileN (wt2_free_numbers n) (wb2_free_numbers n) n)
    (sIf (eT (mBin dLe (slq 4) (ev (mC (.int 200))))) (sExpr (mApp 2 (mTup (fCons (mVar 3) (fCons (mVar 4) fNil))))) sNil)))
def m_free_numbers (n : Nat) : FM := runFn 2 5 ((sSeq (sIf (mOrT (mNotT (eT (mCallL (m_is_within n) (lCons (slq 0) (lCons (ev (mC (.int 1))) (lCons (ev (mC (.int 60))) lNil)))))) (mNotT (eT (mCallL (m_is_within n) (lCons (slq 1) (lCons (ev (mC (.int 1))) (lCons (ev (mC (.int 6))) lNil))))))) sNever sNil)
    (sSeq (sSet 2 (mLst fNil))
    (sSeq (sFor (iR2 (fCons (mBin dPlus (slq 1) (ev (mC (.int 1)))) (fCons (mBin dPlus (ev (mBin dDiv (slq 0) (ev (mC (.int 2))))) (ev (mC (.int 1)))) fNil))) (gN 3) (fb1_free_numbers n))
    (sRet (mMove 2))))))
def m__law_draw (n : Nat) : FM := runFn 2 5 ((sSeq (sIf (mAndT (eT (mBin dEq (ev (mBin dIx (slq 0) (ev (mC (.int 2))))) (ev (mC (.int 0))))) (eT (mBin dLt (ev (mBin dIx (slq 0) (ev (mC (.int 1))))) (ev (mCallB cLen (lCons (ev (mBin dIx (slq 0) (ev (mC (.int 0))))) lNil)))))) (sSeq (sSet 2 (mBin dIx (ev (mBin dIx (slq 0) (ev (mC (.int 0))))) (ev (mBin dIx (slq 0) (ev (mC (.int 1)))))))
    (sSeq (sSetIx 0 (mC (.int 1)) (mBin dPlus (ev (mBin dIx (slq 0) (ev (mC (.int 1))))) (ev (mC (.int 1)))))
    (sSeq (sSetIx 0 (mC (.int 3)) (mBin dMod (ev (mCallB cInt (lCons (ev (mBin dPlus (ev (mBin dPlus (ev (mBin dMul (ev (mBin dIx (slq 0) (ev (mC (.int 3))))) (ev (mC (.int 69621))))) (ev (mBin dMul (slq 2) (ev (mC (.int 40692))))))) (ev (mC (.int 31))))) lNil))) (ev (mC (.int 2147483629)))))
    (sIf (eT (mBin dGe (slq 2) (ev (mBin dPow (ev (mC (.int 10))) (ev (mC (.int 18))))))) (sSetIx 0 (mC (.int 2)) (mVar 2)) sNil)))) sNil)
    (sSeq (sIf (eT (mBin dGt (ev (mBin dIx (slq 0) (ev (mC (.int 2))))) (ev (mC (.int 0))))) (sSeq (sSet 3 (mBin dMod (ev (mCallB cInt (lCons (ev (mBin dIx (slq 0) (ev (mC (.int 2))))) lNil))) (slq 1)))
    (sSeq (sSetIx 0 (mC (.int 2)) (mBin dDiv (ev (mBin dIx (slq 0) (ev (mC (.int 2))))) (slq 1)))
    (sRet (mMove 3)))) sNil)
    (sSeq (sSetIx 0 (mC (.int 4)) (mBin dPlus (ev (mBin dIx (slq 0) (ev (mC (.int 4))))) (ev (mC (.int 1)))))
    (sSeq (sSet 4 (mBin dMod (ev (mCallB cInt (lCons (ev (mBin dMul (ev (mCallB cInt (lCons (ev (mBin dPlus (ev (mBin dIx (slq 0) (ev (mC (.int 3))))) (ev (mBin dMul (ev (mC (.int 7919))) (ev (mBin dIx (slq 0) (ev (mC (.int 4))))))))) lNil))) (ev (mC (.int 48271))))) lNil))) (ev (mC (.int 2147483647)))))
    (sSeq (sSet 4 (mBin dMod (ev (mCallB cInt (lCons (ev (mBin dMul (slq 4) (ev (mBin dPlus (ev (mBin dDiv (slq 4) (ev (mC (.int 1009))))) (ev (mC (.int 69621))))))) lNil))) (ev (mC (.int 2147483647)))))
    (sSeq (sSet 4 (mBin dMod (ev (mCallB cInt (lCons (ev (mBin dMul (slq 4) (ev (mBin dPlus (ev (mBin dDiv (slq 4) (ev (mC (.int 2003))))) (ev (mC (.int 40014))))))) lNil))) (ev (mC (.int 2147483563)))))
    (sRet (mBin dMod (ev (mCallB cInt (lCons (ev (mBin dDiv (slq 4) (ev (mC (.int 16))))) lNil))) (slq 1))))))))))
def wt1__law_squares (n : Nat) : TM := (eT (mC (.bl true)))
def wb1__law_squares (n : Nat) : SM := (sSeq (sSet 2 (mBin dPlus (ev (mC (.int 2))) (ev (mCallM (m__law_draw n) 0 (fCons (mC (.int 60)) fNil)))))
    (sSeq (sIf (mAndT (eT (mBin dEq (ev (mBin dMod (ev (mCallB cInt (lCons (ev (mBin dMul (slq 2) (ev (mBin dSub (slq 2) (ev (mC (.int 1))))))) lNil))) (slq 1))) (ev (mC (.int 0))))) (eT (mBin dGt (slq 2) (slq 1)))) (sSeq (sSet 3 (mBin dPlus (ev (mBin dDiv (ev (mBin dMul (slq 2) (ev (mBin dSub (slq 2) (ev (mC (.int 1))))))) (slq 1))) (ev (mC (.int 1)))))
    (sIf (eT (mChain dLe dLe (slq 2) (slq 3) (ev (mC (.int 1000))))) (sRet (mTup (fCons (mVar 3) (fCons (mVar 2) (fCons (mVar 1) fNil))))) sNil)) sNil)
    (sSet 1 (mBin dPlus (ev (mC (.int 1))) (ev (mCallM (m__law_draw n) 0 (fCons (mC (.int 12)) fNil)))))))
def m__law_squares (n : Nat) : FM := runFn 1 4 ((sSeq (sSet 1 (mBin dPlus (ev (mC (.int 1))) (ev (mCallM (m__law_draw n) 0 (fCons (mC (.int 12)) fNil)))))
    (whileN (wt1__law_squares n) (wb1__law_squares n) n)))
def wt2__law_parts (n : Nat) : TM := (eT (mBin dEq (ev (mBin dMod (ev (mCallB cInt (lCons (slq 0) lNil))) (slq 2))) (ev (mC (.int 0)))))
def wb2__law_parts (n : Nat) : SM := (sPar 0 3 (mBin dDiv (slq 0) (slq 2)) (mBin dPlus (slq 3) (ev (mC (.int 1)))))
def wt1__law_parts (n : Nat) : TM := (eT (mBin dLe (ev (mBin dMul (slq 2) (slq 2))) (slq 0)))
def wb1__law_parts (n : Nat) : SM := (sSeq (sSet 3 (mC (.int 0)))
    (sSeq (whileN (wt2__law_parts n) (wb2__law_parts n) n)
    (sSeq (sExpr (mExt 1 (mIf (eT (mBin dGt (slq 3) (ev (mC (.int 0))))) (mLst (fCons (mTup (fCons (mVar 2) (fCons (mVar 3) fNil))) fNil)) (mLst fNil))))
    (sSet 2 (mBin dPlus (slq 2) (ev (mC (.int 1))))))))
def m__law_parts (n : Nat) : FM := runFn 1 4 ((sSeq (sParO 1 2 (mLst fNil) (2))
    (sSeq (whileN (wt1__law_parts n) (wb1__law_parts n) n)
    (sRet (mBin dPlus (slq 1) (ev (mIf (eT (mBin dGt (slq 0) (ev (mC (.int 1))))) (mLst (fCons (mTup (fCons (mVar 0) (fCons (mC (.int 1)) fNil))) fNil)) (mLst fNil))))))))
def fb1__law_bare (n : Nat) : SM := (sSet 1 (mBin dMul (slq 1) (ev (mIf (eT (mBin dEq (ev (mBin dMod (ev (mCallB cInt (lCons (slq 3) lNil))) (ev (mC (.int 2))))) (ev (mC (.int 1))))) (mVar 2) (mC (.int 1))))))
def m__law_bare (n : Nat) : FM := runFn 1 4 ((sSeq (sSet 1 (mIf (eT (mBin dGt (slq 0) (ev (mC (.int 0))))) (mC (.int 1)) (mUn dNeg (mC (.int 1)))))
    (sSeq (sFor (iLst (mCall (m__law_parts n) (fCons (mCallB cAbs (lCons (slq 0) lNil)) fNil))) (gT (gsCons (gN 2) (gsCons (gN 3) gsNil)) 2) (fb1__law_bare n))
    (sRet (mMove 1)))))
def wt1__law_is_rest (n : Nat) : TM := (eT (mBin dGt (slq 4) (ev (mC (.int 0)))))
def wb1__law_is_rest (n : Nat) : SM := (sSeq (sSet 2 (mIf (eT (mBin dEq (ev (mBin dMod (ev (mCallB cInt (lCons (slq 4) lNil))) (ev (mC (.int 2))))) (ev (mC (.int 1))))) (mBin dMod (ev (mCallB cInt (lCons (ev (mBin dMul (slq 2) (slq 3))) lNil))) (slq 1)) (mVar 2)))
    (sPar 3 4 (mBin dMod (ev (mCallB cInt (lCons (ev (mBin dMul (slq 3) (slq 3))) lNil))) (slq 1)) (mBin dDiv (slq 4) (ev (mC (.int 2))))))
def m__law_is_rest (n : Nat) : FM := runFn 2 5 ((sSeq (sPar3 2 3 4 (mC (.int 1)) (mBin dMod (ev (mCallB cInt (lCons (slq 0) lNil))) (slq 1)) (mBin dDiv (ev (mBin dSub (slq 1) (ev (mC (.int 1))))) (ev (mC (.int 2)))))
    (sSeq (whileN (wt1__law_is_rest n) (wb1__law_is_rest n) n)
    (sRet (mBin dEq (slq 2) (ev (mC (.int 1))))))))
def fb1__law_sums (n : Nat) : SM := (sIf (eT (mBin dGt (slq 2) (ev (mC (.int 2))))) (sSeq (sPar 3 4 (mBin dEq (ev (mBin dMod (ev (mCallB cInt (lCons (slq 0) lNil))) (slq 2))) (ev (mC (.int 0)))) (mBin dEq (ev (mBin dMod (ev (mCallB cInt (lCons (slq 1) lNil))) (slq 2))) (ev (mC (.int 0)))))
    (sIf (mAndT (eT (mVar 3)) (eT (mVar 4))) (sIf (mNotT (eT (mCallL (m__law_is_rest n) (lCons (ev (mBin dSub (ev (mC (.int 0))) (ev (mBin dMul (ev (mBin dDiv (slq 0) (slq 2))) (ev (mBin dDiv (slq 1) (slq 2))))))) (lCons (slq 2) lNil))))) (sRet (mC (.bl false))) sNil) (sIf (mNotT (eT (mCallL (m__law_is_rest n) (lCons (ev (mIf (eT (mVar 3)) (mVar 1) (mVar 0))) (lCons (slq 2) lNil))))) (sRet (mC (.bl false))) sNil))) sNil)
def m__law_sums (n : Nat) : FM := runFn 2 5 ((sSeq (sPar 0 1 (mCallL (m__law_bare n) (lCons (slq 0) lNil)) (mCallL (m__law_bare n) (lCons (slq 1) lNil)))
    (sSeq (sIf (mAndT (eT (mBin dLt (slq 0) (ev (mC (.int 0))))) (eT (mBin dLt (slq 1) (ev (mC (.int 0)))))) (sRet (mC (.bl false))) sNil)
    (sSeq (sFor (iLst (mCallB cSortI (lCons (ev (mCallB cDictP (lCons (ev (mBin dPlus (ev (mCall (m__law_parts n) (fCons (mCallB cAbs (lCons (slq 0) lNil)) fNil))) (ev (mCall (m__law_parts n) (fCons (mCallB cAbs (lCons (slq 1) lNil)) fNil))))) lNil))) lNil))) (gN 2) (fb1__law_sums n))
    (sRet (mC (.bl true)))))))
def wt1__law_root (n : Nat) : TM := (eT (mBin dGt (ev (mBin dSub (slq 2) (slq 1))) (ev (mC (.int 1)))))
def wb1__law_root (n : Nat) : SM := (sSeq (sSet 3 (mBin dDiv (ev (mBin dPlus (slq 1) (slq 2))) (ev (mC (.int 2)))))
    (sAsg (gT (gsCons (gN 1) (gsCons (gN 2) gsNil)) 2) (mIf (eT (mBin dLe (ev (mBin dMul (slq 3) (slq 3))) (slq 0))) (mTup (fCons (mVar 3) (fCons (mVar 2) fNil))) (mTup (fCons (mVar 1) (fCons (mVar 3) fNil))))))
def m__law_root (n : Nat) : FM := runFn 1 4 ((sSeq (sPar 1 2 (mC (.int 0)) (mBin dPlus (slq 0) (ev (mC (.int 1)))))
    (sSeq (whileN (wt1__law_root n) (wb1__law_root n) n)
    (sRet (mMove 1)))))
def m__law_is_square (n : Nat) : FM := runFn 1 1 ((sRet (mBin dEq (ev (mBin dMul (ev (mCallL (m__law_root n) (lCons (slq 0) lNil))) (ev (mCallL (m__law_root n) (lCons (slq 0) lNil))))) (slq 0))))
def m__law_bar (n : Nat) : FM := runFn 3 4 ((sSeq (sIf (eT (mBin dEq (slq 1) (slq 2))) (sRet (mC .non)) sNil)
    (sSeq (sIf (eT (mBin dEq (ev (mBin dMod (ev (mCallB cInt (lCons (slq 0) lNil))) (ev (mC (.int 2))))) (ev (mC (.int 0))))) (sRet (mIf (eT (mCallL (m__law_is_square n) (lCons (ev (mBin dSub (slq 1) (slq 2))) lNil))) (mC .non) (mC (.str "square")))) sNil)
    (sSeq (sSet 3 (mIf (eT (mBin dEq (ev (mBin dMod (ev (mCallB cInt (lCons (ev (mBin dDiv (ev (mBin dSub (slq 0) (ev (mC (.int 1))))) (ev (mC (.int 2))))) lNil))) (ev (mC (.int 2))))) (ev (mC (.int 0))))) (mC (.int 1)) (mUn dNeg (mC (.int 1)))))
    (sRet (mIf (eT (mCallL (m__law_sums n) (lCons (ev (mBin dSub (slq 1) (slq 2))) (lCons (ev (mBin dMul (slq 3) (slq 2))) lNil)))) (mC .non) (mC (.str "sums"))))))))
def ce1__law_is_plane_free (n : Nat) : EM := (mCallL (m__law_is_square n) (lCons (ev (mBin dSub (slq 0) (ev (mBin dMul (slq 1) (slq 1))))) lNil))
def m__law_is_plane_free (n : Nat) : FM := runFn 1 2 ((sSeq (sIf (eT (mBin dNotIn (ev (mBin dMod (ev (mCallB cInt (lCons (slq 0) lNil))) (ev (mC (.int 4))))) (ev (mTup (fCons (mC (.int 1)) (fCons (mC (.int 2)) fNil)))))) (sRet (mC (.bl true))) sNil)
    (sRet (mCallB cAny (lCons (ev (mLc (iR1 (fCons (mBin dPlus (ev (mCallL (m__law_root n) (lCons (slq 0) lNil))) (ev (mC (.int 1)))) fNil)) (gN 1) tsYes (ce1__law_is_plane_free n) [1])) lNil)))))
def wt1__law_together (n : Nat) : TM := (eT (mBin dGt (slq 3) (ev (mC (.int 0)))))
def wb1__law_together (n : Nat) : SM := (sPar 2 3 (mVar 3) (mBin dMod (ev (mCallB cInt (lCons (slq 2) lNil))) (slq 3)))
def m__law_together (n : Nat) : FM := runFn 2 4 ((sSeq (sPar 2 3 (mCallB cAbs (lCons (slq 0) lNil)) (mCallB cAbs (lCons (slq 1) lNil)))
    (sSeq (whileN (wt1__law_together n) (wb1__law_together n) n)
    (sRet (mBin dMul (ev (mBin dDiv (slq 0) (slq 2))) (ev (mBin dDiv (slq 1) (slq 2))))))))
def m__law_any (n : Nat) : FM := runFn 2 2 ((sRet (mBin dIx (slq 1) (ev (mCallM (m__law_draw n) 0 (fCons (mCallB cLen (lCons (slq 1) lNil)) fNil))))))
def m__law_integer (n : Nat) : FM := runFn 1 4 ((sSeq (sSet 1 (mCallM (m__law_draw n) 0 (fCons (mC (.int 4)) fNil)))
    (sSeq (sIf (eT (mBin dEq (slq 1) (ev (mC (.int 0))))) (sSet 2 (mBin dPlus (ev (mC (.int 1))) (ev (mCallM (m__law_draw n) 0 (fCons (mBin dPow (ev (mC (.int 10))) (ev (mC (.int 6)))) fNil))))) (sIf (eT (mBin dEq (slq 1) (ev (mC (.int 1))))) (sSet 2 (mBin dPlus (ev (mC (.int 1))) (ev (mCallM (m__law_draw n) 0 (fCons (mC (.int 60)) fNil))))) (sSeq (sSet 3 (mBin dPlus (ev (mC (.int 1))) (ev (mCallM (m__law_draw n) 0 (fCons (mC (.int 30)) fNil)))))
    (sSet 2 (mBin dMul (ev (mBin dMul (ev (mBin dPlus (ev (mC (.int 1))) (ev (mCallM (m__law_draw n) 0 (fCons (mC (.int 1000)) fNil))))) (slq 3))) (slq 3))))))
    (sRet (mBin dMul (slq 2) (ev (mCallM (m__law_any n) 0 (fCons (mLst (fCons (mC (.int 1)) (fCons (mC (.int 1)) (fCons (mUn dNeg (mC (.int 1))) fNil)))) fNil))))))))
def ce1_has_sums (n : Nat) : EM := (mAnd (mCallL (m_is_integer n) (lCons (slq 2) lNil)) (mAnd (mBin dNe (slq 2) (ev (mC (.int 0)))) (mBin dLe (ev (mCallB cAbs (lCons (slq 2) lNil))) (ev (mBin dPow (ev (mC (.int 10))) (ev (mC (.int 6))))))))
def m_has_sums (n : Nat) : FM := runFn 2 3 ((sSeq (sIf (mNotT (eT (mCallB cAll (lCons (ev (mLc (iTupl (mTup (fCons (mVar 0) (fCons (mVar 1) fNil)))) (gN 2) tsYes (ce1_has_sums n) [2])) lNil)))) sNever sNil)
    (sRet (mCallL (m_sums_to_nought n) (lCons (slq 0) (lCons (slq 1) lNil))))))
def m__law_are_sums_right (n : Nat) : FM := runFn 1 7 ((sSeq (sPar3 1 2 3 (mCallM (m__law_integer n) 0 fNil) (mCallM (m__law_integer n) 0 fNil) (mCallM (m__law_integer n) 0 fNil))
    (sSeq (sSet 4 (mCallL (m__law_sums n) (lCons (slq 1) (lCons (slq 2) lNil))))
    (sSeq (sIf (mOrT (eT (mBin dNe (ev (mCallB cRepr (lCons (ev (mCallL (m_has_sums n) (lCons (slq 1) (lCons (slq 2) lNil)))) lNil))) (ev (mCallB cRepr (lCons (slq 4) lNil))))) (eT (mBin dNe (ev (mCallB cRepr (lCons (ev (mCallL (m_has_sums n) (lCons (slq 2) (lCons (slq 1) lNil)))) lNil))) (ev (mCallB cRepr (lCons (slq 4) lNil)))))) (sRet (mC (.bl false))) sNil)
    (sSeq (sSet 5 (mBin dPlus (ev (mC (.int 2))) (ev (mCallM (m__law_draw n) 0 (fCons (mC (.int 9)) fNil)))))
    (sSeq (sIf (mAndT (eT (mBin dLe (ev (mBin dMul (ev (mBin dMul (ev (mCallB cAbs (lCons (slq 1) lNil))) (slq 5))) (slq 5))) (ev (mBin dPow (ev (mC (.int 10))) (ev (mC (.int 6))))))) (eT (mBin dNe (ev (mCallB cRepr (lCons (ev (mCallL (m_has_sums n) (lCons (ev (mBin dMul (ev (mBin dMul (slq 1) (slq 5))) (slq 5))) (lCons (slq 2) lNil)))) lNil))) (ev (mCallB cRepr (lCons (slq 4) lNil)))))) (sRet (mC (.bl false))) sNil)
    (sSeq (sIf (mOrT (eT (mBin dNotB (ev (mCallL (m_has_sums n) (lCons (slq 1) (lCons (ev (mBin dSub (ev (mC (.int 0))) (slq 1))) lNil)))) (ev (mC (.bl true))))) (mAndT (eT (mBin dNe (slq 1) (ev (mC (.int 1))))) (mAndT (eT (mBin dLe (ev (mCallB cAbs (lCons (ev (mBin dSub (ev (mC (.int 1))) (slq 1))) lNil))) (ev (mBin dPow (ev (mC (.int 10))) (ev (mC (.int 6))))))) (eT (mBin dNotB (ev (mCallL (m_has_sums n) (lCons (slq 1) (lCons (ev (mBin dSub (ev (mC (.int 1))) (slq 1))) lNil)))) (ev (mC (.bl true)))))))) (sRet (mC (.bl false))) sNil)
    (sSeq (sSet 6 (mCallL (m__law_together n) (lCons (ev (mCallL (m__law_bare n) (lCons (slq 2) lNil))) (lCons (ev (mCallL (m__law_bare n) (lCons (slq 3) lNil))) lNil))))
    (sSeq (sIf (mAndT (eT (mBin dLe (ev (mCallB cAbs (lCons (slq 6) lNil))) (ev (mBin dPow (ev (mC (.int 10))) (ev (mC (.int 6))))))) (mOrT (eT (mVar 4)) (eT (mCallL (m__law_sums n) (lCons (slq 1) (lCons (slq 3) lNil)))))) (sRet (mBin dEq (ev (mCallL (m_has_sums n) (lCons (slq 1) (lCons (slq 6) lNil)))) (ev (mAnd (mVar 4) (mCallL (m__law_sums n) (lCons (slq 1) (lCons (slq 3) lNil))))))) sNil)
    (sRet (mC (.bl true))))))))))))
def fb1_law (n : Nat) : SM := (sSeq (sSet 8 (mCall (m_bars n) (fCons (mBin dPlus (ev (mBin dPlus (ev (mBin dMul (slq 7) (slq 7))) (slq 7))) (ev (mC (.int 1)))) (fCons (mBin dPlus (slq 7) (ev (mC (.int 1)))) (fCons (mC (.int 1)) (fCons (mC (.int 2)) fNil))))))
    (sIf (eT (mBin dNe (slq 8) (ev (mIf (eT (mCallL (m__law_is_plane_free n) (lCons (slq 7) lNil))) (mLst fNil) (mLst (fCons (mC (.str "sums")) fNil)))))) (sRet (mC (.bl false))) sNil))
def fb2_law (n : Nat) : SM := (sSeq (sAsg (gT (gsCons (gN 3) (gsCons (gN 4) (gsCons (gN 5) gsNil))) 3) (mCallM (m__law_squares n) 1 fNil))
    (sSeq (sIf (eT (mBin dNotB (ev (mCallL (m_is_square_family n) (lCons (slq 3) (lCons (slq 4) (lCons (slq 5) lNil))))) (ev (mC (.bl true))))) (sRet (mC (.bl false))) sNil)
    (sSeq (sSet 6 (mCallL (m__law_bar n) (lCons (slq 3) (lCons (slq 4) (lCons (slq 5) lNil)))))
    (sSeq (sIf (eT (mBin dNe (ev (mCallB cRepr (lCons (ev (mCallL (m_square_bar n) (lCons (slq 3) (lCons (slq 4) (lCons (slq 5) lNil))))) lNil))) (ev (mCallB cRepr (lCons (slq 6) lNil))))) (sRet (mC (.bl false))) sNil)
    (sIf (mAndT (eT (mBin dLt (slq 4) (slq 3))) (eT (mBin dNe (ev (mCall (m_bars n) (fCons (mVar 3) (fCons (mVar 4) (fCons (mVar 5) (fCons (mC (.int 2)) fNil)))))) (ev (mIf (eT (mBin dIsN (slq 6) (ev (mC .non)))) (mLst fNil) (mLst (fCons (mVar 6) fNil))))))) (sRet (mC (.bl false))) sNil)))))
def ce3_law (n : Nat) : EM := (mCallM (m__law_are_sums_right n) 1 fNil)
def m_law (n : Nat) : FM := runFn 1 10 ((sSeq (sSet 1 (mCall (m__law_hand n) (fCons (mVar 0) fNil)))
    (sSeq (sIf (mNotT (eT (mCallB cAll (lCons (ev (mLc (iR1 (fCons (mC (.int 12)) fNil)) (gN 2) tsYes (ce3_law n) [2])) lNil)))) (sRet (mC (.bl false))) sNil)
    (sSeq (sFor (iR1 (fCons (mC (.int 8)) fNil)) (gN 2) (fb2_law n))
    (sSeq (sFor (iR2 (fCons (mC (.int 2)) (fCons (mC (.int 31)) fNil))) (gN 7) (fb1_law n))
    (sSeq (sSet 7 (mBin dPlus (ev (mC (.int 2))) (ev (mCallM (m__law_draw n) 1 (fCons (mC (.int 6)) fNil)))))
    (sSeq (sSet 3 (mBin dPlus (ev (mBin dPlus (ev (mBin dMul (slq 7) (slq 7))) (slq 7))) (ev (mC (.int 1)))))
    (sSeq (sIf (eT (mBin dGt (slq 3) (ev (mC (.int 60))))) (sRet (mC (.bl true))) sNil)
    (sSeq (sSet 9 (mCall (m_free_numbers n) (fCons (mVar 3) (fCons (mC (.int 2)) fNil))))
    (sRet (mBin dEq (ev (mBin dIn (ev (mTup (fCons (mBin dPlus (slq 7) (ev (mC (.int 1)))) (fCons (mC (.int 1)) fNil)))) (slq 9))) (ev (mCallL (m__law_is_plane_free n) (lCons (slq 7) lNil))))))))))))))
end K33

set_option Elab.async false
set_option linter.all false
set_option maxRecDepth 100000
namespace K33
open PySem PySem.Spec L2 Sim
open PyProof.Rows hiding St
def topS (i : Nat) : Stmt := PySem.Challenge.pw_pairblocks_k33_whole_what_bars_planes_by.main.body.getD i (.Pass ⟨0, 0, 0, 0⟩)
abbrev s__law_hand : Stmt := topS 27
theorem sc__law_hand : FnScope ["script", "cells", "cell"] ["script"] (defScope s__law_hand) := ⟨rfl, rfl, rfl, by decide +kernel, rfl, by decide +kernel, by decide +kernel⟩
abbrev s_is_integer : Stmt := topS 1
theorem sc_is_integer : FnScope ["thing"] ["thing"] (defScope s_is_integer) := ⟨rfl, rfl, rfl, by decide +kernel, rfl, by decide +kernel, by decide +kernel⟩
abbrev s_is_within : Stmt := topS 2
theorem sc_is_within : FnScope ["thing", "least", "most"] ["thing", "least", "most"] (defScope s_is_within) := ⟨rfl, rfl, rfl, by decide +kernel, rfl, by decide +kernel, by decide +kernel⟩
abbrev s_check_numbers : Stmt := topS 12
theorem sc_check_numbers : FnScope ["points", "size", "many", "told"] ["points", "size", "many", "told"] (defScope s_check_numbers) := ⟨rfl, rfl, rfl, by decide +kernel, rfl, by decide +kernel, by decide +kernel⟩
abbrev s_choose : Stmt := topS 8
theorem sc_choose : FnScope ["many", "some", "top", "bottom", "at"] ["many", "some"] (defScope s_choose) := ⟨rfl, rfl, rfl, by decide +kernel, rfl, by decide +kernel, by decide +kernel⟩
abbrev s_shares_by : Stmt := topS 11
theorem sc_shares_by : FnScope ["points", "size", "many", "told", "found", "less", "top", "bottom"] ["points", "size", "many", "told"] (defScope s_shares_by) := ⟨rfl, rfl, rfl, by decide +kernel, rfl, by decide +kernel, by decide +kernel⟩
abbrev s_is_square_family : Stmt := topS 22
theorem sc_is_square_family : FnScope ["points", "size", "many"] ["points", "size", "many"] (defScope s_is_square_family) := ⟨rfl, rfl, rfl, by decide +kernel, rfl, by decide +kernel, by decide +kernel⟩
abbrev s_shared : Stmt := topS 17
theorem sc_shared : FnScope ["one", "other"] ["one", "other"] (defScope s_shared) := ⟨rfl, rfl, rfl, by decide +kernel, rfl, by decide +kernel, by decide +kernel⟩
abbrev s_square_free : Stmt := topS 15
theorem sc_square_free : FnScope ["number", "sign", "found", "p", "many"] ["number"] (defScope s_square_free) := ⟨rfl, rfl, rfl, by decide +kernel, rfl, by decide +kernel, by decide +kernel⟩
abbrev s_is_rest_square : Stmt := topS 16
theorem sc_is_rest_square : FnScope ["number", "p", "found", "here", "power"] ["number", "p"] (defScope s_is_rest_square) := ⟨rfl, rfl, rfl, by decide +kernel, rfl, by decide +kernel, by decide +kernel⟩
abbrev s_primes_of : Stmt := topS 18
theorem sc_primes_of : FnScope ["number", "found", "p"] ["number"] (defScope s_primes_of) := ⟨rfl, rfl, rfl, by decide +kernel, rfl, by decide +kernel, by decide +kernel⟩
abbrev s_is_rest_of_all : Stmt := topS 19
theorem sc_is_rest_of_all : FnScope ["one", "other", "p"] ["one", "other"] (defScope s_is_rest_of_all) := ⟨rfl, rfl, rfl, by decide +kernel, rfl, by decide +kernel, by decide +kernel⟩
abbrev s_sums_to_nought : Stmt := topS 20
theorem sc_sums_to_nought : FnScope ["a", "b", "common", "first", "second", "third"] ["a", "b"] (defScope s_sums_to_nought) := ⟨rfl, rfl, rfl, by decide +kernel, rfl, by decide +kernel, by decide +kernel⟩
abbrev s_root_of : Stmt := topS 14
theorem sc_root_of : FnScope ["number", "low", "high", "middle"] ["number"] (defScope s_root_of) := ⟨rfl, rfl, rfl, by decide +kernel, rfl, by decide +kernel, by decide +kernel⟩
abbrev s_is_square : Stmt := topS 13
theorem sc_is_square : FnScope ["number"] ["number"] (defScope s_is_square) := ⟨rfl, rfl, rfl, by decide +kernel, rfl, by decide +kernel, by decide +kernel⟩
abbrev s_square_bar : Stmt := topS 23
theorem sc_square_bar : FnScope ["points", "size", "many", "sign"] ["points", "size", "many"] (defScope s_square_bar) := ⟨rfl, rfl, rfl, by decide +kernel, rfl, by decide +kernel, by decide +kernel⟩
abbrev s_bars : Stmt := topS 24
theorem sc_bars : FnScope ["points", "size", "many", "told", "found", "words", "pairs"] ["points", "size", "many", "told"] (defScope s_bars) := ⟨rfl, rfl, rfl, by decide +kernel, rfl, by decide +kernel, by decide +kernel⟩
abbrev s_free_numbers : Stmt := topS 25
theorem sc_free_numbers : FnScope ["points", "told", "found", "size", "many"] ["points", "told"] (defScope s_free_numbers) := ⟨rfl, rfl, rfl, by decide +kernel, rfl, by decide +kernel, by decide +kernel⟩
abbrev s__law_draw : Stmt := topS 28
theorem sc__law_draw : FnScope ["hand", "many", "cell", "digit", "mixed_here"] ["hand", "many"] (defScope s__law_draw) := ⟨rfl, rfl, rfl, by decide +kernel, rfl, by decide +kernel, by decide +kernel⟩
abbrev s__law_squares : Stmt := topS 39
theorem sc__law_squares : FnScope ["hand", "many", "size", "points"] ["hand"] (defScope s__law_squares) := ⟨rfl, rfl, rfl, by decide +kernel, rfl, by decide +kernel, by decide +kernel⟩
abbrev s__law_parts : Stmt := topS 30
theorem sc__law_parts : FnScope ["number", "found", "prime", "often"] ["number"] (defScope s__law_parts) := ⟨rfl, rfl, rfl, by decide +kernel, rfl, by decide +kernel, by decide +kernel⟩
abbrev s__law_bare : Stmt := topS 31
theorem sc__law_bare : FnScope ["number", "found", "prime", "often"] ["number"] (defScope s__law_bare) := ⟨rfl, rfl, rfl, by decide +kernel, rfl, by decide +kernel, by decide +kernel⟩
abbrev s__law_is_rest : Stmt := topS 32
theorem sc__law_is_rest : FnScope ["number", "prime", "found", "base", "often"] ["number", "prime"] (defScope s__law_is_rest) := ⟨rfl, rfl, rfl, by decide +kernel, rfl, by decide +kernel, by decide +kernel⟩
abbrev s__law_sums : Stmt := topS 33
theorem sc__law_sums : FnScope ["a", "b", "prime", "in_a", "in_b"] ["a", "b"] (defScope s__law_sums) := ⟨rfl, rfl, rfl, by decide +kernel, rfl, by decide +kernel, by decide +kernel⟩
abbrev s__law_root : Stmt := topS 35
theorem sc__law_root : FnScope ["number", "low", "high", "middle"] ["number"] (defScope s__law_root) := ⟨rfl, rfl, rfl, by decide +kernel, rfl, by decide +kernel, by decide +kernel⟩
abbrev s__law_is_square : Stmt := topS 36
theorem sc__law_is_square : FnScope ["number"] ["number"] (defScope s__law_is_square) := ⟨rfl, rfl, rfl, by decide +kernel, rfl, by decide +kernel, by decide +kernel⟩
abbrev s__law_bar : Stmt := topS 40
theorem sc__law_bar : FnScope ["points", "size", "many", "sign"] ["points", "size", "many"] (defScope s__law_bar) := ⟨rfl, rfl, rfl, by decide +kernel, rfl, by decide +kernel, by decide +kernel⟩
abbrev s__law_is_plane_free : Stmt := topS 41
theorem sc__law_is_plane_free : FnScope ["order", "one"] ["order"] (defScope s__law_is_plane_free) := ⟨rfl, rfl, rfl, by decide +kernel, rfl, by decide +kernel, by decide +kernel⟩
abbrev s__law_together : Stmt := topS 37
theorem sc__law_together : FnScope ["one", "other", "low", "high"] ["one", "other"] (defScope s__law_together) := ⟨rfl, rfl, rfl, by decide +kernel, rfl, by decide +kernel, by decide +kernel⟩
abbrev s__law_any : Stmt := topS 29
theorem sc__law_any : FnScope ["hand", "some"] ["hand", "some"] (defScope s__law_any) := ⟨rfl, rfl, rfl, by decide +kernel, rfl, by decide +kernel, by decide +kernel⟩
abbrev s__law_integer : Stmt := topS 34
theorem sc__law_integer : FnScope ["hand", "kind", "found", "one"] ["hand"] (defScope s__law_integer) := ⟨rfl, rfl, rfl, by decide +kernel, rfl, by decide +kernel, by decide +kernel⟩
abbrev s_has_sums : Stmt := topS 21
theorem sc_has_sums : FnScope ["a", "b", "one"] ["a", "b"] (defScope s_has_sums) := ⟨rfl, rfl, rfl, by decide +kernel, rfl, by decide +kernel, by decide +kernel⟩
abbrev s__law_are_sums_right : Stmt := topS 38
theorem sc__law_are_sums_right : FnScope ["hand", "a", "b", "c", "flag", "one", "both"] ["hand"] (defScope s__law_are_sums_right) := ⟨rfl, rfl, rfl, by decide +kernel, rfl, by decide +kernel, by decide +kernel⟩
abbrev s_law : Stmt := topS 42
theorem sc_law : FnScope ["script", "hand", "lap", "points", "size", "many", "due", "order", "told", "pairs"] ["script"] (defScope s_law) := ⟨rfl, rfl, rfl, by decide +kernel, rfl, by decide +kernel, by decide +kernel⟩
structure Bl (mg : Str → Option Value) : Prop where
  b_abs : mg "abs" = none
  b_all : mg "all" = none
  b_any : mg "any" = none
  b_bool : mg "bool" = none
  b_dict : mg "dict" = none
  b_int : mg "int" = none
  b_isinstance : mg "isinstance" = none
  b_len : mg "len" = none
  b_min : mg "min" = none
  b_range : mg "range" = none
  b_repr : mg "repr" = none
  b_sorted : mg "sorted" = none
section
variable {P : Program} {w : World} {Kf : PySem.W.Frag} {mg : Str → Option Value} {base : Heap} {cl : Str → Option Addr}
theorem k__law_hand (n : Nat) (bl : Bl mg) (fc : Fac Kf mg "_law_hand" s__law_hand ["script"]) : Known P w Kf mg base ⟨Kf, cl⟩ "_law_hand" 1 (m__law_hand n) :=
  known fc sc__law_hand rfl rfl fun f_ cdv_ A_ outer_ s_ H_ E_ hr => by
    have nd := sc__law_hand.nd
    exact (S.cons (S.setLc (i := 1) (own := [("cell", 2)]) rfl nd rfl rfl (sw_true rfl rfl rfl (by decide +kernel)) (I.lst rfl (E.cutHi rfl (L.sl (pv 0)) E.int)) (blkOk_by (N := ["script", "cells", "cell"]) (sc := defScope s__law_hand) (by decide +kernel)) (fun _ _ _ _ _ => (G.name (i := 2) nd rfl (.inl rfl))) (fun _ _ _ _ _ => TS.nil) (fun _ _ _ _ _ => (E.callB call_abs sc_abs (by rfl) bl.b_abs (by decide +kernel) (A.cons (L.ev (E.callTy call_int1 sc_int (by rfl) bl.b_int (by decide +kernel) (A.cons (L.sl (pv 2)) A.nil))) A.nil))))
    (S.one (S.ret (E.lst (AF.cons (E.var (pv 1)) (AF.cons E.int (AF.cons E.int (AF.cons (E.bin op_plus so_plus (L.ev E.int) (L.ev (E.bin op_mul so_mul (L.ev E.int) (L.ev (E.callB call_len sc_len (by rfl) bl.b_len (by decide +kernel) (A.cons (L.sl (pv 1)) A.nil)))))) (AF.cons E.int AF.nil)))))))))
theorem k_is_integer (n : Nat) (bl : Bl mg) (fc : Fac Kf mg "is_integer" s_is_integer ["thing"]) : Known P w Kf mg base ⟨Kf, cl⟩ "is_integer" 1 (m_is_integer n) :=
  known fc sc_is_integer rfl rfl fun f_ cdv_ A_ outer_ s_ H_ E_ hr => by
    have nd := sc_is_integer.nd
    exact (S.one (S.ret (E.and (E.isI rfl (L.sl (pv 0)) (pe_bltn (v := .ty "int") (by rfl) bl.b_int (by decide +kernel) rfl) (by rfl) bl.b_isinstance) (E.one (E.not (E.isI rfl (L.sl (pv 0)) (pe_bltn (v := .ty "bool") (by rfl) bl.b_bool (by decide +kernel) rfl) (by rfl) bl.b_isinstance))))))
theorem k_is_within (n : Nat) (bl : Bl mg) (fc : Fac Kf mg "is_within" s_is_within ["thing", "least", "most"]) (k_is_integer : Known P w Kf mg base ⟨Kf, cl⟩ "is_integer" 1 (m_is_integer n)) : Known P w Kf mg base ⟨Kf, cl⟩ "is_within" 2 (m_is_within n) :=
  known fc sc_is_within rfl rfl fun f_ cdv_ A_ outer_ s_ H_ E_ hr => by
    have nd := sc_is_within.nd
    exact (S.one (S.ret (E.and (K.callL k_is_integer hr (by decide) (by rfl) (A.cons (L.sl (pv 0)) A.nil)) (E.one (E.chain op_le op_le so_le so_le (L.sl (pv 1)) (L.sl (pv 0)) (L.sl (pv 2)))))))
theorem k_check_numbers (n : Nat) (bl : Bl mg) (fc : Fac Kf mg "check_numbers" s_check_numbers ["points", "size", "many", "told"]) {t_MOST_SIZE : Tok} (gc_MOST_SIZE : mg "MOST_SIZE" = some (.int 6 t_MOST_SIZE)) (k_is_within : Known P w Kf mg base ⟨Kf, cl⟩ "is_within" 2 (m_is_within n)) : Known P w Kf mg base ⟨Kf, cl⟩ "check_numbers" 3 (m_check_numbers n) :=
  known fc sc_check_numbers rfl rfl fun f_ cdv_ A_ outer_ s_ H_ E_ hr => by
    have nd := sc_check_numbers.nd
    exact (S.cons (S.ite (PW.pt (T.or (T.not (T.val (K.callL k_is_within hr (by decide) (by rfl) (A.cons (L.sl (pv 0)) (A.cons (L.ev E.int) (A.cons (L.ev E.int) A.nil)))))) (T.or (T.not (T.val (K.callL k_is_within hr (by decide) (by rfl) (A.cons (L.sl (pv 1)) (A.cons (L.ev E.int) (A.cons (L.sl (pv 0)) A.nil)))))) (T.or1 (T.not (T.val (K.callL k_is_within hr (by decide) (by rfl) (A.cons (L.sl (pv 2)) (A.cons (L.ev E.int) (A.cons (L.ev (E.bin op_pow so_pow (L.ev E.int) (L.ev E.int))) A.nil)))))))))) (S.one S.never) S.nil)
    (S.one (S.ite (T.not (T.val (K.callL k_is_within hr (by decide) (by rfl) (A.cons (L.sl (pv 3)) (A.cons (L.ev E.int) (A.cons (L.ev (E.callB (call_min2 rfl) sc_min (by rfl) bl.b_min (by decide +kernel) (A.cons (L.sl (pv 1)) (A.cons (L.ev (E.gl (v := .int 6) (by rfl) gc_MOST_SIZE ⟨_, rfl⟩ (fun _ => rfl))) A.nil)))) A.nil)))))) (S.one S.never) S.nil)))
theorem k_choose (n : Nat) (bl : Bl mg) (fc : Fac Kf mg "choose" s_choose ["many", "some"]) : Known P w Kf mg base ⟨Kf, cl⟩ "choose" 1 (m_choose n) :=
  known fc sc_choose rfl rfl fun f_ cdv_ A_ outer_ s_ H_ E_ hr => by
    have nd := sc_choose.nd
    exact (S.cons (S.ite (PW.pt (T.or (T.cmp op_lt so_lt (L.sl (pv 1)) (L.ev E.int) (nomark _)) (T.or1 (T.cmp op_gt so_gt (L.sl (pv 1)) (L.sl (pv 0)) (nomark _))))) (S.one (S.ret E.int)) S.nil)
    (S.cons (S.asg (E.tup (AF.cons E.int (AF.cons E.int AF.nil))) (G.tup rfl rfl (G.cons (G.name (i := 2) nd rfl (.inl rfl)) (G.cons (G.name (i := 3) nd rfl (.inl rfl)) G.nil))))
    (S.cons (S.for PassesOwn.never rfl (I.range1 (by rfl) bl.b_range (AF.cons (E.var (pv 1)) AF.nil)) (G.name (i := 4) nd rfl (.inl rfl)) (S.one (S.par (i := 2) (j := 3) rfl nd rfl rfl (by decide) rfl rfl (E.bin op_mul so_mul (L.sl (pv 2)) (L.ev (E.bin op_sub so_sub (L.sl (pv 0)) (L.sl (pv 4))))) (E.bin op_mul so_mul (L.sl (pv 3)) (L.ev (E.bin op_plus so_plus (L.sl (pv 4)) (L.ev E.int)))) (by rfl))))
    (S.one (S.ret (E.bin op_fdivN so_div (L.sl (pv 2)) (L.sl (pv 3))))))))
theorem k_shares_by (n : Nat) (bl : Bl mg) (fc : Fac Kf mg "shares_by" s_shares_by ["points", "size", "many", "told"]) (k_choose : Known P w Kf mg base ⟨Kf, cl⟩ "choose" 1 (m_choose n)) : Known P w Kf mg base ⟨Kf, cl⟩ "shares_by" 2 (m_shares_by n) :=
  known fc sc_shares_by rfl rfl fun f_ cdv_ A_ outer_ s_ H_ E_ hr => by
    have nd := sc_shares_by.nd
    exact (S.cons (S.set (i := 4) nd rfl (.inl rfl) (E.lst AF.nil))
    (S.cons (S.for PassesOwn.never rfl (I.range1 (by rfl) bl.b_range (AF.cons (E.bin op_plus so_plus (L.sl (pv 3)) (L.ev E.int)) AF.nil)) (G.name (i := 5) nd rfl (.inl rfl)) (S.cons (S.par (i := 6) (j := 7) rfl nd rfl rfl (by decide) rfl rfl (E.bin op_mul so_mul (L.sl (pv 2)) (L.ev (K.callL k_choose hr (by decide) (by rfl) (A.cons (L.ev (E.bin op_sub so_sub (L.sl (pv 0)) (L.sl (pv 5)))) (A.cons (L.ev (E.bin op_sub so_sub (L.sl (pv 3)) (L.sl (pv 5)))) A.nil))))) (K.callL k_choose hr (by decide) (by rfl) (A.cons (L.ev (E.bin op_sub so_sub (L.sl (pv 1)) (L.sl (pv 5)))) (A.cons (L.ev (E.bin op_sub so_sub (L.sl (pv 3)) (L.sl (pv 5)))) A.nil))) (by rfl))
    (S.cons (S.ite (T.cmp (op_neD hr.units) so_ne (L.ev (E.bin op_modN so_mod (L.sl (pv 6)) (L.sl (pv 7)))) (L.ev E.int) (nomark _)) (S.one (S.ret E.non)) S.nil)
    (S.one (S.expr (E.app (pv 4) (E.bin op_fdivN so_div (L.sl (pv 6)) (L.sl (pv 7)))))))))
    (S.one (S.ret (E.move (pv 4))))))
theorem k_is_square_family (n : Nat) (bl : Bl mg) (fc : Fac Kf mg "is_square_family" s_is_square_family ["points", "size", "many"]) (k_check_numbers : Known P w Kf mg base ⟨Kf, cl⟩ "check_numbers" 3 (m_check_numbers n)) : Known P w Kf mg base ⟨Kf, cl⟩ "is_square_family" 4 (m_is_square_family n) :=
  known fc sc_is_square_family rfl rfl fun f_ cdv_ A_ outer_ s_ H_ E_ hr => by
    have nd := sc_is_square_family.nd
    exact (S.cons (S.expr (K.callL k_check_numbers hr (by decide) (by rfl) (A.cons (L.sl (pv 0)) (A.cons (L.sl (pv 1)) (A.cons (L.sl (pv 2)) (A.cons (L.ev (E.callB (call_min2 rfl) sc_min (by rfl) bl.b_min (by decide +kernel) (A.cons (L.ev E.int) (A.cons (L.sl (pv 1)) A.nil)))) A.nil))))))
    (S.one (S.ret (E.cmp (op_eqD hr.units) so_eq (L.ev (E.bin op_mul so_mul (L.sl (pv 2)) (L.ev (E.bin op_sub so_sub (L.sl (pv 0)) (L.ev E.int))))) (L.ev (E.bin op_mul so_mul (L.sl (pv 1)) (L.ev (E.bin op_sub so_sub (L.sl (pv 1)) (L.ev E.int))))) (nomark _)))))
theorem k_shared (n : Nat) (bl : Bl mg) (fc : Fac Kf mg "shared" s_shared ["one", "other"]) : Known P w Kf mg base ⟨Kf, cl⟩ "shared" 1 (m_shared n) :=
  known fc sc_shared rfl rfl fun f_ cdv_ A_ outer_ s_ H_ E_ hr => by
    have nd := sc_shared.nd
    exact (S.cons (S.while n PassesOwn.never (T.cmp op_gt so_gt (L.sl (pv 1)) (L.ev E.int) (nomark _)) (S.one (S.par (i := 0) (j := 1) rfl nd rfl rfl (by decide) rfl rfl (E.var (pv 1)) (E.bin op_modN so_mod (L.sl (pv 0)) (L.sl (pv 1))) (by rfl))))
    (S.one (S.ret (E.move (pv 0)))))
theorem k_square_free (n : Nat) (bl : Bl mg) (fc : Fac Kf mg "square_free" s_square_free ["number"]) : Known P w Kf mg base ⟨Kf, cl⟩ "square_free" 1 (m_square_free n) :=
  known fc sc_square_free rfl rfl fun f_ cdv_ A_ outer_ s_ H_ E_ hr => by
    have nd := sc_square_free.nd
    exact (S.cons (S.asg (E.tup (AF.cons (E.ite (T.cmp op_gt so_gt (L.sl (pv 0)) (L.ev E.int) (nomark _)) E.int (E.neg E.int)) (AF.cons (E.callB call_abs sc_abs (by rfl) bl.b_abs (by decide +kernel) (A.cons (L.sl (pv 0)) A.nil)) (AF.cons E.int (AF.cons E.int AF.nil))))) (G.tup rfl rfl (G.cons (G.name (i := 1) nd rfl (.inl rfl)) (G.cons (G.name (i := 0) nd rfl (.inl rfl)) (G.cons (G.name (i := 2) nd rfl (.inl rfl)) (G.cons (G.name (i := 3) nd rfl (.inl rfl)) G.nil))))))
    (S.cons (S.while n PassesOwn.never (T.cmp op_le so_le (L.ev (E.bin op_mul so_mul (L.sl (pv 3)) (L.sl (pv 3)))) (L.sl (pv 0)) (nomark _)) (S.cons (S.set (i := 4) nd rfl (.inl rfl) E.int)
    (S.cons (S.while n PassesOwn.never (T.cmp (op_eqD hr.units) so_eq (L.ev (E.bin op_modN so_mod (L.sl (pv 0)) (L.sl (pv 3)))) (L.ev E.int) (nomark _)) (S.one (S.par (i := 0) (j := 4) rfl nd rfl rfl (by decide) rfl rfl (E.bin op_fdivN so_div (L.sl (pv 0)) (L.sl (pv 3))) (E.bin op_plus so_plus (L.sl (pv 4)) (L.ev E.int)) (by rfl))))
    (S.cons (S.ite (T.cmp (op_eqD hr.units) so_eq (L.ev (E.bin op_modN so_mod (L.sl (pv 4)) (L.ev E.int))) (L.ev E.int) (nomark _)) (S.one (S.set (i := 2) nd rfl (.inl rfl) (E.bin op_mul so_mul (L.sl (pv 2)) (L.sl (pv 3))))) S.nil)
    (S.one (S.aug (i := 3) nd rfl (.inl rfl) iop_add so_add (L.ev E.int)))))))
    (S.one (S.ret (E.bin op_mul so_mul (L.ev (E.bin op_mul so_mul (L.sl (pv 1)) (L.sl (pv 2)))) (L.sl (pv 0)))))))
theorem k_is_rest_square (n : Nat) (bl : Bl mg) (fc : Fac Kf mg "is_rest_square" s_is_rest_square ["number", "p"]) : Known P w Kf mg base ⟨Kf, cl⟩ "is_rest_square" 1 (m_is_rest_square n) :=
  known fc sc_is_rest_square rfl rfl fun f_ cdv_ A_ outer_ s_ H_ E_ hr => by
    have nd := sc_is_rest_square.nd
    exact (S.cons (S.par3 (i := 2) (j := 3) (l := 4) rfl nd rfl rfl rfl (by decide) (by decide) (by decide) rfl rfl rfl E.int (E.bin op_modN so_mod (L.sl (pv 0)) (L.sl (pv 1))) (E.bin op_fdivN so_div (L.ev (E.bin op_sub so_sub (L.sl (pv 1)) (L.ev E.int))) (L.ev E.int)) (by rfl))
    (S.cons (S.while n PassesOwn.never (T.cmp op_gt so_gt (L.sl (pv 4)) (L.ev E.int) (nomark _)) (S.cons (S.ite (T.cmp (op_eqD hr.units) so_eq (L.ev (E.bin op_modN so_mod (L.sl (pv 4)) (L.ev E.int))) (L.ev E.int) (nomark _)) (S.one (S.set (i := 2) nd rfl (.inl rfl) (E.bin op_modN so_mod (L.ev (E.bin op_mul so_mul (L.sl (pv 2)) (L.sl (pv 3)))) (L.sl (pv 1))))) S.nil)
    (S.one (S.par (i := 3) (j := 4) rfl nd rfl rfl (by decide) rfl rfl (E.bin op_modN so_mod (L.ev (E.bin op_mul so_mul (L.sl (pv 3)) (L.sl (pv 3)))) (L.sl (pv 1))) (E.bin op_fdivN so_div (L.sl (pv 4)) (L.ev E.int)) (by rfl)))))
    (S.one (S.ret (E.or (E.cmp (op_eqD hr.units) so_eq (L.sl (pv 2)) (L.ev E.int) (nomark _)) (E.one (E.cmp (op_eqD hr.units) so_eq (L.ev (E.bin op_modN so_mod (L.sl (pv 0)) (L.sl (pv 1)))) (L.ev E.int) (nomark _))))))))
theorem k_primes_of (n : Nat) (bl : Bl mg) (fc : Fac Kf mg "primes_of" s_primes_of ["number"]) : Known P w Kf mg base ⟨Kf, cl⟩ "primes_of" 1 (m_primes_of n) :=
  known fc sc_primes_of rfl rfl fun f_ cdv_ A_ outer_ s_ H_ E_ hr => by
    have nd := sc_primes_of.nd
    exact (S.cons (S.parO (i := 1) (j := 2) rfl nd rfl rfl (by decide) rfl rfl (E.lst AF.nil) (by rfl))
    (S.cons (S.while n PassesOwn.never (T.cmp op_le so_le (L.ev (E.bin op_mul so_mul (L.sl (pv 2)) (L.sl (pv 2)))) (L.sl (pv 0)) (nomark _)) (S.cons (S.ite (T.cmp (op_eqD hr.units) so_eq (L.ev (E.bin op_modN so_mod (L.sl (pv 0)) (L.sl (pv 2)))) (L.ev E.int) (nomark _)) (S.cons (S.expr (E.app (pv 1) (E.var (pv 2))))
    (S.one (S.while n PassesOwn.never (T.cmp (op_eqD hr.units) so_eq (L.ev (E.bin op_modN so_mod (L.sl (pv 0)) (L.sl (pv 2)))) (L.ev E.int) (nomark _)) (S.one (S.set (i := 0) nd rfl (.inl rfl) (E.bin op_fdivN so_div (L.sl (pv 0)) (L.sl (pv 2)))))))) S.nil)
    (S.one (S.aug (i := 2) nd rfl (.inl rfl) iop_add so_add (L.ev E.int)))))
    (S.one (S.ret (E.ite (T.cmp op_gt so_gt (L.sl (pv 0)) (L.ev E.int) (nomark _)) (E.bin op_plus so_plus (L.sl (pv 1)) (L.ev (E.lst (AF.cons (E.var (pv 0)) AF.nil)))) (E.var (pv 1)))))))
theorem k_is_rest_of_all (n : Nat) (bl : Bl mg) (fc : Fac Kf mg "is_rest_of_all" s_is_rest_of_all ["one", "other"]) (k_is_rest_square : Known P w Kf mg base ⟨Kf, cl⟩ "is_rest_square" 1 (m_is_rest_square n)) (k_primes_of : Known P w Kf mg base ⟨Kf, cl⟩ "primes_of" 1 (m_primes_of n)) : Known P w Kf mg base ⟨Kf, cl⟩ "is_rest_of_all" 2 (m_is_rest_of_all n) :=
  known fc sc_is_rest_of_all rfl rfl fun f_ cdv_ A_ outer_ s_ H_ E_ hr => by
    have nd := sc_is_rest_of_all.nd
    exact (S.one (S.ret (E.callB (cr_all rfl) sc_all (by rfl) bl.b_all (by decide +kernel) (A.cons (L.ev (E.lc (own := [("p", 2)]) rfl nd  (I.lst rfl (K.call k_primes_of hr (by decide) (by rfl) (AF.cons (E.callB call_abs sc_abs (by rfl) bl.b_abs (by decide +kernel) (A.cons (L.sl (pv 1)) A.nil)) AF.nil))) (blkOk_by (N := ["one", "other", "p"]) (sc := defScope s_is_rest_of_all) (by decide +kernel)) (fun _ _ _ _ _ => (G.name (i := 2) nd rfl (.inl rfl))) (fun _ _ _ _ _ => (TS.one (T.cmp op_gt so_gt (L.sl (pv 2)) (L.ev E.int) (nomark _)))) (fun _ _ _ _ _ => (K.callL k_is_rest_square hr (by decide) (by rfl) (A.cons (L.sl (pv 0)) (A.cons (L.sl (pv 2)) A.nil)))))) A.nil))))
theorem k_sums_to_nought (n : Nat) (bl : Bl mg) (fc : Fac Kf mg "sums_to_nought" s_sums_to_nought ["a", "b"]) (k_shared : Known P w Kf mg base ⟨Kf, cl⟩ "shared" 1 (m_shared n)) (k_square_free : Known P w Kf mg base ⟨Kf, cl⟩ "square_free" 1 (m_square_free n)) (k_is_rest_of_all : Known P w Kf mg base ⟨Kf, cl⟩ "is_rest_of_all" 2 (m_is_rest_of_all n)) : Known P w Kf mg base ⟨Kf, cl⟩ "sums_to_nought" 3 (m_sums_to_nought n) :=
  known fc sc_sums_to_nought rfl rfl fun f_ cdv_ A_ outer_ s_ H_ E_ hr => by
    have nd := sc_sums_to_nought.nd
    exact (S.cons (S.par (i := 0) (j := 1) rfl nd rfl rfl (by decide) rfl rfl (K.callL k_square_free hr (by decide) (by rfl) (A.cons (L.sl (pv 0)) A.nil)) (K.callL k_square_free hr (by decide) (by rfl) (A.cons (L.sl (pv 1)) A.nil)) (by rfl))
    (S.cons (S.ite (PW.pt (T.and (T.cmp op_lt so_lt (L.sl (pv 0)) (L.ev E.int) (nomark _)) (T.and1 (T.cmp op_lt so_lt (L.sl (pv 1)) (L.ev E.int) (nomark _))))) (S.one (S.ret E.bl)) S.nil)
    (S.cons (S.set (i := 2) nd rfl (.inl rfl) (K.callL k_shared hr (by decide) (by rfl) (A.cons (L.ev (E.callB call_abs sc_abs (by rfl) bl.b_abs (by decide +kernel) (A.cons (L.sl (pv 0)) A.nil))) (A.cons (L.ev (E.callB call_abs sc_abs (by rfl) bl.b_abs (by decide +kernel) (A.cons (L.sl (pv 1)) A.nil))) A.nil))))
    (S.cons (S.par (i := 3) (j := 4) rfl nd rfl rfl (by decide) rfl rfl (E.bin op_fdivN so_div (L.sl (pv 0)) (L.sl (pv 2))) (E.bin op_fdivN so_div (L.sl (pv 1)) (L.sl (pv 2))) (by rfl))
    (S.cons (S.set (i := 5) nd rfl (.inl rfl) (K.callL k_square_free hr (by decide) (by rfl) (A.cons (L.ev (E.bin op_mul so_mul (L.ev (E.neg (E.var (pv 3)))) (L.sl (pv 4)))) A.nil)))
    (S.cons (S.ite (PW.pt (T.or (T.not (T.val (K.callL k_is_rest_of_all hr (by decide) (by rfl) (A.cons (L.sl (pv 0)) (A.cons (L.ev (E.bin op_fdivN so_div (L.sl (pv 1)) (L.sl (pv 2)))) A.nil))))) (T.or1 (T.not (T.val (K.callL k_is_rest_of_all hr (by decide) (by rfl) (A.cons (L.sl (pv 1)) (A.cons (L.ev (E.bin op_fdivN so_div (L.sl (pv 0)) (L.sl (pv 2)))) A.nil)))))))) (S.one (S.ret E.bl)) S.nil)
    (S.one (S.ret (K.callL k_is_rest_of_all hr (by decide) (by rfl) (A.cons (L.sl (pv 5)) (A.cons (L.sl (pv 2)) A.nil)))))))))))
theorem k_root_of (n : Nat) (bl : Bl mg) (fc : Fac Kf mg "root_of" s_root_of ["number"]) : Known P w Kf mg base ⟨Kf, cl⟩ "root_of" 1 (m_root_of n) :=
  known fc sc_root_of rfl rfl fun f_ cdv_ A_ outer_ s_ H_ E_ hr => by
    have nd := sc_root_of.nd
    exact (S.cons (S.par (i := 1) (j := 2) rfl nd rfl rfl (by decide) rfl rfl E.int (E.bin op_plus so_plus (L.sl (pv 0)) (L.ev E.int)) (by rfl))
    (S.cons (S.while n PassesOwn.never (T.cmp op_gt so_gt (L.ev (E.bin op_sub so_sub (L.sl (pv 2)) (L.sl (pv 1)))) (L.ev E.int) (nomark _)) (S.cons (S.set (i := 3) nd rfl (.inl rfl) (E.bin op_fdivN so_div (L.ev (E.bin op_plus so_plus (L.sl (pv 1)) (L.sl (pv 2)))) (L.ev E.int)))
    (S.one (S.ite (T.cmp op_le so_le (L.ev (E.bin op_mul so_mul (L.sl (pv 3)) (L.sl (pv 3)))) (L.sl (pv 0)) (nomark _)) (S.one (S.set (i := 1) nd rfl (.inl rfl) (E.var (pv 3)))) (S.one (S.set (i := 2) nd rfl (.inl rfl) (E.var (pv 3))))))))
    (S.one (S.ret (E.move (pv 1))))))
theorem k_is_square (n : Nat) (bl : Bl mg) (fc : Fac Kf mg "is_square" s_is_square ["number"]) (k_root_of : Known P w Kf mg base ⟨Kf, cl⟩ "root_of" 1 (m_root_of n)) : Known P w Kf mg base ⟨Kf, cl⟩ "is_square" 2 (m_is_square n) :=
  known fc sc_is_square rfl rfl fun f_ cdv_ A_ outer_ s_ H_ E_ hr => by
    have nd := sc_is_square.nd
    exact (S.one (S.ret (E.and (E.cmp op_ge so_ge (L.sl (pv 0)) (L.ev E.int) (nomark _)) (E.one (E.cmp (op_eqD hr.units) so_eq (L.ev (E.bin op_mul so_mul (L.ev (K.callL k_root_of hr (by decide) (by rfl) (A.cons (L.sl (pv 0)) A.nil))) (L.ev (K.callL k_root_of hr (by decide) (by rfl) (A.cons (L.sl (pv 0)) A.nil))))) (L.sl (pv 0)) (nomark _))))))
theorem k_square_bar (n : Nat) (bl : Bl mg) (fc : Fac Kf mg "square_bar" s_square_bar ["points", "size", "many"]) (k_is_square_family : Known P w Kf mg base ⟨Kf, cl⟩ "is_square_family" 4 (m_is_square_family n)) (k_sums_to_nought : Known P w Kf mg base ⟨Kf, cl⟩ "sums_to_nought" 3 (m_sums_to_nought n)) (k_is_square : Known P w Kf mg base ⟨Kf, cl⟩ "is_square" 2 (m_is_square n)) : Known P w Kf mg base ⟨Kf, cl⟩ "square_bar" 5 (m_square_bar n) :=
  known fc sc_square_bar rfl rfl fun f_ cdv_ A_ outer_ s_ H_ E_ hr => by
    have nd := sc_square_bar.nd
    exact (S.cons (S.ite (T.not (T.val (K.callL k_is_square_family hr (by decide) (by rfl) (A.cons (L.sl (pv 0)) (A.cons (L.sl (pv 1)) (A.cons (L.sl (pv 2)) A.nil)))))) (S.one S.never) S.nil)
    (S.cons (S.ite (T.cmp (op_eqD hr.units) so_eq (L.sl (pv 1)) (L.sl (pv 2)) (nomark _)) (S.one (S.ret E.non)) S.nil)
    (S.cons (S.ite (T.cmp (op_eqD hr.units) so_eq (L.ev (E.bin op_modN so_mod (L.sl (pv 0)) (L.ev E.int))) (L.ev E.int) (nomark _)) (S.one (S.ret (E.ite (T.val (K.callL k_is_square hr (by decide) (by rfl) (A.cons (L.ev (E.bin op_sub so_sub (L.sl (pv 1)) (L.sl (pv 2)))) A.nil))) E.non E.str))) S.nil)
    (S.cons (S.set (i := 3) nd rfl (.inl rfl) (E.ite (T.cmp (op_eqD hr.units) so_eq (L.ev (E.bin op_modN so_mod (L.ev (E.bin op_fdivN so_div (L.ev (E.bin op_sub so_sub (L.sl (pv 0)) (L.ev E.int))) (L.ev E.int))) (L.ev E.int))) (L.ev E.int) (nomark _)) E.int (E.neg E.int)))
    (S.one (S.ret (E.ite (T.val (K.callL k_sums_to_nought hr (by decide) (by rfl) (A.cons (L.ev (E.bin op_sub so_sub (L.sl (pv 1)) (L.sl (pv 2)))) (A.cons (L.ev (E.bin op_mul so_mul (L.sl (pv 3)) (L.sl (pv 2)))) A.nil)))) E.non E.str)))))))
theorem k_bars (n : Nat) (bl : Bl mg) (fc : Fac Kf mg "bars" s_bars ["points", "size", "many", "told"]) (k_check_numbers : Known P w Kf mg base ⟨Kf, cl⟩ "check_numbers" 3 (m_check_numbers n)) (k_shares_by : Known P w Kf mg base ⟨Kf, cl⟩ "shares_by" 2 (m_shares_by n)) (k_square_bar : Known P w Kf mg base ⟨Kf, cl⟩ "square_bar" 5 (m_square_bar n)) : Known P w Kf mg base ⟨Kf, cl⟩ "bars" 6 (m_bars n) :=
  known fc sc_bars rfl rfl fun f_ cdv_ A_ outer_ s_ H_ E_ hr => by
    have nd := sc_bars.nd
    exact (S.cons (S.expr (K.callL k_check_numbers hr (by decide) (by rfl) (A.cons (L.sl (pv 0)) (A.cons (L.sl (pv 1)) (A.cons (L.sl (pv 2)) (A.cons (L.sl (pv 3)) A.nil))))))
    (S.cons (S.set (i := 4) nd rfl (.inl rfl) (K.call k_shares_by hr (by decide) (by rfl) (AF.cons (E.var (pv 0)) (AF.cons (E.var (pv 1)) (AF.cons (E.var (pv 2)) (AF.cons (E.var (pv 3)) AF.nil))))))
    (S.cons (S.ite (T.cmp op_isN so_isN (L.sl (pv 4)) (L.ev E.non) (nomark _)) (S.one (S.ret (E.lst (AF.cons E.str AF.nil)))) S.nil)
    (S.cons (S.set (i := 5) nd rfl (.inl rfl) (E.lst AF.nil))
    (S.cons (S.ite (PW.pt (T.and (T.cmp op_ge so_ge (L.sl (pv 3)) (L.ev E.int) (nomark _)) (T.and1 (T.cmp op_lt so_lt (L.sl (pv 1)) (L.sl (pv 0)) (nomark _))))) (S.cons (S.set (i := 6) nd rfl (.inl rfl) (E.ix ix_seq so_ix (L.sl (pv 4)) (L.ev E.int) (fun _ _ => rfl)))
    (S.cons (S.ite (T.cmp op_lt so_lt (L.ev (E.ix ix_seq so_ix (L.sl (pv 4)) (L.ev E.int) (fun _ _ => rfl))) (L.sl (pv 0)) (nomark _)) (S.one (S.expr (E.app (pv 5) E.str))) S.nil)
    (S.one (S.ite (PW.pt (T.and (T.cmp (op_eqD hr.units) so_eq (L.ev (E.ix ix_seq so_ix (L.sl (pv 4)) (L.ev E.int) (fun _ _ => rfl))) (L.sl (pv 0)) (nomark _)) (T.and1 (T.cmp op_notN so_notN (L.ev (K.callL k_square_bar hr (by decide) (by rfl) (A.cons (L.sl (pv 0)) (A.cons (L.sl (pv 1)) (A.cons (L.sl (pv 6)) A.nil))))) (L.ev E.non) (nomark _))))) (S.one (S.expr (E.app (pv 5) (K.callL k_square_bar hr (by decide) (by rfl) (A.cons (L.sl (pv 0)) (A.cons (L.sl (pv 1)) (A.cons (L.sl (pv 6)) A.nil))))))) S.nil)))) S.nil)
    (S.one (S.ret (E.move (pv 5)))))))))
theorem k_free_numbers (n : Nat) (bl : Bl mg) (fc : Fac Kf mg "free_numbers" s_free_numbers ["points", "told"]) {t_MOST_SIZE : Tok} (gc_MOST_SIZE : mg "MOST_SIZE" = some (.int 6 t_MOST_SIZE)) (k_is_within : Known P w Kf mg base ⟨Kf, cl⟩ "is_within" 2 (m_is_within n)) (k_bars : Known P w Kf mg base ⟨Kf, cl⟩ "bars" 6 (m_bars n)) : Known P w Kf mg base ⟨Kf, cl⟩ "free_numbers" 7 (m_free_numbers n) :=
  known fc sc_free_numbers rfl rfl fun f_ cdv_ A_ outer_ s_ H_ E_ hr => by
    have nd := sc_free_numbers.nd
    exact (S.cons (S.ite (PW.pt (T.or (T.not (T.val (K.callL k_is_within hr (by decide) (by rfl) (A.cons (L.sl (pv 0)) (A.cons (L.ev E.int) (A.cons (L.ev E.int) A.nil)))))) (T.or1 (T.not (T.val (K.callL k_is_within hr (by decide) (by rfl) (A.cons (L.sl (pv 1)) (A.cons (L.ev E.int) (A.cons (L.ev (E.gl (v := .int 6) (by rfl) gc_MOST_SIZE ⟨_, rfl⟩ (fun _ => rfl))) A.nil))))))))) (S.one S.never) S.nil)
    (S.cons (S.set (i := 2) nd rfl (.inl rfl) (E.lst AF.nil))
    (S.cons (S.for PassesOwn.never rfl (I.range2 (by rfl) bl.b_range (AF.cons (E.bin op_plus so_plus (L.sl (pv 1)) (L.ev E.int)) (AF.cons (E.bin op_plus so_plus (L.ev (E.bin op_fdivN so_div (L.sl (pv 0)) (L.ev E.int))) (L.ev E.int)) AF.nil))) (G.name (i := 3) nd rfl (.inl rfl)) (S.cons (S.set (i := 4) nd rfl (.inl rfl) E.int)
    (S.cons (S.while n PassesOwn.never (PW.pt (T.and (T.cmp op_le so_le (L.sl (pv 4)) (L.ev E.int) (nomark _)) (T.and1 (T.cmp op_gt so_gt (L.ev (E.callB call_len sc_len (by rfl) bl.b_len (by decide +kernel) (A.cons (L.ev (K.call k_bars hr (by decide) (by rfl) (AF.cons (E.var (pv 0)) (AF.cons (E.var (pv 3)) (AF.cons (E.var (pv 4)) (AF.cons (E.var (pv 1)) AF.nil)))))) A.nil))) (L.ev E.int) (nomark _))))) (S.one (S.aug (i := 4) nd rfl (.inl rfl) iop_add so_add (L.ev E.int))))
    (S.one (S.ite (T.cmp op_le so_le (L.sl (pv 4)) (L.ev E.int) (nomark _)) (S.one (S.expr (E.app (pv 2) (E.tup (AF.cons (E.var (pv 3)) (AF.cons (E.var (pv 4)) AF.nil)))))) S.nil)))))
    (S.one (S.ret (E.move (pv 2)))))))
theorem k__law_draw (n : Nat) (bl : Bl mg) (fc : Fac Kf mg "_law_draw" s__law_draw ["hand", "many"]) : Known P w Kf mg base ⟨Kf, cl⟩ "_law_draw" 1 (m__law_draw n) :=
  known fc sc__law_draw rfl rfl fun f_ cdv_ A_ outer_ s_ H_ E_ hr => by
    have nd := sc__law_draw.nd
    exact (S.cons (S.ite (PW.pt (T.and (T.cmp (op_eqD hr.units) so_eq (L.ev (E.ix ix_seq so_ix (L.sl (pv 0)) (L.ev E.int) (fun _ _ => rfl))) (L.ev E.int) (nomark _)) (T.and1 (T.cmp op_lt so_lt (L.ev (E.ix ix_seq so_ix (L.sl (pv 0)) (L.ev E.int) (fun _ _ => rfl))) (L.ev (E.callB call_len sc_len (by rfl) bl.b_len (by decide +kernel) (A.cons (L.ev (E.ix ix_seq so_ix (L.sl (pv 0)) (L.ev E.int) (fun _ _ => rfl))) A.nil))) (nomark _))))) (S.cons (S.set (i := 2) nd rfl (.inl rfl) (E.ix ix_seq so_ix (L.ev (E.ix ix_seq so_ix (L.sl (pv 0)) (L.ev E.int) (fun _ _ => rfl))) (L.ev (E.ix ix_seq so_ix (L.sl (pv 0)) (L.ev E.int) (fun _ _ => rfl))) (fun _ _ => rfl)))
    (S.cons (S.setIx (pv 0) E.int (E.bin op_plus so_plus (L.ev (E.ix ix_seq so_ix (L.sl (pv 0)) (L.ev E.int) (fun _ _ => rfl))) (L.ev E.int)))
    (S.cons (S.setIx (pv 0) E.int (E.bin op_modN so_mod (L.ev (E.callTy call_int1 sc_int (by rfl) bl.b_int (by decide +kernel) (A.cons (L.ev (E.bin op_plus so_plus (L.ev (E.bin op_plus so_plus (L.ev (E.bin op_mul so_mul (L.ev (E.ix ix_seq so_ix (L.sl (pv 0)) (L.ev E.int) (fun _ _ => rfl))) (L.ev E.int))) (L.ev (E.bin op_mul so_mul (L.sl (pv 2)) (L.ev E.int))))) (L.ev E.int))) A.nil))) (L.ev E.int)))
    (S.one (S.ite (T.cmp op_ge so_ge (L.sl (pv 2)) (L.ev (E.bin op_pow so_pow (L.ev E.int) (L.ev E.int))) (nomark _)) (S.one (S.setIx (pv 0) E.int (E.var (pv 2)))) S.nil))))) S.nil)
    (S.cons (S.ite (T.cmp op_gt so_gt (L.ev (E.ix ix_seq so_ix (L.sl (pv 0)) (L.ev E.int) (fun _ _ => rfl))) (L.ev E.int) (nomark _)) (S.cons (S.set (i := 3) nd rfl (.inl rfl) (E.bin op_modN so_mod (L.ev (E.callTy call_int1 sc_int (by rfl) bl.b_int (by decide +kernel) (A.cons (L.ev (E.ix ix_seq so_ix (L.sl (pv 0)) (L.ev E.int) (fun _ _ => rfl))) A.nil))) (L.sl (pv 1))))
    (S.cons (S.setIx (pv 0) E.int (E.bin op_fdivN so_div (L.ev (E.ix ix_seq so_ix (L.sl (pv 0)) (L.ev E.int) (fun _ _ => rfl))) (L.sl (pv 1))))
    (S.one (S.ret (E.move (pv 3)))))) S.nil)
    (S.cons (S.setIx (pv 0) E.int (E.bin op_plus so_plus (L.ev (E.ix ix_seq so_ix (L.sl (pv 0)) (L.ev E.int) (fun _ _ => rfl))) (L.ev E.int)))
    (S.cons (S.set (i := 4) nd rfl (.inl rfl) (E.bin op_modN so_mod (L.ev (E.callTy call_int1 sc_int (by rfl) bl.b_int (by decide +kernel) (A.cons (L.ev (E.bin op_mul so_mul (L.ev (E.callTy call_int1 sc_int (by rfl) bl.b_int (by decide +kernel) (A.cons (L.ev (E.bin op_plus so_plus (L.ev (E.ix ix_seq so_ix (L.sl (pv 0)) (L.ev E.int) (fun _ _ => rfl))) (L.ev (E.bin op_mul so_mul (L.ev E.int) (L.ev (E.ix ix_seq so_ix (L.sl (pv 0)) (L.ev E.int) (fun _ _ => rfl))))))) A.nil))) (L.ev E.int))) A.nil))) (L.ev E.int)))
    (S.cons (S.set (i := 4) nd rfl (.inl rfl) (E.bin op_modN so_mod (L.ev (E.callTy call_int1 sc_int (by rfl) bl.b_int (by decide +kernel) (A.cons (L.ev (E.bin op_mul so_mul (L.sl (pv 4)) (L.ev (E.bin op_plus so_plus (L.ev (E.bin op_fdivN so_div (L.sl (pv 4)) (L.ev E.int))) (L.ev E.int))))) A.nil))) (L.ev E.int)))
    (S.cons (S.set (i := 4) nd rfl (.inl rfl) (E.bin op_modN so_mod (L.ev (E.callTy call_int1 sc_int (by rfl) bl.b_int (by decide +kernel) (A.cons (L.ev (E.bin op_mul so_mul (L.sl (pv 4)) (L.ev (E.bin op_plus so_plus (L.ev (E.bin op_fdivN so_div (L.sl (pv 4)) (L.ev E.int))) (L.ev E.int))))) A.nil))) (L.ev E.int)))
    (S.one (S.ret (E.bin op_modN so_mod (L.ev (E.callTy call_int1 sc_int (by rfl) bl.b_int (by decide +kernel) (A.cons (L.ev (E.bin op_fdivN so_div (L.sl (pv 4)) (L.ev E.int))) A.nil))) (L.sl (pv 1)))))))))))
theorem k__law_squares (n : Nat) (bl : Bl mg) (fc : Fac Kf mg "_law_squares" s__law_squares ["hand"]) (k__law_draw : Known P w Kf mg base ⟨Kf, cl⟩ "_law_draw" 1 (m__law_draw n)) : Known P w Kf mg base ⟨Kf, cl⟩ "_law_squares" 2 (m__law_squares n) :=
  known fc sc__law_squares rfl rfl fun f_ cdv_ A_ outer_ s_ H_ E_ hr => by
    have nd := sc__law_squares.nd
    exact (S.cons (S.set (i := 1) nd rfl (.inl rfl) (E.bin op_plus so_plus (L.ev E.int) (L.ev (K.callM k__law_draw hr (by decide) (by rfl) (pv 0) (AF.cons E.int AF.nil)))))
    (S.one (S.while n PassesOwn.never (T.val E.bl) (S.cons (S.set (i := 2) nd rfl (.inl rfl) (E.bin op_plus so_plus (L.ev E.int) (L.ev (K.callM k__law_draw hr (by decide) (by rfl) (pv 0) (AF.cons E.int AF.nil)))))
    (S.cons (S.ite (PW.pt (T.and (T.cmp (op_eqD hr.units) so_eq (L.ev (E.bin op_modN so_mod (L.ev (E.callTy call_int1 sc_int (by rfl) bl.b_int (by decide +kernel) (A.cons (L.ev (E.bin op_mul so_mul (L.sl (pv 2)) (L.ev (E.bin op_sub so_sub (L.sl (pv 2)) (L.ev E.int))))) A.nil))) (L.sl (pv 1)))) (L.ev E.int) (nomark _)) (T.and1 (T.cmp op_gt so_gt (L.sl (pv 2)) (L.sl (pv 1)) (nomark _))))) (S.cons (S.set (i := 3) nd rfl (.inl rfl) (E.bin op_plus so_plus (L.ev (E.bin op_fdivN so_div (L.ev (E.bin op_mul so_mul (L.sl (pv 2)) (L.ev (E.bin op_sub so_sub (L.sl (pv 2)) (L.ev E.int))))) (L.sl (pv 1)))) (L.ev E.int)))
    (S.one (S.ite (T.chain op_le op_le so_le so_le (L.sl (pv 2)) (L.sl (pv 3)) (L.ev E.int)) (S.one (S.ret (E.tup (AF.cons (E.var (pv 3)) (AF.cons (E.var (pv 2)) (AF.cons (E.var (pv 1)) AF.nil)))))) S.nil))) S.nil)
    (S.one (S.set (i := 1) nd rfl (.inl rfl) (E.bin op_plus so_plus (L.ev E.int) (L.ev (K.callM k__law_draw hr (by decide) (by rfl) (pv 0) (AF.cons E.int AF.nil)))))))))))
theorem k__law_parts (n : Nat) (bl : Bl mg) (fc : Fac Kf mg "_law_parts" s__law_parts ["number"]) : Known P w Kf mg base ⟨Kf, cl⟩ "_law_parts" 1 (m__law_parts n) :=
  known fc sc__law_parts rfl rfl fun f_ cdv_ A_ outer_ s_ H_ E_ hr => by
    have nd := sc__law_parts.nd
    exact (S.cons (S.parO (i := 1) (j := 2) rfl nd rfl rfl (by decide) rfl rfl (E.lst AF.nil) (by rfl))
    (S.cons (S.while n PassesOwn.never (T.cmp op_le so_le (L.ev (E.bin op_mul so_mul (L.sl (pv 2)) (L.sl (pv 2)))) (L.sl (pv 0)) (nomark _)) (S.cons (S.set (i := 3) nd rfl (.inl rfl) E.int)
    (S.cons (S.while n PassesOwn.never (T.cmp (op_eqD hr.units) so_eq (L.ev (E.bin op_modN so_mod (L.ev (E.callTy call_int1 sc_int (by rfl) bl.b_int (by decide +kernel) (A.cons (L.sl (pv 0)) A.nil))) (L.sl (pv 2)))) (L.ev E.int) (nomark _)) (S.one (S.par (i := 0) (j := 3) rfl nd rfl rfl (by decide) rfl rfl (E.bin op_fdivN so_div (L.sl (pv 0)) (L.sl (pv 2))) (E.bin op_plus so_plus (L.sl (pv 3)) (L.ev E.int)) (by rfl))))
    (S.cons (S.expr (E.ext (pv 1) (E.ite (T.cmp op_gt so_gt (L.sl (pv 3)) (L.ev E.int) (nomark _)) (E.lst (AF.cons (E.tup (AF.cons (E.var (pv 2)) (AF.cons (E.var (pv 3)) AF.nil))) AF.nil)) (E.lst AF.nil))))
    (S.one (S.set (i := 2) nd rfl (.inl rfl) (E.bin op_plus so_plus (L.sl (pv 2)) (L.ev E.int))))))))
    (S.one (S.ret (E.bin op_plus so_plus (L.sl (pv 1)) (L.ev (E.ite (T.cmp op_gt so_gt (L.sl (pv 0)) (L.ev E.int) (nomark _)) (E.lst (AF.cons (E.tup (AF.cons (E.var (pv 0)) (AF.cons E.int AF.nil))) AF.nil)) (E.lst AF.nil))))))))
theorem k__law_bare (n : Nat) (bl : Bl mg) (fc : Fac Kf mg "_law_bare" s__law_bare ["number"]) (k__law_parts : Known P w Kf mg base ⟨Kf, cl⟩ "_law_parts" 1 (m__law_parts n)) : Known P w Kf mg base ⟨Kf, cl⟩ "_law_bare" 2 (m__law_bare n) :=
  known fc sc__law_bare rfl rfl fun f_ cdv_ A_ outer_ s_ H_ E_ hr => by
    have nd := sc__law_bare.nd
    exact (S.cons (S.set (i := 1) nd rfl (.inl rfl) (E.ite (T.cmp op_gt so_gt (L.sl (pv 0)) (L.ev E.int) (nomark _)) E.int (E.neg E.int)))
    (S.cons (S.for PassesOwn.never rfl (I.lst rfl (K.call k__law_parts hr (by decide) (by rfl) (AF.cons (E.callB call_abs sc_abs (by rfl) bl.b_abs (by decide +kernel) (A.cons (L.sl (pv 0)) A.nil)) AF.nil))) (G.tup rfl rfl (G.cons (G.name (i := 2) nd rfl (.inl rfl)) (G.cons (G.name (i := 3) nd rfl (.inl rfl)) G.nil))) (S.one (S.set (i := 1) nd rfl (.inl rfl) (E.bin op_mul so_mul (L.sl (pv 1)) (L.ev (E.ite (T.cmp (op_eqD hr.units) so_eq (L.ev (E.bin op_modN so_mod (L.ev (E.callTy call_int1 sc_int (by rfl) bl.b_int (by decide +kernel) (A.cons (L.sl (pv 3)) A.nil))) (L.ev E.int))) (L.ev E.int) (nomark _)) (E.var (pv 2)) E.int))))))
    (S.one (S.ret (E.move (pv 1))))))
theorem k__law_is_rest (n : Nat) (bl : Bl mg) (fc : Fac Kf mg "_law_is_rest" s__law_is_rest ["number", "prime"]) : Known P w Kf mg base ⟨Kf, cl⟩ "_law_is_rest" 1 (m__law_is_rest n) :=
  known fc sc__law_is_rest rfl rfl fun f_ cdv_ A_ outer_ s_ H_ E_ hr => by
    have nd := sc__law_is_rest.nd
    exact (S.cons (S.par3 (i := 2) (j := 3) (l := 4) rfl nd rfl rfl rfl (by decide) (by decide) (by decide) rfl rfl rfl E.int (E.bin op_modN so_mod (L.ev (E.callTy call_int1 sc_int (by rfl) bl.b_int (by decide +kernel) (A.cons (L.sl (pv 0)) A.nil))) (L.sl (pv 1))) (E.bin op_fdivN so_div (L.ev (E.bin op_sub so_sub (L.sl (pv 1)) (L.ev E.int))) (L.ev E.int)) (by rfl))
    (S.cons (S.while n PassesOwn.never (T.cmp op_gt so_gt (L.sl (pv 4)) (L.ev E.int) (nomark _)) (S.cons (S.set (i := 2) nd rfl (.inl rfl) (E.ite (T.cmp (op_eqD hr.units) so_eq (L.ev (E.bin op_modN so_mod (L.ev (E.callTy call_int1 sc_int (by rfl) bl.b_int (by decide +kernel) (A.cons (L.sl (pv 4)) A.nil))) (L.ev E.int))) (L.ev E.int) (nomark _)) (E.bin op_modN so_mod (L.ev (E.callTy call_int1 sc_int (by rfl) bl.b_int (by decide +kernel) (A.cons (L.ev (E.bin op_mul so_mul (L.sl (pv 2)) (L.sl (pv 3)))) A.nil))) (L.sl (pv 1))) (E.var (pv 2))))
    (S.one (S.par (i := 3) (j := 4) rfl nd rfl rfl (by decide) rfl rfl (E.bin op_modN so_mod (L.ev (E.callTy call_int1 sc_int (by rfl) bl.b_int (by decide +kernel) (A.cons (L.ev (E.bin op_mul so_mul (L.sl (pv 3)) (L.sl (pv 3)))) A.nil))) (L.sl (pv 1))) (E.bin op_fdivN so_div (L.sl (pv 4)) (L.ev E.int)) (by rfl)))))
    (S.one (S.ret (E.cmp (op_eqD hr.units) so_eq (L.sl (pv 2)) (L.ev E.int) (nomark _))))))
theorem k__law_sums (n : Nat) (bl : Bl mg) (fc : Fac Kf mg "_law_sums" s__law_sums ["a", "b"]) (k__law_parts : Known P w Kf mg base ⟨Kf, cl⟩ "_law_parts" 1 (m__law_parts n)) (k__law_bare : Known P w Kf mg base ⟨Kf, cl⟩ "_law_bare" 2 (m__law_bare n)) (k__law_is_rest : Known P w Kf mg base ⟨Kf, cl⟩ "_law_is_rest" 1 (m__law_is_rest n)) : Known P w Kf mg base ⟨Kf, cl⟩ "_law_sums" 3 (m__law_sums n) :=
  known fc sc__law_sums rfl rfl fun f_ cdv_ A_ outer_ s_ H_ E_ hr => by
    have nd := sc__law_sums.nd
    exact (S.cons (S.par (i := 0) (j := 1) rfl nd rfl rfl (by decide) rfl rfl (K.callL k__law_bare hr (by decide) (by rfl) (A.cons (L.sl (pv 0)) A.nil)) (K.callL k__law_bare hr (by decide) (by rfl) (A.cons (L.sl (pv 1)) A.nil)) (by rfl))
    (S.cons (S.ite (PW.pt (T.and (T.cmp op_lt so_lt (L.sl (pv 0)) (L.ev E.int) (nomark _)) (T.and1 (T.cmp op_lt so_lt (L.sl (pv 1)) (L.ev E.int) (nomark _))))) (S.one (S.ret E.bl)) S.nil)
    (S.cons (S.for PassesOwn.never rfl (I.lst rfl (E.callB (cr_sortLD rfl) sc_sortI (by rfl) bl.b_sorted (by decide +kernel) (A.cons (L.ev (E.callTy (call_dictP rfl) sc_dictP (by rfl) bl.b_dict (by decide +kernel) (A.cons (L.ev (E.bin op_plus so_plus (L.ev (K.call k__law_parts hr (by decide) (by rfl) (AF.cons (E.callB call_abs sc_abs (by rfl) bl.b_abs (by decide +kernel) (A.cons (L.sl (pv 0)) A.nil)) AF.nil))) (L.ev (K.call k__law_parts hr (by decide) (by rfl) (AF.cons (E.callB call_abs sc_abs (by rfl) bl.b_abs (by decide +kernel) (A.cons (L.sl (pv 1)) A.nil)) AF.nil))))) A.nil))) A.nil))) (G.name (i := 2) nd rfl (.inl rfl)) (S.one (S.ite (T.cmp op_gt so_gt (L.sl (pv 2)) (L.ev E.int) (nomark _)) (S.cons (S.par (i := 3) (j := 4) rfl nd rfl rfl (by decide) rfl rfl (E.cmp (op_eqD hr.units) so_eq (L.ev (E.bin op_modN so_mod (L.ev (E.callTy call_int1 sc_int (by rfl) bl.b_int (by decide +kernel) (A.cons (L.sl (pv 0)) A.nil))) (L.sl (pv 2)))) (L.ev E.int) (nomark _)) (E.cmp (op_eqD hr.units) so_eq (L.ev (E.bin op_modN so_mod (L.ev (E.callTy call_int1 sc_int (by rfl) bl.b_int (by decide +kernel) (A.cons (L.sl (pv 1)) A.nil))) (L.sl (pv 2)))) (L.ev E.int) (nomark _)) (by rfl))
    (S.one (S.ite (PW.pt (T.and (T.val (E.var (pv 3))) (T.and1 (T.val (E.var (pv 4)))))) (S.one (S.ite (T.not (T.val (K.callL k__law_is_rest hr (by decide) (by rfl) (A.cons (L.ev (E.bin op_sub so_sub (L.ev E.int) (L.ev (E.bin op_mul so_mul (L.ev (E.bin op_fdivN so_div (L.sl (pv 0)) (L.sl (pv 2)))) (L.ev (E.bin op_fdivN so_div (L.sl (pv 1)) (L.sl (pv 2)))))))) (A.cons (L.sl (pv 2)) A.nil))))) (S.one (S.ret E.bl)) S.nil)) (S.one (S.ite (T.not (T.val (K.callL k__law_is_rest hr (by decide) (by rfl) (A.cons (L.ev (E.ite (T.val (E.var (pv 3))) (E.var (pv 1)) (E.var (pv 0)))) (A.cons (L.sl (pv 2)) A.nil))))) (S.one (S.ret E.bl)) S.nil))))) S.nil)))
    (S.one (S.ret E.bl)))))
theorem k__law_root (n : Nat) (bl : Bl mg) (fc : Fac Kf mg "_law_root" s__law_root ["number"]) : Known P w Kf mg base ⟨Kf, cl⟩ "_law_root" 1 (m__law_root n) :=
  known fc sc__law_root rfl rfl fun f_ cdv_ A_ outer_ s_ H_ E_ hr => by
    have nd := sc__law_root.nd
    exact (S.cons (S.par (i := 1) (j := 2) rfl nd rfl rfl (by decide) rfl rfl E.int (E.bin op_plus so_plus (L.sl (pv 0)) (L.ev E.int)) (by rfl))
    (S.cons (S.while n PassesOwn.never (T.cmp op_gt so_gt (L.ev (E.bin op_sub so_sub (L.sl (pv 2)) (L.sl (pv 1)))) (L.ev E.int) (nomark _)) (S.cons (S.set (i := 3) nd rfl (.inl rfl) (E.bin op_fdivN so_div (L.ev (E.bin op_plus so_plus (L.sl (pv 1)) (L.sl (pv 2)))) (L.ev E.int)))
    (S.one (S.asg (E.ite (T.cmp op_le so_le (L.ev (E.bin op_mul so_mul (L.sl (pv 3)) (L.sl (pv 3)))) (L.sl (pv 0)) (nomark _)) (E.tup (AF.cons (E.var (pv 3)) (AF.cons (E.var (pv 2)) AF.nil))) (E.tup (AF.cons (E.var (pv 1)) (AF.cons (E.var (pv 3)) AF.nil)))) (G.tup rfl rfl (G.cons (G.name (i := 1) nd rfl (.inl rfl)) (G.cons (G.name (i := 2) nd rfl (.inl rfl)) G.nil)))))))
    (S.one (S.ret (E.move (pv 1))))))
theorem k__law_is_square (n : Nat) (bl : Bl mg) (fc : Fac Kf mg "_law_is_square" s__law_is_square ["number"]) (k__law_root : Known P w Kf mg base ⟨Kf, cl⟩ "_law_root" 1 (m__law_root n)) : Known P w Kf mg base ⟨Kf, cl⟩ "_law_is_square" 2 (m__law_is_square n) :=
  known fc sc__law_is_square rfl rfl fun f_ cdv_ A_ outer_ s_ H_ E_ hr => by
    have nd := sc__law_is_square.nd
    exact (S.one (S.ret (E.cmp (op_eqD hr.units) so_eq (L.ev (E.bin op_mul so_mul (L.ev (K.callL k__law_root hr (by decide) (by rfl) (A.cons (L.sl (pv 0)) A.nil))) (L.ev (K.callL k__law_root hr (by decide) (by rfl) (A.cons (L.sl (pv 0)) A.nil))))) (L.sl (pv 0)) (nomark _))))
theorem k__law_bar (n : Nat) (bl : Bl mg) (fc : Fac Kf mg "_law_bar" s__law_bar ["points", "size", "many"]) (k__law_sums : Known P w Kf mg base ⟨Kf, cl⟩ "_law_sums" 3 (m__law_sums n)) (k__law_is_square : Known P w Kf mg base ⟨Kf, cl⟩ "_law_is_square" 2 (m__law_is_square n)) : Known P w Kf mg base ⟨Kf, cl⟩ "_law_bar" 4 (m__law_bar n) :=
  known fc sc__law_bar rfl rfl fun f_ cdv_ A_ outer_ s_ H_ E_ hr => by
    have nd := sc__law_bar.nd
    exact (S.cons (S.ite (T.cmp (op_eqD hr.units) so_eq (L.sl (pv 1)) (L.sl (pv 2)) (nomark _)) (S.one (S.ret E.non)) S.nil)
    (S.cons (S.ite (T.cmp (op_eqD hr.units) so_eq (L.ev (E.bin op_modN so_mod (L.ev (E.callTy call_int1 sc_int (by rfl) bl.b_int (by decide +kernel) (A.cons (L.sl (pv 0)) A.nil))) (L.ev E.int))) (L.ev E.int) (nomark _)) (S.one (S.ret (E.ite (T.val (K.callL k__law_is_square hr (by decide) (by rfl) (A.cons (L.ev (E.bin op_sub so_sub (L.sl (pv 1)) (L.sl (pv 2)))) A.nil))) E.non E.str))) S.nil)
    (S.cons (S.set (i := 3) nd rfl (.inl rfl) (E.ite (T.cmp (op_eqD hr.units) so_eq (L.ev (E.bin op_modN so_mod (L.ev (E.callTy call_int1 sc_int (by rfl) bl.b_int (by decide +kernel) (A.cons (L.ev (E.bin op_fdivN so_div (L.ev (E.bin op_sub so_sub (L.sl (pv 0)) (L.ev E.int))) (L.ev E.int))) A.nil))) (L.ev E.int))) (L.ev E.int) (nomark _)) E.int (E.neg E.int)))
    (S.one (S.ret (E.ite (T.val (K.callL k__law_sums hr (by decide) (by rfl) (A.cons (L.ev (E.bin op_sub so_sub (L.sl (pv 1)) (L.sl (pv 2)))) (A.cons (L.ev (E.bin op_mul so_mul (L.sl (pv 3)) (L.sl (pv 2)))) A.nil)))) E.non E.str))))))
theorem k__law_is_plane_free (n : Nat) (bl : Bl mg) (fc : Fac Kf mg "_law_is_plane_free" s__law_is_plane_free ["order"]) (k__law_root : Known P w Kf mg base ⟨Kf, cl⟩ "_law_root" 1 (m__law_root n)) (k__law_is_square : Known P w Kf mg base ⟨Kf, cl⟩ "_law_is_square" 2 (m__law_is_square n)) : Known P w Kf mg base ⟨Kf, cl⟩ "_law_is_plane_free" 3 (m__law_is_plane_free n) :=
  known fc sc__law_is_plane_free rfl rfl fun f_ cdv_ A_ outer_ s_ H_ E_ hr => by
    have nd := sc__law_is_plane_free.nd
    exact (S.cons (S.ite (T.cmp (op_notIn (hu65 hr)) so_notIn (L.ev (E.bin op_modN so_mod (L.ev (E.callTy call_int1 sc_int (by rfl) bl.b_int (by decide +kernel) (A.cons (L.sl (pv 0)) A.nil))) (L.ev E.int))) (L.ev (E.tup (AF.cons E.int (AF.cons E.int AF.nil)))) rfl) (S.one (S.ret E.bl)) S.nil)
    (S.one (S.ret (E.callB (cr_any rfl) sc_any (by rfl) bl.b_any (by decide +kernel) (A.cons (L.ev (E.lc (own := [("one", 1)]) rfl nd  (I.range1 (by rfl) bl.b_range (AF.cons (E.bin op_plus so_plus (L.ev (K.callL k__law_root hr (by decide) (by rfl) (A.cons (L.sl (pv 0)) A.nil))) (L.ev E.int)) AF.nil)) (blkOk_by (N := ["order", "one"]) (sc := defScope s__law_is_plane_free) (by decide +kernel)) (fun _ _ _ _ _ => (G.name (i := 1) nd rfl (.inl rfl))) (fun _ _ _ _ _ => TS.nil) (fun _ _ _ _ _ => (K.callL k__law_is_square hr (by decide) (by rfl) (A.cons (L.ev (E.bin op_sub so_sub (L.sl (pv 0)) (L.ev (E.bin op_mul so_mul (L.sl (pv 1)) (L.sl (pv 1)))))) A.nil))))) A.nil)))))
theorem k__law_together (n : Nat) (bl : Bl mg) (fc : Fac Kf mg "_law_together" s__law_together ["one", "other"]) : Known P w Kf mg base ⟨Kf, cl⟩ "_law_together" 1 (m__law_together n) :=
  known fc sc__law_together rfl rfl fun f_ cdv_ A_ outer_ s_ H_ E_ hr => by
    have nd := sc__law_together.nd
    exact (S.cons (S.par (i := 2) (j := 3) rfl nd rfl rfl (by decide) rfl rfl (E.callB call_abs sc_abs (by rfl) bl.b_abs (by decide +kernel) (A.cons (L.sl (pv 0)) A.nil)) (E.callB call_abs sc_abs (by rfl) bl.b_abs (by decide +kernel) (A.cons (L.sl (pv 1)) A.nil)) (by rfl))
    (S.cons (S.while n PassesOwn.never (T.cmp op_gt so_gt (L.sl (pv 3)) (L.ev E.int) (nomark _)) (S.one (S.par (i := 2) (j := 3) rfl nd rfl rfl (by decide) rfl rfl (E.var (pv 3)) (E.bin op_modN so_mod (L.ev (E.callTy call_int1 sc_int (by rfl) bl.b_int (by decide +kernel) (A.cons (L.sl (pv 2)) A.nil))) (L.sl (pv 3))) (by rfl))))
    (S.one (S.ret (E.bin op_mul so_mul (L.ev (E.bin op_fdivN so_div (L.sl (pv 0)) (L.sl (pv 2)))) (L.ev (E.bin op_fdivN so_div (L.sl (pv 1)) (L.sl (pv 2)))))))))
theorem k__law_any (n : Nat) (bl : Bl mg) (fc : Fac Kf mg "_law_any" s__law_any ["hand", "some"]) (k__law_draw : Known P w Kf mg base ⟨Kf, cl⟩ "_law_draw" 1 (m__law_draw n)) : Known P w Kf mg base ⟨Kf, cl⟩ "_law_any" 2 (m__law_any n) :=
  known fc sc__law_any rfl rfl fun f_ cdv_ A_ outer_ s_ H_ E_ hr => by
    have nd := sc__law_any.nd
    exact (S.one (S.ret (E.ix ix_seq so_ix (L.sl (pv 1)) (L.ev (K.callM k__law_draw hr (by decide) (by rfl) (pv 0) (AF.cons (E.callB call_len sc_len (by rfl) bl.b_len (by decide +kernel) (A.cons (L.sl (pv 1)) A.nil)) AF.nil))) (fun _ _ => rfl))))
theorem k__law_integer (n : Nat) (bl : Bl mg) (fc : Fac Kf mg "_law_integer" s__law_integer ["hand"]) (k__law_draw : Known P w Kf mg base ⟨Kf, cl⟩ "_law_draw" 1 (m__law_draw n)) (k__law_any : Known P w Kf mg base ⟨Kf, cl⟩ "_law_any" 2 (m__law_any n)) : Known P w Kf mg base ⟨Kf, cl⟩ "_law_integer" 3 (m__law_integer n) :=
  known fc sc__law_integer rfl rfl fun f_ cdv_ A_ outer_ s_ H_ E_ hr => by
    have nd := sc__law_integer.nd
    exact (S.cons (S.set (i := 1) nd rfl (.inl rfl) (K.callM k__law_draw hr (by decide) (by rfl) (pv 0) (AF.cons E.int AF.nil)))
    (S.cons (S.ite (T.cmp (op_eqD hr.units) so_eq (L.sl (pv 1)) (L.ev E.int) (nomark _)) (S.one (S.set (i := 2) nd rfl (.inl rfl) (E.bin op_plus so_plus (L.ev E.int) (L.ev (K.callM k__law_draw hr (by decide) (by rfl) (pv 0) (AF.cons (E.bin op_pow so_pow (L.ev E.int) (L.ev E.int)) AF.nil)))))) (S.one (S.ite (T.cmp (op_eqD hr.units) so_eq (L.sl (pv 1)) (L.ev E.int) (nomark _)) (S.one (S.set (i := 2) nd rfl (.inl rfl) (E.bin op_plus so_plus (L.ev E.int) (L.ev (K.callM k__law_draw hr (by decide) (by rfl) (pv 0) (AF.cons E.int AF.nil)))))) (S.cons (S.set (i := 3) nd rfl (.inl rfl) (E.bin op_plus so_plus (L.ev E.int) (L.ev (K.callM k__law_draw hr (by decide) (by rfl) (pv 0) (AF.cons E.int AF.nil)))))
    (S.one (S.set (i := 2) nd rfl (.inl rfl) (E.bin op_mul so_mul (L.ev (E.bin op_mul so_mul (L.ev (E.bin op_plus so_plus (L.ev E.int) (L.ev (K.callM k__law_draw hr (by decide) (by rfl) (pv 0) (AF.cons E.int AF.nil))))) (L.sl (pv 3)))) (L.sl (pv 3)))))))))
    (S.one (S.ret (E.bin op_mul so_mul (L.sl (pv 2)) (L.ev (K.callM k__law_any hr (by decide) (by rfl) (pv 0) (AF.cons (E.lst (AF.cons E.int (AF.cons E.int (AF.cons (E.neg E.int) AF.nil)))) AF.nil))))))))
theorem k_has_sums (n : Nat) (bl : Bl mg) (fc : Fac Kf mg "has_sums" s_has_sums ["a", "b"]) (k_is_integer : Known P w Kf mg base ⟨Kf, cl⟩ "is_integer" 1 (m_is_integer n)) (k_sums_to_nought : Known P w Kf mg base ⟨Kf, cl⟩ "sums_to_nought" 3 (m_sums_to_nought n)) : Known P w Kf mg base ⟨Kf, cl⟩ "has_sums" 4 (m_has_sums n) :=
  known fc sc_has_sums rfl rfl fun f_ cdv_ A_ outer_ s_ H_ E_ hr => by
    have nd := sc_has_sums.nd
    exact (S.cons (S.ite (T.not (T.val (E.callB (cr_all rfl) sc_all (by rfl) bl.b_all (by decide +kernel) (A.cons (L.ev (E.lc (own := [("one", 2)]) rfl nd  (I.tup rfl (E.tup (AF.cons (E.var (pv 0)) (AF.cons (E.var (pv 1)) AF.nil)))) (blkOk_by (N := ["a", "b", "one"]) (sc := defScope s_has_sums) (by decide +kernel)) (fun _ _ _ _ _ => (G.name (i := 2) nd rfl (.inl rfl))) (fun _ _ _ _ _ => TS.nil) (fun _ _ _ _ _ => (E.and (K.callL k_is_integer hr (by decide) (by rfl) (A.cons (L.sl (pv 2)) A.nil)) (E.and (E.cmp (op_neD hr.units) so_ne (L.sl (pv 2)) (L.ev E.int) (nomark _)) (E.one (E.cmp op_le so_le (L.ev (E.callB call_abs sc_abs (by rfl) bl.b_abs (by decide +kernel) (A.cons (L.sl (pv 2)) A.nil))) (L.ev (E.bin op_pow so_pow (L.ev E.int) (L.ev E.int))) (nomark _)))))))) A.nil)))) (S.one S.never) S.nil)
    (S.one (S.ret (K.callL k_sums_to_nought hr (by decide) (by rfl) (A.cons (L.sl (pv 0)) (A.cons (L.sl (pv 1)) A.nil))))))
theorem k__law_are_sums_right (n : Nat) (bl : Bl mg) (fc : Fac Kf mg "_law_are_sums_right" s__law_are_sums_right ["hand"]) (k__law_draw : Known P w Kf mg base ⟨Kf, cl⟩ "_law_draw" 1 (m__law_draw n)) (k__law_bare : Known P w Kf mg base ⟨Kf, cl⟩ "_law_bare" 2 (m__law_bare n)) (k__law_sums : Known P w Kf mg base ⟨Kf, cl⟩ "_law_sums" 3 (m__law_sums n)) (k__law_together : Known P w Kf mg base ⟨Kf, cl⟩ "_law_together" 1 (m__law_together n)) (k__law_integer : Known P w Kf mg base ⟨Kf, cl⟩ "_law_integer" 3 (m__law_integer n)) (k_has_sums : Known P w Kf mg base ⟨Kf, cl⟩ "has_sums" 4 (m_has_sums n)) : Known P w Kf mg base ⟨Kf, cl⟩ "_law_are_sums_right" 5 (m__law_are_sums_right n) :=
  known fc sc__law_are_sums_right rfl rfl fun f_ cdv_ A_ outer_ s_ H_ E_ hr => by
    have nd := sc__law_are_sums_right.nd
    exact (S.cons (S.par3 (i := 1) (j := 2) (l := 3) rfl nd rfl rfl rfl (by decide) (by decide) (by decide) rfl rfl rfl (K.callM k__law_integer hr (by decide) (by rfl) (pv 0) AF.nil) (K.callM k__law_integer hr (by decide) (by rfl) (pv 0) AF.nil) (K.callM k__law_integer hr (by decide) (by rfl) (pv 0) AF.nil) (by rfl))
    (S.cons (S.set (i := 4) nd rfl (.inl rfl) (K.callL k__law_sums hr (by decide) (by rfl) (A.cons (L.sl (pv 1)) (A.cons (L.sl (pv 2)) A.nil))))
    (S.cons (S.ite (PW.pt (T.or (T.cmp (op_neD hr.units) so_ne (L.ev (E.callB call_repr sc_repr (by rfl) bl.b_repr (by decide +kernel) (A.cons (L.ev (K.callL k_has_sums hr (by decide) (by rfl) (A.cons (L.sl (pv 1)) (A.cons (L.sl (pv 2)) A.nil)))) A.nil))) (L.ev (E.callB call_repr sc_repr (by rfl) bl.b_repr (by decide +kernel) (A.cons (L.sl (pv 4)) A.nil))) (nomark _)) (T.or1 (T.cmp (op_neD hr.units) so_ne (L.ev (E.callB call_repr sc_repr (by rfl) bl.b_repr (by decide +kernel) (A.cons (L.ev (K.callL k_has_sums hr (by decide) (by rfl) (A.cons (L.sl (pv 2)) (A.cons (L.sl (pv 1)) A.nil)))) A.nil))) (L.ev (E.callB call_repr sc_repr (by rfl) bl.b_repr (by decide +kernel) (A.cons (L.sl (pv 4)) A.nil))) (nomark _))))) (S.one (S.ret E.bl)) S.nil)
    (S.cons (S.set (i := 5) nd rfl (.inl rfl) (E.bin op_plus so_plus (L.ev E.int) (L.ev (K.callM k__law_draw hr (by decide) (by rfl) (pv 0) (AF.cons E.int AF.nil)))))
    (S.cons (S.ite (PW.pt (T.and (T.cmp op_le so_le (L.ev (E.bin op_mul so_mul (L.ev (E.bin op_mul so_mul (L.ev (E.callB call_abs sc_abs (by rfl) bl.b_abs (by decide +kernel) (A.cons (L.sl (pv 1)) A.nil))) (L.sl (pv 5)))) (L.sl (pv 5)))) (L.ev (E.bin op_pow so_pow (L.ev E.int) (L.ev E.int))) (nomark _)) (T.and1 (T.cmp (op_neD hr.units) so_ne (L.ev (E.callB call_repr sc_repr (by rfl) bl.b_repr (by decide +kernel) (A.cons (L.ev (K.callL k_has_sums hr (by decide) (by rfl) (A.cons (L.ev (E.bin op_mul so_mul (L.ev (E.bin op_mul so_mul (L.sl (pv 1)) (L.sl (pv 5)))) (L.sl (pv 5)))) (A.cons (L.sl (pv 2)) A.nil)))) A.nil))) (L.ev (E.callB call_repr sc_repr (by rfl) bl.b_repr (by decide +kernel) (A.cons (L.sl (pv 4)) A.nil))) (nomark _))))) (S.one (S.ret E.bl)) S.nil)
    (S.cons (S.ite (PW.pt (T.or (T.cmp op_notBl so_notB (L.ev (K.callL k_has_sums hr (by decide) (by rfl) (A.cons (L.sl (pv 1)) (A.cons (L.ev (E.bin op_sub so_sub (L.ev E.int) (L.sl (pv 1)))) A.nil)))) (L.ev E.bl) (nomark _)) (T.or1 (PW.pt (T.and (T.cmp (op_neD hr.units) so_ne (L.sl (pv 1)) (L.ev E.int) (nomark _)) (T.and (T.cmp op_le so_le (L.ev (E.callB call_abs sc_abs (by rfl) bl.b_abs (by decide +kernel) (A.cons (L.ev (E.bin op_sub so_sub (L.ev E.int) (L.sl (pv 1)))) A.nil))) (L.ev (E.bin op_pow so_pow (L.ev E.int) (L.ev E.int))) (nomark _)) (T.and1 (T.cmp op_notBl so_notB (L.ev (K.callL k_has_sums hr (by decide) (by rfl) (A.cons (L.sl (pv 1)) (A.cons (L.ev (E.bin op_sub so_sub (L.ev E.int) (L.sl (pv 1)))) A.nil)))) (L.ev E.bl) (nomark _))))))))) (S.one (S.ret E.bl)) S.nil)
    (S.cons (S.set (i := 6) nd rfl (.inl rfl) (K.callL k__law_together hr (by decide) (by rfl) (A.cons (L.ev (K.callL k__law_bare hr (by decide) (by rfl) (A.cons (L.sl (pv 2)) A.nil))) (A.cons (L.ev (K.callL k__law_bare hr (by decide) (by rfl) (A.cons (L.sl (pv 3)) A.nil))) A.nil))))
    (S.cons (S.ite (PW.pt (T.and (T.cmp op_le so_le (L.ev (E.callB call_abs sc_abs (by rfl) bl.b_abs (by decide +kernel) (A.cons (L.sl (pv 6)) A.nil))) (L.ev (E.bin op_pow so_pow (L.ev E.int) (L.ev E.int))) (nomark _)) (T.and1 (PW.pt (T.or (T.val (E.var (pv 4))) (T.or1 (T.val (K.callL k__law_sums hr (by decide) (by rfl) (A.cons (L.sl (pv 1)) (A.cons (L.sl (pv 3)) A.nil)))))))))) (S.one (S.ret (E.cmp (op_eqD hr.units) so_eq (L.ev (K.callL k_has_sums hr (by decide) (by rfl) (A.cons (L.sl (pv 1)) (A.cons (L.sl (pv 6)) A.nil)))) (L.ev (E.and (E.var (pv 4)) (E.one (K.callL k__law_sums hr (by decide) (by rfl) (A.cons (L.sl (pv 1)) (A.cons (L.sl (pv 3)) A.nil)))))) (nomark _)))) S.nil)
    (S.one (S.ret E.bl))))))))))
theorem k_law (n : Nat) (bl : Bl mg) (fc : Fac Kf mg "law" s_law ["script"]) (k__law_hand : Known P w Kf mg base ⟨Kf, cl⟩ "_law_hand" 1 (m__law_hand n)) (k_is_square_family : Known P w Kf mg base ⟨Kf, cl⟩ "is_square_family" 4 (m_is_square_family n)) (k_square_bar : Known P w Kf mg base ⟨Kf, cl⟩ "square_bar" 5 (m_square_bar n)) (k_bars : Known P w Kf mg base ⟨Kf, cl⟩ "bars" 6 (m_bars n)) (k_free_numbers : Known P w Kf mg base ⟨Kf, cl⟩ "free_numbers" 7 (m_free_numbers n)) (k__law_draw : Known P w Kf mg base ⟨Kf, cl⟩ "_law_draw" 1 (m__law_draw n)) (k__law_squares : Known P w Kf mg base ⟨Kf, cl⟩ "_law_squares" 2 (m__law_squares n)) (k__law_bar : Known P w Kf mg base ⟨Kf, cl⟩ "_law_bar" 4 (m__law_bar n)) (k__law_is_plane_free : Known P w Kf mg base ⟨Kf, cl⟩ "_law_is_plane_free" 3 (m__law_is_plane_free n)) (k__law_are_sums_right : Known P w Kf mg base ⟨Kf, cl⟩ "_law_are_sums_right" 5 (m__law_are_sums_right n)) : Known P w Kf mg base ⟨Kf, cl⟩ "law" 8 (m_law n) :=
  known fc sc_law rfl rfl fun f_ cdv_ A_ outer_ s_ H_ E_ hr => by
    have nd := sc_law.nd
    exact (S.cons (S.set (i := 1) nd rfl (.inr rfl) (K.call k__law_hand hr (by decide) (by rfl) (AF.cons (E.var (pv 0)) AF.nil)))
    (S.cons (S.ite (T.not (T.val (E.callB (cr_all rfl) sc_all (by rfl) bl.b_all (by decide +kernel) (A.cons (L.ev (E.lc (own := [("lap", 2)]) rfl nd  (I.range1 (by rfl) bl.b_range (AF.cons E.int AF.nil)) (blkOk_by (N := ["script", "hand", "lap", "points", "size", "many", "due", "order", "told", "pairs"]) (sc := defScope s_law) (by decide +kernel)) (fun _ _ _ _ _ => (G.name (i := 2) nd rfl (.inl rfl))) (fun _ _ _ _ _ => TS.nil) (fun _ _ _ _ _ => (K.callM k__law_are_sums_right hr (by decide) (by rfl) (pv 1) AF.nil)))) A.nil)))) (S.one (S.ret E.bl)) S.nil)
    (S.cons (S.for PassesOwn.never rfl (I.range1 (by rfl) bl.b_range (AF.cons E.int AF.nil)) (G.name (i := 2) nd rfl (.inl rfl)) (S.cons (S.asg (K.callM k__law_squares hr (by decide) (by rfl) (pv 1) AF.nil) (G.tup rfl rfl (G.cons (G.name (i := 3) nd rfl (.inl rfl)) (G.cons (G.name (i := 4) nd rfl (.inl rfl)) (G.cons (G.name (i := 5) nd rfl (.inl rfl)) G.nil)))))
    (S.cons (S.ite (T.cmp op_notBl so_notB (L.ev (K.callL k_is_square_family hr (by decide) (by rfl) (A.cons (L.sl (pv 3)) (A.cons (L.sl (pv 4)) (A.cons (L.sl (pv 5)) A.nil))))) (L.ev E.bl) (nomark _)) (S.one (S.ret E.bl)) S.nil)
    (S.cons (S.set (i := 6) nd rfl (.inl rfl) (K.callL k__law_bar hr (by decide) (by rfl) (A.cons (L.sl (pv 3)) (A.cons (L.sl (pv 4)) (A.cons (L.sl (pv 5)) A.nil)))))
    (S.cons (S.ite (T.cmp (op_neD hr.units) so_ne (L.ev (E.callB call_repr sc_repr (by rfl) bl.b_repr (by decide +kernel) (A.cons (L.ev (K.callL k_square_bar hr (by decide) (by rfl) (A.cons (L.sl (pv 3)) (A.cons (L.sl (pv 4)) (A.cons (L.sl (pv 5)) A.nil))))) A.nil))) (L.ev (E.callB call_repr sc_repr (by rfl) bl.b_repr (by decide +kernel) (A.cons (L.sl (pv 6)) A.nil))) (nomark _)) (S.one (S.ret E.bl)) S.nil)
    (S.one (S.ite (PW.pt (T.and (T.cmp op_lt so_lt (L.sl (pv 4)) (L.sl (pv 3)) (nomark _)) (T.and1 (T.cmp (op_neD hr.units) so_ne (L.ev (K.call k_bars hr (by decide) (by rfl) (AF.cons (E.var (pv 3)) (AF.cons (E.var (pv 4)) (AF.cons (E.var (pv 5)) (AF.cons E.int AF.nil)))))) (L.ev (E.ite (T.cmp op_isN so_isN (L.sl (pv 6)) (L.ev E.non) (nomark _)) (E.lst AF.nil) (E.lst (AF.cons (E.var (pv 6)) AF.nil)))) (nomark _))))) (S.one (S.ret E.bl)) S.nil)))))))
    (S.cons (S.for PassesOwn.never rfl (I.range2 (by rfl) bl.b_range (AF.cons E.int (AF.cons E.int AF.nil))) (G.name (i := 7) nd rfl (.inl rfl)) (S.cons (S.set (i := 8) nd rfl (.inl rfl) (K.call k_bars hr (by decide) (by rfl) (AF.cons (E.bin op_plus so_plus (L.ev (E.bin op_plus so_plus (L.ev (E.bin op_mul so_mul (L.sl (pv 7)) (L.sl (pv 7)))) (L.sl (pv 7)))) (L.ev E.int)) (AF.cons (E.bin op_plus so_plus (L.sl (pv 7)) (L.ev E.int)) (AF.cons E.int (AF.cons E.int AF.nil))))))
    (S.one (S.ite (T.cmp (op_neD hr.units) so_ne (L.sl (pv 8)) (L.ev (E.ite (T.val (K.callL k__law_is_plane_free hr (by decide) (by rfl) (A.cons (L.sl (pv 7)) A.nil))) (E.lst AF.nil) (E.lst (AF.cons E.str AF.nil)))) (nomark _)) (S.one (S.ret E.bl)) S.nil))))
    (S.cons (S.set (i := 7) nd rfl (.inl rfl) (E.bin op_plus so_plus (L.ev E.int) (L.ev (K.callM k__law_draw hr (by decide) (by rfl) (pv 1) (AF.cons E.int AF.nil)))))
    (S.cons (S.set (i := 3) nd rfl (.inl rfl) (E.bin op_plus so_plus (L.ev (E.bin op_plus so_plus (L.ev (E.bin op_mul so_mul (L.sl (pv 7)) (L.sl (pv 7)))) (L.sl (pv 7)))) (L.ev E.int)))
    (S.cons (S.ite (T.cmp op_gt so_gt (L.sl (pv 3)) (L.ev E.int) (nomark _)) (S.one (S.ret E.bl)) S.nil)
    (S.cons (S.set (i := 9) nd rfl (.inl rfl) (K.call k_free_numbers hr (by decide) (by rfl) (AF.cons (E.var (pv 3)) (AF.cons E.int AF.nil))))
    (S.one (S.ret (E.cmp (op_eqD hr.units) so_eq (L.ev (E.cmp (op_in (hu65 hr)) so_in (L.ev (E.tup (AF.cons (E.bin op_plus so_plus (L.sl (pv 7)) (L.ev E.int)) (AF.cons E.int AF.nil)))) (L.sl (pv 9)) rfl)) (L.ev (K.callL k__law_is_plane_free hr (by decide) (by rfl) (A.cons (L.sl (pv 7)) A.nil))) (nomark _))))))))))))
end
end K33

set_option linter.all false
set_option maxRecDepth 100000
namespace K33
open PySem Sim
theorem v_is_integer (n : Nat) (i : Int) : val (m_is_integer n) [.int i] = some (.fz (.bl true)) := by rfl
theorem v_is_within (n : Nat) (a b c : Int) : val (m_is_within n) [.int a, .int b, .int c] = some (.fz (.bl (decide (b ≤ a) && decide (a ≤ c)))) := by
  unfold m_is_within
  simp [v_is_integer]
  by_cases h : b ≤ a <;> simp [h]
theorem v_check (n : Nat) (a b c d : Int) (h : 1 ≤ a ∧ a ≤ 1000 ∧ 1 ≤ b ∧ b ≤ a ∧ 1 ≤ c ∧ c ≤ 1000000 ∧ 1 ≤ d ∧ d ≤ b ∧ d ≤ 6) : val (m_check_numbers n) [.int a, .int b, .int c, .int d] = some (.fz .non) := by
  unfold m_check_numbers
  obtain ⟨h1, h2, h3, h4, h5, h6, h7, h8, h9⟩ := h
  have h10 : ¬ (if 6 < b then 6 else b) < d := by split <;> omega
  simp [v_is_within, h1, h2, h3, h4, h5, h6, h7, h8, h9, h10, okPow]
theorem okMul_l {a b : Int} (h : a.natAbs < 18446744073709551616) : okMul a b = true := by simp [okMul, h]
theorem okMul_r {a b : Int} (h : b.natAbs < 18446744073709551616) : okMul a b = true := by simp [okMul, h]
theorem okDiv_i {a b : Int} (h : 0 < b) (h2 : b < 1073741824) : okDiv a b = true := by
  simp only [okDiv, Bool.and_eq_true, decide_eq_true_eq]; omega
theorem fdiv_pos {a b : Int} (h : 0 < b) : a.fdiv b = a / b := Int.fdiv_eq_ediv_of_nonneg a (by omega)
theorem fmod_pos {a b : Int} (h : 0 < b) : a.fmod b = a % b := Int.fmod_eq_emod_of_nonneg a (by omega)

/-! ## the root -/
theorem v_root_of (x : Int) (n : Nat) (h0 : 0 ≤ x) (hx : x < 1073741824) (hn : x.toNat + 1 < n) : ∃ r : Int, val (m_root_of n) [.int x] = some (.fz (.int r)) ∧ 0 ≤ r ∧ r * r ≤ x ∧ x < (r + 1) * (r + 1) := by
  obtain ⟨⟨l, h, c⟩, h1, h2, h3⟩ := while_rule (α := Int × Int × C) (fun a => [.fz (.int x), .fz (.int a.1), .fz (.int a.2.1), a.2.2]) (fun a => 0 ≤ a.1 ∧ a.1 < a.2.1 ∧ a.1 * a.1 ≤ x ∧ x < a.2.1 * a.2.1 ∧ a.2.1 ≤ x + 1 ∧ isFree a.2.2 = true) (fun a => (a.2.1 - a.1).toNat)
    (t := wt1_root_of n) (body := wb1_root_of n)
    (c := fun a => decide (1 < a.2.1 - a.1)) (by rintro ⟨l, h, c⟩ ⟨p1, p2, p3, p4, p5⟩; simp [wt1_root_of])
    (by
      rintro ⟨l, h, c⟩ ⟨p0, p1, p2, p3, p4, p5⟩ hc
      simp only [decide_eq_true_eq] at hc p0 p1 p2 p3 p4 p5 ⊢
      have e : (l + h).fdiv 2 = (l + h) / 2 := fdiv_pos (by omega)
      generalize hm : (l + h) / 2 = m at *
      have hm1 : l < m := by omega
      have hm2 : m < h := by omega
      have ok : okMul m m = true := okMul_l (by omega)
      have ok2 : okDiv (l + h) 2 = true := rfl
      by_cases q : m * m ≤ x
      · refine ⟨(m, h, .fz (.int m)), ?_, ⟨by simp only; omega, hm2, q, p3, p4, rfl⟩, by simp only; omega⟩
        simp [wb1_root_of, p5, e, ok, ok2, q]
      · refine ⟨(l, m, .fz (.int m)), ?_, ⟨p0, hm1, p2, by simp only; omega, by simp only; omega, rfl⟩, by simp only; omega⟩
        simp [wb1_root_of, p5, e, ok, ok2, q])
    n (0, x + 1, .no) ⟨by simp, by simp only; omega, by simp only; omega, by
      simp only
      have : (x + 1) * 1 ≤ (x + 1) * (x + 1) := Int.mul_le_mul_of_nonneg_left (by omega) (by omega)
      omega, by simp, rfl⟩ (by simp only; omega)
  obtain ⟨p0, p1, p2, p3, p4, p5⟩ := h2
  simp only [decide_eq_false_iff_not] at p0 p1 p2 p3 p4 p5 h1 h3
  refine ⟨l, ?_, p0, p2, ?_⟩
  · unfold m_root_of
    simp
    rw [h1]
    simp
  · have : h = l + 1 := by omega
    subst this; exact p3
theorem v__law_root (x : Int) (n : Nat) (h0 : 0 ≤ x) (hx : x < 1073741824) (hn : x.toNat + 1 < n) : ∃ r : Int, val (m__law_root n) [.int x] = some (.fz (.int r)) ∧ 0 ≤ r ∧ r * r ≤ x ∧ x < (r + 1) * (r + 1) := by
  obtain ⟨⟨l, h, c⟩, h1, h2, h3⟩ := while_rule (α := Int × Int × C) (fun a => [.fz (.int x), .fz (.int a.1), .fz (.int a.2.1), a.2.2]) (fun a => 0 ≤ a.1 ∧ a.1 < a.2.1 ∧ a.1 * a.1 ≤ x ∧ x < a.2.1 * a.2.1 ∧ a.2.1 ≤ x + 1 ∧ isFree a.2.2 = true) (fun a => (a.2.1 - a.1).toNat)
    (t := wt1__law_root n) (body := wb1__law_root n)
    (c := fun a => decide (1 < a.2.1 - a.1)) (by rintro ⟨l, h, c⟩ ⟨p1, p2, p3, p4, p5⟩; simp [wt1__law_root])
    (by
      rintro ⟨l, h, c⟩ ⟨p0, p1, p2, p3, p4, p5⟩ hc
      simp only [decide_eq_true_eq] at hc p0 p1 p2 p3 p4 p5 ⊢
      have e : (l + h).fdiv 2 = (l + h) / 2 := fdiv_pos (by omega)
      generalize hm : (l + h) / 2 = m at *
      have hm1 : l < m := by omega
      have hm2 : m < h := by omega
      have ok : okMul m m = true := okMul_l (by omega)
      have ok2 : okDiv (l + h) 2 = true := rfl
      by_cases q : m * m ≤ x
      · refine ⟨(m, h, .fz (.int m)), ?_, ⟨by simp only; omega, hm2, q, p3, p4, rfl⟩, by simp only; omega⟩
        simp [wb1__law_root, p5, e, ok, ok2, q]
      · refine ⟨(l, m, .fz (.int m)), ?_, ⟨p0, hm1, p2, by simp only; omega, by simp only; omega, rfl⟩, by simp only; omega⟩
        simp [wb1__law_root, p5, e, ok, ok2, q])
    n (0, x + 1, .no) ⟨by simp, by simp only; omega, by simp only; omega, by
      simp only
      have : (x + 1) * 1 ≤ (x + 1) * (x + 1) := Int.mul_le_mul_of_nonneg_left (by omega) (by omega)
      omega, by simp, rfl⟩ (by simp only; omega)
  obtain ⟨p0, p1, p2, p3, p4, p5⟩ := h2
  simp only [decide_eq_false_iff_not] at p0 p1 p2 p3 p4 p5 h1 h3
  refine ⟨l, ?_, p0, p2, ?_⟩
  · unfold m__law_root
    simp
    rw [h1]
    simp
  · have : h = l + 1 := by omega
    subst this; exact p3
end K33

set_option linter.all false
set_option maxRecDepth 100000
namespace K33
open PySem Sim NT
theorem natCast_abs (x : Int) : (if x < 0 then -x else x) = (x.natAbs : Int) := by split <;> omega
/-! ## the squarefree part: the program's -/
theorem w2_square_free (n : Nat) (sg f p N0 : Nat) (s1 : C) (hp : 2 ≤ p) (hp2 : p < 1073741824) (hN : 0 < N0) (hn : N0 < n) :
    ∃ N k : Nat, whileN (wt2_square_free n) (wb2_square_free n) n [.fz (.int N0), s1, .fz (.int f), .fz (.int p), .fz (.int 0)] = some (.nx [.fz (.int N), s1, .fz (.int f), .fz (.int p), .fz (.int k)]) ∧ N0 = N * p ^ k ∧ 0 < N ∧ ¬ p ∣ N ∧ N ≤ N0 := by
  obtain ⟨⟨N, k⟩, h1, h2, h3⟩ := while_rule (α := Nat × Nat) (fun a => [.fz (.int a.1), s1, .fz (.int f), .fz (.int p), .fz (.int a.2)]) (fun a => N0 = a.1 * p ^ a.2 ∧ 0 < a.1) (fun a => a.1)
    (t := wt2_square_free n) (body := wb2_square_free n) (c := fun a => decide (a.1 % p = 0))
    (by
      rintro ⟨N, k⟩ ⟨q1, q2⟩
      have e : (N : Int).fmod p = ((N % p : Nat) : Int) := by rw [fmod_pos (by omega)]; simp
      have e2 : ((N : Int) % (p : Int) = 0) ↔ (N % p = 0) := by omega
      have hp0 : p ≠ 0 := by omega
      simp [wt2_square_free, e, e2, hp0])
    (by
      rintro ⟨N, k⟩ ⟨q1, q2⟩ hc
      simp only [decide_eq_true_eq] at hc q1 q2
      have e : (N : Int).fdiv p = ((N / p : Nat) : Int) := by rw [fdiv_pos (by omega)]; simp
      have ok : okDiv (N : Int) p = true := okDiv_i (by omega) (by omega)
      have d : p ∣ N := Nat.dvd_of_mod_eq_zero hc
      have eN : N / p * p = N := Nat.div_mul_cancel d
      have lt : N / p < N := Nat.div_lt_self q2 hp
      refine ⟨(N / p, k + 1), by simp [wb2_square_free, ok, e], ⟨?_, Nat.div_pos (Nat.le_of_dvd q2 d) (by omega)⟩, lt⟩
      show N0 = N / p * p ^ (k + 1)
      rw [Nat.pow_succ', ← Nat.mul_assoc, eN]; exact q1)
    n (N0, 0) ⟨by simp, hN⟩ (by simpa using hn)
  obtain ⟨q1, q2⟩ := h2
  simp only [decide_eq_false_iff_not] at q1 q2 h3
  refine ⟨N, k, by simpa using h1, q1, q2, fun d => h3 (Nat.mod_eq_zero_of_dvd d), ?_⟩
  rw [q1]; exact Nat.le_mul_of_pos_right _ (Nat.pow_pos (by omega))
theorem v_square_free (x : Int) (n : Nat) (x0 : x ≠ 0) (hx : x.natAbs < 1152921504606846976) (hn : x.natAbs + 2 < n) : ∃ s : Int, val (m_square_free n) [.int x] = some (.fz (.int s)) ∧ IsBare x s := by
  have hX : ∃ X, x.natAbs = X := ⟨_, rfl⟩
  obtain ⟨X, hX⟩ := hX
  rw [hX] at hx hn
  have X0 : 0 < X := by omega
  have bnd : ∀ {N f t : Nat}, Sqf f → t ≠ 0 → X = f * N * (t * t) → N ≤ X := fun {N f t} hf t0 et => by
    rw [et, Nat.mul_comm f N, Nat.mul_assoc]
    exact Nat.le_mul_of_pos_right _ (Nat.mul_pos (Nat.pos_of_ne_zero hf.1) (Nat.mul_pos (Nat.pos_of_ne_zero t0) (Nat.pos_of_ne_zero t0)))
  have bndf : ∀ {N f t : Nat}, 0 < N → t ≠ 0 → X = f * N * (t * t) → f ≤ X := fun {N f t} hN t0 et => by
    rw [et, Nat.mul_assoc]
    exact Nat.le_mul_of_pos_right _ (Nat.mul_pos hN (Nat.mul_pos (Nat.pos_of_ne_zero t0) (Nat.pos_of_ne_zero t0)))
  obtain ⟨⟨N, f, p, c⟩, h1, h2, h3⟩ := while_rule (α := Nat × Nat × Nat × C) (fun a => [.fz (.int a.1), .fz (.int (if 0 < x then 1 else -1)), .fz (.int a.2.1), .fz (.int a.2.2.1), a.2.2.2])
    (fun a => (0 < a.1 ∧ 2 ≤ a.2.2.1 ∧ a.2.2.1 ≤ X + 2 ∧ isFree a.2.2.2 = true) ∧ Sqf a.2.1 ∧ (∀ q, Pr q → q ∣ a.2.1 → q < a.2.2.1) ∧ (∀ q, Pr q → q ∣ a.1 → a.2.2.1 ≤ q) ∧ (∃ t, t ≠ 0 ∧ X = a.2.1 * a.1 * (t * t))) (fun a => a.1 + 1 - a.2.2.1)
    (t := wt1_square_free n) (body := wb1_square_free n) (c := fun a => decide (a.2.2.1 * a.2.2.1 ≤ a.1))
    (by
      rintro ⟨N, f, p, c⟩ ⟨⟨q1, q2, q8, q7⟩, q3, q4, q5, q6⟩
      simp only at q1 q2 q8 q7
      have ok : okMul (p : Int) p = true := okMul_l (by omega)
      have e2 : ((p : Int) * p ≤ N) ↔ (p * p ≤ N) := by
        constructor
        · intro h; exact_mod_cast h
        · intro h; exact_mod_cast h
      simp [wt1_square_free, ok, e2])
    (by
      rintro ⟨N, f, p, c⟩ ⟨⟨q1, q2, q8, q7⟩, q3, q4, q5, t, t0, et⟩ hc
      simp only [decide_eq_true_eq] at q1 q2 q3 q4 q5 q7 q8 et hc
      have hNX := bnd q3 t0 et
      have hfX := bndf q1 t0 et
      have hpN : p ≤ N := Nat.le_trans (Nat.le_mul_of_pos_right p (by omega)) hc
      have hp30 : p < 1073741824 := Nat.lt_of_not_le fun z => absurd (Nat.mul_le_mul z z) (by omega)
      obtain ⟨N', k, w1, w2, w3, w4, w5⟩ := w2_square_free n 0 f p N (.fz (.int (if 0 < x then 1 else -1))) q2 hp30 q1 (by omega)
      obtain ⟨z1, z2, z3, z4⟩ := sqf_step (X := X) q2 q3 q4 q5 w2 w4 ⟨t, t0, et⟩
      refine ⟨(N', (if k % 2 = 1 then f * p else f), p + 1, .fz (.int k)), ?_, ⟨⟨w3, by simp only; omega, by simp only; omega, rfl⟩, z1, z2, z3, z4⟩, by simp only; omega⟩
      have ok : okMul (f : Int) p = true := okMul_l (by omega)
      have e : (k : Int).fmod 2 = ((k % 2 : Nat) : Int) := by rw [fmod_pos (by omega)]; simp
      have e3 : ((k : Int) % 2 = 1) ↔ (k % 2 = 1) := by omega
      by_cases hk : k % 2 = 1 <;> simp [wb1_square_free, q7, w1, ok, e, e3, hk])
    n (X, 1, 2, .no) ⟨⟨X0, by simp, by simp, rfl⟩, sqf_one, fun q hq d => absurd d hq.not_one, fun q hq _ => hq.1, ⟨1, by simp, by simp⟩⟩ (by simp only; omega)
  obtain ⟨⟨q1, q2, q8, q7⟩, q3, q4, q5, t, t0, et⟩ := h2
  simp only [decide_eq_false_iff_not, Nat.not_le] at q1 q2 q3 q4 q5 q7 q8 et h3
  have hNX := bnd q3 t0 et
  have hfX := bndf q1 t0 et
  have sq := sqf_end q1 q3 q4 q5 h3
  refine ⟨if x > 0 then ((f * N : Nat) : Int) else -((f * N : Nat) : Int), ?_, IsBare.mk sq ⟨t, t0, by rw [hX]; exact et⟩ x0⟩
  unfold m_square_free
  have h1' := h1
  simp at h1'
  by_cases hx : 0 < x
  · have hx2 : x = (X : Int) := by omega
    have hx3 : ¬ x < 0 := by omega
    subst hx2
    have ok1 : okMul 1 (f : Int) = true := okMul_r (by omega)
    have ok2 : okMul (f : Int) N = true := okMul_r (by omega)
    simp only [hx, if_true] at h1'
    simp [X0, hx3, h1', ok1, ok2]
  · have hx2 : x = -(X : Int) := by omega
    have x1 : x < 0 := by omega
    subst hx2
    have ok1 : okMul (-1) (f : Int) = true := okMul_r (by omega)
    have ok2 : okMul (-(f : Int)) N = true := okMul_r (by omega)
    simp only [hx, if_false] at h1'
    have hx4 : ¬ (X : Int) < 0 := by omega
    simp [X0, hx4, h1', ok1, ok2, Int.neg_mul]
end K33

set_option linter.all false
set_option maxRecDepth 100000
namespace K33
open PySem Sim NT
/-! ## the parts: the law's -/
theorem w2__law_parts (n : Nat) (c1 : C) (p N0 : Nat) (hp : 2 ≤ p) (hp2 : p < 1073741824) (hN : 0 < N0) (hn : N0 < n) :
    ∃ N k : Nat, whileN (wt2__law_parts n) (wb2__law_parts n) n [.fz (.int N0), c1, .fz (.int p), .fz (.int 0)] = some (.nx [.fz (.int N), c1, .fz (.int p), .fz (.int k)]) ∧ N0 = N * p ^ k ∧ 0 < N ∧ ¬ p ∣ N ∧ N ≤ N0 := by
  obtain ⟨⟨N, k⟩, h1, h2, h3⟩ := while_rule (α := Nat × Nat) (fun a => [.fz (.int a.1), c1, .fz (.int p), .fz (.int a.2)]) (fun a => N0 = a.1 * p ^ a.2 ∧ 0 < a.1) (fun a => a.1)
    (t := wt2__law_parts n) (body := wb2__law_parts n) (c := fun a => decide (a.1 % p = 0))
    (by
      rintro ⟨N, k⟩ ⟨q1, q2⟩
      have e : (N : Int).fmod p = ((N % p : Nat) : Int) := by rw [fmod_pos (by omega)]; simp
      have e2 : ((N : Int) % (p : Int) = 0) ↔ (N % p = 0) := by omega
      have hp0 : p ≠ 0 := by omega
      simp [wt2__law_parts, e, e2, hp0])
    (by
      rintro ⟨N, k⟩ ⟨q1, q2⟩ hc
      simp only [decide_eq_true_eq] at hc q1 q2
      have e : (N : Int).fdiv p = ((N / p : Nat) : Int) := by rw [fdiv_pos (by omega)]; simp
      have ok : okDiv (N : Int) p = true := okDiv_i (by omega) (by omega)
      have d : p ∣ N := Nat.dvd_of_mod_eq_zero hc
      have eN : N / p * p = N := Nat.div_mul_cancel d
      have lt : N / p < N := Nat.div_lt_self q2 hp
      refine ⟨(N / p, k + 1), by simp [wb2__law_parts, ok, e], ⟨?_, Nat.div_pos (Nat.le_of_dvd q2 d) (by omega)⟩, lt⟩
      show N0 = N / p * p ^ (k + 1)
      rw [Nat.pow_succ', ← Nat.mul_assoc, eN]; exact q1)
    n (N0, 0) ⟨by simp, hN⟩ (by simpa using hn)
  obtain ⟨q1, q2⟩ := h2
  simp only [decide_eq_false_iff_not] at q1 q2 h3
  refine ⟨N, k, by simpa using h1, q1, q2, fun d => h3 (Nat.mod_eq_zero_of_dvd d), ?_⟩
  rw [q1]; exact Nat.le_mul_of_pos_right _ (Nat.pow_pos (by omega))
def dPair (x : Nat × Nat) : D := .tup [.int x.1, .int x.2]
def od : List (Nat × Nat) → Nat
  | [] => 1
  | x :: l => (if x.2 % 2 = 1 then x.1 else 1) * od l
theorem od_app : ∀ (l : List (Nat × Nat)) (p k : Nat), od (l ++ [(p, k)]) = if k % 2 = 1 then od l * p else od l
  | [], p, k => by simp only [List.nil_append, od]; split <;> simp
  | x :: l, p, k => by
    have := od_app l p k
    simp only [List.cons_append, od, this]
    by_cases h : k % 2 = 1 <;> simp [h, Nat.mul_assoc]
/-- what the list holds, once the number has been used up -/
structure Parts (X : Nat) (L : List (Nat × Nat)) : Prop where
  sq : Sqf (od L)
  ex : ∃ t, t ≠ 0 ∧ X = od L * (t * t)
  pr : ∀ q, q ∈ L.map (·.1) ↔ (Pr q ∧ q ∣ X)
  le : 2 ^ L.length ≤ X
theorem v__law_parts (X n : Nat) (X0 : 0 < X) (hX : X < 1152921504606846976) (hn : X + 2 < n) : ∃ L, val (m__law_parts n) [.int X] = some (.ob .ow (.lst (L.map dPair))) ∧ Parts X L := by
  have bnd : ∀ {N f t : Nat}, Sqf f → t ≠ 0 → X = f * N * (t * t) → N ≤ X := fun {N f t} hf t0 et => by
    rw [et, Nat.mul_comm f N, Nat.mul_assoc]
    exact Nat.le_mul_of_pos_right _ (Nat.mul_pos (Nat.pos_of_ne_zero hf.1) (Nat.mul_pos (Nat.pos_of_ne_zero t0) (Nat.pos_of_ne_zero t0)))
  have lenle : ∀ {k N : Nat}, 0 < N → 2 ^ k * N ≤ X → k < 60 := fun {k N} hN h => by
    refine Nat.lt_of_not_le fun z => ?_
    have h1 := Nat.pow_le_pow_right (n := 2) (by omega) z
    have h2 : 2 ^ k ≤ 2 ^ k * N := Nat.le_mul_of_pos_right _ hN
    have h3 : (2 : Nat) ^ 60 = 1152921504606846976 := rfl
    omega
  obtain ⟨⟨N, L, p, c⟩, h1, h2, h3⟩ := while_rule (α := Nat × List (Nat × Nat) × Nat × C) (fun a => [.fz (.int a.1), .ob .ow (.lst (a.2.1.map dPair)), .fz (.int a.2.2.1), a.2.2.2])
    (fun a => (0 < a.1 ∧ 2 ≤ a.2.2.1 ∧ a.2.2.1 ≤ X + 2 ∧ isFree a.2.2.2 = true) ∧ (Sqf (od a.2.1) ∧ (∀ q, Pr q → q ∣ od a.2.1 → q < a.2.2.1) ∧ (∀ q, Pr q → q ∣ a.1 → a.2.2.1 ≤ q) ∧ (∃ t, t ≠ 0 ∧ X = od a.2.1 * a.1 * (t * t))) ∧
      (∀ q ∈ a.2.1.map (·.1), Pr q ∧ q ∣ X) ∧ (∀ q, Pr q → q ∣ X → q ∣ a.1 ∨ q ∈ a.2.1.map (·.1)) ∧ a.1 ∣ X ∧ 2 ^ a.2.1.length * a.1 ≤ X) (fun a => a.1 + 1 - a.2.2.1)
    (t := wt1__law_parts n) (body := wb1__law_parts n) (c := fun a => decide (a.2.2.1 * a.2.2.1 ≤ a.1))
    (by
      rintro ⟨N, L, p, c⟩ ⟨⟨q1, q2, q8, q7⟩, _⟩
      simp only at q1 q2 q8 q7
      have ok : okMul (p : Int) p = true := okMul_l (by omega)
      have e2 : ((p : Int) * p ≤ N) ↔ (p * p ≤ N) := by
        constructor
        · intro h; exact_mod_cast h
        · intro h; exact_mod_cast h
      simp [wt1__law_parts, ok, e2])
    (by
      rintro ⟨N, L, p, c⟩ ⟨⟨q1, q2, q8, q7⟩, ⟨q3, q4, q5, t, t0, et⟩, m1, m2, m3, m4⟩ hc
      simp only [decide_eq_true_eq] at q1 q2 q3 q4 q5 q7 q8 et hc m1 m2 m3 m4
      have hNX := bnd q3 t0 et
      have hpN : p ≤ N := Nat.le_trans (Nat.le_mul_of_pos_right p (by omega)) hc
      have hp30 : p < 1073741824 := Nat.lt_of_not_le fun z => absurd (Nat.mul_le_mul z z) (by omega)
      obtain ⟨N', k, w1, w2, w3, w4, w5⟩ := w2__law_parts n (.ob .ow (.lst (L.map dPair))) p N q2 hp30 q1 (by omega)
      obtain ⟨z1, z2, z3, z4⟩ := sqf_step (X := X) q2 q3 q4 q5 w2 w4 ⟨t, t0, et⟩
      have dN : N' ∣ N := ⟨p ^ k, w2⟩
      have l60 := lenle q1 m4
      by_cases hk : 0 < k
      · have dpN : p ∣ N := by rw [w2]; exact Nat.dvd_mul_left_of_dvd (Nat.dvd_trans (by simp) (Nat.pow_dvd_pow p hk)) N'
        have prp : Pr p := Pr.of_least q2 dpN q5
        refine ⟨(N', L ++ [(p, k)], p + 1, .fz (.int k)), ?_, ⟨⟨w3, by simp only; omega, by simp only; omega, rfl⟩, ?_, ?_, ?_, Nat.dvd_trans dN m3, ?_⟩, by simp only; omega⟩
        · have hl : L.length + 1 ≤ 16777216 := by omega
          have hk' : k ≠ 0 := by omega
          simp [wb1__law_parts, q7, w1, hk, hk', hl, dPair]
        · simp only [od_app]; exact ⟨z1, z2, z3, z4⟩
        · intro q hq
          simp only [List.map_append, List.mem_append, List.map_cons, List.map_nil, List.mem_singleton] at hq
          rcases hq with hq | rfl
          · exact m1 q hq
          · exact ⟨prp, Nat.dvd_trans dpN m3⟩
        · intro q hq dq
          simp only [List.map_append, List.mem_append, List.map_cons, List.map_nil, List.mem_singleton]
          rcases m2 q hq dq with z | z
          · rw [w2] at z
            rcases hq.dvd_mul z with z | z
            · exact .inl z
            · refine .inr (.inr ?_)
              have : ∀ j, q ∣ p ^ j → q = p := fun j => by
                induction j with
                | zero => intro y; exact absurd y hq.not_one
                | succ j ih =>
                  intro y
                  rw [Nat.pow_succ] at y
                  exact (hq.dvd_mul y).elim ih fun y => hq.eq prp y
              exact this k z
          · exact .inr (.inl z)
        · simp only [List.length_append, List.length_singleton, Nat.pow_succ]
          refine Nat.le_trans ?_ m4
          rw [Nat.mul_assoc]
          refine Nat.mul_le_mul_left _ ?_
          rw [w2, Nat.mul_comm]
          refine Nat.mul_le_mul_left _ (Nat.le_trans q2 ?_)
          exact Nat.le_of_dvd (Nat.pow_pos (by omega)) (Nat.dvd_trans (by simp) (Nat.pow_dvd_pow p hk))
      · have k0 : k = 0 := by omega
        subst k0
        simp only [Nat.pow_zero, Nat.mul_one] at w2
        subst w2
        refine ⟨(N, L, p + 1, .fz (.int (0 : Nat))), ?_, ⟨⟨w3, by simp only; omega, by simp only; omega, rfl⟩, ?_, m1, m2, m3, m4⟩, by simp only; omega⟩
        · have hl : L.length ≤ 16777216 := by omega
          simp at w1
          simp [wb1__law_parts, q7, w1, hl]
        · have z : ¬ (0 % 2 = 1) := by decide
          simp only [if_neg z] at z1 z2 z4
          exact ⟨z1, z2, z3, z4⟩)
    n (X, [], 2, .no) ⟨⟨X0, by simp, by simp, rfl⟩, ⟨sqf_one, fun q hq d => absurd d hq.not_one, fun q hq _ => hq.1, ⟨1, by simp, by simp [od]⟩⟩, by simp, fun q _ d => .inl d, Nat.dvd_refl X, by simp⟩ (by simp only; omega)
  obtain ⟨⟨q1, q2, q8, q7⟩, ⟨q3, q4, q5, t, t0, et⟩, m1, m2, m3, m4⟩ := h2
  simp only [decide_eq_false_iff_not, Nat.not_le] at q1 q2 q3 q4 q5 q7 q8 et h3 m1 m2 m3 m4
  have sq := sqf_end q1 q3 q4 q5 h3
  have l60 := lenle q1 m4
  have h1' := h1
  simp at h1'
  rcases left_pr q1 q5 h3 with e | e
  · subst e
    refine ⟨L, ?_, ⟨q3, ⟨t, t0, by simpa using et⟩, fun q => ⟨m1 q, fun ⟨a, b⟩ => (m2 q a b).elim (fun z => absurd z a.not_one) id⟩, by simpa using m4⟩⟩
    have hl : L.length ≤ 16777216 := by omega
    unfold m__law_parts
    simp [h1', hl]
  · refine ⟨L ++ [(N, 1)], ?_, ⟨by rw [od_app]; exact sq, ⟨t, t0, by rw [od_app]; exact et⟩, fun q => ?_, ?_⟩⟩
    · have hl : L.length + 1 ≤ 16777216 := by omega
      have hN : (1 : Int) < N := by have := e.1; omega
      unfold m__law_parts
      simp [h1', hl, hN, dPair]
    · simp only [List.map_append, List.mem_append, List.map_cons, List.map_nil, List.mem_singleton]
      constructor
      · rintro (z | rfl)
        · exact m1 q z
        · exact ⟨e, m3⟩
      · rintro ⟨a, b⟩
        rcases m2 q a b with z | z
        · exact .inr (a.eq e z)
        · exact .inl z
    · simp only [List.length_append, List.length_singleton, Nat.pow_succ]
      exact Nat.le_trans (Nat.mul_le_mul_left _ e.1) m4
end K33

set_option linter.all false
set_option maxRecDepth 100000
namespace K33
open PySem Sim NT
def dI (q : Nat) : D := .int q
theorem for_od (n : Nat) (x : D) : ∀ (L : List (Nat × Nat)) (s : Int) (c2 c3 : C), isFree c2 = true → isFree c3 = true → (∀ q ∈ L, q.1 < 18446744073709551616) →
    ∃ c2' c3', forI (gT (gsCons (gN 2) (gsCons (gN 3) gsNil)) 2) (fb1__law_bare n) (L.map dPair) [.fz x, .fz (.int s), c2, c3] = some (.nx [.fz x, .fz (.int (s * od L)), c2', c3'])
  | [], s, c2, c3, _, _, _ => ⟨c2, c3, by simp [od]⟩
  | (p, k) :: L, s, c2, c3, f2, f3, hL => by
    have hp : p < 18446744073709551616 := hL (p, k) (by simp)
    have ok1 : okMul s p = true := okMul_r (by omega)
    have ok2 : okMul s 1 = true := okMul_r (by omega)
    have e : (k : Int).fmod 2 = ((k % 2 : Nat) : Int) := by rw [fmod_pos (by omega)]; simp
    have e3 : ((k : Int) % 2 = 1) ↔ (k % 2 = 1) := by omega
    obtain ⟨c2', c3', ih⟩ := for_od n x L (s * (if k % 2 = 1 then (p : Int) else 1)) (.fz (.int p)) (.fz (.int k)) rfl rfl fun q hq => hL q (by simp [hq])
    refine ⟨c2', c3', ?_⟩
    have fin : s * ((od ((p, k) :: L) : Nat) : Int) = s * (if k % 2 = 1 then (p : Int) else 1) * (od L : Int) := by
      simp only [od]
      by_cases h : k % 2 = 1 <;> simp [h, Int.mul_assoc]
    rw [fin]
    by_cases h : k % 2 = 1
    · simp only [h, if_true] at ih ⊢
      simp [dPair, fb1__law_bare, f2, f3, e, e3, h, ok1]
      exact ih
    · simp only [h, if_false, Int.mul_one] at ih ⊢
      simp [dPair, fb1__law_bare, f2, f3, e, e3, h, ok2]
      exact ih
theorem v__law_bare (x : Int) (n : Nat) (x0 : x ≠ 0) (hx : x.natAbs < 1152921504606846976) (hn : x.natAbs + 2 < n) : ∃ s : Int, val (m__law_bare n) [.int x] = some (.fz (.int s)) ∧ IsBare x s := by
  obtain ⟨X, hX⟩ : ∃ X, x.natAbs = X := ⟨_, rfl⟩
  rw [hX] at hx hn
  have X0 : 0 < X := by omega
  obtain ⟨L, h1, P⟩ := v__law_parts X n X0 hx hn
  have hL : ∀ q ∈ L, q.1 < 18446744073709551616 := fun q hq => by
    have h := (P.pr q.1).mp (List.mem_map_of_mem hq)
    have := Nat.le_of_dvd X0 h.2
    omega
  obtain ⟨t, t0, et⟩ := P.ex
  refine ⟨if x > 0 then (od L : Int) else -(od L : Int), ?_, IsBare.mk P.sq ⟨t, t0, by rw [hX]; exact et⟩ x0⟩
  unfold m__law_bare
  by_cases hx : 0 < x
  · have hx2 : x = (X : Int) := by omega
    have hx3 : ¬ (X : Int) < 0 := by omega
    subst hx2
    obtain ⟨c2, c3, h2⟩ := for_od n (.int X) L 1 .no .no rfl rfl hL
    rw [Int.one_mul] at h2
    simp [X0, hx3, h1, h2]
  · have hx2 : x = -(X : Int) := by omega
    have x1 : x < 0 := by omega
    have hx3 : ¬ (X : Int) < 0 := by omega
    subst hx2
    obtain ⟨c2, c3, h2⟩ := for_od n (.int (-X)) L (-1) .no .no rfl rfl hL
    have e : (-1 : Int) * (od L : Int) = -(od L : Int) := by omega
    rw [e] at h2
    simp [X0, hx3, h1, h2]
/-! ## the primes -/
theorem w2_primes_of (n : Nat) (c1 : C) (p N0 : Nat) (hp : 2 ≤ p) (hp2 : p < 1073741824) (hN : 0 < N0) (hn : N0 < n) :
    ∃ N k : Nat, whileN (wt2_primes_of n) (wb2_primes_of n) n [.fz (.int N0), c1, .fz (.int p)] = some (.nx [.fz (.int N), c1, .fz (.int p)]) ∧ N0 = N * p ^ k ∧ 0 < N ∧ ¬ p ∣ N ∧ N ≤ N0 := by
  obtain ⟨⟨N, k⟩, h1, h2, h3⟩ := while_rule (α := Nat × Nat) (fun a => [.fz (.int a.1), c1, .fz (.int p)]) (fun a => N0 = a.1 * p ^ a.2 ∧ 0 < a.1) (fun a => a.1)
    (t := wt2_primes_of n) (body := wb2_primes_of n) (c := fun a => decide (a.1 % p = 0))
    (by
      rintro ⟨N, k⟩ ⟨q1, q2⟩
      have e : (N : Int).fmod p = ((N % p : Nat) : Int) := by rw [fmod_pos (by omega)]; simp
      have e2 : ((N : Int) % (p : Int) = 0) ↔ (N % p = 0) := by omega
      have hp0 : p ≠ 0 := by omega
      simp [wt2_primes_of, e, e2, hp0])
    (by
      rintro ⟨N, k⟩ ⟨q1, q2⟩ hc
      simp only [decide_eq_true_eq] at hc q1 q2
      have e : (N : Int).fdiv p = ((N / p : Nat) : Int) := by rw [fdiv_pos (by omega)]; simp
      have ok : okDiv (N : Int) p = true := okDiv_i (by omega) (by omega)
      have d : p ∣ N := Nat.dvd_of_mod_eq_zero hc
      have eN : N / p * p = N := Nat.div_mul_cancel d
      have lt : N / p < N := Nat.div_lt_self q2 hp
      refine ⟨(N / p, k + 1), by simp [wb2_primes_of, ok, e], ⟨?_, Nat.div_pos (Nat.le_of_dvd q2 d) (by omega)⟩, lt⟩
      show N0 = N / p * p ^ (k + 1)
      rw [Nat.pow_succ', ← Nat.mul_assoc, eN]; exact q1)
    n (N0, 0) ⟨by simp, hN⟩ (by simpa using hn)
  obtain ⟨q1, q2⟩ := h2
  simp only [decide_eq_false_iff_not] at q1 q2 h3
  refine ⟨N, k, by simpa using h1, q1, q2, fun d => h3 (Nat.mod_eq_zero_of_dvd d), ?_⟩
  rw [q1]; exact Nat.le_mul_of_pos_right _ (Nat.pow_pos (by omega))
theorem pr_pow {q p : Nat} (hq : Pr q) (prp : Pr p) : ∀ j, q ∣ p ^ j → q = p := fun j => by
  induction j with
  | zero => intro y; exact absurd y hq.not_one
  | succ j ih =>
    intro y
    rw [Nat.pow_succ] at y
    exact (hq.dvd_mul y).elim ih fun y => hq.eq prp y
theorem v_primes_of (X n : Nat) (X0 : 0 < X) (hX : X < 1152921504606846976) (hn : X + 2 < n) : ∃ (L : List Nat) (c : C), val (m_primes_of n) [.int X] = some c ∧ c.dat = some (.lst (L.map dI)) ∧ (∀ q, q ∈ L ↔ (Pr q ∧ q ∣ X)) ∧ L.length < 61 := by
  have lenle : ∀ {k N : Nat}, 0 < N → 2 ^ k * N ≤ X → k < 60 := fun {k N} hN h => by
    refine Nat.lt_of_not_le fun z => ?_
    have h1 := Nat.pow_le_pow_right (n := 2) (by omega) z
    have h2 : 2 ^ k ≤ 2 ^ k * N := Nat.le_mul_of_pos_right _ hN
    have h3 : (2 : Nat) ^ 60 = 1152921504606846976 := rfl
    omega
  obtain ⟨⟨N, L, p⟩, h1, h2, h3⟩ := while_rule (α := Nat × List Nat × Nat) (fun a => [.fz (.int a.1), .ob .ow (.lst (a.2.1.map dI)), .fz (.int a.2.2)])
    (fun a => (0 < a.1 ∧ 2 ≤ a.2.2 ∧ a.2.2 ≤ X + 2) ∧ (∀ q, Pr q → q ∣ a.1 → a.2.2 ≤ q) ∧
      (∀ q ∈ a.2.1, Pr q ∧ q ∣ X) ∧ (∀ q, Pr q → q ∣ X → q ∣ a.1 ∨ q ∈ a.2.1) ∧ a.1 ∣ X ∧ 2 ^ a.2.1.length * a.1 ≤ X) (fun a => a.1 + 1 - a.2.2)
    (t := wt1_primes_of n) (body := wb1_primes_of n) (c := fun a => decide (a.2.2 * a.2.2 ≤ a.1))
    (by
      rintro ⟨N, L, p⟩ ⟨⟨q1, q2, q8⟩, _⟩
      simp only at q1 q2 q8
      have ok : okMul (p : Int) p = true := okMul_l (by omega)
      have e2 : ((p : Int) * p ≤ N) ↔ (p * p ≤ N) := by
        constructor
        · intro h; exact_mod_cast h
        · intro h; exact_mod_cast h
      simp [wt1_primes_of, ok, e2])
    (by
      rintro ⟨N, L, p⟩ ⟨⟨q1, q2, q8⟩, q5, m1, m2, m3, m4⟩ hc
      simp only [decide_eq_true_eq] at q1 q2 q5 q8 hc m1 m2 m3 m4
      have hNX : N ≤ X := Nat.le_of_dvd X0 m3
      have hpN : p ≤ N := Nat.le_trans (Nat.le_mul_of_pos_right p (by omega)) hc
      have hp30 : p < 1073741824 := Nat.lt_of_not_le fun z => absurd (Nat.mul_le_mul z z) (by omega)
      have l60 := lenle q1 m4
      have e : (N : Int).fmod p = ((N % p : Nat) : Int) := by rw [fmod_pos (by omega)]; simp
      have e2 : ((N : Int) % (p : Int) = 0) ↔ (N % p = 0) := by omega
      have hp0 : p ≠ 0 := by omega
      by_cases dpN : p ∣ N
      · have prp : Pr p := Pr.of_least q2 dpN q5
        obtain ⟨N', k, w1, w2, w3, w4, w5⟩ := w2_primes_of n (.ob .ow (.lst ((L ++ [p]).map dI))) p N q2 hp30 q1 (by omega)
        have hk : 0 < k := by
          rcases Nat.eq_zero_or_pos k with z | z
          · subst z; simp only [Nat.pow_zero, Nat.mul_one] at w2; subst w2; exact absurd dpN w4
          · exact z
        have dN : N' ∣ N := ⟨p ^ k, w2⟩
        refine ⟨(N', L ++ [p], p + 1), ?_, ⟨⟨w3, by simp only; omega, by simp only; omega⟩, ?_, ?_, ?_, Nat.dvd_trans dN m3, ?_⟩, by simp only; omega⟩
        · have hl : L.length < 16777216 := by omega
          have dm := Nat.mod_eq_zero_of_dvd dpN
          simp [dI] at w1
          simp [wb1_primes_of, hp0, e, e2, dm, w1, hl, dI]
        · intro q hq dq
          simp only at dq ⊢
          have a1 := q5 q hq (Nat.dvd_trans dq dN)
          have a2 : q ≠ p := fun z => w4 (z ▸ dq)
          omega
        · intro q hq
          simp only [List.mem_append, List.mem_singleton] at hq
          rcases hq with hq | rfl
          · exact m1 q hq
          · exact ⟨prp, Nat.dvd_trans dpN m3⟩
        · intro q hq dq
          simp only [List.mem_append, List.mem_singleton]
          rcases m2 q hq dq with z | z
          · rw [w2] at z
            rcases hq.dvd_mul z with z | z
            · exact .inl z
            · exact .inr (.inr (pr_pow hq prp k z))
          · exact .inr (.inl z)
        · simp only [List.length_append, List.length_singleton, Nat.pow_succ]
          refine Nat.le_trans ?_ m4
          rw [Nat.mul_assoc]
          refine Nat.mul_le_mul_left _ ?_
          rw [w2, Nat.mul_comm]
          refine Nat.mul_le_mul_left _ (Nat.le_trans q2 ?_)
          exact Nat.le_of_dvd (Nat.pow_pos (by omega)) (Nat.dvd_trans (by simp) (Nat.pow_dvd_pow p hk))
      · have dm : ¬ N % p = 0 := fun z => dpN (Nat.dvd_of_mod_eq_zero z)
        refine ⟨(N, L, p + 1), by simp [wb1_primes_of, hp0, e, e2, dm], ⟨⟨q1, by simp only; omega, by simp only; omega⟩, ?_, m1, m2, m3, m4⟩, by simp only; omega⟩
        intro q hq dq
        simp only at dq ⊢
        have a1 := q5 q hq dq
        have a2 : q ≠ p := fun z => dpN (z ▸ dq)
        omega)
    n (X, [], 2) ⟨⟨X0, by simp, by simp⟩, fun q hq _ => hq.1, by simp, fun q _ d => .inl d, Nat.dvd_refl X, by simp⟩ (by simp only; omega)
  obtain ⟨⟨q1, q2, q8⟩, q5, m1, m2, m3, m4⟩ := h2
  simp only [decide_eq_false_iff_not, Nat.not_le] at q1 q2 q5 q8 h3 m1 m2 m3 m4
  have l60 := lenle q1 m4
  have h1' := h1
  simp at h1'
  rcases left_pr q1 q5 h3 with e | e
  · subst e
    refine ⟨L, .fz (.lst (L.map dI)), ?_, rfl, fun q => ⟨m1 q, fun ⟨a, b⟩ => (m2 q a b).elim (fun z => absurd z a.not_one) id⟩, by omega⟩
    unfold m_primes_of
    simp [h1']
  · refine ⟨L ++ [N], .ob .ow (.lst ((L ++ [N]).map dI)), ?_, rfl, fun q => ?_, by simp; omega⟩
    · have hl : L.length + 1 ≤ 16777216 := by omega
      have hN : (1 : Int) < N := by have := e.1; omega
      unfold m_primes_of
      simp [h1', hl, hN, dI]
    · simp only [List.mem_append, List.mem_singleton]
      constructor
      · rintro (z | rfl)
        · exact m1 q z
        · exact ⟨e, m3⟩
      · rintro ⟨a, b⟩
        rcases m2 q a b with z | z
        · exact .inr (a.eq e z)
        · exact .inl z
/-! ## the greatest that goes into both -/
theorem v_shared (a b n : Nat) (hn : b < n) : val (m_shared n) [.int a, .int b] = some (.fz (.int (Nat.gcd a b))) := by
  obtain ⟨⟨x, y⟩, h1, h2, h3⟩ := while_rule (α := Nat × Nat) (fun a => [.fz (.int a.1), .fz (.int a.2)]) (fun z => Nat.gcd z.1 z.2 = Nat.gcd a b) (fun a => a.2)
    (t := wt1_shared n) (body := wb1_shared n) (c := fun a => decide (0 < a.2))
    (by rintro ⟨x, y⟩ h; simp [wt1_shared])
    (by
      rintro ⟨x, y⟩ h hc
      simp only [decide_eq_true_eq] at h hc
      have e : (x : Int).fmod y = ((x % y : Nat) : Int) := by rw [fmod_pos (by omega)]; simp
      have y0 : y ≠ 0 := by omega
      refine ⟨(y, x % y), by simp [wb1_shared, e, y0], ?_, Nat.mod_lt _ hc⟩
      show Nat.gcd y (x % y) = _
      rw [← h, Nat.gcd_comm, ← Nat.gcd_rec, Nat.gcd_comm])
    n (a, b) rfl hn
  simp only [decide_eq_false_iff_not, Nat.not_lt, Nat.le_zero] at h2 h3
  subst h3
  rw [Nat.gcd_zero_right] at h2
  unfold m_shared
  simp at h1
  simp [h1, h2]
theorem v__law_together (a b : Int) (n : Nat) (hb : b.natAbs < n) (a0 : a ≠ 0) (hl : a.natAbs < 1073741824) (hm : (a / (Nat.gcd a.natAbs b.natAbs : Nat)).natAbs < 18446744073709551616) :
    val (m__law_together n) [.int a, .int b] = some (.fz (.int (a / (Nat.gcd a.natAbs b.natAbs : Nat) * (b / (Nat.gcd a.natAbs b.natAbs : Nat))))) := by
  obtain ⟨⟨x, y⟩, h1, h2, h3⟩ := while_rule (α := Nat × Nat) (fun z => [.fz (.int a), .fz (.int b), .fz (.int z.1), .fz (.int z.2)]) (fun z => Nat.gcd z.1 z.2 = Nat.gcd a.natAbs b.natAbs) (fun a => a.2)
    (t := wt1__law_together n) (body := wb1__law_together n) (c := fun a => decide (0 < a.2))
    (by rintro ⟨x, y⟩ h; simp [wt1__law_together])
    (by
      rintro ⟨x, y⟩ h hc
      simp only [decide_eq_true_eq] at h hc
      have e : (x : Int).fmod y = ((x % y : Nat) : Int) := by rw [fmod_pos (by omega)]; simp
      have y0 : y ≠ 0 := by omega
      refine ⟨(y, x % y), by simp [wb1__law_together, e, y0], ?_, Nat.mod_lt _ hc⟩
      show Nat.gcd y (x % y) = _
      rw [← h, Nat.gcd_comm, ← Nat.gcd_rec, Nat.gcd_comm])
    n (a.natAbs, b.natAbs) rfl hb
  simp only [decide_eq_false_iff_not, Nat.not_lt, Nat.le_zero] at h2 h3
  subst h3
  rw [Nat.gcd_zero_right] at h2
  have x0 : 0 < x := by rw [h2]; exact Nat.gcd_pos_of_pos_left _ (by omega)
  have xl : x ≤ a.natAbs := by rw [h2]; exact Nat.gcd_le_left _ (by omega)
  have ok1 : ∀ i : Int, okDiv i x = true := fun i => okDiv_i (by omega) (by omega)
  have e1 : ∀ i : Int, i.fdiv x = i / x := fun i => fdiv_pos (by omega)
  have ok2 : okMul (a / x) (b / x) = true := okMul_l (by rw [h2]; exact hm)
  rw [← h2]
  unfold m__law_together
  simp at h1
  simp only [natCast_abs, val_run, rs_par, rs_callB, rs_slq, rs_sDat, rs_lCons, rs_lNil]
  simp [h1, ok1, e1, ok2, natCast_abs]
end K33

set_option linter.all false
set_option maxRecDepth 100000
namespace K33
open PySem Sim NT
theorem pow_even (r b p e : Nat) (h : e % 2 = 0) : r * (b * b % p) ^ (e / 2) % p = r * b ^ e % p := by
  have e1 : e = 2 * (e / 2) := by omega
  have e2 : b ^ e = (b * b) ^ (e / 2) := by
    conv => lhs; rw [e1, Nat.pow_mul, Nat.pow_two]
  rw [e2, Nat.mul_mod, ← Nat.pow_mod, ← Nat.mul_mod]
theorem pow_odd (r b p e : Nat) (h : e % 2 = 1) : (r * b % p) * (b * b % p) ^ (e / 2) % p = r * b ^ e % p := by
  have e1 : e = 2 * (e / 2) + 1 := by omega
  have e2 : b ^ e = b * (b * b) ^ (e / 2) := by
    conv => lhs; rw [e1, Nat.pow_succ, Nat.pow_mul, Nat.pow_two, Nat.mul_comm]
  rw [e2, ← Nat.mul_assoc, Nat.mul_mod, ← Nat.pow_mod, Nat.mod_mod, ← Nat.mul_mod]
theorem w1_is_rest_square (n p : Nat) (c0 : D) (r b e : Nat) (p2 : 2 < p) (hp : p < 1073741824) (hr : r < p) (hb : b < p) (hn : e < n) :
    ∃ b', whileN (wt1_is_rest_square n) (wb1_is_rest_square n) n [.fz c0, .fz (.int p), .fz (.int r), .fz (.int b), .fz (.int e)] = some (.nx [.fz c0, .fz (.int p), .fz (.int (r * b ^ e % p : Nat)), .fz (.int b'), .fz (.int 0)]) := by
  obtain ⟨⟨r', b', e'⟩, h1, h2, h3⟩ := while_rule (α := Nat × Nat × Nat) (fun a => [.fz c0, .fz (.int p), .fz (.int a.1), .fz (.int a.2.1), .fz (.int a.2.2)]) (fun a => a.1 < p ∧ a.2.1 < p ∧ a.1 * a.2.1 ^ a.2.2 % p = r * b ^ e % p) (fun a => a.2.2)
    (t := wt1_is_rest_square n) (body := wb1_is_rest_square n) (c := fun a => decide (0 < a.2.2))
    (by rintro ⟨r, b, e⟩ h; simp [wt1_is_rest_square])
    (by
      rintro ⟨r, b, e⟩ ⟨q1, q2, q3⟩ hc
      simp only [decide_eq_true_eq] at q1 q2 q3 hc
      have p0 : p ≠ 0 := by omega
      have f1 : (e : Int).fmod 2 = ((e % 2 : Nat) : Int) := by rw [fmod_pos (by omega)]; simp
      have f2 : ((e : Int) % 2 = 1) ↔ (e % 2 = 1) := by omega
      have f3 : (e : Int).fdiv 2 = ((e / 2 : Nat) : Int) := by rw [fdiv_pos (by omega)]; simp
      have f4 : ∀ a c : Nat, ((a : Int) * c).fmod p = ((a * c % p : Nat) : Int) := fun a c => by rw [fmod_pos (by omega)]; simp
      have ok1 : okMul (r : Int) b = true := okMul_l (by omega)
      have ok2 : okMul (b : Int) b = true := okMul_l (by omega)
      have ok3 : okDiv (e : Int) 2 = true := rfl
      by_cases he : e % 2 = 1
      · refine ⟨(r * b % p, b * b % p, e / 2), by simp [wb1_is_rest_square, f1, f2, f3, f4, ok1, ok2, ok3, he, p0], ⟨Nat.mod_lt _ (by omega), Nat.mod_lt _ (by omega), ?_⟩, by simp only; omega⟩
        rw [← q3]; exact pow_odd r b p e he
      · refine ⟨(r, b * b % p, e / 2), by simp [wb1_is_rest_square, f1, f2, f3, f4, ok1, ok2, ok3, he, p0], ⟨q1, Nat.mod_lt _ (by omega), ?_⟩, by simp only; omega⟩
        rw [← q3]; exact pow_even r b p e (by omega))
    n (r, b, e) ⟨hr, hb, rfl⟩ hn
  obtain ⟨q1, q2, q3⟩ := h2
  simp only [decide_eq_false_iff_not, Nat.not_lt, Nat.le_zero] at h3 q1 q2 q3
  subst h3
  rw [Nat.pow_zero, Nat.mul_one, Nat.mod_eq_of_lt q1] at q3
  subst q3
  exact ⟨b', by simpa using h1⟩
theorem w1__law_is_rest (n p : Nat) (c0 : D) (r b e : Nat) (p2 : 2 < p) (hp : p < 1073741824) (hr : r < p) (hb : b < p) (hn : e < n) :
    ∃ b', whileN (wt1__law_is_rest n) (wb1__law_is_rest n) n [.fz c0, .fz (.int p), .fz (.int r), .fz (.int b), .fz (.int e)] = some (.nx [.fz c0, .fz (.int p), .fz (.int (r * b ^ e % p : Nat)), .fz (.int b'), .fz (.int 0)]) := by
  obtain ⟨⟨r', b', e'⟩, h1, h2, h3⟩ := while_rule (α := Nat × Nat × Nat) (fun a => [.fz c0, .fz (.int p), .fz (.int a.1), .fz (.int a.2.1), .fz (.int a.2.2)]) (fun a => a.1 < p ∧ a.2.1 < p ∧ a.1 * a.2.1 ^ a.2.2 % p = r * b ^ e % p) (fun a => a.2.2)
    (t := wt1__law_is_rest n) (body := wb1__law_is_rest n) (c := fun a => decide (0 < a.2.2))
    (by rintro ⟨r, b, e⟩ h; simp [wt1__law_is_rest])
    (by
      rintro ⟨r, b, e⟩ ⟨q1, q2, q3⟩ hc
      simp only [decide_eq_true_eq] at q1 q2 q3 hc
      have p0 : p ≠ 0 := by omega
      have f1 : (e : Int).fmod 2 = ((e % 2 : Nat) : Int) := by rw [fmod_pos (by omega)]; simp
      have f2 : ((e : Int) % 2 = 1) ↔ (e % 2 = 1) := by omega
      have f3 : (e : Int).fdiv 2 = ((e / 2 : Nat) : Int) := by rw [fdiv_pos (by omega)]; simp
      have f4 : ∀ a c : Nat, ((a : Int) * c).fmod p = ((a * c % p : Nat) : Int) := fun a c => by rw [fmod_pos (by omega)]; simp
      have ok1 : okMul (r : Int) b = true := okMul_l (by omega)
      have ok2 : okMul (b : Int) b = true := okMul_l (by omega)
      have ok3 : okDiv (e : Int) 2 = true := rfl
      by_cases he : e % 2 = 1
      · refine ⟨(r * b % p, b * b % p, e / 2), by simp [wb1__law_is_rest, f1, f2, f3, f4, ok1, ok2, ok3, he, p0], ⟨Nat.mod_lt _ (by omega), Nat.mod_lt _ (by omega), ?_⟩, by simp only; omega⟩
        rw [← q3]; exact pow_odd r b p e he
      · refine ⟨(r, b * b % p, e / 2), by simp [wb1__law_is_rest, f1, f2, f3, f4, ok1, ok2, ok3, he, p0], ⟨q1, Nat.mod_lt _ (by omega), ?_⟩, by simp only; omega⟩
        rw [← q3]; exact pow_even r b p e (by omega))
    n (r, b, e) ⟨hr, hb, rfl⟩ hn
  obtain ⟨q1, q2, q3⟩ := h2
  simp only [decide_eq_false_iff_not, Nat.not_lt, Nat.le_zero] at h3 q1 q2 q3
  subst h3
  rw [Nat.pow_zero, Nat.mul_one, Nat.mod_eq_of_lt q1] at q3
  subst q3
  exact ⟨b', by simpa using h1⟩
theorem v_is_rest_square (x : Int) (p n : Nat) (p2 : 2 < p) (hp : p < 1073741824) (hn : p < n) : val (m_is_rest_square n) [.int x, .int p] = some (.fz (.bl (chi p x || decide (x % (p : Int) = 0)))) := by
  have f1 : x.fmod p = (resI p x : Int) := by
    rw [fmod_pos (by omega)]
    unfold resI
    have := Int.emod_nonneg x (show (p : Int) ≠ 0 by omega)
    omega
  have f1' : x.fmod p = x % p := fmod_pos (by omega)
  have f2 : ((p : Int) - 1).fdiv 2 = (((p - 1) / 2 : Nat) : Int) := by rw [fdiv_pos (by omega)]; omega
  have ok : okDiv ((p : Int) - 1) 2 = true := rfl
  obtain ⟨b', h⟩ := w1_is_rest_square n p (.int x) 1 (resI p x) ((p - 1) / 2) p2 hp (by omega) (resI_lt p (by omega) x) (by omega)
  have p0 : p ≠ 0 := by omega
  have f3 : (resI p x : Int) = 0 ↔ x % (p : Int) = 0 := by rw [← f1, f1']
  rw [Nat.one_mul] at h
  have f4 : ((resI p x ^ ((p - 1) / 2) % p : Nat) : Int) = 1 ↔ resI p x ^ ((p - 1) / 2) % p = 1 := by omega
  unfold m_is_rest_square
  by_cases hc : resI p x ^ ((p - 1) / 2) % p = 1
  · have hc' : chi p x = true := by unfold chi; simpa using hc
    rw [hc] at h
    simp at h
    simp [f1, f2, ok, h, p0, hc']
  · have hc' : chi p x = false := by unfold chi; simpa using hc
    have hc2 : ¬ ((resI p x ^ ((p - 1) / 2) % p : Nat) : Int) = 1 := fun z => hc (f4.mp z)
    generalize resI p x ^ ((p - 1) / 2) % p = kk at *
    simp at h
    simp [f1, f2, ok, h, p0, hc', hc2]
    omega
theorem v__law_is_rest (x : Int) (p n : Nat) (p2 : 2 < p) (hp : p < 1073741824) (hn : p < n) : val (m__law_is_rest n) [.int x, .int p] = some (.fz (.bl (chi p x))) := by
  have f1 : x.fmod p = (resI p x : Int) := by
    rw [fmod_pos (by omega)]
    unfold resI
    have := Int.emod_nonneg x (show (p : Int) ≠ 0 by omega)
    omega
  have f2 : ((p : Int) - 1).fdiv 2 = (((p - 1) / 2 : Nat) : Int) := by rw [fdiv_pos (by omega)]; omega
  have ok : okDiv ((p : Int) - 1) 2 = true := rfl
  obtain ⟨b', h⟩ := w1__law_is_rest n p (.int x) 1 (resI p x) ((p - 1) / 2) p2 hp (by omega) (resI_lt p (by omega) x) (by omega)
  have p0 : p ≠ 0 := by omega
  rw [Nat.one_mul] at h
  have f4 : ((resI p x ^ ((p - 1) / 2) % p : Nat) : Int) = 1 ↔ resI p x ^ ((p - 1) / 2) % p = 1 := by omega
  unfold m__law_is_rest chi
  generalize resI p x ^ ((p - 1) / 2) % p = kk at *
  simp at h
  simp [f1, f2, ok, h, p0]
  omega
/-! ## all the primes of a number -/
theorem lc_rests (n : Nat) (x : Int) (m : D) : ∀ (L : List Nat), (∀ q ∈ L, q < 1073741824 ∧ q < n) →
    lcI (gN 2) (ct1_is_rest_of_all n) (ce1_is_rest_of_all n) [2] (L.map dI) [.fz (.int x), .fz m, .no] = some ((L.filter fun q => decide (2 < q)).map fun q => .bl (chi q x || decide (x % (q : Int) = 0)), [.fz (.int x), .fz m, .no])
  | [], _ => rfl
  | q :: L, hL => by
    have ih := lc_rests n x m L fun q hq => hL q (by simp [hq])
    have hq := hL q (by simp)
    by_cases h2 : 2 < q
    · have hv := v_is_rest_square x q n h2 hq.1 hq.2
      have h2' : (2 : Int) < q := by omega
      simp [lcI, dI, ct1_is_rest_of_all, ce1_is_rest_of_all, h2, h2', hv, wipeC, asFlat, flatD]
      exact ih
    · have h2' : ¬ (2 : Int) < q := by omega
      simp [lcI, dI, ct1_is_rest_of_all, ce1_is_rest_of_all, h2, h2', wipeC]
      exact ih
theorem boolsOf_map (f : Nat → Bool) : ∀ L : List Nat, boolsOf (L.map fun q => .bl (f q)) = some (L.map f)
  | [] => rfl
  | q :: L => by simp [boolsOf, boolsOf_map f L]
theorem v_is_rest_of_all (x m : Int) (n : Nat) (m0 : m ≠ 0) (hm : m.natAbs < 1073741824) (hn : m.natAbs + 2 < n) :
    ∃ t : Bool, val (m_is_rest_of_all n) [.int x, .int m] = some (.fz (.bl t)) ∧ (t = true ↔ ∀ q : Nat, Pr q → q ≠ 2 → (q : Int) ∣ m → rest q x) := by
  obtain ⟨L, c, h1, h2, h3, h4⟩ := v_primes_of m.natAbs n (by omega) (by omega) hn
  have hL : ∀ q ∈ L, q < 1073741824 ∧ q < n := fun q hq => by
    have := Nat.le_of_dvd (by omega) ((h3 q).mp hq).2
    omega
  have lc := lc_rests n x (.int m) L hL
  refine ⟨((L.filter fun q => decide (2 < q)).map fun q => (chi q x || decide (x % (q : Int) = 0))).all id, ?_, ?_⟩
  · have hl : (L.filter fun q => decide (2 < q)).length ≤ 16777216 := Nat.le_trans (List.length_filter_le _ _) (by omega)
    unfold m_is_rest_of_all
    simp [natCast_abs, h1, h2, mLc, notOb, wipeC, lc, restC, hl, cAll, boolsOf_map]
  · rw [List.all_map, List.all_eq_true]
    constructor
    · intro h q hq q2 d
      have hq1 := hq.1
      have := h q (List.mem_filter.mpr ⟨(h3 q).mpr ⟨hq, Int.natAbs_dvd_natAbs.mpr d⟩, by simp; omega⟩)
      simp at this
      unfold rest
      rcases this with z | z
      · exact .inl z
      · exact .inr (Int.dvd_of_emod_eq_zero z)
    · intro h q hq
      obtain ⟨a, b⟩ := List.mem_filter.mp hq
      have hp := (h3 q).mp a
      have hd : (q : Int) ∣ m := by
        rw [← Int.natAbs_dvd_natAbs]; exact hp.2
      simp at b ⊢
      rcases h q hp.1 (by omega) hd with z | z
      · exact .inl z
      · exact .inr (Int.emod_eq_zero_of_dvd z)
end K33

set_option linter.all false
set_option maxRecDepth 100000
namespace K33
open PySem Sim NT
open L2 (Key)
theorem dvd_cast {p : Nat} {A : Int} : (p : Int) ∣ A ↔ p ∣ A.natAbs := by rw [← Int.natAbs_dvd_natAbs, Int.natAbs_natCast]
/-! ## the program's sums -/
theorem v_sums_to_nought (a b : Int) (n : Nat) (a0 : a ≠ 0) (b0 : b ≠ 0) (ha : a.natAbs ≤ 1000000) (hb : b.natAbs ≤ 1000000) (hn : 1000000000010 < n) {A B : Int} (iA : IsBare a A) (iB : IsBare b B) :
    ∃ t : Bool, val (m_sums_to_nought n) [.int a, .int b] = some (.fz (.bl t)) ∧ (t = true ↔ LS A B) := by
  obtain ⟨A', h1, iA'⟩ := v_square_free a n a0 (by omega) (by omega)
  obtain ⟨B', h2, iB'⟩ := v_square_free b n b0 (by omega) (by omega)
  cases iA.uniq iA'
  cases iB.uniq iB'
  have lA := iA.le
  have lB := iB.le
  have A0 := iA.1.ne
  have B0 := iB.1.ne
  by_cases neg : A < 0 ∧ B < 0
  · refine ⟨false, ?_, by simp; exact fun z => z.1 neg⟩
    unfold m_sums_to_nought
    simp [h1, h2, neg.1, neg.2]
  obtain ⟨g, hg⟩ : ∃ g, Nat.gcd A.natAbs B.natAbs = g := ⟨_, rfl⟩
  have g0 : 0 < g := by rw [← hg]; exact Nat.gcd_pos_of_pos_left _ (by omega)
  have gA : (g : Int) ∣ A := dvd_cast.mpr (by rw [← hg]; exact Nat.gcd_dvd_left ..)
  have gB : (g : Int) ∣ B := dvd_cast.mpr (by rw [← hg]; exact Nat.gcd_dvd_right ..)
  have gl : g ≤ A.natAbs := by rw [← hg]; exact Nat.gcd_le_left _ (by omega)
  have h3 : val (m_shared n) [.int (if A < 0 then -A else A), .int (if B < 0 then -B else B)] = some (.fz (.int g)) := by
    rw [natCast_abs, natCast_abs, v_shared _ _ n (by omega), hg]
  obtain ⟨A1, rfl⟩ := gA
  obtain ⟨B1, rfl⟩ := gB
  have gz : (g : Int) ≠ 0 := by omega
  have eA : (g * A1 : Int).fdiv g = A1 := by rw [fdiv_pos (by omega)]; exact ediv_of gz
  have eB : (g * B1 : Int).fdiv g = B1 := by rw [fdiv_pos (by omega)]; exact ediv_of gz
  have A10 : A1 ≠ 0 := fun z => A0 (by rw [z, Int.mul_zero])
  have B10 : B1 ≠ 0 := fun z => B0 (by rw [z, Int.mul_zero])
  have nA : (g * A1 : Int).natAbs = g * A1.natAbs := by rw [Int.natAbs_mul, Int.natAbs_natCast]
  have nB : (g * B1 : Int).natAbs = g * B1.natAbs := by rw [Int.natAbs_mul, Int.natAbs_natCast]
  have lA1 : A1.natAbs ≤ 1000000 := by
    have := Nat.le_mul_of_pos_left A1.natAbs g0
    omega
  have lB1 : B1.natAbs ≤ 1000000 := by
    have := Nat.le_mul_of_pos_left B1.natAbs g0
    omega
  have ab : (-A1 * B1).natAbs ≤ 1000000000000 := by
    rw [Int.natAbs_mul, Int.natAbs_neg]
    exact Nat.mul_le_mul lA1 lB1
  have ab0 : -A1 * B1 ≠ 0 := Int.mul_ne_zero (by omega) B10
  obtain ⟨t, h4, it⟩ := v_square_free (-A1 * B1) n ab0 (by omega) (by omega)
  obtain ⟨t1, h5, e5⟩ := v_is_rest_of_all (g * A1) B1 n B10 (by omega) (by omega)
  obtain ⟨t2, h6, e6⟩ := v_is_rest_of_all (g * B1) A1 n A10 (by omega) (by omega)
  obtain ⟨t3, h7, e7⟩ := v_is_rest_of_all t g n gz (by omega) (by omega)
  obtain ⟨st, k, k0, ek⟩ := it
  have sp := LS_split iA.1 iB.1 rfl rfl (fun p hp d1 d2 => dvd_cast.mpr (by
    rw [Int.natAbs_natCast, ← hg]; exact Nat.dvd_gcd (dvd_cast.mp d1) (dvd_cast.mp d2))) ek.symm k0
  have okm : okMul (-A1) B1 = true := okMul_l (by omega)
  have okd : ∀ i : Int, okDiv i g = true := fun i => okDiv_i (by omega) (by omega)
  refine ⟨t1 && t2 && t3, ?_, ?_⟩
  · unfold m_sums_to_nought
    simp only [not_and] at neg
    by_cases n1 : (g * A1 : Int) < 0
    · have n2 := neg n1
      simp only [n1, n2, if_true, if_false] at h3
      cases t1 <;> cases t2 <;> simp [h1, h2, h3, h4, h5, h6, h7, n1, n2, eA, eB, okm, okd]
    · cases n2 : decide ((g * B1 : Int) < 0) <;> simp only [n1, decide_eq_true_eq, decide_eq_false_iff_not] at n2 <;> simp only [n1, n2, if_true, if_false] at h3 <;>
      cases t1 <;> cases t2 <;> simp [h1, h2, h3, h4, h5, h6, h7, n1, n2, eA, eB, okm, okd]
  · unfold LS
    rw [sp]
    simp only [Bool.and_eq_true, e5, e6, e7]
    constructor
    · rintro ⟨⟨a, b⟩, c⟩; exact ⟨neg, a, b, c⟩
    · rintro ⟨_, a, b, c⟩; exact ⟨⟨a, b⟩, c⟩
/-! ## the law's sums -/
theorem putG_keys (k : Key) (d : D) (x : Key) : ∀ l : List (Key × D), x ∈ (putG l k d).map (·.1) ↔ (x ∈ l.map (·.1) ∨ x = k) := by
  intro l
  unfold putG
  split
  · rename_i h
    obtain ⟨y, hy, e⟩ := List.any_eq_true.mp h
    have e := of_decide_eq_true e
    have : ∀ l : List (Key × D), (l.map fun kv => if kv.1 = k then (kv.1, d) else kv).map (·.1) = l.map (·.1) := fun l => by
      rw [List.map_map]; exact List.map_congr_left fun y _ => by simp only [Function.comp]; split <;> rfl
    rw [this]
    exact ⟨.inl, fun h => h.elim id fun z => by rw [z, ← e]; exact List.mem_map_of_mem hy⟩
  · simp
theorem mergeG_keys (x : Key) : ∀ (m l : List (Key × D)), x ∈ (mergeG l m).map (·.1) ↔ (x ∈ l.map (·.1) ∨ x ∈ m.map (·.1))
  | [], l => by simp [mergeG]
  | p :: m, l => by
    have := mergeG_keys x m (putG l p.1 p.2)
    show x ∈ (mergeG (putG l p.1 p.2) m).map (·.1) ↔ _
    rw [this, putG_keys, List.map_cons, List.mem_cons, or_assoc]
theorem putG_len (k : Key) (d : D) (l : List (Key × D)) : (putG l k d).length ≤ l.length + 1 := by
  unfold putG; split <;> simp
theorem mergeG_len : ∀ (m l : List (Key × D)), (mergeG l m).length ≤ l.length + m.length
  | [], l => by simp [mergeG]
  | p :: m, l => by
    have := mergeG_len m (putG l p.1 p.2)
    have h2 := putG_len p.1 p.2 l
    show (mergeG (putG l p.1 p.2) m).length ≤ _
    simp only [List.length_cons]; omega
def kvOf (x : Nat × Nat) : Key × D := (.inl (x.1 : Int), .int x.2)
theorem pairsOf_map : ∀ L : List (Nat × Nat), pairsOf (L.map dPair) = some (L.map kvOf)
  | [] => rfl
  | x :: L => by
    have := pairsOf_map L
    simp only [List.map_cons, dPair, pairsOf, dKey, Option.bind_some, kvOf]
    rw [show L.map dPair = L.map dPair from rfl] at this
    simp only [this]
    rfl
theorem keysI_of : ∀ l : List (Key × D), (∀ k ∈ l.map (·.1), ∃ q : Nat, k = .inl (q : Int)) → ∃ ks : List Nat, keysI (ofKD l) = some (ks.map Int.ofNat) ∧ (∀ q : Nat, q ∈ ks ↔ Sum.inl (q : Int) ∈ l.map (·.1)) ∧ ks.length = l.length
  | [], _ => ⟨[], rfl, by simp, rfl⟩
  | (k, d) :: l, h => by
    obtain ⟨q, rfl⟩ := h k (by simp)
    obtain ⟨ks, h1, h2, h3⟩ := keysI_of l fun k hk => h k (by simp only [List.map_cons, List.mem_cons]; exact .inr hk)
    refine ⟨q :: ks, ?_, fun q' => ?_, by simp [h3]⟩
    · show (keysI (ofKD l)).map _ = _
      rw [h1]; rfl
    · have e : (q' : Int) = q ↔ q' = q := by omega
      rw [List.mem_cons, h2, List.map_cons, List.mem_cons, Sum.inl.injEq, e]
theorem for_sums (n : Nat) (A B : Int) (hA : A.natAbs < 1073741824) : ∀ (ks : List Nat), (∀ p ∈ ks, Pr p ∧ ((p : Int) ∣ A ∨ (p : Int) ∣ B) ∧ p < 1073741824 ∧ p < n) → ∀ c2 c3 c4 : C, isFree c2 = true → isFree c3 = true → isFree c4 = true →
    (∃ σ', forI (gN 2) (fb1__law_sums n) (ks.map dI) [.fz (.int A), .fz (.int B), c2, c3, c4] = some (.nx σ') ∧ ∀ p ∈ ks, 2 < p → hs p A B = true) ∨
    (∃ σ', forI (gN 2) (fb1__law_sums n) (ks.map dI) [.fz (.int A), .fz (.int B), c2, c3, c4] = some (.rt (.fz (.bl false)) σ') ∧ ∃ p ∈ ks, 2 < p ∧ hs p A B = false)
  | [], _, c2, c3, c4, _, _, _ => .inl ⟨_, rfl, by simp⟩
  | p :: ks, h, c2, c3, c4, f2, f3, f4 => by
    obtain ⟨hp, hd, hl, hn⟩ := h p (by simp)
    have ih := for_sums n A B hA ks fun q hq => h q (by simp [hq])
    by_cases h2 : 2 < p
    case neg =>
      have h2' : ¬ (2 : Int) < p := by omega
      have st : forI (gN 2) (fb1__law_sums n) ((p :: ks).map dI) [.fz (.int A), .fz (.int B), c2, c3, c4] = forI (gN 2) (fb1__law_sums n) (ks.map dI) [.fz (.int A), .fz (.int B), .fz (.int p), c3, c4] := by
        simp [dI, fb1__law_sums, f2, h2']
      rw [st]
      rcases ih (.fz (.int p)) c3 c4 rfl f3 f4 with ⟨σ', e, z⟩ | ⟨σ', e, q, hq, z⟩
      · exact .inl ⟨σ', e, fun q hq q2 => by
          rcases List.mem_cons.mp hq with rfl | hq
          · exact absurd q2 h2
          · exact z q hq q2⟩
      · exact .inr ⟨σ', e, q, by simp [hq], z⟩
    have h2' : (2 : Int) < p := by omega
    have p0 : p ≠ 0 := by omega
    have eA : A.fmod p = A % p := fmod_pos (by omega)
    have eB : B.fmod p = B % p := fmod_pos (by omega)
    have dA : A.fdiv p = A / p := fdiv_pos (by omega)
    have dB : B.fdiv p = B / p := fdiv_pos (by omega)
    have ok1 : ∀ i : Int, okDiv i p = true := fun i => okDiv_i (by omega) (by omega)
    have lA : (A / p).natAbs ≤ A.natAbs := Int.natAbs_ediv_le_natAbs A p
    have ok2 : okMul (A / p) (B / p) = true := okMul_l (by omega)
    have vA : A % p = 0 ↔ (p : Int) ∣ A := ⟨Int.dvd_of_emod_eq_zero, Int.emod_eq_zero_of_dvd⟩
    have vB : B % p = 0 ↔ (p : Int) ∣ B := ⟨Int.dvd_of_emod_eq_zero, Int.emod_eq_zero_of_dvd⟩
    have st : (hs p A B = true → ∃ c3' c4', isFree c3' = true ∧ isFree c4' = true ∧ forI (gN 2) (fb1__law_sums n) ((p :: ks).map dI) [.fz (.int A), .fz (.int B), c2, c3, c4] = forI (gN 2) (fb1__law_sums n) (ks.map dI) [.fz (.int A), .fz (.int B), .fz (.int p), c3', c4']) ∧
        (hs p A B = false → ∃ σ', forI (gN 2) (fb1__law_sums n) ((p :: ks).map dI) [.fz (.int A), .fz (.int B), c2, c3, c4] = some (.rt (.fz (.bl false)) σ')) := by
      by_cases a : (p : Int) ∣ A <;> by_cases b : (p : Int) ∣ B
      · have r := v__law_is_rest (0 - A / p * (B / p)) p n h2 hl hn
        have e : hs p A B = chi p (0 - A / p * (B / p)) := by unfold hs; rw [if_pos a, if_pos b]
        have za := vA.mpr a
        have zb := vB.mpr b
        rw [← e] at r
        refine ⟨fun t => ⟨.fz (.bl true), .fz (.bl true), rfl, rfl, ?_⟩, fun t => ⟨[.fz (.int A), .fz (.int B), .fz (.int p), .fz (.bl true), .fz (.bl true)], ?_⟩⟩
        · rw [t] at r
          simp [dI, fb1__law_sums, f2, f3, f4, h2', eA, eB, dA, dB, za, zb, p0, ok1, ok2] at r ⊢
          simp [r]
        · rw [t] at r
          simp [dI, fb1__law_sums, f2, f3, f4, h2', eA, eB, dA, dB, za, zb, p0, ok1, ok2] at r ⊢
          simp [r]
      · have r := v__law_is_rest B p n h2 hl hn
        have e : hs p A B = chi p B := by unfold hs; rw [if_pos a, if_neg b]
        have za := vA.mpr a
        have zb : ¬ B % p = 0 := fun z => b (vB.mp z)
        rw [← e] at r
        refine ⟨fun t => ⟨.fz (.bl true), .fz (.bl false), rfl, rfl, ?_⟩, fun t => ⟨[.fz (.int A), .fz (.int B), .fz (.int p), .fz (.bl true), .fz (.bl false)], ?_⟩⟩
        · rw [t] at r
          simp [dI, fb1__law_sums, f2, f3, f4, h2', eA, eB, za, zb, p0, r]
        · rw [t] at r
          simp [dI, fb1__law_sums, f2, f3, f4, h2', eA, eB, za, zb, p0, r]
      · have r := v__law_is_rest A p n h2 hl hn
        have e : hs p A B = chi p A := by unfold hs; rw [if_neg a, if_pos b]
        have za : ¬ A % p = 0 := fun z => a (vA.mp z)
        have zb := vB.mpr b
        rw [← e] at r
        refine ⟨fun t => ⟨.fz (.bl false), .fz (.bl true), rfl, rfl, ?_⟩, fun t => ⟨[.fz (.int A), .fz (.int B), .fz (.int p), .fz (.bl false), .fz (.bl true)], ?_⟩⟩
        · rw [t] at r
          simp [dI, fb1__law_sums, f2, f3, f4, h2', eA, eB, za, zb, p0, r]
        · rw [t] at r
          simp [dI, fb1__law_sums, f2, f3, f4, h2', eA, eB, za, zb, p0, r]
      · exact absurd hd (by simp [a, b])
    cases t : hs p A B with
    | false =>
      obtain ⟨σ', e⟩ := st.2 t
      exact .inr ⟨σ', e, p, by simp, h2, t⟩
    | true =>
      obtain ⟨c3', c4', f3', f4', e'⟩ := st.1 t
      rw [e']
      rcases ih (.fz (.int p)) c3' c4' rfl f3' f4' with ⟨σ', e, z⟩ | ⟨σ', e, q, hq, z⟩
      · exact .inl ⟨σ', e, fun q hq q2 => by
          rcases List.mem_cons.mp hq with rfl | hq
          · exact t
          · exact z q hq q2⟩
      · exact .inr ⟨σ', e, q, by simp [hq], z⟩
end K33

set_option linter.all false
set_option maxRecDepth 100000
namespace K33
open PySem Sim NT
open L2 (Key)
theorem v__law_sums (a b : Int) (n : Nat) (a0 : a ≠ 0) (b0 : b ≠ 0) (ha : a.natAbs ≤ 1000000) (hb : b.natAbs ≤ 1000000) (hn : 1000000000010 < n) {A B : Int} (iA : IsBare a A) (iB : IsBare b B) :
    ∃ t : Bool, val (m__law_sums n) [.int a, .int b] = some (.fz (.bl t)) ∧ (t = true ↔ LS A B) := by
  obtain ⟨A', h1, iA'⟩ := v__law_bare a n a0 (by omega) (by omega)
  obtain ⟨B', h2, iB'⟩ := v__law_bare b n b0 (by omega) (by omega)
  cases iA.uniq iA'
  cases iB.uniq iB'
  have lA := iA.le
  have lB := iB.le
  have A0 := iA.1.ne
  have B0 := iB.1.ne
  by_cases neg : A < 0 ∧ B < 0
  · refine ⟨false, ?_, by simp; exact fun z => z.1 neg⟩
    unfold m__law_sums
    simp [h1, h2, neg.1, neg.2]
  obtain ⟨LA, h3, PA⟩ := v__law_parts A.natAbs n (by omega) (by omega) (by omega)
  obtain ⟨LB, h4, PB⟩ := v__law_parts B.natAbs n (by omega) (by omega) (by omega)
  have len : ∀ {X : Nat} {L : List (Nat × Nat)}, Parts X L → X ≤ 1000000 → L.length < 20 := fun {X L} P hX => by
    refine Nat.lt_of_not_le fun z => ?_
    have h1 := Nat.pow_le_pow_right (n := 2) (by omega) z
    have h3 : (2 : Nat) ^ 20 = 1048576 := rfl
    have := P.le
    omega
  have lenA := len PA (by omega)
  have lenB := len PB (by omega)
  have kk : ∀ q : Nat, Sum.inl (q : Int) ∈ ((mergeG [] ((LA ++ LB).map kvOf)).map (·.1) : List Key) ↔ (Pr q ∧ (q ∣ A.natAbs ∨ q ∣ B.natAbs)) := fun q => by
    have e : ∀ L : List (Nat × Nat), Sum.inl (q : Int) ∈ ((L.map kvOf).map (·.1) : List Key) ↔ q ∈ L.map (·.1) := fun L => by
      simp only [List.map_map, List.mem_map, Function.comp, kvOf]
      constructor
      · rintro ⟨x, hx, z⟩
        cases z
        exact ⟨x, hx, by omega⟩
      · rintro ⟨x, hx, rfl⟩
        exact ⟨x, hx, rfl⟩
    rw [mergeG_keys, e, List.map_append, List.mem_append, PA.pr, PB.pr]
    simp only [List.map_nil, List.not_mem_nil, false_or]
    constructor
    · rintro (⟨a, b⟩ | ⟨a, b⟩)
      · exact ⟨a, .inl b⟩
      · exact ⟨a, .inr b⟩
    · rintro ⟨a, b | b⟩
      · exact .inl ⟨a, b⟩
      · exact .inr ⟨a, b⟩
  obtain ⟨ks, k1, k2, k3⟩ := keysI_of (mergeG [] ((LA ++ LB).map kvOf)) (fun k hk => by
    rcases (mergeG_keys k _ _).mp hk with z | z
    · cases z
    · simp only [List.map_map, List.mem_map, Function.comp] at z
      obtain ⟨x, _, rfl⟩ := z
      exact ⟨x.1, rfl⟩)
  have kl := mergeG_len ((LA ++ LB).map kvOf) []
  rw [List.length_map, List.length_append, List.length_nil] at kl
  -- the keys in order
  have srt : ∃ ss : List Nat, isort (ks.map Int.ofNat) = ss.map Int.ofNat ∧ ∀ q, q ∈ ss ↔ q ∈ ks := by
    have pm := isort_perm (ks.map Int.ofNat)
    refine ⟨(isort (ks.map Int.ofNat)).map Int.toNat, ?_, fun q => ?_⟩
    · rw [List.map_map]
      refine (List.map_id _).symm.trans (List.map_congr_left fun x hx => ?_)
      obtain ⟨y, _, rfl⟩ := List.mem_map.mp (pm.mem_iff.mp hx)
      rfl
    · rw [List.mem_map]
      constructor
      · rintro ⟨x, hx, rfl⟩
        obtain ⟨y, hy, rfl⟩ := List.mem_map.mp (pm.mem_iff.mp hx)
        exact hy
      · intro h
        exact ⟨q, pm.mem_iff.mpr (List.mem_map_of_mem h), rfl⟩
  obtain ⟨ss, s1, s2⟩ := srt
  have hss : ∀ p, p ∈ ss ↔ (Pr p ∧ (p ∣ A.natAbs ∨ p ∣ B.natAbs)) := fun p => by rw [s2, k2, kk]
  have fs := for_sums n A B (by omega) ss (fun p hp => by
    obtain ⟨h1, h2⟩ := (hss p).mp hp
    refine ⟨h1, h2.imp dvd_cast.mpr dvd_cast.mpr, ?_⟩
    have : p ≤ 1000000 := by
      rcases h2 with z | z
      · have := Nat.le_of_dvd (by omega) z; omega
      · have := Nat.le_of_dvd (by omega) z; omega
    omega) .no .no .no rfl rfl rfl
  have e1 : (ss.map Int.ofNat).map D.int = ss.map dI := by rw [List.map_map]; rfl
  have hl1 : ks.length < 64 := by omega
  have hd : cDictP [.lst (LA.map dPair ++ LB.map dPair)] = some (.ob .ow (.dct (ofKD (mergeG [] ((LA ++ LB).map kvOf))))) := by
    show Option.map _ (pairsOf (LA.map dPair ++ LB.map dPair)) = _
    rw [← List.map_append, pairsOf_map]; rfl
  have hso : cSortI [.dct (ofKD (mergeG [] ((LA ++ LB).map kvOf)))] = some (.ob .ow (.lst (ss.map dI))) := by
    show (keysI (ofKD (mergeG [] ((LA ++ LB).map kvOf)))).bind _ = _
    rw [k1]
    simp only [Option.bind_some, List.length_map, hl1, if_true, s1, e1]
  generalize (D.dct (ofKD (mergeG [] ((LA ++ LB).map kvOf)))) = dd at hd hso
  have hl2 : LA.length + LB.length ≤ 16777216 := by omega
  have LSe : LS A B ↔ ∀ p ∈ ss, 2 < p → hs p A B = true := by
    unfold LS
    constructor
    · rintro ⟨_, h⟩ p hp h2
      exact h p ((hss p).mp hp).1 (by omega)
    · intro h
      refine ⟨neg, fun p hp h2 => ?_⟩
      by_cases m : p ∈ ss
      · exact h p m (by have := hp.1; omega)
      · have : ¬ (p : Int) ∣ A ∧ ¬ (p : Int) ∣ B := ⟨fun z => m ((hss p).mpr ⟨hp, .inl (dvd_cast.mp z)⟩), fun z => m ((hss p).mpr ⟨hp, .inr (dvd_cast.mp z)⟩)⟩
        unfold hs
        rw [if_neg this.1, if_neg this.2]
  simp only [not_and] at neg
  have ht : ∀ (o : O), forI (gN 2) (fb1__law_sums n) (ss.map dI) [.fz (.int A), .fz (.int B), .no, .no, .no] = some o → val (m__law_sums n) [.int a, .int b] = (match o with | .rt c _ => some c | .nx _ => some (.fz (.bl true)) | _ => none) := fun o ho => by
    unfold m__law_sums
    by_cases n1 : A < 0
    · have n2 := neg n1
      have e1 : (A.natAbs : Int) = -A := by omega
      have e2 : (B.natAbs : Int) = B := by omega
      rw [e1] at h3
      rw [e2] at h4
      cases o <;> simp [h1, h2, n1, n2, h3, h4, hl2, hd, hso, ho]
    · have e1 : (A.natAbs : Int) = A := by omega
      rw [e1] at h3
      by_cases n2 : B < 0
      · have e2 : (B.natAbs : Int) = -B := by omega
        rw [e2] at h4
        cases o <;> simp [h1, h2, n1, n2, h3, h4, hl2, hd, hso, ho]
      · have e2 : (B.natAbs : Int) = B := by omega
        rw [e2] at h4
        cases o <;> simp [h1, h2, n1, n2, h3, h4, hl2, hd, hso, ho]
  rcases fs with ⟨σ', e, z⟩ | ⟨σ', e, p, hp, p2, z⟩
  · exact ⟨true, ht _ e, by simp [LSe]; exact z⟩
  · refine ⟨false, ht _ e, ?_⟩
    rw [LSe]
    simp only [Bool.false_eq_true, false_iff]
    intro h
    rw [h p hp p2] at z
    cases z
end K33

set_option linter.all false
set_option maxRecDepth 100000
namespace K33
open PySem Sim NT
theorem root_uniq {x r s : Int} (r0 : 0 ≤ r) (s0 : 0 ≤ s) (r1 : r * r ≤ x) (r2 : x < (r + 1) * (r + 1)) (s1 : s * s ≤ x) (s2 : x < (s + 1) * (s + 1)) : r = s := by
  have key : ∀ {a b : Int}, 0 ≤ a → a * a ≤ x → x < (b + 1) * (b + 1) → 0 ≤ b → a ≤ b := fun {a b} a0 h1 h2 b0 => by
    refine Int.not_lt.mp fun z => ?_
    have := Int.mul_le_mul (show b + 1 ≤ a by omega) (show b + 1 ≤ a by omega) (by omega) a0
    omega
  exact Int.le_antisymm (key r0 r1 s2 s0) (key s0 s1 r2 r0)
theorem root_small {x r : Int} (r0 : 0 ≤ r) (h : r * r ≤ x) : r ≤ x := by
  rcases Int.lt_or_le r 1 with z | z
  · have := Int.mul_nonneg r0 r0; omega
  · have := Int.mul_le_mul_of_nonneg_left z r0
    omega
theorem v_squares (x : Int) (n : Nat) (x0 : 0 ≤ x) (hx : x < 1073741824) (hn : x.toNat + 1 < n) : ∃ t : Bool, val (m_is_square n) [.int x] = some (.fz (.bl t)) ∧ val (m__law_is_square n) [.int x] = some (.fz (.bl t)) := by
  obtain ⟨r, h1, r0, r1, r2⟩ := v_root_of x n x0 hx hn
  obtain ⟨s, h2, s0, s1, s2⟩ := v__law_root x n x0 hx hn
  cases root_uniq r0 s0 r1 r2 s1 s2
  have := root_small r0 r1
  have ok : okMul r r = true := okMul_l (by omega)
  refine ⟨decide (r * r = x), ?_, ?_⟩
  · unfold m_is_square; simp [h1, ok, x0]
  · unfold m__law_is_square; simp [h2, ok]
theorem v_is_square_family (v k l : Int) (n : Nat) (hv : 1 ≤ v ∧ v ≤ 1000) (hk : 2 ≤ k ∧ k ≤ v) (hl : 1 ≤ l ∧ l ≤ 1000000) : val (m_is_square_family n) [.int v, .int k, .int l] = some (.fz (.bl (decide (l * (v - 1) = k * (k - 1))))) := by
  have h := v_check n v k l 2 (by omega)
  have e : (if k < 2 then k else 2) = 2 := by split <;> omega
  have ok1 : okMul l (v - 1) = true := okMul_l (by omega)
  have ok2 : okMul k (k - 1) = true := okMul_l (by omega)
  have h2 : ¬ k < 2 := by omega
  unfold m_is_square_family
  simp [h, e, ok1, ok2, h2]
def noBar (r : D) : Prop := r = .non ∨ r = .str "square" ∨ r = .str "sums"
theorem v_bar (v k l : Int) (n : Nat) (hv : 1 ≤ v ∧ v ≤ 1000) (hk : 2 ≤ k ∧ k ≤ v) (hl : 1 ≤ l ∧ l < k) (sf : l * (v - 1) = k * (k - 1)) (hn : 1000000000010 < n) :
    ∃ r, noBar r ∧ val (m_square_bar n) [.int v, .int k, .int l] = some (.fz r) ∧ val (m__law_bar n) [.int v, .int k, .int l] = some (.fz r) := by
  have f := v_is_square_family v k l n hv hk (by omega)
  rw [decide_eq_true sf] at f
  obtain ⟨q, q1, q2⟩ := v_squares (k - l) n (by omega) (by omega) (by omega)
  have ne : ¬ k = l := by omega
  have e1 : v.fmod 2 = v % 2 := fmod_pos (by omega)
  have e2 : (v - 1).fdiv 2 = (v - 1) / 2 := fdiv_pos (by omega)
  have e3 : ∀ i : Int, i.fmod 2 = i % 2 := fun i => fmod_pos (by omega)
  have ok : ∀ i : Int, okDiv i 2 = true := fun _ => rfl
  by_cases hev : v % 2 = 0
  · refine ⟨if q = true then .non else .str "square", by unfold noBar; cases q <;> simp, ?_, ?_⟩
    · unfold m_square_bar
      cases q <;> simp [f, ne, e1, hev, q1]
    · unfold m__law_bar
      cases q <;> simp [ne, e1, hev, q2]
  · obtain ⟨sg, hsg⟩ : ∃ sg : Int, (if (v - 1) / 2 % 2 = 0 then (1 : Int) else -1) = sg := ⟨_, rfl⟩
    have sgv : sg = 1 ∨ sg = -1 := by rw [← hsg]; split <;> simp
    have hb0 : sg * l ≠ 0 := by rcases sgv with z | z <;> subst z <;> omega
    have hbl : (sg * l).natAbs ≤ 1000000 := by rcases sgv with z | z <;> subst z <;> omega
    obtain ⟨A, _, iA⟩ := v_square_free (k - l) n (by omega) (by omega) (by omega)
    obtain ⟨B, _, iB⟩ := v_square_free (sg * l) n hb0 (by omega) (by omega)
    obtain ⟨t, t1, t2⟩ := v_sums_to_nought (k - l) (sg * l) n (by omega) hb0 (by omega) hbl hn iA iB
    obtain ⟨u, u1, u2⟩ := v__law_sums (k - l) (sg * l) n (by omega) hb0 (by omega) hbl hn iA iB
    have tu : t = u := by
      cases t <;> cases u <;> simp_all
    subst tu
    have okm : okMul sg l = true := okMul_r (by omega)
    refine ⟨if t = true then .non else .str "sums", by unfold noBar; cases t <;> simp, ?_, ?_⟩
    · unfold m_square_bar
      by_cases hs : (v - 1) / 2 % 2 = 0
      · rw [if_pos hs] at hsg
        subst hsg
        simp only [Int.one_mul] at t1 okm
        cases t <;> simp [f, ne, e1, hev, e2, e3, ok, hs, okm, t1]
      · rw [if_neg hs] at hsg
        subst hsg
        simp only [Int.neg_mul, Int.one_mul] at t1
        cases t <;> simp [f, ne, e1, hev, e2, e3, ok, hs, okm, t1]
    · unfold m__law_bar
      by_cases hs : (v - 1) / 2 % 2 = 0
      · rw [if_pos hs] at hsg
        subst hsg
        simp only [Int.one_mul] at u1 okm
        cases t <;> simp [ne, e1, hev, e2, e3, ok, hs, okm, u1]
      · rw [if_neg hs] at hsg
        subst hsg
        simp only [Int.neg_mul, Int.one_mul] at u1
        cases t <;> simp [ne, e1, hev, e2, e3, ok, hs, okm, u1]
/-! ## counts -/
theorem v_choose0 (a : Int) (n : Nat) (h : 0 ≤ a) : val (m_choose n) [.int a, .int 0] = some (.fz (.int 1)) := by
  have h1 : ¬ a < 0 := by omega
  unfold m_choose
  simp [h1, okRng, okDiv]
theorem v_choose1 (a : Int) (n : Nat) (h : 1 ≤ a ∧ a ≤ 1000) : val (m_choose n) [.int a, .int 1] = some (.fz (.int a)) := by
  have h1 : ¬ a < 1 := by omega
  have ok : okMul 1 a = true := rfl
  unfold m_choose
  simp [h1, okRng, okDiv, fb1_choose, okMul]
theorem v_choose2 (a : Int) (n : Nat) (h : 2 ≤ a ∧ a ≤ 1000) : val (m_choose n) [.int a, .int 2] = some (.fz (.int (a * (a - 1) / 2))) := by
  have h1 : ¬ a < 2 := by omega
  have ok : a.natAbs < 18446744073709551616 := by omega
  have e : (a * (a - 1)).fdiv 2 = a * (a - 1) / 2 := fdiv_pos (by omega)
  unfold m_choose
  simp [h1, okRng, okDiv, fb1_choose, okMul, ok, e]
end K33

set_option linter.all false
set_option maxRecDepth 100000
namespace K33
open PySem Sim NT
theorem half (a : Int) : 2 * (a * (a - 1) / 2) = a * (a - 1) := by
  rcases (by omega : a % 2 = 0 ∨ a % 2 = 1) with h | h
  · obtain ⟨m, rfl⟩ : ∃ m, a = 2 * m := ⟨a / 2, by omega⟩
    rw [show 2 * m * (2 * m - 1) = 2 * (m * (2 * m - 1)) by rw [Int.mul_assoc], Int.mul_ediv_cancel_left _ (by decide)]
  · obtain ⟨m, rfl⟩ : ∃ m, a = 2 * m + 1 := ⟨a / 2, by omega⟩
    rw [show (2 * m + 1) * (2 * m + 1 - 1) = 2 * ((2 * m + 1) * m) by rw [show 2 * m + 1 - 1 = 2 * m by omega, Int.mul_left_comm], Int.mul_ediv_cancel_left _ (by decide)]
theorem half_pos {a : Int} (h : 2 ≤ a) (h2 : a ≤ 1000) : 1 ≤ a * (a - 1) / 2 ∧ a * (a - 1) / 2 ≤ 500000 := by
  have h1 : a * (a - 1) ≤ 1000 * 1000 := Int.mul_le_mul h2 (by omega) (by omega) (by omega)
  have h3 : 2 * 1 ≤ a * (a - 1) := Int.mul_le_mul h (by omega) (by omega) (by omega)
  omega
theorem v_shares (v k l : Int) (n : Nat) (hv : 1 ≤ v ∧ v ≤ 1000) (hk : 2 ≤ k ∧ k < v) (hl : 1 ≤ l ∧ l ≤ 1000000) :
    val (m_shares_by n) [.int v, .int k, .int l, .int 2] = some (if l * (v * (v - 1) / 2) % (k * (k - 1) / 2) = 0 ∧ l * (v - 1) % (k - 1) = 0 then
      .ob .ow (.lst [.int (l * (v * (v - 1) / 2) / (k * (k - 1) / 2)), .int (l * (v - 1) / (k - 1)), .int l]) else .fz .non) := by
  have V := half_pos (a := v) (by omega) hv.2
  have K := half_pos (a := k) hk.1 (by omega)
  have c1 := v_choose2 v n (by omega)
  have c2 := v_choose2 k n (by omega)
  have c3 := v_choose1 (v - 1) n (by omega)
  have c4 := v_choose1 (k - 1) n (by omega)
  have c5 := v_choose0 (v - 2) n (by omega)
  have c6 := v_choose0 (k - 2) n (by omega)
  generalize v * (v - 1) / 2 = V2 at *
  generalize k * (k - 1) / 2 = K2 at *
  have ok1 : okMul l V2 = true := okMul_l (by omega)
  have ok2 : okMul l (v - 1) = true := okMul_l (by omega)
  have ok3 : okMul l 1 = true := okMul_l (by omega)
  have d1 : ∀ i : Int, okDiv i K2 = true := fun i => okDiv_i (by omega) (by omega)
  have d2 : ∀ i : Int, okDiv i (k - 1) = true := fun i => okDiv_i (by omega) (by omega)
  have m1 : ∀ i : Int, i.fmod K2 = i % K2 := fun i => fmod_pos (by omega)
  have m2 : ∀ i : Int, i.fmod (k - 1) = i % (k - 1) := fun i => fmod_pos (by omega)
  have m1' : ∀ i : Int, i.fdiv K2 = i / K2 := fun i => fdiv_pos (by omega)
  have m2' : ∀ i : Int, i.fdiv (k - 1) = i / (k - 1) := fun i => fdiv_pos (by omega)
  have n1 : ¬ K2 = 0 := by omega
  have n2 : ¬ k - 1 = 0 := by omega
  have rg : okRng 3 = true := rfl
  have d3 : ∀ i : Int, okDiv i 1 = true := fun _ => rfl
  unfold m_shares_by
  by_cases h1 : l * V2 % K2 = 0
  · by_cases h2 : l * (v - 1) % (k - 1) = 0
    · simp [fb1_shares_by, c1, c2, c3, c4, c5, c6, ok1, ok2, ok3, d1, d2, d3, m1, m2, m1', m2', n1, n2, rg, h1, h2]
    · simp [fb1_shares_by, c1, c2, c3, c4, c5, c6, ok1, ok2, ok3, d1, d2, m1, m2, m1', m2', n1, n2, rg, h1, h2]
  · simp [fb1_shares_by, c1, c2, c3, c4, c5, c6, ok1, ok2, ok3, d1, d2, m1, m2, m1', m2', n1, n2, rg, h1]
theorem ix3_0 (a b c : D) : dIx (.lst [a, b, c]) (.int 0) = some (.fz a) := rfl
theorem ix3_2 (a b c : D) : dIx (.lst [a, b, c]) (.int 2) = some (.fz c) := rfl
theorem fam_less {v k l : Int} (hk : 2 ≤ k ∧ k < v) (sf : l * (v - 1) = k * (k - 1)) : l < k := by
  refine Int.not_le.mp fun z => ?_
  have h1 : k * k ≤ l * (v - 1) := Int.mul_le_mul z (by omega) (by omega) (by omega)
  have h2 : k * (k - 1) < k * k := Int.mul_lt_mul_of_pos_left (by omega) (by omega)
  omega
theorem fam_pos {v k l : Int} (hk : 2 ≤ k ∧ k < v) (sf : l * (v - 1) = k * (k - 1)) : 1 ≤ l := by
  refine Int.not_lt.mp fun z => ?_
  have h1 : l * (v - 1) ≤ 0 * (v - 1) := Int.mul_le_mul_of_nonneg_right (by omega) (by omega)
  have h2 : 0 < k * (k - 1) := Int.mul_pos (by omega) (by omega)
  omega
theorem v_bars (v k l : Int) (n : Nat) (hv : 1 ≤ v ∧ v ≤ 1000) (hk : 2 ≤ k ∧ k < v) (hl : 1 ≤ l ∧ l ≤ 1000000) (hn : 1000000000010 < n) :
    ∃ L, val (m_bars n) [.int v, .int k, .int l, .int 2] = some (.ob .ow (.lst L)) ∧ (l * (v - 1) = k * (k - 1) → ∀ r, val (m__law_bar n) [.int v, .int k, .int l] = some (.fz r) → noBar r → L = if isN r = true then [] else [r]) := by
  have ck := v_check n v k l 2 (by omega)
  have sh := v_shares v k l n hv hk hl
  have V := half_pos (a := v) (by omega) hv.2
  have K := half_pos (a := k) hk.1 (by omega)
  have hV := half v
  have hK := half k
  have kv : k < v := hk.2
  have fam : l * (v - 1) = k * (k - 1) ↔ l * (v * (v - 1) / 2) = v * (k * (k - 1) / 2) := by
    have e1 : 2 * (l * (v * (v - 1) / 2)) = v * (l * (v - 1)) := by rw [Int.mul_left_comm, hV, Int.mul_left_comm]
    have e2 : 2 * (v * (k * (k - 1) / 2)) = v * (k * (k - 1)) := by rw [Int.mul_left_comm, hK]
    constructor
    · intro h
      rw [h, ← e2] at e1
      omega
    · intro h
      rw [h, e2] at e1
      exact (Int.eq_of_mul_eq_mul_left (by omega) e1).symm
  have fam2 : l * (v - 1) = k * (k - 1) → l * (v - 1) % (k - 1) = 0 := fun h => by rw [h]; exact Int.mul_emod_left _ _
  generalize v * (v - 1) / 2 = V2 at *
  generalize k * (k - 1) / 2 = K2 at *
  by_cases hd : l * V2 % K2 = 0 ∧ l * (v - 1) % (k - 1) = 0
  · rw [if_pos hd] at sh
    have eq : l * V2 / K2 = v ↔ l * (v - 1) = k * (k - 1) := by
      rw [fam]
      constructor
      · intro h
        have := Int.mul_ediv_add_emod (l * V2) K2
        rw [hd.1, h, Int.add_zero] at this
        rw [← this, Int.mul_comm]
      · intro h
        rw [h]; exact Int.mul_ediv_cancel _ (by omega)
    generalize l * V2 / K2 = b0 at *
    generalize l * (v - 1) / (k - 1) = b1 at *
    by_cases lt : b0 < v
    · have ne : ¬ b0 = v := by omega
      refine ⟨[.str "fisher"], ?_, fun h => absurd (eq.mpr h) ne⟩
      unfold m_bars
      simp [ck, sh, kv, ix3_0, ix3_2, lt, ne]
    · by_cases eqv : b0 = v
      · have sf := eq.mp eqv
        obtain ⟨r, nb, r1, r2⟩ := v_bar v k l n hv (by omega) ⟨hl.1, fam_less hk sf⟩ sf hn
        refine ⟨if isN r = true then [] else [r], ?_, fun _ r' hr' _ => by rw [r2] at hr'; cases hr'; rfl⟩
        subst eqv
        unfold m_bars
        rcases nb with rfl | rfl | rfl <;> simp [ck, sh, kv, ix3_0, ix3_2, r1]
      · refine ⟨[], ?_, fun h => absurd (eq.mpr h) eqv⟩
        unfold m_bars
        simp [ck, sh, kv, ix3_0, ix3_2, lt, eqv]
  · rw [if_neg hd] at sh
    refine ⟨[.str "counts"], ?_, fun h => absurd ⟨?_, fam2 h⟩ hd⟩
    · unfold m_bars
      simp [ck, sh]
    · rw [fam.mp h]; exact Int.mul_emod_left _ _
end K33

set_option linter.all false
set_option maxRecDepth 100000
namespace K33
open PySem Sim NT
theorem ne_self {d : D} {p : PyData} (hp : pd d = some p) (hs : SeqAt.shaped p = true) : dNe d d = some (.fz (.bl false)) := by
  unfold dNe eqD
  rw [hp]
  simp [hs, SeqAt.eqv_refl p (SeqAt.canLay_of_shaped hs)]
theorem repr_bar {r : D} (h : noBar r) : ∃ t, cRepr [r] = some (.fz (.str t)) ∧ dNe (.str t) (.str t) = some (.fz (.bl false)) := by
  rcases h with rfl | rfl | rfl
  · exact ⟨_, rfl, ne_self rfl (by decide +kernel)⟩
  · refine ⟨reprText "square", ?_, ne_self rfl (by decide +kernel)⟩
    show (if _ then _ else _) = _
    rw [if_pos (by decide +kernel)]
  · refine ⟨reprText "sums", ?_, ne_self rfl (by decide +kernel)⟩
    show (if _ then _ else _) = _
    rw [if_pos (by decide +kernel)]
theorem repr_bl (b : Bool) : ∃ t, cRepr [.bl b] = some (.fz (.str t)) ∧ dNe (.str t) (.str t) = some (.fz (.bl false)) := by
  cases b
  · exact ⟨_, rfl, ne_self rfl (by decide +kernel)⟩
  · exact ⟨_, rfl, ne_self rfl (by decide +kernel)⟩
theorem ne_bar {r : D} (h : noBar r) : dNe (.lst (if isN r = true then [] else [r])) (.lst (if isN r = true then [] else [r])) = some (.fz (.bl false)) := by
  rcases h with rfl | rfl | rfl
  · exact ne_self rfl (by decide +kernel)
  · exact ne_self rfl (by decide +kernel)
  · exact ne_self rfl (by decide +kernel)
/-! ## planes -/
set_option maxHeartbeats 4000000 in
theorem plane_row (m : Nat) : ∀ q : Nat, 2 ≤ q → q ≤ 30 → ∃ r, (r = .non ∨ r = .str "sums") ∧ val (m__law_bar (m + 1000)) [.int ((q : Int) * q + q + 1), .int ((q : Int) + 1), .int 1] = some (.fz r) ∧ val (m__law_is_plane_free (m + 1000)) [.int q] = some (.fz (.bl (isN r)))
  | 0, h, _ | 1, h, _ => absurd h (by decide)
  | 2, _, _ => ⟨.non, .inl rfl, rfl, rfl⟩
  | 3, _, _ => ⟨.non, .inl rfl, rfl, rfl⟩
  | 4, _, _ => ⟨.non, .inl rfl, rfl, rfl⟩
  | 5, _, _ => ⟨.non, .inl rfl, rfl, rfl⟩
  | 6, _, _ => ⟨.str "sums", .inr rfl, rfl, rfl⟩
  | 7, _, _ => ⟨.non, .inl rfl, rfl, rfl⟩
  | 8, _, _ => ⟨.non, .inl rfl, rfl, rfl⟩
  | 9, _, _ => ⟨.non, .inl rfl, rfl, rfl⟩
  | 10, _, _ => ⟨.non, .inl rfl, rfl, rfl⟩
  | 11, _, _ => ⟨.non, .inl rfl, rfl, rfl⟩
  | 12, _, _ => ⟨.non, .inl rfl, rfl, rfl⟩
  | 13, _, _ => ⟨.non, .inl rfl, rfl, rfl⟩
  | 14, _, _ => ⟨.str "sums", .inr rfl, rfl, rfl⟩
  | 15, _, _ => ⟨.non, .inl rfl, rfl, rfl⟩
  | 16, _, _ => ⟨.non, .inl rfl, rfl, rfl⟩
  | 17, _, _ => ⟨.non, .inl rfl, rfl, rfl⟩
  | 18, _, _ => ⟨.non, .inl rfl, rfl, rfl⟩
  | 19, _, _ => ⟨.non, .inl rfl, rfl, rfl⟩
  | 20, _, _ => ⟨.non, .inl rfl, rfl, rfl⟩
  | 21, _, _ => ⟨.str "sums", .inr rfl, rfl, rfl⟩
  | 22, _, _ => ⟨.str "sums", .inr rfl, rfl, rfl⟩
  | 23, _, _ => ⟨.non, .inl rfl, rfl, rfl⟩
  | 24, _, _ => ⟨.non, .inl rfl, rfl, rfl⟩
  | 25, _, _ => ⟨.non, .inl rfl, rfl, rfl⟩
  | 26, _, _ => ⟨.non, .inl rfl, rfl, rfl⟩
  | 27, _, _ => ⟨.non, .inl rfl, rfl, rfl⟩
  | 28, _, _ => ⟨.non, .inl rfl, rfl, rfl⟩
  | 29, _, _ => ⟨.non, .inl rfl, rfl, rfl⟩
  | 30, _, _ => ⟨.str "sums", .inr rfl, rfl, rfl⟩
  | q + 31, _, h => absurd h (by omega)
end K33

set_option linter.all false
set_option maxRecDepth 100000
namespace K33
open PySem Sim NT
/-- what bars answers, as a list -/
def barsL (n : Nat) (v k l : Int) : List D := match val (m_bars n) [.int v, .int k, .int l, .int 2] with
  | some (.ob _ (.lst L)) => L
  | _ => []
theorem barsL_eq (v k l : Int) (n : Nat) (hv : 1 ≤ v ∧ v ≤ 1000) (hk : 2 ≤ k ∧ k < v) (hl : 1 ≤ l ∧ l ≤ 1000000) (hn : 1000000000010 < n) : val (m_bars n) [.int v, .int k, .int l, .int 2] = some (.ob .ow (.lst (barsL n v k l))) := by
  obtain ⟨L, h, _⟩ := v_bars v k l n hv hk hl hn
  unfold barsL; rw [h]
theorem barsL_fam (v k l : Int) (n : Nat) (hv : 1 ≤ v ∧ v ≤ 1000) (hk : 2 ≤ k ∧ k < v) (hl : 1 ≤ l ∧ l ≤ 1000000) (hn : 1000000000010 < n) (sf : l * (v - 1) = k * (k - 1)) {r : D} (hr : val (m__law_bar n) [.int v, .int k, .int l] = some (.fz r)) (nb : noBar r) :
    barsL n v k l = if isN r = true then [] else [r] := by
  obtain ⟨L, h, e⟩ := v_bars v k l n hv hk hl hn
  unfold barsL; rw [h]; exact e sf r hr nb
theorem w2_free (n : Nat) (v s : Int) (c2 : C) (hv : 1 ≤ v ∧ v ≤ 1000) (hs : 2 ≤ s ∧ s < v) (hn : 1000000000010 < n) :
    ∃ m : Int, whileN (wt2_free_numbers n) (wb2_free_numbers n) n [.fz (.int v), .fz (.int 2), c2, .fz (.int s), .fz (.int 1)] = some (.nx [.fz (.int v), .fz (.int 2), c2, .fz (.int s), .fz (.int m)]) ∧ 1 ≤ m ∧ m ≤ 201 ∧ (m = 1 ↔ barsL n v s 1 = []) := by
  obtain ⟨m, h1, h2, h3⟩ := while_rule (α := Int) (fun m => [.fz (.int v), .fz (.int 2), c2, .fz (.int s), .fz (.int m)]) (fun m => 1 ≤ m ∧ m ≤ 201 ∧ (m = 1 ∨ barsL n v s 1 ≠ [])) (fun m => (201 - m).toNat)
    (t := wt2_free_numbers n) (body := wb2_free_numbers n) (c := fun m => decide (m ≤ 200) && decide (0 < (barsL n v s m).length))
    (by
      rintro m ⟨q1, q2, q3⟩
      have hb := barsL_eq v s m n hv hs (by omega) hn
      by_cases hm : m ≤ 200 <;> simp [wt2_free_numbers, hm, hb])
    (by
      rintro m ⟨q1, q2, q3⟩ hc
      simp only [Bool.and_eq_true, decide_eq_true_eq] at hc
      refine ⟨m + 1, by simp [wb2_free_numbers], ⟨by omega, by omega, .inr ?_⟩, by omega⟩
      rcases q3 with rfl | q3
      · intro z
        have := hc.2
        rw [z] at this
        exact absurd this (by simp)
      · exact q3)
    n 1 ⟨by omega, by omega, .inl rfl⟩ (by omega)
  obtain ⟨q1, q2, q3⟩ := h2
  refine ⟨m, h1, q1, q2, fun e => ?_, fun e => q3.elim id fun z => absurd e z⟩
  subst e
  simp at h3
  exact h3
def dP (p : Int × Int) : D := .tup [.int p.1, .int p.2]
theorem for_free (n : Nat) (v : Int) (hv : 1 ≤ v ∧ v ≤ 1000) (hn : 1000000000010 < n) : ∀ (ss : List Int), (∀ s ∈ ss, 2 ≤ s ∧ s < v) → ∀ (F : List (Int × Int)) (c3 c4 : C), isFree c3 = true → isFree c4 = true → F.length + ss.length < 16777216 →
    ∃ (F' : List (Int × Int)) (c3' c4' : C), forI (gN 3) (fb1_free_numbers n) (ss.map D.int) [.fz (.int v), .fz (.int 2), .ob .ow (.lst (F.map dP)), c3, c4] = some (.nx [.fz (.int v), .fz (.int 2), .ob .ow (.lst (F'.map dP)), c3', c4']) ∧ F'.length ≤ F.length + ss.length ∧ isFree c3' = true ∧ isFree c4' = true ∧
      ∀ s, (s, 1) ∈ F' ↔ ((s, 1) ∈ F ∨ (s ∈ ss ∧ barsL n v s 1 = []))
  | [], _, F, c3, c4, f3, f4, _ => ⟨F, c3, c4, rfl, by simp, f3, f4, by simp⟩
  | s :: ss, h, F, c3, c4, f3, f4, hl => by
    have hs := h s (by simp)
    simp only [List.length_cons] at hl
    obtain ⟨m, w, m1, m2, m3⟩ := w2_free n v s (.ob .ow (.lst (F.map dP))) hv hs hn
    by_cases hm : m ≤ 200
    · obtain ⟨F', c3', c4', e, l', f3', f4', z⟩ := for_free n v hv hn ss (fun x hx => h x (by simp [hx])) (F ++ [(s, m)]) (.fz (.int s)) (.fz (.int m)) rfl rfl (by simp; omega)
      refine ⟨F', c3', c4', ?_, by simp at l' ⊢; omega, f3', f4', fun x => ?_⟩
      · have hl2 : F.length < 16777216 := by omega
        have hl3 : (F.map dP ++ [D.tup [.int s, .int m]]) = (F ++ [(s, m)]).map dP := by simp [dP]
        simp [fb1_free_numbers, f3, f4, w, hm, hl2]
        rw [hl3]; exact e
      · rw [z, List.mem_append, List.mem_singleton, List.mem_cons, Prod.mk.injEq]
        constructor
        · rintro ((a | ⟨rfl, b⟩) | ⟨a, b⟩)
          · exact .inl a
          · exact .inr ⟨.inl rfl, m3.mp b.symm⟩
          · exact .inr ⟨.inr a, b⟩
        · rintro (a | ⟨rfl | a, b⟩)
          · exact .inl (.inl a)
          · exact .inl (.inr ⟨rfl, (m3.mpr b).symm⟩)
          · exact .inr ⟨a, b⟩
    · obtain ⟨F', c3', c4', e, l', f3', f4', z⟩ := for_free n v hv hn ss (fun x hx => h x (by simp [hx])) F (.fz (.int s)) (.fz (.int m)) rfl rfl (by omega)
      refine ⟨F', c3', c4', ?_, by simp; omega, f3', f4', fun x => ?_⟩
      · simp [fb1_free_numbers, f3, f4, w, hm]
        exact e
      · rw [z, List.mem_cons]
        constructor
        · rintro (a | ⟨a, b⟩)
          · exact .inl a
          · exact .inr ⟨.inr a, b⟩
        · rintro (a | ⟨rfl | a, b⟩)
          · exact .inl a
          · exact absurd (m3.mpr b) (by omega)
          · exact .inr ⟨a, b⟩
theorem v_free (n : Nat) (v : Int) (hv : 7 ≤ v ∧ v ≤ 60) (hn : 1000000000010 < n) : ∃ F : List (Int × Int), val (m_free_numbers n) [.int v, .int 2] = some (.ob .ow (.lst (F.map dP))) ∧ ∀ s, (s, 1) ∈ F ↔ (3 ≤ s ∧ s < v / 2 + 1 ∧ barsL n v s 1 = []) := by
  have e : rangeD 3 ((v / 2 + 1) - 3).toNat = ((List.range ((v / 2 + 1) - 3).toNat).map fun (i : Nat) => (3 : Int) + i).map D.int := by
    unfold rangeD; rw [List.map_map]; rfl
  obtain ⟨F, c3, c4, h, l, _, _, z⟩ := for_free n v (by omega) hn ((List.range ((v / 2 + 1) - 3).toNat).map fun (i : Nat) => (3 : Int) + i) (fun s hs => by
    obtain ⟨i, hi, rfl⟩ := List.mem_map.mp hs
    have := List.mem_range.mp hi
    omega) [] .no .no rfl rfl (by simp; omega)
  rw [← e] at h
  refine ⟨F, ?_, fun s => ?_⟩
  · have e2 : v.fdiv 2 = v / 2 := fdiv_pos (by omega)
    have ok : okDiv v 2 = true := rfl
    have r1 : okRng 3 = true := rfl
    have r2 : okRng (v / 2 + 1) = true := by simp [okRng]; omega
    have a1 : 1 ≤ v := by omega
    have a2 : v ≤ 60 := by omega
    unfold m_free_numbers
    simp at h
    simp [v_is_within, a1, a2, e2, ok, r1, r2, h]
  · rw [z, List.mem_map]
    simp only [List.not_mem_nil, false_or, List.mem_range]
    constructor
    · rintro ⟨⟨i, hi, rfl⟩, b⟩
      exact ⟨by omega, by omega, b⟩
    · rintro ⟨a, b, c⟩
      exact ⟨⟨(s - 3).toNat, by omega, by omega⟩, c⟩
/-! ## in -/
def pP (p : Int × Int) : PyData := .tuple [.int p.1, .int p.2]
theorem pds_P : ∀ F : List (Int × Int), pds (F.map dP) = some (F.map pP)
  | [] => rfl
  | p :: F => by
    simp only [List.map_cons, pds, pds_P F]
    rfl
theorem in_pairs (F : List (Int × Int)) (a b : Int) : dIn (.tup [.int a, .int b]) (.lst (F.map dP)) = some (.fz (.bl (decide ((a, b) ∈ F)))) := by
  have s1 : SeqAt.shaped (.tuple [.int a, .int b]) = true := rfl
  have s2 : PyData.canLayAll0 (F.map pP) = true := by
    induction F with
    | nil => rfl
    | cons p F ih => simp only [List.map_cons, PyData.canLayAll0, ih, Bool.and_true]; rfl
  have s3 : PyData.depthAll (F.map pP) ≤ 1 := by
    clear s2
    induction F with
    | nil => exact Nat.zero_le _
    | cons p F ih =>
      simp only [List.map_cons, PyData.depthAll]
      exact Nat.max_le.mpr ⟨Nat.le_refl _, ih⟩
  have s4 : SeqAt.shaped (.list (F.map pP)) = true := by
    have s6 : PyData.depth (.list (F.map pP)) = PyData.depthAll (F.map pP) + 1 := by simp only [PyData.depth]
    have s7 : PyData.canLay0 (.list (F.map pP)) = true := by simp only [PyData.canLay0, s2]
    unfold SeqAt.shaped
    rw [s7, s6, Bool.true_and]
    exact decide_eq_true (by omega)
  have s5 : (F.map pP).any (fun z => PyData.eqv z (.tuple [.int a, .int b])) = decide ((a, b) ∈ F) := by
    clear s2 s3 s4
    induction F with
    | nil => rfl
    | cons p F ih =>
      obtain ⟨x, y⟩ := p
      simp only [List.map_cons, List.any_cons, ih, pP, PyData.eqv, PyData.eqvAll, Bool.and_true, List.mem_cons, Prod.mk.injEq]
      rw [Bool.eq_iff_iff]
      simp
      constructor
      · rintro (⟨p, q⟩ | h)
        · exact .inl ⟨p.symm, q.symm⟩
        · exact .inr h
      · rintro (⟨p, q⟩ | h)
        · exact .inl ⟨p.symm, q.symm⟩
        · exact .inr h
  have e1 : pd (.tup [.int a, .int b]) = some (.tuple [.int a, .int b]) := rfl
  unfold dIn inD inL
  simp only [e1, Option.bind_some, pds_P, s1, s4, Bool.and_self, if_true, s5, Option.map_some]
end K33

set_option linter.all false
set_option maxRecDepth 100000
namespace K33
open PySem Sim NT
structure Hand where
  cells : List Nat
  i : Nat
  x : Nat
  s : Nat
  k : Nat
def hd (h : Hand) : D := .lst [.lst (h.cells.map dI), .int h.i, .int h.x, .int h.s, .int h.k]
def mx1 (s k : Nat) : Nat := (s + 7919 * k) * 48271 % 2147483647
def mx2 (v : Nat) : Nat := v * (v / 1009 + 69621) % 2147483647
def mx3 (v : Nat) : Nat := v * (v / 2003 + 40014) % 2147483563
def mx4 (v : Nat) : Nat := v / 16
def sn (s c : Nat) : Nat := (s * 69621 + c * 40692 + 31) % 2147483629
def mix (s k m : Nat) : Nat := mx4 (mx3 (mx2 (mx1 s k))) % m
theorem mx1_c (s k : Nat) : (((s : Int) + 7919 * ((k : Int) + 1)) * 48271).fmod 2147483647 = (mx1 s (k + 1) : Int) := by
  rw [fmod_pos (by decide)]; unfold mx1; simp
theorem mx2_c (v : Nat) : ((v : Int) * ((v : Int).fdiv 1009 + 69621)).fmod 2147483647 = (mx2 v : Int) := by
  rw [fmod_pos (by decide), fdiv_pos (by decide)]; unfold mx2; simp
theorem mx3_c (v : Nat) : ((v : Int) * ((v : Int).fdiv 2003 + 40014)).fmod 2147483563 = (mx3 v : Int) := by
  rw [fmod_pos (by decide), fdiv_pos (by decide)]; unfold mx3; simp
theorem mx4_c (v : Nat) : (v : Int).fdiv 16 = (mx4 v : Int) := by
  rw [fdiv_pos (by decide)]; unfold mx4; simp
theorem sn_c (s c : Nat) : ((s : Int) * 69621 + (c : Int) * 40692 + 31).fmod 2147483629 = (sn s c : Int) := by
  rw [fmod_pos (by decide)]; unfold sn; simp
theorem mx1_l (s k : Nat) : mx1 s k < 2147483647 := Nat.mod_lt _ (by decide)
theorem mx2_l (v : Nat) : mx2 v < 2147483647 := Nat.mod_lt _ (by decide)
def E18 : Nat := 1000000000000000000
def step1 (h : Hand) : Hand := if h.x = 0 then (match h.cells[h.i]? with
  | some c => { h with i := h.i + 1, s := sn h.s c, x := if E18 ≤ c then c else 0 }
  | none => h) else h
def draw (h : Hand) (m : Nat) : Nat × Hand := if 0 < (step1 h).x then ((step1 h).x % m, { step1 h with x := (step1 h).x / m }) else (mix (step1 h).s ((step1 h).k + 1) m, { step1 h with k := (step1 h).k + 1 })
theorem draw_lt (h : Hand) {m : Nat} (hm : 0 < m) : (draw h m).1 < m := by
  unfold draw
  split
  · exact Nat.mod_lt _ hm
  · exact Nat.mod_lt _ hm
section
variable (a b c d e : D)
theorem ix5_0 : dIx (.lst [a, b, c, d, e]) (.int 0) = some (.fz a) := rfl
theorem ix5_1 : dIx (.lst [a, b, c, d, e]) (.int 1) = some (.fz b) := rfl
theorem ix5_2 : dIx (.lst [a, b, c, d, e]) (.int 2) = some (.fz c) := rfl
theorem ix5_3 : dIx (.lst [a, b, c, d, e]) (.int 3) = some (.fz d) := rfl
theorem ix5_4 : dIx (.lst [a, b, c, d, e]) (.int 4) = some (.fz e) := rfl
theorem n5_1 : L2.ixN 5 1 = some 1 := rfl
theorem n5_2 : L2.ixN 5 2 = some 2 := rfl
theorem n5_3 : L2.ixN 5 3 = some 3 := rfl
theorem n5_4 : L2.ixN 5 4 = some 4 := rfl
end
theorem ix_cell (L : List Nat) (i c : Nat) (h : L[i]? = some c) : dIx (.lst (L.map dI)) (.int i) = some (.fz (.int c)) := by
  have hi := (List.getElem?_eq_some_iff.mp h).1
  show (L2.atI (L.map dI) (i : Int)).map C.fz = _
  unfold L2.atI L2.ixN
  rw [if_pos (by omega), if_pos (by rw [List.length_map]; omega)]
  simp [h, dI]
def dwA : SM := (sIf (mAndT (eT (mBin dEq (ev (mBin dIx (slq 0) (ev (mC (.int 2))))) (ev (mC (.int 0))))) (eT (mBin dLt (ev (mBin dIx (slq 0) (ev (mC (.int 1))))) (ev (mCallB cLen (lCons (ev (mBin dIx (slq 0) (ev (mC (.int 0))))) lNil)))))) (sSeq (sSet 2 (mBin dIx (ev (mBin dIx (slq 0) (ev (mC (.int 0))))) (ev (mBin dIx (slq 0) (ev (mC (.int 1)))))))
    (sSeq (sSetIx 0 (mC (.int 1)) (mBin dPlus (ev (mBin dIx (slq 0) (ev (mC (.int 1))))) (ev (mC (.int 1)))))
    (sSeq (sSetIx 0 (mC (.int 3)) (mBin dMod (ev (mCallB cInt (lCons (ev (mBin dPlus (ev (mBin dPlus (ev (mBin dMul (ev (mBin dIx (slq 0) (ev (mC (.int 3))))) (ev (mC (.int 69621))))) (ev (mBin dMul (slq 2) (ev (mC (.int 40692))))))) (ev (mC (.int 31))))) lNil))) (ev (mC (.int 2147483629)))))
    (sIf (eT (mBin dGe (slq 2) (ev (mBin dPow (ev (mC (.int 10))) (ev (mC (.int 18))))))) (sSetIx 0 (mC (.int 2)) (mVar 2)) sNil)))) sNil)
def dwB : SM := (sIf (eT (mBin dGt (ev (mBin dIx (slq 0) (ev (mC (.int 2))))) (ev (mC (.int 0))))) (sSeq (sSet 3 (mBin dMod (ev (mCallB cInt (lCons (ev (mBin dIx (slq 0) (ev (mC (.int 2))))) lNil))) (slq 1)))
    (sSeq (sSetIx 0 (mC (.int 2)) (mBin dDiv (ev (mBin dIx (slq 0) (ev (mC (.int 2))))) (slq 1)))
    (sRet (mMove 3)))) sNil)
def dwC : SM := (sSetIx 0 (mC (.int 4)) (mBin dPlus (ev (mBin dIx (slq 0) (ev (mC (.int 4))))) (ev (mC (.int 1)))))
def dw1 : SM := (sSet 4 (mBin dMod (ev (mCallB cInt (lCons (ev (mBin dMul (ev (mCallB cInt (lCons (ev (mBin dPlus (ev (mBin dIx (slq 0) (ev (mC (.int 3))))) (ev (mBin dMul (ev (mC (.int 7919))) (ev (mBin dIx (slq 0) (ev (mC (.int 4))))))))) lNil))) (ev (mC (.int 48271))))) lNil))) (ev (mC (.int 2147483647)))))
def dw2 : SM := (sSet 4 (mBin dMod (ev (mCallB cInt (lCons (ev (mBin dMul (slq 4) (ev (mBin dPlus (ev (mBin dDiv (slq 4) (ev (mC (.int 1009))))) (ev (mC (.int 69621))))))) lNil))) (ev (mC (.int 2147483647)))))
def dw3 : SM := (sSet 4 (mBin dMod (ev (mCallB cInt (lCons (ev (mBin dMul (slq 4) (ev (mBin dPlus (ev (mBin dDiv (slq 4) (ev (mC (.int 2003))))) (ev (mC (.int 40014))))))) lNil))) (ev (mC (.int 2147483563)))))
def dwR : SM := (sRet (mBin dMod (ev (mCallB cInt (lCons (ev (mBin dDiv (slq 4) (ev (mC (.int 16))))) lNil))) (slq 1)))
theorem draw_text (n : Nat) : m__law_draw n = runFn 2 5 (sSeq dwA (sSeq dwB (sSeq dwC (sSeq dw1 (sSeq dw2 (sSeq dw3 dwR)))))) := rfl
section
variable (H : C) (m s k v : Nat) (a b i x : D) (c2 c3 : C)
theorem dw1_run : dw1 [.ob .mu (.lst [a, i, x, .int s, .int ((k : Int) + 1)]), .fz (.int m), c2, c3, .no] = some (.nx [.ob .mu (.lst [a, i, x, .int s, .int ((k : Int) + 1)]), .fz (.int m), c2, c3, .fz (.int (mx1 s (k + 1)))]) := by
  have o3 : okMul 7919 ((k : Int) + 1) = true := okMul_l (by decide)
  have o4 : okMul ((s : Int) + 7919 * ((k : Int) + 1)) 48271 = true := okMul_r (by decide)
  have e1 := mx1_c s k
  generalize mx1 s (k + 1) = v1 at *
  simp [dw1, ix5_3, ix5_4, o3, o4, e1]
theorem dw2_run (hv : v < 2147483647) : dw2 [H, .fz (.int m), c2, c3, .fz (.int v)] = some (.nx [H, .fz (.int m), c2, c3, .fz (.int (mx2 v))]) := by
  have o3 : ∀ b : Int, okMul (v : Int) b = true := fun b => okMul_l (by omega)
  have o4 : okDiv (v : Int) 1009 = true := rfl
  have e1 := mx2_c v
  generalize mx2 v = v1 at *
  simp [dw2, o3, o4, e1]
theorem dw3_run (hv : v < 2147483647) : dw3 [H, .fz (.int m), c2, c3, .fz (.int v)] = some (.nx [H, .fz (.int m), c2, c3, .fz (.int (mx3 v))]) := by
  have o3 : ∀ b : Int, okMul (v : Int) b = true := fun b => okMul_l (by omega)
  have o4 : okDiv (v : Int) 2003 = true := rfl
  have e1 := mx3_c v
  generalize mx3 v = v1 at *
  simp [dw3, o3, o4, e1]
end
section
variable (m s k v : Nat) (a i x : D) (L : List D) (c0 c2 c3 c4 : C)
theorem dwC_run : dwC [.ob .mu (.lst [a, i, x, .int s, .int k]), .fz (.int m), c2, c3, c4] = some (.nx [.ob .mu (.lst [a, i, x, .int s, .int ((k : Int) + 1)]), .fz (.int m), c2, c3, c4]) := by
  simp [dwC, ix5_4, n5_4]
theorem dwR_run (m0 : 0 < m) : dwR [c0, .fz (.int m), c2, c3, .fz (.int v)] = some (.rt (.fz (.int (mx4 v % m : Nat))) [c0, .fz (.int m), c2, c3, .fz (.int v)]) := by
  have o4 : okDiv (v : Int) 16 = true := rfl
  have e1 := mx4_c v
  generalize mx4 v = v1 at *
  have e2 : (v1 : Int).fmod m = ((v1 % m : Nat) : Int) := by rw [fmod_pos (by omega)]; simp
  have m0' : ¬ m = 0 := by omega
  generalize v1 % m = r at *
  simp [dwR, o4, e1, e2, m0']
theorem dwB_some (y : Nat) (b : D) (y0 : 0 < y) (m0 : 0 < m) (hm : m < 1073741824) : dwB [.ob .mu (.lst [a, i, .int y, b, .int k]), .fz (.int m), c2, .no, c4] = some (.rt (.fz (.int (y % m : Nat))) [.ob .mu (.lst [a, i, .int (y / m : Nat), b, .int k]), .fz (.int m), c2, .fz (.int (y % m : Nat)), c4]) := by
  have e2 : (y : Int).fmod m = ((y % m : Nat) : Int) := by rw [fmod_pos (by omega)]; simp
  have e3 : (y : Int).fdiv m = ((y / m : Nat) : Int) := by rw [fdiv_pos (by omega)]; simp
  have ok : okDiv (y : Int) m = true := okDiv_i (by omega) (by omega)
  have m0' : ¬ m = 0 := by omega
  generalize y % m = r at *
  generalize y / m = q at *
  simp [dwB, ix5_2, n5_2, y0, e2, e3, ok, m0']
theorem dwB_none (b : D) : dwB [.ob .mu (.lst [a, i, .int (0 : Nat), b, .int k]), .fz (.int m), c2, c3, c4] = some (.nx [.ob .mu (.lst [a, i, .int (0 : Nat), b, .int k]), .fz (.int m), c2, c3, c4]) := by
  simp [dwB, ix5_2]
end
theorem dwA_run (h : Hand) (m : Nat) : ∃ c2, dwA [.ob .mu (hd h), .fz (.int m), .no, .no, .no] = some (.nx [.ob .mu (hd (step1 h)), .fz (.int m), c2, .no, .no]) := by
  have pw : okPow 10 18 = true := rfl
  have pv : (10 : Int) ^ 18 = (E18 : Int) := by simp [E18]
  obtain ⟨cells, i, x, s, k⟩ := h
  by_cases hx : x = 0
  · subst hx
    cases hc : cells[i]? with
    | some c =>
      have hi : i < cells.length := (List.getElem?_eq_some_iff.mp hc).1
      have ic := ix_cell cells i c hc
      simp only [step1, hc, if_true]
      generalize E18 = E at *
      have c30 : ((E : Int) ≤ c) ↔ E ≤ c := by omega
      have e1 := sn_c s c
      generalize sn s c = s' at *
      have o1 : okMul (s : Int) 69621 = true := okMul_r (by decide)
      have o2 : okMul (c : Int) 40692 = true := okMul_r (by decide)
      refine ⟨.fz (.int c), ?_⟩
      by_cases big : E ≤ c
      · simp only [big, if_true]
        simp [dwA, hd, ix5_0, ix5_1, ix5_2, ix5_3, n5_1, n5_2, n5_3, hi, ic, o1, o2, pw, pv, e1, c30, big]
      · simp only [big, if_false]
        simp [dwA, hd, ix5_0, ix5_1, ix5_2, ix5_3, n5_1, n5_2, n5_3, hi, ic, o1, o2, pw, pv, e1, c30, big]
    | none =>
      have hi : ¬ i < cells.length := by have := List.getElem?_eq_none_iff.mp hc; omega
      simp only [step1, hc, if_true]
      exact ⟨.no, by simp [dwA, hd, ix5_0, ix5_1, ix5_2, hi]⟩
  · simp only [step1, hx, if_false]
    exact ⟨.no, by simp [dwA, hd, ix5_0, ix5_1, ix5_2, hx]⟩
theorem v_draw (n : Nat) (h : Hand) (m : Nat) (m0 : 0 < m) (hm : m < 1073741824) : valM (m__law_draw n) (hd h) [.int m] = some (.fz (.int (draw h m).1), hd (draw h m).2) := by
  obtain ⟨c2, hA⟩ := dwA_run h m
  rw [draw_text, valM_run, if_pos (show [D.int (m : Int)].length + 1 = 2 from rfl)]
  show Option.bind (sSeq dwA _ [.ob .mu (hd h), .fz (.int m), .no, .no, .no]) _ = _
  rw [rs_seq, hA, Option.bind_some]
  dsimp only
  rw [rs_seq]
  unfold draw
  generalize step1 h = g
  obtain ⟨cells, i, x, s, k⟩ := g
  by_cases x0 : 0 < x
  · simp only [x0, if_true]
    unfold hd
    rw [dwB_some (y := x) (k := k) _ _ _ _ _ _ x0 m0 hm]
    rfl
  · have hx : x = 0 := by omega
    subst hx
    simp only [Nat.lt_irrefl, if_false]
    unfold hd
    have e1 := dwB_none m k (.lst (cells.map dI)) (.int i) c2 .no .no (.int s)
    have e2 := dwC_run m s k (.lst (cells.map dI)) (.int i) (.int (0 : Nat)) c2 .no .no
    have e3 := dw1_run m s k (.lst (cells.map dI)) (.int i) (.int (0 : Nat)) c2 .no
    have e4 := dw2_run (.ob .mu (.lst [.lst (cells.map dI), .int i, .int (0 : Nat), .int s, .int ((k : Int) + 1)])) m (mx1 s (k + 1)) c2 .no (mx1_l _ _)
    have e5 := dw3_run (.ob .mu (.lst [.lst (cells.map dI), .int i, .int (0 : Nat), .int s, .int ((k : Int) + 1)])) m (mx2 (mx1 s (k + 1))) c2 .no (mx2_l _)
    have e6 := dwR_run m (mx3 (mx2 (mx1 s (k + 1)))) (.ob .mu (.lst [.lst (cells.map dI), .int i, .int (0 : Nat), .int s, .int ((k : Int) + 1)])) c2 .no m0
    unfold mix
    generalize mx4 (mx3 (mx2 (mx1 s (k + 1)))) % m = r4 at *
    generalize mx3 (mx2 (mx1 s (k + 1))) = r3 at *
    generalize mx2 (mx1 s (k + 1)) = r2 at *
    generalize mx1 s (k + 1) = r1 at *
    dsimp only
    rw [e1, Option.bind_some]
    dsimp only
    rw [rs_seq, e2, Option.bind_some]
    dsimp only
    rw [rs_seq, e3, Option.bind_some]
    dsimp only
    rw [rs_seq, e4, Option.bind_some]
    dsimp only
    rw [rs_seq, e5, Option.bind_some]
    dsimp only
    rw [e6]
    rfl
end K33

set_option linter.all false
set_option maxRecDepth 100000
namespace K33
open PySem Sim NT
def sumc : List Nat → Nat
  | [] => 0
  | c :: l => c + 1 + sumc l
/-- what a hand still holds -/
def phi (h : Hand) : Nat := h.x + sumc (h.cells.drop h.i)
theorem step1_phi (h : Hand) : phi (step1 h) ≤ phi h ∧ ((step1 h).x = 0 → 0 < phi h → phi (step1 h) < phi h) ∧ (phi h = 0 → step1 h = h) := by
  obtain ⟨cells, i, x, s, k⟩ := h
  unfold step1 phi
  by_cases hx : x = 0
  · subst hx
    simp only [if_true, Nat.zero_add]
    cases hc : cells[i]? with
    | some c =>
      have hi : i < cells.length := (List.getElem?_eq_some_iff.mp hc).1
      have hd : cells.drop i = c :: cells.drop (i + 1) := by
        rw [List.drop_eq_getElem_cons hi]
        rw [(List.getElem?_eq_some_iff.mp hc).2]
      rw [hd]
      simp only [sumc]
      refine ⟨?_, ?_, fun z => by omega⟩
      · split <;> omega
      · split <;> omega
    | none =>
      simp only
      have hi : cells.length ≤ i := List.getElem?_eq_none_iff.mp hc
      rw [List.drop_of_length_le hi]
      simp [sumc]
  · simp [hx]
theorem draw_phi (h : Hand) (m : Nat) : phi (draw h m).2 ≤ phi h ∧ (2 ≤ m → 0 < phi h → phi (draw h m).2 < phi h) ∧ (phi h = 0 → draw h m = (mix h.s (h.k + 1) m, { h with k := h.k + 1 })) := by
  obtain ⟨a, b, c⟩ := step1_phi h
  unfold draw
  generalize hg : step1 h = g at *
  by_cases hx : 0 < g.x
  · rw [if_pos hx]
    have e : phi { g with x := g.x / m } + g.x = phi g + g.x / m := by unfold phi; simp only; omega
    have d : g.x / m ≤ g.x := Nat.div_le_self _ _
    refine ⟨by simp only; omega, fun m2 _ => ?_, fun z => ?_⟩
    · have : g.x / m < g.x := Nat.div_lt_self hx m2
      simp only; omega
    · rw [z] at a
      unfold phi at a
      omega
  · rw [if_neg hx]
    have e : phi { g with k := g.k + 1 } = phi g := rfl
    refine ⟨by simp only; omega, fun m2 p => ?_, fun z => ?_⟩
    · have := b (by omega) p
      simp only; omega
    · rw [c z]
theorem v_drawI (n : Nat) (h : Hand) (mi : Int) (m : Nat) (e : mi = (m : Int)) (m0 : 0 < m) (hm : m < 1073741824) : valM (m__law_draw n) (hd h) [.int mi] = some (.fz (.int (draw h m).1), hd (draw h m).2) := by
  subst e; exact v_draw n h m m0 hm
theorem ix_pm (d : Nat) (h : d < 3) : ∃ e : Int, (e = 1 ∨ e = -1) ∧ dIx (.lst [.int 1, .int 1, .int (-1)]) (.int d) = some (.fz (.int e)) := by
  match d, h with
  | 0, _ => exact ⟨1, .inl rfl, rfl⟩
  | 1, _ => exact ⟨1, .inl rfl, rfl⟩
  | 2, _ => exact ⟨-1, .inr rfl, rfl⟩
theorem v_any (n : Nat) (h : Hand) : ∃ (e : Int) (h' : Hand), (e = 1 ∨ e = -1) ∧ valM (m__law_any n) (hd h) [.lst [.int 1, .int 1, .int (-1)]] = some (.fz (.int e), hd h') ∧ phi h' ≤ phi h := by
  have hv := v_drawI n h 3 3 rfl (by decide) (by decide)
  have hl := draw_lt h (m := 3) (by decide)
  have hp := (draw_phi h 3).1
  obtain ⟨e, he, hx⟩ := ix_pm _ hl
  refine ⟨e, (draw h 3).2, he, ?_, hp⟩
  generalize draw h 3 = r at *
  unfold m__law_any
  simp [hv, hx]
theorem v_integer (n : Nat) (h : Hand) : ∃ (z : Int) (h' : Hand), valM (m__law_integer n) (hd h) [] = some (.fz (.int z), hd h') ∧ z ≠ 0 ∧ z.natAbs ≤ 1000000 ∧ phi h' ≤ phi h := by
  have v1 := v_drawI n h 4 4 rfl (by decide) (by decide)
  have p1 := (draw_phi h 4).1
  have l1 := draw_lt h (m := 4) (by decide)
  generalize draw h 4 = r1 at *
  obtain ⟨d, h1⟩ := r1
  simp only at p1 l1 v1
  have pw : okPow 10 6 = true := rfl
  have pv : (10 : Int) ^ 6 = 1000000 := by decide
  by_cases d0 : d = 0
  · have v2 := v_drawI n h1 1000000 1000000 rfl (by decide) (by decide)
    have p2 := (draw_phi h1 1000000).1
    have l2 := draw_lt h1 (m := 1000000) (by decide)
    generalize draw h1 1000000 = r2 at *
    obtain ⟨d2, h2⟩ := r2
    simp only at p2 l2 v2
    obtain ⟨e, h3, he, v3, p3⟩ := v_any n h2
    have ok : okMul (1 + (d2 : Int)) e = true := okMul_r (by omega)
    refine ⟨(1 + d2) * e, h3, ?_, ?_, ?_, by omega⟩
    · unfold m__law_integer
      simp [v1, d0, pw, pv, v2, v3, ok]
    · rcases he with rfl | rfl <;> omega
    · rcases he with rfl | rfl <;> omega
  by_cases d1 : d = 1
  · have v2 := v_drawI n h1 60 60 rfl (by decide) (by decide)
    have p2 := (draw_phi h1 60).1
    have l2 := draw_lt h1 (m := 60) (by decide)
    generalize draw h1 60 = r2 at *
    obtain ⟨d2, h2⟩ := r2
    simp only at p2 l2 v2
    obtain ⟨e, h3, he, v3, p3⟩ := v_any n h2
    have ok : okMul (1 + (d2 : Int)) e = true := okMul_r (by omega)
    refine ⟨(1 + d2) * e, h3, ?_, ?_, ?_, by omega⟩
    · unfold m__law_integer
      simp [v1, d1, v2, v3, ok]
    · rcases he with rfl | rfl <;> omega
    · rcases he with rfl | rfl <;> omega
  · have v2 := v_drawI n h1 30 30 rfl (by decide) (by decide)
    have p2 := (draw_phi h1 30).1
    have l2 := draw_lt h1 (m := 30) (by decide)
    generalize draw h1 30 = r2 at *
    obtain ⟨d2, h2⟩ := r2
    simp only at p2 l2 v2
    have v4 := v_drawI n h2 1000 1000 rfl (by decide) (by decide)
    have p4 := (draw_phi h2 1000).1
    have l4 := draw_lt h2 (m := 1000) (by decide)
    generalize draw h2 1000 = r4 at *
    obtain ⟨d4, h4⟩ := r4
    simp only at p4 l4 v4
    obtain ⟨e, h3, he, v3, p3⟩ := v_any n h4
    obtain ⟨a, ha⟩ : ∃ a : Int, 1 + (d4 : Int) = a := ⟨_, rfl⟩
    obtain ⟨b, hb⟩ : ∃ b : Int, 1 + (d2 : Int) = b := ⟨_, rfl⟩
    have a1 : 1 ≤ a ∧ a ≤ 1000 := by omega
    have b1 : 1 ≤ b ∧ b ≤ 30 := by omega
    have ab : 1 ≤ a * b ∧ a * b ≤ 30000 := ⟨by have := Int.mul_le_mul a1.1 b1.1 (by omega) (by omega); omega, by have := Int.mul_le_mul a1.2 b1.2 (by omega) (by omega); omega⟩
    have abb : 1 ≤ a * b * b ∧ a * b * b ≤ 900000 := ⟨by have := Int.mul_le_mul ab.1 b1.1 (by omega) (by omega); omega, by have := Int.mul_le_mul ab.2 b1.2 (by omega) (by omega); omega⟩
    have ok : okMul (a * b * b) e = true := okMul_r (by omega)
    have ok1 : okMul a b = true := okMul_r (by omega)
    have ok2 : okMul (a * b) b = true := okMul_r (by omega)
    refine ⟨a * b * b * e, h3, ?_, ?_, ?_, by omega⟩
    · unfold m__law_integer
      have d1' : ¬ (d : Int) = 1 := by omega
      simp [v1, d0, d1', v2, v4, v3, ha, hb, ok, ok1, ok2]
    · generalize a * b * b = y at *
      rcases he with rfl | rfl <;> omega
    · generalize a * b * b = y at *
      rcases he with rfl | rfl <;> omega
/-! ## the turns of a loop that ends by a return -/
theorem while_ret {α : Type} (st : α → List C) (P : α → Prop) (μ : α → Nat) (R : C → List C → Prop) {t : TM} {body : SM} (ht : ∀ a, P a → t (st a) = some (true, st a))
    (hb : ∀ a, P a → (∃ a', body (st a) = some (.nx (st a')) ∧ P a' ∧ μ a' < μ a) ∨ (∃ c σ, body (st a) = some (.rt c σ) ∧ R c σ)) : ∀ (n : Nat) (a : α), P a → μ a < n → ∃ c σ, whileN t body n (st a) = some (.rt c σ) ∧ R c σ
  | 0, _, _, h => absurd h (Nat.not_lt_zero _)
  | n + 1, a, p, h => by
    unfold whileN
    rw [ht a p]
    rcases hb a p with ⟨a', h1, h2, h3⟩ | ⟨c, σ, h1, h2⟩
    · obtain ⟨c, σ, q1, q2⟩ := while_ret st P μ R ht hb n a' h2 (by omega)
      refine ⟨c, σ, ?_, q2⟩
      rw [Option.bind_some, if_pos rfl, h1]
      exact q1
    · refine ⟨c, σ, ?_, h2⟩
      rw [Option.bind_some, if_pos rfl, h1]
      rfl
/-! ## all hands used up: the residues run round -/
theorem ring_zero {P inv m w r T : Nat} (h : m * inv = 1 + P * w) (hr : r < P) (hT : T < P) (T0 : 0 < T) (z : (T + P - r) * inv % P = 0) : r = T := by
  obtain ⟨b, hb⟩ : ∃ b, T + P - r = b := ⟨_, rfl⟩
  rw [hb] at z
  have d1 : P ∣ b * inv := Nat.dvd_of_mod_eq_zero z
  have d2 : P ∣ b * inv * m := Nat.dvd_mul_right_of_dvd d1 m
  have e : b * inv * m = P * (b * w) + b := by
    rw [Nat.mul_assoc, Nat.mul_comm inv m, h, Nat.mul_add, Nat.mul_one, Nat.mul_left_comm]; omega
  rw [e] at d2
  obtain ⟨c, hc⟩ := (Nat.dvd_add_right (Nat.dvd_mul_right P (b * w))).mp d2
  match c, hc with
  | 0, hc => omega
  | 1, hc => omega
  | c + 2, hc =>
    have : P * 2 ≤ P * (c + 2) := Nat.mul_le_mul_left P (by omega)
    omega
theorem ring_next {P inv m w r T : Nat} (h : m * inv = 1 + P * w) (hr : r < P) (z : (T + P - r) * inv % P ≠ 0) : (T + P - (r + m) % P) * inv % P + 1 = (T + P - r) * inv % P := by
  have P0 : 0 < P := by omega
  obtain ⟨b, hb⟩ : ∃ b, T + P - r = b := ⟨_, rfl⟩
  obtain ⟨b', hb'⟩ : ∃ b, T + P - (r + m) % P = b := ⟨_, rfl⟩
  have dm := Nat.div_add_mod (r + m) P
  have lt := Nat.mod_lt (r + m) P0
  rw [hb] at z ⊢
  rw [hb']
  have e1 : b' + m = b + P * ((r + m) / P) := by omega
  have e2 : (b' + m) * inv = (b + P * ((r + m) / P)) * inv := by rw [e1]
  rw [Nat.add_mul, Nat.add_mul, h, Nat.mul_assoc P] at e2
  have e3 : (b' * inv + 1) % P = b * inv % P := by
    have := congrArg (· % P) e2
    simp only [← Nat.add_assoc, Nat.add_mul_mod_self_left] at this
    exact this
  have l1 := Nat.mod_lt (b' * inv) P0
  have l2 := Nat.mod_lt (b * inv) P0
  rw [Nat.add_mod] at e3
  by_cases p1 : P = 1
  · subst p1; exact absurd (Nat.mod_one _) z
  · rw [Nat.mod_eq_of_lt (show 1 < P by omega)] at e3
    by_cases q : b' * inv % P + 1 < P
    · rw [Nat.mod_eq_of_lt q] at e3; exact e3
    · have : b' * inv % P + 1 = P := by omega
      rw [this, Nat.mod_self] at e3
      exact absurd e3.symm z
def mixv (t m : Nat) : Nat := mx4 (mx3 (mx2 (t * 48271 % 2147483647))) % m
theorem mix_mixv (s k m : Nat) : mix s k m = mixv (s + 7919 * k) m := by unfold mix mixv mx1; rfl
theorem mixv_congr {t T : Nat} (m : Nat) (h : t % 2147483647 = T % 2147483647) : mixv t m = mixv T m := by
  have : t * 48271 % 2147483647 = T * 48271 % 2147483647 := by omega
  unfold mixv
  rw [this]
theorem good_many : mixv 2 12 = 4 := by decide +kernel
theorem good_size : mixv 7921 60 = 49 := by decide +kernel
def PP : Nat := 2147483647
/-- turns till the residue 2 -/
def turns (a : Nat) : Nat := (2 + PP - a % PP) * 1466954513 % PP
theorem PP_inv : 15838 * 1466954513 = 1 + PP * 10819 := by decide +kernel
theorem PP_pos : 0 < PP := by decide
theorem turns_lt (a : Nat) : turns a < PP := Nat.mod_lt _ PP_pos
theorem turns_zero {a : Nat} (h : turns a = 0) : a % PP = 2 := ring_zero PP_inv (Nat.mod_lt _ PP_pos) (by decide) (by decide) h
theorem turns_next {a : Nat} (h : turns a ≠ 0) : turns (a + 15838) + 1 = turns a := by
  have := ring_next PP_inv (Nat.mod_lt a PP_pos) h
  unfold turns
  rw [Nat.add_mod, Nat.mod_eq_of_lt (show 15838 < PP by decide)]
  exact this
end K33

set_option linter.all false
set_option maxRecDepth 100000
namespace K33
open PySem Sim NT
/-- a family of the law -/
def Fam (v k l : Int) : Prop := 1 ≤ v ∧ v ≤ 1000 ∧ 2 ≤ k ∧ k ≤ v ∧ 1 ≤ l ∧ l < k ∧ l * (v - 1) = k * (k - 1)
def TurnP (h : Hand) (many : Nat) : Nat := if phi h = 0 then (if many = 1 + mix h.s h.k 12 then turns (h.s + 7919 * h.k) else PP) else phi h * (PP + 2)
def sqGood (size many : Nat) : Prop := size * (size - 1) % many = 0 ∧ many < size ∧ size ≤ size * (size - 1) / many + 1 ∧ size * (size - 1) / many + 1 ≤ 1000
theorem sq_body (n : Nat) (h : Hand) (many : Nat) (m0 : 1 ≤ many ∧ many ≤ 12) (c2 c3 : C) (f2 : isFree c2 = true) (f3 : isFree c3 = true) :
    (¬ sqGood ((draw h 60).1 + 2) many → ∃ c2' c3', isFree c2' = true ∧ isFree c3' = true ∧ wb1__law_squares n [.ob .mu (hd h), .fz (.int many), c2, c3] = some (.nx [.ob .mu (hd (draw (draw h 60).2 12).2), .fz (.int ((1 + (draw (draw h 60).2 12).1 : Nat) : Int)), c2', c3'])) ∧
    (sqGood ((draw h 60).1 + 2) many → ∃ v k l c1 c2' c3', Fam v k l ∧ wb1__law_squares n [.ob .mu (hd h), .fz (.int many), c2, c3] = some (.rt (.fz (.tup [.int v, .int k, .int l])) [.ob .mu (hd (draw h 60).2), c1, c2', c3'])) := by
  have v1 := v_drawI n h 60 60 rfl (by decide) (by decide)
  have l1 := draw_lt h (m := 60) (by decide)
  generalize draw h 60 = r1 at *
  obtain ⟨d, h1⟩ := r1
  simp only at l1 v1 ⊢
  have v2 := v_drawI n h1 12 12 rfl (by decide) (by decide)
  have l2 := draw_lt h1 (m := 12) (by decide)
  generalize draw h1 12 = r2 at *
  obtain ⟨e, h2⟩ := r2
  simp only at l2 v2 ⊢
  obtain ⟨sz, hsz⟩ : ∃ sz, d + 2 = sz := ⟨_, rfl⟩
  have es : (2 : Int) + (d : Int) = (sz : Int) := by omega
  obtain ⟨y, hy⟩ : ∃ y, 1 + e = y := ⟨_, rfl⟩
  have ee : (1 : Int) + (e : Int) = (y : Int) := by omega
  rw [hy]
  have esz : ((sz : Int) * ((sz : Int) - 1)) = ((sz * (sz - 1) : Nat) : Int) := by
    obtain ⟨y, rfl⟩ : ∃ y, sz = y + 1 := ⟨sz - 1, by omega⟩
    simp
  have ok1 : okMul (sz : Int) ((sz : Int) - 1) = true := okMul_l (by omega)
  obtain ⟨w, hw⟩ : ∃ w, sz * (sz - 1) = w := ⟨_, rfl⟩
  rw [hsz]
  unfold sqGood
  rw [hw] at esz ⊢
  have em : (w : Int).fmod many = ((w % many : Nat) : Int) := by rw [fmod_pos (by omega)]; simp
  have ed : (w : Int).fdiv many = ((w / many : Nat) : Int) := by rw [fdiv_pos (by omega)]; simp
  have ok2 : okDiv (w : Int) many = true := okDiv_i (by omega) (by omega)
  have mz : ¬ many = 0 := by omega
  obtain ⟨rm, hrm⟩ : ∃ rm, w % many = rm := ⟨_, rfl⟩
  obtain ⟨q, hq⟩ : ∃ q, w / many = q := ⟨_, rfl⟩
  have dm := Nat.div_add_mod w many
  rw [hrm] at em dm ⊢
  rw [hq] at ed dm ⊢
  have k1 : (many : Int) < sz ↔ many < sz := by omega
  have k2 : ((sz : Int) ≤ (q : Int) + 1) ↔ sz ≤ q + 1 := by omega
  have k3 : ((q : Int) + 1 ≤ 1000) ↔ q + 1 ≤ 1000 := by omega
  constructor
  · intro ng
    by_cases a1 : rm = 0
    · by_cases a2 : many < sz
      · refine ⟨.fz (.int sz), .fz (.int ((q : Int) + 1)), rfl, rfl, ?_⟩
        by_cases a3 : sz ≤ q + 1
        · have a4 : ¬ q + 1 ≤ 1000 := fun z => ng ⟨a1, a2, a3, z⟩
          have a4' : ¬ (q : Int) + 1 ≤ 1000 := by omega
          simp [wb1__law_squares, v1, v2, f2, f3, es, ee, esz, ok1, ok2, em, ed, mz, a1, a2, a4', k1, k2, a3]
        · simp [wb1__law_squares, v1, v2, f2, f3, es, ee, esz, ok1, ok2, em, ed, mz, a1, a2, k1, k2, a3]
      · refine ⟨.fz (.int sz), c3, rfl, f3, ?_⟩
        simp [wb1__law_squares, v1, v2, f2, f3, es, ee, esz, ok1, ok2, em, ed, mz, a1, a2, k1]
    · refine ⟨.fz (.int sz), c3, rfl, f3, ?_⟩
      simp [wb1__law_squares, v1, v2, f2, f3, es, ee, esz, ok1, ok2, em, ed, mz, a1]
  · rintro ⟨a1, a2, a3, a4⟩
    have a4' : (q : Int) + 1 ≤ 1000 := by omega
    refine ⟨(q : Int) + 1, sz, many, .fz (.int many), .fz (.int sz), .fz (.int ((q : Int) + 1)), ?_, ?_⟩
    · refine ⟨by omega, by omega, by omega, by omega, by omega, by omega, ?_⟩
      rw [esz, ← dm, a1]
      simp
    · simp [wb1__law_squares, v1, v2, f2, f3, es, ee, esz, ok1, ok2, em, ed, mz, a1, a2, a4', k1, k2, a3]
end K33

set_option linter.all false
set_option maxRecDepth 100000
namespace K33
open PySem Sim NT
theorem turnP_less (h : Hand) (many : Nat) (ng : ¬ sqGood ((draw h 60).1 + 2) many) : TurnP (draw (draw h 60).2 12).2 (1 + (draw (draw h 60).2 12).1) < TurnP h many := by
  obtain ⟨a1, a2, a3⟩ := draw_phi h 60
  obtain ⟨b1, b2, b3⟩ := draw_phi (draw h 60).2 12
  have small : ∀ (h : Hand) (m : Nat), phi h = 0 → TurnP h m ≤ PP := fun h m z => by
    unfold TurnP
    rw [if_pos z]
    split
    · exact Nat.le_of_lt (turns_lt _)
    · exact Nat.le_refl _
  by_cases z : phi h = 0
  · have e1 := a3 z
    have z1 : phi (draw h 60).2 = 0 := by omega
    have e2 := b3 z1
    rw [e1] at e2 ng
    rw [e1]
    simp only at e2 ng ⊢
    rw [e2]
    simp only
    have z2 : phi { h with k := h.k + 1 + 1 } = 0 := z
    have lhs : TurnP { h with k := h.k + 1 + 1 } (1 + mix h.s (h.k + 1 + 1) 12) = turns (h.s + 7919 * h.k + 15838) := by
      unfold TurnP
      rw [if_pos z2, if_pos rfl]
      have : h.s + 7919 * (h.k + 1 + 1) = h.s + 7919 * h.k + 15838 := by omega
      simp only [this]
    rw [lhs]
    unfold TurnP
    rw [if_pos z]
    split
    · rename_i hm
      by_cases t0 : turns (h.s + 7919 * h.k) = 0
      · exfalso
        have r := turns_zero t0
        have m1 : mix h.s h.k 12 = 4 := by
          rw [mix_mixv, mixv_congr 12 (T := 2) (by rw [show (2147483647 : Nat) = PP from rfl, r]; rfl)]; exact good_many
        have m2 : mix h.s (h.k + 1) 60 = 49 := by
          rw [mix_mixv, mixv_congr 60 (T := 7921) (by
            have e : h.s + 7919 * (h.k + 1) = (h.s + 7919 * h.k) + 7919 := by omega
            rw [show (2147483647 : Nat) = PP from rfl, e, Nat.add_mod, r]; rfl)]
          exact good_size
        rw [m1] at hm
        subst hm
        rw [m2] at ng
        exact ng (by unfold sqGood; decide)
      · have := turns_next t0
        omega
    · exact turns_lt _
  · have p1 := a2 (by decide) (by omega)
    have rhs : TurnP h many = phi h * (PP + 2) := by unfold TurnP; rw [if_neg z]
    rw [rhs]
    by_cases w : phi (draw (draw h 60).2 12).2 = 0
    · have := small (draw (draw h 60).2 12).2 (1 + (draw (draw h 60).2 12).1) w
      have : 1 * (PP + 2) ≤ phi h * (PP + 2) := Nat.mul_le_mul_right _ (by omega)
      omega
    · have lhs : TurnP (draw (draw h 60).2 12).2 (1 + (draw (draw h 60).2 12).1) = phi (draw (draw h 60).2 12).2 * (PP + 2) := by unfold TurnP; rw [if_neg w]
      rw [lhs]
      exact Nat.mul_lt_mul_of_pos_right (by omega) (by omega)
theorem turnP_le (h : Hand) (m : Nat) : TurnP h m ≤ (phi h + 1) * (PP + 2) := by
  unfold TurnP
  rw [Nat.add_mul]
  split
  · split
    · have := turns_lt (h.s + 7919 * h.k); omega
    · omega
  · omega
theorem v_squares_of (n : Nat) (h : Hand) (hn : (phi h + 1) * (PP + 2) < n) : ∃ v k l h', Fam v k l ∧ valM (m__law_squares n) (hd h) [] = some (.fz (.tup [.int v, .int k, .int l]), hd h') ∧ phi h' ≤ phi h := by
  have v1 := v_drawI n h 12 12 rfl (by decide) (by decide)
  have l1 := draw_lt h (m := 12) (by decide)
  have p1 := (draw_phi h 12).1
  generalize draw h 12 = r1 at *
  obtain ⟨d, h1⟩ := r1
  simp only at l1 v1 p1
  have tl := turnP_le h1 (1 + d)
  have tm : (phi h1 + 1) * (PP + 2) ≤ (phi h + 1) * (PP + 2) := Nat.mul_le_mul_right _ (by omega)
  obtain ⟨c, σ, w, v, k, l, h', e1, e2, e3, e4⟩ := while_ret (α := Hand × Nat × C × C) (fun a => [.ob .mu (hd a.1), .fz (.int a.2.1), a.2.2.1, a.2.2.2]) (fun a => (1 ≤ a.2.1 ∧ a.2.1 ≤ 12) ∧ isFree a.2.2.1 = true ∧ isFree a.2.2.2 = true ∧ phi a.1 ≤ phi h) (fun a => TurnP a.1 a.2.1)
    (fun c σ => ∃ v k l h', c = .fz (.tup [.int v, .int k, .int l]) ∧ σ[0]? = some (.ob .mu (hd h')) ∧ Fam v k l ∧ phi h' ≤ phi h) (t := wt1__law_squares n) (body := wb1__law_squares n)
    (by rintro ⟨a, m, c2, c3⟩ _; rfl)
    (by
      rintro ⟨a, m, c2, c3⟩ ⟨q1, q2, q3, q4⟩
      simp only at q1 q2 q3 q4
      obtain ⟨s1, s2⟩ := sq_body n a m q1 c2 c3 q2 q3
      have d1 := (draw_phi a 60).1
      have d2 := (draw_phi (draw a 60).2 12).1
      have dl := draw_lt (draw a 60).2 (m := 12) (by decide)
      by_cases g : sqGood ((draw a 60).1 + 2) m
      · obtain ⟨v, k, l, c1, c2', c3', f, e⟩ := s2 g
        exact .inr ⟨_, _, e, v, k, l, (draw a 60).2, rfl, rfl, f, by omega⟩
      · obtain ⟨c2', c3', f2, f3, e⟩ := s1 g
        exact .inl ⟨(_, _, c2', c3'), e, ⟨⟨by simp only; omega, by simp only; omega⟩, f2, f3, Nat.le_trans d2 (Nat.le_trans d1 q4)⟩, turnP_less a m g⟩)
    n (h1, 1 + d, .no, .no) ⟨⟨by simp only; omega, by simp only; omega⟩, rfl, rfl, by simp only; omega⟩ (by simp only; omega)
  refine ⟨v, k, l, h', e3, ?_, e4⟩
  simp only at w
  have ed : (1 : Int) + (d : Int) = ((1 + d : Nat) : Int) := by omega
  generalize (1 + d : Nat) = y at *
  unfold m__law_squares
  simp [v1, ed, w, e1]
  rw [e2]
end K33

set_option linter.all false
set_option maxRecDepth 100000
namespace K33
open PySem Sim NT
open Classical in
noncomputable def LSb (A B : Int) : Bool := decide (LS A B)
theorem LSb_iff {A B : Int} : LSb A B = true ↔ LS A B := by unfold LSb; simp
theorem LSb_eq {A B A' B' : Int} (h : LS A B ↔ LS A' B') : LSb A B = LSb A' B' := by
  rw [Bool.eq_iff_iff, LSb_iff, LSb_iff]; exact h
def Sm (x : Int) : Prop := x ≠ 0 ∧ x.natAbs ≤ 1000000
theorem bare_ex {x : Int} (h : Sm x) : ∃ X, IsBare x X := by
  obtain ⟨X, _, i⟩ := v_square_free x 1152921504606846980 h.1 (by have := h.2; omega) (by have := h.2; omega)
  exact ⟨X, i⟩
theorem v_ls (n : Nat) {a b A B : Int} (ha : Sm a) (hb : Sm b) (hn : 1000000000010 < n) (iA : IsBare a A) (iB : IsBare b B) : val (m__law_sums n) [.int a, .int b] = some (.fz (.bl (LSb A B))) := by
  obtain ⟨t, h1, h2⟩ := v__law_sums a b n ha.1 hb.1 ha.2 hb.2 hn iA iB
  have : t = LSb A B := by rw [Bool.eq_iff_iff, LSb_iff]; exact h2
  rw [h1, this]
theorem v_has (n : Nat) {a b A B : Int} (ha : Sm a) (hb : Sm b) (hn : 1000000000010 < n) (iA : IsBare a A) (iB : IsBare b B) : val (m_has_sums n) [.int a, .int b] = some (.fz (.bl (LSb A B))) := by
  obtain ⟨t, h1, h2⟩ := v_sums_to_nought a b n ha.1 hb.1 ha.2 hb.2 hn iA iB
  have e : t = LSb A B := by rw [Bool.eq_iff_iff, LSb_iff]; exact h2
  rw [e] at h1
  have pw : okPow 10 6 = true := rfl
  have pv : (10 : Int) ^ 6 = 1000000 := by decide
  have a1 : (if a < 0 then -a else a) ≤ 1000000 := by have := ha.2; split <;> omega
  have b1 : (if b < 0 then -b else b) ≤ 1000000 := by have := hb.2; split <;> omega
  have a0 := ha.1
  have b0 := hb.1
  generalize LSb A B = t at *
  unfold m_has_sums
  simp [tsYes, mLc, lcI, notOb, wipeC, restC, ce1_has_sums, v_is_integer, a0, b0, a1, b1, pw, pv, cAll, boolsOf, h1]
theorem rs_eqB (a b : Bool) : dEq (.bl a) (.bl b) = some (.fz (.bl (decide (a = b)))) := by cases a <;> cases b <;> rfl
theorem sqf_pair {X Y g : Nat} (hX : Sqf X) (hY : Sqf Y) (hg : Nat.gcd X Y = g) : Sqf (X / g * (Y / g)) := by
  have X0 := Nat.pos_of_ne_zero hX.1
  have Y0 := Nat.pos_of_ne_zero hY.1
  have g0 : 0 < g := by rw [← hg]; exact Nat.gcd_pos_of_pos_left _ X0
  have dX : g ∣ X := by rw [← hg]; exact Nat.gcd_dvd_left ..
  have dY : g ∣ Y := by rw [← hg]; exact Nat.gcd_dvd_right ..
  have cop : Nat.Coprime (X / g) (Y / g) := by rw [← hg]; exact Nat.coprime_div_gcd_div_gcd (by rw [hg]; exact g0)
  have ddX : X / g ∣ X := ⟨g, (Nat.div_mul_cancel dX).symm⟩
  have ddY : Y / g ∣ Y := ⟨g, (Nat.div_mul_cancel dY).symm⟩
  refine ⟨Nat.mul_ne_zero (Nat.ne_of_gt (Nat.div_pos (Nat.le_of_dvd X0 dX) g0)) (Nat.ne_of_gt (Nat.div_pos (Nat.le_of_dvd Y0 dY) g0)), fun p hp d => ?_⟩
  by_cases p1 : p ∣ X / g
  · have p2 : ¬ p ∣ Y / g := fun z => by
      have := Nat.dvd_gcd p1 z
      rw [show Nat.gcd (X / g) (Y / g) = 1 from cop] at this
      exact hp.not_one this
    rw [Nat.mul_comm (X / g)] at d
    exact hX.2 p hp (Nat.dvd_trans (sq_dvd hp p2 d) ddX)
  · exact hY.2 p hp (Nat.dvd_trans (sq_dvd hp p1 d) ddY)
def arA (n : Nat) : SM := (sPar3 1 2 3 (mCallM (m__law_integer n) 0 fNil) (mCallM (m__law_integer n) 0 fNil) (mCallM (m__law_integer n) 0 fNil))
def arB (n : Nat) : SM := (sSet 4 (mCallL (m__law_sums n) (lCons (slq 1) (lCons (slq 2) lNil))))
def arC (n : Nat) : SM := (sIf (mOrT (eT (mBin dNe (ev (mCallB cRepr (lCons (ev (mCallL (m_has_sums n) (lCons (slq 1) (lCons (slq 2) lNil)))) lNil))) (ev (mCallB cRepr (lCons (slq 4) lNil))))) (eT (mBin dNe (ev (mCallB cRepr (lCons (ev (mCallL (m_has_sums n) (lCons (slq 2) (lCons (slq 1) lNil)))) lNil))) (ev (mCallB cRepr (lCons (slq 4) lNil)))))) (sRet (mC (.bl false))) sNil)
def arD (n : Nat) : SM := (sSet 5 (mBin dPlus (ev (mC (.int 2))) (ev (mCallM (m__law_draw n) 0 (fCons (mC (.int 9)) fNil)))))
def arE (n : Nat) : SM := (sIf (mAndT (eT (mBin dLe (ev (mBin dMul (ev (mBin dMul (ev (mCallB cAbs (lCons (slq 1) lNil))) (slq 5))) (slq 5))) (ev (mBin dPow (ev (mC (.int 10))) (ev (mC (.int 6))))))) (eT (mBin dNe (ev (mCallB cRepr (lCons (ev (mCallL (m_has_sums n) (lCons (ev (mBin dMul (ev (mBin dMul (slq 1) (slq 5))) (slq 5))) (lCons (slq 2) lNil)))) lNil))) (ev (mCallB cRepr (lCons (slq 4) lNil)))))) (sRet (mC (.bl false))) sNil)
def arF (n : Nat) : SM := (sIf (mOrT (eT (mBin dNotB (ev (mCallL (m_has_sums n) (lCons (slq 1) (lCons (ev (mBin dSub (ev (mC (.int 0))) (slq 1))) lNil)))) (ev (mC (.bl true))))) (mAndT (eT (mBin dNe (slq 1) (ev (mC (.int 1))))) (mAndT (eT (mBin dLe (ev (mCallB cAbs (lCons (ev (mBin dSub (ev (mC (.int 1))) (slq 1))) lNil))) (ev (mBin dPow (ev (mC (.int 10))) (ev (mC (.int 6))))))) (eT (mBin dNotB (ev (mCallL (m_has_sums n) (lCons (slq 1) (lCons (ev (mBin dSub (ev (mC (.int 1))) (slq 1))) lNil)))) (ev (mC (.bl true)))))))) (sRet (mC (.bl false))) sNil)
def arG (n : Nat) : SM := (sSet 6 (mCallL (m__law_together n) (lCons (ev (mCallL (m__law_bare n) (lCons (slq 2) lNil))) (lCons (ev (mCallL (m__law_bare n) (lCons (slq 3) lNil))) lNil))))
def arH (n : Nat) : SM := (sIf (mAndT (eT (mBin dLe (ev (mCallB cAbs (lCons (slq 6) lNil))) (ev (mBin dPow (ev (mC (.int 10))) (ev (mC (.int 6))))))) (mOrT (eT (mVar 4)) (eT (mCallL (m__law_sums n) (lCons (slq 1) (lCons (slq 3) lNil)))))) (sRet (mBin dEq (ev (mCallL (m_has_sums n) (lCons (slq 1) (lCons (slq 6) lNil)))) (ev (mAnd (mVar 4) (mCallL (m__law_sums n) (lCons (slq 1) (lCons (slq 3) lNil))))))) sNil)
def arR (n : Nat) : SM := (sRet (mC (.bl true)))
theorem are_text (n : Nat) : m__law_are_sums_right n = runFn 1 7 (sSeq (arA n) (sSeq (arB n) (sSeq (arC n) (sSeq (arD n) (sSeq (arE n) (sSeq (arF n) (sSeq (arG n) (sSeq (arH n) (arR n))))))))) := rfl
structure Gv (n : Nat) (a b c A B Cc : Int) : Prop where
  hn : 1000000000010 < n
  ha : Sm a
  hb : Sm b
  hc : Sm c
  iA : IsBare a A
  iB : IsBare b B
  iC : IsBare c Cc
section
variable {n : Nat} (h : C) {a b c A B Cc : Int} (c5 c6 : C)
theorem LSb_comm (A B : Int) : LSb B A = LSb A B := LSb_eq LS.comm_iff
theorem arB_run (G : Gv n a b c A B Cc) (f5 : isFree c5 = true) : arB n [h, .fz (.int a), .fz (.int b), .fz (.int c), c5, c6, .no] = some (.nx [h, .fz (.int a), .fz (.int b), .fz (.int c), .fz (.bl (LSb A B)), c6, .no]) := by
  obtain ⟨hn, ha, hb, hc, iA, iB, iC⟩ := G
  have e := v_ls n ha hb hn iA iB
  generalize LSb A B = t at *
  simp [arB, e, f5]
theorem arC_run (G : Gv n a b c A B Cc) : arC n [h, .fz (.int a), .fz (.int b), .fz (.int c), .fz (.bl (LSb A B)), c5, c6] = some (.nx [h, .fz (.int a), .fz (.int b), .fz (.int c), .fz (.bl (LSb A B)), c5, c6]) := by
  obtain ⟨hn, ha, hb, hc, iA, iB, iC⟩ := G
  have e1 := v_has n ha hb hn iA iB
  have e2 := v_has n hb ha hn iB iA
  rw [LSb_comm] at e2
  generalize LSb A B = t at *
  obtain ⟨r, r1, r2⟩ := repr_bl t
  simp [arC, e1, e2, r1, r2]
theorem arE_run (G : Gv n a b c A B Cc) (t : Nat) (ht : 2 ≤ t ∧ t ≤ 10) : arE n [h, .fz (.int a), .fz (.int b), .fz (.int c), .fz (.bl (LSb A B)), .fz (.int t), c6] = some (.nx [h, .fz (.int a), .fz (.int b), .fz (.int c), .fz (.bl (LSb A B)), .fz (.int t), c6]) := by
  obtain ⟨hn, ha, hb, hc, iA, iB, iC⟩ := G
  have pw : okPow 10 6 = true := rfl
  have pv : (10 : Int) ^ 6 = 1000000 := by decide
  have ok1 : ∀ i : Int, okMul i t = true := fun i => okMul_r (by omega)
  obtain ⟨y, hy⟩ : ∃ y, (if a < 0 then -a else a) * (t : Int) * t = y := ⟨_, rfl⟩
  by_cases hle : y ≤ 1000000
  · have hs : Sm (a * t * t) := by
      refine ⟨Int.mul_ne_zero (Int.mul_ne_zero ha.1 (by omega)) (by omega), ?_⟩
      have e1 : (a * t * t).natAbs = a.natAbs * t * t := by rw [Int.natAbs_mul, Int.natAbs_mul, Int.natAbs_natCast]
      rw [natCast_abs] at hy
      have e2 : ((a.natAbs * t * t : Nat) : Int) = y := by rw [← hy]; simp
      omega
    have i2 : IsBare (a * t * t) A := by
      obtain ⟨s, k, k0, ek⟩ := iA
      refine ⟨s, k * t, Int.mul_ne_zero k0 (by omega), ?_⟩
      rw [ek]
      simp only [Int.mul_assoc, Int.mul_comm, Int.mul_left_comm]
    have e1 := v_has n hs hb hn i2 iB
    generalize LSb A B = u at *
    obtain ⟨r, r1, r2⟩ := repr_bl u
    simp [arE, pw, pv, ok1, hy, hle, e1, r1, r2]
  · simp [arE, pw, pv, ok1, hy, hle]
theorem arF_run (G : Gv n a b c A B Cc) : arF n [h, .fz (.int a), .fz (.int b), .fz (.int c), .fz (.bl (LSb A B)), c5, c6] = some (.nx [h, .fz (.int a), .fz (.int b), .fz (.int c), .fz (.bl (LSb A B)), c5, c6]) := by
  obtain ⟨hn, ha, hb, hc, iA, iB, iC⟩ := G
  have pw : okPow 10 6 = true := rfl
  have pv : (10 : Int) ^ 6 = 1000000 := by decide
  have hm : Sm (0 - a) := ⟨by have := ha.1; omega, by have := ha.2; omega⟩
  have im : IsBare (0 - a) (-A) := by
    obtain ⟨s, k, k0, ek⟩ := iA
    refine ⟨by unfold SqfI; rw [Int.natAbs_neg]; exact s, k, k0, ?_⟩
    rw [ek, Int.neg_mul]; omega
  have e1 := v_has n ha hm hn iA im
  rw [LSb_iff.mpr (LS.neg_self iA.1)] at e1
  rw [Int.zero_sub] at e1
  by_cases a1 : a = 1
  · subst a1
    generalize LSb A B = u at *
    simp [arF, e1]
  · obtain ⟨y, hy⟩ : ∃ y, (if 1 - a < 0 then -(1 - a) else 1 - a) = y := ⟨_, rfl⟩
    by_cases hle : y ≤ 1000000
    · have hs : Sm (1 - a) := ⟨by omega, by rw [natCast_abs] at hy; omega⟩
      obtain ⟨D', iD⟩ := bare_ex hs
      have e2 := v_has n ha hs hn iA iD
      obtain ⟨k, k0, ek⟩ := iA.2
      obtain ⟨m, m0, em⟩ := iD.2
      rw [LSb_iff.mpr (LS.one_less iA.1 iD.1 ek em k0 m0)] at e2
      generalize LSb A B = u at *
      simp [arF, e1, e2, a1, hy, hle, pw, pv]
    · generalize LSb A B = u at *
      simp [arF, e1, a1, hy, hle, pw, pv]
/-- what together answers -/
def tog (B Cc : Int) : Int := B / (Nat.gcd B.natAbs Cc.natAbs : Nat) * (Cc / (Nat.gcd B.natAbs Cc.natAbs : Nat))
theorem arG_run (G : Gv n a b c A B Cc) (f6 : isFree c6 = true) (t : D) : arG n [h, .fz (.int a), .fz (.int b), .fz (.int c), .fz t, c5, c6] = some (.nx [h, .fz (.int a), .fz (.int b), .fz (.int c), .fz t, c5, .fz (.int (tog B Cc))]) := by
  obtain ⟨hn, ha, hb, hc, iA, iB, iC⟩ := G
  obtain ⟨B', h1, iB'⟩ := v__law_bare b n hb.1 (by have := hb.2; omega) (by have := hb.2; omega)
  obtain ⟨C', h2, iC'⟩ := v__law_bare c n hc.1 (by have := hc.2; omega) (by have := hc.2; omega)
  cases iB.uniq iB'
  cases iC.uniq iC'
  have lB := iB.le
  have lC := iC.le
  have h3 := v__law_together B Cc n (by have := hc.2; omega) iB.1.ne (by have := hb.2; omega) (by
    have := Int.natAbs_ediv_le_natAbs B (Nat.gcd B.natAbs Cc.natAbs : Nat)
    have := hb.2; omega)
  rw [show B / (Nat.gcd B.natAbs Cc.natAbs : Nat) * (Cc / (Nat.gcd B.natAbs Cc.natAbs : Nat)) = tog B Cc from rfl] at h3
  generalize tog B Cc = y at *
  simp [arG, h1, h2, h3, f6]
theorem tog_bare (G : Gv n a b c A B Cc) : IsBare (tog B Cc) (tog B Cc) ∧ ∃ g : Int, g ≠ 0 ∧ tog B Cc * (g * g) = B * Cc := by
  obtain ⟨hn, ha, hb, hc, iA, iB, iC⟩ := G
  have B0 := iB.1.ne
  obtain ⟨g, hg⟩ : ∃ g, Nat.gcd B.natAbs Cc.natAbs = g := ⟨_, rfl⟩
  have g0 : 0 < g := by rw [← hg]; exact Nat.gcd_pos_of_pos_left _ (by omega)
  have gB : (g : Int) ∣ B := dvd_cast.mpr (by rw [← hg]; exact Nat.gcd_dvd_left ..)
  have gC : (g : Int) ∣ Cc := dvd_cast.mpr (by rw [← hg]; exact Nat.gcd_dvd_right ..)
  have sp := sqf_pair iB.1 iC.1 hg
  have gz : (g : Int) ≠ 0 := by omega
  unfold tog
  rw [hg]
  obtain ⟨B1, rfl⟩ := gB
  obtain ⟨C1, rfl⟩ := gC
  rw [ediv_of gz, ediv_of gz]
  rw [Int.natAbs_mul, Int.natAbs_mul, Int.natAbs_natCast, Nat.mul_div_cancel_left _ g0, Nat.mul_div_cancel_left _ g0, ← Int.natAbs_mul] at sp
  refine ⟨⟨sp, 1, by decide, by omega⟩, g, gz, ?_⟩
  simp only [Int.mul_assoc, Int.mul_comm, Int.mul_left_comm]
theorem arH_run (G : Gv n a b c A B Cc) : (arH n [h, .fz (.int a), .fz (.int b), .fz (.int c), .fz (.bl (LSb A B)), c5, .fz (.int (tog B Cc))] = some (.nx [h, .fz (.int a), .fz (.int b), .fz (.int c), .fz (.bl (LSb A B)), c5, .fz (.int (tog B Cc))])) ∨
    (arH n [h, .fz (.int a), .fz (.int b), .fz (.int c), .fz (.bl (LSb A B)), c5, .fz (.int (tog B Cc))] = some (.rt (.fz (.bl true)) [h, .fz (.int a), .fz (.int b), .fz (.int c), .fz (.bl (LSb A B)), c5, .fz (.int (tog B Cc))])) := by
  obtain ⟨hn, ha, hb, hc, iA, iB, iC⟩ := G
  have pw : okPow 10 6 = true := rfl
  have pv : (10 : Int) ^ 6 = 1000000 := by decide
  obtain ⟨im, g, g0, eg⟩ := tog_bare ⟨hn, ha, hb, hc, iA, iB, iC⟩
  have e1 := v_ls n ha hc hn iA iC
  have mulB : LS A B → (LS A (tog B Cc) ↔ LS A Cc) := fun z => LS.mul iA.1 iB.1 iC.1 im.1 g0 eg z
  have mulC : LS A Cc → (LS A (tog B Cc) ↔ LS A B) := fun z => LS.mul iA.1 iC.1 iB.1 im.1 g0 (by rw [eg, Int.mul_comm]) z
  have m0 := im.1.ne
  generalize tog B Cc = m at *
  obtain ⟨y, hy⟩ : ∃ y, (if m < 0 then -m else m) = y := ⟨_, rfl⟩
  by_cases hle : y ≤ 1000000
  · have hs : Sm m := ⟨m0, by rw [natCast_abs] at hy; omega⟩
    have e2 := v_has n ha hs hn iA im
    have tt : ∀ X Y : Int, LSb X Y = true ∨ LSb X Y = false := fun X Y => by cases LSb X Y <;> simp
    rcases tt A B with t1 | t1 <;> rcases tt A Cc with t2 | t2 <;> rw [t1] <;> rw [t2] at e1
    · have : LSb A m = true := LSb_iff.mpr ((mulB (LSb_iff.mp t1)).mpr (LSb_iff.mp t2))
      rw [this] at e2
      exact .inr (by simp [arH, pw, pv, hy, hle, e1, e2, rs_eqB])
    · have : LSb A m = false := by
        rw [Bool.eq_false_iff]; intro z
        exact absurd (LSb_iff.mpr ((mulB (LSb_iff.mp t1)).mp (LSb_iff.mp z))) (by simp [t2])
      rw [this] at e2
      exact .inr (by simp [arH, pw, pv, hy, hle, e1, e2, rs_eqB])
    · have : LSb A m = false := by
        rw [Bool.eq_false_iff]; intro z
        exact absurd (LSb_iff.mpr ((mulC (LSb_iff.mp t2)).mp (LSb_iff.mp z))) (by simp [t1])
      rw [this] at e2
      exact .inr (by simp [arH, pw, pv, hy, hle, e1, e2, rs_eqB])
    · exact .inl (by simp [arH, pw, pv, hy, hle, e1])
  · generalize LSb A B = u at *
    exact .inl (by simp [arH, pw, pv, hy, hle])
end
theorem arA_run (n : Nat) (h : Hand) : ∃ a b c h', Sm a ∧ Sm b ∧ Sm c ∧ phi h' ≤ phi h ∧ arA n [.ob .mu (hd h), .no, .no, .no, .no, .no, .no] = some (.nx [.ob .mu (hd h'), .fz (.int a), .fz (.int b), .fz (.int c), .no, .no, .no]) := by
  obtain ⟨a, h1, v1, a0, al, p1⟩ := v_integer n h
  obtain ⟨b, h2, v2, b0, bl, p2⟩ := v_integer n h1
  obtain ⟨c, h3, v3, c0, cl, p3⟩ := v_integer n h2
  exact ⟨a, b, c, h3, ⟨a0, al⟩, ⟨b0, bl⟩, ⟨c0, cl⟩, by omega, by simp [arA, v1, v2, v3]⟩
theorem arD_run (n : Nat) (h : Hand) (x1 x2 x3 x4 : C) : ∃ (t : Nat) (h' : Hand), 2 ≤ t ∧ t ≤ 10 ∧ phi h' ≤ phi h ∧ arD n [.ob .mu (hd h), x1, x2, x3, x4, .no, .no] = some (.nx [.ob .mu (hd h'), x1, x2, x3, x4, .fz (.int t), .no]) := by
  have v1 := v_drawI n h 9 9 rfl (by decide) (by decide)
  have l1 := draw_lt h (m := 9) (by decide)
  have p1 := (draw_phi h 9).1
  generalize draw h 9 = r at *
  obtain ⟨d, h1⟩ := r
  simp only at v1 l1 p1
  obtain ⟨t, ht⟩ : ∃ t, 2 + d = t := ⟨_, rfl⟩
  have e : (2 : Int) + (d : Int) = (t : Int) := by omega
  exact ⟨t, h1, by omega, by omega, p1, by simp [arD, v1, e]⟩
theorem v_are_sums (n : Nat) (h : Hand) (hn : 1000000000010 < n) : ∃ h', valM (m__law_are_sums_right n) (hd h) [] = some (.fz (.bl true), hd h') ∧ phi h' ≤ phi h := by
  obtain ⟨a, b, c, h1, ha, hb, hc, p1, eA⟩ := arA_run n h
  obtain ⟨A, iA⟩ := bare_ex ha
  obtain ⟨B, iB⟩ := bare_ex hb
  obtain ⟨Cc, iC⟩ := bare_ex hc
  have G : Gv n a b c A B Cc := ⟨hn, ha, hb, hc, iA, iB, iC⟩
  have eB := arB_run (.ob .mu (hd h1)) .no .no G rfl
  have eC := arC_run (.ob .mu (hd h1)) .no .no G
  obtain ⟨t, h2, t1, t2, p2, eD⟩ := arD_run n h1 (.fz (.int a)) (.fz (.int b)) (.fz (.int c)) (.fz (.bl (LSb A B)))
  have eE := arE_run (.ob .mu (hd h2)) .no G t ⟨t1, t2⟩
  have eF := arF_run (.ob .mu (hd h2)) (.fz (.int t)) .no G
  have eG := arG_run (.ob .mu (hd h2)) (.fz (.int t)) .no G rfl (.bl (LSb A B))
  refine ⟨h2, ?_, by omega⟩
  rw [are_text, valM_run, if_pos (show ([] : List D).length + 1 = 1 from rfl)]
  show Option.bind (sSeq (arA n) _ [.ob .mu (hd h), .no, .no, .no, .no, .no, .no]) _ = _
  rw [rs_seq, eA, Option.bind_some]
  dsimp only
  rw [rs_seq, eB, Option.bind_some]
  dsimp only
  rw [rs_seq, eC, Option.bind_some]
  dsimp only
  rw [rs_seq, eD, Option.bind_some]
  dsimp only
  rw [rs_seq, eE, Option.bind_some]
  dsimp only
  rw [rs_seq, eF, Option.bind_some]
  dsimp only
  rw [rs_seq, eG, Option.bind_some]
  dsimp only
  rcases arH_run (.ob .mu (hd h2)) (.fz (.int t)) G with eH | eH
  · rw [rs_seq, eH]; rfl
  · rw [rs_seq, eH]; rfl
end K33

set_option linter.all false
set_option maxRecDepth 100000
namespace K33
open PySem Sim NT
theorem lc_hand (n : Nat) (x0 : D) : ∀ (ns : List Int), lcI (gN 2) tsYes (ce1__law_hand n) [2] (ns.map D.int) [.fz x0, .no, .no] = some ((ns.map Int.natAbs).map dI, [.fz x0, .no, .no])
  | [] => rfl
  | x :: ns => by
    have ih := lc_hand n x0 ns
    rw [List.map_map] at ih
    simp [lcI, tsYes, ce1__law_hand, wipeC, natCast_abs, dI]
    exact ih
theorem v_hand (n : Nat) (ns : List Int) (hl : ns.length ≤ 63) : val (m__law_hand n) [.frl (ns.map D.int)] = some (.ob .ow (hd ⟨ns.map Int.natAbs, 0, 0, 97301 + 7 * ns.length, 0⟩)) := by
  have cut : cutD (ns.map D.int) none (some 63) = ns.map D.int := by
    unfold cutD
    have e1 : HT.sIx (ns.map D.int).length 0 none = 0 := rfl
    have e2 : HT.sIx (ns.map D.int).length (ns.map D.int).length (some 63) = ns.length := by
      have := HT.sIx_nat (ns.map D.int).length (ns.map D.int).length 63
      rw [List.length_map] at this
      rw [List.length_map]
      refine this.trans ?_
      omega
    rw [e1, e2, List.drop_zero, Nat.sub_zero]
    exact List.take_of_length_le (by simp)
  have ih := lc_hand n (.frl (ns.map D.int)) ns
  rw [List.map_map] at ih
  have hl2 : ns.length ≤ 16777216 := by omega
  have okm : okMul 7 (ns.length : Int) = true := okMul_l (by decide)
  unfold m__law_hand
  simp [mLc, mCutHi, Sim.listOf, cut, notOb, wipeC, restC, ih, hl2, okm, hd]
theorem lc_are (n : Nat) (hn : 1000000000010 < n) (x0 c3 c4 c5 c6 c7 c8 c9 : C) : ∀ (L : List D) (h : Hand), ∃ h', lcI (gN 2) tsYes (ce3_law n) [2] L [x0, .ob .ow (hd h), .no, c3, c4, c5, c6, c7, c8, c9] = some (L.map fun _ => .bl true, [x0, .ob .ow (hd h'), .no, c3, c4, c5, c6, c7, c8, c9]) ∧ phi h' ≤ phi h
  | [], h => ⟨h, rfl, Nat.le_refl _⟩
  | d :: L, h => by
    obtain ⟨h1, e1, p1⟩ := v_are_sums n h hn
    obtain ⟨h2, e2, p2⟩ := lc_are n hn x0 c3 c4 c5 c6 c7 c8 c9 L h1
    refine ⟨h2, ?_, by omega⟩
    simp [lcI, tsYes, ce3_law, wipeC, e1]
    exact e2
theorem boolsOf_true : ∀ L : List D, boolsOf (L.map fun _ => D.bl true) = some (L.map fun _ => true)
  | [] => rfl
  | q :: L => by simp [boolsOf, boolsOf_true L]
theorem fb2_run (n : Nat) (h : Hand) (hn : (phi h + 1) * (PP + 2) < n) (hn2 : 1000000000010 < n) (x0 : C) (c2 c3 c4 c5 c6 c7 c8 c9 : C) (f3 : isFree c3 = true) (f4 : isFree c4 = true) (f5 : isFree c5 = true) (f6 : isFree c6 = true) :
    ∃ h' c3' c4' c5' c6', isFree c3' = true ∧ isFree c4' = true ∧ isFree c5' = true ∧ isFree c6' = true ∧ phi h' ≤ phi h ∧ fb2_law n [x0, .ob .ow (hd h), c2, c3, c4, c5, c6, c7, c8, c9] = some (.nx [x0, .ob .ow (hd h'), c2, c3', c4', c5', c6', c7, c8, c9]) := by
  obtain ⟨v, k, l, h1, ⟨g1, g2, g3, g4, g5, g6, sf⟩, e1, p1⟩ := v_squares_of n h hn
  have e2 := v_is_square_family v k l n ⟨g1, g2⟩ ⟨g3, g4⟩ ⟨g5, by omega⟩
  rw [decide_eq_true sf] at e2
  obtain ⟨r, nb, e3, e4⟩ := v_bar v k l n ⟨g1, g2⟩ ⟨g3, g4⟩ ⟨g5, g6⟩ sf hn2
  obtain ⟨t, r1, r2⟩ := repr_bar nb
  have nel := ne_bar nb
  refine ⟨h1, .fz (.int v), .fz (.int k), .fz (.int l), .fz r, rfl, rfl, rfl, rfl, p1, ?_⟩
  by_cases kv : k < v
  · have e5 := barsL_eq v k l n ⟨g1, g2⟩ ⟨g3, kv⟩ ⟨g5, by omega⟩ hn2
    have e6 := barsL_fam v k l n ⟨g1, g2⟩ ⟨g3, kv⟩ ⟨g5, by omega⟩ hn2 sf e4 nb
    rw [e6] at e5
    rcases nb with rfl | rfl | rfl
    · simp at e5 nel
      simp [fb2_law, e1, f3, f4, f5, f6, e2, e3, e4, r1, r2, kv, e5, nel]
    · simp at e5 nel
      simp [fb2_law, e1, f3, f4, f5, f6, e2, e3, e4, r1, r2, kv, e5, nel]
    · simp at e5 nel
      simp [fb2_law, e1, f3, f4, f5, f6, e2, e3, e4, r1, r2, kv, e5, nel]
  · rcases nb with rfl | rfl | rfl <;> simp [fb2_law, e1, f3, f4, f5, f6, e2, e3, e4, r1, r2, kv]
theorem for_fb2 (n : Nat) (hn2 : 1000000000010 < n) (x0 c7 c8 c9 : C) (L : List D) : ∀ (h : Hand), (phi h + 1) * (PP + 2) < n → ∀ (c2 c3 c4 c5 c6 : C), isFree c2 = true → isFree c3 = true → isFree c4 = true → isFree c5 = true → isFree c6 = true →
    ∃ h' c2' c3' c4' c5' c6', isFree c2' = true ∧ isFree c3' = true ∧ isFree c4' = true ∧ isFree c5' = true ∧ isFree c6' = true ∧ phi h' ≤ phi h ∧ forI (gN 2) (fb2_law n) L [x0, .ob .ow (hd h), c2, c3, c4, c5, c6, c7, c8, c9] = some (.nx [x0, .ob .ow (hd h'), c2', c3', c4', c5', c6', c7, c8, c9]) := by
  induction L with
  | nil => intro h _ c2 c3 c4 c5 c6 f2 f3 f4 f5 f6; exact ⟨h, c2, c3, c4, c5, c6, f2, f3, f4, f5, f6, Nat.le_refl _, rfl⟩
  | cons d L ih =>
    intro h hn c2 c3 c4 c5 c6 f2 f3 f4 f5 f6
    obtain ⟨h1, d3, d4, d5, d6, g3, g4, g5, g6, p1, e1⟩ := fb2_run n h hn hn2 x0 (.fz d) c3 c4 c5 c6 c7 c8 c9 f3 f4 f5 f6
    have hn' : (phi h1 + 1) * (PP + 2) < n := Nat.lt_of_le_of_lt (Nat.mul_le_mul_right _ (by omega)) hn
    obtain ⟨h2, z2, z3, z4, z5, z6, w2, w3, w4, w5, w6, p2, e2⟩ := ih h1 hn' (.fz d) d3 d4 d5 d6 rfl g3 g4 g5 g6
    refine ⟨h2, z2, z3, z4, z5, z6, w2, w3, w4, w5, w6, by omega, ?_⟩
    rw [rs_forI_cons]
    have : gN 2 d [x0, .ob .ow (hd h), c2, c3, c4, c5, c6, c7, c8, c9] = some [x0, .ob .ow (hd h), .fz d, c3, c4, c5, c6, c7, c8, c9] := by simp [f2]
    rw [this, Option.bind_some, e1, Option.bind_some]
    exact e2
/-- a plane's row: what both answer -/
theorem plane_of (n : Nat) (hn : 1000000000010 < n) (q : Nat) (h1 : 2 ≤ q) (h2 : q ≤ 30) : ∃ r, (r = .non ∨ r = .str "sums") ∧ val (m_bars n) [.int ((q : Int) * q + q + 1), .int ((q : Int) + 1), .int 1, .int 2] = some (.ob .ow (.lst (if isN r = true then [] else [r]))) ∧
    val (m__law_is_plane_free n) [.int q] = some (.fz (.bl (isN r))) ∧ barsL n ((q : Int) * q + q + 1) ((q : Int) + 1) 1 = (if isN r = true then [] else [r]) := by
  obtain ⟨r, hr, e1, e2⟩ := plane_row (n - 1000) q h1 h2
  rw [show n - 1000 + 1000 = n by omega] at e1 e2
  have nb : noBar r := by rcases hr with rfl | rfl <;> simp [noBar]
  have qq : (q : Int) * q ≤ 30 * 30 := Int.mul_le_mul (by omega) (by omega) (by omega) (by omega)
  have qq2 : (2 : Int) * q ≤ q * q := Int.mul_le_mul_of_nonneg_right (by omega) (by omega)
  have sf : 1 * ((q : Int) * q + q + 1 - 1) = ((q : Int) + 1) * ((q : Int) + 1 - 1) := by
    rw [Int.one_mul, show (q : Int) + 1 - 1 = q by omega, Int.add_mul, Int.one_mul]; omega
  have b1 := barsL_eq ((q : Int) * q + q + 1) ((q : Int) + 1) 1 n (by omega) (by omega) (by omega) hn
  have b2 := barsL_fam ((q : Int) * q + q + 1) ((q : Int) + 1) 1 n (by omega) (by omega) (by omega) hn sf e1 nb
  rw [b2] at b1
  exact ⟨r, hr, b1, e2, b2⟩
theorem for_fb1 (n : Nat) (hn : 1000000000010 < n) (x0 x1 c2 c3 c4 c5 c6 c9 : C) : ∀ (L : List Nat), (∀ q ∈ L, 2 ≤ q ∧ q ≤ 30) → ∀ c7 c8 : C, isFree c7 = true → isFree c8 = true →
    ∃ c7' c8', isFree c7' = true ∧ isFree c8' = true ∧ forI (gN 7) (fb1_law n) (L.map dI) [x0, x1, c2, c3, c4, c5, c6, c7, c8, c9] = some (.nx [x0, x1, c2, c3, c4, c5, c6, c7', c8', c9])
  | [], _, c7, c8, f7, f8 => ⟨c7, c8, f7, f8, rfl⟩
  | q :: L, hL, c7, c8, f7, f8 => by
    obtain ⟨q1, q2⟩ := hL q (by simp)
    obtain ⟨r, hr, e1, e2, _⟩ := plane_of n hn q q1 q2
    have ok : okMul (q : Int) q = true := okMul_r (by omega)
    have nel := ne_bar (r := r) (by rcases hr with rfl | rfl <;> simp [noBar])
    obtain ⟨c7', c8', f7', f8', ih⟩ := for_fb1 n hn x0 x1 c2 c3 c4 c5 c6 c9 L (fun x hx => hL x (by simp [hx])) (.fz (.int q)) (.ob .ow (.lst (if isN r = true then [] else [r]))) rfl rfl
    refine ⟨c7', c8', f7', f8', ?_⟩
    have body : fb1_law n [x0, x1, c2, c3, c4, c5, c6, .fz (.int q), c8, c9] = some (.nx [x0, x1, c2, c3, c4, c5, c6, .fz (.int q), .ob .ow (.lst (if isN r = true then [] else [r])), c9]) := by
      rcases hr with rfl | rfl
      · simp at e1 nel
        simp [fb1_law, ok, e1, e2, f8, nel]
      · simp at e1 nel e2
        simp [fb1_law, ok, e1, e2, f8, nel]
    rw [List.map_cons, rs_forI_cons]
    have : gN 7 (dI q) [x0, x1, c2, c3, c4, c5, c6, c7, c8, c9] = some [x0, x1, c2, c3, c4, c5, c6, .fz (.int q), c8, c9] := by simp [f7, dI]
    rw [this, Option.bind_some, body, Option.bind_some]
    exact ih
theorem v_law (n : Nat) (ns : List Int) (hl : ns.length ≤ 63) (hn : (phi ⟨ns.map Int.natAbs, 0, 0, 97301 + 7 * ns.length, 0⟩ + 1) * (PP + 2) < n) (hn2 : 1000000000010 < n) : val (m_law n) [.frl (ns.map D.int)] = some (.fz (.bl true)) := by
  have eh := v_hand n ns hl
  generalize (⟨ns.map Int.natAbs, 0, 0, 97301 + 7 * ns.length, 0⟩ : Hand) = h0 at *
  generalize D.frl (ns.map D.int) = x0 at *
  obtain ⟨h1, e1, p1⟩ := lc_are n hn2 (.fz x0) .no .no .no .no .no .no .no (rangeD 0 12) h0
  have hn1 : (phi h1 + 1) * (PP + 2) < n := Nat.lt_of_le_of_lt (Nat.mul_le_mul_right _ (by omega)) hn
  obtain ⟨h2, c2, c3, c4, c5, c6, f2, f3, f4, f5, f6, p2, e2⟩ := for_fb2 n hn2 (.fz x0) .no .no .no (rangeD 0 8) h1 hn1 .no .no .no .no .no rfl rfl rfl rfl rfl
  have rl : rangeD 2 29 = ((List.range 29).map fun i => i + 2).map dI := by
    unfold rangeD
    rw [List.map_map]
    exact List.map_congr_left fun i _ => by simp [dI]; omega
  obtain ⟨c7, c8, f7, f8, e3⟩ := for_fb1 n hn2 (.fz x0) (.ob .ow (hd h2)) c2 c3 c4 c5 c6 .no ((List.range 29).map fun i => i + 2) (fun q hq => by
    obtain ⟨i, hi, rfl⟩ := List.mem_map.mp hq
    have := List.mem_range.mp hi
    omega) .no .no rfl rfl
  rw [← rl] at e3
  have v4 := v_drawI n h2 6 6 rfl (by decide) (by decide)
  have l4 := draw_lt h2 (m := 6) (by decide)
  generalize draw h2 6 = r4 at *
  obtain ⟨d, h3⟩ := r4
  simp only at v4 l4
  obtain ⟨q, hq⟩ : ∃ q, 2 + d = q := ⟨_, rfl⟩
  have eq : (2 : Int) + (d : Int) = (q : Int) := by omega
  obtain ⟨r, hr, _, e5, e6⟩ := plane_of n hn2 q (by omega) (by omega)
  have qq : (q : Int) * q ≤ 7 * 7 := Int.mul_le_mul (by omega) (by omega) (by omega) (by omega)
  have qq2 : (2 : Int) * q ≤ q * q := Int.mul_le_mul_of_nonneg_right (by omega) (by omega)
  have ok : okMul (q : Int) q = true := okMul_r (by omega)
  obtain ⟨w, hw⟩ : ∃ w : Int, (q : Int) * q = w := ⟨_, rfl⟩
  rw [hw] at e6 qq qq2
  obtain ⟨F, e7, e8⟩ := v_free n (w + q + 1) (by omega) hn2
  have e9 := in_pairs F ((q : Int) + 1) 1
  have e10 : decide (((q : Int) + 1, (1 : Int)) ∈ F) = isN r := by
    rw [Bool.eq_iff_iff, decide_eq_true_iff, e8, e6]
    cases hN : isN r
    · simp
    · simp; omega
  rw [e10] at e9
  have gt : ¬ (60 : Int) < w + q + 1 := by omega
  have rng : okRng 12 = true ∧ okRng 8 = true ∧ okRng 2 = true ∧ okRng 31 = true := ⟨rfl, rfl, rfl, rfl⟩
  have rl12 : (rangeD 0 12).length = 12 := by simp [rangeD]
  have cal : cAll [.lst ((rangeD 0 12).map fun _ => D.bl true)] = some (.fz (.bl true)) := by
    unfold cAll
    simp only [boolsOf_true]
    simp
  generalize isN r = b at *
  unfold m_law
  simp [eh, rng, mLc, notOb, wipeC, restC, e1, rl12, cal, e2, e3, v4, f2, f3, f7, f8, eq, ok, hw, gt, e7, e9, e5, rs_eqB]
end K33

set_option Elab.async false
set_option linter.all false
set_option maxRecDepth 100000
namespace K33
open PySem PySem.Spec L2 Sim
open PyProof.Rows hiding St
theorem v_law_some (ns : List Int) (h : ns.length ≤ 63) : ∃ n, val (m_law n) [.frl (ns.map D.int)] = some (.fz (.bl true)) :=
  ⟨(phi ⟨ns.map Int.natAbs, 0, 0, 97301 + 7 * ns.length, 0⟩ + 1) * (PP + 2) + 1000000000011, v_law _ ns h (by omega) (by omega)⟩
theorem fk__law_hand {K : PySem.W.Frag} {mg : Str → Option Value} {h : Heap} {f : Addr} {oc : Value} {od an : Option Addr} {osl : Array (Option Value)} {kV doc pm cdv ct : Value} (X : K.In h) (G : h.Ns mainGlobals mg)
    (a : PySem.W.nsIn K mainGlobals "_law_hand" = some (some (.ref f))) (l : K.lookup f = some ⟨oc, od, .func (PySem.W.fnOf "_law_hand" "_law_hand" (defArgs s__law_hand) (defBody s__law_hand) (defScope s__law_hand) .none kV doc pm an cdv ct), osl⟩)
    (c : PySem.W.codeIn K cdv "_law_hand" = true) (k : PySem.W.keepIn K (.ref f) = true) : Fac K mg "_law_hand" s__law_hand ["script"] :=
  fac_mk X G (fun _ _ _ _ _ _ us hl => match us, hl with | [_], _ => rfl) a l c k
theorem fk_is_integer {K : PySem.W.Frag} {mg : Str → Option Value} {h : Heap} {f : Addr} {oc : Value} {od an : Option Addr} {osl : Array (Option Value)} {kV doc pm cdv ct : Value} (X : K.In h) (G : h.Ns mainGlobals mg)
    (a : PySem.W.nsIn K mainGlobals "is_integer" = some (some (.ref f))) (l : K.lookup f = some ⟨oc, od, .func (PySem.W.fnOf "is_integer" "is_integer" (defArgs s_is_integer) (defBody s_is_integer) (defScope s_is_integer) .none kV doc pm an cdv ct), osl⟩)
    (c : PySem.W.codeIn K cdv "is_integer" = true) (k : PySem.W.keepIn K (.ref f) = true) : Fac K mg "is_integer" s_is_integer ["thing"] :=
  fac_mk X G (fun _ _ _ _ _ _ us hl => match us, hl with | [_], _ => rfl) a l c k
theorem fk_is_within {K : PySem.W.Frag} {mg : Str → Option Value} {h : Heap} {f : Addr} {oc : Value} {od an : Option Addr} {osl : Array (Option Value)} {kV doc pm cdv ct : Value} (X : K.In h) (G : h.Ns mainGlobals mg)
    (a : PySem.W.nsIn K mainGlobals "is_within" = some (some (.ref f))) (l : K.lookup f = some ⟨oc, od, .func (PySem.W.fnOf "is_within" "is_within" (defArgs s_is_within) (defBody s_is_within) (defScope s_is_within) .none kV doc pm an cdv ct), osl⟩)
    (c : PySem.W.codeIn K cdv "is_within" = true) (k : PySem.W.keepIn K (.ref f) = true) : Fac K mg "is_within" s_is_within ["thing", "least", "most"] :=
  fac_mk X G (fun _ _ _ _ _ _ us hl => match us, hl with | [_, _, _], _ => rfl) a l c k
theorem fk_check_numbers {K : PySem.W.Frag} {mg : Str → Option Value} {h : Heap} {f : Addr} {oc : Value} {od an : Option Addr} {osl : Array (Option Value)} {kV doc pm cdv ct : Value} (X : K.In h) (G : h.Ns mainGlobals mg)
    (a : PySem.W.nsIn K mainGlobals "check_numbers" = some (some (.ref f))) (l : K.lookup f = some ⟨oc, od, .func (PySem.W.fnOf "check_numbers" "check_numbers" (defArgs s_check_numbers) (defBody s_check_numbers) (defScope s_check_numbers) .none kV doc pm an cdv ct), osl⟩)
    (c : PySem.W.codeIn K cdv "check_numbers" = true) (k : PySem.W.keepIn K (.ref f) = true) : Fac K mg "check_numbers" s_check_numbers ["points", "size", "many", "told"] :=
  fac_mk X G (fun _ _ _ _ _ _ us hl => match us, hl with | [_, _, _, _], _ => rfl) a l c k
theorem fk_choose {K : PySem.W.Frag} {mg : Str → Option Value} {h : Heap} {f : Addr} {oc : Value} {od an : Option Addr} {osl : Array (Option Value)} {kV doc pm cdv ct : Value} (X : K.In h) (G : h.Ns mainGlobals mg)
    (a : PySem.W.nsIn K mainGlobals "choose" = some (some (.ref f))) (l : K.lookup f = some ⟨oc, od, .func (PySem.W.fnOf "choose" "choose" (defArgs s_choose) (defBody s_choose) (defScope s_choose) .none kV doc pm an cdv ct), osl⟩)
    (c : PySem.W.codeIn K cdv "choose" = true) (k : PySem.W.keepIn K (.ref f) = true) : Fac K mg "choose" s_choose ["many", "some"] :=
  fac_mk X G (fun _ _ _ _ _ _ us hl => match us, hl with | [_, _], _ => rfl) a l c k
theorem fk_shares_by {K : PySem.W.Frag} {mg : Str → Option Value} {h : Heap} {f : Addr} {oc : Value} {od an : Option Addr} {osl : Array (Option Value)} {kV doc pm cdv ct : Value} (X : K.In h) (G : h.Ns mainGlobals mg)
    (a : PySem.W.nsIn K mainGlobals "shares_by" = some (some (.ref f))) (l : K.lookup f = some ⟨oc, od, .func (PySem.W.fnOf "shares_by" "shares_by" (defArgs s_shares_by) (defBody s_shares_by) (defScope s_shares_by) .none kV doc pm an cdv ct), osl⟩)
    (c : PySem.W.codeIn K cdv "shares_by" = true) (k : PySem.W.keepIn K (.ref f) = true) : Fac K mg "shares_by" s_shares_by ["points", "size", "many", "told"] :=
  fac_mk X G (fun _ _ _ _ _ _ us hl => match us, hl with | [_, _, _, _], _ => rfl) a l c k
theorem fk_is_square_family {K : PySem.W.Frag} {mg : Str → Option Value} {h : Heap} {f : Addr} {oc : Value} {od an : Option Addr} {osl : Array (Option Value)} {kV doc pm cdv ct : Value} (X : K.In h) (G : h.Ns mainGlobals mg)
    (a : PySem.W.nsIn K mainGlobals "is_square_family" = some (some (.ref f))) (l : K.lookup f = some ⟨oc, od, .func (PySem.W.fnOf "is_square_family" "is_square_family" (defArgs s_is_square_family) (defBody s_is_square_family) (defScope s_is_square_family) .none kV doc pm an cdv ct), osl⟩)
    (c : PySem.W.codeIn K cdv "is_square_family" = true) (k : PySem.W.keepIn K (.ref f) = true) : Fac K mg "is_square_family" s_is_square_family ["points", "size", "many"] :=
  fac_mk X G (fun _ _ _ _ _ _ us hl => match us, hl with | [_, _, _], _ => rfl) a l c k
theorem fk_shared {K : PySem.W.Frag} {mg : Str → Option Value} {h : Heap} {f : Addr} {oc : Value} {od an : Option Addr} {osl : Array (Option Value)} {kV doc pm cdv ct : Value} (X : K.In h) (G : h.Ns mainGlobals mg)
    (a : PySem.W.nsIn K mainGlobals "shared" = some (some (.ref f))) (l : K.lookup f = some ⟨oc, od, .func (PySem.W.fnOf "shared" "shared" (defArgs s_shared) (defBody s_shared) (defScope s_shared) .none kV doc pm an cdv ct), osl⟩)
    (c : PySem.W.codeIn K cdv "shared" = true) (k : PySem.W.keepIn K (.ref f) = true) : Fac K mg "shared" s_shared ["one", "other"] :=
  fac_mk X G (fun _ _ _ _ _ _ us hl => match us, hl with | [_, _], _ => rfl) a l c k
theorem fk_square_free {K : PySem.W.Frag} {mg : Str → Option Value} {h : Heap} {f : Addr} {oc : Value} {od an : Option Addr} {osl : Array (Option Value)} {kV doc pm cdv ct : Value} (X : K.In h) (G : h.Ns mainGlobals mg)
    (a : PySem.W.nsIn K mainGlobals "square_free" = some (some (.ref f))) (l : K.lookup f = some ⟨oc, od, .func (PySem.W.fnOf "square_free" "square_free" (defArgs s_square_free) (defBody s_square_free) (defScope s_square_free) .none kV doc pm an cdv ct), osl⟩)
    (c : PySem.W.codeIn K cdv "square_free" = true) (k : PySem.W.keepIn K (.ref f) = true) : Fac K mg "square_free" s_square_free ["number"] :=
  fac_mk X G (fun _ _ _ _ _ _ us hl => match us, hl with | [_], _ => rfl) a l c k
theorem fk_is_rest_square {K : PySem.W.Frag} {mg : Str → Option Value} {h : Heap} {f : Addr} {oc : Value} {od an : Option Addr} {osl : Array (Option Value)} {kV doc pm cdv ct : Value} (X : K.In h) (G : h.Ns mainGlobals mg)
    (a : PySem.W.nsIn K mainGlobals "is_rest_square" = some (some (.ref f))) (l : K.lookup f = some ⟨oc, od, .func (PySem.W.fnOf "is_rest_square" "is_rest_square" (defArgs s_is_rest_square) (defBody s_is_rest_square) (defScope s_is_rest_square) .none kV doc pm an cdv ct), osl⟩)
    (c : PySem.W.codeIn K cdv "is_rest_square" = true) (k : PySem.W.keepIn K (.ref f) = true) : Fac K mg "is_rest_square" s_is_rest_square ["number", "p"] :=
  fac_mk X G (fun _ _ _ _ _ _ us hl => match us, hl with | [_, _], _ => rfl) a l c k
theorem fk_primes_of {K : PySem.W.Frag} {mg : Str → Option Value} {h : Heap} {f : Addr} {oc : Value} {od an : Option Addr} {osl : Array (Option Value)} {kV doc pm cdv ct : Value} (X : K.In h) (G : h.Ns mainGlobals mg)
    (a : PySem.W.nsIn K mainGlobals "primes_of" = some (some (.ref f))) (l : K.lookup f = some ⟨oc, od, .func (PySem.W.fnOf "primes_of" "primes_of" (defArgs s_primes_of) (defBody s_primes_of) (defScope s_primes_of) .none kV doc pm an cdv ct), osl⟩)
    (c : PySem.W.codeIn K cdv "primes_of" = true) (k : PySem.W.keepIn K (.ref f) = true) : Fac K mg "primes_of" s_primes_of ["number"] :=
  fac_mk X G (fun _ _ _ _ _ _ us hl => match us, hl with | [_], _ => rfl) a l c k
theorem fk_is_rest_of_all {K : PySem.W.Frag} {mg : Str → Option Value} {h : Heap} {f : Addr} {oc : Value} {od an : Option Addr} {osl : Array (Option Value)} {kV doc pm cdv ct : Value} (X : K.In h) (G : h.Ns mainGlobals mg)
    (a : PySem.W.nsIn K mainGlobals "is_rest_of_all" = some (some (.ref f))) (l : K.lookup f = some ⟨oc, od, .func (PySem.W.fnOf "is_rest_of_all" "is_rest_of_all" (defArgs s_is_rest_of_all) (defBody s_is_rest_of_all) (defScope s_is_rest_of_all) .none kV doc pm an cdv ct), osl⟩)
    (c : PySem.W.codeIn K cdv "is_rest_of_all" = true) (k : PySem.W.keepIn K (.ref f) = true) : Fac K mg "is_rest_of_all" s_is_rest_of_all ["one", "other"] :=
  fac_mk X G (fun _ _ _ _ _ _ us hl => match us, hl with | [_, _], _ => rfl) a l c k
theorem fk_sums_to_nought {K : PySem.W.Frag} {mg : Str → Option Value} {h : Heap} {f : Addr} {oc : Value} {od an : Option Addr} {osl : Array (Option Value)} {kV doc pm cdv ct : Value} (X : K.In h) (G : h.Ns mainGlobals mg)
    (a : PySem.W.nsIn K mainGlobals "sums_to_nought" = some (some (.ref f))) (l : K.lookup f = some ⟨oc, od, .func (PySem.W.fnOf "sums_to_nought" "sums_to_nought" (defArgs s_sums_to_nought) (defBody s_sums_to_nought) (defScope s_sums_to_nought) .none kV doc pm an cdv ct), osl⟩)
    (c : PySem.W.codeIn K cdv "sums_to_nought" = true) (k : PySem.W.keepIn K (.ref f) = true) : Fac K mg "sums_to_nought" s_sums_to_nought ["a", "b"] :=
  fac_mk X G (fun _ _ _ _ _ _ us hl => match us, hl with | [_, _], _ => rfl) a l c k
theorem fk_root_of {K : PySem.W.Frag} {mg : Str → Option Value} {h : Heap} {f : Addr} {oc : Value} {od an : Option Addr} {osl : Array (Option Value)} {kV doc pm cdv ct : Value} (X : K.In h) (G : h.Ns mainGlobals mg)
    (a : PySem.W.nsIn K mainGlobals "root_of" = some (some (.ref f))) (l : K.lookup f = some ⟨oc, od, .func (PySem.W.fnOf "root_of" "root_of" (defArgs s_root_of) (defBody s_root_of) (defScope s_root_of) .none kV doc pm an cdv ct), osl⟩)
    (c : PySem.W.codeIn K cdv "root_of" = true) (k : PySem.W.keepIn K (.ref f) = true) : Fac K mg "root_of" s_root_of ["number"] :=
  fac_mk X G (fun _ _ _ _ _ _ us hl => match us, hl with | [_], _ => rfl) a l c k
theorem fk_is_square {K : PySem.W.Frag} {mg : Str → Option Value} {h : Heap} {f : Addr} {oc : Value} {od an : Option Addr} {osl : Array (Option Value)} {kV doc pm cdv ct : Value} (X : K.In h) (G : h.Ns mainGlobals mg)
    (a : PySem.W.nsIn K mainGlobals "is_square" = some (some (.ref f))) (l : K.lookup f = some ⟨oc, od, .func (PySem.W.fnOf "is_square" "is_square" (defArgs s_is_square) (defBody s_is_square) (defScope s_is_square) .none kV doc pm an cdv ct), osl⟩)
    (c : PySem.W.codeIn K cdv "is_square" = true) (k : PySem.W.keepIn K (.ref f) = true) : Fac K mg "is_square" s_is_square ["number"] :=
  fac_mk X G (fun _ _ _ _ _ _ us hl => match us, hl with | [_], _ => rfl) a l c k
theorem fk_square_bar {K : PySem.W.Frag} {mg : Str → Option Value} {h : Heap} {f : Addr} {oc : Value} {od an : Option Addr} {osl : Array (Option Value)} {kV doc pm cdv ct : Value} (X : K.In h) (G : h.Ns mainGlobals mg)
    (a : PySem.W.nsIn K mainGlobals "square_bar" = some (some (.ref f))) (l : K.lookup f = some ⟨oc, od, .func (PySem.W.fnOf "square_bar" "square_bar" (defArgs s_square_bar) (defBody s_square_bar) (defScope s_square_bar) .none kV doc pm an cdv ct), osl⟩)
    (c : PySem.W.codeIn K cdv "square_bar" = true) (k : PySem.W.keepIn K (.ref f) = true) : Fac K mg "square_bar" s_square_bar ["points", "size", "many"] :=
  fac_mk X G (fun _ _ _ _ _ _ us hl => match us, hl with | [_, _, _], _ => rfl) a l c k
theorem fk_bars {K : PySem.W.Frag} {mg : Str → Option Value} {h : Heap} {f : Addr} {oc : Value} {od an : Option Addr} {osl : Array (Option Value)} {kV doc pm cdv ct : Value} (X : K.In h) (G : h.Ns mainGlobals mg)
    (a : PySem.W.nsIn K mainGlobals "bars" = some (some (.ref f))) (l : K.lookup f = some ⟨oc, od, .func (PySem.W.fnOf "bars" "bars" (defArgs s_bars) (defBody s_bars) (defScope s_bars) .none kV doc pm an cdv ct), osl⟩)
    (c : PySem.W.codeIn K cdv "bars" = true) (k : PySem.W.keepIn K (.ref f) = true) : Fac K mg "bars" s_bars ["points", "size", "many", "told"] :=
  fac_mk X G (fun _ _ _ _ _ _ us hl => match us, hl with | [_, _, _, _], _ => rfl) a l c k
theorem fk_free_numbers {K : PySem.W.Frag} {mg : Str → Option Value} {h : Heap} {f : Addr} {oc : Value} {od an : Option Addr} {osl : Array (Option Value)} {kV doc pm cdv ct : Value} (X : K.In h) (G : h.Ns mainGlobals mg)
    (a : PySem.W.nsIn K mainGlobals "free_numbers" = some (some (.ref f))) (l : K.lookup f = some ⟨oc, od, .func (PySem.W.fnOf "free_numbers" "free_numbers" (defArgs s_free_numbers) (defBody s_free_numbers) (defScope s_free_numbers) .none kV doc pm an cdv ct), osl⟩)
    (c : PySem.W.codeIn K cdv "free_numbers" = true) (k : PySem.W.keepIn K (.ref f) = true) : Fac K mg "free_numbers" s_free_numbers ["points", "told"] :=
  fac_mk X G (fun _ _ _ _ _ _ us hl => match us, hl with | [_, _], _ => rfl) a l c k
theorem fk__law_draw {K : PySem.W.Frag} {mg : Str → Option Value} {h : Heap} {f : Addr} {oc : Value} {od an : Option Addr} {osl : Array (Option Value)} {kV doc pm cdv ct : Value} (X : K.In h) (G : h.Ns mainGlobals mg)
    (a : PySem.W.nsIn K mainGlobals "_law_draw" = some (some (.ref f))) (l : K.lookup f = some ⟨oc, od, .func (PySem.W.fnOf "_law_draw" "_law_draw" (defArgs s__law_draw) (defBody s__law_draw) (defScope s__law_draw) .none kV doc pm an cdv ct), osl⟩)
    (c : PySem.W.codeIn K cdv "_law_draw" = true) (k : PySem.W.keepIn K (.ref f) = true) : Fac K mg "_law_draw" s__law_draw ["hand", "many"] :=
  fac_mk X G (fun _ _ _ _ _ _ us hl => match us, hl with | [_, _], _ => rfl) a l c k
theorem fk__law_squares {K : PySem.W.Frag} {mg : Str → Option Value} {h : Heap} {f : Addr} {oc : Value} {od an : Option Addr} {osl : Array (Option Value)} {kV doc pm cdv ct : Value} (X : K.In h) (G : h.Ns mainGlobals mg)
    (a : PySem.W.nsIn K mainGlobals "_law_squares" = some (some (.ref f))) (l : K.lookup f = some ⟨oc, od, .func (PySem.W.fnOf "_law_squares" "_law_squares" (defArgs s__law_squares) (defBody s__law_squares) (defScope s__law_squares) .none kV doc pm an cdv ct), osl⟩)
    (c : PySem.W.codeIn K cdv "_law_squares" = true) (k : PySem.W.keepIn K (.ref f) = true) : Fac K mg "_law_squares" s__law_squares ["hand"] :=
  fac_mk X G (fun _ _ _ _ _ _ us hl => match us, hl with | [_], _ => rfl) a l c k
theorem fk__law_parts {K : PySem.W.Frag} {mg : Str → Option Value} {h : Heap} {f : Addr} {oc : Value} {od an : Option Addr} {osl : Array (Option Value)} {kV doc pm cdv ct : Value} (X : K.In h) (G : h.Ns mainGlobals mg)
    (a : PySem.W.nsIn K mainGlobals "_law_parts" = some (some (.ref f))) (l : K.lookup f = some ⟨oc, od, .func (PySem.W.fnOf "_law_parts" "_law_parts" (defArgs s__law_parts) (defBody s__law_parts) (defScope s__law_parts) .none kV doc pm an cdv ct), osl⟩)
    (c : PySem.W.codeIn K cdv "_law_parts" = true) (k : PySem.W.keepIn K (.ref f) = true) : Fac K mg "_law_parts" s__law_parts ["number"] :=
  fac_mk X G (fun _ _ _ _ _ _ us hl => match us, hl with | [_], _ => rfl) a l c k
theorem fk__law_bare {K : PySem.W.Frag} {mg : Str → Option Value} {h : Heap} {f : Addr} {oc : Value} {od an : Option Addr} {osl : Array (Option Value)} {kV doc pm cdv ct : Value} (X : K.In h) (G : h.Ns mainGlobals mg)
    (a : PySem.W.nsIn K mainGlobals "_law_bare" = some (some (.ref f))) (l : K.lookup f = some ⟨oc, od, .func (PySem.W.fnOf "_law_bare" "_law_bare" (defArgs s__law_bare) (defBody s__law_bare) (defScope s__law_bare) .none kV doc pm an cdv ct), osl⟩)
    (c : PySem.W.codeIn K cdv "_law_bare" = true) (k : PySem.W.keepIn K (.ref f) = true) : Fac K mg "_law_bare" s__law_bare ["number"] :=
  fac_mk X G (fun _ _ _ _ _ _ us hl => match us, hl with | [_], _ => rfl) a l c k
theorem fk__law_is_rest {K : PySem.W.Frag} {mg : Str → Option Value} {h : Heap} {f : Addr} {oc : Value} {od an : Option Addr} {osl : Array (Option Value)} {kV doc pm cdv ct : Value} (X : K.In h) (G : h.Ns mainGlobals mg)
    (a : PySem.W.nsIn K mainGlobals "_law_is_rest" = some (some (.ref f))) (l : K.lookup f = some ⟨oc, od, .func (PySem.W.fnOf "_law_is_rest" "_law_is_rest" (defArgs s__law_is_rest) (defBody s__law_is_rest) (defScope s__law_is_rest) .none kV doc pm an cdv ct), osl⟩)
    (c : PySem.W.codeIn K cdv "_law_is_rest" = true) (k : PySem.W.keepIn K (.ref f) = true) : Fac K mg "_law_is_rest" s__law_is_rest ["number", "prime"] :=
  fac_mk X G (fun _ _ _ _ _ _ us hl => match us, hl with | [_, _], _ => rfl) a l c k
theorem fk__law_sums {K : PySem.W.Frag} {mg : Str → Option Value} {h : Heap} {f : Addr} {oc : Value} {od an : Option Addr} {osl : Array (Option Value)} {kV doc pm cdv ct : Value} (X : K.In h) (G : h.Ns mainGlobals mg)
    (a : PySem.W.nsIn K mainGlobals "_law_sums" = some (some (.ref f))) (l : K.lookup f = some ⟨oc, od, .func (PySem.W.fnOf "_law_sums" "_law_sums" (defArgs s__law_sums) (defBody s__law_sums) (defScope s__law_sums) .none kV doc pm an cdv ct), osl⟩)
    (c : PySem.W.codeIn K cdv "_law_sums" = true) (k : PySem.W.keepIn K (.ref f) = true) : Fac K mg "_law_sums" s__law_sums ["a", "b"] :=
  fac_mk X G (fun _ _ _ _ _ _ us hl => match us, hl with | [_, _], _ => rfl) a l c k
theorem fk__law_root {K : PySem.W.Frag} {mg : Str → Option Value} {h : Heap} {f : Addr} {oc : Value} {od an : Option Addr} {osl : Array (Option Value)} {kV doc pm cdv ct : Value} (X : K.In h) (G : h.Ns mainGlobals mg)
    (a : PySem.W.nsIn K mainGlobals "_law_root" = some (some (.ref f))) (l : K.lookup f = some ⟨oc, od, .func (PySem.W.fnOf "_law_root" "_law_root" (defArgs s__law_root) (defBody s__law_root) (defScope s__law_root) .none kV doc pm an cdv ct), osl⟩)
    (c : PySem.W.codeIn K cdv "_law_root" = true) (k : PySem.W.keepIn K (.ref f) = true) : Fac K mg "_law_root" s__law_root ["number"] :=
  fac_mk X G (fun _ _ _ _ _ _ us hl => match us, hl with | [_], _ => rfl) a l c k
theorem fk__law_is_square {K : PySem.W.Frag} {mg : Str → Option Value} {h : Heap} {f : Addr} {oc : Value} {od an : Option Addr} {osl : Array (Option Value)} {kV doc pm cdv ct : Value} (X : K.In h) (G : h.Ns mainGlobals mg)
    (a : PySem.W.nsIn K mainGlobals "_law_is_square" = some (some (.ref f))) (l : K.lookup f = some ⟨oc, od, .func (PySem.W.fnOf "_law_is_square" "_law_is_square" (defArgs s__law_is_square) (defBody s__law_is_square) (defScope s__law_is_square) .none kV doc pm an cdv ct), osl⟩)
    (c : PySem.W.codeIn K cdv "_law_is_square" = true) (k : PySem.W.keepIn K (.ref f) = true) : Fac K mg "_law_is_square" s__law_is_square ["number"] :=
  fac_mk X G (fun _ _ _ _ _ _ us hl => match us, hl with | [_], _ => rfl) a l c k
theorem fk__law_bar {K : PySem.W.Frag} {mg : Str → Option Value} {h : Heap} {f : Addr} {oc : Value} {od an : Option Addr} {osl : Array (Option Value)} {kV doc pm cdv ct : Value} (X : K.In h) (G : h.Ns mainGlobals mg)
    (a : PySem.W.nsIn K mainGlobals "_law_bar" = some (some (.ref f))) (l : K.lookup f = some ⟨oc, od, .func (PySem.W.fnOf "_law_bar" "_law_bar" (defArgs s__law_bar) (defBody s__law_bar) (defScope s__law_bar) .none kV doc pm an cdv ct), osl⟩)
    (c : PySem.W.codeIn K cdv "_law_bar" = true) (k : PySem.W.keepIn K (.ref f) = true) : Fac K mg "_law_bar" s__law_bar ["points", "size", "many"] :=
  fac_mk X G (fun _ _ _ _ _ _ us hl => match us, hl with | [_, _, _], _ => rfl) a l c k
theorem fk__law_is_plane_free {K : PySem.W.Frag} {mg : Str → Option Value} {h : Heap} {f : Addr} {oc : Value} {od an : Option Addr} {osl : Array (Option Value)} {kV doc pm cdv ct : Value} (X : K.In h) (G : h.Ns mainGlobals mg)
    (a : PySem.W.nsIn K mainGlobals "_law_is_plane_free" = some (some (.ref f))) (l : K.lookup f = some ⟨oc, od, .func (PySem.W.fnOf "_law_is_plane_free" "_law_is_plane_free" (defArgs s__law_is_plane_free) (defBody s__law_is_plane_free) (defScope s__law_is_plane_free) .none kV doc pm an cdv ct), osl⟩)
    (c : PySem.W.codeIn K cdv "_law_is_plane_free" = true) (k : PySem.W.keepIn K (.ref f) = true) : Fac K mg "_law_is_plane_free" s__law_is_plane_free ["order"] :=
  fac_mk X G (fun _ _ _ _ _ _ us hl => match us, hl with | [_], _ => rfl) a l c k
theorem fk__law_together {K : PySem.W.Frag} {mg : Str → Option Value} {h : Heap} {f : Addr} {oc : Value} {od an : Option Addr} {osl : Array (Option Value)} {kV doc pm cdv ct : Value} (X : K.In h) (G : h.Ns mainGlobals mg)
    (a : PySem.W.nsIn K mainGlobals "_law_together" = some (some (.ref f))) (l : K.lookup f = some ⟨oc, od, .func (PySem.W.fnOf "_law_together" "_law_together" (defArgs s__law_together) (defBody s__law_together) (defScope s__law_together) .none kV doc pm an cdv ct), osl⟩)
    (c : PySem.W.codeIn K cdv "_law_together" = true) (k : PySem.W.keepIn K (.ref f) = true) : Fac K mg "_law_together" s__law_together ["one", "other"] :=
  fac_mk X G (fun _ _ _ _ _ _ us hl => match us, hl with | [_, _], _ => rfl) a l c k
theorem fk__law_any {K : PySem.W.Frag} {mg : Str → Option Value} {h : Heap} {f : Addr} {oc : Value} {od an : Option Addr} {osl : Array (Option Value)} {kV doc pm cdv ct : Value} (X : K.In h) (G : h.Ns mainGlobals mg)
    (a : PySem.W.nsIn K mainGlobals "_law_any" = some (some (.ref f))) (l : K.lookup f = some ⟨oc, od, .func (PySem.W.fnOf "_law_any" "_law_any" (defArgs s__law_any) (defBody s__law_any) (defScope s__law_any) .none kV doc pm an cdv ct), osl⟩)
    (c : PySem.W.codeIn K cdv "_law_any" = true) (k : PySem.W.keepIn K (.ref f) = true) : Fac K mg "_law_any" s__law_any ["hand", "some"] :=
  fac_mk X G (fun _ _ _ _ _ _ us hl => match us, hl with | [_, _], _ => rfl) a l c k
theorem fk__law_integer {K : PySem.W.Frag} {mg : Str → Option Value} {h : Heap} {f : Addr} {oc : Value} {od an : Option Addr} {osl : Array (Option Value)} {kV doc pm cdv ct : Value} (X : K.In h) (G : h.Ns mainGlobals mg)
    (a : PySem.W.nsIn K mainGlobals "_law_integer" = some (some (.ref f))) (l : K.lookup f = some ⟨oc, od, .func (PySem.W.fnOf "_law_integer" "_law_integer" (defArgs s__law_integer) (defBody s__law_integer) (defScope s__law_integer) .none kV doc pm an cdv ct), osl⟩)
    (c : PySem.W.codeIn K cdv "_law_integer" = true) (k : PySem.W.keepIn K (.ref f) = true) : Fac K mg "_law_integer" s__law_integer ["hand"] :=
  fac_mk X G (fun _ _ _ _ _ _ us hl => match us, hl with | [_], _ => rfl) a l c k
theorem fk_has_sums {K : PySem.W.Frag} {mg : Str → Option Value} {h : Heap} {f : Addr} {oc : Value} {od an : Option Addr} {osl : Array (Option Value)} {kV doc pm cdv ct : Value} (X : K.In h) (G : h.Ns mainGlobals mg)
    (a : PySem.W.nsIn K mainGlobals "has_sums" = some (some (.ref f))) (l : K.lookup f = some ⟨oc, od, .func (PySem.W.fnOf "has_sums" "has_sums" (defArgs s_has_sums) (defBody s_has_sums) (defScope s_has_sums) .none kV doc pm an cdv ct), osl⟩)
    (c : PySem.W.codeIn K cdv "has_sums" = true) (k : PySem.W.keepIn K (.ref f) = true) : Fac K mg "has_sums" s_has_sums ["a", "b"] :=
  fac_mk X G (fun _ _ _ _ _ _ us hl => match us, hl with | [_, _], _ => rfl) a l c k
theorem fk__law_are_sums_right {K : PySem.W.Frag} {mg : Str → Option Value} {h : Heap} {f : Addr} {oc : Value} {od an : Option Addr} {osl : Array (Option Value)} {kV doc pm cdv ct : Value} (X : K.In h) (G : h.Ns mainGlobals mg)
    (a : PySem.W.nsIn K mainGlobals "_law_are_sums_right" = some (some (.ref f))) (l : K.lookup f = some ⟨oc, od, .func (PySem.W.fnOf "_law_are_sums_right" "_law_are_sums_right" (defArgs s__law_are_sums_right) (defBody s__law_are_sums_right) (defScope s__law_are_sums_right) .none kV doc pm an cdv ct), osl⟩)
    (c : PySem.W.codeIn K cdv "_law_are_sums_right" = true) (k : PySem.W.keepIn K (.ref f) = true) : Fac K mg "_law_are_sums_right" s__law_are_sums_right ["hand"] :=
  fac_mk X G (fun _ _ _ _ _ _ us hl => match us, hl with | [_], _ => rfl) a l c k
section
variable {P : Program} {w : World} {Kf : PySem.W.Frag} {mg : Str → Option Value} {base : Heap} {cl : Str → Option Addr}
theorem r_law (n : Nat) (bl : Bl mg) {f_ : Addr} {fd_ : FuncData} (Fn : Fun Kf "law" "law" s_law f_ fd_) (k__law_hand : Known P w Kf mg base ⟨Kf, cl⟩ "_law_hand" 1 (m__law_hand n)) (k_is_square_family : Known P w Kf mg base ⟨Kf, cl⟩ "is_square_family" 4 (m_is_square_family n)) (k_square_bar : Known P w Kf mg base ⟨Kf, cl⟩ "square_bar" 5 (m_square_bar n)) (k_bars : Known P w Kf mg base ⟨Kf, cl⟩ "bars" 6 (m_bars n)) (k_free_numbers : Known P w Kf mg base ⟨Kf, cl⟩ "free_numbers" 7 (m_free_numbers n)) (k__law_draw : Known P w Kf mg base ⟨Kf, cl⟩ "_law_draw" 1 (m__law_draw n)) (k__law_squares : Known P w Kf mg base ⟨Kf, cl⟩ "_law_squares" 2 (m__law_squares n)) (k__law_bar : Known P w Kf mg base ⟨Kf, cl⟩ "_law_bar" 4 (m__law_bar n)) (k__law_is_plane_free : Known P w Kf mg base ⟨Kf, cl⟩ "_law_is_plane_free" 3 (m__law_is_plane_free n)) (k__law_are_sums_right : Known P w Kf mg base ⟨Kf, cl⟩ "_law_are_sums_right" 5 (m__law_are_sums_right n)) : FnOk P w Kf mg base CX0 8 f_ fd_ ["script"] (spF ⟨Kf, cl⟩ (m_law n)) :=
  fn_ok Fn sc_law rfl rfl fun cdv_ A_ outer_ s_ H_ E_ hr => by
    have nd := sc_law.nd
    exact (S.cons (S.set (i := 1) nd rfl (.inr rfl) (K.call k__law_hand hr (by decide) (by rfl) (AF.cons (E.var (pv 0)) AF.nil)))
    (S.cons (S.ite (T.not (T.val (E.callB (cr_all rfl) sc_all (by rfl) bl.b_all (by decide +kernel) (A.cons (L.ev (E.lc (own := [("lap", 2)]) rfl nd  (I.range1 (by rfl) bl.b_range (AF.cons E.int AF.nil)) (blkOk_by (N := ["script", "hand", "lap", "points", "size", "many", "due", "order", "told", "pairs"]) (sc := defScope s_law) (by decide +kernel)) (fun _ _ _ _ _ => (G.name (i := 2) nd rfl (.inl rfl))) (fun _ _ _ _ _ => TS.nil) (fun _ _ _ _ _ => (K.callM k__law_are_sums_right hr (by decide) (by rfl) (pv 1) AF.nil)))) A.nil)))) (S.one (S.ret E.bl)) S.nil)
    (S.cons (S.for PassesOwn.never rfl (I.range1 (by rfl) bl.b_range (AF.cons E.int AF.nil)) (G.name (i := 2) nd rfl (.inl rfl)) (S.cons (S.asg (K.callM k__law_squares hr (by decide) (by rfl) (pv 1) AF.nil) (G.tup rfl rfl (G.cons (G.name (i := 3) nd rfl (.inl rfl)) (G.cons (G.name (i := 4) nd rfl (.inl rfl)) (G.cons (G.name (i := 5) nd rfl (.inl rfl)) G.nil)))))
    (S.cons (S.ite (T.cmp op_notBl so_notB (L.ev (K.callL k_is_square_family hr (by decide) (by rfl) (A.cons (L.sl (pv 3)) (A.cons (L.sl (pv 4)) (A.cons (L.sl (pv 5)) A.nil))))) (L.ev E.bl) (nomark _)) (S.one (S.ret E.bl)) S.nil)
    (S.cons (S.set (i := 6) nd rfl (.inl rfl) (K.callL k__law_bar hr (by decide) (by rfl) (A.cons (L.sl (pv 3)) (A.cons (L.sl (pv 4)) (A.cons (L.sl (pv 5)) A.nil)))))
    (S.cons (S.ite (T.cmp (op_neD hr.units) so_ne (L.ev (E.callB call_repr sc_repr (by rfl) bl.b_repr (by decide +kernel) (A.cons (L.ev (K.callL k_square_bar hr (by decide) (by rfl) (A.cons (L.sl (pv 3)) (A.cons (L.sl (pv 4)) (A.cons (L.sl (pv 5)) A.nil))))) A.nil))) (L.ev (E.callB call_repr sc_repr (by rfl) bl.b_repr (by decide +kernel) (A.cons (L.sl (pv 6)) A.nil))) (nomark _)) (S.one (S.ret E.bl)) S.nil)
    (S.one (S.ite (PW.pt (T.and (T.cmp op_lt so_lt (L.sl (pv 4)) (L.sl (pv 3)) (nomark _)) (T.and1 (T.cmp (op_neD hr.units) so_ne (L.ev (K.call k_bars hr (by decide) (by rfl) (AF.cons (E.var (pv 3)) (AF.cons (E.var (pv 4)) (AF.cons (E.var (pv 5)) (AF.cons E.int AF.nil)))))) (L.ev (E.ite (T.cmp op_isN so_isN (L.sl (pv 6)) (L.ev E.non) (nomark _)) (E.lst AF.nil) (E.lst (AF.cons (E.var (pv 6)) AF.nil)))) (nomark _))))) (S.one (S.ret E.bl)) S.nil)))))))
    (S.cons (S.for PassesOwn.never rfl (I.range2 (by rfl) bl.b_range (AF.cons E.int (AF.cons E.int AF.nil))) (G.name (i := 7) nd rfl (.inl rfl)) (S.cons (S.set (i := 8) nd rfl (.inl rfl) (K.call k_bars hr (by decide) (by rfl) (AF.cons (E.bin op_plus so_plus (L.ev (E.bin op_plus so_plus (L.ev (E.bin op_mul so_mul (L.sl (pv 7)) (L.sl (pv 7)))) (L.sl (pv 7)))) (L.ev E.int)) (AF.cons (E.bin op_plus so_plus (L.sl (pv 7)) (L.ev E.int)) (AF.cons E.int (AF.cons E.int AF.nil))))))
    (S.one (S.ite (T.cmp (op_neD hr.units) so_ne (L.sl (pv 8)) (L.ev (E.ite (T.val (K.callL k__law_is_plane_free hr (by decide) (by rfl) (A.cons (L.sl (pv 7)) A.nil))) (E.lst AF.nil) (E.lst (AF.cons E.str AF.nil)))) (nomark _)) (S.one (S.ret E.bl)) S.nil))))
    (S.cons (S.set (i := 7) nd rfl (.inl rfl) (E.bin op_plus so_plus (L.ev E.int) (L.ev (K.callM k__law_draw hr (by decide) (by rfl) (pv 1) (AF.cons E.int AF.nil)))))
    (S.cons (S.set (i := 3) nd rfl (.inl rfl) (E.bin op_plus so_plus (L.ev (E.bin op_plus so_plus (L.ev (E.bin op_mul so_mul (L.sl (pv 7)) (L.sl (pv 7)))) (L.sl (pv 7)))) (L.ev E.int)))
    (S.cons (S.ite (T.cmp op_gt so_gt (L.sl (pv 3)) (L.ev E.int) (nomark _)) (S.one (S.ret E.bl)) S.nil)
    (S.cons (S.set (i := 9) nd rfl (.inl rfl) (K.call k_free_numbers hr (by decide) (by rfl) (AF.cons (E.var (pv 3)) (AF.cons E.int AF.nil))))
    (S.one (S.ret (E.cmp (op_eqD hr.units) so_eq (L.ev (E.cmp (op_in (hu65 hr)) so_in (L.ev (E.tup (AF.cons (E.bin op_plus so_plus (L.sl (pv 7)) (L.ev E.int)) (AF.cons E.int AF.nil)))) (L.sl (pv 9)) rfl)) (L.ev (K.callL k__law_is_plane_free hr (by decide) (by rfl) (A.cons (L.sl (pv 7)) A.nil))) (nomark _))))))))))))
end
def spLaw (K : PySem.W.Frag) : Sp := fun vs H Q _ => ∃ (a : Addr) (ns : List Int), vs = [.ref a] ∧ SqL K H a (ns.map V.int) ∧ ns.length ≤ 63 ∧ ∀ H', Q (.bl true) H'
theorem sr_one {K : PySem.W.Frag} {cl : Str → Option Addr} {H : Hp} {a : Addr} {ns : List Int} (h : SqL K H a (ns.map V.int)) : SR ⟨K, cl⟩ [.fz (.frl (ns.map D.int))] [some (.ref a)] H H := by
  refine ⟨rfl, fun _ _ z => z, fun i d z => ?_, fun i m d z => ?_, fun i j m d m' d' z => ?_⟩
  · match i, z with
    | 0, z => cases z; exact ⟨.ref a, rfl, a, _, rfl, h, reps_ints ns⟩
    | i + 1, z => simp at z
  · match i, z with
    | 0, z => cases z
    | i + 1, z => simp at z
  · match i, z with
    | 0, z => cases z
    | i + 1, z => simp at z
theorem sp_law {K : PySem.W.Frag} {cl : Str → Option Addr} {vs : List V} {H : Hp} {Q : VK} {E : XK} {a : Addr} {ns : List Int} {n : Nat} (hv : vs = [.ref a]) (hs : SqL K H a (ns.map V.int)) (q : ∀ H', Q (.bl true) H')
    (hm : val (m_law n) [.frl (ns.map D.int)] = some (.fz (.bl true))) : spF ⟨K, cl⟩ (m_law n) vs H Q E := by
  subst hv
  unfold val at hm
  obtain ⟨⟨c, σ'⟩, h1, h2⟩ := Option.map_eq_some_iff.mp hm
  cases h2
  refine ⟨H, [.fz (.frl (ns.map D.int))], .fz (.bl true), σ', sr_one hs, h1, fun v σ2 F2 H2 _ _ r => ?_⟩
  cases (show v = .bl true from r)
  exact q _
theorem law_mk {l : PySem.W.OpenLaw} {w : World} {K : PySem.W.Frag} {h : Heap} {mg : Str → Option Value} {fa f2 : Addr} (X : K.In h) (G : h.Ns mainGlobals mg) (hfa : mg "law" = some (.ref fa))
    {oc2 : Value} {od2 an2 : Option Addr} {sl2 : Array (Option Value)} {kV2 dc2 pm2 cd2 ct2 : Value}
    (a2 : PySem.W.nsIn K mainGlobals "law" = some (some (.ref f2))) (l2 : K.lookup f2 = some ⟨oc2, od2, .func (PySem.W.fnOf "law" "law" (defArgs s_law) (defBody s_law) (defScope s_law) .none kV2 dc2 pm2 an2 cd2 ct2), sl2⟩) (c2 : PySem.W.codeIn K cd2 "law" = true) (k2 : PySem.W.keepIn K (.ref f2) = true)
    (bl : Bl mg) {t_MOST_SIZE : Tok} (gc_MOST_SIZE : mg "MOST_SIZE" = some (.int 6 t_MOST_SIZE)) (F__law_hand : Fac K mg "_law_hand" s__law_hand ["script"]) (F_is_integer : Fac K mg "is_integer" s_is_integer ["thing"]) (F_is_within : Fac K mg "is_within" s_is_within ["thing", "least", "most"]) (F_check_numbers : Fac K mg "check_numbers" s_check_numbers ["points", "size", "many", "told"]) (F_choose : Fac K mg "choose" s_choose ["many", "some"]) (F_shares_by : Fac K mg "shares_by" s_shares_by ["points", "size", "many", "told"]) (F_is_square_family : Fac K mg "is_square_family" s_is_square_family ["points", "size", "many"]) (F_shared : Fac K mg "shared" s_shared ["one", "other"]) (F_square_free : Fac K mg "square_free" s_square_free ["number"]) (F_is_rest_square : Fac K mg "is_rest_square" s_is_rest_square ["number", "p"]) (F_primes_of : Fac K mg "primes_of" s_primes_of ["number"]) (F_is_rest_of_all : Fac K mg "is_rest_of_all" s_is_rest_of_all ["one", "other"]) (F_sums_to_nought : Fac K mg "sums_to_nought" s_sums_to_nought ["a", "b"]) (F_root_of : Fac K mg "root_of" s_root_of ["number"]) (F_is_square : Fac K mg "is_square" s_is_square ["number"]) (F_square_bar : Fac K mg "square_bar" s_square_bar ["points", "size", "many"]) (F_bars : Fac K mg "bars" s_bars ["points", "size", "many", "told"]) (F_free_numbers : Fac K mg "free_numbers" s_free_numbers ["points", "told"]) (F__law_draw : Fac K mg "_law_draw" s__law_draw ["hand", "many"]) (F__law_squares : Fac K mg "_law_squares" s__law_squares ["hand"]) (F__law_parts : Fac K mg "_law_parts" s__law_parts ["number"]) (F__law_bare : Fac K mg "_law_bare" s__law_bare ["number"]) (F__law_is_rest : Fac K mg "_law_is_rest" s__law_is_rest ["number", "prime"]) (F__law_sums : Fac K mg "_law_sums" s__law_sums ["a", "b"]) (F__law_root : Fac K mg "_law_root" s__law_root ["number"]) (F__law_is_square : Fac K mg "_law_is_square" s__law_is_square ["number"]) (F__law_bar : Fac K mg "_law_bar" s__law_bar ["points", "size", "many"]) (F__law_is_plane_free : Fac K mg "_law_is_plane_free" s__law_is_plane_free ["order"]) (F__law_together : Fac K mg "_law_together" s__law_together ["one", "other"]) (F__law_any : Fac K mg "_law_any" s__law_any ["hand", "some"]) (F__law_integer : Fac K mg "_law_integer" s__law_integer ["hand"]) (F_has_sums : Fac K mg "has_sums" s_has_sums ["a", "b"]) (F__law_are_sums_right : Fac K mg "_law_are_sums_right" s__law_are_sums_right ["hand"]) :
    ∃ fd : FuncData, (∀ (s : Shared) (v : Value), BindsTo s fd ⟨[v], []⟩ [("script", v)]) ∧ ∀ base : Heap, K.In base → base.Ns mainGlobals mg → FnOk l.prog w K mg base CX0 8 fa fd ["script"] (spLaw K) := by
  have e := hfa.symm.trans (PySem.W.mg_of X G a2)
  cases e
  have Fn := fun_mk (st := s_law) l2 c2 k2
  refine ⟨PySem.W.fnOf "law" "law" (defArgs s_law) (defBody s_law) (defScope s_law) .none kV2 dc2 pm2 an2 cd2 ct2, fun s v => .of_eq rfl, fun base _ _ => ?_⟩
  have all : ∀ n : Nat, FnOk l.prog w K mg base CX0 8 fa _ ["script"] (spF ⟨K, fun _ => none⟩ (m_law n)) := fun n => by
    have K__law_hand := k__law_hand (P := l.prog) (w := w) (base := base) (cl := fun _ => none) n bl F__law_hand
    have K_is_integer := k_is_integer (P := l.prog) (w := w) (base := base) (cl := fun _ => none) n bl F_is_integer
    have K_is_within := k_is_within (P := l.prog) (w := w) (base := base) (cl := fun _ => none) n bl F_is_within K_is_integer
    have K_check_numbers := k_check_numbers (P := l.prog) (w := w) (base := base) (cl := fun _ => none) n bl F_check_numbers gc_MOST_SIZE K_is_within
    have K_choose := k_choose (P := l.prog) (w := w) (base := base) (cl := fun _ => none) n bl F_choose
    have K_shares_by := k_shares_by (P := l.prog) (w := w) (base := base) (cl := fun _ => none) n bl F_shares_by K_choose
    have K_is_square_family := k_is_square_family (P := l.prog) (w := w) (base := base) (cl := fun _ => none) n bl F_is_square_family K_check_numbers
    have K_shared := k_shared (P := l.prog) (w := w) (base := base) (cl := fun _ => none) n bl F_shared
    have K_square_free := k_square_free (P := l.prog) (w := w) (base := base) (cl := fun _ => none) n bl F_square_free
    have K_is_rest_square := k_is_rest_square (P := l.prog) (w := w) (base := base) (cl := fun _ => none) n bl F_is_rest_square
    have K_primes_of := k_primes_of (P := l.prog) (w := w) (base := base) (cl := fun _ => none) n bl F_primes_of
    have K_is_rest_of_all := k_is_rest_of_all (P := l.prog) (w := w) (base := base) (cl := fun _ => none) n bl F_is_rest_of_all K_is_rest_square K_primes_of
    have K_sums_to_nought := k_sums_to_nought (P := l.prog) (w := w) (base := base) (cl := fun _ => none) n bl F_sums_to_nought K_shared K_square_free K_is_rest_of_all
    have K_root_of := k_root_of (P := l.prog) (w := w) (base := base) (cl := fun _ => none) n bl F_root_of
    have K_is_square := k_is_square (P := l.prog) (w := w) (base := base) (cl := fun _ => none) n bl F_is_square K_root_of
    have K_square_bar := k_square_bar (P := l.prog) (w := w) (base := base) (cl := fun _ => none) n bl F_square_bar K_is_square_family K_sums_to_nought K_is_square
    have K_bars := k_bars (P := l.prog) (w := w) (base := base) (cl := fun _ => none) n bl F_bars K_check_numbers K_shares_by K_square_bar
    have K_free_numbers := k_free_numbers (P := l.prog) (w := w) (base := base) (cl := fun _ => none) n bl F_free_numbers gc_MOST_SIZE K_is_within K_bars
    have K__law_draw := k__law_draw (P := l.prog) (w := w) (base := base) (cl := fun _ => none) n bl F__law_draw
    have K__law_squares := k__law_squares (P := l.prog) (w := w) (base := base) (cl := fun _ => none) n bl F__law_squares K__law_draw
    have K__law_parts := k__law_parts (P := l.prog) (w := w) (base := base) (cl := fun _ => none) n bl F__law_parts
    have K__law_bare := k__law_bare (P := l.prog) (w := w) (base := base) (cl := fun _ => none) n bl F__law_bare K__law_parts
    have K__law_is_rest := k__law_is_rest (P := l.prog) (w := w) (base := base) (cl := fun _ => none) n bl F__law_is_rest
    have K__law_sums := k__law_sums (P := l.prog) (w := w) (base := base) (cl := fun _ => none) n bl F__law_sums K__law_parts K__law_bare K__law_is_rest
    have K__law_root := k__law_root (P := l.prog) (w := w) (base := base) (cl := fun _ => none) n bl F__law_root
    have K__law_is_square := k__law_is_square (P := l.prog) (w := w) (base := base) (cl := fun _ => none) n bl F__law_is_square K__law_root
    have K__law_bar := k__law_bar (P := l.prog) (w := w) (base := base) (cl := fun _ => none) n bl F__law_bar K__law_sums K__law_is_square
    have K__law_is_plane_free := k__law_is_plane_free (P := l.prog) (w := w) (base := base) (cl := fun _ => none) n bl F__law_is_plane_free K__law_root K__law_is_square
    have K__law_together := k__law_together (P := l.prog) (w := w) (base := base) (cl := fun _ => none) n bl F__law_together
    have K__law_any := k__law_any (P := l.prog) (w := w) (base := base) (cl := fun _ => none) n bl F__law_any K__law_draw
    have K__law_integer := k__law_integer (P := l.prog) (w := w) (base := base) (cl := fun _ => none) n bl F__law_integer K__law_draw K__law_any
    have K_has_sums := k_has_sums (P := l.prog) (w := w) (base := base) (cl := fun _ => none) n bl F_has_sums K_is_integer K_sums_to_nought
    have K__law_are_sums_right := k__law_are_sums_right (P := l.prog) (w := w) (base := base) (cl := fun _ => none) n bl F__law_are_sums_right K__law_draw K__law_bare K__law_sums K__law_together K__law_integer K_has_sums
    exact r_law (P := l.prog) (w := w) (base := base) (cl := fun _ => none) n bl Fn K__law_hand K_is_square_family K_square_bar K_bars K_free_numbers K__law_draw K__law_squares K__law_bar K__law_is_plane_free K__law_are_sums_right
  refine ⟨fun vs H Q E ⟨a, ns, e, _⟩ => by rw [e]; rfl, fun A outer s H args us vs Q E hr he hb hv hs => ?_⟩
  obtain ⟨a, ns, e1, e2, e3, e4⟩ := hs
  obtain ⟨n, hn⟩ := v_law_some ns e3
  exact (all n).run A outer s H args us vs Q E hr he hb hv (sp_law e1 e2 e4 hn)
end K33
open PySem PySem.W PyProof.Rows
set_option maxHeartbeats 0 in
theorem PySem.Challenge.cw_pairblocks_k33_whole_what_bars_planes_by_holds : PySem.Challenge.rw_pairblocks_k33_whole_what_bars_planes_by.Holds := by
  w_on; o_law; k_head; (case hw => w_witness2)
  k_fill
  refine L2.walk_of (l := PySem.Challenge.rw_pairblocks_k33_whole_what_bars_planes_by) (n := 63) (k := 8) (x := "script") (CX := fun _ => L2.CX0) (sp := fun w => K33.spLaw _) rfl (by decide) rfl ⟨rfl, by decide, by decide⟩ (fun w h Y => PySem.W.kIn_of Y) ?F (fun _ _ a ns hl _ hS => ⟨a, ns, rfl, hS, hl, fun _ => rfl⟩) (fun _ _ _ _ _ h => h)
  case F =>
    intro w mg fa h KX G hmg
    refine' K33.law_mk KX G hmg ?a ?l ?c ?k ⟨PySem.W.mg_none_of KX G ?z_abs, PySem.W.mg_none_of KX G ?z_all, PySem.W.mg_none_of KX G ?z_any, PySem.W.mg_none_of KX G ?z_bool, PySem.W.mg_none_of KX G ?z_dict, PySem.W.mg_none_of KX G ?z_int, PySem.W.mg_none_of KX G ?z_isinstance, PySem.W.mg_none_of KX G ?z_len, PySem.W.mg_none_of KX G ?z_min, PySem.W.mg_none_of KX G ?z_range, PySem.W.mg_none_of KX G ?z_repr, PySem.W.mg_none_of KX G ?z_sorted⟩ (PySem.W.mg_of KX G ?gc_MOST_SIZE) (K33.fk__law_hand KX G ?a__law_hand ?l__law_hand ?c__law_hand ?k__law_hand) (K33.fk_is_integer KX G ?a_is_integer ?l_is_integer ?c_is_integer ?k_is_integer) (K33.fk_is_within KX G ?a_is_within ?l_is_within ?c_is_within ?k_is_within) (K33.fk_check_numbers KX G ?a_check_numbers ?l_check_numbers ?c_check_numbers ?k_check_numbers) (K33.fk_choose KX G ?a_choose ?l_choose ?c_choose ?k_choose) (K33.fk_shares_by KX G ?a_shares_by ?l_shares_by ?c_shares_by ?k_shares_by) (K33.fk_is_square_family KX G ?a_is_square_family ?l_is_square_family ?c_is_square_family ?k_is_square_family) (K33.fk_shared KX G ?a_shared ?l_shared ?c_shared ?k_shared) (K33.fk_square_free KX G ?a_square_free ?l_square_free ?c_square_free ?k_square_free) (K33.fk_is_rest_square KX G ?a_is_rest_square ?l_is_rest_square ?c_is_rest_square ?k_is_rest_square) (K33.fk_primes_of KX G ?a_primes_of ?l_primes_of ?c_primes_of ?k_primes_of) (K33.fk_is_rest_of_all KX G ?a_is_rest_of_all ?l_is_rest_of_all ?c_is_rest_of_all ?k_is_rest_of_all) (K33.fk_sums_to_nought KX G ?a_sums_to_nought ?l_sums_to_nought ?c_sums_to_nought ?k_sums_to_nought) (K33.fk_root_of KX G ?a_root_of ?l_root_of ?c_root_of ?k_root_of) (K33.fk_is_square KX G ?a_is_square ?l_is_square ?c_is_square ?k_is_square) (K33.fk_square_bar KX G ?a_square_bar ?l_square_bar ?c_square_bar ?k_square_bar) (K33.fk_bars KX G ?a_bars ?l_bars ?c_bars ?k_bars) (K33.fk_free_numbers KX G ?a_free_numbers ?l_free_numbers ?c_free_numbers ?k_free_numbers) (K33.fk__law_draw KX G ?a__law_draw ?l__law_draw ?c__law_draw ?k__law_draw) (K33.fk__law_squares KX G ?a__law_squares ?l__law_squares ?c__law_squares ?k__law_squares) (K33.fk__law_parts KX G ?a__law_parts ?l__law_parts ?c__law_parts ?k__law_parts) (K33.fk__law_bare KX G ?a__law_bare ?l__law_bare ?c__law_bare ?k__law_bare) (K33.fk__law_is_rest KX G ?a__law_is_rest ?l__law_is_rest ?c__law_is_rest ?k__law_is_rest) (K33.fk__law_sums KX G ?a__law_sums ?l__law_sums ?c__law_sums ?k__law_sums) (K33.fk__law_root KX G ?a__law_root ?l__law_root ?c__law_root ?k__law_root) (K33.fk__law_is_square KX G ?a__law_is_square ?l__law_is_square ?c__law_is_square ?k__law_is_square) (K33.fk__law_bar KX G ?a__law_bar ?l__law_bar ?c__law_bar ?k__law_bar) (K33.fk__law_is_plane_free KX G ?a__law_is_plane_free ?l__law_is_plane_free ?c__law_is_plane_free ?k__law_is_plane_free) (K33.fk__law_together KX G ?a__law_together ?l__law_together ?c__law_together ?k__law_together) (K33.fk__law_any KX G ?a__law_any ?l__law_any ?c__law_any ?k__law_any) (K33.fk__law_integer KX G ?a__law_integer ?l__law_integer ?c__law_integer ?k__law_integer) (K33.fk_has_sums KX G ?a_has_sums ?l_has_sums ?c_has_sums ?k_has_sums) (K33.fk__law_are_sums_right KX G ?a__law_are_sums_right ?l__law_are_sums_right ?c__law_are_sums_right ?k__law_are_sums_right)
    (case a => k_is); (case l => k_is); (case c => k_is); (case k => k_is); (case z_abs => k_is); (case z_all => k_is); (case z_any => k_is); (case z_bool => k_is); (case z_dict => k_is); (case z_int => k_is); (case z_isinstance => k_is); (case z_len => k_is); (case z_min => k_is); (case z_range => k_is); (case z_repr => k_is); (case z_sorted => k_is); (case gc_MOST_SIZE => k_is); (case a__law_hand => k_is); (case l__law_hand => k_is); (case c__law_hand => k_is); (case k__law_hand => k_is); (case a_is_integer => k_is); (case l_is_integer => k_is); (case c_is_integer => k_is); (case k_is_integer => k_is); (case a_is_within => k_is); (case l_is_within => k_is); (case c_is_within => k_is); (case k_is_within => k_is); (case a_check_numbers => k_is); (case l_check_numbers => k_is); (case c_check_numbers => k_is); (case k_check_numbers => k_is); (case a_choose => k_is); (case l_choose => k_is); (case c_choose => k_is); (case k_choose => k_is); (case a_shares_by => k_is); (case l_shares_by => k_is); (case c_shares_by => k_is); (case k_shares_by => k_is); (case a_is_square_family => k_is); (case l_is_square_family => k_is); (case c_is_square_family => k_is); (case k_is_square_family => k_is); (case a_shared => k_is); (case l_shared => k_is); (case c_shared => k_is); (case k_shared => k_is); (case a_square_free => k_is); (case l_square_free => k_is); (case c_square_free => k_is); (case k_square_free => k_is); (case a_is_rest_square => k_is); (case l_is_rest_square => k_is); (case c_is_rest_square => k_is); (case k_is_rest_square => k_is); (case a_primes_of => k_is); (case l_primes_of => k_is); (case c_primes_of => k_is); (case k_primes_of => k_is); (case a_is_rest_of_all => k_is); (case l_is_rest_of_all => k_is); (case c_is_rest_of_all => k_is); (case k_is_rest_of_all => k_is); (case a_sums_to_nought => k_is); (case l_sums_to_nought => k_is); (case c_sums_to_nought => k_is); (case k_sums_to_nought => k_is); (case a_root_of => k_is); (case l_root_of => k_is); (case c_root_of => k_is); (case k_root_of => k_is); (case a_is_square => k_is); (case l_is_square => k_is); (case c_is_square => k_is); (case k_is_square => k_is); (case a_square_bar => k_is); (case l_square_bar => k_is); (case c_square_bar => k_is); (case k_square_bar => k_is); (case a_bars => k_is); (case l_bars => k_is); (case c_bars => k_is); (case k_bars => k_is); (case a_free_numbers => k_is); (case l_free_numbers => k_is); (case c_free_numbers => k_is); (case k_free_numbers => k_is); (case a__law_draw => k_is); (case l__law_draw => k_is); (case c__law_draw => k_is); (case k__law_draw => k_is); (case a__law_squares => k_is); (case l__law_squares => k_is); (case c__law_squares => k_is); (case k__law_squares => k_is); (case a__law_parts => k_is); (case l__law_parts => k_is); (case c__law_parts => k_is); (case k__law_parts => k_is); (case a__law_bare => k_is); (case l__law_bare => k_is); (case c__law_bare => k_is); (case k__law_bare => k_is); (case a__law_is_rest => k_is); (case l__law_is_rest => k_is); (case c__law_is_rest => k_is); (case k__law_is_rest => k_is); (case a__law_sums => k_is); (case l__law_sums => k_is); (case c__law_sums => k_is); (case k__law_sums => k_is); (case a__law_root => k_is); (case l__law_root => k_is); (case c__law_root => k_is); (case k__law_root => k_is); (case a__law_is_square => k_is); (case l__law_is_square => k_is); (case c__law_is_square => k_is); (case k__law_is_square => k_is); (case a__law_bar => k_is); (case l__law_bar => k_is); (case c__law_bar => k_is); (case k__law_bar => k_is); (case a__law_is_plane_free => k_is); (case l__law_is_plane_free => k_is); (case c__law_is_plane_free => k_is); (case k__law_is_plane_free => k_is); (case a__law_together => k_is); (case l__law_together => k_is); (case c__law_together => k_is); (case k__law_together => k_is); (case a__law_any => k_is); (case l__law_any => k_is); (case c__law_any => k_is); (case k__law_any => k_is); (case a__law_integer => k_is); (case l__law_integer => k_is); (case c__law_integer => k_is); (case k__law_integer => k_is); (case a_has_sums => k_is); (case l_has_sums => k_is); (case c_has_sums => k_is); (case k_has_sums => k_is); (case a__law_are_sums_right => k_is); (case l__law_are_sums_right => k_is); (case c__law_are_sums_right => k_is); (case k__law_are_sums_right => k_is)
