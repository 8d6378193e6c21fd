import PyProof.Rows.All
import HandS.ForMost
import HandS.ForExc
import HandS.Wide
import HandS.Style
import HandS.Defaults
import HandS.HeadEnd
import HandS.IsInst
import HandS.More
import Wide.All
import OpenK.AllK
import Wide.FinOn
import KE.KStateDown
import Lean
import HandS.Head0
import HandS.Head1
import HandS.Head2
import HandS.HeadHook1
import HandS.HeadHook2
import PySem.Challenge.RW_meterbook_k02_uses_between_marks
set_option Elab.async false
set_option linter.all false
set_option maxRecDepth 100000
set_option maxHeartbeats 4000000
namespace G
open PySem PySem.Spec PyProof.Rows L2
/-! ### data trees -/
/-- a key or a field's name -/
inductive DK where
  | s (x : Str) | i (n : Int) | t (ks : List Key)
  deriving DecidableEq
/-- what kind of table: int and text keys, tuple keys, the fields of an instance -/
inductive AK where
  | k | t | ins (c : Nat)
  deriving DecidableEq
inductive D where
  | non | bl (b : Bool) | int (i : Int) | str (x : Str)
  | tup (ds : List D) | lst (ds : List D)
  | asc (a : AK) (kvs : List (DK × D))
  | loc (n : Nat)
  | scr (ns : List Int)
  | ty (n : String)
  | cls (c : Nat)
  | exc (c : Nat) (row : Option Int)
instance : Inhabited D := ⟨.non⟩
abbrev Mem := List (Option D)
abbrev Sl := List (Option D)
def ofKey : Key → DK
  | .inl i => .i i
  | .inr x => .s x
theorem ofKey_inj : ∀ {a b : Key}, ofKey a = ofKey b → a = b
  | .inl _, .inl _, h => by injection h with h; rw [h]
  | .inr _, .inr _, h => by injection h with h; rw [h]
  | .inl _, .inr _, h => by cases h
  | .inr _, .inl _, h => by cases h
def kx (p : Key × V) : DK × V := (ofKey p.1, p.2)
def tx (p : List Key × V) : DK × V := (.t p.1, p.2)
def fx (p : Str × V) : DK × V := (.s p.1, p.2)
structure GE where
  K : PySem.W.Frag
  C : Nat → Addr
/-- what stands at a for a table -/
def AscAt (T : GE) (H : Hp) : AK → Addr → List (DK × V) → Prop
  | .k, a, vs => ∃ ws, H a = some (.dK ws) ∧ vs = ws.map kx
  | .t, a, vs => ∃ ws, H a = some (.dT ws) ∧ vs = ws.map tx
  | .ins c, a, vs => ∃ dx ws, H a = some (.ins (T.C c) dx ws) ∧ vs = ws.map fx
section
variable (T : GE) (F : Hp) (A : List Addr)
mutual
def Rep : D → V → Prop
  | .non, v => v = .non
  | .bl b, v => v = .bl b
  | .int i, v => v = .int i
  | .str x, v => v = .str x
  | .tup ds, v => ∃ a vs, v = .ref a ∧ F a = some (.tup vs) ∧ Reps ds vs
  | .lst ds, v => ∃ a vs, v = .ref a ∧ F a = some (.lst vs) ∧ Reps ds vs
  | .scr ns, v => ∃ a, v = .ref a ∧ SqL T.K F a (ns.map V.int)
  | .asc k kvs, v => ∃ a vs, v = .ref a ∧ AscAt T F k a vs ∧ RepA kvs vs
  | .loc n, v => ∃ a, A[n]? = some a ∧ v = .ref a
  | .ty n, v => v = .ty n
  | .cls c, v => v = .ref (T.C c)
  | .exc _ _, _ => False
def Reps : List D → List V → Prop
  | [], vs => vs = []
  | d :: ds, vs => ∃ v r, vs = v :: r ∧ Rep d v ∧ Reps ds r
def RepA : List (DK × D) → List (DK × V) → Prop
  | [], vs => vs = []
  | (k, d) :: ds, vs => ∃ v r, vs = (k, v) :: r ∧ Rep d v ∧ RepA ds r
end
end
section
variable {T : GE} {F F' F'' H H' : Hp} {A : List Addr}
theorem Same.sqT {K : PySem.W.Frag} {a : Addr} {xs : List V} (e : Same F F') (h : SqT K F a xs) : SqT K F' a xs := by
  rcases h with (h | ⟨o, h⟩) | h
  · exact .inl (.inl (e _ _ h))
  · exact .inl (.inr ⟨o, e _ _ h⟩)
  · exact .inr h
theorem AscAt.mono (e : Same F F') : ∀ {k : AK} {a : Addr} {vs}, AscAt T F k a vs → AscAt T F' k a vs
  | .k, _, _, ⟨ws, h, q⟩ => ⟨ws, e _ _ h, q⟩
  | .t, _, _, ⟨ws, h, q⟩ => ⟨ws, e _ _ h, q⟩
  | .ins _, _, _, ⟨dx, ws, h, q⟩ => ⟨dx, ws, e _ _ h, q⟩
-- frozen data stays: more is frozen, more is owned behind
mutual
theorem Rep.mono {B : List Addr} (e : Same F F') : ∀ (d : D) (v : V), Rep T F A d v → Rep T F' (A ++ B) d v
  | .non, _, h => h
  | .bl _, _, h => h
  | .int _, _, h => h
  | .str _, _, h => h
  | .tup ds, v, ⟨a, vs, h1, h2, h3⟩ => ⟨a, vs, h1, e _ _ h2, Reps.mono e ds vs h3⟩
  | .lst ds, v, ⟨a, vs, h1, h2, h3⟩ => ⟨a, vs, h1, e _ _ h2, Reps.mono e ds vs h3⟩
  | .scr _, v, ⟨a, h1, h2⟩ => ⟨a, h1, Same.seq e h2⟩
  | .asc k kvs, v, ⟨a, vs, h1, h2, h3⟩ => ⟨a, vs, h1, AscAt.mono e h2, RepA.mono e kvs vs h3⟩
  | .loc n, v, ⟨a, h1, h2⟩ => ⟨a, by
      rw [List.getElem?_append_left (List.getElem?_eq_some_iff.mp h1).1]
      exact h1, h2⟩
  | .ty _, _, h => h
  | .cls _, _, h => h
  | .exc _ _, _, h => h
theorem Reps.mono {B : List Addr} (e : Same F F') : ∀ (ds : List D) (vs : List V), Reps T F A ds vs → Reps T F' (A ++ B) ds vs
  | [], _, h => h
  | d :: ds, _, ⟨v, r, h1, h2, h3⟩ => ⟨v, r, h1, Rep.mono e d v h2, Reps.mono e ds r h3⟩
theorem RepA.mono {B : List Addr} (e : Same F F') : ∀ (ds : List (DK × D)) (vs : List (DK × V)), RepA T F A ds vs → RepA T F' (A ++ B) ds vs
  | [], _, h => h
  | (k, d) :: ds, _, ⟨v, r, h1, h2, h3⟩ => ⟨v, r, h1, Rep.mono e d v h2, RepA.mono e ds r h3⟩
end
theorem Rep.same {d : D} {v : V} (e : Same F F') (h : Rep T F A d v) : Rep T F' A d v := by
  have := Rep.mono (B := []) e d v h
  rwa [List.append_nil] at this
theorem Reps.same {d : List D} {v : List V} (e : Same F F') (h : Reps T F A d v) : Reps T F' A d v := by
  have := Reps.mono (B := []) e d v h
  rwa [List.append_nil] at this
theorem RepA.same {d : List (DK × D)} {v : List (DK × V)} (e : Same F F') (h : RepA T F A d v) : RepA T F' A d v := by
  have := RepA.mono (B := []) e d v h
  rwa [List.append_nil] at this
theorem Reps.len : ∀ {ds : List D} {vs : List V}, Reps T F A ds vs → ds.length = vs.length
  | [], _, h => by cases h; rfl
  | d :: ds, _, ⟨v, r, h1, h2, h3⟩ => by subst h1; simp [Reps.len h3]
theorem Reps.get : ∀ {ds : List D} {vs : List V} {i : Nat} {v : V}, Reps T F A ds vs → vs[i]? = some v → ∃ d, ds[i]? = some d ∧ Rep T F A d v
  | [], _, _, _, h, e => by cases h; simp at e
  | d :: ds, _, 0, _, ⟨v, r, h1, h2, h3⟩, e => by subst h1; simp at e; subst e; exact ⟨d, rfl, h2⟩
  | d :: ds, _, i + 1, _, ⟨v, r, h1, h2, h3⟩, e => by subst h1; simp at e; simpa using Reps.get (i := i) h3 e
theorem Reps.get' : ∀ {ds : List D} {vs : List V} {i : Nat} {d : D}, Reps T F A ds vs → ds[i]? = some d → ∃ v, vs[i]? = some v ∧ Rep T F A d v
  | [], _, _, _, h, e => by simp at e
  | d :: ds, _, 0, _, ⟨v, r, h1, h2, h3⟩, e => by subst h1; simp at e; subst e; exact ⟨v, rfl, h2⟩
  | d :: ds, _, i + 1, _, ⟨v, r, h1, h2, h3⟩, e => by subst h1; simp at e; simpa using Reps.get' (i := i) h3 e
theorem Reps.append : ∀ {ds es : List D} {vs ws : List V}, Reps T F A ds vs → Reps T F A es ws → Reps T F A (ds ++ es) (vs ++ ws)
  | [], _, _, _, h, k => by cases h; exact k
  | d :: ds, _, _, _, ⟨v, r, h1, h2, h3⟩, k => by subst h1; exact ⟨v, _, rfl, h2, Reps.append h3 k⟩
theorem Reps.one {d : D} {v : V} (h : Rep T F A d v) : Reps T F A [d] [v] := ⟨v, [], rfl, h, rfl⟩
theorem Reps.take : ∀ {ds : List D} {vs : List V} (n : Nat), Reps T F A ds vs → Reps T F A (ds.take n) (vs.take n)
  | [], _, n, h => by cases h; simp [Reps]
  | d :: ds, _, 0, _ => by simp [Reps]
  | d :: ds, _, n + 1, ⟨v, r, h1, h2, h3⟩ => by subst h1; exact ⟨v, _, rfl, h2, Reps.take n h3⟩
theorem Reps.drop : ∀ {ds : List D} {vs : List V} (n : Nat), Reps T F A ds vs → Reps T F A (ds.drop n) (vs.drop n)
  | [], _, n, h => by cases h; simp [Reps]
  | d :: ds, _, 0, h => h
  | d :: ds, _, n + 1, ⟨v, r, h1, h2, h3⟩ => by subst h1; exact Reps.drop n h3
theorem Reps.set {e : D} {w : V} (q : Rep T F A e w) : ∀ {ds : List D} {vs : List V} (n : Nat), Reps T F A ds vs → Reps T F A (ds.set n e) (vs.set n w)
  | [], _, n, h => by cases h; simp [Reps]
  | d :: ds, _, 0, ⟨v, r, h1, h2, h3⟩ => by subst h1; exact ⟨w, _, rfl, q, h3⟩
  | d :: ds, _, n + 1, ⟨v, r, h1, h2, h3⟩ => by subst h1; exact ⟨v, _, rfl, h2, Reps.set q n h3⟩
theorem Reps.reverse {ds : List D} {vs : List V} (h : Reps T F A ds vs) : Reps T F A ds.reverse vs.reverse := by
  induction ds generalizing vs with
  | nil => cases h; simp [Reps]
  | cons d ds ih =>
    obtain ⟨v, r, rfl, h2, h3⟩ := h
    rw [List.reverse_cons, List.reverse_cons]
    exact Reps.append (ih h3) (Reps.one h2)
theorem Reps.none_of {ds : List D} {vs : List V} {i : Nat} (h : Reps T F A ds vs) (e : ds[i]? = none) : vs[i]? = none := by
  rw [List.getElem?_eq_none_iff] at e ⊢
  have := h.len
  omega

/-! ### what stands at an owned address -/
def Cont (T : GE) (F : Hp) (A : List Addr) (H : Hp) : D → Addr → Prop
  | .lst ds, a => ∃ vs, H a = some (.lst vs) ∧ Reps T F A ds vs
  | .asc k kvs, a => ∃ vs, AscAt T H k a vs ∧ RepA T F A kvs vs
  | _, _ => False
/-- the heap H holds what is frozen (F), and at A[n] the n-th own object -/
structure HR (T : GE) (M : Mem) (F : Hp) (A : List Addr) (H : Hp) : Prop where
  fs : Same F H
  nd : A.Nodup
  len : A.length = M.length
  fr : ∀ (n : Nat) (c : D) (a : Addr), M[n]? = some (some c) → A[n]? = some a → F a = none
  mem : ∀ (n : Nat) (c : D) (a : Addr), M[n]? = some (some c) → A[n]? = some a → Cont T F A H c a
  al : ∀ a ∈ A, ∃ o, H a = some o
  dd : ∀ (n : Nat) (a : Addr), M[n]? = some none → A[n]? = some a → F a ≠ none
/-- frozen things are added: all else stands -/
structure Grow (F H F' H' : Hp) : Prop where
  ff : Same F F'
  fh : Same F' H'
  hh : Same H H'
  nf : ∀ p o, H p = some o → F p = none → F' p = none
theorem Grow.refl (h : Same F H) : Grow F H F H := ⟨Same.refl _, h, Same.refl _, fun _ _ _ z => z⟩
theorem Grow.trans {F1 H1 F2 H2 : Hp} (a : Grow F H F1 H1) (b : Grow F1 H1 F2 H2) : Grow F H F2 H2 :=
  ⟨a.ff.trans b.ff, b.fh, a.hh.trans b.hh, fun p o h z => b.nf p o (a.hh p o h) (a.nf p o h z)⟩
/-- a new object is laid and frozen -/
theorem same_new {p : Addr} {o : HO} (h : H p = none) : Same H (upd H p o) := fun b u e => by
  rw [upd_ne (ne_of_none e h)]; exact e
theorem Grow.new {p : Addr} {o : HO} (e : Same F H) (h : H p = none) : Grow F H (upd F p o) (upd H p o) where
  ff := same_new (e.free h)
  fh := fun b u q => by
    by_cases hb : b = p
    · subst hb; rw [upd_same] at q ⊢; exact q
    · rw [upd_ne hb] at q ⊢; exact e b u q
  hh := same_new h
  nf := fun b u q z => by
    have : b ≠ p := ne_of_none q h
    rw [upd_ne this]; exact z
theorem Cont.grow (g : Grow F H F' H') : ∀ {c : D} {a : Addr}, Cont T F A H c a → Cont T F' A H' c a
  | .lst _, _, ⟨vs, h, r⟩ => ⟨vs, g.hh _ _ h, r.same g.ff⟩
  | .asc _ _, _, ⟨vs, h, r⟩ => ⟨vs, h.mono g.hh, r.same g.ff⟩
  | .non, _, h => h.elim
  | .bl _, _, h => h.elim
  | .int _, _, h => h.elim
  | .str _, _, h => h.elim
  | .tup _, _, h => h.elim
  | .loc _, _, h => h.elim
  | .scr _, _, h => h.elim
  | .ty _, _, h => h.elim
  | .cls _, _, h => h.elim
  | .exc _ _, _, h => h.elim
theorem Cont.there : ∀ {c : D} {a : Addr}, Cont T F A H c a → ∃ o, H a = some o
  | .lst _, _, ⟨_, h, _⟩ => ⟨_, h⟩
  | .asc .k _, _, ⟨_, ⟨_, h, _⟩, _⟩ => ⟨_, h⟩
  | .asc .t _, _, ⟨_, ⟨_, h, _⟩, _⟩ => ⟨_, h⟩
  | .asc (.ins _) _, _, ⟨_, ⟨_, _, h, _⟩, _⟩ => ⟨_, h⟩
  | .non, _, h => h.elim
  | .bl _, _, h => h.elim
  | .int _, _, h => h.elim
  | .str _, _, h => h.elim
  | .tup _, _, h => h.elim
  | .loc _, _, h => h.elim
  | .scr _, _, h => h.elim
  | .ty _, _, h => h.elim
  | .cls _, _, h => h.elim
  | .exc _ _, _, h => h.elim
theorem HR.grow {M : Mem} (h : HR T M F A H) (g : Grow F H F' H') : HR T M F' A H' where
  fs := g.fh
  nd := h.nd
  len := h.len
  fr := fun n c a e1 e2 => by
    obtain ⟨o, z⟩ := (h.mem n c a e1 e2).there
    exact g.nf a o z (h.fr n c a e1 e2)
  mem := fun n c a e1 e2 => (h.mem n c a e1 e2).grow g
  al := fun a ha => let ⟨o, z⟩ := h.al a ha; ⟨o, g.hh a o z⟩
  dd := fun n a e1 e2 z => h.dd n a e1 e2 (g.ff.free z)
/-- the slots -/
def SlotR (T : GE) (F : Hp) (A : List Addr) (Γ : Sl) (σ : L2.St) : Prop :=
  Γ.length = σ.length ∧ ∀ (i : Nat) (d : D), Γ[i]? = some (some d) → ∃ v, σ[i]? = some (some v) ∧ Rep T F A d v
theorem SlotR.same {Γ : Sl} {σ : L2.St} (e : Same F F') (h : SlotR T F A Γ σ) : SlotR T F' A Γ σ :=
  ⟨h.1, fun i d q => let ⟨v, a, b⟩ := h.2 i d q; ⟨v, a, b.same e⟩⟩
end
end G
set_option Elab.async false
set_option linter.all false
set_option maxRecDepth 100000
set_option maxHeartbeats 4000000
namespace G
open PySem PySem.Spec PyProof.Rows L2
/-! ### readings and pure functions -/
abbrev Ex := Sl → Mem → Option D
abbrev Tx := Sl → Mem → Option Bool
abbrev Ax := Sl → Mem → Option (List D)
abbrev Ox := Sl → Mem → Option (Option Int)
section
variable (T : GE)
def TEG (t : TE) (f : Ex) : Prop := ∀ (Γ : Sl) (M : Mem) (d : D), f Γ M = some d → ∀ (σ : L2.St) (F : Hp) (A : List Addr) (H : Hp), HR T M F A H → SlotR T F A Γ σ →
  ∀ Q : VK, (∀ v F' H', Grow F H F' H' → Rep T F' A d v → Q v H') → t σ H Q
def TTG (t : TT) (f : Tx) : Prop := ∀ (Γ : Sl) (M : Mem) (d : Bool), f Γ M = some d → ∀ (σ : L2.St) (F : Hp) (A : List Addr) (H : Hp), HR T M F A H → SlotR T F A Γ σ →
  ∀ Q : Bool → Hp → Prop, (∀ F' H', Grow F H F' H' → Q d H') → t σ H Q
def TAG (t : TA) (f : Ax) : Prop := ∀ (Γ : Sl) (M : Mem) (d : List D), f Γ M = some d → ∀ (σ : L2.St) (F : Hp) (A : List Addr) (H : Hp), HR T M F A H → SlotR T F A Γ σ →
  ∀ Q : List V → Hp → Prop, (∀ v F' H', Grow F H F' H' → Reps T F' A d v → Q v H') → t σ H Q
def TOG (t : TO) (f : Ox) : Prop := ∀ (Γ : Sl) (M : Mem) (d : Option Int), f Γ M = some d → ∀ (σ : L2.St) (F : Hp) (A : List Addr) (H : Hp), HR T M F A H → SlotR T F A Γ σ →
  ∀ Q : Option Int → Hp → Prop, (∀ F' H', Grow F H F' H' → Q d H') → t σ H Q
/-- a two-place operation on values -/
def ROG (r : R2) (g : Mem → D → D → Option D) : Prop := ∀ (M : Mem) (x y z : D), g M x y = some z → ∀ (vx vy : V) (F : Hp) (A : List Addr) (H : Hp), HR T M F A H → Rep T F A x vx → Rep T F A y vy →
  ∀ Q : VK, (∀ v F' H', Grow F H F' H' → Rep T F' A z v → Q v H') → r vx vy H Q
def RCG (r : List V → Hp → VK → Prop) (g : Mem → List D → Option D) : Prop := ∀ (M : Mem) (xs : List D) (z : D), g M xs = some z → ∀ (vs : List V) (F : Hp) (A : List Addr) (H : Hp), HR T M F A H → Reps T F A xs vs →
  ∀ Q : VK, (∀ v F' H', Grow F H F' H' → Rep T F' A z v → Q v H') → r vs H Q
end
def PEG (X : Cx) (C : Nat → Addr) (e : Expr) (f : Ex) : Prop := ∃ t, PE X e t ∧ TEG ⟨X.K, C⟩ t f
def PTG (X : Cx) (C : Nat → Addr) (e : Expr) (f : Tx) : Prop := ∃ t, PT X e t ∧ TTG ⟨X.K, C⟩ t f
def PAG (X : Cx) (C : Nat → Addr) (es : List Expr) (f : Ax) : Prop := ∃ t, PA X es t ∧ TAG ⟨X.K, C⟩ t f
def POG (X : Cx) (C : Nat → Addr) (e : Option Expr) (f : Ox) : Prop := ∃ t, PO X e t ∧ TOG ⟨X.K, C⟩ t f
def OpG (X : Cx) (C : Nat → Addr) (o : Value → Value → Sem Value) (g : Mem → D → D → Option D) : Prop := ∃ r, OpR X o r ∧ ROG ⟨X.K, C⟩ r g
def IxG (X : Cx) (C : Nat → Addr) (g : Mem → D → D → Option D) : Prop := ∃ r, IxR X r ∧ ROG ⟨X.K, C⟩ r g
def CaG (X : Cx) (C : Nat → Addr) (f : Value) (g : Mem → List D → Option D) : Prop := ∃ r, CallR X f r ∧ RCG ⟨X.K, C⟩ r g
/-! ### combinators -/
def xVar (i : Nat) : Ex := fun Γ _ => match Γ[i]? with
  | some (some d) => some d
  | _ => none
def xC (d : D) : Ex := fun _ _ => some d
def xBin (g : Mem → D → D → Option D) (a b : Ex) : Ex := fun Γ M => (a Γ M).bind fun x => (b Γ M).bind fun y => g M x y
def xAnil : Ax := fun _ _ => some []
def xAcons (a : Ex) (r : Ax) : Ax := fun Γ M => (a Γ M).bind fun x => (r Γ M).bind fun xs => some (x :: xs)
def xTup (r : Ax) : Ex := fun Γ M => (r Γ M).bind fun xs => if xs.length ≤ 1000000 then some (.tup xs) else none
def xLst (r : Ax) : Ex := fun Γ M => (r Γ M).bind fun xs => if xs.length ≤ 1000000 then some (.lst xs) else none
def xCall (g : Mem → List D → Option D) (r : Ax) : Ex := fun Γ M => (r Γ M).bind fun xs => g M xs
def xIf (c : Tx) (a b : Ex) : Ex := fun Γ M => (c Γ M).bind fun k => if k = true then a Γ M else b Γ M
/-- a value that is a bool, as a test -/
def tVal (a : Ex) : Tx := fun Γ M => (a Γ M).bind fun x => match x with
  | .bl k => some k
  | _ => none
def tAnd (a b : Tx) : Tx := fun Γ M => (a Γ M).bind fun k => if k = true then b Γ M else some false
def tOr (a b : Tx) : Tx := fun Γ M => (a Γ M).bind fun k => if k = true then some true else b Γ M
def tNot (a : Tx) : Tx := fun Γ M => (a Γ M).bind fun k => some (!k)
def xAnd (a b : Ex) : Ex := fun Γ M => (a Γ M).bind fun x => match x with
  | .bl k => if k = true then b Γ M else some (.bl false)
  | _ => none
def xOr (a b : Ex) : Ex := fun Γ M => (a Γ M).bind fun x => match x with
  | .bl k => if k = true then some (.bl true) else b Γ M
  | _ => none
def xNot (a : Ex) : Ex := fun Γ M => (a Γ M).bind fun x => match x with
  | .bl k => some (.bl (!k))
  | _ => none
def xNeg (a : Ex) : Ex := fun Γ M => (a Γ M).bind fun x => match x with
  | .int i => some (.int (-i))
  | _ => none
def oNone : Ox := fun _ _ => some none
def oSome (a : Ex) : Ox := fun Γ M => (a Γ M).bind fun x => match x with
  | .int i => some (some i)
  | _ => none
/-! ### what a list is -/
def vL (M : Mem) : D → Option (List D)
  | .lst ds => some ds
  | .loc n => match M[n]? with
    | some (some (.lst ds)) => some ds
    | _ => none
  | _ => none
def vK (M : Mem) : D → Option (List (DK × D))
  | .asc .k kvs => some kvs
  | .loc n => match M[n]? with
    | some (some (.asc .k kvs)) => some kvs
    | _ => none
  | _ => none
def vT (M : Mem) : D → Option (List (DK × D))
  | .asc .t kvs => some kvs
  | .loc n => match M[n]? with
    | some (some (.asc .t kvs)) => some kvs
    | _ => none
  | _ => none
def vI (M : Mem) : D → Option (Nat × List (DK × D))
  | .asc (.ins c) kvs => some (c, kvs)
  | .loc n => match M[n]? with
    | some (some (.asc (.ins c) kvs)) => some (c, kvs)
    | _ => none
  | _ => none
section
variable {T : GE} {M : Mem} {F H : Hp} {A : List Addr}
theorem vL_ok (h : HR T M F A H) {d : D} {ds : List D} (e : vL M d = some ds) {v : V} (r : Rep T F A d v) : ∃ a vs, v = .ref a ∧ H a = some (.lst vs) ∧ Reps T F A ds vs := by
  unfold vL at e
  split at e
  · cases e
    obtain ⟨a, vs, h1, h2, h3⟩ := r
    exact ⟨a, vs, h1, h.fs _ _ h2, h3⟩
  · split at e
    · rename_i n ds' hn
      cases e
      obtain ⟨a, h1, h2⟩ := r
      obtain ⟨vs, h3, h4⟩ := h.mem _ _ _ hn h1
      exact ⟨a, vs, h2, h3, h4⟩
    · cases e
  · cases e
theorem vK_ok (h : HR T M F A H) {d : D} {ds : List (DK × D)} (e : vK M d = some ds) {v : V} (r : Rep T F A d v) : ∃ a ws, v = .ref a ∧ H a = some (.dK ws) ∧ RepA T F A ds (ws.map kx) := by
  unfold vK at e
  split at e
  · cases e
    obtain ⟨a, vs, h1, ⟨ws, h2, rfl⟩, h3⟩ := r
    exact ⟨a, ws, h1, h.fs _ _ h2, h3⟩
  · split at e
    · rename_i n ds' hn
      cases e
      obtain ⟨a, h1, h2⟩ := r
      obtain ⟨vs, ⟨ws, h3, rfl⟩, h4⟩ := h.mem _ _ _ hn h1
      exact ⟨a, ws, h2, h3, h4⟩
    · cases e
  · cases e
theorem vT_ok (h : HR T M F A H) {d : D} {ds : List (DK × D)} (e : vT M d = some ds) {v : V} (r : Rep T F A d v) : ∃ a ws, v = .ref a ∧ H a = some (.dT ws) ∧ RepA T F A ds (ws.map tx) := by
  unfold vT at e
  split at e
  · cases e
    obtain ⟨a, vs, h1, ⟨ws, h2, rfl⟩, h3⟩ := r
    exact ⟨a, ws, h1, h.fs _ _ h2, h3⟩
  · split at e
    · rename_i n ds' hn
      cases e
      obtain ⟨a, h1, h2⟩ := r
      obtain ⟨vs, ⟨ws, h3, rfl⟩, h4⟩ := h.mem _ _ _ hn h1
      exact ⟨a, ws, h2, h3, h4⟩
    · cases e
  · cases e
theorem vI_ok (h : HR T M F A H) {d : D} {c : Nat} {ds : List (DK × D)} (e : vI M d = some (c, ds)) {v : V} (r : Rep T F A d v) : ∃ a dx ws, v = .ref a ∧ H a = some (.ins (T.C c) dx ws) ∧ RepA T F A ds (ws.map fx) := by
  unfold vI at e
  split at e
  · cases e
    obtain ⟨a, vs, h1, ⟨dx, ws, h2, rfl⟩, h3⟩ := r
    exact ⟨a, dx, ws, h1, h.fs _ _ h2, h3⟩
  · split at e
    · rename_i n c' ds' hn
      cases e
      obtain ⟨a, h1, h2⟩ := r
      obtain ⟨vs, ⟨dx, ws, h3, rfl⟩, h4⟩ := h.mem _ _ _ hn h1
      exact ⟨a, dx, ws, h2, h3, h4⟩
    · cases e
  · cases e
end
theorem bindS {α β : Type} {o : Option α} {f : α → Option β} {b : β} (h : o.bind f = some b) : ∃ a, o = some a ∧ f a = some b := Option.bind_eq_some_iff.mp h
section
variable {X : Cx} {C : Nat → Addr} {a b e : Expr} {es : List Expr} {f g : Ex} {p : Tx} {pos : Pos}
/-! ### names, constants -/
theorem gVar (i : Nat) {x : Str} (hN : X.N[i]? = some x := by rfl) (hv : Vis X.env.scope x := by first | exact Or.inl rfl | exact Or.inr (Or.inl rfl) | exact Or.inr (Or.inr rfl)) (hd : (x == ("__debug__" : Str)) = false := by decide)
    (hcd : (x == ("__classdict__" : Str)) = false := by decide) : PEG X C (.Name x pos) (xVar i) := by
  refine ⟨_, pe_var hN hv hd hcd, fun Γ M d e σ F A H h s Q q => ?_⟩
  unfold xVar at e
  split at e
  · rename_i d' hd'
    cases e
    obtain ⟨v, h1, h2⟩ := s.2 _ _ hd'
    exact ⟨v, h1, q v F H (Grow.refl h.fs) h2⟩
  · cases e
theorem tC_g {T : GE} {d : D} {v : V} (hr : ∀ F A, Rep T F A d v) : TEG T (tC v) (xC d) := fun Γ M d' e σ F A H h s Q q => by
  cases e
  exact q v F H (Grow.refl h.fs) (hr _ _)
theorem gInt {i j} : PEG X C (.Constant (.int i) j pos) (xC (.int i)) := ⟨_, pe_int, tC_g fun _ _ => rfl⟩
theorem gBl {i j} : PEG X C (.Constant (.bool i) j pos) (xC (.bl i)) := ⟨_, pe_bl, tC_g fun _ _ => rfl⟩
theorem gNon {j} : PEG X C (.Constant .none j pos) (xC .non) := ⟨_, pe_non, tC_g fun _ _ => rfl⟩
theorem gStr {i j} : PEG X C (.Constant (.str i) j pos) (xC (.str i)) := ⟨_, pe_str, tC_g fun _ _ => rfl⟩
theorem gGlobI {x : Str} {i : Int} {t : Tok} (hg : Gl X x) (hm : X.mg x = some (.int i t)) (hd : (x == ("__debug__" : Str)) = false := by decide) : PEG X C (.Name x pos) (xC (.int i)) :=
  ⟨_, pe_glob (v := .int i) hg hm ⟨_, rfl⟩ hd, tC_g fun _ _ => rfl⟩
theorem gGlobS {x i : Str} {t : Tok} (hg : Gl X x) (hm : X.mg x = some (.str i t)) (hd : (x == ("__debug__" : Str)) = false := by decide) : PEG X C (.Name x pos) (xC (.str i)) :=
  ⟨_, pe_glob (v := .str i) hg hm ⟨_, rfl⟩ hd, tC_g fun _ _ => rfl⟩
/-! ### two-place operations -/
theorem tOp_g {T : GE} {r : R2} {k : Mem → D → D → Option D} {ta tb : TE} (hr : ROG T r k) (ha : TEG T ta f) (hb : TEG T tb g) : TEG T (tOp r ta tb) (xBin k f g) := by
  intro Γ M d e σ F A H h s Q q
  obtain ⟨x, e1, e⟩ := bindS e
  obtain ⟨y, e2, e⟩ := bindS e
  refine ha Γ M x e1 σ F A H h s _ fun v F1 H1 g1 r1 => ?_
  refine hb Γ M y e2 σ F1 A H1 (h.grow g1) (s.same g1.ff) _ fun u F2 H2 g2 r2 => ?_
  refine hr M x y d e v u F2 A H2 ((h.grow g1).grow g2) (r1.same g2.ff) r2 Q fun z F3 H3 g3 r3 => ?_
  exact q z F3 H3 ((g1.trans g2).trans g3) r3
theorem gBin {op : Operator} {k : Mem → D → D → Option D} (ho : OpG X C (binaryOp op) k) (ha : PEG X C a f) (hb : PEG X C b g) : PEG X C (.BinOp a op b pos) (xBin k f g) := by
  obtain ⟨r, o1, o2⟩ := ho
  obtain ⟨ta, a1, a2⟩ := ha
  obtain ⟨tb, b1, b2⟩ := hb
  exact ⟨_, pe_op o1 a1 b1, tOp_g o2 a2 b2⟩
theorem gCmp {op : CmpOp} {k : Mem → D → D → Option D} (ho : OpG X C (compareOp op) k) (ha : PEG X C a f) (hb : PEG X C b g) (hm : behindInMarks op b = false) : PEG X C (.Compare a [op] [b] pos) (xBin k f g) := by
  obtain ⟨r, o1, o2⟩ := ho
  obtain ⟨ta, a1, a2⟩ := ha
  obtain ⟨tb, b1, b2⟩ := hb
  exact ⟨_, pe_cmpR o1 a1 b1 hm, tOp_g o2 a2 b2⟩
theorem tTest_g {T : GE} {t : TE} (ha : TEG T t f) : TTG T (tTest t) (tVal f) := by
  intro Γ M d e σ F A H h s Q q
  obtain ⟨x, e1, e⟩ := bindS e
  refine ha Γ M x e1 σ F A H h s _ fun v F1 H1 g1 r1 => ?_
  split at e
  · cases e
    exact ⟨_, r1, q F1 H1 g1⟩
  · cases e
theorem gCmpT {op : CmpOp} {k : Mem → D → D → Option D} (ho : OpG X C (compareOp op) k) (ha : PEG X C a f) (hb : PEG X C b g) (hm : behindInMarks op b = false) : PTG X C (.Compare a [op] [b] pos) (tVal (xBin k f g)) := by
  obtain ⟨r, o1, o2⟩ := ho
  obtain ⟨ta, a1, a2⟩ := ha
  obtain ⟨tb, b1, b2⟩ := hb
  exact ⟨_, pt_cmpR o1 a1 b1 hm, tTest_g (tOp_g o2 a2 b2)⟩
theorem gIx {k : Mem → D → D → Option D} (ho : IxG X C k) (ha : PEG X C a f) (hb : PEG X C b g) (hs : PlainIx b := by exact fun _ _ => rfl) : PEG X C (.Subscript a b pos) (xBin k f g) := by
  obtain ⟨r, o1, o2⟩ := ho
  obtain ⟨ta, a1, a2⟩ := ha
  obtain ⟨tb, b1, b2⟩ := hb
  exact ⟨_, pe_ix o1 a1 b1 hs, tOp_g o2 a2 b2⟩
/-! ### tests -/
theorem gTval (ha : PEG X C e f) (he : ∀ whole, isTrue e X.env whole = (do let v ← whole; standAt e.pos; holding [v] (truthy v)) := by intro _; rfl) : PTG X C e (tVal f) := by
  obtain ⟨ta, a1, a2⟩ := ha
  exact ⟨_, pt_val a1 he, tTest_g a2⟩
theorem gTnot {p : Tx} (ha : PTG X C a p) : PTG X C (.UnaryOp .Not a pos) (tNot p) := by
  obtain ⟨ta, a1, a2⟩ := ha
  refine ⟨_, pt_not a1, fun Γ M d e σ F A H h s Q q => ?_⟩
  obtain ⟨k, e1, e⟩ := bindS e
  cases e
  exact a2 Γ M k e1 σ F A H h s _ fun F1 H1 g1 => q F1 H1 g1
def PWG (X : Cx) (C : Nat → Addr) (e : Expr) (f : Tx) : Prop := ∃ t, PW X e t ∧ TTG ⟨X.K, C⟩ t f
theorem gW {p : Tx} (h : PWG X C e p) : PTG X C e p := let ⟨t, a, b⟩ := h; ⟨t, a.pt, b⟩
theorem gWand1 {p : Tx} (ha : PTG X C a p) : PWG X C (.BoolOp .And [a] pos) p := let ⟨t, x, y⟩ := ha; ⟨t, pw_and1 x, y⟩
theorem gWor1 {p : Tx} (ha : PTG X C a p) : PWG X C (.BoolOp .Or [a] pos) p := let ⟨t, x, y⟩ := ha; ⟨t, pw_or1 x, y⟩
theorem gWand {p q : Tx} {rest : List Expr} (ha : PTG X C a p) (hb : PWG X C (.BoolOp .And (b :: rest) pos) q) : PWG X C (.BoolOp .And (a :: b :: rest) pos) (tAnd p q) := by
  obtain ⟨ta, a1, a2⟩ := ha
  obtain ⟨tb, b1, b2⟩ := hb
  refine ⟨_, pw_and a1 b1, fun Γ M d e σ F A H h s Q k => ?_⟩
  obtain ⟨x, e1, e⟩ := bindS e
  refine a2 Γ M x e1 σ F A H h s _ fun F1 H1 g1 => ?_
  cases x with
  | true => exact b2 Γ M d e σ F1 A H1 (h.grow g1) (s.same g1.ff) _ fun F2 H2 g2 => k F2 H2 (g1.trans g2)
  | false => cases e; exact k F1 H1 g1
theorem gWor {p q : Tx} {rest : List Expr} (ha : PTG X C a p) (hb : PWG X C (.BoolOp .Or (b :: rest) pos) q) : PWG X C (.BoolOp .Or (a :: b :: rest) pos) (tOr p q) := by
  obtain ⟨ta, a1, a2⟩ := ha
  obtain ⟨tb, b1, b2⟩ := hb
  refine ⟨_, pw_or a1 b1, fun Γ M d e σ F A H h s Q k => ?_⟩
  obtain ⟨x, e1, e⟩ := bindS e
  refine a2 Γ M x e1 σ F A H h s _ fun F1 H1 g1 => ?_
  cases x with
  | true => cases e; exact k F1 H1 g1
  | false => exact b2 Γ M d e σ F1 A H1 (h.grow g1) (s.same g1.ff) _ fun F2 H2 g2 => k F2 H2 (g1.trans g2)
/-! ### and, or, not as values; a if c else b -/
theorem gAnd1 {op} (ha : PEG X C a f) : PEG X C (.BoolOp op [a] pos) f := let ⟨t, x, y⟩ := ha; ⟨t, pe_one x, y⟩
theorem gAnd {rest : List Expr} (ha : PEG X C a f) (hb : PEG X C (.BoolOp .And (b :: rest) pos) g) : PEG X C (.BoolOp .And (a :: b :: rest) pos) (xAnd f g) := by
  obtain ⟨ta, a1, a2⟩ := ha
  obtain ⟨tb, b1, b2⟩ := hb
  refine ⟨_, pe_and a1 b1, fun Γ M d e σ F A H h s Q k => ?_⟩
  obtain ⟨x, e1, e⟩ := bindS e
  refine a2 Γ M x e1 σ F A H h s _ fun v F1 H1 g1 r1 => ?_
  split at e
  · refine ⟨_, r1, ?_⟩
    rename_i c
    cases c with
    | true => exact b2 Γ M d e σ F1 A H1 (h.grow g1) (s.same g1.ff) _ fun v2 F2 H2 g2 => k v2 F2 H2 (g1.trans g2)
    | false => cases e; exact k _ F1 H1 g1 rfl
  · cases e
theorem gOr {rest : List Expr} (ha : PEG X C a f) (hb : PEG X C (.BoolOp .Or (b :: rest) pos) g) : PEG X C (.BoolOp .Or (a :: b :: rest) pos) (xOr f g) := by
  obtain ⟨ta, a1, a2⟩ := ha
  obtain ⟨tb, b1, b2⟩ := hb
  refine ⟨_, pe_or a1 b1, fun Γ M d e σ F A H h s Q k => ?_⟩
  obtain ⟨x, e1, e⟩ := bindS e
  refine a2 Γ M x e1 σ F A H h s _ fun v F1 H1 g1 r1 => ?_
  split at e
  · refine ⟨_, r1, ?_⟩
    rename_i c
    cases c with
    | false => exact b2 Γ M d e σ F1 A H1 (h.grow g1) (s.same g1.ff) _ fun v2 F2 H2 g2 => k v2 F2 H2 (g1.trans g2)
    | true => cases e; exact k _ F1 H1 g1 rfl
  · cases e
theorem gNot (ha : PEG X C a f) : PEG X C (.UnaryOp .Not a pos) (xNot f) := by
  obtain ⟨ta, a1, a2⟩ := ha
  refine ⟨_, pe_not a1, fun Γ M d e σ F A H h s Q k => ?_⟩
  obtain ⟨x, e1, e⟩ := bindS e
  refine a2 Γ M x e1 σ F A H h s _ fun v F1 H1 g1 r1 => ?_
  split at e
  · cases e
    exact ⟨_, r1, k _ F1 H1 g1 rfl⟩
  · cases e
theorem gNeg (ha : PEG X C a f) : PEG X C (.UnaryOp .USub a pos) (xNeg f) := by
  obtain ⟨ta, a1, a2⟩ := ha
  refine ⟨_, pe_un un_neg a1, fun Γ M d e σ F A H h s Q k => ?_⟩
  obtain ⟨x, e1, e⟩ := bindS e
  refine a2 Γ M x e1 σ F A H h s _ fun v F1 H1 g1 r1 => ?_
  split at e
  · cases e
    exact ⟨_, r1, k _ F1 H1 g1 rfl⟩
  · cases e
theorem gIfE {c : Expr} (hc : PTG X C c p) (ha : PEG X C a f) (hb : PEG X C b g) : PEG X C (.IfExp c a b pos) (xIf p f g) := by
  obtain ⟨tc, c1, c2⟩ := hc
  obtain ⟨ta, a1, a2⟩ := ha
  obtain ⟨tb, b1, b2⟩ := hb
  refine ⟨_, pe_ifExp c1 a1 b1, fun Γ M d e σ F A H h s Q k => ?_⟩
  obtain ⟨x, e1, e⟩ := bindS e
  refine c2 Γ M x e1 σ F A H h s _ fun F1 H1 g1 => ?_
  cases x with
  | true => exact a2 Γ M d e σ F1 A H1 (h.grow g1) (s.same g1.ff) _ fun v2 F2 H2 g2 => k v2 F2 H2 (g1.trans g2)
  | false => exact b2 Γ M d e σ F1 A H1 (h.grow g1) (s.same g1.ff) _ fun v2 F2 H2 g2 => k v2 F2 H2 (g1.trans g2)
/-! ### argument lists, displays -/
theorem gAnil : PAG X C [] xAnil := ⟨_, pa_nil, fun Γ M d e σ F A H h s Q q => by cases e; exact q [] F H (Grow.refl h.fs) rfl⟩
theorem gAcons {r : Ax} (ha : PEG X C e f) (hr : PAG X C es r) (hs : starEach (e :: es) X.env = (false, eval e X.env) :: starEach es X.env := by rfl) : PAG X C (e :: es) (xAcons f r) := by
  obtain ⟨ta, a1, a2⟩ := ha
  obtain ⟨tb, b1, b2⟩ := hr
  refine ⟨_, pa_cons a1 b1 hs, fun Γ M d e σ F A H h s Q q => ?_⟩
  obtain ⟨x, e1, e⟩ := bindS e
  obtain ⟨y, e2, e⟩ := bindS e
  cases e
  refine a2 Γ M x e1 σ F A H h s _ fun v F1 H1 g1 r1 => ?_
  refine b2 Γ M y e2 σ F1 A H1 (h.grow g1) (s.same g1.ff) _ fun u F2 H2 g2 r2 => ?_
  exact q _ F2 H2 (g1.trans g2) ⟨v, u, rfl, r1.same g2.ff, r2⟩
theorem sz_of6 {n : Nat} (h : n ≤ 1000000) : n ≤ sizeLine := Nat.le_trans h (by decide)
theorem Rep.newTup {T : GE} {F H : Hp} {A : List Addr} {ds : List D} {vs : List V} {p : Addr} (fs : Same F H) (hp : H p = none) (r : Reps T F A ds vs) : Rep T (upd F p (.tup vs)) A (.tup ds) (.ref p) :=
  ⟨p, vs, rfl, upd_same, r.same (same_new (fs.free hp))⟩
theorem Rep.newLst {T : GE} {F H : Hp} {A : List Addr} {ds : List D} {vs : List V} {p : Addr} (fs : Same F H) (hp : H p = none) (r : Reps T F A ds vs) : Rep T (upd F p (.lst vs)) A (.lst ds) (.ref p) :=
  ⟨p, vs, rfl, upd_same, r.same (same_new (fs.free hp))⟩
theorem gTup {r : Ax} {x1} (hr : PAG X C es r) : PEG X C (.Tuple es x1 pos) (xTup r) := by
  obtain ⟨tb, b1, b2⟩ := hr
  refine ⟨_, pe_tup b1, fun Γ M d e σ F A H h s Q q => ?_⟩
  obtain ⟨ds, e1, e⟩ := bindS e
  split at e
  · rename_i hl
    cases e
    refine b2 Γ M ds e1 σ F A H h s _ fun vs F1 H1 g1 r1 => ⟨by rw [← r1.len]; exact sz_of6 hl, fun p hp => ?_⟩
    exact q _ _ _ (g1.trans (Grow.new g1.fh hp)) (Rep.newTup g1.fh hp r1)
  · cases e
theorem gLst {r : Ax} (hr : PAG X C es r) : PEG X C (.List es pos) (xLst r) := by
  obtain ⟨tb, b1, b2⟩ := hr
  refine ⟨_, pe_lst b1, fun Γ M d e σ F A H h s Q q => ?_⟩
  obtain ⟨ds, e1, e⟩ := bindS e
  split at e
  · rename_i hl
    cases e
    refine b2 Γ M ds e1 σ F A H h s _ fun vs F1 H1 g1 r1 => ⟨by rw [← r1.len]; exact sz_of6 hl, fun p hp => ?_⟩
    exact q _ _ _ (g1.trans (Grow.new g1.fh hp)) (Rep.newLst g1.fh hp r1)
  · cases e
/-! ### calls of built-ins -/
theorem tCB_g {T : GE} {r : List V → Hp → VK → Prop} {k : Mem → List D → Option D} {t : TA} {w : Ax} (hr : RCG T r k) (ha : TAG T t w) : TEG T (tCB r t) (xCall k w) := by
  intro Γ M d e σ F A H h s Q q
  obtain ⟨ds, e1, e⟩ := bindS e
  refine ha Γ M ds e1 σ F A H h s _ fun vs F1 H1 g1 r1 => ?_
  exact hr M ds d e vs F1 A H1 (h.grow g1) r1 Q fun v F2 H2 g2 r2 => q v F2 H2 (g1.trans g2) r2
theorem gCaB {x : Str} {pp : Pos} {id : String} {k : Mem → List D → Option D} {w : Ax} (hc : CaG X C (.builtin id) k) (hg : Gl X x) (hm : X.mg x = none) (hv : bootBuiltins x = some (.builtin id)) (ha : PAG X C (e :: es) w) (hn : x ≠ "__name__" := by decide) (hdb : (x == ("__debug__" : Str)) = false := by decide)
    (he : starEach (e :: es) X.env = (false, eval e X.env) :: starEach es X.env := by rfl) (hpl : (backTo pos (starEach es X.env)).any (·.1) = false := by rfl) : PEG X C (.Call (.Name x pp) (e :: es) [] pos) (xCall k w) := by
  obtain ⟨r, c1, c2⟩ := hc
  obtain ⟨t, a1, a2⟩ := ha
  exact ⟨_, pe_callB c1 hg hm hv a1 hn hdb he hpl, tCB_g c2 a2⟩
theorem gCallTy {x : Str} {pp : Pos} {id : String} {k : Mem → List D → Option D} {w : Ax} (hc : CaG X C (.type id) k) (hg : Gl X x) (hm : X.mg x = none) (hv : bootBuiltins x = some (.type id)) (ha : PAG X C (e :: es) w) (hn : x ≠ "__name__" := by decide) (hdb : (x == ("__debug__" : Str)) = false := by decide)
    (he : starEach (e :: es) X.env = (false, eval e X.env) :: starEach es X.env := by rfl) (hpl : (backTo pos (starEach es X.env)).any (·.1) = false := by rfl) : PEG X C (.Call (.Name x pp) (e :: es) [] pos) (xCall k w) := by
  obtain ⟨r, c1, c2⟩ := hc
  obtain ⟨t, a1, a2⟩ := ha
  exact ⟨_, pe_callTy c1 hg hm hv a1 hn hdb he hpl, tCB_g c2 a2⟩
/-! ### slices -/
theorem gOnone : POG X C none oNone := ⟨_, po_none, fun Γ M d e σ F A H h s Q q => by cases e; exact q F H (Grow.refl h.fs)⟩
theorem gOsome (ha : PEG X C e f) : POG X C (some e) (oSome f) := by
  obtain ⟨t, a1, a2⟩ := ha
  refine ⟨_, po_some a1, fun Γ M d e σ F A H h s Q q => ?_⟩
  obtain ⟨x, e1, e⟩ := bindS e
  refine a2 Γ M x e1 σ F A H h s _ fun v F1 H1 g1 r1 => ?_
  split at e
  · cases e
    exact ⟨_, r1, q F1 H1 g1⟩
  · cases e
def RSG (T : GE) (r : V → Option Int → Option Int → Hp → VK → Prop) (g : Mem → D → Option Int → Option Int → Option D) : Prop := ∀ (M : Mem) (x z : D) (lo hi : Option Int), g M x lo hi = some z → ∀ (vx : V) (F : Hp) (A : List Addr) (H : Hp), HR T M F A H → Rep T F A x vx →
  ∀ Q : VK, (∀ v F' H', Grow F H F' H' → Rep T F' A z v → Q v H') → r vx lo hi H Q
def SlG (X : Cx) (C : Nat → Addr) (g : Mem → D → Option Int → Option Int → Option D) : Prop := ∃ r, SlR X r ∧ RSG ⟨X.K, C⟩ r g
def xSlice (k : Mem → D → Option Int → Option Int → Option D) (a : Ex) (lo hi : Ox) : Ex := fun Γ M => (a Γ M).bind fun x => (lo Γ M).bind fun l => (hi Γ M).bind fun u => k M x l u
theorem gSlice {k : Mem → D → Option Int → Option Int → Option D} {lo hi : Option Expr} {w1 w2 : Ox} {p2 : Pos} (hk : SlG X C k) (ha : PEG X C e f) (hl : POG X C lo w1) (hu : POG X C hi w2) : PEG X C (.Subscript e (.Slice lo hi none p2) pos) (xSlice k f w1 w2) := by
  obtain ⟨r, k1, k2⟩ := hk
  obtain ⟨t, a1, a2⟩ := ha
  obtain ⟨tl, l1, l2⟩ := hl
  obtain ⟨tu, u1, u2⟩ := hu
  refine ⟨_, pe_slice k1 a1 l1 u1, fun Γ M d e σ F A H h s Q q => ?_⟩
  obtain ⟨x, e1, e⟩ := bindS e
  obtain ⟨l, e2, e⟩ := bindS e
  obtain ⟨u, e3, e⟩ := bindS e
  refine a2 Γ M x e1 σ F A H h s _ fun v F1 H1 g1 r1 => ?_
  refine l2 Γ M l e2 σ F1 A H1 (h.grow g1) (s.same g1.ff) _ fun F2 H2 g2 => ?_
  refine u2 Γ M u e3 σ F2 A H2 ((h.grow g1).grow g2) ((s.same g1.ff).same g2.ff) _ fun F3 H3 g3 => ?_
  exact k2 M x d l u e v F3 A H3 (((h.grow g1).grow g2).grow g3) ((r1.same g2.ff).same g3.ff) Q fun v4 F4 H4 g4 r4 => q v4 F4 H4 (((g1.trans g2).trans g3).trans g4) r4
end
end G
set_option Elab.async false
set_option linter.all false
set_option maxRecDepth 100000
set_option maxHeartbeats 4000000
namespace G
open PySem PySem.Spec PyProof.Rows L2
/-! ### ints -/
/-- a number that a product takes -/
def numOk (i : Int) : Bool := decide (-1000000000000000000000000000000000000000000000000000000000000 < i ∧ i < 1000000000000000000000000000000000000000000000000000000000000)
/-- a list, or the script -/
def vQ (M : Mem) : D → Option (List D)
  | .scr ns => some (ns.map .int)
  | d => vL M d
def gAdd (M : Mem) (x y : D) : Option D := match x, y with
  | .int i, .int j => some (.int (i + j))
  | .str a, .str b => if a.length + b.length ≤ 1000000 then some (.str (a ++ b)) else none
  | x, y => (vQ M x).bind fun a => (vQ M y).bind fun b => if a.length + b.length ≤ 1000000 then some (.lst (a ++ b)) else none
def gSub (_ : Mem) (x y : D) : Option D := match x, y with
  | .int i, .int j => some (.int (i - j))
  | _, _ => none
def txtRep (z : Str) (n : Nat) : Str := ⟨(List.replicate n z.cps).foldl (· ++ ·) #[]⟩
def gMul (M : Mem) (x y : D) : Option D := match x, y with
  | .int i, .int j => if (numOk i && numOk j) = true then some (.int (i * j)) else none
  | .str z, .int j => if 1 ≤ j ∧ j ≤ 1000 ∧ 0 < z.length ∧ z.length ≤ 1000 then some (.str (txtRep z j.toNat)) else none
  | x, .int j => (vL M x).bind fun a => if -1000000 < j ∧ j < 1000000 ∧ a.length * j.toNat ≤ 1000000 then some (.lst (List.replicate j.toNat a).flatten) else none
  | _, _ => none
def gDiv (_ : Mem) (x y : D) : Option D := match x, y with
  | .int i, .int j => if (decide (0 < j) && numOk j) = true then some (.int (i / j)) else none
  | _, _ => none
def gMod (_ : Mem) (x y : D) : Option D := match x, y with
  | .int i, .int j => if 0 < j then some (.int (i % j)) else none
  | _, _ => none
def gPow (_ : Mem) (x y : D) : Option D := match x, y with
  | .int i, .int j => if 0 ≤ j ∧ j ≤ 1000 ∧ -1000000 < i ∧ i < 1000000 then some (.int (i ^ j.toNat)) else none
  | _, _ => none
def gCi (p : Int → Int → Bool) (_ : Mem) (x y : D) : Option D := match x, y with
  | .int i, .int j => some (.bl (p i j))
  | _, _ => none
def gLt := gCi fun i j => decide (i < j)
def gLe := gCi fun i j => decide (i ≤ j)
def gGt := gCi fun i j => decide (j < i)
def gGe := gCi fun i j => decide (j ≤ i)
theorem sz1 {n : Nat} (h : n ≤ 1000000) : n ≤ sizeLine := Nat.le_trans h (by decide)
theorem lim_lt : (1000000000000000000000000000000000000000000000000000000000000 : Nat) < 2 ^ 200 := by decide
theorem numOk_nat {i : Int} (h : numOk i = true) : i.natAbs < 2 ^ 200 := by
  have h' := of_decide_eq_true h
  exact Nat.lt_of_lt_of_le (show i.natAbs < 1000000000000000000000000000000000000000000000000000000000000 by omega) (Nat.le_of_lt lim_lt)
section
variable {T : GE} {M : Mem} {F H : Hp} {A : List Addr}
theorem RepsRv {ds : List D} {vs : List V} : ∀ (k : Nat), Reps T F A ds vs → Reps T F A (List.replicate k ds).flatten (List.replicate k vs).flatten
  | 0, _ => rfl
  | k + 1, h => by
    rw [List.replicate_succ, List.replicate_succ, List.flatten_cons, List.flatten_cons]
    exact h.append (RepsRv k h)
end
section
variable {X : Cx} {C : Nat → Addr}
theorem vQ_ok {T : GE} {M : Mem} {F H : Hp} {A : List Addr} (h : HR T M F A H) {d : D} {ds : List D} (e : vQ M d = some ds) {v : V} (r : Rep T F A d v) : ∃ a vs, v = .ref a ∧ SqL T.K H a vs ∧ Reps T F A ds vs := by
  unfold vQ at e
  split at e
  · rename_i ns
    cases e
    obtain ⟨a, rfl, ha⟩ := r
    refine ⟨a, _, rfl, h.fs.seq ha, ?_⟩
    clear ha
    induction ns with
    | nil => rfl
    | cons n ns ih => exact ⟨_, _, rfl, rfl, ih⟩
  · obtain ⟨a, vs, h1, h2, h3⟩ := vL_ok h e r
    exact ⟨a, vs, h1, SqL.of h2, h3⟩
/-- the sum of two lists, the script among them -/
theorem op_catQ : OpR X (binaryOp .Add) (fun x y H Q => ∃ l b xs zs, x = .ref l ∧ y = .ref b ∧ SqL X.K H l xs ∧ SqL X.K H b zs ∧ xs.length + zs.length ≤ sizeLine ∧ ∀ p, H p = none → Q (.ref p) (upd H p (.lst (xs ++ zs)))) := by
  intro pins s σ H x y v u Q I rx ry h
  obtain ⟨l, b, xs, zs, rfl, rfl, hl, hb, hz, q⟩ := h
  cases rx
  cases ry
  obtain ⟨us, r1, p1, _⟩ := I.list hl
  obtain ⟨ws, r2, p2, _⟩ := I.list hb
  obtain ⟨⟨c1, d1, t1, k1⟩, ho1, hc1, n1, hd1⟩ := p1.isList
  obtain ⟨⟨c2, d2, t2, k2⟩, ho2, hc2, n2, hd2⟩ := p2.isList
  simp only at hc1 hd1 hc2 hd2
  subst hc1 hd1 hc2 hd2
  have len1 := r1.length
  have len2 := r2.length
  have ea : us.toArray ++ ws.toArray = (us ++ ws).toArray := by simp
  refine concat_meets ⟨_, ho1, rfl⟩ ⟨_, ho2, rfl⟩ noFill_list_add seq_list_add PySem.F.slot_list_add PySem.F.entry_list_add (PySem.F.args_list_add_2 _ _)
    (list_addW l b us.toArray ws.toArray n1 n2 d1 d2 k1 k2 (by rw [List.size_toArray, List.size_toArray]; omega)) ⟨ho1, ho2, ?_⟩
  rw [ea]
  exact ⟨V.ref _, _, I.lnew (t' := s.toks) (r1.append r2) (by rw [List.length_append]; omega), rfl, q _ I.fresh⟩
/-- a text so many times -/
theorem op_txtRep : OpR X (binaryOp .Mult) (fun x y H Q => ∃ z n, x = .str z ∧ y = .int n ∧ 1 ≤ n ∧ n ≤ 1000 ∧ 0 < z.length ∧ z.length ≤ 1000 ∧ Q (.str (txtRep z n.toNat)) H) := by
  intro pins s σ H x y v u Q I rx ry h
  obtain ⟨z, n, rfl, rfl, h1, h2, h3, h4, q⟩ := h
  obtain ⟨t, rfl⟩ := rx
  obtain ⟨t', rfl⟩ := ry
  have hle : z.length * n.toNat ≤ 1000 * 1000 := Nat.mul_le_mul h4 (by omega)
  have lowcap : ∀ k : Int, 1 ≤ k → k ≤ 1000 → (1000 : Int) ≤ (2 ^ 63 - 1) / k := fun k a b => by
    rw [Int.le_ediv_iff_mul_le (by omega)]
    have : 1000 * k ≤ 1000 * 1000 := Int.mul_le_mul_of_nonneg_left b (by decide)
    exact Int.le_trans this (by decide)
  have hts : ∀ k : Nat, (txtRep z k).length = z.length * k := fun k => by
    have e : ∀ (m : Nat) (a : Array Nat), ((List.replicate m z.cps).foldl (· ++ ·) a).size = a.size + z.cps.size * m := by
      intro m
      induction m with
      | zero => intro a; rfl
      | succ m ih =>
        intro a
        rw [List.replicate_succ, List.foldl_cons, ih, Array.size_append, Nat.mul_succ]
        omega
    have := e k #[]
    simpa [txtRep, Str.length] using this
  refine PySem.P.mul_str (by rw [decide_eq_false (by omega), decide_eq_false (by omega)]; rfl) (fun _ _ => ?_) (fun _ _ => ?_) ?_
  · have := lowcap n h1 h2
    omega
  · exact decide_eq_false (by rw [sizeLine_eq]; omega)
  · rw [if_neg (by omega)]
    have q' : ∀ t k, EP X pins σ Q (.str (txtRep z n.toNat) t) { s with toks := k } := fun t k => ⟨.str (txtRep z n.toNat), H, I.tok k, ⟨t, rfl⟩, q⟩
    split
    · rename_i hc
      have : n = 1 := by
        rcases (Bool.or_eq_true _ _).mp hc with e | e
        · exact beq_iff_eq.mp e
        · have := beq_iff_eq.mp e; omega
      subst this
      have e1 : txtRep z (1 : Int).toNat = z := by
        obtain ⟨c⟩ := z
        show (⟨#[] ++ c⟩ : Str) = ⟨c⟩
        rw [Array.empty_append]
      rw [e1] at q'
      exact q' t s.toks
    · refine ⟨?_, q' _ _⟩
      show (txtRep z n.toNat).length ≤ sizeLine
      rw [hts, sizeLine_eq]
      omega
theorem oAdd : OpG X C (binaryOp .Add) gAdd := by
  refine ⟨_, op_add.or (op_add_str.or op_catQ), fun M x y z e vx vy F A H h rx ry Q q => ?_⟩
  unfold gAdd at e
  split at e
  · cases e
    exact .inl ⟨_, _, rx, ry, q _ F H (Grow.refl h.fs) rfl⟩
  · split at e
    · rename_i hl
      cases e
      exact .inr (.inl ⟨_, _, rx, ry, sz1 hl, q _ F H (Grow.refl h.fs) rfl⟩)
    · cases e
  · obtain ⟨a, e1, e⟩ := bindS e
    obtain ⟨b, e2, e⟩ := bindS e
    split at e
    · rename_i hl
      cases e
      obtain ⟨p, vs, rfl, hp, r1⟩ := vQ_ok h e1 rx
      obtain ⟨p2, vs2, rfl, hp2, r2⟩ := vQ_ok h e2 ry
      refine .inr (.inr ⟨p, p2, vs, vs2, rfl, rfl, hp, hp2, by rw [← r1.len, ← r2.len]; exact sz1 hl, fun u hu => ?_⟩)
      exact q _ _ _ (Grow.new h.fs hu) (Rep.newLst h.fs hu (r1.append r2))
    · cases e
theorem oSub : OpG X C (binaryOp .Sub) gSub := by
  refine ⟨_, op_sub, fun M x y z e vx vy F A H h rx ry Q q => ?_⟩
  unfold gSub at e
  split at e
  · cases e
    exact ⟨_, _, rx, ry, q _ F H (Grow.refl h.fs) rfl⟩
  · cases e
theorem oMul : OpG X C (binaryOp .Mult) gMul := by
  refine ⟨_, op_mulW.or (op_txtRep.or op_rep), fun M x y z e vx vy F A H h rx ry Q q => ?_⟩
  unfold gMul at e
  split at e
  · split at e
    · rename_i hk
      rw [Bool.and_eq_true] at hk
      cases e
      exact .inl ⟨_, _, rx, ry, wide_mul (numOk_nat hk.1) (numOk_nat hk.2) (by decide) (by decide) (by decide), q _ F H (Grow.refl h.fs) rfl⟩
    · cases e
  · split at e
    · rename_i hk
      cases e
      exact .inr (.inl ⟨_, _, rx, ry, hk.1, hk.2.1, hk.2.2.1, hk.2.2.2, q _ F H (Grow.refl h.fs) rfl⟩)
    · cases e
  · obtain ⟨a, e1, e⟩ := bindS e
    split at e
    · rename_i hl
      cases e
      obtain ⟨p, vs, rfl, hp, r1⟩ := vL_ok h e1 rx
      refine .inr (.inr ⟨p, _, vs, rfl, ry, hp, by omega, by omega, by rw [← r1.len]; exact sz1 hl.2.2, fun u hu => ?_⟩)
      exact q _ _ _ (Grow.new h.fs hu) (Rep.newLst h.fs hu (RepsRv _ r1))
    · cases e
  · cases e
theorem oDiv : OpG X C (binaryOp .FloorDiv) gDiv := by
  refine ⟨_, op_fdivW, fun M x y z e vx vy F A H h rx ry Q q => ?_⟩
  unfold gDiv at e
  split at e
  · split at e
    · rename_i hk
      rw [Bool.and_eq_true] at hk
      cases e
      exact ⟨_, _, rx, ry, wide_div (of_decide_eq_true hk.1) (numOk_nat hk.2) (by decide) (by decide), q _ F H (Grow.refl h.fs) rfl⟩
    · cases e
  · cases e
theorem oMod : OpG X C (binaryOp .Mod) gMod := by
  refine ⟨_, op_mod, fun M x y z e vx vy F A H h rx ry Q q => ?_⟩
  unfold gMod at e
  split at e
  · split at e
    · rename_i hk
      cases e
      exact ⟨_, _, rx, ry, hk, q _ F H (Grow.refl h.fs) rfl⟩
    · cases e
  · cases e
theorem oPow : OpG X C (binaryOp .Pow) gPow := by
  refine ⟨_, op_pow, fun M x y z e vx vy F A H h rx ry Q q => ?_⟩
  unfold gPow at e
  split at e
  · split at e
    · rename_i hk
      cases e
      refine ⟨_, _, rx, ry, ⟨hk.1, by omega, ?_⟩, q _ F H (Grow.refl h.fs) rfl⟩
      exact Nat.lt_of_lt_of_le (show _ < 1000000 by omega) (by decide)
    · cases e
  · cases e
theorem oCi {op : CmpOp} {p : Int → Int → Bool} (h : OpR X (compareOp op) (rI0 fun i j => .bl (p i j))) : OpG X C (compareOp op) (gCi p) := by
  refine ⟨_, h, fun M x y z e vx vy F A H h rx ry Q q => ?_⟩
  unfold gCi at e
  split at e
  · cases e
    exact ⟨_, _, rx, ry, q _ F H (Grow.refl h.fs) rfl⟩
  · cases e
theorem oLt : OpG X C (compareOp .Lt) gLt := oCi op_lt
theorem oLe : OpG X C (compareOp .LtE) gLe := oCi op_le
theorem oGt : OpG X C (compareOp .Gt) gGt := oCi op_gt
theorem oGe : OpG X C (compareOp .GtE) gGe := oCi op_ge
end
/-! ### is None -/
def isNon : D → Bool
  | .non => true
  | _ => false
def gIsN (_ : Mem) (x y : D) : Option D := match y with
  | .non => some (.bl (isNon x))
  | _ => none
def gNotN (_ : Mem) (x y : D) : Option D := match y with
  | .non => some (.bl (!isNon x))
  | _ => none
theorem Rep.nonIff {T : GE} {F : Hp} {A : List Addr} {x : D} {v : V} (r : Rep T F A x v) : decide (v = .non) = isNon x := by
  cases x with
  | non => cases r; rfl
  | bl _ => cases r; rfl
  | int _ => cases r; rfl
  | str _ => cases r; rfl
  | tup _ => obtain ⟨a, vs, rfl, _⟩ := r; rfl
  | lst _ => obtain ⟨a, vs, rfl, _⟩ := r; rfl
  | asc _ _ => obtain ⟨a, vs, rfl, _⟩ := r; rfl
  | loc _ => obtain ⟨a, _, rfl⟩ := r; rfl
  | scr _ => obtain ⟨a, rfl, _⟩ := r; rfl
  | ty _ => cases r; rfl
  | cls _ => cases r; rfl
  | exc _ _ => exact r.elim
section
variable {X : Cx} {C : Nat → Addr}
theorem oIsN : OpG X C (compareOp .Is) gIsN := by
  refine ⟨_, op_isN, fun M x y z e vx vy F A H h rx ry Q q => ?_⟩
  unfold gIsN at e
  split at e
  · cases e
    exact ⟨ry, q _ F H (Grow.refl h.fs) (by rw [rx.nonIff]; rfl)⟩
  · cases e
theorem oNotN : OpG X C (compareOp .IsNot) gNotN := by
  refine ⟨_, op_notN, fun M x y z e vx vy F A H h rx ry Q q => ?_⟩
  unfold gNotN at e
  split at e
  · cases e
    exact ⟨ry, q _ F H (Grow.refl h.fs) (by rw [rx.nonIff]; rfl)⟩
  · cases e
end
/-! ### == and != of data -/
mutual
def pdF : D → Option PyData
  | .non => some .none
  | .bl b => some (.bool b)
  | .int i => some (.int i)
  | .str x => some (.str x)
  | .tup ds => (pdFs ds).map .tuple
  | .lst ds => (pdFs ds).map .list
  | .asc _ _ => none
  | .loc _ => none
  | .scr _ => none
  | .ty _ => none
  | .cls _ => none
  | .exc _ _ => none
def pdFs : List D → Option (List PyData)
  | [] => some []
  | d :: r => (pdF d).bind fun a => (pdFs r).bind fun b => some (a :: b)
end
def pd (M : Mem) : D → Option PyData
  | .loc n => match M[n]? with
    | some (some (.lst ds)) => (pdFs ds).map .list
    | _ => none
  | d => pdF d
mutual
theorem pdF_ok {T : GE} {F H : Hp} {A : List Addr} (fs : Same F H) : ∀ (d : D) (p : PyData) (v : V), pdF d = some p → Rep T F A d v → Dp T.K H v p
  | .non, _, _, e, r => by simp only [pdF, Option.some.injEq] at e; subst e; cases r; exact .non
  | .bl b, _, _, e, r => by simp only [pdF, Option.some.injEq] at e; subst e; cases r; exact .bl _
  | .int b, _, _, e, r => by simp only [pdF, Option.some.injEq] at e; subst e; cases r; exact .int _
  | .str b, _, _, e, r => by simp only [pdF, Option.some.injEq] at e; subst e; cases r; exact .str _
  | .tup ds, _, _, e, r => by
    simp only [pdF, Option.map_eq_some_iff] at e
    obtain ⟨ps, e, rfl⟩ := e
    obtain ⟨a, vs, rfl, h1, h2⟩ := r
    exact .tup (SqT.of (fs _ _ h1)) (pdFs_ok fs ds ps vs e h2)
  | .lst ds, _, _, e, r => by
    simp only [pdF, Option.map_eq_some_iff] at e
    obtain ⟨ps, e, rfl⟩ := e
    obtain ⟨a, vs, rfl, h1, h2⟩ := r
    exact .lst (SqL.of (fs _ _ h1)) (pdFs_ok fs ds ps vs e h2)
  | .asc _ _, _, _, e, _ => by simp [pdF] at e
  | .loc _, _, _, e, _ => by simp [pdF] at e
  | .scr _, _, _, e, _ => by simp [pdF] at e
  | .ty _, _, _, e, _ => by simp [pdF] at e
  | .cls _, _, _, e, _ => by simp [pdF] at e
  | .exc _ _, _, _, e, _ => by simp [pdF] at e
theorem pdFs_ok {T : GE} {F H : Hp} {A : List Addr} (fs : Same F H) : ∀ (ds : List D) (ps : List PyData) (vs : List V), pdFs ds = some ps → Reps T F A ds vs → DpAll T.K H vs ps
  | [], _, _, e, r => by simp only [pdFs, Option.some.injEq] at e; subst e; cases r; exact .nil
  | d :: ds, ps, _, e, r => by
    simp only [pdFs] at e
    obtain ⟨a, e1, e⟩ := bindS e
    obtain ⟨b, e2, e⟩ := bindS e
    cases e
    obtain ⟨v, vr, rfl, r1, r2⟩ := r
    exact .cons (pdF_ok fs d a v e1 r1) (pdFs_ok fs ds b vr e2 r2)
end
theorem pd_ok {T : GE} {M : Mem} {F H : Hp} {A : List Addr} (h : HR T M F A H) {d : D} {p : PyData} {v : V} (e : pd M d = some p) (r : Rep T F A d v) : Dp T.K H v p := by
  unfold pd at e
  split at e
  · split at e
    · rename_i n ds hn
      simp only [Option.map_eq_some_iff] at e
      obtain ⟨ps, e, rfl⟩ := e
      obtain ⟨a, h1, rfl⟩ := r
      obtain ⟨vs, h3, h4⟩ := h.mem _ _ _ hn h1
      exact .lst (SqL.of h3) (pdFs_ok h.fs ds ps vs e h4)
    · cases e
  · exact pdF_ok h.fs _ p v e r
/-- the scalars; else data as a whole -/
def gEqB (M : Mem) (x y : D) : Option Bool := match x, y with
  | .int i, .int j => some (decide (i = j))
  | .str i, .str j => some (decide (i = j))
  | .bl i, .bl j => some (decide (i = j))
  | .non, .non => some true
  | .non, .int _ => some false
  | .int _, .non => some false
  | .non, .str _ => some false
  | .str _, .non => some false
  | .int _, .str _ => some false
  | .str _, .int _ => some false
  | x, y => (pd M x).bind fun a => (pd M y).bind fun b => if (SeqAt.shaped a && SeqAt.shaped b) = true then some (PyData.eqv a b) else none
def gEq (M : Mem) (x y : D) : Option D := (gEqB M x y).map .bl
def gNe (M : Mem) (x y : D) : Option D := (gEqB M x y).map fun k => .bl (!k)
theorem gEqB_ok {T : GE} {M : Mem} {F H : Hp} {A : List Addr} (h : HR T M F A H) {x y : D} {b : Bool} (e : gEqB M x y = some b) {vx vy : V} (rx : Rep T F A x vx) (ry : Rep T F A y vy) :
    (scal vx vy = true ∧ decide (vx = vy) = b) ∨ ∃ d e, Dp T.K H vx d ∧ Dp T.K H vy e ∧ SeqAt.shaped d = true ∧ SeqAt.shaped e = true ∧ PyData.eqv d e = b := by
  unfold gEqB at e
  split at e
  · cases e; cases rx; cases ry; exact .inl ⟨rfl, by simp⟩
  · cases e; cases rx; cases ry; exact .inl ⟨rfl, by simp⟩
  · cases e; cases rx; cases ry; exact .inl ⟨rfl, by simp⟩
  · cases e; cases rx; cases ry; exact .inl ⟨rfl, by simp⟩
  · cases e; cases rx; cases ry; exact .inl ⟨rfl, by simp⟩
  · cases e; cases rx; cases ry; exact .inl ⟨rfl, by simp⟩
  · cases e; cases rx; cases ry; exact .inl ⟨rfl, by simp⟩
  · cases e; cases rx; cases ry; exact .inl ⟨rfl, by simp⟩
  · cases e; cases rx; cases ry; exact .inl ⟨rfl, by simp⟩
  · cases e; cases rx; cases ry; exact .inl ⟨rfl, by simp⟩
  · obtain ⟨a, e1, e⟩ := bindS e
    obtain ⟨c, e2, e⟩ := bindS e
    split at e
    · rename_i hk
      rw [Bool.and_eq_true] at hk
      cases e
      exact .inr ⟨a, c, pd_ok h e1 rx, pd_ok h e2 ry, hk.1, hk.2, rfl⟩
    · cases e
section
variable {X : Cx} {C : Nat → Addr}
theorem oEq (hu : X.A.units + 64 < cLine) : OpG X C (compareOp .Eq) gEq := by
  refine ⟨_, op_eq.or (op_eqD hu), fun M x y z e vx vy F A H h rx ry Q q => ?_⟩
  obtain ⟨b, e', rfl⟩ := Option.map_eq_some_iff.mp e
  rcases gEqB_ok h e' rx ry with ⟨h1, h2⟩ | ⟨d, e, h1, h2, h3, h4, h5⟩
  · exact .inl ⟨h1, q _ F H (Grow.refl h.fs) (by rw [h2]; rfl)⟩
  · exact .inr ⟨d, e, h1, h2, h3, h4, q _ F H (Grow.refl h.fs) (by rw [h5]; rfl)⟩
theorem oNe (hu : X.A.units + 64 < cLine) : OpG X C (compareOp .NotEq) gNe := by
  refine ⟨_, op_ne.or (op_neD hu), fun M x y z e vx vy F A H h rx ry Q q => ?_⟩
  obtain ⟨b, e', rfl⟩ := Option.map_eq_some_iff.mp e
  rcases gEqB_ok h e' rx ry with ⟨h1, h2⟩ | ⟨d, e, h1, h2, h3, h4, h5⟩
  · exact .inl ⟨h1, q _ F H (Grow.refl h.fs) (by rw [h2]; rfl)⟩
  · exact .inr ⟨d, e, h1, h2, h3, h4, q _ F H (Grow.refl h.fs) (by rw [h5]; rfl)⟩
end
/-! ### in, not in: lists and tuples of flat items, dicts, a sign of a text -/
def flatD : D → Bool
  | .non => true
  | .bl _ => true
  | .int _ => true
  | .str _ => true
  | _ => false
def toV : D → V
  | .bl b => .bl b
  | .int i => .int i
  | .str x => .str x
  | _ => .non
def eqFl (a b : D) : Bool := match a, b with
  | .non, .non => true
  | .bl a, .bl b => a == b
  | .bl a, .int b => (if a then 1 else 0) == b
  | .int a, .bl b => a == (if b then 1 else 0)
  | .int a, .int b => a == b
  | .str a, .str b => a == b
  | _, _ => false
theorem flat_rep {T : GE} {F : Hp} {A : List Addr} {d : D} {v : V} (f : flatD d = true) (r : Rep T F A d v) : v = toV d ∧ flatV v = true := by
  cases d with
  | non => cases r; exact ⟨rfl, rfl⟩
  | bl _ => cases r; exact ⟨rfl, rfl⟩
  | int _ => cases r; exact ⟨rfl, rfl⟩
  | str _ => cases r; exact ⟨rfl, rfl⟩
  | _ => cases f
theorem flat_reps {T : GE} {F : Hp} {A : List Addr} : ∀ {ds : List D} {vs : List V}, ds.all flatD = true → Reps T F A ds vs → vs = ds.map toV ∧ vs.all flatV = true
  | [], _, _, r => by cases r; exact ⟨rfl, rfl⟩
  | d :: ds, _, f, ⟨v, w, e, r1, r2⟩ => by
    subst e
    rw [List.all_cons, Bool.and_eq_true] at f
    obtain ⟨h1, h2⟩ := flat_rep f.1 r1
    obtain ⟨h3, h4⟩ := flat_reps f.2 r2
    subst h1 h3
    exact ⟨rfl, by rw [List.all_cons, h2, h4]; rfl⟩
theorem eqV_toV {a b : D} (fa : flatD a = true) (fb : flatD b = true) : eqV (toV a) (toV b) = eqFl a b := by
  cases a <;> first | (cases fa; done) | (cases b <;> first | rfl | (cases fb; done))
theorem inV_toV {x : D} (fx : flatD x = true) : ∀ {ds : List D}, ds.all flatD = true → inV (toV x) (ds.map toV) = ds.any fun y => eqFl y x
  | [], _ => rfl
  | d :: ds, f => by
    rw [List.all_cons, Bool.and_eq_true] at f
    show (eqV (toV d) (toV x) || inV (toV x) (ds.map toV)) = (eqFl d x || ds.any fun y => eqFl y x)
    rw [eqV_toV f.1 fx, inV_toV fx f.2]
def vS (M : Mem) : D → Option (List D)
  | .tup ds => some ds
  | d => vL M d
theorem vS_ok {T : GE} {M : Mem} {F H : Hp} {A : List Addr} (h : HR T M F A H) {d : D} {ds : List D} (e : vS M d = some ds) {v : V} (r : Rep T F A d v) : ∃ a vs, v = .ref a ∧ (SqL T.K H a vs ∨ SqT T.K H a vs) ∧ Reps T F A ds vs := by
  unfold vS at e
  split at e
  · cases e
    obtain ⟨a, vs, h1, h2, h3⟩ := r
    exact ⟨a, vs, h1, .inr (SqT.of (h.fs _ _ h2)), h3⟩
  · obtain ⟨a, vs, h1, h2, h3⟩ := vL_ok h e r
    exact ⟨a, vs, h1, .inl (SqL.of h2), h3⟩
/-- a key as a value's D -/
def keyOf : D → Option DK
  | .int i => some (.i i)
  | .str x => some (.s x)
  | _ => none
def keyOfT : D → Option (List Key)
  | .tup [] => some []
  | .tup (.int i :: r) => (keyOfT (.tup r)).map fun ks => .inl i :: ks
  | .tup (.str x :: r) => (keyOfT (.tup r)).map fun ks => .inr x :: ks
  | _ => none
def getA : List (DK × D) → DK → Option D
  | [], _ => none
  | (k, d) :: r, j => if k = j then some d else getA r j
end G
set_option Elab.async false
set_option linter.all false
set_option maxRecDepth 100000
set_option maxHeartbeats 4000000
namespace G
open PySem PySem.Spec PyProof.Rows L2
/-! ### two roads for one expression -/
theorem PE.or {X : Cx} {e : Expr} {t u : TE} (h : PE X e t) (k : PE X e u) : PE X e (fun σ H Q => t σ H Q ∨ u σ H Q) :=
  ⟨fun pins s σ H Q I w => w.elim (h.run pins s σ H Q I) (k.run pins s σ H Q I)⟩
theorem PT.or {X : Cx} {e : Expr} {t u : TT} (h : PT X e t) (k : PT X e u) : PT X e (fun σ H Q => t σ H Q ∨ u σ H Q) :=
  ⟨fun pins s σ H Q I w => w.elim (h.run pins s σ H Q I) (k.run pins s σ H Q I)⟩
/-! ### tables -/
def keysOf : List D → Option (List Key)
  | [] => some []
  | .int i :: r => (keysOf r).map fun ks => .inl i :: ks
  | .str x :: r => (keysOf r).map fun ks => .inr x :: ks
  | _ :: _ => none
def kyOf : D → Option Key
  | .int i => some (.inl i)
  | .str x => some (.inr x)
  | _ => none
theorem kyOf_ok {T : GE} {F : Hp} {A : List Addr} {d : D} {k : Key} {v : V} (e : kyOf d = some k) (r : Rep T F A d v) : v = kV k := by
  cases d <;> simp only [kyOf, Option.some.injEq] at e <;> first | (subst e; cases r; rfl) | cases e
theorem keysOf_ok {T : GE} {F : Hp} {A : List Addr} : ∀ {ds : List D} {ks : List Key} {vs : List V}, keysOf ds = some ks → Reps T F A ds vs → vs = ks.map kV
  | [], _, _, e, r => by cases e; cases r; rfl
  | d :: ds, ks, vs, e, ⟨v, w, e2, r1, r2⟩ => by
    subst e2
    cases d <;> simp only [keysOf, Option.map_eq_some_iff] at e
    all_goals first
      | (obtain ⟨k2, e, rfl⟩ := e
         rw [keysOf_ok e r2]
         cases r1
         rfl)
      | cases e
/-- what is there, and its value -/
def OptRep (T : GE) (F : Hp) (A : List Addr) : Option D → Option V → Prop
  | some d, ov => ∃ v, ov = some v ∧ Rep T F A d v
  | none, ov => ov = none
theorem getA_k {T : GE} {F : Hp} {A : List Addr} (k : Key) : ∀ {ds : List (DK × D)} {ws : List (Key × V)}, RepA T F A ds (ws.map kx) → OptRep T F A (getA ds (ofKey k)) (valV ws k)
  | [], ws, r => by
    have : ws = [] := by cases ws with | nil => rfl | cons _ _ => cases r
    subst this
    rfl
  | (j, d) :: ds, [], r => by
    obtain ⟨v, w, e, _⟩ := r
    cases e
  | (j, d) :: ds, p :: ws, r => by
    obtain ⟨v, w, e, r1, r2⟩ := r
    rw [List.map_cons] at e
    injection e with e1 e2
    subst e2
    have ej : j = ofKey p.1 := (congrArg Prod.fst e1).symm
    have ev : v = p.2 := (congrArg Prod.snd e1).symm
    subst ej ev
    show OptRep T F A (if ofKey p.1 = ofKey k then some d else getA ds (ofKey k)) _
    by_cases hk : p.1 = k
    · rw [if_pos (congrArg ofKey hk)]
      exact ⟨p.2, valV_pos hk, r1⟩
    · rw [if_neg (fun z => hk (ofKey_inj z))]
      have := getA_k k r2
      rw [valV_neg hk]
      exact this
theorem getA_t {T : GE} {F : Hp} {A : List Addr} (k : List Key) : ∀ {ds : List (DK × D)} {ws : List (List Key × V)}, RepA T F A ds (ws.map tx) → OptRep T F A (getA ds (.t k)) (valV ws k)
  | [], ws, r => by
    have : ws = [] := by cases ws with | nil => rfl | cons _ _ => cases r
    subst this
    rfl
  | (j, d) :: ds, [], r => by
    obtain ⟨v, w, e, _⟩ := r
    cases e
  | (j, d) :: ds, p :: ws, r => by
    obtain ⟨v, w, e, r1, r2⟩ := r
    rw [List.map_cons] at e
    injection e with e1 e2
    subst e2
    have ej : j = .t p.1 := (congrArg Prod.fst e1).symm
    have ev : v = p.2 := (congrArg Prod.snd e1).symm
    subst ej ev
    show OptRep T F A (if DK.t p.1 = DK.t k then some d else getA ds (.t k)) _
    by_cases hk : p.1 = k
    · rw [if_pos (congrArg DK.t hk)]
      exact ⟨p.2, valV_pos hk, r1⟩
    · rw [if_neg (fun z => hk (by injection z))]
      have := getA_t k r2
      rw [valV_neg hk]
      exact this
theorem getA_f {T : GE} {F : Hp} {A : List Addr} (k : Str) : ∀ {ds : List (DK × D)} {ws : List (Str × V)}, RepA T F A ds (ws.map fx) → OptRep T F A (getA ds (.s k)) (ws.lookup k)
  | [], ws, r => by
    have : ws = [] := by cases ws with | nil => rfl | cons _ _ => cases r
    subst this
    rfl
  | (j, d) :: ds, [], r => by
    obtain ⟨v, w, e, _⟩ := r
    cases e
  | (j, d) :: ds, p :: ws, r => by
    obtain ⟨v, w, e, r1, r2⟩ := r
    rw [List.map_cons] at e
    injection e with e1 e2
    subst e2
    have ej : j = .s p.1 := (congrArg Prod.fst e1).symm
    have ev : v = p.2 := (congrArg Prod.snd e1).symm
    subst ej ev
    obtain ⟨p1, p2⟩ := p
    show OptRep T F A (if DK.s p1 = DK.s k then some d else getA ds (.s k)) _
    by_cases hk : p1 = k
    · subst hk
      rw [if_pos rfl]
      exact ⟨p2, by simp [List.lookup], r1⟩
    · rw [if_neg (fun z => hk (by injection z))]
      have := getA_f k r2
      have e3 : (k == p1) = false := beq_eq_false_iff_ne.mpr (Ne.symm hk)
      simp only [List.lookup, e3]
      exact this
/-- what a table tells of a key: none: no table, no key; some o: o is what is there -/
def gGet (M : Mem) (x y : D) : Option (Option D) := match vK M x with
  | some kvs => (kyOf y).map fun k => getA kvs (ofKey k)
  | none => (vT M x).bind fun kvs => match y with
    | .tup ds => (keysOf ds).map fun ks => getA kvs (.t ks)
    | _ => none
theorem gGet_ok {T : GE} {M : Mem} {F H : Hp} {A : List Addr} (h : HR T M F A H) {x y : D} {o : Option D} (e : gGet M x y = some o) {vx vy : V} (rx : Rep T F A x vx) (ry : Rep T F A y vy) :
    ∃ a ov, vx = .ref a ∧ DGet H a vy ov ∧ IsD H a ∧ OptRep T F A o ov := by
  unfold gGet at e
  split at e
  · rename_i kvs hk
    obtain ⟨k, e1, rfl⟩ := Option.map_eq_some_iff.mp e
    obtain ⟨a, ws, rfl, ha, r⟩ := vK_ok h hk rx
    have := kyOf_ok e1 ry
    subst this
    refine ⟨a, _, rfl, DGet.k ha, .inl ⟨ws, .inl ha⟩, ?_⟩
    exact getA_k k r
  · obtain ⟨kvs, hk, e⟩ := bindS e
    split at e
    · obtain ⟨k, e1, rfl⟩ := Option.map_eq_some_iff.mp e
      obtain ⟨a, ws, rfl, ha, r⟩ := vT_ok h hk rx
      obtain ⟨b, vs, rfl, hb, r2⟩ := ry
      have := keysOf_ok e1 r2
      subst this
      refine ⟨a, _, rfl, DGet.t ha (h.fs _ _ hb), .inr ⟨ws, .inl ha⟩, ?_⟩
      exact getA_t k r
    · cases e
/-! ### in -/
def isTab (M : Mem) (x : D) : Bool := (vK M x).isSome || (vT M x).isSome
def gInB (M : Mem) (x y : D) : Option Bool := match x, y with
  | .str s, .str z => if s.cps.size = 1 then some (decide (s.cps.toList.headD 0 ∈ z.cps.toList)) else none
  | x, y => match vS M y with
    | some ds => if (flatD x && ds.all flatD) = true then some (ds.any fun y => eqFl y x) else none
    | none => (gGet M y x).map (·.isSome)
def gIn (M : Mem) (x y : D) : Option D := (gInB M x y).map .bl
def gNotIn (M : Mem) (x y : D) : Option D := (gInB M x y).map fun k => .bl (!k)
theorem sign_of {s : Str} (h : s.cps.size = 1) : s = ⟨#[s.cps.toList.headD 0]⟩ := by
  obtain ⟨l⟩ := s
  obtain ⟨l⟩ := l
  match l, h with
  | [c], _ => rfl
section
variable {X : Cx} {C : Nat → Addr} {a b e : Expr} {f g : Ex} {pos : Pos}
/-- the reading of an in, and what it asks -/
def tInAll (K : PySem.W.Frag) (neg : Bool) (ta tb : TE) : TE := fun σ H Q => (tOp (rIn K neg) ta tb σ H Q ∨ tOp (fun x y H Q => ∃ (c : Nat) (z : Str), x = .str ⟨#[c]⟩ ∧ y = .str z ∧ Q (.bl (if neg then !decide (c ∈ z.cps.toList) else decide (c ∈ z.cps.toList))) H) ta tb σ H Q) ∨
  ta σ H fun y H1 => tb σ H1 fun x H2 => ∃ a o, x = .ref a ∧ DGet H2 a y o ∧ Q (.bl (if neg then !o.isSome else o.isSome)) H2
theorem inAll {T : GE} {ta tb : TE} (neg : Bool) (a2 : TEG T ta f) (b2 : TEG T tb g) : TEG T (tInAll T.K neg ta tb) (xBin (fun M x y => (gInB M x y).map fun k => .bl (if neg then !k else k)) f g) := by
  intro Γ M d e σ F A H h s Q q
  obtain ⟨x, e1, e⟩ := bindS e
  obtain ⟨y, e2, e⟩ := bindS e
  obtain ⟨k, e7, rfl⟩ := Option.map_eq_some_iff.mp e
  clear e
  have go : ∀ {P : V → V → Hp → Prop}, (∀ v u F2 H2, HR T M F2 A H2 → Grow F H F2 H2 → Rep T F2 A x v → Rep T F2 A y u → P v u H2) → ta σ H fun v H1 => tb σ H1 fun u H2 => P v u H2 := fun {P} hP => by
    refine a2 Γ M x e1 σ F A H h s _ fun v F1 H1 g1 r1 => ?_
    refine b2 Γ M y e2 σ F1 A H1 (h.grow g1) (s.same g1.ff) _ fun u F2 H2 g2 r2 => ?_
    exact hP v u F2 H2 ((h.grow g1).grow g2) (g1.trans g2) (r1.same g2.ff) r2
  unfold gInB at e7
  split at e7
  · split at e7
    · rename_i s0 z hs
      cases e7
      refine .inl (.inr (go fun v u F2 H2 h2 g2 r1 r2 => ?_))
      refine ⟨s0.cps.toList.headD 0, z, ?_, r2, q _ F2 H2 g2 rfl⟩
      rw [← sign_of hs]
      exact r1
    · cases e7
  · split at e7
    · rename_i ds hds
      split at e7
      · rename_i hf
        rw [Bool.and_eq_true] at hf
        cases e7
        refine .inl (.inl (go fun v u F2 H2 h2 g2 r1 r2 => ?_))
        obtain ⟨p, vs, rfl, hp, r3⟩ := vS_ok h2 hds r2
        obtain ⟨rfl, fv⟩ := flat_rep hf.1 r1
        obtain ⟨rfl, fvs⟩ := flat_reps hf.2 r3
        refine ⟨p, _, rfl, hp, fv, fvs, q _ F2 H2 g2 ?_⟩
        rw [inV_toV hf.1 hf.2]
        rfl
      · cases e7
    · obtain ⟨o, e8, rfl⟩ := Option.map_eq_some_iff.mp e7
      refine .inr (go fun v u F2 H2 h2 g2 r1 r2 => ?_)
      obtain ⟨p, ov, rfl, hd, _, ho⟩ := gGet_ok h2 e8 r2 r1
      refine ⟨p, ov, rfl, hd, q _ F2 H2 g2 ?_⟩
      cases o with
      | none => subst ho; rfl
      | some d' => obtain ⟨v', rfl, _⟩ := ho; rfl
theorem tTestI {T : GE} {t : TE} (ha : TEG T t f) : TTG T (fun σ H Q => t σ H fun x H1 => ∃ c, x = .bl c ∧ Q c H1) (tVal f) := tTest_g ha
theorem gIn_ (hu : X.A.units + 64 < cLine) (ha : PEG X C a f) (hb : PEG X C b g) (hm : behindInMarks .In b = false) : PEG X C (.Compare a [.In] [b] pos) (xBin gIn f g) := by
  obtain ⟨ta, a1, a2⟩ := ha
  obtain ⟨tb, b1, b2⟩ := hb
  exact ⟨_, PE.or (PE.or (pe_cmpR op_in_seq a1 b1 hm) (pe_cmpR op_in_sign a1 b1 hm)) (pe_cmp (pc_din (by omega) a1 b1) hm), inAll (T := ⟨X.K, C⟩) false a2 b2⟩
theorem gNotIn_ (hu : X.A.units + 64 < cLine) (ha : PEG X C a f) (hb : PEG X C b g) (hm : behindInMarks .NotIn b = false) : PEG X C (.Compare a [.NotIn] [b] pos) (xBin gNotIn f g) := by
  obtain ⟨ta, a1, a2⟩ := ha
  obtain ⟨tb, b1, b2⟩ := hb
  exact ⟨_, PE.or (PE.or (pe_cmpR op_notIn_seq a1 b1 hm) (pe_cmpR op_notIn_sign a1 b1 hm)) (pe_cmp (pc_dnotin (by omega) a1 b1) hm), inAll (T := ⟨X.K, C⟩) true a2 b2⟩
theorem gInT_ (hu : X.A.units + 64 < cLine) (ha : PEG X C a f) (hb : PEG X C b g) (hm : behindInMarks .In b = false) : PTG X C (.Compare a [.In] [b] pos) (tVal (xBin gIn f g)) := by
  obtain ⟨ta, a1, a2⟩ := ha
  obtain ⟨tb, b1, b2⟩ := hb
  exact ⟨_, PT.or (PT.or (pt_cmpR op_in_seq a1 b1 hm) (pt_cmpR op_in_sign a1 b1 hm)) (pt_cmp (pc_din (by omega) a1 b1) hm), tTestI (inAll (T := ⟨X.K, C⟩) false a2 b2)⟩
theorem gNotInT_ (hu : X.A.units + 64 < cLine) (ha : PEG X C a f) (hb : PEG X C b g) (hm : behindInMarks .NotIn b = false) : PTG X C (.Compare a [.NotIn] [b] pos) (tVal (xBin gNotIn f g)) := by
  obtain ⟨ta, a1, a2⟩ := ha
  obtain ⟨tb, b1, b2⟩ := hb
  exact ⟨_, PT.or (PT.or (pt_cmpR op_notIn_seq a1 b1 hm) (pt_cmpR op_notIn_sign a1 b1 hm)) (pt_cmp (pc_dnotin (by omega) a1 b1) hm), tTestI (inAll (T := ⟨X.K, C⟩) true a2 b2)⟩
/-! ### a < b < c -/
def xChain (k k2 : Mem → D → D → Option D) (a b c : Ex) : Ex := fun Γ M => (a Γ M).bind fun x => (b Γ M).bind fun y => (k M x y).bind fun z => match z with
  | .bl true => (c Γ M).bind fun w => k2 M y w
  | .bl false => some (.bl false)
  | _ => none
end
/-! ### o[i] -/
def atD (xs : List D) (i : Int) : Option D := atI xs i
def gItem (M : Mem) (x y : D) : Option D := match x, y with
  | .str z, .int i => if z.length ≤ 1000000 then (atI z.cps.toList i).map fun c => .str ⟨#[c]⟩ else none
  | .scr ns, .int i => (atI ns i).map .int
  | x, y => match vS M x with
    | some ds => (match y with
      | .int i => atI ds i
      | _ => none)
    | none => (gGet M x y).join
theorem atI_rep {T : GE} {F : Hp} {A : List Addr} {ds : List D} {vs : List V} {i : Int} {d : D} (r : Reps T F A ds vs) (e : atI ds i = some d) : ∃ v, atI vs i = some v ∧ Rep T F A d v := by
  unfold atI at e ⊢
  rw [← r.len]
  obtain ⟨j, e1, e2⟩ := bindS e
  obtain ⟨v, h1, h2⟩ := r.get' e2
  exact ⟨v, by rw [e1]; exact h1, h2⟩
section
variable {X : Cx} {C : Nat → Addr} {a b e : Expr} {f g : Ex} {pos : Pos}
theorem gItem_ (hu : X.A.units + 64 < cLine) (ha : PEG X C a f) (hb : PEG X C b g) (hs : PlainIx b := by exact fun _ _ => rfl) : PEG X C (.Subscript a b pos) (xBin gItem f g) := by
  obtain ⟨ta, a1, a2⟩ := ha
  obtain ⟨tb, b1, b2⟩ := hb
  refine ⟨_, PE.or (pe_ix ix_seq a1 b1 hs) (pe_dget (by omega) a1 b1 hs), fun Γ M d e σ F A H h s Q q => ?_⟩
  obtain ⟨x, e1, e⟩ := bindS e
  obtain ⟨y, e2, e⟩ := bindS e
  have go : ∀ {P : V → V → Hp → Prop}, (∀ v u F2 H2, HR ⟨X.K, C⟩ M F2 A H2 → Grow F H F2 H2 → Rep ⟨X.K, C⟩ F2 A x v → Rep ⟨X.K, C⟩ F2 A y u → P v u H2) → ta σ H fun v H1 => tb σ H1 fun u H2 => P v u H2 := fun {P} hP => by
    refine a2 Γ M x e1 σ F A H h s _ fun v F1 H1 g1 r1 => ?_
    refine b2 Γ M y e2 σ F1 A H1 (h.grow g1) (s.same g1.ff) _ fun u F2 H2 g2 r2 => ?_
    exact hP v u F2 H2 ((h.grow g1).grow g2) (g1.trans g2) (r1.same g2.ff) r2
  unfold gItem at e
  split at e
  · split at e
    · rename_i hz
      obtain ⟨c, e7, rfl⟩ := Option.map_eq_some_iff.mp e
      refine .inl (go fun v u F2 H2 h2 g2 r1 r2 => ?_)
      exact .inr (.inr ⟨_, _, c, r1, r2, sz1 hz, e7, q _ F2 H2 g2 rfl⟩)
    · cases e
  · obtain ⟨c, e7, rfl⟩ := Option.map_eq_some_iff.mp e
    refine .inl (go fun v u F2 H2 h2 g2 r1 r2 => ?_)
    obtain ⟨p, rfl, hp⟩ := r1
    refine .inl ⟨p, _, _, .int c, rfl, r2, (h2.fs.seq hp), ?_, q _ F2 H2 g2 rfl⟩
    unfold atI at e7 ⊢
    obtain ⟨j, e3, e4⟩ := bindS e7
    rw [List.length_map, e3]
    show (List.map V.int _)[j]? = _
    rw [List.getElem?_map, e4]
    rfl
  · split at e
    · rename_i ds hds
      split at e
      · refine .inl (go fun v u F2 H2 h2 g2 r1 r2 => ?_)
        obtain ⟨p, vs, rfl, hp, r3⟩ := vS_ok h2 hds r1
        obtain ⟨v, h3, r4⟩ := atI_rep r3 e
        rcases hp with hp | hp
        · exact .inl ⟨p, vs, _, v, rfl, r2, hp, h3, q _ F2 H2 g2 r4⟩
        · exact .inr (.inl ⟨p, vs, _, v, rfl, r2, hp, h3, q _ F2 H2 g2 r4⟩)
      · cases e
    · have e7 : gGet M x y = some (some d) := Option.join_eq_some_iff.mp e
      refine .inr (go fun v u F2 H2 h2 g2 r1 r2 => ?_)
      obtain ⟨p, ov, rfl, hd, _, v', rfl, r3⟩ := gGet_ok h2 e7 r1 r2
      exact ⟨p, v', rfl, hd, q _ F2 H2 g2 r3⟩
end
/-! ### slices -/
def cutD {α : Type} (xs : List α) (lo hi : Option Int) : List α := (xs.drop (HT.sIx xs.length 0 lo)).take (HT.sIx xs.length xs.length hi - HT.sIx xs.length 0 lo)
def gCut (M : Mem) (x : D) (lo hi : Option Int) : Option D := match x with
  | .str z => if z.length ≤ 1000000 then some (.str (cutS z lo hi)) else none
  | .scr ns => some (.lst ((cutD ns lo hi).map .int))
  | .tup ds => if HT.sIx ds.length 0 lo = 0 ∧ HT.sIx ds.length ds.length hi = ds.length then none else some (.tup (cutD ds lo hi))
  | x => (vL M x).map fun ds => .lst (cutD ds lo hi)
theorem cut_reps {T : GE} {F : Hp} {A : List Addr} {ds : List D} {vs : List V} {lo hi : Option Int} (r : Reps T F A ds vs) : Reps T F A (cutD ds lo hi) (cutV vs lo hi) := by
  unfold cutD cutV
  rw [r.len]
  exact (r.drop _).take _
theorem reps_ints {T : GE} {F : Hp} {A : List Addr} : ∀ ns : List Int, Reps T F A (ns.map .int) (ns.map V.int)
  | [] => rfl
  | n :: ns => ⟨_, _, rfl, rfl, reps_ints ns⟩
theorem reps_strs {T : GE} {F : Hp} {A : List Addr} : ∀ ns : List Str, Reps T F A (ns.map .str) (ns.map V.str)
  | [] => rfl
  | n :: ns => ⟨_, _, rfl, rfl, reps_strs ns⟩
theorem oCut {X : Cx} {C : Nat → Addr} : SlG X C gCut := by
  refine ⟨_, sl_list.or (sl_str.or sl_tup), fun M x z lo hi e vx F A H h rx Q q => ?_⟩
  unfold gCut at e
  split at e
  · split at e
    · rename_i z hz
      cases e
      exact .inr (.inl ⟨z, rx, sz1 hz, q _ F H (Grow.refl h.fs) rfl⟩)
    · cases e
  · rename_i ns
    cases e
    obtain ⟨p, rfl, hp⟩ := rx
    refine .inl ⟨p, _, rfl, h.fs.seq hp, fun u hu => q _ _ _ (Grow.new h.fs hu) (Rep.newLst h.fs hu ?_)⟩
    have : cutV (ns.map V.int) lo hi = (cutD ns lo hi).map V.int := by
      unfold cutV cutD
      rw [List.length_map, List.map_take, List.map_drop]
    rw [this]
    exact reps_ints _
  · split at e
    · cases e
    · rename_i ds hw
      cases e
      obtain ⟨p, vs, rfl, hp, r1⟩ := rx
      refine .inr (.inr ⟨p, vs, rfl, SqT.of (h.fs _ _ hp), by rw [← r1.len]; exact hw, fun u hu => q _ _ _ (Grow.new h.fs hu) (Rep.newTup h.fs hu (cut_reps r1))⟩)
  · obtain ⟨ds, e7, rfl⟩ := Option.map_eq_some_iff.mp e
    obtain ⟨p, vs, rfl, hp, r1⟩ := vL_ok h e7 rx
    exact .inl ⟨p, vs, rfl, SqL.of hp, fun u hu => q _ _ _ (Grow.new h.fs hu) (Rep.newLst h.fs hu (cut_reps r1))⟩
/-! ### len, sum, max, min, abs .. -/
def gLen (M : Mem) (xs : List D) : Option D := match xs with
  | [.str z] => if z.length ≤ 1000000 then some (.int z.length) else none
  | [.scr ns] => some (.int ns.length)
  | [x] => match vS M x with
    | some ds => some (.int ds.length)
    | none => (vK M x).map fun kvs => .int kvs.length
  | _ => none
theorem RepA.len {T : GE} {F : Hp} {A : List Addr} : ∀ {ds : List (DK × D)} {vs : List (DK × V)}, RepA T F A ds vs → ds.length = vs.length
  | [], _, h => by cases h; rfl
  | (k, d) :: ds, _, ⟨v, r, h1, h2, h3⟩ => by subst h1; simp [RepA.len h3]
theorem Reps.inv1 {T : GE} {F : Hp} {A : List Addr} {d : D} {vs : List V} (r : Reps T F A [d] vs) : ∃ v, vs = [v] ∧ Rep T F A d v := by
  obtain ⟨v, w, rfl, h, e⟩ := r
  cases e
  exact ⟨v, rfl, h⟩
theorem Reps.inv2 {T : GE} {F : Hp} {A : List Addr} {d e : D} {vs : List V} (r : Reps T F A [d, e] vs) : ∃ v u, vs = [v, u] ∧ Rep T F A d v ∧ Rep T F A e u := by
  obtain ⟨v, w, rfl, h, r2⟩ := r
  obtain ⟨u, rfl, h2⟩ := r2.inv1
  exact ⟨v, u, rfl, h, h2⟩
theorem cLen {X : Cx} {C : Nat → Addr} : CaG X C (.builtin "len") gLen := by
  refine ⟨_, (call_len_seq.or call_len_str).or call_lenD, fun M xs z e vs F A H h r Q q => ?_⟩
  unfold gLen at e
  split at e
  · split at e
    · rename_i z hz
      cases e
      obtain ⟨v, rfl, rv⟩ := r.inv1
      exact .inl (.inr ⟨z, by rw [show v = .str z from rv], sz1 hz, q _ F H (Grow.refl h.fs) rfl⟩)
    · cases e
  · rename_i ns
    cases e
    obtain ⟨v, rfl, p, rfl, hp⟩ := r.inv1
    refine .inl (.inl ⟨p, _, rfl, .inl (h.fs.seq hp), q _ F H (Grow.refl h.fs) ?_⟩)
    rw [List.length_map]
    rfl
  · obtain ⟨v, rfl, rv⟩ := r.inv1
    split at e
    · rename_i ds hds
      cases e
      obtain ⟨p, vs, rfl, hp, r1⟩ := vS_ok h hds rv
      exact .inl (.inl ⟨p, vs, rfl, hp, q _ F H (Grow.refl h.fs) (by rw [← r1.len]; rfl)⟩)
    · obtain ⟨kvs, hk, rfl⟩ := Option.map_eq_some_iff.mp e
      obtain ⟨a, ws, rfl, ha, r1⟩ := vK_ok h hk rv
      refine .inr ⟨a, ws, rfl, ha, q _ F H (Grow.refl h.fs) ?_⟩
      have := r1.len
      rw [List.length_map] at this
      rw [this]
      rfl
  · cases e
def intsOf : List D → Option (List Int)
  | [] => some []
  | .int i :: r => (intsOf r).map (i :: ·)
  | _ :: _ => none
theorem intsOf_ok {T : GE} {F : Hp} {A : List Addr} : ∀ {ds : List D} {ns : List Int} {vs : List V}, intsOf ds = some ns → Reps T F A ds vs → vs = ns.map V.int
  | [], _, _, e, r => by cases e; cases r; rfl
  | d :: ds, ks, vs, e, ⟨v, w, e2, r1, r2⟩ => by
    subst e2
    cases d <;> simp only [intsOf, Option.map_eq_some_iff] at e
    all_goals first
      | (obtain ⟨k2, e, rfl⟩ := e
         rw [intsOf_ok e r2]
         cases r1
         rfl)
      | cases e
def blsOf : List D → Option (List Bool)
  | [] => some []
  | .bl i :: r => (blsOf r).map (i :: ·)
  | _ :: _ => none
theorem blsOf_ok {T : GE} {F : Hp} {A : List Addr} : ∀ {ds : List D} {ns : List Bool} {vs : List V}, blsOf ds = some ns → Reps T F A ds vs → vs = ns.map V.bl
  | [], _, _, e, r => by cases e; cases r; rfl
  | d :: ds, ks, vs, e, ⟨v, w, e2, r1, r2⟩ => by
    subst e2
    cases d <;> simp only [blsOf, Option.map_eq_some_iff] at e
    all_goals first
      | (obtain ⟨k2, e, rfl⟩ := e
         rw [blsOf_ok e r2]
         cases r1
         rfl)
      | cases e
def strsOf : List D → Option (List Str)
  | [] => some []
  | .str i :: r => (strsOf r).map (i :: ·)
  | _ :: _ => none
theorem strsOf_ok {T : GE} {F : Hp} {A : List Addr} : ∀ {ds : List D} {ns : List Str} {vs : List V}, strsOf ds = some ns → Reps T F A ds vs → vs = ns.map V.str
  | [], _, _, e, r => by cases e; cases r; rfl
  | d :: ds, ks, vs, e, ⟨v, w, e2, r1, r2⟩ => by
    subst e2
    cases d <;> simp only [strsOf, Option.map_eq_some_iff] at e
    all_goals first
      | (obtain ⟨k2, e, rfl⟩ := e
         rw [strsOf_ok e r2]
         cases r1
         rfl)
      | cases e
def gSum (M : Mem) (xs : List D) : Option D := match xs with
  | [x] => (vL M x).bind fun ds => (intsOf ds).map fun ns => .int ns.sum
  | _ => none
def maxL : List Int → Int
  | [] => 0
  | [x] => x
  | x :: y :: r => if maxL (y :: r) > x then maxL (y :: r) else x
def minL : List Int → Int
  | [] => 0
  | [x] => x
  | x :: y :: r => if minL (y :: r) < x then minL (y :: r) else x
theorem maxL_mem : ∀ {l : List Int}, l ≠ [] → maxL l ∈ l ∧ ∀ y ∈ l, y ≤ maxL l
  | [x], _ => by simp [maxL]
  | x :: y :: r, _ => by
    obtain ⟨h1, h2⟩ := maxL_mem (l := y :: r) (by simp)
    unfold maxL
    split
    · rename_i hx
      refine ⟨List.mem_cons_of_mem _ h1, fun z hz => ?_⟩
      rcases List.mem_cons.mp hz with rfl | hz
      · omega
      · exact h2 z hz
    · rename_i hx
      refine ⟨List.mem_cons_self, fun z hz => ?_⟩
      rcases List.mem_cons.mp hz with rfl | hz
      · omega
      · have := h2 z hz
        omega
theorem minL_mem : ∀ {l : List Int}, l ≠ [] → minL l ∈ l ∧ ∀ y ∈ l, minL l ≤ y
  | [x], _ => by simp [minL]
  | x :: y :: r, _ => by
    obtain ⟨h1, h2⟩ := minL_mem (l := y :: r) (by simp)
    unfold minL
    split
    · rename_i hx
      refine ⟨List.mem_cons_of_mem _ h1, fun z hz => ?_⟩
      rcases List.mem_cons.mp hz with rfl | hz
      · omega
      · exact h2 z hz
    · rename_i hx
      refine ⟨List.mem_cons_self, fun z hz => ?_⟩
      rcases List.mem_cons.mp hz with rfl | hz
      · omega
      · have := h2 z hz
        omega
def gMax (M : Mem) (xs : List D) : Option D := match xs with
  | [.int i, .int j] => some (.int (if j > i then j else i))
  | [x] => (vL M x).bind fun ds => (intsOf ds).bind fun ns => match ns with
    | [] => none
    | n :: ns => some (.int (maxL (n :: ns)))
  | _ => none
def gMin (M : Mem) (xs : List D) : Option D := match xs with
  | [.int i, .int j] => some (.int (if j < i then j else i))
  | [x] => (vL M x).bind fun ds => (intsOf ds).bind fun ns => match ns with
    | [] => none
    | n :: ns => some (.int (minL (n :: ns)))
  | _ => none
def gAll (M : Mem) (xs : List D) : Option D := match xs with
  | [x] => (vL M x).bind fun ds => (blsOf ds).map fun ns => .bl (ns.all id)
  | _ => none
section
variable {X : Cx} {C : Nat → Addr}
theorem cSum (hc : X.calm = true) : CaG X C (.builtin "sum") gSum := by
  refine ⟨_, cr_sum hc, fun M xs z e vs F A H h r Q q => ?_⟩
  unfold gSum at e
  split at e
  · obtain ⟨v, rfl, rv⟩ := r.inv1
    obtain ⟨ds, e1, e⟩ := bindS e
    obtain ⟨ns, e2, rfl⟩ := Option.map_eq_some_iff.mp e
    obtain ⟨p, vs, rfl, hp, r1⟩ := vL_ok h e1 rv
    have := intsOf_ok e2 r1
    subst this
    exact ⟨p, ns, rfl, SqL.of hp, q _ F H (Grow.refl h.fs) rfl⟩
  · cases e
theorem cAll (hc : X.calm = true) : CaG X C (.builtin "all") gAll := by
  refine ⟨_, cr_all hc, fun M xs z e vs F A H h r Q q => ?_⟩
  unfold gAll at e
  split at e
  · obtain ⟨v, rfl, rv⟩ := r.inv1
    obtain ⟨ds, e1, e⟩ := bindS e
    obtain ⟨ns, e2, rfl⟩ := Option.map_eq_some_iff.mp e
    obtain ⟨p, vs, rfl, hp, r1⟩ := vL_ok h e1 rv
    have := blsOf_ok e2 r1
    subst this
    exact ⟨p, ns, rfl, SqL.of hp, q _ F H (Grow.refl h.fs) rfl⟩
  · cases e
theorem cMax (hc : X.calm = true) : CaG X C (.builtin "max") gMax := by
  refine ⟨_, (call_max2 hc).or (cr_max hc), fun M xs z e vs F A H h r Q q => ?_⟩
  unfold gMax at e
  split at e
  · cases e
    obtain ⟨v, u, rfl, rv, ru⟩ := r.inv2
    cases rv
    cases ru
    exact .inl ⟨_, _, rfl, q _ F H (Grow.refl h.fs) rfl⟩
  · obtain ⟨v, rfl, rv⟩ := r.inv1
    obtain ⟨ds, e1, e⟩ := bindS e
    obtain ⟨ns, e2, e⟩ := bindS e
    obtain ⟨p, vs, rfl, hp, r1⟩ := vL_ok h e1 rv
    have := intsOf_ok e2 r1
    subst this
    split at e
    · cases e
    · rename_i n ns
      cases e
      refine .inr ⟨p, n :: ns, rfl, SqL.of hp, Nat.succ_pos _, fun m hm hle => q _ F H (Grow.refl h.fs) ?_⟩
      have h1 := maxL_mem (l := n :: ns) (by simp)
      have : m = maxL (n :: ns) := Int.le_antisymm (h1.2 m hm) (hle _ h1.1)
      rw [this]
      rfl
  · cases e
theorem cMin (hc : X.calm = true) : CaG X C (.builtin "min") gMin := by
  refine ⟨_, (call_min2 hc).or (cr_min hc), fun M xs z e vs F A H h r Q q => ?_⟩
  unfold gMin at e
  split at e
  · cases e
    obtain ⟨v, u, rfl, rv, ru⟩ := r.inv2
    cases rv
    cases ru
    exact .inl ⟨_, _, rfl, q _ F H (Grow.refl h.fs) rfl⟩
  · obtain ⟨v, rfl, rv⟩ := r.inv1
    obtain ⟨ds, e1, e⟩ := bindS e
    obtain ⟨ns, e2, e⟩ := bindS e
    obtain ⟨p, vs, rfl, hp, r1⟩ := vL_ok h e1 rv
    have := intsOf_ok e2 r1
    subst this
    split at e
    · cases e
    · rename_i n ns
      cases e
      refine .inr ⟨p, n :: ns, rfl, SqL.of hp, Nat.succ_pos _, fun m hm hle => q _ F H (Grow.refl h.fs) ?_⟩
      have h1 := minL_mem (l := n :: ns) (by simp)
      have : m = minL (n :: ns) := Int.le_antisymm (hle _ h1.1) (h1.2 m hm)
      rw [this]
      rfl
  · cases e
end
end G
set_option Elab.async false
set_option linter.all false
set_option maxRecDepth 100000
set_option maxHeartbeats 4000000
namespace G
open PySem PySem.Spec PyProof.Rows L2
/-! ### statements -/
structure Exn where
  c : Nat
  row : Option Int
inductive Out where
  | nx (Γ : Sl) (M : Mem) | rt (d : D) (M : Mem) | bk (Γ : Sl) (M : Mem) | ct (Γ : Sl) (M : Mem) | ex (x : Exn) (Γ : Sl) (M : Mem)
abbrev Sx := Sl → Mem → Option Out
/-- what may have changed: what is frozen stays, what is neither frozen nor own stays, the own ones are more -/
structure Step (F : Hp) (A : List Addr) (H : Hp) (F' : Hp) (A' : List Addr) (H' : Hp) : Prop where
  ff : Same F F'
  kp : ∀ p o, H p = some o → p ∉ A → H' p = some o
  nf : ∀ p o, H p = some o → p ∉ A → F p = none → F' p = none
  px : ∃ B, A' = A ++ B ∧ ∀ b ∈ B, H b = none ∧ b ∉ A
theorem Step.refl {F H : Hp} {A : List Addr} : Step F A H F A H := ⟨Same.refl _, fun _ _ h _ => h, fun _ _ _ _ h => h, [], by simp, fun _ h => by cases h⟩
theorem Grow.step {F H F' H' : Hp} {A : List Addr} (g : Grow F H F' H') : Step F A H F' A H' := ⟨g.ff, fun p o h _ => g.hh p o h, fun p o h _ z => g.nf p o h z, [], by simp, fun _ h => by cases h⟩
theorem Step.trans {F H F1 H1 F2 H2 : Hp} {A A1 A2 : List Addr} (a : Step F A H F1 A1 H1) (b : Step F1 A1 H1 F2 A2 H2) : Step F A H F2 A2 H2 := by
  obtain ⟨B1, e1, p1⟩ := a.px
  obtain ⟨B2, e2, p2⟩ := b.px
  have notin : ∀ p o, H p = some o → p ∉ A → p ∉ A1 := fun p o h n hm => by
    rw [e1] at hm
    rcases List.mem_append.mp hm with z | z
    · exact n z
    · rw [(p1 p z).1] at h; cases h
  refine ⟨a.ff.trans b.ff, fun p o h n => b.kp p o (a.kp p o h n) (notin p o h n), fun p o h n z => b.nf p o (a.kp p o h n) (notin p o h n) (a.nf p o h n z), B1 ++ B2, by rw [e2, e1, List.append_assoc], fun x hx => ?_⟩
  rcases List.mem_append.mp hx with z | z
  · exact p1 x z
  · obtain ⟨q1, q2⟩ := p2 x z
    have nA : x ∉ A := fun y => q2 (by rw [e1]; exact List.mem_append_left _ y)
    refine ⟨?_, nA⟩
    cases e : H x with
    | none => rfl
    | some o => rw [a.kp x o e nA] at q1; cases q1
theorem Step.rep {T : GE} {F H F' H' : Hp} {A A' : List Addr} (s : Step F A H F' A' H') {d : D} {v : V} (r : Rep T F A d v) : Rep T F' A' d v := by
  obtain ⟨B, rfl, _⟩ := s.px
  exact Rep.mono s.ff d v r
theorem Step.reps {T : GE} {F H F' H' : Hp} {A A' : List Addr} (s : Step F A H F' A' H') {d : List D} {v : List V} (r : Reps T F A d v) : Reps T F' A' d v := by
  obtain ⟨B, rfl, _⟩ := s.px
  exact Reps.mono s.ff d v r
theorem Step.slots {T : GE} {F H F' H' : Hp} {A A' : List Addr} (s : Step F A H F' A' H') {Γ : Sl} {σ : L2.St} (r : SlotR T F A Γ σ) : SlotR T F' A' Γ σ :=
  ⟨r.1, fun i d q => let ⟨v, a, b⟩ := r.2 i d q; ⟨v, a, s.rep b⟩⟩
/-- an exception of the class c, its own field -/
def ExRep (T : GE) (H : Hp) (x : Exn) (cls : Value) (dd : Option Addr) : Prop := cls = .ref (T.C x.c) ∧ match x.row with
  | none => dd = none
  | some n => ∃ d, dd = some d ∧ H d = some (.xd [("row", .int n)])
section
variable (T : GE)
def OutOk (F : Hp) (A : List Addr) (H : Hp) (W : WX) (D : Ends) : Out → Prop
  | .nx Γ M => ∀ σ F' A' H', HR T M F' A' H' → SlotR T F' A' Γ σ → Step F A H F' A' H' → D.nx σ H'
  | .rt d M => ∀ v F' A' H', HR T M F' A' H' → Rep T F' A' d v → Step F A H F' A' H' → D.rt v H'
  | .bk Γ M => ∀ σ F' A' H', HR T M F' A' H' → SlotR T F' A' Γ σ → Step F A H F' A' H' → D.bk σ H'
  | .ct Γ M => ∀ σ F' A' H', HR T M F' A' H' → SlotR T F' A' Γ σ → Step F A H F' A' H' → D.ct σ H'
  | .ex x Γ M => ∀ cls dd σ F' A' H', HR T M F' A' H' → SlotR T F' A' Γ σ → ExRep T H' x cls dd → Step F A H F' A' H' → W cls dd σ H'
def TSG (W : WX) (t : TS) (f : Sx) : Prop := ∀ (Γ : Sl) (M : Mem) (o : Out), f Γ M = some o → ∀ (σ : L2.St) (F : Hp) (A : List Addr) (H : Hp), HR T M F A H → SlotR T F A Γ σ → ∀ D : Ends, OutOk T F A H W D o → t D σ H
/-- a new list, table: its content (own from here on) -/
def TNG (t : TE) (f : Ex) : Prop := ∀ (Γ : Sl) (M : Mem) (c : D), f Γ M = some c → ∀ (σ : L2.St) (F : Hp) (A : List Addr) (H : Hp), HR T M F A H → SlotR T F A Γ σ →
  ∀ Q : VK, (∀ p F' H', Grow F H F' H' → F' p = none → H p = none → Cont T F' A H' c p → Q (.ref p) H') → t σ H Q
end
def PSG (X : Cx) (C : Nat → Addr) (W : WX) (st : Stmt) (f : Sx) : Prop := ∃ t, PS X st t ∧ TSG ⟨X.K, C⟩ W t f
def PBG (X : Cx) (C : Nat → Addr) (W : WX) (st : List Stmt) (f : Sx) : Prop := ∃ t, PSs X st t ∧ TSG ⟨X.K, C⟩ W t f
def PNG (X : Cx) (C : Nat → Addr) (e : Expr) (f : Ex) : Prop := ∃ t, PE X e t ∧ TNG ⟨X.K, C⟩ t f
theorem OutOk.step {T : GE} {F H F1 H1 : Hp} {A A1 : List Addr} {W : WX} {D : Ends} {o : Out} (s : Step F A H F1 A1 H1) (k : OutOk T F A H W D o) : OutOk T F1 A1 H1 W D o := by
  cases o with
  | nx Γ M => exact fun σ F' A' H' a b c => k σ F' A' H' a b (s.trans c)
  | rt d M => exact fun σ F' A' H' a b c => k σ F' A' H' a b (s.trans c)
  | bk Γ M => exact fun σ F' A' H' a b c => k σ F' A' H' a b (s.trans c)
  | ct Γ M => exact fun σ F' A' H' a b c => k σ F' A' H' a b (s.trans c)
  | ex x Γ M => exact fun cls dd σ F' A' H' a b e c => k cls dd σ F' A' H' a b e (s.trans c)
/-- a new thing, frozen at once -/
theorem Cont.freeze {T : GE} {F H : Hp} {A : List Addr} (fs : Same F H) {p : Addr} {c : D} (hp : F p = none) (k : Cont T F A H c p) : ∃ F', Same F' H ∧ Same F F' ∧ (∀ q, q ≠ p → F' q = F q) ∧ Rep T F' A c (.ref p) := by
  obtain ⟨o, ho⟩ := k.there
  have s1 : Same F (upd F p o) := same_new hp
  refine ⟨upd F p o, fun b u q => ?_, s1, fun q hq => upd_ne hq, ?_⟩
  · by_cases hb : b = p
    · subst hb; rw [upd_same] at q; rw [ho]; exact q
    · rw [upd_ne hb] at q; exact fs b u q
  · cases c with
    | lst ds =>
      obtain ⟨vs, h, r⟩ := k
      rw [ho] at h; cases h
      exact ⟨p, vs, rfl, upd_same, r.same s1⟩
    | asc a kvs =>
      obtain ⟨vs, h, r⟩ := k
      refine ⟨p, vs, rfl, ?_, r.same s1⟩
      cases a with
      | k => obtain ⟨ws, h, e⟩ := h; rw [ho] at h; cases h; exact ⟨ws, upd_same, e⟩
      | t => obtain ⟨ws, h, e⟩ := h; rw [ho] at h; cases h; exact ⟨ws, upd_same, e⟩
      | ins c => obtain ⟨dx, ws, h, e⟩ := h; rw [ho] at h; cases h; exact ⟨dx, ws, upd_same, e⟩
    | _ => exact k.elim
theorem TNG.frz {T : GE} {t : TE} {f : Ex} (h : TNG T t f) : TEG T t f := fun Γ M d e σ F A H hh s Q q => by
  refine h Γ M d e σ F A H hh s Q fun p F' H' g np hp k => ?_
  obtain ⟨F2, s1, s2, s3, r⟩ := k.freeze g.fh np
  exact q _ F2 H' ⟨g.ff.trans s2, s1, g.hh, fun b o hb hz => by
    rw [s3 b (fun e => by rw [e, hp] at hb; cases hb)]
    exact g.nf b o hb hz⟩ r
theorem PNG.frz {X : Cx} {C : Nat → Addr} {e : Expr} {f : Ex} (h : PNG X C e f) : PEG X C e f := let ⟨t, a, b⟩ := h; ⟨t, a, b.frz⟩
/-! ### own objects: a new one, one that changes -/
theorem HR.add {T : GE} {M : Mem} {F H : Hp} {A : List Addr} (h : HR T M F A H) {p : Addr} {c : D} (np : F p = none) (nA : p ∉ A) (k : Cont T F A H c p) : HR T (M ++ [some c]) F (A ++ [p]) H := by
  have up : ∀ {c' : D} {a : Addr}, Cont T F A H c' a → Cont T F (A ++ [p]) H c' a := fun {c' a} z => by
    cases c' with
    | lst ds => obtain ⟨vs, z1, z2⟩ := z; exact ⟨vs, z1, Reps.mono (Same.refl _) _ _ z2⟩
    | asc a kvs => obtain ⟨vs, z1, z2⟩ := z; exact ⟨vs, z1, RepA.mono (Same.refl _) _ _ z2⟩
    | _ => exact z.elim
  have cases' : ∀ {n : Nat} {c' : D} {a : Addr}, (M ++ [some c])[n]? = some (some c') → (A ++ [p])[n]? = some a → (M[n]? = some (some c') ∧ A[n]? = some a) ∨ (c' = c ∧ a = p) := fun {n c' a} e1 e2 => by
    by_cases hn : n < M.length
    · rw [List.getElem?_append_left hn] at e1
      rw [List.getElem?_append_left (by rw [h.len]; exact hn)] at e2
      exact .inl ⟨e1, e2⟩
    · have e3 : n = M.length := by
        have := (List.getElem?_eq_some_iff.mp e1).1
        rw [List.length_append, List.length_singleton] at this
        omega
      subst e3
      rw [List.getElem?_append_right (Nat.le_refl _)] at e1
      rw [← h.len, List.getElem?_append_right (Nat.le_refl _)] at e2
      simp at e1 e2
      exact .inr ⟨e1.symm, e2.symm⟩
  refine ⟨h.fs, ?_, by rw [List.length_append, List.length_append, h.len]; rfl, fun n c' a e1 e2 => ?_, fun n c' a e1 e2 => ?_, fun a ha => ?_, fun n a e1 e2 => ?_⟩
  · rw [List.nodup_append]
    exact ⟨h.nd, by simp, fun a ha b hb e => nA (by rw [List.mem_singleton] at hb; rw [← hb, ← e]; exact ha)⟩
  · rcases cases' e1 e2 with ⟨x, y⟩ | ⟨rfl, rfl⟩
    · exact h.fr n c' a x y
    · exact np
  · rcases cases' e1 e2 with ⟨x, y⟩ | ⟨rfl, rfl⟩
    · exact up (h.mem n c' a x y)
    · exact up k
  · rcases List.mem_append.mp ha with z | z
    · exact h.al a z
    · rw [List.mem_singleton] at z
      subst z
      exact k.there
  · by_cases hn : n < M.length
    · rw [List.getElem?_append_left hn] at e1
      rw [List.getElem?_append_left (by rw [h.len]; exact hn)] at e2
      exact h.dd n a e1 e2
    · have e3 : n = M.length := by
        have := (List.getElem?_eq_some_iff.mp e1).1
        rw [List.length_append, List.length_singleton] at this
        omega
      subst e3
      rw [List.getElem?_append_right (Nat.le_refl _)] at e1
      simp at e1
theorem nodup_at {A : List Addr} (h : A.Nodup) {i j : Nat} {a : Addr} (e1 : A[i]? = some a) (e2 : A[j]? = some a) : i = j := nd_ix h e1 e2
theorem AscAt.other {T : GE} {H : Hp} {p : Addr} {o : HO} : ∀ {k : AK} {a : Addr} {vs}, a ≠ p → AscAt T H k a vs → AscAt T (upd H p o) k a vs
  | .k, _, _, n, ⟨ws, h, q⟩ => ⟨ws, by rw [upd_ne n]; exact h, q⟩
  | .t, _, _, n, ⟨ws, h, q⟩ => ⟨ws, by rw [upd_ne n]; exact h, q⟩
  | .ins _, _, _, n, ⟨dx, ws, h, q⟩ => ⟨dx, ws, by rw [upd_ne n]; exact h, q⟩
theorem HR.write {T : GE} {M : Mem} {F H : Hp} {A : List Addr} (h : HR T M F A H) {n : Nat} {c c' : D} {a : Addr} {o : HO} (e1 : M[n]? = some (some c)) (e2 : A[n]? = some a) (k : Cont T F A (upd H a o) c' a) :
    HR T (M.set n (some c')) F A (upd H a o) ∧ Step F A H F A (upd H a o) := by
  have fa := h.fr n c a e1 e2
  have hn : n < M.length := (List.getElem?_eq_some_iff.mp e1).1
  refine ⟨⟨fun b u q => ?_, h.nd, by rw [List.length_set]; exact h.len, fun m d b q1 q2 => ?_, fun m d b q1 q2 => ?_, fun b hb => ?_, fun m b q1 q2 => ?_⟩, ⟨Same.refl _, fun p u q np => ?_, fun _ _ _ _ z => z, [], by simp, fun _ z => by cases z⟩⟩
  · have : b ≠ a := ne_of_none q fa
    rw [upd_ne this]
    exact h.fs b u q
  · by_cases hm : m = n
    · subst hm
      rw [e2] at q2; cases q2
      exact fa
    · rw [List.getElem?_set_ne (Ne.symm hm)] at q1
      exact h.fr m d b q1 q2
  · by_cases hm : m = n
    · subst hm
      rw [e2] at q2; cases q2
      rw [List.getElem?_set_self hn] at q1
      cases q1
      exact k
    · rw [List.getElem?_set_ne (Ne.symm hm)] at q1
      have hb : b ≠ a := fun z => by subst z; exact hm (nodup_at h.nd q2 e2)
      have := h.mem m d b q1 q2
      cases d with
      | lst ds => obtain ⟨vs, z1, z2⟩ := this; exact ⟨vs, by rw [upd_ne hb]; exact z1, z2⟩
      | asc kk kvs => obtain ⟨vs, z1, z2⟩ := this; exact ⟨vs, z1.other hb, z2⟩
      | _ => exact this.elim
  · by_cases hba : b = a
    · exact ⟨o, by rw [hba]; exact upd_same⟩
    · obtain ⟨u, z⟩ := h.al b hb
      exact ⟨u, by rw [upd_ne hba]; exact z⟩
  · by_cases hm : m = n
    · subst hm
      rw [List.getElem?_set_self hn] at q1
      cases q1
    · rw [List.getElem?_set_ne (Ne.symm hm)] at q1
      exact h.dd m b q1 q2
  · rw [upd_ne (fun z => np (by rw [z]; exact List.mem_of_getElem? e2))]
    exact q
/-! ### small statements -/
theorem SlotR.set {T : GE} {F : Hp} {A : List Addr} {Γ : Sl} {σ : L2.St} (s : SlotR T F A Γ σ) {d : D} {v : V} (r : Rep T F A d v) (i : Nat) : SlotR T F A (Γ.set i (some d)) (σ.set i (some v)) := by
  refine ⟨by rw [List.length_set, List.length_set]; exact s.1, fun j e q => ?_⟩
  by_cases hj : i = j
  · subst hj
    have hl : i < Γ.length := by
      have := (List.getElem?_eq_some_iff.mp q).1
      rw [List.length_set] at this
      exact this
    rw [List.getElem?_set_self hl] at q
    cases q
    exact ⟨v, by rw [List.getElem?_set_self (by rw [← s.1]; exact hl)], r⟩
  · rw [List.getElem?_set_ne hj] at q
    obtain ⟨u, h1, h2⟩ := s.2 j e q
    exact ⟨u, by rw [List.getElem?_set_ne hj]; exact h1, h2⟩
def kills (Γ : Sl) : List Nat → Sl
  | [] => Γ
  | k :: r => (kills Γ r).set k none
theorem SlotR.kill1 {T : GE} {F : Hp} {A : List Addr} {Γ : Sl} {σ : L2.St} (s : SlotR T F A Γ σ) (i : Nat) : SlotR T F A (Γ.set i none) σ := by
  refine ⟨by rw [List.length_set]; exact s.1, fun j e q => ?_⟩
  by_cases hj : i = j
  · subst hj
    have hl : i < Γ.length := by
      have := (List.getElem?_eq_some_iff.mp q).1
      rw [List.length_set] at this
      exact this
    rw [List.getElem?_set_self hl] at q
    cases q
  · rw [List.getElem?_set_ne hj] at q
    exact s.2 j e q
theorem SlotR.kills {T : GE} {F : Hp} {A : List Addr} {Γ : Sl} {σ : L2.St} (s : SlotR T F A Γ σ) : ∀ l : List Nat, SlotR T F A (kills Γ l) σ
  | [] => s
  | k :: r => (s.kills r).kill1 k
def sNext : Sx := fun Γ M => some (.nx Γ M)
def sSeq (a b : Sx) : Sx := fun Γ M => (a Γ M).bind fun o => match o with
  | .nx Γ1 M1 => b Γ1 M1
  | o => some o
def sSet (i : Nat) (f : Ex) : Sx := fun Γ M => (f Γ M).bind fun d => some (.nx (Γ.set i (some d)) M)
/-- x = a new list, dict: own -/
def sNew (i : Nat) (f : Ex) : Sx := fun Γ M => (f Γ M).bind fun d => some (.nx (Γ.set i (some (.loc M.length))) (M ++ [some d]))
def sRet (f : Ex) : Sx := fun Γ M => (f Γ M).bind fun d => some (.rt d M)
def sRetN : Sx := fun _ M => some (.rt .non M)
def sDrop (f : Ex) : Sx := fun Γ M => (f Γ M).bind fun _ => some (.nx Γ M)
def sIf (c : Tx) (a b : Sx) : Sx := fun Γ M => (c Γ M).bind fun k => if k = true then a Γ M else b Γ M
def sBreak : Sx := fun Γ M => some (.bk Γ M)
def sCont : Sx := fun Γ M => some (.ct Γ M)
section
variable {X : Cx} {C : Nat → Addr} {W : WX} {st : Stmt} {rest : List Stmt} {a b e : Expr} {f g : Ex} {s1 s2 : Sx} {pos : Pos}
theorem bNil : PBG X C W [] sNext := ⟨_, pss_nil, fun Γ M o e σ F A H h s D k => by cases e; exact k σ F A H h s Step.refl⟩
theorem TSG.seq {T : GE} {t u : TS} (h1 : TSG T W t s1) (h2 : TSG T W u s2) : TSG T W (tSeq t u) (sSeq s1 s2) := by
  intro Γ M o e σ F A H h s D k
  obtain ⟨o1, e1, e⟩ := bindS e
  refine h1 Γ M o1 e1 σ F A H h s _ ?_
  cases o1 with
  | nx Γ1 M1 => exact fun σ1 F1 A1 H1 a1 b1 c1 => h2 Γ1 M1 o e σ1 F1 A1 H1 a1 b1 D (k.step c1)
  | rt d M1 => cases e; exact k
  | bk Γ1 M1 => cases e; exact k
  | ct Γ1 M1 => cases e; exact k
  | ex x Γ1 M1 => cases e; exact k
theorem bCons (h1 : PSG X C W st s1) (h2 : PBG X C W rest s2) : PBG X C W (st :: rest) (sSeq s1 s2) := let ⟨_, a, b⟩ := h1; let ⟨_, c, d⟩ := h2; ⟨_, pss_cons a c, b.seq d⟩
theorem bOne (h1 : PSG X C W st s1) : PBG X C W [st] s1 := let ⟨_, a, b⟩ := h1; ⟨_, pss_one a, b⟩
theorem sPass : PSG X C W (.Pass pos) sNext := ⟨_, ps_pass, fun Γ M o e σ F A H h s D k => by cases e; exact k σ F A H h s Step.refl⟩
theorem sBreak_ : PSG X C W (.Break pos) sBreak := ⟨_, ps_break, fun Γ M o e σ F A H h s D k => by cases e; exact k σ F A H h s Step.refl⟩
theorem sCont_ : PSG X C W (.Continue pos) sCont := ⟨_, ps_continue, fun Γ M o e σ F A H h s D k => by cases e; exact k σ F A H h s Step.refl⟩
theorem sSet_ {i : Nat} {x : Str} {py : Pos} (hN : X.N.Nodup) (hi : X.N[i]? = some x) (hx : Loc X.env.scope x) (he : PEG X C e f) (hs : swapsWithSole [.Name x py] e pos.line X.env = pure false := by rfl) (hw : swappedStores [.Name x py] e X.env = pure none := by rfl)
    (hf : X.fn x = true ∨ X.env.scope.names.lookup x = some .local := by first | exact .inl rfl | exact .inr rfl | assumption) : PSG X C W (.Assign [.Name x py] e pos) (sSet i f) := by
  obtain ⟨t, a1, a2⟩ := he
  refine ⟨_, ps_asg a1 (pg_name hN hi hx hf) hs hw, fun Γ M o e σ F A H h s D k => ?_⟩
  obtain ⟨d, e1, e⟩ := bindS e
  cases e
  exact a2 Γ M d e1 σ F A H h s _ fun v F1 H1 g1 r1 => k _ F1 A H1 (h.grow g1) ((s.same g1.ff).set r1 i) g1.step
theorem nAdd {T : GE} {M : Mem} {F H F' H' : Hp} {A : List Addr} {c : D} {p : Addr} (h : HR T M F A H) (g : Grow F H F' H') (np : F' p = none) (hp : H p = none) (k : Cont T F' A H' c p) :
    HR T (M ++ [some c]) F' (A ++ [p]) H' ∧ Step F A H F' (A ++ [p]) H' ∧ Rep T F' (A ++ [p]) (.loc M.length) (.ref p) := by
  have nA : p ∉ A := fun z => by
    obtain ⟨o, e⟩ := h.al p z
    rw [hp] at e
    cases e
  refine ⟨(h.grow g).add np nA k, ⟨g.ff, fun q o hq _ => g.hh q o hq, fun q o hq _ z => g.nf q o hq z, [p], rfl, fun b hb => ?_⟩, p, ?_, rfl⟩
  · rw [List.mem_singleton] at hb
    subst hb
    exact ⟨hp, nA⟩
  · rw [← h.len]
    simp
theorem sNew_ {i : Nat} {x : Str} {py : Pos} (hN : X.N.Nodup) (hi : X.N[i]? = some x) (hx : Loc X.env.scope x) (he : PNG X C e f) (hs : swapsWithSole [.Name x py] e pos.line X.env = pure false := by rfl) (hw : swappedStores [.Name x py] e X.env = pure none := by rfl)
    (hf : X.fn x = true ∨ X.env.scope.names.lookup x = some .local := by first | exact .inl rfl | exact .inr rfl | assumption) : PSG X C W (.Assign [.Name x py] e pos) (sNew i f) := by
  obtain ⟨t, a1, a2⟩ := he
  refine ⟨_, ps_asg a1 (pg_name hN hi hx hf) hs hw, fun Γ M o e σ F A H h s D k => ?_⟩
  obtain ⟨d, e1, e⟩ := bindS e
  cases e
  refine a2 Γ M d e1 σ F A H h s _ fun p F1 H1 g1 np hp kk => ?_
  obtain ⟨h1, s1, r1⟩ := nAdd h g1 np hp kk
  exact k _ F1 _ H1 h1 ((s1.slots s).set r1 i) s1
theorem sRet_ (he : PEG X C e f) : PSG X C W (.Return (some e) pos) (sRet f) := by
  obtain ⟨t, a1, a2⟩ := he
  refine ⟨_, ps_ret a1, fun Γ M o e σ F A H h s D k => ?_⟩
  obtain ⟨d, e1, e⟩ := bindS e
  cases e
  exact a2 Γ M d e1 σ F A H h s _ fun v F1 H1 g1 r1 => k v F1 A H1 (h.grow g1) r1 g1.step
theorem sRetN_ : PSG X C W (.Return none pos) sRetN := ⟨_, ps_retN, fun Γ M o e σ F A H h s D k => by cases e; exact k _ F A H h rfl Step.refl⟩
theorem sDrop_ (he : PEG X C e f) (hs : swapsWith e none pos.line X.env = pure false := by rfl) : PSG X C W (.Expr e pos) (sDrop f) := by
  obtain ⟨t, a1, a2⟩ := he
  refine ⟨_, ps_expr a1 hs, fun Γ M o e σ F A H h s D k => ?_⟩
  obtain ⟨d, e1, e⟩ := bindS e
  cases e
  exact a2 Γ M d e1 σ F A H h s _ fun v F1 H1 g1 r1 => k σ F1 A H1 (h.grow g1) (s.same g1.ff) g1.step
theorem sIf_ {c : Expr} {p : Tx} {sa sb : List Stmt} (hc : PTG X C c p) (h1 : PBG X C W sa s1) (h2 : PBG X C W sb s2) : PSG X C W (.If c sa sb pos) (sIf p s1 s2) := by
  obtain ⟨tc, c1, c2⟩ := hc
  obtain ⟨t1, a1, a2⟩ := h1
  obtain ⟨t2, b1, b2⟩ := h2
  refine ⟨_, ps_if c1 a1 b1, fun Γ M o e σ F A H h s D k => ?_⟩
  obtain ⟨x, e1, e⟩ := bindS e
  refine c2 Γ M x e1 σ F A H h s _ fun F1 H1 g1 => ?_
  cases x with
  | true => exact a2 Γ M o e σ F1 A H1 (h.grow g1) (s.same g1.ff) D (k.step g1.step)
  | false => exact b2 Γ M o e σ F1 A H1 (h.grow g1) (s.same g1.ff) D (k.step g1.step)
/-! ### new lists and tables -/
theorem nLst {es : List Expr} {r : Ax} (hr : PAG X C es r) : PNG X C (.List es pos) (xLst r) := by
  obtain ⟨tb, b1, b2⟩ := hr
  refine ⟨_, pe_lst b1, fun Γ M d e σ F A H h s Q q => ?_⟩
  obtain ⟨ds, e1, e⟩ := bindS e
  split at e
  · rename_i hl
    cases e
    refine b2 Γ M ds e1 σ F A H h s _ fun vs F1 H1 g1 r1 => ⟨by rw [← r1.len]; exact sz_of6 hl, fun p hp => ?_⟩
    have g2 : Grow F1 H1 F1 (upd H1 p (.lst vs)) := ⟨Same.refl _, g1.fh.trans (same_new hp), same_new hp, fun _ _ _ z => z⟩
    exact q p F1 _ (g1.trans g2) (g1.fh.free hp) (g1.hh.free hp) ⟨vs, upd_same, r1⟩
  · cases e
def xNewK : Ex := fun _ _ => some (.asc .k [])
def xNewT : Ex := fun _ _ => some (.asc .t [])
theorem nDictK : PNG X C (.Dict [] [] pos) xNewK := ⟨_, pe_dnewK, fun Γ M d e σ F A H h s Q q => by
  cases e
  exact fun p hp => q p F _ ⟨Same.refl _, h.fs.trans (same_new hp), same_new hp, fun _ _ _ z => z⟩ (h.fs.free hp) hp ⟨[], ⟨[], upd_same, rfl⟩, rfl⟩⟩
theorem nDictT : PNG X C (.Dict [] [] pos) xNewT := ⟨_, pe_dnewT, fun Γ M d e σ F A H h s Q q => by
  cases e
  exact fun p hp => q p F _ ⟨Same.refl _, h.fs.trans (same_new hp), same_new hp, fun _ _ _ z => z⟩ (h.fs.free hp) hp ⟨[], ⟨[], upd_same, rfl⟩, rfl⟩⟩
end
/-! ### x.append(e) and its like: an own list changes -/
/-- what a method does to the content -/
def RWG (T : GE) (ty : String) (r : V → List V → Hp → VK → Prop) (k : D → List D → Option D) : Prop := ∀ (c c' : D) (xs : List D), k c xs = some c' → ∀ (a : Addr) (vs : List V) (F : Hp) (A : List Addr) (H : Hp), Cont T F A H c a → Reps T F A xs vs →
  ∀ Q : VK, (∀ o v, Cont T F A (upd H a o) c' a → Q v (upd H a o)) → r (.ref a) vs H Q
def RTy (K : PySem.W.Frag) (ty : String) (k : D → List D → Option D) : Prop := ∀ (c c' : D) (xs : List D), k c xs = some c' → ∀ (T : GE) (a : Addr) (F : Hp) (A : List Addr) (H : Hp), Cont T F A H c a → tyV K ty (.ref a) H
def MwG (X : Cx) (C : Nat → Addr) (ty id : String) (k : D → List D → Option D) : Prop := ∃ r, MtR X id r ∧ RWG ⟨X.K, C⟩ ty r k ∧ RTy X.K ty k
def sMut (k : D → List D → Option D) (fr : Ex) (fa : Ax) : Sx := fun Γ M => (fr Γ M).bind fun x => (fa Γ M).bind fun ys => match x with
  | .loc n => (match M[n]? with
    | some (some c) => (k c ys).bind fun c' => some (.nx Γ (M.set n (some c')))
    | _ => none)
  | _ => none
section
variable {X : Cx} {C : Nat → Addr} {W : WX} {o e : Expr} {es : List Expr} {fr : Ex} {fa : Ax} {name : Str} {apos cpos spos : Pos} {ty id : String} {k : D → List D → Option D}
theorem mut_core {r : V → List V → Hp → VK → Prop} {to : TE} {t : TA} (hr : RWG ⟨X.K, C⟩ ty r k) (ht : RTy X.K ty k) (o2 : TEG ⟨X.K, C⟩ to fr) (e2 : TAG ⟨X.K, C⟩ t fa) : TSG ⟨X.K, C⟩ W (tDrop (tBM X.K ty r to t)) (sMut k fr fa) := by
  intro Γ M o e σ F A H h s D kk
  obtain ⟨x, q1, e⟩ := bindS e
  obtain ⟨ys, q2, e⟩ := bindS e
  split at e
  · split at e
    · rename_i n c hc
      obtain ⟨c', q3, e⟩ := bindS e
      cases e
      refine o2 Γ M _ q1 σ F A H h s _ fun v F1 H1 g1 r1 => ?_
      have h1 := h.grow g1
      obtain ⟨a, m1, rfl⟩ := r1
      have m2 := h1.mem _ _ _ hc m1
      refine ⟨?_, ?_⟩
      · exact ht c c' ys q3 _ a _ _ _ m2
      · refine e2 Γ M ys q2 σ F1 A H1 h1 (s.same g1.ff) _ fun vs F2 H2 g2 r2 => ?_
        have h2 := h1.grow g2
        refine hr c c' ys q3 a vs F2 A H2 (m2.grow g2) r2 _ fun o v m3 => ?_
        obtain ⟨w1, w2⟩ := h2.write hc m1 m3
        exact kk σ F2 A _ w1 ((s.same g1.ff).same g2.ff) ((g1.trans g2).step.trans w2)
    · cases e
  · cases e
theorem sMut_ (pa : PlainAttrs ty) (slot : Slot ty name id) (hty : typeOf (.builtin id) = pure (.type "method_descriptor")) (hk : MwG X C ty id k) (ho : PEG X C o fr) (ha : PAG X C (e :: es) fa)
    (hbase : attributeBase o name X.env (eval o X.env) = eval o X.env := by rfl)
    (hfew : ((backTo cpos (starEach (e :: es) X.env)).all (fun x => !x.1) && (backToKw cpos (keywordEach [] X.env)).all (fun x => x.1.isSome)
      && decide ((e :: es).length + ([] : List Keyword).length + (if ([] : List Keyword).isEmpty then 0 else 1) < 30)) = true := by rfl)
    (hline : (apos.endLine == cpos.line) = true := by rfl) (hs : starEach (e :: es) X.env = (false, eval e X.env) :: starEach es X.env := by rfl) (hplain : (backTo cpos (starEach es X.env)).any (·.1) = false := by rfl)
    (hsw : swapsWith (.Call (.Attribute o name apos) (e :: es) [] cpos) none spos.line X.env = pure false := by rfl) : PSG X C W (.Expr (.Call (.Attribute o name apos) (e :: es) [] cpos) spos) (sMut k fr fa) := by
  obtain ⟨to, o1, o2⟩ := ho
  obtain ⟨t, e1, e2⟩ := ha
  obtain ⟨r, k1, k2, k3⟩ := hk
  exact ⟨_, ps_expr (pe_bm pa slot hty k1 o1 e1 hbase hfew hline hs hplain) hsw, mut_core k2 k3 o2 e2⟩
theorem sMut0_ (pa : PlainAttrs ty) (slot : Slot ty name id) (hty : typeOf (.builtin id) = pure (.type "method_descriptor")) (hk : MwG X C ty id k) (ho : PEG X C o fr)
    (mk : ∀ {r : V → List V → Hp → VK → Prop} {to : TE}, MtR X id r → PE X o to → PE X (.Call (.Attribute o name apos) [] [] cpos) (tBM0 X.K ty r to))
    (hsw : swapsWith (.Call (.Attribute o name apos) [] [] cpos) none spos.line X.env = pure false := by rfl) : PSG X C W (.Expr (.Call (.Attribute o name apos) [] [] cpos) spos) (sMut k fr xAnil) := by
  obtain ⟨to, o1, o2⟩ := ho
  obtain ⟨r, k1, k2, k3⟩ := hk
  refine ⟨_, ps_expr (mk k1 o1) hsw, fun Γ M o e σ F A H h s D kk => ?_⟩
  have := mut_core (W := W) (t := tNil) (fa := xAnil) (X := X) k2 k3 o2 (fun Γ M d e σ F A H h s Q q => by cases e; exact q [] F H (Grow.refl h.fs) rfl) Γ M o e σ F A H h s D kk
  exact this
end
/-! ### the lists' methods -/
def kApp (c : D) (xs : List D) : Option D := match c, xs with
  | .lst ds, [y] => if ds.length < 1000000 then some (.lst (ds ++ [y])) else none
  | _, _ => none
def kClr (c : D) (xs : List D) : Option D := match c, xs with
  | .lst _, [] => some (.lst [])
  | _, _ => none
def kRev (c : D) (xs : List D) : Option D := match c, xs with
  | .lst ds, [] => some (.lst ds.reverse)
  | _, _ => none
section
variable {X : Cx} {C : Nat → Addr}
theorem wApp : MwG X C "list" "list.append" kApp := by
  refine ⟨_, mt_append, fun c c' xs e a vs F A H hc hv Q q => ?_, fun c c' xs e T a F A H hc => ?_⟩
  · unfold kApp at e
    split at e
    · split at e
      · rename_i hz
        cases e
        obtain ⟨ws, h1, h2⟩ := hc
        obtain ⟨v, rfl, h3⟩ := hv.inv1
        exact ⟨a, ws, v, rfl, rfl, h1, by rw [← h2.len]; exact Nat.lt_of_lt_of_le hz (by decide), q _ _ ⟨_, upd_same, h2.append (Reps.one h3)⟩⟩
      · cases e
    · cases e
  · unfold kApp at e
    split at e
    · obtain ⟨ws, h1, _⟩ := hc
      exact .inl ⟨rfl, ws, SqL.of h1⟩
    · cases e
theorem wClr : MwG X C "list" "list.clear" kClr := by
  refine ⟨_, mt_clear, fun c c' xs e a vs F A H hc hv Q q => ?_, fun c c' xs e T a F A H hc => ?_⟩
  · unfold kClr at e
    split at e
    · cases e
      obtain ⟨ws, h1, h2⟩ := hc
      cases hv
      exact ⟨a, ws, rfl, rfl, h1, q _ _ ⟨[], upd_same, rfl⟩⟩
    · cases e
  · unfold kClr at e
    split at e
    · obtain ⟨ws, h1, _⟩ := hc
      exact .inl ⟨rfl, ws, SqL.of h1⟩
    · cases e
theorem wRev : MwG X C "list" "list.reverse" kRev := by
  refine ⟨_, mt_reverse, fun c c' xs e a vs F A H hc hv Q q => ?_, fun c c' xs e T a F A H hc => ?_⟩
  · unfold kRev at e
    split at e
    · cases e
      obtain ⟨ws, h1, h2⟩ := hc
      cases hv
      exact ⟨a, ws, rfl, rfl, h1, q _ _ ⟨_, upd_same, h2.reverse⟩⟩
    · cases e
  · unfold kRev at e
    split at e
    · obtain ⟨ws, h1, _⟩ := hc
      exact .inl ⟨rfl, ws, SqL.of h1⟩
    · cases e
end
end G
set_option Elab.async false
set_option linter.all false
set_option maxRecDepth 100000
set_option maxHeartbeats 4000000
namespace G
open PySem PySem.Spec PyProof.Rows L2
/-! ### o[i] = e -/
def withLoc {α : Type} (M : Mem) (x : D) (k : Nat → D → Option α) : Option α := match x with
  | .loc n => (match M[n]? with
    | some (some c) => k n c
    | _ => none)
  | _ => none
theorem withLoc_inv {α : Type} {M : Mem} {x : D} {k : Nat → D → Option α} {o : α} (e : withLoc M x k = some o) : ∃ n c, x = .loc n ∧ M[n]? = some (some c) ∧ k n c = some o := by
  unfold withLoc at e
  split at e
  · split at e
    · exact ⟨_, _, rfl, by assumption, e⟩
    · cases e
  · cases e
def putA (kvs : List (DK × D)) (k : DK) (d : D) : List (DK × D) :=
  if (kvs.any fun kv => decide (kv.1 = k)) = true then kvs.map (fun kv => if kv.1 = k then (kv.1, d) else kv) else kvs ++ [(k, d)]
section
variable {T : GE} {F H : Hp} {A : List Addr}
theorem RepA.append : ∀ {ds es : List (DK × D)} {vs ws : List (DK × V)}, RepA T F A ds vs → RepA T F A es ws → RepA T F A (ds ++ es) (vs ++ ws)
  | [], _, _, _, h, k => by cases h; exact k
  | (j, d) :: ds, _, _, _, ⟨v, r, h1, h2, h3⟩, k => by subst h1; exact ⟨v, _, rfl, h2, RepA.append h3 k⟩
theorem RepA.keys : ∀ {ds : List (DK × D)} {vs : List (DK × V)}, RepA T F A ds vs → ds.map (·.1) = vs.map (·.1)
  | [], _, h => by cases h; rfl
  | (j, d) :: ds, _, ⟨v, r, h1, h2, h3⟩ => by subst h1; simp [RepA.keys h3]
theorem RepA.repl {k : DK} {d : D} {v : V} (q : Rep T F A d v) : ∀ {ds : List (DK × D)} {vs : List (DK × V)}, RepA T F A ds vs →
    RepA T F A (ds.map fun kv => if kv.1 = k then (kv.1, d) else kv) (vs.map fun kv => if kv.1 = k then (kv.1, v) else kv)
  | [], _, h => by cases h; rfl
  | (j, e) :: ds, _, ⟨u, r, h1, h2, h3⟩ => by
    subst h1
    rw [List.map_cons, List.map_cons]
    by_cases hj : j = k
    · rw [if_pos hj, if_pos hj]
      exact ⟨v, _, rfl, q, RepA.repl q h3⟩
    · rw [if_neg hj, if_neg hj]
      exact ⟨u, _, rfl, h2, RepA.repl q h3⟩
theorem any_map {α β : Type} [DecidableEq α] [DecidableEq β] (f : α → β) (hf : ∀ a b, f a = f b → a = b) (k : α) : ∀ ws : List (α × V), (ws.map fun p => (f p.1, p.2)).any (fun kv => decide (kv.1 = f k)) = ws.any fun kv => decide (kv.1 = k)
  | [] => rfl
  | p :: ws => by
    rw [List.map_cons, List.any_cons, List.any_cons, any_map f hf k ws]
    congr 1
    by_cases h : p.1 = k
    · rw [decide_eq_true h, decide_eq_true (congrArg f h)]
    · rw [decide_eq_false h, decide_eq_false (fun z => h (hf _ _ z))]
theorem any_keys (k : DK) : ∀ {ds : List (DK × D)} {vs : List (DK × V)}, ds.map (·.1) = vs.map (·.1) → (ds.any fun kv => decide (kv.1 = k)) = vs.any fun kv => decide (kv.1 = k)
  | [], [], _ => rfl
  | [], _ :: _, h => by cases h
  | _ :: _, [], h => by cases h
  | p :: ds, q :: vs, h => by
    rw [List.map_cons, List.map_cons] at h
    injection h with h1 h2
    rw [List.any_cons, List.any_cons, any_keys k h2, h1]
theorem put_map {α : Type} [DecidableEq α] (f : α → DK) (hf : ∀ a b, f a = f b → a = b) {d : D} {v : V} (q : Rep T F A d v) (k : α) {ds : List (DK × D)} {ws : List (α × V)} (r : RepA T F A ds (ws.map fun p => (f p.1, p.2))) :
    RepA T F A (putA ds (f k) d) ((putK ws k v).map fun p => (f p.1, p.2)) := by
  unfold putA putK
  rw [any_keys (f k) r.keys, any_map f hf k ws]
  split
  · have e : (ws.map fun kv => if kv.1 = k then (kv.1, v) else kv).map (fun p => (f p.1, p.2)) = (ws.map fun p => (f p.1, p.2)).map fun kv => if kv.1 = f k then (kv.1, v) else kv := by
      rw [List.map_map, List.map_map]
      refine List.map_congr_left fun p _ => ?_
      show (f (if p.1 = k then (p.1, v) else p).1, (if p.1 = k then (p.1, v) else p).2) = if f p.1 = f k then (f p.1, v) else (f p.1, p.2)
      by_cases h : p.1 = k
      · rw [if_pos h, if_pos (congrArg f h)]
      · rw [if_neg h, if_neg (fun z => h (hf _ _ z))]
    rw [e]
    exact r.repl q
  · rw [List.map_append]
    exact r.append ⟨v, [], rfl, q, rfl⟩
theorem put_k {d : D} {v : V} (q : Rep T F A d v) (k : Key) {ds : List (DK × D)} {ws : List (Key × V)} (r : RepA T F A ds (ws.map kx)) : RepA T F A (putA ds (ofKey k) d) ((putK ws k v).map kx) := put_map ofKey (fun _ _ => ofKey_inj) q k r
theorem put_t {d : D} {v : V} (q : Rep T F A d v) (k : List Key) {ds : List (DK × D)} {ws : List (List Key × V)} (r : RepA T F A ds (ws.map tx)) : RepA T F A (putA ds (.t k) d) ((putK ws k v).map tx) := put_map DK.t (fun _ _ h => by injection h) q k r
end
/-- the content behind o[y] = d -/
def kPut (c y d : D) : Option D := match c, y with
  | .lst ds, .int i => (ixN ds.length i).map fun j => .lst (ds.set j d)
  | .asc .k kvs, y => (kyOf y).bind fun k => if kvs.length < 1000000 then some (.asc .k (putA kvs (ofKey k) d)) else none
  | .asc .t kvs, .tup ys => (keysOf ys).bind fun k => if kvs.length < 1000000 then some (.asc .t (putA kvs (.t k) d)) else none
  | _, _ => none
def sPut (fo fi fv : Ex) : Sx := fun Γ M => (fv Γ M).bind fun d => (fo Γ M).bind fun x => (fi Γ M).bind fun y => withLoc M x fun n c => (kPut c y d).bind fun c' => some (.nx Γ (M.set n (some c')))
theorem PS.or {X : Cx} {e : Stmt} {t u : TS} (h : PS X e t) (k : PS X e u) : PS X e (fun D σ H => t D σ H ∨ u D σ H) :=
  ⟨fun pins s σ H D I w => w.elim (h.run pins s σ H D I) (k.run pins s σ H D I)⟩
section
variable {X : Cx} {C : Nat → Addr} {W : WX} {o i e : Expr} {fo fi fv : Ex} {pos pos' : Pos}
theorem sPut_ (hu : X.A.units + 64 < cLine) (ho : PEG X C o fo) (hi : PEG X C i fi) (he : PEG X C e fv) (hs : swapsWith e (some (.Subscript o i pos')) pos.line X.env = pure false := by rfl)
    (ha : ∀ v, assign (.Subscript o i pos') X.env v = (do
      let ov ← holding [v] (eval o X.env)
      let iv ← holding [v, ov] (eval i X.env)
      standAt pos'
      holding [v, ov, iv] (setItem ov iv v)
      release [v, ov, iv] []) := by intro _; rfl)
    (hs2 : swapsWithSole [.Subscript o i pos'] e pos.line X.env = pure false := by rfl) (hw : swappedStores [.Subscript o i pos'] e X.env = pure none := by rfl) (h1 : (assignEach [.Subscript o i pos'] X.env).map (·.2) = [assign (.Subscript o i pos') X.env] := by rfl) :
    PSG X C W (.Assign [.Subscript o i pos'] e pos) (sPut fo fi fv) := by
  obtain ⟨to, o1, o2⟩ := ho
  obtain ⟨ti, i1, i2⟩ := hi
  obtain ⟨tv, v1, v2⟩ := he
  refine ⟨_, PS.or (ps_asg v1 (pg_sub o1 i1 set_list ha) hs2 hw h1) (ps_dput (by omega) o1 i1 v1 hs), fun Γ M o e σ F A H h s D kk => ?_⟩
  obtain ⟨d, q1, e⟩ := bindS e
  obtain ⟨x, q2, e⟩ := bindS e
  obtain ⟨y, q3, e⟩ := bindS e
  obtain ⟨n, c, rfl, hc, e⟩ := withLoc_inv e
  · · obtain ⟨c', q4, e⟩ := bindS e
      cases e
      have go : ∀ {P : V → V → V → Hp → Prop}, (∀ a vd vy F2 H2, HR ⟨X.K, C⟩ M F2 A H2 → Grow F H F2 H2 → A[n]? = some a → Rep ⟨X.K, C⟩ F2 A d vd → Rep ⟨X.K, C⟩ F2 A y vy → Cont ⟨X.K, C⟩ F2 A H2 c a → P vd (.ref a) vy H2) →
          tv σ H fun v H1 => to σ H1 fun u H2 => ti σ H2 fun w H3 => P v u w H3 := fun {P} hP => by
        refine v2 Γ M d q1 σ F A H h s _ fun v F1 H1 g1 r1 => ?_
        refine o2 Γ M _ q2 σ F1 A H1 (h.grow g1) (s.same g1.ff) _ fun u F2 H2 g2 r2 => ?_
        refine i2 Γ M y q3 σ F2 A H2 ((h.grow g1).grow g2) ((s.same g1.ff).same g2.ff) _ fun w F3 H3 g3 r3 => ?_
        obtain ⟨a, m1, rfl⟩ := r2
        have h3 := ((h.grow g1).grow g2).grow g3
        exact hP a v w F3 H3 h3 ((g1.trans g2).trans g3) m1 ((r1.same g2.ff).same g3.ff) r3 (h3.mem _ _ _ hc m1)
      unfold kPut at q4
      split at q4
      · obtain ⟨j, q5, rfl⟩ := Option.map_eq_some_iff.mp q4
        refine .inl (go fun a vd vy F2 H2 h2 g2 m1 rd ry hcont => ?_)
        obtain ⟨vs, w1, w2⟩ := hcont
        refine ⟨a, vs, _, j, rfl, ry, w1, by rw [← w2.len]; exact q5, ?_⟩
        obtain ⟨z1, z2⟩ := h2.write (o := .lst (vs.set j vd)) (c' := G.D.lst _) hc m1 ⟨_, upd_same, w2.set rd j⟩
        exact kk σ F2 A _ z1 (s.same g2.ff) (g2.step.trans z2)
      · obtain ⟨k, q5, q6⟩ := bindS q4
        split at q6
        · rename_i hl
          cases q6
          refine .inr (go fun a vd vy F2 H2 h2 g2 m1 rd ry hcont => ?_)
          obtain ⟨vs, ⟨ws, w1, rfl⟩, w2⟩ := hcont
          have := kyOf_ok q5 ry
          subst this
          have hl2 := w2.len
          rw [List.length_map] at hl2
          obtain ⟨z1, z2⟩ := h2.write (o := .dK (putK ws k vd)) (c' := G.D.asc .k _) hc m1 ⟨_, ⟨_, upd_same, rfl⟩, put_k rd k w2⟩
          exact ⟨a, _, rfl, DPut.k w1 (by rw [← hl2]; exact Nat.lt_of_lt_of_le hl (by decide)), kk σ F2 A _ z1 (s.same g2.ff) (g2.step.trans z2)⟩
        · cases q6
      · obtain ⟨k, q5, q6⟩ := bindS q4
        split at q6
        · rename_i hl
          cases q6
          refine .inr (go fun a vd vy F2 H2 h2 g2 m1 rd ry hcont => ?_)
          obtain ⟨vs, ⟨ws, w1, rfl⟩, w2⟩ := hcont
          obtain ⟨b, us, rfl, hb, r2⟩ := ry
          have := keysOf_ok q5 r2
          subst this
          have hl2 := w2.len
          rw [List.length_map] at hl2
          obtain ⟨z1, z2⟩ := h2.write (o := .dT (putK ws k vd)) (c' := G.D.asc .t _) hc m1 ⟨_, ⟨_, upd_same, rfl⟩, put_t rd k w2⟩
          exact ⟨a, _, rfl, DPut.t w1 (h2.fs _ _ hb) (by rw [← hl2]; exact Nat.lt_of_lt_of_le hl (by decide)), kk σ F2 A _ z1 (s.same g2.ff) (g2.step.trans z2)⟩
        · cases q6
      · cases q4
end
/-! ### targets -/
abbrev Gx := D → Sl → Option Sl
abbrev Gxs := List D → Sl → Option Sl
/-- all slots but these stay -/
def Only_ (idx : List Nat) (σ σ' : L2.St) : Prop := σ'.length = σ.length ∧ ∀ j, j ∉ idx → σ'[j]? = σ[j]?
def TGG (T : GE) (t : TG) (g : Gx) (idx : List Nat) : Prop := ∀ (d : D) (Γ Γ' : Sl), g d Γ = some Γ' → ∀ (v : V) (σ : L2.St) (F : Hp) (A : List Addr) (H : Hp), Same F H → Rep T F A d v → SlotR T F A Γ σ → ∀ Q : L2.St → Hp → Prop, (∀ σ', SlotR T F A Γ' σ' → Only_ idx σ σ' → Q σ' H) → t v σ H Q
def TGsG (T : GE) (t : TGs) (g : Gxs) (idx : List Nat) : Prop := ∀ (d : List D) (Γ Γ' : Sl), g d Γ = some Γ' → ∀ (v : List V) (σ : L2.St) (F : Hp) (A : List Addr) (H : Hp), Same F H → Reps T F A d v → SlotR T F A Γ σ → ∀ Q : L2.St → Hp → Prop, (∀ σ', SlotR T F A Γ' σ' → Only_ idx σ σ' → Q σ' H) → t v σ H Q
def PGG (X : Cx) (C : Nat → Addr) (e : Expr) (g : Gx) (idx : List Nat) : Prop := ∃ t, PG X e t ∧ TGG ⟨X.K, C⟩ t g idx
def PGsG (X : Cx) (C : Nat → Addr) (e : List Expr) (g : Gxs) (idx : List Nat) : Prop := ∃ t, PGs X e t ∧ TGsG ⟨X.K, C⟩ t g idx
def gxName (i : Nat) : Gx := fun d Γ => some (Γ.set i (some d))
def gxNil : Gxs := fun ds Γ => match ds with
  | [] => some Γ
  | _ => none
def gxCons (g : Gx) (r : Gxs) : Gxs := fun ds Γ => match ds with
  | d :: ds => (g d Γ).bind fun Γ1 => r ds Γ1
  | [] => none
def gxTup (n : Nat) (g : Gxs) : Gx := fun d Γ => match d with
  | .tup ds => if ds.length = n then g ds Γ else none
  | _ => none
section
variable {X : Cx} {C : Nat → Addr} {W : WX} {pos : Pos}
theorem tName {i : Nat} {x : Str} (hN : X.N.Nodup) (hi : X.N[i]? = some x) (hx : Loc X.env.scope x) (hf : X.fn x = true ∨ X.env.scope.names.lookup x = some .local := by first | exact .inl rfl | exact .inr rfl | assumption) : PGG X C (.Name x pos) (gxName i) [i] :=
  ⟨_, pg_name hN hi hx hf, fun d Γ Γ' e v σ F A H fs r s Q q => by cases e; exact q _ (s.set r i) ⟨List.length_set, fun j hj => List.getElem?_set_ne (fun z => hj (by simp [z]))⟩⟩
theorem tsNil : PGsG X C [] gxNil [] := ⟨_, pgs_nil, fun d Γ Γ' e v σ F A H fs r s Q q => by
  unfold gxNil at e
  split at e
  · cases e
    cases r
    exact ⟨rfl, q σ s ⟨rfl, fun _ _ => rfl⟩⟩
  · cases e⟩
theorem tsCons {e : Expr} {es : List Expr} {g : Gx} {r : Gxs} {i1 i2 : List Nat} (h1 : PGG X C e g i1) (h2 : PGsG X C es r i2) (hs : (assignEach (e :: es) X.env).map (·.2) = assign e X.env :: (assignEach es X.env).map (·.2) := by rfl) : PGsG X C (e :: es) (gxCons g r) (i1 ++ i2) := by
  obtain ⟨t, a1, a2⟩ := h1
  obtain ⟨u, b1, b2⟩ := h2
  refine ⟨_, pgs_cons a1 b1 hs, fun d Γ Γ' e v σ F A H fs r s Q q => ?_⟩
  unfold gxCons at e
  split at e
  · obtain ⟨Γ1, e1, e⟩ := bindS e
    obtain ⟨v1, vr, rfl, r1, r2⟩ := r
    refine ⟨v1, vr, rfl, a2 _ Γ Γ1 e1 v1 σ F A H fs r1 s _ fun σ1 s1 o1 => b2 _ Γ1 Γ' e vr σ1 F A H fs r2 s1 Q fun σ2 s2 o2 => q σ2 s2 ⟨o2.1.trans o1.1, fun j hj => ?_⟩⟩
    rw [List.mem_append, not_or] at hj
    exact (o2.2 j hj.2).trans (o1.2 j hj.1)
  · cases e
theorem tTup {es : List Expr} {k n : Nat} {g : Gxs} {idx : List Nat} (hc : X.calm = true) (h : PGsG X C es g idx) (hn : (assignEach es X.env).length = n := by rfl) (hst : (assignEach es X.env).findIdx? (·.1) = none := by rfl) : PGG X C (.Tuple es k pos) (gxTup n g) idx := by
  obtain ⟨t, a1, a2⟩ := h
  refine ⟨_, pg_tup hc a1 hn hst, fun d Γ Γ' e v σ F A H fs r s Q q => ?_⟩
  unfold gxTup at e
  split at e
  · split at e
    · rename_i hl
      obtain ⟨a, vs, rfl, h1, h2⟩ := r
      exact ⟨a, vs, rfl, SqT.of (fs _ _ h1), by rw [← h2.len]; exact hl, a2 _ Γ Γ' e vs σ F A H fs h2 s Q q⟩
    · cases e
  · cases e
def sAsg (g : Gx) (f : Ex) : Sx := fun Γ M => (f Γ M).bind fun d => (g d Γ).bind fun Γ1 => some (.nx Γ1 M)
theorem sAsg_ {tg e : Expr} {g : Gx} {f : Ex} {idx : List Nat} (hg : PGG X C tg g idx) (he : PEG X C e f) (hs : swapsWithSole [tg] e pos.line X.env = pure false := by rfl) (hw : swappedStores [tg] e X.env = pure none := by rfl)
    (h1 : (assignEach [tg] X.env).map (·.2) = [assign tg X.env] := by rfl) : PSG X C W (.Assign [tg] e pos) (sAsg g f) := by
  obtain ⟨t, a1, a2⟩ := he
  obtain ⟨u, b1, b2⟩ := hg
  refine ⟨_, ps_asg a1 b1 hs hw h1, fun Γ M o e σ F A H h s D k => ?_⟩
  obtain ⟨d, e1, e⟩ := bindS e
  obtain ⟨Γ1, e2, e⟩ := bindS e
  cases e
  exact a2 Γ M d e1 σ F A H h s _ fun v F1 H1 g1 r1 => b2 d Γ Γ1 e2 v σ F1 A H1 g1.fh r1 (s.same g1.ff) _ fun σ1 s1 _ => k σ1 F1 A H1 (h.grow g1) s1 g1.step
/-! ### x += e -/
def gAddI (_ : Mem) (x y : D) : Option D := match x, y with
  | .int i, .int j => some (.int (i + j))
  | _, _ => none
def sAug (k : Mem → D → D → Option D) (i : Nat) (f : Ex) : Sx := fun Γ M => (xVar i Γ M).bind fun x => (f Γ M).bind fun y => (k M x y).bind fun z => some (.nx (Γ.set i (some z)) M)
theorem sAug_ {i : Nat} {x : Str} {e : Expr} {op : Operator} {k : Mem → D → D → Option D} {f : Ex} {pos' : Pos} (ho : OpG X C (inplaceOp op) k) (hN : X.N.Nodup) (hi : X.N[i]? = some x) (hx : Loc X.env.scope x) (he : PEG X C e f) (hf : X.fn x = true ∨ X.env.scope.names.lookup x = some .local := by first | exact .inl rfl | exact .inr rfl | assumption) :
    PSG X C W (.AugAssign (.Name x pos') op e pos) (sAug k i f) := by
  obtain ⟨r, o1, o2⟩ := ho
  obtain ⟨t, a1, a2⟩ := he
  refine ⟨_, ps_aug hN hi hx a1 (fun pins s σ H x y v u Q I rx ry h => o1 pins s σ H x y v u Q I rx ry h) hf, fun Γ M o e σ F A H h s D kk => ?_⟩
  obtain ⟨x, q1, e⟩ := bindS e
  obtain ⟨y, q2, e⟩ := bindS e
  obtain ⟨z, q3, e⟩ := bindS e
  cases e
  unfold xVar at q1
  split at q1
  · rename_i d' hd'
    cases q1
    obtain ⟨vx, h1, h2⟩ := s.2 _ _ hd'
    refine ⟨vx, h1, a2 Γ M y q2 σ F A H h s _ fun v F1 H1 g1 r1 => ?_⟩
    refine o2 M _ y z q3 vx v F1 A H1 (h.grow g1) (h2.same g1.ff) r1 _ fun w F2 H2 g2 r2 => ?_
    exact kk _ F2 A H2 ((h.grow g1).grow g2) (((s.same g1.ff).same g2.ff).set r2 i) (g1.trans g2).step
  · cases q1
theorem iAdd : OpG X C (inplaceOp .Add) gAddI := by
  refine ⟨_, iop_add, fun M x y z e vx vy F A H h rx ry Q q => ?_⟩
  unfold gAddI at e
  split at e
  · cases e
    exact ⟨_, _, rx, ry, q _ F H (Grow.refl h.fs) rfl⟩
  · cases e
theorem iSub : OpG X C (inplaceOp .Sub) gSub := by
  refine ⟨_, iop_sub, fun M x y z e vx vy F A H h rx ry Q q => ?_⟩
  unfold gSub at e
  split at e
  · cases e
    exact ⟨_, _, rx, ry, q _ F H (Grow.refl h.fs) rfl⟩
  · cases e
end
/-! ### fields -/
def xFld (f : Str) (a : Ex) : Ex := fun Γ M => (a Γ M).bind fun x => (vI M x).bind fun p => getA p.2 (.s f)
def sFldS (f : Str) (fo fv : Ex) : Sx := fun Γ M => (fv Γ M).bind fun d => (fo Γ M).bind fun x => withLoc M x fun n c => match c with
  | .asc (.ins c) kvs => if kvs.length < 900 then some (.nx Γ (M.set n (some (.asc (.ins c) (putA kvs (.s f) d))))) else none
  | _ => none
/-- putF puts as putA does -/
theorem putF_map {T : GE} {F : Hp} {A : List Addr} {d : D} {v : V} (q : Rep T F A d v) (f : Str) : ∀ {ds : List (DK × D)} {ws : List (Str × V)}, (ws.map (·.1)).Nodup → RepA T F A ds (ws.map fx) → RepA T F A (putA ds (.s f) d) ((putF f v ws).map fx) := by
  have e : ∀ ws : List (Str × V), (ws.map (·.1)).Nodup → putF f v ws = putK ws f v := by
    intro ws
    induction ws with
    | nil => intro _; rfl
    | cons p ws ih =>
      intro hn
      obtain ⟨g, u⟩ := p
      rw [List.map_cons, List.nodup_cons] at hn
      show (if g = f then (g, v) :: ws else (g, u) :: putF f v ws) = putK ((g, u) :: ws) f v
      unfold putK
      rw [List.any_cons, List.map_cons]
      by_cases hg : g = f
      · subst hg
        rw [if_pos rfl, decide_eq_true rfl, Bool.true_or, if_pos rfl, if_pos rfl]
        congr 1
        symm
        have : ∀ p ∈ ws, (if p.1 = g then (p.1, v) else p) = p := fun p hp => if_neg fun z => hn.1 (List.mem_map.mpr ⟨p, hp, z⟩)
        rw [List.map_congr_left this, List.map_id']
      · rw [if_neg hg, decide_eq_false hg, Bool.false_or, if_neg hg, ih hn.2]
        unfold putK
        split
        · rfl
        · rfl
  intro ds ws hn r
  rw [e ws hn]
  exact put_map DK.s (fun _ _ h => by injection h) q f r
end G
set_option Elab.async false
set_option linter.all false
set_option maxRecDepth 100000
set_option maxHeartbeats 4000000
namespace G
open PySem PySem.Spec PyProof.Rows L2
/-! ### what is walked -/
def ItOk (T : GE) (J : It) (F0 : Hp) (A0 : List Addr) (ds : List D) : Prop := ∀ (i : Nat) (M : Mem) (F : Hp) (A : List Addr) (H : Hp), Same F0 F → (∃ B, A = A0 ++ B) → HR T M F A H →
  (ds.length ≤ i → J.stop i H) ∧ ∀ d, ds[i]? = some d → J.go i H ∧ ∀ x H', J.yld i H x H' → ∃ F', Grow F H F' H' ∧ Rep T F' A d x
def TIG (T : GE) (wi : TI) (f : Ax) : Prop := ∀ (Γ : Sl) (M : Mem) (ds : List D), f Γ M = some ds → ∀ (σ : L2.St) (F : Hp) (A : List Addr) (H : Hp), HR T M F A H → SlotR T F A Γ σ →
  ∀ R : It → Hp → Prop, (∀ J F' H', Grow F H F' H' → ItOk T J F' A ds → R J H') → wi σ H R
def PIG (X : Cx) (C : Nat → Addr) (tg iter : Expr) (f : Ax) : Prop := ∃ wi, PI X tg iter wi ∧ TIG ⟨X.K, C⟩ wi f
theorem PI.or {X : Cx} {tg e : Expr} {t u : TI} (h : PI X tg e t) (k : PI X tg e u) : PI X tg e (fun σ H R => t σ H R ∨ u σ H R) :=
  ⟨fun pins s σ H R I w => w.elim (h.run pins s σ H R I) (k.run pins s σ H R I)⟩
theorem Rep.up {T : GE} {F F' : Hp} {A A' : List Addr} {d : D} {v : V} (r : Rep T F A d v) (e : Same F F') (h : ∃ B, A' = A ++ B) : Rep T F' A' d v := by
  obtain ⟨B, rfl⟩ := h
  exact Rep.mono e d v r
/-- a frozen list, a tuple, the script, a text -/
def vF : D → Option (List D)
  | .lst ds => some ds
  | .tup ds => some ds
  | .scr ns => some (ns.map .int)
  | .str x => some (x.cps.toList.map fun c => .str ⟨#[c]⟩)
  | _ => none
def ixL (f : Ex) : Ax := fun Γ M => (f Γ M).bind vF
section
variable {T : GE} {F : Hp} {A : List Addr}
theorem itl_ok {a : Addr} {vs : List V} {ds : List D} (h : SqL T.K F a vs) (r : Reps T F A ds vs) : ItOk T (Itl T.K a) F A ds := fun i M F1 A1 H1 s1 s2 h1 => by
  have q := Same.seq (s1.trans h1.fs) h
  refine ⟨fun hl => ⟨vs, q, by rw [← r.len]; exact hl⟩, fun d e => ?_⟩
  obtain ⟨v, e1, e2⟩ := r.get' e
  refine ⟨⟨vs, v, q, e1⟩, fun x H' y => ?_⟩
  obtain ⟨rfl, y⟩ := y
  have := (y vs q).symm.trans e1
  cases this
  exact ⟨F1, Grow.refl h1.fs, e2.up s1 s2⟩
theorem itt_ok {a : Addr} {vs : List V} {ds : List D} (h : SqT T.K F a vs) (r : Reps T F A ds vs) : ItOk T (Itt T.K a) F A ds := fun i M F1 A1 H1 s1 s2 h1 => by
  have q := Same.sqT (s1.trans h1.fs) h
  refine ⟨fun hl => ⟨vs, q, by rw [← r.len]; exact hl⟩, fun d e => ?_⟩
  obtain ⟨v, e1, e2⟩ := r.get' e
  refine ⟨⟨vs, v, q, e1⟩, fun x H' y => ?_⟩
  obtain ⟨rfl, y⟩ := y
  have := (y vs q).symm.trans e1
  cases this
  exact ⟨F1, Grow.refl h1.fs, e2.up s1 s2⟩
theorem its_ok {z : Str} : ItOk T (Its z) F A (z.cps.toList.map fun c => .str ⟨#[c]⟩) := fun i M F1 A1 H1 s1 s2 h1 => by
  refine ⟨fun hl => by rw [List.length_map, Array.length_toList] at hl; exact hl, fun d e => ?_⟩
  rw [List.getElem?_map, Array.getElem?_toList] at e
  obtain ⟨c, e1, rfl⟩ := Option.map_eq_some_iff.mp e
  refine ⟨(Array.getElem?_eq_some_iff.mp e1).1, fun x H' y => ?_⟩
  obtain ⟨rfl, c', e2, rfl⟩ := y
  rw [e1] at e2
  cases e2
  exact ⟨F1, Grow.refl h1.fs, rfl⟩
end
section
variable {X : Cx} {C : Nat → Addr} {W : WX} {tg e : Expr} {f : Ex} {pos p : Pos}
theorem iL (he : PEG X C e f) : PIG X C tg e (ixL f) := by
  obtain ⟨t, a1, a2⟩ := he
  refine ⟨_, PI.or (PI.or (pi_list a1) (pi_tup a1)) (pi_str a1), fun Γ M ds e σ F A H h s R q => ?_⟩
  obtain ⟨x, e1, e⟩ := bindS e
  unfold vF at e
  split at e
  · cases e
    refine .inl (.inl (a2 Γ M _ e1 σ F A H h s _ fun v F1 H1 g1 r1 => ?_))
    obtain ⟨a, vs, rfl, h1, h2⟩ := r1
    exact ⟨a, rfl, ⟨vs, SqL.of (g1.fh _ _ h1)⟩, q _ F1 H1 g1 (itl_ok (T := ⟨X.K, C⟩) (SqL.of h1) h2)⟩
  · cases e
    refine .inl (.inr (a2 Γ M _ e1 σ F A H h s _ fun v F1 H1 g1 r1 => ?_))
    obtain ⟨a, vs, rfl, h1, h2⟩ := r1
    exact ⟨a, rfl, ⟨vs, SqT.of (g1.fh _ _ h1)⟩, q _ F1 H1 g1 (itt_ok (T := ⟨X.K, C⟩) (SqT.of h1) h2)⟩
  · cases e
    refine .inl (.inl (a2 Γ M _ e1 σ F A H h s _ fun v F1 H1 g1 r1 => ?_))
    obtain ⟨a, rfl, h1⟩ := r1
    exact ⟨a, rfl, ⟨_, Same.seq g1.fh h1⟩, q _ F1 H1 g1 (itl_ok (T := ⟨X.K, C⟩) h1 (reps_ints _))⟩
  · cases e
    refine .inr (a2 Γ M _ e1 σ F A H h s _ fun v F1 H1 g1 r1 => ?_)
    exact ⟨_, r1, q _ F1 H1 g1 its_ok⟩
  · cases e
/-- lo, lo + 1, .. -/
def rngL (lo : Int) (n : Nat) : List D := (List.range n).map fun i => .int (lo + (i : Nat))
def ixR1 (w : Ax) : Ax := fun Γ M => (w Γ M).bind fun xs => match xs with
  | [.int j] => if -1000000 < j ∧ j < 1000000 then some (rngL 0 j.toNat) else none
  | _ => none
def ixR2 (w : Ax) : Ax := fun Γ M => (w Γ M).bind fun xs => match xs with
  | [.int i, .int j] => if -1000000 < i ∧ i < 1000000 ∧ -1000000 < j ∧ j < 1000000 then some (rngL i (j - i).toNat) else none
  | _ => none
theorem itr_ok {T : GE} {F : Hp} {A : List Addr} (lo : Int) (n : Nat) : ItOk T (Itr lo n) F A (rngL lo n) := fun i M F1 A1 H1 s1 s2 h1 => by
  unfold rngL
  refine ⟨fun hl => by rw [List.length_map, List.length_range] at hl; exact hl, fun d e => ?_⟩
  rw [List.getElem?_map] at e
  obtain ⟨c, e1, rfl⟩ := Option.map_eq_some_iff.mp e
  obtain ⟨h2, h3⟩ := List.getElem?_eq_some_iff.mp e1
  rw [List.length_range] at h2
  rw [List.getElem_range] at h3
  subst h3
  refine ⟨h2, fun x H' y => ?_⟩
  obtain ⟨rfl, rfl⟩ := y
  exact ⟨F1, Grow.refl h1.fs, rfl⟩
theorem iR1 {a : Expr} {w : Ax} (hg : Gl X "range") (hm : X.mg "range" = none) (ha : PAG X C [a] w) (hs : starEach [a] X.env = [(false, eval a X.env)] := by rfl) : PIG X C tg (.Call (.Name "range" p) [a] [] pos) (ixR1 w) := by
  obtain ⟨t, a1, a2⟩ := ha
  refine ⟨_, pi_range1 hg hm a1 hs, fun Γ M ds e σ F A H h s R q => ?_⟩
  obtain ⟨xs, e1, e⟩ := bindS e
  split at e
  · split at e
    · rename_i hl
      cases e
      refine a2 Γ M _ e1 σ F A H h s _ fun vs F1 H1 g1 r1 => ?_
      obtain ⟨v, rfl, rv⟩ := r1.inv1
      cases rv
      exact ⟨_, rfl, by omega, by omega, q _ F1 H1 g1 (itr_ok _ _)⟩
    · cases e
  · cases e
theorem iR2 {a b : Expr} {w : Ax} (hg : Gl X "range") (hm : X.mg "range" = none) (ha : PAG X C [a, b] w) (hs : starEach [a, b] X.env = [(false, eval a X.env), (false, eval b X.env)] := by rfl) (hs2 : starEach [b] X.env = [(false, eval b X.env)] := by rfl) :
    PIG X C tg (.Call (.Name "range" p) [a, b] [] pos) (ixR2 w) := by
  obtain ⟨t, a1, a2⟩ := ha
  refine ⟨_, pi_range2 hg hm a1 hs hs2, fun Γ M ds e σ F A H h s R q => ?_⟩
  obtain ⟨xs, e1, e⟩ := bindS e
  split at e
  · split at e
    · rename_i hl
      cases e
      refine a2 Γ M _ e1 σ F A H h s _ fun vs F1 H1 g1 r1 => ?_
      obtain ⟨v, u, rfl, rv, ru⟩ := r1.inv2
      cases rv
      cases ru
      exact ⟨_, _, rfl, ⟨by omega, by omega, by omega, by omega⟩, q _ F1 H1 g1 (itr_ok _ _)⟩
    · cases e
  · cases e
/-- enumerate(xs) -/
def enumL : Nat → List D → List D
  | _, [] => []
  | n, d :: r => .tup [.int n, d] :: enumL (n + 1) r
theorem enumL_get : ∀ (ds : List D) (n i : Nat), (enumL n ds)[i]? = (ds[i]?).map fun d => .tup [.int (n + i : Nat), d]
  | [], n, i => by simp [enumL]
  | d :: ds, n, 0 => by simp [enumL]
  | d :: ds, n, i + 1 => by
    show (enumL (n + 1) ds)[i]? = _
    rw [enumL_get ds (n + 1) i, List.getElem?_cons_succ]
    have : n + 1 + i = n + (i + 1) := by omega
    rw [this]
theorem enumL_len (ds : List D) (n : Nat) : (enumL n ds).length = ds.length := by
  induction ds generalizing n with
  | nil => rfl
  | cons d ds ih => simp [enumL, ih]
def vFL : D → Option (List D)
  | .lst ds => some ds
  | .scr ns => some (ns.map .int)
  | _ => none
def ixE (w : Ax) : Ax := fun Γ M => (w Γ M).bind fun xs => match xs with
  | [x] => (vFL x).map (enumL 0)
  | _ => none
theorem ite_ok {T : GE} {F : Hp} {A : List Addr} {a : Addr} {vs : List V} {ds : List D} (h : SqL T.K F a vs) (r : Reps T F A ds vs) : ItOk T (Ite T.K a) F A (enumL 0 ds) := fun i M F1 A1 H1 s1 s2 h1 => by
  have q := Same.seq (s1.trans h1.fs) h
  refine ⟨fun hl => ⟨vs, q, by rw [enumL_len] at hl; rw [← r.len]; exact hl⟩, fun d e => ?_⟩
  rw [enumL_get] at e
  obtain ⟨d0, e0, rfl⟩ := Option.map_eq_some_iff.mp e
  obtain ⟨v, e1, e2⟩ := r.get' e0
  refine ⟨⟨vs, v, q, e1⟩, fun x H' y => ?_⟩
  obtain ⟨P, x0, rfl, nP, rfl, y⟩ := y
  have := (y vs q).symm.trans e1
  cases this
  refine ⟨_, Grow.new h1.fs nP, Rep.newTup h1.fs nP ⟨_, _, rfl, ?_, Reps.one (e2.up s1 s2)⟩⟩
  show V.int _ = V.int _
  rw [Nat.zero_add]
theorem iE {a : Expr} {w : Ax} {elts : List Expr} {kk : Nat} {tpos : Pos} (hg : Gl X "enumerate") (hm : X.mg "enumerate" = none) (ha : PAG X C [a] w) (hs : starEach [a] X.env = [(false, eval a X.env)] := by rfl) : PIG X C (.Tuple elts kk tpos) (.Call (.Name "enumerate" p) [a] [] pos) (ixE w) := by
  obtain ⟨t, a1, a2⟩ := ha
  refine ⟨_, pi_enum hg hm a1 hs, fun Γ M ds e σ F A H h s R q => ?_⟩
  obtain ⟨xs, e1, e⟩ := bindS e
  split at e
  · obtain ⟨ys, e2, rfl⟩ := Option.map_eq_some_iff.mp e
    refine a2 Γ M _ e1 σ F A H h s _ fun vs F1 H1 g1 r1 => ?_
    obtain ⟨v, rfl, rv⟩ := r1.inv1
    unfold vFL at e2
    split at e2
    · cases e2
      obtain ⟨a, vs, rfl, h1, h2⟩ := rv
      exact ⟨a, vs, rfl, SqL.of (g1.fh _ _ h1), q _ F1 H1 g1 (ite_ok (T := ⟨X.K, C⟩) (SqL.of h1) h2)⟩
    · cases e2
      obtain ⟨a, rfl, h1⟩ := rv
      exact ⟨a, _, rfl, Same.seq g1.fh h1, q _ F1 H1 g1 (ite_ok (T := ⟨X.K, C⟩) h1 (reps_ints _))⟩
    · cases e2
  · cases e
/-- zip(xs, ys) -/
def zipL : List D → List D → List D
  | a :: r, b :: t => .tup [a, b] :: zipL r t
  | _, _ => []
theorem zipL_get : ∀ (ds es : List D) (i : Nat), (zipL ds es)[i]? = (ds[i]?).bind fun d => (es[i]?).map fun e => .tup [d, e]
  | [], es, i => by simp [zipL]
  | d :: ds, [], i => by
    show (none : Option D) = _
    cases (d :: ds)[i]? <;> rfl
  | d :: ds, e :: es, 0 => by simp [zipL]
  | d :: ds, e :: es, i + 1 => by
    show (zipL ds es)[i]? = _
    rw [zipL_get ds es i, List.getElem?_cons_succ, List.getElem?_cons_succ]
theorem zipL_len : ∀ (ds es : List D), (zipL ds es).length = min ds.length es.length
  | [], es => by simp [zipL]
  | d :: ds, [] => by simp [zipL]
  | d :: ds, e :: es => by simp [zipL, zipL_len ds es]
def ixZ (w : Ax) : Ax := fun Γ M => (w Γ M).bind fun xs => match xs with
  | [.lst a, .lst b] => some (zipL a b)
  | _ => none
theorem iZ {a b : Expr} {w : Ax} {elts : List Expr} {kk : Nat} {tpos : Pos} (hg : Gl X "zip") (hm : X.mg "zip" = none) (ha : PAG X C [a, b] w)
    (mk : ∀ {ta : TA}, PA X [a, b] ta → PI X (.Tuple elts kk tpos) (.Call (.Name "zip" p) [a, b] [] pos) (iZip X.K ta)) : PIG X C (.Tuple elts kk tpos) (.Call (.Name "zip" p) [a, b] [] pos) (ixZ w) := by
  obtain ⟨t, a1, a2⟩ := ha
  refine ⟨_, mk a1, fun Γ M ds e σ F A H h s R q => ?_⟩
  obtain ⟨xs, e1, e⟩ := bindS e
  split at e
  · rename_i l1 l2
    cases e
    refine a2 Γ M _ e1 σ F A H h s _ fun vs F1 H1 g1 r1 => ?_
    obtain ⟨v, u, rfl, ⟨a, xs, rfl, h1, h2⟩, ⟨b, ys, rfl, h3, h4⟩⟩ := r1.inv2
    refine ⟨a, b, xs, ys, rfl, SqL.of (g1.fh _ _ h1), SqL.of (g1.fh _ _ h3), q _ F1 H1 g1 fun i M2 F2 A2 H2 s1 s2 h5 => ?_⟩
    have q1 : SqL X.K H2 a xs := SqL.of ((s1.trans h5.fs) _ _ h1)
    have q2 : SqL X.K H2 b ys := SqL.of ((s1.trans h5.fs) _ _ h3)
    refine ⟨fun hl => ⟨xs, ys, q1, q2, ?_⟩, fun d e => ?_⟩
    · rw [zipL_len] at hl
      rw [← h2.len, ← h4.len]
      omega
    · rw [zipL_get] at e
      obtain ⟨d1, e1, e⟩ := bindS e
      obtain ⟨d2, e2, rfl⟩ := Option.map_eq_some_iff.mp e
      obtain ⟨v1, e3, e4⟩ := h2.get' e1
      obtain ⟨v2, e5, e6⟩ := h4.get' e2
      refine ⟨⟨xs, ys, v1, v2, q1, q2, e3, e5⟩, fun x H' y => ?_⟩
      obtain ⟨P, x1, x2, rfl, nP, rfl, y1, y2⟩ := y
      have := (y1 xs q1).symm.trans e3
      cases this
      have := (y2 ys q2).symm.trans e5
      cases this
      exact ⟨_, Grow.new h5.fs nP, Rep.newTup h5.fs nP ⟨_, _, rfl, e4.up s1 s2, Reps.one (e6.up s1 s2)⟩⟩
  · cases e
end
/-! ### for -/
def loopF (g : Gx) (kl : List Nat) (b : Sx) : List D → Sl → Mem → Option Out
  | [], Γ, M => some (.nx Γ M)
  | d :: r, Γ, M => (g d Γ).bind fun Γ1 => (b Γ1 M).bind fun o => match o with
    | .nx Γ2 M2 => loopF g kl b r (kills Γ2 kl) M2
    | .ct Γ2 M2 => loopF g kl b r (kills Γ2 kl) M2
    | .bk Γ2 M2 => some (.nx (kills Γ2 kl) M2)
    | o => some o
def sFor (g : Gx) (kl : List Nat) (it : Ax) (b : Sx) : Sx := fun Γ M => (it Γ M).bind fun ds => loopF g kl b ds (kills Γ kl) M
section
variable {X : Cx} {C : Nat → Addr} {W : WX} {tg iter : Expr} {it : Ax} {g : Gx} {idx kl : List Nat} {body : List Stmt} {b : Sx} {pos : Pos}
theorem sFor_ (kl : List Nat) (hp : PassesOwn (model X.prog X.w) X.A X.env X.xe) (hc : X.calm = true) (hi : PIG X C tg iter it) (hg : PGG X C tg g idx) (hb : PBG X C W body b) (hs : ∀ x, foldedSetIterable iter X.env x = pure x := by intro _; rfl) :
    PSG X C W (.For tg iter body [] pos) (sFor g kl it b) := by
  obtain ⟨wi, i1, i2⟩ := hi
  obtain ⟨tgt, g1, g2⟩ := hg
  obtain ⟨tb, b1, b2⟩ := hb
  refine ⟨_, ps_for hp hc i1 g1 b1 hs, fun Γ M o e σ F A H h s D k => ?_⟩
  obtain ⟨ds, e1, e⟩ := bindS e
  refine i2 Γ M ds e1 σ F A H h s _ fun J F1 H1 gr ok => ?_
  have k1 := k.step gr.step
  refine ⟨fun i m σ H => m = ds.length - i ∧ i ≤ ds.length ∧ ∃ Γ M F A', HR ⟨X.K, C⟩ M F A' H ∧ SlotR ⟨X.K, C⟩ F A' Γ σ ∧ Step F1 A H1 F A' H ∧ loopF g kl b (ds.drop i) Γ M = some o, ⟨ds.length, by simp, Nat.zero_le _, _, M, F1, A, h.grow gr, (s.same gr.ff).kills kl, Step.refl, e⟩, ?_⟩
  rintro i m σ2 H2 ⟨rfl, hi, Γ2, M2, F2, A2, h2, s2, st2, e2⟩
  obtain ⟨B, hB, _⟩ := st2.px
  have itk := ok i M2 F2 A2 H2 st2.ff ⟨B, hB⟩ h2
  by_cases hlt : i < ds.length
  · refine .inr ?_
    have ed : ds[i]? = some ds[i] := by simp [hlt]
    obtain ⟨go, yl⟩ := itk.2 _ ed
    rw [List.drop_eq_getElem_cons hlt] at e2
    obtain ⟨Γ3, e3, e4⟩ := bindS (show (g ds[i] Γ2).bind _ = some o from e2)
    obtain ⟨o5, e5, e6⟩ := bindS e4
    refine ⟨go, fun σ' H' => ∃ Γ M F A', HR ⟨X.K, C⟩ M F A' H' ∧ SlotR ⟨X.K, C⟩ F A' Γ σ' ∧ Step F1 A H1 F A' H' ∧ loopF g kl b (ds.drop (i + 1)) Γ M = some o, fun σ' H' n => ⟨ds.length - (i + 1), by omega, rfl, hlt, n⟩, fun x H3 y => ?_⟩
    obtain ⟨F3, gr3, r3⟩ := yl x H3 y
    have h3 := h2.grow gr3
    refine g2 _ Γ2 Γ3 e3 x σ2 F3 A2 H3 h3.fs r3 (s2.same gr3.ff) _ fun σ3 s3 _ => ?_
    refine b2 Γ3 M2 o5 e5 σ3 F3 A2 H3 h3 s3 _ ?_
    have st3 := st2.trans gr3.step
    cases o5 with
    | nx Γ6 M6 => exact fun σ6 F6 A6 H6 h6 s6 st6 => ⟨_, M6, F6, A6, h6, s6.kills kl, st3.trans st6, e6⟩
    | ct Γ6 M6 => exact fun σ6 F6 A6 H6 h6 s6 st6 => ⟨_, M6, F6, A6, h6, s6.kills kl, st3.trans st6, e6⟩
    | bk Γ6 M6 =>
      cases e6
      exact fun σ6 F6 A6 H6 h6 s6 st6 => k1 σ6 F6 A6 H6 h6 (s6.kills kl) (st3.trans st6)
    | rt d M6 =>
      cases e6
      exact fun v F6 A6 H6 h6 r6 st6 => k1 v F6 A6 H6 h6 r6 (st3.trans st6)
    | ex x6 Γ6 M6 =>
      cases e6
      exact fun c dd σ6 F6 A6 H6 h6 s6 x6 st6 => k1 c dd σ6 F6 A6 H6 h6 s6 x6 (st3.trans st6)
  · have : i = ds.length := by omega
    subst this
    refine .inl ⟨itk.1 (Nat.le_refl _), ?_⟩
    rw [List.drop_length] at e2
    cases e2
    exact k1 σ2 F2 A2 H2 h2 s2 st2
/-! ### while -/
def whileF (c : Tx) (kl : List Nat) (b : Sx) : Nat → Sl → Mem → Option Out
  | 0, _, _ => none
  | n + 1, Γ, M => (c Γ M).bind fun k => if k = true then (b Γ M).bind fun o => match o with
      | .nx Γ2 M2 => whileF c kl b n (kills Γ2 kl) M2
      | .ct Γ2 M2 => whileF c kl b n (kills Γ2 kl) M2
      | .bk Γ2 M2 => some (.nx (kills Γ2 kl) M2)
      | o => some o
    else some (.nx Γ M)
def sWhile (n : Nat) (c : Tx) (kl : List Nat) (b : Sx) : Sx := fun Γ M => whileF c kl b n (kills Γ kl) M
theorem sWhile_ (n : Nat) (kl : List Nat) {c : Expr} {p : Tx} (hp : PassesOwn (model X.prog X.w) X.A X.env X.xe) (hc : PTG X C c p) (hb : PBG X C W body b) : PSG X C W (.While c body [] pos) (sWhile n p kl b) := by
  obtain ⟨tc, c1, c2⟩ := hc
  obtain ⟨tb, b1, b2⟩ := hb
  refine ⟨_, ps_while hp c1 b1, fun Γ M o e σ F A H h s D k => ?_⟩
  refine ⟨fun m σ2 H2 => ∃ Γ2 M2 F2 A2, HR ⟨X.K, C⟩ M2 F2 A2 H2 ∧ SlotR ⟨X.K, C⟩ F2 A2 Γ2 σ2 ∧ Step F A H F2 A2 H2 ∧ whileF p kl b m Γ2 M2 = some o, ⟨n, _, M, F, A, h, s.kills kl, Step.refl, e⟩, ?_⟩
  rintro m σ2 H2 ⟨Γ2, M2, F2, A2, h2, s2, st2, e2⟩
  cases m with
  | zero => cases e2
  | succ m =>
    obtain ⟨x, e3, e4⟩ := bindS (show (p Γ2 M2).bind _ = some o from e2)
    refine c2 Γ2 M2 x e3 σ2 F2 A2 H2 h2 s2 _ fun F3 H3 g3 => ?_
    cases x with
    | false =>
      rw [if_neg Bool.false_ne_true]
      cases e4
      exact k σ2 F3 A2 H3 (h2.grow g3) (s2.same g3.ff) (st2.trans g3.step)
    | true =>
      rw [if_pos rfl]
      rw [if_pos rfl] at e4
      obtain ⟨o5, e5, e6⟩ := bindS e4
      refine ⟨fun σ' H' => ∃ Γ2 M2 F2 A2, HR ⟨X.K, C⟩ M2 F2 A2 H' ∧ SlotR ⟨X.K, C⟩ F2 A2 Γ2 σ' ∧ Step F A H F2 A2 H' ∧ whileF p kl b m Γ2 M2 = some o, fun σ' H' z => ⟨m, Nat.lt_succ_self m, z⟩, ?_⟩
      have h3 := h2.grow g3
      have st3 := st2.trans (g3.step (A := A2))
      refine b2 Γ2 M2 o5 e5 σ2 F3 A2 H3 h3 (s2.same g3.ff) _ ?_
      cases o5 with
      | nx Γ6 M6 => exact fun σ6 F6 A6 H6 h6 s6 st6 => ⟨_, M6, F6, A6, h6, s6.kills kl, st3.trans st6, e6⟩
      | ct Γ6 M6 => exact fun σ6 F6 A6 H6 h6 s6 st6 => ⟨_, M6, F6, A6, h6, s6.kills kl, st3.trans st6, e6⟩
      | bk Γ6 M6 =>
        cases e6
        exact fun σ6 F6 A6 H6 h6 s6 st6 => k σ6 F6 A6 H6 h6 (s6.kills kl) (st3.trans st6)
      | rt d M6 =>
        cases e6
        exact fun v F6 A6 H6 h6 r6 st6 => k v F6 A6 H6 h6 r6 (st3.trans st6)
      | ex x6 Γ6 M6 =>
        cases e6
        exact fun c dd σ6 F6 A6 H6 h6 s6 x6 st6 => k c dd σ6 F6 A6 H6 h6 s6 x6 (st3.trans st6)
end
end G
set_option Elab.async false
set_option linter.all false
set_option maxRecDepth 100000
set_option maxHeartbeats 4000000
namespace G
open PySem PySem.Spec PyProof.Rows L2
/-! ### list comprehensions -/
theorem wipe_in {σ : L2.St} {j : Nat} : ∀ {vs : List Nat}, j ∈ vs → j < σ.length → (wipe σ vs)[j]? = some none
  | [], h, _ => by cases h
  | v :: vs, h, hl => by
    show ((wipe σ vs).set v none)[j]? = some none
    by_cases hv : v = j
    · subst hv
      rw [List.getElem?_set_self (by rw [wipe_length]; exact hl)]
    · rw [List.getElem?_set_ne hv]
      rcases List.mem_cons.mp h with z | z
      · exact absurd z.symm hv
      · exact wipe_in z hl
theorem wipe_same {σ σ2 : L2.St} {vs idx : List Nat} (hi : ∀ i ∈ idx, i ∈ vs) (o : Only_ idx (wipe σ vs) σ2) : wipe σ2 vs = wipe σ vs := by
  have hl : σ2.length = σ.length := o.1.trans (wipe_length σ vs)
  refine List.ext_getElem? fun j => ?_
  by_cases hj : j ∈ vs
  · by_cases hlt : j < σ.length
    · rw [wipe_in hj hlt, wipe_in hj (by rw [hl]; exact hlt)]
    · rw [List.getElem?_eq_none (by rw [wipe_length, hl]; omega), List.getElem?_eq_none (by rw [wipe_length]; omega)]
  · rw [wipe_out hj]
    exact o.2 j fun z => hj (hi j z)
theorem kills_some {Γ : Sl} {j : Nat} {d : D} : ∀ {vs : List Nat}, (kills Γ vs)[j]? = some (some d) → Γ[j]? = some (some d) ∧ j ∉ vs
  | [], h => ⟨h, by simp⟩
  | v :: vs, h => by
    have h' : ((kills Γ vs).set v none)[j]? = some (some d) := h
    by_cases hv : v = j
    · subst hv
      have hl := (List.getElem?_eq_some_iff.mp h').1
      rw [List.length_set] at hl
      rw [List.getElem?_set_self hl] at h'
      cases h'
    · rw [List.getElem?_set_ne hv] at h'
      obtain ⟨h1, h2⟩ := kills_some h'
      exact ⟨h1, by simp only [List.mem_cons, not_or]; exact ⟨fun e => hv e.symm, h2⟩⟩
theorem kills_len (Γ : Sl) : ∀ vs : List Nat, (kills Γ vs).length = Γ.length
  | [] => rfl
  | v :: vs => by
    show ((kills Γ vs).set v none).length = _
    rw [List.length_set, kills_len Γ vs]
theorem SlotR.wipe {T : GE} {F : Hp} {A : List Addr} {Γ : Sl} {σ : L2.St} (s : SlotR T F A Γ σ) (vs : List Nat) : SlotR T F A (G.kills Γ vs) (L2.wipe σ vs) := by
  refine ⟨by rw [kills_len, wipe_length]; exact s.1, fun j d q => ?_⟩
  obtain ⟨h1, h2⟩ := kills_some q
  rw [wipe_out h2]
  exact s.2 j d h1
def lcF (g : Gx) (t : Tx) (f : Ex) (Γ : Sl) (M : Mem) : List D → Option (List D)
  | [] => some []
  | d :: r => (g d Γ).bind fun Γ1 => (t Γ1 M).bind fun k => if k = true then (f Γ1 M).bind fun y => (lcF g t f Γ M r).map (y :: ·) else lcF g t f Γ M r
def tYes_ : Tx := fun _ _ => some true
def xLc (g : Gx) (own : List Nat) (it : Ax) (t : Tx) (f : Ex) : Ex := fun Γ M => (it Γ M).bind fun ds => if ds.length ≤ 1000000 then (lcF g t f (kills Γ own) M ds).map .lst else none
theorem lcF_len (g : Gx) (t : Tx) (f : Ex) (Γ : Sl) (M : Mem) : ∀ (ds ys : List D), lcF g t f Γ M ds = some ys → ys.length ≤ ds.length
  | [], ys, e => by cases e; simp
  | d :: r, ys, e => by
    obtain ⟨Γ1, e1, e⟩ := bindS (show (g d Γ).bind _ = some ys from e)
    obtain ⟨k, e2, e⟩ := bindS e
    split at e
    · obtain ⟨y, e3, e⟩ := bindS e
      obtain ⟨zs, e4, rfl⟩ := Option.map_eq_some_iff.mp e
      have := lcF_len g t f Γ M r zs e4
      simp only [List.length_cons]
      omega
    · have := lcF_len g t f Γ M r ys e
      simp only [List.length_cons]
      omega
/-- an object that is neither frozen nor own may change -/
theorem HR.other {T : GE} {M : Mem} {F H : Hp} {A : List Addr} (h : HR T M F A H) {p : Addr} {o : HO} (np : F p = none) (nA : p ∉ A) : HR T M F A (upd H p o) := by
  have ne : ∀ {a : Addr}, a ∈ A → a ≠ p := fun ha e => nA (by rw [← e]; exact ha)
  refine ⟨fun b u q => ?_, h.nd, h.len, h.fr, fun n c a e1 e2 => ?_, fun a ha => ?_, h.dd⟩
  · have : b ≠ p := ne_of_none q np
    rw [upd_ne this]
    exact h.fs b u q
  · have ha := ne (List.mem_of_getElem? e2)
    have := h.mem n c a e1 e2
    cases c with
    | lst ds => obtain ⟨vs, z1, z2⟩ := this; exact ⟨vs, by rw [upd_ne ha]; exact z1, z2⟩
    | asc kk kvs => obtain ⟨vs, z1, z2⟩ := this; exact ⟨vs, z1.other ha, z2⟩
    | _ => exact this.elim
  · obtain ⟨u, z⟩ := h.al a ha
    exact ⟨u, by rw [upd_ne (ne ha)]; exact z⟩
def PTsG (X : Cx) (C : Nat → Addr) (es : List Expr) (f : Tx) : Prop := ∃ t, PTs X es t ∧ TTG ⟨X.K, C⟩ t f
section
variable {X : Cx} {C : Nat → Addr} {W : WX}
theorem gtsNil : PTsG X C [] tYes_ := ⟨_, pts_nil, fun Γ M d e σ F A H h s Q q => by cases e; exact q F H (Grow.refl h.fs)⟩
theorem gtsOne {c : Expr} {p : Tx} (h : PTG X C c p) : PTsG X C [c] p := let ⟨t, a, b⟩ := h; ⟨t, pts_one a, b⟩
theorem tLc_g {T : GE} {wi : TI} {tg : TG} {tt : TT} {te : TE} {it : Ax} {g : Gx} {t : Tx} {f : Ex} {idx own : List Nat} (hi : TIG T wi it) (hg : TGG T tg g idx) (ht : TTG T tt t) (he : TEG T te f) (hx : ∀ i ∈ idx, i ∈ own) :
    TNG T (tLc wi tg tt te own) (xLc g own it t f) := by
  intro Γ M d e σ F A H h s Q q
  obtain ⟨ds, e1, e⟩ := bindS e
  split at e
  · rename_i hlen
    obtain ⟨ys, e2, rfl⟩ := Option.map_eq_some_iff.mp e
    refine hi Γ M ds e1 σ F A H h s _ fun J F1 H1 gr ok => ?_
    intro P hP
    have h1 := h.grow gr
    have nF : F1 P = none := gr.fh.free hP
    have nA : P ∉ A := fun z => by
      obtain ⟨o, w⟩ := h1.al P z
      rw [hP] at w
      cases w
    have s1 := (s.same gr.ff).wipe own
    refine ⟨fun i m H2 => m = ds.length - i ∧ i ≤ ds.length ∧ ∃ F2 zs acc, Same F1 F2 ∧ Same H1 H2 ∧ (∀ p o, H1 p = some o → F1 p = none → F2 p = none) ∧ F2 P = none ∧ H2 P = some (.lst acc) ∧ HR T M F2 A H2 ∧ Reps T F2 A zs acc ∧ zs.length ≤ i ∧ ∃ rs, lcF g t f (kills Γ own) M (ds.drop i) = some rs ∧ ys = zs ++ rs,
      ⟨ds.length, by simp, Nat.zero_le _, F1, [], [], Same.refl _, same_new hP, fun _ _ _ z => z, nF, upd_same, h1.other nF nA, rfl, Nat.le_refl _, ys, e2, rfl⟩, ?_⟩
    rintro i m H2 ⟨rfl, hil, F2, zs, acc, f12, h12, nf, nP, hacc, h2, rz, zl, rs, e3, rfl⟩
    have itk := ok i M F2 A H2 f12 ⟨[], by simp⟩ h2
    by_cases hlt : i < ds.length
    · refine .inr ?_
      have ed : ds[i]? = some ds[i] := by simp [hlt]
      obtain ⟨go, yl⟩ := itk.2 _ ed
      rw [List.drop_eq_getElem_cons hlt] at e3
      obtain ⟨Γ3, e4, e5⟩ := bindS (show (g ds[i] (kills Γ own)).bind _ = some rs from e3)
      obtain ⟨k, e6, e7⟩ := bindS e5
      refine ⟨go, fun H' => ∃ F2 zs acc, Same F1 F2 ∧ Same H1 H' ∧ (∀ p o, H1 p = some o → F1 p = none → F2 p = none) ∧ F2 P = none ∧ H' P = some (.lst acc) ∧ HR T M F2 A H' ∧ Reps T F2 A zs acc ∧ zs.length ≤ i + 1 ∧ ∃ rs', lcF g t f (kills Γ own) M (ds.drop (i + 1)) = some rs' ∧ _ = zs ++ rs', fun H' n => ⟨ds.length - (i + 1), by omega, rfl, hlt, n⟩, fun x H3 y => ?_⟩
      obtain ⟨F3, gr3, r3⟩ := yl x H3 y
      have h3 := h2.grow gr3
      refine hg _ (kills Γ own) Γ3 e4 x (wipe σ own) F3 A H3 h3.fs r3 ((s1.same f12).same gr3.ff) _ fun σ3 s3 o3 => ⟨wipe_same hx o3, ?_⟩
      refine ht Γ3 M k e6 σ3 F3 A H3 h3 s3 _ fun F4 H4 gr4 => ?_
      have h4 := h3.grow gr4
      have g34 := gr3.trans gr4
      cases k with
      | true =>
        rw [if_pos rfl]
        rw [if_pos rfl] at e7
        obtain ⟨y0, e8, e9⟩ := bindS e7
        obtain ⟨rs', e10, rfl⟩ := Option.map_eq_some_iff.mp e9
        refine he Γ3 M y0 e8 σ3 F4 A H4 h4 (s3.same gr4.ff) _ fun v F5 H5 gr5 r5 => ?_
        have g35 := g34.trans gr5
        have h5 := h4.grow gr5
        have nP5 : F5 P = none := g35.nf P _ hacc nP
        refine ⟨acc, g35.hh _ _ hacc, ?_, F5, zs ++ [y0], acc ++ [v], f12.trans g35.ff, ?_, fun p o a b => g35.nf p o (h12 p o a) (nf p o a b), nP5, upd_same, h5.other nP5 nA, (rz.same g35.ff).append (Reps.one r5), by rw [List.length_append, List.length_singleton]; omega, rs', e10, by rw [List.append_assoc]; rfl⟩
        · rw [← rz.len]
          exact Nat.lt_of_lt_of_le (show zs.length < 1000001 by omega) (by decide)
        · intro b u hb
          rw [upd_ne (ne_of_none hb hP)]
          exact g35.hh b u (h12 b u hb)
      | false =>
        rw [if_neg Bool.false_ne_true]
        rw [if_neg Bool.false_ne_true] at e7
        exact ⟨F4, zs, acc, f12.trans g34.ff, h12.trans g34.hh, fun p o a b => g34.nf p o (h12 p o a) (nf p o a b), g34.nf P _ hacc nP, g34.hh _ _ hacc, h4, rz.same g34.ff, by omega, rs, e7, rfl⟩
    · have : i = ds.length := by omega
      subst this
      refine .inl ⟨itk.1 (Nat.le_refl _), ?_⟩
      rw [List.drop_length] at e3
      cases e3
      rw [List.append_nil] at q
      refine q P F2 H2 ⟨gr.ff.trans f12, h2.fs, gr.hh.trans h12, fun p o a b => nf p o (gr.hh p o a) (gr.nf p o a b)⟩ nP (gr.hh.free hP) ⟨acc, hacc, rz⟩
  · cases e
theorem nLc {elt tg iter : Expr} {ifs : List Expr} {scope : Scope} (own : List (Str × Nat)) {pos : Pos} {it : Ax} {g : Gx} {t : Tx} {f : Ex} {idx : List Nat} (hc : X.calm = true) (hN : X.N.Nodup) (hi : PIG X C tg iter it) (ok : BlkOk X.N X.env.scope scope own)
    (hg : ∀ (s : Shared) (H : Hp) (c : Addr) (cl : List (Str × Addr)) (fp : List Addr), PGG (X.blk s H scope (compEnvC scope cl c X.env) fp) C tg g idx)
    (ht : ∀ (s : Shared) (H : Hp) (c : Addr) (cl : List (Str × Addr)) (fp : List Addr), PTsG (X.blk s H scope (compEnvC scope cl c X.env) fp) C ifs t)
    (he : ∀ (s : Shared) (H : Hp) (c : Addr) (cl : List (Str × Addr)) (fp : List Addr), PEG (X.blk s H scope (compEnvC scope cl c X.env) fp) C elt f) (hx : ∀ i ∈ idx, i ∈ own.map (·.2)) (hs : ∀ x, foldedSetIterable iter X.env x = pure x := by intro _; rfl) :
    ∃ wi tgt tt te, PE X (.ListComp elt [⟨tg, iter, ifs, 0⟩] scope pos) (tLc wi tgt tt te (own.map (·.2))) ∧ TNG ⟨X.K, C⟩ (tLc wi tgt tt te (own.map (·.2))) (xLc g (own.map (·.2)) it t f) ∧
      ∀ {i : Nat} {y : Str} {py spos : Pos}, X.N[i]? = some y → X.env.scope.names.lookup y = some .local → swapsWith (.ListComp elt [⟨tg, iter, ifs, 0⟩] scope pos) (some (.Name y py)) spos.line X.env = pure true →
        PS X (.Assign [.Name y py] (.ListComp elt [⟨tg, iter, ifs, 0⟩] scope pos) spos) (tAsg (tLc wi tgt tt te (own.map (·.2))) (gName i)) := by
  obtain ⟨wi, i1, i2⟩ := hi
  have hg1 : ∀ (s : Shared) (H : Hp) (c : Addr) (cl : List (Str × Addr)) (fp : List Addr), PG (X.blk s H scope (compEnvC scope cl c X.env) fp) tg (fun v σ H Q => ∀ s H0 c cl fp, Classical.choose (hg s H0 c cl fp) v σ H Q) :=
    fun s H c cl fp => ⟨fun pins s' σ H' v u Q I r h => (Classical.choose_spec (hg s H c cl fp)).1.run pins s' σ H' v u Q I r (h s H c cl fp)⟩
  have ht1 : ∀ (s : Shared) (H : Hp) (c : Addr) (cl : List (Str × Addr)) (fp : List Addr), PTs (X.blk s H scope (compEnvC scope cl c X.env) fp) ifs (fun σ H Q => ∀ s H0 c cl fp, Classical.choose (ht s H0 c cl fp) σ H Q) :=
    fun s H c cl fp => ⟨fun pins s' σ H' Q I h => (Classical.choose_spec (ht s H c cl fp)).1.run pins s' σ H' Q I (h s H c cl fp)⟩
  have he1 : ∀ (s : Shared) (H : Hp) (c : Addr) (cl : List (Str × Addr)) (fp : List Addr), PE (X.blk s H scope (compEnvC scope cl c X.env) fp) elt (fun σ H Q => ∀ s H0 c cl fp, Classical.choose (he s H0 c cl fp) σ H Q) :=
    fun s H c cl fp => ⟨fun pins s' σ H' Q I h => (Classical.choose_spec (he s H c cl fp)).1.run pins s' σ H' Q I (h s H c cl fp)⟩
  refine ⟨wi, _, _, _, pe_lc hc hN i1 ok hg1 ht1 he1 hs, tLc_g i2 ?_ ?_ ?_ hx, fun hy hyl hsw => ps_setLc hc hN hy hyl hsw i1 ok hg1 ht1 he1 hs⟩
  · exact fun d Γ Γ' e v σ F A H fs r s Q q s0 H0 c cl fp => (Classical.choose_spec (hg s0 H0 c cl fp)).2 d Γ Γ' e v σ F A H fs r s Q q
  · exact fun Γ M d e σ F A H h s Q q s0 H0 c cl fp => (Classical.choose_spec (ht s0 H0 c cl fp)).2 Γ M d e σ F A H h s Q q
  · exact fun Γ M d e σ F A H h s Q q s0 H0 c cl fp => (Classical.choose_spec (he s0 H0 c cl fp)).2 Γ M d e σ F A H h s Q q
section
variable {elt tg iter : Expr} {ifs : List Expr} {scope : Scope} {own : List (Str × Nat)} {pos : Pos} {it : Ax} {g : Gx} {t : Tx} {f : Ex} {idx : List Nat}
/-- as a value, frozen -/
theorem gLc (own : List (Str × Nat)) (hc : X.calm = true) (hN : X.N.Nodup) (hi : PIG X C tg iter it) (ok : BlkOk X.N X.env.scope scope own)
    (hg : ∀ (s : Shared) (H : Hp) (c : Addr) (cl : List (Str × Addr)) (fp : List Addr), PGG (X.blk s H scope (compEnvC scope cl c X.env) fp) C tg g idx)
    (ht : ∀ (s : Shared) (H : Hp) (c : Addr) (cl : List (Str × Addr)) (fp : List Addr), PTsG (X.blk s H scope (compEnvC scope cl c X.env) fp) C ifs t)
    (he : ∀ (s : Shared) (H : Hp) (c : Addr) (cl : List (Str × Addr)) (fp : List Addr), PEG (X.blk s H scope (compEnvC scope cl c X.env) fp) C elt f) (hx : ∀ i ∈ idx, i ∈ own.map (·.2)) (hs : ∀ x, foldedSetIterable iter X.env x = pure x := by intro _; rfl) :
    PEG X C (.ListComp elt [⟨tg, iter, ifs, 0⟩] scope pos) (xLc g (own.map (·.2)) it t f) := by
  obtain ⟨_, _, _, _, h1, h2, _⟩ := nLc (pos := pos) own hc hN hi ok hg ht he hx hs
  exact ⟨_, h1, h2.frz⟩
/-- y = [..], frozen -/
theorem sSetLc_ (own : List (Str × Nat)) {i : Nat} {y : Str} {py spos : Pos} (hc : X.calm = true) (hN : X.N.Nodup) (hy : X.N[i]? = some y) (hyl : X.env.scope.names.lookup y = some .local) (hsw : swapsWith (.ListComp elt [⟨tg, iter, ifs, 0⟩] scope pos) (some (.Name y py)) spos.line X.env = pure true) (hi : PIG X C tg iter it) (ok : BlkOk X.N X.env.scope scope own)
    (hg : ∀ (s : Shared) (H : Hp) (c : Addr) (cl : List (Str × Addr)) (fp : List Addr), PGG (X.blk s H scope (compEnvC scope cl c X.env) fp) C tg g idx)
    (ht : ∀ (s : Shared) (H : Hp) (c : Addr) (cl : List (Str × Addr)) (fp : List Addr), PTsG (X.blk s H scope (compEnvC scope cl c X.env) fp) C ifs t)
    (he : ∀ (s : Shared) (H : Hp) (c : Addr) (cl : List (Str × Addr)) (fp : List Addr), PEG (X.blk s H scope (compEnvC scope cl c X.env) fp) C elt f) (hx : ∀ i ∈ idx, i ∈ own.map (·.2)) (hs : ∀ x, foldedSetIterable iter X.env x = pure x := by intro _; rfl) :
    PSG X C W (.Assign [.Name y py] (.ListComp elt [⟨tg, iter, ifs, 0⟩] scope pos) spos) (sSet i (xLc g (own.map (·.2)) it t f)) := by
  obtain ⟨_, _, _, _, h1, h2, h3⟩ := nLc (pos := pos) own hc hN hi ok hg ht he hx hs
  refine ⟨_, h3 hy hyl hsw, fun Γ M o e σ F A H h s D k => ?_⟩
  obtain ⟨d, e1, e⟩ := bindS e
  cases e
  exact h2.frz Γ M d e1 σ F A H h s _ fun v F1 H1 g1 r1 => k _ F1 A H1 (h.grow g1) ((s.same g1.ff).set r1 i) g1.step
/-- y = [..], own -/
theorem sNewLc_ (own : List (Str × Nat)) {i : Nat} {y : Str} {py spos : Pos} (hc : X.calm = true) (hN : X.N.Nodup) (hy : X.N[i]? = some y) (hyl : X.env.scope.names.lookup y = some .local) (hsw : swapsWith (.ListComp elt [⟨tg, iter, ifs, 0⟩] scope pos) (some (.Name y py)) spos.line X.env = pure true) (hi : PIG X C tg iter it) (ok : BlkOk X.N X.env.scope scope own)
    (hg : ∀ (s : Shared) (H : Hp) (c : Addr) (cl : List (Str × Addr)) (fp : List Addr), PGG (X.blk s H scope (compEnvC scope cl c X.env) fp) C tg g idx)
    (ht : ∀ (s : Shared) (H : Hp) (c : Addr) (cl : List (Str × Addr)) (fp : List Addr), PTsG (X.blk s H scope (compEnvC scope cl c X.env) fp) C ifs t)
    (he : ∀ (s : Shared) (H : Hp) (c : Addr) (cl : List (Str × Addr)) (fp : List Addr), PEG (X.blk s H scope (compEnvC scope cl c X.env) fp) C elt f) (hx : ∀ i ∈ idx, i ∈ own.map (·.2)) (hs : ∀ x, foldedSetIterable iter X.env x = pure x := by intro _; rfl) :
    PSG X C W (.Assign [.Name y py] (.ListComp elt [⟨tg, iter, ifs, 0⟩] scope pos) spos) (sNew i (xLc g (own.map (·.2)) it t f)) := by
  obtain ⟨_, _, _, _, h1, h2, h3⟩ := nLc (pos := pos) own hc hN hi ok hg ht he hx hs
  refine ⟨_, h3 hy hyl hsw, fun Γ M o e σ F A H h s D k => ?_⟩
  obtain ⟨d, e1, e⟩ := bindS e
  cases e
  refine h2 Γ M d e1 σ F A H h s _ fun p F1 H1 g1 np hp kk => ?_
  obtain ⟨h1, s1, r1⟩ := nAdd h g1 np hp kk
  exact k _ F1 _ H1 h1 ((s1.slots s).set r1 i) s1
end
end
/-! ### an own thing is frozen -/
mutual
def locFree : D → Bool
  | .tup ds => locFrees ds
  | .lst ds => locFrees ds
  | .asc _ kvs => locFreeA kvs
  | .loc _ => false
  | .non => true
  | .bl _ => true
  | .int _ => true
  | .str _ => true
  | .scr _ => true
  | .ty _ => true
  | .cls _ => true
  | .exc _ _ => true
def locFrees : List D → Bool
  | [] => true
  | d :: r => locFree d && locFrees r
def locFreeA : List (DK × D) → Bool
  | [] => true
  | (_, d) :: r => locFree d && locFreeA r
end
section
variable {T : GE} {F : Hp} {A A' : List Addr}
mutual
theorem Rep.noLoc : ∀ (d : D) (v : V), locFree d = true → Rep T F A d v → Rep T F A' d v
  | .non, _, _, h => h
  | .bl _, _, _, h => h
  | .int _, _, _, h => h
  | .str _, _, _, h => h
  | .scr _, _, _, h => h
  | .ty _, _, _, h => h
  | .cls _, _, _, h => h
  | .exc _ _, _, _, h => h
  | .tup ds, v, l, ⟨a, vs, h1, h2, h3⟩ => ⟨a, vs, h1, h2, Reps.noLoc ds vs l h3⟩
  | .lst ds, v, l, ⟨a, vs, h1, h2, h3⟩ => ⟨a, vs, h1, h2, Reps.noLoc ds vs l h3⟩
  | .asc k kvs, v, l, ⟨a, vs, h1, h2, h3⟩ => ⟨a, vs, h1, h2, RepA.noLoc kvs vs l h3⟩
  | .loc n, v, l, _ => by cases l
theorem Reps.noLoc : ∀ (ds : List D) (vs : List V), locFrees ds = true → Reps T F A ds vs → Reps T F A' ds vs
  | [], _, _, h => h
  | d :: ds, _, l, ⟨v, r, h1, h2, h3⟩ => by
    obtain ⟨l1, l2⟩ := Bool.and_eq_true_iff.mp (show (locFree d && locFrees ds) = true from l)
    exact ⟨v, r, h1, Rep.noLoc d v l1 h2, Reps.noLoc ds r l2 h3⟩
theorem RepA.noLoc : ∀ (ds : List (DK × D)) (vs : List (DK × V)), locFreeA ds = true → RepA T F A ds vs → RepA T F A' ds vs
  | [], _, _, h => h
  | (k, d) :: ds, _, l, ⟨v, r, h1, h2, h3⟩ => by
    obtain ⟨l1, l2⟩ := Bool.and_eq_true_iff.mp (show (locFree d && locFreeA ds) = true from l)
    exact ⟨v, r, h1, Rep.noLoc d v l1 h2, RepA.noLoc ds r l2 h3⟩
end
theorem locFree_cont {H : Hp} {c : D} {a : Addr} (l : locFree c = true) (k : Cont T F A H c a) : Cont T F A' H c a := by
  cases c with
  | lst ds => obtain ⟨vs, h1, h2⟩ := k; exact ⟨vs, h1, Reps.noLoc _ _ l h2⟩
  | asc kk kvs => obtain ⟨vs, h1, h2⟩ := k; exact ⟨vs, h1, RepA.noLoc _ _ l h2⟩
  | _ => exact k.elim
end
/-- the thing at n is frozen from here on -/
theorem HR.freeze {T : GE} {M : Mem} {F H : Hp} {A : List Addr} (h : HR T M F A H) {n : Nat} {c : D} (e : M[n]? = some (some c)) : ∃ a F', A[n]? = some a ∧ HR T (M.set n none) F' A H ∧ Step F A H F' A H ∧ Rep T F' A c (.ref a) := by
  have hn : n < M.length := (List.getElem?_eq_some_iff.mp e).1
  have hnA : n < A.length := by rw [h.len]; exact hn
  have e2 : A[n]? = some A[n] := by simp [hnA]
  obtain ⟨F', s1, s2, s3, r⟩ := (h.mem n c _ e e2).freeze h.fs (h.fr n c _ e e2)
  obtain ⟨o, ho⟩ := (h.mem n c _ e e2).there
  have ne : ∀ {m : Nat} {b : Addr}, m ≠ n → A[m]? = some b → b ≠ A[n] := fun {m b} hm q z => hm (nodup_at h.nd q (by rw [e2, z]))
  have live : ∀ {m : Nat} {d : D}, (M.set n none)[m]? = some (some d) → m ≠ n ∧ M[m]? = some (some d) := fun {m d} q => by
    by_cases hm : m = n
    · subst hm
      rw [List.getElem?_set_self hn] at q
      cases q
    · rw [List.getElem?_set_ne (Ne.symm hm)] at q
      exact ⟨hm, q⟩
  have hF : F' A[n] ≠ none := fun z => by
    cases c with
    | lst ds => obtain ⟨a, vs, q, q2, _⟩ := r; cases q; rw [z] at q2; cases q2
    | asc k kvs =>
      obtain ⟨a, vs, q, q2, _⟩ := r
      cases q
      cases k with
      | k => obtain ⟨ws, q2, _⟩ := q2; rw [z] at q2; cases q2
      | t => obtain ⟨ws, q2, _⟩ := q2; rw [z] at q2; cases q2
      | ins c => obtain ⟨dx, ws, q2, _⟩ := q2; rw [z] at q2; cases q2
    | _ => exact (h.mem n _ _ e e2).elim
  refine ⟨A[n], F', e2, ⟨s1, h.nd, by rw [List.length_set]; exact h.len, fun m d b q1 q2 => ?_, fun m d b q1 q2 => ?_, h.al, fun m b q1 q2 z => ?_⟩, ⟨s2, fun _ _ q _ => q, fun p u q np z => ?_, [], by simp, fun _ z => by cases z⟩, r⟩
  · obtain ⟨hm, q⟩ := live q1
    rw [s3 b (ne hm q2)]
    exact h.fr m d b q q2
  · obtain ⟨hm, q⟩ := live q1
    have := h.mem m d b q q2
    cases d with
    | lst ds => obtain ⟨vs, z1, z2⟩ := this; exact ⟨vs, z1, z2.same s2⟩
    | asc kk kvs => obtain ⟨vs, z1, z2⟩ := this; exact ⟨vs, z1, z2.same s2⟩
    | _ => exact this.elim
  · by_cases hm : m = n
    · subst hm
      rw [e2] at q2
      cases q2
      exact hF z
    · rw [List.getElem?_set_ne (Ne.symm hm)] at q1
      exact h.dd m b q1 q2 (s2.free z)
  · rw [s3 p (fun y => np (by rw [y]; exact List.mem_of_getElem? e2))]
    exact z
/-- behind s the thing in slot i is frozen -/
def frzO (i : Nat) : Out → Option Out
  | .nx Γ M => (xVar i Γ M).bind fun x => withLoc M x fun n c => if locFree c = true then some (.nx (Γ.set i (some c)) (M.set n none)) else none
  | o => some o
def sFrz (i : Nat) (s : Sx) : Sx := fun Γ M => (s Γ M).bind (frzO i)
theorem TSG.frz {T : GE} {W : WX} {t : TS} {s : Sx} (i : Nat) (h : TSG T W t s) : TSG T W t (sFrz i s) := by
  intro Γ M o e σ F A H hh ss D k
  obtain ⟨o1, e1, e⟩ := bindS e
  refine h Γ M o1 e1 σ F A H hh ss D ?_
  cases o1 with
  | nx Γ1 M1 =>
    obtain ⟨x, e2, e3⟩ := bindS (show (xVar i Γ1 M1).bind _ = some o from e)
    obtain ⟨n, c, rfl, e4, e5⟩ := withLoc_inv e3
    split at e5
    · cases e5
      intro σ2 F2 A2 H2 h2 s2 st2
      obtain ⟨a, F3, q1, q2, q3, q4⟩ := h2.freeze e4
      unfold xVar at e2
      split at e2
      · rename_i d hd
        cases e2
        obtain ⟨v, v1, b, v2, v3⟩ := s2.2 i _ hd
        rw [q1] at v2
        cases v2
        subst v3
        have s3 := (q3.slots s2).set q4 i
        have : σ2.set i (some (V.ref a)) = σ2 := by
          refine List.ext_getElem? fun j => ?_
          by_cases hj : i = j
          · subst hj
            rw [List.getElem?_set_self (List.getElem?_eq_some_iff.mp v1).1, v1]
          · rw [List.getElem?_set_ne hj]
        rw [this] at s3
        exact k σ2 F3 A2 H2 q2 s3 (st2.trans q3)
      · cases e2
    · cases e5
  | rt d M1 => cases e; exact k
  | bk Γ1 M1 => cases e; exact k
  | ct Γ1 M1 => cases e; exact k
  | ex x Γ1 M1 => cases e; exact k
theorem sFrz_ {X : Cx} {C : Nat → Addr} {W : WX} {st : Stmt} {s : Sx} (i : Nat) (h : PSG X C W st s) : PSG X C W st (sFrz i s) := let ⟨t, a, b⟩ := h; ⟨t, a, b.frz i⟩
end G
set_option Elab.async false
set_option linter.all false
set_option maxRecDepth 100000
set_option maxHeartbeats 4000000
namespace G
open PySem PySem.Spec PyProof.Rows L2
/-! ### defs -/
inductive Res where
  | ret (d : D) (M : Mem) | exc (x : Exn) (M : Mem)
abbrev Fx := List D → Mem → Option Res
def ResOk (T : GE) (F : Hp) (A : List Addr) (H : Hp) (Q : VK) (E : XK) : Option Res → Prop
  | some (.ret d M) => ∀ v F' A' H', HR T M F' A' H' → Rep T F' A' d v → Step F A H F' A' H' → Q v H'
  | some (.exc x M) => ∀ cls dd F' A' H', HR T M F' A' H' → ExRep T H' x cls dd → Step F A H F' A' H' → E cls dd H'
  | none => False
/-- the promise of a def that computes I -/
def spI (T : GE) (n : Nat) (I : Fx) : Sp := fun vs H Q E => ∃ ds M F A, ds.length = n ∧ HR T M F A H ∧ Reps T F A ds vs ∧ ResOk T F A H Q E (I ds M)
def runB (N : Nat) (s : Sx) : Fx := fun ds M => (s (ds.map some ++ List.replicate (N - ds.length) none) M).bind fun o => match o with
  | .nx _ M1 => some (.ret .non M1)
  | .rt d M1 => some (.ret d M1)
  | .ex x _ M1 => some (.exc x M1)
  | _ => none
theorem start_slots {T : GE} {F : Hp} {A : List Addr} {ds : List D} {vs : List V} (r : Reps T F A ds vs) (N : List Str) : SlotR T F A (ds.map some ++ List.replicate (N.length - ds.length) none) (L2.start N vs) := by
  have hl := r.len
  refine ⟨by simp only [L2.start, List.length_append, List.length_map, List.length_replicate, hl], fun i d q => ?_⟩
  by_cases hi : i < ds.length
  · rw [List.getElem?_append_left (by rw [List.length_map]; exact hi), List.getElem?_map] at q
    obtain ⟨d', e1, e2⟩ := Option.map_eq_some_iff.mp q
    cases e2
    obtain ⟨v, e3, e4⟩ := r.get' e1
    refine ⟨v, ?_, e4⟩
    unfold L2.start
    rw [List.getElem?_append_left (by rw [List.length_map, ← hl]; exact hi), List.getElem?_map, e3]
    rfl
  · rw [List.getElem?_append_right (by rw [List.length_map]; omega)] at q
    obtain ⟨h1, h2⟩ := List.getElem?_eq_some_iff.mp q
    rw [List.getElem_replicate] at h2
    cases h2
section
variable {P : Program} {w : World} {K : PySem.W.Frag} {mg : Str → Option Value} {base : Heap} {C : Nat → Addr} {x qual : Str} {st : Stmt} {f : Addr} {fd : FuncData} {N ps : List Str} {k : Nat} {s : Sx}
/-- a def of the text as it stands behind the top -/
abbrev FnP (K : PySem.W.Frag) (x qual : Str) (st : Stmt) (f : Addr) (fd : FuncData) : Prop := FunD K x qual (defArgs st) (defBody st) (defScope st) [] [] f fd
theorem run_ok {T : GE} {n : Nat} {t : TS} {vs : List V} {H : Hp} {Q : VK} {E : XK} {W : WX} (hW : ∀ cls dd σ H', W cls dd σ H' = E cls dd H') (ht : TSG T W t s) (h : spI T n (runB N.length s) vs H Q E) : t { nx := fun _ H' => Q .non H', rt := Q } (L2.start N vs) H := by
  obtain ⟨ds, M, F, A, hn, hr, rs, ok⟩ := h
  unfold runB at ok
  cases e : s (ds.map some ++ List.replicate (N.length - ds.length) none) M with
  | none => rw [e] at ok; exact ok.elim
  | some o =>
    rw [e] at ok
    refine ht _ M o e (L2.start N vs) F A H hr (start_slots rs N) _ ?_
    cases o with
    | nx Γ1 M1 => exact fun σ F' A' H' a b c => ok _ F' A' H' a rfl c
    | rt d M1 => exact fun v F' A' H' a b c => ok v F' A' H' a b c
    | bk Γ1 M1 => exact ok.elim
    | ct Γ1 M1 => exact ok.elim
    | ex x6 Γ1 M1 => exact fun cls dd σ F' A' H' a b e c => by rw [hW]; exact ok cls dd F' A' H' a e c
theorem spI_len {T : GE} {I : Fx} {n : Nat} : ∀ vs H Q E, spI T n I vs H Q E → vs.length = n := fun vs H Q E ⟨ds, M, F, A, hn, _, r, _⟩ => r.len.symm.trans hn
/-- a def that lets no exception out -/
theorem fn_ok0 (F : FnP K x qual st f fd) (S : FnScope N ps (defScope st)) (hb : ∀ (cdv : Value) (A : Around) (outer : List Env) (s0 : Shared) (H : Hp) (E : XK), Room k (A.deeper (envOfC qual (defScope st) s0.heap.objs.size f cdv)) →
    PBG (cxOf CX0 P w K mg base N qual (defScope st) f cdv A outer s0 H E).nox C (fun _ _ _ _ => False) (defBody st) s) : FnOk P w K mg base CX0 (k + 1) f fd ps (fun vs H Q _ => spI ⟨K, C⟩ ps.length (runB N.length s) vs H Q E0) := by
  refine F.ok S (fun vs H Q E h => spI_len vs H Q _ h) fun cdv A outer s0 H vs Q E hr h => ?_
  obtain ⟨t, h1, h2⟩ := hb cdv A outer s0 H E hr
  exact ⟨t, h1.nox, run_ok (fun _ _ _ _ => rfl) h2 h⟩
end
/-! ### a def that is called with frozen things only: its value alone -/
inductive PR where
  | val (d : D) | fresh (c : D)
def PR.d : PR → D
  | .val d => d
  | .fresh c => c
def pEnd : Res → Option PR
  | .ret d M => if locFree d = true then some (.val d) else withLoc M d fun _ c => if locFree c = true then some (.fresh c) else none
  | .exc _ _ => none
def pRun (I : Fx) (ds : List D) : Option PR := (I ds []).bind pEnd
/-- the call, its value frozen -/
def xCallP (p : List D → Option PR) (fa : Ax) : Ex := fun Γ M => (fa Γ M).bind fun xs => if locFrees xs = true then (p xs).map PR.d else none
/-- the call, its value a new own thing -/
def xCallN (p : List D → Option PR) (fa : Ax) : Ex := fun Γ M => (fa Γ M).bind fun xs => if locFrees xs = true then (p xs).bind fun r => match r with
  | .fresh c => some c
  | _ => none else none
theorem nilHR {T : GE} {F H : Hp} (fs : Same F H) : HR T [] F [] H := ⟨fs, List.nodup_nil, rfl, (fun n c a e => by simp at e), (fun n c a e => by simp at e), (fun a h => by cases h), (fun n a e => by simp at e)⟩
theorem Step.grow {F H F' H' : Hp} {A' : List Addr} (s : Step F [] H F' A' H') (fs : Same F' H') : Grow F H F' H' := ⟨s.ff, fs, fun p o h => s.kp p o h (by simp), fun p o h z => s.nf p o h (by simp) z⟩
/-- what a pure call gives -/
theorem pure_end {T : GE} {n : Nat} {I : Fx} {xs : List D} {r : PR} (e : pRun I xs = some r) (hn : xs.length = n) (hl : locFrees xs = true) {vs : List V} {F H : Hp} {A : List Addr} {Q : VK} {E : XK} (h : Same F H) (hv : Reps T F A xs vs)
    (q : ∀ v F' A' H' d M', Grow F H F' H' → HR T M' F' A' H' → Rep T F' A' d v → Step F [] H F' A' H' → pEnd (.ret d M') = some r → Q v H') : spI T n I vs H Q E := by
  refine ⟨xs, [], F, [], hn, nilHR h, Reps.noLoc _ _ hl hv, ?_⟩
  obtain ⟨re, e1, e2⟩ := bindS e
  rw [e1]
  cases re with
  | exc x M => cases e2
  | ret d M => exact fun v F' A' H' h1 r1 st => q v F' A' H' d M (st.grow h1.fs) h1 r1 st e2
theorem pEnd_frz {T : GE} {F H F' H' : Hp} {A' : List Addr} {d : D} {M' : Mem} {r : PR} {v : V} (e : pEnd (.ret d M') = some r) (g : Grow F H F' H') (h : HR T M' F' A' H') (rv : Rep T F' A' d v) (st : Step F [] H F' A' H') (A : List Addr) : ∃ F2, Grow F H F2 H' ∧ Rep T F2 A r.d v := by
  unfold pEnd at e
  dsimp only at e
  split at e
  · rename_i hl
    cases e
    exact ⟨F', g, Rep.noLoc _ _ hl rv⟩
  · obtain ⟨n, c, rfl, e1, e2⟩ := withLoc_inv e
    split at e2
    · rename_i hl
      cases e2
      obtain ⟨a, F2, q1, q2, q3, q4⟩ := h.freeze e1
      obtain ⟨b, r1, rfl⟩ := rv
      rw [q1] at r1
      cases r1
      have s2 := st.trans q3
      exact ⟨F2, s2.grow q2.fs, Rep.noLoc _ _ hl q4⟩
    · cases e2
theorem pEnd_new {T : GE} {F H F' H' : Hp} {A' : List Addr} {d : D} {M' : Mem} {c : D} {v : V} (e : pEnd (.ret d M') = some (.fresh c)) (h : HR T M' F' A' H') (rv : Rep T F' A' d v) (st : Step F [] H F' A' H') (A : List Addr) : ∃ p, v = .ref p ∧ F' p = none ∧ H p = none ∧ Cont T F' A H' c p := by
  unfold pEnd at e
  dsimp only at e
  split at e
  · cases e
  · obtain ⟨n, c, rfl, e1, e2⟩ := withLoc_inv e
    split at e2
    · rename_i hl
      cases e2
      obtain ⟨b, r1, rfl⟩ := rv
      obtain ⟨B, hB, p⟩ := st.px
      rw [List.nil_append] at hB
      subst hB
      exact ⟨b, rfl, h.fr _ _ _ e1 r1, (p b (List.mem_of_getElem? r1)).1, locFree_cont hl (h.mem _ _ _ e1 r1)⟩
    · cases e2
section
variable {X : Cx} {C : Nat → Addr} {W : WX} {k n : Nat} {f : Addr} {fd : FuncData} {ps : List Str} {I : Fx} {x : Str} {p pos : Pos} {e : Expr} {es : List Expr} {fa : Ax} {pr : List D → Option PR}
/-- the promise of a def that lets nothing out -/
abbrev Fn0 (X : Cx) (C : Nat → Addr) (k : Nat) (f : Addr) (fd : FuncData) (ps : List Str) (I : Fx) : Prop := FnOk X.prog X.w X.K X.mg X.base CX0 k f fd ps (fun vs H Q _ => spI ⟨X.K, C⟩ ps.length I vs H Q E0)
theorem gCallP (hF : Fn0 X C k f fd ps I) (hp : pr = pRun I) (hr : Room k X.A) (hg : Gl X x) (hm : X.mg x = some (.ref f)) (hk : PySem.W.keepIn X.K (.ref f) = true) (hb : Binds X.K fd ps []) (ha : PAG X C (e :: es) fa) (hn : (e :: es).length = ps.length := by rfl)
    (hdb : (x == ("__debug__" : Str)) = false := by decide) (he : starEach (e :: es) X.env = (false, eval e X.env) :: starEach es X.env := by rfl) (hpl : (backTo pos (starEach es X.env)).any (·.1) = false := by rfl)
    (hfl : ∀ Γ M xs, fa Γ M = some xs → xs.length = (e :: es).length) : PEG X C (.Call (.Name x p) (e :: es) [] pos) (xCallP pr fa) := by
  subst hp
  obtain ⟨t, a1, a2⟩ := ha
  refine ⟨_, pe_call hF hr hg hm hk hb .nil pass0 a1 hdb he hpl, fun Γ M d e σ F A H h s Q q => ?_⟩
  obtain ⟨xs, e1, e⟩ := bindS e
  split at e
  · rename_i hl
    obtain ⟨r, e2, rfl⟩ := Option.map_eq_some_iff.mp e
    refine a2 Γ M xs e1 σ F A H h s _ fun vs F1 H1 g1 r1 => ?_
    rw [List.append_nil]
    refine pure_end e2 ((hfl _ _ _ e1).trans hn) hl g1.fh r1 fun v F' A' H' d M' g h2 r2 st ee => ?_
    obtain ⟨F2, g2, r3⟩ := pEnd_frz ee g h2 r2 st A
    exact q v F2 H' (g1.trans g2) r3
  · cases e
theorem nCallP (hF : Fn0 X C k f fd ps I) (hp : pr = pRun I) (hr : Room k X.A) (hg : Gl X x) (hm : X.mg x = some (.ref f)) (hk : PySem.W.keepIn X.K (.ref f) = true) (hb : Binds X.K fd ps []) (ha : PAG X C (e :: es) fa) (hn : (e :: es).length = ps.length := by rfl)
    (hdb : (x == ("__debug__" : Str)) = false := by decide) (he : starEach (e :: es) X.env = (false, eval e X.env) :: starEach es X.env := by rfl) (hpl : (backTo pos (starEach es X.env)).any (·.1) = false := by rfl)
    (hfl : ∀ Γ M xs, fa Γ M = some xs → xs.length = (e :: es).length) : PNG X C (.Call (.Name x p) (e :: es) [] pos) (xCallN pr fa) := by
  subst hp
  obtain ⟨t, a1, a2⟩ := ha
  refine ⟨_, pe_call hF hr hg hm hk hb .nil pass0 a1 hdb he hpl, fun Γ M d e σ F A H h s Q q => ?_⟩
  obtain ⟨xs, e1, e⟩ := bindS e
  split at e
  · rename_i hl
    obtain ⟨r, e2, e3⟩ := bindS e
    refine a2 Γ M xs e1 σ F A H h s _ fun vs F1 H1 g1 r1 => ?_
    rw [List.append_nil]
    refine pure_end e2 ((hfl _ _ _ e1).trans hn) hl g1.fh r1 fun v F' A' H' d M' g h2 r2 st ee => ?_
    split at e3
    · cases e3
      obtain ⟨p0, rfl, np, hp, kk⟩ := pEnd_new ee h2 r2 st A
      exact q p0 F' H' (g1.trans g) np (g1.hh.free hp) kk
    · cases e3
  · cases e
theorem acons_len {f : Ex} {r : Ax} {m : Nat} (h : ∀ Γ M xs, r Γ M = some xs → xs.length = m) : ∀ Γ M xs, xAcons f r Γ M = some xs → xs.length = m + 1 := fun Γ M xs e => by
  obtain ⟨x, e1, e⟩ := bindS e
  obtain ⟨y, e2, e⟩ := bindS e
  cases e
  rw [List.length_cons, h Γ M y e2]
theorem anil_len : ∀ Γ M xs, xAnil Γ M = some xs → xs.length = 0 := fun Γ M xs e => by cases e; rfl
end
/-! ### the law -/
theorem law_ok {T : GE} {I : Fx} (h : ∀ ns : List Int, ns.length ≤ 63 → ∃ M, I [.scr ns] [] = some (.ret (.bl true) M)) (H : Hp) (a : Addr) (ns : List Int) (hl : ns.length ≤ 63) (hS : SqL T.K H a (ns.map V.int)) : spI T 1 I [.ref a] H (fun v _ => v = .bl true) E0 := by
  obtain ⟨M, e⟩ := h ns hl
  refine ⟨[.scr ns], [], H, [], rfl, nilHR (Same.refl _), ⟨_, [], rfl, ⟨a, rfl, hS⟩, rfl⟩, ?_⟩
  rw [e]
  exact fun v F' A' H' _ r _ => r
end G
set_option Elab.async false
set_option linter.all false
set_option maxRecDepth 100000
set_option maxHeartbeats 4000000
namespace G
open PySem PySem.Spec PyProof.Rows L2
/-! ### own things lent to a pure def: what comes back must not hold them -/
mutual
def clean : D → Bool
  | .non => true
  | .bl _ => true
  | .int _ => true
  | .str _ => true
  | .tup ds => cleans ds
  | .lst _ => false
  | .asc _ _ => false
  | .loc _ => false
  | .scr _ => false
  | .ty _ => false
  | .cls _ => false
  | .exc _ _ => false
def cleans : List D → Bool
  | [] => true
  | d :: r => clean d && cleans r
end
def cleanA : List (DK × D) → Bool
  | [] => true
  | (_, d) :: r => clean d && cleanA r
def cleanP : PR → Bool
  | .val d => clean d
  | .fresh (.lst ds) => cleans ds
  | .fresh (.asc _ kvs) => cleanA kvs
  | .fresh _ => false
section
variable {T : GE} {F F2 : Hp} {A A2 : List Addr}
mutual
theorem Rep.clean (ht : ∀ p vs, F p = some (.tup vs) → F2 p = some (.tup vs)) : ∀ (d : D) (v : V), clean d = true → Rep T F A d v → Rep T F2 A2 d v
  | .non, _, _, h => h
  | .bl _, _, _, h => h
  | .int _, _, _, h => h
  | .str _, _, _, h => h
  | .tup ds, v, l, ⟨a, vs, h1, h2, h3⟩ => ⟨a, vs, h1, ht _ _ h2, Reps.clean ht ds vs l h3⟩
  | .lst _, _, l, _ => by cases l
  | .asc _ _, _, l, _ => by cases l
  | .loc _, _, l, _ => by cases l
  | .scr _, _, l, _ => by cases l
  | .ty _, _, l, _ => by cases l
  | .cls _, _, l, _ => by cases l
  | .exc _ _, _, l, _ => by cases l
theorem Reps.clean (ht : ∀ p vs, F p = some (.tup vs) → F2 p = some (.tup vs)) : ∀ (ds : List D) (vs : List V), cleans ds = true → Reps T F A ds vs → Reps T F2 A2 ds vs
  | [], _, _, h => h
  | d :: ds, _, l, ⟨v, r, h1, h2, h3⟩ => by
    obtain ⟨l1, l2⟩ := Bool.and_eq_true_iff.mp (show (G.clean d && cleans ds) = true from l)
    exact ⟨v, r, h1, Rep.clean ht d v l1 h2, Reps.clean ht ds r l2 h3⟩
end
theorem RepA.clean (ht : ∀ p vs, F p = some (.tup vs) → F2 p = some (.tup vs)) : ∀ (ds : List (DK × D)) (vs : List (DK × V)), cleanA ds = true → RepA T F A ds vs → RepA T F2 A2 ds vs
  | [], _, _, h => h
  | (k, d) :: ds, _, l, ⟨v, r, h1, h2, h3⟩ => by
    obtain ⟨l1, l2⟩ := Bool.and_eq_true_iff.mp (show (G.clean d && cleanA ds) = true from l)
    exact ⟨v, r, h1, Rep.clean ht d v l1 h2, RepA.clean ht ds r l2 h3⟩
end
/-- what is lent -/
def brw (M : Mem) : D → Option D
  | .loc n => match M[n]? with
    | some (some c) => if locFree c = true then some c else none
    | _ => none
  | d => if locFree d = true then some d else none
def brws (M : Mem) : List D → Option (List D)
  | [] => some []
  | d :: r => (brw M d).bind fun x => (brws M r).bind fun xs => some (x :: xs)
/-- all that is own, as if frozen -/
def plus (F H : Hp) (A : List Addr) : Hp := fun p => if p ∈ A then H p else F p
section
variable {T : GE} {M : Mem} {F H : Hp} {A : List Addr}
theorem plus_le (h : HR T M F A H) : Same F (plus F H A) := fun p o e => by
  unfold plus
  split
  · exact h.fs p o e
  · exact e
theorem plus_ge (h : HR T M F A H) : Same (plus F H A) H := fun p o e => by
  unfold plus at e
  split at e
  · exact e
  · exact h.fs p o e
theorem brw_ok (h : HR T M F A H) {d x : D} {v : V} (e : brw M d = some x) (r : Rep T F A d v) : locFree x = true ∧ Rep T (plus F H A) [] x v := by
  unfold brw at e
  split at e
  · split at e
    · split at e
      · rename_i hn hl
        cases e
        refine ⟨hl, ?_⟩
        obtain ⟨a, e1, rfl⟩ := r
        have k := h.mem _ _ _ hn e1
        have ha : ∀ o, H a = some o → plus F H A a = some o := fun o ho => by
          unfold plus
          rw [if_pos (List.mem_of_getElem? e1)]
          exact ho
        cases x with
        | lst ds =>
          obtain ⟨vs, z1, z2⟩ := k
          exact ⟨a, vs, rfl, ha _ z1, Reps.noLoc _ _ hl (z2.same (plus_le h))⟩
        | asc kk kvs =>
          obtain ⟨vs, z1, z2⟩ := k
          refine ⟨a, vs, rfl, ?_, RepA.noLoc _ _ hl (z2.same (plus_le h))⟩
          cases kk with
          | k => obtain ⟨ws, z3, z4⟩ := z1; exact ⟨ws, ha _ z3, z4⟩
          | t => obtain ⟨ws, z3, z4⟩ := z1; exact ⟨ws, ha _ z3, z4⟩
          | ins c => obtain ⟨dx, ws, z3, z4⟩ := z1; exact ⟨dx, ws, ha _ z3, z4⟩
        | _ => exact k.elim
      · cases e
    · cases e
  · split at e
    · rename_i hl
      cases e
      exact ⟨hl, Rep.noLoc _ _ hl (r.same (plus_le h))⟩
    · cases e
theorem brws_ok (h : HR T M F A H) : ∀ {ds xs : List D} {vs : List V}, brws M ds = some xs → Reps T F A ds vs → locFrees xs = true ∧ Reps T (plus F H A) [] xs vs ∧ xs.length = ds.length
  | [], _, _, e, r => by cases e; exact ⟨rfl, r, rfl⟩
  | d :: ds, xs, _, e, ⟨v, w, e2, r1, r2⟩ => by
    subst e2
    obtain ⟨x, e1, e⟩ := bindS (show (brw M d).bind _ = some xs from e)
    obtain ⟨ys, e2, e⟩ := bindS e
    cases e
    obtain ⟨a1, a2⟩ := brw_ok h e1 r1
    obtain ⟨b1, b2, b3⟩ := brws_ok h e2 r2
    exact ⟨by show (locFree x && locFrees ys) = true; rw [a1, b1]; rfl, ⟨v, w, rfl, a2, b2⟩, by rw [List.length_cons, List.length_cons, b3]⟩
theorem lent_back (h : HR T M F A H) {F' H' : Hp} (g : Grow (plus F H A) H F' H') : ∃ F2, Grow F H F2 H' ∧ (∀ p vs, F' p = some (.tup vs) → F2 p = some (.tup vs)) ∧ ∀ p, F' p = none → F2 p = none := by
  refine ⟨fun p => if p ∈ A ∧ F p = none then none else F' p, ⟨fun p o e => ?_, fun p o e => ?_, g.hh, fun p o e z => ?_⟩, fun p vs e => ?_, fun p e => ?_⟩
  · show (if p ∈ A ∧ F p = none then none else F' p) = some o
    rw [if_neg (fun z => by rw [z.2] at e; cases e)]
    exact g.ff p o (plus_le h p o e)
  · have e' : (if p ∈ A ∧ F p = none then none else F' p) = some o := e
    split at e'
    · cases e'
    · exact g.fh p o e'
  · show (if p ∈ A ∧ F p = none then none else F' p) = none
    by_cases hp : p ∈ A
    · rw [if_pos ⟨hp, z⟩]
    · rw [if_neg (fun y => hp y.1)]
      refine g.nf p o e ?_
      unfold plus
      rw [if_neg hp]
      exact z
  · show (if p ∈ A ∧ F p = none then none else F' p) = some _
    by_cases hp : p ∈ A ∧ F p = none
    · exfalso
      obtain ⟨n, hn⟩ := List.mem_iff_getElem?.mp hp.1
      have hl : n < M.length := by rw [← h.len]; exact (List.getElem?_eq_some_iff.mp hn).1
      cases q : M[n]? with
      | none => rw [List.getElem?_eq_none_iff] at q; omega
      | some c =>
        cases c with
        | none => exact h.dd n p q hn hp.2
        | some c =>
          have k := h.mem n c p q hn
          obtain ⟨o, ho⟩ := k.there
          have hpl : plus F H A p = some o := by
            unfold plus
            rw [if_pos hp.1]
            exact ho
          have e3 := g.ff p o hpl
          rw [e] at e3
          cases e3
          cases c with
          | lst ds => obtain ⟨vs, z1, _⟩ := k; rw [ho] at z1; cases z1
          | asc kk kvs =>
            obtain ⟨vs, z1, _⟩ := k
            cases kk with
            | k => obtain ⟨ws, z3, _⟩ := z1; rw [ho] at z3; cases z3
            | t => obtain ⟨ws, z3, _⟩ := z1; rw [ho] at z3; cases z3
            | ins c => obtain ⟨dx, ws, z3, _⟩ := z1; rw [ho] at z3; cases z3
          | _ => exact k.elim
    · rw [if_neg hp]
      exact e
  · show (if p ∈ A ∧ F p = none then none else F' p) = none
    split
    · rfl
    · exact e
/-- a pure call with lent things: its value (a scalar, a tuple of scalars), or a new thing of such -/
theorem lent_call {n : Nat} {I : Fx} {ds xs : List D} {r : PR} (h : HR T M F A H) (eb : brws M ds = some xs) (e : pRun I xs = some r) (hc : cleanP r = true) (hn : ds.length = n) {vs : List V} (hv : Reps T F A ds vs) {Q : VK} {E : XK}
    (q : ∀ v F2 H', Grow F H F2 H' → (match r with
      | .val d => Rep T F2 A d v
      | .fresh c => ∃ p, v = .ref p ∧ F2 p = none ∧ H p = none ∧ Cont T F2 A H' c p) → Q v H') : spI T n I vs H Q E := by
  obtain ⟨l1, l2, l3⟩ := brws_ok h eb hv
  refine pure_end (A := []) e (l3.trans hn) l1 (plus_ge h) l2 fun v F' A' H' d M' g h2 r2 st ee => ?_
  obtain ⟨F2, g2, tp, nn⟩ := lent_back h g
  refine q v F2 H' g2 ?_
  cases r with
  | val d0 =>
    unfold pEnd at ee
    dsimp only at ee
    split at ee
    · cases ee
      exact Rep.clean tp _ _ hc r2
    · obtain ⟨n, c, rfl, e1, e2⟩ := withLoc_inv ee
      split at e2 <;> cases e2
  | fresh c =>
    obtain ⟨p, rfl, np, hp, k⟩ := pEnd_new ee h2 r2 st A
    refine ⟨p, rfl, nn p np, hp, ?_⟩
    cases c with
    | lst ds => obtain ⟨ws, z1, z2⟩ := k; exact ⟨ws, z1, Reps.clean tp _ _ hc z2⟩
    | asc kk kvs => obtain ⟨ws, z1, z2⟩ := k; exact ⟨ws, z1, RepA.clean tp _ _ hc z2⟩
    | _ => exact k.elim
end
def xCallL (p : List D → Option PR) (fa : Ax) : Ex := fun Γ M => (fa Γ M).bind fun ds => (brws M ds).bind fun xs => (p xs).bind fun r => if cleanP r = true then some r.d else none
def xCallLN (p : List D → Option PR) (fa : Ax) : Ex := fun Γ M => (fa Γ M).bind fun ds => (brws M ds).bind fun xs => (p xs).bind fun r => if cleanP r = true then (match r with
  | .fresh c => some c
  | _ => none) else none
section
variable {X : Cx} {C : Nat → Addr} {W : WX} {k n : Nat} {f : Addr} {fd : FuncData} {ps : List Str} {I : Fx} {x : Str} {p pos : Pos} {e : Expr} {es : List Expr} {fa : Ax} {pr : List D → Option PR}
theorem gCallL (hF : Fn0 X C k f fd ps I) (hp : pr = pRun I) (hr : Room k X.A) (hg : Gl X x) (hm : X.mg x = some (.ref f)) (hk : PySem.W.keepIn X.K (.ref f) = true) (hb : Binds X.K fd ps []) (ha : PAG X C (e :: es) fa) (hn : (e :: es).length = ps.length := by rfl)
    (hdb : (x == ("__debug__" : Str)) = false := by decide) (he : starEach (e :: es) X.env = (false, eval e X.env) :: starEach es X.env := by rfl) (hpl : (backTo pos (starEach es X.env)).any (·.1) = false := by rfl)
    (hfl : ∀ Γ M xs, fa Γ M = some xs → xs.length = (e :: es).length) : PEG X C (.Call (.Name x p) (e :: es) [] pos) (xCallL pr fa) := by
  subst hp
  obtain ⟨t, a1, a2⟩ := ha
  refine ⟨_, pe_call hF hr hg hm hk hb .nil pass0 a1 hdb he hpl, fun Γ M d e σ F A H h s Q q => ?_⟩
  obtain ⟨ds, e1, e⟩ := bindS e
  obtain ⟨xs, e2, e⟩ := bindS e
  obtain ⟨r, e3, e⟩ := bindS e
  split at e
  · rename_i hc
    cases e
    refine a2 Γ M ds e1 σ F A H h s _ fun vs F1 H1 g1 r1 => ?_
    rw [List.append_nil]
    refine lent_call (h.grow g1) e2 e3 hc ((hfl _ _ _ e1).trans hn) r1 fun v F2 H' g2 z => ?_
    cases r with
    | val d => exact q v F2 H' (g1.trans g2) z
    | fresh c =>
      obtain ⟨p0, rfl, np, hp, kk⟩ := z
      obtain ⟨F3, s1, s2, s3, r⟩ := kk.freeze g2.fh np
      refine q _ F3 H' (g1.trans ⟨g2.ff.trans s2, s1, g2.hh, fun b o hb hz => ?_⟩) r
      rw [s3 b (fun e => by rw [e, hp] at hb; cases hb)]
      exact g2.nf b o hb hz
  · cases e
theorem nCallL (hF : Fn0 X C k f fd ps I) (hp : pr = pRun I) (hr : Room k X.A) (hg : Gl X x) (hm : X.mg x = some (.ref f)) (hk : PySem.W.keepIn X.K (.ref f) = true) (hb : Binds X.K fd ps []) (ha : PAG X C (e :: es) fa) (hn : (e :: es).length = ps.length := by rfl)
    (hdb : (x == ("__debug__" : Str)) = false := by decide) (he : starEach (e :: es) X.env = (false, eval e X.env) :: starEach es X.env := by rfl) (hpl : (backTo pos (starEach es X.env)).any (·.1) = false := by rfl)
    (hfl : ∀ Γ M xs, fa Γ M = some xs → xs.length = (e :: es).length) : PNG X C (.Call (.Name x p) (e :: es) [] pos) (xCallLN pr fa) := by
  subst hp
  obtain ⟨t, a1, a2⟩ := ha
  refine ⟨_, pe_call hF hr hg hm hk hb .nil pass0 a1 hdb he hpl, fun Γ M d e σ F A H h s Q q => ?_⟩
  obtain ⟨ds, e1, e⟩ := bindS e
  obtain ⟨xs, e2, e⟩ := bindS e
  obtain ⟨r, e3, e⟩ := bindS e
  split at e
  · rename_i hc
    split at e
    · cases e
      refine a2 Γ M ds e1 σ F A H h s _ fun vs F1 H1 g1 r1 => ?_
      rw [List.append_nil]
      refine lent_call (h.grow g1) e2 e3 hc ((hfl _ _ _ e1).trans hn) r1 fun v F2 H' g2 z => ?_
      obtain ⟨p0, rfl, np, hp, kk⟩ := z
      exact q p0 F2 H' (g1.trans g2) np (g1.hh.free hp) kk
    · cases e
  · cases e
end
/-! ### list(x), int(x), isinstance, divmod -/
def gListOf (M : Mem) (xs : List D) : Option D := match xs with
  | [x] => (vS M x).map .lst
  | _ => none
def gIntOf (_ : Mem) (xs : List D) : Option D := match xs with
  | [.str a] => if a.length ≤ 640 then (PySem.intText? a).map .int else none
  | [.int i] => some (.int i)
  | [.bl k] => some (.int (if k then 1 else 0))
  | _ => none
def RCN (T : GE) (r : List V → Hp → VK → Prop) (g : Mem → List D → Option D) : Prop := ∀ (M : Mem) (xs : List D) (c : D), g M xs = some c → ∀ (vs : List V) (F : Hp) (A : List Addr) (H : Hp), HR T M F A H → Reps T F A xs vs →
  ∀ Q : VK, (∀ p F' H', Grow F H F' H' → F' p = none → H p = none → Cont T F' A H' c p → Q (.ref p) H') → r vs H Q
def CaN (X : Cx) (C : Nat → Addr) (f : Value) (g : Mem → List D → Option D) : Prop := ∃ r, CallR X f r ∧ RCN ⟨X.K, C⟩ r g
section
variable {X : Cx} {C : Nat → Addr} {e : Expr} {es : List Expr} {pos : Pos}
theorem nCallTy {x : Str} {pp : Pos} {id : String} {k : Mem → List D → Option D} {w : Ax} (hc : CaN X C (.type id) k) (hg : Gl X x) (hm : X.mg x = none) (hv : bootBuiltins x = some (.type id)) (ha : PAG X C (e :: es) w) (hn : x ≠ "__name__" := by decide) (hdb : (x == ("__debug__" : Str)) = false := by decide)
    (he : starEach (e :: es) X.env = (false, eval e X.env) :: starEach es X.env := by rfl) (hpl : (backTo pos (starEach es X.env)).any (·.1) = false := by rfl) : PNG X C (.Call (.Name x pp) (e :: es) [] pos) (xCall k w) := by
  obtain ⟨r, c1, c2⟩ := hc
  obtain ⟨t, a1, a2⟩ := ha
  refine ⟨_, pe_callTy c1 hg hm hv a1 hn hdb he hpl, fun Γ M d e σ F A H h s Q q => ?_⟩
  obtain ⟨ds, e1, e⟩ := bindS e
  refine a2 Γ M ds e1 σ F A H h s _ fun vs F1 H1 g1 r1 => ?_
  exact c2 M ds d e vs F1 A H1 (h.grow g1) r1 Q fun p F2 H2 g2 np hp kk => q p F2 H2 (g1.trans g2) np (g1.hh.free hp) kk
theorem grow_new {F H : Hp} {p : Addr} {o : HO} (fs : Same F H) (hp : H p = none) : Grow F H F (upd H p o) := ⟨Same.refl _, fs.trans (same_new hp), same_new hp, fun _ _ _ z => z⟩
theorem cListOf : CaN X C (.type "list") gListOf := by
  refine ⟨_, call_list_of, fun M xs c e vs F A H h r Q q => ?_⟩
  unfold gListOf at e
  split at e
  · obtain ⟨ds, e1, rfl⟩ := Option.map_eq_some_iff.mp e
    obtain ⟨v, rfl, rv⟩ := r.inv1
    obtain ⟨p, ws, rfl, hp, r1⟩ := vS_ok h e1 rv
    exact ⟨p, ws, rfl, hp, fun l hl => q l F _ (grow_new h.fs hl) (h.fs.free hl) hl ⟨ws, upd_same, r1⟩⟩
  · cases e
theorem cInt : CaG X C (.type "int") gIntOf := by
  refine ⟨_, call_int1.or call_int_str, fun M xs z e vs F A H h r Q q => ?_⟩
  unfold gIntOf at e
  split at e
  · split at e
    · rename_i hl
      obtain ⟨n, hn, rfl⟩ := Option.map_eq_some_iff.mp e
      obtain ⟨v, rfl, rv⟩ := r.inv1
      cases rv
      exact .inr ⟨_, n, rfl, hn, hl, q _ F H (Grow.refl h.fs) rfl⟩
    · cases e
  · cases e
    obtain ⟨v, rfl, rv⟩ := r.inv1
    cases rv
    exact .inl (.inl ⟨_, rfl, q _ F H (Grow.refl h.fs) rfl⟩)
  · cases e
    obtain ⟨v, rfl, rv⟩ := r.inv1
    cases rv
    exact .inl (.inr ⟨_, rfl, q _ F H (Grow.refl h.fs) rfl⟩)
  · cases e
end
/-- a built-in class by its name -/
def tyName (M : Mem) : D → Option String
  | .non => some "NoneType"
  | .bl _ => some "bool"
  | .int _ => some "int"
  | .str _ => some "str"
  | .tup _ => some "tuple"
  | .lst _ => some "list"
  | .scr _ => some "list"
  | .asc .k _ => some "dict"
  | .asc .t _ => some "dict"
  | .loc n => match M[n]? with
    | some (some (.lst _)) => some "list"
    | some (some (.asc .k _)) => some "dict"
    | some (some (.asc .t _)) => some "dict"
    | _ => none
  | _ => none
def kN : List String := ["NoneType", "bool", "int", "str", "tuple", "list", "dict"]
def kB : List String := ["int", "bool", "str", "tuple", "list", "dict"]
/-- is the class a one of b's, among those met here -/
def isTy (a b : String) : Option Bool := if (kN.contains a && kB.contains b) = true then some (a == b || (a == "bool" && b == "int")) else none
def tysOf : List D → Option (List String)
  | [] => some []
  | .ty b :: r => (tysOf r).map (b :: ·)
  | _ :: _ => none
def isTys (a : String) : List String → Option Bool
  | [] => some false
  | b :: r => (isTy a b).bind fun k => (isTys a r).map fun l => k || l
def gIsI (M : Mem) (xs : List D) : Option D := match xs with
  | [x, .ty b] => (tyName M x).bind fun a => (isTy a b).map .bl
  | [x, .tup ts] => (tyName M x).bind fun a => (tysOf ts).bind fun bs => (isTys a bs).map .bl
  | _ => none
theorem isTy_ok {K : PySem.W.Frag} {a b : String} {r : Bool} (e : isTy a b = some r) : PySem.W.kitOne K (.type a) (.type b) = some r := by
  refine kit_ty ?_
  have all : ∀ a ∈ kN, ∀ b ∈ kB, some (a == b || (a == "bool" && b == "int")) = kitB a b := by decide +kernel
  unfold isTy at e
  split at e
  · rename_i h
    rw [Bool.and_eq_true] at h
    rw [← all a (List.contains_iff_mem.mp h.1) b (List.contains_iff_mem.mp h.2)]
    exact e
  · cases e
theorem tyName_ok {T : GE} {M : Mem} {F H : Hp} {A : List Addr} (h : HR T M F A H) {x : D} {a : String} (e : tyName M x = some a) {v : V} (r : Rep T F A x v) : TyX T.K H v (.type a) := by
  cases x with
  | non => cases e; cases r; exact .base .non
  | bl _ => cases e; cases r; exact .base (.bl _)
  | int _ => cases e; cases r; exact .base (.int _)
  | str _ => cases e; cases r; exact .base (.str _)
  | tup _ => cases e; obtain ⟨p, vs, rfl, h1, _⟩ := r; exact .base (.tup (h.fs _ _ h1))
  | lst _ => cases e; obtain ⟨p, vs, rfl, h1, _⟩ := r; exact .base (.lst (h.fs _ _ h1))
  | scr _ =>
    cases e
    obtain ⟨p, rfl, h1⟩ := r
    rcases h.fs.seq h1 with (h2 | ⟨o, h2⟩) | ⟨o, its, n, h2, h3, _⟩
    · exact .base (.lst h2)
    · exact .base (.frz h2)
    · exact .kList h2 h3
  | asc k kvs =>
    cases k with
    | k => cases e; obtain ⟨p, vs, rfl, ⟨ws, h1, _⟩, _⟩ := r; exact .base (.dK (h.fs _ _ h1))
    | t => cases e; obtain ⟨p, vs, rfl, ⟨ws, h1, _⟩, _⟩ := r; exact .base (.dT (h.fs _ _ h1))
    | ins c => cases e
  | loc n =>
    unfold tyName at e
    dsimp only at e
    obtain ⟨p, h1, rfl⟩ := r
    cases q : M[n]? with
    | none => rw [q] at e; cases e
    | some c =>
      cases c with
      | none => rw [q] at e; cases e
      | some c =>
        have k := h.mem n c p q h1
        rw [q] at e
        cases c with
        | lst ds => cases e; obtain ⟨vs, z, _⟩ := k; exact .base (.lst z)
        | asc kk kvs =>
          cases kk with
          | k => cases e; obtain ⟨vs, ⟨ws, z, _⟩, _⟩ := k; exact .base (.dK z)
          | t => cases e; obtain ⟨vs, ⟨ws, z, _⟩, _⟩ := k; exact .base (.dT z)
          | ins c => cases e
        | _ => exact k.elim
  | ty _ => cases e
  | cls _ => cases e
  | exc _ _ => cases e
theorem tysOf_ok {T : GE} {F : Hp} {A : List Addr} : ∀ {ts : List D} {bs : List String} {vs : List V}, tysOf ts = some bs → Reps T F A ts vs → Paired ClsV vs (bs.map Value.type)
  | [], _, _, e, r => by cases e; cases r; exact .nil
  | t :: ts, bs, _, e, ⟨v, w, e2, r1, r2⟩ => by
    subst e2
    cases t <;> simp only [tysOf, Option.map_eq_some_iff] at e
    all_goals first
      | (obtain ⟨k2, e, rfl⟩ := e
         cases r1
         exact .cons (.ty _) (tysOf_ok e r2))
      | cases e
theorem isTys_ok {K : PySem.W.Frag} {a : String} : ∀ {bs : List String} {r : Bool}, isTys a bs = some r → PySem.W.kitAny K (.type a) (bs.map Value.type) = some r
  | [], _, e => by cases e; rfl
  | b :: bs, r, e => by
    obtain ⟨k, e1, e⟩ := bindS (show (isTy a b).bind _ = some r from e)
    obtain ⟨l, e2, rfl⟩ := Option.map_eq_some_iff.mp e
    refine kitAny_cons (isTy_ok e1) (fun z => ?_) fun z => ?_
    · subst z
      exact isTys_ok e2
    · subst z
      rfl
theorem cIsI {X : Cx} {C : Nat → Addr} : CaG X C (.builtin "isinstance") gIsI := by
  refine ⟨_, call_isi.or call_isiT, fun M xs z e vs F A H h r Q q => ?_⟩
  unfold gIsI at e
  split at e
  · obtain ⟨a, e1, e⟩ := bindS e
    obtain ⟨b, e2, rfl⟩ := Option.map_eq_some_iff.mp e
    obtain ⟨v, u, rfl, rv, ru⟩ := r.inv2
    cases ru
    exact .inl ⟨v, _, _, _, b, rfl, .ty _, tyName_ok (T := ⟨X.K, C⟩) h e1 rv, isTy_ok e2, q _ F H (Grow.refl h.fs) rfl⟩
  · obtain ⟨a, e1, e⟩ := bindS e
    obtain ⟨bs, e2, e⟩ := bindS e
    obtain ⟨b, e3, rfl⟩ := Option.map_eq_some_iff.mp e
    obtain ⟨v, u, rfl, rv, ru⟩ := r.inv2
    obtain ⟨p, ws, rfl, h1, h2⟩ := ru
    exact .inr ⟨v, p, ws, _, _, b, rfl, h.fs _ _ h1, tysOf_ok e2 h2, tyName_ok (T := ⟨X.K, C⟩) h e1 rv, isTys_ok e3, q _ F H (Grow.refl h.fs) rfl⟩
  · cases e
end G
set_option Elab.async false
set_option linter.all false
set_option maxRecDepth 100000
set_option maxHeartbeats 4000000
namespace G
open PySem PySem.Spec PyProof.Rows L2
/-! ### a < b < c; class names; divmod -/
section
variable {X : Cx} {C : Nat → Addr} {a b c : Expr} {f g h : Ex} {pos : Pos}
theorem tChain_g {T : GE} {r r' : R2} {k k2 : Mem → D → D → Option D} {ta tb tc : TE} (hr : ROG T r k) (hr' : ROG T r' k2) (ha : TEG T ta f) (hb : TEG T tb g) (hc : TEG T tc h) : TEG T (tChain r r' ta tb tc) (xChain k k2 f g h) := by
  intro Γ M d e σ F A H hh s Q q
  obtain ⟨x, e1, e⟩ := bindS e
  obtain ⟨y, e2, e⟩ := bindS e
  obtain ⟨z, e3, e⟩ := bindS e
  refine ha Γ M x e1 σ F A H hh s _ fun v F1 H1 g1 r1 => ?_
  refine hb Γ M y e2 σ F1 A H1 (hh.grow g1) (s.same g1.ff) _ fun u F2 H2 g2 r2 => ?_
  refine hr M x y z e3 v u F2 A H2 ((hh.grow g1).grow g2) (r1.same g2.ff) r2 _ fun z' F3 H3 g3 r3 => ?_
  split at e
  · obtain ⟨w, e4, e⟩ := bindS e
    refine ⟨true, r3, ?_⟩
    rw [if_pos rfl]
    refine hc Γ M w e4 σ F3 A H3 (((hh.grow g1).grow g2).grow g3) (((s.same g1.ff).same g2.ff).same g3.ff) _ fun w' F4 H4 g4 r4 => ?_
    refine hr' M y w d e u w' F4 A H4 ((((hh.grow g1).grow g2).grow g3).grow g4) ((r2.same g3.ff).same g4.ff) r4 Q fun o F5 H5 g5 r5 => ?_
    exact q o F5 H5 ((((g1.trans g2).trans g3).trans g4).trans g5) r5
  · cases e
    refine ⟨false, r3, ?_⟩
    rw [if_neg Bool.false_ne_true]
    exact q _ F3 H3 ((g1.trans g2).trans g3) rfl
  · cases e
theorem gChain {op op' : CmpOp} {k k2 : Mem → D → D → Option D} (ho : OpG X C (compareOp op) k) (ho' : OpG X C (compareOp op') k2) (ha : PEG X C a f) (hb : PEG X C b g) (hc : PEG X C c h) (hm : lastMarks [op, op'] [b, c] = false := by with_unfolding_all rfl) :
    PEG X C (.Compare a [op, op'] [b, c] pos) (xChain k k2 f g h) := by
  obtain ⟨r, o1, o2⟩ := ho
  obtain ⟨r', o3, o4⟩ := ho'
  obtain ⟨ta, a1, a2⟩ := ha
  obtain ⟨tb, b1, b2⟩ := hb
  obtain ⟨tc, c1, c2⟩ := hc
  exact ⟨_, pe_chain o1 o3 a1 b1 c1 hm, tChain_g o2 o4 a2 b2 c2⟩
theorem gChainT {op op' : CmpOp} {k k2 : Mem → D → D → Option D} (ho : OpG X C (compareOp op) k) (ho' : OpG X C (compareOp op') k2) (ha : PEG X C a f) (hb : PEG X C b g) (hc : PEG X C c h) (hm : lastMarks [op, op'] [b, c] = false := by with_unfolding_all rfl) :
    PTG X C (.Compare a [op, op'] [b, c] pos) (tVal (xChain k k2 f g h)) := by
  obtain ⟨r, o1, o2⟩ := ho
  obtain ⟨r', o3, o4⟩ := ho'
  obtain ⟨ta, a1, a2⟩ := ha
  obtain ⟨tb, b1, b2⟩ := hb
  obtain ⟨tc, c1, c2⟩ := hc
  exact ⟨_, pt_chain o1 o3 a1 b1 c1 hm, tTest_g (tChain_g o2 o4 a2 b2 c2)⟩
theorem gTyN {x : Str} {n : String} (hg : Gl X x) (hm : X.mg x = none) (hv : bootBuiltins x = some (.type n)) (hn : x ≠ "__name__" := by decide) (hd : (x == ("__debug__" : Str)) = false := by decide) : PEG X C (.Name x pos) (xC (.ty n)) :=
  ⟨_, pe_bltn (v := .ty n) hg hm hv rfl hn hd, tC_g fun _ _ => rfl⟩
end
def gDivmod (_ : Mem) (xs : List D) : Option D := match xs with
  | [.int i, .int j] => if 0 < j ∧ j < 1000000 then some (.tup [.int (i / j), .int (i % j)]) else none
  | _ => none
theorem cDivmod {X : Cx} {C : Nat → Addr} : CaG X C (.builtin "divmod") gDivmod := by
  refine ⟨_, call_divmod, fun M xs z e vs F A H h r Q q => ?_⟩
  unfold gDivmod at e
  split at e
  · split at e
    · rename_i hj
      cases e
      obtain ⟨v, u, rfl, rv, ru⟩ := r.inv2
      cases rv
      cases ru
      refine ⟨_, _, rfl, ⟨hj.1, by omega⟩, fun p hp => q _ _ _ (Grow.new h.fs hp) (Rep.newTup h.fs hp ⟨_, _, rfl, rfl, Reps.one rfl⟩)⟩
    · cases e
  · cases e
/-! ### a def of the module, for its callers -/
def Has (P : Program) (w : World) (K : PySem.W.Frag) (mg : Str → Option Value) (base : Heap) (C : Nat → Addr) (k : Nat) (x : Str) (ps : List Str) (I : Fx) : Prop :=
  ∃ f fd, FnOk P w K mg base CX0 k f fd ps (fun vs H Q _ => spI ⟨K, C⟩ ps.length I vs H Q E0) ∧ Binds K fd ps [] ∧ PySem.W.keepIn K (.ref f) = true ∧ mg x = some (.ref f)
section
variable {X : Cx} {C : Nat → Addr} {W : WX} {k n : Nat} {ps : List Str} {I : Fx} {x : Str} {p pos : Pos} {e : Expr} {es : List Expr} {fa : Ax} {pr : List D → Option PR}
theorem callP (hF : Has X.prog X.w X.K X.mg X.base C k x ps I) (hp : pr = pRun I) (hr : Room k X.A) (hg : Gl X x) (ha : PAG X C (e :: es) fa) (hfl : ∀ Γ M xs, fa Γ M = some xs → xs.length = (e :: es).length) (hn : (e :: es).length = ps.length := by rfl)
    (hdb : (x == ("__debug__" : Str)) = false := by decide) (he : starEach (e :: es) X.env = (false, eval e X.env) :: starEach es X.env := by rfl) (hpl : (backTo pos (starEach es X.env)).any (·.1) = false := by rfl) : PEG X C (.Call (.Name x p) (e :: es) [] pos) (xCallP pr fa) :=
  let ⟨_, _, h1, h2, h3, h4⟩ := hF
  gCallP h1 hp hr hg h4 h3 h2 ha hn hdb he hpl hfl
theorem callN (hF : Has X.prog X.w X.K X.mg X.base C k x ps I) (hp : pr = pRun I) (hr : Room k X.A) (hg : Gl X x) (ha : PAG X C (e :: es) fa) (hfl : ∀ Γ M xs, fa Γ M = some xs → xs.length = (e :: es).length) (hn : (e :: es).length = ps.length := by rfl)
    (hdb : (x == ("__debug__" : Str)) = false := by decide) (he : starEach (e :: es) X.env = (false, eval e X.env) :: starEach es X.env := by rfl) (hpl : (backTo pos (starEach es X.env)).any (·.1) = false := by rfl) : PNG X C (.Call (.Name x p) (e :: es) [] pos) (xCallN pr fa) :=
  let ⟨_, _, h1, h2, h3, h4⟩ := hF
  nCallP h1 hp hr hg h4 h3 h2 ha hn hdb he hpl hfl
theorem callL (hF : Has X.prog X.w X.K X.mg X.base C k x ps I) (hp : pr = pRun I) (hr : Room k X.A) (hg : Gl X x) (ha : PAG X C (e :: es) fa) (hfl : ∀ Γ M xs, fa Γ M = some xs → xs.length = (e :: es).length) (hn : (e :: es).length = ps.length := by rfl)
    (hdb : (x == ("__debug__" : Str)) = false := by decide) (he : starEach (e :: es) X.env = (false, eval e X.env) :: starEach es X.env := by rfl) (hpl : (backTo pos (starEach es X.env)).any (·.1) = false := by rfl) : PEG X C (.Call (.Name x p) (e :: es) [] pos) (xCallL pr fa) :=
  let ⟨_, _, h1, h2, h3, h4⟩ := hF
  gCallL h1 hp hr hg h4 h3 h2 ha hn hdb he hpl hfl
theorem callLN (hF : Has X.prog X.w X.K X.mg X.base C k x ps I) (hp : pr = pRun I) (hr : Room k X.A) (hg : Gl X x) (ha : PAG X C (e :: es) fa) (hfl : ∀ Γ M xs, fa Γ M = some xs → xs.length = (e :: es).length) (hn : (e :: es).length = ps.length := by rfl)
    (hdb : (x == ("__debug__" : Str)) = false := by decide) (he : starEach (e :: es) X.env = (false, eval e X.env) :: starEach es X.env := by rfl) (hpl : (backTo pos (starEach es X.env)).any (·.1) = false := by rfl) : PNG X C (.Call (.Name x p) (e :: es) [] pos) (xCallLN pr fa) :=
  let ⟨_, _, h1, h2, h3, h4⟩ := hF
  nCallL h1 hp hr hg h4 h3 h2 ha hn hdb he hpl hfl
end
theorem Has.mono {P : Program} {w : World} {K : PySem.W.Frag} {mg : Str → Option Value} {base : Heap} {C : Nat → Addr} {k j : Nat} {x : Str} {ps : List Str} {I : Fx} (h : Has P w K mg base C k x ps I) (l : k ≤ j) : Has P w K mg base C j x ps I :=
  let ⟨f, fd, h1, h2, h3, h4⟩ := h
  ⟨f, fd, h1.mono l, h2, h3, h4⟩
/-! ### range(0, n, c) -/
def rngC (c : Int) (n : Nat) : List D := (List.range n).map fun (i : Nat) => .int (0 + (i : Int) * c)
def ixR3 (w : Ax) : Ax := fun Γ M => (w Γ M).bind fun xs => match xs with
  | [.int i, .int j, .int c] => if i = 0 ∧ 0 ≤ j ∧ j < 1000000 ∧ 1 ≤ c ∧ c < 1000000 then some (rngC c ((j + c - 1) / c).toNat) else none
  | _ => none
theorem rgc_ok {j c : Int} (h0 : 0 ≤ j) (h1 : j < 1000000) (h2 : 1 ≤ c) (h3 : c < 1000000) : RgC 0 j c ((j + c - 1) / c).toNat := by
  have e := PyProof.Rows.rangeSize_pos h2 h0
  have nn : 0 ≤ (j + c - 1) / c := Int.ediv_nonneg (by omega) (by omega)
  have le : (j + c - 1) / c ≤ j + c - 1 := Int.ediv_le_self _ (by omega)
  refine ⟨by omega, by omega, ?_, by rw [e]; omega⟩
  have fit : ∀ x : Int, -10000000 < x → x < 10000000 → Builtin.Range.rangeFitsLong x = true := fun x a b => by
    unfold Builtin.Range.rangeFitsLong
    rw [Bool.and_eq_true, decide_eq_true_eq, decide_eq_true_eq]
    exact ⟨by omega, by omega⟩
  unfold Builtin.Range.small
  rw [e, fit 0 (by omega) (by omega), fit j (by omega) (by omega), fit c (by omega) (by omega), fit _ (by omega) (by omega), if_pos (by omega), fit _ (by omega) (by omega)]
  simp
theorem itc_ok {T : GE} {F : Hp} {A : List Addr} (c : Int) (n : Nat) : ItOk T (Itc 0 c n) F A (rngC c n) := fun i M F1 A1 H1 s1 s2 h1 => by
  unfold rngC
  refine ⟨fun hl => by rw [List.length_map, List.length_range] at hl; exact hl, fun d e => ?_⟩
  rw [List.getElem?_map] at e
  obtain ⟨k, e1, rfl⟩ := Option.map_eq_some_iff.mp e
  obtain ⟨h2, h3⟩ := List.getElem?_eq_some_iff.mp e1
  rw [List.length_range] at h2
  rw [List.getElem_range] at h3
  subst h3
  refine ⟨h2, fun x H' y => ?_⟩
  obtain ⟨rfl, rfl⟩ := y
  exact ⟨F1, Grow.refl h1.fs, rfl⟩
theorem Reps.inv3 {T : GE} {F : Hp} {A : List Addr} {d e f : D} {vs : List V} (r : Reps T F A [d, e, f] vs) : ∃ v u w, vs = [v, u, w] ∧ Rep T F A d v ∧ Rep T F A e u ∧ Rep T F A f w := by
  obtain ⟨v, w, rfl, h, r2⟩ := r
  obtain ⟨u, z, rfl, h2, h3⟩ := r2.inv2
  exact ⟨v, u, z, rfl, h, h2, h3⟩
theorem iR3 {X : Cx} {C : Nat → Addr} {tg : Expr} {p pos : Pos} {a b c : Expr} {w : Ax} (hg : Gl X "range") (hm : X.mg "range" = none) (ha : PAG X C [a, b, c] w) (hs : starEach [a, b, c] X.env = (false, eval a X.env) :: starEach [b, c] X.env := by rfl) (hpl : (backTo pos (starEach [b, c] X.env)).any (·.1) = false := by rfl) :
    PIG X C tg (.Call (.Name "range" p) [a, b, c] [] pos) (ixR3 w) := by
  obtain ⟨t, a1, a2⟩ := ha
  refine ⟨_, pi_range3 hg hm a1 hs hpl, fun Γ M ds e σ F A H h s R q => ?_⟩
  obtain ⟨xs, e1, e⟩ := bindS e
  split at e
  · split at e
    · rename_i hl
      obtain ⟨rfl, h0, h1, h2, h3⟩ := hl
      cases e
      refine a2 Γ M _ e1 σ F A H h s _ fun vs F1 H1 g1 r1 => ?_
      obtain ⟨v, u, z, rfl, rv, ru, rz⟩ := r1.inv3
      cases rv
      cases ru
      cases rz
      exact ⟨_, _, _, _, rfl, rgc_ok h0 h1 h2 h3, q _ F1 H1 g1 (itc_ok _ _)⟩
    · cases e
  · cases e
end G
set_option Elab.async false
set_option linter.all false
set_option maxRecDepth 100000
set_option maxHeartbeats 4000000
namespace G
open PySem PySem.Spec PyProof.Rows L2
/-! ### sorted(d): the int keys of a table -/
def iKeys : List (DK × D) → Option (List Int)
  | [] => some []
  | (.i n, _) :: r => (iKeys r).map (n :: ·)
  | _ :: _ => none
theorem iKeys_ok : ∀ {ds : List (DK × D)} {ns : List Int}, iKeys ds = some ns → ds.map (·.1) = ns.map DK.i
  | [], _, e => by cases e; rfl
  | (.i n, d) :: r, _, e => by
    obtain ⟨m, e1, rfl⟩ := Option.map_eq_some_iff.mp (show (iKeys r).map (n :: ·) = some _ from e)
    rw [List.map_cons, List.map_cons, iKeys_ok e1]
  | (.s _, _) :: _, _, e => by cases e
  | (.t _, _) :: _, _, e => by cases e
def sortI (ns : List Int) : List Int := ns.mergeSort fun a b => decide (a ≤ b)
theorem sortI_eq {ns ys : List Int} (h1 : ys.Perm ns) (h2 : ys.Pairwise (· ≤ ·)) : ys = sortI ns := by
  refine List.Perm.eq_of_pairwise (le := fun a b : Int => a ≤ b) (fun a b _ _ x y => Int.le_antisymm x y) h2 ?_ (h1.trans (List.mergeSort_perm _ _).symm)
  have := List.pairwise_mergeSort (le := fun a b : Int => decide (a ≤ b)) (fun a b c x y => by simp at *; omega) (fun a b => by simp; omega) ns
  exact this.imp fun h => of_decide_eq_true h
def gSort (M : Mem) (xs : List D) : Option D := match xs with
  | [x] => (vK M x).bind fun kvs => (iKeys kvs).bind fun ns => if ns.length < 64 then some (.lst ((sortI ns).map .int)) else none
  | _ => none
theorem keys_ints : ∀ {ws : List (Key × V)} {ns : List Int}, (ws.map kx).map (·.1) = ns.map DK.i → ws.map (·.1) = ns.map Sum.inl
  | [], [], _ => rfl
  | [], _ :: _, e => by cases e
  | _ :: _, [], e => by cases e
  | (k, v) :: ws, n :: ns, e => by
    rw [List.map_cons, List.map_cons, List.map_cons] at e
    injection e with e1 e2
    rw [List.map_cons, List.map_cons, keys_ints e2]
    congr 1
    cases k with
    | inl i => injection e1 with e1; rw [e1]
    | inr i => cases e1
theorem cSort {X : Cx} {C : Nat → Addr} (hc : X.calm = true) : CaG X C (.builtin "sorted") gSort := by
  refine ⟨_, call_sortedDI hc, fun M xs z e vs F A H h r Q q => ?_⟩
  unfold gSort at e
  split at e
  · obtain ⟨v, rfl, rv⟩ := r.inv1
    obtain ⟨kvs, e1, e⟩ := bindS e
    obtain ⟨ns, e2, e⟩ := bindS e
    split at e
    · rename_i hl
      cases e
      obtain ⟨a, ws, rfl, ha, r1⟩ := vK_ok h e1 rv
      refine ⟨a, ws, ns, rfl, .inl ha, keys_ints (r1.keys.symm.trans (iKeys_ok e2)), hl, fun ys p hy1 hy2 hp => ?_⟩
      rw [sortI_eq hy1 hy2]
      exact q _ _ _ (Grow.new h.fs hp) (Rep.newLst h.fs hp (reps_ints _))
    · cases e
  · cases e
/-! ### a, b = x, y -/
def sPar (i j : Nat) (fa : Ax) : Sx := fun Γ M => (fa Γ M).bind fun xs => match xs with
  | [x, y] => some (.nx ((Γ.set i (some x)).set j (some y)) M)
  | _ => none
section
variable {X : Cx} {C : Nat → Addr} {W : WX}
theorem sPar_ {i j : Nat} {x y : Str} {a b : Expr} {fa : Ax} {px py pt pos : Pos} {kt k2 pt2} (hc : X.calm = true) (hN : X.N.Nodup) (hi : X.N[i]? = some x) (hj : X.N[j]? = some y) (hij : i ≠ j)
    (hx : X.env.scope.names.lookup x = some .local) (hy : X.env.scope.names.lookup y = some .local) (ha : PAG X C [a, b] fa)
    (hw : swappedStores [.Tuple [.Name x px, .Name y py] kt pt] (.Tuple [a, b] k2 pt2) X.env = pure (some [x, y]) := by rfl)
    (hs : swapsWithSole [.Tuple [.Name x px, .Name y py] kt pt] (.Tuple [a, b] k2 pt2) pos.line X.env = pure false := by rfl) :
    PSG X C W (.Assign [.Tuple [.Name x px, .Name y py] kt pt] (.Tuple [a, b] k2 pt2) pos) (sPar i j fa) := by
  obtain ⟨t, a1, a2⟩ := ha
  refine ⟨_, ps_par hc hN hi hj hij hx hy a1 hw hs, fun Γ M o e σ F A H h s D k => ?_⟩
  obtain ⟨ds, e1, e⟩ := bindS e
  split at e
  · cases e
    refine a2 Γ M _ e1 σ F A H h s _ fun vs F1 H1 g1 r1 => ?_
    obtain ⟨v, w, rfl, rv, rw'⟩ := r1.inv2
    exact ⟨v, w, rfl, k _ F1 A H1 (h.grow g1) (((s.same g1.ff).set rv i).set rw' j) g1.step⟩
  · cases e
end
/-! ### displays of tables with text keys -/
abbrev Kx := Sl → Mem → Option (List (Key × D))
def kd (p : Key × D) : DK × D := (ofKey p.1, p.2)
/-- the pairs that the display has, some behind -/
def PairsAre (T : GE) (F : Hp) (A : List Addr) (ds : List (Key × D)) (ps : List (V × V)) (kvs : List (Key × V)) : Prop := ps = kvs.map (fun kv => (kV kv.1, kv.2)) ∧ kvs.map (·.1) = ds.map (·.1) ∧ RepA T F A (ds.map kd) (kvs.map kx)
def TPsG (T : GE) (trs : List (TE × TE)) (f : Kx) : Prop := ∀ (Γ : Sl) (M : Mem) (ds : List (Key × D)), f Γ M = some ds → ∀ (σ : L2.St) (F : Hp) (A : List Addr) (H : Hp), HR T M F A H → SlotR T F A Γ σ →
  ∀ Q : List (V × V) → Hp → Prop, (∀ ps kvs F' H', Grow F H F' H' → PairsAre T F' A ds ps kvs → Q ps H') → tPairs trs σ H Q
/-- the same, and behind them a pair whose value is a new empty table -/
def TPnG (T : GE) (trs : List (TE × TE)) (f : Kx) (kn : Key) : Prop := ∀ (Γ : Sl) (M : Mem) (ds : List (Key × D)), f Γ M = some ds → ∀ (σ : L2.St) (F : Hp) (A : List Addr) (H : Hp), HR T M F A H → SlotR T F A Γ σ →
  ∀ Q : List (V × V) → Hp → Prop, (∀ ps kvs p F' H', Grow F H F' H' → PairsAre T F' A ds ps kvs → H p = none → F' p = none → H' p = some (.dK []) → Q (ps ++ [(kV kn, .ref p)]) H') → tPairs trs σ H Q
def PPsG (X : Cx) (C : Nat → Addr) (pos : Pos) (keys : List (Option Expr)) (values : List Expr) (f : Kx) : Prop := ∃ trs, PPs X pos keys values trs ∧ TPsG ⟨X.K, C⟩ trs f
def PPnG (X : Cx) (C : Nat → Addr) (pos : Pos) (keys : List (Option Expr)) (values : List Expr) (f : Kx) (kn : Key) : Prop := ∃ trs, PPs X pos keys values trs ∧ TPnG ⟨X.K, C⟩ trs f kn
def kxNil : Kx := fun _ _ => some []
def kxCons (k : Key) (f : Ex) (r : Kx) : Kx := fun Γ M => (f Γ M).bind fun d => (r Γ M).bind fun ds => some ((k, d) :: ds)
section
variable {X : Cx} {C : Nat → Addr} {W : WX} {pos p1 p2 : Pos}
theorem ppNil : PPsG X C pos [] [] kxNil := ⟨_, pps_nil, fun Γ M ds e σ F A H h s Q q => by cases e; exact q [] [] F H (Grow.refl h.fs) ⟨rfl, rfl, rfl⟩⟩
theorem PairsAre.cons {T : GE} {F F' : Hp} {A : List Addr} {ds : List (Key × D)} {ps : List (V × V)} {kvs : List (Key × V)} {k : Key} {d : D} {v : V} (sf : Same F F') (r : Rep T F A d v) (h : PairsAre T F' A ds ps kvs) : PairsAre T F' A ((k, d) :: ds) ((kV k, v) :: ps) ((k, v) :: kvs) := by
  obtain ⟨h1, h2, h3⟩ := h
  exact ⟨by rw [h1]; rfl, by rw [List.map_cons, List.map_cons, h2], v, _, rfl, r.same sf, h3⟩
theorem ppCons {z : Str} {j} {v : Expr} {ks : List (Option Expr)} {vs : List Expr} {f : Ex} {r : Kx} (hv : PEG X C v f) (hr : PPsG X C pos ks vs r) : PPsG X C pos (some (.Constant (.str z) j p1) :: ks) (v :: vs) (kxCons (.inr z) f r) := by
  obtain ⟨t, a1, a2⟩ := hv
  obtain ⟨trs, b1, b2⟩ := hr
  refine ⟨_, pps_cons pe_str a1 b1, fun Γ M ds e σ F A H h s Q q => ?_⟩
  obtain ⟨d, e1, e⟩ := bindS e
  obtain ⟨ds', e2, e⟩ := bindS e
  cases e
  refine a2 Γ M d e1 σ F A H h s _ fun v F1 H1 g1 r1 => ?_
  exact b2 Γ M ds' e2 σ F1 A H1 (h.grow g1) (s.same g1.ff) _ fun ps kvs F2 H2 g2 pr => q _ ((.inr z, v) :: kvs) F2 H2 (g1.trans g2) (pr.cons g2.ff r1)
theorem pnLast {z : Str} {j} : PPnG X C pos [some (.Constant (.str z) j p1)] [.Dict [] [] p2] kxNil (.inr z) := by
  refine ⟨_, pps_cons pe_str pe_dnewK pps_nil, fun Γ M ds e σ F A H h s Q q => ?_⟩
  cases e
  intro p hp
  exact q [] [] p F _ ⟨Same.refl _, h.fs.trans (same_new hp), same_new hp, fun _ _ _ z => z⟩ ⟨rfl, rfl, rfl⟩ hp (h.fs.free hp) upd_same
theorem pnCons {z : Str} {kn : Key} {j} {v : Expr} {ks : List (Option Expr)} {vs : List Expr} {f : Ex} {r : Kx} (hv : PEG X C v f) (hr : PPnG X C pos ks vs r kn) : PPnG X C pos (some (.Constant (.str z) j p1) :: ks) (v :: vs) (kxCons (.inr z) f r) kn := by
  obtain ⟨t, a1, a2⟩ := hv
  obtain ⟨trs, b1, b2⟩ := hr
  refine ⟨_, pps_cons pe_str a1 b1, fun Γ M ds e σ F A H h s Q q => ?_⟩
  obtain ⟨d, e1, e⟩ := bindS e
  obtain ⟨ds', e2, e⟩ := bindS e
  cases e
  refine a2 Γ M d e1 σ F A H h s _ fun v F1 H1 g1 r1 => ?_
  exact b2 Γ M ds' e2 σ F1 A H1 (h.grow g1) (s.same g1.ff) _ fun ps kvs p F2 H2 g2 pr a b c => q _ ((.inr z, v) :: kvs) p F2 H2 (g1.trans g2) (pr.cons g2.ff r1) (g1.hh.free a) b c
end
theorem mergeK_new : ∀ (more acc : List (Key × V)), ((acc ++ more).map (·.1)).Nodup → mergeK acc more = acc ++ more
  | [], acc, _ => (List.append_nil acc).symm
  | p :: r, acc, h => by
    have e : putK acc p.1 p.2 = acc ++ [p] := by
      unfold putK
      rw [if_neg]
      intro hc
      obtain ⟨x, hx, hxe⟩ := List.any_eq_true.mp hc
      rw [List.map_append, List.nodup_append] at h
      exact h.2.2 x.1 (List.mem_map.mpr ⟨x, hx, rfl⟩) p.1 (by simp) (by simpa using hxe)
    show mergeK (putK acc p.1 p.2) r = _
    rw [e, mergeK_new r (acc ++ [p]) (by rw [List.append_assoc]; exact h), List.append_assoc]
    rfl
/-- what a heap is when a table is made and filled -/
theorem grow_made {F H F2 H2 : Hp} {p : Addr} {o o2 : HO} (fs : Same F H) (hp : H p = none) (g : Grow F (upd H p o) F2 H2) : Grow F H F2 (upd H2 p o2) ∧ F2 p = none := by
  have fp : F2 p = none := g.nf p o upd_same (fs.free hp)
  refine ⟨⟨g.ff, fun b u q => ?_, fun b u q => ?_, fun b u q z => g.nf b u (by rw [upd_ne (ne_of_none q hp)]; exact q) z⟩, fp⟩
  · rw [upd_ne (ne_of_none q fp)]
    exact g.fh b u q
  · rw [upd_ne (ne_of_none q hp)]
    exact g.hh b u (by rw [upd_ne (ne_of_none q hp)]; exact q)
def xDisp (f : Kx) : Ex := fun Γ M => (f Γ M).bind fun ds => if ds.length ≤ 15 ∧ (ds.map (·.1)).Nodup then some (.asc .k (ds.map kd)) else none
/-- x = {.., k: {}}: two own tables -/
def sNewDN (i : Nat) (f : Kx) (kn : Key) : Sx := fun Γ M => (f Γ M).bind fun ds => if ds.length ≤ 14 ∧ ((ds.map (·.1)) ++ [kn]).Nodup then
  some (.nx (Γ.set i (some (.loc (M.length + 1)))) (M ++ [some (.asc .k []), some (.asc .k (ds.map kd ++ [(ofKey kn, .loc M.length)]))])) else none
section
variable {X : Cx} {C : Nat → Addr} {W : WX} {pos : Pos}
theorem nDisp {keys : List (Option Expr)} {values : List Expr} {f : Kx} (h : PPsG X C pos keys values f) (hall : keys.all (·.isSome) = true := by rfl) (hl : keys.length = values.length := by rfl) (h0 : keys ≠ [] := by exact List.cons_ne_nil _ _)
    (h15 : keys.length ≤ 15 := by decide) : PNG X C (.Dict keys values pos) (xDisp f) := by
  obtain ⟨trs, a1, a2⟩ := h
  refine ⟨_, pe_disp a1 hall hl h0 h15, fun Γ M d e σ F A H h s Q q => ?_⟩
  obtain ⟨ds, e1, e⟩ := bindS e
  split at e
  · rename_i hd
    cases e
    intro p hp
    have g0 : Grow F H F (upd H p (.dK [])) := ⟨Same.refl _, h.fs.trans (same_new hp), same_new hp, fun _ _ _ z => z⟩
    refine a2 Γ M ds e1 σ F A _ (h.grow g0) s _ fun ps kvs F2 H2 g2 pr => ?_
    obtain ⟨h1, h2, h3⟩ := pr
    obtain ⟨g3, fp⟩ := grow_made (o2 := .dK (mergeK [] kvs)) h.fs hp g2
    have hk : mergeK [] kvs = kvs := mergeK_new kvs [] (by rw [List.nil_append, h2]; exact hd.2)
    refine ⟨g2.hh p _ upd_same, kvs, h1, ?_, q p F2 _ g3 fp hp ⟨_, ⟨kvs, by rw [upd_same, hk], rfl⟩, h3⟩⟩
    have := congrArg List.length h2
    rw [List.length_map, List.length_map] at this
    omega
  · cases e
theorem RepA.kappend {T : GE} {F : Hp} {A : List Addr} {ds es : List (DK × D)} {vs ws : List (DK × V)} (h : RepA T F A ds vs) (k : RepA T F A es ws) : RepA T F A (ds ++ es) (vs ++ ws) := h.append k
theorem sNewDN_ {i : Nat} {x : Str} {py : Pos} {keys : List (Option Expr)} {values : List Expr} {f : Kx} {kn : Key} {spos : Pos} (hN : X.N.Nodup) (hi : X.N[i]? = some x) (hx : Loc X.env.scope x) (h : PPnG X C pos keys values f kn) (hall : keys.all (·.isSome) = true := by rfl) (hl : keys.length = values.length := by rfl) (h0 : keys ≠ [] := by exact List.cons_ne_nil _ _)
    (h15 : keys.length ≤ 15 := by decide) (hs : swapsWithSole [.Name x py] (.Dict keys values pos) spos.line X.env = pure false := by rfl) (hw : swappedStores [.Name x py] (.Dict keys values pos) X.env = pure none := by rfl)
    (hf : X.fn x = true ∨ X.env.scope.names.lookup x = some .local := by first | exact .inl rfl | exact .inr rfl | assumption) : PSG X C W (.Assign [.Name x py] (.Dict keys values pos) spos) (sNewDN i f kn) := by
  obtain ⟨trs, a1, a2⟩ := h
  refine ⟨_, ps_asg (pe_disp a1 hall hl h0 h15) (pg_name hN hi hx hf) hs hw, fun Γ M o e σ F A H h s D k => ?_⟩
  obtain ⟨ds, e1, e⟩ := bindS e
  split at e
  · rename_i hd
    cases e
    intro p hp
    have g0 : Grow F H F (upd H p (.dK [])) := ⟨Same.refl _, h.fs.trans (same_new hp), same_new hp, fun _ _ _ z => z⟩
    refine a2 Γ M ds e1 σ F A _ (h.grow g0) s _ fun ps kvs q F2 H2 g2 pr hq fq hq2 => ?_
    obtain ⟨h1, h2, h3⟩ := pr
    have hqp : q ≠ p := fun z => by rw [z, upd_same] at hq; cases hq
    have hq0 : H q = none := by rw [upd_ne hqp] at hq; exact hq
    obtain ⟨g3, fp⟩ := grow_made (o2 := .dK (mergeK [] (kvs ++ [(kn, .ref q)]))) h.fs hp g2
    have hk : mergeK [] (kvs ++ [(kn, V.ref q)]) = kvs ++ [(kn, .ref q)] := mergeK_new _ [] (by
      rw [List.nil_append, List.map_append, h2]
      exact hd.2)
    have hlen := congrArg List.length h2
    rw [List.length_map, List.length_map] at hlen
    refine ⟨g2.hh p _ upd_same, kvs ++ [(kn, .ref q)], by rw [h1, List.map_append]; rfl, by rw [List.length_append, List.length_singleton]; omega, ?_⟩
    have hqq : upd H2 p (.dK (mergeK [] (kvs ++ [(kn, V.ref q)]))) q = some (.dK []) := by rw [upd_ne hqp]; exact hq2
    obtain ⟨n1, n2, n3⟩ := nAdd (c := .asc .k []) h g3 fq hq0 ⟨[], ⟨[], hqq, rfl⟩, rfl⟩
    have np : p ∉ A ++ [q] := fun z => by
      rcases List.mem_append.mp z with z | z
      · obtain ⟨u, e⟩ := h.al p z
        rw [hp] at e; cases e
      · exact hqp (List.mem_singleton.mp z).symm
    have hup := n2.px
    have h3' : RepA ⟨X.K, C⟩ F2 (A ++ [q]) (ds.map kd) (kvs.map kx) := RepA.mono (Same.refl _) _ _ h3
    have n4 := n1.add (c := .asc .k (ds.map kd ++ [(ofKey kn, .loc M.length)])) fp np ⟨_, ⟨kvs ++ [(kn, .ref q)], by rw [upd_same, hk], rfl⟩, by
      rw [List.map_append]
      exact h3'.kappend ⟨.ref q, [], rfl, n3, rfl⟩⟩
    have st : Step F A H F2 ((A ++ [q]) ++ [p]) (upd H2 p (.dK (mergeK [] (kvs ++ [(kn, V.ref q)])))) := ⟨n2.ff, n2.kp, n2.nf, [q, p], by rw [List.append_assoc]; rfl, fun b hb => by
      rcases List.mem_cons.mp hb with z | z
      · subst z
        exact ⟨hq0, fun z => by
          obtain ⟨u, e⟩ := h.al b z
          rw [hq0] at e; cases e⟩
      · have := List.mem_singleton.mp z
        subst this
        exact ⟨hp, fun z => np (List.mem_append_left _ z)⟩⟩
    have e2 : M ++ [some (G.D.asc .k []), some (G.D.asc .k (ds.map kd ++ [(ofKey kn, .loc M.length)]))] = (M ++ [some (G.D.asc .k [])]) ++ [some (G.D.asc .k (ds.map kd ++ [(ofKey kn, .loc M.length)]))] := by rw [List.append_assoc]; rfl
    have rp : Rep ⟨X.K, C⟩ F2 ((A ++ [q]) ++ [p]) (.loc (M.length + 1)) (.ref p) := ⟨p, by
      rw [List.getElem?_append_right (by rw [List.length_append, List.length_singleton, h.len]; exact Nat.le_refl _), List.length_append, List.length_singleton, h.len, Nat.sub_self]
      rfl, rfl⟩
    exact k _ F2 ((A ++ [q]) ++ [p]) _ (by rw [e2]; exact n4) ((st.slots s).set rp i) st
  · cases e
/-! ### t[k] = {}: an own table in an own table -/
def kPutK (c y d : D) : Option D := match c with
  | .asc .k kvs => (kyOf y).bind fun k => if kvs.length < 1000000 then some (.asc .k (putA kvs (ofKey k) d)) else none
  | _ => none
def sPutN (fo fi fv : Ex) : Sx := fun Γ M => (fv Γ M).bind fun c => (fo Γ (M ++ [some c])).bind fun x => (fi Γ (M ++ [some c])).bind fun y => withLoc (M ++ [some c]) x fun n t => (kPutK t y (.loc M.length)).bind fun c' => some (.nx Γ ((M ++ [some c]).set n (some c')))
theorem sPutN_ {o i e : Expr} {fo fi fv : Ex} {pos' : Pos} (hu : X.A.units + 64 < cLine) (ho : PEG X C o fo) (hi : PEG X C i fi) (he : PNG X C e fv) (hs : swapsWith e (some (.Subscript o i pos')) pos.line X.env = pure false := by rfl) :
    PSG X C W (.Assign [.Subscript o i pos'] e pos) (sPutN fo fi fv) := by
  obtain ⟨to, o1, o2⟩ := ho
  obtain ⟨ti, i1, i2⟩ := hi
  obtain ⟨tv, v1, v2⟩ := he
  refine ⟨_, ps_dput (by omega) o1 i1 v1 hs, fun Γ M o e σ F A H h s D kk => ?_⟩
  obtain ⟨c, q1, e⟩ := bindS e
  obtain ⟨x, q2, e⟩ := bindS e
  obtain ⟨y, q3, e⟩ := bindS e
  obtain ⟨n, t, rfl, hc, e⟩ := withLoc_inv e
  obtain ⟨c', q4, e⟩ := bindS e
  cases e
  refine v2 Γ M c q1 σ F A H h s _ fun p F1 H1 g1 np hp cc => ?_
  obtain ⟨h1, s1, r1⟩ := nAdd h g1 np hp cc
  refine o2 Γ _ _ q2 σ F1 _ H1 h1 (s1.slots s) _ fun u F2 H2 g2 r2 => ?_
  refine i2 Γ _ y q3 σ F2 _ H2 (h1.grow g2) ((s1.slots s).same g2.ff) _ fun w F3 H3 g3 r3 => ?_
  obtain ⟨a, m1, rfl⟩ := r2
  have h3 := (h1.grow g2).grow g3
  have rd : Rep ⟨X.K, C⟩ F3 (A ++ [p]) (.loc M.length) (.ref p) := r1
  have hcont := h3.mem _ _ _ hc m1
  unfold kPutK at q4
  split at q4
  · obtain ⟨k, q5, q6⟩ := bindS q4
    split at q6
    · rename_i hl
      cases q6
      obtain ⟨vs, ⟨ws, w1, rfl⟩, w2⟩ := hcont
      have := kyOf_ok q5 r3
      subst this
      have hl2 := w2.len
      rw [List.length_map] at hl2
      obtain ⟨z1, z2⟩ := h3.write (o := .dK (putK ws k (.ref p))) (c' := G.D.asc .k _) hc m1 ⟨_, ⟨_, upd_same, rfl⟩, put_k rd k w2⟩
      exact ⟨a, _, rfl, DPut.k w1 (by rw [← hl2]; exact Nat.lt_of_lt_of_le hl (by decide)), kk σ F3 _ _ z1 (((s1.slots s).same g2.ff).same g3.ff) ((s1.trans (g2.trans g3).step).trans z2)⟩
    · cases q6
  · cases q4
end
/-! ### an own table in an own table is frozen -/
def unloc (m : Nat) (c : D) (kvs : List (DK × D)) : List (DK × D) := kvs.map fun p => match p.2 with
  | .loc j => if j = m then (p.1, c) else p
  | _ => p
def frzK (i : Nat) (k : DK) : Out → Option Out
  | .nx Γ M => (xVar i Γ M).bind fun x => withLoc M x fun n t => match t with
    | .asc .k kvs => (match getA kvs k with
      | some (.loc m) => (match M[m]? with
        | some (some c) => if locFree c = true ∧ m ≠ n then some (.nx Γ ((M.set m none).set n (some (.asc .k (unloc m c kvs))))) else none
        | _ => none)
      | _ => none)
    | _ => none
  | o => some o
def sFrzK (i : Nat) (k : DK) (s : Sx) : Sx := fun Γ M => (s Γ M).bind (frzK i k)
theorem HR.redesc {T : GE} {M : Mem} {F H : Hp} {A : List Addr} (h : HR T M F A H) {n : Nat} {c c' : D} {a : Addr} (e1 : M[n]? = some (some c)) (e2 : A[n]? = some a) (k : Cont T F A H c' a) : HR T (M.set n (some c')) F A H := by
  have hn : n < M.length := (List.getElem?_eq_some_iff.mp e1).1
  refine ⟨h.fs, h.nd, by rw [List.length_set]; exact h.len, fun m d b q1 q2 => ?_, fun m d b q1 q2 => ?_, h.al, fun m b q1 q2 => ?_⟩
  · by_cases hm : n = m
    · subst hm
      exact h.fr n c b e1 q2
    · rw [List.getElem?_set_ne hm] at q1
      exact h.fr m d b q1 q2
  · by_cases hm : n = m
    · subst hm
      rw [List.getElem?_set_self hn] at q1
      cases q1
      rw [e2] at q2
      cases q2
      exact k
    · rw [List.getElem?_set_ne hm] at q1
      exact h.mem m d b q1 q2
  · by_cases hm : n = m
    · subst hm
      rw [List.getElem?_set_self hn] at q1
      cases q1
    · rw [List.getElem?_set_ne hm] at q1
      exact h.dd m b q1 q2
theorem RepA.unloc {T : GE} {F : Hp} {A : List Addr} {m : Nat} {c : D} {a : Addr} (ha : A[m]? = some a) (rc : Rep T F A c (.ref a)) : ∀ {kvs : List (DK × D)} {vs : List (DK × V)}, RepA T F A kvs vs → RepA T F A (unloc m c kvs) vs
  | [], _, h => h
  | (k, d) :: r, _, ⟨v, w, h1, h2, h3⟩ => by
    subst h1
    have ih := RepA.unloc ha rc h3
    unfold G.unloc at ih ⊢
    rw [List.map_cons]
    split
    · rename_i j hj
      dsimp only at hj
      subst hj
      split
      · rename_i e
        subst e
        obtain ⟨b, q1, rfl⟩ := h2
        rw [ha] at q1
        cases q1
        exact ⟨_, w, rfl, rc, ih⟩
      · exact ⟨v, w, rfl, h2, ih⟩
    · exact ⟨v, w, rfl, h2, ih⟩
theorem TSG.frzK {T : GE} {W : WX} {t : TS} {s : Sx} (i : Nat) (k : DK) (h : TSG T W t s) : TSG T W t (sFrzK i k s) := by
  intro Γ M o e σ F A H hh ss D kk
  obtain ⟨o1, e1, e⟩ := bindS e
  refine h Γ M o1 e1 σ F A H hh ss D ?_
  cases o1 with
  | nx Γ1 M1 =>
    obtain ⟨x, e2, e3⟩ := bindS (show (xVar i Γ1 M1).bind _ = some o from e)
    obtain ⟨n, t0, rfl, e4, e5⟩ := withLoc_inv e3
    split at e5
    · rename_i kvs
      split at e5
      · rename_i m hm
        split at e5
        · rename_i c hc
          split at e5
          · rename_i hq
            cases e5
            intro σ2 F2 A2 H2 h2 s2 st2
            obtain ⟨a, F3, q1, q2, q3, q4⟩ := h2.freeze hc
            have hn : (M1.set m none)[n]? = some (some (.asc .k kvs)) := by rw [List.getElem?_set_ne hq.2]; exact e4
            have hA : ∃ b, A2[n]? = some b := by
              have := (List.getElem?_eq_some_iff.mp e4).1
              rw [← h2.len] at this
              exact ⟨A2[n], by simp [this]⟩
            obtain ⟨b, hb⟩ := hA
            obtain ⟨vs, z1, z2⟩ := q2.mem n _ b hn hb
            have q5 := q2.redesc (c' := .asc .k (unloc m c kvs)) hn hb ⟨vs, z1, z2.unloc q1 q4⟩
            exact kk σ2 F3 A2 H2 q5 (q3.slots s2) (st2.trans q3)
          · cases e5
        · cases e5
      · cases e5
    · cases e5
  | rt d M1 => cases e; exact kk
  | bk Γ1 M1 => cases e; exact kk
  | ct Γ1 M1 => cases e; exact kk
  | ex x Γ1 M1 => cases e; exact kk
theorem sFrzK_ {X : Cx} {C : Nat → Addr} {W : WX} {st : Stmt} {s : Sx} (i : Nat) (k : DK) (h : PSG X C W st s) : PSG X C W st (sFrzK i k s) := let ⟨t, a, b⟩ := h; ⟨t, a, b.frzK i k⟩
end G
set_option Elab.async false
set_option linter.all false
set_option maxRecDepth 100000
set_option maxHeartbeats 4000000
namespace G
open PySem PySem.Spec PyProof.Rows L2
/-! ### one turn of a loop; loops as folds -/
def turnF (g : Gx) (kl : List Nat) (b : Sx) (d : D) (Γ : Sl) (M : Mem) : Option Out := (g d Γ).bind fun Γ1 => (b Γ1 M).bind fun o => match o with
  | .nx Γ2 M2 => some (.nx (kills Γ2 kl) M2)
  | .ct Γ2 M2 => some (.nx (kills Γ2 kl) M2)
  | .bk Γ2 M2 => some (.bk (kills Γ2 kl) M2)
  | o => some o
theorem loopF_cons (g : Gx) (kl : List Nat) (b : Sx) (d : D) (r : List D) (Γ : Sl) (M : Mem) : loopF g kl b (d :: r) Γ M = (turnF g kl b d Γ M).bind fun o => match o with
    | .nx Γ2 M2 => loopF g kl b r Γ2 M2
    | .bk Γ2 M2 => some (.nx Γ2 M2)
    | o => some o := by
  show ((g d Γ).bind fun Γ1 => (b Γ1 M).bind fun o => _) = _
  unfold turnF
  cases g d Γ with
  | none => rfl
  | some Γ1 =>
    show ((b Γ1 M).bind fun o => _) = Option.bind ((b Γ1 M).bind fun o => _) _
    cases b Γ1 M with
    | none => rfl
    | some o => cases o <;> rfl
theorem loop_fold {α β : Type} {g : Gx} {kl : List Nat} {b : Sx} (enc : α → D) (Γf : β → Sl) (Mf : β → Mem) (step : β → α → β) (P : β → Prop) : ∀ (ys : List α) (s : β), P s →
    (∀ s x, x ∈ ys → P s → P (step s x) ∧ turnF g kl b (enc x) (Γf s) (Mf s) = some (.nx (Γf (step s x)) (Mf (step s x)))) →
    loopF g kl b (ys.map enc) (Γf s) (Mf s) = some (.nx (Γf (ys.foldl step s)) (Mf (ys.foldl step s))) ∧ P (ys.foldl step s)
  | [], s, hp, _ => ⟨rfl, hp⟩
  | y :: ys, s, hp, h => by
    obtain ⟨h1, h2⟩ := h s y List.mem_cons_self hp
    obtain ⟨h3, h4⟩ := loop_fold enc Γf Mf step P ys (step s y) h1 fun s x hx => h s x (List.mem_cons_of_mem _ hx)
    refine ⟨?_, h4⟩
    rw [List.map_cons, loopF_cons, h2]
    exact h3
/-- by the number of turns gone -/
theorem loop_seq {g : Gx} {kl : List Nat} {b : Sx} : ∀ (xs : List D) (Γf : Nat → Sl) (Mf : Nat → Mem), (∀ i d, xs[i]? = some d → turnF g kl b d (Γf i) (Mf i) = some (.nx (Γf (i + 1)) (Mf (i + 1)))) →
    loopF g kl b xs (Γf 0) (Mf 0) = some (.nx (Γf xs.length) (Mf xs.length))
  | [], _, _, _ => rfl
  | x :: xs, Γf, Mf, h => by
    rw [loopF_cons, h 0 x rfl]
    exact loop_seq xs (fun i => Γf (i + 1)) (fun i => Mf (i + 1)) fun i d e => h (i + 1) d (by simpa using e)
/-- a loop with an invariant, its state left open -/
theorem loop_inv {g : Gx} {kl : List Nat} {b : Sx} (Inv : Nat → Sl → Mem → Prop) : ∀ (xs : List D) (n : Nat) (Γ : Sl) (M : Mem), Inv n Γ M → (∀ i d Γ M, xs[i]? = some d → Inv (n + i) Γ M → ∃ Γ' M', turnF g kl b d Γ M = some (.nx Γ' M') ∧ Inv (n + i + 1) Γ' M') →
    ∃ Γ' M', loopF g kl b xs Γ M = some (.nx Γ' M') ∧ Inv (n + xs.length) Γ' M'
  | [], n, Γ, M, h, _ => ⟨Γ, M, rfl, h⟩
  | x :: xs, n, Γ, M, h, hs => by
    obtain ⟨Γ1, M1, e1, h1⟩ := hs 0 x Γ M rfl h
    obtain ⟨Γ2, M2, e2, h2⟩ := loop_inv Inv xs (n + 1) Γ1 M1 h1 fun i d Γ M e hI => by
      have := hs (i + 1) d Γ M (by simpa using e) (by rw [show n + (i + 1) = n + 1 + i by omega]; exact hI)
      rw [show n + (i + 1) + 1 = n + 1 + i + 1 by omega] at this
      exact this
    refine ⟨Γ2, M2, ?_, by rw [List.length_cons, show n + (xs.length + 1) = n + 1 + xs.length by omega]; exact h2⟩
    rw [loopF_cons, e1]
    exact e2
/-- a comprehension, item by item -/
theorem lcF_map {α : Type} {g : Gx} {t : Tx} {f : Ex} {Γ : Sl} {M : Mem} (enc : α → D) (h : α → D) : ∀ ys : List α, (∀ y ∈ ys, ∃ Γ1, g (enc y) Γ = some Γ1 ∧ t Γ1 M = some true ∧ f Γ1 M = some (h y)) → lcF g t f Γ M (ys.map enc) = some (ys.map h)
  | [], _ => rfl
  | y :: ys, hh => by
    obtain ⟨Γ1, e1, e2, e3⟩ := hh y List.mem_cons_self
    have ih := lcF_map enc h ys fun z hz => hh z (List.mem_cons_of_mem _ hz)
    show ((g (enc y) Γ).bind fun Γ1 => (t Γ1 M).bind fun k => if k = true then (f Γ1 M).bind fun y => (lcF g t f Γ M (ys.map enc)).map (y :: ·) else _) = _
    rw [e1, Option.bind_some, e2, Option.bind_some, if_pos rfl, e3, Option.bind_some, ih]
    rfl
theorem lcF_filter {α : Type} {g : Gx} {t : Tx} {f : Ex} {Γ : Sl} {M : Mem} (enc : α → D) (p : α → Bool) (h : α → D) : ∀ ys : List α, (∀ y ∈ ys, ∃ Γ1, g (enc y) Γ = some Γ1 ∧ t Γ1 M = some (p y) ∧ (p y = true → f Γ1 M = some (h y))) → lcF g t f Γ M (ys.map enc) = some ((ys.filter p).map h)
  | [], _ => rfl
  | y :: ys, hh => by
    obtain ⟨Γ1, e1, e2, e3⟩ := hh y List.mem_cons_self
    have ih := lcF_filter enc p h ys fun z hz => hh z (List.mem_cons_of_mem _ hz)
    show ((g (enc y) Γ).bind fun Γ1 => (t Γ1 M).bind fun k => if k = true then (f Γ1 M).bind fun y => (lcF g t f Γ M (ys.map enc)).map (y :: ·) else lcF g t f Γ M (ys.map enc)) = _
    rw [e1, Option.bind_some, e2, Option.bind_some]
    cases hp : p y with
    | true => rw [if_pos rfl, e3 hp, Option.bind_some, ih, List.filter_cons_of_pos hp]; rfl
    | false => rw [if_neg Bool.false_ne_true, ih, List.filter_cons_of_neg (by simp [hp])]
/-! ### small steps for simp -/
section
variable {Γ : Sl} {M : Mem}
@[simp] theorem ap_sSeq (a b : Sx) : sSeq a b Γ M = (a Γ M).bind fun o => match o with
  | .nx Γ1 M1 => b Γ1 M1
  | o => some o := rfl
@[simp] theorem ap_sNext : sNext Γ M = some (.nx Γ M) := rfl
@[simp] theorem ap_sSet (i : Nat) (f : Ex) : sSet i f Γ M = (f Γ M).bind fun d => some (.nx (Γ.set i (some d)) M) := rfl
@[simp] theorem ap_sNew (i : Nat) (f : Ex) : sNew i f Γ M = (f Γ M).bind fun d => some (.nx (Γ.set i (some (.loc M.length))) (M ++ [some d])) := rfl
@[simp] theorem ap_sRet (f : Ex) : sRet f Γ M = (f Γ M).bind fun d => some (.rt d M) := rfl
@[simp] theorem ap_sRetN : sRetN Γ M = some (.rt .non M) := rfl
@[simp] theorem ap_sDrop (f : Ex) : sDrop f Γ M = (f Γ M).bind fun _ => some (.nx Γ M) := rfl
@[simp] theorem ap_sBreak : sBreak Γ M = some (.bk Γ M) := rfl
@[simp] theorem ap_sCont : sCont Γ M = some (.ct Γ M) := rfl
@[simp] theorem ap_sIf (c : Tx) (a b : Sx) : sIf c a b Γ M = (c Γ M).bind fun k => if k = true then a Γ M else b Γ M := rfl
@[simp] theorem ap_sAug (k : Mem → D → D → Option D) (i : Nat) (f : Ex) : sAug k i f Γ M = (xVar i Γ M).bind fun x => (f Γ M).bind fun y => (k M x y).bind fun z => some (.nx (Γ.set i (some z)) M) := rfl
@[simp] theorem ap_sAsg (g : Gx) (f : Ex) : sAsg g f Γ M = (f Γ M).bind fun d => (g d Γ).bind fun Γ1 => some (.nx Γ1 M) := rfl
@[simp] theorem ap_sMut (k : D → List D → Option D) (fr : Ex) (fa : Ax) : sMut k fr fa Γ M = (fr Γ M).bind fun x => (fa Γ M).bind fun ys => match x with
  | .loc n => (match M[n]? with
    | some (some c) => (k c ys).bind fun c' => some (.nx Γ (M.set n (some c')))
    | _ => none)
  | _ => none := rfl
@[simp] theorem ap_sPut (fo fi fv : Ex) : sPut fo fi fv Γ M = (fv Γ M).bind fun d => (fo Γ M).bind fun x => (fi Γ M).bind fun y => withLoc M x fun n c => (kPut c y d).bind fun c' => some (.nx Γ (M.set n (some c'))) := rfl
@[simp] theorem ap_sFrz (i : Nat) (s : Sx) : sFrz i s Γ M = (s Γ M).bind (frzO i) := rfl
@[simp] theorem ap_sFor (g : Gx) (kl : List Nat) (it : Ax) (b : Sx) : sFor g kl it b Γ M = (it Γ M).bind fun ds => loopF g kl b ds (kills Γ kl) M := rfl
@[simp] theorem ap_sWhile (n : Nat) (c : Tx) (kl : List Nat) (b : Sx) : sWhile n c kl b Γ M = whileF c kl b n (kills Γ kl) M := rfl
@[simp] theorem ap_frzO (i : Nat) : frzO i (.nx Γ M) = (xVar i Γ M).bind fun x => withLoc M x fun n c => if locFree c = true then some (.nx (Γ.set i (some c)) (M.set n none)) else none := rfl
@[simp] theorem ap_frzR (i : Nat) (d : D) : frzO i (.rt d M) = some (.rt d M) := rfl
@[simp] theorem ap_withLoc {α : Type} (n : Nat) (k : Nat → D → Option α) : withLoc M (.loc n) k = match M[n]? with
  | some (some c) => k n c
  | _ => none := rfl
@[simp] theorem ap_xC (d : D) : xC d Γ M = some d := rfl
@[simp] theorem ap_xBin (g : Mem → D → D → Option D) (a b : Ex) : xBin g a b Γ M = (a Γ M).bind fun x => (b Γ M).bind fun y => g M x y := rfl
@[simp] theorem ap_xAnil : xAnil Γ M = some [] := rfl
@[simp] theorem ap_xAcons (a : Ex) (r : Ax) : xAcons a r Γ M = (a Γ M).bind fun x => (r Γ M).bind fun xs => some (x :: xs) := rfl
@[simp] theorem ap_xTup (r : Ax) : xTup r Γ M = (r Γ M).bind fun xs => if xs.length ≤ 1000000 then some (.tup xs) else none := rfl
@[simp] theorem ap_xLst (r : Ax) : xLst r Γ M = (r Γ M).bind fun xs => if xs.length ≤ 1000000 then some (.lst xs) else none := rfl
@[simp] theorem ap_xCall (g : Mem → List D → Option D) (r : Ax) : xCall g r Γ M = (r Γ M).bind fun xs => g M xs := rfl
@[simp] theorem ap_xIf (c : Tx) (a b : Ex) : xIf c a b Γ M = (c Γ M).bind fun k => if k = true then a Γ M else b Γ M := rfl
@[simp] theorem ap_tVal (a : Ex) : tVal a Γ M = (a Γ M).bind fun x => match x with
  | .bl k => some k
  | _ => none := rfl
@[simp] theorem ap_tAnd (a b : Tx) : G.tAnd a b Γ M = (a Γ M).bind fun k => if k = true then b Γ M else some false := rfl
@[simp] theorem ap_tOr (a b : Tx) : G.tOr a b Γ M = (a Γ M).bind fun k => if k = true then some true else b Γ M := rfl
@[simp] theorem ap_tNot (a : Tx) : G.tNot a Γ M = (a Γ M).bind fun k => some (!k) := rfl
@[simp] theorem ap_tYes : tYes_ Γ M = some true := rfl
@[simp] theorem ap_xAnd (a b : Ex) : xAnd a b Γ M = (a Γ M).bind fun x => match x with
  | .bl k => if k = true then b Γ M else some (.bl false)
  | _ => none := rfl
@[simp] theorem ap_xOr (a b : Ex) : xOr a b Γ M = (a Γ M).bind fun x => match x with
  | .bl k => if k = true then some (.bl true) else b Γ M
  | _ => none := rfl
@[simp] theorem ap_xNot (a : Ex) : xNot a Γ M = (a Γ M).bind fun x => match x with
  | .bl k => some (.bl (!k))
  | _ => none := rfl
@[simp] theorem ap_xNeg (a : Ex) : xNeg a Γ M = (a Γ M).bind fun x => match x with
  | .int i => some (.int (-i))
  | _ => none := rfl
@[simp] theorem ap_oNone : oNone Γ M = some none := rfl
@[simp] theorem ap_oSome (a : Ex) : oSome a Γ M = (a Γ M).bind fun x => match x with
  | .int i => some (some i)
  | _ => none := rfl
@[simp] theorem ap_xSlice (k : Mem → D → Option Int → Option Int → Option D) (a : Ex) (lo hi : Ox) : xSlice k a lo hi Γ M = (a Γ M).bind fun x => (lo Γ M).bind fun l => (hi Γ M).bind fun u => k M x l u := rfl
@[simp] theorem ap_xCallP (p : List D → Option PR) (fa : Ax) : xCallP p fa Γ M = (fa Γ M).bind fun xs => if locFrees xs = true then (p xs).map PR.d else none := rfl
@[simp] theorem ap_xCallN (p : List D → Option PR) (fa : Ax) : xCallN p fa Γ M = (fa Γ M).bind fun xs => if locFrees xs = true then (p xs).bind fun r => match r with
  | .fresh c => some c
  | _ => none else none := rfl
@[simp] theorem ap_xCallL (p : List D → Option PR) (fa : Ax) : xCallL p fa Γ M = (fa Γ M).bind fun ds => (brws M ds).bind fun xs => (p xs).bind fun r => if cleanP r = true then some r.d else none := rfl
@[simp] theorem ap_xCallLN (p : List D → Option PR) (fa : Ax) : xCallLN p fa Γ M = (fa Γ M).bind fun ds => (brws M ds).bind fun xs => (p xs).bind fun r => if cleanP r = true then (match r with
  | .fresh c => some c
  | _ => none) else none := rfl
@[simp] theorem ap_xLc (g : Gx) (own : List Nat) (it : Ax) (t : Tx) (f : Ex) : xLc g own it t f Γ M = (it Γ M).bind fun ds => if ds.length ≤ 1000000 then (lcF g t f (kills Γ own) M ds).map .lst else none := rfl
@[simp] theorem ap_ixL (f : Ex) : ixL f Γ M = (f Γ M).bind vF := rfl
@[simp] theorem ap_ixE (w : Ax) : ixE w Γ M = (w Γ M).bind fun xs => match xs with
  | [x] => (vFL x).map (enumL 0)
  | _ => none := rfl
@[simp] theorem ap_ixR1 (w : Ax) : ixR1 w Γ M = (w Γ M).bind fun xs => match xs with
  | [.int j] => if -1000000 < j ∧ j < 1000000 then some (rngL 0 j.toNat) else none
  | _ => none := rfl
@[simp] theorem ap_ixR2 (w : Ax) : ixR2 w Γ M = (w Γ M).bind fun xs => match xs with
  | [.int i, .int j] => if -1000000 < i ∧ i < 1000000 ∧ -1000000 < j ∧ j < 1000000 then some (rngL i (j - i).toNat) else none
  | _ => none := rfl
@[simp] theorem ap_ixR3 (w : Ax) : ixR3 w Γ M = (w Γ M).bind fun xs => match xs with
  | [.int i, .int j, .int c] => if i = 0 ∧ 0 ≤ j ∧ j < 1000000 ∧ 1 ≤ c ∧ c < 1000000 then some (rngC c ((j + c - 1) / c).toNat) else none
  | _ => none := rfl
@[simp] theorem ap_gxName (i : Nat) (d : D) : gxName i d Γ = some (Γ.set i (some d)) := rfl
@[simp] theorem ap_gxNil : gxNil [] Γ = some Γ := rfl
@[simp] theorem ap_gxCons (g : Gx) (r : Gxs) (d : D) (ds : List D) : gxCons g r (d :: ds) Γ = (g d Γ).bind fun Γ1 => r ds Γ1 := rfl
@[simp] theorem ap_gxTup (n : Nat) (g : Gxs) (ds : List D) : gxTup n g (.tup ds) Γ = if ds.length = n then g ds Γ else none := rfl
@[simp] theorem kills_nil : kills Γ [] = Γ := rfl
@[simp] theorem kills_cons (k : Nat) (r : List Nat) : kills Γ (k :: r) = (kills Γ r).set k none := rfl
@[simp] theorem ap_xVar (i : Nat) : xVar i Γ M = match Γ[i]? with
  | some (some d) => some d
  | _ => none := rfl
@[simp] theorem vL_lst (ds : List D) : vL M (.lst ds) = some ds := rfl
@[simp] theorem vS_lst (ds : List D) : vS M (.lst ds) = some ds := rfl
@[simp] theorem vS_tup (ds : List D) : vS M (.tup ds) = some ds := rfl
@[simp] theorem vF_lst (ds : List D) : vF (.lst ds) = some ds := rfl
@[simp] theorem vF_tup (ds : List D) : vF (.tup ds) = some ds := rfl
@[simp] theorem vF_scr (ns : List Int) : vF (.scr ns) = some (ns.map .int) := rfl
@[simp] theorem vFL_lst (ds : List D) : vFL (.lst ds) = some ds := rfl
@[simp] theorem vFL_scr (ns : List Int) : vFL (.scr ns) = some (ns.map .int) := rfl
@[simp] theorem vL_loc (n : Nat) : vL M (.loc n) = match M[n]? with
  | some (some (.lst ds)) => some ds
  | _ => none := rfl
@[simp] theorem vS_loc (n : Nat) : vS M (.loc n) = match M[n]? with
  | some (some (.lst ds)) => some ds
  | _ => none := rfl
/-! operations on ints -/
@[simp] theorem gAdd_ii (i j : Int) : gAdd M (.int i) (.int j) = some (.int (i + j)) := rfl
@[simp] theorem gAddI_ii (i j : Int) : gAddI M (.int i) (.int j) = some (.int (i + j)) := rfl
@[simp] theorem gSub_ii (i j : Int) : gSub M (.int i) (.int j) = some (.int (i - j)) := rfl
@[simp] theorem gMul_ii (i j : Int) : gMul M (.int i) (.int j) = if (numOk i && numOk j) = true then some (.int (i * j)) else none := rfl
@[simp] theorem gDiv_ii (i j : Int) : gDiv M (.int i) (.int j) = if (decide (0 < j) && numOk j) = true then some (.int (i / j)) else none := rfl
@[simp] theorem gMod_ii (i j : Int) : gMod M (.int i) (.int j) = if 0 < j then some (.int (i % j)) else none := rfl
@[simp] theorem gPow_ii (i j : Int) : gPow M (.int i) (.int j) = if 0 ≤ j ∧ j ≤ 1000 ∧ -1000000 < i ∧ i < 1000000 then some (.int (i ^ j.toNat)) else none := rfl
@[simp] theorem gLt_ii (i j : Int) : gLt M (.int i) (.int j) = some (.bl (decide (i < j))) := rfl
@[simp] theorem gLe_ii (i j : Int) : gLe M (.int i) (.int j) = some (.bl (decide (i ≤ j))) := rfl
@[simp] theorem gGt_ii (i j : Int) : gGt M (.int i) (.int j) = some (.bl (decide (j < i))) := rfl
@[simp] theorem gGe_ii (i j : Int) : gGe M (.int i) (.int j) = some (.bl (decide (j ≤ i))) := rfl
@[simp] theorem gEq_ii (i j : Int) : gEq M (.int i) (.int j) = some (.bl (decide (i = j))) := rfl
@[simp] theorem gNe_ii (i j : Int) : gNe M (.int i) (.int j) = some (.bl (!decide (i = j))) := rfl
@[simp] theorem gEq_ss (i j : Str) : gEq M (.str i) (.str j) = some (.bl (decide (i = j))) := rfl
@[simp] theorem gNe_ss (i j : Str) : gNe M (.str i) (.str j) = some (.bl (!decide (i = j))) := rfl
@[simp] theorem gEq_bb (i j : Bool) : gEq M (.bl i) (.bl j) = some (.bl (decide (i = j))) := rfl
@[simp] theorem gNe_bb (i j : Bool) : gNe M (.bl i) (.bl j) = some (.bl (!decide (i = j))) := rfl
@[simp] theorem gItem_li (ds : List D) (i : Int) : gItem M (.lst ds) (.int i) = atI ds i := rfl
@[simp] theorem gItem_ti (ds : List D) (i : Int) : gItem M (.tup ds) (.int i) = atI ds i := rfl
@[simp] theorem gItem_si (ns : List Int) (i : Int) : gItem M (.scr ns) (.int i) = (atI ns i).map .int := rfl
@[simp] theorem gItem_lo (n : Nat) (i : Int) : gItem M (.loc n) (.int i) = match vS M (.loc n) with
  | some ds => atI ds i
  | none => (gGet M (.loc n) (.int i)).join := rfl
@[simp] theorem gCut_l (ds : List D) (lo hi : Option Int) : gCut M (.lst ds) lo hi = some (.lst (cutD ds lo hi)) := rfl
@[simp] theorem gCut_s (ns : List Int) (lo hi : Option Int) : gCut M (.scr ns) lo hi = some (.lst ((cutD ns lo hi).map .int)) := rfl
@[simp] theorem gLen_l (ds : List D) : gLen M [.lst ds] = some (.int ds.length) := rfl
@[simp] theorem gLen_t (ds : List D) : gLen M [.tup ds] = some (.int ds.length) := rfl
@[simp] theorem gLen_s (ns : List Int) : gLen M [.scr ns] = some (.int ns.length) := rfl
@[simp] theorem gListOf_ (x : D) : gListOf M [x] = (vS M x).map .lst := rfl
@[simp] theorem gSum_ (x : D) : gSum M [x] = (vL M x).bind fun ds => (intsOf ds).map fun ns => .int ns.sum := rfl
@[simp] theorem gAll_ (x : D) : gAll M [x] = (vL M x).bind fun ds => (blsOf ds).map fun ns => .bl (ns.all id) := rfl
@[simp] theorem gAdd_ll (a b : List D) : gAdd M (.lst a) (.lst b) = if a.length + b.length ≤ 1000000 then some (.lst (a ++ b)) else none := rfl
@[simp] theorem gIntOf_i (i : Int) : gIntOf M [.int i] = some (.int i) := rfl
@[simp] theorem gIntOf_b (k : Bool) : gIntOf M [.bl k] = some (.int (if k then 1 else 0)) := rfl
@[simp] theorem kApp_ (ds : List D) (y : D) : kApp (.lst ds) [y] = if ds.length < 1000000 then some (.lst (ds ++ [y])) else none := rfl
@[simp] theorem kPut_li (ds : List D) (i : Int) (d : D) : kPut (.lst ds) (.int i) d = (ixN ds.length i).map fun j => .lst (ds.set j d) := rfl
@[simp] theorem pEnd_ (d : D) : pEnd (.ret d M) = if locFree d = true then some (.val d) else withLoc M d fun _ c => if locFree c = true then some (.fresh c) else none := rfl
@[simp] theorem brw_loc (n : Nat) : brw M (.loc n) = match M[n]? with
  | some (some c) => if locFree c = true then some c else none
  | _ => none := rfl
@[simp] theorem brw_lst (ds : List D) : brw M (.lst ds) = if locFrees ds = true then some (.lst ds) else none := rfl
@[simp] theorem brw_tup (ds : List D) : brw M (.tup ds) = if locFrees ds = true then some (.tup ds) else none := rfl
@[simp] theorem brw_int (i : Int) : brw M (.int i) = some (.int i) := rfl
@[simp] theorem brw_str (i : Str) : brw M (.str i) = some (.str i) := rfl
@[simp] theorem brw_bl (i : Bool) : brw M (.bl i) = some (.bl i) := rfl
@[simp] theorem brw_non : brw M .non = some .non := rfl
@[simp] theorem brw_asc (k : AK) (kvs : List (DK × D)) : brw M (.asc k kvs) = if locFreeA kvs = true then some (.asc k kvs) else none := rfl
@[simp] theorem brws_nil : brws M [] = some [] := rfl
@[simp] theorem brws_cons (d : D) (r : List D) : brws M (d :: r) = (brw M d).bind fun x => (brws M r).bind fun xs => some (x :: xs) := rfl
@[simp] theorem cleanP_v (d : D) : cleanP (.val d) = clean d := rfl
@[simp] theorem cleanP_l (ds : List D) : cleanP (.fresh (.lst ds)) = cleans ds := rfl
@[simp] theorem cleanP_a (k : AK) (kvs : List (DK × D)) : cleanP (.fresh (.asc k kvs)) = cleanA kvs := rfl
@[simp] theorem clean_tup (ds : List D) : clean (.tup ds) = cleans ds := rfl
@[simp] theorem clean_str (z : Str) : clean (.str z) = true := rfl
@[simp] theorem clean_non : clean .non = true := rfl
@[simp] theorem cleans_nil : cleans [] = true := rfl
@[simp] theorem cleans_cons (d : D) (r : List D) : cleans (d :: r) = (clean d && cleans r) := rfl
@[simp] theorem clean_bl (b : Bool) : clean (.bl b) = true := rfl
@[simp] theorem clean_int (b : Int) : clean (.int b) = true := rfl
@[simp] theorem PR_v (d : D) : PR.d (.val d) = d := rfl
@[simp] theorem PR_f (d : D) : PR.d (.fresh d) = d := rfl
@[simp] theorem locFrees_nil : locFrees [] = true := rfl
@[simp] theorem locFrees_cons (d : D) (r : List D) : locFrees (d :: r) = (locFree d && locFrees r) := rfl
@[simp] theorem locFree_int (i : Int) : locFree (.int i) = true := rfl
@[simp] theorem locFree_str (i : Str) : locFree (.str i) = true := rfl
@[simp] theorem locFree_bl (i : Bool) : locFree (.bl i) = true := rfl
@[simp] theorem locFree_non : locFree .non = true := rfl
@[simp] theorem locFree_scr (i : List Int) : locFree (.scr i) = true := rfl
@[simp] theorem locFree_tup (ds : List D) : locFree (.tup ds) = locFrees ds := rfl
@[simp] theorem locFree_lst (ds : List D) : locFree (.lst ds) = locFrees ds := rfl
@[simp] theorem locFree_loc (n : Nat) : locFree (.loc n) = false := rfl
@[simp] theorem locFree_asc (k : AK) (kvs : List (DK × D)) : locFree (.asc k kvs) = locFreeA kvs := rfl
end
theorem locFrees_all (ds : List D) : locFrees ds = ds.all locFree := by
  induction ds with
  | nil => rfl
  | cons d r ih => rw [locFrees_cons, ih]; rfl
@[simp] theorem locFrees_map {α : Type} (f : α → D) (h : ∀ a, locFree (f a) = true) (l : List α) : locFrees (l.map f) = true := by
  rw [locFrees_all, List.all_map, List.all_eq_true]
  exact fun x _ => h x
@[simp] theorem locFrees_ints (l : List Int) : locFrees (l.map .int) = true := locFrees_map _ (fun _ => rfl) l
@[simp] theorem locFrees_append (a b : List D) : locFrees (a ++ b) = (locFrees a && locFrees b) := by
  rw [locFrees_all, locFrees_all, locFrees_all, List.all_append]
theorem cleans_all (ds : List D) : cleans ds = ds.all clean := by
  induction ds with
  | nil => rfl
  | cons d r ih => show (clean d && cleans r) = _; rw [ih]; rfl
theorem cleans_map {α : Type} (f : α → D) (h : ∀ a, clean (f a) = true) (l : List α) : cleans (l.map f) = true := by
  rw [cleans_all, List.all_map, List.all_eq_true]
  exact fun x _ => h x
@[simp] theorem intsOf_map (l : List Int) : intsOf (l.map .int) = some l := by
  induction l with
  | nil => rfl
  | cons x r ih => rw [List.map_cons]; show (intsOf (r.map .int)).map (x :: ·) = _; rw [ih]; rfl
@[simp] theorem blsOf_map (l : List Bool) : blsOf (l.map .bl) = some l := by
  induction l with
  | nil => rfl
  | cons x r ih => rw [List.map_cons]; show (blsOf (r.map .bl)).map (x :: ·) = _; rw [ih]; rfl
theorem cutD_map {α β : Type} (f : α → β) (l : List α) (lo hi : Option Int) : cutD (l.map f) lo hi = (cutD l lo hi).map f := by
  unfold cutD
  rw [List.length_map, List.map_take, List.map_drop]
theorem numOk_of {i : Int} (h1 : -1000000000000000000000000000000000000000000000000000000000000 < i) (h2 : i < 1000000000000000000000000000000000000000000000000000000000000) : numOk i = true := decide_eq_true ⟨h1, h2⟩
theorem atI_map {α β : Type} (f : α → β) (l : List α) (i : Int) : atI (l.map f) i = (atI l i).map f := by
  unfold atI
  rw [List.length_map]
  cases ixN l.length i with
  | none => rfl
  | some j => exact List.getElem?_map
theorem atI_in {α : Type} {l : List α} {i : Int} (h0 : 0 ≤ i) (h1 : i < l.length) : ∃ a, atI l i = some a ∧ l[i.toNat]? = some a := by
  have : i.toNat < l.length := by omega
  refine ⟨l[i.toNat], ?_, by simp [this]⟩
  unfold atI ixN
  rw [if_pos h0, if_pos h1]
  simp [this]
end G
set_option Elab.async false
set_option linter.all false
set_option maxRecDepth 100000
set_option maxHeartbeats 4000000
namespace G
open PySem PySem.Spec PyProof.Rows L2
/-! ### memory -/
section
variable {α : Type}
@[simp] theorem mget0 (M L : List α) : (M ++ L)[M.length]? = L[0]? := by
  rw [List.getElem?_append_right (Nat.le_refl _), Nat.sub_self]
@[simp] theorem mgetk (M L : List α) (k : Nat) : (M ++ L)[M.length + k]? = L[k]? := by
  rw [List.getElem?_append_right (by omega), show M.length + k - M.length = k by omega]
@[simp] theorem mset0 (M L : List α) (a : α) : (M ++ L).set M.length a = M ++ L.set 0 a := by
  rw [List.set_append_right _ _ (Nat.le_refl _), Nat.sub_self]
@[simp] theorem msetk (M L : List α) (k : Nat) (a : α) : (M ++ L).set (M.length + k) a = M ++ L.set k a := by
  rw [List.set_append_right _ _ (by omega), show M.length + k - M.length = k by omega]
end
/-! ### where a turn, a loop or a part of a def leads -/
structure NxTo (P : Sl → Mem → Prop) (o : Option Out) : Prop where
  ex : ∃ Γ M, o = some (.nx Γ M) ∧ P Γ M
@[simp] theorem NxTo_nx (P : Sl → Mem → Prop) (Γ : Sl) (M : Mem) : NxTo P (some (.nx Γ M)) = P Γ M := propext ⟨fun h => by
  obtain ⟨Γ1, M1, e, h⟩ := h.ex
  cases e
  exact h, fun h => ⟨Γ, M, rfl, h⟩⟩
theorem NxTo.of {P : Sl → Mem → Prop} {o : Option Out} {Γ : Sl} {M : Mem} (e : o = some (.nx Γ M)) (h : P Γ M) : NxTo P o := ⟨Γ, M, e, h⟩
theorem loop_to {g : Gx} {kl : List Nat} {b : Sx} (Inv : Nat → Sl → Mem → Prop) (xs : List D) (Γ : Sl) (M : Mem) (h : Inv 0 Γ M) (hs : ∀ i d Γ M, xs[i]? = some d → i < xs.length → Inv i Γ M → NxTo (Inv (i + 1)) (turnF g kl b d Γ M)) : NxTo (Inv xs.length) (loopF g kl b xs Γ M) := by
  obtain ⟨Γ', M', e, h'⟩ := loop_inv Inv xs 0 Γ M h fun i d Γ M e hI => by
    rw [Nat.zero_add] at hI ⊢
    exact (hs i d Γ M e (List.getElem?_eq_some_iff.mp e).1 hI).ex
  rw [Nat.zero_add] at h'
  exact .of e h'
@[simp] theorem numOk_lit (n : Nat) : numOk (no_index (OfNat.ofNat n : Int)) = decide (n < 1000000000000000000000000000000000000000000000000000000000000) := by
  unfold numOk
  show decide ((-1000000000000000000000000000000000000000000000000000000000000 : Int) < ((OfNat.ofNat n : Nat) : Int) ∧ ((OfNat.ofNat n : Nat) : Int) < 1000000000000000000000000000000000000000000000000000000000000) = decide (n < 1000000000000000000000000000000000000000000000000000000000000)
  congr 1
  apply propext
  show ((-1000000000000000000000000000000000000000000000000000000000000 : Int) < (n : Int) ∧ (n : Int) < 1000000000000000000000000000000000000000000000000000000000000) ↔ _
  omega
@[simp] theorem numOk_neg (i : Int) : numOk (-i) = numOk i := by
  unfold numOk
  congr 1
  apply propext
  omega
example : numOk 1000000007 = true := by simp
theorem seq_nx {a b : Sx} {Γ Γ1 : Sl} {M M1 : Mem} (h : a Γ M = some (.nx Γ1 M1)) : sSeq a b Γ M = b Γ1 M1 := by
  rw [ap_sSeq, h]; rfl
theorem run_rt {N : Nat} {s : Sx} {ds : List D} {M M1 : Mem} {d : D} (h : s (ds.map some ++ List.replicate (N - ds.length) none) M = some (.rt d M1)) : runB N s ds M = some (.ret d M1) := by
  unfold runB
  rw [h]; rfl
theorem run_nx {N : Nat} {s : Sx} {ds : List D} {M M1 : Mem} {Γ : Sl} (h : s (ds.map some ++ List.replicate (N - ds.length) none) M = some (.nx Γ M1)) : runB N s ds M = some (.ret .non M1) := by
  unfold runB
  rw [h]; rfl
theorem pRun_v {I : Fx} {ds : List D} {d : D} {M : Mem} (h : I ds [] = some (.ret d M)) (hd : locFree d = true) : pRun I ds = some (.val d) := by
  unfold pRun
  rw [h, Option.bind_some, pEnd_, if_pos hd]
theorem pRun_f {I : Fx} {ds : List D} {d : D} {n : Nat} {M : Mem} (h : I ds [] = some (.ret (.loc n) M)) (hm : M[n]? = some (some d)) (hd : locFree d = true) : pRun I ds = some (.fresh d) := by
  unfold pRun
  rw [h, Option.bind_some, pEnd_, locFree_loc, if_neg (by decide), ap_withLoc, hm]
  exact if_pos hd
/-! ### cuts -/
theorem cutD_up {α : Type} (xs : List α) (b : Nat) : cutD xs none (some (b : Int)) = xs.take b := by
  unfold cutD
  rw [HT.sIx_none, HT.sIx_nat, List.drop_zero, Nat.sub_zero, ← List.take_eq_take_min]
theorem cutD_up' {α : Type} (xs : List α) (b : Int) (h : 0 ≤ b) : cutD xs none (some b) = xs.take b.toNat := by
  have := cutD_up xs b.toNat
  rw [Int.toNat_of_nonneg h] at this
  exact this
theorem cutD_mid {α : Type} (xs : List α) (a b : Nat) : cutD xs (some (a : Int)) (some (b : Int)) = (xs.drop a).take (b - a) := by
  unfold cutD
  rw [HT.sIx_nat, HT.sIx_nat]
  by_cases h : a ≤ xs.length
  · rw [Nat.min_eq_left h]
    by_cases h2 : b ≤ xs.length
    · rw [Nat.min_eq_left h2]
    · rw [Nat.min_eq_right (by omega), List.take_of_length_le (by simp), List.take_of_length_le (by rw [List.length_drop]; omega)]
  · rw [List.drop_eq_nil_of_le (by omega), List.drop_eq_nil_of_le (by omega)]
    simp
theorem cutD_mid' {α : Type} (xs : List α) (a b : Int) (h : 0 ≤ a) (h2 : 0 ≤ b) : cutD xs (some a) (some b) = (xs.drop a.toNat).take (b.toNat - a.toNat) := by
  have := cutD_mid xs a.toNat b.toNat
  rw [Int.toNat_of_nonneg h, Int.toNat_of_nonneg h2] at this
  exact this
/-! ### what is like itself -/
def selfOk : Nat → D → Bool
  | _, .int _ => true
  | n + 1, .lst ds => decide (ds.length < 1000000) && ds.all (selfOk n)
  | n + 1, .tup ds => decide (ds.length < 1000000) && ds.all (selfOk n)
  | _, _ => false
/-! ### kinds -/
section
variable {M : Mem}
@[simp] theorem isTy_NoneType_int : isTy "NoneType" "int" = some false := by decide +kernel
@[simp] theorem isTy_NoneType_bool : isTy "NoneType" "bool" = some false := by decide +kernel
@[simp] theorem isTy_NoneType_str : isTy "NoneType" "str" = some false := by decide +kernel
@[simp] theorem isTy_NoneType_tuple : isTy "NoneType" "tuple" = some false := by decide +kernel
@[simp] theorem isTy_NoneType_list : isTy "NoneType" "list" = some false := by decide +kernel
@[simp] theorem isTy_NoneType_dict : isTy "NoneType" "dict" = some false := by decide +kernel
@[simp] theorem isTy_bool_int : isTy "bool" "int" = some true := by decide +kernel
@[simp] theorem isTy_bool_bool : isTy "bool" "bool" = some true := by decide +kernel
@[simp] theorem isTy_bool_str : isTy "bool" "str" = some false := by decide +kernel
@[simp] theorem isTy_bool_tuple : isTy "bool" "tuple" = some false := by decide +kernel
@[simp] theorem isTy_bool_list : isTy "bool" "list" = some false := by decide +kernel
@[simp] theorem isTy_bool_dict : isTy "bool" "dict" = some false := by decide +kernel
@[simp] theorem isTy_int_int : isTy "int" "int" = some true := by decide +kernel
@[simp] theorem isTy_int_bool : isTy "int" "bool" = some false := by decide +kernel
@[simp] theorem isTy_int_str : isTy "int" "str" = some false := by decide +kernel
@[simp] theorem isTy_int_tuple : isTy "int" "tuple" = some false := by decide +kernel
@[simp] theorem isTy_int_list : isTy "int" "list" = some false := by decide +kernel
@[simp] theorem isTy_int_dict : isTy "int" "dict" = some false := by decide +kernel
@[simp] theorem isTy_str_int : isTy "str" "int" = some false := by decide +kernel
@[simp] theorem isTy_str_bool : isTy "str" "bool" = some false := by decide +kernel
@[simp] theorem isTy_str_str : isTy "str" "str" = some true := by decide +kernel
@[simp] theorem isTy_str_tuple : isTy "str" "tuple" = some false := by decide +kernel
@[simp] theorem isTy_str_list : isTy "str" "list" = some false := by decide +kernel
@[simp] theorem isTy_str_dict : isTy "str" "dict" = some false := by decide +kernel
@[simp] theorem isTy_tuple_int : isTy "tuple" "int" = some false := by decide +kernel
@[simp] theorem isTy_tuple_bool : isTy "tuple" "bool" = some false := by decide +kernel
@[simp] theorem isTy_tuple_str : isTy "tuple" "str" = some false := by decide +kernel
@[simp] theorem isTy_tuple_tuple : isTy "tuple" "tuple" = some true := by decide +kernel
@[simp] theorem isTy_tuple_list : isTy "tuple" "list" = some false := by decide +kernel
@[simp] theorem isTy_tuple_dict : isTy "tuple" "dict" = some false := by decide +kernel
@[simp] theorem isTy_list_int : isTy "list" "int" = some false := by decide +kernel
@[simp] theorem isTy_list_bool : isTy "list" "bool" = some false := by decide +kernel
@[simp] theorem isTy_list_str : isTy "list" "str" = some false := by decide +kernel
@[simp] theorem isTy_list_tuple : isTy "list" "tuple" = some false := by decide +kernel
@[simp] theorem isTy_list_list : isTy "list" "list" = some true := by decide +kernel
@[simp] theorem isTy_list_dict : isTy "list" "dict" = some false := by decide +kernel
@[simp] theorem isTy_dict_int : isTy "dict" "int" = some false := by decide +kernel
@[simp] theorem isTy_dict_bool : isTy "dict" "bool" = some false := by decide +kernel
@[simp] theorem isTy_dict_str : isTy "dict" "str" = some false := by decide +kernel
@[simp] theorem isTy_dict_tuple : isTy "dict" "tuple" = some false := by decide +kernel
@[simp] theorem isTy_dict_list : isTy "dict" "list" = some false := by decide +kernel
@[simp] theorem isTy_dict_dict : isTy "dict" "dict" = some true := by decide +kernel
@[simp] theorem tyName_NoneType : tyName M .non = some "NoneType" := rfl
@[simp] theorem tyName_bool {k : Bool} : tyName M (.bl k) = some "bool" := rfl
@[simp] theorem tyName_int {i : Int} : tyName M (.int i) = some "int" := rfl
@[simp] theorem tyName_str {z : Str} : tyName M (.str z) = some "str" := rfl
@[simp] theorem tyName_tuple_t {ds : List D} : tyName M (.tup ds) = some "tuple" := rfl
@[simp] theorem tyName_list {ds : List D} : tyName M (.lst ds) = some "list" := rfl
@[simp] theorem tyName_list_s {ns : List Int} : tyName M (.scr ns) = some "list" := rfl
@[simp] theorem tyName_dict {kv : List (DK × D)} : tyName M (.asc .k kv) = some "dict" := rfl
@[simp] theorem tyName_dict_t {kv : List (DK × D)} : tyName M (.asc .t kv) = some "dict" := rfl
@[simp] theorem gIsI_ty (x : D) (b : String) : gIsI M [x, .ty b] = (tyName M x).bind fun a => (isTy a b).map .bl := rfl
@[simp] theorem gIsI_tup (x : D) (ts : List D) : gIsI M [x, .tup ts] = (tyName M x).bind fun a => (tysOf ts).bind fun bs => (isTys a bs).map .bl := rfl
@[simp] theorem tysOf_nil : tysOf [] = some [] := rfl
@[simp] theorem tysOf_cons (b : String) (r : List D) : tysOf (.ty b :: r) = (tysOf r).map (b :: ·) := rfl
@[simp] theorem isTys_nil (a : String) : isTys a [] = some false := rfl
@[simp] theorem isTys_cons (a b : String) (r : List String) : isTys a (b :: r) = (isTy a b).bind fun k => (isTys a r).map fun l => k || l := rfl
end
theorem selfOk_locFree : ∀ (n : Nat) (d : D), selfOk n d = true → locFree d = true := by
  intro n
  induction n with
  | zero => intro d h; cases d <;> first | rfl | cases h
  | succ n ih =>
    intro d h
    cases d with
    | int i => rfl
    | lst ds =>
      rw [locFree_lst, locFrees_all, List.all_eq_true]
      exact fun d hd => ih d (List.all_eq_true.mp (Bool.and_eq_true_iff.mp h).2 d hd)
    | tup ds =>
      rw [locFree_tup, locFrees_all, List.all_eq_true]
      exact fun d hd => ih d (List.all_eq_true.mp (Bool.and_eq_true_iff.mp h).2 d hd)
    | _ => cases h
theorem getIn {ds : List Int} {i : Nat} (h : i < ds.length) : ∃ d, ds[i]? = some d ∧ d ∈ ds := ⟨ds[i], by simp [h], List.getElem_mem h⟩
theorem at_ {ds : List Int} {i : Nat} {a : Int} (h : ds[i]? = some a) : atI (ds.map D.int) (i : Int) = some (.int a) := by
  obtain ⟨x, e1, e2⟩ := atI_in (l := ds) (i := (i : Int)) (by omega) (by have := (List.getElem?_eq_some_iff.mp h).1; omega)
  rw [atI_map, e1]
  rw [Int.toNat_natCast, h] at e2
  cases e2
  rfl
theorem pick4 (a b c d : Int) {i : Int} (h : 0 ≤ i ∧ i < 4) : ∃ m : Int, (m = a ∨ m = b ∨ m = c ∨ m = d) ∧ atI [D.int a, .int b, .int c, .int d] i = some (.int m) := by
  have : i = 0 ∨ i = 1 ∨ i = 2 ∨ i = 3 := by omega
  rcases this with e | e | e | e <;> subst e
  · exact ⟨a, .inl rfl, rfl⟩
  · exact ⟨b, .inr (.inl rfl), rfl⟩
  · exact ⟨c, .inr (.inr (.inl rfl)), rfl⟩
  · exact ⟨d, .inr (.inr (.inr rfl)), rfl⟩
theorem ixN_in {n : Nat} {i : Int} (h0 : 0 ≤ i) (h1 : i < n) : ixN n i = some i.toNat := by
  unfold ixN
  rw [if_pos h0, if_pos h1]
theorem sum_nn : ∀ ts : List Int, (∀ x ∈ ts, 0 ≤ x) → 0 ≤ ts.sum := by
  intro ts
  induction ts with
  | nil => intro _; exact Int.le_refl _
  | cons x r ih =>
    intro h
    rw [List.sum_cons]
    have := h x List.mem_cons_self
    have := ih fun z hz => h z (List.mem_cons_of_mem _ hz)
    omega
theorem sum_pos : ∀ (ts : List Int) (x : Int), (∀ x ∈ ts, 0 ≤ x) → x ∈ ts → x ≤ ts.sum := by
  intro ts
  induction ts with
  | nil => intro x _ h; exact (List.not_mem_nil h).elim
  | cons y r ih =>
    intro x h hx
    rw [List.sum_cons]
    have h0 := h y List.mem_cons_self
    have hr := sum_nn r fun z hz => h z (List.mem_cons_of_mem _ hz)
    rcases List.mem_cons.mp hx with rfl | hx
    · omega
    · have := ih x (fun z hz => h z (List.mem_cons_of_mem _ hz)) hx
      omega
theorem sum_le : ∀ (ts : List Int) (b : Int), (∀ x ∈ ts, x ≤ b) → ts.sum ≤ b * ts.length := by
  intro ts b
  induction ts with
  | nil => intro _; simp
  | cons y r ih =>
    intro h
    rw [List.sum_cons, List.length_cons, Int.natCast_add, Int.mul_add]
    have h0 := h y List.mem_cons_self
    have := ih fun z hz => h z (List.mem_cons_of_mem _ hz)
    omega
/-! ### tables -/
theorem item_ks (M : Mem) (kvs : List (DK × D)) (z : Str) : gItem M (.asc .k kvs) (.str z) = getA kvs (.s z) := rfl
theorem item_ki (M : Mem) (kvs : List (DK × D)) (z : Int) : gItem M (.asc .k kvs) (.int z) = getA kvs (.i z) := rfl
theorem item_loc_k {M : Mem} {n : Nat} {kvs : List (DK × D)} {k : Key} {y : D} (h : M[n]? = some (some (.asc .k kvs))) (hy : kyOf y = some k) : gItem M (.loc n) y = getA kvs (ofKey k) := by
  have h1 : vS M (.loc n) = none := by rw [vS_loc, h]
  have h2 : vK M (.loc n) = some kvs := by
    show (match M[n]? with
      | some (some (.asc .k kvs)) => some kvs
      | _ => none) = _
    rw [h]
  have e : gItem M (.loc n) y = (gGet M (.loc n) y).join := by
    cases y <;> first | (show (match vS M (.loc n) with | some ds => _ | none => _) = _; rw [h1]) | cases hy
  rw [e]
  unfold gGet
  rw [h2, hy]
  rfl
theorem item_loc_s {M : Mem} {n : Nat} {kvs : List (DK × D)} {z : Str} (h : M[n]? = some (some (.asc .k kvs))) : gItem M (.loc n) (.str z) = getA kvs (.s z) := item_loc_k (k := .inr z) h rfl
theorem item_loc_i {M : Mem} {n : Nat} {kvs : List (DK × D)} {z : Int} (h : M[n]? = some (some (.asc .k kvs))) : gItem M (.loc n) (.int z) = getA kvs (.i z) := item_loc_k (k := .inl z) h rfl
theorem item_loc_t {M : Mem} {n : Nat} {kvs : List (DK × D)} {ds : List D} {ks : List Key} (h : M[n]? = some (some (.asc .t kvs))) (hk : keysOf ds = some ks) : gItem M (.loc n) (.tup ds) = getA kvs (.t ks) := by
  have h1 : vS M (.loc n) = none := by rw [vS_loc, h]
  have h2 : vK M (.loc n) = none := by
    show (match M[n]? with
      | some (some (.asc .k kvs)) => some kvs
      | _ => none) = _
    rw [h]
  have h3 : vT M (.loc n) = some kvs := by
    show (match M[n]? with
      | some (some (.asc .t kvs)) => some kvs
      | _ => none) = _
    rw [h]
  show (match vS M (.loc n) with | some ds => _ | none => (gGet M (.loc n) (.tup ds)).join) = _
  rw [h1]
  show (gGet M (.loc n) (.tup ds)).join = _
  unfold gGet
  rw [h2, h3]
  show ((keysOf ds).map fun ks => getA kvs (.t ks)).join = _
  rw [hk]
  rfl
theorem kPut_s (kvs : List (DK × D)) (z : Str) (d : D) : kPut (.asc .k kvs) (.str z) d = if kvs.length < 1000000 then some (.asc .k (putA kvs (.s z) d)) else none := rfl
theorem kPut_i (kvs : List (DK × D)) (z : Int) (d : D) : kPut (.asc .k kvs) (.int z) d = if kvs.length < 1000000 then some (.asc .k (putA kvs (.i z) d)) else none := rfl
theorem kPut_t (kvs : List (DK × D)) (ds : List D) (d : D) : kPut (.asc .t kvs) (.tup ds) d = (keysOf ds).bind fun k => if kvs.length < 1000000 then some (.asc .t (putA kvs (.t k) d)) else none := rfl
theorem kPutK_s (kvs : List (DK × D)) (z : Str) (d : D) : kPutK (.asc .k kvs) (.str z) d = if kvs.length < 1000000 then some (.asc .k (putA kvs (.s z) d)) else none := rfl
theorem getA_map_same (k : DK) (d : D) : ∀ kvs : List (DK × D), (kvs.any fun kv => decide (kv.1 = k)) = true → getA (kvs.map fun kv => if kv.1 = k then (kv.1, d) else kv) k = some d
  | [], h => by cases h
  | (j, x) :: r, h => by
    rw [List.map_cons]
    by_cases e : j = k
    · rw [if_pos e]
      show (if j = k then some d else _) = _
      rw [if_pos e]
    · rw [if_neg e]
      show (if j = k then some x else _) = _
      rw [if_neg e]
      refine getA_map_same k d r ?_
      rw [List.any_cons, decide_eq_false e, Bool.false_or] at h
      exact h
theorem getA_map_other {k j : DK} (d : D) (hj : j ≠ k) : ∀ kvs : List (DK × D), getA (kvs.map fun kv => if kv.1 = k then (kv.1, d) else kv) j = getA kvs j
  | [] => rfl
  | (i, x) :: r => by
    rw [List.map_cons]
    by_cases e : i = k
    · rw [if_pos e]
      show (if i = j then some d else getA _ j) = if i = j then some x else getA r j
      rw [if_neg (fun z => hj (z.symm.trans e)), if_neg (fun z => hj (z.symm.trans e)), getA_map_other d hj r]
    · rw [if_neg e]
      show (if i = j then some x else getA _ j) = if i = j then some x else getA r j
      rw [getA_map_other d hj r]
theorem getA_append {k : DK} (b : List (DK × D)) : ∀ a : List (DK × D), getA (a ++ b) k = (getA a k).or (getA b k)
  | [] => rfl
  | (i, x) :: r => by
    show (if i = k then some x else getA (r ++ b) k) = (if i = k then some x else getA r k).or _
    by_cases e : i = k
    · rw [if_pos e, if_pos e]; rfl
    · rw [if_neg e, if_neg e, getA_append b r]
theorem getA_none_of {k : DK} : ∀ kvs : List (DK × D), ¬ (kvs.any fun kv => decide (kv.1 = k)) = true → getA kvs k = none
  | [], _ => rfl
  | (i, x) :: r, h => by
    rw [List.any_cons, Bool.or_eq_true, not_or] at h
    show (if i = k then some x else getA r k) = none
    rw [if_neg (fun z => h.1 (decide_eq_true z)), getA_none_of r h.2]
theorem getA_put_same (kvs : List (DK × D)) (k : DK) (d : D) : getA (putA kvs k d) k = some d := by
  unfold putA
  split
  · exact getA_map_same k d kvs (by assumption)
  · rw [getA_append, getA_none_of kvs (by assumption)]
    show (none : Option D).or (if k = k then some d else none) = _
    rw [if_pos rfl]; rfl
theorem getA_put_other (kvs : List (DK × D)) {k j : DK} (d : D) (h : j ≠ k) : getA (putA kvs k d) j = getA kvs j := by
  unfold putA
  split
  · exact getA_map_other d h kvs
  · rw [getA_append]
    show (getA kvs j).or (if k = j then some d else none) = _
    rw [if_neg (Ne.symm h)]
    cases getA kvs j <;> rfl
theorem putA_len (kvs : List (DK × D)) (k : DK) (d : D) : (putA kvs k d).length ≤ kvs.length + 1 := by
  unfold putA
  split
  · rw [List.length_map]; omega
  · rw [List.length_append]; exact Nat.le_refl _
theorem putA_mem {kvs : List (DK × D)} {k : DK} {d : D} {p : DK × D} (h : p ∈ putA kvs k d) : p ∈ kvs ∨ p = (k, d) := by
  unfold putA at h
  split at h
  · obtain ⟨q, h1, h2⟩ := List.mem_map.mp h
    by_cases e : q.1 = k
    · rw [if_pos e] at h2
      exact .inr (by rw [← h2, e])
    · rw [if_neg e] at h2
      exact .inl (h2 ▸ h1)
  · rcases List.mem_append.mp h with h | h
    · exact .inl h
    · exact .inr (List.mem_singleton.mp h)
theorem getA_mem {kvs : List (DK × D)} {k : DK} {d : D} (h : getA kvs k = some d) : (k, d) ∈ kvs := by
  induction kvs with
  | nil => cases h
  | cons p r ih =>
    obtain ⟨i, x⟩ := p
    by_cases e : i = k
    · have h' : (if i = k then some x else getA r k) = some d := h
      rw [if_pos e] at h'
      cases h'
      rw [e]; exact List.mem_cons_self
    · have h' : (if i = k then some x else getA r k) = some d := h
      rw [if_neg e] at h'
      exact List.mem_cons_of_mem _ (ih h')
theorem locFreeA_all (kvs : List (DK × D)) : locFreeA kvs = kvs.all fun p => locFree p.2 := by
  induction kvs with
  | nil => rfl
  | cons p r ih =>
    obtain ⟨k, d⟩ := p
    show (locFree d && locFreeA r) = _
    rw [ih]; rfl
theorem locFreeA_of {kvs : List (DK × D)} (h : ∀ p ∈ kvs, locFree p.2 = true) : locFreeA kvs = true := by
  rw [locFreeA_all, List.all_eq_true]; exact h
/-! ### what equals itself -/
def eqOk : Nat → D → Bool
  | _, .int _ => true
  | _, .non => true
  | _, .bl _ => true
  | _, .str x => PyData.strOk x
  | n + 1, .lst ds => ds.all (eqOk n)
  | n + 1, .tup ds => ds.all (eqOk n)
  | _, _ => false
theorem eqOk_all {n : Nat} (ih : ∀ d : D, eqOk n d = true → ∃ p : PyData, pdF d = some p ∧ p.canLay0 = true ∧ p.depth ≤ n) : ∀ ds : List D, ds.all (eqOk n) = true → ∃ ps, pdFs ds = some ps ∧ PyData.canLayAll0 ps = true ∧ PyData.depthAll ps ≤ n
  | [], _ => ⟨[], by simp [pdFs], rfl, Nat.zero_le _⟩
  | d :: ds, h => by
    obtain ⟨h1, h2⟩ := Bool.and_eq_true_iff.mp (show (eqOk n d && ds.all (eqOk n)) = true from h)
    obtain ⟨p, a1, a2, a3⟩ := ih d h1
    obtain ⟨ps, b1, b2, b3⟩ := eqOk_all ih ds h2
    refine ⟨p :: ps, by simp [pdFs, a1, b1], ?_, ?_⟩
    · rw [PyData.canLayAll0, a2, b2]; rfl
    · rw [PyData.depthAll]; omega
theorem eqOk_pd : ∀ (n : Nat) (d : D), eqOk n d = true → ∃ p : PyData, pdF d = some p ∧ p.canLay0 = true ∧ p.depth ≤ n := by
  intro n
  induction n with
  | zero =>
    intro d h
    cases d with
    | int i => exact ⟨.int i, by simp [pdF], rfl, Nat.le_refl _⟩
    | non => exact ⟨.none, by simp [pdF], rfl, Nat.le_refl _⟩
    | bl b => exact ⟨.bool b, by simp [pdF], rfl, Nat.le_refl _⟩
    | str x => exact ⟨.str x, by simp [pdF], h, Nat.le_refl _⟩
    | _ => cases h
  | succ n ih =>
    intro d h
    cases d with
    | int i => exact ⟨.int i, by simp [pdF], rfl, Nat.zero_le _⟩
    | non => exact ⟨.none, by simp [pdF], rfl, Nat.zero_le _⟩
    | bl b => exact ⟨.bool b, by simp [pdF], rfl, Nat.zero_le _⟩
    | str x => exact ⟨.str x, by simp [pdF], h, Nat.zero_le _⟩
    | lst ds =>
      obtain ⟨ps, a1, a2, a3⟩ := eqOk_all ih ds h
      exact ⟨.list ps, by simp [pdF, a1], a2, by rw [PyData.depth]; omega⟩
    | tup ds =>
      obtain ⟨ps, a1, a2, a3⟩ := eqOk_all ih ds h
      exact ⟨.tuple ps, by simp [pdF, a1], a2, by rw [PyData.depth]; omega⟩
    | _ => cases h
theorem gEqB_self {M : Mem} (d : D) (h : eqOk 60 d = true) : gEqB M d d = some true := by
  obtain ⟨p, h1, h2, h3⟩ := eqOk_pd 60 d h
  have hs : SeqAt.shaped p = true := Bool.and_eq_true_iff.mpr ⟨h2, decide_eq_true (by omega)⟩
  have he : PyData.eqv p p = true := SeqAt.eqv_refl p h2
  cases d with
  | int i => simp [gEqB]
  | non => rfl
  | bl b => simp [gEqB]
  | str x => simp [gEqB]
  | lst ds => simp [gEqB, pd, h1, hs, he]
  | tup ds => simp [gEqB, pd, h1, hs, he]
  | _ => cases h
theorem gEq_self {M : Mem} (d : D) (h : eqOk 60 d = true) : gEq M d d = some (.bl true) := by rw [gEq, gEqB_self d h]; rfl
theorem gNe_self {M : Mem} (d : D) (h : eqOk 60 d = true) : gNe M d d = some (.bl false) := by rw [gNe, gEqB_self d h]; rfl
theorem gEqB_loc {M : Mem} {n : Nat} {ds es : List D} (hm : M[n]? = some (some (.lst ds))) : gEqB M (.loc n) (.lst es) = gEqB M (.lst ds) (.lst es) := by
  show ((pd M (.loc n)).bind fun a => _) = (pd M (.lst ds)).bind fun a => _
  have : pd M (.loc n) = pd M (.lst ds) := by
    show (match M[n]? with
      | some (some (.lst ds)) => (pdFs ds).map PyData.list
      | _ => none) = _
    rw [hm]
    simp only [pd, pdF]
  rw [this]
theorem gNe_loc_self {M : Mem} {n : Nat} {ds : List D} (hm : M[n]? = some (some (.lst ds))) (h : eqOk 60 (.lst ds) = true) : gNe M (.loc n) (.lst ds) = some (.bl false) := by
  rw [gNe, gEqB_loc hm, gEqB_self _ h]; rfl
theorem gEq_loc_self {M : Mem} {n : Nat} {ds : List D} (hm : M[n]? = some (some (.lst ds))) (h : eqOk 60 (.lst ds) = true) : gEq M (.loc n) (.lst ds) = some (.bl true) := by
  rw [gEq, gEqB_loc hm, gEqB_self _ h]; rfl
theorem eqOk_ints (n : Nat) (ts : List Int) : eqOk (n + 1) (.lst (ts.map .int)) = true := by
  show (ts.map D.int).all (eqOk n) = true
  rw [List.all_eq_true]
  intro d hd
  obtain ⟨i, -, rfl⟩ := List.mem_map.mp hd
  cases n <;> rfl
/-- the number that a law draws from a number -/
def mixF (n k : Int) : Int := (((n % 1000000007 + 7 * k + 1) * 48271 % 2147483647) * (((n % 1000000007 + 7 * k + 1) * 48271 % 2147483647) % 1009 + k + 3)) % 998244353
theorem mixF_lo (n k : Int) : 0 ≤ mixF n k := Int.emod_nonneg _ (by decide)
theorem mixF_hi (n k : Int) : mixF n k < 998244353 := Int.emod_lt_of_pos _ (by decide)
theorem rngL_get {lo : Int} {n i : Nat} {d : D} (h : (rngL lo n)[i]? = some d) : i < n ∧ d = .int (lo + (i : Nat)) := by
  unfold rngL at h
  rw [List.getElem?_map] at h
  obtain ⟨j, h1, h2⟩ := Option.map_eq_some_iff.mp h
  obtain ⟨h3, h4⟩ := List.getElem?_eq_some_iff.mp h1
  rw [List.length_range] at h3
  rw [List.getElem_range] at h4
  subst h4
  exact ⟨h3, h2.symm⟩
theorem rngC_get {c : Int} {n i : Nat} {d : D} (h : (rngC c n)[i]? = some d) : i < n ∧ d = .int ((i : Int) * c) := by
  unfold rngC at h
  rw [List.getElem?_map] at h
  obtain ⟨j, h1, h2⟩ := Option.map_eq_some_iff.mp h
  obtain ⟨h3, h4⟩ := List.getElem?_eq_some_iff.mp h1
  rw [List.length_range] at h3
  rw [List.getElem_range] at h4
  subst h4
  rw [Int.zero_add] at h2
  exact ⟨h3, h2.symm⟩
@[simp] theorem rngC_len (c : Int) (n : Nat) : (rngC c n).length = n := by simp [rngC]
@[simp] theorem rngL_len (lo : Int) (n : Nat) : (rngL lo n).length = n := by simp [rngL]
end G
set_option Elab.async false
set_option linter.all false
set_option maxRecDepth 100000
set_option maxHeartbeats 4000000
open PySem L2 G
/-- risen(figures, before, after) -/
def S_risen : Sx :=
  sRet (xBin gMod (xBin gSub (xVar 2) (xVar 1)) (xCall gIntOf (xAcons (xBin gAdd (xC (.str "1")) (xBin gMul (xC (.str "0")) (xVar 0))) (xAnil))))
def I_risen : Fx := runB 3 S_risen
def P_risen : List D → Option PR := pRun I_risen
abbrev B_uses_1 : Sx :=
  sSeq (sSet 3 (xBin gItem (xVar 0) (xBin gSub (xVar 2) (xC (.int 1)))))
    (sSeq (sSet 4 (xBin gItem (xVar 0) (xVar 2)))
    (sMut kApp (xVar 1) (xAcons (xTup (xAcons (xBin gItem (xVar 3) (xC (.int 0))) (xAcons (xBin gItem (xVar 4) (xC (.int 0))) (xAcons (xCallP P_risen (xAcons (xBin gItem (xVar 3) (xC (.int 3))) (xAcons (xBin gItem (xVar 3) (xC (.int 2))) (xAcons (xBin gItem (xVar 4) (xC (.int 1))) (xAnil))))) (xAnil))))) (xAnil))))
/-- uses(marks, found, k, before, after) -/
def S_uses : Sx :=
  sSeq (sNew 1 (xLst (xAnil)))
    (sSeq (sFor (gxName 2) [2, 3, 4] (ixR2 (xAcons (xC (.int 1)) (xAcons (xCall gLen (xAcons (xVar 0) (xAnil))) (xAnil))))
    (B_uses_1))
    (sRet (xVar 1)))
def I_uses : Fx := runB 5 S_uses
def P_uses : List D → Option PR := pRun I_uses
/-- _law_cell_at(_law_script, _law_k) -/
def S_law_cell_at : Sx :=
  sSeq (sIf (tVal (xBin gLt (xVar 1) (xCall gLen (xAcons (xVar 0) (xAnil)))))
    (sRet (xBin gItem (xVar 0) (xVar 1)))
    (sNext))
    (sRet (xC (.int 0)))
def I_law_cell_at : Fx := runB 2 S_law_cell_at
def P_law_cell_at : List D → Option PR := pRun I_law_cell_at
/-- _law_mixed(_law_number, _law_k, _law_once) -/
def S_law_mixed : Sx :=
  sSeq (sSet 2 (xBin gMod (xBin gMul (xBin gAdd (xBin gAdd (xBin gMod (xVar 0) (xC (.int 1000000007))) (xBin gMul (xC (.int 7)) (xVar 1))) (xC (.int 1))) (xC (.int 48271))) (xC (.int 2147483647))))
    (sRet (xBin gMod (xBin gMul (xVar 2) (xBin gAdd (xBin gAdd (xBin gMod (xVar 2) (xC (.int 1009))) (xVar 1)) (xC (.int 3)))) (xC (.int 998244353))))
def I_law_mixed : Fx := runB 3 S_law_mixed
def P_law_mixed : List D → Option PR := pRun I_law_mixed
abbrev B_law_draws_1 : Sx :=
  sIf (tVal (xBin gEq (xBin gMod (xVar 0) (xC (.int 2))) (xC (.int 0))))
    (sSeq (sMut kApp (xVar 3) (xAcons (xBin gMod (xVar 4) (xVar 2)) (xAnil)))
    (sSet 4 (xBin gDiv (xVar 4) (xVar 2))))
    (sMut kApp (xVar 3) (xAcons (xBin gMod (xCallP P_law_mixed (xAcons (xCallP P_law_mixed (xAcons (xVar 0) (xAcons (xVar 5) (xAnil)))) (xAcons (xC (.int 3)) (xAnil)))) (xVar 2)) (xAnil)))
/-- _law_draws(_law_cell, _law_many, _law_size, _law_found, _law_left, _law_k) -/
def S_law_draws : Sx :=
  sSeq (sNew 3 (xLst (xAnil)))
    (sSeq (sSet 4 (xBin gDiv (xVar 0) (xC (.int 2))))
    (sSeq (sFor (gxName 5) [5] (ixR1 (xAcons (xVar 1) (xAnil)))
    (B_law_draws_1))
    (sRet (xVar 3))))
def I_law_draws : Fx := runB 6 S_law_draws
def P_law_draws : List D → Option PR := pRun I_law_draws
abbrev B_law_weights_1 : Sx :=
  sPut (xVar 3) (xTup (xAcons (xVar 5) (xAcons (xBin gItem (xVar 6) (xC (.int 0))) (xAnil)))) (xBin gItem (xLst (xAcons (xC (.int 0)) (xAcons (xC (.int 1)) (xAcons (xC (.int 2)) (xAcons (xC (.int 7)) (xAcons (xC (.int 99)) (xAnil))))))) (xBin gMod (xBin gItem (xVar 2) (xBin gAdd (xBin gMul (xC (.int 4)) (xVar 4)) (xVar 7))) (xC (.int 5))))
abbrev B_law_weights_2 : Sx :=
  sSeq (sSet 8 (xLc (gxName 9) [9] (ixL (xVar 1)) (tVal (xBin gEq (xBin gItem (xVar 9) (xC (.int 1))) (xBin gItem (xVar 6) (xC (.int 1))))) (xBin gItem (xVar 3) (xTup (xAcons (xVar 5) (xAcons (xBin gItem (xVar 9) (xC (.int 0))) (xAnil)))))))
    (sIf (tVal (xBin gEq (xCall gMax (xAcons (xVar 8) (xAnil))) (xC (.int 0))))
    (sPut (xVar 3) (xTup (xAcons (xVar 5) (xAcons (xBin gItem (xVar 6) (xC (.int 0))) (xAnil)))) (xBin gAdd (xC (.int 1)) (xBin gMod (xBin gDiv (xBin gItem (xVar 2) (xBin gAdd (xBin gMul (xC (.int 4)) (xVar 4)) (xVar 7))) (xC (.int 5))) (xC (.int 3)))))
    (sNext))
abbrev B_law_weights_3 : Sx :=
  sSeq (sFor (gxTup 2 (gxCons (gxName 7) (gxCons (gxName 6) (gxNil)))) [6, 7] (ixE (xAcons (xVar 1) (xAnil)))
    (B_law_weights_1))
    (sFor (gxTup 2 (gxCons (gxName 7) (gxCons (gxName 6) (gxNil)))) [6, 7, 8] (ixE (xAcons (xVar 1) (xAnil)))
    (B_law_weights_2))
/-- _law_weights(_law_kinds, _law_bands, _law_draws_here, _law_found, _law_i, _law_kind, _law_band, _law_k, _law_some, _law_other) -/
def S_law_weights : Sx :=
  sSeq (sNew 3 (xNewT))
    (sSeq (sFor (gxTup 2 (gxCons (gxName 4) (gxCons (gxName 5) (gxNil)))) [4, 5, 6, 7, 8] (ixE (xAcons (xVar 0) (xAnil)))
    (B_law_weights_3))
    (sRet (xVar 3)))
def I_law_weights : Fx := runB 10 S_law_weights
def P_law_weights : List D → Option PR := pRun I_law_weights
abbrev B_law_prices_1 : Sx :=
  sSeq (sSet 8 (xBin gItem (xVar 2) (xBin gAdd (xBin gMul (xC (.int 4)) (xVar 4)) (xVar 7))))
    (sPut (xVar 3) (xTup (xAcons (xVar 5) (xAcons (xBin gItem (xVar 6) (xC (.int 0))) (xAnil)))) (xBin gItem (xLst (xAcons (xBin gMod (xBin gDiv (xVar 8) (xC (.int 4))) (xC (.int 40))) (xAcons (xC (.int 0)) (xAcons (xBin gMul (xVar 8) (xBin gPow (xC (.int 10)) (xC (.int 7)))) (xAcons (xBin gAdd (xBin gMul (xBin gPow (xC (.int 10)) (xC (.int 11))) (xBin gMod (xVar 8) (xC (.int 10)))) (xVar 8)) (xAnil)))))) (xBin gMod (xVar 8) (xC (.int 4)))))
abbrev B_law_prices_2 : Sx :=
  sFor (gxTup 2 (gxCons (gxName 7) (gxCons (gxName 6) (gxNil)))) [6, 7, 8] (ixE (xAcons (xVar 1) (xAnil)))
    (B_law_prices_1)
/-- _law_prices(_law_kinds, _law_bands, _law_draws_here, _law_found, _law_i, _law_kind, _law_band, _law_k, _law_more) -/
def S_law_prices : Sx :=
  sSeq (sNew 3 (xNewT))
    (sSeq (sFor (gxTup 2 (gxCons (gxName 4) (gxCons (gxName 5) (gxNil)))) [4, 5, 6, 7, 8] (ixE (xAcons (xVar 0) (xAnil)))
    (B_law_prices_2))
    (sRet (xVar 3)))
def I_law_prices : Fx := runB 9 S_law_prices
def P_law_prices : List D → Option PR := pRun I_law_prices
/-- _law_words(_law_number, _law_plain, _law_rows, _law_longer) -/
def S_law_words : Sx :=
  sSeq (sSet 1 (xLst (xAcons (xC (.str "work")) (xAcons (xC (.str "free")) (xAcons (xC (.str "feast")) (xAcons (xC (.str "odd")) (xAcons (xC (.str "day")) (xAcons (xC (.str "night")) (xAcons (xC (.str "peak")) (xAcons (xC (.str "low")) (xAcons (xC (.str "main")) (xAcons (xC (.str "heat")) (xAcons (xC (.str "water")) (xAcons (xC (.str "gas")) (xAnil)))))))))))))))
    (sSeq (sSet 2 (xLst (xAcons (xC (.str "week")) (xAcons (xC (.str "k")) (xAcons (xC (.str "standing")) (xAcons (xC (.str "special")) (xAcons (xC (.str "b")) (xAcons (xC (.str "rate")) (xAcons (xC (.str "counters")) (xAcons (xC (.str "step")) (xAcons (xC (.str "band")) (xAcons (xC (.str "c")) (xAcons (xC (.str "month")) (xAcons (xC (.str "ha")) (xAnil)))))))))))))))
    (sSeq (sSet 3 (xLst (xAcons (xC (.str "holidays")) (xAcons (xC (.str "ab")) (xAcons (xC (.str "workdays")) (xAcons (xC (.str "kept")) (xAcons (xC (.str "morning")) (xAcons (xC (.str "by")) (xAcons (xC (.str "evenings")) (xAcons (xC (.str "nights")) (xAnil)))))))))))
    (sSeq (sSet 3 (xBin gAdd (xVar 3) (xLst (xAcons (xC (.str "kitchen")) (xAcons (xC (.str "g")) (xAcons (xC (.str "upstairs")) (xAcons (xC (.str "ox")) (xAnil))))))))
    (sRet (xBin gItem (xLst (xAcons (xVar 1) (xAcons (xVar 2) (xAcons (xVar 3) (xAnil))))) (xBin gMod (xVar 0) (xC (.int 3))))))))
def I_law_words : Fx := runB 4 S_law_words
def P_law_words : List D → Option PR := pRun I_law_words
abbrev B_law_steps_1 : Sx :=
  sSeq (sSet 2 (xBin gAdd (xBin gAdd (xBin gAdd (xVar 2) (xC (.int 1))) (xBin gMod (xBin gItem (xVar 1) (xBin gAdd (xC (.int 6)) (xVar 4))) (xBin gItem (xLst (xAcons (xC (.int 6)) (xAcons (xC (.int 60)) (xAnil)))) (xBin gMod (xBin gItem (xVar 1) (xBin gAdd (xC (.int 10)) (xVar 4))) (xC (.int 2)))))) (xBin gMul (xBin gPow (xC (.int 10)) (xC (.int 11))) (xCall gIntOf (xAcons (xBin gEq (xBin gMod (xBin gItem (xVar 1) (xBin gAdd (xC (.int 6)) (xVar 4))) (xC (.int 11))) (xC (.int 5))) (xAnil))))))
    (sMut kApp (xVar 3) (xAcons (xTup (xAcons (xVar 2) (xAcons (xBin gAdd (xBin gMod (xBin gDiv (xBin gItem (xVar 1) (xBin gAdd (xC (.int 10)) (xVar 4))) (xC (.int 2))) (xC (.int 9))) (xBin gMul (xBin gPow (xC (.int 10)) (xC (.int 11))) (xCall gIntOf (xAcons (xBin gEq (xBin gMod (xBin gItem (xVar 1) (xBin gAdd (xC (.int 10)) (xVar 4))) (xC (.int 13))) (xC (.int 4))) (xAnil))))) (xAnil)))) (xAnil)))
/-- _law_steps(_law_many, _law_draws_here, _law_units, _law_found, _law_k) -/
def S_law_steps : Sx :=
  sSeq (sSet 2 (xC (.int 0)))
    (sSeq (sNew 3 (xLst (xAnil)))
    (sSeq (sFor (gxName 4) [4] (ixR1 (xAcons (xVar 0) (xAnil)))
    (B_law_steps_1))
    (sRet (xVar 3))))
def I_law_steps : Fx := runB 5 S_law_steps
def P_law_steps : List D → Option PR := pRun I_law_steps
abbrev B_law_parts_1 : Sx :=
  sPut (xBin gItem (xVar 6) (xC (.str "special"))) (xBin gMod (xBin gItem (xVar 3) (xVar 7)) (xBin gItem (xLst (xAcons (xC (.int 8)) (xAcons (xC (.int 60)) (xAcons (xC (.int 401)) (xAnil))))) (xBin gMod (xBin gDiv (xBin gItem (xVar 3) (xVar 7)) (xC (.int 60))) (xC (.int 3))))) (xBin gItem (xLst (xAcons (xBin gItem (xVar 4) (xC (.int 2))) (xAcons (xBin gItem (xVar 4) (xC (.int 3))) (xAcons (xBin gItem (xVar 4) (xC (.int 0))) (xAnil))))) (xBin gMod (xBin gItem (xVar 3) (xBin gAdd (xVar 7) (xC (.int 3)))) (xC (.int 3))))
abbrev B_law_parts_2 : Sx :=
  sIf (tVal (xBin gNotIn (xVar 9) (xVar 8)))
    (sMut kApp (xVar 8) (xAcons (xVar 9) (xAnil)))
    (sNext)
abbrev B_law_parts_3 : Sx :=
  sMut kApp (xVar 10) (xAcons (xTup (xAcons (xBin gItem (xVar 4) (xBin gAdd (xC (.int 4)) (xVar 7))) (xAcons (xBin gItem (xVar 4) (xBin gAdd (xC (.int 8)) (xBin gMod (xBin gItem (xVar 1) (xBin gAdd (xC (.int 10)) (xVar 7))) (xBin gItem (xLst (xAcons (xC (.int 2)) (xAcons (xC (.int 4)) (xAnil)))) (xBin gMod (xBin gItem (xVar 1) (xC (.int 18))) (xC (.int 2))))))) (xAnil)))) (xAnil))
abbrev B_law_parts_4 : Sx :=
  sIf (tVal (xBin gNotIn (xBin gItem (xVar 11) (xC (.int 1))) (xBin gItem (xVar 6) (xC (.str "figures")))))
    (sSeq (sPut (xBin gItem (xVar 6) (xC (.str "figures"))) (xBin gItem (xVar 11) (xC (.int 1))) (xBin gAdd (xC (.int 1)) (xBin gMod (xBin gItem (xVar 3) (xBin gAdd (xC (.int 14)) (xVar 7))) (xC (.int 9)))))
    (sPut (xBin gItem (xVar 6) (xC (.str "rises"))) (xBin gItem (xVar 11) (xC (.int 1))) (xBin gItem (xLst (xAcons (xBin gAdd (xC (.int 1)) (xBin gMod (xBin gItem (xVar 3) (xVar 7)) (xC (.int 30)))) (xAcons (xBin gPow (xC (.int 10)) (xC (.int 9))) (xAnil)))) (xBin gMod (xBin gDiv (xBin gItem (xVar 3) (xBin gAdd (xC (.int 14)) (xVar 7))) (xC (.int 9))) (xC (.int 2))))))
    (sNext)
/-- _law_parts(_law_cell, _law_first, _law_second, _law_third, _law_words_here, _law_some, _law_parts_here, _law_k, _law_kinds, _law_kind, _law_bands, _law_band, _law_one, _law_day) -/
def S_law_parts : Sx :=
  sSeq (sSet 1 (xCallP P_law_draws (xAcons (xVar 0) (xAcons (xC (.int 20)) (xAcons (xC (.int 60)) (xAnil))))))
    (sSeq (sSet 2 (xCallP P_law_draws (xAcons (xCallP P_law_mixed (xAcons (xVar 0) (xAcons (xC (.int 70)) (xAnil)))) (xAcons (xC (.int 16)) (xAcons (xC (.int 420)) (xAnil))))))
    (sSeq (sSet 3 (xCallP P_law_draws (xAcons (xBin gAdd (xC (.int 1)) (xBin gMul (xC (.int 2)) (xCallP P_law_mixed (xAcons (xVar 0) (xAcons (xC (.int 71)) (xAnil)))))) (xAcons (xC (.int 20)) (xAcons (xC (.int 420)) (xAnil))))))
    (sSeq (sSet 4 (xCallP P_law_words (xAcons (xBin gItem (xVar 1) (xC (.int 17))) (xAnil))))
    (sSeq (sSet 5 (xSlice gCut (xVar 4) (oNone) (oSome (xBin gAdd (xC (.int 1)) (xBin gMod (xBin gItem (xVar 1) (xC (.int 0))) (xC (.int 3)))))))
    (sSeq (sNewDN 6 (kxCons (.inr "week") (xLc (gxName 12) [12] (ixL (xSlice gCut (xVar 1) (oSome (xC (.int 1))) (oSome (xC (.int 8))))) (tYes_) (xBin gItem (xVar 5) (xBin gMod (xVar 12) (xCall gLen (xAcons (xVar 5) (xAnil)))))) (kxNil)) (.inr "special"))
    (sSeq (sFrzK 6 (.s "special") (sFor (gxName 7) [7] (ixR1 (xAcons (xBin gItem (xLst (xAcons (xC (.int 0)) (xAcons (xC (.int 1)) (xAcons (xC (.int 2)) (xAcons (xC (.int 1)) (xAcons (xC (.int 2)) (xAcons (xC (.int 12)) (xAnil)))))))) (xBin gMod (xBin gItem (xVar 1) (xC (.int 8))) (xC (.int 6)))) (xAnil)))
    (B_law_parts_1)))
    (sSeq (sNew 8 (xLst (xAnil)))
    (sSeq (sFrz 8 (sFor (gxName 9) [9] (ixL (xBin gAdd (xBin gItem (xVar 6) (xC (.str "week"))) (xLc (gxName 13) [13] (ixL (xCall gSort (xAcons (xBin gItem (xVar 6) (xC (.str "special"))) (xAnil)))) (tYes_) (xBin gItem (xBin gItem (xVar 6) (xC (.str "special"))) (xVar 13)))))
    (B_law_parts_2)))
    (sSeq (sNew 10 (xLst (xAnil)))
    (sSeq (sFrz 10 (sFor (gxName 7) [7] (ixR1 (xAcons (xBin gAdd (xC (.int 1)) (xBin gMod (xBin gItem (xVar 1) (xC (.int 9))) (xC (.int 4)))) (xAnil)))
    (B_law_parts_3)))
    (sSeq (sPut (xVar 6) (xC (.str "bands")) (xVar 10))
    (sSeq (sPut (xVar 6) (xC (.str "weights")) (xCallP P_law_weights (xAcons (xVar 8) (xAcons (xVar 10) (xAcons (xVar 2) (xAnil))))))
    (sSeq (sPut (xVar 6) (xC (.str "prices")) (xCallP P_law_prices (xAcons (xVar 8) (xAcons (xVar 10) (xAcons (xVar 3) (xAnil))))))
    (sSeq (sPut (xVar 6) (xC (.str "steps")) (xCallP P_law_steps (xAcons (xBin gMod (xBin gItem (xVar 1) (xC (.int 14))) (xC (.int 5))) (xAcons (xVar 3) (xAnil)))))
    (sSeq (sPut (xVar 6) (xC (.str "standing")) (xBin gAdd (xBin gItem (xVar 1) (xC (.int 15))) (xBin gMul (xBin gPow (xC (.int 10)) (xC (.int 11))) (xCall gIntOf (xAcons (xBin gEq (xBin gMod (xBin gItem (xVar 1) (xC (.int 19))) (xC (.int 7))) (xC (.int 3))) (xAnil))))))
    (sSeq (sPut (xVar 6) (xC (.str "month")) (xBin gAdd (xC (.int 1)) (xBin gMod (xBin gItem (xVar 1) (xC (.int 16))) (xC (.int 31)))))
    (sSeq (sPutN (xVar 6) (xC (.str "figures")) (xNewK))
    (sSeq (sPutN (xVar 6) (xC (.str "rises")) (xNewK))
    (sSeq (sFrzK 6 (.s "rises") (sFrzK 6 (.s "figures") (sFor (gxTup 2 (gxCons (gxName 7) (gxCons (gxName 11) (gxNil)))) [7, 11] (ixE (xAcons (xVar 10) (xAnil)))
    (B_law_parts_4))))
    (sRet (xVar 6)))))))))))))))))))))
def I_law_parts : Fx := runB 14 S_law_parts
def P_law_parts : List D → Option PR := pRun I_law_parts
/-- _law_round(_law_figures,) -/
def S_law_round : Sx :=
  sRet (xCall gIntOf (xAcons (xBin gAdd (xC (.str "1")) (xBin gMul (xC (.str "0")) (xVar 0))) (xAnil)))
def I_law_round : Fx := runB 1 S_law_round
def P_law_round : List D → Option PR := pRun I_law_round
abbrev B_law_marks_1 : Sx :=
  sSeq (sSet 9 (xBin gItem (xVar 3) (xBin gSub (xBin gAdd (xC (.int 3)) (xBin gMul (xC (.int 3)) (xVar 8))) (xBin gMul (xC (.int 3)) (xBin gDiv (xVar 8) (xC (.int 7)))))))
    (sSeq (sSet 10 (xBin gItem (xLst (xAcons (xBin gMod (xVar 9) (xC (.int 5))) (xAcons (xVar 9) (xAcons (xBin gMul (xVar 9) (xBin gPow (xC (.int 10)) (xC (.int 6)))) (xAcons (xBin gSub (xCallP P_law_round (xAcons (xVar 4) (xAnil))) (xC (.int 1))) (xAnil)))))) (xBin gMod (xBin gDiv (xVar 9) (xC (.int 5))) (xC (.int 4)))))
    (sSeq (sSet 11 (xBin gMod (xBin gAdd (xVar 6) (xVar 10)) (xCallP P_law_round (xAcons (xVar 4) (xAnil)))))
    (sSeq (sSet 6 (xVar 11))
    (sSeq (sIf (tVal (xBin gEq (xBin gMod (xVar 9) (xC (.int 7))) (xC (.int 3))))
    (sSeq (sSet 4 (xBin gAdd (xC (.int 1)) (xBin gMod (xBin gItem (xVar 3) (xBin gAdd (xC (.int 4)) (xVar 8))) (xC (.int 9)))))
    (sSet 6 (xBin gMod (xBin gMul (xBin gItem (xVar 3) (xBin gAdd (xC (.int 5)) (xVar 8))) (xC (.int 7))) (xCallP P_law_round (xAcons (xVar 4) (xAnil))))))
    (sNext))
    (sSeq (sMut kApp (xVar 7) (xAcons (xTup (xAcons (xVar 5) (xAcons (xVar 11) (xAcons (xVar 6) (xAcons (xVar 4) (xAnil)))))) (xAnil)))
    (sSet 5 (xBin gAdd (xBin gAdd (xVar 5) (xC (.int 1))) (xBin gMod (xBin gItem (xVar 3) (xBin gAdd (xC (.int 6)) (xVar 8))) (xBin gItem (xLst (xAcons (xC (.int 3)) (xAcons (xC (.int 17)) (xAnil)))) (xBin gMod (xVar 9) (xC (.int 2))))))))))))
/-- _law_marks(_law_cell, _law_parts_here, _law_counter, _law_draws_here, _law_figures, _law_day, _law_shown, _law_found, _law_k, _law_more, _law_use, _law_arrived) -/
def S_law_marks : Sx :=
  sSeq (sSet 3 (xCallP P_law_draws (xAcons (xVar 0) (xAcons (xC (.int 24)) (xAcons (xC (.int 420)) (xAnil))))))
    (sSeq (sSet 4 (xBin gItem (xBin gItem (xVar 1) (xC (.str "figures"))) (xVar 2)))
    (sSeq (sSet 5 (xBin gMod (xBin gItem (xVar 3) (xC (.int 0))) (xC (.int 10))))
    (sSeq (sSet 6 (xBin gMod (xBin gMul (xBin gItem (xVar 3) (xC (.int 1))) (xC (.int 1000003))) (xCallP P_law_round (xAcons (xVar 4) (xAnil)))))
    (sSeq (sNew 7 (xLst (xAnil)))
    (sSeq (sFor (gxName 8) [8, 9, 10, 11] (ixR1 (xAcons (xBin gMod (xBin gItem (xVar 3) (xC (.int 2))) (xC (.int 8))) (xAnil)))
    (B_law_marks_1))
    (sRet (xVar 7)))))))
def I_law_marks : Fx := runB 12 S_law_marks
def P_law_marks : List D → Option PR := pRun I_law_marks
abbrev B_law_beyond_1 : Sx :=
  sSeq (sSet 5 (xCallP P_law_round (xAcons (xBin gItem (xVar 4) (xC (.int 3))) (xAnil))))
    (sSeq (sSet 6 (xBin gAdd (xBin gItem (xVar 4) (xC (.int 1))) (xBin gMul (xVar 5) (xBin gMod (xBin gAdd (xVar 1) (xVar 3)) (xC (.int 3))))))
    (sSeq (sSet 7 (xBin gAdd (xBin gItem (xVar 4) (xC (.int 2))) (xBin gMul (xVar 5) (xBin gMod (xBin gAdd (xVar 1) (xBin gMul (xC (.int 2)) (xVar 3))) (xC (.int 2))))))
    (sIf (tVal (xBin gLt (xCall gMax (xAcons (xVar 6) (xAcons (xVar 7) (xAnil)))) (xBin gPow (xC (.int 10)) (xC (.int 9)))))
    (sMut kApp (xVar 2) (xAcons (xTup (xAcons (xBin gItem (xVar 4) (xC (.int 0))) (xAcons (xVar 6) (xAcons (xVar 7) (xAcons (xBin gItem (xVar 4) (xC (.int 3))) (xAnil)))))) (xAnil)))
    (sMut kApp (xVar 2) (xAcons (xVar 4) (xAnil))))))
/-- _law_beyond(_law_marks_here, _law_number, _law_found, _law_k, _law_mark, _law_more, _law_arrived, _law_begun) -/
def S_law_beyond : Sx :=
  sSeq (sNew 2 (xLst (xAnil)))
    (sSeq (sFor (gxTup 2 (gxCons (gxName 3) (gxCons (gxName 4) (gxNil)))) [3, 4, 5, 6, 7] (ixE (xAcons (xVar 0) (xAnil)))
    (B_law_beyond_1))
    (sRet (xVar 2)))
def I_law_beyond : Fx := runB 8 S_law_beyond
def P_law_beyond : List D → Option PR := pRun I_law_beyond
/-- _law_whole(_law_found,) -/
def S_law_whole : Sx :=
  sRet (xAnd (xCall gIsI (xAcons (xVar 0) (xAcons (xC (.ty "int")) (xAnil)))) (xNot (xCall gIsI (xAcons (xVar 0) (xAcons (xC (.ty "bool")) (xAnil))))))
def I_law_whole : Fx := runB 1 S_law_whole
def P_law_whole : List D → Option PR := pRun I_law_whole
/-- _law_risen_right(_law_cell, _law_number, _law_figures, _law_round_of, _law_one, _law_other, _law_found) -/
def S_law_risen_right : Sx :=
  sSeq (sSet 1 (xCallP P_law_mixed (xAcons (xVar 0) (xAcons (xC (.int 5)) (xAnil)))))
    (sSeq (sSet 2 (xBin gAdd (xC (.int 1)) (xBin gMod (xVar 1) (xC (.int 9)))))
    (sSeq (sSet 3 (xCallP P_law_round (xAcons (xVar 2) (xAnil))))
    (sSeq (sSet 4 (xBin gItem (xLst (xAcons (xBin gMod (xVar 0) (xBin gPow (xC (.int 10)) (xC (.int 9)))) (xAcons (xBin gSub (xVar 3) (xC (.int 1))) (xAcons (xC (.int 0)) (xAcons (xBin gMod (xBin gDiv (xVar 1) (xC (.int 9))) (xC (.int 100))) (xAnil)))))) (xBin gMod (xBin gDiv (xVar 1) (xC (.int 9))) (xC (.int 4)))))
    (sSeq (sSet 5 (xBin gItem (xLst (xAcons (xBin gMod (xBin gMul (xVar 1) (xC (.int 7))) (xBin gPow (xC (.int 10)) (xC (.int 9)))) (xAcons (xVar 4) (xAcons (xBin gMod (xBin gAdd (xVar 4) (xC (.int 1))) (xBin gPow (xC (.int 10)) (xC (.int 9)))) (xAcons (xBin gSub (xBin gPow (xC (.int 10)) (xC (.int 9))) (xC (.int 1))) (xAcons (xBin gMod (xBin gDiv (xVar 0) (xBin gPow (xC (.int 10)) (xC (.int 9)))) (xBin gPow (xC (.int 10)) (xC (.int 9)))) (xAnil))))))) (xBin gMod (xBin gDiv (xVar 1) (xC (.int 36))) (xC (.int 5)))))
    (sSeq (sSet 6 (xCallP P_risen (xAcons (xVar 2) (xAcons (xVar 4) (xAcons (xVar 5) (xAnil))))))
    (sSeq (sIf (tOr (tNot (tVal (xCallP P_law_whole (xAcons (xVar 6) (xAnil))))) (tOr (tVal (xBin gLt (xVar 6) (xC (.int 0)))) (tVal (xBin gGe (xVar 6) (xVar 3)))))
    (sRet (xC (.bl false)))
    (sNext))
    (sRet (xBin gEq (xBin gMod (xBin gSub (xBin gAdd (xVar 4) (xVar 6)) (xVar 5)) (xVar 3)) (xC (.int 0))))))))))
def I_law_risen_right : Fx := runB 7 S_law_risen_right
def P_law_risen_right : List D → Option PR := pRun I_law_risen_right
abbrev B_law_told_right_1 : Sx :=
  sSeq (sPar 4 3 (xAcons (xBin gItem (xVar 1) (xVar 2)) (xAcons (xBin gItem (xVar 1) (xBin gAdd (xVar 2) (xC (.int 1)))) (xAnil))))
    (sSeq (sIf (tOr (tNot (tVal (xCall gIsI (xAcons (xBin gItem (xVar 0) (xVar 2)) (xAcons (xC (.ty "tuple")) (xAnil)))))) (tOr (tVal (xBin gNe (xCall gLen (xAcons (xBin gItem (xVar 0) (xVar 2)) (xAnil))) (xC (.int 3)))) (tNot (tVal (xCall gAll (xAcons (xLc (gxName 5) [5] (ixL (xBin gItem (xVar 0) (xVar 2))) (tYes_) (xCallP P_law_whole (xAcons (xVar 5) (xAnil)))) (xAnil)))))))
    (sRet (xC (.bl false)))
    (sNext))
    (sSeq (sIf (tOr (tVal (xBin gNe (xSlice gCut (xBin gItem (xVar 0) (xVar 2)) (oNone) (oSome (xC (.int 2)))) (xTup (xAcons (xBin gItem (xVar 4) (xC (.int 0))) (xAcons (xBin gItem (xVar 3) (xC (.int 0))) (xAnil)))))) (tNot (tVal (xChain gLe gLt (xC (.int 0)) (xBin gItem (xBin gItem (xVar 0) (xVar 2)) (xC (.int 2))) (xCallP P_law_round (xAcons (xBin gItem (xVar 4) (xC (.int 3))) (xAnil)))))))
    (sRet (xC (.bl false)))
    (sNext))
    (sIf (tVal (xBin gNe (xBin gMod (xBin gSub (xBin gAdd (xBin gItem (xVar 4) (xC (.int 2))) (xBin gItem (xBin gItem (xVar 0) (xVar 2)) (xC (.int 2)))) (xBin gItem (xVar 3) (xC (.int 1)))) (xCallP P_law_round (xAcons (xBin gItem (xVar 4) (xC (.int 3))) (xAnil)))) (xC (.int 0))))
    (sRet (xC (.bl false)))
    (sNext))))
/-- _law_told_right(_law_told, _law_marks_here, _law_k, _law_after, _law_before, _law_one) -/
def S_law_told_right : Sx :=
  sSeq (sIf (tOr (tNot (tVal (xCall gIsI (xAcons (xVar 0) (xAcons (xC (.ty "list")) (xAnil)))))) (tVal (xBin gNe (xCall gLen (xAcons (xVar 0) (xAnil))) (xCall gMax (xAcons (xC (.int 0)) (xAcons (xBin gSub (xCall gLen (xAcons (xVar 1) (xAnil))) (xC (.int 1))) (xAnil)))))))
    (sRet (xC (.bl false)))
    (sNext))
    (sSeq (sFor (gxName 2) [2, 3, 4] (ixR1 (xAcons (xCall gLen (xAcons (xVar 0) (xAnil))) (xAnil)))
    (B_law_told_right_1))
    (sRet (xC (.bl true))))
def I_law_told_right : Fx := runB 6 S_law_told_right
def P_law_told_right : List D → Option PR := pRun I_law_told_right
abbrev B_law_1 : Sx :=
  sIf (tNot (tVal (xCallP P_law_risen_right (xAcons (xVar 1) (xAnil)))))
    (sRet (xC (.bl false)))
    (sNext)
abbrev B_law_2 : Sx :=
  sSeq (sSet 4 (xBin gItem (xBin gItem (xBin gItem (xVar 2) (xC (.str "bands"))) (xBin gMod (xVar 3) (xCall gLen (xAcons (xBin gItem (xVar 2) (xC (.str "bands"))) (xAnil))))) (xC (.int 1))))
    (sSeq (sSet 5 (xCallP P_law_marks (xAcons (xVar 1) (xAcons (xVar 2) (xAcons (xVar 4) (xAnil))))))
    (sSeq (sIf (tVal (xBin gEq (xBin gMod (xVar 3) (xC (.int 3))) (xC (.int 1))))
    (sSet 5 (xCallP P_law_beyond (xAcons (xVar 5) (xAcons (xVar 3) (xAnil)))))
    (sNext))
    (sSeq (sSet 6 (xCall gListOf (xAcons (xVar 5) (xAnil))))
    (sSeq (sNew 7 (xCallN P_uses (xAcons (xVar 6) (xAnil))))
    (sSeq (sIf (tOr (tVal (xBin gNe (xVar 6) (xVar 5))) (tNot (tVal (xCallL P_law_told_right (xAcons (xVar 7) (xAcons (xVar 5) (xAnil)))))))
    (sRet (xC (.bl false)))
    (sNext))
    (sSeq (sMut kApp (xVar 7) (xAcons (xTup (xAcons (xC (.int 0)) (xAcons (xC (.int 0)) (xAcons (xC (.int 0)) (xAnil))))) (xAnil)))
    (sIf (tNot (tVal (xCallP P_law_told_right (xAcons (xCallP P_uses (xAcons (xVar 6) (xAnil))) (xAcons (xVar 5) (xAnil))))))
    (sRet (xC (.bl false)))
    (sNext))))))))
/-- law(_law_script, _law_cell, _law_parts_here, _law_k, _law_counter, _law_marks_here, _law_handed, _law_told) -/
def S_law : Sx :=
  sSeq (sFor (gxName 1) [1] (ixL (xBin gAdd (xLst (xAcons (xC (.int 3)) (xAnil))) (xVar 0)))
    (B_law_1))
    (sSeq (sSet 2 (xCallP P_law_parts (xAcons (xCallP P_law_cell_at (xAcons (xVar 0) (xAcons (xC (.int 0)) (xAnil)))) (xAnil))))
    (sSeq (sFor (gxTup 2 (gxCons (gxName 3) (gxCons (gxName 1) (gxNil)))) [1, 3, 4, 5, 6, 7] (ixE (xAcons (xBin gAdd (xLst (xAcons (xCallP P_law_cell_at (xAcons (xVar 0) (xAcons (xC (.int 1)) (xAnil)))) (xAnil))) (xSlice gCut (xVar 0) (oSome (xC (.int 2))) (oSome (xC (.int 12))))) (xAnil)))
    (B_law_2))
    (sRet (xC (.bl true)))))
def I_law : Fx := runB 8 S_law
def P_law : List D → Option PR := pRun I_law
set_option Elab.async false
set_option linter.all false
set_option maxRecDepth 100000
set_option maxHeartbeats 4000000
open PySem L2 G
theorem mixed_ok (n k : Int) (h : -1000000 < k ∧ k < 1000000) : P_law_mixed [.int n, .int k] = some (.val (.int (mixF n k))) := by
  have h1 : numOk (n % 1000000007 + 7 * k + 1) = true := numOk_of (by omega) (by omega)
  have h2 : numOk ((n % 1000000007 + 7 * k + 1) * 48271 % 2147483647) = true := numOk_of (by omega) (by omega)
  have h3 : numOk ((n % 1000000007 + 7 * k + 1) * 48271 % 2147483647 % 1009 + k + 3) = true := numOk_of (by omega) (by omega)
  have h4 : numOk k = true := numOk_of (by omega) (by omega)
  have h5 : numOk 7 = true := rfl
  have h6 : numOk 48271 = true := rfl
  simp -implicitDefEqProofs [P_law_mixed, pRun, I_law_mixed, runB, S_law_mixed, h1, h2, h3, h4, h5, h6, mixF]
theorem draws_ok (n : Int) (m : Nat) (sz : Int) (hm : m ≤ 1000) (h0 : 0 < sz) (h9 : numOk sz = true) : ∃ ds : List Int, ds.length = m ∧ (∀ d ∈ ds, 0 ≤ d ∧ d < sz) ∧ P_law_draws [.int n, .int m, .int sz] = some (.fresh (.lst (ds.map .int))) := by
  have hturn : ∀ (acc : List Int) (half : Int) (i : Nat), acc.length = i → i < m → (∀ d ∈ acc, 0 ≤ d ∧ d < sz) → NxTo (fun Γ M => ∃ (acc : List Int) (half : Int), acc.length = i + 1 ∧ (∀ d ∈ acc, 0 ≤ d ∧ d < sz) ∧ Γ = [some (.int n), some (.int m), some (.int sz), some (.loc 0), some (.int half), none] ∧ M = [some (.lst (acc.map .int))])
     (turnF (gxName 5) [5] B_law_draws_1 (.int (i : Nat)) [some (.int n), some (.int m), some (.int sz), some (.loc 0), some (.int half), none] [some (.lst (acc.map .int))]) := by
    intro acc half i h1 h3 h2
    have hl : acc.length < 1000000 := by omega
    have hm := mixed_ok n (i : Nat) (by omega)
    have hm2 := mixed_ok (mixF n (i : Nat)) 3 (by omega)
    have e0 := fun x : Int => Int.emod_nonneg x (show sz ≠ 0 by omega)
    have e1 := fun x : Int => Int.emod_lt_of_pos x h0
    by_cases h : n % 2 = 0
    · simp -implicitDefEqProofs [turnF, B_law_draws_1, h, hl, h9, h0]
      refine ⟨acc ++ [half % sz], by simp; omega, ?_, by simp⟩
      intro d hd
      rcases List.mem_append.mp hd with hd | hd
      · exact h2 d hd
      · cases List.mem_singleton.mp hd; exact ⟨e0 _, e1 _⟩
    · simp -implicitDefEqProofs [turnF, B_law_draws_1, h, hl, h9, h0, hm, hm2]
      refine ⟨acc ++ [mixF (mixF n i) 3 % sz], by simp; omega, ?_, by simp⟩
      intro d hd
      rcases List.mem_append.mp hd with hd | hd
      · exact h2 d hd
      · cases List.mem_singleton.mp hd; exact ⟨e0 _, e1 _⟩
  obtain ⟨Γ', M', h1, acc, half, h2, h3, rfl, rfl⟩ := (loop_to 
    (fun i Γ M => ∃ (acc : List Int) (half : Int), acc.length = i ∧ (∀ d ∈ acc, 0 ≤ d ∧ d < sz) ∧ Γ = [some (.int n), some (.int m), some (.int sz), some (.loc 0), some (.int half), none] ∧ M = [some (.lst (acc.map .int))])
    (rngL 0 m) [some (.int n), some (.int m), some (.int sz), some (.loc 0), some (.int (n / 2)), none] [some (.lst [])] ⟨[], n / 2, rfl, fun _ h => (List.not_mem_nil h).elim, rfl, rfl⟩ (by
      rintro i d Γ M hi - ⟨acc, half, h1, h2, rfl, rfl⟩
      obtain ⟨h3, rfl⟩ := rngL_get hi
      rw [Int.zero_add]
      exact hturn acc half i h1 h3 h2)).ex
  rw [rngL_len] at h2
  refine ⟨acc, h2, h3, ?_⟩
  have hn : numOk 2 = true := rfl
  have hr : (-1000000 : Int) < (m : Int) ∧ (m : Int) < 1000000 := by omega
  simp -implicitDefEqProofs [P_law_draws, pRun, I_law_draws, runB, S_law_draws, hn, h1, hr]
/-! ### ten to the figures -/
def rnd (f : Int) : Int := 10 ^ f.toNat
theorem fig_cases {f : Int} (h : 1 ≤ f ∧ f ≤ 9) : f = 1 ∨ f = 2 ∨ f = 3 ∨ f = 4 ∨ f = 5 ∨ f = 6 ∨ f = 7 ∨ f = 8 ∨ f = 9 := by omega
theorem rnd_lo {f : Int} (h : 1 ≤ f ∧ f ≤ 9) : 10 ≤ rnd f ∧ rnd f ≤ 1000000000 := by
  rcases fig_cases h with e | e | e | e | e | e | e | e | e <;> subst e <;> decide
theorem text_rnd {f : Int} (h : 1 ≤ f ∧ f ≤ 9) : PySem.intText? (("1" : Str) ++ txtRep ("0" : Str) f.toNat) = some (rnd f) ∧ (("1" : Str) ++ txtRep ("0" : Str) f.toNat).length ≤ 640 ∧ (("1" : Str).length + (txtRep ("0" : Str) f.toNat).length ≤ 1000000) := by
  rcases fig_cases h with e | e | e | e | e | e | e | e | e <;> subst e <;> decide +kernel
theorem xround {f : Int} (h : 1 ≤ f ∧ f ≤ 9) (i : Nat) (Γ : Sl) (M : Mem) (hv : xVar i Γ M = some (.int f)) : xCall gIntOf (xAcons (xBin gAdd (xC (.str "1")) (xBin gMul (xC (.str "0")) (xVar i))) xAnil) Γ M = some (.int (rnd f)) := by
  obtain ⟨h1, h2, h3⟩ := text_rnd h
  have m : gMul M (.str ("0" : Str)) (.int f) = some (.str (txtRep ("0" : Str) f.toNat)) := if_pos ⟨h.1, by omega, by decide +kernel, by decide +kernel⟩
  have a : gAdd M (.str ("1" : Str)) (.str (txtRep ("0" : Str) f.toNat)) = some (.str (("1" : Str) ++ txtRep ("0" : Str) f.toNat)) := if_pos h3
  have t : gIntOf M [.str (("1" : Str) ++ txtRep ("0" : Str) f.toNat)] = some (.int (rnd f)) := by
    show (if (("1" : Str) ++ txtRep ("0" : Str) f.toNat).length ≤ 640 then (PySem.intText? (("1" : Str) ++ txtRep ("0" : Str) f.toNat)).map D.int else none) = _
    rw [if_pos h2, h1]; rfl
  simp only [ap_xCall, ap_xAcons, ap_xBin, ap_xC, hv, ap_xAnil, Option.bind_some, m, a, t]
theorem round_ok {f : Int} (h : 1 ≤ f ∧ f ≤ 9) : P_law_round [.int f] = some (.val (.int (rnd f))) := by
  refine pRun_v (M := []) (run_rt ?_) rfl
  show (xCall gIntOf _ _ _).bind _ = _
  rw [xround h 0 _ _ rfl]; rfl
theorem risen_ok {f : Int} (h : 1 ≤ f ∧ f ≤ 9) (b a : Int) : P_risen [.int f, .int b, .int a] = some (.val (.int ((a - b) % rnd f))) := by
  have := rnd_lo h
  have h0 : 0 < rnd f := by omega
  refine pRun_v (M := []) (run_rt ?_) rfl
  show (Option.bind (Option.bind (some (D.int (a - b))) fun x => (xCall gIntOf (xAcons (xBin gAdd (xC (.str "1")) (xBin gMul (xC (.str "0")) (xVar 0))) xAnil) _ _).bind fun y => gMod [] x y) fun d => some (Out.rt d [])) = _
  rw [Option.bind_some, xround h 0 _ _ rfl, Option.bind_some, gMod_ii, if_pos h0]
  rfl
/-! ### marks -/
structure Mk4 where
  day : Int
  arr : Int
  beg : Int
  fig : Int
def Mk4.d (m : Mk4) : D := .tup [.int m.day, .int m.arr, .int m.beg, .int m.fig]
def Mk4.Ok (m : Mk4) : Prop := 1 ≤ m.fig ∧ m.fig ≤ 9
def useOf (a b : Mk4) : D := .tup [.int a.day, .int b.day, .int ((b.arr - a.beg) % rnd a.fig)]
def usesL : List Mk4 → List D
  | [] => []
  | [_] => []
  | a :: b :: r => useOf a b :: usesL (b :: r)
theorem usesL_len : ∀ ms : List Mk4, (usesL ms).length = ms.length - 1
  | [] => rfl
  | [_] => rfl
  | a :: b :: r => by
    rw [usesL, List.length_cons, usesL_len (b :: r)]
    simp
theorem usesL_get : ∀ (ms : List Mk4) (i : Nat) (a b : Mk4), ms[i]? = some a → ms[i + 1]? = some b → (usesL ms)[i]? = some (useOf a b)
  | [], _, _, _, h, _ => by simp at h
  | [_], i, _, _, _, h => by simp at h
  | x :: y :: r, 0, a, b, h, k => by
    simp at h k
    subst h k
    rfl
  | x :: y :: r, i + 1, a, b, h, k => by
    rw [usesL, List.getElem?_cons_succ]
    exact usesL_get (y :: r) i a b (by simpa using h) (by simpa using k)
theorem atN {α : Type} (f : α → D) {l : List α} {i : Nat} {a : α} (h : l[i]? = some a) : atI (l.map f) (i : Int) = some (f a) := by
  obtain ⟨x, e1, e2⟩ := atI_in (l := l) (i := (i : Int)) (by omega) (by have := (List.getElem?_eq_some_iff.mp h).1; omega)
  rw [atI_map, e1]
  rw [Int.toNat_natCast, h] at e2
  cases e2
  rfl
theorem uses_turn (ms : List Mk4) (acc : List D) (i : Nat) (a b : Mk4) (ha : ms[i]? = some a) (hb : ms[i + 1]? = some b) (ho : a.Ok) (hl : acc.length < 1000000) :
    turnF (gxName 2) [2, 3, 4] B_uses_1 (.int (1 + (i : Int))) [some (.lst (ms.map Mk4.d)), some (.loc 0), none, none, none] [some (.lst acc)] =
      some (.nx [some (.lst (ms.map Mk4.d)), some (.loc 0), none, none, none] [some (.lst (acc ++ [useOf a b]))]) := by
  have e1 : atI (ms.map Mk4.d) (1 + (i : Int) - 1) = some a.d := by
    rw [show 1 + (i : Int) - 1 = (i : Int) by omega]; exact atN Mk4.d ha
  have e2 : atI (ms.map Mk4.d) (1 + (i : Int)) = some b.d := by
    rw [show 1 + (i : Int) = ((i + 1 : Nat) : Int) by omega]; exact atN Mk4.d hb
  have r := risen_ok ho a.beg b.arr
  have a0 : atI [D.int a.day, .int a.arr, .int a.beg, .int a.fig] 0 = some (.int a.day) := rfl
  have a2 : atI [D.int a.day, .int a.arr, .int a.beg, .int a.fig] 2 = some (.int a.beg) := rfl
  have a3 : atI [D.int a.day, .int a.arr, .int a.beg, .int a.fig] 3 = some (.int a.fig) := rfl
  have b0 : atI [D.int b.day, .int b.arr, .int b.beg, .int b.fig] 0 = some (.int b.day) := rfl
  have b1 : atI [D.int b.day, .int b.arr, .int b.beg, .int b.fig] 1 = some (.int b.arr) := rfl
  simp -implicitDefEqProofs [turnF, e1, e2, Mk4.d, a0, a2, a3, b0, b1, r, hl]
  rfl
theorem uses_ok (ms : List Mk4) (ho : ∀ m ∈ ms, m.Ok) (hl : ms.length ≤ 100) : P_uses [.lst (ms.map Mk4.d)] = some (.fresh (.lst (usesL ms))) := by
  have hloop := loop_seq (g := gxName 2) (kl := [2, 3, 4]) (b := B_uses_1) (rngL 1 (ms.length - 1)) (fun _ => [some (.lst (ms.map Mk4.d)), some (.loc 0), none, none, none]) (fun i => [some (.lst ((usesL ms).take i))]) (by
    intro i d h
    obtain ⟨hi, rfl⟩ := rngL_get h
    have ha : ms[i]? = some (ms[i]'(by omega)) := by simp [show i < ms.length by omega]
    have hb : ms[i + 1]? = some (ms[i + 1]'(by omega)) := by simp [show i + 1 < ms.length by omega]
    have hu := usesL_get ms i _ _ ha hb
    rw [uses_turn ms _ i _ _ ha hb (ho _ (List.getElem_mem _)) (by rw [List.length_take]; omega)]
    congr 3
    obtain ⟨h1, h2⟩ := List.getElem?_eq_some_iff.mp hu
    rw [← h2, List.take_append_getElem h1])
  have hf : locFrees (usesL ms) = true := by
    rw [locFrees_all]
    clear hloop
    induction ms with
    | nil => rfl
    | cons a r ih =>
      cases r with
      | nil => rfl
      | cons b r =>
        rw [usesL, List.all_cons, ih (fun m hm => ho m (List.mem_cons_of_mem _ hm)) (by simp at hl ⊢; omega)]
        rfl
  rw [rngL_len, List.take_zero, ← usesL_len, List.take_length] at hloop
  refine pRun_f (n := 0) (M := [some (.lst (usesL ms))]) (run_rt ?_) rfl hf
  have e1 : ixR2 (xAcons (xC (.int 1)) (xAcons (xCall gLen (xAcons (xVar 0) (xAnil))) (xAnil))) [some (.lst (ms.map Mk4.d)), some (.loc 0), none, none, none] [some (.lst [])] = some (rngL 1 (usesL ms).length) := by
    have : (1 : Int) < 1000000 ∧ (-1000000 : Int) < ms.length ∧ (ms.length : Int) < 1000000 := by omega
    have e : ((ms.length : Int) - 1).toNat = (usesL ms).length := by rw [usesL_len]; omega
    simp -implicitDefEqProofs [this, e]
  simp -implicitDefEqProofs [S_uses, e1, hloop, -ap_ixR2]
theorem whole_ok (i : Int) : P_law_whole [.int i] = some (.val (.bl true)) := by
  simp -implicitDefEqProofs [P_law_whole, pRun, I_law_whole, runB, S_law_whole]
theorem pairNe (M : Mem) (a b : Int) : gNe M (.tup [.int a, .int b]) (.tup [.int a, .int b]) = some (.bl false) := gNe_self _ rfl
theorem told_turn (ms : List Mk4) (i : Nat) (a b : Mk4) (ha : ms[i]? = some a) (hb : ms[i + 1]? = some b) (ho : a.Ok) :
    turnF (gxName 2) [2, 3, 4] B_law_told_right_1 (.int i) [some (.lst (usesL ms)), some (.lst (ms.map Mk4.d)), none, none, none, none] [] = some (.nx [some (.lst (usesL ms)), some (.lst (ms.map Mk4.d)), none, none, none, none] []) := by
  have e1 : atI (ms.map Mk4.d) (i : Int) = some a.d := atN Mk4.d ha
  have e2 : atI (ms.map Mk4.d) ((i : Int) + 1) = some b.d := by
    rw [show (i : Int) + 1 = ((i + 1 : Nat) : Int) by omega]; exact atN Mk4.d hb
  have e3 : atI (usesL ms) (i : Int) = some (useOf a b) := by
    have := atN id (usesL_get ms i a b ha hb)
    rwa [List.map_id] at this
  have hr := rnd_lo ho
  have r := round_ok ho
  have n0 : 0 ≤ (b.arr - a.beg) % rnd a.fig := Int.emod_nonneg _ (by omega)
  have n1 : (b.arr - a.beg) % rnd a.fig < rnd a.fig := Int.emod_lt_of_pos _ (by omega)
  have n2 : (a.beg + (b.arr - a.beg) % rnd a.fig - b.arr) % rnd a.fig = 0 := by
    have := Int.emod_add_mul_ediv (b.arr - a.beg) (rnd a.fig)
    have e : a.beg + (b.arr - a.beg) % rnd a.fig - b.arr = rnd a.fig * (-((b.arr - a.beg) / rnd a.fig)) := by
      rw [Int.mul_neg]; omega
    rw [e, Int.mul_emod_right]
  have h0 : 0 < rnd a.fig := by omega
  have a0 : atI [D.int a.day, .int a.arr, .int a.beg, .int a.fig] 0 = some (.int a.day) := rfl
  have a2 : atI [D.int a.day, .int a.arr, .int a.beg, .int a.fig] 2 = some (.int a.beg) := rfl
  have a3 : atI [D.int a.day, .int a.arr, .int a.beg, .int a.fig] 3 = some (.int a.fig) := rfl
  have b0 : atI [D.int b.day, .int b.arr, .int b.beg, .int b.fig] 0 = some (.int b.day) := rfl
  have b1 : atI [D.int b.day, .int b.arr, .int b.beg, .int b.fig] 1 = some (.int b.arr) := rfl
  generalize hu : (b.arr - a.beg) % rnd a.fig = u at *
  have c2 : atI [D.int a.day, .int b.day, .int u] 2 = some (.int u) := rfl
  have cut : ∀ M : Mem, gCut M (.tup [D.int a.day, .int b.day, .int u]) none (some 2) = some (.tup [.int a.day, .int b.day]) := fun _ => rfl
  have lc : lcF (gxName 5) tYes_ (xCallP P_law_whole (xAcons (xVar 5) (xAnil))) (([some (.lst (usesL ms)), some (.lst (ms.map Mk4.d)), some (.int i), some b.d, some a.d, none] : Sl)) [] [D.int a.day, .int b.day, .int u] = some [.bl true, .bl true, .bl true] := by
    simp -implicitDefEqProofs [lcF, whole_ok]
  have bl3 : blsOf [D.bl true, .bl true, .bl true] = some [true, true, true] := rfl
  simp only [useOf, hu] at e3
  simp only [Mk4.d] at e1 e2 lc
  simp -implicitDefEqProofs [turnF, e1, e2, e3, sPar, a0, a2, a3, b0, b1, c2, cut, r, n0, n1, n2, h0, lc, bl3, xChain, pairNe]
theorem told_ok (ms : List Mk4) (ho : ∀ m ∈ ms, m.Ok) (hl : ms.length ≤ 100) : P_law_told_right [.lst (usesL ms), .lst (ms.map Mk4.d)] = some (.val (.bl true)) := by
  have hloop := loop_seq (g := gxName 2) (kl := [2, 3, 4]) (b := B_law_told_right_1) (rngL 0 (usesL ms).length) (fun _ => [some (.lst (usesL ms)), some (.lst (ms.map Mk4.d)), none, none, none, none]) (fun _ => []) (by
    intro i d h
    obtain ⟨hi, rfl⟩ := rngL_get h
    rw [usesL_len] at hi
    rw [Int.zero_add]
    have ha : ms[i]? = some (ms[i]'(by omega)) := by simp [show i < ms.length by omega]
    have hb : ms[i + 1]? = some (ms[i + 1]'(by omega)) := by simp [show i + 1 < ms.length by omega]
    exact told_turn ms i _ _ ha hb (ho _ (List.getElem_mem _)))
  have e1 := usesL_len ms
  have e2 : gMax ([] : Mem) [.int 0, .int ((ms.length : Int) - 1)] = some (.int (usesL ms).length) := by
    show some (D.int (if (ms.length : Int) - 1 > 0 then (ms.length : Int) - 1 else 0)) = _
    congr 2
    split <;> omega
  have hr : (-1000000 : Int) < (usesL ms).length ∧ ((usesL ms).length : Int) < 1000000 := by omega
  simp -implicitDefEqProofs [P_law_told_right, pRun, I_law_told_right, runB, S_law_told_right, e2, hr, hloop]
theorem draws' (n : Int) (m : Nat) (mi sz : Int) (hm : m ≤ 1000) (he : mi = m) (h0 : 0 < sz) (h9 : numOk sz = true) : ∃ ds : List Int, ds.length = m ∧ (∀ d ∈ ds, 0 ≤ d ∧ d < sz) ∧ P_law_draws [.int n, .int mi, .int sz] = some (.fresh (.lst (ds.map .int))) := by
  subst he
  exact draws_ok n m sz hm h0 h9
theorem dAt {ds : List Int} {sz : Int} (h : ∀ d ∈ ds, 0 ≤ d ∧ d < sz) {i : Nat} {j : Int} (hj : j = i) (hi : i < ds.length) : ∃ x, atI (ds.map D.int) j = some (.int x) ∧ 0 ≤ x ∧ x < sz := by
  subst hj
  obtain ⟨x, h1, h2⟩ := getIn hi
  exact ⟨x, at_ h1, h x h2⟩
theorem marks_turn (kvs : D) (cn : D) (cell : Int) (ds : List Int) (hd : ds.length = 24) (hds : ∀ d ∈ ds, 0 ≤ d ∧ d < 420) (f day shown : Int) (hf : 1 ≤ f ∧ f ≤ 9) (hsh : 0 ≤ shown ∧ shown < 1000000000) (acc : List Mk4) (i : Nat) (hi : i < 8) (hl : acc.length ≤ 100) :
    ∃ (m : Mk4) (f' day' shown' : Int), m.Ok ∧ (1 ≤ f' ∧ f' ≤ 9) ∧ (0 ≤ shown' ∧ shown' < 1000000000) ∧ turnF (gxName 8) [8, 9, 10, 11] B_law_marks_1 (.int i) [some (.int cell), some kvs, some cn, some (.lst (ds.map .int)), some (.int f), some (.int day), some (.int shown), some (.loc 0), none, none, none, none] [some (.lst (acc.map Mk4.d))] =
      some (.nx [some (.int cell), some kvs, some cn, some (.lst (ds.map .int)), some (.int f'), some (.int day'), some (.int shown'), some (.loc 0), none, none, none, none] [some (.lst ((acc ++ [m]).map Mk4.d))]) := by
  have q7 : (i : Int) / 7 = if i = 7 then 1 else 0 := by split <;> omega
  obtain ⟨mo, m1, m2, m3⟩ := dAt hds (i := if i = 7 then 21 else 3 + 3 * i) (j := 3 + 3 * (i : Int) - 3 * ((i : Int) / 7)) (by rw [q7]; split <;> omega) (by split <;> omega)
  obtain ⟨x4, p1, p2, p3⟩ := dAt hds (i := 4 + i) (j := 4 + (i : Int)) (by omega) (by omega)
  obtain ⟨x5, r1, r2, r3⟩ := dAt hds (i := 5 + i) (j := 5 + (i : Int)) (by omega) (by omega)
  obtain ⟨x6, s1, s2, s3⟩ := dAt hds (i := 6 + i) (j := 6 + (i : Int)) (by omega) (by omega)
  have hr := rnd_lo hf
  have h0 : 0 < rnd f := by omega
  have rk := round_ok hf
  have hm7 : numOk ((i : Int) / 7) = true := numOk_of (by omega) (by omega)
  have hmi : numOk (i : Int) = true := numOk_of (by omega) (by omega)
  have hmm : numOk mo = true := numOk_of (by omega) (by omega)
  obtain ⟨us, u1, u2⟩ : ∃ us : Int, (0 ≤ us ∧ us < 1000000000) ∧ atI [D.int (mo % 5), .int mo, .int (mo * 1000000), .int (rnd f - 1)] (mo / 5 % 4) = some (.int us) := by
    obtain ⟨z, h1, h2⟩ := pick4 (mo % 5) mo (mo * 1000000) (rnd f - 1) (i := mo / 5 % 4) (by omega)
    exact ⟨z, by omega, h2⟩
  have f2 : 1 ≤ 1 + x4 % 9 ∧ 1 + x4 % 9 ≤ 9 := by omega
  have rk2 := round_ok f2
  have hr2 := rnd_lo f2
  have h02 : 0 < rnd (1 + x4 % 9) := by omega
  have hx5 : numOk x5 = true := numOk_of (by omega) (by omega)
  obtain ⟨st, t1, t2⟩ : ∃ st : Int, 0 < st ∧ atI [D.int 3, .int 17] (mo % 2) = some (.int st) := by
    have : mo % 2 = 0 ∨ mo % 2 = 1 := by omega
    rcases this with e | e <;> rw [e]
    · exact ⟨3, by decide, rfl⟩
    · exact ⟨17, by decide, rfl⟩
  have e0 := Int.emod_nonneg (shown + us) (show rnd f ≠ 0 by omega)
  have e1 := Int.emod_lt_of_pos (shown + us) h0
  have g0 := Int.emod_nonneg (x5 * 7) (show rnd (1 + x4 % 9) ≠ 0 by omega)
  have g1 := Int.emod_lt_of_pos (x5 * 7) h02
  have hlen : acc.length < 1000000 := by omega
  by_cases h7 : mo % 7 = 3
  · refine ⟨⟨day, (shown + us) % rnd f, x5 * 7 % rnd (1 + x4 % 9), 1 + x4 % 9⟩, 1 + x4 % 9, day + 1 + x6 % st, x5 * 7 % rnd (1 + x4 % 9), f2, f2, by omega, ?_⟩
    simp -implicitDefEqProofs [turnF, m1, p1, r1, s1, hm7, hmi, hmm, rk, h0, u2, h7, rk2, h02, hx5, t1, t2, hlen, Mk4.d]
  · refine ⟨⟨day, (shown + us) % rnd f, (shown + us) % rnd f, f⟩, f, day + 1 + x6 % st, (shown + us) % rnd f, hf, hf, by omega, ?_⟩
    simp -implicitDefEqProofs [turnF, m1, p1, r1, s1, hm7, hmi, hmm, rk, h0, u2, h7, t1, t2, hlen, Mk4.d]
theorem marks_nx (kvs : D) (cn : D) (cell : Int) (ds : List Int) (hd : ds.length = 24) (hds : ∀ d ∈ ds, 0 ≤ d ∧ d < 420) (f day shown : Int) (hf : 1 ≤ f ∧ f ≤ 9) (hsh : 0 ≤ shown ∧ shown < 1000000000) (acc : List Mk4) (i : Nat) (hi : i < 8) (hl : acc.length = i) (ha : ∀ m ∈ acc, m.Ok) :
    NxTo (fun Γ M => ∃ (ms : List Mk4) (g dy sh : Int), ms.length = i + 1 ∧ (∀ m ∈ ms, m.Ok) ∧ (1 ≤ g ∧ g ≤ 9) ∧ (0 ≤ sh ∧ sh < 1000000000) ∧ Γ = [some (.int cell), some kvs, some cn, some (.lst (ds.map .int)), some (.int g), some (.int dy), some (.int sh), some (.loc 0), none, none, none, none] ∧ M = [some (.lst (ms.map Mk4.d))])
      (turnF (gxName 8) [8, 9, 10, 11] B_law_marks_1 (.int i) [some (.int cell), some kvs, some cn, some (.lst (ds.map .int)), some (.int f), some (.int day), some (.int shown), some (.loc 0), none, none, none, none] [some (.lst (acc.map Mk4.d))]) := by
  have hl2 : acc.length ≤ 100 := by omega
  have h := marks_turn kvs cn cell ds hd hds f day shown hf hsh acc i hi hl2
  cases h with | intro m h =>
  cases h with | intro g h =>
  cases h with | intro dy h =>
  cases h with | intro sh h =>
  have h4 := h.2.2.2
  have h1 := h.1
  have h2 := h.2.1
  have h3 := h.2.2.1
  clear h
  rw [h4, NxTo_nx]
  refine ⟨acc ++ [m], g, dy, sh, ?_, ?_, h2, h3, ?_, ?_⟩
  · rw [List.length_append, List.length_singleton, hl]
  · intro x hx
    rcases List.mem_append.mp hx with hx | hx
    · exact ha x hx
    · rw [List.mem_singleton.mp hx]; exact h1
  · exact Eq.refl _
  · exact Eq.refl _
theorem marks_ok (kvs figs : List (DK × D)) (cn : Str) (cell f : Int) (h1 : getA kvs (.s "figures") = some (.asc .k figs)) (h2 : getA figs (.s cn) = some (.int f)) (hf : 1 ≤ f ∧ f ≤ 9) : ∃ ms : List Mk4, (∀ m ∈ ms, m.Ok) ∧ ms.length ≤ 7 ∧ P_law_marks [.int cell, .asc .k kvs, .str cn] = some (.fresh (.lst (ms.map Mk4.d))) := by
  obtain ⟨ds, d1, d2, d3⟩ := draws' cell 24 24 420 (by decide) rfl (by decide) (by decide)
  obtain ⟨y0, a1, a2, a3⟩ := dAt d2 (i := 0) (j := 0) rfl (by omega)
  obtain ⟨y1, b1, b2, b3⟩ := dAt d2 (i := 1) (j := 1) rfl (by omega)
  obtain ⟨y2, c1, c2, c3⟩ := dAt d2 (i := 2) (j := 2) rfl (by omega)
  have hr := rnd_lo hf
  have h0 : 0 < rnd f := by omega
  have rk := round_ok hf
  have e0 := Int.emod_nonneg (y1 * 1000003) (show rnd f ≠ 0 by omega)
  have e1 := Int.emod_lt_of_pos (y1 * 1000003) h0
  have hy1 : numOk y1 = true := numOk_of (by omega) (by omega)
  have hy2 : (-1000000 : Int) < y2 % 8 ∧ y2 % 8 < 1000000 := by omega
  obtain ⟨Γ', M', hl, ms, g, dy, sh, i1, i2, i3, i4, rfl, rfl⟩ := (loop_to (g := gxName 8) (kl := [8, 9, 10, 11]) (b := B_law_marks_1)
    (fun i Γ M => ∃ (ms : List Mk4) (g dy sh : Int), ms.length = i ∧ (∀ m ∈ ms, m.Ok) ∧ (1 ≤ g ∧ g ≤ 9) ∧ (0 ≤ sh ∧ sh < 1000000000) ∧ Γ = [some (.int cell), some (.asc .k kvs), some (.str cn), some (.lst (ds.map .int)), some (.int g), some (.int dy), some (.int sh), some (.loc 0), none, none, none, none] ∧ M = [some (.lst (ms.map Mk4.d))])
    (rngL 0 (y2 % 8).toNat) [some (.int cell), some (.asc .k kvs), some (.str cn), some (.lst (ds.map .int)), some (.int f), some (.int (y0 % 10)), some (.int (y1 * 1000003 % rnd f)), some (.loc 0), none, none, none, none] [some (.lst [])]
    ⟨[], f, y0 % 10, y1 * 1000003 % rnd f, rfl, fun _ h => (List.not_mem_nil h).elim, hf, by omega, Eq.refl _, Eq.refl _⟩ (by
      rintro i d Γ M hi hlt ⟨ms, g, dy, sh, j1, j2, j3, j4, rfl, rfl⟩
      obtain ⟨hi2, rfl⟩ := rngL_get hi
      rw [Int.zero_add]
      have hi8 : i < 8 := by omega
      exact marks_nx (D.asc AK.k kvs) (D.str cn) cell ds d1 d2 g dy sh j3 j4 ms i hi8 j1 j2)).ex
  rw [rngL_len] at i1
  have hfree : locFrees (ms.map Mk4.d) = true := locFrees_map _ (fun _ => rfl) _
  refine ⟨ms, i2, by omega, pRun_f (n := 0) (M := [some (.lst (ms.map Mk4.d))]) (run_rt ?_) rfl hfree⟩
  simp -implicitDefEqProofs [S_law_marks, d3, a1, b1, c1, item_ks, h1, h2, hy1, rk, h0, hy2, hl]
theorem beyond_turn (l : D) (nb : Int) (m : Mk4) (i : Nat) (acc : List Mk4) (hm : m.Ok) (hn : 0 ≤ nb ∧ nb < 1000) (hi : i < 100) (hl : acc.length ≤ 100) : ∃ m' : Mk4, m'.Ok ∧ turnF (gxTup 2 (gxCons (gxName 3) (gxCons (gxName 4) (gxNil)))) [3, 4, 5, 6, 7] B_law_beyond_1 (.tup [.int i, m.d]) [some l, some (.int nb), some (.loc 0), none, none, none, none, none] [some (.lst (acc.map Mk4.d))] =
    some (.nx [some l, some (.int nb), some (.loc 0), none, none, none, none, none] [some (.lst ((acc ++ [m']).map Mk4.d))]) := by
  have hr := rnd_lo hm
  have rk := round_ok hm
  have n1 : numOk (rnd m.fig) = true := numOk_of (by omega) (by omega)
  have n2 : numOk ((nb + i) % 3) = true := numOk_of (by omega) (by omega)
  have n3 : numOk ((nb + 2 * i) % 2) = true := numOk_of (by omega) (by omega)
  have n4 : numOk (i : Int) = true := numOk_of (by omega) (by omega)
  have n5 : (nb + 2 * (i : Int)) % 2 = nb % 2 := by omega
  rw [n5] at n3
  have a0 : atI [D.int m.day, .int m.arr, .int m.beg, .int m.fig] 0 = some (.int m.day) := rfl
  have a1 : atI [D.int m.day, .int m.arr, .int m.beg, .int m.fig] 1 = some (.int m.arr) := rfl
  have a2 : atI [D.int m.day, .int m.arr, .int m.beg, .int m.fig] 2 = some (.int m.beg) := rfl
  have a3 : atI [D.int m.day, .int m.arr, .int m.beg, .int m.fig] 3 = some (.int m.fig) := rfl
  have hlen : acc.length < 1000000 := by omega
  have mx : ∀ (M : Mem) (x y : Int), gMax M [.int x, .int y] = some (.int (max x y)) := fun _ x y => by
    show some (D.int (if y > x then y else x)) = some (D.int (max x y))
    rw [show (if y > x then y else x) = max x y by split <;> omega]
  by_cases hc : max (m.arr + rnd m.fig * ((nb + i) % 3)) (m.beg + rnd m.fig * (nb % 2)) < 1000000000
  · refine ⟨⟨m.day, m.arr + rnd m.fig * ((nb + i) % 3), m.beg + rnd m.fig * (nb % 2), m.fig⟩, hm, ?_⟩
    have hc' : decide (max (m.arr + rnd m.fig * ((nb + i) % 3)) (m.beg + rnd m.fig * (nb % 2)) < 1000000000) = true := decide_eq_true hc
    simp -implicitDefEqProofs [turnF, Mk4.d, a0, a1, a2, a3, rk, n1, n2, n3, n4, n5, mx, hc', hlen]
  · refine ⟨m, hm, ?_⟩
    have hc' : decide (max (m.arr + rnd m.fig * ((nb + i) % 3)) (m.beg + rnd m.fig * (nb % 2)) < 1000000000) = false := decide_eq_false hc
    simp -implicitDefEqProofs [turnF, Mk4.d, a0, a1, a2, a3, rk, n1, n2, n3, n4, n5, mx, hc', hlen]
theorem beyond_ok (ms : List Mk4) (nb : Int) (hn : 0 ≤ nb ∧ nb < 1000) (ho : ∀ m ∈ ms, m.Ok) (hl : ms.length ≤ 50) : ∃ ns : List Mk4, (∀ m ∈ ns, m.Ok) ∧ ns.length ≤ 50 ∧ P_law_beyond [.lst (ms.map Mk4.d), .int nb] = some (.fresh (.lst (ns.map Mk4.d))) := by
  obtain ⟨Γ', M', h, ns, i1, i2, rfl, rfl⟩ := (loop_to (g := gxTup 2 (gxCons (gxName 3) (gxCons (gxName 4) (gxNil)))) (kl := [3, 4, 5, 6, 7]) (b := B_law_beyond_1)
    (fun i Γ M => ∃ ns : List Mk4, ns.length = i ∧ (∀ m ∈ ns, m.Ok) ∧ Γ = [some (.lst (ms.map Mk4.d)), some (.int nb), some (.loc 0), none, none, none, none, none] ∧ M = [some (.lst (ns.map Mk4.d))])
    (enumL 0 (ms.map Mk4.d)) [some (.lst (ms.map Mk4.d)), some (.int nb), some (.loc 0), none, none, none, none, none] [some (.lst [])] ⟨[], rfl, fun _ h => (List.not_mem_nil h).elim, Eq.refl _, Eq.refl _⟩ (by
      rintro i d Γ M hi hlt ⟨ns, j1, j2, rfl, rfl⟩
      rw [enumL_get, Nat.zero_add, List.getElem?_map] at hi
      rw [enumL_len, List.length_map] at hlt
      have hm : ms[i]? = some ms[i] := by simp [hlt]
      rw [hm] at hi
      cases hi
      obtain ⟨m', k1, k2⟩ := beyond_turn (.lst (ms.map Mk4.d)) nb ms[i] i ns (ho _ (List.getElem_mem _)) hn (by omega) (by omega)
      refine .of k2 ⟨ns ++ [m'], by rw [List.length_append, List.length_singleton, j1], ?_, Eq.refl _, Eq.refl _⟩
      intro x hx
      rcases List.mem_append.mp hx with hx | hx
      · exact j2 x hx
      · rw [List.mem_singleton.mp hx]; exact k1)).ex
  rw [enumL_len, List.length_map] at i1
  have hfree : locFrees (ns.map Mk4.d) = true := locFrees_map _ (fun _ => rfl) _
  refine ⟨ns, i2, by omega, pRun_f (n := 0) (M := [some (.lst (ns.map Mk4.d))]) (run_rt ?_) rfl hfree⟩
  simp -implicitDefEqProofs [S_law_beyond, h]
theorem pick5 (a b c d e : Int) {i : Int} (h : 0 ≤ i ∧ i < 5) : ∃ m : Int, (m = a ∨ m = b ∨ m = c ∨ m = d ∨ m = e) ∧ atI [D.int a, .int b, .int c, .int d, .int e] i = some (.int m) := by
  have : i = 0 ∨ i = 1 ∨ i = 2 ∨ i = 3 ∨ i = 4 := by omega
  rcases this with z | z | z | z | z <;> subst z
  · exact ⟨a, .inl rfl, rfl⟩
  · exact ⟨b, .inr (.inl rfl), rfl⟩
  · exact ⟨c, .inr (.inr (.inl rfl)), rfl⟩
  · exact ⟨d, .inr (.inr (.inr (.inl rfl))), rfl⟩
  · exact ⟨e, .inr (.inr (.inr (.inr rfl))), rfl⟩
theorem right_ok (n : Int) : P_law_risen_right [.int n] = some (.val (.bl true)) := by
  have hm := mixed_ok n 5 (by decide)
  have m0 := mixF_lo n 5
  have m1 := mixF_hi n 5
  generalize mixF n 5 = k at *
  have f2 : 1 ≤ 1 + k % 9 ∧ 1 + k % 9 ≤ 9 := by omega
  have rk := round_ok f2
  have hr := rnd_lo f2
  obtain ⟨a, -, ha⟩ := pick4 (n % 1000000000) (rnd (1 + k % 9) - 1) 0 (k / 9 % 100) (i := k / 9 % 4) (by omega)
  obtain ⟨b, -, hb⟩ := pick5 (k * 7 % 1000000000) a ((a + 1) % 1000000000) 999999999 (n / 1000000000 % 1000000000) (i := k / 36 % 5) (by omega)
  have rs := risen_ok f2 a b
  have h0 : 0 < rnd (1 + k % 9) := by omega
  have n0 : 0 ≤ (b - a) % rnd (1 + k % 9) := Int.emod_nonneg _ (by omega)
  have n1 : (b - a) % rnd (1 + k % 9) < rnd (1 + k % 9) := Int.emod_lt_of_pos _ h0
  have n2 : (a + (b - a) % rnd (1 + k % 9) - b) % rnd (1 + k % 9) = 0 := by
    have := Int.emod_add_mul_ediv (b - a) (rnd (1 + k % 9))
    have e : a + (b - a) % rnd (1 + k % 9) - b = rnd (1 + k % 9) * (-((b - a) / rnd (1 + k % 9))) := by
      rw [Int.mul_neg]; omega
    rw [e, Int.mul_emod_right]
  have hk : numOk k = true := numOk_of (by omega) (by omega)
  generalize rnd (1 + k % 9) = r at *
  generalize (b - a) % r = u at *
  have w := whole_ok u
  have n3 : ¬ u < 0 := by omega
  have n4 : ¬ r ≤ u := by omega
  simp -implicitDefEqProofs [P_law_risen_right, pRun, I_law_risen_right, runB, S_law_risen_right, hm, rk, ha, hb, rs, h0, w, n3, n4, n2, hk, n0]
/-! ### what is drawn for a sheet -/
theorem atS {l : List Str} {i : Nat} {j : Int} (hj : j = i) (hi : i < l.length) : atI (l.map D.str) j = some (.str (l[i])) := by
  subst hj
  exact atN D.str (by simp [hi])
theorem words_ok (n : Int) : ∃ ws : List Str, ws.length = 12 ∧ P_law_words [.int n] = some (.val (.lst (ws.map .str))) := by
  have : n % 3 = 0 ∨ n % 3 = 1 ∨ n % 3 = 2 := by omega
  have a0 : ∀ a b c : D, atI [a, b, c] 0 = some a := fun _ _ _ => rfl
  have a1 : ∀ a b c : D, atI [a, b, c] 1 = some b := fun _ _ _ => rfl
  have a2 : ∀ a b c : D, atI [a, b, c] 2 = some c := fun _ _ _ => rfl
  rcases this with e | e | e
  · refine ⟨["work", "free", "feast", "odd", "day", "night", "peak", "low", "main", "heat", "water", "gas"], rfl, ?_⟩
    simp -implicitDefEqProofs [P_law_words, pRun, I_law_words, runB, S_law_words, e, a0]
  · refine ⟨["week", "k", "standing", "special", "b", "rate", "counters", "step", "band", "c", "month", "ha"], rfl, ?_⟩
    simp -implicitDefEqProofs [P_law_words, pRun, I_law_words, runB, S_law_words, e, a1]
  · refine ⟨["holidays", "ab", "workdays", "kept", "morning", "by", "evenings", "nights", "kitchen", "g", "upstairs", "ox"], rfl, ?_⟩
    simp -implicitDefEqProofs [P_law_words, pRun, I_law_words, runB, S_law_words, e, a2]
theorem cell_ok (ns : List Int) (k : Nat) : ∃ x : Int, P_law_cell_at [.scr ns, .int k] = some (.val (.int x)) := by
  by_cases h : (k : Int) < ns.length
  · obtain ⟨x, e, -⟩ := atI_in (l := ns) (i := (k : Int)) (by omega) h
    refine ⟨x, ?_⟩
    simp -implicitDefEqProofs [P_law_cell_at, pRun, I_law_cell_at, runB, S_law_cell_at, e, h]
  · refine ⟨0, ?_⟩
    simp -implicitDefEqProofs [P_law_cell_at, pRun, I_law_cell_at, runB, S_law_cell_at, h]
def bD (b : Str × Str) : D := .tup [.str b.1, .str b.2]
theorem b0 (b : Str × Str) : atI [D.str b.1, .str b.2] 0 = some (.str b.1) := rfl
theorem b1 (b : Str × Str) : atI [D.str b.1, .str b.2] 1 = some (.str b.2) := rfl
abbrev tk (k b : Str) : DK := .t [.inr k, .inr b]
theorem keys2 (k b : Str) : keysOf [D.str k, .str b] = some [.inr k, .inr b] := rfl
/-- a table of ints by pairs -/
def TI (kvs : List (DK × D)) : Prop := ∀ p ∈ kvs, ∃ v : Int, p.2 = .int v
theorem TI.put {kvs : List (DK × D)} (h : TI kvs) (k : DK) (v : Int) : TI (putA kvs k (.int v)) := fun p hp => by
  rcases putA_mem hp with hp | rfl
  · exact h p hp
  · exact ⟨v, rfl⟩
theorem TI.free {kvs : List (DK × D)} (h : TI kvs) : locFreeA kvs = true := locFreeA_of fun p hp => by
  obtain ⟨v, e⟩ := h p hp
  rw [e]; rfl
theorem put_has {kvs : List (DK × D)} {j : DK} {k : DK} {v x : Int} (h : getA kvs j = some (.int x)) : ∃ y : Int, getA (putA kvs k (.int v)) j = some (.int y) := by
  by_cases e : j = k
  · subst e
    exact ⟨v, getA_put_same kvs j _⟩
  · exact ⟨x, by rw [getA_put_other kvs _ e]; exact h⟩
section
variable (kinds bandsD : D) (ds : List Int) (hd : 16 ≤ ds.length) (hds : ∀ d ∈ ds, 0 ≤ d ∧ d < 420) (i : Nat) (hi : i < 4) (kd : Str) (b : Str × Str) (k : Nat) (hk : k < 4) (kvs : List (DK × D)) (hl : kvs.length < 1000)
include hd hds hi hk hl
theorem w_turn1 : ∃ v : Int, turnF (gxTup 2 (gxCons (gxName 7) (gxCons (gxName 6) (gxNil)))) [6, 7] B_law_weights_1 (.tup [.int k, bD b]) [some kinds, some bandsD, some (.lst (ds.map .int)), some (.loc 0), some (.int i), some (.str kd), none, none, none, none] [some (.asc .t kvs)] =
    some (.nx [some kinds, some bandsD, some (.lst (ds.map .int)), some (.loc 0), some (.int i), some (.str kd), none, none, none, none] [some (.asc .t (putA kvs (tk kd b.1) (.int v)))]) := by
  obtain ⟨x, x1, x2, x3⟩ := dAt hds (i := 4 * i + k) (j := 4 * (i : Int) + k) (by omega) (by omega)
  obtain ⟨v, -, v2⟩ := pick5 0 1 2 7 99 (i := x % 5) (by omega)
  have n1 : numOk (i : Int) = true := numOk_of (by omega) (by omega)
  have hl' : kvs.length < 1000000 := by omega
  refine ⟨v, ?_⟩
  simp -implicitDefEqProofs [turnF, bD, b0, x1, v2, n1, kPut_t, keys2, hl']
theorem p_turn1 : ∃ v : Int, turnF (gxTup 2 (gxCons (gxName 7) (gxCons (gxName 6) (gxNil)))) [6, 7, 8] B_law_prices_1 (.tup [.int k, bD b]) [some kinds, some bandsD, some (.lst (ds.map .int)), some (.loc 0), some (.int i), some (.str kd), none, none, none] [some (.asc .t kvs)] =
    some (.nx [some kinds, some bandsD, some (.lst (ds.map .int)), some (.loc 0), some (.int i), some (.str kd), none, none, none] [some (.asc .t (putA kvs (tk kd b.1) (.int v)))]) := by
  obtain ⟨x, x1, x2, x3⟩ := dAt hds (i := 4 * i + k) (j := 4 * (i : Int) + k) (by omega) (by omega)
  obtain ⟨v, -, v2⟩ := pick4 (x / 4 % 40) 0 (x * 10000000) (100000000000 * (x % 10) + x) (i := x % 4) (by omega)
  have n1 : numOk (i : Int) = true := numOk_of (by omega) (by omega)
  have n2 : numOk x = true := numOk_of (by omega) (by omega)
  have n3 : numOk (x % 10) = true := numOk_of (by omega) (by omega)
  have hl' : kvs.length < 1000000 := by omega
  refine ⟨v, ?_⟩
  simp -implicitDefEqProofs [turnF, bD, b0, x1, v2, n1, n2, n3, kPut_t, keys2, hl']
end
theorem max_ok : ∀ {l : List Int}, l ≠ [] → ∃ m : Int, ∀ M : Mem, gMax M [.lst (l.map .int)] = some (.int m) := by
  intro l hl
  cases l with
  | nil => exact (hl rfl).elim
  | cons x r =>
    refine ⟨maxL (x :: r), fun M => ?_⟩
    unfold gMax
    dsimp only
    rw [vL_lst, Option.bind_some, intsOf_map]
    rfl
theorem w_turn2 (kinds : D) (bands : List (Str × Str)) (ds : List Int) (hd : 16 ≤ ds.length) (hds : ∀ d ∈ ds, 0 ≤ d ∧ d < 420) (i : Nat) (hi : i < 4) (kd : Str) (b : Str × Str) (hb : b ∈ bands) (hbl : bands.length ≤ 4) (k : Nat) (hk : k < 4) (kvs : List (DK × D)) (hl : kvs.length < 1000) (hT : ∀ c ∈ bands, ∃ v : Int, getA kvs (tk kd c.1) = some (.int v)) :
    NxTo (fun Γ M => ∃ kvs' : List (DK × D), (TI kvs → TI kvs') ∧ kvs'.length ≤ kvs.length + 1 ∧ (∀ c ∈ bands, ∃ v : Int, getA kvs' (tk kd c.1) = some (.int v)) ∧ Γ = [some kinds, some (.lst (bands.map bD)), some (.lst (ds.map .int)), some (.loc 0), some (.int i), some (.str kd), none, none, none, none] ∧ M = [some (.asc .t kvs')])
     (turnF (gxTup 2 (gxCons (gxName 7) (gxCons (gxName 6) (gxNil)))) [6, 7, 8] B_law_weights_2 (.tup [.int k, bD b]) [some kinds, some (.lst (bands.map bD)), some (.lst (ds.map .int)), some (.loc 0), some (.int i), some (.str kd), none, none, none, none] [some (.asc .t kvs)]) := by
  obtain ⟨x, x1, x2, x3⟩ := dAt hds (i := 4 * i + k) (j := 4 * (i : Int) + k) (by omega) (by omega)
  have n1 : numOk (i : Int) = true := numOk_of (by omega) (by omega)
  have hl' : kvs.length < 1000000 := by omega
  have vals : ∃ g : Str × Str → Int, ∀ c ∈ bands, getA kvs (tk kd c.1) = some (.int (g c)) := by
    refine ⟨fun c => match getA kvs (tk kd c.1) with
      | some (.int v) => v
      | _ => 0, fun c hc => ?_⟩
    obtain ⟨v, hv⟩ := hT c hc
    dsimp only
    rw [hv]
  obtain ⟨g, hg⟩ := vals
  have lc := lcF_filter (g := gxName 9) (t := tVal (xBin gEq (xBin gItem (xVar 9) (xC (.int 1))) (xBin gItem (xVar 6) (xC (.int 1))))) (f := xBin gItem (xVar 3) (xTup (xAcons (xVar 5) (xAcons (xBin gItem (xVar 9) (xC (.int 0))) (xAnil)))))
    (Γ := [some kinds, some (.lst (bands.map bD)), some (.lst (ds.map .int)), some (.loc 0), some (.int i), some (.str kd), some (bD b), some (.int k), none, none]) (M := [some (.asc .t kvs)]) bD (fun c => decide (c.2 = b.2)) (fun c => .int (g c)) bands (by
      intro c hc
      refine ⟨[some kinds, some (.lst (bands.map bD)), some (.lst (ds.map .int)), some (.loc 0), some (.int i), some (.str kd), some (bD b), some (.int k), none, some (bD c)], Eq.refl _, ?_, fun _ => ?_⟩
      · simp -implicitDefEqProofs [bD, b1]
      · have := item_loc_t (M := [some (.asc .t kvs)]) (n := 0) (kvs := kvs) (ds := [.str kd, .str c.1]) (ks := [.inr kd, .inr c.1]) rfl rfl
        simp -implicitDefEqProofs [bD, b0, this, hg c hc])
  have hne : (bands.filter fun c => decide (c.2 = b.2)).map g ≠ [] := by
    intro e
    have : b ∈ bands.filter fun c => decide (c.2 = b.2) := List.mem_filter.mpr ⟨hb, decide_eq_true rfl⟩
    rw [List.map_eq_nil_iff] at e
    rw [e] at this
    cases this
  obtain ⟨mx, hmx⟩ := max_ok hne
  rw [List.map_map] at hmx
  have hlc : ((bands.filter fun c => decide (c.2 = b.2)).map fun c => D.int (g c)) = (bands.filter fun c => decide (c.2 = b.2)).map (D.int ∘ g) := rfl
  rw [hlc] at lc
  have hb4 : bands.length ≤ 1000000 := by omega
  by_cases h0 : mx = 0
  · subst h0
    have e : turnF (gxTup 2 (gxCons (gxName 7) (gxCons (gxName 6) (gxNil)))) [6, 7, 8] B_law_weights_2 (.tup [.int k, bD b]) [some kinds, some (.lst (bands.map bD)), some (.lst (ds.map .int)), some (.loc 0), some (.int i), some (.str kd), none, none, none, none] [some (.asc .t kvs)] =
        some (.nx [some kinds, some (.lst (bands.map bD)), some (.lst (ds.map .int)), some (.loc 0), some (.int i), some (.str kd), none, none, none, none] [some (.asc .t (putA kvs (tk kd b.1) (.int (1 + x / 5 % 3))))]) := by
      simp only [bD] at lc
      simp -implicitDefEqProofs [turnF, bD, b0, x1, n1, kPut_t, keys2, hl', lc, hmx, hb4]
    refine .of e ⟨_, fun t => t.put _ _, putA_len _ _ _, fun c hc => ?_, Eq.refl _, Eq.refl _⟩
    obtain ⟨v, hv⟩ := hT c hc
    exact put_has hv
  · have e : turnF (gxTup 2 (gxCons (gxName 7) (gxCons (gxName 6) (gxNil)))) [6, 7, 8] B_law_weights_2 (.tup [.int k, bD b]) [some kinds, some (.lst (bands.map bD)), some (.lst (ds.map .int)), some (.loc 0), some (.int i), some (.str kd), none, none, none, none] [some (.asc .t kvs)] =
        some (.nx [some kinds, some (.lst (bands.map bD)), some (.lst (ds.map .int)), some (.loc 0), some (.int i), some (.str kd), none, none, none, none] [some (.asc .t kvs)]) := by
      simp only [bD] at lc
      simp -implicitDefEqProofs [turnF, bD, lc, hmx, hb4, h0]
    exact .of e ⟨_, id, by omega, hT, Eq.refl _, Eq.refl _⟩
set_option Elab.async false
set_option linter.all false
set_option maxRecDepth 100000
set_option maxHeartbeats 4000000
open PySem L2 G
theorem enum_at {α : Type} (f : α → D) {l : List α} {i : Nat} {d : D} (h : (enumL 0 (l.map f))[i]? = some d) : ∃ a, a ∈ l ∧ i < l.length ∧ d = .tup [.int i, f a] := by
  rw [enumL_get, Nat.zero_add, List.getElem?_map] at h
  cases hx : l[i]? with
  | none => rw [hx] at h; cases h
  | some a =>
    rw [hx] at h
    cases h
    exact ⟨a, List.mem_of_getElem? hx, (List.getElem?_eq_some_iff.mp hx).1, rfl⟩
theorem enum_get_eq {α : Type} (f : α → D) {l : List α} {i : Nat} {d : D} (h : (enumL 0 (l.map f))[i]? = some d) : ∃ a, l[i]? = some a ∧ d = .tup [.int i, f a] := by
  rw [enumL_get, Nat.zero_add, List.getElem?_map] at h
  cases hx : l[i]? with
  | none => rw [hx] at h; cases h
  | some a =>
    rw [hx] at h
    cases h
    exact ⟨a, rfl, rfl⟩
theorem take_mem {α : Type} {l : List α} {i : Nat} {a : α} (h : l[i]? = some a) {c : α} (hc : c ∈ l.take (i + 1)) : c ∈ l.take i ∨ c = a := by
  obtain ⟨h1, h2⟩ := List.getElem?_eq_some_iff.mp h
  rw [← List.take_append_getElem h1] at hc
  rcases List.mem_append.mp hc with hc | hc
  · exact .inl hc
  · exact .inr ((List.mem_singleton.mp hc).trans h2)
theorem w_turn3 (kinds : D) (bands : List (Str × Str)) (ds : List Int) (hd : 16 ≤ ds.length) (hds : ∀ d ∈ ds, 0 ≤ d ∧ d < 420) (i : Nat) (hi : i < 4) (kd : Str) (hbl : bands.length ≤ 4) (kvs : List (DK × D)) (hl : kvs.length ≤ 8 * i) (hT : TI kvs) :
    NxTo (fun Γ M => ∃ kvs' : List (DK × D), TI kvs' ∧ kvs'.length ≤ 8 * (i + 1) ∧ Γ = [some kinds, some (.lst (bands.map bD)), some (.lst (ds.map .int)), some (.loc 0), none, none, none, none, none, none] ∧ M = [some (.asc .t kvs')])
     (turnF (gxTup 2 (gxCons (gxName 4) (gxCons (gxName 5) (gxNil)))) [4, 5, 6, 7, 8] B_law_weights_3 (.tup [.int i, .str kd]) [some kinds, some (.lst (bands.map bD)), some (.lst (ds.map .int)), some (.loc 0), none, none, none, none, none, none] [some (.asc .t kvs)]) := by
  obtain ⟨Γ1, M1, e1, k1, j1, j2, j3, rfl, rfl⟩ := (loop_to (g := gxTup 2 (gxCons (gxName 7) (gxCons (gxName 6) (gxNil)))) (kl := [6, 7]) (b := B_law_weights_1)
    (fun n Γ M => ∃ k1 : List (DK × D), TI k1 ∧ k1.length ≤ kvs.length + n ∧ (∀ c ∈ bands.take n, ∃ v : Int, getA k1 (tk kd c.1) = some (.int v)) ∧ Γ = [some kinds, some (.lst (bands.map bD)), some (.lst (ds.map .int)), some (.loc 0), some (.int i), some (.str kd), none, none, none, none] ∧ M = [some (.asc .t k1)])
    (enumL 0 (bands.map bD)) [some kinds, some (.lst (bands.map bD)), some (.lst (ds.map .int)), some (.loc 0), some (.int i), some (.str kd), none, none, none, none] [some (.asc .t kvs)] ⟨kvs, hT, by omega, (fun c hc => by rw [List.take_zero] at hc; cases hc), Eq.refl _, Eq.refl _⟩ (by
      rintro n d Γ M hn hlt ⟨k1, j1, j2, j3, rfl, rfl⟩
      rw [enumL_len, List.length_map] at hlt
      obtain ⟨b, hb, rfl⟩ := enum_get_eq bD hn
      obtain ⟨v, hv⟩ := w_turn1 kinds (.lst (bands.map bD)) ds hd hds i hi kd b n (by omega) k1 (by omega)
      refine .of hv ⟨_, j1.put _ _, by have := putA_len k1 (tk kd b.1) (.int v); omega, fun c hc => ?_, Eq.refl _, Eq.refl _⟩
      rcases take_mem hb hc with hc | rfl
      · obtain ⟨x, hx⟩ := j3 c hc
        exact put_has hx
      · exact ⟨v, getA_put_same _ _ _⟩)).ex
  rw [enumL_len, List.length_map] at j2 j3
  rw [List.take_length] at j3
  obtain ⟨Γ2, M2, e2, k2, q1, q2, q3, rfl, rfl⟩ := (loop_to (g := gxTup 2 (gxCons (gxName 7) (gxCons (gxName 6) (gxNil)))) (kl := [6, 7, 8]) (b := B_law_weights_2)
    (fun n Γ M => ∃ k2 : List (DK × D), TI k2 ∧ k2.length ≤ k1.length + n ∧ (∀ c ∈ bands, ∃ v : Int, getA k2 (tk kd c.1) = some (.int v)) ∧ Γ = [some kinds, some (.lst (bands.map bD)), some (.lst (ds.map .int)), some (.loc 0), some (.int i), some (.str kd), none, none, none, none] ∧ M = [some (.asc .t k2)])
    (enumL 0 (bands.map bD)) [some kinds, some (.lst (bands.map bD)), some (.lst (ds.map .int)), some (.loc 0), some (.int i), some (.str kd), none, none, none, none] [some (.asc .t k1)] ⟨k1, j1, by omega, j3, Eq.refl _, Eq.refl _⟩ (by
      rintro n d Γ M hn hlt ⟨k2, q1, q2, q3, rfl, rfl⟩
      rw [enumL_len, List.length_map] at hlt
      obtain ⟨b, hb, rfl⟩ := enum_get_eq bD hn
      obtain ⟨Γ', M', e, k3, r1, r2, r3, rfl, rfl⟩ := (w_turn2 kinds bands ds hd hds i hi kd b (List.mem_of_getElem? hb) hbl n (by omega) k2 (by omega) q3).ex
      exact .of e ⟨k3, r1 q1, by omega, r3, Eq.refl _, Eq.refl _⟩)).ex
  rw [enumL_len, List.length_map] at q2
  refine .of (Γ := [some kinds, some (.lst (bands.map bD)), some (.lst (ds.map .int)), some (.loc 0), none, none, none, none, none, none]) (M := [some (.asc .t k2)]) ?_ ⟨k2, q1, by omega, Eq.refl _, Eq.refl _⟩
  simp -implicitDefEqProofs [turnF, e1, e2]
theorem weights_ok (kinds : List Str) (bands : List (Str × Str)) (ds : List Int) (hd : 16 ≤ ds.length) (hds : ∀ d ∈ ds, 0 ≤ d ∧ d < 420) (hk : kinds.length ≤ 4) (hbl : bands.length ≤ 4) : ∃ kvs : List (DK × D), TI kvs ∧ P_law_weights [.lst (kinds.map .str), .lst (bands.map bD), .lst (ds.map .int)] = some (.fresh (.asc .t kvs)) := by
  obtain ⟨Γ1, M1, e1, k1, j1, j2, rfl, rfl⟩ := (loop_to (g := gxTup 2 (gxCons (gxName 4) (gxCons (gxName 5) (gxNil)))) (kl := [4, 5, 6, 7, 8]) (b := B_law_weights_3)
    (fun n Γ M => ∃ k1 : List (DK × D), TI k1 ∧ k1.length ≤ 8 * n ∧ Γ = [some (.lst (kinds.map .str)), some (.lst (bands.map bD)), some (.lst (ds.map .int)), some (.loc 0), none, none, none, none, none, none] ∧ M = [some (.asc .t k1)])
    (enumL 0 (kinds.map .str)) [some (.lst (kinds.map .str)), some (.lst (bands.map bD)), some (.lst (ds.map .int)), some (.loc 0), none, none, none, none, none, none] [some (.asc .t [])] ⟨[], fun p hp => (List.not_mem_nil hp).elim, by decide, Eq.refl _, Eq.refl _⟩ (by
      rintro n d Γ M hn hlt ⟨k1, j1, j2, rfl, rfl⟩
      rw [enumL_len, List.length_map] at hlt
      obtain ⟨b, hb, rfl⟩ := enum_get_eq D.str hn
      exact w_turn3 (.lst (kinds.map .str)) bands ds hd hds n (by omega) b hbl k1 j2 j1)).ex
  refine ⟨k1, j1, pRun_f (n := 0) (M := [some (.asc .t k1)]) (run_rt ?_) rfl j1.free⟩
  simp -implicitDefEqProofs [S_law_weights, xNewT, e1]
theorem prices_ok (kinds : List Str) (bands : List (Str × Str)) (ds : List Int) (hd : 16 ≤ ds.length) (hds : ∀ d ∈ ds, 0 ≤ d ∧ d < 420) (hk : kinds.length ≤ 4) (hbl : bands.length ≤ 4) : ∃ kvs : List (DK × D), TI kvs ∧ P_law_prices [.lst (kinds.map .str), .lst (bands.map bD), .lst (ds.map .int)] = some (.fresh (.asc .t kvs)) := by
  obtain ⟨Γ1, M1, e1, k1, j1, j2, rfl, rfl⟩ := (loop_to (g := gxTup 2 (gxCons (gxName 4) (gxCons (gxName 5) (gxNil)))) (kl := [4, 5, 6, 7, 8]) (b := B_law_prices_2)
    (fun n Γ M => ∃ k1 : List (DK × D), TI k1 ∧ k1.length ≤ 8 * n ∧ Γ = [some (.lst (kinds.map .str)), some (.lst (bands.map bD)), some (.lst (ds.map .int)), some (.loc 0), none, none, none, none, none] ∧ M = [some (.asc .t k1)])
    (enumL 0 (kinds.map .str)) [some (.lst (kinds.map .str)), some (.lst (bands.map bD)), some (.lst (ds.map .int)), some (.loc 0), none, none, none, none, none] [some (.asc .t [])] ⟨[], fun p hp => (List.not_mem_nil hp).elim, by decide, Eq.refl _, Eq.refl _⟩ (by
      rintro n d Γ M hn hlt ⟨kvs, j1, j2, rfl, rfl⟩
      rw [enumL_len, List.length_map] at hlt
      obtain ⟨kd, hb, rfl⟩ := enum_get_eq D.str hn
      obtain ⟨Γ1, M1, e1, k1, i1, i2, rfl, rfl⟩ := (loop_to (g := gxTup 2 (gxCons (gxName 7) (gxCons (gxName 6) (gxNil)))) (kl := [6, 7, 8]) (b := B_law_prices_1)
        (fun m Γ M => ∃ k1 : List (DK × D), TI k1 ∧ k1.length ≤ kvs.length + m ∧ Γ = [some (.lst (kinds.map .str)), some (.lst (bands.map bD)), some (.lst (ds.map .int)), some (.loc 0), some (.int n), some (.str kd), none, none, none] ∧ M = [some (.asc .t k1)])
        (enumL 0 (bands.map bD)) [some (.lst (kinds.map .str)), some (.lst (bands.map bD)), some (.lst (ds.map .int)), some (.loc 0), some (.int n), some (.str kd), none, none, none] [some (.asc .t kvs)] ⟨kvs, j1, by omega, Eq.refl _, Eq.refl _⟩ (by
          rintro m d Γ M hm hlt2 ⟨k1, i1, i2, rfl, rfl⟩
          rw [enumL_len, List.length_map] at hlt2
          obtain ⟨b, hb2, rfl⟩ := enum_get_eq bD hm
          obtain ⟨v, hv⟩ := p_turn1 (.lst (kinds.map .str)) (.lst (bands.map bD)) ds hd hds n (by omega) kd b m (by omega) k1 (by omega)
          exact .of hv ⟨_, i1.put _ _, by have := putA_len k1 (tk kd b.1) (.int v); omega, Eq.refl _, Eq.refl _⟩)).ex
      rw [enumL_len, List.length_map] at i2
      refine .of (Γ := [some (.lst (kinds.map .str)), some (.lst (bands.map bD)), some (.lst (ds.map .int)), some (.loc 0), none, none, none, none, none]) (M := [some (.asc .t k1)]) ?_ ⟨k1, i1, by omega, Eq.refl _, Eq.refl _⟩
      simp -implicitDefEqProofs [turnF, e1])).ex
  refine ⟨k1, j1, pRun_f (n := 0) (M := [some (.asc .t k1)]) (run_rt ?_) rfl j1.free⟩
  simp -implicitDefEqProofs [S_law_prices, xNewT, e1]
theorem steps_ok (many : Int) (hm : 0 ≤ many ∧ many < 5) (ds : List Int) (hd : 20 ≤ ds.length) (hds : ∀ d ∈ ds, 0 ≤ d ∧ d < 420) : ∃ st : List D, locFrees st = true ∧ P_law_steps [.int many, .lst (ds.map .int)] = some (.fresh (.lst st)) := by
  obtain ⟨Γ1, M1, e1, st, un, j1, j2, rfl, rfl⟩ := (loop_to (g := gxName 4) (kl := [4]) (b := B_law_steps_1)
    (fun n Γ M => ∃ (st : List D) (un : Int), st.length = n ∧ locFrees st = true ∧ Γ = [some (.int many), some (.lst (ds.map .int)), some (.int un), some (.loc 0), none] ∧ M = [some (.lst st)])
    (rngL 0 many.toNat) [some (.int many), some (.lst (ds.map .int)), some (.int 0), some (.loc 0), none] [some (.lst [])] ⟨[], 0, rfl, rfl, Eq.refl _, Eq.refl _⟩ (by
      rintro n d Γ M hn hlt ⟨st, un, j1, j2, rfl, rfl⟩
      obtain ⟨hn2, rfl⟩ := rngL_get hn
      rw [Int.zero_add]
      obtain ⟨x, x1, x2, x3⟩ := dAt hds (i := 6 + n) (j := 6 + (n : Int)) (by omega) (by omega)
      obtain ⟨y, y1, y2, y3⟩ := dAt hds (i := 10 + n) (j := 10 + (n : Int)) (by omega) (by omega)
      obtain ⟨s, s1, s2⟩ : ∃ s : Int, 0 < s ∧ atI [D.int 6, .int 60] (y % 2) = some (.int s) := by
        have : y % 2 = 0 ∨ y % 2 = 1 := by omega
        rcases this with e | e <;> rw [e]
        · exact ⟨6, by decide, rfl⟩
        · exact ⟨60, by decide, rfl⟩
      have hl : st.length < 1000000 := by omega
      have bo : ∀ b : Bool, numOk (if b = true then 1 else 0) = true := fun b => by cases b <;> rfl
      refine .of (Γ := [some (.int many), some (.lst (ds.map .int)), some (.int (un + 1 + x % s + 100000000000 * (if decide (x % 11 = 5) = true then 1 else 0))), some (.loc 0), none]) (M := [some (.lst (st ++ [.tup [.int (un + 1 + x % s + 100000000000 * (if decide (x % 11 = 5) = true then 1 else 0)), .int (y / 2 % 9 + 100000000000 * (if decide (y % 13 = 4) = true then 1 else 0))]]))]) ?_
        ⟨_, _, by rw [List.length_append, List.length_singleton, j1], by rw [locFrees_append, j2]; rfl, Eq.refl _, Eq.refl _⟩
      have b1 := bo (decide (x % 11 = 5))
      have b2 := bo (decide (y % 13 = 4))
      simp -implicitDefEqProofs only [decide_eq_true_eq] at b1 b2
      simp -implicitDefEqProofs [turnF, x1, y1, s1, s2, b1, b2, hl])).ex
  refine ⟨st, j2, pRun_f (n := 0) (M := [some (.lst st)]) (run_rt ?_) rfl j2⟩
  have hr : (-1000000 : Int) < many ∧ many < 1000000 := by omega
  simp -implicitDefEqProofs [S_law_steps, hr, e1]
set_option Elab.async false
set_option linter.all false
set_option maxRecDepth 100000
set_option maxHeartbeats 4000000
open PySem L2 G
theorem nodup_len {α : Type} [DecidableEq α] : ∀ (l S : List α), l.Nodup → (∀ x ∈ l, x ∈ S) → l.length ≤ S.length
  | [], _, _, _ => Nat.zero_le _
  | x :: r, S, h, hs => by
    rw [List.nodup_cons] at h
    have hx := hs x List.mem_cons_self
    have := nodup_len r (S.erase x) h.2 fun y hy => (List.mem_erase_of_ne (fun e => h.1 (by rw [← e]; exact hy))).mpr (hs y (List.mem_cons_of_mem _ hy))
    rw [List.length_erase_of_mem hx] at this
    have hp : 0 < S.length := List.length_pos_of_mem hx
    rw [List.length_cons]
    omega
/-- all is frozen but for the own things of S -/
def FreeBut (S : List Nat) (kvs : List (DK × D)) : Prop := ∀ p ∈ kvs, locFree p.2 = true ∨ ∃ m ∈ S, p.2 = .loc m
theorem FreeBut.put {S : List Nat} {kvs : List (DK × D)} (h : FreeBut S kvs) (k : DK) {d : D} (hd : locFree d = true) : FreeBut S (putA kvs k d) := fun p hp => by
  rcases putA_mem hp with hp | rfl
  · exact h p hp
  · exact .inl hd
theorem FreeBut.putLoc {S : List Nat} {kvs : List (DK × D)} (h : FreeBut S kvs) (k : DK) (m : Nat) : FreeBut (m :: S) (putA kvs k (.loc m)) := fun p hp => by
  rcases putA_mem hp with hp | rfl
  · rcases h p hp with h | ⟨j, h1, h2⟩
    · exact .inl h
    · exact .inr ⟨j, List.mem_cons_of_mem _ h1, h2⟩
  · exact .inr ⟨m, List.mem_cons_self, rfl⟩
theorem FreeBut.unloc {S : List Nat} {m : Nat} {c : D} {kvs : List (DK × D)} (hc : locFree c = true) (h : FreeBut (m :: S) kvs) : FreeBut S (unloc m c kvs) := fun p hp => by
  obtain ⟨q, h1, h2⟩ := List.mem_map.mp hp
  rcases h q h1 with hf | ⟨j, hj, e⟩
  · left
    obtain ⟨qk, qd⟩ := q
    rw [← h2]
    cases qd <;> first | exact hf | (cases hf)
  · obtain ⟨qk, qd⟩ := q
    dsimp only at e
    subst e
    rw [← h2]
    dsimp only
    by_cases hm : j = m
    · rw [if_pos hm]; exact .inl hc
    · rw [if_neg hm]
      rcases List.mem_cons.mp hj with z | z
      · exact (hm z).elim
      · exact .inr ⟨j, z, rfl⟩
theorem FreeBut.free {kvs : List (DK × D)} (h : FreeBut [] kvs) : locFreeA kvs = true := locFreeA_of fun p hp => by
  rcases h p hp with h | ⟨j, h1, _⟩
  · exact h
  · cases h1
theorem getA_unloc (m : Nat) (c : D) (k : DK) : ∀ kvs : List (DK × D), getA (unloc m c kvs) k = (getA kvs k).map fun d => match d with
    | .loc j => if j = m then c else .loc j
    | d => d
  | [] => rfl
  | (i, x) :: r => by
    have ih := getA_unloc m c k r
    by_cases e : i = k
    · have e1 : getA ((i, x) :: r) k = some x := by show (if i = k then some x else _) = _; rw [if_pos e]
      rw [e1]
      cases x with
      | loc j =>
        show getA ((if j = m then (i, c) else (i, .loc j)) :: unloc m c r) k = some (if j = m then c else .loc j)
        by_cases hm : j = m
        · rw [if_pos hm, if_pos hm]; show (if i = k then some c else _) = _; rw [if_pos e]
        · rw [if_neg hm, if_neg hm]; show (if i = k then some (D.loc j) else _) = _; rw [if_pos e]
      | _ => show (if i = k then some _ else _) = _; rw [if_pos e]; rfl
    · have e1 : getA ((i, x) :: r) k = getA r k := by show (if i = k then some x else _) = _; rw [if_neg e]
      rw [e1, ← ih]
      cases x with
      | loc j =>
        show getA ((if j = m then (i, c) else (i, .loc j)) :: unloc m c r) k = _
        by_cases hm : j = m
        · rw [if_pos hm]; show (if i = k then some c else _) = _; rw [if_neg e]
        · rw [if_neg hm]; show (if i = k then some (D.loc j) else _) = _; rw [if_neg e]
      | _ => show (if i = k then some _ else _) = _; rw [if_neg e]; rfl
/-- special days -/
def SpOk (W : List Str) (sp : List (DK × D)) : Prop := ∀ p ∈ sp, ∃ (i : Int) (w : Str), p = (.i i, .str w) ∧ w ∈ W
theorem SpOk.put {W : List Str} {sp : List (DK × D)} (h : SpOk W sp) (i : Int) {w : Str} (hw : w ∈ W) : SpOk W (putA sp (.i i) (.str w)) := fun p hp => by
  rcases putA_mem hp with hp | rfl
  · exact h p hp
  · exact ⟨i, w, rfl, hw⟩
theorem SpOk.free {W : List Str} {sp : List (DK × D)} (h : SpOk W sp) : locFreeA sp = true := locFreeA_of fun p hp => by
  obtain ⟨i, w, rfl, _⟩ := h p hp
  rfl
theorem SpOk.keys {W : List Str} : ∀ {sp : List (DK × D)}, SpOk W sp → ∃ ns : List Int, iKeys sp = some ns ∧ ns.length = sp.length ∧ ∀ n ∈ ns, ∃ w : Str, w ∈ W ∧ getA sp (.i n) = some (.str w)
  | [], _ => ⟨[], rfl, rfl, fun _ h => (List.not_mem_nil h).elim⟩
  | p :: r, h => by
    obtain ⟨i, w, rfl, hw⟩ := h p List.mem_cons_self
    obtain ⟨ns, h1, h2, h3⟩ := SpOk.keys (sp := r) fun q hq => h q (List.mem_cons_of_mem _ hq)
    refine ⟨i :: ns, by show (iKeys r).map (i :: ·) = _; rw [h1]; rfl, by simp [h2], fun n hn => ?_⟩
    by_cases e : i = n
    · subst e
      exact ⟨w, hw, by show (if DK.i i = DK.i i then some (D.str w) else _) = _; rw [if_pos rfl]⟩
    · rcases List.mem_cons.mp hn with z | z
      · exact (e z.symm).elim
      · obtain ⟨v, v1, v2⟩ := h3 n z
        exact ⟨v, v1, by show (if DK.i i = DK.i n then some (D.str w) else getA r (.i n)) = _; rw [if_neg (fun q => e (DK.i.inj q)), v2]⟩
theorem sp_turn (ws : List Str) (hw : ws.length = 12) (th : List Int) (ht : th.length = 20) (hth : ∀ d ∈ th, 0 ≤ d ∧ d < 420) (x0 x1 x2 x5 : D) (sp rest : List (DK × D)) (i : Nat) (hi : i < 12) (hl : sp.length ≤ i) (hr : getA rest (.s "special") = some (.loc 0)) :
    ∃ (n : Int) (w : Str), w ∈ ws.take 4 ∧ turnF (gxName 7) [7] B_law_parts_1 (.int i) [some x0, some x1, some x2, some (.lst (th.map .int)), some (.lst (ws.map .str)), some x5, some (.loc 1), none, none, none, none, none, none, none] [some (.asc .k sp), some (.asc .k rest)] =
      some (.nx [some x0, some x1, some x2, some (.lst (th.map .int)), some (.lst (ws.map .str)), some x5, some (.loc 1), none, none, none, none, none, none, none] [some (.asc .k (putA sp (.i n) (.str w))), some (.asc .k rest)]) := by
  obtain ⟨a, a1, a2, a3⟩ := dAt hth (i := i) (j := (i : Int)) rfl (by omega)
  obtain ⟨b, b1, b2, b3⟩ := dAt hth (i := i + 3) (j := (i : Int) + 3) (by omega) (by omega)
  obtain ⟨m, m1, m2⟩ : ∃ m : Int, 0 < m ∧ atI [D.int 8, .int 60, .int 401] (a / 60 % 3) = some (.int m) := by
    have : a / 60 % 3 = 0 ∨ a / 60 % 3 = 1 ∨ a / 60 % 3 = 2 := by omega
    rcases this with e | e | e <;> rw [e]
    · exact ⟨8, by decide, rfl⟩
    · exact ⟨60, by decide, rfl⟩
    · exact ⟨401, by decide, rfl⟩
  have w0 := atS (l := ws) (i := 0) (j := 0) rfl (by omega)
  have w2 := atS (l := ws) (i := 2) (j := 2) rfl (by omega)
  have w3 := atS (l := ws) (i := 3) (j := 3) rfl (by omega)
  have inT : ∀ k : Nat, (hk : k < 4) → ws[k]'(by omega) ∈ ws.take 4 := fun k hk => by
    have : (ws.take 4)[k]'(by rw [List.length_take]; omega) = ws[k]'(by omega) := List.getElem_take
    rw [← this]
    exact List.getElem_mem _
  obtain ⟨w, v1, v2⟩ : ∃ w : Str, w ∈ ws.take 4 ∧ atI [D.str (ws[2]'(by omega)), .str (ws[3]'(by omega)), .str (ws[0]'(by omega))] (b % 3) = some (.str w) := by
    have : b % 3 = 0 ∨ b % 3 = 1 ∨ b % 3 = 2 := by omega
    rcases this with e | e | e <;> rw [e]
    · exact ⟨_, inT 2 (by decide), rfl⟩
    · exact ⟨_, inT 3 (by decide), rfl⟩
    · exact ⟨_, inT 0 (by decide), rfl⟩
  refine ⟨a % m, w, v1, ?_⟩
  have hsp := item_loc_s (M := [some (.asc .k sp), some (.asc .k rest)]) (n := 1) (kvs := rest) (z := ("special" : Str)) rfl
  rw [hr] at hsp
  have hl' : sp.length < 1000000 := by omega
  have n60 : numOk 60 = true := rfl
  simp -implicitDefEqProofs [turnF, a1, b1, m2, m1, w0, w2, w3, v2, hsp, kPut_i, hl', -gItem_lo]
theorem kinds_turn (W : List Str) (x0 x1 x2 x3 x4 x5 : D) (M : Mem) (ks : List Str) (w : Str) (hk : ks.Nodup) (hs : ∀ x ∈ ks, x ∈ W) (hw : w ∈ W) (hW : W.length ≤ 4) :
    NxTo (fun Γ M' => ∃ ks' : List Str, ks'.Nodup ∧ (∀ x ∈ ks', x ∈ W) ∧ Γ = [some x0, some x1, some x2, some x3, some x4, some x5, some (.loc 1), none, some (.loc M.length), none, none, none, none, none] ∧ M' = M ++ [some (.lst (ks'.map .str))])
      (turnF (gxName 9) [9] B_law_parts_2 (.str w) [some x0, some x1, some x2, some x3, some x4, some x5, some (.loc 1), none, some (.loc M.length), none, none, none, none, none] (M ++ [some (.lst (ks.map .str))])) := by
  have hl := nodup_len ks W hk hs
  have hl' : ks.length < 1000000 := by omega
  have hin : gNotIn (M ++ [some (.lst (ks.map .str))]) (.str w) (.loc M.length) = some (.bl (!decide (w ∈ ks))) := by
    have hv : vS (M ++ [some (.lst (ks.map .str))]) (.loc M.length) = some (ks.map D.str) := by
      rw [vS_loc, mget0]; rfl
    have : gInB (M ++ [some (.lst (ks.map .str))]) (.str w) (.loc M.length) = some (decide (w ∈ ks)) := by
      show (match vS (M ++ [some (.lst (ks.map .str))]) (.loc M.length) with
        | some ds => if (flatD (.str w) && ds.all flatD) = true then some (ds.any fun y => eqFl y (.str w)) else none
        | none => _) = _
      rw [hv]
      have a1 : (ks.map D.str).all flatD = true := by
        rw [List.all_map, List.all_eq_true]; exact fun _ _ => rfl
      have a2 : ((ks.map D.str).any fun y => eqFl y (.str w)) = decide (w ∈ ks) := by
        rw [List.any_map]
        clear hv a1 hl hl' hk hs
        induction ks with
        | nil => simp
        | cons y r ih =>
          rw [List.any_cons, ih]
          show (decide (y = w) || decide (w ∈ r)) = decide (w ∈ y :: r)
          by_cases e : y = w
          · subst e; simp
          · have : ¬ w = y := fun z => e z.symm
            simp [e, this]
      show (if (true && (ks.map D.str).all flatD) = true then some ((ks.map D.str).any fun y => eqFl y (.str w)) else none) = _
      rw [a1, a2]; rfl
    show (gInB _ _ _).map _ = _
    rw [this]; rfl
  by_cases h : w ∈ ks
  · refine .of (Γ := [some x0, some x1, some x2, some x3, some x4, some x5, some (.loc 1), none, some (.loc M.length), none, none, none, none, none]) (M := M ++ [some (.lst (ks.map .str))]) ?_ ⟨ks, hk, hs, Eq.refl _, Eq.refl _⟩
    rw [decide_eq_true h] at hin
    simp -implicitDefEqProofs [turnF, hin]
  · refine .of (Γ := [some x0, some x1, some x2, some x3, some x4, some x5, some (.loc 1), none, some (.loc M.length), none, none, none, none, none]) (M := M ++ [some (.lst ((ks ++ [w]).map .str))]) ?_ ⟨ks ++ [w], ?_, fun x hx => ?_, Eq.refl _, Eq.refl _⟩
    · rw [decide_eq_false h] at hin
      simp -implicitDefEqProofs [turnF, hin, hl']
    · rw [List.nodup_append]
      exact ⟨hk, by simp, fun a ha b hb e => h (by rw [List.mem_singleton] at hb; rw [← hb, ← e]; exact ha)⟩
    · rcases List.mem_append.mp hx with hx | hx
      · exact hs x hx
      · rw [List.mem_singleton.mp hx]; exact hw
theorem bands_turn (ws : List Str) (hw : ws.length = 12) (fs : List Int) (hf : fs.length = 20) (hfs : ∀ d ∈ fs, 0 ≤ d ∧ d < 60) (x0 x2 x3 x5 x8 : D) (M : Mem) (bs : List (Str × Str)) (i : Nat) (hi : i < 4) (hl : bs.length ≤ 4) :
    ∃ b : Str × Str, turnF (gxName 7) [7] B_law_parts_3 (.int i) [some x0, some (.lst (fs.map .int)), some x2, some x3, some (.lst (ws.map .str)), some x5, some (.loc 1), none, some x8, none, some (.loc M.length), none, none, none] (M ++ [some (.lst (bs.map bD))]) =
      some (.nx [some x0, some (.lst (fs.map .int)), some x2, some x3, some (.lst (ws.map .str)), some x5, some (.loc 1), none, some x8, none, some (.loc M.length), none, none, none] (M ++ [some (.lst ((bs ++ [b]).map bD))])) := by
  obtain ⟨a, a1, a2, a3⟩ := dAt hfs (i := 10 + i) (j := 10 + (i : Int)) (by omega) (by omega)
  obtain ⟨c, c1, c2, c3⟩ := dAt hfs (i := 18) (j := 18) rfl (by omega)
  obtain ⟨m, m1, m2⟩ : ∃ m : Int, (0 < m ∧ m ≤ 4) ∧ atI [D.int 2, .int 4] (c % 2) = some (.int m) := by
    have : c % 2 = 0 ∨ c % 2 = 1 := by omega
    rcases this with e | e <;> rw [e]
    · exact ⟨2, by decide, rfl⟩
    · exact ⟨4, by decide, rfl⟩
  have e0 := Int.emod_nonneg a (show m ≠ 0 by omega)
  have e1 := Int.emod_lt_of_pos a m1.1
  have w1 := atS (l := ws) (i := 4 + i) (j := 4 + (i : Int)) (by omega) (by omega)
  have w2 := atS (l := ws) (i := (8 + a % m).toNat) (j := 8 + a % m) (by omega) (by omega)
  have hl' : bs.length < 1000000 := by omega
  refine ⟨(ws[4 + i]'(by omega), ws[(8 + a % m).toNat]'(by omega)), ?_⟩
  simp -implicitDefEqProofs [turnF, a1, c1, m2, m1.1, w1, w2, hl', bD]
theorem figs_turn (bandsD x0 x1 x2 x4 x5 x8 : D) (th : List Int) (ht : th.length = 20) (hth : ∀ d ∈ th, 0 ≤ d ∧ d < 420) (b : Str × Str) (i : Nat) (hi : i < 4) (m0 m2 m3 : Option D) (rest figs rises : List (DK × D)) (hfl : figs.length ≤ 4) (hrl : rises.length ≤ 4) (h1 : getA rest (.s "figures") = some (.loc 4)) (h2 : getA rest (.s "rises") = some (.loc 5)) (hF : ∀ p ∈ figs, ∃ f : Int, p.2 = .int f ∧ 1 ≤ f ∧ f ≤ 9) (hR : TI rises) :
    NxTo (fun Γ M => ∃ figs' rises' : List (DK × D), figs'.length ≤ figs.length + 1 ∧ rises'.length ≤ rises.length + 1 ∧ (∀ p ∈ figs', ∃ f : Int, p.2 = .int f ∧ 1 ≤ f ∧ f ≤ 9) ∧ TI rises' ∧ (∃ d, getA figs' (.s b.2) = some d) ∧ (∀ k, (∃ d, getA figs k = some d) → ∃ d, getA figs' k = some d) ∧
        Γ = [some x0, some x1, some x2, some (.lst (th.map .int)), some x4, some x5, some (.loc 1), none, some x8, none, some bandsD, none, none, none] ∧ M = [m0, some (.asc .k rest), m2, m3, some (.asc .k figs'), some (.asc .k rises')])
      (turnF (gxTup 2 (gxCons (gxName 7) (gxCons (gxName 11) (gxNil)))) [7, 11] B_law_parts_4 (.tup [.int i, bD b]) [some x0, some x1, some x2, some (.lst (th.map .int)), some x4, some x5, some (.loc 1), none, some x8, none, some bandsD, none, none, none] [m0, some (.asc .k rest), m2, m3, some (.asc .k figs), some (.asc .k rises)]) := by
  have e1 := item_loc_s (M := [m0, some (.asc .k rest), m2, m3, some (.asc .k figs), some (.asc .k rises)]) (n := 1) (kvs := rest) (z := ("figures" : Str)) rfl
  rw [h1] at e1
  have hin : gNotIn [m0, some (.asc .k rest), m2, m3, some (.asc .k figs), some (.asc .k rises)] (.str b.2) (.loc 4) = some (.bl (!(getA figs (.s b.2)).isSome)) := by
    have hg : gGet [m0, some (.asc .k rest), m2, m3, some (.asc .k figs), some (.asc .k rises)] (.loc 4) (.str b.2) = some (getA figs (.s b.2)) := rfl
    rfl
  by_cases h : ∃ d, getA figs (.s b.2) = some d
  · obtain ⟨d, hd⟩ := h
    rw [hd] at hin
    refine .of (Γ := [some x0, some x1, some x2, some (.lst (th.map .int)), some x4, some x5, some (.loc 1), none, some x8, none, some bandsD, none, none, none]) (M := [m0, some (.asc .k rest), m2, m3, some (.asc .k figs), some (.asc .k rises)]) ?_ ⟨figs, rises, by omega, by omega, hF, hR, ⟨d, hd⟩, fun _ h => h, Eq.refl _, Eq.refl _⟩
    simp -implicitDefEqProofs [turnF, bD, b1, e1, hin, -gItem_lo]
  · have hn : getA figs (.s b.2) = none := by
      cases hh : getA figs (.s b.2) with
      | none => rfl
      | some d => exact (h ⟨d, hh⟩).elim
    rw [hn] at hin
    obtain ⟨a, a1, a2, a3⟩ := dAt hth (i := 14 + i) (j := 14 + (i : Int)) (by omega) (by omega)
    obtain ⟨c, c1, c2, c3⟩ := dAt hth (i := i) (j := (i : Int)) rfl (by omega)
    have e2 := item_loc_s (M := [m0, some (.asc .k rest), m2, m3, some (.asc .k (putA figs (.s b.2) (.int (1 + a % 9)))), some (.asc .k rises)]) (n := 1) (kvs := rest) (z := ("rises" : Str)) rfl
    rw [h2] at e2
    obtain ⟨v, v1⟩ : ∃ v : Int, atI [D.int (1 + c % 30), .int 1000000000] (a / 9 % 2) = some (.int v) := by
      have : a / 9 % 2 = 0 ∨ a / 9 % 2 = 1 := by omega
      rcases this with e | e <;> rw [e] <;> exact ⟨_, rfl⟩
    have l1 : figs.length < 1000000 := by omega
    have l2 : rises.length < 1000000 := by omega
    refine .of (Γ := [some x0, some x1, some x2, some (.lst (th.map .int)), some x4, some x5, some (.loc 1), none, some x8, none, some bandsD, none, none, none]) (M := [m0, some (.asc .k rest), m2, m3, some (.asc .k (putA figs (.s b.2) (.int (1 + a % 9)))), some (.asc .k (putA rises (.s b.2) (.int v)))]) ?_
      ⟨putA figs (.s b.2) (.int (1 + a % 9)), putA rises (.s b.2) (.int v), putA_len _ _ _, putA_len _ _ _, fun p hp => ?_, hR.put _ _, ⟨_, getA_put_same _ _ _⟩, fun k hk => ?_, Eq.refl _, Eq.refl _⟩
    · simp -implicitDefEqProofs [turnF, bD, b1, e1, hin, a1, c1, kPut_s, l1, l2, e2, v1, -gItem_lo]
    · rcases putA_mem hp with hp | rfl
      · exact hF p hp
      · exact ⟨1 + a % 9, rfl, by omega, by omega⟩
    · by_cases e : k = .s b.2
      · subst e; exact ⟨_, getA_put_same _ _ _⟩
      · obtain ⟨d, hd⟩ := hk
        exact ⟨d, by rw [getA_put_other _ _ e]; exact hd⟩
set_option Elab.async false
set_option linter.all false
set_option maxRecDepth 100000
set_option maxHeartbeats 4000000
open PySem L2 G
theorem pick6 {i : Int} (h : 0 ≤ i ∧ i < 6) : ∃ m : Int, (0 ≤ m ∧ m ≤ 12) ∧ atI [D.int 0, .int 1, .int 2, .int 1, .int 2, .int 12] i = some (.int m) := by
  have : i = 0 ∨ i = 1 ∨ i = 2 ∨ i = 3 ∨ i = 4 ∨ i = 5 := by omega
  rcases this with z | z | z | z | z | z <;> subst z
  · exact ⟨0, by decide, rfl⟩
  · exact ⟨1, by decide, rfl⟩
  · exact ⟨2, by decide, rfl⟩
  · exact ⟨1, by decide, rfl⟩
  · exact ⟨2, by decide, rfl⟩
  · exact ⟨12, by decide, rfl⟩
theorem week_ok (ws : List Str) (hw : ws.length = 12) (m : Nat) (hm : 1 ≤ m ∧ m ≤ 3) (fs : List Int) (hfs : ∀ d ∈ fs, 0 ≤ d ∧ d < 60) (Γ : Sl) (hΓ : Γ.length = 14) (h5 : Γ[5]? = some (some (.lst ((ws.take m).map .str)))) : ∃ wk : List Str, (∀ x ∈ wk, x ∈ ws.take 4) ∧ wk.length = fs.length ∧
    lcF (gxName 12) tYes_ (xBin gItem (xVar 5) (xBin gMod (xVar 12) (xCall gLen (xAcons (xVar 5) (xAnil))))) Γ [] (fs.map .int) = some (wk.map .str) := by
  have hl : (ws.take m).length = m := by rw [List.length_take]; omega
  have pick : ∀ d : Int, ∃ w : Str, w ∈ ws.take 4 ∧ atI ((ws.take m).map D.str) (d % m) = some (.str w) := fun d => by
    have e0 := Int.emod_nonneg d (show (m : Int) ≠ 0 by omega)
    have e1 := Int.emod_lt_of_pos d (show (0 : Int) < m by omega)
    have h := atS (l := ws.take m) (i := (d % m).toNat) (j := d % m) (by omega) (by omega)
    refine ⟨_, ?_, h⟩
    have : (ws.take m)[(d % m).toNat]'(by omega) ∈ ws.take m := List.getElem_mem _
    exact List.take_subset_take_left ws (show m ≤ 4 by omega) this
  have fn : ∃ g : Int → Str, ∀ d, g d ∈ ws.take 4 ∧ atI ((ws.take m).map D.str) (d % m) = some (.str (g d)) := ⟨fun d => (pick d).choose, fun d => (pick d).choose_spec⟩
  obtain ⟨g, hg⟩ := fn
  refine ⟨fs.map g, fun x hx => ?_, List.length_map _, ?_⟩
  · obtain ⟨d, -, rfl⟩ := List.mem_map.mp hx
    exact (hg d).1
  · rw [List.map_map]
    refine lcF_map D.int (D.str ∘ g) fs fun d _ => ⟨Γ.set 12 (some (.int d)), rfl, rfl, ?_⟩
    have a5 : (Γ.set 12 (some (.int d)))[5]? = some (some (.lst ((ws.take m).map .str))) := by rw [List.getElem?_set_ne (by decide)]; exact h5
    have a12 : (Γ.set 12 (some (.int d)))[12]? = some (some (.int d)) := List.getElem?_set_self (by omega)
    have hm0 : 0 < m := by omega
    have hmin : min m ws.length = m := by omega
    have := (hg d).2
    simp only [List.map_take] at this a5
    simp -implicitDefEqProofs [a5, a12, hmin, hm0, this]
def key (s : Str) : DK := .s s
theorem kne : DK.s ("bands" : Str) ≠ .s "weights" ∧ DK.s ("bands" : Str) ≠ .s "prices" ∧ DK.s ("bands" : Str) ≠ .s "steps" ∧ DK.s ("bands" : Str) ≠ .s "standing" ∧ DK.s ("bands" : Str) ≠ .s "month" ∧ DK.s ("bands" : Str) ≠ .s "figures" ∧ DK.s ("bands" : Str) ≠ .s "rises" ∧ DK.s ("figures" : Str) ≠ .s "rises" := by decide +kernel
theorem kne2 : DK.s ("special" : Str) ≠ .s "week" ∧ ([Sum.inr ("week" : Str), Sum.inr ("special" : Str)] : List Key).Nodup := by decide +kernel
theorem sorted_lc (W : List Str) (sp rest : List (DK × D)) (hsp : SpOk W sp) (hl : sp.length < 64) (M : Mem) (hM : M[1]? = some (some (.asc .k rest))) (hr : getA rest (.s "special") = some (.asc .k sp)) (Γ : Sl) (hΓ : Γ.length = 14) (h6 : Γ[6]? = some (some (.loc 1))) (h13 : Γ.set 13 none = Γ) : ∃ ls : List Str, (∀ x ∈ ls, x ∈ W) ∧ ls.length < 64 ∧
    xLc (gxName 13) [13] (ixL (xCall gSort (xAcons (xBin gItem (xVar 6) (xC (.str "special"))) (xAnil)))) (tYes_) (xBin gItem (xBin gItem (xVar 6) (xC (.str "special"))) (xVar 13)) Γ M = some (.lst (ls.map .str)) := by
  obtain ⟨ns, n1, n2, n3⟩ := hsp.keys
  have item : gItem M (.loc 1) (.str "special") = some (.asc .k sp) := (item_loc_s hM).trans hr
  have perm := List.mergeSort_perm ns fun a b => decide (a ≤ b)
  have srt : gSort M [.asc .k sp] = some (.lst ((sortI ns).map .int)) := by
    show ((vK M (.asc .k sp)).bind fun kvs => (iKeys kvs).bind fun ns => if ns.length < 64 then some (D.lst ((sortI ns).map .int)) else none) = _
    show ((iKeys sp).bind fun ns => if ns.length < 64 then some (D.lst ((sortI ns).map .int)) else none) = _
    rw [n1]
    exact if_pos (by omega)
  have hlen : (sortI ns).length = sp.length := by rw [← n2]; exact perm.length_eq
  have fn : ∃ g : Int → Str, ∀ n ∈ sortI ns, g n ∈ W ∧ getA sp (.i n) = some (.str (g n)) := by
    refine ⟨fun n => match getA sp (.i n) with
      | some (.str w) => w
      | _ => "", fun n hn => ?_⟩
    obtain ⟨w, w1, w2⟩ := n3 n (perm.mem_iff.mp hn)
    dsimp only
    rw [w2]
    exact ⟨w1, rfl⟩
  obtain ⟨g, hg⟩ := fn
  refine ⟨(sortI ns).map g, fun x hx => ?_, by rw [List.length_map]; omega, ?_⟩
  · obtain ⟨n, hn, rfl⟩ := List.mem_map.mp hx
    exact (hg n hn).1
  · have lc := lcF_map (g := gxName 13) (t := tYes_) (f := xBin gItem (xBin gItem (xVar 6) (xC (.str "special"))) (xVar 13)) (Γ := Γ) (M := M) D.int (D.str ∘ g) (sortI ns) fun n hn => ⟨Γ.set 13 (some (.int n)), rfl, rfl, by
      have a6 : (Γ.set 13 (some (.int n)))[6]? = some (some (.loc 1)) := by rw [List.getElem?_set_ne (by decide)]; exact h6
      have a13 : (Γ.set 13 (some (.int n)))[13]? = some (some (.int n)) := List.getElem?_set_self (by omega)
      have := (hg n hn).2
      simp -implicitDefEqProofs [a6, a13, item, item_ki, this, -gItem_lo]⟩
    have hb : sp.length ≤ 1000000 := by omega
    simp -implicitDefEqProofs [h6, item, srt, h13, lc, hlen, hb, -gItem_lo]
theorem frzK_of {i : Nat} {k : DK} {Γ : Sl} {M : Mem} {n m : Nat} {kvs : List (DK × D)} {c : D} (h1 : Γ[i]? = some (some (.loc n))) (h2 : M[n]? = some (some (.asc .k kvs))) (h3 : getA kvs k = some (.loc m)) (h4 : M[m]? = some (some c)) (h5 : locFree c = true) (h6 : m ≠ n) : frzK i k (.nx Γ M) = some (.nx Γ ((M.set m none).set n (some (.asc .k (unloc m c kvs))))) := by
  unfold frzK
  dsimp only
  rw [ap_xVar, h1]
  dsimp only
  rw [Option.bind_some, ap_withLoc, h2]
  dsimp only
  rw [h3]
  dsimp only
  rw [h4]
  exact if_pos ⟨h5, h6⟩
theorem seq_frzK {i : Nat} {k : DK} {s : Sx} {Γ Γ1 : Sl} {M M1 : Mem} {o : Out} (h : s Γ M = some (.nx Γ1 M1)) (h2 : frzK i k (.nx Γ1 M1) = some o) : sFrzK i k s Γ M = some o := by
  show (s Γ M).bind _ = _
  rw [h]
  exact h2
theorem parts_ok (n : Int) : ∃ (kvs figs : List (DK × D)) (bands : List (Str × Str)), locFreeA kvs = true ∧ getA kvs (.s "bands") = some (.lst (bands.map bD)) ∧ bands ≠ [] ∧ bands.length ≤ 4 ∧ getA kvs (.s "figures") = some (.asc .k figs) ∧ (∀ b ∈ bands, ∃ f : Int, getA figs (.s b.2) = some (.int f) ∧ 1 ≤ f ∧ f ≤ 9) ∧ P_law_parts [.int n] = some (.fresh (.asc .k kvs)) := by
  obtain ⟨fs, f1, f2, f3⟩ := draws' n 20 20 60 (by decide) rfl (by decide) (by decide)
  have m70 := mixed_ok n 70 (by decide)
  have m71 := mixed_ok n 71 (by decide)
  have m71a := mixF_lo n 71
  have m71b := mixF_hi n 71
  obtain ⟨ss, g1, g2, g3⟩ := draws' (mixF n 70) 16 16 420 (by decide) rfl (by decide) (by decide)
  obtain ⟨th, h1, h2, h3⟩ := draws' (1 + 2 * mixF n 71) 20 20 420 (by decide) rfl (by decide) (by decide)
  have nm71 : numOk (mixF n 71) = true := numOk_of (by omega) (by omega)
  obtain ⟨a0, a01, a02, a03⟩ := dAt f2 (i := 0) (j := 0) rfl (by omega)
  obtain ⟨a8, a81, a82, a83⟩ := dAt f2 (i := 8) (j := 8) rfl (by omega)
  obtain ⟨a9, a91, a92, a93⟩ := dAt f2 (i := 9) (j := 9) rfl (by omega)
  obtain ⟨a14, a141, a142, a143⟩ := dAt f2 (i := 14) (j := 14) rfl (by omega)
  obtain ⟨a15, a151, a152, a153⟩ := dAt f2 (i := 15) (j := 15) rfl (by omega)
  obtain ⟨a16, a161, a162, a163⟩ := dAt f2 (i := 16) (j := 16) rfl (by omega)
  obtain ⟨a17, a171, a172, a173⟩ := dAt f2 (i := 17) (j := 17) rfl (by omega)
  obtain ⟨a19, a191, a192, a193⟩ := dAt f2 (i := 19) (j := 19) rfl (by omega)
  obtain ⟨ws, w1, w2⟩ := words_ok a17
  have hmm : 1 ≤ (1 + a0 % 3).toNat ∧ (1 + a0 % 3).toNat ≤ 3 := by omega
  generalize hmd : (1 + a0 % 3).toNat = m at hmm
  have cutw : cutD (ws.map D.str) none (some (1 + a0 % 3)) = (ws.take m).map .str := by rw [cutD_map, cutD_up' _ _ (by omega), hmd]
  have cutf : cutD (fs.map D.int) (some 1) (some 8) = ((fs.drop 1).take 7).map .int := by rw [cutD_map, cutD_mid' _ _ _ (by decide) (by decide)]; rfl
  obtain ⟨wk, wk1, wkl, wk2⟩ := week_ok ws w1 m hmm ((fs.drop 1).take 7) (fun d hd => f2 d (List.mem_of_mem_drop (List.mem_of_mem_take hd))) [some (.int n), some (.lst (fs.map .int)), some (.lst (ss.map .int)), some (.lst (th.map .int)), some (.lst (ws.map .str)), some (.lst ((ws.take m).map .str)), none, none, none, none, none, none, none, none] rfl rfl
  have fql : ((fs.drop 1).take 7).length ≤ 7 := by rw [List.length_take]; omega
  obtain ⟨wt, hwt⟩ : ∃ wt, wt = (ws.take m).map D.str := ⟨_, rfl⟩
  rw [← hwt] at wk2 cutw
  obtain ⟨fq, hfq⟩ : ∃ fq, fq = (fs.drop 1).take 7 := ⟨_, rfl⟩
  rw [← hfq] at cutf wk2 wkl fql
  obtain ⟨cnt, c1, c2⟩ := pick6 (i := a8 % 6) (by omega)
  have W4 : (ws.take 4).length ≤ 4 := by rw [List.length_take]; omega
  -- the table at first
  let rest0 : List (DK × D) := [(.s "week", .lst (wk.map .str)), (.s "special", .loc 0)]
  have r0 : getA rest0 (.s "special") = some (.loc 0) := by
    show (if DK.s ("week" : Str) = DK.s "special" then _ else if DK.s ("special" : Str) = DK.s "special" then some (D.loc 0) else none) = _
    rw [if_neg (fun e => kne2.1 e.symm), if_pos rfl]
  let G0 (x6 x7 x8 x9 x10 : Option D) : Sl := [some (.int n), some (.lst (fs.map .int)), some (.lst (ss.map .int)), some (.lst (th.map .int)), some (.lst (ws.map .str)), some (.lst wt), x6, x7, x8, x9, x10, none, none, none]
  obtain ⟨Γ1, M1, e1, sp, s1, s2, rfl, rfl⟩ := (loop_to (g := gxName 7) (kl := [7]) (b := B_law_parts_1)
    (fun i Γ M => ∃ sp : List (DK × D), SpOk (ws.take 4) sp ∧ sp.length ≤ i ∧ Γ = G0 (some (.loc 1)) none none none none ∧ M = [some (.asc .k sp), some (.asc .k rest0)])
    (rngL 0 cnt.toNat) (G0 (some (.loc 1)) none none none none) [some (.asc .k []), some (.asc .k rest0)] ⟨[], fun _ h => (List.not_mem_nil h).elim, by decide, Eq.refl _, Eq.refl _⟩ (by
      rintro i d Γ M hi hlt ⟨sp, s1, s2, rfl, rfl⟩
      obtain ⟨hi2, rfl⟩ := rngL_get hi
      rw [Int.zero_add]
      obtain ⟨k, w, t1, t2⟩ := sp_turn ws w1 th h1 h2 (.int n) (.lst (fs.map .int)) (.lst (ss.map .int)) (.lst wt) sp rest0 i (by omega) s2 r0
      exact .of t2 ⟨_, s1.put k t1, by have := putA_len sp (.i k) (.str w); omega, Eq.refl _, Eq.refl _⟩)).ex
  rw [rngL_len] at s2
  let rest1 : List (DK × D) := [(.s "week", .lst (wk.map .str)), (.s "special", .asc .k sp)]
  have r1s : getA rest1 (.s "special") = some (.asc .k sp) := by
    show (if DK.s ("week" : Str) = DK.s "special" then _ else if DK.s ("special" : Str) = DK.s "special" then some (D.asc .k sp) else none) = _
    rw [if_neg (fun e => kne2.1 e.symm), if_pos rfl]
  have r1w : getA rest1 (.s "week") = some (.lst (wk.map .str)) := by
    show (if DK.s ("week" : Str) = DK.s "week" then some (D.lst (wk.map .str)) else _) = _
    rw [if_pos rfl]
  have r1u : unloc 0 (.asc .k sp) rest0 = rest1 := rfl
  have r1f : FreeBut [] rest1 := fun p hp => by
    rcases List.mem_cons.mp hp with rfl | hp
    · exact .inl (locFrees_map _ (fun _ => rfl) _)
    · rcases List.mem_cons.mp hp with rfl | hp
      · exact .inl s1.free
      · cases hp
  obtain ⟨ls, l1, l2, l3⟩ := sorted_lc (ws.take 4) sp rest1 s1 (by omega) [none, some (.asc .k rest1), some (.lst [])] rfl r1s (G0 (some (.loc 1)) none (some (.loc 2)) none none) rfl rfl rfl
  obtain ⟨Γ2, M2, e2, ks, k1, k2, rfl, rfl⟩ := (loop_to (g := gxName 9) (kl := [9]) (b := B_law_parts_2)
    (fun i Γ M => ∃ ks : List Str, ks.Nodup ∧ (∀ x ∈ ks, x ∈ ws.take 4) ∧ Γ = G0 (some (.loc 1)) none (some (.loc 2)) none none ∧ M = [none, some (.asc .k rest1), some (.lst (ks.map .str))])
    ((wk ++ ls).map .str) (G0 (some (.loc 1)) none (some (.loc 2)) none none) [none, some (.asc .k rest1), some (.lst [])] ⟨[], List.nodup_nil, fun _ h => (List.not_mem_nil h).elim, Eq.refl _, Eq.refl _⟩ (by
      rintro i d Γ M hi hlt ⟨ks, k1, k2, rfl, rfl⟩
      rw [List.getElem?_map] at hi
      obtain ⟨w, hw, rfl⟩ := Option.map_eq_some_iff.mp hi
      have hwm : w ∈ ws.take 4 := by
        rcases List.mem_append.mp (List.mem_of_getElem? hw) with h | h
        · exact wk1 w h
        · exact l1 w h
      exact kinds_turn (ws.take 4) (.int n) (.lst (fs.map .int)) (.lst (ss.map .int)) (.lst (th.map .int)) (.lst (ws.map .str)) (.lst wt) [none, some (.asc .k rest1)] ks w k1 k2 hwm W4)).ex
  have hks := nodup_len ks _ k1 k2
  have lw : wk.length ≤ 7 := by
    omega
  obtain ⟨Γ3, M3, e3, bs, b1', rfl, rfl⟩ := (loop_to (g := gxName 7) (kl := [7]) (b := B_law_parts_3)
    (fun i Γ M => ∃ bs : List (Str × Str), bs.length = i ∧ Γ = G0 (some (.loc 1)) none (some (.lst (ks.map .str))) none (some (.loc 3)) ∧ M = [none, some (.asc .k rest1), none, some (.lst (bs.map bD))])
    (rngL 0 (1 + a9 % 4).toNat) (G0 (some (.loc 1)) none (some (.lst (ks.map .str))) none (some (.loc 3))) [none, some (.asc .k rest1), none, some (.lst [])] ⟨[], rfl, Eq.refl _, Eq.refl _⟩ (by
      rintro i d Γ M hi hlt ⟨bs, b1', rfl, rfl⟩
      obtain ⟨hi2, rfl⟩ := rngL_get hi
      rw [Int.zero_add]
      obtain ⟨b, t⟩ := bands_turn ws w1 fs f1 f2 (.int n) (.lst (ss.map .int)) (.lst (th.map .int)) (.lst wt) (.lst (ks.map .str)) [none, some (.asc .k rest1), none] bs i (by omega) (by omega)
      exact .of t ⟨bs ++ [b], by rw [List.length_append, List.length_singleton, b1'], Eq.refl _, Eq.refl _⟩)).ex
  rw [rngL_len] at b1'
  have bl : bs.length ≤ 4 := by omega
  obtain ⟨kw, kw1, kw2⟩ := weights_ok ks bs ss (by omega) g2 (by omega) bl
  obtain ⟨kp, kp1, kp2⟩ := prices_ok ks bs th (by omega) h2 (by omega) bl
  obtain ⟨st, st1, st2⟩ := steps_ok (a14 % 5) (by omega) th (by omega) h2
  obtain ⟨sta, sta1⟩ : ∃ v : Int, v = a15 + 100000000000 * (if a19 % 7 = 3 then 1 else 0) := ⟨_, rfl⟩
  obtain ⟨K1, hK1⟩ : ∃ K, K = putA rest1 (.s "bands") (.lst (bs.map bD)) := ⟨_, rfl⟩
  obtain ⟨K2, hK2⟩ : ∃ K, K = putA K1 (.s "weights") (.asc .t kw) := ⟨_, rfl⟩
  obtain ⟨K3, hK3⟩ : ∃ K, K = putA K2 (.s "prices") (.asc .t kp) := ⟨_, rfl⟩
  obtain ⟨K4, hK4⟩ : ∃ K, K = putA K3 (.s "steps") (.lst st) := ⟨_, rfl⟩
  obtain ⟨K5, hK5⟩ : ∃ K, K = putA K4 (.s "standing") (.int sta) := ⟨_, rfl⟩
  obtain ⟨K6, hK6⟩ : ∃ K, K = putA K5 (.s "month") (.int (1 + a16 % 31)) := ⟨_, rfl⟩
  obtain ⟨K7, hK7⟩ : ∃ K, K = putA K6 (.s "figures") (.loc 4) := ⟨_, rfl⟩
  obtain ⟨K8, hK8⟩ : ∃ K, K = putA K7 (.s "rises") (.loc 5) := ⟨_, rfl⟩
  have L1 : K1.length < 1000000 := by rw [hK1]; have := putA_len rest1 (.s "bands") (.lst (bs.map bD)); have : rest1.length = 2 := rfl; omega
  have L1' : K1.length ≤ 3 := by rw [hK1]; have := putA_len rest1 (.s "bands") (.lst (bs.map bD)); have : rest1.length = 2 := rfl; omega
  have L2 : K2.length ≤ 4 := by rw [hK2]; have := putA_len K1 (.s "weights") (.asc .t kw); omega
  have L3 : K3.length ≤ 5 := by rw [hK3]; have := putA_len K2 (.s "prices") (.asc .t kp); omega
  have L4 : K4.length ≤ 6 := by rw [hK4]; have := putA_len K3 (.s "steps") (.lst st); omega
  have L5 : K5.length ≤ 7 := by rw [hK5]; have := putA_len K4 (.s "standing") (.int sta); omega
  have L6 : K6.length ≤ 8 := by rw [hK6]; have := putA_len K5 (.s "month") (.int (1 + a16 % 31)); omega
  have L7 : K7.length ≤ 9 := by rw [hK7]; have := putA_len K6 (.s "figures") (.loc 4); omega
  have F1 : FreeBut [] K1 := by rw [hK1]; exact r1f.put _ (locFrees_map _ (fun _ => rfl) _)
  have F2 : FreeBut [] K2 := by rw [hK2]; exact F1.put _ kw1.free
  have F3 : FreeBut [] K3 := by rw [hK3]; exact F2.put _ kp1.free
  have F4 : FreeBut [] K4 := by rw [hK4]; exact F3.put _ st1
  have F5 : FreeBut [] K5 := by rw [hK5]; exact F4.put _ rfl
  have F6 : FreeBut [] K6 := by rw [hK6]; exact F5.put _ rfl
  have F7 : FreeBut [4] K7 := by rw [hK7]; exact F6.putLoc _ 4
  have F8 : FreeBut [4, 5] K8 := fun p hp => by
    rw [hK8] at hp
    rcases (F7.putLoc (.s "rises") 5) p hp with h | ⟨j, hj, e⟩
    · exact .inl h
    · exact .inr ⟨j, by simp at hj ⊢; omega, e⟩
  obtain ⟨q1, q2, q3, q4, q5, q6, q7, q8⟩ := kne
  have B1 : getA K1 (.s "bands") = some (.lst (bs.map bD)) := by rw [hK1]; exact getA_put_same _ _ _
  have B8 : getA K8 (.s "bands") = some (.lst (bs.map bD)) := by
    rw [hK8, getA_put_other _ _ q7, hK7, getA_put_other _ _ q6, hK6, getA_put_other _ _ q5, hK5, getA_put_other _ _ q4, hK4, getA_put_other _ _ q3, hK3, getA_put_other _ _ q2, hK2, getA_put_other _ _ q1]
    exact B1
  have C8 : getA K8 (.s "figures") = some (.loc 4) := by rw [hK8, getA_put_other _ _ q8, hK7]; exact getA_put_same _ _ _
  have D8 : getA K8 (.s "rises") = some (.loc 5) := by rw [hK8]; exact getA_put_same _ _ _
  obtain ⟨Γ4, M4, e4, figs, rises, u1, u2, u3, u4, u5, rfl, rfl⟩ := (loop_to (g := gxTup 2 (gxCons (gxName 7) (gxCons (gxName 11) (gxNil)))) (kl := [7, 11]) (b := B_law_parts_4)
    (fun i Γ M => ∃ figs rises : List (DK × D), figs.length ≤ i ∧ rises.length ≤ i ∧ (∀ p ∈ figs, ∃ f : Int, p.2 = .int f ∧ 1 ≤ f ∧ f ≤ 9) ∧ TI rises ∧ (∀ c ∈ bs.take i, ∃ d, getA figs (.s c.2) = some d) ∧ Γ = G0 (some (.loc 1)) none (some (.lst (ks.map .str))) none (some (.lst (bs.map bD))) ∧ M = [none, some (.asc .k K8), none, none, some (.asc .k figs), some (.asc .k rises)])
    (enumL 0 (bs.map bD)) (G0 (some (.loc 1)) none (some (.lst (ks.map .str))) none (some (.lst (bs.map bD)))) [none, some (.asc .k K8), none, none, some (.asc .k []), some (.asc .k [])] ⟨[], [], by decide, by decide, fun _ h => (List.not_mem_nil h).elim, fun _ h => (List.not_mem_nil h).elim, (fun c hc => by rw [List.take_zero] at hc; cases hc), Eq.refl _, Eq.refl _⟩ (by
      rintro i d Γ M hi hlt ⟨figs, rises, u1, u2, u3, u4, u5, rfl, rfl⟩
      rw [enumL_len, List.length_map] at hlt
      obtain ⟨b, hb, rfl⟩ := enum_get_eq bD hi
      obtain ⟨Γ', M', e, figs', rises', v1, v2, v3, v4, v5, v6, rfl, rfl⟩ := (figs_turn (.lst (bs.map bD)) (.int n) (.lst (fs.map .int)) (.lst (ss.map .int)) (.lst (ws.map .str)) (.lst wt) (.lst (ks.map .str)) th h1 h2 b i (by omega) none none none K8 figs rises (by omega) (by omega) C8 D8 u3 u4).ex
      refine .of e ⟨figs', rises', by omega, by omega, v3, v4, fun c hc => ?_, Eq.refl _, Eq.refl _⟩
      rcases take_mem hb hc with hc | rfl
      · exact v6 _ (u5 c hc)
      · exact v5)).ex
  rw [enumL_len, List.length_map, List.take_length] at u5
  have figf : locFree (.asc .k figs) = true := locFreeA_of fun p hp => by
    obtain ⟨f, e, -⟩ := u3 p hp
    rw [e]; rfl
  have risf : locFree (.asc .k rises) = true := u4.free
  have G9 : getA (unloc 4 (.asc .k figs) K8) (.s "rises") = some (.loc 5) := by rw [getA_unloc, D8]; rfl
  refine ⟨unloc 5 (.asc .k rises) (unloc 4 (.asc .k figs) K8), figs, bs, ((F8.unloc figf).unloc risf).free, by rw [getA_unloc, getA_unloc, B8]; rfl, fun e => by rw [e] at b1'; simp at b1'; omega, bl, by rw [getA_unloc, getA_unloc, C8]; rfl, fun b hb => ?_, ?_⟩
  · obtain ⟨d, hd⟩ := u5 b hb
    obtain ⟨f, hf, hf2⟩ := u3 _ (getA_mem hd)
    dsimp only at hf
    subst hf
    exact ⟨f, hd, hf2⟩
  · refine pRun_f (n := 1) (M := [none, some (.asc .k (unloc 5 (.asc .k rises) (unloc 4 (.asc .k figs) K8))), none, none, none, none]) (run_rt ?_) rfl ((F8.unloc figf).unloc risf).free
    have hb : (-1000000 : Int) < cnt ∧ cnt < 1000000 := by omega
    have hb2 : (-1000000 : Int) < 1 + a9 % 4 ∧ 1 + a9 % 4 < 1000000 := by omega
    dsimp only [G0] at e1 e2 e3 e4 l3
    have st2' : P_law_steps [.int (a14 % 5), .lst (th.map .int)] = some (.fresh (.lst st)) := st2
    have ww : wk.length + ls.length ≤ 1000000 := by omega
    have wkl' : fq.length ≤ 1000000 := by omega
    rw [List.map_append] at e2
    have i1w := item_loc_s (M := [none, some (.asc .k rest1), some (.lst [])]) (n := 1) (kvs := rest1) (z := ("week" : Str)) rfl
    rw [r1w] at i1w
    unfold S_law_parts
    refine (seq_nx (Γ1 := [some (.int n), some (.lst (fs.map .int)), none, none, none, none, none, none, none, none, none, none, none, none]) (M1 := []) (by simp -implicitDefEqProofs [f3])).trans ?_
    refine (seq_nx (Γ1 := [some (.int n), some (.lst (fs.map .int)), some (.lst (ss.map .int)), none, none, none, none, none, none, none, none, none, none, none]) (M1 := []) (by simp -implicitDefEqProofs [m70, g3])).trans ?_
    refine (seq_nx (Γ1 := [some (.int n), some (.lst (fs.map .int)), some (.lst (ss.map .int)), some (.lst (th.map .int)), none, none, none, none, none, none, none, none, none, none]) (M1 := []) (by simp -implicitDefEqProofs [m71, h3, nm71])).trans ?_
    refine (seq_nx (Γ1 := [some (.int n), some (.lst (fs.map .int)), some (.lst (ss.map .int)), some (.lst (th.map .int)), some (.lst (ws.map .str)), none, none, none, none, none, none, none, none, none]) (M1 := []) (by simp -implicitDefEqProofs [a171, w2])).trans ?_
    refine (seq_nx (Γ1 := G0 none none none none none) (M1 := []) (by simp -implicitDefEqProofs [a01, cutw, G0])).trans ?_
    refine (seq_nx (Γ1 := G0 (some (.loc 1)) none none none none) (M1 := [some (.asc .k []), some (.asc .k rest0)]) ?_).trans ?_
    · have e0 : kxCons (.inr "week") (xLc (gxName 12) [12] (ixL (xSlice gCut (xVar 1) (oSome (xC (.int 1))) (oSome (xC (.int 8))))) (tYes_) (xBin gItem (xVar 5) (xBin gMod (xVar 12) (xCall gLen (xAcons (xVar 5) (xAnil)))))) (kxNil) (G0 none none none none none) [] = some [(.inr "week", .lst (wk.map .str))] := by
        show ((xLc _ _ _ _ _ _ _).bind fun d => (some []).bind fun ds => some ((Sum.inr ("week" : Str), d) :: ds)) = _
        rw [ap_xLc]
        have c8 : ixL (xSlice gCut (xVar 1) (oSome (xC (.int 1))) (oSome (xC (.int 8)))) (G0 none none none none none) [] = some (fq.map .int) := by
          simp -implicitDefEqProofs [G0, cutf]
        rw [c8, Option.bind_some, List.length_map, if_pos wkl']
        have k12 : kills (G0 none none none none none) [12] = G0 none none none none none := rfl
        rw [k12, wk2]
        rfl
      show ((kxCons _ _ _ _ _).bind fun ds => _) = _
      rw [e0, Option.bind_some, if_pos ⟨by show 1 ≤ 14; decide, kne2.2⟩]
      rfl
    refine (seq_nx (Γ1 := G0 (some (.loc 1)) none none none none) (M1 := [none, some (.asc .k rest1)]) ?_).trans ?_
    · have e5 : sFor (gxName 7) [7] (ixR1 (xAcons (xBin gItem (xLst (xAcons (xC (.int 0)) (xAcons (xC (.int 1)) (xAcons (xC (.int 2)) (xAcons (xC (.int 1)) (xAcons (xC (.int 2)) (xAcons (xC (.int 12)) (xAnil)))))))) (xBin gMod (xBin gItem (xVar 1) (xC (.int 8))) (xC (.int 6)))) (xAnil))) B_law_parts_1 (G0 (some (.loc 1)) none none none none) [some (.asc .k []), some (.asc .k rest0)] = some (.nx (G0 (some (.loc 1)) none none none none) [some (.asc .k sp), some (.asc .k rest0)]) := by
        simp -implicitDefEqProofs [G0, a81, c2, hb, e1]
      exact seq_frzK e5 (frzK_of (n := 1) (m := 0) rfl rfl r0 rfl (show locFree (.asc .k sp) = true from s1.free) (by decide))
    refine (seq_nx (Γ1 := G0 (some (.loc 1)) none (some (.loc 2)) none none) (M1 := [none, some (.asc .k rest1), some (.lst [])]) (by simp -implicitDefEqProofs [G0])).trans ?_
    refine (seq_nx (Γ1 := G0 (some (.loc 1)) none (some (.lst (ks.map .str))) none none) (M1 := [none, some (.asc .k rest1), none]) ?_).trans ?_
    · have ksf : locFrees (ks.map D.str) = true := locFrees_map _ (fun _ => rfl) _
      have it : ixL (xBin gAdd (xBin gItem (xVar 6) (xC (.str "week"))) (xLc (gxName 13) [13] (ixL (xCall gSort (xAcons (xBin gItem (xVar 6) (xC (.str "special"))) (xAnil)))) (tYes_) (xBin gItem (xBin gItem (xVar 6) (xC (.str "special"))) (xVar 13)))) (G0 (some (.loc 1)) none (some (.loc 2)) none none) [none, some (.asc .k rest1), some (.lst [])] = some (wk.map .str ++ ls.map .str) := by
        have ad : gAdd [none, some (.asc .k rest1), some (.lst [])] (.lst (wk.map .str)) (.lst (ls.map .str)) = some (.lst (wk.map .str ++ ls.map .str)) := by
          rw [gAdd_ll, List.length_map, List.length_map, if_pos ww]
        rw [ap_ixL, ap_xBin, ap_xBin]
        show (Option.bind (Option.bind (some (D.loc 1)) fun x => (some (D.str "week")).bind fun y => gItem _ x y) fun x => (xLc _ _ _ _ _ _ _).bind fun y => gAdd _ x y).bind vF = _
        rw [Option.bind_some, Option.bind_some, i1w, Option.bind_some]
        dsimp only [G0]
        rw [l3, Option.bind_some, ad]
        rfl
      rw [ap_sFrz, ap_sFor, it, Option.bind_some]
      have k9 : kills (G0 (some (.loc 1)) none (some (.loc 2)) none none) [9] = G0 (some (.loc 1)) none (some (.loc 2)) none none := rfl
      rw [k9]
      dsimp only [G0]
      rw [e2]
      simp -implicitDefEqProofs [ksf]
    refine (seq_nx (Γ1 := G0 (some (.loc 1)) none (some (.lst (ks.map .str))) none (some (.loc 3))) (M1 := [none, some (.asc .k rest1), none, some (.lst [])]) (by simp -implicitDefEqProofs [G0])).trans ?_
    refine (seq_nx (Γ1 := G0 (some (.loc 1)) none (some (.lst (ks.map .str))) none (some (.lst (bs.map bD)))) (M1 := [none, some (.asc .k rest1), none, none]) ?_).trans ?_
    · have bsf : locFrees (bs.map bD) = true := locFrees_map _ (fun _ => rfl) _
      simp -implicitDefEqProofs [G0, a91, hb2, e3, bsf]
    have rl : rest1.length < 1000000 := by show 2 < 1000000; decide
    have kf : locFrees (ks.map D.str) = true := locFrees_map _ (fun _ => rfl) _
    have bf : locFrees (bs.map bD) = true := locFrees_map _ (fun _ => rfl) _
    refine (seq_nx (Γ1 := G0 (some (.loc 1)) none (some (.lst (ks.map .str))) none (some (.lst (bs.map bD)))) (M1 := [none, some (.asc .k K1), none, none]) (by simp -implicitDefEqProofs [G0, kPut_s, rl, hK1])).trans ?_
    refine (seq_nx (Γ1 := G0 (some (.loc 1)) none (some (.lst (ks.map .str))) none (some (.lst (bs.map bD)))) (M1 := [none, some (.asc .k K2), none, none]) (by simp -implicitDefEqProofs [G0, kPut_s, L1, hK2, kw2, kf, bf])).trans ?_
    refine (seq_nx (Γ1 := G0 (some (.loc 1)) none (some (.lst (ks.map .str))) none (some (.lst (bs.map bD)))) (M1 := [none, some (.asc .k K3), none, none]) (by have := Nat.lt_of_le_of_lt L2 (show 4 < 1000000 by decide); simp -implicitDefEqProofs [G0, kPut_s, this, hK3, kp2, kf, bf])).trans ?_
    refine (seq_nx (Γ1 := G0 (some (.loc 1)) none (some (.lst (ks.map .str))) none (some (.lst (bs.map bD)))) (M1 := [none, some (.asc .k K4), none, none]) (by have := Nat.lt_of_le_of_lt L3 (show 5 < 1000000 by decide); simp -implicitDefEqProofs [G0, kPut_s, this, hK4, st2', a141])).trans ?_
    refine (seq_nx (Γ1 := G0 (some (.loc 1)) none (some (.lst (ks.map .str))) none (some (.lst (bs.map bD)))) (M1 := [none, some (.asc .k K5), none, none]) (by
      have := Nat.lt_of_le_of_lt L4 (show 6 < 1000000 by decide)
      have bo : numOk (if a19 % 7 = 3 then 1 else 0) = true := by split <;> rfl
      simp -implicitDefEqProofs [G0, kPut_s, this, hK5, a151, a191, sta1, bo])).trans ?_
    refine (seq_nx (Γ1 := G0 (some (.loc 1)) none (some (.lst (ks.map .str))) none (some (.lst (bs.map bD)))) (M1 := [none, some (.asc .k K6), none, none]) (by have := Nat.lt_of_le_of_lt L5 (show 7 < 1000000 by decide); simp -implicitDefEqProofs [G0, kPut_s, this, hK6, a161])).trans ?_
    refine (seq_nx (Γ1 := G0 (some (.loc 1)) none (some (.lst (ks.map .str))) none (some (.lst (bs.map bD)))) (M1 := [none, some (.asc .k K7), none, none, some (.asc .k [])]) (by have := Nat.lt_of_le_of_lt L6 (show 8 < 1000000 by decide); simp -implicitDefEqProofs [G0, sPutN, xNewK, kPutK_s, this, hK7])).trans ?_
    refine (seq_nx (Γ1 := G0 (some (.loc 1)) none (some (.lst (ks.map .str))) none (some (.lst (bs.map bD)))) (M1 := [none, some (.asc .k K8), none, none, some (.asc .k []), some (.asc .k [])]) (by have := Nat.lt_of_le_of_lt L7 (show 9 < 1000000 by decide); simp -implicitDefEqProofs [G0, sPutN, xNewK, kPutK_s, this, hK8])).trans ?_
    refine (seq_nx (Γ1 := G0 (some (.loc 1)) none (some (.lst (ks.map .str))) none (some (.lst (bs.map bD)))) (M1 := [none, some (.asc .k (unloc 5 (.asc .k rises) (unloc 4 (.asc .k figs) K8))), none, none, none, none]) ?_).trans ?_
    · have e6 : sFor (gxTup 2 (gxCons (gxName 7) (gxCons (gxName 11) (gxNil)))) [7, 11] (ixE (xAcons (xVar 10) (xAnil))) B_law_parts_4 (G0 (some (.loc 1)) none (some (.lst (ks.map .str))) none (some (.lst (bs.map bD)))) [none, some (.asc .k K8), none, none, some (.asc .k []), some (.asc .k [])] = some (.nx (G0 (some (.loc 1)) none (some (.lst (ks.map .str))) none (some (.lst (bs.map bD)))) [none, some (.asc .k K8), none, none, some (.asc .k figs), some (.asc .k rises)]) := by
        simp -implicitDefEqProofs [G0, e4]
      exact seq_frzK (seq_frzK e6 (frzK_of (n := 1) (m := 4) rfl rfl C8 rfl figf (by decide))) (frzK_of (n := 1) (m := 5) rfl rfl G9 rfl risf (by decide))
    simp -implicitDefEqProofs [G0]
theorem law_turn (ns : List Int) (kvs figs : List (DK × D)) (bands : List (Str × Str)) (hkv : locFreeA kvs = true) (hb1 : getA kvs (.s "bands") = some (.lst (bands.map bD))) (hb2 : bands ≠ []) (hb3 : bands.length ≤ 4) (hf1 : getA kvs (.s "figures") = some (.asc .k figs)) (hf2 : ∀ b ∈ bands, ∃ f : Int, getA figs (.s b.2) = some (.int f) ∧ 1 ≤ f ∧ f ≤ 9) (x : Int) (i : Nat) (hi : i < 100) (M : Mem) :
    NxTo (fun Γ _ => Γ = [some (.scr ns), none, some (.asc .k kvs), none, none, none, none, none]) (turnF (gxTup 2 (gxCons (gxName 3) (gxCons (gxName 1) (gxNil)))) [1, 3, 4, 5, 6, 7] B_law_2 (.tup [.int i, .int x]) [some (.scr ns), none, some (.asc .k kvs), none, none, none, none, none] M) := by
  have hlen : 0 < bands.length := List.length_pos_iff.mpr hb2
  have e0 := Int.emod_nonneg (i : Int) (show (bands.length : Int) ≠ 0 by omega)
  have e1 := Int.emod_lt_of_pos (i : Int) (show (0 : Int) < bands.length by omega)
  obtain ⟨b, hb⟩ : ∃ b, bands[((i : Int) % bands.length).toNat]? = some b := ⟨bands[((i : Int) % bands.length).toNat]'(by omega), by simp [show ((i : Int) % bands.length).toNat < bands.length by omega]⟩
  have hbat : atI (bands.map bD) ((i : Int) % bands.length) = some (bD b) := by
    have := atN bD hb
    rwa [Int.toNat_of_nonneg e0] at this
  obtain ⟨f, hf, hfr⟩ := hf2 b (List.mem_of_getElem? hb)
  obtain ⟨ms, m1, m2, m3⟩ := marks_ok kvs figs b.2 x f hf1 hf hfr
  have any : ∃ ms' : List Mk4, (∀ m ∈ ms', m.Ok) ∧ ms'.length ≤ 50 ∧ (if (i : Int) % 3 = 1 then (P_law_beyond [.lst (ms.map Mk4.d), .int i]).map PR.d else some (.lst (ms.map Mk4.d))) = some (.lst (ms'.map Mk4.d)) := by
    by_cases h : (i : Int) % 3 = 1
    · obtain ⟨ms', a, b', c⟩ := beyond_ok ms i (by omega) m1 (by omega)
      exact ⟨ms', a, b', by rw [if_pos h, c]; rfl⟩
    · exact ⟨ms, m1, by omega, by rw [if_neg h]⟩
  obtain ⟨ms', p1, p2, p3⟩ := any
  have us := uses_ok ms' p1 (by omega)
  have td := told_ok ms' p1 (by omega)
  have hfree : locFrees (ms'.map Mk4.d) = true := locFrees_map _ (fun _ => rfl) _
  have hfree2 : locFrees (ms.map Mk4.d) = true := locFrees_map _ (fun _ => rfl) _
  have hsame : eqOk 60 (.lst (ms'.map Mk4.d)) = true := by
    show (ms'.map Mk4.d).all (eqOk 59) = true
    rw [List.all_map, List.all_eq_true]
    exact fun _ _ => rfl
  have ne := fun M : Mem => gNe_self (M := M) _ hsame
  have ulen := usesL_len ms'
  have ul : (usesL ms').length < 1000000 := by omega
  have uf : locFrees (usesL ms') = true := by
    have := us
    rw [locFrees_all]
    clear this us td ulen ul hsame ne p3
    induction ms' with
    | nil => rfl
    | cons a r ih =>
      cases r with
      | nil => rfl
      | cons c r =>
        rw [usesL, List.all_cons, ih (fun m hm => p1 m (List.mem_cons_of_mem _ hm)) (by simp at p2 ⊢; omega) (locFrees_map _ (fun _ => rfl) _)]
        rfl
  refine .of (Γ := [some (.scr ns), none, some (.asc .k kvs), none, none, none, none, none]) (M := M ++ [some (.lst (usesL ms' ++ [.tup [.int 0, .int 0, .int 0]]))]) ?_ (Eq.refl _)
  have hl0 : (0 : Int) < bands.length := by omega
  by_cases h : (i : Int) % 3 = 1
  · rw [if_pos h] at p3
    simp -implicitDefEqProofs [turnF, item_ks, hb1, hl0, hlen, hbat, bD, b1, hkv, m3, hfree, hfree2, h, p3, us, ne, uf, td, ul]
  · rw [if_neg h] at p3
    have p4 : ms.map Mk4.d = ms'.map Mk4.d := D.lst.inj (Option.some.inj p3)
    simp -implicitDefEqProofs [turnF, item_ks, hb1, hl0, hlen, hbat, bD, b1, hkv, m3, hfree, h, p4, us, ne, uf, td, ul]
theorem law_true : ∀ ns : List Int, ns.length ≤ 63 → ∃ M, I_law [.scr ns] [] = some (.ret (.bl true) M) := by
  intro ns hns
  obtain ⟨x0, hx0⟩ := cell_ok ns 0
  obtain ⟨x1, hx1⟩ := cell_ok ns 1
  obtain ⟨kvs, figs, bands, k1, k2, k3, k4, k5, k6, k7⟩ := parts_ok x0
  obtain ⟨Γ1, M1, e1, rfl, rfl⟩ := (loop_to (g := gxName 1) (kl := [1]) (b := B_law_1) (fun _ Γ M => Γ = [some (.scr ns), none, none, none, none, none, none, none] ∧ M = [])
    ((3 :: ns).map .int) [some (.scr ns), none, none, none, none, none, none, none] [] ⟨rfl, rfl⟩ (by
      rintro i d Γ M hi - ⟨rfl, rfl⟩
      rw [List.getElem?_map] at hi
      obtain ⟨x, -, rfl⟩ := Option.map_eq_some_iff.mp hi
      have := right_ok x
      refine .of (Γ := [some (.scr ns), none, none, none, none, none, none, none]) (M := []) ?_ ⟨Eq.refl _, Eq.refl _⟩
      simp -implicitDefEqProofs [turnF, this])).ex
  have cut : cutD ns (some 2) (some 12) = (ns.drop 2).take 10 := cutD_mid' ns 2 12 (by decide) (by decide)
  obtain ⟨cs, hcs⟩ : ∃ cs, cs = (ns.drop 2).take 10 := ⟨_, rfl⟩
  have csl : cs.length ≤ 10 := by rw [hcs, List.length_take]; omega
  rw [← hcs] at cut
  obtain ⟨Γ2, M2, e2, rfl⟩ := (loop_to (g := gxTup 2 (gxCons (gxName 3) (gxCons (gxName 1) (gxNil)))) (kl := [1, 3, 4, 5, 6, 7]) (b := B_law_2) (fun _ Γ M => Γ = [some (.scr ns), none, some (.asc .k kvs), none, none, none, none, none])
    (enumL 0 ((x1 :: cs).map .int)) [some (.scr ns), none, some (.asc .k kvs), none, none, none, none, none] [] (Eq.refl _) (by
      rintro i d Γ M hi hlt rfl
      rw [enumL_len, List.length_map, List.length_cons] at hlt
      obtain ⟨x, -, rfl⟩ := enum_get_eq D.int hi
      have hi9 : i < 100 := by omega
      have := law_turn ns kvs figs bands k1 k2 k3 k4 k5 k6 x i hi9 M
      exact this)).ex
  refine ⟨M2, run_rt ?_⟩
  have hx0' : P_law_cell_at [.scr ns, .int 0] = some (.val (.int x0)) := hx0
  have hx1' : P_law_cell_at [.scr ns, .int 1] = some (.val (.int x1)) := hx1
  have n1 : 1 + ns.length ≤ 1000000 := by omega
  have n2 : 1 + cs.length ≤ 1000000 := by omega
  have a1 : ixL (xBin gAdd (xLst (xAcons (xC (.int 3)) (xAnil))) (xVar 0)) [some (.scr ns), none, none, none, none, none, none, none] [] = some ((3 :: ns).map .int) := by
    have : gAdd ([] : Mem) (.lst [.int 3]) (.scr ns) = some (.lst ((3 :: ns).map .int)) := by
      show (if [D.int 3].length + (ns.map D.int).length ≤ 1000000 then some (D.lst ([D.int 3] ++ ns.map D.int)) else none) = _
      rw [List.length_map, if_pos (by show 1 + ns.length ≤ 1000000; exact n1)]
      rfl
    simp -implicitDefEqProofs [this]
  have a2 : ixE (xAcons (xBin gAdd (xLst (xAcons (xCallP P_law_cell_at (xAcons (xVar 0) (xAcons (xC (.int 1)) (xAnil)))) (xAnil))) (xSlice gCut (xVar 0) (oSome (xC (.int 2))) (oSome (xC (.int 12))))) (xAnil)) [some (.scr ns), none, some (.asc .k kvs), none, none, none, none, none] [] = some (enumL 0 ((x1 :: cs).map .int)) := by
    simp -implicitDefEqProofs [hx1', cut, n2]
  unfold S_law
  refine (seq_nx (Γ1 := [some (.scr ns), none, none, none, none, none, none, none]) (M1 := []) ?_).trans ?_
  · rw [ap_sFor]
    show ((ixL (xBin gAdd (xLst (xAcons (xC (.int 3)) (xAnil))) (xVar 0)) [some (.scr ns), none, none, none, none, none, none, none] []).bind fun ds => loopF (gxName 1) [1] B_law_1 ds _ _) = _
    rw [a1, Option.bind_some]
    exact e1
  refine (seq_nx (Γ1 := [some (.scr ns), none, some (.asc .k kvs), none, none, none, none, none]) (M1 := []) (by simp -implicitDefEqProofs [hx0', k7])).trans ?_
  refine (seq_nx (Γ1 := [some (.scr ns), none, some (.asc .k kvs), none, none, none, none, none]) (M1 := M2) ?_).trans rfl
  rw [ap_sFor, a2, Option.bind_some]
  exact e2
set_option Elab.async false
set_option linter.all false
set_option maxRecDepth 100000
set_option maxHeartbeats 0
namespace W
open PySem PySem.Spec PyProof.Rows L2 G
def top (i : Nat) : Stmt := PySem.Challenge.pw_meterbook_k02_uses_between_marks.main.body.getD i (.Pass ⟨0, 0, 0, 0⟩)
abbrev s_risen : Stmt := top 4
abbrev N_risen : List Str := ["figures", "before", "after"]
theorem sc_risen : FnScope N_risen ["figures", "before", "after"] (defScope s_risen) := ⟨rfl, rfl, rfl, by decide +kernel, rfl, by decide +kernel, by decide +kernel⟩
def d_risen : He.DefD := ⟨("risen", none), "risen", "risen", defArgs s_risen, defBody s_risen, defScope s_risen, [], []⟩
abbrev s_uses : Stmt := top 5
abbrev N_uses : List Str := ["marks", "found", "k", "before", "after"]
theorem sc_uses : FnScope N_uses ["marks"] (defScope s_uses) := ⟨rfl, rfl, rfl, by decide +kernel, rfl, by decide +kernel, by decide +kernel⟩
def d_uses : He.DefD := ⟨("uses", none), "uses", "uses", defArgs s_uses, defBody s_uses, defScope s_uses, [], []⟩
abbrev s_law_cell_at : Stmt := top 7
abbrev N_law_cell_at : List Str := ["_law_script", "_law_k"]
theorem sc_law_cell_at : FnScope N_law_cell_at ["_law_script", "_law_k"] (defScope s_law_cell_at) := ⟨rfl, rfl, rfl, by decide +kernel, rfl, by decide +kernel, by decide +kernel⟩
def d_law_cell_at : He.DefD := ⟨("_law_cell_at", none), "_law_cell_at", "_law_cell_at", defArgs s_law_cell_at, defBody s_law_cell_at, defScope s_law_cell_at, [], []⟩
abbrev s_law_mixed : Stmt := top 8
abbrev N_law_mixed : List Str := ["_law_number", "_law_k", "_law_once"]
theorem sc_law_mixed : FnScope N_law_mixed ["_law_number", "_law_k"] (defScope s_law_mixed) := ⟨rfl, rfl, rfl, by decide +kernel, rfl, by decide +kernel, by decide +kernel⟩
def d_law_mixed : He.DefD := ⟨("_law_mixed", none), "_law_mixed", "_law_mixed", defArgs s_law_mixed, defBody s_law_mixed, defScope s_law_mixed, [], []⟩
abbrev s_law_draws : Stmt := top 9
abbrev N_law_draws : List Str := ["_law_cell", "_law_many", "_law_size", "_law_found", "_law_left", "_law_k"]
theorem sc_law_draws : FnScope N_law_draws ["_law_cell", "_law_many", "_law_size"] (defScope s_law_draws) := ⟨rfl, rfl, rfl, by decide +kernel, rfl, by decide +kernel, by decide +kernel⟩
def d_law_draws : He.DefD := ⟨("_law_draws", none), "_law_draws", "_law_draws", defArgs s_law_draws, defBody s_law_draws, defScope s_law_draws, [], []⟩
abbrev s_law_weights : Stmt := top 10
abbrev N_law_weights : List Str := ["_law_kinds", "_law_bands", "_law_draws_here", "_law_found", "_law_i", "_law_kind", "_law_band", "_law_k", "_law_some", "_law_other"]
theorem sc_law_weights : FnScope N_law_weights ["_law_kinds", "_law_bands", "_law_draws_here"] (defScope s_law_weights) := ⟨rfl, rfl, rfl, by decide +kernel, rfl, by decide +kernel, by decide +kernel⟩
def d_law_weights : He.DefD := ⟨("_law_weights", none), "_law_weights", "_law_weights", defArgs s_law_weights, defBody s_law_weights, defScope s_law_weights, [], []⟩
abbrev s_law_prices : Stmt := top 11
abbrev N_law_prices : List Str := ["_law_kinds", "_law_bands", "_law_draws_here", "_law_found", "_law_i", "_law_kind", "_law_band", "_law_k", "_law_more"]
theorem sc_law_prices : FnScope N_law_prices ["_law_kinds", "_law_bands", "_law_draws_here"] (defScope s_law_prices) := ⟨rfl, rfl, rfl, by decide +kernel, rfl, by decide +kernel, by decide +kernel⟩
def d_law_prices : He.DefD := ⟨("_law_prices", none), "_law_prices", "_law_prices", defArgs s_law_prices, defBody s_law_prices, defScope s_law_prices, [], []⟩
abbrev s_law_words : Stmt := top 12
abbrev N_law_words : List Str := ["_law_number", "_law_plain", "_law_rows", "_law_longer"]
theorem sc_law_words : FnScope N_law_words ["_law_number"] (defScope s_law_words) := ⟨rfl, rfl, rfl, by decide +kernel, rfl, by decide +kernel, by decide +kernel⟩
def d_law_words : He.DefD := ⟨("_law_words", none), "_law_words", "_law_words", defArgs s_law_words, defBody s_law_words, defScope s_law_words, [], []⟩
abbrev s_law_steps : Stmt := top 13
abbrev N_law_steps : List Str := ["_law_many", "_law_draws_here", "_law_units", "_law_found", "_law_k"]
theorem sc_law_steps : FnScope N_law_steps ["_law_many", "_law_draws_here"] (defScope s_law_steps) := ⟨rfl, rfl, rfl, by decide +kernel, rfl, by decide +kernel, by decide +kernel⟩
def d_law_steps : He.DefD := ⟨("_law_steps", none), "_law_steps", "_law_steps", defArgs s_law_steps, defBody s_law_steps, defScope s_law_steps, [], []⟩
abbrev s_law_parts : Stmt := top 14
abbrev N_law_parts : List Str := ["_law_cell", "_law_first", "_law_second", "_law_third", "_law_words_here", "_law_some", "_law_parts_here", "_law_k", "_law_kinds", "_law_kind", "_law_bands", "_law_band", "_law_one", "_law_day"]
theorem sc_law_parts : FnScope N_law_parts ["_law_cell"] (defScope s_law_parts) := ⟨rfl, rfl, rfl, by decide +kernel, rfl, by decide +kernel, by decide +kernel⟩
def d_law_parts : He.DefD := ⟨("_law_parts", none), "_law_parts", "_law_parts", defArgs s_law_parts, defBody s_law_parts, defScope s_law_parts, [], []⟩
abbrev s_law_round : Stmt := top 16
abbrev N_law_round : List Str := ["_law_figures"]
theorem sc_law_round : FnScope N_law_round ["_law_figures"] (defScope s_law_round) := ⟨rfl, rfl, rfl, by decide +kernel, rfl, by decide +kernel, by decide +kernel⟩
def d_law_round : He.DefD := ⟨("_law_round", none), "_law_round", "_law_round", defArgs s_law_round, defBody s_law_round, defScope s_law_round, [], []⟩
abbrev s_law_marks : Stmt := top 17
abbrev N_law_marks : List Str := ["_law_cell", "_law_parts_here", "_law_counter", "_law_draws_here", "_law_figures", "_law_day", "_law_shown", "_law_found", "_law_k", "_law_more", "_law_use", "_law_arrived"]
theorem sc_law_marks : FnScope N_law_marks ["_law_cell", "_law_parts_here", "_law_counter"] (defScope s_law_marks) := ⟨rfl, rfl, rfl, by decide +kernel, rfl, by decide +kernel, by decide +kernel⟩
def d_law_marks : He.DefD := ⟨("_law_marks", none), "_law_marks", "_law_marks", defArgs s_law_marks, defBody s_law_marks, defScope s_law_marks, [], []⟩
abbrev s_law_beyond : Stmt := top 18
abbrev N_law_beyond : List Str := ["_law_marks_here", "_law_number", "_law_found", "_law_k", "_law_mark", "_law_more", "_law_arrived", "_law_begun"]
theorem sc_law_beyond : FnScope N_law_beyond ["_law_marks_here", "_law_number"] (defScope s_law_beyond) := ⟨rfl, rfl, rfl, by decide +kernel, rfl, by decide +kernel, by decide +kernel⟩
def d_law_beyond : He.DefD := ⟨("_law_beyond", none), "_law_beyond", "_law_beyond", defArgs s_law_beyond, defBody s_law_beyond, defScope s_law_beyond, [], []⟩
abbrev s_law_whole : Stmt := top 19
abbrev N_law_whole : List Str := ["_law_found"]
theorem sc_law_whole : FnScope N_law_whole ["_law_found"] (defScope s_law_whole) := ⟨rfl, rfl, rfl, by decide +kernel, rfl, by decide +kernel, by decide +kernel⟩
def d_law_whole : He.DefD := ⟨("_law_whole", none), "_law_whole", "_law_whole", defArgs s_law_whole, defBody s_law_whole, defScope s_law_whole, [], []⟩
abbrev s_law_risen_right : Stmt := top 20
abbrev N_law_risen_right : List Str := ["_law_cell", "_law_number", "_law_figures", "_law_round_of", "_law_one", "_law_other", "_law_found"]
theorem sc_law_risen_right : FnScope N_law_risen_right ["_law_cell"] (defScope s_law_risen_right) := ⟨rfl, rfl, rfl, by decide +kernel, rfl, by decide +kernel, by decide +kernel⟩
def d_law_risen_right : He.DefD := ⟨("_law_risen_right", none), "_law_risen_right", "_law_risen_right", defArgs s_law_risen_right, defBody s_law_risen_right, defScope s_law_risen_right, [], []⟩
abbrev s_law_told_right : Stmt := top 21
abbrev N_law_told_right : List Str := ["_law_told", "_law_marks_here", "_law_k", "_law_after", "_law_before", "_law_one"]
theorem sc_law_told_right : FnScope N_law_told_right ["_law_told", "_law_marks_here"] (defScope s_law_told_right) := ⟨rfl, rfl, rfl, by decide +kernel, rfl, by decide +kernel, by decide +kernel⟩
def d_law_told_right : He.DefD := ⟨("_law_told_right", none), "_law_told_right", "_law_told_right", defArgs s_law_told_right, defBody s_law_told_right, defScope s_law_told_right, [], []⟩
abbrev s_law : Stmt := top 22
abbrev N_law : List Str := ["_law_script", "_law_cell", "_law_parts_here", "_law_k", "_law_counter", "_law_marks_here", "_law_handed", "_law_told"]
theorem sc_law : FnScope N_law ["_law_script"] (defScope s_law) := ⟨rfl, rfl, rfl, by decide +kernel, rfl, by decide +kernel, by decide +kernel⟩
def d_law : He.DefD := ⟨("law", none), "law", "law", defArgs s_law, defBody s_law, defScope s_law, [], []⟩
def fns0 : List He.DefD := [d_risen, d_uses, d_law_cell_at, d_law_mixed, d_law_draws, d_law_weights, d_law_prices, d_law_words, d_law_steps, d_law_parts, d_law_round, d_law_marks, d_law_beyond, d_law_whole, d_law_risen_right, d_law_told_right, d_law]
def fns : List He.DefD := fns0
def fas0 : List He.Fa := [.free "int", .free "len", .free "range", .free "enumerate", .free "max", .free "sorted", .free "isinstance", .free "bool", .free "list", .free "tuple", .free "all", .glo "risen", .glo "uses", .glo "_law_cell_at", .glo "_law_mixed", .glo "_law_draws", .glo "_law_weights", .glo "_law_prices", .glo "_law_words", .glo "_law_steps"]
def fas1 : List He.Fa := [.glo "_law_parts", .glo "_law_round", .glo "_law_marks", .glo "_law_beyond", .glo "_law_whole", .glo "_law_risen_right", .glo "_law_told_right", .glo "law"]
def fas : List He.Fa := fas0 ++ fas1
def loose0 : List PySem.Str := ["Sheet", "sheet_of", "risen", "uses", "_law_cell_at", "_law_mixed", "_law_draws", "_law_weights", "_law_prices", "_law_words", "_law_steps", "_law_parts", "_law_sheet", "_law_round", "_law_marks", "_law_beyond", "_law_whole", "_law_risen_right", "_law_told_right"]
def loose : List PySem.Str := loose0
structure Ctx (K : PySem.W.Frag) (mg : Str → Option Value) : Prop where
  hp : ∃ h : Heap, K.In h ∧ h.Ns mainGlobals mg
  says : He.SaysD fas fns K
section
variable {P : Program} {w : World} {K : PySem.W.Frag} {mg : Str → Option Value} {base : Heap} {C : Nat → Addr}
theorem Ctx.glo (c : Ctx K mg) (i : Nat) {x : Str} (h : fas[i]? = some (.glo x)) : mg x = some (.ref (He.ga K x)) := let ⟨_, a, b⟩ := c.hp; He.glo_ok a b (c.says.fact i h)
theorem Ctx.free (c : Ctx K mg) (i : Nat) {x : Str} (h : fas[i]? = some (.free x)) : mg x = none := let ⟨_, a, b⟩ := c.hp; He.free_ok a b (c.says.fact i h)
theorem Ctx.int (c : Ctx K mg) (i : Nat) {x : Str} {n : Int} (h : fas[i]? = some (.int x n)) : ∃ t, mg x = some (.int n t) := let ⟨_, a, b⟩ := c.hp; He.int_ok a b (c.says.fact i h)
theorem Ctx.str (c : Ctx K mg) (i : Nat) {x z : Str} (h : fas[i]? = some (.str x z)) : ∃ t, mg x = some (.str z t) := let ⟨_, a, b⟩ := c.hp; He.str_ok a b (c.says.fact i h)
theorem mk_has {k : Nat} {x : Str} {st : Stmt} {N ps : List Str} {s : Sx} {fd : FuncData} (F : FnP K x x st (He.ga K x) fd) (S : FnScope N ps (defScope st)) (g : mg x = some (.ref (He.ga K x)))
    (hb : ∀ (cdv : Value) (A : Around) (outer : List Env) (s0 : Shared) (H : Hp) (E : XK), Room k (A.deeper (envOfC x (defScope st) s0.heap.objs.size (He.ga K x) cdv)) →
      PBG (cxOf CX0 P w K mg base N x (defScope st) (He.ga K x) cdv A outer s0 H E).nox C (fun _ _ _ _ => False) (defBody st) s)
    (b : ∀ (kV doc pm : Value) (an : Option Addr) (cdv ct : Value) (us : List Value), us.length = ps.length → bindArgs (PySem.W.fnOf x x (defArgs st) (defBody st) (defScope st) .none kV doc pm an cdv ct) ⟨us, []⟩ = pure (ps.zip us)) :
    Has P w K mg base C (k + 1) x ps (runB N.length s) := ⟨_, fd, fn_ok0 F S hb, F.bindsN b, F.kp, g⟩
theorem mk_has0 {x : Str} {st : Stmt} {N ps : List Str} {fd : FuncData} (F : FnP K x x st (He.ga K x) fd) (S : FnScope N ps (defScope st)) (g : mg x = some (.ref (He.ga K x)))
    (b : ∀ (kV doc pm : Value) (an : Option Addr) (cdv ct : Value) (us : List Value), us.length = ps.length → bindArgs (PySem.W.fnOf x x (defArgs st) (defBody st) (defScope st) .none kV doc pm an cdv ct) ⟨us, []⟩ = pure (ps.zip us)) :
    Has P w K mg base C 1 x ps (fun _ _ => none) := ⟨_, fd, F.ok (k := 0) S (fun vs H Q E h => spI_len vs H Q _ h) (fun cdv A outer s0 H vs Q E hr h => by
      obtain ⟨ds, M, F, A, hn, hr, rs, ok⟩ := h
      exact ok.elim), F.bindsN b, F.kp, g⟩
theorem ok_risen (c : Ctx K mg) : Has P w K mg base C 1 "risen" ["figures", "before", "after"] I_risen := by
  obtain ⟨fd, F⟩ := c.says.def_ 0 (d := d_risen) rfl
  exact mk_has (st := s_risen) (N := N_risen) (s := S_risen) F sc_risen (c.glo 11 rfl)
    (fun cdv A outer s0 H E hr => by
    unfold S_risen
    exact bOne (sRet_ (gBin oMod (gBin oSub (gVar 2) (gVar 1)) (gCallTy cInt rfl (c.free 0 rfl) (by decide +kernel) (gAcons (gBin oAdd (gStr) (gBin oMul (gStr) (gVar 0))) (gAnil))))))
    (fun _ _ _ _ _ _ us hl => match us, hl with | [_, _, _], _ => rfl)
theorem ok_uses (c : Ctx K mg) : Has P w K mg base C 2 "uses" ["marks"] I_uses := by
  obtain ⟨fd, F⟩ := c.says.def_ 1 (d := d_uses) rfl
  have h_risen := ok_risen (P := P) (w := w) (base := base) (C := C) c
  exact mk_has (st := s_uses) (N := N_uses) (s := S_uses) F sc_uses (c.glo 12 rfl)
    (fun cdv A outer s0 H E hr => by
    unfold S_uses
    exact bCons (sNew_ sc_uses.nd rfl (by first | exact Or.inl rfl | exact Or.inr rfl) (nLst (gAnil)))
            (bCons (sFor_ [2, 3, 4] PassesOwn.never rfl (iR2 rfl (c.free 2 rfl) (gAcons (gInt) (gAcons (gCaB cLen rfl (c.free 1 rfl) (by decide +kernel) (gAcons (gVar 0) (gAnil))) (gAnil)))) (tName sc_uses.nd rfl (by first | exact Or.inl rfl | exact Or.inr rfl))
            (bCons (sSet_ sc_uses.nd rfl (by first | exact Or.inl rfl | exact Or.inr rfl) (gItem_ hr.units (gVar 0) (gBin oSub (gVar 2) (gInt))))
            (bCons (sSet_ sc_uses.nd rfl (by first | exact Or.inl rfl | exact Or.inr rfl) (gItem_ hr.units (gVar 0) (gVar 2)))
            (bOne (sMut_ PySem.F.plainAttrs_list PySem.F.slot_list_append PySem.F.type_list_append wApp (gVar 1) (gAcons (gTup (gAcons (gItem_ hr.units (gVar 3) (gInt)) (gAcons (gItem_ hr.units (gVar 4) (gInt)) (gAcons (callP h_risen rfl (hr.mono (by decide)) rfl (gAcons (gItem_ hr.units (gVar 3) (gInt)) (gAcons (gItem_ hr.units (gVar 3) (gInt)) (gAcons (gItem_ hr.units (gVar 4) (gInt)) (gAnil)))) (acons_len (acons_len (acons_len (anil_len))))) (gAnil))))) (gAnil)))))))
            (bOne (sRet_ (gVar 1)))))
    (fun _ _ _ _ _ _ us hl => match us, hl with | [_], _ => rfl)
theorem ok_law_cell_at (c : Ctx K mg) : Has P w K mg base C 1 "_law_cell_at" ["_law_script", "_law_k"] I_law_cell_at := by
  obtain ⟨fd, F⟩ := c.says.def_ 2 (d := d_law_cell_at) rfl
  exact mk_has (st := s_law_cell_at) (N := N_law_cell_at) (s := S_law_cell_at) F sc_law_cell_at (c.glo 13 rfl)
    (fun cdv A outer s0 H E hr => by
    unfold S_law_cell_at
    exact bCons (sIf_ (gCmpT oLt (gVar 1) (gCaB cLen rfl (c.free 1 rfl) (by decide +kernel) (gAcons (gVar 0) (gAnil))) (nomark _))
            (bOne (sRet_ (gItem_ hr.units (gVar 0) (gVar 1))))
            (bNil))
            (bOne (sRet_ (gInt))))
    (fun _ _ _ _ _ _ us hl => match us, hl with | [_, _], _ => rfl)
theorem ok_law_mixed (c : Ctx K mg) : Has P w K mg base C 1 "_law_mixed" ["_law_number", "_law_k"] I_law_mixed := by
  obtain ⟨fd, F⟩ := c.says.def_ 3 (d := d_law_mixed) rfl
  exact mk_has (st := s_law_mixed) (N := N_law_mixed) (s := S_law_mixed) F sc_law_mixed (c.glo 14 rfl)
    (fun cdv A outer s0 H E hr => by
    unfold S_law_mixed
    exact bCons (sSet_ sc_law_mixed.nd rfl (by first | exact Or.inl rfl | exact Or.inr rfl) (gBin oMod (gBin oMul (gBin oAdd (gBin oAdd (gBin oMod (gVar 0) (gInt)) (gBin oMul (gInt) (gVar 1))) (gInt)) (gInt)) (gInt)))
            (bOne (sRet_ (gBin oMod (gBin oMul (gVar 2) (gBin oAdd (gBin oAdd (gBin oMod (gVar 2) (gInt)) (gVar 1)) (gInt))) (gInt)))))
    (fun _ _ _ _ _ _ us hl => match us, hl with | [_, _], _ => rfl)
theorem ok_law_draws (c : Ctx K mg) : Has P w K mg base C 2 "_law_draws" ["_law_cell", "_law_many", "_law_size"] I_law_draws := by
  obtain ⟨fd, F⟩ := c.says.def_ 4 (d := d_law_draws) rfl
  have h_law_mixed := ok_law_mixed (P := P) (w := w) (base := base) (C := C) c
  exact mk_has (st := s_law_draws) (N := N_law_draws) (s := S_law_draws) F sc_law_draws (c.glo 15 rfl)
    (fun cdv A outer s0 H E hr => by
    unfold S_law_draws
    exact bCons (sNew_ sc_law_draws.nd rfl (by first | exact Or.inl rfl | exact Or.inr rfl) (nLst (gAnil)))
            (bCons (sSet_ sc_law_draws.nd rfl (by first | exact Or.inl rfl | exact Or.inr rfl) (gBin oDiv (gVar 0) (gInt)))
            (bCons (sFor_ [5] PassesOwn.never rfl (iR1 rfl (c.free 2 rfl) (gAcons (gVar 1) (gAnil))) (tName sc_law_draws.nd rfl (by first | exact Or.inl rfl | exact Or.inr rfl))
            (bOne (sIf_ (gCmpT (oEq hr.units) (gBin oMod (gVar 0) (gInt)) (gInt) (nomark _))
            (bCons (sMut_ PySem.F.plainAttrs_list PySem.F.slot_list_append PySem.F.type_list_append wApp (gVar 3) (gAcons (gBin oMod (gVar 4) (gVar 2)) (gAnil)))
            (bOne (sSet_ sc_law_draws.nd rfl (by first | exact Or.inl rfl | exact Or.inr rfl) (gBin oDiv (gVar 4) (gVar 2)))))
            (bOne (sMut_ PySem.F.plainAttrs_list PySem.F.slot_list_append PySem.F.type_list_append wApp (gVar 3) (gAcons (gBin oMod (callP h_law_mixed rfl (hr.mono (by decide)) rfl (gAcons (callP h_law_mixed rfl (hr.mono (by decide)) rfl (gAcons (gVar 0) (gAcons (gVar 5) (gAnil))) (acons_len (acons_len (anil_len)))) (gAcons (gInt) (gAnil))) (acons_len (acons_len (anil_len)))) (gVar 2)) (gAnil)))))))
            (bOne (sRet_ (gVar 3))))))
    (fun _ _ _ _ _ _ us hl => match us, hl with | [_, _, _], _ => rfl)
theorem ok_law_weights (c : Ctx K mg) : Has P w K mg base C 1 "_law_weights" ["_law_kinds", "_law_bands", "_law_draws_here"] I_law_weights := by
  obtain ⟨fd, F⟩ := c.says.def_ 5 (d := d_law_weights) rfl
  exact mk_has (st := s_law_weights) (N := N_law_weights) (s := S_law_weights) F sc_law_weights (c.glo 16 rfl)
    (fun cdv A outer s0 H E hr => by
    unfold S_law_weights
    exact bCons (sNew_ sc_law_weights.nd rfl (by first | exact Or.inl rfl | exact Or.inr rfl) (nDictT))
            (bCons (sFor_ [4, 5, 6, 7, 8] PassesOwn.never rfl (iE rfl (c.free 3 rfl) (gAcons (gVar 0) (gAnil))) (tTup rfl (tsCons (tName sc_law_weights.nd rfl (by first | exact Or.inl rfl | exact Or.inr rfl)) (tsCons (tName sc_law_weights.nd rfl (by first | exact Or.inl rfl | exact Or.inr rfl)) (tsNil))))
            (bCons (sFor_ [6, 7] PassesOwn.never rfl (iE rfl (c.free 3 rfl) (gAcons (gVar 1) (gAnil))) (tTup rfl (tsCons (tName sc_law_weights.nd rfl (by first | exact Or.inl rfl | exact Or.inr rfl)) (tsCons (tName sc_law_weights.nd rfl (by first | exact Or.inl rfl | exact Or.inr rfl)) (tsNil))))
            (bOne (sPut_ hr.units (gVar 3) (gTup (gAcons (gVar 5) (gAcons (gItem_ hr.units (gVar 6) (gInt)) (gAnil)))) (gItem_ hr.units (gLst (gAcons (gInt) (gAcons (gInt) (gAcons (gInt) (gAcons (gInt) (gAcons (gInt) (gAnil))))))) (gBin oMod (gItem_ hr.units (gVar 2) (gBin oAdd (gBin oMul (gInt) (gVar 4)) (gVar 7))) (gInt))))))
            (bOne (sFor_ [6, 7, 8] PassesOwn.never rfl (iE rfl (c.free 3 rfl) (gAcons (gVar 1) (gAnil))) (tTup rfl (tsCons (tName sc_law_weights.nd rfl (by first | exact Or.inl rfl | exact Or.inr rfl)) (tsCons (tName sc_law_weights.nd rfl (by first | exact Or.inl rfl | exact Or.inr rfl)) (tsNil))))
            (bCons (sSetLc_ [("_law_other", 9)] rfl sc_law_weights.nd rfl rfl (sw_true rfl rfl rfl (by decide +kernel)) (iL (gVar 1)) (blkOk_by (N := N_law_weights) (sc := defScope s_law_weights) (by decide +kernel)) (fun _ _ _ _ _ => tName sc_law_weights.nd rfl (by first | exact Or.inl rfl | exact Or.inr rfl)) (fun _ _ _ _ _ => gtsOne (gCmpT (oEq hr.units) (gItem_ hr.units (gVar 9) (gInt)) (gItem_ hr.units (gVar 6) (gInt)) (nomark _))) (fun _ _ _ _ _ => gItem_ hr.units (gVar 3) (gTup (gAcons (gVar 5) (gAcons (gItem_ hr.units (gVar 9) (gInt)) (gAnil))))) (by decide))
            (bOne (sIf_ (gCmpT (oEq hr.units) (gCaB (cMax rfl) rfl (c.free 4 rfl) (by decide +kernel) (gAcons (gVar 8) (gAnil))) (gInt) (nomark _))
            (bOne (sPut_ hr.units (gVar 3) (gTup (gAcons (gVar 5) (gAcons (gItem_ hr.units (gVar 6) (gInt)) (gAnil)))) (gBin oAdd (gInt) (gBin oMod (gBin oDiv (gItem_ hr.units (gVar 2) (gBin oAdd (gBin oMul (gInt) (gVar 4)) (gVar 7))) (gInt)) (gInt)))))
            (bNil))))))))
            (bOne (sRet_ (gVar 3)))))
    (fun _ _ _ _ _ _ us hl => match us, hl with | [_, _, _], _ => rfl)
theorem ok_law_prices (c : Ctx K mg) : Has P w K mg base C 1 "_law_prices" ["_law_kinds", "_law_bands", "_law_draws_here"] I_law_prices := by
  obtain ⟨fd, F⟩ := c.says.def_ 6 (d := d_law_prices) rfl
  exact mk_has (st := s_law_prices) (N := N_law_prices) (s := S_law_prices) F sc_law_prices (c.glo 17 rfl)
    (fun cdv A outer s0 H E hr => by
    unfold S_law_prices
    exact bCons (sNew_ sc_law_prices.nd rfl (by first | exact Or.inl rfl | exact Or.inr rfl) (nDictT))
            (bCons (sFor_ [4, 5, 6, 7, 8] PassesOwn.never rfl (iE rfl (c.free 3 rfl) (gAcons (gVar 0) (gAnil))) (tTup rfl (tsCons (tName sc_law_prices.nd rfl (by first | exact Or.inl rfl | exact Or.inr rfl)) (tsCons (tName sc_law_prices.nd rfl (by first | exact Or.inl rfl | exact Or.inr rfl)) (tsNil))))
            (bOne (sFor_ [6, 7, 8] PassesOwn.never rfl (iE rfl (c.free 3 rfl) (gAcons (gVar 1) (gAnil))) (tTup rfl (tsCons (tName sc_law_prices.nd rfl (by first | exact Or.inl rfl | exact Or.inr rfl)) (tsCons (tName sc_law_prices.nd rfl (by first | exact Or.inl rfl | exact Or.inr rfl)) (tsNil))))
            (bCons (sSet_ sc_law_prices.nd rfl (by first | exact Or.inl rfl | exact Or.inr rfl) (gItem_ hr.units (gVar 2) (gBin oAdd (gBin oMul (gInt) (gVar 4)) (gVar 7))))
            (bOne (sPut_ hr.units (gVar 3) (gTup (gAcons (gVar 5) (gAcons (gItem_ hr.units (gVar 6) (gInt)) (gAnil)))) (gItem_ hr.units (gLst (gAcons (gBin oMod (gBin oDiv (gVar 8) (gInt)) (gInt)) (gAcons (gInt) (gAcons (gBin oMul (gVar 8) (gBin oPow (gInt) (gInt))) (gAcons (gBin oAdd (gBin oMul (gBin oPow (gInt) (gInt)) (gBin oMod (gVar 8) (gInt))) (gVar 8)) (gAnil)))))) (gBin oMod (gVar 8) (gInt)))))))))
            (bOne (sRet_ (gVar 3)))))
    (fun _ _ _ _ _ _ us hl => match us, hl with | [_, _, _], _ => rfl)
theorem ok_law_words (c : Ctx K mg) : Has P w K mg base C 1 "_law_words" ["_law_number"] I_law_words := by
  obtain ⟨fd, F⟩ := c.says.def_ 7 (d := d_law_words) rfl
  exact mk_has (st := s_law_words) (N := N_law_words) (s := S_law_words) F sc_law_words (c.glo 18 rfl)
    (fun cdv A outer s0 H E hr => by
    unfold S_law_words
    exact bCons (sSet_ sc_law_words.nd rfl (by first | exact Or.inl rfl | exact Or.inr rfl) (gLst (gAcons (gStr) (gAcons (gStr) (gAcons (gStr) (gAcons (gStr) (gAcons (gStr) (gAcons (gStr) (gAcons (gStr) (gAcons (gStr) (gAcons (gStr) (gAcons (gStr) (gAcons (gStr) (gAcons (gStr) (gAnil)))))))))))))))
            (bCons (sSet_ sc_law_words.nd rfl (by first | exact Or.inl rfl | exact Or.inr rfl) (gLst (gAcons (gStr) (gAcons (gStr) (gAcons (gStr) (gAcons (gStr) (gAcons (gStr) (gAcons (gStr) (gAcons (gStr) (gAcons (gStr) (gAcons (gStr) (gAcons (gStr) (gAcons (gStr) (gAcons (gStr) (gAnil)))))))))))))))
            (bCons (sSet_ sc_law_words.nd rfl (by first | exact Or.inl rfl | exact Or.inr rfl) (gLst (gAcons (gStr) (gAcons (gStr) (gAcons (gStr) (gAcons (gStr) (gAcons (gStr) (gAcons (gStr) (gAcons (gStr) (gAcons (gStr) (gAnil)))))))))))
            (bCons (sSet_ sc_law_words.nd rfl (by first | exact Or.inl rfl | exact Or.inr rfl) (gBin oAdd (gVar 3) (gLst (gAcons (gStr) (gAcons (gStr) (gAcons (gStr) (gAcons (gStr) (gAnil))))))))
            (bOne (sRet_ (gItem_ hr.units (gLst (gAcons (gVar 1) (gAcons (gVar 2) (gAcons (gVar 3) (gAnil))))) (gBin oMod (gVar 0) (gInt)))))))))
    (fun _ _ _ _ _ _ us hl => match us, hl with | [_], _ => rfl)
theorem ok_law_steps (c : Ctx K mg) : Has P w K mg base C 1 "_law_steps" ["_law_many", "_law_draws_here"] I_law_steps := by
  obtain ⟨fd, F⟩ := c.says.def_ 8 (d := d_law_steps) rfl
  exact mk_has (st := s_law_steps) (N := N_law_steps) (s := S_law_steps) F sc_law_steps (c.glo 19 rfl)
    (fun cdv A outer s0 H E hr => by
    unfold S_law_steps
    exact bCons (sSet_ sc_law_steps.nd rfl (by first | exact Or.inl rfl | exact Or.inr rfl) (gInt))
            (bCons (sNew_ sc_law_steps.nd rfl (by first | exact Or.inl rfl | exact Or.inr rfl) (nLst (gAnil)))
            (bCons (sFor_ [4] PassesOwn.never rfl (iR1 rfl (c.free 2 rfl) (gAcons (gVar 0) (gAnil))) (tName sc_law_steps.nd rfl (by first | exact Or.inl rfl | exact Or.inr rfl))
            (bCons (sSet_ sc_law_steps.nd rfl (by first | exact Or.inl rfl | exact Or.inr rfl) (gBin oAdd (gBin oAdd (gBin oAdd (gVar 2) (gInt)) (gBin oMod (gItem_ hr.units (gVar 1) (gBin oAdd (gInt) (gVar 4))) (gItem_ hr.units (gLst (gAcons (gInt) (gAcons (gInt) (gAnil)))) (gBin oMod (gItem_ hr.units (gVar 1) (gBin oAdd (gInt) (gVar 4))) (gInt))))) (gBin oMul (gBin oPow (gInt) (gInt)) (gCallTy cInt rfl (c.free 0 rfl) (by decide +kernel) (gAcons (gCmp (oEq hr.units) (gBin oMod (gItem_ hr.units (gVar 1) (gBin oAdd (gInt) (gVar 4))) (gInt)) (gInt) (nomark _)) (gAnil))))))
            (bOne (sMut_ PySem.F.plainAttrs_list PySem.F.slot_list_append PySem.F.type_list_append wApp (gVar 3) (gAcons (gTup (gAcons (gVar 2) (gAcons (gBin oAdd (gBin oMod (gBin oDiv (gItem_ hr.units (gVar 1) (gBin oAdd (gInt) (gVar 4))) (gInt)) (gInt)) (gBin oMul (gBin oPow (gInt) (gInt)) (gCallTy cInt rfl (c.free 0 rfl) (by decide +kernel) (gAcons (gCmp (oEq hr.units) (gBin oMod (gItem_ hr.units (gVar 1) (gBin oAdd (gInt) (gVar 4))) (gInt)) (gInt) (nomark _)) (gAnil))))) (gAnil)))) (gAnil))))))
            (bOne (sRet_ (gVar 3))))))
    (fun _ _ _ _ _ _ us hl => match us, hl with | [_, _], _ => rfl)
theorem ok_law_parts (c : Ctx K mg) : Has P w K mg base C 3 "_law_parts" ["_law_cell"] I_law_parts := by
  obtain ⟨fd, F⟩ := c.says.def_ 9 (d := d_law_parts) rfl
  have h_law_draws := ok_law_draws (P := P) (w := w) (base := base) (C := C) c
  have h_law_mixed := ok_law_mixed (P := P) (w := w) (base := base) (C := C) c
  have h_law_prices := ok_law_prices (P := P) (w := w) (base := base) (C := C) c
  have h_law_steps := ok_law_steps (P := P) (w := w) (base := base) (C := C) c
  have h_law_weights := ok_law_weights (P := P) (w := w) (base := base) (C := C) c
  have h_law_words := ok_law_words (P := P) (w := w) (base := base) (C := C) c
  exact mk_has (st := s_law_parts) (N := N_law_parts) (s := S_law_parts) F sc_law_parts (c.glo 20 rfl)
    (fun cdv A outer s0 H E hr => by
    unfold S_law_parts
    exact bCons (sSet_ sc_law_parts.nd rfl (by first | exact Or.inl rfl | exact Or.inr rfl) (callP h_law_draws rfl (hr.mono (by decide)) rfl (gAcons (gVar 0) (gAcons (gInt) (gAcons (gInt) (gAnil)))) (acons_len (acons_len (acons_len (anil_len))))))
            (bCons (sSet_ sc_law_parts.nd rfl (by first | exact Or.inl rfl | exact Or.inr rfl) (callP h_law_draws rfl (hr.mono (by decide)) rfl (gAcons (callP h_law_mixed rfl (hr.mono (by decide)) rfl (gAcons (gVar 0) (gAcons (gInt) (gAnil))) (acons_len (acons_len (anil_len)))) (gAcons (gInt) (gAcons (gInt) (gAnil)))) (acons_len (acons_len (acons_len (anil_len))))))
            (bCons (sSet_ sc_law_parts.nd rfl (by first | exact Or.inl rfl | exact Or.inr rfl) (callP h_law_draws rfl (hr.mono (by decide)) rfl (gAcons (gBin oAdd (gInt) (gBin oMul (gInt) (callP h_law_mixed rfl (hr.mono (by decide)) rfl (gAcons (gVar 0) (gAcons (gInt) (gAnil))) (acons_len (acons_len (anil_len)))))) (gAcons (gInt) (gAcons (gInt) (gAnil)))) (acons_len (acons_len (acons_len (anil_len))))))
            (bCons (sSet_ sc_law_parts.nd rfl (by first | exact Or.inl rfl | exact Or.inr rfl) (callP h_law_words rfl (hr.mono (by decide)) rfl (gAcons (gItem_ hr.units (gVar 1) (gInt)) (gAnil)) (acons_len (anil_len))))
            (bCons (sSet_ sc_law_parts.nd rfl (by first | exact Or.inl rfl | exact Or.inr rfl) (gSlice oCut (gVar 4) (gOnone) (gOsome (gBin oAdd (gInt) (gBin oMod (gItem_ hr.units (gVar 1) (gInt)) (gInt))))))
            (bCons (sNewDN_ sc_law_parts.nd rfl (by first | exact Or.inl rfl | exact Or.inr rfl) (pnCons (gLc [("_law_one", 12)] rfl sc_law_parts.nd (iL (gSlice oCut (gVar 1) (gOsome (gInt)) (gOsome (gInt)))) (blkOk_by (N := N_law_parts) (sc := defScope s_law_parts) (by decide +kernel)) (fun _ _ _ _ _ => tName sc_law_parts.nd rfl (by first | exact Or.inl rfl | exact Or.inr rfl)) (fun _ _ _ _ _ => gtsNil) (fun _ _ _ _ _ => gItem_ hr.units (gVar 5) (gBin oMod (gVar 12) (gCaB cLen rfl (c.free 1 rfl) (by decide +kernel) (gAcons (gVar 5) (gAnil))))) (by decide)) (pnLast)))
            (bCons (sFrzK_ 6 (.s "special") (sFor_ [7] PassesOwn.never rfl (iR1 rfl (c.free 2 rfl) (gAcons (gItem_ hr.units (gLst (gAcons (gInt) (gAcons (gInt) (gAcons (gInt) (gAcons (gInt) (gAcons (gInt) (gAcons (gInt) (gAnil)))))))) (gBin oMod (gItem_ hr.units (gVar 1) (gInt)) (gInt))) (gAnil))) (tName sc_law_parts.nd rfl (by first | exact Or.inl rfl | exact Or.inr rfl))
            (bOne (sPut_ hr.units (gItem_ hr.units (gVar 6) (gStr)) (gBin oMod (gItem_ hr.units (gVar 3) (gVar 7)) (gItem_ hr.units (gLst (gAcons (gInt) (gAcons (gInt) (gAcons (gInt) (gAnil))))) (gBin oMod (gBin oDiv (gItem_ hr.units (gVar 3) (gVar 7)) (gInt)) (gInt)))) (gItem_ hr.units (gLst (gAcons (gItem_ hr.units (gVar 4) (gInt)) (gAcons (gItem_ hr.units (gVar 4) (gInt)) (gAcons (gItem_ hr.units (gVar 4) (gInt)) (gAnil))))) (gBin oMod (gItem_ hr.units (gVar 3) (gBin oAdd (gVar 7) (gInt))) (gInt)))))))
            (bCons (sNew_ sc_law_parts.nd rfl (by first | exact Or.inl rfl | exact Or.inr rfl) (nLst (gAnil)))
            (bCons (sFrz_ 8 (sFor_ [9] PassesOwn.never rfl (iL (gBin oAdd (gItem_ hr.units (gVar 6) (gStr)) (gLc [("_law_day", 13)] rfl sc_law_parts.nd (iL (gCaB (cSort rfl) rfl (c.free 5 rfl) (by decide +kernel) (gAcons (gItem_ hr.units (gVar 6) (gStr)) (gAnil)))) (blkOk_by (N := N_law_parts) (sc := defScope s_law_parts) (by decide +kernel)) (fun _ _ _ _ _ => tName sc_law_parts.nd rfl (by first | exact Or.inl rfl | exact Or.inr rfl)) (fun _ _ _ _ _ => gtsNil) (fun _ _ _ _ _ => gItem_ hr.units (gItem_ hr.units (gVar 6) (gStr)) (gVar 13)) (by decide)))) (tName sc_law_parts.nd rfl (by first | exact Or.inl rfl | exact Or.inr rfl))
            (bOne (sIf_ (gNotInT_ hr.units (gVar 9) (gVar 8) (by rfl))
            (bOne (sMut_ PySem.F.plainAttrs_list PySem.F.slot_list_append PySem.F.type_list_append wApp (gVar 8) (gAcons (gVar 9) (gAnil))))
            (bNil)))))
            (bCons (sNew_ sc_law_parts.nd rfl (by first | exact Or.inl rfl | exact Or.inr rfl) (nLst (gAnil)))
            (bCons (sFrz_ 10 (sFor_ [7] PassesOwn.never rfl (iR1 rfl (c.free 2 rfl) (gAcons (gBin oAdd (gInt) (gBin oMod (gItem_ hr.units (gVar 1) (gInt)) (gInt))) (gAnil))) (tName sc_law_parts.nd rfl (by first | exact Or.inl rfl | exact Or.inr rfl))
            (bOne (sMut_ PySem.F.plainAttrs_list PySem.F.slot_list_append PySem.F.type_list_append wApp (gVar 10) (gAcons (gTup (gAcons (gItem_ hr.units (gVar 4) (gBin oAdd (gInt) (gVar 7))) (gAcons (gItem_ hr.units (gVar 4) (gBin oAdd (gInt) (gBin oMod (gItem_ hr.units (gVar 1) (gBin oAdd (gInt) (gVar 7))) (gItem_ hr.units (gLst (gAcons (gInt) (gAcons (gInt) (gAnil)))) (gBin oMod (gItem_ hr.units (gVar 1) (gInt)) (gInt)))))) (gAnil)))) (gAnil))))))
            (bCons (sPut_ hr.units (gVar 6) (gStr) (gVar 10))
            (bCons (sPut_ hr.units (gVar 6) (gStr) (callP h_law_weights rfl (hr.mono (by decide)) rfl (gAcons (gVar 8) (gAcons (gVar 10) (gAcons (gVar 2) (gAnil)))) (acons_len (acons_len (acons_len (anil_len))))))
            (bCons (sPut_ hr.units (gVar 6) (gStr) (callP h_law_prices rfl (hr.mono (by decide)) rfl (gAcons (gVar 8) (gAcons (gVar 10) (gAcons (gVar 3) (gAnil)))) (acons_len (acons_len (acons_len (anil_len))))))
            (bCons (sPut_ hr.units (gVar 6) (gStr) (callP h_law_steps rfl (hr.mono (by decide)) rfl (gAcons (gBin oMod (gItem_ hr.units (gVar 1) (gInt)) (gInt)) (gAcons (gVar 3) (gAnil))) (acons_len (acons_len (anil_len)))))
            (bCons (sPut_ hr.units (gVar 6) (gStr) (gBin oAdd (gItem_ hr.units (gVar 1) (gInt)) (gBin oMul (gBin oPow (gInt) (gInt)) (gCallTy cInt rfl (c.free 0 rfl) (by decide +kernel) (gAcons (gCmp (oEq hr.units) (gBin oMod (gItem_ hr.units (gVar 1) (gInt)) (gInt)) (gInt) (nomark _)) (gAnil))))))
            (bCons (sPut_ hr.units (gVar 6) (gStr) (gBin oAdd (gInt) (gBin oMod (gItem_ hr.units (gVar 1) (gInt)) (gInt))))
            (bCons (sPutN_ hr.units (gVar 6) (gStr) (nDictK))
            (bCons (sPutN_ hr.units (gVar 6) (gStr) (nDictK))
            (bCons (sFrzK_ 6 (.s "rises") (sFrzK_ 6 (.s "figures") (sFor_ [7, 11] PassesOwn.never rfl (iE rfl (c.free 3 rfl) (gAcons (gVar 10) (gAnil))) (tTup rfl (tsCons (tName sc_law_parts.nd rfl (by first | exact Or.inl rfl | exact Or.inr rfl)) (tsCons (tName sc_law_parts.nd rfl (by first | exact Or.inl rfl | exact Or.inr rfl)) (tsNil))))
            (bOne (sIf_ (gNotInT_ hr.units (gItem_ hr.units (gVar 11) (gInt)) (gItem_ hr.units (gVar 6) (gStr)) (by rfl))
            (bCons (sPut_ hr.units (gItem_ hr.units (gVar 6) (gStr)) (gItem_ hr.units (gVar 11) (gInt)) (gBin oAdd (gInt) (gBin oMod (gItem_ hr.units (gVar 3) (gBin oAdd (gInt) (gVar 7))) (gInt))))
            (bOne (sPut_ hr.units (gItem_ hr.units (gVar 6) (gStr)) (gItem_ hr.units (gVar 11) (gInt)) (gItem_ hr.units (gLst (gAcons (gBin oAdd (gInt) (gBin oMod (gItem_ hr.units (gVar 3) (gVar 7)) (gInt))) (gAcons (gBin oPow (gInt) (gInt)) (gAnil)))) (gBin oMod (gBin oDiv (gItem_ hr.units (gVar 3) (gBin oAdd (gInt) (gVar 7))) (gInt)) (gInt))))))
            (bNil))))))
            (bOne (sRet_ (gVar 6)))))))))))))))))))))))
    (fun _ _ _ _ _ _ us hl => match us, hl with | [_], _ => rfl)
theorem ok_law_round (c : Ctx K mg) : Has P w K mg base C 1 "_law_round" ["_law_figures"] I_law_round := by
  obtain ⟨fd, F⟩ := c.says.def_ 10 (d := d_law_round) rfl
  exact mk_has (st := s_law_round) (N := N_law_round) (s := S_law_round) F sc_law_round (c.glo 21 rfl)
    (fun cdv A outer s0 H E hr => by
    unfold S_law_round
    exact bOne (sRet_ (gCallTy cInt rfl (c.free 0 rfl) (by decide +kernel) (gAcons (gBin oAdd (gStr) (gBin oMul (gStr) (gVar 0))) (gAnil)))))
    (fun _ _ _ _ _ _ us hl => match us, hl with | [_], _ => rfl)
theorem ok_law_marks (c : Ctx K mg) : Has P w K mg base C 3 "_law_marks" ["_law_cell", "_law_parts_here", "_law_counter"] I_law_marks := by
  obtain ⟨fd, F⟩ := c.says.def_ 11 (d := d_law_marks) rfl
  have h_law_draws := ok_law_draws (P := P) (w := w) (base := base) (C := C) c
  have h_law_round := ok_law_round (P := P) (w := w) (base := base) (C := C) c
  exact mk_has (st := s_law_marks) (N := N_law_marks) (s := S_law_marks) F sc_law_marks (c.glo 22 rfl)
    (fun cdv A outer s0 H E hr => by
    unfold S_law_marks
    exact bCons (sSet_ sc_law_marks.nd rfl (by first | exact Or.inl rfl | exact Or.inr rfl) (callP h_law_draws rfl (hr.mono (by decide)) rfl (gAcons (gVar 0) (gAcons (gInt) (gAcons (gInt) (gAnil)))) (acons_len (acons_len (acons_len (anil_len))))))
            (bCons (sSet_ sc_law_marks.nd rfl (by first | exact Or.inl rfl | exact Or.inr rfl) (gItem_ hr.units (gItem_ hr.units (gVar 1) (gStr)) (gVar 2)))
            (bCons (sSet_ sc_law_marks.nd rfl (by first | exact Or.inl rfl | exact Or.inr rfl) (gBin oMod (gItem_ hr.units (gVar 3) (gInt)) (gInt)))
            (bCons (sSet_ sc_law_marks.nd rfl (by first | exact Or.inl rfl | exact Or.inr rfl) (gBin oMod (gBin oMul (gItem_ hr.units (gVar 3) (gInt)) (gInt)) (callP h_law_round rfl (hr.mono (by decide)) rfl (gAcons (gVar 4) (gAnil)) (acons_len (anil_len)))))
            (bCons (sNew_ sc_law_marks.nd rfl (by first | exact Or.inl rfl | exact Or.inr rfl) (nLst (gAnil)))
            (bCons (sFor_ [8, 9, 10, 11] PassesOwn.never rfl (iR1 rfl (c.free 2 rfl) (gAcons (gBin oMod (gItem_ hr.units (gVar 3) (gInt)) (gInt)) (gAnil))) (tName sc_law_marks.nd rfl (by first | exact Or.inl rfl | exact Or.inr rfl))
            (bCons (sSet_ sc_law_marks.nd rfl (by first | exact Or.inl rfl | exact Or.inr rfl) (gItem_ hr.units (gVar 3) (gBin oSub (gBin oAdd (gInt) (gBin oMul (gInt) (gVar 8))) (gBin oMul (gInt) (gBin oDiv (gVar 8) (gInt))))))
            (bCons (sSet_ sc_law_marks.nd rfl (by first | exact Or.inl rfl | exact Or.inr rfl) (gItem_ hr.units (gLst (gAcons (gBin oMod (gVar 9) (gInt)) (gAcons (gVar 9) (gAcons (gBin oMul (gVar 9) (gBin oPow (gInt) (gInt))) (gAcons (gBin oSub (callP h_law_round rfl (hr.mono (by decide)) rfl (gAcons (gVar 4) (gAnil)) (acons_len (anil_len))) (gInt)) (gAnil)))))) (gBin oMod (gBin oDiv (gVar 9) (gInt)) (gInt))))
            (bCons (sSet_ sc_law_marks.nd rfl (by first | exact Or.inl rfl | exact Or.inr rfl) (gBin oMod (gBin oAdd (gVar 6) (gVar 10)) (callP h_law_round rfl (hr.mono (by decide)) rfl (gAcons (gVar 4) (gAnil)) (acons_len (anil_len)))))
            (bCons (sSet_ sc_law_marks.nd rfl (by first | exact Or.inl rfl | exact Or.inr rfl) (gVar 11))
            (bCons (sIf_ (gCmpT (oEq hr.units) (gBin oMod (gVar 9) (gInt)) (gInt) (nomark _))
            (bCons (sSet_ sc_law_marks.nd rfl (by first | exact Or.inl rfl | exact Or.inr rfl) (gBin oAdd (gInt) (gBin oMod (gItem_ hr.units (gVar 3) (gBin oAdd (gInt) (gVar 8))) (gInt))))
            (bOne (sSet_ sc_law_marks.nd rfl (by first | exact Or.inl rfl | exact Or.inr rfl) (gBin oMod (gBin oMul (gItem_ hr.units (gVar 3) (gBin oAdd (gInt) (gVar 8))) (gInt)) (callP h_law_round rfl (hr.mono (by decide)) rfl (gAcons (gVar 4) (gAnil)) (acons_len (anil_len)))))))
            (bNil))
            (bCons (sMut_ PySem.F.plainAttrs_list PySem.F.slot_list_append PySem.F.type_list_append wApp (gVar 7) (gAcons (gTup (gAcons (gVar 5) (gAcons (gVar 11) (gAcons (gVar 6) (gAcons (gVar 4) (gAnil)))))) (gAnil)))
            (bOne (sSet_ sc_law_marks.nd rfl (by first | exact Or.inl rfl | exact Or.inr rfl) (gBin oAdd (gBin oAdd (gVar 5) (gInt)) (gBin oMod (gItem_ hr.units (gVar 3) (gBin oAdd (gInt) (gVar 8))) (gItem_ hr.units (gLst (gAcons (gInt) (gAcons (gInt) (gAnil)))) (gBin oMod (gVar 9) (gInt))))))))))))))
            (bOne (sRet_ (gVar 7)))))))))
    (fun _ _ _ _ _ _ us hl => match us, hl with | [_, _, _], _ => rfl)
theorem ok_law_beyond (c : Ctx K mg) : Has P w K mg base C 2 "_law_beyond" ["_law_marks_here", "_law_number"] I_law_beyond := by
  obtain ⟨fd, F⟩ := c.says.def_ 12 (d := d_law_beyond) rfl
  have h_law_round := ok_law_round (P := P) (w := w) (base := base) (C := C) c
  exact mk_has (st := s_law_beyond) (N := N_law_beyond) (s := S_law_beyond) F sc_law_beyond (c.glo 23 rfl)
    (fun cdv A outer s0 H E hr => by
    unfold S_law_beyond
    exact bCons (sNew_ sc_law_beyond.nd rfl (by first | exact Or.inl rfl | exact Or.inr rfl) (nLst (gAnil)))
            (bCons (sFor_ [3, 4, 5, 6, 7] PassesOwn.never rfl (iE rfl (c.free 3 rfl) (gAcons (gVar 0) (gAnil))) (tTup rfl (tsCons (tName sc_law_beyond.nd rfl (by first | exact Or.inl rfl | exact Or.inr rfl)) (tsCons (tName sc_law_beyond.nd rfl (by first | exact Or.inl rfl | exact Or.inr rfl)) (tsNil))))
            (bCons (sSet_ sc_law_beyond.nd rfl (by first | exact Or.inl rfl | exact Or.inr rfl) (callP h_law_round rfl (hr.mono (by decide)) rfl (gAcons (gItem_ hr.units (gVar 4) (gInt)) (gAnil)) (acons_len (anil_len))))
            (bCons (sSet_ sc_law_beyond.nd rfl (by first | exact Or.inl rfl | exact Or.inr rfl) (gBin oAdd (gItem_ hr.units (gVar 4) (gInt)) (gBin oMul (gVar 5) (gBin oMod (gBin oAdd (gVar 1) (gVar 3)) (gInt)))))
            (bCons (sSet_ sc_law_beyond.nd rfl (by first | exact Or.inl rfl | exact Or.inr rfl) (gBin oAdd (gItem_ hr.units (gVar 4) (gInt)) (gBin oMul (gVar 5) (gBin oMod (gBin oAdd (gVar 1) (gBin oMul (gInt) (gVar 3))) (gInt)))))
            (bOne (sIf_ (gCmpT oLt (gCaB (cMax rfl) rfl (c.free 4 rfl) (by decide +kernel) (gAcons (gVar 6) (gAcons (gVar 7) (gAnil)))) (gBin oPow (gInt) (gInt)) (nomark _))
            (bOne (sMut_ PySem.F.plainAttrs_list PySem.F.slot_list_append PySem.F.type_list_append wApp (gVar 2) (gAcons (gTup (gAcons (gItem_ hr.units (gVar 4) (gInt)) (gAcons (gVar 6) (gAcons (gVar 7) (gAcons (gItem_ hr.units (gVar 4) (gInt)) (gAnil)))))) (gAnil))))
            (bOne (sMut_ PySem.F.plainAttrs_list PySem.F.slot_list_append PySem.F.type_list_append wApp (gVar 2) (gAcons (gVar 4) (gAnil))))))))))
            (bOne (sRet_ (gVar 2)))))
    (fun _ _ _ _ _ _ us hl => match us, hl with | [_, _], _ => rfl)
theorem ok_law_whole (c : Ctx K mg) : Has P w K mg base C 1 "_law_whole" ["_law_found"] I_law_whole := by
  obtain ⟨fd, F⟩ := c.says.def_ 13 (d := d_law_whole) rfl
  exact mk_has (st := s_law_whole) (N := N_law_whole) (s := S_law_whole) F sc_law_whole (c.glo 24 rfl)
    (fun cdv A outer s0 H E hr => by
    unfold S_law_whole
    exact bOne (sRet_ (gAnd (gCaB cIsI rfl (c.free 6 rfl) (by decide +kernel) (gAcons (gVar 0) (gAcons (gTyN rfl (c.free 0 rfl) (by decide +kernel)) (gAnil)))) (gAnd1 (gNot (gCaB cIsI rfl (c.free 6 rfl) (by decide +kernel) (gAcons (gVar 0) (gAcons (gTyN rfl (c.free 7 rfl) (by decide +kernel)) (gAnil)))))))))
    (fun _ _ _ _ _ _ us hl => match us, hl with | [_], _ => rfl)
theorem ok_law_risen_right (c : Ctx K mg) : Has P w K mg base C 2 "_law_risen_right" ["_law_cell"] I_law_risen_right := by
  obtain ⟨fd, F⟩ := c.says.def_ 14 (d := d_law_risen_right) rfl
  have h_law_mixed := ok_law_mixed (P := P) (w := w) (base := base) (C := C) c
  have h_law_round := ok_law_round (P := P) (w := w) (base := base) (C := C) c
  have h_law_whole := ok_law_whole (P := P) (w := w) (base := base) (C := C) c
  have h_risen := ok_risen (P := P) (w := w) (base := base) (C := C) c
  exact mk_has (st := s_law_risen_right) (N := N_law_risen_right) (s := S_law_risen_right) F sc_law_risen_right (c.glo 25 rfl)
    (fun cdv A outer s0 H E hr => by
    unfold S_law_risen_right
    exact bCons (sSet_ sc_law_risen_right.nd rfl (by first | exact Or.inl rfl | exact Or.inr rfl) (callP h_law_mixed rfl (hr.mono (by decide)) rfl (gAcons (gVar 0) (gAcons (gInt) (gAnil))) (acons_len (acons_len (anil_len)))))
            (bCons (sSet_ sc_law_risen_right.nd rfl (by first | exact Or.inl rfl | exact Or.inr rfl) (gBin oAdd (gInt) (gBin oMod (gVar 1) (gInt))))
            (bCons (sSet_ sc_law_risen_right.nd rfl (by first | exact Or.inl rfl | exact Or.inr rfl) (callP h_law_round rfl (hr.mono (by decide)) rfl (gAcons (gVar 2) (gAnil)) (acons_len (anil_len))))
            (bCons (sSet_ sc_law_risen_right.nd rfl (by first | exact Or.inl rfl | exact Or.inr rfl) (gItem_ hr.units (gLst (gAcons (gBin oMod (gVar 0) (gBin oPow (gInt) (gInt))) (gAcons (gBin oSub (gVar 3) (gInt)) (gAcons (gInt) (gAcons (gBin oMod (gBin oDiv (gVar 1) (gInt)) (gInt)) (gAnil)))))) (gBin oMod (gBin oDiv (gVar 1) (gInt)) (gInt))))
            (bCons (sSet_ sc_law_risen_right.nd rfl (by first | exact Or.inl rfl | exact Or.inr rfl) (gItem_ hr.units (gLst (gAcons (gBin oMod (gBin oMul (gVar 1) (gInt)) (gBin oPow (gInt) (gInt))) (gAcons (gVar 4) (gAcons (gBin oMod (gBin oAdd (gVar 4) (gInt)) (gBin oPow (gInt) (gInt))) (gAcons (gBin oSub (gBin oPow (gInt) (gInt)) (gInt)) (gAcons (gBin oMod (gBin oDiv (gVar 0) (gBin oPow (gInt) (gInt))) (gBin oPow (gInt) (gInt))) (gAnil))))))) (gBin oMod (gBin oDiv (gVar 1) (gInt)) (gInt))))
            (bCons (sSet_ sc_law_risen_right.nd rfl (by first | exact Or.inl rfl | exact Or.inr rfl) (callP h_risen rfl (hr.mono (by decide)) rfl (gAcons (gVar 2) (gAcons (gVar 4) (gAcons (gVar 5) (gAnil)))) (acons_len (acons_len (acons_len (anil_len))))))
            (bCons (sIf_ (gW (gWor (gTnot (gTval (callP h_law_whole rfl (hr.mono (by decide)) rfl (gAcons (gVar 6) (gAnil)) (acons_len (anil_len))))) (gWor (gCmpT oLt (gVar 6) (gInt) (nomark _)) (gWor1 (gCmpT oGe (gVar 6) (gVar 3) (nomark _))))))
            (bOne (sRet_ (gBl)))
            (bNil))
            (bOne (sRet_ (gCmp (oEq hr.units) (gBin oMod (gBin oSub (gBin oAdd (gVar 4) (gVar 6)) (gVar 5)) (gVar 3)) (gInt) (nomark _)))))))))))
    (fun _ _ _ _ _ _ us hl => match us, hl with | [_], _ => rfl)
theorem ok_law_told_right (c : Ctx K mg) : Has P w K mg base C 2 "_law_told_right" ["_law_told", "_law_marks_here"] I_law_told_right := by
  obtain ⟨fd, F⟩ := c.says.def_ 15 (d := d_law_told_right) rfl
  have h_law_round := ok_law_round (P := P) (w := w) (base := base) (C := C) c
  have h_law_whole := ok_law_whole (P := P) (w := w) (base := base) (C := C) c
  exact mk_has (st := s_law_told_right) (N := N_law_told_right) (s := S_law_told_right) F sc_law_told_right (c.glo 26 rfl)
    (fun cdv A outer s0 H E hr => by
    unfold S_law_told_right
    exact bCons (sIf_ (gW (gWor (gTnot (gTval (gCaB cIsI rfl (c.free 6 rfl) (by decide +kernel) (gAcons (gVar 0) (gAcons (gTyN rfl (c.free 8 rfl) (by decide +kernel)) (gAnil)))))) (gWor1 (gCmpT (oNe hr.units) (gCaB cLen rfl (c.free 1 rfl) (by decide +kernel) (gAcons (gVar 0) (gAnil))) (gCaB (cMax rfl) rfl (c.free 4 rfl) (by decide +kernel) (gAcons (gInt) (gAcons (gBin oSub (gCaB cLen rfl (c.free 1 rfl) (by decide +kernel) (gAcons (gVar 1) (gAnil))) (gInt)) (gAnil)))) (nomark _)))))
            (bOne (sRet_ (gBl)))
            (bNil))
            (bCons (sFor_ [2, 3, 4] PassesOwn.never rfl (iR1 rfl (c.free 2 rfl) (gAcons (gCaB cLen rfl (c.free 1 rfl) (by decide +kernel) (gAcons (gVar 0) (gAnil))) (gAnil))) (tName sc_law_told_right.nd rfl (by first | exact Or.inl rfl | exact Or.inr rfl))
            (bCons (sPar_ rfl sc_law_told_right.nd rfl rfl (by decide) rfl rfl (gAcons (gItem_ hr.units (gVar 1) (gVar 2)) (gAcons (gItem_ hr.units (gVar 1) (gBin oAdd (gVar 2) (gInt))) (gAnil))))
            (bCons (sIf_ (gW (gWor (gTnot (gTval (gCaB cIsI rfl (c.free 6 rfl) (by decide +kernel) (gAcons (gItem_ hr.units (gVar 0) (gVar 2)) (gAcons (gTyN rfl (c.free 9 rfl) (by decide +kernel)) (gAnil)))))) (gWor (gCmpT (oNe hr.units) (gCaB cLen rfl (c.free 1 rfl) (by decide +kernel) (gAcons (gItem_ hr.units (gVar 0) (gVar 2)) (gAnil))) (gInt) (nomark _)) (gWor1 (gTnot (gTval (gCaB (cAll rfl) rfl (c.free 10 rfl) (by decide +kernel) (gAcons (gLc [("_law_one", 5)] rfl sc_law_told_right.nd (iL (gItem_ hr.units (gVar 0) (gVar 2))) (blkOk_by (N := N_law_told_right) (sc := defScope s_law_told_right) (by decide +kernel)) (fun _ _ _ _ _ => tName sc_law_told_right.nd rfl (by first | exact Or.inl rfl | exact Or.inr rfl)) (fun _ _ _ _ _ => gtsNil) (fun _ _ _ _ _ => callP h_law_whole rfl (hr.mono (by decide)) rfl (gAcons (gVar 5) (gAnil)) (acons_len (anil_len))) (by decide)) (gAnil)))))))))
            (bOne (sRet_ (gBl)))
            (bNil))
            (bCons (sIf_ (gW (gWor (gCmpT (oNe hr.units) (gSlice oCut (gItem_ hr.units (gVar 0) (gVar 2)) (gOnone) (gOsome (gInt))) (gTup (gAcons (gItem_ hr.units (gVar 4) (gInt)) (gAcons (gItem_ hr.units (gVar 3) (gInt)) (gAnil)))) (nomark _)) (gWor1 (gTnot (gChainT oLe oLt (gInt) (gItem_ hr.units (gItem_ hr.units (gVar 0) (gVar 2)) (gInt)) (callP h_law_round rfl (hr.mono (by decide)) rfl (gAcons (gItem_ hr.units (gVar 4) (gInt)) (gAnil)) (acons_len (anil_len))))))))
            (bOne (sRet_ (gBl)))
            (bNil))
            (bOne (sIf_ (gCmpT (oNe hr.units) (gBin oMod (gBin oSub (gBin oAdd (gItem_ hr.units (gVar 4) (gInt)) (gItem_ hr.units (gItem_ hr.units (gVar 0) (gVar 2)) (gInt))) (gItem_ hr.units (gVar 3) (gInt))) (callP h_law_round rfl (hr.mono (by decide)) rfl (gAcons (gItem_ hr.units (gVar 4) (gInt)) (gAnil)) (acons_len (anil_len)))) (gInt) (nomark _))
            (bOne (sRet_ (gBl)))
            (bNil)))))))
            (bOne (sRet_ (gBl)))))
    (fun _ _ _ _ _ _ us hl => match us, hl with | [_, _], _ => rfl)
theorem law_fn {fd : FuncData} (c : Ctx K mg) (F : FnP K "law" "law" s_law (He.ga K "law") fd) : FnOk P w K mg base CX0 4 (He.ga K "law") fd ["_law_script"] (fun vs H Q _ => spI ⟨K, C⟩ 1 I_law vs H Q E0) := by
  have h_law_beyond := ok_law_beyond (P := P) (w := w) (base := base) (C := C) c
  have h_law_cell_at := ok_law_cell_at (P := P) (w := w) (base := base) (C := C) c
  have h_law_marks := ok_law_marks (P := P) (w := w) (base := base) (C := C) c
  have h_law_parts := ok_law_parts (P := P) (w := w) (base := base) (C := C) c
  have h_law_risen_right := ok_law_risen_right (P := P) (w := w) (base := base) (C := C) c
  have h_law_told_right := ok_law_told_right (P := P) (w := w) (base := base) (C := C) c
  have h_uses := ok_uses (P := P) (w := w) (base := base) (C := C) c
  exact fn_ok0 (st := s_law) (s := S_law) (N := N_law) F sc_law (fun cdv A outer s0 H E hr => by
    unfold S_law
    exact bCons (sFor_ [1] PassesOwn.never rfl (iL (gBin oAdd (gLst (gAcons (gInt) (gAnil))) (gVar 0))) (tName sc_law.nd rfl (by first | exact Or.inl rfl | exact Or.inr rfl))
            (bOne (sIf_ (gTnot (gTval (callP h_law_risen_right rfl (hr.mono (by decide)) rfl (gAcons (gVar 1) (gAnil)) (acons_len (anil_len)))))
            (bOne (sRet_ (gBl)))
            (bNil))))
            (bCons (sSet_ sc_law.nd rfl (by first | exact Or.inl rfl | exact Or.inr rfl) (callP h_law_parts rfl (hr.mono (by decide)) rfl (gAcons (callP h_law_cell_at rfl (hr.mono (by decide)) rfl (gAcons (gVar 0) (gAcons (gInt) (gAnil))) (acons_len (acons_len (anil_len)))) (gAnil)) (acons_len (anil_len))))
            (bCons (sFor_ [1, 3, 4, 5, 6, 7] PassesOwn.never rfl (iE rfl (c.free 3 rfl) (gAcons (gBin oAdd (gLst (gAcons (callP h_law_cell_at rfl (hr.mono (by decide)) rfl (gAcons (gVar 0) (gAcons (gInt) (gAnil))) (acons_len (acons_len (anil_len)))) (gAnil))) (gSlice oCut (gVar 0) (gOsome (gInt)) (gOsome (gInt)))) (gAnil))) (tTup rfl (tsCons (tName sc_law.nd rfl (by first | exact Or.inl rfl | exact Or.inr rfl)) (tsCons (tName sc_law.nd rfl (by first | exact Or.inl rfl | exact Or.inr rfl)) (tsNil))))
            (bCons (sSet_ sc_law.nd rfl (by first | exact Or.inl rfl | exact Or.inr rfl) (gItem_ hr.units (gItem_ hr.units (gItem_ hr.units (gVar 2) (gStr)) (gBin oMod (gVar 3) (gCaB cLen rfl (c.free 1 rfl) (by decide +kernel) (gAcons (gItem_ hr.units (gVar 2) (gStr)) (gAnil))))) (gInt)))
            (bCons (sSet_ sc_law.nd rfl (by first | exact Or.inl rfl | exact Or.inr rfl) (callP h_law_marks rfl (hr.mono (by decide)) rfl (gAcons (gVar 1) (gAcons (gVar 2) (gAcons (gVar 4) (gAnil)))) (acons_len (acons_len (acons_len (anil_len))))))
            (bCons (sIf_ (gCmpT (oEq hr.units) (gBin oMod (gVar 3) (gInt)) (gInt) (nomark _))
            (bOne (sSet_ sc_law.nd rfl (by first | exact Or.inl rfl | exact Or.inr rfl) (callP h_law_beyond rfl (hr.mono (by decide)) rfl (gAcons (gVar 5) (gAcons (gVar 3) (gAnil))) (acons_len (acons_len (anil_len))))))
            (bNil))
            (bCons (sSet_ sc_law.nd rfl (by first | exact Or.inl rfl | exact Or.inr rfl) (PNG.frz (nCallTy cListOf rfl (c.free 8 rfl) (by decide +kernel) (gAcons (gVar 5) (gAnil)))))
            (bCons (sNew_ sc_law.nd rfl (by first | exact Or.inl rfl | exact Or.inr rfl) (callN h_uses rfl (hr.mono (by decide)) rfl (gAcons (gVar 6) (gAnil)) (acons_len (anil_len))))
            (bCons (sIf_ (gW (gWor (gCmpT (oNe hr.units) (gVar 6) (gVar 5) (nomark _)) (gWor1 (gTnot (gTval (callL h_law_told_right rfl (hr.mono (by decide)) rfl (gAcons (gVar 7) (gAcons (gVar 5) (gAnil))) (acons_len (acons_len (anil_len)))))))))
            (bOne (sRet_ (gBl)))
            (bNil))
            (bCons (sMut_ PySem.F.plainAttrs_list PySem.F.slot_list_append PySem.F.type_list_append wApp (gVar 7) (gAcons (gTup (gAcons (gInt) (gAcons (gInt) (gAcons (gInt) (gAnil))))) (gAnil)))
            (bOne (sIf_ (gTnot (gTval (callP h_law_told_right rfl (hr.mono (by decide)) rfl (gAcons (callP h_uses rfl (hr.mono (by decide)) rfl (gAcons (gVar 6) (gAnil)) (acons_len (anil_len))) (gAcons (gVar 5) (gAnil))) (acons_len (acons_len (anil_len))))))
            (bOne (sRet_ (gBl)))
            (bNil)))))))))))
            (bOne (sRet_ (gBl))))))
end
abbrev R : PySem.W.OpenRow := PySem.W.OpenLaw.row PySem.Challenge.rw_meterbook_k02_uses_between_marks
abbrev hk : PySem.W.Hook := He.hookD 5 fas fns
def ob (s : PySem.W.SharedT) : He.AlD := He.obsDG 5 fas fns (HandSHeadRun.getT s)
theorem ob_eq (s : PySem.W.SharedT) : ob s = hk.obs s.abs := He.obsDG_eq (HandSHeadRun.getT_eq s)
theorem run (w : World) : HandSHeadRun.RunEq R (PySem.W.view R.prog [22]) hk ob 3000 loose w := by
  intro os
  kernel_rfl
end W
open PySem PySem.W PySem.Calls PyProof.Rows
theorem PySem.Challenge.cw_meterbook_k02_uses_between_marks_holds : PySem.Challenge.rw_meterbook_k02_uses_between_marks.Holds := by
  w_on; o_law
  refine HandSHeadRun.head_any (r := OpenLaw.row PySem.Challenge.rw_meterbook_k02_uses_between_marks) (q := view (OpenLaw.row PySem.Challenge.rw_meterbook_k02_uses_between_marks).prog [22]) (H := W.hk) (ob := W.ob) (M := 3000) (loose := W.loose) (d := HandSHeadRun.topDef (OpenLaw.row PySem.Challenge.rw_meterbook_k02_uses_between_marks).prog 22) (kwd := []) W.ob_eq
    (by kernel_rfl) (fun s => by kernel_rfl) W.run (by kernel_rfl) (by kernel_rfl) (by kernel_rfl) (by rfl) (by first | assumption | decide +kernel) (by decide +kernel) ⟨rfl, rfl, rfl, rfl, rfl, by decide +kernel⟩ ?hw ?hc
  case hw => w_witness2
  case hc =>
    refine L2.walk_ofE (l := PySem.Challenge.rw_meterbook_k02_uses_between_marks) (n := 63) (k := 4) (x := "_law_script") (CX := L2.CX0) rfl (by decide) (by kernel_rfl) ⟨rfl, by decide, by decide⟩ ?F (fun _ _ _ _ z => z)
    intro w mg fa h Y G0 hmg0
    obtain ⟨K, KX, c⟩ := Y
    have hmg : mg ("law" : PySem.Str) = some (.ref fa) := by
      have e : (HandSHeadRun.topDef (OpenLaw.row PySem.Challenge.rw_meterbook_k02_uses_between_marks).prog 22).name = ("law" : PySem.Str) := by kernel_rfl
      rw [← e]
      exact hmg0
    have cx : W.Ctx K mg := ⟨⟨h, KX, G0⟩, c⟩
    have e := hmg.symm.trans (cx.glo 27 rfl)
    cases e
    obtain ⟨fd, F⟩ := c.def_ 16 (d := W.d_law) rfl
    have b := L2.FunD.bindsA (ps := ["_law_script"]) F fun _ _ _ _ _ _ us hl => match us, hl with | [_], _ => rfl
    refine ⟨K, fd, fun vs H Q _ => G.spI ⟨K, fun _ => 0⟩ 1 I_law vs H Q L2.E0, KX, fun s v => b s [v] rfl, fun H a ns hl _ hS => G.law_ok law_true H a ns hl hS, fun base _ _ => ?_⟩
    exact W.law_fn cx F
