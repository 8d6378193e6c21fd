import PyProof.Rows.All
import HandS.ForMost
import HandS.ForExc
import HandS.Wide
import HandS.Style
import HandS.Defaults
import HandS.HeadEnd
import HandS.IsInst
import HandS.More
import HandS.Text
import HandS.RaiseMore
import KE.KExcIs
import HandS.Head0
import HandS.Head1
import HandS.Head2
import HandS.HeadHook1
import HandS.HeadHook2
import HandS.ExcInit
import HandS.ClsMeth
import HandS.ExcOwn
import HandS.Zip
import HandS.ReplaceLit
import PyProof.StrLawsFirst
import HandS.Codes
import Wide.All
import OpenK.AllK
import Wide.FinOn
import KE.KStateDown
import Lean
import PySem.Challenge.RW_meterbook_k20_log_texts
set_option Elab.async false
set_option linter.all false
set_option maxRecDepth 100000
set_option maxHeartbeats 4000000
namespace G
open PySem PySem.Spec PyProof.Rows L2
/-! ### data trees -/
/-- a key or a field's name -/
inductive DK where
  | s (x : Str) | i (n : Int) | t (ks : List Key)
  deriving DecidableEq
/-- what kind of table: int and text keys, tuple keys, the fields of an instance -/
inductive AK where
  | k | t | ins (c : Nat)
  deriving DecidableEq
inductive D where
  | non | bl (b : Bool) | int (i : Int) | str (x : Str)
  | tup (ds : List D) | lst (ds : List D)
  | asc (a : AK) (kvs : List (DK × D))
  | loc (n : Nat)
  | scr (ns : List Int)
  | ty (n : String)
  | cls (c : Nat)
  | exc (c : Nat) (row : Option Int)
instance : Inhabited D := ⟨.non⟩
abbrev Mem := List (Option D)
abbrev Sl := List (Option D)
def ofKey : Key → DK
  | .inl i => .i i
  | .inr x => .s x
theorem ofKey_inj : ∀ {a b : Key}, ofKey a = ofKey b → a = b
  | .inl _, .inl _, h => by injection h with h; rw [h]
  | .inr _, .inr _, h => by injection h with h; rw [h]
  | .inl _, .inr _, h => by cases h
  | .inr _, .inl _, h => by cases h
def kx (p : Key × V) : DK × V := (ofKey p.1, p.2)
def tx (p : List Key × V) : DK × V := (.t p.1, p.2)
def fx (p : Str × V) : DK × V := (.s p.1, p.2)
structure GE where
  K : PySem.W.Frag
  C : Nat → Addr
/-- what stands at a for a table -/
def AscAt (T : GE) (H : Hp) : AK → Addr → List (DK × V) → Prop
  | .k, a, vs => ∃ ws, H a = some (.dK ws) ∧ vs = ws.map kx
  | .t, a, vs => ∃ ws, H a = some (.dT ws) ∧ vs = ws.map tx
  | .ins c, a, vs => ∃ dx ws, H a = some (.ins (T.C c) dx ws) ∧ vs = ws.map fx
section
variable (T : GE) (F : Hp) (A : List Addr)
mutual
def Rep : D → V → Prop
  | .non, v => v = .non
  | .bl b, v => v = .bl b
  | .int i, v => v = .int i
  | .str x, v => v = .str x
  | .tup ds, v => ∃ a vs, v = .ref a ∧ F a = some (.tup vs) ∧ Reps ds vs
  | .lst ds, v => ∃ a vs, v = .ref a ∧ F a = some (.lst vs) ∧ Reps ds vs
  | .scr ns, v => ∃ a, v = .ref a ∧ SqL T.K F a (ns.map V.int)
  | .asc k kvs, v => ∃ a vs, v = .ref a ∧ AscAt T F k a vs ∧ RepA kvs vs
  | .loc n, v => ∃ a, A[n]? = some a ∧ v = .ref a
  | .ty n, v => v = .ty n
  | .cls c, v => v = .ref (T.C c)
  | .exc c row, v => ∃ a oe, v = .ref a ∧ F a = some (.ext fun h => h.get? a = some oe) ∧ oe.cls = .ref (T.C c) ∧ (∃ vs, oe.data = .fields vs) ∧ (match row with
    | none => oe.dict = none
    | some n => ∃ dd, oe.dict = some dd ∧ F dd = some (.xd [("row", .int n)]))
def Reps : List D → List V → Prop
  | [], vs => vs = []
  | d :: ds, vs => ∃ v r, vs = v :: r ∧ Rep d v ∧ Reps ds r
def RepA : List (DK × D) → List (DK × V) → Prop
  | [], vs => vs = []
  | (k, d) :: ds, vs => ∃ v r, vs = (k, v) :: r ∧ Rep d v ∧ RepA ds r
end
end
section
variable {T : GE} {F F' F'' H H' : Hp} {A : List Addr}
theorem Same.sqT {K : PySem.W.Frag} {a : Addr} {xs : List V} (e : Same F F') (h : SqT K F a xs) : SqT K F' a xs := by
  rcases h with (h | ⟨o, h⟩) | h
  · exact .inl (.inl (e _ _ h))
  · exact .inl (.inr ⟨o, e _ _ h⟩)
  · exact .inr h
theorem AscAt.mono (e : Same F F') : ∀ {k : AK} {a : Addr} {vs}, AscAt T F k a vs → AscAt T F' k a vs
  | .k, _, _, ⟨ws, h, q⟩ => ⟨ws, e _ _ h, q⟩
  | .t, _, _, ⟨ws, h, q⟩ => ⟨ws, e _ _ h, q⟩
  | .ins _, _, _, ⟨dx, ws, h, q⟩ => ⟨dx, ws, e _ _ h, q⟩
-- frozen data stays: more is frozen, more is owned behind
mutual
theorem Rep.mono {B : List Addr} (e : Same F F') : ∀ (d : D) (v : V), Rep T F A d v → Rep T F' (A ++ B) d v
  | .non, _, h => h
  | .bl _, _, h => h
  | .int _, _, h => h
  | .str _, _, h => h
  | .tup ds, v, ⟨a, vs, h1, h2, h3⟩ => ⟨a, vs, h1, e _ _ h2, Reps.mono e ds vs h3⟩
  | .lst ds, v, ⟨a, vs, h1, h2, h3⟩ => ⟨a, vs, h1, e _ _ h2, Reps.mono e ds vs h3⟩
  | .scr _, v, ⟨a, h1, h2⟩ => ⟨a, h1, Same.seq e h2⟩
  | .asc k kvs, v, ⟨a, vs, h1, h2, h3⟩ => ⟨a, vs, h1, AscAt.mono e h2, RepA.mono e kvs vs h3⟩
  | .loc n, v, ⟨a, h1, h2⟩ => ⟨a, by
      rw [List.getElem?_append_left (List.getElem?_eq_some_iff.mp h1).1]
      exact h1, h2⟩
  | .ty _, _, h => h
  | .cls _, _, h => h
  | .exc _ none, _, ⟨a, oe, h1, h2, h3, h4, h5⟩ => ⟨a, oe, h1, e _ _ h2, h3, h4, h5⟩
  | .exc _ (some _), _, ⟨a, oe, h1, h2, h3, h4, dd, h5, h6⟩ => ⟨a, oe, h1, e _ _ h2, h3, h4, dd, h5, e _ _ h6⟩
theorem Reps.mono {B : List Addr} (e : Same F F') : ∀ (ds : List D) (vs : List V), Reps T F A ds vs → Reps T F' (A ++ B) ds vs
  | [], _, h => h
  | d :: ds, _, ⟨v, r, h1, h2, h3⟩ => ⟨v, r, h1, Rep.mono e d v h2, Reps.mono e ds r h3⟩
theorem RepA.mono {B : List Addr} (e : Same F F') : ∀ (ds : List (DK × D)) (vs : List (DK × V)), RepA T F A ds vs → RepA T F' (A ++ B) ds vs
  | [], _, h => h
  | (k, d) :: ds, _, ⟨v, r, h1, h2, h3⟩ => ⟨v, r, h1, Rep.mono e d v h2, RepA.mono e ds r h3⟩
end
theorem Rep.same {d : D} {v : V} (e : Same F F') (h : Rep T F A d v) : Rep T F' A d v := by
  have := Rep.mono (B := []) e d v h
  rwa [List.append_nil] at this
theorem Reps.same {d : List D} {v : List V} (e : Same F F') (h : Reps T F A d v) : Reps T F' A d v := by
  have := Reps.mono (B := []) e d v h
  rwa [List.append_nil] at this
theorem RepA.same {d : List (DK × D)} {v : List (DK × V)} (e : Same F F') (h : RepA T F A d v) : RepA T F' A d v := by
  have := RepA.mono (B := []) e d v h
  rwa [List.append_nil] at this
theorem Reps.len : ∀ {ds : List D} {vs : List V}, Reps T F A ds vs → ds.length = vs.length
  | [], _, h => by cases h; rfl
  | d :: ds, _, ⟨v, r, h1, h2, h3⟩ => by subst h1; simp [Reps.len h3]
theorem Reps.get : ∀ {ds : List D} {vs : List V} {i : Nat} {v : V}, Reps T F A ds vs → vs[i]? = some v → ∃ d, ds[i]? = some d ∧ Rep T F A d v
  | [], _, _, _, h, e => by cases h; simp at e
  | d :: ds, _, 0, _, ⟨v, r, h1, h2, h3⟩, e => by subst h1; simp at e; subst e; exact ⟨d, rfl, h2⟩
  | d :: ds, _, i + 1, _, ⟨v, r, h1, h2, h3⟩, e => by subst h1; simp at e; simpa using Reps.get (i := i) h3 e
theorem Reps.get' : ∀ {ds : List D} {vs : List V} {i : Nat} {d : D}, Reps T F A ds vs → ds[i]? = some d → ∃ v, vs[i]? = some v ∧ Rep T F A d v
  | [], _, _, _, h, e => by simp at e
  | d :: ds, _, 0, _, ⟨v, r, h1, h2, h3⟩, e => by subst h1; simp at e; subst e; exact ⟨v, rfl, h2⟩
  | d :: ds, _, i + 1, _, ⟨v, r, h1, h2, h3⟩, e => by subst h1; simp at e; simpa using Reps.get' (i := i) h3 e
theorem Reps.append : ∀ {ds es : List D} {vs ws : List V}, Reps T F A ds vs → Reps T F A es ws → Reps T F A (ds ++ es) (vs ++ ws)
  | [], _, _, _, h, k => by cases h; exact k
  | d :: ds, _, _, _, ⟨v, r, h1, h2, h3⟩, k => by subst h1; exact ⟨v, _, rfl, h2, Reps.append h3 k⟩
theorem Reps.one {d : D} {v : V} (h : Rep T F A d v) : Reps T F A [d] [v] := ⟨v, [], rfl, h, rfl⟩
theorem Reps.take : ∀ {ds : List D} {vs : List V} (n : Nat), Reps T F A ds vs → Reps T F A (ds.take n) (vs.take n)
  | [], _, n, h => by cases h; simp [Reps]
  | d :: ds, _, 0, _ => by simp [Reps]
  | d :: ds, _, n + 1, ⟨v, r, h1, h2, h3⟩ => by subst h1; exact ⟨v, _, rfl, h2, Reps.take n h3⟩
theorem Reps.drop : ∀ {ds : List D} {vs : List V} (n : Nat), Reps T F A ds vs → Reps T F A (ds.drop n) (vs.drop n)
  | [], _, n, h => by cases h; simp [Reps]
  | d :: ds, _, 0, h => h
  | d :: ds, _, n + 1, ⟨v, r, h1, h2, h3⟩ => by subst h1; exact Reps.drop n h3
theorem Reps.set {e : D} {w : V} (q : Rep T F A e w) : ∀ {ds : List D} {vs : List V} (n : Nat), Reps T F A ds vs → Reps T F A (ds.set n e) (vs.set n w)
  | [], _, n, h => by cases h; simp [Reps]
  | d :: ds, _, 0, ⟨v, r, h1, h2, h3⟩ => by subst h1; exact ⟨w, _, rfl, q, h3⟩
  | d :: ds, _, n + 1, ⟨v, r, h1, h2, h3⟩ => by subst h1; exact ⟨v, _, rfl, h2, Reps.set q n h3⟩
theorem Reps.reverse {ds : List D} {vs : List V} (h : Reps T F A ds vs) : Reps T F A ds.reverse vs.reverse := by
  induction ds generalizing vs with
  | nil => cases h; simp [Reps]
  | cons d ds ih =>
    obtain ⟨v, r, rfl, h2, h3⟩ := h
    rw [List.reverse_cons, List.reverse_cons]
    exact Reps.append (ih h3) (Reps.one h2)
theorem Reps.none_of {ds : List D} {vs : List V} {i : Nat} (h : Reps T F A ds vs) (e : ds[i]? = none) : vs[i]? = none := by
  rw [List.getElem?_eq_none_iff] at e ⊢
  have := h.len
  omega

/-! ### what stands at an owned address -/
def Cont (T : GE) (F : Hp) (A : List Addr) (H : Hp) : D → Addr → Prop
  | .lst ds, a => ∃ vs, H a = some (.lst vs) ∧ Reps T F A ds vs
  | .asc k kvs, a => ∃ vs, AscAt T H k a vs ∧ RepA T F A kvs vs
  | _, _ => False
/-- the heap H holds what is frozen (F), and at A[n] the n-th own object -/
structure HR (T : GE) (M : Mem) (F : Hp) (A : List Addr) (H : Hp) : Prop where
  fs : Same F H
  nd : A.Nodup
  len : A.length = M.length
  fr : ∀ (n : Nat) (c : D) (a : Addr), M[n]? = some (some c) → A[n]? = some a → F a = none
  mem : ∀ (n : Nat) (c : D) (a : Addr), M[n]? = some (some c) → A[n]? = some a → Cont T F A H c a
  al : ∀ a ∈ A, ∃ o, H a = some o
  dd : ∀ (n : Nat) (a : Addr), M[n]? = some none → A[n]? = some a → F a ≠ none
/-- frozen things are added: all else stands -/
structure Grow (F H F' H' : Hp) : Prop where
  ff : Same F F'
  fh : Same F' H'
  hh : Same H H'
  nf : ∀ p o, H p = some o → F p = none → F' p = none
theorem Grow.refl (h : Same F H) : Grow F H F H := ⟨Same.refl _, h, Same.refl _, fun _ _ _ z => z⟩
theorem Grow.trans {F1 H1 F2 H2 : Hp} (a : Grow F H F1 H1) (b : Grow F1 H1 F2 H2) : Grow F H F2 H2 :=
  ⟨a.ff.trans b.ff, b.fh, a.hh.trans b.hh, fun p o h z => b.nf p o (a.hh p o h) (a.nf p o h z)⟩
/-- a new object is laid and frozen -/
theorem same_new {p : Addr} {o : HO} (h : H p = none) : Same H (upd H p o) := fun b u e => by
  rw [upd_ne (ne_of_none e h)]; exact e
theorem Grow.new {p : Addr} {o : HO} (e : Same F H) (h : H p = none) : Grow F H (upd F p o) (upd H p o) where
  ff := same_new (e.free h)
  fh := fun b u q => by
    by_cases hb : b = p
    · subst hb; rw [upd_same] at q ⊢; exact q
    · rw [upd_ne hb] at q ⊢; exact e b u q
  hh := same_new h
  nf := fun b u q z => by
    have : b ≠ p := ne_of_none q h
    rw [upd_ne this]; exact z
theorem Cont.grow (g : Grow F H F' H') : ∀ {c : D} {a : Addr}, Cont T F A H c a → Cont T F' A H' c a
  | .lst _, _, ⟨vs, h, r⟩ => ⟨vs, g.hh _ _ h, r.same g.ff⟩
  | .asc _ _, _, ⟨vs, h, r⟩ => ⟨vs, h.mono g.hh, r.same g.ff⟩
  | .non, _, h => h.elim
  | .bl _, _, h => h.elim
  | .int _, _, h => h.elim
  | .str _, _, h => h.elim
  | .tup _, _, h => h.elim
  | .loc _, _, h => h.elim
  | .scr _, _, h => h.elim
  | .ty _, _, h => h.elim
  | .cls _, _, h => h.elim
  | .exc _ _, _, h => h.elim
theorem Cont.there : ∀ {c : D} {a : Addr}, Cont T F A H c a → ∃ o, H a = some o
  | .lst _, _, ⟨_, h, _⟩ => ⟨_, h⟩
  | .asc .k _, _, ⟨_, ⟨_, h, _⟩, _⟩ => ⟨_, h⟩
  | .asc .t _, _, ⟨_, ⟨_, h, _⟩, _⟩ => ⟨_, h⟩
  | .asc (.ins _) _, _, ⟨_, ⟨_, _, h, _⟩, _⟩ => ⟨_, h⟩
  | .non, _, h => h.elim
  | .bl _, _, h => h.elim
  | .int _, _, h => h.elim
  | .str _, _, h => h.elim
  | .tup _, _, h => h.elim
  | .loc _, _, h => h.elim
  | .scr _, _, h => h.elim
  | .ty _, _, h => h.elim
  | .cls _, _, h => h.elim
  | .exc _ _, _, h => h.elim
theorem HR.grow {M : Mem} (h : HR T M F A H) (g : Grow F H F' H') : HR T M F' A H' where
  fs := g.fh
  nd := h.nd
  len := h.len
  fr := fun n c a e1 e2 => by
    obtain ⟨o, z⟩ := (h.mem n c a e1 e2).there
    exact g.nf a o z (h.fr n c a e1 e2)
  mem := fun n c a e1 e2 => (h.mem n c a e1 e2).grow g
  al := fun a ha => let ⟨o, z⟩ := h.al a ha; ⟨o, g.hh a o z⟩
  dd := fun n a e1 e2 z => h.dd n a e1 e2 (g.ff.free z)
/-- the slots -/
def SlotR (T : GE) (F : Hp) (A : List Addr) (Γ : Sl) (σ : L2.St) : Prop :=
  Γ.length = σ.length ∧ ∀ (i : Nat) (d : D), Γ[i]? = some (some d) → ∃ v, σ[i]? = some (some v) ∧ Rep T F A d v
theorem SlotR.same {Γ : Sl} {σ : L2.St} (e : Same F F') (h : SlotR T F A Γ σ) : SlotR T F' A Γ σ :=
  ⟨h.1, fun i d q => let ⟨v, a, b⟩ := h.2 i d q; ⟨v, a, b.same e⟩⟩
end
end G
set_option Elab.async false
set_option linter.all false
set_option maxRecDepth 100000
set_option maxHeartbeats 4000000
namespace G
open PySem PySem.Spec PyProof.Rows L2
/-! ### readings and pure functions -/
abbrev Ex := Sl → Mem → Option D
abbrev Tx := Sl → Mem → Option Bool
abbrev Ax := Sl → Mem → Option (List D)
abbrev Ox := Sl → Mem → Option (Option Int)
section
variable (T : GE)
def TEG (t : TE) (f : Ex) : Prop := ∀ (Γ : Sl) (M : Mem) (d : D), f Γ M = some d → ∀ (σ : L2.St) (F : Hp) (A : List Addr) (H : Hp), HR T M F A H → SlotR T F A Γ σ →
  ∀ Q : VK, (∀ v F' H', Grow F H F' H' → Rep T F' A d v → Q v H') → t σ H Q
def TTG (t : TT) (f : Tx) : Prop := ∀ (Γ : Sl) (M : Mem) (d : Bool), f Γ M = some d → ∀ (σ : L2.St) (F : Hp) (A : List Addr) (H : Hp), HR T M F A H → SlotR T F A Γ σ →
  ∀ Q : Bool → Hp → Prop, (∀ F' H', Grow F H F' H' → Q d H') → t σ H Q
def TAG (t : TA) (f : Ax) : Prop := ∀ (Γ : Sl) (M : Mem) (d : List D), f Γ M = some d → ∀ (σ : L2.St) (F : Hp) (A : List Addr) (H : Hp), HR T M F A H → SlotR T F A Γ σ →
  ∀ Q : List V → Hp → Prop, (∀ v F' H', Grow F H F' H' → Reps T F' A d v → Q v H') → t σ H Q
def TOG (t : TO) (f : Ox) : Prop := ∀ (Γ : Sl) (M : Mem) (d : Option Int), f Γ M = some d → ∀ (σ : L2.St) (F : Hp) (A : List Addr) (H : Hp), HR T M F A H → SlotR T F A Γ σ →
  ∀ Q : Option Int → Hp → Prop, (∀ F' H', Grow F H F' H' → Q d H') → t σ H Q
/-- a two-place operation on values -/
def ROG (r : R2) (g : Mem → D → D → Option D) : Prop := ∀ (M : Mem) (x y z : D), g M x y = some z → ∀ (vx vy : V) (F : Hp) (A : List Addr) (H : Hp), HR T M F A H → Rep T F A x vx → Rep T F A y vy →
  ∀ Q : VK, (∀ v F' H', Grow F H F' H' → Rep T F' A z v → Q v H') → r vx vy H Q
def RCG (r : List V → Hp → VK → Prop) (g : Mem → List D → Option D) : Prop := ∀ (M : Mem) (xs : List D) (z : D), g M xs = some z → ∀ (vs : List V) (F : Hp) (A : List Addr) (H : Hp), HR T M F A H → Reps T F A xs vs →
  ∀ Q : VK, (∀ v F' H', Grow F H F' H' → Rep T F' A z v → Q v H') → r vs H Q
end
def PEG (X : Cx) (C : Nat → Addr) (e : Expr) (f : Ex) : Prop := ∃ t, PE X e t ∧ TEG ⟨X.K, C⟩ t f
def PTG (X : Cx) (C : Nat → Addr) (e : Expr) (f : Tx) : Prop := ∃ t, PT X e t ∧ TTG ⟨X.K, C⟩ t f
def PAG (X : Cx) (C : Nat → Addr) (es : List Expr) (f : Ax) : Prop := ∃ t, PA X es t ∧ TAG ⟨X.K, C⟩ t f
def POG (X : Cx) (C : Nat → Addr) (e : Option Expr) (f : Ox) : Prop := ∃ t, PO X e t ∧ TOG ⟨X.K, C⟩ t f
def OpG (X : Cx) (C : Nat → Addr) (o : Value → Value → Sem Value) (g : Mem → D → D → Option D) : Prop := ∃ r, OpR X o r ∧ ROG ⟨X.K, C⟩ r g
def IxG (X : Cx) (C : Nat → Addr) (g : Mem → D → D → Option D) : Prop := ∃ r, IxR X r ∧ ROG ⟨X.K, C⟩ r g
def CaG (X : Cx) (C : Nat → Addr) (f : Value) (g : Mem → List D → Option D) : Prop := ∃ r, CallR X f r ∧ RCG ⟨X.K, C⟩ r g
/-! ### combinators -/
def xVar (i : Nat) : Ex := fun Γ _ => match Γ[i]? with
  | some (some d) => some d
  | _ => none
def xC (d : D) : Ex := fun _ _ => some d
def xBin (g : Mem → D → D → Option D) (a b : Ex) : Ex := fun Γ M => (a Γ M).bind fun x => (b Γ M).bind fun y => g M x y
def xAnil : Ax := fun _ _ => some []
def xAcons (a : Ex) (r : Ax) : Ax := fun Γ M => (a Γ M).bind fun x => (r Γ M).bind fun xs => some (x :: xs)
def xTup (r : Ax) : Ex := fun Γ M => (r Γ M).bind fun xs => if xs.length ≤ 1000000 then some (.tup xs) else none
def xLst (r : Ax) : Ex := fun Γ M => (r Γ M).bind fun xs => if xs.length ≤ 1000000 then some (.lst xs) else none
def xCall (g : Mem → List D → Option D) (r : Ax) : Ex := fun Γ M => (r Γ M).bind fun xs => g M xs
def xIf (c : Tx) (a b : Ex) : Ex := fun Γ M => (c Γ M).bind fun k => if k = true then a Γ M else b Γ M
/-- a value that is a bool, as a test -/
def tVal (a : Ex) : Tx := fun Γ M => (a Γ M).bind fun x => match x with
  | .bl k => some k
  | _ => none
def tAnd (a b : Tx) : Tx := fun Γ M => (a Γ M).bind fun k => if k = true then b Γ M else some false
def tOr (a b : Tx) : Tx := fun Γ M => (a Γ M).bind fun k => if k = true then some true else b Γ M
def tNot (a : Tx) : Tx := fun Γ M => (a Γ M).bind fun k => some (!k)
def xAnd (a b : Ex) : Ex := fun Γ M => (a Γ M).bind fun x => match x with
  | .bl k => if k = true then b Γ M else some (.bl false)
  | _ => none
def xOr (a b : Ex) : Ex := fun Γ M => (a Γ M).bind fun x => match x with
  | .bl k => if k = true then some (.bl true) else b Γ M
  | _ => none
def xNot (a : Ex) : Ex := fun Γ M => (a Γ M).bind fun x => match x with
  | .bl k => some (.bl (!k))
  | _ => none
def xNeg (a : Ex) : Ex := fun Γ M => (a Γ M).bind fun x => match x with
  | .int i => some (.int (-i))
  | _ => none
def oNone : Ox := fun _ _ => some none
def oSome (a : Ex) : Ox := fun Γ M => (a Γ M).bind fun x => match x with
  | .int i => some (some i)
  | _ => none
/-! ### what a list is -/
def vL (M : Mem) : D → Option (List D)
  | .lst ds => some ds
  | .loc n => match M[n]? with
    | some (some (.lst ds)) => some ds
    | _ => none
  | _ => none
def vK (M : Mem) : D → Option (List (DK × D))
  | .asc .k kvs => some kvs
  | .loc n => match M[n]? with
    | some (some (.asc .k kvs)) => some kvs
    | _ => none
  | _ => none
def vT (M : Mem) : D → Option (List (DK × D))
  | .asc .t kvs => some kvs
  | .loc n => match M[n]? with
    | some (some (.asc .t kvs)) => some kvs
    | _ => none
  | _ => none
def vI (M : Mem) : D → Option (Nat × List (DK × D))
  | .asc (.ins c) kvs => some (c, kvs)
  | .loc n => match M[n]? with
    | some (some (.asc (.ins c) kvs)) => some (c, kvs)
    | _ => none
  | _ => none
section
variable {T : GE} {M : Mem} {F H : Hp} {A : List Addr}
theorem vL_ok (h : HR T M F A H) {d : D} {ds : List D} (e : vL M d = some ds) {v : V} (r : Rep T F A d v) : ∃ a vs, v = .ref a ∧ H a = some (.lst vs) ∧ Reps T F A ds vs := by
  unfold vL at e
  split at e
  · cases e
    obtain ⟨a, vs, h1, h2, h3⟩ := r
    exact ⟨a, vs, h1, h.fs _ _ h2, h3⟩
  · split at e
    · rename_i n ds' hn
      cases e
      obtain ⟨a, h1, h2⟩ := r
      obtain ⟨vs, h3, h4⟩ := h.mem _ _ _ hn h1
      exact ⟨a, vs, h2, h3, h4⟩
    · cases e
  · cases e
theorem vK_ok (h : HR T M F A H) {d : D} {ds : List (DK × D)} (e : vK M d = some ds) {v : V} (r : Rep T F A d v) : ∃ a ws, v = .ref a ∧ H a = some (.dK ws) ∧ RepA T F A ds (ws.map kx) := by
  unfold vK at e
  split at e
  · cases e
    obtain ⟨a, vs, h1, ⟨ws, h2, rfl⟩, h3⟩ := r
    exact ⟨a, ws, h1, h.fs _ _ h2, h3⟩
  · split at e
    · rename_i n ds' hn
      cases e
      obtain ⟨a, h1, h2⟩ := r
      obtain ⟨vs, ⟨ws, h3, rfl⟩, h4⟩ := h.mem _ _ _ hn h1
      exact ⟨a, ws, h2, h3, h4⟩
    · cases e
  · cases e
theorem vT_ok (h : HR T M F A H) {d : D} {ds : List (DK × D)} (e : vT M d = some ds) {v : V} (r : Rep T F A d v) : ∃ a ws, v = .ref a ∧ H a = some (.dT ws) ∧ RepA T F A ds (ws.map tx) := by
  unfold vT at e
  split at e
  · cases e
    obtain ⟨a, vs, h1, ⟨ws, h2, rfl⟩, h3⟩ := r
    exact ⟨a, ws, h1, h.fs _ _ h2, h3⟩
  · split at e
    · rename_i n ds' hn
      cases e
      obtain ⟨a, h1, h2⟩ := r
      obtain ⟨vs, ⟨ws, h3, rfl⟩, h4⟩ := h.mem _ _ _ hn h1
      exact ⟨a, ws, h2, h3, h4⟩
    · cases e
  · cases e
theorem vI_ok (h : HR T M F A H) {d : D} {c : Nat} {ds : List (DK × D)} (e : vI M d = some (c, ds)) {v : V} (r : Rep T F A d v) : ∃ a dx ws, v = .ref a ∧ H a = some (.ins (T.C c) dx ws) ∧ RepA T F A ds (ws.map fx) := by
  unfold vI at e
  split at e
  · cases e
    obtain ⟨a, vs, h1, ⟨dx, ws, h2, rfl⟩, h3⟩ := r
    exact ⟨a, dx, ws, h1, h.fs _ _ h2, h3⟩
  · split at e
    · rename_i n c' ds' hn
      cases e
      obtain ⟨a, h1, h2⟩ := r
      obtain ⟨vs, ⟨dx, ws, h3, rfl⟩, h4⟩ := h.mem _ _ _ hn h1
      exact ⟨a, dx, ws, h2, h3, h4⟩
    · cases e
  · cases e
end
theorem bindS {α β : Type} {o : Option α} {f : α → Option β} {b : β} (h : o.bind f = some b) : ∃ a, o = some a ∧ f a = some b := Option.bind_eq_some_iff.mp h
section
variable {X : Cx} {C : Nat → Addr} {a b e : Expr} {es : List Expr} {f g : Ex} {p : Tx} {pos : Pos}
/-! ### names, constants -/
theorem gVar (i : Nat) {x : Str} (hN : X.N[i]? = some x := by rfl) (hv : Vis X.env.scope x := by first | exact Or.inl rfl | exact Or.inr (Or.inl rfl) | exact Or.inr (Or.inr rfl)) (hd : (x == ("__debug__" : Str)) = false := by decide)
    (hcd : (x == ("__classdict__" : Str)) = false := by decide) : PEG X C (.Name x pos) (xVar i) := by
  refine ⟨_, pe_var hN hv hd hcd, fun Γ M d e σ F A H h s Q q => ?_⟩
  unfold xVar at e
  split at e
  · rename_i d' hd'
    cases e
    obtain ⟨v, h1, h2⟩ := s.2 _ _ hd'
    exact ⟨v, h1, q v F H (Grow.refl h.fs) h2⟩
  · cases e
theorem tC_g {T : GE} {d : D} {v : V} (hr : ∀ F A, Rep T F A d v) : TEG T (tC v) (xC d) := fun Γ M d' e σ F A H h s Q q => by
  cases e
  exact q v F H (Grow.refl h.fs) (hr _ _)
theorem gInt {i j} : PEG X C (.Constant (.int i) j pos) (xC (.int i)) := ⟨_, pe_int, tC_g fun _ _ => rfl⟩
theorem gBl {i j} : PEG X C (.Constant (.bool i) j pos) (xC (.bl i)) := ⟨_, pe_bl, tC_g fun _ _ => rfl⟩
theorem gNon {j} : PEG X C (.Constant .none j pos) (xC .non) := ⟨_, pe_non, tC_g fun _ _ => rfl⟩
theorem gStr {i j} : PEG X C (.Constant (.str i) j pos) (xC (.str i)) := ⟨_, pe_str, tC_g fun _ _ => rfl⟩
theorem gGlobI {x : Str} {i : Int} {t : Tok} (hg : Gl X x) (hm : X.mg x = some (.int i t)) (hd : (x == ("__debug__" : Str)) = false := by decide) : PEG X C (.Name x pos) (xC (.int i)) :=
  ⟨_, pe_glob (v := .int i) hg hm ⟨_, rfl⟩ hd, tC_g fun _ _ => rfl⟩
theorem gGlobS {x i : Str} {t : Tok} (hg : Gl X x) (hm : X.mg x = some (.str i t)) (hd : (x == ("__debug__" : Str)) = false := by decide) : PEG X C (.Name x pos) (xC (.str i)) :=
  ⟨_, pe_glob (v := .str i) hg hm ⟨_, rfl⟩ hd, tC_g fun _ _ => rfl⟩
/-! ### two-place operations -/
theorem tOp_g {T : GE} {r : R2} {k : Mem → D → D → Option D} {ta tb : TE} (hr : ROG T r k) (ha : TEG T ta f) (hb : TEG T tb g) : TEG T (tOp r ta tb) (xBin k f g) := by
  intro Γ M d e σ F A H h s Q q
  obtain ⟨x, e1, e⟩ := bindS e
  obtain ⟨y, e2, e⟩ := bindS e
  refine ha Γ M x e1 σ F A H h s _ fun v F1 H1 g1 r1 => ?_
  refine hb Γ M y e2 σ F1 A H1 (h.grow g1) (s.same g1.ff) _ fun u F2 H2 g2 r2 => ?_
  refine hr M x y d e v u F2 A H2 ((h.grow g1).grow g2) (r1.same g2.ff) r2 Q fun z F3 H3 g3 r3 => ?_
  exact q z F3 H3 ((g1.trans g2).trans g3) r3
theorem gBin {op : Operator} {k : Mem → D → D → Option D} (ho : OpG X C (binaryOp op) k) (ha : PEG X C a f) (hb : PEG X C b g) : PEG X C (.BinOp a op b pos) (xBin k f g) := by
  obtain ⟨r, o1, o2⟩ := ho
  obtain ⟨ta, a1, a2⟩ := ha
  obtain ⟨tb, b1, b2⟩ := hb
  exact ⟨_, pe_op o1 a1 b1, tOp_g o2 a2 b2⟩
theorem gCmp {op : CmpOp} {k : Mem → D → D → Option D} (ho : OpG X C (compareOp op) k) (ha : PEG X C a f) (hb : PEG X C b g) (hm : behindInMarks op b = false) : PEG X C (.Compare a [op] [b] pos) (xBin k f g) := by
  obtain ⟨r, o1, o2⟩ := ho
  obtain ⟨ta, a1, a2⟩ := ha
  obtain ⟨tb, b1, b2⟩ := hb
  exact ⟨_, pe_cmpR o1 a1 b1 hm, tOp_g o2 a2 b2⟩
theorem tTest_g {T : GE} {t : TE} (ha : TEG T t f) : TTG T (tTest t) (tVal f) := by
  intro Γ M d e σ F A H h s Q q
  obtain ⟨x, e1, e⟩ := bindS e
  refine ha Γ M x e1 σ F A H h s _ fun v F1 H1 g1 r1 => ?_
  split at e
  · cases e
    exact ⟨_, r1, q F1 H1 g1⟩
  · cases e
theorem gCmpT {op : CmpOp} {k : Mem → D → D → Option D} (ho : OpG X C (compareOp op) k) (ha : PEG X C a f) (hb : PEG X C b g) (hm : behindInMarks op b = false) : PTG X C (.Compare a [op] [b] pos) (tVal (xBin k f g)) := by
  obtain ⟨r, o1, o2⟩ := ho
  obtain ⟨ta, a1, a2⟩ := ha
  obtain ⟨tb, b1, b2⟩ := hb
  exact ⟨_, pt_cmpR o1 a1 b1 hm, tTest_g (tOp_g o2 a2 b2)⟩
theorem gIx {k : Mem → D → D → Option D} (ho : IxG X C k) (ha : PEG X C a f) (hb : PEG X C b g) (hs : PlainIx b := by exact fun _ _ => rfl) : PEG X C (.Subscript a b pos) (xBin k f g) := by
  obtain ⟨r, o1, o2⟩ := ho
  obtain ⟨ta, a1, a2⟩ := ha
  obtain ⟨tb, b1, b2⟩ := hb
  exact ⟨_, pe_ix o1 a1 b1 hs, tOp_g o2 a2 b2⟩
/-! ### tests -/
theorem gTval (ha : PEG X C e f) (he : ∀ whole, isTrue e X.env whole = (do let v ← whole; standAt e.pos; holding [v] (truthy v)) := by intro _; rfl) : PTG X C e (tVal f) := by
  obtain ⟨ta, a1, a2⟩ := ha
  exact ⟨_, pt_val a1 he, tTest_g a2⟩
theorem gTnot {p : Tx} (ha : PTG X C a p) : PTG X C (.UnaryOp .Not a pos) (tNot p) := by
  obtain ⟨ta, a1, a2⟩ := ha
  refine ⟨_, pt_not a1, fun Γ M d e σ F A H h s Q q => ?_⟩
  obtain ⟨k, e1, e⟩ := bindS e
  cases e
  exact a2 Γ M k e1 σ F A H h s _ fun F1 H1 g1 => q F1 H1 g1
def PWG (X : Cx) (C : Nat → Addr) (e : Expr) (f : Tx) : Prop := ∃ t, PW X e t ∧ TTG ⟨X.K, C⟩ t f
theorem gW {p : Tx} (h : PWG X C e p) : PTG X C e p := let ⟨t, a, b⟩ := h; ⟨t, a.pt, b⟩
theorem gWand1 {p : Tx} (ha : PTG X C a p) : PWG X C (.BoolOp .And [a] pos) p := let ⟨t, x, y⟩ := ha; ⟨t, pw_and1 x, y⟩
theorem gWor1 {p : Tx} (ha : PTG X C a p) : PWG X C (.BoolOp .Or [a] pos) p := let ⟨t, x, y⟩ := ha; ⟨t, pw_or1 x, y⟩
theorem gWand {p q : Tx} {rest : List Expr} (ha : PTG X C a p) (hb : PWG X C (.BoolOp .And (b :: rest) pos) q) : PWG X C (.BoolOp .And (a :: b :: rest) pos) (tAnd p q) := by
  obtain ⟨ta, a1, a2⟩ := ha
  obtain ⟨tb, b1, b2⟩ := hb
  refine ⟨_, pw_and a1 b1, fun Γ M d e σ F A H h s Q k => ?_⟩
  obtain ⟨x, e1, e⟩ := bindS e
  refine a2 Γ M x e1 σ F A H h s _ fun F1 H1 g1 => ?_
  cases x with
  | true => exact b2 Γ M d e σ F1 A H1 (h.grow g1) (s.same g1.ff) _ fun F2 H2 g2 => k F2 H2 (g1.trans g2)
  | false => cases e; exact k F1 H1 g1
theorem gWor {p q : Tx} {rest : List Expr} (ha : PTG X C a p) (hb : PWG X C (.BoolOp .Or (b :: rest) pos) q) : PWG X C (.BoolOp .Or (a :: b :: rest) pos) (tOr p q) := by
  obtain ⟨ta, a1, a2⟩ := ha
  obtain ⟨tb, b1, b2⟩ := hb
  refine ⟨_, pw_or a1 b1, fun Γ M d e σ F A H h s Q k => ?_⟩
  obtain ⟨x, e1, e⟩ := bindS e
  refine a2 Γ M x e1 σ F A H h s _ fun F1 H1 g1 => ?_
  cases x with
  | true => cases e; exact k F1 H1 g1
  | false => exact b2 Γ M d e σ F1 A H1 (h.grow g1) (s.same g1.ff) _ fun F2 H2 g2 => k F2 H2 (g1.trans g2)
/-! ### and, or, not as values; a if c else b -/
theorem gAnd1 {op} (ha : PEG X C a f) : PEG X C (.BoolOp op [a] pos) f := let ⟨t, x, y⟩ := ha; ⟨t, pe_one x, y⟩
theorem gAnd {rest : List Expr} (ha : PEG X C a f) (hb : PEG X C (.BoolOp .And (b :: rest) pos) g) : PEG X C (.BoolOp .And (a :: b :: rest) pos) (xAnd f g) := by
  obtain ⟨ta, a1, a2⟩ := ha
  obtain ⟨tb, b1, b2⟩ := hb
  refine ⟨_, pe_and a1 b1, fun Γ M d e σ F A H h s Q k => ?_⟩
  obtain ⟨x, e1, e⟩ := bindS e
  refine a2 Γ M x e1 σ F A H h s _ fun v F1 H1 g1 r1 => ?_
  split at e
  · refine ⟨_, r1, ?_⟩
    rename_i c
    cases c with
    | true => exact b2 Γ M d e σ F1 A H1 (h.grow g1) (s.same g1.ff) _ fun v2 F2 H2 g2 => k v2 F2 H2 (g1.trans g2)
    | false => cases e; exact k _ F1 H1 g1 rfl
  · cases e
theorem gOr {rest : List Expr} (ha : PEG X C a f) (hb : PEG X C (.BoolOp .Or (b :: rest) pos) g) : PEG X C (.BoolOp .Or (a :: b :: rest) pos) (xOr f g) := by
  obtain ⟨ta, a1, a2⟩ := ha
  obtain ⟨tb, b1, b2⟩ := hb
  refine ⟨_, pe_or a1 b1, fun Γ M d e σ F A H h s Q k => ?_⟩
  obtain ⟨x, e1, e⟩ := bindS e
  refine a2 Γ M x e1 σ F A H h s _ fun v F1 H1 g1 r1 => ?_
  split at e
  · refine ⟨_, r1, ?_⟩
    rename_i c
    cases c with
    | false => exact b2 Γ M d e σ F1 A H1 (h.grow g1) (s.same g1.ff) _ fun v2 F2 H2 g2 => k v2 F2 H2 (g1.trans g2)
    | true => cases e; exact k _ F1 H1 g1 rfl
  · cases e
theorem gNot (ha : PEG X C a f) : PEG X C (.UnaryOp .Not a pos) (xNot f) := by
  obtain ⟨ta, a1, a2⟩ := ha
  refine ⟨_, pe_not a1, fun Γ M d e σ F A H h s Q k => ?_⟩
  obtain ⟨x, e1, e⟩ := bindS e
  refine a2 Γ M x e1 σ F A H h s _ fun v F1 H1 g1 r1 => ?_
  split at e
  · cases e
    exact ⟨_, r1, k _ F1 H1 g1 rfl⟩
  · cases e
theorem gNeg (ha : PEG X C a f) : PEG X C (.UnaryOp .USub a pos) (xNeg f) := by
  obtain ⟨ta, a1, a2⟩ := ha
  refine ⟨_, pe_un un_neg a1, fun Γ M d e σ F A H h s Q k => ?_⟩
  obtain ⟨x, e1, e⟩ := bindS e
  refine a2 Γ M x e1 σ F A H h s _ fun v F1 H1 g1 r1 => ?_
  split at e
  · cases e
    exact ⟨_, r1, k _ F1 H1 g1 rfl⟩
  · cases e
theorem gIfE {c : Expr} (hc : PTG X C c p) (ha : PEG X C a f) (hb : PEG X C b g) : PEG X C (.IfExp c a b pos) (xIf p f g) := by
  obtain ⟨tc, c1, c2⟩ := hc
  obtain ⟨ta, a1, a2⟩ := ha
  obtain ⟨tb, b1, b2⟩ := hb
  refine ⟨_, pe_ifExp c1 a1 b1, fun Γ M d e σ F A H h s Q k => ?_⟩
  obtain ⟨x, e1, e⟩ := bindS e
  refine c2 Γ M x e1 σ F A H h s _ fun F1 H1 g1 => ?_
  cases x with
  | true => exact a2 Γ M d e σ F1 A H1 (h.grow g1) (s.same g1.ff) _ fun v2 F2 H2 g2 => k v2 F2 H2 (g1.trans g2)
  | false => exact b2 Γ M d e σ F1 A H1 (h.grow g1) (s.same g1.ff) _ fun v2 F2 H2 g2 => k v2 F2 H2 (g1.trans g2)
/-! ### argument lists, displays -/
theorem gAnil : PAG X C [] xAnil := ⟨_, pa_nil, fun Γ M d e σ F A H h s Q q => by cases e; exact q [] F H (Grow.refl h.fs) rfl⟩
theorem gAcons {r : Ax} (ha : PEG X C e f) (hr : PAG X C es r) (hs : starEach (e :: es) X.env = (false, eval e X.env) :: starEach es X.env := by rfl) : PAG X C (e :: es) (xAcons f r) := by
  obtain ⟨ta, a1, a2⟩ := ha
  obtain ⟨tb, b1, b2⟩ := hr
  refine ⟨_, pa_cons a1 b1 hs, fun Γ M d e σ F A H h s Q q => ?_⟩
  obtain ⟨x, e1, e⟩ := bindS e
  obtain ⟨y, e2, e⟩ := bindS e
  cases e
  refine a2 Γ M x e1 σ F A H h s _ fun v F1 H1 g1 r1 => ?_
  refine b2 Γ M y e2 σ F1 A H1 (h.grow g1) (s.same g1.ff) _ fun u F2 H2 g2 r2 => ?_
  exact q _ F2 H2 (g1.trans g2) ⟨v, u, rfl, r1.same g2.ff, r2⟩
theorem sz_of6 {n : Nat} (h : n ≤ 1000000) : n ≤ sizeLine := Nat.le_trans h (by decide)
theorem Rep.newTup {T : GE} {F H : Hp} {A : List Addr} {ds : List D} {vs : List V} {p : Addr} (fs : Same F H) (hp : H p = none) (r : Reps T F A ds vs) : Rep T (upd F p (.tup vs)) A (.tup ds) (.ref p) :=
  ⟨p, vs, rfl, upd_same, r.same (same_new (fs.free hp))⟩
theorem Rep.newLst {T : GE} {F H : Hp} {A : List Addr} {ds : List D} {vs : List V} {p : Addr} (fs : Same F H) (hp : H p = none) (r : Reps T F A ds vs) : Rep T (upd F p (.lst vs)) A (.lst ds) (.ref p) :=
  ⟨p, vs, rfl, upd_same, r.same (same_new (fs.free hp))⟩
theorem gTup {r : Ax} {x1} (hr : PAG X C es r) : PEG X C (.Tuple es x1 pos) (xTup r) := by
  obtain ⟨tb, b1, b2⟩ := hr
  refine ⟨_, pe_tup b1, fun Γ M d e σ F A H h s Q q => ?_⟩
  obtain ⟨ds, e1, e⟩ := bindS e
  split at e
  · rename_i hl
    cases e
    refine b2 Γ M ds e1 σ F A H h s _ fun vs F1 H1 g1 r1 => ⟨by rw [← r1.len]; exact sz_of6 hl, fun p hp => ?_⟩
    exact q _ _ _ (g1.trans (Grow.new g1.fh hp)) (Rep.newTup g1.fh hp r1)
  · cases e
theorem gLst {r : Ax} (hr : PAG X C es r) : PEG X C (.List es pos) (xLst r) := by
  obtain ⟨tb, b1, b2⟩ := hr
  refine ⟨_, pe_lst b1, fun Γ M d e σ F A H h s Q q => ?_⟩
  obtain ⟨ds, e1, e⟩ := bindS e
  split at e
  · rename_i hl
    cases e
    refine b2 Γ M ds e1 σ F A H h s _ fun vs F1 H1 g1 r1 => ⟨by rw [← r1.len]; exact sz_of6 hl, fun p hp => ?_⟩
    exact q _ _ _ (g1.trans (Grow.new g1.fh hp)) (Rep.newLst g1.fh hp r1)
  · cases e
/-! ### calls of built-ins -/
theorem tCB_g {T : GE} {r : List V → Hp → VK → Prop} {k : Mem → List D → Option D} {t : TA} {w : Ax} (hr : RCG T r k) (ha : TAG T t w) : TEG T (tCB r t) (xCall k w) := by
  intro Γ M d e σ F A H h s Q q
  obtain ⟨ds, e1, e⟩ := bindS e
  refine ha Γ M ds e1 σ F A H h s _ fun vs F1 H1 g1 r1 => ?_
  exact hr M ds d e vs F1 A H1 (h.grow g1) r1 Q fun v F2 H2 g2 r2 => q v F2 H2 (g1.trans g2) r2
theorem gCaB {x : Str} {pp : Pos} {id : String} {k : Mem → List D → Option D} {w : Ax} (hc : CaG X C (.builtin id) k) (hg : Gl X x) (hm : X.mg x = none) (hv : bootBuiltins x = some (.builtin id)) (ha : PAG X C (e :: es) w) (hn : x ≠ "__name__" := by decide) (hdb : (x == ("__debug__" : Str)) = false := by decide)
    (he : starEach (e :: es) X.env = (false, eval e X.env) :: starEach es X.env := by rfl) (hpl : (backTo pos (starEach es X.env)).any (·.1) = false := by rfl) : PEG X C (.Call (.Name x pp) (e :: es) [] pos) (xCall k w) := by
  obtain ⟨r, c1, c2⟩ := hc
  obtain ⟨t, a1, a2⟩ := ha
  exact ⟨_, pe_callB c1 hg hm hv a1 hn hdb he hpl, tCB_g c2 a2⟩
theorem gCallTy {x : Str} {pp : Pos} {id : String} {k : Mem → List D → Option D} {w : Ax} (hc : CaG X C (.type id) k) (hg : Gl X x) (hm : X.mg x = none) (hv : bootBuiltins x = some (.type id)) (ha : PAG X C (e :: es) w) (hn : x ≠ "__name__" := by decide) (hdb : (x == ("__debug__" : Str)) = false := by decide)
    (he : starEach (e :: es) X.env = (false, eval e X.env) :: starEach es X.env := by rfl) (hpl : (backTo pos (starEach es X.env)).any (·.1) = false := by rfl) : PEG X C (.Call (.Name x pp) (e :: es) [] pos) (xCall k w) := by
  obtain ⟨r, c1, c2⟩ := hc
  obtain ⟨t, a1, a2⟩ := ha
  exact ⟨_, pe_callTy c1 hg hm hv a1 hn hdb he hpl, tCB_g c2 a2⟩
/-! ### slices -/
theorem gOnone : POG X C none oNone := ⟨_, po_none, fun Γ M d e σ F A H h s Q q => by cases e; exact q F H (Grow.refl h.fs)⟩
theorem gOsome (ha : PEG X C e f) : POG X C (some e) (oSome f) := by
  obtain ⟨t, a1, a2⟩ := ha
  refine ⟨_, po_some a1, fun Γ M d e σ F A H h s Q q => ?_⟩
  obtain ⟨x, e1, e⟩ := bindS e
  refine a2 Γ M x e1 σ F A H h s _ fun v F1 H1 g1 r1 => ?_
  split at e
  · cases e
    exact ⟨_, r1, q F1 H1 g1⟩
  · cases e
def RSG (T : GE) (r : V → Option Int → Option Int → Hp → VK → Prop) (g : Mem → D → Option Int → Option Int → Option D) : Prop := ∀ (M : Mem) (x z : D) (lo hi : Option Int), g M x lo hi = some z → ∀ (vx : V) (F : Hp) (A : List Addr) (H : Hp), HR T M F A H → Rep T F A x vx →
  ∀ Q : VK, (∀ v F' H', Grow F H F' H' → Rep T F' A z v → Q v H') → r vx lo hi H Q
def SlG (X : Cx) (C : Nat → Addr) (g : Mem → D → Option Int → Option Int → Option D) : Prop := ∃ r, SlR X r ∧ RSG ⟨X.K, C⟩ r g
def xSlice (k : Mem → D → Option Int → Option Int → Option D) (a : Ex) (lo hi : Ox) : Ex := fun Γ M => (a Γ M).bind fun x => (lo Γ M).bind fun l => (hi Γ M).bind fun u => k M x l u
theorem gSlice {k : Mem → D → Option Int → Option Int → Option D} {lo hi : Option Expr} {w1 w2 : Ox} {p2 : Pos} (hk : SlG X C k) (ha : PEG X C e f) (hl : POG X C lo w1) (hu : POG X C hi w2) : PEG X C (.Subscript e (.Slice lo hi none p2) pos) (xSlice k f w1 w2) := by
  obtain ⟨r, k1, k2⟩ := hk
  obtain ⟨t, a1, a2⟩ := ha
  obtain ⟨tl, l1, l2⟩ := hl
  obtain ⟨tu, u1, u2⟩ := hu
  refine ⟨_, pe_slice k1 a1 l1 u1, fun Γ M d e σ F A H h s Q q => ?_⟩
  obtain ⟨x, e1, e⟩ := bindS e
  obtain ⟨l, e2, e⟩ := bindS e
  obtain ⟨u, e3, e⟩ := bindS e
  refine a2 Γ M x e1 σ F A H h s _ fun v F1 H1 g1 r1 => ?_
  refine l2 Γ M l e2 σ F1 A H1 (h.grow g1) (s.same g1.ff) _ fun F2 H2 g2 => ?_
  refine u2 Γ M u e3 σ F2 A H2 ((h.grow g1).grow g2) ((s.same g1.ff).same g2.ff) _ fun F3 H3 g3 => ?_
  exact k2 M x d l u e v F3 A H3 (((h.grow g1).grow g2).grow g3) ((r1.same g2.ff).same g3.ff) Q fun v4 F4 H4 g4 r4 => q v4 F4 H4 (((g1.trans g2).trans g3).trans g4) r4
end
end G
set_option Elab.async false
set_option linter.all false
set_option maxRecDepth 100000
set_option maxHeartbeats 4000000
namespace G
open PySem PySem.Spec PyProof.Rows L2
/-! ### ints -/
/-- a number that a product takes -/
def numOk (i : Int) : Bool := decide (-1000000000000000000000000000000000000000000000000000000000000 < i ∧ i < 1000000000000000000000000000000000000000000000000000000000000)
/-- a list, or the script -/
def vQ (M : Mem) : D → Option (List D)
  | .scr ns => some (ns.map .int)
  | d => vL M d
def gAdd (M : Mem) (x y : D) : Option D := match x, y with
  | .int i, .int j => some (.int (i + j))
  | .str a, .str b => if a.length + b.length ≤ 1000000 then some (.str (a ++ b)) else none
  | x, y => (vQ M x).bind fun a => (vQ M y).bind fun b => if a.length + b.length ≤ 1000000 then some (.lst (a ++ b)) else none
def gSub (_ : Mem) (x y : D) : Option D := match x, y with
  | .int i, .int j => some (.int (i - j))
  | _, _ => none
def txtRep (z : Str) (n : Nat) : Str := ⟨(List.replicate n z.cps).foldl (· ++ ·) #[]⟩
def gMul (M : Mem) (x y : D) : Option D := match x, y with
  | .int i, .int j => if (numOk i && numOk j) = true then some (.int (i * j)) else none
  | .str z, .int j => if 1 ≤ j ∧ j ≤ 1000 ∧ 0 < z.length ∧ z.length ≤ 1000 then some (.str (txtRep z j.toNat)) else none
  | x, .int j => (vL M x).bind fun a => if -1000000 < j ∧ j < 1000000 ∧ a.length * j.toNat ≤ 1000000 then some (.lst (List.replicate j.toNat a).flatten) else none
  | _, _ => none
def gDiv (_ : Mem) (x y : D) : Option D := match x, y with
  | .int i, .int j => if (decide (0 < j) && numOk j) = true then some (.int (i / j)) else none
  | _, _ => none
def gMod (_ : Mem) (x y : D) : Option D := match x, y with
  | .int i, .int j => if 0 < j then some (.int (i % j)) else none
  | _, _ => none
def gPow (_ : Mem) (x y : D) : Option D := match x, y with
  | .int i, .int j => if 0 ≤ j ∧ j ≤ 1000 ∧ -1000000 < i ∧ i < 1000000 then some (.int (i ^ j.toNat)) else none
  | _, _ => none
def gCi (p : Int → Int → Bool) (_ : Mem) (x y : D) : Option D := match x, y with
  | .int i, .int j => some (.bl (p i j))
  | _, _ => none
def gLt := gCi fun i j => decide (i < j)
def gLe := gCi fun i j => decide (i ≤ j)
def gGt := gCi fun i j => decide (j < i)
def gGe := gCi fun i j => decide (j ≤ i)
theorem sz1 {n : Nat} (h : n ≤ 1000000) : n ≤ sizeLine := Nat.le_trans h (by decide)
theorem lim_lt : (1000000000000000000000000000000000000000000000000000000000000 : Nat) < 2 ^ 200 := by decide
theorem numOk_nat {i : Int} (h : numOk i = true) : i.natAbs < 2 ^ 200 := by
  have h' := of_decide_eq_true h
  exact Nat.lt_of_lt_of_le (show i.natAbs < 1000000000000000000000000000000000000000000000000000000000000 by omega) (Nat.le_of_lt lim_lt)
section
variable {T : GE} {M : Mem} {F H : Hp} {A : List Addr}
theorem RepsRv {ds : List D} {vs : List V} : ∀ (k : Nat), Reps T F A ds vs → Reps T F A (List.replicate k ds).flatten (List.replicate k vs).flatten
  | 0, _ => rfl
  | k + 1, h => by
    rw [List.replicate_succ, List.replicate_succ, List.flatten_cons, List.flatten_cons]
    exact h.append (RepsRv k h)
end
section
variable {X : Cx} {C : Nat → Addr}
theorem vQ_ok {T : GE} {M : Mem} {F H : Hp} {A : List Addr} (h : HR T M F A H) {d : D} {ds : List D} (e : vQ M d = some ds) {v : V} (r : Rep T F A d v) : ∃ a vs, v = .ref a ∧ SqL T.K H a vs ∧ Reps T F A ds vs := by
  unfold vQ at e
  split at e
  · rename_i ns
    cases e
    obtain ⟨a, rfl, ha⟩ := r
    refine ⟨a, _, rfl, h.fs.seq ha, ?_⟩
    clear ha
    induction ns with
    | nil => rfl
    | cons n ns ih => exact ⟨_, _, rfl, rfl, ih⟩
  · obtain ⟨a, vs, h1, h2, h3⟩ := vL_ok h e r
    exact ⟨a, vs, h1, SqL.of h2, h3⟩
/-- the sum of two lists, the script among them -/
theorem op_catQ : OpR X (binaryOp .Add) (fun x y H Q => ∃ l b xs zs, x = .ref l ∧ y = .ref b ∧ SqL X.K H l xs ∧ SqL X.K H b zs ∧ xs.length + zs.length ≤ sizeLine ∧ ∀ p, H p = none → Q (.ref p) (upd H p (.lst (xs ++ zs)))) := by
  intro pins s σ H x y v u Q I rx ry h
  obtain ⟨l, b, xs, zs, rfl, rfl, hl, hb, hz, q⟩ := h
  cases rx
  cases ry
  obtain ⟨us, r1, p1, _⟩ := I.list hl
  obtain ⟨ws, r2, p2, _⟩ := I.list hb
  obtain ⟨⟨c1, d1, t1, k1⟩, ho1, hc1, n1, hd1⟩ := p1.isList
  obtain ⟨⟨c2, d2, t2, k2⟩, ho2, hc2, n2, hd2⟩ := p2.isList
  simp only at hc1 hd1 hc2 hd2
  subst hc1 hd1 hc2 hd2
  have len1 := r1.length
  have len2 := r2.length
  have ea : us.toArray ++ ws.toArray = (us ++ ws).toArray := by simp
  refine concat_meets ⟨_, ho1, rfl⟩ ⟨_, ho2, rfl⟩ noFill_list_add seq_list_add PySem.F.slot_list_add PySem.F.entry_list_add (PySem.F.args_list_add_2 _ _)
    (list_addW l b us.toArray ws.toArray n1 n2 d1 d2 k1 k2 (by rw [List.size_toArray, List.size_toArray]; omega)) ⟨ho1, ho2, ?_⟩
  rw [ea]
  exact ⟨V.ref _, _, I.lnew (t' := s.toks) (r1.append r2) (by rw [List.length_append]; omega), rfl, q _ I.fresh⟩
/-- a text so many times -/
theorem op_txtRep : OpR X (binaryOp .Mult) (fun x y H Q => ∃ z n, x = .str z ∧ y = .int n ∧ 1 ≤ n ∧ n ≤ 1000 ∧ 0 < z.length ∧ z.length ≤ 1000 ∧ Q (.str (txtRep z n.toNat)) H) := by
  intro pins s σ H x y v u Q I rx ry h
  obtain ⟨z, n, rfl, rfl, h1, h2, h3, h4, q⟩ := h
  obtain ⟨t, rfl⟩ := rx
  obtain ⟨t', rfl⟩ := ry
  have hle : z.length * n.toNat ≤ 1000 * 1000 := Nat.mul_le_mul h4 (by omega)
  have lowcap : ∀ k : Int, 1 ≤ k → k ≤ 1000 → (1000 : Int) ≤ (2 ^ 63 - 1) / k := fun k a b => by
    rw [Int.le_ediv_iff_mul_le (by omega)]
    have : 1000 * k ≤ 1000 * 1000 := Int.mul_le_mul_of_nonneg_left b (by decide)
    exact Int.le_trans this (by decide)
  have hts : ∀ k : Nat, (txtRep z k).length = z.length * k := fun k => by
    have e : ∀ (m : Nat) (a : Array Nat), ((List.replicate m z.cps).foldl (· ++ ·) a).size = a.size + z.cps.size * m := by
      intro m
      induction m with
      | zero => intro a; rfl
      | succ m ih =>
        intro a
        rw [List.replicate_succ, List.foldl_cons, ih, Array.size_append, Nat.mul_succ]
        omega
    have := e k #[]
    simpa [txtRep, Str.length] using this
  refine PySem.P.mul_str (by rw [decide_eq_false (by omega), decide_eq_false (by omega)]; rfl) (fun _ _ => ?_) (fun _ _ => ?_) ?_
  · have := lowcap n h1 h2
    omega
  · exact decide_eq_false (by rw [sizeLine_eq]; omega)
  · rw [if_neg (by omega)]
    have q' : ∀ t k, EP X pins σ Q (.str (txtRep z n.toNat) t) { s with toks := k } := fun t k => ⟨.str (txtRep z n.toNat), H, I.tok k, ⟨t, rfl⟩, q⟩
    split
    · rename_i hc
      have : n = 1 := by
        rcases (Bool.or_eq_true _ _).mp hc with e | e
        · exact beq_iff_eq.mp e
        · have := beq_iff_eq.mp e; omega
      subst this
      have e1 : txtRep z (1 : Int).toNat = z := by
        obtain ⟨c⟩ := z
        show (⟨#[] ++ c⟩ : Str) = ⟨c⟩
        rw [Array.empty_append]
      rw [e1] at q'
      exact q' t s.toks
    · refine ⟨?_, q' _ _⟩
      show (txtRep z n.toNat).length ≤ sizeLine
      rw [hts, sizeLine_eq]
      omega
theorem oAdd : OpG X C (binaryOp .Add) gAdd := by
  refine ⟨_, op_add.or (op_add_str.or op_catQ), fun M x y z e vx vy F A H h rx ry Q q => ?_⟩
  unfold gAdd at e
  split at e
  · cases e
    exact .inl ⟨_, _, rx, ry, q _ F H (Grow.refl h.fs) rfl⟩
  · split at e
    · rename_i hl
      cases e
      exact .inr (.inl ⟨_, _, rx, ry, sz1 hl, q _ F H (Grow.refl h.fs) rfl⟩)
    · cases e
  · obtain ⟨a, e1, e⟩ := bindS e
    obtain ⟨b, e2, e⟩ := bindS e
    split at e
    · rename_i hl
      cases e
      obtain ⟨p, vs, rfl, hp, r1⟩ := vQ_ok h e1 rx
      obtain ⟨p2, vs2, rfl, hp2, r2⟩ := vQ_ok h e2 ry
      refine .inr (.inr ⟨p, p2, vs, vs2, rfl, rfl, hp, hp2, by rw [← r1.len, ← r2.len]; exact sz1 hl, fun u hu => ?_⟩)
      exact q _ _ _ (Grow.new h.fs hu) (Rep.newLst h.fs hu (r1.append r2))
    · cases e
theorem oSub : OpG X C (binaryOp .Sub) gSub := by
  refine ⟨_, op_sub, fun M x y z e vx vy F A H h rx ry Q q => ?_⟩
  unfold gSub at e
  split at e
  · cases e
    exact ⟨_, _, rx, ry, q _ F H (Grow.refl h.fs) rfl⟩
  · cases e
theorem oMul : OpG X C (binaryOp .Mult) gMul := by
  refine ⟨_, op_mulW.or (op_txtRep.or op_rep), fun M x y z e vx vy F A H h rx ry Q q => ?_⟩
  unfold gMul at e
  split at e
  · split at e
    · rename_i hk
      rw [Bool.and_eq_true] at hk
      cases e
      exact .inl ⟨_, _, rx, ry, wide_mul (numOk_nat hk.1) (numOk_nat hk.2) (by decide) (by decide) (by decide), q _ F H (Grow.refl h.fs) rfl⟩
    · cases e
  · split at e
    · rename_i hk
      cases e
      exact .inr (.inl ⟨_, _, rx, ry, hk.1, hk.2.1, hk.2.2.1, hk.2.2.2, q _ F H (Grow.refl h.fs) rfl⟩)
    · cases e
  · obtain ⟨a, e1, e⟩ := bindS e
    split at e
    · rename_i hl
      cases e
      obtain ⟨p, vs, rfl, hp, r1⟩ := vL_ok h e1 rx
      refine .inr (.inr ⟨p, _, vs, rfl, ry, hp, by omega, by omega, by rw [← r1.len]; exact sz1 hl.2.2, fun u hu => ?_⟩)
      exact q _ _ _ (Grow.new h.fs hu) (Rep.newLst h.fs hu (RepsRv _ r1))
    · cases e
  · cases e
theorem oDiv : OpG X C (binaryOp .FloorDiv) gDiv := by
  refine ⟨_, op_fdivW, fun M x y z e vx vy F A H h rx ry Q q => ?_⟩
  unfold gDiv at e
  split at e
  · split at e
    · rename_i hk
      rw [Bool.and_eq_true] at hk
      cases e
      exact ⟨_, _, rx, ry, wide_div (of_decide_eq_true hk.1) (numOk_nat hk.2) (by decide) (by decide), q _ F H (Grow.refl h.fs) rfl⟩
    · cases e
  · cases e
theorem oMod : OpG X C (binaryOp .Mod) gMod := by
  refine ⟨_, op_mod, fun M x y z e vx vy F A H h rx ry Q q => ?_⟩
  unfold gMod at e
  split at e
  · split at e
    · rename_i hk
      cases e
      exact ⟨_, _, rx, ry, hk, q _ F H (Grow.refl h.fs) rfl⟩
    · cases e
  · cases e
theorem oPow : OpG X C (binaryOp .Pow) gPow := by
  refine ⟨_, op_pow, fun M x y z e vx vy F A H h rx ry Q q => ?_⟩
  unfold gPow at e
  split at e
  · split at e
    · rename_i hk
      cases e
      refine ⟨_, _, rx, ry, ⟨hk.1, by omega, ?_⟩, q _ F H (Grow.refl h.fs) rfl⟩
      exact Nat.lt_of_lt_of_le (show _ < 1000000 by omega) (by decide)
    · cases e
  · cases e
theorem oCi {op : CmpOp} {p : Int → Int → Bool} (h : OpR X (compareOp op) (rI0 fun i j => .bl (p i j))) : OpG X C (compareOp op) (gCi p) := by
  refine ⟨_, h, fun M x y z e vx vy F A H h rx ry Q q => ?_⟩
  unfold gCi at e
  split at e
  · cases e
    exact ⟨_, _, rx, ry, q _ F H (Grow.refl h.fs) rfl⟩
  · cases e
theorem oLt : OpG X C (compareOp .Lt) gLt := oCi op_lt
theorem oLe : OpG X C (compareOp .LtE) gLe := oCi op_le
theorem oGt : OpG X C (compareOp .Gt) gGt := oCi op_gt
theorem oGe : OpG X C (compareOp .GtE) gGe := oCi op_ge
end
/-! ### is None -/
def isNon : D → Bool
  | .non => true
  | _ => false
def gIsN (_ : Mem) (x y : D) : Option D := match y with
  | .non => some (.bl (isNon x))
  | _ => none
def gNotN (_ : Mem) (x y : D) : Option D := match y with
  | .non => some (.bl (!isNon x))
  | _ => none
theorem Rep.nonIff {T : GE} {F : Hp} {A : List Addr} {x : D} {v : V} (r : Rep T F A x v) : decide (v = .non) = isNon x := by
  cases x with
  | non => cases r; rfl
  | bl _ => cases r; rfl
  | int _ => cases r; rfl
  | str _ => cases r; rfl
  | tup _ => obtain ⟨a, vs, rfl, _⟩ := r; rfl
  | lst _ => obtain ⟨a, vs, rfl, _⟩ := r; rfl
  | asc _ _ => obtain ⟨a, vs, rfl, _⟩ := r; rfl
  | loc _ => obtain ⟨a, _, rfl⟩ := r; rfl
  | scr _ => obtain ⟨a, rfl, _⟩ := r; rfl
  | ty _ => cases r; rfl
  | cls _ => cases r; rfl
  | exc _ _ => obtain ⟨a, oe, rfl, _⟩ := r; rfl
section
variable {X : Cx} {C : Nat → Addr}
theorem oIsN : OpG X C (compareOp .Is) gIsN := by
  refine ⟨_, op_isN, fun M x y z e vx vy F A H h rx ry Q q => ?_⟩
  unfold gIsN at e
  split at e
  · cases e
    exact ⟨ry, q _ F H (Grow.refl h.fs) (by rw [rx.nonIff]; rfl)⟩
  · cases e
theorem oNotN : OpG X C (compareOp .IsNot) gNotN := by
  refine ⟨_, op_notN, fun M x y z e vx vy F A H h rx ry Q q => ?_⟩
  unfold gNotN at e
  split at e
  · cases e
    exact ⟨ry, q _ F H (Grow.refl h.fs) (by rw [rx.nonIff]; rfl)⟩
  · cases e
end
/-! ### == and != of data -/
mutual
def pdF : D → Option PyData
  | .non => some .none
  | .bl b => some (.bool b)
  | .int i => some (.int i)
  | .str x => some (.str x)
  | .tup ds => (pdFs ds).map .tuple
  | .lst ds => (pdFs ds).map .list
  | .asc _ _ => none
  | .loc _ => none
  | .scr _ => none
  | .ty _ => none
  | .cls _ => none
  | .exc _ _ => none
def pdFs : List D → Option (List PyData)
  | [] => some []
  | d :: r => (pdF d).bind fun a => (pdFs r).bind fun b => some (a :: b)
end
def pd (M : Mem) : D → Option PyData
  | .loc n => match M[n]? with
    | some (some (.lst ds)) => (pdFs ds).map .list
    | _ => none
  | d => pdF d
mutual
theorem pdF_ok {T : GE} {F H : Hp} {A : List Addr} (fs : Same F H) : ∀ (d : D) (p : PyData) (v : V), pdF d = some p → Rep T F A d v → Dp T.K H v p
  | .non, _, _, e, r => by simp only [pdF, Option.some.injEq] at e; subst e; cases r; exact .non
  | .bl b, _, _, e, r => by simp only [pdF, Option.some.injEq] at e; subst e; cases r; exact .bl _
  | .int b, _, _, e, r => by simp only [pdF, Option.some.injEq] at e; subst e; cases r; exact .int _
  | .str b, _, _, e, r => by simp only [pdF, Option.some.injEq] at e; subst e; cases r; exact .str _
  | .tup ds, _, _, e, r => by
    simp only [pdF, Option.map_eq_some_iff] at e
    obtain ⟨ps, e, rfl⟩ := e
    obtain ⟨a, vs, rfl, h1, h2⟩ := r
    exact .tup (SqT.of (fs _ _ h1)) (pdFs_ok fs ds ps vs e h2)
  | .lst ds, _, _, e, r => by
    simp only [pdF, Option.map_eq_some_iff] at e
    obtain ⟨ps, e, rfl⟩ := e
    obtain ⟨a, vs, rfl, h1, h2⟩ := r
    exact .lst (SqL.of (fs _ _ h1)) (pdFs_ok fs ds ps vs e h2)
  | .asc _ _, _, _, e, _ => by simp [pdF] at e
  | .loc _, _, _, e, _ => by simp [pdF] at e
  | .scr _, _, _, e, _ => by simp [pdF] at e
  | .ty _, _, _, e, _ => by simp [pdF] at e
  | .cls _, _, _, e, _ => by simp [pdF] at e
  | .exc _ _, _, _, e, _ => by simp [pdF] at e
theorem pdFs_ok {T : GE} {F H : Hp} {A : List Addr} (fs : Same F H) : ∀ (ds : List D) (ps : List PyData) (vs : List V), pdFs ds = some ps → Reps T F A ds vs → DpAll T.K H vs ps
  | [], _, _, e, r => by simp only [pdFs, Option.some.injEq] at e; subst e; cases r; exact .nil
  | d :: ds, ps, _, e, r => by
    simp only [pdFs] at e
    obtain ⟨a, e1, e⟩ := bindS e
    obtain ⟨b, e2, e⟩ := bindS e
    cases e
    obtain ⟨v, vr, rfl, r1, r2⟩ := r
    exact .cons (pdF_ok fs d a v e1 r1) (pdFs_ok fs ds b vr e2 r2)
end
theorem pd_ok {T : GE} {M : Mem} {F H : Hp} {A : List Addr} (h : HR T M F A H) {d : D} {p : PyData} {v : V} (e : pd M d = some p) (r : Rep T F A d v) : Dp T.K H v p := by
  unfold pd at e
  split at e
  · split at e
    · rename_i n ds hn
      simp only [Option.map_eq_some_iff] at e
      obtain ⟨ps, e, rfl⟩ := e
      obtain ⟨a, h1, rfl⟩ := r
      obtain ⟨vs, h3, h4⟩ := h.mem _ _ _ hn h1
      exact .lst (SqL.of h3) (pdFs_ok h.fs ds ps vs e h4)
    · cases e
  · exact pdF_ok h.fs _ p v e r
/-- the scalars; else data as a whole -/
def gEqB (M : Mem) (x y : D) : Option Bool := match x, y with
  | .int i, .int j => some (decide (i = j))
  | .str i, .str j => some (decide (i = j))
  | .bl i, .bl j => some (decide (i = j))
  | .non, .non => some true
  | .non, .int _ => some false
  | .int _, .non => some false
  | .non, .str _ => some false
  | .str _, .non => some false
  | .int _, .str _ => some false
  | .str _, .int _ => some false
  | x, y => (pd M x).bind fun a => (pd M y).bind fun b => if (SeqAt.shaped a && SeqAt.shaped b) = true then some (PyData.eqv a b) else none
def gEq (M : Mem) (x y : D) : Option D := (gEqB M x y).map .bl
def gNe (M : Mem) (x y : D) : Option D := (gEqB M x y).map fun k => .bl (!k)
theorem gEqB_ok {T : GE} {M : Mem} {F H : Hp} {A : List Addr} (h : HR T M F A H) {x y : D} {b : Bool} (e : gEqB M x y = some b) {vx vy : V} (rx : Rep T F A x vx) (ry : Rep T F A y vy) :
    (scal vx vy = true ∧ decide (vx = vy) = b) ∨ ∃ d e, Dp T.K H vx d ∧ Dp T.K H vy e ∧ SeqAt.shaped d = true ∧ SeqAt.shaped e = true ∧ PyData.eqv d e = b := by
  unfold gEqB at e
  split at e
  · cases e; cases rx; cases ry; exact .inl ⟨rfl, by simp⟩
  · cases e; cases rx; cases ry; exact .inl ⟨rfl, by simp⟩
  · cases e; cases rx; cases ry; exact .inl ⟨rfl, by simp⟩
  · cases e; cases rx; cases ry; exact .inl ⟨rfl, by simp⟩
  · cases e; cases rx; cases ry; exact .inl ⟨rfl, by simp⟩
  · cases e; cases rx; cases ry; exact .inl ⟨rfl, by simp⟩
  · cases e; cases rx; cases ry; exact .inl ⟨rfl, by simp⟩
  · cases e; cases rx; cases ry; exact .inl ⟨rfl, by simp⟩
  · cases e; cases rx; cases ry; exact .inl ⟨rfl, by simp⟩
  · cases e; cases rx; cases ry; exact .inl ⟨rfl, by simp⟩
  · obtain ⟨a, e1, e⟩ := bindS e
    obtain ⟨c, e2, e⟩ := bindS e
    split at e
    · rename_i hk
      rw [Bool.and_eq_true] at hk
      cases e
      exact .inr ⟨a, c, pd_ok h e1 rx, pd_ok h e2 ry, hk.1, hk.2, rfl⟩
    · cases e
section
variable {X : Cx} {C : Nat → Addr}
theorem oEq (hu : X.A.units + 64 < cLine) : OpG X C (compareOp .Eq) gEq := by
  refine ⟨_, op_eq.or (op_eqD hu), fun M x y z e vx vy F A H h rx ry Q q => ?_⟩
  obtain ⟨b, e', rfl⟩ := Option.map_eq_some_iff.mp e
  rcases gEqB_ok h e' rx ry with ⟨h1, h2⟩ | ⟨d, e, h1, h2, h3, h4, h5⟩
  · exact .inl ⟨h1, q _ F H (Grow.refl h.fs) (by rw [h2]; rfl)⟩
  · exact .inr ⟨d, e, h1, h2, h3, h4, q _ F H (Grow.refl h.fs) (by rw [h5]; rfl)⟩
theorem oNe (hu : X.A.units + 64 < cLine) : OpG X C (compareOp .NotEq) gNe := by
  refine ⟨_, op_ne.or (op_neD hu), fun M x y z e vx vy F A H h rx ry Q q => ?_⟩
  obtain ⟨b, e', rfl⟩ := Option.map_eq_some_iff.mp e
  rcases gEqB_ok h e' rx ry with ⟨h1, h2⟩ | ⟨d, e, h1, h2, h3, h4, h5⟩
  · exact .inl ⟨h1, q _ F H (Grow.refl h.fs) (by rw [h2]; rfl)⟩
  · exact .inr ⟨d, e, h1, h2, h3, h4, q _ F H (Grow.refl h.fs) (by rw [h5]; rfl)⟩
end
/-! ### in, not in: lists and tuples of flat items, dicts, a sign of a text -/
def flatD : D → Bool
  | .non => true
  | .bl _ => true
  | .int _ => true
  | .str _ => true
  | _ => false
def toV : D → V
  | .bl b => .bl b
  | .int i => .int i
  | .str x => .str x
  | _ => .non
def eqFl (a b : D) : Bool := match a, b with
  | .non, .non => true
  | .bl a, .bl b => a == b
  | .bl a, .int b => (if a then 1 else 0) == b
  | .int a, .bl b => a == (if b then 1 else 0)
  | .int a, .int b => a == b
  | .str a, .str b => a == b
  | _, _ => false
theorem flat_rep {T : GE} {F : Hp} {A : List Addr} {d : D} {v : V} (f : flatD d = true) (r : Rep T F A d v) : v = toV d ∧ flatV v = true := by
  cases d with
  | non => cases r; exact ⟨rfl, rfl⟩
  | bl _ => cases r; exact ⟨rfl, rfl⟩
  | int _ => cases r; exact ⟨rfl, rfl⟩
  | str _ => cases r; exact ⟨rfl, rfl⟩
  | _ => cases f
theorem flat_reps {T : GE} {F : Hp} {A : List Addr} : ∀ {ds : List D} {vs : List V}, ds.all flatD = true → Reps T F A ds vs → vs = ds.map toV ∧ vs.all flatV = true
  | [], _, _, r => by cases r; exact ⟨rfl, rfl⟩
  | d :: ds, _, f, ⟨v, w, e, r1, r2⟩ => by
    subst e
    rw [List.all_cons, Bool.and_eq_true] at f
    obtain ⟨h1, h2⟩ := flat_rep f.1 r1
    obtain ⟨h3, h4⟩ := flat_reps f.2 r2
    subst h1 h3
    exact ⟨rfl, by rw [List.all_cons, h2, h4]; rfl⟩
theorem eqV_toV {a b : D} (fa : flatD a = true) (fb : flatD b = true) : eqV (toV a) (toV b) = eqFl a b := by
  cases a <;> first | (cases fa; done) | (cases b <;> first | rfl | (cases fb; done))
theorem inV_toV {x : D} (fx : flatD x = true) : ∀ {ds : List D}, ds.all flatD = true → inV (toV x) (ds.map toV) = ds.any fun y => eqFl y x
  | [], _ => rfl
  | d :: ds, f => by
    rw [List.all_cons, Bool.and_eq_true] at f
    show (eqV (toV d) (toV x) || inV (toV x) (ds.map toV)) = (eqFl d x || ds.any fun y => eqFl y x)
    rw [eqV_toV f.1 fx, inV_toV fx f.2]
def vS (M : Mem) : D → Option (List D)
  | .tup ds => some ds
  | d => vL M d
theorem vS_ok {T : GE} {M : Mem} {F H : Hp} {A : List Addr} (h : HR T M F A H) {d : D} {ds : List D} (e : vS M d = some ds) {v : V} (r : Rep T F A d v) : ∃ a vs, v = .ref a ∧ (SqL T.K H a vs ∨ SqT T.K H a vs) ∧ Reps T F A ds vs := by
  unfold vS at e
  split at e
  · cases e
    obtain ⟨a, vs, h1, h2, h3⟩ := r
    exact ⟨a, vs, h1, .inr (SqT.of (h.fs _ _ h2)), h3⟩
  · obtain ⟨a, vs, h1, h2, h3⟩ := vL_ok h e r
    exact ⟨a, vs, h1, .inl (SqL.of h2), h3⟩
/-- a key as a value's D -/
def keyOf : D → Option DK
  | .int i => some (.i i)
  | .str x => some (.s x)
  | _ => none
def keyOfT : D → Option (List Key)
  | .tup [] => some []
  | .tup (.int i :: r) => (keyOfT (.tup r)).map fun ks => .inl i :: ks
  | .tup (.str x :: r) => (keyOfT (.tup r)).map fun ks => .inr x :: ks
  | _ => none
def getA : List (DK × D) → DK → Option D
  | [], _ => none
  | (k, d) :: r, j => if k = j then some d else getA r j
end G
set_option Elab.async false
set_option linter.all false
set_option maxRecDepth 100000
set_option maxHeartbeats 4000000
namespace G
open PySem PySem.Spec PyProof.Rows L2
/-! ### two roads for one expression -/
theorem PE.or {X : Cx} {e : Expr} {t u : TE} (h : PE X e t) (k : PE X e u) : PE X e (fun σ H Q => t σ H Q ∨ u σ H Q) :=
  ⟨fun pins s σ H Q I w => w.elim (h.run pins s σ H Q I) (k.run pins s σ H Q I)⟩
theorem PT.or {X : Cx} {e : Expr} {t u : TT} (h : PT X e t) (k : PT X e u) : PT X e (fun σ H Q => t σ H Q ∨ u σ H Q) :=
  ⟨fun pins s σ H Q I w => w.elim (h.run pins s σ H Q I) (k.run pins s σ H Q I)⟩
/-! ### tables -/
def keysOf : List D → Option (List Key)
  | [] => some []
  | .int i :: r => (keysOf r).map fun ks => .inl i :: ks
  | .str x :: r => (keysOf r).map fun ks => .inr x :: ks
  | _ :: _ => none
def kyOf : D → Option Key
  | .int i => some (.inl i)
  | .str x => some (.inr x)
  | _ => none
theorem kyOf_ok {T : GE} {F : Hp} {A : List Addr} {d : D} {k : Key} {v : V} (e : kyOf d = some k) (r : Rep T F A d v) : v = kV k := by
  cases d <;> simp only [kyOf, Option.some.injEq] at e <;> first | (subst e; cases r; rfl) | cases e
theorem keysOf_ok {T : GE} {F : Hp} {A : List Addr} : ∀ {ds : List D} {ks : List Key} {vs : List V}, keysOf ds = some ks → Reps T F A ds vs → vs = ks.map kV
  | [], _, _, e, r => by cases e; cases r; rfl
  | d :: ds, ks, vs, e, ⟨v, w, e2, r1, r2⟩ => by
    subst e2
    cases d <;> simp only [keysOf, Option.map_eq_some_iff] at e
    all_goals first
      | (obtain ⟨k2, e, rfl⟩ := e
         rw [keysOf_ok e r2]
         cases r1
         rfl)
      | cases e
/-- what is there, and its value -/
def OptRep (T : GE) (F : Hp) (A : List Addr) : Option D → Option V → Prop
  | some d, ov => ∃ v, ov = some v ∧ Rep T F A d v
  | none, ov => ov = none
theorem getA_k {T : GE} {F : Hp} {A : List Addr} (k : Key) : ∀ {ds : List (DK × D)} {ws : List (Key × V)}, RepA T F A ds (ws.map kx) → OptRep T F A (getA ds (ofKey k)) (valV ws k)
  | [], ws, r => by
    have : ws = [] := by cases ws with | nil => rfl | cons _ _ => cases r
    subst this
    rfl
  | (j, d) :: ds, [], r => by
    obtain ⟨v, w, e, _⟩ := r
    cases e
  | (j, d) :: ds, p :: ws, r => by
    obtain ⟨v, w, e, r1, r2⟩ := r
    rw [List.map_cons] at e
    injection e with e1 e2
    subst e2
    have ej : j = ofKey p.1 := (congrArg Prod.fst e1).symm
    have ev : v = p.2 := (congrArg Prod.snd e1).symm
    subst ej ev
    show OptRep T F A (if ofKey p.1 = ofKey k then some d else getA ds (ofKey k)) _
    by_cases hk : p.1 = k
    · rw [if_pos (congrArg ofKey hk)]
      exact ⟨p.2, valV_pos hk, r1⟩
    · rw [if_neg (fun z => hk (ofKey_inj z))]
      have := getA_k k r2
      rw [valV_neg hk]
      exact this
theorem getA_t {T : GE} {F : Hp} {A : List Addr} (k : List Key) : ∀ {ds : List (DK × D)} {ws : List (List Key × V)}, RepA T F A ds (ws.map tx) → OptRep T F A (getA ds (.t k)) (valV ws k)
  | [], ws, r => by
    have : ws = [] := by cases ws with | nil => rfl | cons _ _ => cases r
    subst this
    rfl
  | (j, d) :: ds, [], r => by
    obtain ⟨v, w, e, _⟩ := r
    cases e
  | (j, d) :: ds, p :: ws, r => by
    obtain ⟨v, w, e, r1, r2⟩ := r
    rw [List.map_cons] at e
    injection e with e1 e2
    subst e2
    have ej : j = .t p.1 := (congrArg Prod.fst e1).symm
    have ev : v = p.2 := (congrArg Prod.snd e1).symm
    subst ej ev
    show OptRep T F A (if DK.t p.1 = DK.t k then some d else getA ds (.t k)) _
    by_cases hk : p.1 = k
    · rw [if_pos (congrArg DK.t hk)]
      exact ⟨p.2, valV_pos hk, r1⟩
    · rw [if_neg (fun z => hk (by injection z))]
      have := getA_t k r2
      rw [valV_neg hk]
      exact this
theorem getA_f {T : GE} {F : Hp} {A : List Addr} (k : Str) : ∀ {ds : List (DK × D)} {ws : List (Str × V)}, RepA T F A ds (ws.map fx) → OptRep T F A (getA ds (.s k)) (ws.lookup k)
  | [], ws, r => by
    have : ws = [] := by cases ws with | nil => rfl | cons _ _ => cases r
    subst this
    rfl
  | (j, d) :: ds, [], r => by
    obtain ⟨v, w, e, _⟩ := r
    cases e
  | (j, d) :: ds, p :: ws, r => by
    obtain ⟨v, w, e, r1, r2⟩ := r
    rw [List.map_cons] at e
    injection e with e1 e2
    subst e2
    have ej : j = .s p.1 := (congrArg Prod.fst e1).symm
    have ev : v = p.2 := (congrArg Prod.snd e1).symm
    subst ej ev
    obtain ⟨p1, p2⟩ := p
    show OptRep T F A (if DK.s p1 = DK.s k then some d else getA ds (.s k)) _
    by_cases hk : p1 = k
    · subst hk
      rw [if_pos rfl]
      exact ⟨p2, by simp [List.lookup], r1⟩
    · rw [if_neg (fun z => hk (by injection z))]
      have := getA_f k r2
      have e3 : (k == p1) = false := beq_eq_false_iff_ne.mpr (Ne.symm hk)
      simp only [List.lookup, e3]
      exact this
/-- what a table tells of a key: none: no table, no key; some o: o is what is there -/
def gGet (M : Mem) (x y : D) : Option (Option D) := match vK M x with
  | some kvs => (kyOf y).map fun k => getA kvs (ofKey k)
  | none => (vT M x).bind fun kvs => match y with
    | .tup ds => (keysOf ds).map fun ks => getA kvs (.t ks)
    | _ => none
theorem gGet_ok {T : GE} {M : Mem} {F H : Hp} {A : List Addr} (h : HR T M F A H) {x y : D} {o : Option D} (e : gGet M x y = some o) {vx vy : V} (rx : Rep T F A x vx) (ry : Rep T F A y vy) :
    ∃ a ov, vx = .ref a ∧ DGet H a vy ov ∧ IsD H a ∧ OptRep T F A o ov := by
  unfold gGet at e
  split at e
  · rename_i kvs hk
    obtain ⟨k, e1, rfl⟩ := Option.map_eq_some_iff.mp e
    obtain ⟨a, ws, rfl, ha, r⟩ := vK_ok h hk rx
    have := kyOf_ok e1 ry
    subst this
    refine ⟨a, _, rfl, DGet.k ha, .inl ⟨ws, .inl ha⟩, ?_⟩
    exact getA_k k r
  · obtain ⟨kvs, hk, e⟩ := bindS e
    split at e
    · obtain ⟨k, e1, rfl⟩ := Option.map_eq_some_iff.mp e
      obtain ⟨a, ws, rfl, ha, r⟩ := vT_ok h hk rx
      obtain ⟨b, vs, rfl, hb, r2⟩ := ry
      have := keysOf_ok e1 r2
      subst this
      refine ⟨a, _, rfl, DGet.t ha (h.fs _ _ hb), .inr ⟨ws, .inl ha⟩, ?_⟩
      exact getA_t k r
    · cases e
/-! ### in -/
def isTab (M : Mem) (x : D) : Bool := (vK M x).isSome || (vT M x).isSome
def gInB (M : Mem) (x y : D) : Option Bool := match x, y with
  | .str s, .str z => if s.cps.size = 1 then some (decide (s.cps.toList.headD 0 ∈ z.cps.toList)) else none
  | x, y => match vS M y with
    | some ds => if (flatD x && ds.all flatD) = true then some (ds.any fun y => eqFl y x) else none
    | none => (gGet M y x).map (·.isSome)
def gIn (M : Mem) (x y : D) : Option D := (gInB M x y).map .bl
def gNotIn (M : Mem) (x y : D) : Option D := (gInB M x y).map fun k => .bl (!k)
theorem sign_of {s : Str} (h : s.cps.size = 1) : s = ⟨#[s.cps.toList.headD 0]⟩ := by
  obtain ⟨l⟩ := s
  obtain ⟨l⟩ := l
  match l, h with
  | [c], _ => rfl
section
variable {X : Cx} {C : Nat → Addr} {a b e : Expr} {f g : Ex} {pos : Pos}
/-- the reading of an in, and what it asks -/
def tInAll (K : PySem.W.Frag) (neg : Bool) (ta tb : TE) : TE := fun σ H Q => (tOp (rIn K neg) ta tb σ H Q ∨ tOp (fun x y H Q => ∃ (c : Nat) (z : Str), x = .str ⟨#[c]⟩ ∧ y = .str z ∧ Q (.bl (if neg then !decide (c ∈ z.cps.toList) else decide (c ∈ z.cps.toList))) H) ta tb σ H Q) ∨
  ta σ H fun y H1 => tb σ H1 fun x H2 => ∃ a o, x = .ref a ∧ DGet H2 a y o ∧ Q (.bl (if neg then !o.isSome else o.isSome)) H2
theorem inAll {T : GE} {ta tb : TE} (neg : Bool) (a2 : TEG T ta f) (b2 : TEG T tb g) : TEG T (tInAll T.K neg ta tb) (xBin (fun M x y => (gInB M x y).map fun k => .bl (if neg then !k else k)) f g) := by
  intro Γ M d e σ F A H h s Q q
  obtain ⟨x, e1, e⟩ := bindS e
  obtain ⟨y, e2, e⟩ := bindS e
  obtain ⟨k, e7, rfl⟩ := Option.map_eq_some_iff.mp e
  clear e
  have go : ∀ {P : V → V → Hp → Prop}, (∀ v u F2 H2, HR T M F2 A H2 → Grow F H F2 H2 → Rep T F2 A x v → Rep T F2 A y u → P v u H2) → ta σ H fun v H1 => tb σ H1 fun u H2 => P v u H2 := fun {P} hP => by
    refine a2 Γ M x e1 σ F A H h s _ fun v F1 H1 g1 r1 => ?_
    refine b2 Γ M y e2 σ F1 A H1 (h.grow g1) (s.same g1.ff) _ fun u F2 H2 g2 r2 => ?_
    exact hP v u F2 H2 ((h.grow g1).grow g2) (g1.trans g2) (r1.same g2.ff) r2
  unfold gInB at e7
  split at e7
  · split at e7
    · rename_i s0 z hs
      cases e7
      refine .inl (.inr (go fun v u F2 H2 h2 g2 r1 r2 => ?_))
      refine ⟨s0.cps.toList.headD 0, z, ?_, r2, q _ F2 H2 g2 rfl⟩
      rw [← sign_of hs]
      exact r1
    · cases e7
  · split at e7
    · rename_i ds hds
      split at e7
      · rename_i hf
        rw [Bool.and_eq_true] at hf
        cases e7
        refine .inl (.inl (go fun v u F2 H2 h2 g2 r1 r2 => ?_))
        obtain ⟨p, vs, rfl, hp, r3⟩ := vS_ok h2 hds r2
        obtain ⟨rfl, fv⟩ := flat_rep hf.1 r1
        obtain ⟨rfl, fvs⟩ := flat_reps hf.2 r3
        refine ⟨p, _, rfl, hp, fv, fvs, q _ F2 H2 g2 ?_⟩
        rw [inV_toV hf.1 hf.2]
        rfl
      · cases e7
    · obtain ⟨o, e8, rfl⟩ := Option.map_eq_some_iff.mp e7
      refine .inr (go fun v u F2 H2 h2 g2 r1 r2 => ?_)
      obtain ⟨p, ov, rfl, hd, _, ho⟩ := gGet_ok h2 e8 r2 r1
      refine ⟨p, ov, rfl, hd, q _ F2 H2 g2 ?_⟩
      cases o with
      | none => subst ho; rfl
      | some d' => obtain ⟨v', rfl, _⟩ := ho; rfl
theorem tTestI {T : GE} {t : TE} (ha : TEG T t f) : TTG T (fun σ H Q => t σ H fun x H1 => ∃ c, x = .bl c ∧ Q c H1) (tVal f) := tTest_g ha
theorem gIn_ (hu : X.A.units + 64 < cLine) (ha : PEG X C a f) (hb : PEG X C b g) (hm : behindInMarks .In b = false) : PEG X C (.Compare a [.In] [b] pos) (xBin gIn f g) := by
  obtain ⟨ta, a1, a2⟩ := ha
  obtain ⟨tb, b1, b2⟩ := hb
  exact ⟨_, PE.or (PE.or (pe_cmpR op_in_seq a1 b1 hm) (pe_cmpR op_in_sign a1 b1 hm)) (pe_cmp (pc_din (by omega) a1 b1) hm), inAll (T := ⟨X.K, C⟩) false a2 b2⟩
theorem gNotIn_ (hu : X.A.units + 64 < cLine) (ha : PEG X C a f) (hb : PEG X C b g) (hm : behindInMarks .NotIn b = false) : PEG X C (.Compare a [.NotIn] [b] pos) (xBin gNotIn f g) := by
  obtain ⟨ta, a1, a2⟩ := ha
  obtain ⟨tb, b1, b2⟩ := hb
  exact ⟨_, PE.or (PE.or (pe_cmpR op_notIn_seq a1 b1 hm) (pe_cmpR op_notIn_sign a1 b1 hm)) (pe_cmp (pc_dnotin (by omega) a1 b1) hm), inAll (T := ⟨X.K, C⟩) true a2 b2⟩
theorem gInT_ (hu : X.A.units + 64 < cLine) (ha : PEG X C a f) (hb : PEG X C b g) (hm : behindInMarks .In b = false) : PTG X C (.Compare a [.In] [b] pos) (tVal (xBin gIn f g)) := by
  obtain ⟨ta, a1, a2⟩ := ha
  obtain ⟨tb, b1, b2⟩ := hb
  exact ⟨_, PT.or (PT.or (pt_cmpR op_in_seq a1 b1 hm) (pt_cmpR op_in_sign a1 b1 hm)) (pt_cmp (pc_din (by omega) a1 b1) hm), tTestI (inAll (T := ⟨X.K, C⟩) false a2 b2)⟩
theorem gNotInT_ (hu : X.A.units + 64 < cLine) (ha : PEG X C a f) (hb : PEG X C b g) (hm : behindInMarks .NotIn b = false) : PTG X C (.Compare a [.NotIn] [b] pos) (tVal (xBin gNotIn f g)) := by
  obtain ⟨ta, a1, a2⟩ := ha
  obtain ⟨tb, b1, b2⟩ := hb
  exact ⟨_, PT.or (PT.or (pt_cmpR op_notIn_seq a1 b1 hm) (pt_cmpR op_notIn_sign a1 b1 hm)) (pt_cmp (pc_dnotin (by omega) a1 b1) hm), tTestI (inAll (T := ⟨X.K, C⟩) true a2 b2)⟩
/-! ### a < b < c -/
def xChain (k k2 : Mem → D → D → Option D) (a b c : Ex) : Ex := fun Γ M => (a Γ M).bind fun x => (b Γ M).bind fun y => (k M x y).bind fun z => match z with
  | .bl true => (c Γ M).bind fun w => k2 M y w
  | .bl false => some (.bl false)
  | _ => none
end
/-! ### o[i] -/
def atD (xs : List D) (i : Int) : Option D := atI xs i
def gItem (M : Mem) (x y : D) : Option D := match x, y with
  | .str z, .int i => if z.length ≤ 1000000 then (atI z.cps.toList i).map fun c => .str ⟨#[c]⟩ else none
  | .scr ns, .int i => (atI ns i).map .int
  | x, y => match vS M x with
    | some ds => (match y with
      | .int i => atI ds i
      | _ => none)
    | none => (gGet M x y).join
theorem atI_rep {T : GE} {F : Hp} {A : List Addr} {ds : List D} {vs : List V} {i : Int} {d : D} (r : Reps T F A ds vs) (e : atI ds i = some d) : ∃ v, atI vs i = some v ∧ Rep T F A d v := by
  unfold atI at e ⊢
  rw [← r.len]
  obtain ⟨j, e1, e2⟩ := bindS e
  obtain ⟨v, h1, h2⟩ := r.get' e2
  exact ⟨v, by rw [e1]; exact h1, h2⟩
section
variable {X : Cx} {C : Nat → Addr} {a b e : Expr} {f g : Ex} {pos : Pos}
theorem gItem_ (hu : X.A.units + 64 < cLine) (ha : PEG X C a f) (hb : PEG X C b g) (hs : PlainIx b := by exact fun _ _ => rfl) : PEG X C (.Subscript a b pos) (xBin gItem f g) := by
  obtain ⟨ta, a1, a2⟩ := ha
  obtain ⟨tb, b1, b2⟩ := hb
  refine ⟨_, PE.or (pe_ix ix_seq a1 b1 hs) (pe_dget (by omega) a1 b1 hs), fun Γ M d e σ F A H h s Q q => ?_⟩
  obtain ⟨x, e1, e⟩ := bindS e
  obtain ⟨y, e2, e⟩ := bindS e
  have go : ∀ {P : V → V → Hp → Prop}, (∀ v u F2 H2, HR ⟨X.K, C⟩ M F2 A H2 → Grow F H F2 H2 → Rep ⟨X.K, C⟩ F2 A x v → Rep ⟨X.K, C⟩ F2 A y u → P v u H2) → ta σ H fun v H1 => tb σ H1 fun u H2 => P v u H2 := fun {P} hP => by
    refine a2 Γ M x e1 σ F A H h s _ fun v F1 H1 g1 r1 => ?_
    refine b2 Γ M y e2 σ F1 A H1 (h.grow g1) (s.same g1.ff) _ fun u F2 H2 g2 r2 => ?_
    exact hP v u F2 H2 ((h.grow g1).grow g2) (g1.trans g2) (r1.same g2.ff) r2
  unfold gItem at e
  split at e
  · split at e
    · rename_i hz
      obtain ⟨c, e7, rfl⟩ := Option.map_eq_some_iff.mp e
      refine .inl (go fun v u F2 H2 h2 g2 r1 r2 => ?_)
      exact .inr (.inr ⟨_, _, c, r1, r2, sz1 hz, e7, q _ F2 H2 g2 rfl⟩)
    · cases e
  · obtain ⟨c, e7, rfl⟩ := Option.map_eq_some_iff.mp e
    refine .inl (go fun v u F2 H2 h2 g2 r1 r2 => ?_)
    obtain ⟨p, rfl, hp⟩ := r1
    refine .inl ⟨p, _, _, .int c, rfl, r2, (h2.fs.seq hp), ?_, q _ F2 H2 g2 rfl⟩
    unfold atI at e7 ⊢
    obtain ⟨j, e3, e4⟩ := bindS e7
    rw [List.length_map, e3]
    show (List.map V.int _)[j]? = _
    rw [List.getElem?_map, e4]
    rfl
  · split at e
    · rename_i ds hds
      split at e
      · refine .inl (go fun v u F2 H2 h2 g2 r1 r2 => ?_)
        obtain ⟨p, vs, rfl, hp, r3⟩ := vS_ok h2 hds r1
        obtain ⟨v, h3, r4⟩ := atI_rep r3 e
        rcases hp with hp | hp
        · exact .inl ⟨p, vs, _, v, rfl, r2, hp, h3, q _ F2 H2 g2 r4⟩
        · exact .inr (.inl ⟨p, vs, _, v, rfl, r2, hp, h3, q _ F2 H2 g2 r4⟩)
      · cases e
    · have e7 : gGet M x y = some (some d) := Option.join_eq_some_iff.mp e
      refine .inr (go fun v u F2 H2 h2 g2 r1 r2 => ?_)
      obtain ⟨p, ov, rfl, hd, _, v', rfl, r3⟩ := gGet_ok h2 e7 r1 r2
      exact ⟨p, v', rfl, hd, q _ F2 H2 g2 r3⟩
end
/-! ### slices -/
def cutD {α : Type} (xs : List α) (lo hi : Option Int) : List α := (xs.drop (HT.sIx xs.length 0 lo)).take (HT.sIx xs.length xs.length hi - HT.sIx xs.length 0 lo)
def gCut (M : Mem) (x : D) (lo hi : Option Int) : Option D := match x with
  | .str z => if z.length ≤ 1000000 then some (.str (cutS z lo hi)) else none
  | .scr ns => some (.lst ((cutD ns lo hi).map .int))
  | .tup ds => if HT.sIx ds.length 0 lo = 0 ∧ HT.sIx ds.length ds.length hi = ds.length then none else some (.tup (cutD ds lo hi))
  | x => (vL M x).map fun ds => .lst (cutD ds lo hi)
theorem cut_reps {T : GE} {F : Hp} {A : List Addr} {ds : List D} {vs : List V} {lo hi : Option Int} (r : Reps T F A ds vs) : Reps T F A (cutD ds lo hi) (cutV vs lo hi) := by
  unfold cutD cutV
  rw [r.len]
  exact (r.drop _).take _
theorem reps_ints {T : GE} {F : Hp} {A : List Addr} : ∀ ns : List Int, Reps T F A (ns.map .int) (ns.map V.int)
  | [] => rfl
  | n :: ns => ⟨_, _, rfl, rfl, reps_ints ns⟩
theorem reps_strs {T : GE} {F : Hp} {A : List Addr} : ∀ ns : List Str, Reps T F A (ns.map .str) (ns.map V.str)
  | [] => rfl
  | n :: ns => ⟨_, _, rfl, rfl, reps_strs ns⟩
theorem oCut {X : Cx} {C : Nat → Addr} : SlG X C gCut := by
  refine ⟨_, sl_list.or (sl_str.or sl_tup), fun M x z lo hi e vx F A H h rx Q q => ?_⟩
  unfold gCut at e
  split at e
  · split at e
    · rename_i z hz
      cases e
      exact .inr (.inl ⟨z, rx, sz1 hz, q _ F H (Grow.refl h.fs) rfl⟩)
    · cases e
  · rename_i ns
    cases e
    obtain ⟨p, rfl, hp⟩ := rx
    refine .inl ⟨p, _, rfl, h.fs.seq hp, fun u hu => q _ _ _ (Grow.new h.fs hu) (Rep.newLst h.fs hu ?_)⟩
    have : cutV (ns.map V.int) lo hi = (cutD ns lo hi).map V.int := by
      unfold cutV cutD
      rw [List.length_map, List.map_take, List.map_drop]
    rw [this]
    exact reps_ints _
  · split at e
    · cases e
    · rename_i ds hw
      cases e
      obtain ⟨p, vs, rfl, hp, r1⟩ := rx
      refine .inr (.inr ⟨p, vs, rfl, SqT.of (h.fs _ _ hp), by rw [← r1.len]; exact hw, fun u hu => q _ _ _ (Grow.new h.fs hu) (Rep.newTup h.fs hu (cut_reps r1))⟩)
  · obtain ⟨ds, e7, rfl⟩ := Option.map_eq_some_iff.mp e
    obtain ⟨p, vs, rfl, hp, r1⟩ := vL_ok h e7 rx
    exact .inl ⟨p, vs, rfl, SqL.of hp, fun u hu => q _ _ _ (Grow.new h.fs hu) (Rep.newLst h.fs hu (cut_reps r1))⟩
/-! ### len, sum, max, min, abs .. -/
def gLen (M : Mem) (xs : List D) : Option D := match xs with
  | [.str z] => if z.length ≤ 1000000 then some (.int z.length) else none
  | [.scr ns] => some (.int ns.length)
  | [x] => match vS M x with
    | some ds => some (.int ds.length)
    | none => (vK M x).map fun kvs => .int kvs.length
  | _ => none
theorem RepA.len {T : GE} {F : Hp} {A : List Addr} : ∀ {ds : List (DK × D)} {vs : List (DK × V)}, RepA T F A ds vs → ds.length = vs.length
  | [], _, h => by cases h; rfl
  | (k, d) :: ds, _, ⟨v, r, h1, h2, h3⟩ => by subst h1; simp [RepA.len h3]
theorem Reps.inv1 {T : GE} {F : Hp} {A : List Addr} {d : D} {vs : List V} (r : Reps T F A [d] vs) : ∃ v, vs = [v] ∧ Rep T F A d v := by
  obtain ⟨v, w, rfl, h, e⟩ := r
  cases e
  exact ⟨v, rfl, h⟩
theorem Reps.inv2 {T : GE} {F : Hp} {A : List Addr} {d e : D} {vs : List V} (r : Reps T F A [d, e] vs) : ∃ v u, vs = [v, u] ∧ Rep T F A d v ∧ Rep T F A e u := by
  obtain ⟨v, w, rfl, h, r2⟩ := r
  obtain ⟨u, rfl, h2⟩ := r2.inv1
  exact ⟨v, u, rfl, h, h2⟩
theorem cLen {X : Cx} {C : Nat → Addr} : CaG X C (.builtin "len") gLen := by
  refine ⟨_, (call_len_seq.or call_len_str).or call_lenD, fun M xs z e vs F A H h r Q q => ?_⟩
  unfold gLen at e
  split at e
  · split at e
    · rename_i z hz
      cases e
      obtain ⟨v, rfl, rv⟩ := r.inv1
      exact .inl (.inr ⟨z, by rw [show v = .str z from rv], sz1 hz, q _ F H (Grow.refl h.fs) rfl⟩)
    · cases e
  · rename_i ns
    cases e
    obtain ⟨v, rfl, p, rfl, hp⟩ := r.inv1
    refine .inl (.inl ⟨p, _, rfl, .inl (h.fs.seq hp), q _ F H (Grow.refl h.fs) ?_⟩)
    rw [List.length_map]
    rfl
  · obtain ⟨v, rfl, rv⟩ := r.inv1
    split at e
    · rename_i ds hds
      cases e
      obtain ⟨p, vs, rfl, hp, r1⟩ := vS_ok h hds rv
      exact .inl (.inl ⟨p, vs, rfl, hp, q _ F H (Grow.refl h.fs) (by rw [← r1.len]; rfl)⟩)
    · obtain ⟨kvs, hk, rfl⟩ := Option.map_eq_some_iff.mp e
      obtain ⟨a, ws, rfl, ha, r1⟩ := vK_ok h hk rv
      refine .inr ⟨a, ws, rfl, ha, q _ F H (Grow.refl h.fs) ?_⟩
      have := r1.len
      rw [List.length_map] at this
      rw [this]
      rfl
  · cases e
def intsOf : List D → Option (List Int)
  | [] => some []
  | .int i :: r => (intsOf r).map (i :: ·)
  | _ :: _ => none
theorem intsOf_ok {T : GE} {F : Hp} {A : List Addr} : ∀ {ds : List D} {ns : List Int} {vs : List V}, intsOf ds = some ns → Reps T F A ds vs → vs = ns.map V.int
  | [], _, _, e, r => by cases e; cases r; rfl
  | d :: ds, ks, vs, e, ⟨v, w, e2, r1, r2⟩ => by
    subst e2
    cases d <;> simp only [intsOf, Option.map_eq_some_iff] at e
    all_goals first
      | (obtain ⟨k2, e, rfl⟩ := e
         rw [intsOf_ok e r2]
         cases r1
         rfl)
      | cases e
def blsOf : List D → Option (List Bool)
  | [] => some []
  | .bl i :: r => (blsOf r).map (i :: ·)
  | _ :: _ => none
theorem blsOf_ok {T : GE} {F : Hp} {A : List Addr} : ∀ {ds : List D} {ns : List Bool} {vs : List V}, blsOf ds = some ns → Reps T F A ds vs → vs = ns.map V.bl
  | [], _, _, e, r => by cases e; cases r; rfl
  | d :: ds, ks, vs, e, ⟨v, w, e2, r1, r2⟩ => by
    subst e2
    cases d <;> simp only [blsOf, Option.map_eq_some_iff] at e
    all_goals first
      | (obtain ⟨k2, e, rfl⟩ := e
         rw [blsOf_ok e r2]
         cases r1
         rfl)
      | cases e
def strsOf : List D → Option (List Str)
  | [] => some []
  | .str i :: r => (strsOf r).map (i :: ·)
  | _ :: _ => none
theorem strsOf_ok {T : GE} {F : Hp} {A : List Addr} : ∀ {ds : List D} {ns : List Str} {vs : List V}, strsOf ds = some ns → Reps T F A ds vs → vs = ns.map V.str
  | [], _, _, e, r => by cases e; cases r; rfl
  | d :: ds, ks, vs, e, ⟨v, w, e2, r1, r2⟩ => by
    subst e2
    cases d <;> simp only [strsOf, Option.map_eq_some_iff] at e
    all_goals first
      | (obtain ⟨k2, e, rfl⟩ := e
         rw [strsOf_ok e r2]
         cases r1
         rfl)
      | cases e
def gSum (M : Mem) (xs : List D) : Option D := match xs with
  | [x] => (vL M x).bind fun ds => (intsOf ds).map fun ns => .int ns.sum
  | _ => none
def maxL : List Int → Int
  | [] => 0
  | [x] => x
  | x :: y :: r => if maxL (y :: r) > x then maxL (y :: r) else x
def minL : List Int → Int
  | [] => 0
  | [x] => x
  | x :: y :: r => if minL (y :: r) < x then minL (y :: r) else x
theorem maxL_mem : ∀ {l : List Int}, l ≠ [] → maxL l ∈ l ∧ ∀ y ∈ l, y ≤ maxL l
  | [x], _ => by simp [maxL]
  | x :: y :: r, _ => by
    obtain ⟨h1, h2⟩ := maxL_mem (l := y :: r) (by simp)
    unfold maxL
    split
    · rename_i hx
      refine ⟨List.mem_cons_of_mem _ h1, fun z hz => ?_⟩
      rcases List.mem_cons.mp hz with rfl | hz
      · omega
      · exact h2 z hz
    · rename_i hx
      refine ⟨List.mem_cons_self, fun z hz => ?_⟩
      rcases List.mem_cons.mp hz with rfl | hz
      · omega
      · have := h2 z hz
        omega
theorem minL_mem : ∀ {l : List Int}, l ≠ [] → minL l ∈ l ∧ ∀ y ∈ l, minL l ≤ y
  | [x], _ => by simp [minL]
  | x :: y :: r, _ => by
    obtain ⟨h1, h2⟩ := minL_mem (l := y :: r) (by simp)
    unfold minL
    split
    · rename_i hx
      refine ⟨List.mem_cons_of_mem _ h1, fun z hz => ?_⟩
      rcases List.mem_cons.mp hz with rfl | hz
      · omega
      · exact h2 z hz
    · rename_i hx
      refine ⟨List.mem_cons_self, fun z hz => ?_⟩
      rcases List.mem_cons.mp hz with rfl | hz
      · omega
      · have := h2 z hz
        omega
def gMax (M : Mem) (xs : List D) : Option D := match xs with
  | [.int i, .int j] => some (.int (if j > i then j else i))
  | [x] => (vL M x).bind fun ds => (intsOf ds).bind fun ns => match ns with
    | [] => none
    | n :: ns => some (.int (maxL (n :: ns)))
  | _ => none
def gMin (M : Mem) (xs : List D) : Option D := match xs with
  | [.int i, .int j] => some (.int (if j < i then j else i))
  | [x] => (vL M x).bind fun ds => (intsOf ds).bind fun ns => match ns with
    | [] => none
    | n :: ns => some (.int (minL (n :: ns)))
  | _ => none
def gAll (M : Mem) (xs : List D) : Option D := match xs with
  | [x] => (vL M x).bind fun ds => (blsOf ds).map fun ns => .bl (ns.all id)
  | _ => none
section
variable {X : Cx} {C : Nat → Addr}
theorem cSum (hc : X.calm = true) : CaG X C (.builtin "sum") gSum := by
  refine ⟨_, cr_sum hc, fun M xs z e vs F A H h r Q q => ?_⟩
  unfold gSum at e
  split at e
  · obtain ⟨v, rfl, rv⟩ := r.inv1
    obtain ⟨ds, e1, e⟩ := bindS e
    obtain ⟨ns, e2, rfl⟩ := Option.map_eq_some_iff.mp e
    obtain ⟨p, vs, rfl, hp, r1⟩ := vL_ok h e1 rv
    have := intsOf_ok e2 r1
    subst this
    exact ⟨p, ns, rfl, SqL.of hp, q _ F H (Grow.refl h.fs) rfl⟩
  · cases e
theorem cAll (hc : X.calm = true) : CaG X C (.builtin "all") gAll := by
  refine ⟨_, cr_all hc, fun M xs z e vs F A H h r Q q => ?_⟩
  unfold gAll at e
  split at e
  · obtain ⟨v, rfl, rv⟩ := r.inv1
    obtain ⟨ds, e1, e⟩ := bindS e
    obtain ⟨ns, e2, rfl⟩ := Option.map_eq_some_iff.mp e
    obtain ⟨p, vs, rfl, hp, r1⟩ := vL_ok h e1 rv
    have := blsOf_ok e2 r1
    subst this
    exact ⟨p, ns, rfl, SqL.of hp, q _ F H (Grow.refl h.fs) rfl⟩
  · cases e
theorem cMax (hc : X.calm = true) : CaG X C (.builtin "max") gMax := by
  refine ⟨_, (call_max2 hc).or (cr_max hc), fun M xs z e vs F A H h r Q q => ?_⟩
  unfold gMax at e
  split at e
  · cases e
    obtain ⟨v, u, rfl, rv, ru⟩ := r.inv2
    cases rv
    cases ru
    exact .inl ⟨_, _, rfl, q _ F H (Grow.refl h.fs) rfl⟩
  · obtain ⟨v, rfl, rv⟩ := r.inv1
    obtain ⟨ds, e1, e⟩ := bindS e
    obtain ⟨ns, e2, e⟩ := bindS e
    obtain ⟨p, vs, rfl, hp, r1⟩ := vL_ok h e1 rv
    have := intsOf_ok e2 r1
    subst this
    split at e
    · cases e
    · rename_i n ns
      cases e
      refine .inr ⟨p, n :: ns, rfl, SqL.of hp, Nat.succ_pos _, fun m hm hle => q _ F H (Grow.refl h.fs) ?_⟩
      have h1 := maxL_mem (l := n :: ns) (by simp)
      have : m = maxL (n :: ns) := Int.le_antisymm (h1.2 m hm) (hle _ h1.1)
      rw [this]
      rfl
  · cases e
theorem cMin (hc : X.calm = true) : CaG X C (.builtin "min") gMin := by
  refine ⟨_, (call_min2 hc).or (cr_min hc), fun M xs z e vs F A H h r Q q => ?_⟩
  unfold gMin at e
  split at e
  · cases e
    obtain ⟨v, u, rfl, rv, ru⟩ := r.inv2
    cases rv
    cases ru
    exact .inl ⟨_, _, rfl, q _ F H (Grow.refl h.fs) rfl⟩
  · obtain ⟨v, rfl, rv⟩ := r.inv1
    obtain ⟨ds, e1, e⟩ := bindS e
    obtain ⟨ns, e2, e⟩ := bindS e
    obtain ⟨p, vs, rfl, hp, r1⟩ := vL_ok h e1 rv
    have := intsOf_ok e2 r1
    subst this
    split at e
    · cases e
    · rename_i n ns
      cases e
      refine .inr ⟨p, n :: ns, rfl, SqL.of hp, Nat.succ_pos _, fun m hm hle => q _ F H (Grow.refl h.fs) ?_⟩
      have h1 := minL_mem (l := n :: ns) (by simp)
      have : m = minL (n :: ns) := Int.le_antisymm (hle _ h1.1) (h1.2 m hm)
      rw [this]
      rfl
  · cases e
end
end G
set_option Elab.async false
set_option linter.all false
set_option maxRecDepth 100000
set_option maxHeartbeats 4000000
namespace G
open PySem PySem.Spec PyProof.Rows L2
/-! ### statements -/
structure Exn where
  c : Nat
  row : Option Int
inductive Out where
  | nx (Γ : Sl) (M : Mem) | rt (d : D) (M : Mem) | bk (Γ : Sl) (M : Mem) | ct (Γ : Sl) (M : Mem) | ex (x : Exn) (Γ : Sl) (M : Mem)
abbrev Sx := Sl → Mem → Option Out
/-- what may have changed: what is frozen stays, what is neither frozen nor own stays, the own ones are more -/
structure Step (F : Hp) (A : List Addr) (H : Hp) (F' : Hp) (A' : List Addr) (H' : Hp) : Prop where
  ff : Same F F'
  kp : ∀ p o, H p = some o → p ∉ A → H' p = some o
  nf : ∀ p o, H p = some o → p ∉ A → F p = none → F' p = none
  px : ∃ B, A' = A ++ B ∧ ∀ b ∈ B, H b = none ∧ b ∉ A
theorem Step.refl {F H : Hp} {A : List Addr} : Step F A H F A H := ⟨Same.refl _, fun _ _ h _ => h, fun _ _ _ _ h => h, [], by simp, fun _ h => by cases h⟩
theorem Grow.step {F H F' H' : Hp} {A : List Addr} (g : Grow F H F' H') : Step F A H F' A H' := ⟨g.ff, fun p o h _ => g.hh p o h, fun p o h _ z => g.nf p o h z, [], by simp, fun _ h => by cases h⟩
theorem Step.trans {F H F1 H1 F2 H2 : Hp} {A A1 A2 : List Addr} (a : Step F A H F1 A1 H1) (b : Step F1 A1 H1 F2 A2 H2) : Step F A H F2 A2 H2 := by
  obtain ⟨B1, e1, p1⟩ := a.px
  obtain ⟨B2, e2, p2⟩ := b.px
  have notin : ∀ p o, H p = some o → p ∉ A → p ∉ A1 := fun p o h n hm => by
    rw [e1] at hm
    rcases List.mem_append.mp hm with z | z
    · exact n z
    · rw [(p1 p z).1] at h; cases h
  refine ⟨a.ff.trans b.ff, fun p o h n => b.kp p o (a.kp p o h n) (notin p o h n), fun p o h n z => b.nf p o (a.kp p o h n) (notin p o h n) (a.nf p o h n z), B1 ++ B2, by rw [e2, e1, List.append_assoc], fun x hx => ?_⟩
  rcases List.mem_append.mp hx with z | z
  · exact p1 x z
  · obtain ⟨q1, q2⟩ := p2 x z
    have nA : x ∉ A := fun y => q2 (by rw [e1]; exact List.mem_append_left _ y)
    refine ⟨?_, nA⟩
    cases e : H x with
    | none => rfl
    | some o => rw [a.kp x o e nA] at q1; cases q1
theorem Step.rep {T : GE} {F H F' H' : Hp} {A A' : List Addr} (s : Step F A H F' A' H') {d : D} {v : V} (r : Rep T F A d v) : Rep T F' A' d v := by
  obtain ⟨B, rfl, _⟩ := s.px
  exact Rep.mono s.ff d v r
theorem Step.reps {T : GE} {F H F' H' : Hp} {A A' : List Addr} (s : Step F A H F' A' H') {d : List D} {v : List V} (r : Reps T F A d v) : Reps T F' A' d v := by
  obtain ⟨B, rfl, _⟩ := s.px
  exact Reps.mono s.ff d v r
theorem Step.slots {T : GE} {F H F' H' : Hp} {A A' : List Addr} (s : Step F A H F' A' H') {Γ : Sl} {σ : L2.St} (r : SlotR T F A Γ σ) : SlotR T F' A' Γ σ :=
  ⟨r.1, fun i d q => let ⟨v, a, b⟩ := r.2 i d q; ⟨v, a, s.rep b⟩⟩
/-- an exception of the class c, its own field -/
def ExRep (T : GE) (H : Hp) (x : Exn) (cls : Value) (dd : Option Addr) : Prop := cls = .ref (T.C x.c) ∧ match x.row with
  | none => dd = none
  | some n => ∃ d, dd = some d ∧ H d = some (.xd [("row", .int n)])
section
variable (T : GE)
def OutOk (F : Hp) (A : List Addr) (H : Hp) (W : WX) (D : Ends) : Out → Prop
  | .nx Γ M => ∀ σ F' A' H', HR T M F' A' H' → SlotR T F' A' Γ σ → Step F A H F' A' H' → D.nx σ H'
  | .rt d M => ∀ v F' A' H', HR T M F' A' H' → Rep T F' A' d v → Step F A H F' A' H' → D.rt v H'
  | .bk Γ M => ∀ σ F' A' H', HR T M F' A' H' → SlotR T F' A' Γ σ → Step F A H F' A' H' → D.bk σ H'
  | .ct Γ M => ∀ σ F' A' H', HR T M F' A' H' → SlotR T F' A' Γ σ → Step F A H F' A' H' → D.ct σ H'
  | .ex x Γ M => ∀ cls dd σ F' A' H', HR T M F' A' H' → SlotR T F' A' Γ σ → ExRep T F' x cls dd → Step F A H F' A' H' → W cls dd σ H'
def TSG (W : WX) (t : TS) (f : Sx) : Prop := ∀ (Γ : Sl) (M : Mem) (o : Out), f Γ M = some o → ∀ (σ : L2.St) (F : Hp) (A : List Addr) (H : Hp), HR T M F A H → SlotR T F A Γ σ → ∀ D : Ends, OutOk T F A H W D o → t D σ H
/-- a new list, table: its content (own from here on) -/
def TNG (t : TE) (f : Ex) : Prop := ∀ (Γ : Sl) (M : Mem) (c : D), f Γ M = some c → ∀ (σ : L2.St) (F : Hp) (A : List Addr) (H : Hp), HR T M F A H → SlotR T F A Γ σ →
  ∀ Q : VK, (∀ p F' H', Grow F H F' H' → F' p = none → H p = none → Cont T F' A H' c p → Q (.ref p) H') → t σ H Q
end
def PSG (X : Cx) (C : Nat → Addr) (W : WX) (st : Stmt) (f : Sx) : Prop := ∃ t, PS X st t ∧ TSG ⟨X.K, C⟩ W t f
def PBG (X : Cx) (C : Nat → Addr) (W : WX) (st : List Stmt) (f : Sx) : Prop := ∃ t, PSs X st t ∧ TSG ⟨X.K, C⟩ W t f
def PNG (X : Cx) (C : Nat → Addr) (e : Expr) (f : Ex) : Prop := ∃ t, PE X e t ∧ TNG ⟨X.K, C⟩ t f
theorem OutOk.step {T : GE} {F H F1 H1 : Hp} {A A1 : List Addr} {W : WX} {D : Ends} {o : Out} (s : Step F A H F1 A1 H1) (k : OutOk T F A H W D o) : OutOk T F1 A1 H1 W D o := by
  cases o with
  | nx Γ M => exact fun σ F' A' H' a b c => k σ F' A' H' a b (s.trans c)
  | rt d M => exact fun σ F' A' H' a b c => k σ F' A' H' a b (s.trans c)
  | bk Γ M => exact fun σ F' A' H' a b c => k σ F' A' H' a b (s.trans c)
  | ct Γ M => exact fun σ F' A' H' a b c => k σ F' A' H' a b (s.trans c)
  | ex x Γ M => exact fun cls dd σ F' A' H' a b e c => k cls dd σ F' A' H' a b e (s.trans c)
/-- a new thing, frozen at once -/
theorem Cont.freeze {T : GE} {F H : Hp} {A : List Addr} (fs : Same F H) {p : Addr} {c : D} (hp : F p = none) (k : Cont T F A H c p) : ∃ F', Same F' H ∧ Same F F' ∧ (∀ q, q ≠ p → F' q = F q) ∧ Rep T F' A c (.ref p) := by
  obtain ⟨o, ho⟩ := k.there
  have s1 : Same F (upd F p o) := same_new hp
  refine ⟨upd F p o, fun b u q => ?_, s1, fun q hq => upd_ne hq, ?_⟩
  · by_cases hb : b = p
    · subst hb; rw [upd_same] at q; rw [ho]; exact q
    · rw [upd_ne hb] at q; exact fs b u q
  · cases c with
    | lst ds =>
      obtain ⟨vs, h, r⟩ := k
      rw [ho] at h; cases h
      exact ⟨p, vs, rfl, upd_same, r.same s1⟩
    | asc a kvs =>
      obtain ⟨vs, h, r⟩ := k
      refine ⟨p, vs, rfl, ?_, r.same s1⟩
      cases a with
      | k => obtain ⟨ws, h, e⟩ := h; rw [ho] at h; cases h; exact ⟨ws, upd_same, e⟩
      | t => obtain ⟨ws, h, e⟩ := h; rw [ho] at h; cases h; exact ⟨ws, upd_same, e⟩
      | ins c => obtain ⟨dx, ws, h, e⟩ := h; rw [ho] at h; cases h; exact ⟨dx, ws, upd_same, e⟩
    | _ => exact k.elim
theorem TNG.frz {T : GE} {t : TE} {f : Ex} (h : TNG T t f) : TEG T t f := fun Γ M d e σ F A H hh s Q q => by
  refine h Γ M d e σ F A H hh s Q fun p F' H' g np hp k => ?_
  obtain ⟨F2, s1, s2, s3, r⟩ := k.freeze g.fh np
  exact q _ F2 H' ⟨g.ff.trans s2, s1, g.hh, fun b o hb hz => by
    rw [s3 b (fun e => by rw [e, hp] at hb; cases hb)]
    exact g.nf b o hb hz⟩ r
theorem PNG.frz {X : Cx} {C : Nat → Addr} {e : Expr} {f : Ex} (h : PNG X C e f) : PEG X C e f := let ⟨t, a, b⟩ := h; ⟨t, a, b.frz⟩
/-! ### own objects: a new one, one that changes -/
theorem HR.add {T : GE} {M : Mem} {F H : Hp} {A : List Addr} (h : HR T M F A H) {p : Addr} {c : D} (np : F p = none) (nA : p ∉ A) (k : Cont T F A H c p) : HR T (M ++ [some c]) F (A ++ [p]) H := by
  have up : ∀ {c' : D} {a : Addr}, Cont T F A H c' a → Cont T F (A ++ [p]) H c' a := fun {c' a} z => by
    cases c' with
    | lst ds => obtain ⟨vs, z1, z2⟩ := z; exact ⟨vs, z1, Reps.mono (Same.refl _) _ _ z2⟩
    | asc a kvs => obtain ⟨vs, z1, z2⟩ := z; exact ⟨vs, z1, RepA.mono (Same.refl _) _ _ z2⟩
    | _ => exact z.elim
  have cases' : ∀ {n : Nat} {c' : D} {a : Addr}, (M ++ [some c])[n]? = some (some c') → (A ++ [p])[n]? = some a → (M[n]? = some (some c') ∧ A[n]? = some a) ∨ (c' = c ∧ a = p) := fun {n c' a} e1 e2 => by
    by_cases hn : n < M.length
    · rw [List.getElem?_append_left hn] at e1
      rw [List.getElem?_append_left (by rw [h.len]; exact hn)] at e2
      exact .inl ⟨e1, e2⟩
    · have e3 : n = M.length := by
        have := (List.getElem?_eq_some_iff.mp e1).1
        rw [List.length_append, List.length_singleton] at this
        omega
      subst e3
      rw [List.getElem?_append_right (Nat.le_refl _)] at e1
      rw [← h.len, List.getElem?_append_right (Nat.le_refl _)] at e2
      simp at e1 e2
      exact .inr ⟨e1.symm, e2.symm⟩
  refine ⟨h.fs, ?_, by rw [List.length_append, List.length_append, h.len]; rfl, fun n c' a e1 e2 => ?_, fun n c' a e1 e2 => ?_, fun a ha => ?_, fun n a e1 e2 => ?_⟩
  · rw [List.nodup_append]
    exact ⟨h.nd, by simp, fun a ha b hb e => nA (by rw [List.mem_singleton] at hb; rw [← hb, ← e]; exact ha)⟩
  · rcases cases' e1 e2 with ⟨x, y⟩ | ⟨rfl, rfl⟩
    · exact h.fr n c' a x y
    · exact np
  · rcases cases' e1 e2 with ⟨x, y⟩ | ⟨rfl, rfl⟩
    · exact up (h.mem n c' a x y)
    · exact up k
  · rcases List.mem_append.mp ha with z | z
    · exact h.al a z
    · rw [List.mem_singleton] at z
      subst z
      exact k.there
  · by_cases hn : n < M.length
    · rw [List.getElem?_append_left hn] at e1
      rw [List.getElem?_append_left (by rw [h.len]; exact hn)] at e2
      exact h.dd n a e1 e2
    · have e3 : n = M.length := by
        have := (List.getElem?_eq_some_iff.mp e1).1
        rw [List.length_append, List.length_singleton] at this
        omega
      subst e3
      rw [List.getElem?_append_right (Nat.le_refl _)] at e1
      simp at e1
theorem nodup_at {A : List Addr} (h : A.Nodup) {i j : Nat} {a : Addr} (e1 : A[i]? = some a) (e2 : A[j]? = some a) : i = j := nd_ix h e1 e2
theorem AscAt.other {T : GE} {H : Hp} {p : Addr} {o : HO} : ∀ {k : AK} {a : Addr} {vs}, a ≠ p → AscAt T H k a vs → AscAt T (upd H p o) k a vs
  | .k, _, _, n, ⟨ws, h, q⟩ => ⟨ws, by rw [upd_ne n]; exact h, q⟩
  | .t, _, _, n, ⟨ws, h, q⟩ => ⟨ws, by rw [upd_ne n]; exact h, q⟩
  | .ins _, _, _, n, ⟨dx, ws, h, q⟩ => ⟨dx, ws, by rw [upd_ne n]; exact h, q⟩
theorem HR.write {T : GE} {M : Mem} {F H : Hp} {A : List Addr} (h : HR T M F A H) {n : Nat} {c c' : D} {a : Addr} {o : HO} (e1 : M[n]? = some (some c)) (e2 : A[n]? = some a) (k : Cont T F A (upd H a o) c' a) :
    HR T (M.set n (some c')) F A (upd H a o) ∧ Step F A H F A (upd H a o) := by
  have fa := h.fr n c a e1 e2
  have hn : n < M.length := (List.getElem?_eq_some_iff.mp e1).1
  refine ⟨⟨fun b u q => ?_, h.nd, by rw [List.length_set]; exact h.len, fun m d b q1 q2 => ?_, fun m d b q1 q2 => ?_, fun b hb => ?_, fun m b q1 q2 => ?_⟩, ⟨Same.refl _, fun p u q np => ?_, fun _ _ _ _ z => z, [], by simp, fun _ z => by cases z⟩⟩
  · have : b ≠ a := ne_of_none q fa
    rw [upd_ne this]
    exact h.fs b u q
  · by_cases hm : m = n
    · subst hm
      rw [e2] at q2; cases q2
      exact fa
    · rw [List.getElem?_set_ne (Ne.symm hm)] at q1
      exact h.fr m d b q1 q2
  · by_cases hm : m = n
    · subst hm
      rw [e2] at q2; cases q2
      rw [List.getElem?_set_self hn] at q1
      cases q1
      exact k
    · rw [List.getElem?_set_ne (Ne.symm hm)] at q1
      have hb : b ≠ a := fun z => by subst z; exact hm (nodup_at h.nd q2 e2)
      have := h.mem m d b q1 q2
      cases d with
      | lst ds => obtain ⟨vs, z1, z2⟩ := this; exact ⟨vs, by rw [upd_ne hb]; exact z1, z2⟩
      | asc kk kvs => obtain ⟨vs, z1, z2⟩ := this; exact ⟨vs, z1.other hb, z2⟩
      | _ => exact this.elim
  · by_cases hba : b = a
    · exact ⟨o, by rw [hba]; exact upd_same⟩
    · obtain ⟨u, z⟩ := h.al b hb
      exact ⟨u, by rw [upd_ne hba]; exact z⟩
  · by_cases hm : m = n
    · subst hm
      rw [List.getElem?_set_self hn] at q1
      cases q1
    · rw [List.getElem?_set_ne (Ne.symm hm)] at q1
      exact h.dd m b q1 q2
  · rw [upd_ne (fun z => np (by rw [z]; exact List.mem_of_getElem? e2))]
    exact q
/-! ### small statements -/
theorem SlotR.set {T : GE} {F : Hp} {A : List Addr} {Γ : Sl} {σ : L2.St} (s : SlotR T F A Γ σ) {d : D} {v : V} (r : Rep T F A d v) (i : Nat) : SlotR T F A (Γ.set i (some d)) (σ.set i (some v)) := by
  refine ⟨by rw [List.length_set, List.length_set]; exact s.1, fun j e q => ?_⟩
  by_cases hj : i = j
  · subst hj
    have hl : i < Γ.length := by
      have := (List.getElem?_eq_some_iff.mp q).1
      rw [List.length_set] at this
      exact this
    rw [List.getElem?_set_self hl] at q
    cases q
    exact ⟨v, by rw [List.getElem?_set_self (by rw [← s.1]; exact hl)], r⟩
  · rw [List.getElem?_set_ne hj] at q
    obtain ⟨u, h1, h2⟩ := s.2 j e q
    exact ⟨u, by rw [List.getElem?_set_ne hj]; exact h1, h2⟩
def kills (Γ : Sl) : List Nat → Sl
  | [] => Γ
  | k :: r => (kills Γ r).set k none
theorem SlotR.kill1 {T : GE} {F : Hp} {A : List Addr} {Γ : Sl} {σ : L2.St} (s : SlotR T F A Γ σ) (i : Nat) : SlotR T F A (Γ.set i none) σ := by
  refine ⟨by rw [List.length_set]; exact s.1, fun j e q => ?_⟩
  by_cases hj : i = j
  · subst hj
    have hl : i < Γ.length := by
      have := (List.getElem?_eq_some_iff.mp q).1
      rw [List.length_set] at this
      exact this
    rw [List.getElem?_set_self hl] at q
    cases q
  · rw [List.getElem?_set_ne hj] at q
    exact s.2 j e q
theorem SlotR.kills {T : GE} {F : Hp} {A : List Addr} {Γ : Sl} {σ : L2.St} (s : SlotR T F A Γ σ) : ∀ l : List Nat, SlotR T F A (kills Γ l) σ
  | [] => s
  | k :: r => (s.kills r).kill1 k
def sNext : Sx := fun Γ M => some (.nx Γ M)
def sSeq (a b : Sx) : Sx := fun Γ M => (a Γ M).bind fun o => match o with
  | .nx Γ1 M1 => b Γ1 M1
  | o => some o
def sSet (i : Nat) (f : Ex) : Sx := fun Γ M => (f Γ M).bind fun d => some (.nx (Γ.set i (some d)) M)
/-- x = a new list, dict: own -/
def sNew (i : Nat) (f : Ex) : Sx := fun Γ M => (f Γ M).bind fun d => some (.nx (Γ.set i (some (.loc M.length))) (M ++ [some d]))
def sRet (f : Ex) : Sx := fun Γ M => (f Γ M).bind fun d => some (.rt d M)
def sRetN : Sx := fun _ M => some (.rt .non M)
def sDrop (f : Ex) : Sx := fun Γ M => (f Γ M).bind fun _ => some (.nx Γ M)
def sIf (c : Tx) (a b : Sx) : Sx := fun Γ M => (c Γ M).bind fun k => if k = true then a Γ M else b Γ M
def sBreak : Sx := fun Γ M => some (.bk Γ M)
def sCont : Sx := fun Γ M => some (.ct Γ M)
section
variable {X : Cx} {C : Nat → Addr} {W : WX} {st : Stmt} {rest : List Stmt} {a b e : Expr} {f g : Ex} {s1 s2 : Sx} {pos : Pos}
theorem bNil : PBG X C W [] sNext := ⟨_, pss_nil, fun Γ M o e σ F A H h s D k => by cases e; exact k σ F A H h s Step.refl⟩
theorem TSG.seq {T : GE} {t u : TS} (h1 : TSG T W t s1) (h2 : TSG T W u s2) : TSG T W (tSeq t u) (sSeq s1 s2) := by
  intro Γ M o e σ F A H h s D k
  obtain ⟨o1, e1, e⟩ := bindS e
  refine h1 Γ M o1 e1 σ F A H h s _ ?_
  cases o1 with
  | nx Γ1 M1 => exact fun σ1 F1 A1 H1 a1 b1 c1 => h2 Γ1 M1 o e σ1 F1 A1 H1 a1 b1 D (k.step c1)
  | rt d M1 => cases e; exact k
  | bk Γ1 M1 => cases e; exact k
  | ct Γ1 M1 => cases e; exact k
  | ex x Γ1 M1 => cases e; exact k
theorem bCons (h1 : PSG X C W st s1) (h2 : PBG X C W rest s2) : PBG X C W (st :: rest) (sSeq s1 s2) := let ⟨_, a, b⟩ := h1; let ⟨_, c, d⟩ := h2; ⟨_, pss_cons a c, b.seq d⟩
theorem bOne (h1 : PSG X C W st s1) : PBG X C W [st] s1 := let ⟨_, a, b⟩ := h1; ⟨_, pss_one a, b⟩
theorem sPass : PSG X C W (.Pass pos) sNext := ⟨_, ps_pass, fun Γ M o e σ F A H h s D k => by cases e; exact k σ F A H h s Step.refl⟩
theorem sBreak_ : PSG X C W (.Break pos) sBreak := ⟨_, ps_break, fun Γ M o e σ F A H h s D k => by cases e; exact k σ F A H h s Step.refl⟩
theorem sCont_ : PSG X C W (.Continue pos) sCont := ⟨_, ps_continue, fun Γ M o e σ F A H h s D k => by cases e; exact k σ F A H h s Step.refl⟩
theorem sSet_ {i : Nat} {x : Str} {py : Pos} (hN : X.N.Nodup) (hi : X.N[i]? = some x) (hx : Loc X.env.scope x) (he : PEG X C e f) (hs : swapsWithSole [.Name x py] e pos.line X.env = pure false := by rfl) (hw : swappedStores [.Name x py] e X.env = pure none := by rfl)
    (hf : X.fn x = true ∨ X.env.scope.names.lookup x = some .local := by first | exact .inl rfl | exact .inr rfl | assumption) : PSG X C W (.Assign [.Name x py] e pos) (sSet i f) := by
  obtain ⟨t, a1, a2⟩ := he
  refine ⟨_, ps_asg a1 (pg_name hN hi hx hf) hs hw, fun Γ M o e σ F A H h s D k => ?_⟩
  obtain ⟨d, e1, e⟩ := bindS e
  cases e
  exact a2 Γ M d e1 σ F A H h s _ fun v F1 H1 g1 r1 => k _ F1 A H1 (h.grow g1) ((s.same g1.ff).set r1 i) g1.step
theorem nAdd {T : GE} {M : Mem} {F H F' H' : Hp} {A : List Addr} {c : D} {p : Addr} (h : HR T M F A H) (g : Grow F H F' H') (np : F' p = none) (hp : H p = none) (k : Cont T F' A H' c p) :
    HR T (M ++ [some c]) F' (A ++ [p]) H' ∧ Step F A H F' (A ++ [p]) H' ∧ Rep T F' (A ++ [p]) (.loc M.length) (.ref p) := by
  have nA : p ∉ A := fun z => by
    obtain ⟨o, e⟩ := h.al p z
    rw [hp] at e
    cases e
  refine ⟨(h.grow g).add np nA k, ⟨g.ff, fun q o hq _ => g.hh q o hq, fun q o hq _ z => g.nf q o hq z, [p], rfl, fun b hb => ?_⟩, p, ?_, rfl⟩
  · rw [List.mem_singleton] at hb
    subst hb
    exact ⟨hp, nA⟩
  · rw [← h.len]
    simp
theorem sNew_ {i : Nat} {x : Str} {py : Pos} (hN : X.N.Nodup) (hi : X.N[i]? = some x) (hx : Loc X.env.scope x) (he : PNG X C e f) (hs : swapsWithSole [.Name x py] e pos.line X.env = pure false := by rfl) (hw : swappedStores [.Name x py] e X.env = pure none := by rfl)
    (hf : X.fn x = true ∨ X.env.scope.names.lookup x = some .local := by first | exact .inl rfl | exact .inr rfl | assumption) : PSG X C W (.Assign [.Name x py] e pos) (sNew i f) := by
  obtain ⟨t, a1, a2⟩ := he
  refine ⟨_, ps_asg a1 (pg_name hN hi hx hf) hs hw, fun Γ M o e σ F A H h s D k => ?_⟩
  obtain ⟨d, e1, e⟩ := bindS e
  cases e
  refine a2 Γ M d e1 σ F A H h s _ fun p F1 H1 g1 np hp kk => ?_
  obtain ⟨h1, s1, r1⟩ := nAdd h g1 np hp kk
  exact k _ F1 _ H1 h1 ((s1.slots s).set r1 i) s1
theorem sRet_ (he : PEG X C e f) : PSG X C W (.Return (some e) pos) (sRet f) := by
  obtain ⟨t, a1, a2⟩ := he
  refine ⟨_, ps_ret a1, fun Γ M o e σ F A H h s D k => ?_⟩
  obtain ⟨d, e1, e⟩ := bindS e
  cases e
  exact a2 Γ M d e1 σ F A H h s _ fun v F1 H1 g1 r1 => k v F1 A H1 (h.grow g1) r1 g1.step
theorem sRetN_ : PSG X C W (.Return none pos) sRetN := ⟨_, ps_retN, fun Γ M o e σ F A H h s D k => by cases e; exact k _ F A H h rfl Step.refl⟩
theorem sDrop_ (he : PEG X C e f) (hs : swapsWith e none pos.line X.env = pure false := by rfl) : PSG X C W (.Expr e pos) (sDrop f) := by
  obtain ⟨t, a1, a2⟩ := he
  refine ⟨_, ps_expr a1 hs, fun Γ M o e σ F A H h s D k => ?_⟩
  obtain ⟨d, e1, e⟩ := bindS e
  cases e
  exact a2 Γ M d e1 σ F A H h s _ fun v F1 H1 g1 r1 => k σ F1 A H1 (h.grow g1) (s.same g1.ff) g1.step
theorem sIf_ {c : Expr} {p : Tx} {sa sb : List Stmt} (hc : PTG X C c p) (h1 : PBG X C W sa s1) (h2 : PBG X C W sb s2) : PSG X C W (.If c sa sb pos) (sIf p s1 s2) := by
  obtain ⟨tc, c1, c2⟩ := hc
  obtain ⟨t1, a1, a2⟩ := h1
  obtain ⟨t2, b1, b2⟩ := h2
  refine ⟨_, ps_if c1 a1 b1, fun Γ M o e σ F A H h s D k => ?_⟩
  obtain ⟨x, e1, e⟩ := bindS e
  refine c2 Γ M x e1 σ F A H h s _ fun F1 H1 g1 => ?_
  cases x with
  | true => exact a2 Γ M o e σ F1 A H1 (h.grow g1) (s.same g1.ff) D (k.step g1.step)
  | false => exact b2 Γ M o e σ F1 A H1 (h.grow g1) (s.same g1.ff) D (k.step g1.step)
/-! ### new lists and tables -/
theorem nLst {es : List Expr} {r : Ax} (hr : PAG X C es r) : PNG X C (.List es pos) (xLst r) := by
  obtain ⟨tb, b1, b2⟩ := hr
  refine ⟨_, pe_lst b1, fun Γ M d e σ F A H h s Q q => ?_⟩
  obtain ⟨ds, e1, e⟩ := bindS e
  split at e
  · rename_i hl
    cases e
    refine b2 Γ M ds e1 σ F A H h s _ fun vs F1 H1 g1 r1 => ⟨by rw [← r1.len]; exact sz_of6 hl, fun p hp => ?_⟩
    have g2 : Grow F1 H1 F1 (upd H1 p (.lst vs)) := ⟨Same.refl _, g1.fh.trans (same_new hp), same_new hp, fun _ _ _ z => z⟩
    exact q p F1 _ (g1.trans g2) (g1.fh.free hp) (g1.hh.free hp) ⟨vs, upd_same, r1⟩
  · cases e
def xNewK : Ex := fun _ _ => some (.asc .k [])
def xNewT : Ex := fun _ _ => some (.asc .t [])
theorem nDictK : PNG X C (.Dict [] [] pos) xNewK := ⟨_, pe_dnewK, fun Γ M d e σ F A H h s Q q => by
  cases e
  exact fun p hp => q p F _ ⟨Same.refl _, h.fs.trans (same_new hp), same_new hp, fun _ _ _ z => z⟩ (h.fs.free hp) hp ⟨[], ⟨[], upd_same, rfl⟩, rfl⟩⟩
theorem nDictT : PNG X C (.Dict [] [] pos) xNewT := ⟨_, pe_dnewT, fun Γ M d e σ F A H h s Q q => by
  cases e
  exact fun p hp => q p F _ ⟨Same.refl _, h.fs.trans (same_new hp), same_new hp, fun _ _ _ z => z⟩ (h.fs.free hp) hp ⟨[], ⟨[], upd_same, rfl⟩, rfl⟩⟩
end
/-! ### x.append(e) and its like: an own list changes -/
/-- what a method does to the content -/
def RWG (T : GE) (ty : String) (r : V → List V → Hp → VK → Prop) (k : D → List D → Option D) : Prop := ∀ (c c' : D) (xs : List D), k c xs = some c' → ∀ (a : Addr) (vs : List V) (F : Hp) (A : List Addr) (H : Hp), Cont T F A H c a → Reps T F A xs vs →
  ∀ Q : VK, (∀ o v, Cont T F A (upd H a o) c' a → Q v (upd H a o)) → r (.ref a) vs H Q
def RTy (K : PySem.W.Frag) (ty : String) (k : D → List D → Option D) : Prop := ∀ (c c' : D) (xs : List D), k c xs = some c' → ∀ (T : GE) (a : Addr) (F : Hp) (A : List Addr) (H : Hp), Cont T F A H c a → tyV K ty (.ref a) H
def MwG (X : Cx) (C : Nat → Addr) (ty id : String) (k : D → List D → Option D) : Prop := ∃ r, MtR X id r ∧ RWG ⟨X.K, C⟩ ty r k ∧ RTy X.K ty k
def sMut (k : D → List D → Option D) (fr : Ex) (fa : Ax) : Sx := fun Γ M => (fr Γ M).bind fun x => (fa Γ M).bind fun ys => match x with
  | .loc n => (match M[n]? with
    | some (some c) => (k c ys).bind fun c' => some (.nx Γ (M.set n (some c')))
    | _ => none)
  | _ => none
section
variable {X : Cx} {C : Nat → Addr} {W : WX} {o e : Expr} {es : List Expr} {fr : Ex} {fa : Ax} {name : Str} {apos cpos spos : Pos} {ty id : String} {k : D → List D → Option D}
theorem mut_core {r : V → List V → Hp → VK → Prop} {to : TE} {t : TA} (hr : RWG ⟨X.K, C⟩ ty r k) (ht : RTy X.K ty k) (o2 : TEG ⟨X.K, C⟩ to fr) (e2 : TAG ⟨X.K, C⟩ t fa) : TSG ⟨X.K, C⟩ W (tDrop (tBM X.K ty r to t)) (sMut k fr fa) := by
  intro Γ M o e σ F A H h s D kk
  obtain ⟨x, q1, e⟩ := bindS e
  obtain ⟨ys, q2, e⟩ := bindS e
  split at e
  · split at e
    · rename_i n c hc
      obtain ⟨c', q3, e⟩ := bindS e
      cases e
      refine o2 Γ M _ q1 σ F A H h s _ fun v F1 H1 g1 r1 => ?_
      have h1 := h.grow g1
      obtain ⟨a, m1, rfl⟩ := r1
      have m2 := h1.mem _ _ _ hc m1
      refine ⟨?_, ?_⟩
      · exact ht c c' ys q3 _ a _ _ _ m2
      · refine e2 Γ M ys q2 σ F1 A H1 h1 (s.same g1.ff) _ fun vs F2 H2 g2 r2 => ?_
        have h2 := h1.grow g2
        refine hr c c' ys q3 a vs F2 A H2 (m2.grow g2) r2 _ fun o v m3 => ?_
        obtain ⟨w1, w2⟩ := h2.write hc m1 m3
        exact kk σ F2 A _ w1 ((s.same g1.ff).same g2.ff) ((g1.trans g2).step.trans w2)
    · cases e
  · cases e
theorem sMut_ (pa : PlainAttrs ty) (slot : Slot ty name id) (hty : typeOf (.builtin id) = pure (.type "method_descriptor")) (hk : MwG X C ty id k) (ho : PEG X C o fr) (ha : PAG X C (e :: es) fa)
    (hbase : attributeBase o name X.env (eval o X.env) = eval o X.env := by rfl)
    (hfew : ((backTo cpos (starEach (e :: es) X.env)).all (fun x => !x.1) && (backToKw cpos (keywordEach [] X.env)).all (fun x => x.1.isSome)
      && decide ((e :: es).length + ([] : List Keyword).length + (if ([] : List Keyword).isEmpty then 0 else 1) < 30)) = true := by rfl)
    (hline : (apos.endLine == cpos.line) = true := by rfl) (hs : starEach (e :: es) X.env = (false, eval e X.env) :: starEach es X.env := by rfl) (hplain : (backTo cpos (starEach es X.env)).any (·.1) = false := by rfl)
    (hsw : swapsWith (.Call (.Attribute o name apos) (e :: es) [] cpos) none spos.line X.env = pure false := by rfl) : PSG X C W (.Expr (.Call (.Attribute o name apos) (e :: es) [] cpos) spos) (sMut k fr fa) := by
  obtain ⟨to, o1, o2⟩ := ho
  obtain ⟨t, e1, e2⟩ := ha
  obtain ⟨r, k1, k2, k3⟩ := hk
  exact ⟨_, ps_expr (pe_bm pa slot hty k1 o1 e1 hbase hfew hline hs hplain) hsw, mut_core k2 k3 o2 e2⟩
theorem sMut0_ (pa : PlainAttrs ty) (slot : Slot ty name id) (hty : typeOf (.builtin id) = pure (.type "method_descriptor")) (hk : MwG X C ty id k) (ho : PEG X C o fr)
    (mk : ∀ {r : V → List V → Hp → VK → Prop} {to : TE}, MtR X id r → PE X o to → PE X (.Call (.Attribute o name apos) [] [] cpos) (tBM0 X.K ty r to))
    (hsw : swapsWith (.Call (.Attribute o name apos) [] [] cpos) none spos.line X.env = pure false := by rfl) : PSG X C W (.Expr (.Call (.Attribute o name apos) [] [] cpos) spos) (sMut k fr xAnil) := by
  obtain ⟨to, o1, o2⟩ := ho
  obtain ⟨r, k1, k2, k3⟩ := hk
  refine ⟨_, ps_expr (mk k1 o1) hsw, fun Γ M o e σ F A H h s D kk => ?_⟩
  have := mut_core (W := W) (t := tNil) (fa := xAnil) (X := X) k2 k3 o2 (fun Γ M d e σ F A H h s Q q => by cases e; exact q [] F H (Grow.refl h.fs) rfl) Γ M o e σ F A H h s D kk
  exact this
end
/-! ### the lists' methods -/
def kApp (c : D) (xs : List D) : Option D := match c, xs with
  | .lst ds, [y] => if ds.length < 1000000 then some (.lst (ds ++ [y])) else none
  | _, _ => none
def kClr (c : D) (xs : List D) : Option D := match c, xs with
  | .lst _, [] => some (.lst [])
  | _, _ => none
def kRev (c : D) (xs : List D) : Option D := match c, xs with
  | .lst ds, [] => some (.lst ds.reverse)
  | _, _ => none
section
variable {X : Cx} {C : Nat → Addr}
theorem wApp : MwG X C "list" "list.append" kApp := by
  refine ⟨_, mt_append, fun c c' xs e a vs F A H hc hv Q q => ?_, fun c c' xs e T a F A H hc => ?_⟩
  · unfold kApp at e
    split at e
    · split at e
      · rename_i hz
        cases e
        obtain ⟨ws, h1, h2⟩ := hc
        obtain ⟨v, rfl, h3⟩ := hv.inv1
        exact ⟨a, ws, v, rfl, rfl, h1, by rw [← h2.len]; exact Nat.lt_of_lt_of_le hz (by decide), q _ _ ⟨_, upd_same, h2.append (Reps.one h3)⟩⟩
      · cases e
    · cases e
  · unfold kApp at e
    split at e
    · obtain ⟨ws, h1, _⟩ := hc
      exact .inl ⟨rfl, ws, SqL.of h1⟩
    · cases e
theorem wClr : MwG X C "list" "list.clear" kClr := by
  refine ⟨_, mt_clear, fun c c' xs e a vs F A H hc hv Q q => ?_, fun c c' xs e T a F A H hc => ?_⟩
  · unfold kClr at e
    split at e
    · cases e
      obtain ⟨ws, h1, h2⟩ := hc
      cases hv
      exact ⟨a, ws, rfl, rfl, h1, q _ _ ⟨[], upd_same, rfl⟩⟩
    · cases e
  · unfold kClr at e
    split at e
    · obtain ⟨ws, h1, _⟩ := hc
      exact .inl ⟨rfl, ws, SqL.of h1⟩
    · cases e
theorem wRev : MwG X C "list" "list.reverse" kRev := by
  refine ⟨_, mt_reverse, fun c c' xs e a vs F A H hc hv Q q => ?_, fun c c' xs e T a F A H hc => ?_⟩
  · unfold kRev at e
    split at e
    · cases e
      obtain ⟨ws, h1, h2⟩ := hc
      cases hv
      exact ⟨a, ws, rfl, rfl, h1, q _ _ ⟨_, upd_same, h2.reverse⟩⟩
    · cases e
  · unfold kRev at e
    split at e
    · obtain ⟨ws, h1, _⟩ := hc
      exact .inl ⟨rfl, ws, SqL.of h1⟩
    · cases e
end
end G
set_option Elab.async false
set_option linter.all false
set_option maxRecDepth 100000
set_option maxHeartbeats 4000000
namespace G
open PySem PySem.Spec PyProof.Rows L2
/-! ### o[i] = e -/
def withLoc {α : Type} (M : Mem) (x : D) (k : Nat → D → Option α) : Option α := match x with
  | .loc n => (match M[n]? with
    | some (some c) => k n c
    | _ => none)
  | _ => none
theorem withLoc_inv {α : Type} {M : Mem} {x : D} {k : Nat → D → Option α} {o : α} (e : withLoc M x k = some o) : ∃ n c, x = .loc n ∧ M[n]? = some (some c) ∧ k n c = some o := by
  unfold withLoc at e
  split at e
  · split at e
    · exact ⟨_, _, rfl, by assumption, e⟩
    · cases e
  · cases e
def putA (kvs : List (DK × D)) (k : DK) (d : D) : List (DK × D) :=
  if (kvs.any fun kv => decide (kv.1 = k)) = true then kvs.map (fun kv => if kv.1 = k then (kv.1, d) else kv) else kvs ++ [(k, d)]
section
variable {T : GE} {F H : Hp} {A : List Addr}
theorem RepA.append : ∀ {ds es : List (DK × D)} {vs ws : List (DK × V)}, RepA T F A ds vs → RepA T F A es ws → RepA T F A (ds ++ es) (vs ++ ws)
  | [], _, _, _, h, k => by cases h; exact k
  | (j, d) :: ds, _, _, _, ⟨v, r, h1, h2, h3⟩, k => by subst h1; exact ⟨v, _, rfl, h2, RepA.append h3 k⟩
theorem RepA.keys : ∀ {ds : List (DK × D)} {vs : List (DK × V)}, RepA T F A ds vs → ds.map (·.1) = vs.map (·.1)
  | [], _, h => by cases h; rfl
  | (j, d) :: ds, _, ⟨v, r, h1, h2, h3⟩ => by subst h1; simp [RepA.keys h3]
theorem RepA.repl {k : DK} {d : D} {v : V} (q : Rep T F A d v) : ∀ {ds : List (DK × D)} {vs : List (DK × V)}, RepA T F A ds vs →
    RepA T F A (ds.map fun kv => if kv.1 = k then (kv.1, d) else kv) (vs.map fun kv => if kv.1 = k then (kv.1, v) else kv)
  | [], _, h => by cases h; rfl
  | (j, e) :: ds, _, ⟨u, r, h1, h2, h3⟩ => by
    subst h1
    rw [List.map_cons, List.map_cons]
    by_cases hj : j = k
    · rw [if_pos hj, if_pos hj]
      exact ⟨v, _, rfl, q, RepA.repl q h3⟩
    · rw [if_neg hj, if_neg hj]
      exact ⟨u, _, rfl, h2, RepA.repl q h3⟩
theorem any_map {α β : Type} [DecidableEq α] [DecidableEq β] (f : α → β) (hf : ∀ a b, f a = f b → a = b) (k : α) : ∀ ws : List (α × V), (ws.map fun p => (f p.1, p.2)).any (fun kv => decide (kv.1 = f k)) = ws.any fun kv => decide (kv.1 = k)
  | [] => rfl
  | p :: ws => by
    rw [List.map_cons, List.any_cons, List.any_cons, any_map f hf k ws]
    congr 1
    by_cases h : p.1 = k
    · rw [decide_eq_true h, decide_eq_true (congrArg f h)]
    · rw [decide_eq_false h, decide_eq_false (fun z => h (hf _ _ z))]
theorem any_keys (k : DK) : ∀ {ds : List (DK × D)} {vs : List (DK × V)}, ds.map (·.1) = vs.map (·.1) → (ds.any fun kv => decide (kv.1 = k)) = vs.any fun kv => decide (kv.1 = k)
  | [], [], _ => rfl
  | [], _ :: _, h => by cases h
  | _ :: _, [], h => by cases h
  | p :: ds, q :: vs, h => by
    rw [List.map_cons, List.map_cons] at h
    injection h with h1 h2
    rw [List.any_cons, List.any_cons, any_keys k h2, h1]
theorem put_map {α : Type} [DecidableEq α] (f : α → DK) (hf : ∀ a b, f a = f b → a = b) {d : D} {v : V} (q : Rep T F A d v) (k : α) {ds : List (DK × D)} {ws : List (α × V)} (r : RepA T F A ds (ws.map fun p => (f p.1, p.2))) :
    RepA T F A (putA ds (f k) d) ((putK ws k v).map fun p => (f p.1, p.2)) := by
  unfold putA putK
  rw [any_keys (f k) r.keys, any_map f hf k ws]
  split
  · have e : (ws.map fun kv => if kv.1 = k then (kv.1, v) else kv).map (fun p => (f p.1, p.2)) = (ws.map fun p => (f p.1, p.2)).map fun kv => if kv.1 = f k then (kv.1, v) else kv := by
      rw [List.map_map, List.map_map]
      refine List.map_congr_left fun p _ => ?_
      show (f (if p.1 = k then (p.1, v) else p).1, (if p.1 = k then (p.1, v) else p).2) = if f p.1 = f k then (f p.1, v) else (f p.1, p.2)
      by_cases h : p.1 = k
      · rw [if_pos h, if_pos (congrArg f h)]
      · rw [if_neg h, if_neg (fun z => h (hf _ _ z))]
    rw [e]
    exact r.repl q
  · rw [List.map_append]
    exact r.append ⟨v, [], rfl, q, rfl⟩
theorem put_k {d : D} {v : V} (q : Rep T F A d v) (k : Key) {ds : List (DK × D)} {ws : List (Key × V)} (r : RepA T F A ds (ws.map kx)) : RepA T F A (putA ds (ofKey k) d) ((putK ws k v).map kx) := put_map ofKey (fun _ _ => ofKey_inj) q k r
theorem put_t {d : D} {v : V} (q : Rep T F A d v) (k : List Key) {ds : List (DK × D)} {ws : List (List Key × V)} (r : RepA T F A ds (ws.map tx)) : RepA T F A (putA ds (.t k) d) ((putK ws k v).map tx) := put_map DK.t (fun _ _ h => by injection h) q k r
end
/-- the content behind o[y] = d -/
def kPut (c y d : D) : Option D := match c, y with
  | .lst ds, .int i => (ixN ds.length i).map fun j => .lst (ds.set j d)
  | .asc .k kvs, y => (kyOf y).bind fun k => if kvs.length < 1000000 then some (.asc .k (putA kvs (ofKey k) d)) else none
  | .asc .t kvs, .tup ys => (keysOf ys).bind fun k => if kvs.length < 1000000 then some (.asc .t (putA kvs (.t k) d)) else none
  | _, _ => none
def sPut (fo fi fv : Ex) : Sx := fun Γ M => (fv Γ M).bind fun d => (fo Γ M).bind fun x => (fi Γ M).bind fun y => withLoc M x fun n c => (kPut c y d).bind fun c' => some (.nx Γ (M.set n (some c')))
theorem PS.or {X : Cx} {e : Stmt} {t u : TS} (h : PS X e t) (k : PS X e u) : PS X e (fun D σ H => t D σ H ∨ u D σ H) :=
  ⟨fun pins s σ H D I w => w.elim (h.run pins s σ H D I) (k.run pins s σ H D I)⟩
section
variable {X : Cx} {C : Nat → Addr} {W : WX} {o i e : Expr} {fo fi fv : Ex} {pos pos' : Pos}
theorem sPut_ (hu : X.A.units + 64 < cLine) (ho : PEG X C o fo) (hi : PEG X C i fi) (he : PEG X C e fv) (hs : swapsWith e (some (.Subscript o i pos')) pos.line X.env = pure false := by rfl)
    (ha : ∀ v, assign (.Subscript o i pos') X.env v = (do
      let ov ← holding [v] (eval o X.env)
      let iv ← holding [v, ov] (eval i X.env)
      standAt pos'
      holding [v, ov, iv] (setItem ov iv v)
      release [v, ov, iv] []) := by intro _; rfl)
    (hs2 : swapsWithSole [.Subscript o i pos'] e pos.line X.env = pure false := by rfl) (hw : swappedStores [.Subscript o i pos'] e X.env = pure none := by rfl) (h1 : (assignEach [.Subscript o i pos'] X.env).map (·.2) = [assign (.Subscript o i pos') X.env] := by rfl) :
    PSG X C W (.Assign [.Subscript o i pos'] e pos) (sPut fo fi fv) := by
  obtain ⟨to, o1, o2⟩ := ho
  obtain ⟨ti, i1, i2⟩ := hi
  obtain ⟨tv, v1, v2⟩ := he
  refine ⟨_, PS.or (ps_asg v1 (pg_sub o1 i1 set_list ha) hs2 hw h1) (ps_dput (by omega) o1 i1 v1 hs), fun Γ M o e σ F A H h s D kk => ?_⟩
  obtain ⟨d, q1, e⟩ := bindS e
  obtain ⟨x, q2, e⟩ := bindS e
  obtain ⟨y, q3, e⟩ := bindS e
  obtain ⟨n, c, rfl, hc, e⟩ := withLoc_inv e
  · · obtain ⟨c', q4, e⟩ := bindS e
      cases e
      have go : ∀ {P : V → V → V → Hp → Prop}, (∀ a vd vy F2 H2, HR ⟨X.K, C⟩ M F2 A H2 → Grow F H F2 H2 → A[n]? = some a → Rep ⟨X.K, C⟩ F2 A d vd → Rep ⟨X.K, C⟩ F2 A y vy → Cont ⟨X.K, C⟩ F2 A H2 c a → P vd (.ref a) vy H2) →
          tv σ H fun v H1 => to σ H1 fun u H2 => ti σ H2 fun w H3 => P v u w H3 := fun {P} hP => by
        refine v2 Γ M d q1 σ F A H h s _ fun v F1 H1 g1 r1 => ?_
        refine o2 Γ M _ q2 σ F1 A H1 (h.grow g1) (s.same g1.ff) _ fun u F2 H2 g2 r2 => ?_
        refine i2 Γ M y q3 σ F2 A H2 ((h.grow g1).grow g2) ((s.same g1.ff).same g2.ff) _ fun w F3 H3 g3 r3 => ?_
        obtain ⟨a, m1, rfl⟩ := r2
        have h3 := ((h.grow g1).grow g2).grow g3
        exact hP a v w F3 H3 h3 ((g1.trans g2).trans g3) m1 ((r1.same g2.ff).same g3.ff) r3 (h3.mem _ _ _ hc m1)
      unfold kPut at q4
      split at q4
      · obtain ⟨j, q5, rfl⟩ := Option.map_eq_some_iff.mp q4
        refine .inl (go fun a vd vy F2 H2 h2 g2 m1 rd ry hcont => ?_)
        obtain ⟨vs, w1, w2⟩ := hcont
        refine ⟨a, vs, _, j, rfl, ry, w1, by rw [← w2.len]; exact q5, ?_⟩
        obtain ⟨z1, z2⟩ := h2.write (o := .lst (vs.set j vd)) (c' := G.D.lst _) hc m1 ⟨_, upd_same, w2.set rd j⟩
        exact kk σ F2 A _ z1 (s.same g2.ff) (g2.step.trans z2)
      · obtain ⟨k, q5, q6⟩ := bindS q4
        split at q6
        · rename_i hl
          cases q6
          refine .inr (go fun a vd vy F2 H2 h2 g2 m1 rd ry hcont => ?_)
          obtain ⟨vs, ⟨ws, w1, rfl⟩, w2⟩ := hcont
          have := kyOf_ok q5 ry
          subst this
          have hl2 := w2.len
          rw [List.length_map] at hl2
          obtain ⟨z1, z2⟩ := h2.write (o := .dK (putK ws k vd)) (c' := G.D.asc .k _) hc m1 ⟨_, ⟨_, upd_same, rfl⟩, put_k rd k w2⟩
          exact ⟨a, _, rfl, DPut.k w1 (by rw [← hl2]; exact Nat.lt_of_lt_of_le hl (by decide)), kk σ F2 A _ z1 (s.same g2.ff) (g2.step.trans z2)⟩
        · cases q6
      · obtain ⟨k, q5, q6⟩ := bindS q4
        split at q6
        · rename_i hl
          cases q6
          refine .inr (go fun a vd vy F2 H2 h2 g2 m1 rd ry hcont => ?_)
          obtain ⟨vs, ⟨ws, w1, rfl⟩, w2⟩ := hcont
          obtain ⟨b, us, rfl, hb, r2⟩ := ry
          have := keysOf_ok q5 r2
          subst this
          have hl2 := w2.len
          rw [List.length_map] at hl2
          obtain ⟨z1, z2⟩ := h2.write (o := .dT (putK ws k vd)) (c' := G.D.asc .t _) hc m1 ⟨_, ⟨_, upd_same, rfl⟩, put_t rd k w2⟩
          exact ⟨a, _, rfl, DPut.t w1 (h2.fs _ _ hb) (by rw [← hl2]; exact Nat.lt_of_lt_of_le hl (by decide)), kk σ F2 A _ z1 (s.same g2.ff) (g2.step.trans z2)⟩
        · cases q6
      · cases q4
end
/-! ### targets -/
abbrev Gx := D → Sl → Option Sl
abbrev Gxs := List D → Sl → Option Sl
/-- all slots but these stay -/
def Only_ (idx : List Nat) (σ σ' : L2.St) : Prop := σ'.length = σ.length ∧ ∀ j, j ∉ idx → σ'[j]? = σ[j]?
def TGG (T : GE) (t : TG) (g : Gx) (idx : List Nat) : Prop := ∀ (d : D) (Γ Γ' : Sl), g d Γ = some Γ' → ∀ (v : V) (σ : L2.St) (F : Hp) (A : List Addr) (H : Hp), Same F H → Rep T F A d v → SlotR T F A Γ σ → ∀ Q : L2.St → Hp → Prop, (∀ σ', SlotR T F A Γ' σ' → Only_ idx σ σ' → Q σ' H) → t v σ H Q
def TGsG (T : GE) (t : TGs) (g : Gxs) (idx : List Nat) : Prop := ∀ (d : List D) (Γ Γ' : Sl), g d Γ = some Γ' → ∀ (v : List V) (σ : L2.St) (F : Hp) (A : List Addr) (H : Hp), Same F H → Reps T F A d v → SlotR T F A Γ σ → ∀ Q : L2.St → Hp → Prop, (∀ σ', SlotR T F A Γ' σ' → Only_ idx σ σ' → Q σ' H) → t v σ H Q
def PGG (X : Cx) (C : Nat → Addr) (e : Expr) (g : Gx) (idx : List Nat) : Prop := ∃ t, PG X e t ∧ TGG ⟨X.K, C⟩ t g idx
def PGsG (X : Cx) (C : Nat → Addr) (e : List Expr) (g : Gxs) (idx : List Nat) : Prop := ∃ t, PGs X e t ∧ TGsG ⟨X.K, C⟩ t g idx
def gxName (i : Nat) : Gx := fun d Γ => some (Γ.set i (some d))
def gxNil : Gxs := fun ds Γ => match ds with
  | [] => some Γ
  | _ => none
def gxCons (g : Gx) (r : Gxs) : Gxs := fun ds Γ => match ds with
  | d :: ds => (g d Γ).bind fun Γ1 => r ds Γ1
  | [] => none
def gxTup (n : Nat) (g : Gxs) : Gx := fun d Γ => match d with
  | .tup ds => if ds.length = n then g ds Γ else none
  | _ => none
section
variable {X : Cx} {C : Nat → Addr} {W : WX} {pos : Pos}
theorem tName {i : Nat} {x : Str} (hN : X.N.Nodup) (hi : X.N[i]? = some x) (hx : Loc X.env.scope x) (hf : X.fn x = true ∨ X.env.scope.names.lookup x = some .local := by first | exact .inl rfl | exact .inr rfl | assumption) : PGG X C (.Name x pos) (gxName i) [i] :=
  ⟨_, pg_name hN hi hx hf, fun d Γ Γ' e v σ F A H fs r s Q q => by cases e; exact q _ (s.set r i) ⟨List.length_set, fun j hj => List.getElem?_set_ne (fun z => hj (by simp [z]))⟩⟩
theorem tsNil : PGsG X C [] gxNil [] := ⟨_, pgs_nil, fun d Γ Γ' e v σ F A H fs r s Q q => by
  unfold gxNil at e
  split at e
  · cases e
    cases r
    exact ⟨rfl, q σ s ⟨rfl, fun _ _ => rfl⟩⟩
  · cases e⟩
theorem tsCons {e : Expr} {es : List Expr} {g : Gx} {r : Gxs} {i1 i2 : List Nat} (h1 : PGG X C e g i1) (h2 : PGsG X C es r i2) (hs : (assignEach (e :: es) X.env).map (·.2) = assign e X.env :: (assignEach es X.env).map (·.2) := by rfl) : PGsG X C (e :: es) (gxCons g r) (i1 ++ i2) := by
  obtain ⟨t, a1, a2⟩ := h1
  obtain ⟨u, b1, b2⟩ := h2
  refine ⟨_, pgs_cons a1 b1 hs, fun d Γ Γ' e v σ F A H fs r s Q q => ?_⟩
  unfold gxCons at e
  split at e
  · obtain ⟨Γ1, e1, e⟩ := bindS e
    obtain ⟨v1, vr, rfl, r1, r2⟩ := r
    refine ⟨v1, vr, rfl, a2 _ Γ Γ1 e1 v1 σ F A H fs r1 s _ fun σ1 s1 o1 => b2 _ Γ1 Γ' e vr σ1 F A H fs r2 s1 Q fun σ2 s2 o2 => q σ2 s2 ⟨o2.1.trans o1.1, fun j hj => ?_⟩⟩
    rw [List.mem_append, not_or] at hj
    exact (o2.2 j hj.2).trans (o1.2 j hj.1)
  · cases e
theorem tTup {es : List Expr} {k n : Nat} {g : Gxs} {idx : List Nat} (hc : X.calm = true) (h : PGsG X C es g idx) (hn : (assignEach es X.env).length = n := by rfl) (hst : (assignEach es X.env).findIdx? (·.1) = none := by rfl) : PGG X C (.Tuple es k pos) (gxTup n g) idx := by
  obtain ⟨t, a1, a2⟩ := h
  refine ⟨_, pg_tup hc a1 hn hst, fun d Γ Γ' e v σ F A H fs r s Q q => ?_⟩
  unfold gxTup at e
  split at e
  · split at e
    · rename_i hl
      obtain ⟨a, vs, rfl, h1, h2⟩ := r
      exact ⟨a, vs, rfl, SqT.of (fs _ _ h1), by rw [← h2.len]; exact hl, a2 _ Γ Γ' e vs σ F A H fs h2 s Q q⟩
    · cases e
  · cases e
def sAsg (g : Gx) (f : Ex) : Sx := fun Γ M => (f Γ M).bind fun d => (g d Γ).bind fun Γ1 => some (.nx Γ1 M)
theorem sAsg_ {tg e : Expr} {g : Gx} {f : Ex} {idx : List Nat} (hg : PGG X C tg g idx) (he : PEG X C e f) (hs : swapsWithSole [tg] e pos.line X.env = pure false := by rfl) (hw : swappedStores [tg] e X.env = pure none := by rfl)
    (h1 : (assignEach [tg] X.env).map (·.2) = [assign tg X.env] := by rfl) : PSG X C W (.Assign [tg] e pos) (sAsg g f) := by
  obtain ⟨t, a1, a2⟩ := he
  obtain ⟨u, b1, b2⟩ := hg
  refine ⟨_, ps_asg a1 b1 hs hw h1, fun Γ M o e σ F A H h s D k => ?_⟩
  obtain ⟨d, e1, e⟩ := bindS e
  obtain ⟨Γ1, e2, e⟩ := bindS e
  cases e
  exact a2 Γ M d e1 σ F A H h s _ fun v F1 H1 g1 r1 => b2 d Γ Γ1 e2 v σ F1 A H1 g1.fh r1 (s.same g1.ff) _ fun σ1 s1 _ => k σ1 F1 A H1 (h.grow g1) s1 g1.step
/-! ### x += e -/
def gAddI (_ : Mem) (x y : D) : Option D := match x, y with
  | .int i, .int j => some (.int (i + j))
  | _, _ => none
def sAug (k : Mem → D → D → Option D) (i : Nat) (f : Ex) : Sx := fun Γ M => (xVar i Γ M).bind fun x => (f Γ M).bind fun y => (k M x y).bind fun z => some (.nx (Γ.set i (some z)) M)
theorem sAug_ {i : Nat} {x : Str} {e : Expr} {op : Operator} {k : Mem → D → D → Option D} {f : Ex} {pos' : Pos} (ho : OpG X C (inplaceOp op) k) (hN : X.N.Nodup) (hi : X.N[i]? = some x) (hx : Loc X.env.scope x) (he : PEG X C e f) (hf : X.fn x = true ∨ X.env.scope.names.lookup x = some .local := by first | exact .inl rfl | exact .inr rfl | assumption) :
    PSG X C W (.AugAssign (.Name x pos') op e pos) (sAug k i f) := by
  obtain ⟨r, o1, o2⟩ := ho
  obtain ⟨t, a1, a2⟩ := he
  refine ⟨_, ps_aug hN hi hx a1 (fun pins s σ H x y v u Q I rx ry h => o1 pins s σ H x y v u Q I rx ry h) hf, fun Γ M o e σ F A H h s D kk => ?_⟩
  obtain ⟨x, q1, e⟩ := bindS e
  obtain ⟨y, q2, e⟩ := bindS e
  obtain ⟨z, q3, e⟩ := bindS e
  cases e
  unfold xVar at q1
  split at q1
  · rename_i d' hd'
    cases q1
    obtain ⟨vx, h1, h2⟩ := s.2 _ _ hd'
    refine ⟨vx, h1, a2 Γ M y q2 σ F A H h s _ fun v F1 H1 g1 r1 => ?_⟩
    refine o2 M _ y z q3 vx v F1 A H1 (h.grow g1) (h2.same g1.ff) r1 _ fun w F2 H2 g2 r2 => ?_
    exact kk _ F2 A H2 ((h.grow g1).grow g2) (((s.same g1.ff).same g2.ff).set r2 i) (g1.trans g2).step
  · cases q1
theorem iAdd : OpG X C (inplaceOp .Add) gAddI := by
  refine ⟨_, iop_add, fun M x y z e vx vy F A H h rx ry Q q => ?_⟩
  unfold gAddI at e
  split at e
  · cases e
    exact ⟨_, _, rx, ry, q _ F H (Grow.refl h.fs) rfl⟩
  · cases e
theorem iSub : OpG X C (inplaceOp .Sub) gSub := by
  refine ⟨_, iop_sub, fun M x y z e vx vy F A H h rx ry Q q => ?_⟩
  unfold gSub at e
  split at e
  · cases e
    exact ⟨_, _, rx, ry, q _ F H (Grow.refl h.fs) rfl⟩
  · cases e
end
/-! ### fields -/
def xFld (f : Str) (a : Ex) : Ex := fun Γ M => (a Γ M).bind fun x => (vI M x).bind fun p => getA p.2 (.s f)
def sFldS (f : Str) (fo fv : Ex) : Sx := fun Γ M => (fv Γ M).bind fun d => (fo Γ M).bind fun x => withLoc M x fun n c => match c with
  | .asc (.ins c) kvs => if kvs.length < 900 then some (.nx Γ (M.set n (some (.asc (.ins c) (putA kvs (.s f) d))))) else none
  | _ => none
/-- putF puts as putA does -/
theorem putF_map {T : GE} {F : Hp} {A : List Addr} {d : D} {v : V} (q : Rep T F A d v) (f : Str) : ∀ {ds : List (DK × D)} {ws : List (Str × V)}, (ws.map (·.1)).Nodup → RepA T F A ds (ws.map fx) → RepA T F A (putA ds (.s f) d) ((putF f v ws).map fx) := by
  have e : ∀ ws : List (Str × V), (ws.map (·.1)).Nodup → putF f v ws = putK ws f v := by
    intro ws
    induction ws with
    | nil => intro _; rfl
    | cons p ws ih =>
      intro hn
      obtain ⟨g, u⟩ := p
      rw [List.map_cons, List.nodup_cons] at hn
      show (if g = f then (g, v) :: ws else (g, u) :: putF f v ws) = putK ((g, u) :: ws) f v
      unfold putK
      rw [List.any_cons, List.map_cons]
      by_cases hg : g = f
      · subst hg
        rw [if_pos rfl, decide_eq_true rfl, Bool.true_or, if_pos rfl, if_pos rfl]
        congr 1
        symm
        have : ∀ p ∈ ws, (if p.1 = g then (p.1, v) else p) = p := fun p hp => if_neg fun z => hn.1 (List.mem_map.mpr ⟨p, hp, z⟩)
        rw [List.map_congr_left this, List.map_id']
      · rw [if_neg hg, decide_eq_false hg, Bool.false_or, if_neg hg, ih hn.2]
        unfold putK
        split
        · rfl
        · rfl
  intro ds ws hn r
  rw [e ws hn]
  exact put_map DK.s (fun _ _ h => by injection h) q f r
end G
set_option Elab.async false
set_option linter.all false
set_option maxRecDepth 100000
set_option maxHeartbeats 4000000
namespace G
open PySem PySem.Spec PyProof.Rows L2
/-! ### what is walked -/
def ItOk (T : GE) (J : It) (F0 : Hp) (A0 : List Addr) (ds : List D) : Prop := ∀ (i : Nat) (M : Mem) (F : Hp) (A : List Addr) (H : Hp), Same F0 F → (∃ B, A = A0 ++ B) → HR T M F A H →
  (ds.length ≤ i → J.stop i H) ∧ ∀ d, ds[i]? = some d → J.go i H ∧ ∀ x H', J.yld i H x H' → ∃ F', Grow F H F' H' ∧ Rep T F' A d x
def TIG (T : GE) (wi : TI) (f : Ax) : Prop := ∀ (Γ : Sl) (M : Mem) (ds : List D), f Γ M = some ds → ∀ (σ : L2.St) (F : Hp) (A : List Addr) (H : Hp), HR T M F A H → SlotR T F A Γ σ →
  ∀ R : It → Hp → Prop, (∀ J F' H', Grow F H F' H' → ItOk T J F' A ds → R J H') → wi σ H R
def PIG (X : Cx) (C : Nat → Addr) (tg iter : Expr) (f : Ax) : Prop := ∃ wi, PI X tg iter wi ∧ TIG ⟨X.K, C⟩ wi f
theorem PI.or {X : Cx} {tg e : Expr} {t u : TI} (h : PI X tg e t) (k : PI X tg e u) : PI X tg e (fun σ H R => t σ H R ∨ u σ H R) :=
  ⟨fun pins s σ H R I w => w.elim (h.run pins s σ H R I) (k.run pins s σ H R I)⟩
theorem Rep.up {T : GE} {F F' : Hp} {A A' : List Addr} {d : D} {v : V} (r : Rep T F A d v) (e : Same F F') (h : ∃ B, A' = A ++ B) : Rep T F' A' d v := by
  obtain ⟨B, rfl⟩ := h
  exact Rep.mono e d v r
/-- a frozen list, a tuple, the script, a text -/
def vF : D → Option (List D)
  | .lst ds => some ds
  | .tup ds => some ds
  | .scr ns => some (ns.map .int)
  | .str x => some (x.cps.toList.map fun c => .str ⟨#[c]⟩)
  | _ => none
def ixL (f : Ex) : Ax := fun Γ M => (f Γ M).bind vF
section
variable {T : GE} {F : Hp} {A : List Addr}
theorem itl_ok {a : Addr} {vs : List V} {ds : List D} (h : SqL T.K F a vs) (r : Reps T F A ds vs) : ItOk T (Itl T.K a) F A ds := fun i M F1 A1 H1 s1 s2 h1 => by
  have q := Same.seq (s1.trans h1.fs) h
  refine ⟨fun hl => ⟨vs, q, by rw [← r.len]; exact hl⟩, fun d e => ?_⟩
  obtain ⟨v, e1, e2⟩ := r.get' e
  refine ⟨⟨vs, v, q, e1⟩, fun x H' y => ?_⟩
  obtain ⟨rfl, y⟩ := y
  have := (y vs q).symm.trans e1
  cases this
  exact ⟨F1, Grow.refl h1.fs, e2.up s1 s2⟩
theorem itt_ok {a : Addr} {vs : List V} {ds : List D} (h : SqT T.K F a vs) (r : Reps T F A ds vs) : ItOk T (Itt T.K a) F A ds := fun i M F1 A1 H1 s1 s2 h1 => by
  have q := Same.sqT (s1.trans h1.fs) h
  refine ⟨fun hl => ⟨vs, q, by rw [← r.len]; exact hl⟩, fun d e => ?_⟩
  obtain ⟨v, e1, e2⟩ := r.get' e
  refine ⟨⟨vs, v, q, e1⟩, fun x H' y => ?_⟩
  obtain ⟨rfl, y⟩ := y
  have := (y vs q).symm.trans e1
  cases this
  exact ⟨F1, Grow.refl h1.fs, e2.up s1 s2⟩
theorem its_ok {z : Str} : ItOk T (Its z) F A (z.cps.toList.map fun c => .str ⟨#[c]⟩) := fun i M F1 A1 H1 s1 s2 h1 => by
  refine ⟨fun hl => by rw [List.length_map, Array.length_toList] at hl; exact hl, fun d e => ?_⟩
  rw [List.getElem?_map, Array.getElem?_toList] at e
  obtain ⟨c, e1, rfl⟩ := Option.map_eq_some_iff.mp e
  refine ⟨(Array.getElem?_eq_some_iff.mp e1).1, fun x H' y => ?_⟩
  obtain ⟨rfl, c', e2, rfl⟩ := y
  rw [e1] at e2
  cases e2
  exact ⟨F1, Grow.refl h1.fs, rfl⟩
end
section
variable {X : Cx} {C : Nat → Addr} {W : WX} {tg e : Expr} {f : Ex} {pos p : Pos}
theorem iL (he : PEG X C e f) : PIG X C tg e (ixL f) := by
  obtain ⟨t, a1, a2⟩ := he
  refine ⟨_, PI.or (PI.or (pi_list a1) (pi_tup a1)) (pi_str a1), fun Γ M ds e σ F A H h s R q => ?_⟩
  obtain ⟨x, e1, e⟩ := bindS e
  unfold vF at e
  split at e
  · cases e
    refine .inl (.inl (a2 Γ M _ e1 σ F A H h s _ fun v F1 H1 g1 r1 => ?_))
    obtain ⟨a, vs, rfl, h1, h2⟩ := r1
    exact ⟨a, rfl, ⟨vs, SqL.of (g1.fh _ _ h1)⟩, q _ F1 H1 g1 (itl_ok (T := ⟨X.K, C⟩) (SqL.of h1) h2)⟩
  · cases e
    refine .inl (.inr (a2 Γ M _ e1 σ F A H h s _ fun v F1 H1 g1 r1 => ?_))
    obtain ⟨a, vs, rfl, h1, h2⟩ := r1
    exact ⟨a, rfl, ⟨vs, SqT.of (g1.fh _ _ h1)⟩, q _ F1 H1 g1 (itt_ok (T := ⟨X.K, C⟩) (SqT.of h1) h2)⟩
  · cases e
    refine .inl (.inl (a2 Γ M _ e1 σ F A H h s _ fun v F1 H1 g1 r1 => ?_))
    obtain ⟨a, rfl, h1⟩ := r1
    exact ⟨a, rfl, ⟨_, Same.seq g1.fh h1⟩, q _ F1 H1 g1 (itl_ok (T := ⟨X.K, C⟩) h1 (reps_ints _))⟩
  · cases e
    refine .inr (a2 Γ M _ e1 σ F A H h s _ fun v F1 H1 g1 r1 => ?_)
    exact ⟨_, r1, q _ F1 H1 g1 its_ok⟩
  · cases e
/-- lo, lo + 1, .. -/
def rngL (lo : Int) (n : Nat) : List D := (List.range n).map fun i => .int (lo + (i : Nat))
def ixR1 (w : Ax) : Ax := fun Γ M => (w Γ M).bind fun xs => match xs with
  | [.int j] => if -1000000 < j ∧ j < 1000000 then some (rngL 0 j.toNat) else none
  | _ => none
def ixR2 (w : Ax) : Ax := fun Γ M => (w Γ M).bind fun xs => match xs with
  | [.int i, .int j] => if -1000000 < i ∧ i < 1000000 ∧ -1000000 < j ∧ j < 1000000 then some (rngL i (j - i).toNat) else none
  | _ => none
theorem itr_ok {T : GE} {F : Hp} {A : List Addr} (lo : Int) (n : Nat) : ItOk T (Itr lo n) F A (rngL lo n) := fun i M F1 A1 H1 s1 s2 h1 => by
  unfold rngL
  refine ⟨fun hl => by rw [List.length_map, List.length_range] at hl; exact hl, fun d e => ?_⟩
  rw [List.getElem?_map] at e
  obtain ⟨c, e1, rfl⟩ := Option.map_eq_some_iff.mp e
  obtain ⟨h2, h3⟩ := List.getElem?_eq_some_iff.mp e1
  rw [List.length_range] at h2
  rw [List.getElem_range] at h3
  subst h3
  refine ⟨h2, fun x H' y => ?_⟩
  obtain ⟨rfl, rfl⟩ := y
  exact ⟨F1, Grow.refl h1.fs, rfl⟩
theorem iR1 {a : Expr} {w : Ax} (hg : Gl X "range") (hm : X.mg "range" = none) (ha : PAG X C [a] w) (hs : starEach [a] X.env = [(false, eval a X.env)] := by rfl) : PIG X C tg (.Call (.Name "range" p) [a] [] pos) (ixR1 w) := by
  obtain ⟨t, a1, a2⟩ := ha
  refine ⟨_, pi_range1 hg hm a1 hs, fun Γ M ds e σ F A H h s R q => ?_⟩
  obtain ⟨xs, e1, e⟩ := bindS e
  split at e
  · split at e
    · rename_i hl
      cases e
      refine a2 Γ M _ e1 σ F A H h s _ fun vs F1 H1 g1 r1 => ?_
      obtain ⟨v, rfl, rv⟩ := r1.inv1
      cases rv
      exact ⟨_, rfl, by omega, by omega, q _ F1 H1 g1 (itr_ok _ _)⟩
    · cases e
  · cases e
theorem iR2 {a b : Expr} {w : Ax} (hg : Gl X "range") (hm : X.mg "range" = none) (ha : PAG X C [a, b] w) (hs : starEach [a, b] X.env = [(false, eval a X.env), (false, eval b X.env)] := by rfl) (hs2 : starEach [b] X.env = [(false, eval b X.env)] := by rfl) :
    PIG X C tg (.Call (.Name "range" p) [a, b] [] pos) (ixR2 w) := by
  obtain ⟨t, a1, a2⟩ := ha
  refine ⟨_, pi_range2 hg hm a1 hs hs2, fun Γ M ds e σ F A H h s R q => ?_⟩
  obtain ⟨xs, e1, e⟩ := bindS e
  split at e
  · split at e
    · rename_i hl
      cases e
      refine a2 Γ M _ e1 σ F A H h s _ fun vs F1 H1 g1 r1 => ?_
      obtain ⟨v, u, rfl, rv, ru⟩ := r1.inv2
      cases rv
      cases ru
      exact ⟨_, _, rfl, ⟨by omega, by omega, by omega, by omega⟩, q _ F1 H1 g1 (itr_ok _ _)⟩
    · cases e
  · cases e
/-- enumerate(xs) -/
def enumL : Nat → List D → List D
  | _, [] => []
  | n, d :: r => .tup [.int n, d] :: enumL (n + 1) r
theorem enumL_get : ∀ (ds : List D) (n i : Nat), (enumL n ds)[i]? = (ds[i]?).map fun d => .tup [.int (n + i : Nat), d]
  | [], n, i => by simp [enumL]
  | d :: ds, n, 0 => by simp [enumL]
  | d :: ds, n, i + 1 => by
    show (enumL (n + 1) ds)[i]? = _
    rw [enumL_get ds (n + 1) i, List.getElem?_cons_succ]
    have : n + 1 + i = n + (i + 1) := by omega
    rw [this]
theorem enumL_len (ds : List D) (n : Nat) : (enumL n ds).length = ds.length := by
  induction ds generalizing n with
  | nil => rfl
  | cons d ds ih => simp [enumL, ih]
def vFL : D → Option (List D)
  | .lst ds => some ds
  | .scr ns => some (ns.map .int)
  | _ => none
def ixE (w : Ax) : Ax := fun Γ M => (w Γ M).bind fun xs => match xs with
  | [x] => (vFL x).map (enumL 0)
  | _ => none
theorem ite_ok {T : GE} {F : Hp} {A : List Addr} {a : Addr} {vs : List V} {ds : List D} (h : SqL T.K F a vs) (r : Reps T F A ds vs) : ItOk T (Ite T.K a) F A (enumL 0 ds) := fun i M F1 A1 H1 s1 s2 h1 => by
  have q := Same.seq (s1.trans h1.fs) h
  refine ⟨fun hl => ⟨vs, q, by rw [enumL_len] at hl; rw [← r.len]; exact hl⟩, fun d e => ?_⟩
  rw [enumL_get] at e
  obtain ⟨d0, e0, rfl⟩ := Option.map_eq_some_iff.mp e
  obtain ⟨v, e1, e2⟩ := r.get' e0
  refine ⟨⟨vs, v, q, e1⟩, fun x H' y => ?_⟩
  obtain ⟨P, x0, rfl, nP, rfl, y⟩ := y
  have := (y vs q).symm.trans e1
  cases this
  refine ⟨_, Grow.new h1.fs nP, Rep.newTup h1.fs nP ⟨_, _, rfl, ?_, Reps.one (e2.up s1 s2)⟩⟩
  show V.int _ = V.int _
  rw [Nat.zero_add]
theorem iE {a : Expr} {w : Ax} {elts : List Expr} {kk : Nat} {tpos : Pos} (hg : Gl X "enumerate") (hm : X.mg "enumerate" = none) (ha : PAG X C [a] w) (hs : starEach [a] X.env = [(false, eval a X.env)] := by rfl) : PIG X C (.Tuple elts kk tpos) (.Call (.Name "enumerate" p) [a] [] pos) (ixE w) := by
  obtain ⟨t, a1, a2⟩ := ha
  refine ⟨_, pi_enum hg hm a1 hs, fun Γ M ds e σ F A H h s R q => ?_⟩
  obtain ⟨xs, e1, e⟩ := bindS e
  split at e
  · obtain ⟨ys, e2, rfl⟩ := Option.map_eq_some_iff.mp e
    refine a2 Γ M _ e1 σ F A H h s _ fun vs F1 H1 g1 r1 => ?_
    obtain ⟨v, rfl, rv⟩ := r1.inv1
    unfold vFL at e2
    split at e2
    · cases e2
      obtain ⟨a, vs, rfl, h1, h2⟩ := rv
      exact ⟨a, vs, rfl, SqL.of (g1.fh _ _ h1), q _ F1 H1 g1 (ite_ok (T := ⟨X.K, C⟩) (SqL.of h1) h2)⟩
    · cases e2
      obtain ⟨a, rfl, h1⟩ := rv
      exact ⟨a, _, rfl, Same.seq g1.fh h1, q _ F1 H1 g1 (ite_ok (T := ⟨X.K, C⟩) h1 (reps_ints _))⟩
    · cases e2
  · cases e
/-- zip(xs, ys) -/
def zipL : List D → List D → List D
  | a :: r, b :: t => .tup [a, b] :: zipL r t
  | _, _ => []
theorem zipL_get : ∀ (ds es : List D) (i : Nat), (zipL ds es)[i]? = (ds[i]?).bind fun d => (es[i]?).map fun e => .tup [d, e]
  | [], es, i => by simp [zipL]
  | d :: ds, [], i => by
    show (none : Option D) = _
    cases (d :: ds)[i]? <;> rfl
  | d :: ds, e :: es, 0 => by simp [zipL]
  | d :: ds, e :: es, i + 1 => by
    show (zipL ds es)[i]? = _
    rw [zipL_get ds es i, List.getElem?_cons_succ, List.getElem?_cons_succ]
theorem zipL_len : ∀ (ds es : List D), (zipL ds es).length = min ds.length es.length
  | [], es => by simp [zipL]
  | d :: ds, [] => by simp [zipL]
  | d :: ds, e :: es => by simp [zipL, zipL_len ds es]
def ixZ (w : Ax) : Ax := fun Γ M => (w Γ M).bind fun xs => match xs with
  | [.lst a, .lst b] => some (zipL a b)
  | _ => none
theorem iZ {a b : Expr} {w : Ax} {elts : List Expr} {kk : Nat} {tpos : Pos} (hg : Gl X "zip") (hm : X.mg "zip" = none) (ha : PAG X C [a, b] w)
    (mk : ∀ {ta : TA}, PA X [a, b] ta → PI X (.Tuple elts kk tpos) (.Call (.Name "zip" p) [a, b] [] pos) (iZip X.K ta)) : PIG X C (.Tuple elts kk tpos) (.Call (.Name "zip" p) [a, b] [] pos) (ixZ w) := by
  obtain ⟨t, a1, a2⟩ := ha
  refine ⟨_, mk a1, fun Γ M ds e σ F A H h s R q => ?_⟩
  obtain ⟨xs, e1, e⟩ := bindS e
  split at e
  · rename_i l1 l2
    cases e
    refine a2 Γ M _ e1 σ F A H h s _ fun vs F1 H1 g1 r1 => ?_
    obtain ⟨v, u, rfl, ⟨a, xs, rfl, h1, h2⟩, ⟨b, ys, rfl, h3, h4⟩⟩ := r1.inv2
    refine ⟨a, b, xs, ys, rfl, SqL.of (g1.fh _ _ h1), SqL.of (g1.fh _ _ h3), q _ F1 H1 g1 fun i M2 F2 A2 H2 s1 s2 h5 => ?_⟩
    have q1 : SqL X.K H2 a xs := SqL.of ((s1.trans h5.fs) _ _ h1)
    have q2 : SqL X.K H2 b ys := SqL.of ((s1.trans h5.fs) _ _ h3)
    refine ⟨fun hl => ⟨xs, ys, q1, q2, ?_⟩, fun d e => ?_⟩
    · rw [zipL_len] at hl
      rw [← h2.len, ← h4.len]
      omega
    · rw [zipL_get] at e
      obtain ⟨d1, e1, e⟩ := bindS e
      obtain ⟨d2, e2, rfl⟩ := Option.map_eq_some_iff.mp e
      obtain ⟨v1, e3, e4⟩ := h2.get' e1
      obtain ⟨v2, e5, e6⟩ := h4.get' e2
      refine ⟨⟨xs, ys, v1, v2, q1, q2, e3, e5⟩, fun x H' y => ?_⟩
      obtain ⟨P, x1, x2, rfl, nP, rfl, y1, y2⟩ := y
      have := (y1 xs q1).symm.trans e3
      cases this
      have := (y2 ys q2).symm.trans e5
      cases this
      exact ⟨_, Grow.new h5.fs nP, Rep.newTup h5.fs nP ⟨_, _, rfl, e4.up s1 s2, Reps.one (e6.up s1 s2)⟩⟩
  · cases e
end
/-! ### for -/
def loopF (g : Gx) (kl : List Nat) (b : Sx) : List D → Sl → Mem → Option Out
  | [], Γ, M => some (.nx Γ M)
  | d :: r, Γ, M => (g d Γ).bind fun Γ1 => (b Γ1 M).bind fun o => match o with
    | .nx Γ2 M2 => loopF g kl b r (kills Γ2 kl) M2
    | .ct Γ2 M2 => loopF g kl b r (kills Γ2 kl) M2
    | .bk Γ2 M2 => some (.nx (kills Γ2 kl) M2)
    | o => some o
def sFor (g : Gx) (kl : List Nat) (it : Ax) (b : Sx) : Sx := fun Γ M => (it Γ M).bind fun ds => loopF g kl b ds (kills Γ kl) M
section
variable {X : Cx} {C : Nat → Addr} {W : WX} {tg iter : Expr} {it : Ax} {g : Gx} {idx kl : List Nat} {body : List Stmt} {b : Sx} {pos : Pos}
theorem sFor_ (kl : List Nat) (hp : PassesOwn (model X.prog X.w) X.A X.env X.xe) (hc : X.calm = true) (hi : PIG X C tg iter it) (hg : PGG X C tg g idx) (hb : PBG X C W body b) (hs : ∀ x, foldedSetIterable iter X.env x = pure x := by intro _; rfl) :
    PSG X C W (.For tg iter body [] pos) (sFor g kl it b) := by
  obtain ⟨wi, i1, i2⟩ := hi
  obtain ⟨tgt, g1, g2⟩ := hg
  obtain ⟨tb, b1, b2⟩ := hb
  refine ⟨_, ps_for hp hc i1 g1 b1 hs, fun Γ M o e σ F A H h s D k => ?_⟩
  obtain ⟨ds, e1, e⟩ := bindS e
  refine i2 Γ M ds e1 σ F A H h s _ fun J F1 H1 gr ok => ?_
  have k1 := k.step gr.step
  refine ⟨fun i m σ H => m = ds.length - i ∧ i ≤ ds.length ∧ ∃ Γ M F A', HR ⟨X.K, C⟩ M F A' H ∧ SlotR ⟨X.K, C⟩ F A' Γ σ ∧ Step F1 A H1 F A' H ∧ loopF g kl b (ds.drop i) Γ M = some o, ⟨ds.length, by simp, Nat.zero_le _, _, M, F1, A, h.grow gr, (s.same gr.ff).kills kl, Step.refl, e⟩, ?_⟩
  rintro i m σ2 H2 ⟨rfl, hi, Γ2, M2, F2, A2, h2, s2, st2, e2⟩
  obtain ⟨B, hB, _⟩ := st2.px
  have itk := ok i M2 F2 A2 H2 st2.ff ⟨B, hB⟩ h2
  by_cases hlt : i < ds.length
  · refine .inr ?_
    have ed : ds[i]? = some ds[i] := by simp [hlt]
    obtain ⟨go, yl⟩ := itk.2 _ ed
    rw [List.drop_eq_getElem_cons hlt] at e2
    obtain ⟨Γ3, e3, e4⟩ := bindS (show (g ds[i] Γ2).bind _ = some o from e2)
    obtain ⟨o5, e5, e6⟩ := bindS e4
    refine ⟨go, fun σ' H' => ∃ Γ M F A', HR ⟨X.K, C⟩ M F A' H' ∧ SlotR ⟨X.K, C⟩ F A' Γ σ' ∧ Step F1 A H1 F A' H' ∧ loopF g kl b (ds.drop (i + 1)) Γ M = some o, fun σ' H' n => ⟨ds.length - (i + 1), by omega, rfl, hlt, n⟩, fun x H3 y => ?_⟩
    obtain ⟨F3, gr3, r3⟩ := yl x H3 y
    have h3 := h2.grow gr3
    refine g2 _ Γ2 Γ3 e3 x σ2 F3 A2 H3 h3.fs r3 (s2.same gr3.ff) _ fun σ3 s3 _ => ?_
    refine b2 Γ3 M2 o5 e5 σ3 F3 A2 H3 h3 s3 _ ?_
    have st3 := st2.trans gr3.step
    cases o5 with
    | nx Γ6 M6 => exact fun σ6 F6 A6 H6 h6 s6 st6 => ⟨_, M6, F6, A6, h6, s6.kills kl, st3.trans st6, e6⟩
    | ct Γ6 M6 => exact fun σ6 F6 A6 H6 h6 s6 st6 => ⟨_, M6, F6, A6, h6, s6.kills kl, st3.trans st6, e6⟩
    | bk Γ6 M6 =>
      cases e6
      exact fun σ6 F6 A6 H6 h6 s6 st6 => k1 σ6 F6 A6 H6 h6 (s6.kills kl) (st3.trans st6)
    | rt d M6 =>
      cases e6
      exact fun v F6 A6 H6 h6 r6 st6 => k1 v F6 A6 H6 h6 r6 (st3.trans st6)
    | ex x6 Γ6 M6 =>
      cases e6
      exact fun c dd σ6 F6 A6 H6 h6 s6 x6 st6 => k1 c dd σ6 F6 A6 H6 h6 s6 x6 (st3.trans st6)
  · have : i = ds.length := by omega
    subst this
    refine .inl ⟨itk.1 (Nat.le_refl _), ?_⟩
    rw [List.drop_length] at e2
    cases e2
    exact k1 σ2 F2 A2 H2 h2 s2 st2
/-! ### while -/
def whileF (c : Tx) (kl : List Nat) (b : Sx) : Nat → Sl → Mem → Option Out
  | 0, _, _ => none
  | n + 1, Γ, M => (c Γ M).bind fun k => if k = true then (b Γ M).bind fun o => match o with
      | .nx Γ2 M2 => whileF c kl b n (kills Γ2 kl) M2
      | .ct Γ2 M2 => whileF c kl b n (kills Γ2 kl) M2
      | .bk Γ2 M2 => some (.nx (kills Γ2 kl) M2)
      | o => some o
    else some (.nx Γ M)
def sWhile (n : Nat) (c : Tx) (kl : List Nat) (b : Sx) : Sx := fun Γ M => whileF c kl b n (kills Γ kl) M
theorem sWhile_ (n : Nat) (kl : List Nat) {c : Expr} {p : Tx} (hp : PassesOwn (model X.prog X.w) X.A X.env X.xe) (hc : PTG X C c p) (hb : PBG X C W body b) : PSG X C W (.While c body [] pos) (sWhile n p kl b) := by
  obtain ⟨tc, c1, c2⟩ := hc
  obtain ⟨tb, b1, b2⟩ := hb
  refine ⟨_, ps_while hp c1 b1, fun Γ M o e σ F A H h s D k => ?_⟩
  refine ⟨fun m σ2 H2 => ∃ Γ2 M2 F2 A2, HR ⟨X.K, C⟩ M2 F2 A2 H2 ∧ SlotR ⟨X.K, C⟩ F2 A2 Γ2 σ2 ∧ Step F A H F2 A2 H2 ∧ whileF p kl b m Γ2 M2 = some o, ⟨n, _, M, F, A, h, s.kills kl, Step.refl, e⟩, ?_⟩
  rintro m σ2 H2 ⟨Γ2, M2, F2, A2, h2, s2, st2, e2⟩
  cases m with
  | zero => cases e2
  | succ m =>
    obtain ⟨x, e3, e4⟩ := bindS (show (p Γ2 M2).bind _ = some o from e2)
    refine c2 Γ2 M2 x e3 σ2 F2 A2 H2 h2 s2 _ fun F3 H3 g3 => ?_
    cases x with
    | false =>
      rw [if_neg Bool.false_ne_true]
      cases e4
      exact k σ2 F3 A2 H3 (h2.grow g3) (s2.same g3.ff) (st2.trans g3.step)
    | true =>
      rw [if_pos rfl]
      rw [if_pos rfl] at e4
      obtain ⟨o5, e5, e6⟩ := bindS e4
      refine ⟨fun σ' H' => ∃ Γ2 M2 F2 A2, HR ⟨X.K, C⟩ M2 F2 A2 H' ∧ SlotR ⟨X.K, C⟩ F2 A2 Γ2 σ' ∧ Step F A H F2 A2 H' ∧ whileF p kl b m Γ2 M2 = some o, fun σ' H' z => ⟨m, Nat.lt_succ_self m, z⟩, ?_⟩
      have h3 := h2.grow g3
      have st3 := st2.trans (g3.step (A := A2))
      refine b2 Γ2 M2 o5 e5 σ2 F3 A2 H3 h3 (s2.same g3.ff) _ ?_
      cases o5 with
      | nx Γ6 M6 => exact fun σ6 F6 A6 H6 h6 s6 st6 => ⟨_, M6, F6, A6, h6, s6.kills kl, st3.trans st6, e6⟩
      | ct Γ6 M6 => exact fun σ6 F6 A6 H6 h6 s6 st6 => ⟨_, M6, F6, A6, h6, s6.kills kl, st3.trans st6, e6⟩
      | bk Γ6 M6 =>
        cases e6
        exact fun σ6 F6 A6 H6 h6 s6 st6 => k σ6 F6 A6 H6 h6 (s6.kills kl) (st3.trans st6)
      | rt d M6 =>
        cases e6
        exact fun v F6 A6 H6 h6 r6 st6 => k v F6 A6 H6 h6 r6 (st3.trans st6)
      | ex x6 Γ6 M6 =>
        cases e6
        exact fun c dd σ6 F6 A6 H6 h6 s6 x6 st6 => k c dd σ6 F6 A6 H6 h6 s6 x6 (st3.trans st6)
end
end G
set_option Elab.async false
set_option linter.all false
set_option maxRecDepth 100000
set_option maxHeartbeats 4000000
namespace G
open PySem PySem.Spec PyProof.Rows L2
/-! ### list comprehensions -/
theorem wipe_in {σ : L2.St} {j : Nat} : ∀ {vs : List Nat}, j ∈ vs → j < σ.length → (wipe σ vs)[j]? = some none
  | [], h, _ => by cases h
  | v :: vs, h, hl => by
    show ((wipe σ vs).set v none)[j]? = some none
    by_cases hv : v = j
    · subst hv
      rw [List.getElem?_set_self (by rw [wipe_length]; exact hl)]
    · rw [List.getElem?_set_ne hv]
      rcases List.mem_cons.mp h with z | z
      · exact absurd z.symm hv
      · exact wipe_in z hl
theorem wipe_same {σ σ2 : L2.St} {vs idx : List Nat} (hi : ∀ i ∈ idx, i ∈ vs) (o : Only_ idx (wipe σ vs) σ2) : wipe σ2 vs = wipe σ vs := by
  have hl : σ2.length = σ.length := o.1.trans (wipe_length σ vs)
  refine List.ext_getElem? fun j => ?_
  by_cases hj : j ∈ vs
  · by_cases hlt : j < σ.length
    · rw [wipe_in hj hlt, wipe_in hj (by rw [hl]; exact hlt)]
    · rw [List.getElem?_eq_none (by rw [wipe_length, hl]; omega), List.getElem?_eq_none (by rw [wipe_length]; omega)]
  · rw [wipe_out hj]
    exact o.2 j fun z => hj (hi j z)
theorem kills_some {Γ : Sl} {j : Nat} {d : D} : ∀ {vs : List Nat}, (kills Γ vs)[j]? = some (some d) → Γ[j]? = some (some d) ∧ j ∉ vs
  | [], h => ⟨h, by simp⟩
  | v :: vs, h => by
    have h' : ((kills Γ vs).set v none)[j]? = some (some d) := h
    by_cases hv : v = j
    · subst hv
      have hl := (List.getElem?_eq_some_iff.mp h').1
      rw [List.length_set] at hl
      rw [List.getElem?_set_self hl] at h'
      cases h'
    · rw [List.getElem?_set_ne hv] at h'
      obtain ⟨h1, h2⟩ := kills_some h'
      exact ⟨h1, by simp only [List.mem_cons, not_or]; exact ⟨fun e => hv e.symm, h2⟩⟩
theorem kills_len (Γ : Sl) : ∀ vs : List Nat, (kills Γ vs).length = Γ.length
  | [] => rfl
  | v :: vs => by
    show ((kills Γ vs).set v none).length = _
    rw [List.length_set, kills_len Γ vs]
theorem SlotR.wipe {T : GE} {F : Hp} {A : List Addr} {Γ : Sl} {σ : L2.St} (s : SlotR T F A Γ σ) (vs : List Nat) : SlotR T F A (G.kills Γ vs) (L2.wipe σ vs) := by
  refine ⟨by rw [kills_len, wipe_length]; exact s.1, fun j d q => ?_⟩
  obtain ⟨h1, h2⟩ := kills_some q
  rw [wipe_out h2]
  exact s.2 j d h1
def lcF (g : Gx) (t : Tx) (f : Ex) (Γ : Sl) (M : Mem) : List D → Option (List D)
  | [] => some []
  | d :: r => (g d Γ).bind fun Γ1 => (t Γ1 M).bind fun k => if k = true then (f Γ1 M).bind fun y => (lcF g t f Γ M r).map (y :: ·) else lcF g t f Γ M r
def tYes_ : Tx := fun _ _ => some true
def xLc (g : Gx) (own : List Nat) (it : Ax) (t : Tx) (f : Ex) : Ex := fun Γ M => (it Γ M).bind fun ds => if ds.length ≤ 1000000 then (lcF g t f (kills Γ own) M ds).map .lst else none
theorem lcF_len (g : Gx) (t : Tx) (f : Ex) (Γ : Sl) (M : Mem) : ∀ (ds ys : List D), lcF g t f Γ M ds = some ys → ys.length ≤ ds.length
  | [], ys, e => by cases e; simp
  | d :: r, ys, e => by
    obtain ⟨Γ1, e1, e⟩ := bindS (show (g d Γ).bind _ = some ys from e)
    obtain ⟨k, e2, e⟩ := bindS e
    split at e
    · obtain ⟨y, e3, e⟩ := bindS e
      obtain ⟨zs, e4, rfl⟩ := Option.map_eq_some_iff.mp e
      have := lcF_len g t f Γ M r zs e4
      simp only [List.length_cons]
      omega
    · have := lcF_len g t f Γ M r ys e
      simp only [List.length_cons]
      omega
/-- an object that is neither frozen nor own may change -/
theorem HR.other {T : GE} {M : Mem} {F H : Hp} {A : List Addr} (h : HR T M F A H) {p : Addr} {o : HO} (np : F p = none) (nA : p ∉ A) : HR T M F A (upd H p o) := by
  have ne : ∀ {a : Addr}, a ∈ A → a ≠ p := fun ha e => nA (by rw [← e]; exact ha)
  refine ⟨fun b u q => ?_, h.nd, h.len, h.fr, fun n c a e1 e2 => ?_, fun a ha => ?_, h.dd⟩
  · have : b ≠ p := ne_of_none q np
    rw [upd_ne this]
    exact h.fs b u q
  · have ha := ne (List.mem_of_getElem? e2)
    have := h.mem n c a e1 e2
    cases c with
    | lst ds => obtain ⟨vs, z1, z2⟩ := this; exact ⟨vs, by rw [upd_ne ha]; exact z1, z2⟩
    | asc kk kvs => obtain ⟨vs, z1, z2⟩ := this; exact ⟨vs, z1.other ha, z2⟩
    | _ => exact this.elim
  · obtain ⟨u, z⟩ := h.al a ha
    exact ⟨u, by rw [upd_ne (ne ha)]; exact z⟩
def PTsG (X : Cx) (C : Nat → Addr) (es : List Expr) (f : Tx) : Prop := ∃ t, PTs X es t ∧ TTG ⟨X.K, C⟩ t f
section
variable {X : Cx} {C : Nat → Addr} {W : WX}
theorem gtsNil : PTsG X C [] tYes_ := ⟨_, pts_nil, fun Γ M d e σ F A H h s Q q => by cases e; exact q F H (Grow.refl h.fs)⟩
theorem gtsOne {c : Expr} {p : Tx} (h : PTG X C c p) : PTsG X C [c] p := let ⟨t, a, b⟩ := h; ⟨t, pts_one a, b⟩
theorem tLc_g {T : GE} {wi : TI} {tg : TG} {tt : TT} {te : TE} {it : Ax} {g : Gx} {t : Tx} {f : Ex} {idx own : List Nat} (hi : TIG T wi it) (hg : TGG T tg g idx) (ht : TTG T tt t) (he : TEG T te f) (hx : ∀ i ∈ idx, i ∈ own) :
    TNG T (tLc wi tg tt te own) (xLc g own it t f) := by
  intro Γ M d e σ F A H h s Q q
  obtain ⟨ds, e1, e⟩ := bindS e
  split at e
  · rename_i hlen
    obtain ⟨ys, e2, rfl⟩ := Option.map_eq_some_iff.mp e
    refine hi Γ M ds e1 σ F A H h s _ fun J F1 H1 gr ok => ?_
    intro P hP
    have h1 := h.grow gr
    have nF : F1 P = none := gr.fh.free hP
    have nA : P ∉ A := fun z => by
      obtain ⟨o, w⟩ := h1.al P z
      rw [hP] at w
      cases w
    have s1 := (s.same gr.ff).wipe own
    refine ⟨fun i m H2 => m = ds.length - i ∧ i ≤ ds.length ∧ ∃ F2 zs acc, Same F1 F2 ∧ Same H1 H2 ∧ (∀ p o, H1 p = some o → F1 p = none → F2 p = none) ∧ F2 P = none ∧ H2 P = some (.lst acc) ∧ HR T M F2 A H2 ∧ Reps T F2 A zs acc ∧ zs.length ≤ i ∧ ∃ rs, lcF g t f (kills Γ own) M (ds.drop i) = some rs ∧ ys = zs ++ rs,
      ⟨ds.length, by simp, Nat.zero_le _, F1, [], [], Same.refl _, same_new hP, fun _ _ _ z => z, nF, upd_same, h1.other nF nA, rfl, Nat.le_refl _, ys, e2, rfl⟩, ?_⟩
    rintro i m H2 ⟨rfl, hil, F2, zs, acc, f12, h12, nf, nP, hacc, h2, rz, zl, rs, e3, rfl⟩
    have itk := ok i M F2 A H2 f12 ⟨[], by simp⟩ h2
    by_cases hlt : i < ds.length
    · refine .inr ?_
      have ed : ds[i]? = some ds[i] := by simp [hlt]
      obtain ⟨go, yl⟩ := itk.2 _ ed
      rw [List.drop_eq_getElem_cons hlt] at e3
      obtain ⟨Γ3, e4, e5⟩ := bindS (show (g ds[i] (kills Γ own)).bind _ = some rs from e3)
      obtain ⟨k, e6, e7⟩ := bindS e5
      refine ⟨go, fun H' => ∃ F2 zs acc, Same F1 F2 ∧ Same H1 H' ∧ (∀ p o, H1 p = some o → F1 p = none → F2 p = none) ∧ F2 P = none ∧ H' P = some (.lst acc) ∧ HR T M F2 A H' ∧ Reps T F2 A zs acc ∧ zs.length ≤ i + 1 ∧ ∃ rs', lcF g t f (kills Γ own) M (ds.drop (i + 1)) = some rs' ∧ _ = zs ++ rs', fun H' n => ⟨ds.length - (i + 1), by omega, rfl, hlt, n⟩, fun x H3 y => ?_⟩
      obtain ⟨F3, gr3, r3⟩ := yl x H3 y
      have h3 := h2.grow gr3
      refine hg _ (kills Γ own) Γ3 e4 x (wipe σ own) F3 A H3 h3.fs r3 ((s1.same f12).same gr3.ff) _ fun σ3 s3 o3 => ⟨wipe_same hx o3, ?_⟩
      refine ht Γ3 M k e6 σ3 F3 A H3 h3 s3 _ fun F4 H4 gr4 => ?_
      have h4 := h3.grow gr4
      have g34 := gr3.trans gr4
      cases k with
      | true =>
        rw [if_pos rfl]
        rw [if_pos rfl] at e7
        obtain ⟨y0, e8, e9⟩ := bindS e7
        obtain ⟨rs', e10, rfl⟩ := Option.map_eq_some_iff.mp e9
        refine he Γ3 M y0 e8 σ3 F4 A H4 h4 (s3.same gr4.ff) _ fun v F5 H5 gr5 r5 => ?_
        have g35 := g34.trans gr5
        have h5 := h4.grow gr5
        have nP5 : F5 P = none := g35.nf P _ hacc nP
        refine ⟨acc, g35.hh _ _ hacc, ?_, F5, zs ++ [y0], acc ++ [v], f12.trans g35.ff, ?_, fun p o a b => g35.nf p o (h12 p o a) (nf p o a b), nP5, upd_same, h5.other nP5 nA, (rz.same g35.ff).append (Reps.one r5), by rw [List.length_append, List.length_singleton]; omega, rs', e10, by rw [List.append_assoc]; rfl⟩
        · rw [← rz.len]
          exact Nat.lt_of_lt_of_le (show zs.length < 1000001 by omega) (by decide)
        · intro b u hb
          rw [upd_ne (ne_of_none hb hP)]
          exact g35.hh b u (h12 b u hb)
      | false =>
        rw [if_neg Bool.false_ne_true]
        rw [if_neg Bool.false_ne_true] at e7
        exact ⟨F4, zs, acc, f12.trans g34.ff, h12.trans g34.hh, fun p o a b => g34.nf p o (h12 p o a) (nf p o a b), g34.nf P _ hacc nP, g34.hh _ _ hacc, h4, rz.same g34.ff, by omega, rs, e7, rfl⟩
    · have : i = ds.length := by omega
      subst this
      refine .inl ⟨itk.1 (Nat.le_refl _), ?_⟩
      rw [List.drop_length] at e3
      cases e3
      rw [List.append_nil] at q
      refine q P F2 H2 ⟨gr.ff.trans f12, h2.fs, gr.hh.trans h12, fun p o a b => nf p o (gr.hh p o a) (gr.nf p o a b)⟩ nP (gr.hh.free hP) ⟨acc, hacc, rz⟩
  · cases e
theorem nLc {elt tg iter : Expr} {ifs : List Expr} {scope : Scope} (own : List (Str × Nat)) {pos : Pos} {it : Ax} {g : Gx} {t : Tx} {f : Ex} {idx : List Nat} (hc : X.calm = true) (hN : X.N.Nodup) (hi : PIG X C tg iter it) (ok : BlkOk X.N X.env.scope scope own)
    (hg : ∀ (s : Shared) (H : Hp) (c : Addr) (cl : List (Str × Addr)) (fp : List Addr), PGG (X.blk s H scope (compEnvC scope cl c X.env) fp) C tg g idx)
    (ht : ∀ (s : Shared) (H : Hp) (c : Addr) (cl : List (Str × Addr)) (fp : List Addr), PTsG (X.blk s H scope (compEnvC scope cl c X.env) fp) C ifs t)
    (he : ∀ (s : Shared) (H : Hp) (c : Addr) (cl : List (Str × Addr)) (fp : List Addr), PEG (X.blk s H scope (compEnvC scope cl c X.env) fp) C elt f) (hx : ∀ i ∈ idx, i ∈ own.map (·.2)) (hs : ∀ x, foldedSetIterable iter X.env x = pure x := by intro _; rfl) :
    ∃ wi tgt tt te, PE X (.ListComp elt [⟨tg, iter, ifs, 0⟩] scope pos) (tLc wi tgt tt te (own.map (·.2))) ∧ TNG ⟨X.K, C⟩ (tLc wi tgt tt te (own.map (·.2))) (xLc g (own.map (·.2)) it t f) ∧
      ∀ {i : Nat} {y : Str} {py spos : Pos}, X.N[i]? = some y → X.env.scope.names.lookup y = some .local → swapsWith (.ListComp elt [⟨tg, iter, ifs, 0⟩] scope pos) (some (.Name y py)) spos.line X.env = pure true →
        PS X (.Assign [.Name y py] (.ListComp elt [⟨tg, iter, ifs, 0⟩] scope pos) spos) (tAsg (tLc wi tgt tt te (own.map (·.2))) (gName i)) := by
  obtain ⟨wi, i1, i2⟩ := hi
  have hg1 : ∀ (s : Shared) (H : Hp) (c : Addr) (cl : List (Str × Addr)) (fp : List Addr), PG (X.blk s H scope (compEnvC scope cl c X.env) fp) tg (fun v σ H Q => ∀ s H0 c cl fp, Classical.choose (hg s H0 c cl fp) v σ H Q) :=
    fun s H c cl fp => ⟨fun pins s' σ H' v u Q I r h => (Classical.choose_spec (hg s H c cl fp)).1.run pins s' σ H' v u Q I r (h s H c cl fp)⟩
  have ht1 : ∀ (s : Shared) (H : Hp) (c : Addr) (cl : List (Str × Addr)) (fp : List Addr), PTs (X.blk s H scope (compEnvC scope cl c X.env) fp) ifs (fun σ H Q => ∀ s H0 c cl fp, Classical.choose (ht s H0 c cl fp) σ H Q) :=
    fun s H c cl fp => ⟨fun pins s' σ H' Q I h => (Classical.choose_spec (ht s H c cl fp)).1.run pins s' σ H' Q I (h s H c cl fp)⟩
  have he1 : ∀ (s : Shared) (H : Hp) (c : Addr) (cl : List (Str × Addr)) (fp : List Addr), PE (X.blk s H scope (compEnvC scope cl c X.env) fp) elt (fun σ H Q => ∀ s H0 c cl fp, Classical.choose (he s H0 c cl fp) σ H Q) :=
    fun s H c cl fp => ⟨fun pins s' σ H' Q I h => (Classical.choose_spec (he s H c cl fp)).1.run pins s' σ H' Q I (h s H c cl fp)⟩
  refine ⟨wi, _, _, _, pe_lc hc hN i1 ok hg1 ht1 he1 hs, tLc_g i2 ?_ ?_ ?_ hx, fun hy hyl hsw => ps_setLc hc hN hy hyl hsw i1 ok hg1 ht1 he1 hs⟩
  · exact fun d Γ Γ' e v σ F A H fs r s Q q s0 H0 c cl fp => (Classical.choose_spec (hg s0 H0 c cl fp)).2 d Γ Γ' e v σ F A H fs r s Q q
  · exact fun Γ M d e σ F A H h s Q q s0 H0 c cl fp => (Classical.choose_spec (ht s0 H0 c cl fp)).2 Γ M d e σ F A H h s Q q
  · exact fun Γ M d e σ F A H h s Q q s0 H0 c cl fp => (Classical.choose_spec (he s0 H0 c cl fp)).2 Γ M d e σ F A H h s Q q
section
variable {elt tg iter : Expr} {ifs : List Expr} {scope : Scope} {own : List (Str × Nat)} {pos : Pos} {it : Ax} {g : Gx} {t : Tx} {f : Ex} {idx : List Nat}
/-- as a value, frozen -/
theorem gLc (own : List (Str × Nat)) (hc : X.calm = true) (hN : X.N.Nodup) (hi : PIG X C tg iter it) (ok : BlkOk X.N X.env.scope scope own)
    (hg : ∀ (s : Shared) (H : Hp) (c : Addr) (cl : List (Str × Addr)) (fp : List Addr), PGG (X.blk s H scope (compEnvC scope cl c X.env) fp) C tg g idx)
    (ht : ∀ (s : Shared) (H : Hp) (c : Addr) (cl : List (Str × Addr)) (fp : List Addr), PTsG (X.blk s H scope (compEnvC scope cl c X.env) fp) C ifs t)
    (he : ∀ (s : Shared) (H : Hp) (c : Addr) (cl : List (Str × Addr)) (fp : List Addr), PEG (X.blk s H scope (compEnvC scope cl c X.env) fp) C elt f) (hx : ∀ i ∈ idx, i ∈ own.map (·.2)) (hs : ∀ x, foldedSetIterable iter X.env x = pure x := by intro _; rfl) :
    PEG X C (.ListComp elt [⟨tg, iter, ifs, 0⟩] scope pos) (xLc g (own.map (·.2)) it t f) := by
  obtain ⟨_, _, _, _, h1, h2, _⟩ := nLc (pos := pos) own hc hN hi ok hg ht he hx hs
  exact ⟨_, h1, h2.frz⟩
/-- y = [..], frozen -/
theorem sSetLc_ (own : List (Str × Nat)) {i : Nat} {y : Str} {py spos : Pos} (hc : X.calm = true) (hN : X.N.Nodup) (hy : X.N[i]? = some y) (hyl : X.env.scope.names.lookup y = some .local) (hsw : swapsWith (.ListComp elt [⟨tg, iter, ifs, 0⟩] scope pos) (some (.Name y py)) spos.line X.env = pure true) (hi : PIG X C tg iter it) (ok : BlkOk X.N X.env.scope scope own)
    (hg : ∀ (s : Shared) (H : Hp) (c : Addr) (cl : List (Str × Addr)) (fp : List Addr), PGG (X.blk s H scope (compEnvC scope cl c X.env) fp) C tg g idx)
    (ht : ∀ (s : Shared) (H : Hp) (c : Addr) (cl : List (Str × Addr)) (fp : List Addr), PTsG (X.blk s H scope (compEnvC scope cl c X.env) fp) C ifs t)
    (he : ∀ (s : Shared) (H : Hp) (c : Addr) (cl : List (Str × Addr)) (fp : List Addr), PEG (X.blk s H scope (compEnvC scope cl c X.env) fp) C elt f) (hx : ∀ i ∈ idx, i ∈ own.map (·.2)) (hs : ∀ x, foldedSetIterable iter X.env x = pure x := by intro _; rfl) :
    PSG X C W (.Assign [.Name y py] (.ListComp elt [⟨tg, iter, ifs, 0⟩] scope pos) spos) (sSet i (xLc g (own.map (·.2)) it t f)) := by
  obtain ⟨_, _, _, _, h1, h2, h3⟩ := nLc (pos := pos) own hc hN hi ok hg ht he hx hs
  refine ⟨_, h3 hy hyl hsw, fun Γ M o e σ F A H h s D k => ?_⟩
  obtain ⟨d, e1, e⟩ := bindS e
  cases e
  exact h2.frz Γ M d e1 σ F A H h s _ fun v F1 H1 g1 r1 => k _ F1 A H1 (h.grow g1) ((s.same g1.ff).set r1 i) g1.step
/-- y = [..], own -/
theorem sNewLc_ (own : List (Str × Nat)) {i : Nat} {y : Str} {py spos : Pos} (hc : X.calm = true) (hN : X.N.Nodup) (hy : X.N[i]? = some y) (hyl : X.env.scope.names.lookup y = some .local) (hsw : swapsWith (.ListComp elt [⟨tg, iter, ifs, 0⟩] scope pos) (some (.Name y py)) spos.line X.env = pure true) (hi : PIG X C tg iter it) (ok : BlkOk X.N X.env.scope scope own)
    (hg : ∀ (s : Shared) (H : Hp) (c : Addr) (cl : List (Str × Addr)) (fp : List Addr), PGG (X.blk s H scope (compEnvC scope cl c X.env) fp) C tg g idx)
    (ht : ∀ (s : Shared) (H : Hp) (c : Addr) (cl : List (Str × Addr)) (fp : List Addr), PTsG (X.blk s H scope (compEnvC scope cl c X.env) fp) C ifs t)
    (he : ∀ (s : Shared) (H : Hp) (c : Addr) (cl : List (Str × Addr)) (fp : List Addr), PEG (X.blk s H scope (compEnvC scope cl c X.env) fp) C elt f) (hx : ∀ i ∈ idx, i ∈ own.map (·.2)) (hs : ∀ x, foldedSetIterable iter X.env x = pure x := by intro _; rfl) :
    PSG X C W (.Assign [.Name y py] (.ListComp elt [⟨tg, iter, ifs, 0⟩] scope pos) spos) (sNew i (xLc g (own.map (·.2)) it t f)) := by
  obtain ⟨_, _, _, _, h1, h2, h3⟩ := nLc (pos := pos) own hc hN hi ok hg ht he hx hs
  refine ⟨_, h3 hy hyl hsw, fun Γ M o e σ F A H h s D k => ?_⟩
  obtain ⟨d, e1, e⟩ := bindS e
  cases e
  refine h2 Γ M d e1 σ F A H h s _ fun p F1 H1 g1 np hp kk => ?_
  obtain ⟨h1, s1, r1⟩ := nAdd h g1 np hp kk
  exact k _ F1 _ H1 h1 ((s1.slots s).set r1 i) s1
end
end
/-! ### an own thing is frozen -/
mutual
def locFree : D → Bool
  | .tup ds => locFrees ds
  | .lst ds => locFrees ds
  | .asc _ kvs => locFreeA kvs
  | .loc _ => false
  | .non => true
  | .bl _ => true
  | .int _ => true
  | .str _ => true
  | .scr _ => true
  | .ty _ => true
  | .cls _ => true
  | .exc _ _ => true
def locFrees : List D → Bool
  | [] => true
  | d :: r => locFree d && locFrees r
def locFreeA : List (DK × D) → Bool
  | [] => true
  | (_, d) :: r => locFree d && locFreeA r
end
section
variable {T : GE} {F : Hp} {A A' : List Addr}
mutual
theorem Rep.noLoc : ∀ (d : D) (v : V), locFree d = true → Rep T F A d v → Rep T F A' d v
  | .non, _, _, h => h
  | .bl _, _, _, h => h
  | .int _, _, _, h => h
  | .str _, _, _, h => h
  | .scr _, _, _, h => h
  | .ty _, _, _, h => h
  | .cls _, _, _, h => h
  | .exc _ _, _, _, h => h
  | .tup ds, v, l, ⟨a, vs, h1, h2, h3⟩ => ⟨a, vs, h1, h2, Reps.noLoc ds vs l h3⟩
  | .lst ds, v, l, ⟨a, vs, h1, h2, h3⟩ => ⟨a, vs, h1, h2, Reps.noLoc ds vs l h3⟩
  | .asc k kvs, v, l, ⟨a, vs, h1, h2, h3⟩ => ⟨a, vs, h1, h2, RepA.noLoc kvs vs l h3⟩
  | .loc n, v, l, _ => by cases l
theorem Reps.noLoc : ∀ (ds : List D) (vs : List V), locFrees ds = true → Reps T F A ds vs → Reps T F A' ds vs
  | [], _, _, h => h
  | d :: ds, _, l, ⟨v, r, h1, h2, h3⟩ => by
    obtain ⟨l1, l2⟩ := Bool.and_eq_true_iff.mp (show (locFree d && locFrees ds) = true from l)
    exact ⟨v, r, h1, Rep.noLoc d v l1 h2, Reps.noLoc ds r l2 h3⟩
theorem RepA.noLoc : ∀ (ds : List (DK × D)) (vs : List (DK × V)), locFreeA ds = true → RepA T F A ds vs → RepA T F A' ds vs
  | [], _, _, h => h
  | (k, d) :: ds, _, l, ⟨v, r, h1, h2, h3⟩ => by
    obtain ⟨l1, l2⟩ := Bool.and_eq_true_iff.mp (show (locFree d && locFreeA ds) = true from l)
    exact ⟨v, r, h1, Rep.noLoc d v l1 h2, RepA.noLoc ds r l2 h3⟩
end
theorem locFree_cont {H : Hp} {c : D} {a : Addr} (l : locFree c = true) (k : Cont T F A H c a) : Cont T F A' H c a := by
  cases c with
  | lst ds => obtain ⟨vs, h1, h2⟩ := k; exact ⟨vs, h1, Reps.noLoc _ _ l h2⟩
  | asc kk kvs => obtain ⟨vs, h1, h2⟩ := k; exact ⟨vs, h1, RepA.noLoc _ _ l h2⟩
  | _ => exact k.elim
end
/-- the thing at n is frozen from here on -/
theorem HR.freeze {T : GE} {M : Mem} {F H : Hp} {A : List Addr} (h : HR T M F A H) {n : Nat} {c : D} (e : M[n]? = some (some c)) : ∃ a F', A[n]? = some a ∧ HR T (M.set n none) F' A H ∧ Step F A H F' A H ∧ Rep T F' A c (.ref a) := by
  have hn : n < M.length := (List.getElem?_eq_some_iff.mp e).1
  have hnA : n < A.length := by rw [h.len]; exact hn
  have e2 : A[n]? = some A[n] := by simp [hnA]
  obtain ⟨F', s1, s2, s3, r⟩ := (h.mem n c _ e e2).freeze h.fs (h.fr n c _ e e2)
  obtain ⟨o, ho⟩ := (h.mem n c _ e e2).there
  have ne : ∀ {m : Nat} {b : Addr}, m ≠ n → A[m]? = some b → b ≠ A[n] := fun {m b} hm q z => hm (nodup_at h.nd q (by rw [e2, z]))
  have live : ∀ {m : Nat} {d : D}, (M.set n none)[m]? = some (some d) → m ≠ n ∧ M[m]? = some (some d) := fun {m d} q => by
    by_cases hm : m = n
    · subst hm
      rw [List.getElem?_set_self hn] at q
      cases q
    · rw [List.getElem?_set_ne (Ne.symm hm)] at q
      exact ⟨hm, q⟩
  have hF : F' A[n] ≠ none := fun z => by
    cases c with
    | lst ds => obtain ⟨a, vs, q, q2, _⟩ := r; cases q; rw [z] at q2; cases q2
    | asc k kvs =>
      obtain ⟨a, vs, q, q2, _⟩ := r
      cases q
      cases k with
      | k => obtain ⟨ws, q2, _⟩ := q2; rw [z] at q2; cases q2
      | t => obtain ⟨ws, q2, _⟩ := q2; rw [z] at q2; cases q2
      | ins c => obtain ⟨dx, ws, q2, _⟩ := q2; rw [z] at q2; cases q2
    | _ => exact (h.mem n _ _ e e2).elim
  refine ⟨A[n], F', e2, ⟨s1, h.nd, by rw [List.length_set]; exact h.len, fun m d b q1 q2 => ?_, fun m d b q1 q2 => ?_, h.al, fun m b q1 q2 z => ?_⟩, ⟨s2, fun _ _ q _ => q, fun p u q np z => ?_, [], by simp, fun _ z => by cases z⟩, r⟩
  · obtain ⟨hm, q⟩ := live q1
    rw [s3 b (ne hm q2)]
    exact h.fr m d b q q2
  · obtain ⟨hm, q⟩ := live q1
    have := h.mem m d b q q2
    cases d with
    | lst ds => obtain ⟨vs, z1, z2⟩ := this; exact ⟨vs, z1, z2.same s2⟩
    | asc kk kvs => obtain ⟨vs, z1, z2⟩ := this; exact ⟨vs, z1, z2.same s2⟩
    | _ => exact this.elim
  · by_cases hm : m = n
    · subst hm
      rw [e2] at q2
      cases q2
      exact hF z
    · rw [List.getElem?_set_ne (Ne.symm hm)] at q1
      exact h.dd m b q1 q2 (s2.free z)
  · rw [s3 p (fun y => np (by rw [y]; exact List.mem_of_getElem? e2))]
    exact z
/-- behind s the thing in slot i is frozen -/
def frzO (i : Nat) : Out → Option Out
  | .nx Γ M => (xVar i Γ M).bind fun x => withLoc M x fun n c => if locFree c = true then some (.nx (Γ.set i (some c)) (M.set n none)) else none
  | o => some o
def sFrz (i : Nat) (s : Sx) : Sx := fun Γ M => (s Γ M).bind (frzO i)
theorem TSG.frz {T : GE} {W : WX} {t : TS} {s : Sx} (i : Nat) (h : TSG T W t s) : TSG T W t (sFrz i s) := by
  intro Γ M o e σ F A H hh ss D k
  obtain ⟨o1, e1, e⟩ := bindS e
  refine h Γ M o1 e1 σ F A H hh ss D ?_
  cases o1 with
  | nx Γ1 M1 =>
    obtain ⟨x, e2, e3⟩ := bindS (show (xVar i Γ1 M1).bind _ = some o from e)
    obtain ⟨n, c, rfl, e4, e5⟩ := withLoc_inv e3
    split at e5
    · cases e5
      intro σ2 F2 A2 H2 h2 s2 st2
      obtain ⟨a, F3, q1, q2, q3, q4⟩ := h2.freeze e4
      unfold xVar at e2
      split at e2
      · rename_i d hd
        cases e2
        obtain ⟨v, v1, b, v2, v3⟩ := s2.2 i _ hd
        rw [q1] at v2
        cases v2
        subst v3
        have s3 := (q3.slots s2).set q4 i
        have : σ2.set i (some (V.ref a)) = σ2 := by
          refine List.ext_getElem? fun j => ?_
          by_cases hj : i = j
          · subst hj
            rw [List.getElem?_set_self (List.getElem?_eq_some_iff.mp v1).1, v1]
          · rw [List.getElem?_set_ne hj]
        rw [this] at s3
        exact k σ2 F3 A2 H2 q2 s3 (st2.trans q3)
      · cases e2
    · cases e5
  | rt d M1 => cases e; exact k
  | bk Γ1 M1 => cases e; exact k
  | ct Γ1 M1 => cases e; exact k
  | ex x Γ1 M1 => cases e; exact k
theorem sFrz_ {X : Cx} {C : Nat → Addr} {W : WX} {st : Stmt} {s : Sx} (i : Nat) (h : PSG X C W st s) : PSG X C W st (sFrz i s) := let ⟨t, a, b⟩ := h; ⟨t, a, b.frz i⟩
end G
set_option Elab.async false
set_option linter.all false
set_option maxRecDepth 100000
set_option maxHeartbeats 4000000
namespace G
open PySem PySem.Spec PyProof.Rows L2
/-! ### defs -/
inductive Res where
  | ret (d : D) (M : Mem) | exc (x : Exn) (M : Mem)
abbrev Fx := List D → Mem → Option Res
def ResOk (T : GE) (F : Hp) (A : List Addr) (H : Hp) (Q : VK) (E : XK) : Option Res → Prop
  | some (.ret d M) => ∀ v F' A' H', HR T M F' A' H' → Rep T F' A' d v → Step F A H F' A' H' → Q v H'
  | some (.exc x M) => ∀ cls dd F' A' H', HR T M F' A' H' → ExRep T F' x cls dd → Step F A H F' A' H' → E cls dd H'
  | none => False
/-- the promise of a def that computes I -/
def spI (T : GE) (n : Nat) (I : Fx) : Sp := fun vs H Q E => ∃ ds M F A, ds.length = n ∧ HR T M F A H ∧ Reps T F A ds vs ∧ ResOk T F A H Q E (I ds M)
def runB (N : Nat) (s : Sx) : Fx := fun ds M => (s (ds.map some ++ List.replicate (N - ds.length) none) M).bind fun o => match o with
  | .nx _ M1 => some (.ret .non M1)
  | .rt d M1 => some (.ret d M1)
  | .ex x _ M1 => some (.exc x M1)
  | _ => none
theorem start_slots {T : GE} {F : Hp} {A : List Addr} {ds : List D} {vs : List V} (r : Reps T F A ds vs) (N : List Str) : SlotR T F A (ds.map some ++ List.replicate (N.length - ds.length) none) (L2.start N vs) := by
  have hl := r.len
  refine ⟨by simp only [L2.start, List.length_append, List.length_map, List.length_replicate, hl], fun i d q => ?_⟩
  by_cases hi : i < ds.length
  · rw [List.getElem?_append_left (by rw [List.length_map]; exact hi), List.getElem?_map] at q
    obtain ⟨d', e1, e2⟩ := Option.map_eq_some_iff.mp q
    cases e2
    obtain ⟨v, e3, e4⟩ := r.get' e1
    refine ⟨v, ?_, e4⟩
    unfold L2.start
    rw [List.getElem?_append_left (by rw [List.length_map, ← hl]; exact hi), List.getElem?_map, e3]
    rfl
  · rw [List.getElem?_append_right (by rw [List.length_map]; omega)] at q
    obtain ⟨h1, h2⟩ := List.getElem?_eq_some_iff.mp q
    rw [List.getElem_replicate] at h2
    cases h2
section
variable {P : Program} {w : World} {K : PySem.W.Frag} {mg : Str → Option Value} {base : Heap} {C : Nat → Addr} {x qual : Str} {st : Stmt} {f : Addr} {fd : FuncData} {N ps : List Str} {k : Nat} {s : Sx}
/-- a def of the text as it stands behind the top -/
abbrev FnP (K : PySem.W.Frag) (x qual : Str) (st : Stmt) (f : Addr) (fd : FuncData) : Prop := FunD K x qual (defArgs st) (defBody st) (defScope st) [] [] f fd
theorem run_ok {T : GE} {n : Nat} {t : TS} {vs : List V} {H : Hp} {Q : VK} {E : XK} {W : WX} (hW : ∀ cls dd σ H', W cls dd σ H' = E cls dd H') (ht : TSG T W t s) (h : spI T n (runB N.length s) vs H Q E) : t { nx := fun _ H' => Q .non H', rt := Q } (L2.start N vs) H := by
  obtain ⟨ds, M, F, A, hn, hr, rs, ok⟩ := h
  unfold runB at ok
  cases e : s (ds.map some ++ List.replicate (N.length - ds.length) none) M with
  | none => rw [e] at ok; exact ok.elim
  | some o =>
    rw [e] at ok
    refine ht _ M o e (L2.start N vs) F A H hr (start_slots rs N) _ ?_
    cases o with
    | nx Γ1 M1 => exact fun σ F' A' H' a b c => ok _ F' A' H' a rfl c
    | rt d M1 => exact fun v F' A' H' a b c => ok v F' A' H' a b c
    | bk Γ1 M1 => exact ok.elim
    | ct Γ1 M1 => exact ok.elim
    | ex x6 Γ1 M1 => exact fun cls dd σ F' A' H' a b e c => by rw [hW]; exact ok cls dd F' A' H' a e c
theorem spI_len {T : GE} {I : Fx} {n : Nat} : ∀ vs H Q E, spI T n I vs H Q E → vs.length = n := fun vs H Q E ⟨ds, M, F, A, hn, _, r, _⟩ => r.len.symm.trans hn
/-- a def that lets no exception out -/
theorem fn_ok0 (F : FnP K x qual st f fd) (S : FnScope N ps (defScope st)) (hb : ∀ (cdv : Value) (A : Around) (outer : List Env) (s0 : Shared) (H : Hp) (E : XK), Room k (A.deeper (envOfC qual (defScope st) s0.heap.objs.size f cdv)) →
    PBG (cxOf CX0 P w K mg base N qual (defScope st) f cdv A outer s0 H E).nox C (fun _ _ _ _ => False) (defBody st) s) : FnOk P w K mg base CX0 (k + 1) f fd ps (fun vs H Q _ => spI ⟨K, C⟩ ps.length (runB N.length s) vs H Q E0) := by
  refine F.ok S (fun vs H Q E h => spI_len vs H Q _ h) fun cdv A outer s0 H vs Q E hr h => ?_
  obtain ⟨t, h1, h2⟩ := hb cdv A outer s0 H E hr
  exact ⟨t, h1.nox, run_ok (fun _ _ _ _ => rfl) h2 h⟩
end
/-! ### a def that is called with frozen things only: its value alone -/
inductive PR where
  | val (d : D) | fresh (c : D)
def PR.d : PR → D
  | .val d => d
  | .fresh c => c
def pEnd : Res → Option PR
  | .ret d M => if locFree d = true then some (.val d) else withLoc M d fun _ c => if locFree c = true then some (.fresh c) else none
  | .exc _ _ => none
def pRun (I : Fx) (ds : List D) : Option PR := (I ds []).bind pEnd
/-- the call, its value frozen -/
def xCallP (p : List D → Option PR) (fa : Ax) : Ex := fun Γ M => (fa Γ M).bind fun xs => if locFrees xs = true then (p xs).map PR.d else none
/-- the call, its value a new own thing -/
def xCallN (p : List D → Option PR) (fa : Ax) : Ex := fun Γ M => (fa Γ M).bind fun xs => if locFrees xs = true then (p xs).bind fun r => match r with
  | .fresh c => some c
  | _ => none else none
theorem nilHR {T : GE} {F H : Hp} (fs : Same F H) : HR T [] F [] H := ⟨fs, List.nodup_nil, rfl, (fun n c a e => by simp at e), (fun n c a e => by simp at e), (fun a h => by cases h), (fun n a e => by simp at e)⟩
theorem Step.grow {F H F' H' : Hp} {A' : List Addr} (s : Step F [] H F' A' H') (fs : Same F' H') : Grow F H F' H' := ⟨s.ff, fs, fun p o h => s.kp p o h (by simp), fun p o h z => s.nf p o h (by simp) z⟩
/-- what a pure call gives -/
theorem pure_end {T : GE} {n : Nat} {I : Fx} {xs : List D} {r : PR} (e : pRun I xs = some r) (hn : xs.length = n) (hl : locFrees xs = true) {vs : List V} {F H : Hp} {A : List Addr} {Q : VK} {E : XK} (h : Same F H) (hv : Reps T F A xs vs)
    (q : ∀ v F' A' H' d M', Grow F H F' H' → HR T M' F' A' H' → Rep T F' A' d v → Step F [] H F' A' H' → pEnd (.ret d M') = some r → Q v H') : spI T n I vs H Q E := by
  refine ⟨xs, [], F, [], hn, nilHR h, Reps.noLoc _ _ hl hv, ?_⟩
  obtain ⟨re, e1, e2⟩ := bindS e
  rw [e1]
  cases re with
  | exc x M => cases e2
  | ret d M => exact fun v F' A' H' h1 r1 st => q v F' A' H' d M (st.grow h1.fs) h1 r1 st e2
theorem pEnd_frz {T : GE} {F H F' H' : Hp} {A' : List Addr} {d : D} {M' : Mem} {r : PR} {v : V} (e : pEnd (.ret d M') = some r) (g : Grow F H F' H') (h : HR T M' F' A' H') (rv : Rep T F' A' d v) (st : Step F [] H F' A' H') (A : List Addr) : ∃ F2, Grow F H F2 H' ∧ Rep T F2 A r.d v := by
  unfold pEnd at e
  dsimp only at e
  split at e
  · rename_i hl
    cases e
    exact ⟨F', g, Rep.noLoc _ _ hl rv⟩
  · obtain ⟨n, c, rfl, e1, e2⟩ := withLoc_inv e
    split at e2
    · rename_i hl
      cases e2
      obtain ⟨a, F2, q1, q2, q3, q4⟩ := h.freeze e1
      obtain ⟨b, r1, rfl⟩ := rv
      rw [q1] at r1
      cases r1
      have s2 := st.trans q3
      exact ⟨F2, s2.grow q2.fs, Rep.noLoc _ _ hl q4⟩
    · cases e2
theorem pEnd_new {T : GE} {F H F' H' : Hp} {A' : List Addr} {d : D} {M' : Mem} {c : D} {v : V} (e : pEnd (.ret d M') = some (.fresh c)) (h : HR T M' F' A' H') (rv : Rep T F' A' d v) (st : Step F [] H F' A' H') (A : List Addr) : ∃ p, v = .ref p ∧ F' p = none ∧ H p = none ∧ Cont T F' A H' c p := by
  unfold pEnd at e
  dsimp only at e
  split at e
  · cases e
  · obtain ⟨n, c, rfl, e1, e2⟩ := withLoc_inv e
    split at e2
    · rename_i hl
      cases e2
      obtain ⟨b, r1, rfl⟩ := rv
      obtain ⟨B, hB, p⟩ := st.px
      rw [List.nil_append] at hB
      subst hB
      exact ⟨b, rfl, h.fr _ _ _ e1 r1, (p b (List.mem_of_getElem? r1)).1, locFree_cont hl (h.mem _ _ _ e1 r1)⟩
    · cases e2
section
variable {X : Cx} {C : Nat → Addr} {W : WX} {k n : Nat} {f : Addr} {fd : FuncData} {ps : List Str} {I : Fx} {x : Str} {p pos : Pos} {e : Expr} {es : List Expr} {fa : Ax} {pr : List D → Option PR}
/-- the promise of a def that lets nothing out -/
abbrev Fn0 (X : Cx) (C : Nat → Addr) (k : Nat) (f : Addr) (fd : FuncData) (ps : List Str) (I : Fx) : Prop := FnOk X.prog X.w X.K X.mg X.base CX0 k f fd ps (fun vs H Q _ => spI ⟨X.K, C⟩ ps.length I vs H Q E0)
theorem gCallP (hF : Fn0 X C k f fd ps I) (hp : pr = pRun I) (hr : Room k X.A) (hg : Gl X x) (hm : X.mg x = some (.ref f)) (hk : PySem.W.keepIn X.K (.ref f) = true) (hb : Binds X.K fd ps []) (ha : PAG X C (e :: es) fa) (hn : (e :: es).length = ps.length := by rfl)
    (hdb : (x == ("__debug__" : Str)) = false := by decide) (he : starEach (e :: es) X.env = (false, eval e X.env) :: starEach es X.env := by rfl) (hpl : (backTo pos (starEach es X.env)).any (·.1) = false := by rfl)
    (hfl : ∀ Γ M xs, fa Γ M = some xs → xs.length = (e :: es).length) : PEG X C (.Call (.Name x p) (e :: es) [] pos) (xCallP pr fa) := by
  subst hp
  obtain ⟨t, a1, a2⟩ := ha
  refine ⟨_, pe_call hF hr hg hm hk hb .nil pass0 a1 hdb he hpl, fun Γ M d e σ F A H h s Q q => ?_⟩
  obtain ⟨xs, e1, e⟩ := bindS e
  split at e
  · rename_i hl
    obtain ⟨r, e2, rfl⟩ := Option.map_eq_some_iff.mp e
    refine a2 Γ M xs e1 σ F A H h s _ fun vs F1 H1 g1 r1 => ?_
    rw [List.append_nil]
    refine pure_end e2 ((hfl _ _ _ e1).trans hn) hl g1.fh r1 fun v F' A' H' d M' g h2 r2 st ee => ?_
    obtain ⟨F2, g2, r3⟩ := pEnd_frz ee g h2 r2 st A
    exact q v F2 H' (g1.trans g2) r3
  · cases e
theorem nCallP (hF : Fn0 X C k f fd ps I) (hp : pr = pRun I) (hr : Room k X.A) (hg : Gl X x) (hm : X.mg x = some (.ref f)) (hk : PySem.W.keepIn X.K (.ref f) = true) (hb : Binds X.K fd ps []) (ha : PAG X C (e :: es) fa) (hn : (e :: es).length = ps.length := by rfl)
    (hdb : (x == ("__debug__" : Str)) = false := by decide) (he : starEach (e :: es) X.env = (false, eval e X.env) :: starEach es X.env := by rfl) (hpl : (backTo pos (starEach es X.env)).any (·.1) = false := by rfl)
    (hfl : ∀ Γ M xs, fa Γ M = some xs → xs.length = (e :: es).length) : PNG X C (.Call (.Name x p) (e :: es) [] pos) (xCallN pr fa) := by
  subst hp
  obtain ⟨t, a1, a2⟩ := ha
  refine ⟨_, pe_call hF hr hg hm hk hb .nil pass0 a1 hdb he hpl, fun Γ M d e σ F A H h s Q q => ?_⟩
  obtain ⟨xs, e1, e⟩ := bindS e
  split at e
  · rename_i hl
    obtain ⟨r, e2, e3⟩ := bindS e
    refine a2 Γ M xs e1 σ F A H h s _ fun vs F1 H1 g1 r1 => ?_
    rw [List.append_nil]
    refine pure_end e2 ((hfl _ _ _ e1).trans hn) hl g1.fh r1 fun v F' A' H' d M' g h2 r2 st ee => ?_
    split at e3
    · cases e3
      obtain ⟨p0, rfl, np, hp, kk⟩ := pEnd_new ee h2 r2 st A
      exact q p0 F' H' (g1.trans g) np (g1.hh.free hp) kk
    · cases e3
  · cases e
theorem acons_len {f : Ex} {r : Ax} {m : Nat} (h : ∀ Γ M xs, r Γ M = some xs → xs.length = m) : ∀ Γ M xs, xAcons f r Γ M = some xs → xs.length = m + 1 := fun Γ M xs e => by
  obtain ⟨x, e1, e⟩ := bindS e
  obtain ⟨y, e2, e⟩ := bindS e
  cases e
  rw [List.length_cons, h Γ M y e2]
theorem anil_len : ∀ Γ M xs, xAnil Γ M = some xs → xs.length = 0 := fun Γ M xs e => by cases e; rfl
end
/-! ### the law -/
theorem law_ok {T : GE} {I : Fx} (h : ∀ ns : List Int, ns.length ≤ 63 → ∃ M, I [.scr ns] [] = some (.ret (.bl true) M)) (H : Hp) (a : Addr) (ns : List Int) (hl : ns.length ≤ 63) (hS : SqL T.K H a (ns.map V.int)) : spI T 1 I [.ref a] H (fun v _ => v = .bl true) E0 := by
  obtain ⟨M, e⟩ := h ns hl
  refine ⟨[.scr ns], [], H, [], rfl, nilHR (Same.refl _), ⟨_, [], rfl, ⟨a, rfl, hS⟩, rfl⟩, ?_⟩
  rw [e]
  exact fun v F' A' H' _ r _ => r
end G
set_option Elab.async false
set_option linter.all false
set_option maxRecDepth 100000
set_option maxHeartbeats 4000000
namespace G
open PySem PySem.Spec PyProof.Rows L2
/-! ### own things lent to a pure def: what comes back must not hold them -/
mutual
def clean : D → Bool
  | .non => true
  | .bl _ => true
  | .int _ => true
  | .str _ => true
  | .tup ds => cleans ds
  | .lst _ => false
  | .asc _ _ => false
  | .loc _ => false
  | .scr _ => false
  | .ty _ => false
  | .cls _ => false
  | .exc _ _ => false
def cleans : List D → Bool
  | [] => true
  | d :: r => clean d && cleans r
end
def cleanA : List (DK × D) → Bool
  | [] => true
  | (_, d) :: r => clean d && cleanA r
def cleanP : PR → Bool
  | .val d => clean d
  | .fresh (.lst ds) => cleans ds
  | .fresh (.asc _ kvs) => cleanA kvs
  | .fresh _ => false
section
variable {T : GE} {F F2 : Hp} {A A2 : List Addr}
mutual
theorem Rep.clean (ht : ∀ p vs, F p = some (.tup vs) → F2 p = some (.tup vs)) : ∀ (d : D) (v : V), clean d = true → Rep T F A d v → Rep T F2 A2 d v
  | .non, _, _, h => h
  | .bl _, _, _, h => h
  | .int _, _, _, h => h
  | .str _, _, _, h => h
  | .tup ds, v, l, ⟨a, vs, h1, h2, h3⟩ => ⟨a, vs, h1, ht _ _ h2, Reps.clean ht ds vs l h3⟩
  | .lst _, _, l, _ => by cases l
  | .asc _ _, _, l, _ => by cases l
  | .loc _, _, l, _ => by cases l
  | .scr _, _, l, _ => by cases l
  | .ty _, _, l, _ => by cases l
  | .cls _, _, l, _ => by cases l
  | .exc _ _, _, l, _ => by cases l
theorem Reps.clean (ht : ∀ p vs, F p = some (.tup vs) → F2 p = some (.tup vs)) : ∀ (ds : List D) (vs : List V), cleans ds = true → Reps T F A ds vs → Reps T F2 A2 ds vs
  | [], _, _, h => h
  | d :: ds, _, l, ⟨v, r, h1, h2, h3⟩ => by
    obtain ⟨l1, l2⟩ := Bool.and_eq_true_iff.mp (show (G.clean d && cleans ds) = true from l)
    exact ⟨v, r, h1, Rep.clean ht d v l1 h2, Reps.clean ht ds r l2 h3⟩
end
theorem RepA.clean (ht : ∀ p vs, F p = some (.tup vs) → F2 p = some (.tup vs)) : ∀ (ds : List (DK × D)) (vs : List (DK × V)), cleanA ds = true → RepA T F A ds vs → RepA T F2 A2 ds vs
  | [], _, _, h => h
  | (k, d) :: ds, _, l, ⟨v, r, h1, h2, h3⟩ => by
    obtain ⟨l1, l2⟩ := Bool.and_eq_true_iff.mp (show (G.clean d && cleanA ds) = true from l)
    exact ⟨v, r, h1, Rep.clean ht d v l1 h2, RepA.clean ht ds r l2 h3⟩
end
/-- what is lent -/
def brw (M : Mem) : D → Option D
  | .loc n => match M[n]? with
    | some (some c) => if locFree c = true then some c else none
    | _ => none
  | d => if locFree d = true then some d else none
def brws (M : Mem) : List D → Option (List D)
  | [] => some []
  | d :: r => (brw M d).bind fun x => (brws M r).bind fun xs => some (x :: xs)
/-- all that is own, as if frozen -/
def plus (F H : Hp) (A : List Addr) : Hp := fun p => if p ∈ A then H p else F p
section
variable {T : GE} {M : Mem} {F H : Hp} {A : List Addr}
theorem plus_le (h : HR T M F A H) : Same F (plus F H A) := fun p o e => by
  unfold plus
  split
  · exact h.fs p o e
  · exact e
theorem plus_ge (h : HR T M F A H) : Same (plus F H A) H := fun p o e => by
  unfold plus at e
  split at e
  · exact e
  · exact h.fs p o e
theorem brw_ok (h : HR T M F A H) {d x : D} {v : V} (e : brw M d = some x) (r : Rep T F A d v) : locFree x = true ∧ Rep T (plus F H A) [] x v := by
  unfold brw at e
  split at e
  · split at e
    · split at e
      · rename_i hn hl
        cases e
        refine ⟨hl, ?_⟩
        obtain ⟨a, e1, rfl⟩ := r
        have k := h.mem _ _ _ hn e1
        have ha : ∀ o, H a = some o → plus F H A a = some o := fun o ho => by
          unfold plus
          rw [if_pos (List.mem_of_getElem? e1)]
          exact ho
        cases x with
        | lst ds =>
          obtain ⟨vs, z1, z2⟩ := k
          exact ⟨a, vs, rfl, ha _ z1, Reps.noLoc _ _ hl (z2.same (plus_le h))⟩
        | asc kk kvs =>
          obtain ⟨vs, z1, z2⟩ := k
          refine ⟨a, vs, rfl, ?_, RepA.noLoc _ _ hl (z2.same (plus_le h))⟩
          cases kk with
          | k => obtain ⟨ws, z3, z4⟩ := z1; exact ⟨ws, ha _ z3, z4⟩
          | t => obtain ⟨ws, z3, z4⟩ := z1; exact ⟨ws, ha _ z3, z4⟩
          | ins c => obtain ⟨dx, ws, z3, z4⟩ := z1; exact ⟨dx, ws, ha _ z3, z4⟩
        | _ => exact k.elim
      · cases e
    · cases e
  · split at e
    · rename_i hl
      cases e
      exact ⟨hl, Rep.noLoc _ _ hl (r.same (plus_le h))⟩
    · cases e
theorem brws_ok (h : HR T M F A H) : ∀ {ds xs : List D} {vs : List V}, brws M ds = some xs → Reps T F A ds vs → locFrees xs = true ∧ Reps T (plus F H A) [] xs vs ∧ xs.length = ds.length
  | [], _, _, e, r => by cases e; exact ⟨rfl, r, rfl⟩
  | d :: ds, xs, _, e, ⟨v, w, e2, r1, r2⟩ => by
    subst e2
    obtain ⟨x, e1, e⟩ := bindS (show (brw M d).bind _ = some xs from e)
    obtain ⟨ys, e2, e⟩ := bindS e
    cases e
    obtain ⟨a1, a2⟩ := brw_ok h e1 r1
    obtain ⟨b1, b2, b3⟩ := brws_ok h e2 r2
    exact ⟨by show (locFree x && locFrees ys) = true; rw [a1, b1]; rfl, ⟨v, w, rfl, a2, b2⟩, by rw [List.length_cons, List.length_cons, b3]⟩
theorem lent_back (h : HR T M F A H) {F' H' : Hp} (g : Grow (plus F H A) H F' H') : ∃ F2, Grow F H F2 H' ∧ (∀ p vs, F' p = some (.tup vs) → F2 p = some (.tup vs)) ∧ ∀ p, F' p = none → F2 p = none := by
  refine ⟨fun p => if p ∈ A ∧ F p = none then none else F' p, ⟨fun p o e => ?_, fun p o e => ?_, g.hh, fun p o e z => ?_⟩, fun p vs e => ?_, fun p e => ?_⟩
  · show (if p ∈ A ∧ F p = none then none else F' p) = some o
    rw [if_neg (fun z => by rw [z.2] at e; cases e)]
    exact g.ff p o (plus_le h p o e)
  · have e' : (if p ∈ A ∧ F p = none then none else F' p) = some o := e
    split at e'
    · cases e'
    · exact g.fh p o e'
  · show (if p ∈ A ∧ F p = none then none else F' p) = none
    by_cases hp : p ∈ A
    · rw [if_pos ⟨hp, z⟩]
    · rw [if_neg (fun y => hp y.1)]
      refine g.nf p o e ?_
      unfold plus
      rw [if_neg hp]
      exact z
  · show (if p ∈ A ∧ F p = none then none else F' p) = some _
    by_cases hp : p ∈ A ∧ F p = none
    · exfalso
      obtain ⟨n, hn⟩ := List.mem_iff_getElem?.mp hp.1
      have hl : n < M.length := by rw [← h.len]; exact (List.getElem?_eq_some_iff.mp hn).1
      cases q : M[n]? with
      | none => rw [List.getElem?_eq_none_iff] at q; omega
      | some c =>
        cases c with
        | none => exact h.dd n p q hn hp.2
        | some c =>
          have k := h.mem n c p q hn
          obtain ⟨o, ho⟩ := k.there
          have hpl : plus F H A p = some o := by
            unfold plus
            rw [if_pos hp.1]
            exact ho
          have e3 := g.ff p o hpl
          rw [e] at e3
          cases e3
          cases c with
          | lst ds => obtain ⟨vs, z1, _⟩ := k; rw [ho] at z1; cases z1
          | asc kk kvs =>
            obtain ⟨vs, z1, _⟩ := k
            cases kk with
            | k => obtain ⟨ws, z3, _⟩ := z1; rw [ho] at z3; cases z3
            | t => obtain ⟨ws, z3, _⟩ := z1; rw [ho] at z3; cases z3
            | ins c => obtain ⟨dx, ws, z3, _⟩ := z1; rw [ho] at z3; cases z3
          | _ => exact k.elim
    · rw [if_neg hp]
      exact e
  · show (if p ∈ A ∧ F p = none then none else F' p) = none
    split
    · rfl
    · exact e
/-- a pure call with lent things: its value (a scalar, a tuple of scalars), or a new thing of such -/
theorem lent_call {n : Nat} {I : Fx} {ds xs : List D} {r : PR} (h : HR T M F A H) (eb : brws M ds = some xs) (e : pRun I xs = some r) (hc : cleanP r = true) (hn : ds.length = n) {vs : List V} (hv : Reps T F A ds vs) {Q : VK} {E : XK}
    (q : ∀ v F2 H', Grow F H F2 H' → (match r with
      | .val d => Rep T F2 A d v
      | .fresh c => ∃ p, v = .ref p ∧ F2 p = none ∧ H p = none ∧ Cont T F2 A H' c p) → Q v H') : spI T n I vs H Q E := by
  obtain ⟨l1, l2, l3⟩ := brws_ok h eb hv
  refine pure_end (A := []) e (l3.trans hn) l1 (plus_ge h) l2 fun v F' A' H' d M' g h2 r2 st ee => ?_
  obtain ⟨F2, g2, tp, nn⟩ := lent_back h g
  refine q v F2 H' g2 ?_
  cases r with
  | val d0 =>
    unfold pEnd at ee
    dsimp only at ee
    split at ee
    · cases ee
      exact Rep.clean tp _ _ hc r2
    · obtain ⟨n, c, rfl, e1, e2⟩ := withLoc_inv ee
      split at e2 <;> cases e2
  | fresh c =>
    obtain ⟨p, rfl, np, hp, k⟩ := pEnd_new ee h2 r2 st A
    refine ⟨p, rfl, nn p np, hp, ?_⟩
    cases c with
    | lst ds => obtain ⟨ws, z1, z2⟩ := k; exact ⟨ws, z1, Reps.clean tp _ _ hc z2⟩
    | asc kk kvs => obtain ⟨ws, z1, z2⟩ := k; exact ⟨ws, z1, RepA.clean tp _ _ hc z2⟩
    | _ => exact k.elim
end
def xCallL (p : List D → Option PR) (fa : Ax) : Ex := fun Γ M => (fa Γ M).bind fun ds => (brws M ds).bind fun xs => (p xs).bind fun r => if cleanP r = true then some r.d else none
def xCallLN (p : List D → Option PR) (fa : Ax) : Ex := fun Γ M => (fa Γ M).bind fun ds => (brws M ds).bind fun xs => (p xs).bind fun r => if cleanP r = true then (match r with
  | .fresh c => some c
  | _ => none) else none
section
variable {X : Cx} {C : Nat → Addr} {W : WX} {k n : Nat} {f : Addr} {fd : FuncData} {ps : List Str} {I : Fx} {x : Str} {p pos : Pos} {e : Expr} {es : List Expr} {fa : Ax} {pr : List D → Option PR}
theorem gCallL (hF : Fn0 X C k f fd ps I) (hp : pr = pRun I) (hr : Room k X.A) (hg : Gl X x) (hm : X.mg x = some (.ref f)) (hk : PySem.W.keepIn X.K (.ref f) = true) (hb : Binds X.K fd ps []) (ha : PAG X C (e :: es) fa) (hn : (e :: es).length = ps.length := by rfl)
    (hdb : (x == ("__debug__" : Str)) = false := by decide) (he : starEach (e :: es) X.env = (false, eval e X.env) :: starEach es X.env := by rfl) (hpl : (backTo pos (starEach es X.env)).any (·.1) = false := by rfl)
    (hfl : ∀ Γ M xs, fa Γ M = some xs → xs.length = (e :: es).length) : PEG X C (.Call (.Name x p) (e :: es) [] pos) (xCallL pr fa) := by
  subst hp
  obtain ⟨t, a1, a2⟩ := ha
  refine ⟨_, pe_call hF hr hg hm hk hb .nil pass0 a1 hdb he hpl, fun Γ M d e σ F A H h s Q q => ?_⟩
  obtain ⟨ds, e1, e⟩ := bindS e
  obtain ⟨xs, e2, e⟩ := bindS e
  obtain ⟨r, e3, e⟩ := bindS e
  split at e
  · rename_i hc
    cases e
    refine a2 Γ M ds e1 σ F A H h s _ fun vs F1 H1 g1 r1 => ?_
    rw [List.append_nil]
    refine lent_call (h.grow g1) e2 e3 hc ((hfl _ _ _ e1).trans hn) r1 fun v F2 H' g2 z => ?_
    cases r with
    | val d => exact q v F2 H' (g1.trans g2) z
    | fresh c =>
      obtain ⟨p0, rfl, np, hp, kk⟩ := z
      obtain ⟨F3, s1, s2, s3, r⟩ := kk.freeze g2.fh np
      refine q _ F3 H' (g1.trans ⟨g2.ff.trans s2, s1, g2.hh, fun b o hb hz => ?_⟩) r
      rw [s3 b (fun e => by rw [e, hp] at hb; cases hb)]
      exact g2.nf b o hb hz
  · cases e
theorem nCallL (hF : Fn0 X C k f fd ps I) (hp : pr = pRun I) (hr : Room k X.A) (hg : Gl X x) (hm : X.mg x = some (.ref f)) (hk : PySem.W.keepIn X.K (.ref f) = true) (hb : Binds X.K fd ps []) (ha : PAG X C (e :: es) fa) (hn : (e :: es).length = ps.length := by rfl)
    (hdb : (x == ("__debug__" : Str)) = false := by decide) (he : starEach (e :: es) X.env = (false, eval e X.env) :: starEach es X.env := by rfl) (hpl : (backTo pos (starEach es X.env)).any (·.1) = false := by rfl)
    (hfl : ∀ Γ M xs, fa Γ M = some xs → xs.length = (e :: es).length) : PNG X C (.Call (.Name x p) (e :: es) [] pos) (xCallLN pr fa) := by
  subst hp
  obtain ⟨t, a1, a2⟩ := ha
  refine ⟨_, pe_call hF hr hg hm hk hb .nil pass0 a1 hdb he hpl, fun Γ M d e σ F A H h s Q q => ?_⟩
  obtain ⟨ds, e1, e⟩ := bindS e
  obtain ⟨xs, e2, e⟩ := bindS e
  obtain ⟨r, e3, e⟩ := bindS e
  split at e
  · rename_i hc
    split at e
    · cases e
      refine a2 Γ M ds e1 σ F A H h s _ fun vs F1 H1 g1 r1 => ?_
      rw [List.append_nil]
      refine lent_call (h.grow g1) e2 e3 hc ((hfl _ _ _ e1).trans hn) r1 fun v F2 H' g2 z => ?_
      obtain ⟨p0, rfl, np, hp, kk⟩ := z
      exact q p0 F2 H' (g1.trans g2) np (g1.hh.free hp) kk
    · cases e
  · cases e
end
/-! ### list(x), int(x), isinstance, divmod -/
def gListOf (M : Mem) (xs : List D) : Option D := match xs with
  | [x] => (vS M x).map .lst
  | _ => none
def gIntOf (_ : Mem) (xs : List D) : Option D := match xs with
  | [.str a] => if a.length ≤ 640 then (PySem.intText? a).map .int else none
  | [.int i] => some (.int i)
  | [.bl k] => some (.int (if k then 1 else 0))
  | _ => none
def RCN (T : GE) (r : List V → Hp → VK → Prop) (g : Mem → List D → Option D) : Prop := ∀ (M : Mem) (xs : List D) (c : D), g M xs = some c → ∀ (vs : List V) (F : Hp) (A : List Addr) (H : Hp), HR T M F A H → Reps T F A xs vs →
  ∀ Q : VK, (∀ p F' H', Grow F H F' H' → F' p = none → H p = none → Cont T F' A H' c p → Q (.ref p) H') → r vs H Q
def CaN (X : Cx) (C : Nat → Addr) (f : Value) (g : Mem → List D → Option D) : Prop := ∃ r, CallR X f r ∧ RCN ⟨X.K, C⟩ r g
section
variable {X : Cx} {C : Nat → Addr} {e : Expr} {es : List Expr} {pos : Pos}
theorem nCallTy {x : Str} {pp : Pos} {id : String} {k : Mem → List D → Option D} {w : Ax} (hc : CaN X C (.type id) k) (hg : Gl X x) (hm : X.mg x = none) (hv : bootBuiltins x = some (.type id)) (ha : PAG X C (e :: es) w) (hn : x ≠ "__name__" := by decide) (hdb : (x == ("__debug__" : Str)) = false := by decide)
    (he : starEach (e :: es) X.env = (false, eval e X.env) :: starEach es X.env := by rfl) (hpl : (backTo pos (starEach es X.env)).any (·.1) = false := by rfl) : PNG X C (.Call (.Name x pp) (e :: es) [] pos) (xCall k w) := by
  obtain ⟨r, c1, c2⟩ := hc
  obtain ⟨t, a1, a2⟩ := ha
  refine ⟨_, pe_callTy c1 hg hm hv a1 hn hdb he hpl, fun Γ M d e σ F A H h s Q q => ?_⟩
  obtain ⟨ds, e1, e⟩ := bindS e
  refine a2 Γ M ds e1 σ F A H h s _ fun vs F1 H1 g1 r1 => ?_
  exact c2 M ds d e vs F1 A H1 (h.grow g1) r1 Q fun p F2 H2 g2 np hp kk => q p F2 H2 (g1.trans g2) np (g1.hh.free hp) kk
theorem grow_new {F H : Hp} {p : Addr} {o : HO} (fs : Same F H) (hp : H p = none) : Grow F H F (upd H p o) := ⟨Same.refl _, fs.trans (same_new hp), same_new hp, fun _ _ _ z => z⟩
theorem cListOf : CaN X C (.type "list") gListOf := by
  refine ⟨_, call_list_of, fun M xs c e vs F A H h r Q q => ?_⟩
  unfold gListOf at e
  split at e
  · obtain ⟨ds, e1, rfl⟩ := Option.map_eq_some_iff.mp e
    obtain ⟨v, rfl, rv⟩ := r.inv1
    obtain ⟨p, ws, rfl, hp, r1⟩ := vS_ok h e1 rv
    exact ⟨p, ws, rfl, hp, fun l hl => q l F _ (grow_new h.fs hl) (h.fs.free hl) hl ⟨ws, upd_same, r1⟩⟩
  · cases e
theorem cInt : CaG X C (.type "int") gIntOf := by
  refine ⟨_, call_int1.or call_int_str, fun M xs z e vs F A H h r Q q => ?_⟩
  unfold gIntOf at e
  split at e
  · split at e
    · rename_i hl
      obtain ⟨n, hn, rfl⟩ := Option.map_eq_some_iff.mp e
      obtain ⟨v, rfl, rv⟩ := r.inv1
      cases rv
      exact .inr ⟨_, n, rfl, hn, hl, q _ F H (Grow.refl h.fs) rfl⟩
    · cases e
  · cases e
    obtain ⟨v, rfl, rv⟩ := r.inv1
    cases rv
    exact .inl (.inl ⟨_, rfl, q _ F H (Grow.refl h.fs) rfl⟩)
  · cases e
    obtain ⟨v, rfl, rv⟩ := r.inv1
    cases rv
    exact .inl (.inr ⟨_, rfl, q _ F H (Grow.refl h.fs) rfl⟩)
  · cases e
end
/-- a built-in class by its name -/
def tyName (M : Mem) : D → Option String
  | .non => some "NoneType"
  | .bl _ => some "bool"
  | .int _ => some "int"
  | .str _ => some "str"
  | .tup _ => some "tuple"
  | .lst _ => some "list"
  | .scr _ => some "list"
  | .asc .k _ => some "dict"
  | .asc .t _ => some "dict"
  | .loc n => match M[n]? with
    | some (some (.lst _)) => some "list"
    | some (some (.asc .k _)) => some "dict"
    | some (some (.asc .t _)) => some "dict"
    | _ => none
  | _ => none
def kN : List String := ["NoneType", "bool", "int", "str", "tuple", "list", "dict"]
def kB : List String := ["int", "bool", "str", "tuple", "list", "dict"]
/-- is the class a one of b's, among those met here -/
def isTy (a b : String) : Option Bool := if (kN.contains a && kB.contains b) = true then some (a == b || (a == "bool" && b == "int")) else none
def tysOf : List D → Option (List String)
  | [] => some []
  | .ty b :: r => (tysOf r).map (b :: ·)
  | _ :: _ => none
def isTys (a : String) : List String → Option Bool
  | [] => some false
  | b :: r => (isTy a b).bind fun k => (isTys a r).map fun l => k || l
def gIsI (M : Mem) (xs : List D) : Option D := match xs with
  | [x, .ty b] => (tyName M x).bind fun a => (isTy a b).map .bl
  | [x, .tup ts] => (tyName M x).bind fun a => (tysOf ts).bind fun bs => (isTys a bs).map .bl
  | _ => none
theorem isTy_ok {K : PySem.W.Frag} {a b : String} {r : Bool} (e : isTy a b = some r) : PySem.W.kitOne K (.type a) (.type b) = some r := by
  refine kit_ty ?_
  have all : ∀ a ∈ kN, ∀ b ∈ kB, some (a == b || (a == "bool" && b == "int")) = kitB a b := by decide +kernel
  unfold isTy at e
  split at e
  · rename_i h
    rw [Bool.and_eq_true] at h
    rw [← all a (List.contains_iff_mem.mp h.1) b (List.contains_iff_mem.mp h.2)]
    exact e
  · cases e
theorem tyName_ok {T : GE} {M : Mem} {F H : Hp} {A : List Addr} (h : HR T M F A H) {x : D} {a : String} (e : tyName M x = some a) {v : V} (r : Rep T F A x v) : TyX T.K H v (.type a) := by
  cases x with
  | non => cases e; cases r; exact .base .non
  | bl _ => cases e; cases r; exact .base (.bl _)
  | int _ => cases e; cases r; exact .base (.int _)
  | str _ => cases e; cases r; exact .base (.str _)
  | tup _ => cases e; obtain ⟨p, vs, rfl, h1, _⟩ := r; exact .base (.tup (h.fs _ _ h1))
  | lst _ => cases e; obtain ⟨p, vs, rfl, h1, _⟩ := r; exact .base (.lst (h.fs _ _ h1))
  | scr _ =>
    cases e
    obtain ⟨p, rfl, h1⟩ := r
    rcases h.fs.seq h1 with (h2 | ⟨o, h2⟩) | ⟨o, its, n, h2, h3, _⟩
    · exact .base (.lst h2)
    · exact .base (.frz h2)
    · exact .kList h2 h3
  | asc k kvs =>
    cases k with
    | k => cases e; obtain ⟨p, vs, rfl, ⟨ws, h1, _⟩, _⟩ := r; exact .base (.dK (h.fs _ _ h1))
    | t => cases e; obtain ⟨p, vs, rfl, ⟨ws, h1, _⟩, _⟩ := r; exact .base (.dT (h.fs _ _ h1))
    | ins c => cases e
  | loc n =>
    unfold tyName at e
    dsimp only at e
    obtain ⟨p, h1, rfl⟩ := r
    cases q : M[n]? with
    | none => rw [q] at e; cases e
    | some c =>
      cases c with
      | none => rw [q] at e; cases e
      | some c =>
        have k := h.mem n c p q h1
        rw [q] at e
        cases c with
        | lst ds => cases e; obtain ⟨vs, z, _⟩ := k; exact .base (.lst z)
        | asc kk kvs =>
          cases kk with
          | k => cases e; obtain ⟨vs, ⟨ws, z, _⟩, _⟩ := k; exact .base (.dK z)
          | t => cases e; obtain ⟨vs, ⟨ws, z, _⟩, _⟩ := k; exact .base (.dT z)
          | ins c => cases e
        | _ => exact k.elim
  | ty _ => cases e
  | cls _ => cases e
  | exc _ _ => cases e
theorem tysOf_ok {T : GE} {F : Hp} {A : List Addr} : ∀ {ts : List D} {bs : List String} {vs : List V}, tysOf ts = some bs → Reps T F A ts vs → Paired ClsV vs (bs.map Value.type)
  | [], _, _, e, r => by cases e; cases r; exact .nil
  | t :: ts, bs, _, e, ⟨v, w, e2, r1, r2⟩ => by
    subst e2
    cases t <;> simp only [tysOf, Option.map_eq_some_iff] at e
    all_goals first
      | (obtain ⟨k2, e, rfl⟩ := e
         cases r1
         exact .cons (.ty _) (tysOf_ok e r2))
      | cases e
theorem isTys_ok {K : PySem.W.Frag} {a : String} : ∀ {bs : List String} {r : Bool}, isTys a bs = some r → PySem.W.kitAny K (.type a) (bs.map Value.type) = some r
  | [], _, e => by cases e; rfl
  | b :: bs, r, e => by
    obtain ⟨k, e1, e⟩ := bindS (show (isTy a b).bind _ = some r from e)
    obtain ⟨l, e2, rfl⟩ := Option.map_eq_some_iff.mp e
    refine kitAny_cons (isTy_ok e1) (fun z => ?_) fun z => ?_
    · subst z
      exact isTys_ok e2
    · subst z
      rfl
theorem cIsI {X : Cx} {C : Nat → Addr} : CaG X C (.builtin "isinstance") gIsI := by
  refine ⟨_, call_isi.or call_isiT, fun M xs z e vs F A H h r Q q => ?_⟩
  unfold gIsI at e
  split at e
  · obtain ⟨a, e1, e⟩ := bindS e
    obtain ⟨b, e2, rfl⟩ := Option.map_eq_some_iff.mp e
    obtain ⟨v, u, rfl, rv, ru⟩ := r.inv2
    cases ru
    exact .inl ⟨v, _, _, _, b, rfl, .ty _, tyName_ok (T := ⟨X.K, C⟩) h e1 rv, isTy_ok e2, q _ F H (Grow.refl h.fs) rfl⟩
  · obtain ⟨a, e1, e⟩ := bindS e
    obtain ⟨bs, e2, e⟩ := bindS e
    obtain ⟨b, e3, rfl⟩ := Option.map_eq_some_iff.mp e
    obtain ⟨v, u, rfl, rv, ru⟩ := r.inv2
    obtain ⟨p, ws, rfl, h1, h2⟩ := ru
    exact .inr ⟨v, p, ws, _, _, b, rfl, h.fs _ _ h1, tysOf_ok e2 h2, tyName_ok (T := ⟨X.K, C⟩) h e1 rv, isTys_ok e3, q _ F H (Grow.refl h.fs) rfl⟩
  · cases e
end G
set_option Elab.async false
set_option linter.all false
set_option maxRecDepth 100000
set_option maxHeartbeats 4000000
namespace G
open PySem PySem.Spec PyProof.Rows L2
/-! ### a < b < c; class names; divmod -/
section
variable {X : Cx} {C : Nat → Addr} {a b c : Expr} {f g h : Ex} {pos : Pos}
theorem tChain_g {T : GE} {r r' : R2} {k k2 : Mem → D → D → Option D} {ta tb tc : TE} (hr : ROG T r k) (hr' : ROG T r' k2) (ha : TEG T ta f) (hb : TEG T tb g) (hc : TEG T tc h) : TEG T (tChain r r' ta tb tc) (xChain k k2 f g h) := by
  intro Γ M d e σ F A H hh s Q q
  obtain ⟨x, e1, e⟩ := bindS e
  obtain ⟨y, e2, e⟩ := bindS e
  obtain ⟨z, e3, e⟩ := bindS e
  refine ha Γ M x e1 σ F A H hh s _ fun v F1 H1 g1 r1 => ?_
  refine hb Γ M y e2 σ F1 A H1 (hh.grow g1) (s.same g1.ff) _ fun u F2 H2 g2 r2 => ?_
  refine hr M x y z e3 v u F2 A H2 ((hh.grow g1).grow g2) (r1.same g2.ff) r2 _ fun z' F3 H3 g3 r3 => ?_
  split at e
  · obtain ⟨w, e4, e⟩ := bindS e
    refine ⟨true, r3, ?_⟩
    rw [if_pos rfl]
    refine hc Γ M w e4 σ F3 A H3 (((hh.grow g1).grow g2).grow g3) (((s.same g1.ff).same g2.ff).same g3.ff) _ fun w' F4 H4 g4 r4 => ?_
    refine hr' M y w d e u w' F4 A H4 ((((hh.grow g1).grow g2).grow g3).grow g4) ((r2.same g3.ff).same g4.ff) r4 Q fun o F5 H5 g5 r5 => ?_
    exact q o F5 H5 ((((g1.trans g2).trans g3).trans g4).trans g5) r5
  · cases e
    refine ⟨false, r3, ?_⟩
    rw [if_neg Bool.false_ne_true]
    exact q _ F3 H3 ((g1.trans g2).trans g3) rfl
  · cases e
theorem gChain {op op' : CmpOp} {k k2 : Mem → D → D → Option D} (ho : OpG X C (compareOp op) k) (ho' : OpG X C (compareOp op') k2) (ha : PEG X C a f) (hb : PEG X C b g) (hc : PEG X C c h) (hm : lastMarks [op, op'] [b, c] = false := by with_unfolding_all rfl) :
    PEG X C (.Compare a [op, op'] [b, c] pos) (xChain k k2 f g h) := by
  obtain ⟨r, o1, o2⟩ := ho
  obtain ⟨r', o3, o4⟩ := ho'
  obtain ⟨ta, a1, a2⟩ := ha
  obtain ⟨tb, b1, b2⟩ := hb
  obtain ⟨tc, c1, c2⟩ := hc
  exact ⟨_, pe_chain o1 o3 a1 b1 c1 hm, tChain_g o2 o4 a2 b2 c2⟩
theorem gChainT {op op' : CmpOp} {k k2 : Mem → D → D → Option D} (ho : OpG X C (compareOp op) k) (ho' : OpG X C (compareOp op') k2) (ha : PEG X C a f) (hb : PEG X C b g) (hc : PEG X C c h) (hm : lastMarks [op, op'] [b, c] = false := by with_unfolding_all rfl) :
    PTG X C (.Compare a [op, op'] [b, c] pos) (tVal (xChain k k2 f g h)) := by
  obtain ⟨r, o1, o2⟩ := ho
  obtain ⟨r', o3, o4⟩ := ho'
  obtain ⟨ta, a1, a2⟩ := ha
  obtain ⟨tb, b1, b2⟩ := hb
  obtain ⟨tc, c1, c2⟩ := hc
  exact ⟨_, pt_chain o1 o3 a1 b1 c1 hm, tTest_g (tChain_g o2 o4 a2 b2 c2)⟩
theorem gTyN {x : Str} {n : String} (hg : Gl X x) (hm : X.mg x = none) (hv : bootBuiltins x = some (.type n)) (hn : x ≠ "__name__" := by decide) (hd : (x == ("__debug__" : Str)) = false := by decide) : PEG X C (.Name x pos) (xC (.ty n)) :=
  ⟨_, pe_bltn (v := .ty n) hg hm hv rfl hn hd, tC_g fun _ _ => rfl⟩
end
def gDivmod (_ : Mem) (xs : List D) : Option D := match xs with
  | [.int i, .int j] => if 0 < j ∧ j < 1000000 then some (.tup [.int (i / j), .int (i % j)]) else none
  | _ => none
theorem cDivmod {X : Cx} {C : Nat → Addr} : CaG X C (.builtin "divmod") gDivmod := by
  refine ⟨_, call_divmod, fun M xs z e vs F A H h r Q q => ?_⟩
  unfold gDivmod at e
  split at e
  · split at e
    · rename_i hj
      cases e
      obtain ⟨v, u, rfl, rv, ru⟩ := r.inv2
      cases rv
      cases ru
      refine ⟨_, _, rfl, ⟨hj.1, by omega⟩, fun p hp => q _ _ _ (Grow.new h.fs hp) (Rep.newTup h.fs hp ⟨_, _, rfl, rfl, Reps.one rfl⟩)⟩
    · cases e
  · cases e
/-! ### a def of the module, for its callers -/
def Has (P : Program) (w : World) (K : PySem.W.Frag) (mg : Str → Option Value) (base : Heap) (C : Nat → Addr) (k : Nat) (x : Str) (ps : List Str) (I : Fx) : Prop :=
  ∃ f fd, FnOk P w K mg base CX0 k f fd ps (fun vs H Q _ => spI ⟨K, C⟩ ps.length I vs H Q E0) ∧ Binds K fd ps [] ∧ PySem.W.keepIn K (.ref f) = true ∧ mg x = some (.ref f)
section
variable {X : Cx} {C : Nat → Addr} {W : WX} {k n : Nat} {ps : List Str} {I : Fx} {x : Str} {p pos : Pos} {e : Expr} {es : List Expr} {fa : Ax} {pr : List D → Option PR}
theorem callP (hF : Has X.prog X.w X.K X.mg X.base C k x ps I) (hp : pr = pRun I) (hr : Room k X.A) (hg : Gl X x) (ha : PAG X C (e :: es) fa) (hfl : ∀ Γ M xs, fa Γ M = some xs → xs.length = (e :: es).length) (hn : (e :: es).length = ps.length := by rfl)
    (hdb : (x == ("__debug__" : Str)) = false := by decide) (he : starEach (e :: es) X.env = (false, eval e X.env) :: starEach es X.env := by rfl) (hpl : (backTo pos (starEach es X.env)).any (·.1) = false := by rfl) : PEG X C (.Call (.Name x p) (e :: es) [] pos) (xCallP pr fa) :=
  let ⟨_, _, h1, h2, h3, h4⟩ := hF
  gCallP h1 hp hr hg h4 h3 h2 ha hn hdb he hpl hfl
theorem callN (hF : Has X.prog X.w X.K X.mg X.base C k x ps I) (hp : pr = pRun I) (hr : Room k X.A) (hg : Gl X x) (ha : PAG X C (e :: es) fa) (hfl : ∀ Γ M xs, fa Γ M = some xs → xs.length = (e :: es).length) (hn : (e :: es).length = ps.length := by rfl)
    (hdb : (x == ("__debug__" : Str)) = false := by decide) (he : starEach (e :: es) X.env = (false, eval e X.env) :: starEach es X.env := by rfl) (hpl : (backTo pos (starEach es X.env)).any (·.1) = false := by rfl) : PNG X C (.Call (.Name x p) (e :: es) [] pos) (xCallN pr fa) :=
  let ⟨_, _, h1, h2, h3, h4⟩ := hF
  nCallP h1 hp hr hg h4 h3 h2 ha hn hdb he hpl hfl
theorem callL (hF : Has X.prog X.w X.K X.mg X.base C k x ps I) (hp : pr = pRun I) (hr : Room k X.A) (hg : Gl X x) (ha : PAG X C (e :: es) fa) (hfl : ∀ Γ M xs, fa Γ M = some xs → xs.length = (e :: es).length) (hn : (e :: es).length = ps.length := by rfl)
    (hdb : (x == ("__debug__" : Str)) = false := by decide) (he : starEach (e :: es) X.env = (false, eval e X.env) :: starEach es X.env := by rfl) (hpl : (backTo pos (starEach es X.env)).any (·.1) = false := by rfl) : PEG X C (.Call (.Name x p) (e :: es) [] pos) (xCallL pr fa) :=
  let ⟨_, _, h1, h2, h3, h4⟩ := hF
  gCallL h1 hp hr hg h4 h3 h2 ha hn hdb he hpl hfl
theorem callLN (hF : Has X.prog X.w X.K X.mg X.base C k x ps I) (hp : pr = pRun I) (hr : Room k X.A) (hg : Gl X x) (ha : PAG X C (e :: es) fa) (hfl : ∀ Γ M xs, fa Γ M = some xs → xs.length = (e :: es).length) (hn : (e :: es).length = ps.length := by rfl)
    (hdb : (x == ("__debug__" : Str)) = false := by decide) (he : starEach (e :: es) X.env = (false, eval e X.env) :: starEach es X.env := by rfl) (hpl : (backTo pos (starEach es X.env)).any (·.1) = false := by rfl) : PNG X C (.Call (.Name x p) (e :: es) [] pos) (xCallLN pr fa) :=
  let ⟨_, _, h1, h2, h3, h4⟩ := hF
  nCallL h1 hp hr hg h4 h3 h2 ha hn hdb he hpl hfl
end
theorem Has.mono {P : Program} {w : World} {K : PySem.W.Frag} {mg : Str → Option Value} {base : Heap} {C : Nat → Addr} {k j : Nat} {x : Str} {ps : List Str} {I : Fx} (h : Has P w K mg base C k x ps I) (l : k ≤ j) : Has P w K mg base C j x ps I :=
  let ⟨f, fd, h1, h2, h3, h4⟩ := h
  ⟨f, fd, h1.mono l, h2, h3, h4⟩
/-! ### range(0, n, c) -/
def rngC (c : Int) (n : Nat) : List D := (List.range n).map fun (i : Nat) => .int (0 + (i : Int) * c)
def ixR3 (w : Ax) : Ax := fun Γ M => (w Γ M).bind fun xs => match xs with
  | [.int i, .int j, .int c] => if i = 0 ∧ 0 ≤ j ∧ j < 1000000 ∧ 1 ≤ c ∧ c < 1000000 then some (rngC c ((j + c - 1) / c).toNat) else none
  | _ => none
theorem rgc_ok {j c : Int} (h0 : 0 ≤ j) (h1 : j < 1000000) (h2 : 1 ≤ c) (h3 : c < 1000000) : RgC 0 j c ((j + c - 1) / c).toNat := by
  have e := PyProof.Rows.rangeSize_pos h2 h0
  have nn : 0 ≤ (j + c - 1) / c := Int.ediv_nonneg (by omega) (by omega)
  have le : (j + c - 1) / c ≤ j + c - 1 := Int.ediv_le_self _ (by omega)
  refine ⟨by omega, by omega, ?_, by rw [e]; omega⟩
  have fit : ∀ x : Int, -10000000 < x → x < 10000000 → Builtin.Range.rangeFitsLong x = true := fun x a b => by
    unfold Builtin.Range.rangeFitsLong
    rw [Bool.and_eq_true, decide_eq_true_eq, decide_eq_true_eq]
    exact ⟨by omega, by omega⟩
  unfold Builtin.Range.small
  rw [e, fit 0 (by omega) (by omega), fit j (by omega) (by omega), fit c (by omega) (by omega), fit _ (by omega) (by omega), if_pos (by omega), fit _ (by omega) (by omega)]
  simp
theorem itc_ok {T : GE} {F : Hp} {A : List Addr} (c : Int) (n : Nat) : ItOk T (Itc 0 c n) F A (rngC c n) := fun i M F1 A1 H1 s1 s2 h1 => by
  unfold rngC
  refine ⟨fun hl => by rw [List.length_map, List.length_range] at hl; exact hl, fun d e => ?_⟩
  rw [List.getElem?_map] at e
  obtain ⟨k, e1, rfl⟩ := Option.map_eq_some_iff.mp e
  obtain ⟨h2, h3⟩ := List.getElem?_eq_some_iff.mp e1
  rw [List.length_range] at h2
  rw [List.getElem_range] at h3
  subst h3
  refine ⟨h2, fun x H' y => ?_⟩
  obtain ⟨rfl, rfl⟩ := y
  exact ⟨F1, Grow.refl h1.fs, rfl⟩
theorem Reps.inv3 {T : GE} {F : Hp} {A : List Addr} {d e f : D} {vs : List V} (r : Reps T F A [d, e, f] vs) : ∃ v u w, vs = [v, u, w] ∧ Rep T F A d v ∧ Rep T F A e u ∧ Rep T F A f w := by
  obtain ⟨v, w, rfl, h, r2⟩ := r
  obtain ⟨u, z, rfl, h2, h3⟩ := r2.inv2
  exact ⟨v, u, z, rfl, h, h2, h3⟩
theorem iR3 {X : Cx} {C : Nat → Addr} {tg : Expr} {p pos : Pos} {a b c : Expr} {w : Ax} (hg : Gl X "range") (hm : X.mg "range" = none) (ha : PAG X C [a, b, c] w) (hs : starEach [a, b, c] X.env = (false, eval a X.env) :: starEach [b, c] X.env := by rfl) (hpl : (backTo pos (starEach [b, c] X.env)).any (·.1) = false := by rfl) :
    PIG X C tg (.Call (.Name "range" p) [a, b, c] [] pos) (ixR3 w) := by
  obtain ⟨t, a1, a2⟩ := ha
  refine ⟨_, pi_range3 hg hm a1 hs hpl, fun Γ M ds e σ F A H h s R q => ?_⟩
  obtain ⟨xs, e1, e⟩ := bindS e
  split at e
  · split at e
    · rename_i hl
      obtain ⟨rfl, h0, h1, h2, h3⟩ := hl
      cases e
      refine a2 Γ M _ e1 σ F A H h s _ fun vs F1 H1 g1 r1 => ?_
      obtain ⟨v, u, z, rfl, rv, ru, rz⟩ := r1.inv3
      cases rv
      cases ru
      cases rz
      exact ⟨_, _, _, _, rfl, rgc_ok h0 h1 h2 h3, q _ F1 H1 g1 (itc_ok _ _)⟩
    · cases e
  · cases e
end G
set_option Elab.async false
set_option linter.all false
set_option maxRecDepth 100000
set_option maxHeartbeats 4000000
namespace G
open PySem PySem.Spec PyProof.Rows L2
/-! ### sorted(d): the int keys of a table -/
def iKeys : List (DK × D) → Option (List Int)
  | [] => some []
  | (.i n, _) :: r => (iKeys r).map (n :: ·)
  | _ :: _ => none
theorem iKeys_ok : ∀ {ds : List (DK × D)} {ns : List Int}, iKeys ds = some ns → ds.map (·.1) = ns.map DK.i
  | [], _, e => by cases e; rfl
  | (.i n, d) :: r, _, e => by
    obtain ⟨m, e1, rfl⟩ := Option.map_eq_some_iff.mp (show (iKeys r).map (n :: ·) = some _ from e)
    rw [List.map_cons, List.map_cons, iKeys_ok e1]
  | (.s _, _) :: _, _, e => by cases e
  | (.t _, _) :: _, _, e => by cases e
def sortI (ns : List Int) : List Int := ns.mergeSort fun a b => decide (a ≤ b)
theorem sortI_eq {ns ys : List Int} (h1 : ys.Perm ns) (h2 : ys.Pairwise (· ≤ ·)) : ys = sortI ns := by
  refine List.Perm.eq_of_pairwise (le := fun a b : Int => a ≤ b) (fun a b _ _ x y => Int.le_antisymm x y) h2 ?_ (h1.trans (List.mergeSort_perm _ _).symm)
  have := List.pairwise_mergeSort (le := fun a b : Int => decide (a ≤ b)) (fun a b c x y => by simp at *; omega) (fun a b => by simp; omega) ns
  exact this.imp fun h => of_decide_eq_true h
def gSort (M : Mem) (xs : List D) : Option D := match xs with
  | [x] => (vK M x).bind fun kvs => (iKeys kvs).bind fun ns => if ns.length < 64 then some (.lst ((sortI ns).map .int)) else none
  | _ => none
theorem keys_ints : ∀ {ws : List (Key × V)} {ns : List Int}, (ws.map kx).map (·.1) = ns.map DK.i → ws.map (·.1) = ns.map Sum.inl
  | [], [], _ => rfl
  | [], _ :: _, e => by cases e
  | _ :: _, [], e => by cases e
  | (k, v) :: ws, n :: ns, e => by
    rw [List.map_cons, List.map_cons, List.map_cons] at e
    injection e with e1 e2
    rw [List.map_cons, List.map_cons, keys_ints e2]
    congr 1
    cases k with
    | inl i => injection e1 with e1; rw [e1]
    | inr i => cases e1
theorem cSort {X : Cx} {C : Nat → Addr} (hc : X.calm = true) : CaG X C (.builtin "sorted") gSort := by
  refine ⟨_, call_sortedDI hc, fun M xs z e vs F A H h r Q q => ?_⟩
  unfold gSort at e
  split at e
  · obtain ⟨v, rfl, rv⟩ := r.inv1
    obtain ⟨kvs, e1, e⟩ := bindS e
    obtain ⟨ns, e2, e⟩ := bindS e
    split at e
    · rename_i hl
      cases e
      obtain ⟨a, ws, rfl, ha, r1⟩ := vK_ok h e1 rv
      refine ⟨a, ws, ns, rfl, .inl ha, keys_ints (r1.keys.symm.trans (iKeys_ok e2)), hl, fun ys p hy1 hy2 hp => ?_⟩
      rw [sortI_eq hy1 hy2]
      exact q _ _ _ (Grow.new h.fs hp) (Rep.newLst h.fs hp (reps_ints _))
    · cases e
  · cases e
/-! ### a, b = x, y -/
def sPar (i j : Nat) (fa : Ax) : Sx := fun Γ M => (fa Γ M).bind fun xs => match xs with
  | [x, y] => some (.nx ((Γ.set i (some x)).set j (some y)) M)
  | _ => none
section
variable {X : Cx} {C : Nat → Addr} {W : WX}
theorem sPar_ {i j : Nat} {x y : Str} {a b : Expr} {fa : Ax} {px py pt pos : Pos} {kt k2 pt2} (hc : X.calm = true) (hN : X.N.Nodup) (hi : X.N[i]? = some x) (hj : X.N[j]? = some y) (hij : i ≠ j)
    (hx : X.env.scope.names.lookup x = some .local) (hy : X.env.scope.names.lookup y = some .local) (ha : PAG X C [a, b] fa)
    (hw : swappedStores [.Tuple [.Name x px, .Name y py] kt pt] (.Tuple [a, b] k2 pt2) X.env = pure (some [x, y]) := by rfl)
    (hs : swapsWithSole [.Tuple [.Name x px, .Name y py] kt pt] (.Tuple [a, b] k2 pt2) pos.line X.env = pure false := by rfl) :
    PSG X C W (.Assign [.Tuple [.Name x px, .Name y py] kt pt] (.Tuple [a, b] k2 pt2) pos) (sPar i j fa) := by
  obtain ⟨t, a1, a2⟩ := ha
  refine ⟨_, ps_par hc hN hi hj hij hx hy a1 hw hs, fun Γ M o e σ F A H h s D k => ?_⟩
  obtain ⟨ds, e1, e⟩ := bindS e
  split at e
  · cases e
    refine a2 Γ M _ e1 σ F A H h s _ fun vs F1 H1 g1 r1 => ?_
    obtain ⟨v, w, rfl, rv, rw'⟩ := r1.inv2
    exact ⟨v, w, rfl, k _ F1 A H1 (h.grow g1) (((s.same g1.ff).set rv i).set rw' j) g1.step⟩
  · cases e
end
/-! ### displays of tables with text keys -/
abbrev Kx := Sl → Mem → Option (List (Key × D))
def kd (p : Key × D) : DK × D := (ofKey p.1, p.2)
/-- the pairs that the display has, some behind -/
def PairsAre (T : GE) (F : Hp) (A : List Addr) (ds : List (Key × D)) (ps : List (V × V)) (kvs : List (Key × V)) : Prop := ps = kvs.map (fun kv => (kV kv.1, kv.2)) ∧ kvs.map (·.1) = ds.map (·.1) ∧ RepA T F A (ds.map kd) (kvs.map kx)
def TPsG (T : GE) (trs : List (TE × TE)) (f : Kx) : Prop := ∀ (Γ : Sl) (M : Mem) (ds : List (Key × D)), f Γ M = some ds → ∀ (σ : L2.St) (F : Hp) (A : List Addr) (H : Hp), HR T M F A H → SlotR T F A Γ σ →
  ∀ Q : List (V × V) → Hp → Prop, (∀ ps kvs F' H', Grow F H F' H' → PairsAre T F' A ds ps kvs → Q ps H') → tPairs trs σ H Q
/-- the same, and behind them a pair whose value is a new empty table -/
def TPnG (T : GE) (trs : List (TE × TE)) (f : Kx) (kn : Key) : Prop := ∀ (Γ : Sl) (M : Mem) (ds : List (Key × D)), f Γ M = some ds → ∀ (σ : L2.St) (F : Hp) (A : List Addr) (H : Hp), HR T M F A H → SlotR T F A Γ σ →
  ∀ Q : List (V × V) → Hp → Prop, (∀ ps kvs p F' H', Grow F H F' H' → PairsAre T F' A ds ps kvs → H p = none → F' p = none → H' p = some (.dK []) → Q (ps ++ [(kV kn, .ref p)]) H') → tPairs trs σ H Q
def PPsG (X : Cx) (C : Nat → Addr) (pos : Pos) (keys : List (Option Expr)) (values : List Expr) (f : Kx) : Prop := ∃ trs, PPs X pos keys values trs ∧ TPsG ⟨X.K, C⟩ trs f
def PPnG (X : Cx) (C : Nat → Addr) (pos : Pos) (keys : List (Option Expr)) (values : List Expr) (f : Kx) (kn : Key) : Prop := ∃ trs, PPs X pos keys values trs ∧ TPnG ⟨X.K, C⟩ trs f kn
def kxNil : Kx := fun _ _ => some []
def kxCons (k : Key) (f : Ex) (r : Kx) : Kx := fun Γ M => (f Γ M).bind fun d => (r Γ M).bind fun ds => some ((k, d) :: ds)
section
variable {X : Cx} {C : Nat → Addr} {W : WX} {pos p1 p2 : Pos}
theorem ppNil : PPsG X C pos [] [] kxNil := ⟨_, pps_nil, fun Γ M ds e σ F A H h s Q q => by cases e; exact q [] [] F H (Grow.refl h.fs) ⟨rfl, rfl, rfl⟩⟩
theorem PairsAre.cons {T : GE} {F F' : Hp} {A : List Addr} {ds : List (Key × D)} {ps : List (V × V)} {kvs : List (Key × V)} {k : Key} {d : D} {v : V} (sf : Same F F') (r : Rep T F A d v) (h : PairsAre T F' A ds ps kvs) : PairsAre T F' A ((k, d) :: ds) ((kV k, v) :: ps) ((k, v) :: kvs) := by
  obtain ⟨h1, h2, h3⟩ := h
  exact ⟨by rw [h1]; rfl, by rw [List.map_cons, List.map_cons, h2], v, _, rfl, r.same sf, h3⟩
theorem ppCons {z : Str} {j} {v : Expr} {ks : List (Option Expr)} {vs : List Expr} {f : Ex} {r : Kx} (hv : PEG X C v f) (hr : PPsG X C pos ks vs r) : PPsG X C pos (some (.Constant (.str z) j p1) :: ks) (v :: vs) (kxCons (.inr z) f r) := by
  obtain ⟨t, a1, a2⟩ := hv
  obtain ⟨trs, b1, b2⟩ := hr
  refine ⟨_, pps_cons pe_str a1 b1, fun Γ M ds e σ F A H h s Q q => ?_⟩
  obtain ⟨d, e1, e⟩ := bindS e
  obtain ⟨ds', e2, e⟩ := bindS e
  cases e
  refine a2 Γ M d e1 σ F A H h s _ fun v F1 H1 g1 r1 => ?_
  exact b2 Γ M ds' e2 σ F1 A H1 (h.grow g1) (s.same g1.ff) _ fun ps kvs F2 H2 g2 pr => q _ ((.inr z, v) :: kvs) F2 H2 (g1.trans g2) (pr.cons g2.ff r1)
theorem pnLast {z : Str} {j} : PPnG X C pos [some (.Constant (.str z) j p1)] [.Dict [] [] p2] kxNil (.inr z) := by
  refine ⟨_, pps_cons pe_str pe_dnewK pps_nil, fun Γ M ds e σ F A H h s Q q => ?_⟩
  cases e
  intro p hp
  exact q [] [] p F _ ⟨Same.refl _, h.fs.trans (same_new hp), same_new hp, fun _ _ _ z => z⟩ ⟨rfl, rfl, rfl⟩ hp (h.fs.free hp) upd_same
theorem pnCons {z : Str} {kn : Key} {j} {v : Expr} {ks : List (Option Expr)} {vs : List Expr} {f : Ex} {r : Kx} (hv : PEG X C v f) (hr : PPnG X C pos ks vs r kn) : PPnG X C pos (some (.Constant (.str z) j p1) :: ks) (v :: vs) (kxCons (.inr z) f r) kn := by
  obtain ⟨t, a1, a2⟩ := hv
  obtain ⟨trs, b1, b2⟩ := hr
  refine ⟨_, pps_cons pe_str a1 b1, fun Γ M ds e σ F A H h s Q q => ?_⟩
  obtain ⟨d, e1, e⟩ := bindS e
  obtain ⟨ds', e2, e⟩ := bindS e
  cases e
  refine a2 Γ M d e1 σ F A H h s _ fun v F1 H1 g1 r1 => ?_
  exact b2 Γ M ds' e2 σ F1 A H1 (h.grow g1) (s.same g1.ff) _ fun ps kvs p F2 H2 g2 pr a b c => q _ ((.inr z, v) :: kvs) p F2 H2 (g1.trans g2) (pr.cons g2.ff r1) (g1.hh.free a) b c
end
theorem mergeK_new : ∀ (more acc : List (Key × V)), ((acc ++ more).map (·.1)).Nodup → mergeK acc more = acc ++ more
  | [], acc, _ => (List.append_nil acc).symm
  | p :: r, acc, h => by
    have e : putK acc p.1 p.2 = acc ++ [p] := by
      unfold putK
      rw [if_neg]
      intro hc
      obtain ⟨x, hx, hxe⟩ := List.any_eq_true.mp hc
      rw [List.map_append, List.nodup_append] at h
      exact h.2.2 x.1 (List.mem_map.mpr ⟨x, hx, rfl⟩) p.1 (by simp) (by simpa using hxe)
    show mergeK (putK acc p.1 p.2) r = _
    rw [e, mergeK_new r (acc ++ [p]) (by rw [List.append_assoc]; exact h), List.append_assoc]
    rfl
/-- what a heap is when a table is made and filled -/
theorem grow_made {F H F2 H2 : Hp} {p : Addr} {o o2 : HO} (fs : Same F H) (hp : H p = none) (g : Grow F (upd H p o) F2 H2) : Grow F H F2 (upd H2 p o2) ∧ F2 p = none := by
  have fp : F2 p = none := g.nf p o upd_same (fs.free hp)
  refine ⟨⟨g.ff, fun b u q => ?_, fun b u q => ?_, fun b u q z => g.nf b u (by rw [upd_ne (ne_of_none q hp)]; exact q) z⟩, fp⟩
  · rw [upd_ne (ne_of_none q fp)]
    exact g.fh b u q
  · rw [upd_ne (ne_of_none q hp)]
    exact g.hh b u (by rw [upd_ne (ne_of_none q hp)]; exact q)
def xDisp (f : Kx) : Ex := fun Γ M => (f Γ M).bind fun ds => if ds.length ≤ 15 ∧ (ds.map (·.1)).Nodup then some (.asc .k (ds.map kd)) else none
/-- x = {.., k: {}}: two own tables -/
def sNewDN (i : Nat) (f : Kx) (kn : Key) : Sx := fun Γ M => (f Γ M).bind fun ds => if ds.length ≤ 14 ∧ ((ds.map (·.1)) ++ [kn]).Nodup then
  some (.nx (Γ.set i (some (.loc (M.length + 1)))) (M ++ [some (.asc .k []), some (.asc .k (ds.map kd ++ [(ofKey kn, .loc M.length)]))])) else none
section
variable {X : Cx} {C : Nat → Addr} {W : WX} {pos : Pos}
theorem nDisp {keys : List (Option Expr)} {values : List Expr} {f : Kx} (h : PPsG X C pos keys values f) (hall : keys.all (·.isSome) = true := by rfl) (hl : keys.length = values.length := by rfl) (h0 : keys ≠ [] := by exact List.cons_ne_nil _ _)
    (h15 : keys.length ≤ 15 := by decide) : PNG X C (.Dict keys values pos) (xDisp f) := by
  obtain ⟨trs, a1, a2⟩ := h
  refine ⟨_, pe_disp a1 hall hl h0 h15, fun Γ M d e σ F A H h s Q q => ?_⟩
  obtain ⟨ds, e1, e⟩ := bindS e
  split at e
  · rename_i hd
    cases e
    intro p hp
    have g0 : Grow F H F (upd H p (.dK [])) := ⟨Same.refl _, h.fs.trans (same_new hp), same_new hp, fun _ _ _ z => z⟩
    refine a2 Γ M ds e1 σ F A _ (h.grow g0) s _ fun ps kvs F2 H2 g2 pr => ?_
    obtain ⟨h1, h2, h3⟩ := pr
    obtain ⟨g3, fp⟩ := grow_made (o2 := .dK (mergeK [] kvs)) h.fs hp g2
    have hk : mergeK [] kvs = kvs := mergeK_new kvs [] (by rw [List.nil_append, h2]; exact hd.2)
    refine ⟨g2.hh p _ upd_same, kvs, h1, ?_, q p F2 _ g3 fp hp ⟨_, ⟨kvs, by rw [upd_same, hk], rfl⟩, h3⟩⟩
    have := congrArg List.length h2
    rw [List.length_map, List.length_map] at this
    omega
  · cases e
theorem RepA.kappend {T : GE} {F : Hp} {A : List Addr} {ds es : List (DK × D)} {vs ws : List (DK × V)} (h : RepA T F A ds vs) (k : RepA T F A es ws) : RepA T F A (ds ++ es) (vs ++ ws) := h.append k
theorem sNewDN_ {i : Nat} {x : Str} {py : Pos} {keys : List (Option Expr)} {values : List Expr} {f : Kx} {kn : Key} {spos : Pos} (hN : X.N.Nodup) (hi : X.N[i]? = some x) (hx : Loc X.env.scope x) (h : PPnG X C pos keys values f kn) (hall : keys.all (·.isSome) = true := by rfl) (hl : keys.length = values.length := by rfl) (h0 : keys ≠ [] := by exact List.cons_ne_nil _ _)
    (h15 : keys.length ≤ 15 := by decide) (hs : swapsWithSole [.Name x py] (.Dict keys values pos) spos.line X.env = pure false := by rfl) (hw : swappedStores [.Name x py] (.Dict keys values pos) X.env = pure none := by rfl)
    (hf : X.fn x = true ∨ X.env.scope.names.lookup x = some .local := by first | exact .inl rfl | exact .inr rfl | assumption) : PSG X C W (.Assign [.Name x py] (.Dict keys values pos) spos) (sNewDN i f kn) := by
  obtain ⟨trs, a1, a2⟩ := h
  refine ⟨_, ps_asg (pe_disp a1 hall hl h0 h15) (pg_name hN hi hx hf) hs hw, fun Γ M o e σ F A H h s D k => ?_⟩
  obtain ⟨ds, e1, e⟩ := bindS e
  split at e
  · rename_i hd
    cases e
    intro p hp
    have g0 : Grow F H F (upd H p (.dK [])) := ⟨Same.refl _, h.fs.trans (same_new hp), same_new hp, fun _ _ _ z => z⟩
    refine a2 Γ M ds e1 σ F A _ (h.grow g0) s _ fun ps kvs q F2 H2 g2 pr hq fq hq2 => ?_
    obtain ⟨h1, h2, h3⟩ := pr
    have hqp : q ≠ p := fun z => by rw [z, upd_same] at hq; cases hq
    have hq0 : H q = none := by rw [upd_ne hqp] at hq; exact hq
    obtain ⟨g3, fp⟩ := grow_made (o2 := .dK (mergeK [] (kvs ++ [(kn, .ref q)]))) h.fs hp g2
    have hk : mergeK [] (kvs ++ [(kn, V.ref q)]) = kvs ++ [(kn, .ref q)] := mergeK_new _ [] (by
      rw [List.nil_append, List.map_append, h2]
      exact hd.2)
    have hlen := congrArg List.length h2
    rw [List.length_map, List.length_map] at hlen
    refine ⟨g2.hh p _ upd_same, kvs ++ [(kn, .ref q)], by rw [h1, List.map_append]; rfl, by rw [List.length_append, List.length_singleton]; omega, ?_⟩
    have hqq : upd H2 p (.dK (mergeK [] (kvs ++ [(kn, V.ref q)]))) q = some (.dK []) := by rw [upd_ne hqp]; exact hq2
    obtain ⟨n1, n2, n3⟩ := nAdd (c := .asc .k []) h g3 fq hq0 ⟨[], ⟨[], hqq, rfl⟩, rfl⟩
    have np : p ∉ A ++ [q] := fun z => by
      rcases List.mem_append.mp z with z | z
      · obtain ⟨u, e⟩ := h.al p z
        rw [hp] at e; cases e
      · exact hqp (List.mem_singleton.mp z).symm
    have hup := n2.px
    have h3' : RepA ⟨X.K, C⟩ F2 (A ++ [q]) (ds.map kd) (kvs.map kx) := RepA.mono (Same.refl _) _ _ h3
    have n4 := n1.add (c := .asc .k (ds.map kd ++ [(ofKey kn, .loc M.length)])) fp np ⟨_, ⟨kvs ++ [(kn, .ref q)], by rw [upd_same, hk], rfl⟩, by
      rw [List.map_append]
      exact h3'.kappend ⟨.ref q, [], rfl, n3, rfl⟩⟩
    have st : Step F A H F2 ((A ++ [q]) ++ [p]) (upd H2 p (.dK (mergeK [] (kvs ++ [(kn, V.ref q)])))) := ⟨n2.ff, n2.kp, n2.nf, [q, p], by rw [List.append_assoc]; rfl, fun b hb => by
      rcases List.mem_cons.mp hb with z | z
      · subst z
        exact ⟨hq0, fun z => by
          obtain ⟨u, e⟩ := h.al b z
          rw [hq0] at e; cases e⟩
      · have := List.mem_singleton.mp z
        subst this
        exact ⟨hp, fun z => np (List.mem_append_left _ z)⟩⟩
    have e2 : M ++ [some (G.D.asc .k []), some (G.D.asc .k (ds.map kd ++ [(ofKey kn, .loc M.length)]))] = (M ++ [some (G.D.asc .k [])]) ++ [some (G.D.asc .k (ds.map kd ++ [(ofKey kn, .loc M.length)]))] := by rw [List.append_assoc]; rfl
    have rp : Rep ⟨X.K, C⟩ F2 ((A ++ [q]) ++ [p]) (.loc (M.length + 1)) (.ref p) := ⟨p, by
      rw [List.getElem?_append_right (by rw [List.length_append, List.length_singleton, h.len]; exact Nat.le_refl _), List.length_append, List.length_singleton, h.len, Nat.sub_self]
      rfl, rfl⟩
    exact k _ F2 ((A ++ [q]) ++ [p]) _ (by rw [e2]; exact n4) ((st.slots s).set rp i) st
  · cases e
/-! ### t[k] = {}: an own table in an own table -/
def kPutK (c y d : D) : Option D := match c with
  | .asc .k kvs => (kyOf y).bind fun k => if kvs.length < 1000000 then some (.asc .k (putA kvs (ofKey k) d)) else none
  | _ => none
def sPutN (fo fi fv : Ex) : Sx := fun Γ M => (fv Γ M).bind fun c => (fo Γ (M ++ [some c])).bind fun x => (fi Γ (M ++ [some c])).bind fun y => withLoc (M ++ [some c]) x fun n t => (kPutK t y (.loc M.length)).bind fun c' => some (.nx Γ ((M ++ [some c]).set n (some c')))
theorem sPutN_ {o i e : Expr} {fo fi fv : Ex} {pos' : Pos} (hu : X.A.units + 64 < cLine) (ho : PEG X C o fo) (hi : PEG X C i fi) (he : PNG X C e fv) (hs : swapsWith e (some (.Subscript o i pos')) pos.line X.env = pure false := by rfl) :
    PSG X C W (.Assign [.Subscript o i pos'] e pos) (sPutN fo fi fv) := by
  obtain ⟨to, o1, o2⟩ := ho
  obtain ⟨ti, i1, i2⟩ := hi
  obtain ⟨tv, v1, v2⟩ := he
  refine ⟨_, ps_dput (by omega) o1 i1 v1 hs, fun Γ M o e σ F A H h s D kk => ?_⟩
  obtain ⟨c, q1, e⟩ := bindS e
  obtain ⟨x, q2, e⟩ := bindS e
  obtain ⟨y, q3, e⟩ := bindS e
  obtain ⟨n, t, rfl, hc, e⟩ := withLoc_inv e
  obtain ⟨c', q4, e⟩ := bindS e
  cases e
  refine v2 Γ M c q1 σ F A H h s _ fun p F1 H1 g1 np hp cc => ?_
  obtain ⟨h1, s1, r1⟩ := nAdd h g1 np hp cc
  refine o2 Γ _ _ q2 σ F1 _ H1 h1 (s1.slots s) _ fun u F2 H2 g2 r2 => ?_
  refine i2 Γ _ y q3 σ F2 _ H2 (h1.grow g2) ((s1.slots s).same g2.ff) _ fun w F3 H3 g3 r3 => ?_
  obtain ⟨a, m1, rfl⟩ := r2
  have h3 := (h1.grow g2).grow g3
  have rd : Rep ⟨X.K, C⟩ F3 (A ++ [p]) (.loc M.length) (.ref p) := r1
  have hcont := h3.mem _ _ _ hc m1
  unfold kPutK at q4
  split at q4
  · obtain ⟨k, q5, q6⟩ := bindS q4
    split at q6
    · rename_i hl
      cases q6
      obtain ⟨vs, ⟨ws, w1, rfl⟩, w2⟩ := hcont
      have := kyOf_ok q5 r3
      subst this
      have hl2 := w2.len
      rw [List.length_map] at hl2
      obtain ⟨z1, z2⟩ := h3.write (o := .dK (putK ws k (.ref p))) (c' := G.D.asc .k _) hc m1 ⟨_, ⟨_, upd_same, rfl⟩, put_k rd k w2⟩
      exact ⟨a, _, rfl, DPut.k w1 (by rw [← hl2]; exact Nat.lt_of_lt_of_le hl (by decide)), kk σ F3 _ _ z1 (((s1.slots s).same g2.ff).same g3.ff) ((s1.trans (g2.trans g3).step).trans z2)⟩
    · cases q6
  · cases q4
end
/-! ### an own table in an own table is frozen -/
def unloc (m : Nat) (c : D) (kvs : List (DK × D)) : List (DK × D) := kvs.map fun p => match p.2 with
  | .loc j => if j = m then (p.1, c) else p
  | _ => p
def frzK (i : Nat) (k : DK) : Out → Option Out
  | .nx Γ M => (xVar i Γ M).bind fun x => withLoc M x fun n t => match t with
    | .asc .k kvs => (match getA kvs k with
      | some (.loc m) => (match M[m]? with
        | some (some c) => if locFree c = true ∧ m ≠ n then some (.nx Γ ((M.set m none).set n (some (.asc .k (unloc m c kvs))))) else none
        | _ => none)
      | _ => none)
    | _ => none
  | o => some o
def sFrzK (i : Nat) (k : DK) (s : Sx) : Sx := fun Γ M => (s Γ M).bind (frzK i k)
theorem HR.redesc {T : GE} {M : Mem} {F H : Hp} {A : List Addr} (h : HR T M F A H) {n : Nat} {c c' : D} {a : Addr} (e1 : M[n]? = some (some c)) (e2 : A[n]? = some a) (k : Cont T F A H c' a) : HR T (M.set n (some c')) F A H := by
  have hn : n < M.length := (List.getElem?_eq_some_iff.mp e1).1
  refine ⟨h.fs, h.nd, by rw [List.length_set]; exact h.len, fun m d b q1 q2 => ?_, fun m d b q1 q2 => ?_, h.al, fun m b q1 q2 => ?_⟩
  · by_cases hm : n = m
    · subst hm
      exact h.fr n c b e1 q2
    · rw [List.getElem?_set_ne hm] at q1
      exact h.fr m d b q1 q2
  · by_cases hm : n = m
    · subst hm
      rw [List.getElem?_set_self hn] at q1
      cases q1
      rw [e2] at q2
      cases q2
      exact k
    · rw [List.getElem?_set_ne hm] at q1
      exact h.mem m d b q1 q2
  · by_cases hm : n = m
    · subst hm
      rw [List.getElem?_set_self hn] at q1
      cases q1
    · rw [List.getElem?_set_ne hm] at q1
      exact h.dd m b q1 q2
theorem RepA.unloc {T : GE} {F : Hp} {A : List Addr} {m : Nat} {c : D} {a : Addr} (ha : A[m]? = some a) (rc : Rep T F A c (.ref a)) : ∀ {kvs : List (DK × D)} {vs : List (DK × V)}, RepA T F A kvs vs → RepA T F A (unloc m c kvs) vs
  | [], _, h => h
  | (k, d) :: r, _, ⟨v, w, h1, h2, h3⟩ => by
    subst h1
    have ih := RepA.unloc ha rc h3
    unfold G.unloc at ih ⊢
    rw [List.map_cons]
    split
    · rename_i j hj
      dsimp only at hj
      subst hj
      split
      · rename_i e
        subst e
        obtain ⟨b, q1, rfl⟩ := h2
        rw [ha] at q1
        cases q1
        exact ⟨_, w, rfl, rc, ih⟩
      · exact ⟨v, w, rfl, h2, ih⟩
    · exact ⟨v, w, rfl, h2, ih⟩
theorem TSG.frzK {T : GE} {W : WX} {t : TS} {s : Sx} (i : Nat) (k : DK) (h : TSG T W t s) : TSG T W t (sFrzK i k s) := by
  intro Γ M o e σ F A H hh ss D kk
  obtain ⟨o1, e1, e⟩ := bindS e
  refine h Γ M o1 e1 σ F A H hh ss D ?_
  cases o1 with
  | nx Γ1 M1 =>
    obtain ⟨x, e2, e3⟩ := bindS (show (xVar i Γ1 M1).bind _ = some o from e)
    obtain ⟨n, t0, rfl, e4, e5⟩ := withLoc_inv e3
    split at e5
    · rename_i kvs
      split at e5
      · rename_i m hm
        split at e5
        · rename_i c hc
          split at e5
          · rename_i hq
            cases e5
            intro σ2 F2 A2 H2 h2 s2 st2
            obtain ⟨a, F3, q1, q2, q3, q4⟩ := h2.freeze hc
            have hn : (M1.set m none)[n]? = some (some (.asc .k kvs)) := by rw [List.getElem?_set_ne hq.2]; exact e4
            have hA : ∃ b, A2[n]? = some b := by
              have := (List.getElem?_eq_some_iff.mp e4).1
              rw [← h2.len] at this
              exact ⟨A2[n], by simp [this]⟩
            obtain ⟨b, hb⟩ := hA
            obtain ⟨vs, z1, z2⟩ := q2.mem n _ b hn hb
            have q5 := q2.redesc (c' := .asc .k (unloc m c kvs)) hn hb ⟨vs, z1, z2.unloc q1 q4⟩
            exact kk σ2 F3 A2 H2 q5 (q3.slots s2) (st2.trans q3)
          · cases e5
        · cases e5
      · cases e5
    · cases e5
  | rt d M1 => cases e; exact kk
  | bk Γ1 M1 => cases e; exact kk
  | ct Γ1 M1 => cases e; exact kk
  | ex x Γ1 M1 => cases e; exact kk
theorem sFrzK_ {X : Cx} {C : Nat → Addr} {W : WX} {st : Stmt} {s : Sx} (i : Nat) (k : DK) (h : PSG X C W st s) : PSG X C W st (sFrzK i k s) := let ⟨t, a, b⟩ := h; ⟨t, a, b.frzK i k⟩
end G
set_option Elab.async false
set_option linter.all false
set_option maxRecDepth 100000
set_option maxHeartbeats 4000000
namespace G
open PySem PySem.Spec PyProof.Rows L2
/-! ### texts: split, join, startswith, str(..) -/
def gSplit (_ : Mem) (x y : D) : Option D := match x, y with
  | .str a, .str b => if (b.length == 0) = false ∧ a.length ≤ 1000000 then some (.lst ((Txt.split a b).map .str)) else none
  | _, _ => none
def gStarts (_ : Mem) (x y : D) : Option D := match x, y with
  | .str a, .str b => some (.bl (Txt.startswith a b))
  | _, _ => none
def gJoin (M : Mem) (x y : D) : Option D := match x with
  | .str a => (vS M y).bind fun ds => (strsOf ds).bind fun ys => if (ys.map (·.length)).sum + ys.length * a.length ≤ 1000000 then some (.str (Txt.join a ys)) else none
  | _ => none
def gStrOf (_ : Mem) (xs : List D) : Option D := match xs with
  | [.int i] => if numOk i = true then some (.str (toString i)) else none
  | [.str a] => some (.str a)
  | _ => none
section
variable {X : Cx} {C : Nat → Addr} {o e : Expr} {fo fe : Ex} {apos pos : Pos}
theorem nSplit (ho : PEG X C o fo) (he : PEG X C e fe) (hs : starEach [e] X.env = [(false, eval e X.env)] := by rfl) (hbase : attributeBase o "split" X.env (eval o X.env) = eval o X.env := by rfl) (hline : (apos.endLine == pos.line) = true := by rfl) :
    PNG X C (.Call (.Attribute o "split" apos) [e] [] pos) (xBin gSplit fo fe) := by
  obtain ⟨to, o1, o2⟩ := ho
  obtain ⟨te, e1, e2⟩ := he
  refine ⟨_, pe_split o1 e1 hs hbase hline, fun Γ M d q σ F A H h s Q k => ?_⟩
  obtain ⟨x, q1, q⟩ := bindS q
  obtain ⟨y, q2, q⟩ := bindS q
  refine o2 Γ M x q1 σ F A H h s _ fun v F1 H1 g1 r1 => ?_
  unfold gSplit at q
  split at q
  · split at q
    · rename_i hl
      cases q
      cases r1
      refine ⟨⟨_, rfl⟩, ?_⟩
      refine e2 Γ M _ q2 σ F1 A H1 (h.grow g1) (s.same g1.ff) _ fun u F2 H2 g2 r2 => ?_
      cases r2
      refine ⟨_, _, rfl, rfl, hl.1, by have := sz1 hl.2; rw [sizeLine_eq]; omega, ?_⟩
      have fs2 := g2.fh
      intro p hp
      exact k p F2 _ ((g1.trans g2).trans ⟨Same.refl _, fs2.trans (same_new hp), same_new hp, fun _ _ _ z => z⟩) (fs2.free hp) ((g1.trans g2).hh.free hp) ⟨_, upd_same, reps_strs _⟩
    · cases q
  · cases q
theorem gJoin_ (ho : PEG X C o fo) (he : PEG X C e fe) (hs : starEach [e] X.env = [(false, eval e X.env)] := by rfl) (hbase : attributeBase o "join" X.env (eval o X.env) = eval o X.env := by rfl) (hline : (apos.endLine == pos.line) = true := by rfl) :
    PEG X C (.Call (.Attribute o "join" apos) [e] [] pos) (xBin gJoin fo fe) := by
  obtain ⟨to, o1, o2⟩ := ho
  obtain ⟨te, e1, e2⟩ := he
  refine ⟨_, pe_join o1 e1 hs hbase hline, fun Γ M d q σ F A H h s Q k => ?_⟩
  obtain ⟨x, q1, q⟩ := bindS q
  obtain ⟨y, q2, q⟩ := bindS q
  refine o2 Γ M x q1 σ F A H h s _ fun v F1 H1 g1 r1 => ?_
  unfold gJoin at q
  split at q
  · cases r1
    refine ⟨⟨_, rfl⟩, ?_⟩
    refine e2 Γ M _ q2 σ F1 A H1 (h.grow g1) (s.same g1.ff) _ fun u F2 H2 g2 r2 => ?_
    obtain ⟨ds, q3, q⟩ := bindS q
    obtain ⟨ys, q4, q⟩ := bindS q
    split at q
    · rename_i hl
      cases q
      obtain ⟨p, vs, rfl, hp, r3⟩ := vS_ok ((h.grow g1).grow g2) q3 r2
      have := strsOf_ok q4 r3
      subst this
      exact ⟨_, p, ys, rfl, rfl, hp, by omega, k _ F2 H2 (g1.trans g2) rfl⟩
    · cases q
  · cases q
theorem gStarts_ (ho : PEG X C o fo) (he : PEG X C e fe) (hs : starEach [e] X.env = [(false, eval e X.env)] := by rfl) (hbase : attributeBase o "startswith" X.env (eval o X.env) = eval o X.env := by rfl) (hline : (apos.endLine == pos.line) = true := by rfl) :
    PEG X C (.Call (.Attribute o "startswith" apos) [e] [] pos) (xBin gStarts fo fe) := by
  obtain ⟨to, o1, o2⟩ := ho
  obtain ⟨te, e1, e2⟩ := he
  refine ⟨_, pe_m1 F.slot_str_startswith F.type_str_startswith mt_startswith o1 e1 hs hbase hline, fun Γ M d q σ F A H h s Q k => ?_⟩
  obtain ⟨x, q1, q⟩ := bindS q
  obtain ⟨y, q2, q⟩ := bindS q
  refine o2 Γ M x q1 σ F A H h s _ fun v F1 H1 g1 r1 => ?_
  unfold gStarts at q
  split at q
  · cases q
    cases r1
    refine ⟨⟨_, rfl⟩, ?_⟩
    refine e2 Γ M _ q2 σ F1 A H1 (h.grow g1) (s.same g1.ff) _ fun u F2 H2 g2 r2 => ?_
    cases r2
    exact ⟨_, _, rfl, rfl, k _ F2 H2 (g1.trans g2) rfl⟩
  · cases q
theorem cStr : CaG X C (.type "str") gStrOf := by
  refine ⟨_, call_str_int.or SkE.call_str_str, fun M xs z e vs F A H h r Q q => ?_⟩
  unfold gStrOf at e
  split at e
  · split at e
    · rename_i hk
      cases e
      obtain ⟨v, rfl, rv⟩ := r.inv1
      cases rv
      refine .inl ⟨_, rfl, ?_, q _ F H (Grow.refl h.fs) rfl⟩
      have := numOk_nat hk
      rename_i i0
      by_cases h0 : i0.natAbs = 0
      · rw [h0]; decide
      · have := (Nat.log2_lt h0).mpr this
        omega
    · cases e
  · cases e
    obtain ⟨v, rfl, rv⟩ := r.inv1
    cases rv
    exact .inr ⟨_, rfl, q _ F H (Grow.refl h.fs) rfl⟩
  · cases e
end

/-! ### d.get(k, x), tuple(xs) -/
def gGetD (M : Mem) (x y z : D) : Option D := (gGet M x y).map fun o => o.getD z
def xGet2 (fo fi fz : Ex) : Ex := fun Γ M => (fo Γ M).bind fun x => (fi Γ M).bind fun y => (fz Γ M).bind fun z => gGetD M x y z
def gTupOf (_ : Mem) (xs : List D) : Option D := match xs with
  | [.lst ds] => some (.tup ds)
  | _ => none
section
variable {X : Cx} {C : Nat → Addr} {o e f : Expr} {fo fi fz : Ex} {apos cpos : Pos}
theorem gGet2_ (hu : X.A.units + 64 < cLine) (ho : PEG X C o fo) (hi : PEG X C e fi) (hz : PEG X C f fz) (m : M2 X o "get" apos e f cpos) : PEG X C (.Call (.Attribute o "get" apos) [e, f] [] cpos) (xGet2 fo fi fz) := by
  obtain ⟨to, o1, o2⟩ := ho
  obtain ⟨ti, i1, i2⟩ := hi
  obtain ⟨tz, z1, z2⟩ := hz
  refine ⟨_, pe_dget2 (by omega) o1 i1 z1 m, fun Γ M d q σ F A H h s Q k => ?_⟩
  obtain ⟨x, q1, q⟩ := bindS q
  obtain ⟨y, q2, q⟩ := bindS q
  obtain ⟨z, q3, q⟩ := bindS q
  obtain ⟨ov, q4, rfl⟩ := Option.map_eq_some_iff.mp q
  refine o2 Γ M x q1 σ F A H h s _ fun v F1 H1 g1 r1 => ?_
  have hd : ∃ a, v = .ref a ∧ IsD H1 a := by
    have h1 := h.grow g1
    unfold gGet at q4
    split at q4
    · rename_i kvs hk
      obtain ⟨a, ws, rfl, ha, _⟩ := vK_ok h1 hk r1
      exact ⟨a, rfl, .inl ⟨ws, .inl ha⟩⟩
    · obtain ⟨kvs, hk, _⟩ := bindS q4
      obtain ⟨a, ws, rfl, ha, _⟩ := vT_ok h1 hk r1
      exact ⟨a, rfl, .inr ⟨ws, .inl ha⟩⟩
  obtain ⟨a, rfl, hd⟩ := hd
  refine ⟨a, rfl, hd, ?_⟩
  refine i2 Γ M y q2 σ F1 A H1 (h.grow g1) (s.same g1.ff) _ fun u F2 H2 g2 r2 => ?_
  refine z2 Γ M z q3 σ F2 A H2 ((h.grow g1).grow g2) ((s.same g1.ff).same g2.ff) _ fun w F3 H3 g3 r3 => ?_
  obtain ⟨a', ov', e1, e2, _, e3⟩ := gGet_ok (((h.grow g1).grow g2).grow g3) q4 ((r1.same g2.ff).same g3.ff) (r2.same g3.ff)
  cases e1
  refine ⟨ov', e2, k _ F3 H3 ((g1.trans g2).trans g3) ?_⟩
  cases ov with
  | none =>
    have e3 : ov' = none := e3
    subst e3
    exact r3
  | some d0 =>
    obtain ⟨v0, e4, e5⟩ := e3
    subst e4
    exact e5
theorem cTupOf : CaG X C (.type "tuple") gTupOf := by
  refine ⟨_, call_tuple_of, fun M xs z e vs F A H h r Q q => ?_⟩
  unfold gTupOf at e
  split at e
  · cases e
    obtain ⟨v, rfl, rv⟩ := r.inv1
    obtain ⟨a, ws, rfl, ha, r1⟩ := rv
    exact ⟨a, ws, rfl, .inl ⟨SqL.of (h.fs _ _ ha), fun l hl => q _ _ _ (Grow.new h.fs hl) (Rep.newTup h.fs hl r1)⟩⟩
  · cases e
end
end G
set_option Elab.async false
set_option linter.all false
set_option maxRecDepth 100000
set_option maxHeartbeats 4000000
namespace G
open PySem PySem.Spec PyProof.Rows L2
/-! ### an exception that is kept: isinstance, its field -/
/-- what is told of an exception's class -/
structure XCls (K : PySem.W.Frag) (C : Addr) : Prop where
  cl : (PySem.W.clsIn K C).isSome = true
  ga : PySem.W.findIn K (.ref C) "__getattribute__" = some (some (.builtin "BaseException.__getattribute__"))
  gg : PySem.W.findIn K (.ref C) "__getattr__" = some none
  sub : PySem.W.subIn K (.ref C) (.type "BaseException") = some true
  kc : PySem.W.findIn K (.ref C) "__class__" = some (some (.builtin "object.__class__"))
  sp : PySem.W.specialIn K (.builtin "object.__class__") "__get__" = some (some (.builtin "getset_descriptor.__get__"))
  tk : PySem.W.takesIn K (.builtin "object.__class__") = some true
  mr : PySem.W.mroIn K C (.type "object") = some true
section
variable {X : Cx}
/-- a kept exception of class C with a dict that holds fs -/
def XAt (H : Hp) (a C : Addr) (fs : List (Str × V)) : Prop := ∃ oe dd, H a = some (.ext fun h => h.get? a = some oe) ∧ oe.cls = .ref C ∧ (∃ vs, oe.data = .fields vs) ∧ oe.dict = some dd ∧ H dd = some (.xd fs)
theorem XAt.inst {pins : List (Addr × Obj)} {σ : L2.St} {H : Hp} {s : Shared} {a C : Addr} {fs : List (Str × V)} (I : L2.Inv X pins σ H s) (h : XAt H a C fs) : ∃ (oe od : Obj) (mA : Str → Option Value), PySem.W.InstAt s.heap a oe C (some od) ∧ (∀ f, PySem.W.lookIn f od = some (mA f)) ∧ ∀ f, RelO (fs.lookup f) (mA f) := by
  obtain ⟨oe, dd, h1, h2, ⟨vs, h3⟩, h4, h5⟩ := h
  obtain ⟨φ, _, _⟩ := (show ObjOk X.prog X.w H s.heap a (.ext fun h => h.get? a = some oe) from I.hok a _ h1)
  obtain ⟨mA, hns, hr⟩ := (show ObjOk X.prog X.w H s.heap dd (.xd fs) from I.hok dd _ h5)
  obtain ⟨od, ho, hl⟩ := lookIn_ns hns
  exact ⟨oe, od, mA, ⟨φ, h2, by unfold PySem.W.notCls; rw [h3] <;> rfl, by rw [h4]; exact ho⟩, hl, hr⟩
theorem call_isiX : CallR X (.builtin "isinstance") (fun xs H Q => ∃ a C fs c u b, xs = [.ref a, c] ∧ ClsV c u ∧ XAt H a C fs ∧ XCls X.K C ∧ PySem.W.kitOne X.K (.ref C) u = some b ∧ Q (.bl b) H) := by
  intro pins s σ H xs us Q I r h
  obtain ⟨a, C, fs, c, u, b, rfl, k, hx, T, e, q⟩ := h
  obtain ⟨u1, u2, rfl, r1, r2⟩ := vals2 r
  cases (show u1 = Value.ref a from r1)
  have e2 := k.eq r2
  subst e2
  obtain ⟨oe, od, mA, J, _⟩ := hx.inst I
  exact PySem.W.kia_one (PySem.W.kitx_exc T.cl T.ga T.gg T.sub T.kc T.sp T.tk T.mr) I.kIn J e (fun z => by cases z) fun tk => ⟨.bl b, H, I.tok tk, rfl, q⟩
/-- e.f of a kept exception -/
def tXFld (K : PySem.W.Frag) (te : TE) (f : Str) : TE := fun σ H Q => te σ H fun x H1 => ∃ a C fs v, x = .ref a ∧ XAt H1 a C fs ∧ XCls K C ∧ PySem.W.hasDictIn K C = true ∧ PySem.W.findIn K (.ref C) f = some none ∧ fs.lookup f = some v ∧ Q v H1
theorem pe_xfld {e : Expr} {te : TE} {f : Str} {pos : Pos} (he : PE X e te) (hb : attributeBase e f X.env (eval e X.env) = eval e X.env) : PE X (.Attribute e f pos) (tXFld X.K te f) := by
  refine ⟨fun pins s σ H Q I h => ?_⟩
  refine attr_of hb (thn (he.run pins s σ H _ I h) fun u s1 ⟨x, H1, I1, rx, a, C, fs, v, ex, hx, T, hd, hn, hl, q⟩ => ?_)
  subst ex
  obtain rfl : u = Value.ref a := rx
  obtain ⟨oe, od, mA, J, hk, hr⟩ := hx.inst I1
  obtain ⟨u, hu, ru⟩ := RelO.some_of (v := v) (o := mA f) (by rw [← hl]; exact hr f)
  exact HandSPX.exc_get I1.kIn J T.ga T.gg T.sub (PySem.W.findObj_own hd hn rfl (by rw [hk, hu])) (handed_of ru) ⟨v, H1, I1.tok _, ru, q⟩
end
end G
set_option Elab.async false
set_option linter.all false
set_option maxRecDepth 100000
set_option maxHeartbeats 4000000
namespace G
open PySem PySem.Spec PyProof.Rows L2
/-! ### the head is asked more -/
/-- what the module's names reach, and the interpreter's own notes -/
def asE (g : Addr → Option Obj) (n : Nat) : List Addr := cStatics :: He.asD g n
def obsE (n : Nat) (fa : List He.Fa) (fn : List He.DefD) (ex : PySem.W.Frag → Bool) (g : Addr → Option Obj) : Bool × He.AlD := (ex (He.frG g (asE g n)), He.obsD fa fn (He.frG g (asE g n)))
def hookE (n : Nat) (fa : List He.Fa) (fn : List He.DefD) (ex : PySem.W.Frag → Bool) : PySem.W.Hook where
  α := Bool × He.AlD
  obs := fun s => obsE n fa fn ex s.heap.get?
  val := fun _ => (true, He.valD fn)
  says := fun _ h => ∃ K : PySem.W.Frag, K.In h ∧ He.SaysD fa fn K ∧ ex K = true
  of := fun _ _ e => ⟨_, He.frG_in, congrArg Prod.snd e, congrArg Prod.fst e⟩
  keeps := fun _ _ _ ⟨K, hK, c⟩ k => ⟨K, PySem.W.Frag.In.keeps hK k, c⟩
theorem obsE_eq {n : Nat} {fa : List He.Fa} {fn : List He.DefD} {ex : PySem.W.Frag → Bool} {g : Addr → Option Obj} {s : Shared} (h : ∀ a, g a = s.heap.get? a) : obsE n fa fn ex g = (hookE n fa fn ex).obs s := by
  have e : g = s.heap.get? := funext h
  rw [e] <;> rfl
end G
set_option Elab.async false
set_option linter.all false
set_option maxRecDepth 100000
set_option maxHeartbeats 4000000
namespace G
open PySem PySem.Spec PyProof.Rows L2
section
variable {X : Cx} {e : Expr} {es : List Expr} {ta : TA} {x : Str} {M : Addr} {mc : Value} {p1 p2 pos : Pos}
/-- M.__init__(self, ..), M an own class that has ValueError's -/
theorem pe_meinit {pl : Sem Bool} (hg : Gl X x) (hm : X.mg x = some (.ref M)) (r : ClX.CRead X.K M mc) (vV : PySem.W.findCls X.K (.ref M) mc "__init__" = some (.val (.builtin "ValueError.__init__"))) (ha : PA X (e :: es) ta)
    (hc : eval (.Call (.Attribute (.Name x p1) "__init__" p2) (e :: es) [] pos) X.env = (do
      let ov ← eval (.Name x p1) X.env
      standAt p2.atName
      let (f, first) ← holding [ov] (getMethod ov "__init__" pl)
      callWith pos f first (backTo pos (starEach (e :: es) X.env)) (backToKw pos (keywordEach [] X.env))) := by rfl)
    (hdb : (x == ("__debug__" : Str)) = false := by decide)
    (he : starEach (e :: es) X.env = (false, eval e X.env) :: starEach es X.env := by rfl) (hpl : (backTo pos (starEach es X.env)).any (·.1) = false := by rfl) :
    PE X (.Call (.Attribute (.Name x p1) "__init__" p2) (e :: es) [] pos) (L2.tVeI X.K ta) := by
  refine ⟨fun pins s σ H Q I h => ?_⟩
  refine PySem.W.methodCall_KW (ld_glob I hg hm ?_ hdb) hc
  refine PySem.W.method_cls I.kIn r.ga (PySem.W.cls_value I.kIn r.rd vV (by first | rfl | decide +kernel | exact PySem.W.handed_on rfl) ?_)
  have I1 := I.tok (s.toks + 1)
  refine PyProof.Rows.callWith_method1 (thn (ha.run pos pins _ σ H _ I1 h) fun us s1 ⟨vs, H1, I2, r1, a, C, ws, ev, hl, T, ea, q⟩ => ?_) he hpl
  subst ev
  cases r1 with
  | @cons _ u0 _ ur ra rw' =>
    have e0 : u0 = .ref a := ra
    subst e0
    exact oinit_ok T I2 ea (by rw [← Paired.length rw', sizeLine_eq]; omega) fun s' J => ⟨.non, H1, J, rfl, q⟩
end
end G
set_option Elab.async false
set_option linter.all false
set_option maxRecDepth 100000
set_option maxHeartbeats 4000000
namespace G
open PySem PySem.Spec PyProof.Rows L2
/-! ### raise C(n): an own exception with the field row -/
/-- the promise of such an __init__ -/
def spRow (Cc : Addr) : Sp := fun vs H Q _ => ∃ a n, vs = [.ref a, .int n] ∧ H a = some (exo a Cc none) ∧ ∀ dx, H dx = none → dx ≠ a → Q .non (upd (upd H dx (exd dx [("row", .int n)])) a (exo a Cc (some dx)))
def sRaise (c : Nat) (fe : Ax) : Sx := fun Γ M => (fe Γ M).bind fun xs => match xs with
  | [.int n] => some (.ex ⟨c, some n⟩ Γ M)
  | _ => none
section
variable {X : Cx} {C : Nat → Addr} {W : WX} {e : Expr} {fe : Ax} {p pos pos2 : Pos}
theorem sRaise_ {CX : CXT} {c : Nat} {x : Str} {fI : Addr} {k : Nat} {fd : FuncData} {ps : List Str} (hc : X.calm = true) (tk : Takes X W) (T : OexC X.K (C c)) (iC : PySem.W.findIn X.K (.ref (C c)) "__init__" = some (some (.ref fI))) (tI : PySem.W.typeIn X.K (.ref fI) = some (.type "function"))
    (F1 : FnOk X.prog X.w X.K X.mg X.base CX k fI fd ps (spRow (C c))) (hr : Room (k + 1) X.A) (hb : Binds X.K fd ps []) (hx : Passes CX X (fun _ _ _ => False)) (hg : Gl X x) (hm : X.mg x = some (.ref (C c))) (ha : PAG X C [e] fe) (hdb : (x == ("__debug__" : Str)) = false := by decide)
    (he : starEach [e] X.env = (false, eval e X.env) :: starEach [] X.env := by rfl) (hpl : (backTo pos (starEach [] X.env)).any (·.1) = false := by rfl) :
    PSG X C W (.Raise (some (.Call (.Name x p) [e] [] pos)) none pos2) (sRaise c fe) := by
  obtain ⟨t, a1, a2⟩ := ha
  refine ⟨_, ps_raise hc tk (pmk_oex (ds := []) (dvs := []) T iC tI F1 hr hb .nil hx hg hm a1 hdb he hpl), fun Γ M o e σ F A H h s D kk => ?_⟩
  obtain ⟨ds, e1, e⟩ := bindS e
  split at e
  · rename_i n
    cases e
    refine a2 Γ M _ e1 σ F A H h s _ fun vs F1 H1 g1 r1 => ?_
    obtain ⟨v, rfl, rv⟩ := r1.inv1
    cases rv
    refine ⟨by show 1 ≤ 1000; decide, fun a na => ⟨a, n, rfl, upd_same, fun dx nd ne => ⟨rfl, dx, [("row", .int n)], upd_same, ?_, ?_, ?_⟩⟩⟩
    · rw [upd_ne ne, upd_same]
    · rw [upd_ne ne] at nd; exact nd
    · rw [upd_ne ne] at nd
      have eq : upd (del (upd (upd (upd H1 a (exo a (C c) none)) dx (exd dx [("row", .int n)])) a (exo a (C c) (some dx))) a) dx (.xd [("row", .int n)]) = upd H1 dx (.xd [("row", .int n)]) := by
        funext b
        by_cases hbd : b = dx
        · rw [hbd, upd_same, upd_same]
        · rw [upd_ne hbd, upd_ne hbd]
          by_cases hba : b = a
          · rw [hba, del_same, na]
          · rw [del_ne hba, upd_ne hba, upd_ne hbd, upd_ne hba]
      rw [eq]
      have g2 := Grow.new (o := .xd [("row", .int n)]) g1.fh nd
      exact kk _ _ σ _ A _ ((h.grow g1).grow g2) ((s.same g1.ff).same g2.ff) ⟨rfl, dx, rfl, upd_same⟩ (g1.trans g2).step
  · cases e
end
end G
set_option Elab.async false
set_option linter.all false
set_option maxRecDepth 100000
set_option maxHeartbeats 4000000
namespace G
open PySem PySem.Spec PyProof.Rows L2
section
variable {P : Program} {w : World} {K : PySem.W.Frag} {mg : Str → Option Value} {base : Heap} {C : Nat → Addr} {x qual : Str} {st : Stmt} {f : Addr} {fd : FuncData} {N ps : List Str} {k : Nat} {s : Sx}
/-- a def that may let an exception out -/
theorem fn_okE (F : FnP K x qual st f fd) (S : FnScope N ps (defScope st)) (hb : ∀ (cdv : Value) (A : Around) (outer : List Env) (s0 : Shared) (H : Hp) (E : XK) (W : WX), Room k (A.deeper (envOfC qual (defScope st) s0.heap.objs.size f cdv)) → Takes (cxOf (L2.CX P w) P w K mg base N qual (defScope st) f cdv A outer s0 H E) W →
    PBG (cxOf (L2.CX P w) P w K mg base N qual (defScope st) f cdv A outer s0 H E) C W (defBody st) s) : FnOk P w K mg base (L2.CX P w) (k + 1) f fd ps (fun vs H Q E => spI ⟨K, C⟩ ps.length (runB N.length s) vs H Q E) := by
  refine F.ok S (fun vs H Q E h => spI_len vs H Q _ h) fun cdv A outer s0 H vs Q E hr h => ?_
  obtain ⟨t, h1, h2⟩ := hb cdv A outer s0 H E (fun cls d _ H' => E cls d H') hr (takes_of rfl rfl rfl rfl)
  exact ⟨t, h1, run_ok (E := E) (W := fun cls d _ H2 => E cls d H2) (fun _ _ _ _ => rfl) h2 h⟩
end
end G
set_option Elab.async false
set_option linter.all false
set_option maxRecDepth 100000
set_option maxHeartbeats 4000000
namespace G
open PySem PySem.Spec PyProof.Rows L2
/-! ### try: body / except x as n: suite, where the exception is an object of the abstract heap as long as it is wished -/
theorem takesF {X : Cx} : Takes X (fun _ _ _ _ => False) := fun u s' q => by
  obtain ⟨_, _, _, _, _, _, _, _, _, _, _, _, _, _, _, _, no⟩ := q
  cases no
/-- the exception's object as it stands -/
def exHO (a : Addr) (oe : Obj) : HO := .ext fun h => h.get? a = some oe
section
variable {X : Cx} {pins : List (Addr × Obj)} {σ : L2.St} {H : Hp} {s : Shared} {a : Addr} {oe : Obj}
theorem track (I : L2.Inv X pins σ H s) (e : s.heap.get? a = some oe) (na : H a = none) (n0 : X.s_0.heap.get? a = none) (nL : a ≠ X.env.locals) (nC : ∀ x c, X.env.cells.lookup x = some c → c ≠ a) (nP : ∀ p ∈ X.pn ++ pins, p.1 ≠ a) :
    L2.Inv X pins σ (upd H a (exHO a oe)) s := by
  have kp : ∀ {b : Addr} {u : HO}, H b = some u → upd H a (exHO a oe) b = some u := fun {b u} q => (upd_ne (ne_of_none q na)).trans q
  have fr : ∀ {b : Addr}, b ≠ a → H b = none → upd H a (exHO a oe) b = none := fun {b} q z => (upd_ne q).trans z
  refine ⟨I.ok, I.os, I.bare, ⟨I.base.keep, I.base.slot, fun b o q n x => ?_, I.base.there, fun b xs q => kp (I.base.tups b xs q), fun b o u q => kp (I.base.frzs b o u q), fun b ps q => ?_⟩, I.loc, I.cell, fr (Ne.symm nL) I.free, fun x c q => fr (nC x c q) (I.freeC x c q), fun p hp => ?_, fun b u q => ?_, I.len⟩
  · refine fr (fun z => ?_) (I.base.free b o q n x)
    rw [z, n0] at q
    cases q
  · obtain ⟨m, z⟩ := I.base.tbls b ps q
    exact ⟨m, kp z⟩
  · obtain ⟨q1, q2, q3⟩ := I.pin p hp
    exact ⟨q1, fr (nP p hp) q2, q3⟩
  · by_cases hb : b = a
    · rw [hb, upd_same] at q
      cases q
      rw [hb]
      exact ⟨e, ⟨oe, e⟩, fun h1 h2 p1 k => k _ p1⟩
    · rw [upd_ne hb] at q
      exact (I.hok b u q).stay (fun _ _ _ z => z) (fun _ z => kp z) fun _ _ z => kp z
theorem intoSuite (I : L2.Inv X pins σ H s) (a : Addr) : L2.Inv (X.suite a (X.pn ++ pins)) [] σ H s :=
  ⟨I.ok.suite a _, I.os, I.bare, I.base, I.loc, I.cell, I.free, I.freeC, fun p hp => by
    rw [List.append_nil] at hp
    exact I.pin p hp, I.hok, I.len⟩
theorem outOfSuite {pn' : List (Addr × Obj)} (ok : X.Ok) (I : L2.Inv (X.suite a (X.pn ++ pins)) pn' σ H s) : L2.Inv X pins σ H s :=
  ⟨ok, I.os, I.bare, I.base, I.loc, I.cell, I.free, I.freeC, fun p hp => I.pin p (List.mem_append_left pn' hp), I.hok, I.len⟩
end
/-- the ends behind a suite whose name i goes -/
def goneD (i : Nat) (D : Ends) : Ends where
  nx := fun σ H => D.nx (σ.set i none) H
  rt := D.rt
  bk := fun σ H => D.bk (σ.set i none) H
  ct := fun σ H => D.ct (σ.set i none) H
/-- what such a clause wishes of the body's exceptions -/
def wX (K : PySem.W.Frag) (c : Value) (i : Nat) (ts : Addr → TS) (D : Ends) : WX := fun cls d σ H =>
  PySem.W.exmOne K cls c = some true ∧ ∀ a oe, H a = none → Zc cls d oe → (∃ vs, oe.data = .fields vs) → ts a (goneD i D) (σ.set i (some (.ref a))) (upd H a (exHO a oe))
section
variable {X : Cx} {x n : Str} {c : Value} {i : Nat} {body suite : List Stmt} {b₀ : Stmt} {np pos pos' : Pos} {tb : WX → TS} {ts : Addr → TS}
theorem ps_try_x (hs : X.stack = X.env :: X.outer) (hf : X.env.frame = some X.env.locals) (hex : X.ex = []) (hN : X.N.Nodup) (hi : X.N[i]? = some n) (hln : X.env.kindOf n = some .local) (hc : Names X x c)
    (hb : ∀ (W : WX) (pn : List (Addr × Obj)) (xe : Value → Shared → Prop), Takes (X.tr pn xe) W → PassesOwn (model X.prog X.w) X.A X.env xe → PSs (X.tr pn xe) body (tb W))
    (hsu : ∀ (a : Addr) (pn : List (Addr × Obj)), PSs (X.suite a pn) (b₀ :: suite) (ts a)) :
    PS X (.Try body [.ExceptHandler (some (.Name x np)) (some n) (b₀ :: suite) pos'] [] [] pos) (fun D σ H => tb (wX X.K c i ts D) D σ H) := by
  constructor
  intro pins s σ H D I h
  have ok := I.ok
  have hfr : X.A.frames = some (X.env :: X.outer) := ok.frames.trans (congrArg some hs)
  have hxs : [ExceptHandler.ExceptHandler (some (.Name x np)) (some n) (b₀ :: suite) pos'] ≠ [] := List.cons_ne_nil _ _
  have key : ∀ {Q : Flow → Shared → Prop} {Ex : Value → Shared → Prop}, (∀ u s', XE (X.tr (X.pn ++ pins) Ex) (wX X.K c i ts D) u s' → Ex u s') → PassesOwn (model X.prog X.w) X.A X.env Ex → (∀ f s1, SP (X.tr (X.pn ++ pins) Ex) [] D f s1 → Q f s1) →
      wpAny (model X.prog X.w) X.A (execs body X.env) Q Ex s := fun {Q Ex} thr po fin => wpAny_mono ((hb _ (X.pn ++ pins) Ex thr po).run [] s σ H D (I.toTry Ex) h) fin fun _ _ q => q
  refine wpAny_Try_except (key (fun u s' air => ?caught) PassesOwn.looking fun f s1 hsp => ?thru)
  case thru =>
    cases f with
    | next =>
      obtain ⟨σ1, H1, J, q⟩ := hsp
      exact wpAny_execs_nil ⟨σ1, H1, J.ofTry ok, q⟩
    | ret u =>
      obtain ⟨v, σ1, H1, J, r, q⟩ := hsp
      exact ⟨v, σ1, H1, J.ofTry ok, r, q⟩
    | brk =>
      obtain ⟨σ1, H1, J, q⟩ := hsp
      exact ⟨σ1, H1, J.ofTry ok, q⟩
    | cont =>
      obtain ⟨σ1, H1, J, q⟩ := hsp
      exact ⟨σ1, H1, J.ofTry ok, q⟩
  case caught =>
    obtain ⟨a, B, sI, pinsI, σ', H', cls, d, ua, JT, nb, up, sky, na, os, ag, caught, yes⟩ := air
    subst ua
    have J : L2.Inv X pins σ' H' sI := JT.ofTry ok
    have sky1 : Sky B (X.env :: X.outer) a (Zc cls d) X.env.locals s'.heap := hs ▸ sky
    show wpAny (model X.prog X.w) X.A (noteFrame (.ref a) X.env) _ _ _
    refine Sky.land Zc.steady hfr hf sky1 fun g fl upg => ?_
    have J3 : L2.Inv X pins σ' H' { s' with heap := g } := J.landed nb fl.1 (up.trans upg) os ag
    obtain ⟨oe3, vs3, he3, hz3, hd3⟩ := fl.there
    have out : a ∉ frs (X.env :: X.outer) := fun hm => by
      obtain ⟨_, o1, e1, nf⟩ := fl.2.2.1.mem hm
      rw [he3] at e1
      cases e1
      exact nf _ hd3
    have nL : a ≠ X.env.locals := fun q => out (List.mem_filterMap.mpr ⟨X.env, List.mem_cons_self, hf.trans (congrArg some q.symm)⟩)
    have nI : sI.heap.get? a = none := by
      cases q : sI.heap.get? a with
      | none => rfl
      | some o1 =>
        have q2 := nb a o1 q (by rw [show (X.tr (X.pn ++ pins) _).stack = _ from hs]; exact out)
        rw [fl.2.1] at q2
        cases q2
    have notA : ∀ {b : Addr} {o : Obj}, sI.heap.get? b = some o → b ≠ a := fun {b o} q z => by
      rw [z, nI] at q
      cases q
    have n0 : X.s_0.heap.get? a = none := by
      cases q : X.s_0.heap.get? a with
      | none => rfl
      | some o1 =>
        obtain ⟨o2, q2⟩ := J.base.there a o1 q (by rw [hex]; exact List.not_mem_nil)
        exact absurd rfl (notA q2)
    have nC : ∀ y k, X.env.cells.lookup y = some k → k ≠ a := fun y k q => by
      obtain ⟨_, o1, q1, _⟩ := J.cell y k q
      exact notA q1
    have nP : ∀ p ∈ X.pn ++ pins, p.1 ≠ a := fun p hp => notA (J.pin p hp).1
    have S3 := intoSuite J3 a
    refine wpAny_handleBy_cons (codeAny_handlers_test ?_) (by intro q; cases q)
    have ty : PySem.W.Looks (model X.prog X.w) g (typeOf (.ref a)) cls := fun A Q E s k q => wpAny_typeOf_ref (k _ _ he3) (by rw [hz3.1]; exact q)
    have isit := PySem.W.exm_one (M := model X.prog X.w) J3.kIn ty caught
    have named : ∀ {Q E : Value → Shared → Prop}, Q c { s' with heap := g } → wpAny (model X.prog X.w) (X.A.mark (some (.ref a))) (eval (.Name x np) X.env) Q E { s' with heap := g } := fun {Q E} q => by
      obtain ⟨hg, hdb, hm⟩ := hc
      rcases hm with hm | ⟨hm, hv, hn⟩
      · exact ld_glob (X := X.suite a (X.pn ++ pins)) S3 hg hm q hdb
      · exact ld_blt (X := X.suite a (X.pn ++ pins)) S3 hg hm hv q hn hdb
    refine named (isit.here (codeAny_handlers_suite_as (HandSPX.lands_againZ fl fun g4 fl4 up4 => ?_)))
    have J4 : L2.Inv X pins σ' H' { s' with heap := g4 } := J.landed nb fl4.1 ((up.trans upg).trans up4) os ag
    obtain ⟨oe4, vs4, he4, hz4, hd4⟩ := fl4.there
    have S4 := intoSuite (track (oe := oe4) J4 he4 na n0 nL nC nP) a
    refine store_ok (X := X.suite a (X.pn ++ pins)) (v := .ref a) S4 hN hi (.inl hln) rfl (fun s5 S5 => ?_) (.inr hln)
    refine wpAny_mono ((hsu a (X.pn ++ pins)).run [] s5 _ _ _ S5 (yes a oe4 na hz4 ⟨_, hd4⟩)) (fun f s6 hsp => ?_) fun _ _ no => no.elim
    have leave : ∀ {σ6 : L2.St} {H6 : Hp} {Q : Shared → Prop}, L2.Inv (X.suite a (X.pn ++ pins)) [] σ6 H6 s6 → (∀ s7, L2.Inv X pins (σ6.set i none) H6 s7 → Q s7) →
        wpAny (model X.prog X.w) X.A (do bindName X.env n .none; unbindBehindTheSuite X.env n pos') (fun _ s7 => Q s7) X.xe s6 := fun {σ6 H6 Q} S6 hq => gone_ok (outOfSuite ok S6) hN hi hln hq
    cases f with
    | next =>
      obtain ⟨_, _, S6, q⟩ := hsp
      exact leave S6 fun _ J7 => ⟨_, _, J7, q⟩
    | ret u =>
      obtain ⟨_, _, _, S6, r, q⟩ := hsp
      exact leave S6 fun _ J7 => ⟨_, _, _, J7, r, q⟩
    | brk =>
      obtain ⟨_, _, S6, q⟩ := hsp
      exact leave S6 fun _ J7 => ⟨_, _, J7, q⟩
    | cont =>
      obtain ⟨_, _, S6, q⟩ := hsp
      exact leave S6 fun _ J7 => ⟨_, _, J7, q⟩
end
/-! ### .. as combinators -/
def wpBody (X : Cx) (body : List Stmt) (W : WX) : TS := fun D σ H => ∀ (pn : List (Addr × Obj)) (xe : Value → Shared → Prop), Takes (X.tr pn xe) W → PassesOwn (model X.prog X.w) X.A X.env xe →
  ∀ (pins : List (Addr × Obj)) (s : Shared), L2.Inv (X.tr pn xe) pins σ H s → wpAny (model X.prog X.w) X.A (execs body X.env) (SP (X.tr pn xe) pins D) xe s
def wpSuite (X : Cx) (suite : List Stmt) (a : Addr) : TS := fun D σ H => ∀ (pn pins : List (Addr × Obj)) (s : Shared), L2.Inv (X.suite a pn) pins σ H s →
  wpAny (model X.prog X.w) (X.suite a pn).A (execs suite X.env) (SP (X.suite a pn) pins D) (fun _ _ => False) s
def unsetO (i : Nat) : Out → Option Out
  | .nx Γ M => some (.nx (Γ.set i none) M)
  | .bk Γ M => some (.bk (Γ.set i none) M)
  | .ct Γ M => some (.ct (Γ.set i none) M)
  | .rt d M => some (.rt d M)
  | .ex _ _ _ => none
def sTry (ct : Nat → Bool) (i : Nat) (sb ss : Sx) : Sx := fun Γ M => (sb Γ M).bind fun o => match o with
  | .ex x Γ2 M2 => if ct x.c = true then (ss (Γ2.set i (some (.exc x.c x.row))) M2).bind (unsetO i) else none
  | o => some o
theorem SlotR.unset {T : GE} {F : Hp} {A : List Addr} {Γ : Sl} {σ : L2.St} (h : SlotR T F A Γ σ) (i : Nat) : SlotR T F A (Γ.set i none) (σ.set i none) := by
  refine ⟨by rw [List.length_set, List.length_set]; exact h.1, fun j d q => ?_⟩
  by_cases hj : i = j
  · subst hj
    by_cases hl : i < Γ.length
    · rw [List.getElem?_set_self hl] at q
      cases q
    · rw [List.getElem?_eq_none (by rw [List.length_set]; omega)] at q
      cases q
  · rw [List.getElem?_set_ne hj] at q ⊢
    exact h.2 j d q
section
variable {X : Cx} {C : Nat → Addr} {W : WX} {x n : Str} {c : Value} {i : Nat} {body suite : List Stmt} {b₀ : Stmt} {np pos pos' : Pos} {sb ss : Sx} {ct : Nat → Bool}
theorem sTry_ (ct : Nat → Bool) (hs : X.stack = X.env :: X.outer) (hf : X.env.frame = some X.env.locals) (hex : X.ex = []) (hN : X.N.Nodup) (hi : X.N[i]? = some n) (hln : X.env.kindOf n = some .local) (hc : Names X x c)
    (hct : ∀ k, ct k = true → PySem.W.exmOne X.K (.ref (C k)) c = some true)
    (hb : ∀ (W : WX) (pn : List (Addr × Obj)) (xe : Value → Shared → Prop), Takes (X.tr pn xe) W → PassesOwn (model X.prog X.w) X.A X.env xe → PBG (X.tr pn xe) C W body sb)
    (hsu : ∀ (a : Addr) (pn : List (Addr × Obj)), PBG (X.suite a pn) C (fun _ _ _ _ => False) (b₀ :: suite) ss) :
    PSG X C W (.Try body [.ExceptHandler (some (.Name x np)) (some n) (b₀ :: suite) pos'] [] [] pos) (sTry ct i sb ss) := by
  refine ⟨_, ps_try_x (tb := wpBody X body) (ts := wpSuite X (b₀ :: suite)) hs hf hex hN hi hln hc (fun W pn xe tk hp => ⟨fun pins s σ H D I q => q pn xe tk hp pins s I⟩) (fun a pn => ⟨fun pins s σ H D I q => q pn pins s I⟩), fun Γ M o e σ F A H h s D k => ?_⟩
  obtain ⟨o1, e1, e2⟩ := bindS e
  intro pn xe tk hp pins s1 I1
  obtain ⟨t1, p1, p2⟩ := hb (wX X.K c i (wpSuite X (b₀ :: suite)) D) pn xe tk hp
  refine p1.run pins s1 σ H D I1 (p2 Γ M o1 e1 σ F A H h s D ?_)
  cases o1 with
  | nx Γ1 M1 => cases e2; exact k
  | rt d M1 => cases e2; exact k
  | bk Γ1 M1 => cases e2; exact k
  | ct Γ1 M1 => cases e2; exact k
  | ex y Γ2 M2 =>
    dsimp only at e2
    split at e2
    · rename_i hy
      obtain ⟨o5, e5, e6⟩ := bindS e2
      intro cls dd σ2 F2 A2 H2 h2 s2 xr st
      obtain ⟨xc, xr⟩ := xr
      refine ⟨by rw [xc]; exact hct _ hy, fun a oe na hz hd => ?_⟩
      have g3 := Grow.new (o := exHO a oe) h2.fs na
      have r3 : Rep ⟨X.K, C⟩ (upd F2 a (exHO a oe)) A2 (.exc y.c y.row) (.ref a) := by
        obtain ⟨yc, yr⟩ := y
        cases yr with
        | none => exact ⟨a, oe, rfl, upd_same, hz.1.trans xc, hd, hz.2.trans xr⟩
        | some m =>
          obtain ⟨q, q1, q2⟩ := xr
          exact ⟨a, oe, rfl, upd_same, hz.1.trans xc, hd, q, hz.2.trans q1, g3.ff _ _ q2⟩
      intro pn2 pins2 s3 I3
      obtain ⟨t5, p5, p6⟩ := hsu a pn2
      refine p5.run pins2 s3 _ _ _ I3 (p6 _ M2 o5 e5 _ _ A2 _ (h2.grow g3) ((s2.same g3.ff).set r3 i) _ ?_)
      have st3 := st.trans g3.step
      cases o5 with
      | nx Γ6 M6 => cases e6; exact fun σ6 F6 A6 H6 h6 s6 st6 => k _ F6 A6 H6 h6 (s6.unset i) (st3.trans st6)
      | rt d M6 => cases e6; exact fun v F6 A6 H6 h6 r6 st6 => k v F6 A6 H6 h6 r6 (st3.trans st6)
      | bk Γ6 M6 => cases e6; exact fun σ6 F6 A6 H6 h6 s6 st6 => k _ F6 A6 H6 h6 (s6.unset i) (st3.trans st6)
      | ct Γ6 M6 => cases e6; exact fun σ6 F6 A6 H6 h6 s6 st6 => k _ F6 A6 H6 h6 (s6.unset i) (st3.trans st6)
      | ex _ _ _ => cases e6
    · cases e2
end
/-! ### calls of a def that may let an exception out -/
abbrev FnX (X : Cx) (C : Nat → Addr) (k : Nat) (f : Addr) (fd : FuncData) (ps : List Str) (I : Fx) : Prop := FnOk X.prog X.w X.K X.mg X.base (L2.CX X.prog X.w) k f fd ps (fun vs H Q E => spI ⟨X.K, C⟩ ps.length I vs H Q E)
def HasX (P : Program) (w : World) (K : PySem.W.Frag) (mg : Str → Option Value) (base : Heap) (C : Nat → Addr) (k : Nat) (x : Str) (ps : List Str) (I : Fx) : Prop :=
  ∃ f fd, FnOk P w K mg base (L2.CX P w) k f fd ps (fun vs H Q E => spI ⟨K, C⟩ ps.length I vs H Q E) ∧ Binds K fd ps [] ∧ PySem.W.keepIn K (.ref f) = true ∧ mg x = some (.ref f)
theorem passF {X : Cx} : Passes (L2.CX X.prog X.w) X (fun _ _ _ => False) := fun _ _ _ _ _ _ _ ⟨_, _, _, _, _, _, _, _, _, _, _, _, no⟩ => no.elim
def sCallX (I : Fx) (fa : Ax) : Sx := fun Γ M => (fa Γ M).bind fun xs => if locFrees xs = true then (I xs []).bind fun r => match r with
  | .ret _ _ => some (.nx Γ M)
  | .exc y _ => some (.ex y Γ M) else none
section
variable {X : Cx} {C : Nat → Addr} {W : WX} {k n : Nat} {ps : List Str} {I : Fx} {x : Str} {p pos pos2 : Pos} {e : Expr} {es : List Expr} {fa : Ax} {pr : List D → Option PR}
theorem callPX (hF : HasX X.prog X.w X.K X.mg X.base C k x ps I) (hp : pr = pRun I) (hr : Room k X.A) (hg : Gl X x) (ha : PAG X C (e :: es) fa) (hfl : ∀ Γ M xs, fa Γ M = some xs → xs.length = (e :: es).length) (hn : (e :: es).length = ps.length := by rfl)
    (hdb : (x == ("__debug__" : Str)) = false := by decide) (he : starEach (e :: es) X.env = (false, eval e X.env) :: starEach es X.env := by rfl) (hpl : (backTo pos (starEach es X.env)).any (·.1) = false := by rfl) : PEG X C (.Call (.Name x p) (e :: es) [] pos) (xCallP pr fa) := by
  obtain ⟨f, fd, h1, hb, hk, hm⟩ := hF
  obtain ⟨t, a1, a2⟩ := ha
  refine ⟨_, pe_call h1 hr hg hm hk hb .nil passF a1 hdb he hpl, fun Γ M d q σ F A H h s Q kk => ?_⟩
  obtain ⟨xs, q1, q⟩ := bindS q
  split at q
  · rename_i hl
    obtain ⟨r, q2, q3⟩ := Option.map_eq_some_iff.mp q
    rw [hp] at q2
    refine a2 Γ M xs q1 σ F A H h s _ fun vs F1 H1 g1 r1 => ?_
    rw [List.append_nil]
    refine pure_end q2 ((hfl _ _ _ q1).trans hn) hl g1.fh r1 fun v F' A' H' d M' g h2 r2 st ee => ?_
    obtain ⟨F2, g2, r3⟩ := pEnd_frz ee g h2 r2 st A
    rw [q3] at r3
    exact kk v F2 H' (g1.trans g2) r3
  · cases q
theorem callNX (hF : HasX X.prog X.w X.K X.mg X.base C k x ps I) (hp : pr = pRun I) (hr : Room k X.A) (hg : Gl X x) (ha : PAG X C (e :: es) fa) (hfl : ∀ Γ M xs, fa Γ M = some xs → xs.length = (e :: es).length) (hn : (e :: es).length = ps.length := by rfl)
    (hdb : (x == ("__debug__" : Str)) = false := by decide) (he : starEach (e :: es) X.env = (false, eval e X.env) :: starEach es X.env := by rfl) (hpl : (backTo pos (starEach es X.env)).any (·.1) = false := by rfl) : PNG X C (.Call (.Name x p) (e :: es) [] pos) (xCallN pr fa) := by
  obtain ⟨f, fd, h1, hb, hk, hm⟩ := hF
  obtain ⟨t, a1, a2⟩ := ha
  refine ⟨_, pe_call h1 hr hg hm hk hb .nil passF a1 hdb he hpl, fun Γ M d q σ F A H h s Q kk => ?_⟩
  obtain ⟨xs, q1, q⟩ := bindS q
  split at q
  · rename_i hl
    obtain ⟨r, q2, q3⟩ := bindS q
    rw [hp] at q2
    refine a2 Γ M xs q1 σ F A H h s _ fun vs F1 H1 g1 r1 => ?_
    rw [List.append_nil]
    refine pure_end q2 ((hfl _ _ _ q1).trans hn) hl g1.fh r1 fun v F' A' H' d M' g h2 r2 st ee => ?_
    cases r with
    | val _ => cases q3
    | fresh c =>
      cases q3
      obtain ⟨p0, rfl, np, h0, kc⟩ := pEnd_new ee h2 r2 st A
      exact kk p0 F' H' (g1.trans g) np (g1.hh.free h0) kc
  · cases q
theorem sCallX_ (tk : Takes X W) (hF : HasX X.prog X.w X.K X.mg X.base C k x ps I) (hr : Room k X.A) (hg : Gl X x) (ha : PAG X C (e :: es) fa) (hfl : ∀ Γ M xs, fa Γ M = some xs → xs.length = (e :: es).length) (hn : (e :: es).length = ps.length := by rfl)
    (hdb : (x == ("__debug__" : Str)) = false := by decide) (he : starEach (e :: es) X.env = (false, eval e X.env) :: starEach es X.env := by rfl) (hpl : (backTo pos (starEach es X.env)).any (·.1) = false := by rfl)
    (hs : swapsWith (.Call (.Name x p) (e :: es) [] pos) none pos2.line X.env = pure false := by rfl) : PSG X C W (.Expr (.Call (.Name x p) (e :: es) [] pos) pos2) (sCallX I fa) := by
  obtain ⟨f, fd, h1, hb, hk, hm⟩ := hF
  obtain ⟨t, a1, a2⟩ := ha
  refine ⟨_, ps_expr (pe_callS h1 hr hg hm hk hb (fun σ => passAt tk σ) a1 hdb he hpl) hs, fun Γ M o q σ F A H h s D kk => ?_⟩
  obtain ⟨xs, q1, q⟩ := bindS q
  split at q
  · rename_i hl
    obtain ⟨r, q2, q3⟩ := bindS q
    refine a2 Γ M xs q1 σ F A H h s _ fun vs F1 H1 g1 r1 => ?_
    refine ⟨xs, [], F1, [], (hfl _ _ _ q1).trans hn, nilHR g1.fh, Reps.noLoc _ _ hl r1, ?_⟩
    rw [q2]
    cases r with
    | ret d M1 =>
      cases q3
      intro v F' A' H' h2 r2 st
      have g2 := g1.trans (st.grow h2.fs)
      exact kk σ F' A H' (h.grow g2) (s.same g2.ff) g2.step
    | exc y M1 =>
      cases q3
      intro cls dd F' A' H' h2 xr st
      have g2 := g1.trans (st.grow h2.fs)
      exact kk cls dd σ F' A H' (h.grow g2) (s.same g2.ff) xr g2.step
  · cases q
end
end G
set_option Elab.async false
set_option linter.all false
set_option maxRecDepth 100000
set_option maxHeartbeats 4000000
namespace G
open PySem PySem.Spec PyProof.Rows L2
/-! ### facts of an own exception class with an own __init__ -/
/-- the class object is one that excClassObj tells of -/
def exOwn (K : PySem.W.Frag) (C : Addr) : Bool :=
  match K.lookup C with
  | some o => (match o.cls, o.data, o.slots.toList with
    | .type t, .cls cd, [_, _, _, _, some (.builtin n), _] => (match cd.mro with
      | .ref C' :: bm => decide (t = "type") && (decide (C' = C) && (decide (n = "ValueError.__new__") && (!cd.hasDel && (cd.hasDict && PySem.HandSPX.refsVE bm))))
      | _ => false)
    | _, _, _ => false)
  | none => false
theorem exOwn_ok {K : PySem.W.Frag} {C : Addr} (q : exOwn K C = true) : ∃ nm q N bs bm sn sub ab col dd k0 k1 k2 k3 k5, K.lookup C = some (excClassObj nm q C N bs bm true sn sub ab col dd k0 k1 k2 k3 k5 "ValueError.__new__") ∧ PySem.HandSPX.refsVE bm = true := by
  unfold exOwn at q
  cases e : K.lookup C with
  | none => rw [e] at q; cases q
  | some o =>
    rw [e] at q
    obtain ⟨oc, od, dt, sl⟩ := o
    dsimp only at q
    split at q
    · rename_i t cd h0 h1 h2 h3 n h5 hs
      split at q
      · rename_i C' bm hm
        simp only [Bool.and_eq_true, decide_eq_true_eq, Bool.not_eq_true'] at q
        obtain ⟨q1, q2, q3, q4, q5, q6⟩ := q
        subst q1 q2 q3
        obtain ⟨nm, bs, mro, ns, qn, hd, sn, sub, ab, col, del⟩ := cd
        subst hm q4 q5
        obtain ⟨l⟩ := sl
        dsimp only at hs
        subst hs
        exact ⟨_, _, _, _, _, _, _, _, _, _, _, _, _, _, _, rfl, q6⟩
      · cases q
    · cases q
/-- what is asked of the class at C, its method __init__ at f, its parent at M -/
def ExFacts (K : PySem.W.Frag) (C f M : Addr) : Prop :=
  exOwn K C = true ∧ PySem.W.findIn K (.ref C) "__setattr__" = some (some (.builtin "object.__setattr__")) ∧ PySem.W.subIn K (.ref C) (.type "BaseException") = some true ∧ PySem.W.typeIn K (.ref C) = some (.type "type") ∧ PySem.W.keepIn K (.ref C) = true ∧
  PySem.W.findIn K (.ref C) "row" = some none ∧ PySem.W.findIn K (.ref C) "__init__" = some (some (.ref f)) ∧ PySem.W.typeIn K (.ref f) = some (.type "function") ∧ PySem.W.hasDictIn K C = true ∧
  (PySem.W.clsIn K C).isSome = true ∧ PySem.W.findIn K (.ref C) "__getattribute__" = some (some (.builtin "BaseException.__getattribute__")) ∧ PySem.W.findIn K (.ref C) "__getattr__" = some none ∧
  PySem.W.findIn K (.ref C) "__class__" = some (some (.builtin "object.__class__")) ∧ PySem.W.specialIn K (.builtin "object.__class__") "__get__" = some (some (.builtin "getset_descriptor.__get__")) ∧ PySem.W.takesIn K (.builtin "object.__class__") = some true ∧ PySem.W.mroIn K C (.type "object") = some true ∧
  PySem.W.readsIn K M (.type "type") = true ∧ PySem.W.specialIn K (.ref M) "__getattribute__" = some (some (.builtin "type.__getattribute__")) ∧ PySem.W.exmOne K (.ref C) (.ref M) = some true
instance (K : PySem.W.Frag) (C f M : Addr) : Decidable (ExFacts K C f M) := by unfold ExFacts; infer_instance
section
variable {K : PySem.W.Frag} {C f M : Addr}
theorem ExFacts.oex (h : ExFacts K C f M) : OexC K C := ⟨exOwn_ok h.1, h.2.1, h.2.2.1, h.2.2.2.1, h.2.2.2.2.1⟩
theorem ExFacts.noRow (h : ExFacts K C f M) : PySem.W.findIn K (.ref C) "row" = some none := h.2.2.2.2.2.1
theorem ExFacts.init (h : ExFacts K C f M) : PySem.W.findIn K (.ref C) "__init__" = some (some (.ref f)) := h.2.2.2.2.2.2.1
theorem ExFacts.fn (h : ExFacts K C f M) : PySem.W.typeIn K (.ref f) = some (.type "function") := h.2.2.2.2.2.2.2.1
theorem ExFacts.hd (h : ExFacts K C f M) : PySem.W.hasDictIn K C = true := h.2.2.2.2.2.2.2.2.1
theorem ExFacts.xcls (h : ExFacts K C f M) : XCls K C := by
  obtain ⟨_, _, h3, _, _, _, _, _, _, h10, h11, h12, h13, h14, h15, h16, _⟩ := h
  exact ⟨h10, h11, h12, h3, h13, h14, h15, h16⟩
theorem ExFacts.cread (h : ExFacts K C f M) : ClX.CRead K M (.type "type") := by
  obtain ⟨_, _, _, _, _, _, _, _, _, _, _, _, _, _, _, _, h17, h18, _⟩ := h
  exact ⟨h17, h18⟩
theorem ExFacts.exm (h : ExFacts K C f M) : PySem.W.exmOne K (.ref C) (.ref M) = some true := by
  obtain ⟨_, _, _, _, _, _, _, _, _, _, _, _, _, _, _, _, _, _, h19⟩ := h
  exact h19
end
/-! ### isinstance of a kept exception with classes, tuples of classes; its field -/
/-- what is known of classes: is c one of d's; is c one of the built-in n's -/
structure KnX (K : PySem.W.Frag) (C : Nat → Addr) (ko : Nat → Nat → Option Bool) (kt : Nat → String → Option Bool) : Prop where
  o : ∀ c d b, ko c d = some b → PySem.W.kitOne K (.ref (C c)) (.ref (C d)) = some b ∧ XCls K (C c)
  t : ∀ c n b, kt c n = some b → PySem.W.kitOne K (.ref (C c)) (.type n) = some b ∧ XCls K (C c)
def isXs (ko : Nat → Nat → Option Bool) (kt : Nat → String → Option Bool) (c : Nat) : List D → Option Bool
  | [] => some false
  | .cls d :: r => (ko c d).bind fun b => if b = true then none else isXs ko kt c r
  | .ty n :: r => (kt c n).bind fun b => if b = true then none else isXs ko kt c r
  | _ => none
def gIsX (ko : Nat → Nat → Option Bool) (kt : Nat → String → Option Bool) (_ : Mem) (xs : List D) : Option D := match xs with
  | [.exc c (some _), .cls d] => (ko c d).map .bl
  | [.exc c (some _), .ty n] => (kt c n).map .bl
  | [.exc c (some _), .tup (t :: ts)] => (isXs ko kt c (t :: ts)).map .bl
  | _ => none
theorem isXs_ok {T : GE} {F : Hp} {A : List Addr} {ko : Nat → Nat → Option Bool} {kt : Nat → String → Option Bool} (kn : KnX T.K T.C ko kt) {c : Nat} : ∀ {ts : List D} {b : Bool} {vs : List V}, isXs ko kt c ts = some b → Reps T F A ts vs →
    b = false ∧ ∃ us, Paired ClsV vs us ∧ PySem.W.kitAny T.K (.ref (T.C c)) us = some false ∧ (ts ≠ [] → XCls T.K (T.C c))
  | [], _, _, e, r => by
    cases e
    cases r
    exact ⟨rfl, [], .nil, rfl, fun z => absurd rfl z⟩
  | .cls d :: r, b, vs, e, ⟨v, w, e1, rv, rw'⟩ => by
    subst e1
    cases rv
    obtain ⟨b1, q1, q2⟩ := bindS (show (ko c d).bind _ = some b from e)
    split at q2
    · cases q2
    · rename_i hb
      have hb : b1 = false := by simpa using hb
      subst hb
      obtain ⟨k1, k2⟩ := kn.o _ _ _ q1
      obtain ⟨z1, us, z2, z3, _⟩ := isXs_ok kn q2 rw'
      exact ⟨z1, _ :: us, .cons (.own _) z2, by unfold PySem.W.kitAny; rw [k1]; exact z3, fun _ => k2⟩
  | .ty n :: r, b, vs, e, ⟨v, w, e1, rv, rw'⟩ => by
    subst e1
    cases rv
    obtain ⟨b1, q1, q2⟩ := bindS (show (kt c n).bind _ = some b from e)
    split at q2
    · cases q2
    · rename_i hb
      have hb : b1 = false := by simpa using hb
      subst hb
      obtain ⟨k1, k2⟩ := kn.t _ _ _ q1
      obtain ⟨z1, us, z2, z3, _⟩ := isXs_ok kn q2 rw'
      exact ⟨z1, _ :: us, .cons (.ty _) z2, by unfold PySem.W.kitAny; rw [k1]; exact z3, fun _ => k2⟩
theorem call_isiXT {X : Cx} : CallR X (.builtin "isinstance") (fun xs H Q => ∃ a C fs tp cs us b, xs = [.ref a, .ref tp] ∧ H tp = some (.tup cs) ∧ Paired ClsV cs us ∧ XAt H a C fs ∧ XCls X.K C ∧ PySem.W.kitAny X.K (.ref C) us = some b ∧ Q (.bl b) H) := by
  intro pins s σ H xs us Q I r h
  obtain ⟨a, C, fs, tp, cs, ws, b, rfl, hT, k, hx, T, e, q⟩ := h
  obtain ⟨u1, u2, rfl, r1, r2⟩ := vals2 r
  cases (show u1 = Value.ref a from r1)
  cases (show u2 = Value.ref tp from r2)
  obtain ⟨_, its, rv, ob, g1, g2, n, g3⟩ := (show ObjOk X.prog X.w H s.heap tp (.tup cs) from I.hok tp _ hT)
  cases ClsV.all k rv
  obtain ⟨oc, od, dt, sl⟩ := ob
  simp only at g2 g3
  subst g2 g3
  obtain ⟨oe, oD, mA, J, _⟩ := hx.inst I
  exact PySem.W.kia_tup (PySem.W.kitx_exc T.cl T.ga T.gg T.sub T.kc T.sp T.tk T.mr) I.kIn J g1 e (fun z => by cases z) fun tk => ⟨.bl b, H, I.tok tk, rfl, q⟩
section
variable {X : Cx} {C : Nat → Addr} {ko : Nat → Nat → Option Bool} {kt : Nat → String → Option Bool}
theorem exc_at {T : GE} {F H : Hp} {A : List Addr} {c : Nat} {n : Int} {v : V} (fs : Same F H) (r : Rep T F A (.exc c (some n)) v) : ∃ a, v = .ref a ∧ XAt H a (T.C c) [("row", .int n)] := by
  obtain ⟨a, oe, rfl, h1, h2, h3, dd, h4, h5⟩ := r
  exact ⟨a, rfl, oe, dd, fs _ _ h1, h2, h3, h4, fs _ _ h5⟩
theorem cIsX (kn : KnX X.K C ko kt) : CaG X C (.builtin "isinstance") (gIsX ko kt) := by
  refine ⟨_, call_isiX.or call_isiXT, fun M xs z e vs F A H h r Q q => ?_⟩
  unfold gIsX at e
  split at e
  · obtain ⟨b, e1, rfl⟩ := Option.map_eq_some_iff.mp e
    obtain ⟨v, u, rfl, rv, ru⟩ := r.inv2
    obtain ⟨a, rfl, hx⟩ := exc_at h.fs rv
    cases ru
    obtain ⟨k1, k2⟩ := kn.o _ _ _ e1
    exact .inl ⟨a, _, _, _, _, b, rfl, .own _, hx, k2, k1, q _ F H (Grow.refl h.fs) rfl⟩
  · obtain ⟨b, e1, rfl⟩ := Option.map_eq_some_iff.mp e
    obtain ⟨v, u, rfl, rv, ru⟩ := r.inv2
    obtain ⟨a, rfl, hx⟩ := exc_at h.fs rv
    cases ru
    obtain ⟨k1, k2⟩ := kn.t _ _ _ e1
    exact .inl ⟨a, _, _, _, _, b, rfl, .ty _, hx, k2, k1, q _ F H (Grow.refl h.fs) rfl⟩
  · obtain ⟨b, e1, rfl⟩ := Option.map_eq_some_iff.mp e
    obtain ⟨v, u, rfl, rv, ru⟩ := r.inv2
    obtain ⟨a, rfl, hx⟩ := exc_at h.fs rv
    obtain ⟨tp, cs, rfl, ht, rt⟩ := ru
    obtain ⟨rfl, us, k1, k2, k3⟩ := isXs_ok (T := ⟨X.K, C⟩) kn e1 rt
    exact .inr ⟨a, _, _, tp, cs, us, false, rfl, h.fs _ _ ht, k1, hx, k3 (List.cons_ne_nil _ _), k2, q _ F H (Grow.refl h.fs) rfl⟩
  · cases e
/-- two readings of one built-in -/
def gAlt (g1 g2 : Mem → List D → Option D) (M : Mem) (xs : List D) : Option D := match g1 M xs with
  | some d => some d
  | none => g2 M xs
theorem CaG.or {f : Value} {g1 g2 : Mem → List D → Option D} (h1 : CaG X C f g1) (h2 : CaG X C f g2) : CaG X C f (gAlt g1 g2) := by
  obtain ⟨r1, a1, b1⟩ := h1
  obtain ⟨r2, a2, b2⟩ := h2
  refine ⟨_, a1.or a2, fun M xs z e vs F A H h r Q q => ?_⟩
  unfold gAlt at e
  cases e1 : g1 M xs with
  | some d => rw [e1] at e; cases e; exact .inl (b1 M xs _ e1 vs F A H h r Q q)
  | none => rw [e1] at e; exact .inr (b2 M xs z e vs F A H h r Q q)
theorem cIsA (kn : KnX X.K C ko kt) : CaG X C (.builtin "isinstance") (gAlt (gIsX ko kt) gIsI) := (cIsX kn).or cIsI
/-- a class's name -/
theorem gCls {x : Str} {c : Nat} {pos : Pos} (hg : Gl X x) (hm : X.mg x = some (.ref (C c))) (hd : (x == ("__debug__" : Str)) = false := by decide) : PEG X C (.Name x pos) (xC (.cls c)) :=
  ⟨_, pe_glob (v := .ref (C c)) hg hm rfl hd, tC_g fun _ _ => rfl⟩
/-- e.row of a kept exception of the class c0 -/
def xRow (c0 : Nat) (f : Ex) : Ex := fun Γ M => (f Γ M).bind fun x => match x with
  | .exc c (some n) => if c = c0 then some (.int n) else none
  | _ => none
theorem gRow {c0 : Nat} {e : Expr} {f : Ex} {pos : Pos} (T : XCls X.K (C c0)) (hd : PySem.W.hasDictIn X.K (C c0) = true) (hn : PySem.W.findIn X.K (.ref (C c0)) "row" = some none) (he : PEG X C e f) (hb : attributeBase e "row" X.env (eval e X.env) = eval e X.env := by rfl) :
    PEG X C (.Attribute e "row" pos) (xRow c0 f) := by
  obtain ⟨t, a1, a2⟩ := he
  refine ⟨_, pe_xfld a1 hb, fun Γ M d q σ F A H h s Q k => ?_⟩
  obtain ⟨x, q1, q2⟩ := bindS q
  clear q
  split at q2
  · split at q2
    · rename_i n hc
      subst hc
      cases q2
      refine a2 Γ M _ q1 σ F A H h s _ fun v F1 H1 g1 r1 => ?_
      obtain ⟨a, rfl, hx⟩ := exc_at g1.fh r1
      exact ⟨a, _, _, .int n, rfl, hx, T, hd, hn, by rfl, k _ F1 H1 g1 rfl⟩
    · cases q2
  · cases q2
end
end G
set_option Elab.async false
set_option linter.all false
set_option maxRecDepth 100000
set_option maxHeartbeats 4000000
namespace G
open PySem PySem.Spec PyProof.Rows L2
/-! ### zip of two lists, of two tuples -/
def ixZA (w : Ax) : Ax := fun Γ M => (w Γ M).bind fun xs => match xs with
  | [.lst a, .lst b] => some (zipL a b)
  | [.tup a, .tup b] => some (zipL a b)
  | _ => none
theorem iZA {X : Cx} {C : Nat → Addr} {a b : Expr} {w : Ax} {elts : List Expr} {kk : Nat} {tpos p pos : Pos} (hg : Gl X "zip") (hm : X.mg "zip" = none) (ha : PAG X C [a, b] w)
    (mk : ∀ {ta : TA}, PA X [a, b] ta → PI X (.Tuple elts kk tpos) (.Call (.Name "zip" p) [a, b] [] pos) (RZ.iZipA X.K ta)) : PIG X C (.Tuple elts kk tpos) (.Call (.Name "zip" p) [a, b] [] pos) (ixZA w) := by
  obtain ⟨t, a1, a2⟩ := ha
  refine ⟨_, mk a1, fun Γ M ds e σ F A H h s R q => ?_⟩
  obtain ⟨xs, e1, e⟩ := bindS e
  split at e
  · cases e
    refine a2 Γ M _ e1 σ F A H h s _ fun vs F1 H1 g1 r1 => ?_
    obtain ⟨v, u, rfl, ⟨a, xs, rfl, h1, h2⟩, ⟨b, ys, rfl, h3, h4⟩⟩ := r1.inv2
    refine ⟨a, b, xs, ys, rfl, .inl ⟨SqL.of (g1.fh _ _ h1), SqL.of (g1.fh _ _ h3), q _ F1 H1 g1 fun i M2 F2 A2 H2 s1 s2 h5 => ?_⟩⟩
    have q1 : SqL X.K H2 a xs := SqL.of ((s1.trans h5.fs) _ _ h1)
    have q2 : SqL X.K H2 b ys := SqL.of ((s1.trans h5.fs) _ _ h3)
    refine ⟨fun hl => ⟨xs, ys, q1, q2, ?_⟩, fun d e => ?_⟩
    · rw [zipL_len] at hl
      rw [← h2.len, ← h4.len]
      omega
    · rw [zipL_get] at e
      obtain ⟨d1, e1, e⟩ := bindS e
      obtain ⟨d2, e2, rfl⟩ := Option.map_eq_some_iff.mp e
      obtain ⟨v1, e3, e4⟩ := h2.get' e1
      obtain ⟨v2, e5, e6⟩ := h4.get' e2
      refine ⟨⟨xs, ys, v1, v2, q1, q2, e3, e5⟩, fun x H' y => ?_⟩
      obtain ⟨P, x1, x2, rfl, nP, rfl, y1, y2⟩ := y
      cases (y1 xs q1).symm.trans e3
      cases (y2 ys q2).symm.trans e5
      exact ⟨_, Grow.new h5.fs nP, Rep.newTup h5.fs nP ⟨_, _, rfl, e4.up s1 s2, Reps.one (e6.up s1 s2)⟩⟩
  · cases e
    refine a2 Γ M _ e1 σ F A H h s _ fun vs F1 H1 g1 r1 => ?_
    obtain ⟨v, u, rfl, ⟨a, xs, rfl, h1, h2⟩, ⟨b, ys, rfl, h3, h4⟩⟩ := r1.inv2
    refine ⟨a, b, xs, ys, rfl, .inr ⟨SqT.of (g1.fh _ _ h1), SqT.of (g1.fh _ _ h3), q _ F1 H1 g1 fun i M2 F2 A2 H2 s1 s2 h5 => ?_⟩⟩
    have q1 : SqT X.K H2 a xs := SqT.of ((s1.trans h5.fs) _ _ h1)
    have q2 : SqT X.K H2 b ys := SqT.of ((s1.trans h5.fs) _ _ h3)
    refine ⟨fun hl => ⟨xs, ys, q1, q2, ?_⟩, fun d e => ?_⟩
    · rw [zipL_len] at hl
      rw [← h2.len, ← h4.len]
      omega
    · rw [zipL_get] at e
      obtain ⟨d1, e1, e⟩ := bindS e
      obtain ⟨d2, e2, rfl⟩ := Option.map_eq_some_iff.mp e
      obtain ⟨v1, e3, e4⟩ := h2.get' e1
      obtain ⟨v2, e5, e6⟩ := h4.get' e2
      refine ⟨⟨xs, ys, v1, v2, q1, q2, e3, e5⟩, fun x H' y => ?_⟩
      obtain ⟨P, x1, x2, rfl, nP, rfl, y1, y2⟩ := y
      cases (y1 xs q1).symm.trans e3
      cases (y2 ys q2).symm.trans e5
      exact ⟨_, Grow.new h5.fs nP, Rep.newTup h5.fs nP ⟨_, _, rfl, e4.up s1 s2, Reps.one (e6.up s1 s2)⟩⟩
  · cases e
/-! ### x.replace(' ', '  ', 1) -/
/-- the first c becomes z -/
def rep1L (c : Nat) (z : List Nat) : List Nat → List Nat
  | [] => []
  | k :: r => if k = c then z ++ r else k :: rep1L c z r
theorem rep1L_at {c : Nat} {z : List Nat} : ∀ {l : List Nat} {i : Nat}, l[i]? = some c → (∀ k, k < i → l[k]? ≠ some c) → rep1L c z l = l.take i ++ z ++ l.drop (i + 1)
  | [], i, h, _ => by simp at h
  | k :: r, 0, h, _ => by
    have e : k = c := by simpa using h
    simp [rep1L, e]
  | k :: r, i + 1, h, hn => by
    have e : k ≠ c := fun z => hn 0 (by omega) (by simp [z])
    have ih := rep1L_at (z := z) (l := r) (i := i) (by simpa using h) fun j hj => by
      have := hn (j + 1) (by omega)
      simpa using this
    simp [rep1L, e, ih]
def rep1 (x : Str) (c : Nat) (z : Str) : Str := ⟨(rep1L c z.cps.toList x.cps.toList).toArray⟩
open Builtin Builtin.Str in
theorem rep1_eq {x z : Str} {c : Nat} (h : c ∈ x.cps.toList) : ∃ i, occurrences x ⟨#[c]⟩ 0 x.length 1 = [i] ∧ glued z (partsBetween x [i] 1) = rep1 x c z ∧ (rep1 x c z).length ≤ x.length + z.length := by
  rcases StrLaws.occ_head x ⟨#[c]⟩ 1 (Nat.le_refl 1) with ⟨_, hn⟩ | ⟨i, r, h0, hi, hn⟩
  · obtain ⟨j, hj⟩ := List.getElem?_of_mem h
    exact absurd ((StrLaws.subAt_one x c j).mpr hj) (hn j)
  · have hl := StrLaws.occ_length_le x ⟨#[c]⟩ 0 x.length 1
    rw [h0] at hl
    have hr : r = [] := by
      cases r with
      | nil => rfl
      | cons _ _ => simp at hl
    subst hr
    have at_ := (StrLaws.subAt_one x c i).mp hi
    have e := rep1L_at (z := z.cps.toList) at_ fun k hk e => hn k hk ((StrLaws.subAt_one x c k).mpr e)
    refine ⟨i, h0, ?_, ?_⟩
    · unfold rep1
      rw [e]
      apply congrArg Str.mk
      apply Array.toList_inj.mp
      show ((strSub x 0 i).cps ++ z.cps ++ (strSub x (i + 1) x.length).cps).toList = _
      rw [Array.toList_append, Array.toList_append, StrLaws.strSub_toList, StrLaws.strSub_toList, List.drop_zero, Nat.sub_zero]
      have e2 : (x.cps.toList.drop (i + 1)).take (x.length - (i + 1)) = x.cps.toList.drop (i + 1) := List.take_of_length_le (by simp [Str.length])
      rw [e2]
    · show ((rep1L c z.cps.toList x.cps.toList).toArray).size ≤ x.cps.size + z.cps.size
      rw [e]
      simp only [List.size_toArray, List.length_append, List.length_take, List.length_drop, Array.length_toList]
      omega
open Builtin Builtin.Str in
theorem call_rep1 {prog : Program} {w : World} {A : Around} {E : Value → Shared → Prop} {s : Shared} {x z : Str} {c : Nat} {t u v k0 : Tok} {Q : Value → Shared → Prop} (hu : u ≠ 0) (hv : v ≠ 0) (huv : u ≠ v) (hyz : ((⟨#[c]⟩ : Str) == z) = false) (hc : c ∈ x.cps.toList) (hb : x.length + z.length ≤ 16777216)
    (hq : ∀ t' k, Q (.str (rep1 x c z) t') { s with toks := k }) : wpAny (model prog w) A (call (.builtin "str.replace") [.str x t, .str ⟨#[c]⟩ u, .str z v, .int 1 k0]) Q E s := by
  obtain ⟨i, h0, h1, h2⟩ := rep1_eq (z := z) hc
  have big : tooLong (x.length + [i].length * z.length) = false := by
    unfold tooLong
    refine decide_eq_false ?_
    rw [sizeLine_eq]
    simp only [List.length_singleton]
    omega
  refine call_gives (m := .str (rep1 x c z)) F.slot_str_replace (typeIs_str _ _ _) F.entry_str_replace (F.args_str_replace_4 _ _ _ _) ?_ ⟨by rw [sizeLine_eq]; omega, hq _ _⟩
  have e : «str.replace» ⟨[.str x t, .str ⟨#[c]⟩ u, .str z v, .int 1 k0], []⟩ = (if ((occurrences x ⟨#[c]⟩ 0 x.length 1).isEmpty || ((⟨#[c]⟩ : Str).length == 0 && z.length == 0)) = true then (do rule "str.replace.nothing"; ret (.str x t)) else
      (do
        let same ← isSame (.str ⟨#[c]⟩ u) (.str z v)
        if same = true then (do rule "str.replace.old-is-new"; ret (.str x t)) else
        if tooLong (x.length + (occurrences x ⟨#[c]⟩ 0 x.length 1).length * z.length) = true then unsupported "str.replace:memory" else
        retStr (glued z (partsBetween x (occurrences x ⟨#[c]⟩ 0 x.length 1) (⟨#[c]⟩ : Str).length)))) := by
    show (do let limit ← countLimit "str.replace" (some (.int 1 k0)) (x.length + 1); _) = _
    rw [countLimit_int "str.replace" 1 k0 (x.length + 1) (by decide)]
    rfl
  rw [e, h0, isSame_str_other ⟨#[c]⟩ z u v (by simp [hu, hv]) (by simp [huv]) hyz, big, ← h1]
  exact .of_eq rfl
/-- e behind which a token is out -/
def PEU (X : Cx) (e : Expr) (t : TE) : Prop := ∀ (pins : List (Addr × Obj)) (s : Shared) (σ : L2.St) (H : Hp) (Q : VK), L2.Inv X pins σ H s → t σ H Q → wpAny (model X.prog X.w) X.A (eval e X.env) (fun v s1 => 1 ≤ s1.toks ∧ EP X pins σ Q v s1) X.xe s
section
variable {X : Cx} {C : Nat → Addr} {a b e o : Expr} {es : List Expr} {f g : Ex} {ta te : TE} {tr : TA} {pos p apos c0 c1 c2 : Pos} {j j0 j1 j2 : Nat}
theorem peu_op {op : Operator} {c : Str} {r : R2} (ho : OpR X (binaryOp op) r) (ha : PE X a ta) : PEU X (.BinOp a op (.Constant (.str c) j p) pos) (tOp r ta (tC (.str c))) := by
  intro pins s σ H Q I h
  refine wpAny_BinOp (thn (ha.run pins s σ H _ I h) fun v s1 ⟨x, H1, I1, r1, q1⟩ => ?_)
  refine Calls.Constant_str ?_
  refine wpAny_mono (PySem.wpAny_toks (ho pins { s1 with toks := s1.toks + 1 } σ H1 x (.str c) v (.str c s1.toks) Q (I1.tok _) r1 ⟨_, rfl⟩ q1)) (fun u s2 q => ?_) fun _ _ z => z.2
  have hk : s1.toks + 1 ≤ s2.toks := q.1
  exact ⟨by omega, q.2⟩
theorem pa_consU (ha : PEU X e te) (hr : PAT X es tr) (hs : starEach (e :: es) X.env = (false, eval e X.env) :: starEach es X.env := by rfl) : PA X (e :: es) (tCons te tr) := by
  constructor
  intro pos pins s σ H Q I h
  rw [hs]
  refine Calls.spliced_cons (thn (ha pins s σ H _ I h) fun v s1 ⟨hk, x, H1, I1, r1, q1⟩ => ?_)
  exact thn (hr pos pins s1 σ H1 _ hk I1 q1) fun us s2 ⟨xs, H2, I2, r2, q2⟩ => ⟨x :: xs, H2, I2, .cons r1 r2, q2⟩
def tRep1 (to : TE) (c : Nat) (z : Str) : TE := fun σ H Q => to σ H fun v H1 => ∃ x, v = .str x ∧ c ∈ x.cps.toList ∧ x.length + z.length ≤ 16777216 ∧ Q (.str (rep1 x c z)) H1
theorem pet_rep1 {y z : Str} {c : Nat} (ho : PE X o te) (hy : y = ⟨#[c]⟩) (hyz : ((⟨#[c]⟩ : Str) == z) = false)
    (hst : starEach [.Constant (.str y) j0 c0, .Constant (.str z) j1 c1, .Constant (.int 1) j2 c2] X.env = [(false, eval (.Constant (.str y) j0 c0) X.env), (false, eval (.Constant (.str z) j1 c1) X.env), (false, eval (.Constant (.int 1) j2 c2) X.env)] := by rfl)
    (hbase : attributeBase o "replace" X.env (eval o X.env) = eval o X.env := by rfl) (hline : (apos.endLine == pos.line) = true := by rfl) :
    PET X (.Call (.Attribute o "replace" apos) [.Constant (.str y) j0 c0, .Constant (.str z) j1 c1, .Constant (.int 1) j2 c2] [] pos) (tRep1 te c z) := by
  intro pins s σ H Q h0 I h
  subst hy
  refine PySem.wpAny_Call_method_lateS hbase (by rw [hst]; rfl) hline ?_
  rw [hst]
  refine wpAny_mono (PySem.wpAny_toks (ho.run pins s σ H _ I h)) (fun v s1 q => ?_) fun _ _ z => z.2
  obtain ⟨hk, v', H1, I1, r1, x, e1, hm, hb, q⟩ := q
  subst e1
  obtain ⟨tx, e2⟩ := r1
  subst e2
  refine ⟨"str", _, PySem.F.plainAttrs_str, PySem.F.slot_str_replace, PySem.F.type_str_replace, typeIs_str _ _ _, (fun _ e => nomatch e), ?_⟩
  refine Calls.callWith_builtin rfl (Calls.evalArgs_plain (Calls.spliced_cons ?_))
  refine Calls.Constant_str (k := j0) (pos := c0) (Calls.spliced_cons ?_)
  refine Calls.Constant_str (k := j1) (pos := c1) (Calls.spliced_cons ?_)
  refine (fun z => z : wpAny _ _ (eval (.Constant (.int 1) j2 c2) X.env) _ _ _ → _) (PySem.wpAny_Constant_int (Calls.spliced_nil ?_))
  exact call_rep1 (by show s1.toks ≠ 0; omega) (by show s1.toks + 1 ≠ 0; omega) (by show s1.toks ≠ s1.toks + 1; omega) hyz hm hb fun t' k => ⟨.str (rep1 x c z), H1, I1.tok k, ⟨t', rfl⟩, q⟩
/-! ### .. as combinators -/
def PETG (X : Cx) (C : Nat → Addr) (e : Expr) (f : Ex) : Prop := ∃ t, PET X e t ∧ TEG ⟨X.K, C⟩ t f
def PATG (X : Cx) (C : Nat → Addr) (es : List Expr) (f : Ax) : Prop := ∃ t, PAT X es t ∧ TAG ⟨X.K, C⟩ t f
theorem PEG.t (h : PEG X C e f) : PETG X C e f := let ⟨t, a, b⟩ := h; ⟨t, fun pins s σ H Q _ I q => a.run pins s σ H Q I q, b⟩
theorem tCons_g {T : GE} {r : Ax} (a2 : TEG T te f) (b2 : TAG T tr r) : TAG T (tCons te tr) (xAcons f r) := fun Γ M d e σ F A H h s Q q => by
  obtain ⟨x, e1, e⟩ := bindS e
  obtain ⟨y, e2, e⟩ := bindS e
  cases e
  refine a2 Γ M x e1 σ F A H h s _ fun v F1 H1 g1 r1 => ?_
  refine b2 Γ M y e2 σ F1 A H1 (h.grow g1) (s.same g1.ff) _ fun u F2 H2 g2 r2 => ?_
  exact q _ F2 H2 (g1.trans g2) ⟨v, u, rfl, r1.same g2.ff, r2⟩
theorem gAnilT : PATG X C [] xAnil := ⟨_, pat_nil, fun Γ M d e σ F A H h s Q q => by cases e; exact q [] F H (Grow.refl h.fs) rfl⟩
theorem gAconsT {r : Ax} (ha : PETG X C e f) (hr : PATG X C es r) (hs : starEach (e :: es) X.env = (false, eval e X.env) :: starEach es X.env := by rfl) : PATG X C (e :: es) (xAcons f r) := by
  obtain ⟨t1, a1, a2⟩ := ha
  obtain ⟨t2, b1, b2⟩ := hr
  exact ⟨_, pat_cons a1 b1 hs, tCons_g a2 b2⟩
/-- the first item is x + '..' -/
theorem gAconsU {r : Ax} {op : Operator} {c : Str} {k : Mem → D → D → Option D} (ho : OpG X C (binaryOp op) k) (ha : PEG X C a f) (hr : PATG X C es r) (hs : starEach ((.BinOp a op (.Constant (.str c) j p) pos) :: es) X.env = (false, eval (.BinOp a op (.Constant (.str c) j p) pos) X.env) :: starEach es X.env := by rfl) :
    PAG X C ((.BinOp a op (.Constant (.str c) j p) pos) :: es) (xAcons (xBin k f (xC (.str c))) r) := by
  obtain ⟨r0, o1, o2⟩ := ho
  obtain ⟨t1, a1, a2⟩ := ha
  obtain ⟨t2, b1, b2⟩ := hr
  exact ⟨_, pa_consU (peu_op o1 a1) b1 hs, tCons_g (tOp_g o2 a2 (tC_g fun _ _ => rfl)) b2⟩
def xRep1 (c : Nat) (z : Str) (fo : Ex) : Ex := fun Γ M => (fo Γ M).bind fun x => match x with
  | .str a => if c ∈ a.cps.toList ∧ a.length ≤ 1000000 then some (.str (rep1 a c z)) else none
  | _ => none
theorem gRep1 {y z : Str} {c : Nat} (ho : PEG X C o f) (hy : y = ⟨#[c]⟩) (hyz : ((⟨#[c]⟩ : Str) == z) = false) (hz : z.length ≤ 1000)
    (hst : starEach [.Constant (.str y) j0 c0, .Constant (.str z) j1 c1, .Constant (.int 1) j2 c2] X.env = [(false, eval (.Constant (.str y) j0 c0) X.env), (false, eval (.Constant (.str z) j1 c1) X.env), (false, eval (.Constant (.int 1) j2 c2) X.env)] := by rfl)
    (hbase : attributeBase o "replace" X.env (eval o X.env) = eval o X.env := by rfl) (hline : (apos.endLine == pos.line) = true := by rfl) :
    PETG X C (.Call (.Attribute o "replace" apos) [.Constant (.str y) j0 c0, .Constant (.str z) j1 c1, .Constant (.int 1) j2 c2] [] pos) (xRep1 c z f) := by
  obtain ⟨t, a1, a2⟩ := ho
  refine ⟨_, pet_rep1 a1 hy hyz hst hbase hline, fun Γ M d q σ F A H h s Q k => ?_⟩
  obtain ⟨x, q1, q2⟩ := bindS q
  clear q
  split at q2
  · split at q2
    · rename_i hc
      cases q2
      refine a2 Γ M _ q1 σ F A H h s _ fun v F1 H1 g1 r1 => ?_
      exact ⟨_, r1, hc.1, by omega, k _ F1 H1 g1 rfl⟩
    · cases q2
  · cases q2
end
end G
set_option Elab.async false
set_option linter.all false
set_option maxRecDepth 100000
set_option maxHeartbeats 4000000
namespace G
open PySem PySem.Spec PyProof.Rows L2
/-! ### one turn of a loop; loops as folds -/
def turnF (g : Gx) (kl : List Nat) (b : Sx) (d : D) (Γ : Sl) (M : Mem) : Option Out := (g d Γ).bind fun Γ1 => (b Γ1 M).bind fun o => match o with
  | .nx Γ2 M2 => some (.nx (kills Γ2 kl) M2)
  | .ct Γ2 M2 => some (.nx (kills Γ2 kl) M2)
  | .bk Γ2 M2 => some (.bk (kills Γ2 kl) M2)
  | o => some o
theorem loopF_cons (g : Gx) (kl : List Nat) (b : Sx) (d : D) (r : List D) (Γ : Sl) (M : Mem) : loopF g kl b (d :: r) Γ M = (turnF g kl b d Γ M).bind fun o => match o with
    | .nx Γ2 M2 => loopF g kl b r Γ2 M2
    | .bk Γ2 M2 => some (.nx Γ2 M2)
    | o => some o := by
  show ((g d Γ).bind fun Γ1 => (b Γ1 M).bind fun o => _) = _
  unfold turnF
  cases g d Γ with
  | none => rfl
  | some Γ1 =>
    show ((b Γ1 M).bind fun o => _) = Option.bind ((b Γ1 M).bind fun o => _) _
    cases b Γ1 M with
    | none => rfl
    | some o => cases o <;> rfl
theorem loop_fold {α β : Type} {g : Gx} {kl : List Nat} {b : Sx} (enc : α → D) (Γf : β → Sl) (Mf : β → Mem) (step : β → α → β) (P : β → Prop) : ∀ (ys : List α) (s : β), P s →
    (∀ s x, x ∈ ys → P s → P (step s x) ∧ turnF g kl b (enc x) (Γf s) (Mf s) = some (.nx (Γf (step s x)) (Mf (step s x)))) →
    loopF g kl b (ys.map enc) (Γf s) (Mf s) = some (.nx (Γf (ys.foldl step s)) (Mf (ys.foldl step s))) ∧ P (ys.foldl step s)
  | [], s, hp, _ => ⟨rfl, hp⟩
  | y :: ys, s, hp, h => by
    obtain ⟨h1, h2⟩ := h s y List.mem_cons_self hp
    obtain ⟨h3, h4⟩ := loop_fold enc Γf Mf step P ys (step s y) h1 fun s x hx => h s x (List.mem_cons_of_mem _ hx)
    refine ⟨?_, h4⟩
    rw [List.map_cons, loopF_cons, h2]
    exact h3
/-- by the number of turns gone -/
theorem loop_seq {g : Gx} {kl : List Nat} {b : Sx} : ∀ (xs : List D) (Γf : Nat → Sl) (Mf : Nat → Mem), (∀ i d, xs[i]? = some d → turnF g kl b d (Γf i) (Mf i) = some (.nx (Γf (i + 1)) (Mf (i + 1)))) →
    loopF g kl b xs (Γf 0) (Mf 0) = some (.nx (Γf xs.length) (Mf xs.length))
  | [], _, _, _ => rfl
  | x :: xs, Γf, Mf, h => by
    rw [loopF_cons, h 0 x rfl]
    exact loop_seq xs (fun i => Γf (i + 1)) (fun i => Mf (i + 1)) fun i d e => h (i + 1) d (by simpa using e)
/-- a loop with an invariant, its state left open -/
theorem loop_inv {g : Gx} {kl : List Nat} {b : Sx} (Inv : Nat → Sl → Mem → Prop) : ∀ (xs : List D) (n : Nat) (Γ : Sl) (M : Mem), Inv n Γ M → (∀ i d Γ M, xs[i]? = some d → Inv (n + i) Γ M → ∃ Γ' M', turnF g kl b d Γ M = some (.nx Γ' M') ∧ Inv (n + i + 1) Γ' M') →
    ∃ Γ' M', loopF g kl b xs Γ M = some (.nx Γ' M') ∧ Inv (n + xs.length) Γ' M'
  | [], n, Γ, M, h, _ => ⟨Γ, M, rfl, h⟩
  | x :: xs, n, Γ, M, h, hs => by
    obtain ⟨Γ1, M1, e1, h1⟩ := hs 0 x Γ M rfl h
    obtain ⟨Γ2, M2, e2, h2⟩ := loop_inv Inv xs (n + 1) Γ1 M1 h1 fun i d Γ M e hI => by
      have := hs (i + 1) d Γ M (by simpa using e) (by rw [show n + (i + 1) = n + 1 + i by omega]; exact hI)
      rw [show n + (i + 1) + 1 = n + 1 + i + 1 by omega] at this
      exact this
    refine ⟨Γ2, M2, ?_, by rw [List.length_cons, show n + (xs.length + 1) = n + 1 + xs.length by omega]; exact h2⟩
    rw [loopF_cons, e1]
    exact e2
/-- a comprehension, item by item -/
theorem lcF_map {α : Type} {g : Gx} {t : Tx} {f : Ex} {Γ : Sl} {M : Mem} (enc : α → D) (h : α → D) : ∀ ys : List α, (∀ y ∈ ys, ∃ Γ1, g (enc y) Γ = some Γ1 ∧ t Γ1 M = some true ∧ f Γ1 M = some (h y)) → lcF g t f Γ M (ys.map enc) = some (ys.map h)
  | [], _ => rfl
  | y :: ys, hh => by
    obtain ⟨Γ1, e1, e2, e3⟩ := hh y List.mem_cons_self
    have ih := lcF_map enc h ys fun z hz => hh z (List.mem_cons_of_mem _ hz)
    show ((g (enc y) Γ).bind fun Γ1 => (t Γ1 M).bind fun k => if k = true then (f Γ1 M).bind fun y => (lcF g t f Γ M (ys.map enc)).map (y :: ·) else _) = _
    rw [e1, Option.bind_some, e2, Option.bind_some, if_pos rfl, e3, Option.bind_some, ih]
    rfl
theorem lcF_filter {α : Type} {g : Gx} {t : Tx} {f : Ex} {Γ : Sl} {M : Mem} (enc : α → D) (p : α → Bool) (h : α → D) : ∀ ys : List α, (∀ y ∈ ys, ∃ Γ1, g (enc y) Γ = some Γ1 ∧ t Γ1 M = some (p y) ∧ (p y = true → f Γ1 M = some (h y))) → lcF g t f Γ M (ys.map enc) = some ((ys.filter p).map h)
  | [], _ => rfl
  | y :: ys, hh => by
    obtain ⟨Γ1, e1, e2, e3⟩ := hh y List.mem_cons_self
    have ih := lcF_filter enc p h ys fun z hz => hh z (List.mem_cons_of_mem _ hz)
    show ((g (enc y) Γ).bind fun Γ1 => (t Γ1 M).bind fun k => if k = true then (f Γ1 M).bind fun y => (lcF g t f Γ M (ys.map enc)).map (y :: ·) else lcF g t f Γ M (ys.map enc)) = _
    rw [e1, Option.bind_some, e2, Option.bind_some]
    cases hp : p y with
    | true => rw [if_pos rfl, e3 hp, Option.bind_some, ih, List.filter_cons_of_pos hp]; rfl
    | false => rw [if_neg Bool.false_ne_true, ih, List.filter_cons_of_neg (by simp [hp])]
/-! ### small steps for simp -/
section
variable {Γ : Sl} {M : Mem}
@[simp] theorem ap_sSeq (a b : Sx) : sSeq a b Γ M = (a Γ M).bind fun o => match o with
  | .nx Γ1 M1 => b Γ1 M1
  | o => some o := rfl
@[simp] theorem ap_sNext : sNext Γ M = some (.nx Γ M) := rfl
@[simp] theorem ap_sSet (i : Nat) (f : Ex) : sSet i f Γ M = (f Γ M).bind fun d => some (.nx (Γ.set i (some d)) M) := rfl
@[simp] theorem ap_sNew (i : Nat) (f : Ex) : sNew i f Γ M = (f Γ M).bind fun d => some (.nx (Γ.set i (some (.loc M.length))) (M ++ [some d])) := rfl
@[simp] theorem ap_sRet (f : Ex) : sRet f Γ M = (f Γ M).bind fun d => some (.rt d M) := rfl
@[simp] theorem ap_sRetN : sRetN Γ M = some (.rt .non M) := rfl
@[simp] theorem ap_sDrop (f : Ex) : sDrop f Γ M = (f Γ M).bind fun _ => some (.nx Γ M) := rfl
@[simp] theorem ap_sBreak : sBreak Γ M = some (.bk Γ M) := rfl
@[simp] theorem ap_sCont : sCont Γ M = some (.ct Γ M) := rfl
@[simp] theorem ap_sIf (c : Tx) (a b : Sx) : sIf c a b Γ M = (c Γ M).bind fun k => if k = true then a Γ M else b Γ M := rfl
@[simp] theorem ap_sAug (k : Mem → D → D → Option D) (i : Nat) (f : Ex) : sAug k i f Γ M = (xVar i Γ M).bind fun x => (f Γ M).bind fun y => (k M x y).bind fun z => some (.nx (Γ.set i (some z)) M) := rfl
@[simp] theorem ap_sAsg (g : Gx) (f : Ex) : sAsg g f Γ M = (f Γ M).bind fun d => (g d Γ).bind fun Γ1 => some (.nx Γ1 M) := rfl
@[simp] theorem ap_sMut (k : D → List D → Option D) (fr : Ex) (fa : Ax) : sMut k fr fa Γ M = (fr Γ M).bind fun x => (fa Γ M).bind fun ys => match x with
  | .loc n => (match M[n]? with
    | some (some c) => (k c ys).bind fun c' => some (.nx Γ (M.set n (some c')))
    | _ => none)
  | _ => none := rfl
@[simp] theorem ap_sPut (fo fi fv : Ex) : sPut fo fi fv Γ M = (fv Γ M).bind fun d => (fo Γ M).bind fun x => (fi Γ M).bind fun y => withLoc M x fun n c => (kPut c y d).bind fun c' => some (.nx Γ (M.set n (some c'))) := rfl
@[simp] theorem ap_sFrz (i : Nat) (s : Sx) : sFrz i s Γ M = (s Γ M).bind (frzO i) := rfl
@[simp] theorem ap_sFor (g : Gx) (kl : List Nat) (it : Ax) (b : Sx) : sFor g kl it b Γ M = (it Γ M).bind fun ds => loopF g kl b ds (kills Γ kl) M := rfl
@[simp] theorem ap_sWhile (n : Nat) (c : Tx) (kl : List Nat) (b : Sx) : sWhile n c kl b Γ M = whileF c kl b n (kills Γ kl) M := rfl
@[simp] theorem ap_frzO (i : Nat) : frzO i (.nx Γ M) = (xVar i Γ M).bind fun x => withLoc M x fun n c => if locFree c = true then some (.nx (Γ.set i (some c)) (M.set n none)) else none := rfl
@[simp] theorem ap_frzR (i : Nat) (d : D) : frzO i (.rt d M) = some (.rt d M) := rfl
@[simp] theorem ap_withLoc {α : Type} (n : Nat) (k : Nat → D → Option α) : withLoc M (.loc n) k = match M[n]? with
  | some (some c) => k n c
  | _ => none := rfl
@[simp] theorem ap_xC (d : D) : xC d Γ M = some d := rfl
@[simp] theorem ap_xBin (g : Mem → D → D → Option D) (a b : Ex) : xBin g a b Γ M = (a Γ M).bind fun x => (b Γ M).bind fun y => g M x y := rfl
@[simp] theorem ap_xAnil : xAnil Γ M = some [] := rfl
@[simp] theorem ap_xAcons (a : Ex) (r : Ax) : xAcons a r Γ M = (a Γ M).bind fun x => (r Γ M).bind fun xs => some (x :: xs) := rfl
@[simp] theorem ap_xTup (r : Ax) : xTup r Γ M = (r Γ M).bind fun xs => if xs.length ≤ 1000000 then some (.tup xs) else none := rfl
@[simp] theorem ap_xLst (r : Ax) : xLst r Γ M = (r Γ M).bind fun xs => if xs.length ≤ 1000000 then some (.lst xs) else none := rfl
@[simp] theorem ap_xCall (g : Mem → List D → Option D) (r : Ax) : xCall g r Γ M = (r Γ M).bind fun xs => g M xs := rfl
@[simp] theorem ap_xIf (c : Tx) (a b : Ex) : xIf c a b Γ M = (c Γ M).bind fun k => if k = true then a Γ M else b Γ M := rfl
@[simp] theorem ap_tVal (a : Ex) : tVal a Γ M = (a Γ M).bind fun x => match x with
  | .bl k => some k
  | _ => none := rfl
@[simp] theorem ap_tAnd (a b : Tx) : G.tAnd a b Γ M = (a Γ M).bind fun k => if k = true then b Γ M else some false := rfl
@[simp] theorem ap_tOr (a b : Tx) : G.tOr a b Γ M = (a Γ M).bind fun k => if k = true then some true else b Γ M := rfl
@[simp] theorem ap_tNot (a : Tx) : G.tNot a Γ M = (a Γ M).bind fun k => some (!k) := rfl
@[simp] theorem ap_tYes : tYes_ Γ M = some true := rfl
@[simp] theorem ap_xAnd (a b : Ex) : xAnd a b Γ M = (a Γ M).bind fun x => match x with
  | .bl k => if k = true then b Γ M else some (.bl false)
  | _ => none := rfl
@[simp] theorem ap_xOr (a b : Ex) : xOr a b Γ M = (a Γ M).bind fun x => match x with
  | .bl k => if k = true then some (.bl true) else b Γ M
  | _ => none := rfl
@[simp] theorem ap_xNot (a : Ex) : xNot a Γ M = (a Γ M).bind fun x => match x with
  | .bl k => some (.bl (!k))
  | _ => none := rfl
@[simp] theorem ap_xNeg (a : Ex) : xNeg a Γ M = (a Γ M).bind fun x => match x with
  | .int i => some (.int (-i))
  | _ => none := rfl
@[simp] theorem ap_oNone : oNone Γ M = some none := rfl
@[simp] theorem ap_oSome (a : Ex) : oSome a Γ M = (a Γ M).bind fun x => match x with
  | .int i => some (some i)
  | _ => none := rfl
@[simp] theorem ap_xSlice (k : Mem → D → Option Int → Option Int → Option D) (a : Ex) (lo hi : Ox) : xSlice k a lo hi Γ M = (a Γ M).bind fun x => (lo Γ M).bind fun l => (hi Γ M).bind fun u => k M x l u := rfl
@[simp] theorem ap_xCallP (p : List D → Option PR) (fa : Ax) : xCallP p fa Γ M = (fa Γ M).bind fun xs => if locFrees xs = true then (p xs).map PR.d else none := rfl
@[simp] theorem ap_xCallN (p : List D → Option PR) (fa : Ax) : xCallN p fa Γ M = (fa Γ M).bind fun xs => if locFrees xs = true then (p xs).bind fun r => match r with
  | .fresh c => some c
  | _ => none else none := rfl
@[simp] theorem ap_xCallL (p : List D → Option PR) (fa : Ax) : xCallL p fa Γ M = (fa Γ M).bind fun ds => (brws M ds).bind fun xs => (p xs).bind fun r => if cleanP r = true then some r.d else none := rfl
@[simp] theorem ap_xCallLN (p : List D → Option PR) (fa : Ax) : xCallLN p fa Γ M = (fa Γ M).bind fun ds => (brws M ds).bind fun xs => (p xs).bind fun r => if cleanP r = true then (match r with
  | .fresh c => some c
  | _ => none) else none := rfl
@[simp] theorem ap_xLc (g : Gx) (own : List Nat) (it : Ax) (t : Tx) (f : Ex) : xLc g own it t f Γ M = (it Γ M).bind fun ds => if ds.length ≤ 1000000 then (lcF g t f (kills Γ own) M ds).map .lst else none := rfl
@[simp] theorem ap_ixL (f : Ex) : ixL f Γ M = (f Γ M).bind vF := rfl
@[simp] theorem ap_ixE (w : Ax) : ixE w Γ M = (w Γ M).bind fun xs => match xs with
  | [x] => (vFL x).map (enumL 0)
  | _ => none := rfl
@[simp] theorem ap_ixR1 (w : Ax) : ixR1 w Γ M = (w Γ M).bind fun xs => match xs with
  | [.int j] => if -1000000 < j ∧ j < 1000000 then some (rngL 0 j.toNat) else none
  | _ => none := rfl
@[simp] theorem ap_ixR2 (w : Ax) : ixR2 w Γ M = (w Γ M).bind fun xs => match xs with
  | [.int i, .int j] => if -1000000 < i ∧ i < 1000000 ∧ -1000000 < j ∧ j < 1000000 then some (rngL i (j - i).toNat) else none
  | _ => none := rfl
@[simp] theorem ap_ixR3 (w : Ax) : ixR3 w Γ M = (w Γ M).bind fun xs => match xs with
  | [.int i, .int j, .int c] => if i = 0 ∧ 0 ≤ j ∧ j < 1000000 ∧ 1 ≤ c ∧ c < 1000000 then some (rngC c ((j + c - 1) / c).toNat) else none
  | _ => none := rfl
@[simp] theorem ap_gxName (i : Nat) (d : D) : gxName i d Γ = some (Γ.set i (some d)) := rfl
@[simp] theorem ap_gxNil : gxNil [] Γ = some Γ := rfl
@[simp] theorem ap_gxCons (g : Gx) (r : Gxs) (d : D) (ds : List D) : gxCons g r (d :: ds) Γ = (g d Γ).bind fun Γ1 => r ds Γ1 := rfl
@[simp] theorem ap_gxTup (n : Nat) (g : Gxs) (ds : List D) : gxTup n g (.tup ds) Γ = if ds.length = n then g ds Γ else none := rfl
@[simp] theorem kills_nil : kills Γ [] = Γ := rfl
@[simp] theorem kills_cons (k : Nat) (r : List Nat) : kills Γ (k :: r) = (kills Γ r).set k none := rfl
@[simp] theorem ap_xVar (i : Nat) : xVar i Γ M = match Γ[i]? with
  | some (some d) => some d
  | _ => none := rfl
@[simp] theorem vL_lst (ds : List D) : vL M (.lst ds) = some ds := rfl
@[simp] theorem vS_lst (ds : List D) : vS M (.lst ds) = some ds := rfl
@[simp] theorem vS_tup (ds : List D) : vS M (.tup ds) = some ds := rfl
@[simp] theorem vF_lst (ds : List D) : vF (.lst ds) = some ds := rfl
@[simp] theorem vF_tup (ds : List D) : vF (.tup ds) = some ds := rfl
@[simp] theorem vF_scr (ns : List Int) : vF (.scr ns) = some (ns.map .int) := rfl
@[simp] theorem vFL_lst (ds : List D) : vFL (.lst ds) = some ds := rfl
@[simp] theorem vFL_scr (ns : List Int) : vFL (.scr ns) = some (ns.map .int) := rfl
@[simp] theorem vL_loc (n : Nat) : vL M (.loc n) = match M[n]? with
  | some (some (.lst ds)) => some ds
  | _ => none := rfl
@[simp] theorem vS_loc (n : Nat) : vS M (.loc n) = match M[n]? with
  | some (some (.lst ds)) => some ds
  | _ => none := rfl
/-! operations on ints -/
@[simp] theorem gAdd_ii (i j : Int) : gAdd M (.int i) (.int j) = some (.int (i + j)) := rfl
@[simp] theorem gAddI_ii (i j : Int) : gAddI M (.int i) (.int j) = some (.int (i + j)) := rfl
@[simp] theorem gSub_ii (i j : Int) : gSub M (.int i) (.int j) = some (.int (i - j)) := rfl
@[simp] theorem gMul_ii (i j : Int) : gMul M (.int i) (.int j) = if (numOk i && numOk j) = true then some (.int (i * j)) else none := rfl
@[simp] theorem gDiv_ii (i j : Int) : gDiv M (.int i) (.int j) = if (decide (0 < j) && numOk j) = true then some (.int (i / j)) else none := rfl
@[simp] theorem gMod_ii (i j : Int) : gMod M (.int i) (.int j) = if 0 < j then some (.int (i % j)) else none := rfl
@[simp] theorem gPow_ii (i j : Int) : gPow M (.int i) (.int j) = if 0 ≤ j ∧ j ≤ 1000 ∧ -1000000 < i ∧ i < 1000000 then some (.int (i ^ j.toNat)) else none := rfl
@[simp] theorem gLt_ii (i j : Int) : gLt M (.int i) (.int j) = some (.bl (decide (i < j))) := rfl
@[simp] theorem gLe_ii (i j : Int) : gLe M (.int i) (.int j) = some (.bl (decide (i ≤ j))) := rfl
@[simp] theorem gGt_ii (i j : Int) : gGt M (.int i) (.int j) = some (.bl (decide (j < i))) := rfl
@[simp] theorem gGe_ii (i j : Int) : gGe M (.int i) (.int j) = some (.bl (decide (j ≤ i))) := rfl
@[simp] theorem gEq_ii (i j : Int) : gEq M (.int i) (.int j) = some (.bl (decide (i = j))) := rfl
@[simp] theorem gNe_ii (i j : Int) : gNe M (.int i) (.int j) = some (.bl (!decide (i = j))) := rfl
@[simp] theorem gEq_ss (i j : Str) : gEq M (.str i) (.str j) = some (.bl (decide (i = j))) := rfl
@[simp] theorem gNe_ss (i j : Str) : gNe M (.str i) (.str j) = some (.bl (!decide (i = j))) := rfl
@[simp] theorem gEq_bb (i j : Bool) : gEq M (.bl i) (.bl j) = some (.bl (decide (i = j))) := rfl
@[simp] theorem gNe_bb (i j : Bool) : gNe M (.bl i) (.bl j) = some (.bl (!decide (i = j))) := rfl
@[simp] theorem gItem_li (ds : List D) (i : Int) : gItem M (.lst ds) (.int i) = atI ds i := rfl
@[simp] theorem gItem_ti (ds : List D) (i : Int) : gItem M (.tup ds) (.int i) = atI ds i := rfl
@[simp] theorem gItem_si (ns : List Int) (i : Int) : gItem M (.scr ns) (.int i) = (atI ns i).map .int := rfl
@[simp] theorem gItem_lo (n : Nat) (i : Int) : gItem M (.loc n) (.int i) = match vS M (.loc n) with
  | some ds => atI ds i
  | none => (gGet M (.loc n) (.int i)).join := rfl
@[simp] theorem gCut_l (ds : List D) (lo hi : Option Int) : gCut M (.lst ds) lo hi = some (.lst (cutD ds lo hi)) := rfl
@[simp] theorem gCut_s (ns : List Int) (lo hi : Option Int) : gCut M (.scr ns) lo hi = some (.lst ((cutD ns lo hi).map .int)) := rfl
@[simp] theorem gLen_l (ds : List D) : gLen M [.lst ds] = some (.int ds.length) := rfl
@[simp] theorem gLen_t (ds : List D) : gLen M [.tup ds] = some (.int ds.length) := rfl
@[simp] theorem gLen_s (ns : List Int) : gLen M [.scr ns] = some (.int ns.length) := rfl
@[simp] theorem gListOf_ (x : D) : gListOf M [x] = (vS M x).map .lst := rfl
@[simp] theorem gSum_ (x : D) : gSum M [x] = (vL M x).bind fun ds => (intsOf ds).map fun ns => .int ns.sum := rfl
@[simp] theorem gAll_ (x : D) : gAll M [x] = (vL M x).bind fun ds => (blsOf ds).map fun ns => .bl (ns.all id) := rfl
@[simp] theorem gAdd_ll (a b : List D) : gAdd M (.lst a) (.lst b) = if a.length + b.length ≤ 1000000 then some (.lst (a ++ b)) else none := rfl
@[simp] theorem gIntOf_i (i : Int) : gIntOf M [.int i] = some (.int i) := rfl
@[simp] theorem gIntOf_b (k : Bool) : gIntOf M [.bl k] = some (.int (if k then 1 else 0)) := rfl
@[simp] theorem kApp_ (ds : List D) (y : D) : kApp (.lst ds) [y] = if ds.length < 1000000 then some (.lst (ds ++ [y])) else none := rfl
@[simp] theorem kPut_li (ds : List D) (i : Int) (d : D) : kPut (.lst ds) (.int i) d = (ixN ds.length i).map fun j => .lst (ds.set j d) := rfl
@[simp] theorem pEnd_ (d : D) : pEnd (.ret d M) = if locFree d = true then some (.val d) else withLoc M d fun _ c => if locFree c = true then some (.fresh c) else none := rfl
@[simp] theorem brw_loc (n : Nat) : brw M (.loc n) = match M[n]? with
  | some (some c) => if locFree c = true then some c else none
  | _ => none := rfl
@[simp] theorem brw_lst (ds : List D) : brw M (.lst ds) = if locFrees ds = true then some (.lst ds) else none := rfl
@[simp] theorem brw_tup (ds : List D) : brw M (.tup ds) = if locFrees ds = true then some (.tup ds) else none := rfl
@[simp] theorem brw_int (i : Int) : brw M (.int i) = some (.int i) := rfl
@[simp] theorem brw_str (i : Str) : brw M (.str i) = some (.str i) := rfl
@[simp] theorem brw_bl (i : Bool) : brw M (.bl i) = some (.bl i) := rfl
@[simp] theorem brw_non : brw M .non = some .non := rfl
@[simp] theorem brw_asc (k : AK) (kvs : List (DK × D)) : brw M (.asc k kvs) = if locFreeA kvs = true then some (.asc k kvs) else none := rfl
@[simp] theorem brws_nil : brws M [] = some [] := rfl
@[simp] theorem brws_cons (d : D) (r : List D) : brws M (d :: r) = (brw M d).bind fun x => (brws M r).bind fun xs => some (x :: xs) := rfl
@[simp] theorem cleanP_v (d : D) : cleanP (.val d) = clean d := rfl
@[simp] theorem cleanP_l (ds : List D) : cleanP (.fresh (.lst ds)) = cleans ds := rfl
@[simp] theorem cleanP_a (k : AK) (kvs : List (DK × D)) : cleanP (.fresh (.asc k kvs)) = cleanA kvs := rfl
@[simp] theorem clean_tup (ds : List D) : clean (.tup ds) = cleans ds := rfl
@[simp] theorem clean_str (z : Str) : clean (.str z) = true := rfl
@[simp] theorem clean_non : clean .non = true := rfl
@[simp] theorem cleans_nil : cleans [] = true := rfl
@[simp] theorem cleans_cons (d : D) (r : List D) : cleans (d :: r) = (clean d && cleans r) := rfl
@[simp] theorem clean_bl (b : Bool) : clean (.bl b) = true := rfl
@[simp] theorem clean_int (b : Int) : clean (.int b) = true := rfl
@[simp] theorem PR_v (d : D) : PR.d (.val d) = d := rfl
@[simp] theorem PR_f (d : D) : PR.d (.fresh d) = d := rfl
@[simp] theorem locFrees_nil : locFrees [] = true := rfl
@[simp] theorem locFrees_cons (d : D) (r : List D) : locFrees (d :: r) = (locFree d && locFrees r) := rfl
@[simp] theorem locFree_int (i : Int) : locFree (.int i) = true := rfl
@[simp] theorem locFree_str (i : Str) : locFree (.str i) = true := rfl
@[simp] theorem locFree_bl (i : Bool) : locFree (.bl i) = true := rfl
@[simp] theorem locFree_non : locFree .non = true := rfl
@[simp] theorem locFree_scr (i : List Int) : locFree (.scr i) = true := rfl
@[simp] theorem locFree_tup (ds : List D) : locFree (.tup ds) = locFrees ds := rfl
@[simp] theorem locFree_lst (ds : List D) : locFree (.lst ds) = locFrees ds := rfl
@[simp] theorem locFree_loc (n : Nat) : locFree (.loc n) = false := rfl
@[simp] theorem locFree_asc (k : AK) (kvs : List (DK × D)) : locFree (.asc k kvs) = locFreeA kvs := rfl
end
theorem locFrees_all (ds : List D) : locFrees ds = ds.all locFree := by
  induction ds with
  | nil => rfl
  | cons d r ih => rw [locFrees_cons, ih]; rfl
@[simp] theorem locFrees_map {α : Type} (f : α → D) (h : ∀ a, locFree (f a) = true) (l : List α) : locFrees (l.map f) = true := by
  rw [locFrees_all, List.all_map, List.all_eq_true]
  exact fun x _ => h x
@[simp] theorem locFrees_ints (l : List Int) : locFrees (l.map .int) = true := locFrees_map _ (fun _ => rfl) l
@[simp] theorem locFrees_append (a b : List D) : locFrees (a ++ b) = (locFrees a && locFrees b) := by
  rw [locFrees_all, locFrees_all, locFrees_all, List.all_append]
theorem cleans_all (ds : List D) : cleans ds = ds.all clean := by
  induction ds with
  | nil => rfl
  | cons d r ih => show (clean d && cleans r) = _; rw [ih]; rfl
theorem cleans_map {α : Type} (f : α → D) (h : ∀ a, clean (f a) = true) (l : List α) : cleans (l.map f) = true := by
  rw [cleans_all, List.all_map, List.all_eq_true]
  exact fun x _ => h x
@[simp] theorem intsOf_map (l : List Int) : intsOf (l.map .int) = some l := by
  induction l with
  | nil => rfl
  | cons x r ih => rw [List.map_cons]; show (intsOf (r.map .int)).map (x :: ·) = _; rw [ih]; rfl
@[simp] theorem blsOf_map (l : List Bool) : blsOf (l.map .bl) = some l := by
  induction l with
  | nil => rfl
  | cons x r ih => rw [List.map_cons]; show (blsOf (r.map .bl)).map (x :: ·) = _; rw [ih]; rfl
theorem cutD_map {α β : Type} (f : α → β) (l : List α) (lo hi : Option Int) : cutD (l.map f) lo hi = (cutD l lo hi).map f := by
  unfold cutD
  rw [List.length_map, List.map_take, List.map_drop]
theorem numOk_of {i : Int} (h1 : -1000000000000000000000000000000000000000000000000000000000000 < i) (h2 : i < 1000000000000000000000000000000000000000000000000000000000000) : numOk i = true := decide_eq_true ⟨h1, h2⟩
theorem atI_map {α β : Type} (f : α → β) (l : List α) (i : Int) : atI (l.map f) i = (atI l i).map f := by
  unfold atI
  rw [List.length_map]
  cases ixN l.length i with
  | none => rfl
  | some j => exact List.getElem?_map
theorem atI_in {α : Type} {l : List α} {i : Int} (h0 : 0 ≤ i) (h1 : i < l.length) : ∃ a, atI l i = some a ∧ l[i.toNat]? = some a := by
  have : i.toNat < l.length := by omega
  refine ⟨l[i.toNat], ?_, by simp [this]⟩
  unfold atI ixN
  rw [if_pos h0, if_pos h1]
  simp [this]
end G
set_option Elab.async false
set_option linter.all false
set_option maxRecDepth 100000
set_option maxHeartbeats 4000000
namespace G
open PySem PySem.Spec PyProof.Rows L2
/-! ### memory -/
section
variable {α : Type}
@[simp] theorem mget0 (M L : List α) : (M ++ L)[M.length]? = L[0]? := by
  rw [List.getElem?_append_right (Nat.le_refl _), Nat.sub_self]
@[simp] theorem mgetk (M L : List α) (k : Nat) : (M ++ L)[M.length + k]? = L[k]? := by
  rw [List.getElem?_append_right (by omega), show M.length + k - M.length = k by omega]
@[simp] theorem mset0 (M L : List α) (a : α) : (M ++ L).set M.length a = M ++ L.set 0 a := by
  rw [List.set_append_right _ _ (Nat.le_refl _), Nat.sub_self]
@[simp] theorem msetk (M L : List α) (k : Nat) (a : α) : (M ++ L).set (M.length + k) a = M ++ L.set k a := by
  rw [List.set_append_right _ _ (by omega), show M.length + k - M.length = k by omega]
end
/-! ### where a turn, a loop or a part of a def leads -/
structure NxTo (P : Sl → Mem → Prop) (o : Option Out) : Prop where
  ex : ∃ Γ M, o = some (.nx Γ M) ∧ P Γ M
@[simp] theorem NxTo_nx (P : Sl → Mem → Prop) (Γ : Sl) (M : Mem) : NxTo P (some (.nx Γ M)) = P Γ M := propext ⟨fun h => by
  obtain ⟨Γ1, M1, e, h⟩ := h.ex
  cases e
  exact h, fun h => ⟨Γ, M, rfl, h⟩⟩
theorem NxTo.of {P : Sl → Mem → Prop} {o : Option Out} {Γ : Sl} {M : Mem} (e : o = some (.nx Γ M)) (h : P Γ M) : NxTo P o := ⟨Γ, M, e, h⟩
theorem loop_to {g : Gx} {kl : List Nat} {b : Sx} (Inv : Nat → Sl → Mem → Prop) (xs : List D) (Γ : Sl) (M : Mem) (h : Inv 0 Γ M) (hs : ∀ i d Γ M, xs[i]? = some d → i < xs.length → Inv i Γ M → NxTo (Inv (i + 1)) (turnF g kl b d Γ M)) : NxTo (Inv xs.length) (loopF g kl b xs Γ M) := by
  obtain ⟨Γ', M', e, h'⟩ := loop_inv Inv xs 0 Γ M h fun i d Γ M e hI => by
    rw [Nat.zero_add] at hI ⊢
    exact (hs i d Γ M e (List.getElem?_eq_some_iff.mp e).1 hI).ex
  rw [Nat.zero_add] at h'
  exact .of e h'
@[simp] theorem numOk_lit (n : Nat) : numOk (no_index (OfNat.ofNat n : Int)) = decide (n < 1000000000000000000000000000000000000000000000000000000000000) := by
  unfold numOk
  show decide ((-1000000000000000000000000000000000000000000000000000000000000 : Int) < ((OfNat.ofNat n : Nat) : Int) ∧ ((OfNat.ofNat n : Nat) : Int) < 1000000000000000000000000000000000000000000000000000000000000) = decide (n < 1000000000000000000000000000000000000000000000000000000000000)
  congr 1
  apply propext
  show ((-1000000000000000000000000000000000000000000000000000000000000 : Int) < (n : Int) ∧ (n : Int) < 1000000000000000000000000000000000000000000000000000000000000) ↔ _
  omega
@[simp] theorem numOk_neg (i : Int) : numOk (-i) = numOk i := by
  unfold numOk
  congr 1
  apply propext
  omega
example : numOk 1000000007 = true := by simp
theorem seq_nx {a b : Sx} {Γ Γ1 : Sl} {M M1 : Mem} (h : a Γ M = some (.nx Γ1 M1)) : sSeq a b Γ M = b Γ1 M1 := by
  rw [ap_sSeq, h]; rfl
theorem run_rt {N : Nat} {s : Sx} {ds : List D} {M M1 : Mem} {d : D} (h : s (ds.map some ++ List.replicate (N - ds.length) none) M = some (.rt d M1)) : runB N s ds M = some (.ret d M1) := by
  unfold runB
  rw [h]; rfl
theorem run_nx {N : Nat} {s : Sx} {ds : List D} {M M1 : Mem} {Γ : Sl} (h : s (ds.map some ++ List.replicate (N - ds.length) none) M = some (.nx Γ M1)) : runB N s ds M = some (.ret .non M1) := by
  unfold runB
  rw [h]; rfl
theorem pRun_v {I : Fx} {ds : List D} {d : D} {M : Mem} (h : I ds [] = some (.ret d M)) (hd : locFree d = true) : pRun I ds = some (.val d) := by
  unfold pRun
  rw [h, Option.bind_some, pEnd_, if_pos hd]
theorem pRun_f {I : Fx} {ds : List D} {d : D} {n : Nat} {M : Mem} (h : I ds [] = some (.ret (.loc n) M)) (hm : M[n]? = some (some d)) (hd : locFree d = true) : pRun I ds = some (.fresh d) := by
  unfold pRun
  rw [h, Option.bind_some, pEnd_, locFree_loc, if_neg (by decide), ap_withLoc, hm]
  exact if_pos hd
/-! ### cuts -/
theorem cutD_up {α : Type} (xs : List α) (b : Nat) : cutD xs none (some (b : Int)) = xs.take b := by
  unfold cutD
  rw [HT.sIx_none, HT.sIx_nat, List.drop_zero, Nat.sub_zero, ← List.take_eq_take_min]
theorem cutD_up' {α : Type} (xs : List α) (b : Int) (h : 0 ≤ b) : cutD xs none (some b) = xs.take b.toNat := by
  have := cutD_up xs b.toNat
  rw [Int.toNat_of_nonneg h] at this
  exact this
theorem cutD_mid {α : Type} (xs : List α) (a b : Nat) : cutD xs (some (a : Int)) (some (b : Int)) = (xs.drop a).take (b - a) := by
  unfold cutD
  rw [HT.sIx_nat, HT.sIx_nat]
  by_cases h : a ≤ xs.length
  · rw [Nat.min_eq_left h]
    by_cases h2 : b ≤ xs.length
    · rw [Nat.min_eq_left h2]
    · rw [Nat.min_eq_right (by omega), List.take_of_length_le (by simp), List.take_of_length_le (by rw [List.length_drop]; omega)]
  · rw [List.drop_eq_nil_of_le (by omega), List.drop_eq_nil_of_le (by omega)]
    simp
theorem cutD_mid' {α : Type} (xs : List α) (a b : Int) (h : 0 ≤ a) (h2 : 0 ≤ b) : cutD xs (some a) (some b) = (xs.drop a.toNat).take (b.toNat - a.toNat) := by
  have := cutD_mid xs a.toNat b.toNat
  rw [Int.toNat_of_nonneg h, Int.toNat_of_nonneg h2] at this
  exact this
/-! ### what is like itself -/
def selfOk : Nat → D → Bool
  | _, .int _ => true
  | n + 1, .lst ds => decide (ds.length < 1000000) && ds.all (selfOk n)
  | n + 1, .tup ds => decide (ds.length < 1000000) && ds.all (selfOk n)
  | _, _ => false
/-! ### kinds -/
section
variable {M : Mem}
@[simp] theorem isTy_NoneType_int : isTy "NoneType" "int" = some false := by decide +kernel
@[simp] theorem isTy_NoneType_bool : isTy "NoneType" "bool" = some false := by decide +kernel
@[simp] theorem isTy_NoneType_str : isTy "NoneType" "str" = some false := by decide +kernel
@[simp] theorem isTy_NoneType_tuple : isTy "NoneType" "tuple" = some false := by decide +kernel
@[simp] theorem isTy_NoneType_list : isTy "NoneType" "list" = some false := by decide +kernel
@[simp] theorem isTy_NoneType_dict : isTy "NoneType" "dict" = some false := by decide +kernel
@[simp] theorem isTy_bool_int : isTy "bool" "int" = some true := by decide +kernel
@[simp] theorem isTy_bool_bool : isTy "bool" "bool" = some true := by decide +kernel
@[simp] theorem isTy_bool_str : isTy "bool" "str" = some false := by decide +kernel
@[simp] theorem isTy_bool_tuple : isTy "bool" "tuple" = some false := by decide +kernel
@[simp] theorem isTy_bool_list : isTy "bool" "list" = some false := by decide +kernel
@[simp] theorem isTy_bool_dict : isTy "bool" "dict" = some false := by decide +kernel
@[simp] theorem isTy_int_int : isTy "int" "int" = some true := by decide +kernel
@[simp] theorem isTy_int_bool : isTy "int" "bool" = some false := by decide +kernel
@[simp] theorem isTy_int_str : isTy "int" "str" = some false := by decide +kernel
@[simp] theorem isTy_int_tuple : isTy "int" "tuple" = some false := by decide +kernel
@[simp] theorem isTy_int_list : isTy "int" "list" = some false := by decide +kernel
@[simp] theorem isTy_int_dict : isTy "int" "dict" = some false := by decide +kernel
@[simp] theorem isTy_str_int : isTy "str" "int" = some false := by decide +kernel
@[simp] theorem isTy_str_bool : isTy "str" "bool" = some false := by decide +kernel
@[simp] theorem isTy_str_str : isTy "str" "str" = some true := by decide +kernel
@[simp] theorem isTy_str_tuple : isTy "str" "tuple" = some false := by decide +kernel
@[simp] theorem isTy_str_list : isTy "str" "list" = some false := by decide +kernel
@[simp] theorem isTy_str_dict : isTy "str" "dict" = some false := by decide +kernel
@[simp] theorem isTy_tuple_int : isTy "tuple" "int" = some false := by decide +kernel
@[simp] theorem isTy_tuple_bool : isTy "tuple" "bool" = some false := by decide +kernel
@[simp] theorem isTy_tuple_str : isTy "tuple" "str" = some false := by decide +kernel
@[simp] theorem isTy_tuple_tuple : isTy "tuple" "tuple" = some true := by decide +kernel
@[simp] theorem isTy_tuple_list : isTy "tuple" "list" = some false := by decide +kernel
@[simp] theorem isTy_tuple_dict : isTy "tuple" "dict" = some false := by decide +kernel
@[simp] theorem isTy_list_int : isTy "list" "int" = some false := by decide +kernel
@[simp] theorem isTy_list_bool : isTy "list" "bool" = some false := by decide +kernel
@[simp] theorem isTy_list_str : isTy "list" "str" = some false := by decide +kernel
@[simp] theorem isTy_list_tuple : isTy "list" "tuple" = some false := by decide +kernel
@[simp] theorem isTy_list_list : isTy "list" "list" = some true := by decide +kernel
@[simp] theorem isTy_list_dict : isTy "list" "dict" = some false := by decide +kernel
@[simp] theorem isTy_dict_int : isTy "dict" "int" = some false := by decide +kernel
@[simp] theorem isTy_dict_bool : isTy "dict" "bool" = some false := by decide +kernel
@[simp] theorem isTy_dict_str : isTy "dict" "str" = some false := by decide +kernel
@[simp] theorem isTy_dict_tuple : isTy "dict" "tuple" = some false := by decide +kernel
@[simp] theorem isTy_dict_list : isTy "dict" "list" = some false := by decide +kernel
@[simp] theorem isTy_dict_dict : isTy "dict" "dict" = some true := by decide +kernel
@[simp] theorem tyName_NoneType : tyName M .non = some "NoneType" := rfl
@[simp] theorem tyName_bool {k : Bool} : tyName M (.bl k) = some "bool" := rfl
@[simp] theorem tyName_int {i : Int} : tyName M (.int i) = some "int" := rfl
@[simp] theorem tyName_str {z : Str} : tyName M (.str z) = some "str" := rfl
@[simp] theorem tyName_tuple_t {ds : List D} : tyName M (.tup ds) = some "tuple" := rfl
@[simp] theorem tyName_list {ds : List D} : tyName M (.lst ds) = some "list" := rfl
@[simp] theorem tyName_list_s {ns : List Int} : tyName M (.scr ns) = some "list" := rfl
@[simp] theorem tyName_dict {kv : List (DK × D)} : tyName M (.asc .k kv) = some "dict" := rfl
@[simp] theorem tyName_dict_t {kv : List (DK × D)} : tyName M (.asc .t kv) = some "dict" := rfl
@[simp] theorem gIsI_ty (x : D) (b : String) : gIsI M [x, .ty b] = (tyName M x).bind fun a => (isTy a b).map .bl := rfl
@[simp] theorem gIsI_tup (x : D) (ts : List D) : gIsI M [x, .tup ts] = (tyName M x).bind fun a => (tysOf ts).bind fun bs => (isTys a bs).map .bl := rfl
@[simp] theorem tysOf_nil : tysOf [] = some [] := rfl
@[simp] theorem tysOf_cons (b : String) (r : List D) : tysOf (.ty b :: r) = (tysOf r).map (b :: ·) := rfl
@[simp] theorem isTys_nil (a : String) : isTys a [] = some false := rfl
@[simp] theorem isTys_cons (a b : String) (r : List String) : isTys a (b :: r) = (isTy a b).bind fun k => (isTys a r).map fun l => k || l := rfl
end
theorem selfOk_locFree : ∀ (n : Nat) (d : D), selfOk n d = true → locFree d = true := by
  intro n
  induction n with
  | zero => intro d h; cases d <;> first | rfl | cases h
  | succ n ih =>
    intro d h
    cases d with
    | int i => rfl
    | lst ds =>
      rw [locFree_lst, locFrees_all, List.all_eq_true]
      exact fun d hd => ih d (List.all_eq_true.mp (Bool.and_eq_true_iff.mp h).2 d hd)
    | tup ds =>
      rw [locFree_tup, locFrees_all, List.all_eq_true]
      exact fun d hd => ih d (List.all_eq_true.mp (Bool.and_eq_true_iff.mp h).2 d hd)
    | _ => cases h
theorem getIn {ds : List Int} {i : Nat} (h : i < ds.length) : ∃ d, ds[i]? = some d ∧ d ∈ ds := ⟨ds[i], by simp [h], List.getElem_mem h⟩
theorem at_ {ds : List Int} {i : Nat} {a : Int} (h : ds[i]? = some a) : atI (ds.map D.int) (i : Int) = some (.int a) := by
  obtain ⟨x, e1, e2⟩ := atI_in (l := ds) (i := (i : Int)) (by omega) (by have := (List.getElem?_eq_some_iff.mp h).1; omega)
  rw [atI_map, e1]
  rw [Int.toNat_natCast, h] at e2
  cases e2
  rfl
theorem pick4 (a b c d : Int) {i : Int} (h : 0 ≤ i ∧ i < 4) : ∃ m : Int, (m = a ∨ m = b ∨ m = c ∨ m = d) ∧ atI [D.int a, .int b, .int c, .int d] i = some (.int m) := by
  have : i = 0 ∨ i = 1 ∨ i = 2 ∨ i = 3 := by omega
  rcases this with e | e | e | e <;> subst e
  · exact ⟨a, .inl rfl, rfl⟩
  · exact ⟨b, .inr (.inl rfl), rfl⟩
  · exact ⟨c, .inr (.inr (.inl rfl)), rfl⟩
  · exact ⟨d, .inr (.inr (.inr rfl)), rfl⟩
theorem ixN_in {n : Nat} {i : Int} (h0 : 0 ≤ i) (h1 : i < n) : ixN n i = some i.toNat := by
  unfold ixN
  rw [if_pos h0, if_pos h1]
theorem sum_nn : ∀ ts : List Int, (∀ x ∈ ts, 0 ≤ x) → 0 ≤ ts.sum := by
  intro ts
  induction ts with
  | nil => intro _; exact Int.le_refl _
  | cons x r ih =>
    intro h
    rw [List.sum_cons]
    have := h x List.mem_cons_self
    have := ih fun z hz => h z (List.mem_cons_of_mem _ hz)
    omega
theorem sum_pos : ∀ (ts : List Int) (x : Int), (∀ x ∈ ts, 0 ≤ x) → x ∈ ts → x ≤ ts.sum := by
  intro ts
  induction ts with
  | nil => intro x _ h; exact (List.not_mem_nil h).elim
  | cons y r ih =>
    intro x h hx
    rw [List.sum_cons]
    have h0 := h y List.mem_cons_self
    have hr := sum_nn r fun z hz => h z (List.mem_cons_of_mem _ hz)
    rcases List.mem_cons.mp hx with rfl | hx
    · omega
    · have := ih x (fun z hz => h z (List.mem_cons_of_mem _ hz)) hx
      omega
theorem sum_le : ∀ (ts : List Int) (b : Int), (∀ x ∈ ts, x ≤ b) → ts.sum ≤ b * ts.length := by
  intro ts b
  induction ts with
  | nil => intro _; simp
  | cons y r ih =>
    intro h
    rw [List.sum_cons, List.length_cons, Int.natCast_add, Int.mul_add]
    have h0 := h y List.mem_cons_self
    have := ih fun z hz => h z (List.mem_cons_of_mem _ hz)
    omega
/-! ### tables -/
theorem item_ks (M : Mem) (kvs : List (DK × D)) (z : Str) : gItem M (.asc .k kvs) (.str z) = getA kvs (.s z) := rfl
theorem item_ki (M : Mem) (kvs : List (DK × D)) (z : Int) : gItem M (.asc .k kvs) (.int z) = getA kvs (.i z) := rfl
theorem item_loc_k {M : Mem} {n : Nat} {kvs : List (DK × D)} {k : Key} {y : D} (h : M[n]? = some (some (.asc .k kvs))) (hy : kyOf y = some k) : gItem M (.loc n) y = getA kvs (ofKey k) := by
  have h1 : vS M (.loc n) = none := by rw [vS_loc, h]
  have h2 : vK M (.loc n) = some kvs := by
    show (match M[n]? with
      | some (some (.asc .k kvs)) => some kvs
      | _ => none) = _
    rw [h]
  have e : gItem M (.loc n) y = (gGet M (.loc n) y).join := by
    cases y <;> first | (show (match vS M (.loc n) with | some ds => _ | none => _) = _; rw [h1]) | cases hy
  rw [e]
  unfold gGet
  rw [h2, hy]
  rfl
theorem item_loc_s {M : Mem} {n : Nat} {kvs : List (DK × D)} {z : Str} (h : M[n]? = some (some (.asc .k kvs))) : gItem M (.loc n) (.str z) = getA kvs (.s z) := item_loc_k (k := .inr z) h rfl
theorem item_loc_i {M : Mem} {n : Nat} {kvs : List (DK × D)} {z : Int} (h : M[n]? = some (some (.asc .k kvs))) : gItem M (.loc n) (.int z) = getA kvs (.i z) := item_loc_k (k := .inl z) h rfl
theorem item_loc_t {M : Mem} {n : Nat} {kvs : List (DK × D)} {ds : List D} {ks : List Key} (h : M[n]? = some (some (.asc .t kvs))) (hk : keysOf ds = some ks) : gItem M (.loc n) (.tup ds) = getA kvs (.t ks) := by
  have h1 : vS M (.loc n) = none := by rw [vS_loc, h]
  have h2 : vK M (.loc n) = none := by
    show (match M[n]? with
      | some (some (.asc .k kvs)) => some kvs
      | _ => none) = _
    rw [h]
  have h3 : vT M (.loc n) = some kvs := by
    show (match M[n]? with
      | some (some (.asc .t kvs)) => some kvs
      | _ => none) = _
    rw [h]
  show (match vS M (.loc n) with | some ds => _ | none => (gGet M (.loc n) (.tup ds)).join) = _
  rw [h1]
  show (gGet M (.loc n) (.tup ds)).join = _
  unfold gGet
  rw [h2, h3]
  show ((keysOf ds).map fun ks => getA kvs (.t ks)).join = _
  rw [hk]
  rfl
theorem kPut_s (kvs : List (DK × D)) (z : Str) (d : D) : kPut (.asc .k kvs) (.str z) d = if kvs.length < 1000000 then some (.asc .k (putA kvs (.s z) d)) else none := rfl
theorem kPut_i (kvs : List (DK × D)) (z : Int) (d : D) : kPut (.asc .k kvs) (.int z) d = if kvs.length < 1000000 then some (.asc .k (putA kvs (.i z) d)) else none := rfl
theorem kPut_t (kvs : List (DK × D)) (ds : List D) (d : D) : kPut (.asc .t kvs) (.tup ds) d = (keysOf ds).bind fun k => if kvs.length < 1000000 then some (.asc .t (putA kvs (.t k) d)) else none := rfl
theorem kPutK_s (kvs : List (DK × D)) (z : Str) (d : D) : kPutK (.asc .k kvs) (.str z) d = if kvs.length < 1000000 then some (.asc .k (putA kvs (.s z) d)) else none := rfl
theorem getA_map_same (k : DK) (d : D) : ∀ kvs : List (DK × D), (kvs.any fun kv => decide (kv.1 = k)) = true → getA (kvs.map fun kv => if kv.1 = k then (kv.1, d) else kv) k = some d
  | [], h => by cases h
  | (j, x) :: r, h => by
    rw [List.map_cons]
    by_cases e : j = k
    · rw [if_pos e]
      show (if j = k then some d else _) = _
      rw [if_pos e]
    · rw [if_neg e]
      show (if j = k then some x else _) = _
      rw [if_neg e]
      refine getA_map_same k d r ?_
      rw [List.any_cons, decide_eq_false e, Bool.false_or] at h
      exact h
theorem getA_map_other {k j : DK} (d : D) (hj : j ≠ k) : ∀ kvs : List (DK × D), getA (kvs.map fun kv => if kv.1 = k then (kv.1, d) else kv) j = getA kvs j
  | [] => rfl
  | (i, x) :: r => by
    rw [List.map_cons]
    by_cases e : i = k
    · rw [if_pos e]
      show (if i = j then some d else getA _ j) = if i = j then some x else getA r j
      rw [if_neg (fun z => hj (z.symm.trans e)), if_neg (fun z => hj (z.symm.trans e)), getA_map_other d hj r]
    · rw [if_neg e]
      show (if i = j then some x else getA _ j) = if i = j then some x else getA r j
      rw [getA_map_other d hj r]
theorem getA_append {k : DK} (b : List (DK × D)) : ∀ a : List (DK × D), getA (a ++ b) k = (getA a k).or (getA b k)
  | [] => rfl
  | (i, x) :: r => by
    show (if i = k then some x else getA (r ++ b) k) = (if i = k then some x else getA r k).or _
    by_cases e : i = k
    · rw [if_pos e, if_pos e]; rfl
    · rw [if_neg e, if_neg e, getA_append b r]
theorem getA_none_of {k : DK} : ∀ kvs : List (DK × D), ¬ (kvs.any fun kv => decide (kv.1 = k)) = true → getA kvs k = none
  | [], _ => rfl
  | (i, x) :: r, h => by
    rw [List.any_cons, Bool.or_eq_true, not_or] at h
    show (if i = k then some x else getA r k) = none
    rw [if_neg (fun z => h.1 (decide_eq_true z)), getA_none_of r h.2]
theorem getA_put_same (kvs : List (DK × D)) (k : DK) (d : D) : getA (putA kvs k d) k = some d := by
  unfold putA
  split
  · exact getA_map_same k d kvs (by assumption)
  · rw [getA_append, getA_none_of kvs (by assumption)]
    show (none : Option D).or (if k = k then some d else none) = _
    rw [if_pos rfl]; rfl
theorem getA_put_other (kvs : List (DK × D)) {k j : DK} (d : D) (h : j ≠ k) : getA (putA kvs k d) j = getA kvs j := by
  unfold putA
  split
  · exact getA_map_other d h kvs
  · rw [getA_append]
    show (getA kvs j).or (if k = j then some d else none) = _
    rw [if_neg (Ne.symm h)]
    cases getA kvs j <;> rfl
theorem putA_len (kvs : List (DK × D)) (k : DK) (d : D) : (putA kvs k d).length ≤ kvs.length + 1 := by
  unfold putA
  split
  · rw [List.length_map]; omega
  · rw [List.length_append]; exact Nat.le_refl _
theorem putA_mem {kvs : List (DK × D)} {k : DK} {d : D} {p : DK × D} (h : p ∈ putA kvs k d) : p ∈ kvs ∨ p = (k, d) := by
  unfold putA at h
  split at h
  · obtain ⟨q, h1, h2⟩ := List.mem_map.mp h
    by_cases e : q.1 = k
    · rw [if_pos e] at h2
      exact .inr (by rw [← h2, e])
    · rw [if_neg e] at h2
      exact .inl (h2 ▸ h1)
  · rcases List.mem_append.mp h with h | h
    · exact .inl h
    · exact .inr (List.mem_singleton.mp h)
theorem getA_mem {kvs : List (DK × D)} {k : DK} {d : D} (h : getA kvs k = some d) : (k, d) ∈ kvs := by
  induction kvs with
  | nil => cases h
  | cons p r ih =>
    obtain ⟨i, x⟩ := p
    by_cases e : i = k
    · have h' : (if i = k then some x else getA r k) = some d := h
      rw [if_pos e] at h'
      cases h'
      rw [e]; exact List.mem_cons_self
    · have h' : (if i = k then some x else getA r k) = some d := h
      rw [if_neg e] at h'
      exact List.mem_cons_of_mem _ (ih h')
theorem locFreeA_all (kvs : List (DK × D)) : locFreeA kvs = kvs.all fun p => locFree p.2 := by
  induction kvs with
  | nil => rfl
  | cons p r ih =>
    obtain ⟨k, d⟩ := p
    show (locFree d && locFreeA r) = _
    rw [ih]; rfl
theorem locFreeA_of {kvs : List (DK × D)} (h : ∀ p ∈ kvs, locFree p.2 = true) : locFreeA kvs = true := by
  rw [locFreeA_all, List.all_eq_true]; exact h
/-! ### what equals itself -/
def eqOk : Nat → D → Bool
  | _, .int _ => true
  | _, .non => true
  | _, .bl _ => true
  | _, .str x => PyData.strOk x
  | n + 1, .lst ds => ds.all (eqOk n)
  | n + 1, .tup ds => ds.all (eqOk n)
  | _, _ => false
theorem eqOk_all {n : Nat} (ih : ∀ d : D, eqOk n d = true → ∃ p : PyData, pdF d = some p ∧ p.canLay0 = true ∧ p.depth ≤ n) : ∀ ds : List D, ds.all (eqOk n) = true → ∃ ps, pdFs ds = some ps ∧ PyData.canLayAll0 ps = true ∧ PyData.depthAll ps ≤ n
  | [], _ => ⟨[], by simp [pdFs], rfl, Nat.zero_le _⟩
  | d :: ds, h => by
    obtain ⟨h1, h2⟩ := Bool.and_eq_true_iff.mp (show (eqOk n d && ds.all (eqOk n)) = true from h)
    obtain ⟨p, a1, a2, a3⟩ := ih d h1
    obtain ⟨ps, b1, b2, b3⟩ := eqOk_all ih ds h2
    refine ⟨p :: ps, by simp [pdFs, a1, b1], ?_, ?_⟩
    · rw [PyData.canLayAll0, a2, b2]; rfl
    · rw [PyData.depthAll]; omega
theorem eqOk_pd : ∀ (n : Nat) (d : D), eqOk n d = true → ∃ p : PyData, pdF d = some p ∧ p.canLay0 = true ∧ p.depth ≤ n := by
  intro n
  induction n with
  | zero =>
    intro d h
    cases d with
    | int i => exact ⟨.int i, by simp [pdF], rfl, Nat.le_refl _⟩
    | non => exact ⟨.none, by simp [pdF], rfl, Nat.le_refl _⟩
    | bl b => exact ⟨.bool b, by simp [pdF], rfl, Nat.le_refl _⟩
    | str x => exact ⟨.str x, by simp [pdF], h, Nat.le_refl _⟩
    | _ => cases h
  | succ n ih =>
    intro d h
    cases d with
    | int i => exact ⟨.int i, by simp [pdF], rfl, Nat.zero_le _⟩
    | non => exact ⟨.none, by simp [pdF], rfl, Nat.zero_le _⟩
    | bl b => exact ⟨.bool b, by simp [pdF], rfl, Nat.zero_le _⟩
    | str x => exact ⟨.str x, by simp [pdF], h, Nat.zero_le _⟩
    | lst ds =>
      obtain ⟨ps, a1, a2, a3⟩ := eqOk_all ih ds h
      exact ⟨.list ps, by simp [pdF, a1], a2, by rw [PyData.depth]; omega⟩
    | tup ds =>
      obtain ⟨ps, a1, a2, a3⟩ := eqOk_all ih ds h
      exact ⟨.tuple ps, by simp [pdF, a1], a2, by rw [PyData.depth]; omega⟩
    | _ => cases h
theorem gEqB_self {M : Mem} (d : D) (h : eqOk 60 d = true) : gEqB M d d = some true := by
  obtain ⟨p, h1, h2, h3⟩ := eqOk_pd 60 d h
  have hs : SeqAt.shaped p = true := Bool.and_eq_true_iff.mpr ⟨h2, decide_eq_true (by omega)⟩
  have he : PyData.eqv p p = true := SeqAt.eqv_refl p h2
  cases d with
  | int i => simp [gEqB]
  | non => rfl
  | bl b => simp [gEqB]
  | str x => simp [gEqB]
  | lst ds => simp [gEqB, pd, h1, hs, he]
  | tup ds => simp [gEqB, pd, h1, hs, he]
  | _ => cases h
theorem gEq_self {M : Mem} (d : D) (h : eqOk 60 d = true) : gEq M d d = some (.bl true) := by rw [gEq, gEqB_self d h]; rfl
theorem gNe_self {M : Mem} (d : D) (h : eqOk 60 d = true) : gNe M d d = some (.bl false) := by rw [gNe, gEqB_self d h]; rfl
theorem gEqB_loc {M : Mem} {n : Nat} {ds es : List D} (hm : M[n]? = some (some (.lst ds))) : gEqB M (.loc n) (.lst es) = gEqB M (.lst ds) (.lst es) := by
  show ((pd M (.loc n)).bind fun a => _) = (pd M (.lst ds)).bind fun a => _
  have : pd M (.loc n) = pd M (.lst ds) := by
    show (match M[n]? with
      | some (some (.lst ds)) => (pdFs ds).map PyData.list
      | _ => none) = _
    rw [hm]
    simp only [pd, pdF]
  rw [this]
theorem gNe_loc_self {M : Mem} {n : Nat} {ds : List D} (hm : M[n]? = some (some (.lst ds))) (h : eqOk 60 (.lst ds) = true) : gNe M (.loc n) (.lst ds) = some (.bl false) := by
  rw [gNe, gEqB_loc hm, gEqB_self _ h]; rfl
theorem gEq_loc_self {M : Mem} {n : Nat} {ds : List D} (hm : M[n]? = some (some (.lst ds))) (h : eqOk 60 (.lst ds) = true) : gEq M (.loc n) (.lst ds) = some (.bl true) := by
  rw [gEq, gEqB_loc hm, gEqB_self _ h]; rfl
theorem eqOk_ints (n : Nat) (ts : List Int) : eqOk (n + 1) (.lst (ts.map .int)) = true := by
  show (ts.map D.int).all (eqOk n) = true
  rw [List.all_eq_true]
  intro d hd
  obtain ⟨i, -, rfl⟩ := List.mem_map.mp hd
  cases n <;> rfl
/-- the number that a law draws from a number -/
def mixF (n k : Int) : Int := (((n % 1000000007 + 7 * k + 1) * 48271 % 2147483647) * (((n % 1000000007 + 7 * k + 1) * 48271 % 2147483647) % 1009 + k + 3)) % 998244353
theorem mixF_lo (n k : Int) : 0 ≤ mixF n k := Int.emod_nonneg _ (by decide)
theorem mixF_hi (n k : Int) : mixF n k < 998244353 := Int.emod_lt_of_pos _ (by decide)
theorem rngL_get {lo : Int} {n i : Nat} {d : D} (h : (rngL lo n)[i]? = some d) : i < n ∧ d = .int (lo + (i : Nat)) := by
  unfold rngL at h
  rw [List.getElem?_map] at h
  obtain ⟨j, h1, h2⟩ := Option.map_eq_some_iff.mp h
  obtain ⟨h3, h4⟩ := List.getElem?_eq_some_iff.mp h1
  rw [List.length_range] at h3
  rw [List.getElem_range] at h4
  subst h4
  exact ⟨h3, h2.symm⟩
theorem rngC_get {c : Int} {n i : Nat} {d : D} (h : (rngC c n)[i]? = some d) : i < n ∧ d = .int ((i : Int) * c) := by
  unfold rngC at h
  rw [List.getElem?_map] at h
  obtain ⟨j, h1, h2⟩ := Option.map_eq_some_iff.mp h
  obtain ⟨h3, h4⟩ := List.getElem?_eq_some_iff.mp h1
  rw [List.length_range] at h3
  rw [List.getElem_range] at h4
  subst h4
  rw [Int.zero_add] at h2
  exact ⟨h3, h2.symm⟩
@[simp] theorem rngC_len (c : Int) (n : Nat) : (rngC c n).length = n := by simp [rngC]
@[simp] theorem rngL_len (lo : Int) (n : Nat) : (rngL lo n).length = n := by simp [rngL]
end G
set_option Elab.async false
set_option linter.all false
set_option maxRecDepth 100000
set_option maxHeartbeats 4000000
open PySem L2 G
/-- what is known of the classes: MeterError, TooLate, NoCounter, NoMark, BadValue, TooFast, TooEarly, BadRow -/
def kO (c d : Nat) : Option Bool := if c = 7 then (if d = 7 then some true else if 1 ≤ d ∧ d ≤ 6 then some false else none) else none
def kT (c : Nat) (n : String) : Option Bool := if c = 7 then (if n = "ValueError" then some true else none) else none
def kCt (c : Nat) : Bool := decide (c = 7)
/-- is_name(word, sign) -/
def S_is_name : Sx :=
  sRet (xAnd (xChain gLe gLe (xC (.int 1)) (xCall gLen (xAcons (xVar 0) (xAnil))) (xC (.int 8))) (xCall gAll (xAcons (xLc (gxName 1) [1] (ixL (xVar 0)) (tYes_) (xBin gIn (xVar 1) (xC (.str "abcdefghijklmnopqrstuvwxyz")))) (xAnil))))
def I_is_name : Fx := runB 2 S_is_name
def P_is_name : List D → Option PR := pRun I_is_name
/-- number_of(word, sign) -/
def S_number_of : Sx :=
  sSeq (sIf (tOr (tNot (tVal (xChain gLe gLe (xC (.int 1)) (xCall gLen (xAcons (xVar 0) (xAnil))) (xC (.int 12))))) (tNot (tVal (xCall gAll (xAcons (xLc (gxName 1) [1] (ixL (xVar 0)) (tYes_) (xBin gIn (xVar 1) (xC (.str "0123456789")))) (xAnil))))))
    (sRet (xC .non))
    (sNext))
    (sSeq (sIf (tAnd (tVal (xBin gStarts (xVar 0) (xC (.str "0")))) (tVal (xBin gNe (xVar 0) (xC (.str "0")))))
    (sRet (xC .non))
    (sNext))
    (sRet (xCall gIntOf (xAcons (xVar 0) (xAnil)))))
def I_number_of : Fx := runB 2 S_number_of
def P_number_of : List D → Option PR := pRun I_number_of
/-- deed_from(words, many, numbers, word) -/
def S_deed_from : Sx :=
  sSeq (sIf (tOr (tVal (xBin gLt (xCall gLen (xAcons (xVar 0) (xAnil))) (xC (.int 2)))) (tVal (xBin gIsN (xCallP P_number_of (xAcons (xBin gItem (xVar 0) (xC (.int 0))) (xAnil))) (xC .non))))
    (sRet (xC .non))
    (sNext))
    (sSeq (sIf (tAnd (tVal (xBin gEq (xBin gItem (xVar 0) (xC (.int 1))) (xC (.str "bill")))) (tVal (xBin gEq (xCall gLen (xAcons (xVar 0) (xAnil))) (xC (.int 2)))))
    (sRet (xTup (xAcons (xC (.str "bill")) (xAcons (xCallP P_number_of (xAcons (xBin gItem (xVar 0) (xC (.int 0))) (xAnil))) (xAnil)))))
    (sNext))
    (sSeq (sSet 1 (xGet2 (xDisp (kxCons (.inr "tell") (xC (.int 2)) (kxCons (.inr "change") (xC (.int 4)) (kxCons (.inr "wrong") (xC (.int 1)) (kxNil))))) (xBin gItem (xVar 0) (xC (.int 1))) (xC (.int 60))))
    (sSeq (sIf (tOr (tVal (xBin gNe (xCall gLen (xAcons (xVar 0) (xAnil))) (xBin gAdd (xC (.int 3)) (xVar 1)))) (tNot (tVal (xCallP P_is_name (xAcons (xBin gItem (xVar 0) (xC (.int 2))) (xAnil))))))
    (sRet (xC .non))
    (sNext))
    (sSeq (sSet 2 (xLc (gxName 3) [3] (ixL (xSlice gCut (xVar 0) (oSome (xC (.int 3))) (oNone))) (tYes_) (xCallP P_number_of (xAcons (xVar 3) (xAnil)))))
    (sSeq (sIf (tVal (xBin gIn (xC .non) (xVar 2)))
    (sRet (xC .non))
    (sNext))
    (sRet (xCall gTupOf (xAcons (xBin gAdd (xLst (xAcons (xBin gItem (xVar 0) (xC (.int 1))) (xAcons (xCallP P_number_of (xAcons (xBin gItem (xVar 0) (xC (.int 0))) (xAnil))) (xAcons (xBin gItem (xVar 0) (xC (.int 2))) (xAnil))))) (xVar 2)) (xAnil)))))))))
def I_deed_from : Fx := runB 4 S_deed_from
def P_deed_from : List D → Option PR := pRun I_deed_from
abbrev B_log_from_1 : Sx :=
  sSeq (sSet 4 (xCallP P_deed_from (xAcons (xBin gSplit (xVar 3) (xC (.str " "))) (xAnil))))
    (sSeq (sIf (tOr (tVal (xBin gIsN (xVar 4) (xC .non))) (tVal (xBin gGe (xVar 2) (xC (.int 60)))))
    (sRaise 7 (xAcons (xBin gAdd (xVar 2) (xC (.int 1))) (xAnil)))
    (sNext))
    (sMut kApp (xVar 1) (xAcons (xVar 4) (xAnil))))
/-- log_from(text, found, k, row, deed) -/
def S_log_from : Sx :=
  sSeq (sNew 1 (xLst (xAnil)))
    (sSeq (sIf (tVal (xBin gEq (xVar 0) (xC (.str ""))))
    (sRet (xVar 1))
    (sNext))
    (sSeq (sFor (gxTup 2 (gxCons (gxName 2) (gxCons (gxName 3) (gxNil)))) [2, 3, 4] (ixE (xAcons (xBin gSplit (xVar 0) (xC (.str "\n"))) (xAnil)))
    (B_log_from_1))
    (sRet (xVar 1))))
def I_log_from : Fx := runB 5 S_log_from
def P_log_from : List D → Option PR := pRun I_log_from
/-- log_text(log, rows, deed, row, word) -/
def S_log_text : Sx :=
  sSeq (sSet 1 (xLc (gxName 2) [2] (ixL (xVar 0)) (tYes_) (xBin gAdd (xLst (xAcons (xBin gItem (xVar 2) (xC (.int 1))) (xAcons (xBin gItem (xVar 2) (xC (.int 0))) (xAnil)))) (xCall gListOf (xAcons (xSlice gCut (xVar 2) (oSome (xC (.int 2))) (oNone)) (xAnil))))))
    (sRet (xBin gJoin (xC (.str "\n")) (xLc (gxName 3) [3] (ixL (xVar 1)) (tYes_) (xBin gJoin (xC (.str " ")) (xLc (gxName 4) [4] (ixL (xVar 3)) (tYes_) (xCall gStrOf (xAcons (xVar 4) (xAnil))))))))
def I_log_text : Fx := runB 5 S_log_text
def P_log_text : List D → Option PR := pRun I_log_text
/-- _law_cell_at(_law_script, _law_k) -/
def S_law_cell_at : Sx :=
  sSeq (sIf (tVal (xBin gLt (xVar 1) (xCall gLen (xAcons (xVar 0) (xAnil)))))
    (sRet (xBin gItem (xVar 0) (xVar 1)))
    (sNext))
    (sRet (xC (.int 0)))
def I_law_cell_at : Fx := runB 2 S_law_cell_at
def P_law_cell_at : List D → Option PR := pRun I_law_cell_at
/-- _law_mixed(_law_number, _law_k, _law_once) -/
def S_law_mixed : Sx :=
  sSeq (sSet 2 (xBin gMod (xBin gMul (xBin gAdd (xBin gAdd (xBin gMod (xVar 0) (xC (.int 1000000007))) (xBin gMul (xC (.int 7)) (xVar 1))) (xC (.int 1))) (xC (.int 48271))) (xC (.int 2147483647))))
    (sRet (xBin gMod (xBin gMul (xVar 2) (xBin gAdd (xBin gAdd (xBin gMod (xVar 2) (xC (.int 1009))) (xVar 1)) (xC (.int 3)))) (xC (.int 998244353))))
def I_law_mixed : Fx := runB 3 S_law_mixed
def P_law_mixed : List D → Option PR := pRun I_law_mixed
abbrev B_law_draws_1 : Sx :=
  sIf (tVal (xBin gEq (xBin gMod (xVar 0) (xC (.int 2))) (xC (.int 0))))
    (sSeq (sMut kApp (xVar 3) (xAcons (xBin gMod (xVar 4) (xVar 2)) (xAnil)))
    (sSet 4 (xBin gDiv (xVar 4) (xVar 2))))
    (sMut kApp (xVar 3) (xAcons (xBin gMod (xCallP P_law_mixed (xAcons (xCallP P_law_mixed (xAcons (xVar 0) (xAcons (xVar 5) (xAnil)))) (xAcons (xC (.int 3)) (xAnil)))) (xVar 2)) (xAnil)))
/-- _law_draws(_law_cell, _law_many, _law_size, _law_found, _law_left, _law_k) -/
def S_law_draws : Sx :=
  sSeq (sNew 3 (xLst (xAnil)))
    (sSeq (sSet 4 (xBin gDiv (xVar 0) (xC (.int 2))))
    (sSeq (sFor (gxName 5) [5] (ixR1 (xAcons (xVar 1) (xAnil)))
    (B_law_draws_1))
    (sRet (xVar 3))))
def I_law_draws : Fx := runB 6 S_law_draws
def P_law_draws : List D → Option PR := pRun I_law_draws
/-- _law_name(_law_number, _law_letters, _law_k) -/
def S_law_name : Sx :=
  sSeq (sIf (tVal (xBin gEq (xBin gMod (xVar 0) (xC (.int 3))) (xC (.int 0))))
    (sRet (xBin gItem (xLst (xAcons (xC (.str "tell")) (xAcons (xC (.str "bill")) (xAcons (xC (.str "wrong")) (xAcons (xC (.str "change")) (xAcons (xC (.str "main")) (xAcons (xC (.str "heat")) (xAnil)))))))) (xBin gMod (xBin gDiv (xVar 0) (xC (.int 3))) (xC (.int 6)))))
    (sNext))
    (sSeq (sSet 1 (xC (.str "abcdefghijklmnopqrstuvwxyz")))
    (sRet (xBin gJoin (xC (.str "")) (xLc (gxName 2) [2] (ixR1 (xAcons (xBin gAdd (xC (.int 1)) (xBin gMod (xBin gDiv (xVar 0) (xC (.int 3))) (xC (.int 8)))) (xAnil))) (tYes_) (xBin gItem (xVar 1) (xBin gMod (xBin gDiv (xVar 0) (xBin gAdd (xVar 2) (xC (.int 3)))) (xC (.int 26))))))))
def I_law_name : Fx := runB 3 S_law_name
def P_law_name : List D → Option PR := pRun I_law_name
/-- _law_deed(_law_cell, _law_k, _law_draws_here, _law_number, _law_numbers, _law_verb, _law_many, _law_one) -/
def S_law_deed : Sx :=
  sSeq (sSet 2 (xCallP P_law_draws (xAcons (xVar 0) (xAcons (xC (.int 8)) (xAcons (xBin gPow (xC (.int 10)) (xC (.int 6))) (xAnil))))))
    (sSeq (sSet 3 (xCallP P_law_mixed (xAcons (xVar 0) (xAcons (xVar 1) (xAnil)))))
    (sSeq (sSet 4 (xLc (gxName 7) [7] (ixL (xSlice gCut (xVar 2) (oSome (xC (.int 2))) (oSome (xC (.int 7))))) (tYes_) (xBin gMul (xVar 7) (xBin gItem (xLst (xAcons (xC (.int 1)) (xAcons (xBin gPow (xC (.int 10)) (xC (.int 6))) (xAcons (xC (.int 1)) (xAnil))))) (xBin gMod (xVar 1) (xC (.int 3)))))))
    (sSeq (sSet 5 (xBin gItem (xLst (xAcons (xC (.str "tell")) (xAcons (xC (.str "tell")) (xAcons (xC (.str "change")) (xAcons (xC (.str "wrong")) (xAcons (xC (.str "bill")) (xAnil))))))) (xBin gMod (xVar 3) (xC (.int 5)))))
    (sSeq (sSet 6 (xDisp (kxCons (.inr "tell") (xC (.int 2)) (kxCons (.inr "change") (xC (.int 4)) (kxCons (.inr "wrong") (xC (.int 1)) (kxNil))))))
    (sSeq (sIf (tVal (xBin gEq (xVar 5) (xC (.str "bill"))))
    (sRet (xTup (xAcons (xC (.str "bill")) (xAcons (xBin gItem (xVar 4) (xC (.int 0))) (xAnil)))))
    (sNext))
    (sRet (xCall gTupOf (xAcons (xBin gAdd (xLst (xAcons (xVar 5) (xAcons (xBin gItem (xVar 4) (xC (.int 0))) (xAcons (xCallP P_law_name (xAcons (xBin gItem (xVar 2) (xC (.int 1))) (xAnil))) (xAnil))))) (xSlice gCut (xVar 4) (oSome (xC (.int 1))) (oSome (xBin gAdd (xC (.int 1)) (xBin gItem (xVar 6) (xVar 5)))))) (xAnil)))))))))
def I_law_deed : Fx := runB 8 S_law_deed
def P_law_deed : List D → Option PR := pRun I_law_deed
/-- _law_row(_law_deed_here, _law_one) -/
def S_law_row : Sx :=
  sRet (xBin gJoin (xC (.str " ")) (xBin gAdd (xLst (xAcons (xCall gStrOf (xAcons (xBin gItem (xVar 0) (xC (.int 1))) (xAnil))) (xAcons (xBin gItem (xVar 0) (xC (.int 0))) (xAnil)))) (xLc (gxName 1) [1] (ixL (xSlice gCut (xVar 0) (oSome (xC (.int 2))) (oNone))) (tYes_) (xCall gStrOf (xAcons (xVar 1) (xAnil))))))
def I_law_row : Fx := runB 2 S_law_row
def P_law_row : List D → Option PR := pRun I_law_row
/-- _law_bad_number(_law_number,) -/
def S_law_bad_number : Sx :=
  sRet (xBin gItem (xLst (xAcons (xC (.str "01")) (xAcons (xC (.str "00")) (xAcons (xC (.str "")) (xAcons (xC (.str "-1")) (xAcons (xC (.str "+1")) (xAcons (xC (.str "1.0")) (xAcons (xC (.str "a")) (xAcons (xC (.str "1000000000000")) (xAcons (xC (.str "1_0")) (xAnil))))))))))) (xBin gMod (xVar 0) (xC (.int 9))))
def I_law_bad_number : Fx := runB 1 S_law_bad_number
def P_law_bad_number : List D → Option PR := pRun I_law_bad_number
/-- _law_spoilt(_law_row_here, _law_number, _law_words, _law_turn, _law_more) -/
def S_law_spoilt : Sx :=
  sSeq (sNew 2 (xBin gSplit (xVar 0) (xC (.str " "))))
    (sSeq (sSet 3 (xBin gMod (xVar 1) (xC (.int 8))))
    (sSeq (sSet 4 (xBin gDiv (xVar 1) (xC (.int 8))))
    (sSeq (sIf (tVal (xBin gEq (xVar 3) (xC (.int 0))))
    (sRet (xBin gItem (xLst (xAcons (xBin gAdd (xVar 0) (xC (.str " "))) (xAcons (xBin gAdd (xC (.str " ")) (xVar 0)) (xAcons (xRep1 32 "  " (xVar 0)) (xAcons (xC (.str "")) (xAnil)))))) (xBin gMod (xVar 4) (xC (.int 4)))))
    (sNext))
    (sSeq (sIf (tVal (xBin gEq (xVar 3) (xC (.int 1))))
    (sRet (xBin gJoin (xC (.str " ")) (xSlice gCut (xVar 2) (oNone) (oSome (xBin gSub (xCall gLen (xAcons (xVar 2) (xAnil))) (xC (.int 1)))))))
    (sNext))
    (sSeq (sIf (tVal (xBin gEq (xVar 3) (xC (.int 2))))
    (sRet (xBin gAdd (xVar 0) (xC (.str " 1"))))
    (sNext))
    (sSeq (sFrz 2 (sIf (tVal (xBin gEq (xVar 3) (xC (.int 3))))
    (sPut (xVar 2) (xC (.int 1)) (xBin gItem (xLst (xAcons (xC (.str "Tell")) (xAcons (xC (.str "told")) (xAcons (xC (.str "bills")) (xAcons (xC (.str "")) (xAcons (xC (.str "5")) (xAnil))))))) (xBin gMod (xVar 4) (xC (.int 5)))))
    (sIf (tAnd (tVal (xBin gEq (xVar 3) (xC (.int 4)))) (tVal (xBin gGt (xCall gLen (xAcons (xVar 2) (xAnil))) (xC (.int 2)))))
    (sPut (xVar 2) (xC (.int 2)) (xBin gItem (xLst (xAcons (xC (.str "A")) (xAcons (xC (.str "abcdefghi")) (xAcons (xC (.str "")) (xAcons (xC (.str "a1")) (xAcons (xC (.str "5")) (xAnil))))))) (xBin gMod (xVar 4) (xC (.int 5)))))
    (sIf (tAnd (tVal (xBin gEq (xVar 3) (xC (.int 5)))) (tVal (xBin gGt (xCall gLen (xAcons (xVar 2) (xAnil))) (xC (.int 3)))))
    (sPut (xVar 2) (xBin gAdd (xC (.int 3)) (xBin gMod (xVar 4) (xBin gSub (xCall gLen (xAcons (xVar 2) (xAnil))) (xC (.int 3))))) (xCallP P_law_bad_number (xAcons (xBin gDiv (xVar 4) (xC (.int 10))) (xAnil))))
    (sPut (xVar 2) (xC (.int 0)) (xCallP P_law_bad_number (xAcons (xVar 4) (xAnil))))))))
    (sRet (xBin gJoin (xC (.str " ")) (xVar 2)))))))))
def I_law_spoilt : Fx := runB 5 S_law_spoilt
def P_law_spoilt : List D → Option PR := pRun I_law_spoilt
/-- _law_refusal(_law_text, _law_caught, e) -/
def S_law_refusal : Sx :=
  sSeq (sSet 1 (xC .non))
    (sSeq (sTry kCt 2 (sCallX I_log_from (xAcons (xVar 0) (xAnil))) (sSet 1 (xVar 2)))
    (sSeq (sIf (tVal (xBin gIsN (xVar 1) (xC .non)))
    (sRet (xC (.int 0)))
    (sNext))
    (sSeq (sIf (tOr (tNot (tVal (xCall (gAlt (gIsX kO kT) gIsI) (xAcons (xVar 1) (xAcons (xC (.cls 7)) (xAnil)))))) (tNot (tVal (xCall (gAlt (gIsX kO kT) gIsI) (xAcons (xVar 1) (xAcons (xC (.ty "ValueError")) (xAnil)))))))
    (sRet (xNeg (xC (.int 1))))
    (sNext))
    (sSeq (sIf (tVal (xCall (gAlt (gIsX kO kT) gIsI) (xAcons (xVar 1) (xAcons (xTup (xAcons (xC (.cls 4)) (xAcons (xC (.cls 2)) (xAcons (xC (.cls 3)) (xAcons (xC (.cls 6)) (xAcons (xC (.cls 5)) (xAcons (xC (.cls 1)) (xAnil)))))))) (xAnil)))))
    (sRet (xNeg (xC (.int 1))))
    (sNext))
    (sSeq (sIf (tOr (tNot (tVal (xCall (gAlt (gIsX kO kT) gIsI) (xAcons (xRow 7 (xVar 1)) (xAcons (xC (.ty "int")) (xAnil)))))) (tVal (xCall (gAlt (gIsX kO kT) gIsI) (xAcons (xRow 7 (xVar 1)) (xAcons (xC (.ty "bool")) (xAnil))))))
    (sRet (xNeg (xC (.int 1))))
    (sNext))
    (sRet (xRow 7 (xVar 1))))))))
def I_law_refusal : Fx := runB 3 S_law_refusal
def P_law_refusal : List D → Option PR := pRun I_law_refusal
abbrev B_law_alike_1 : Sx :=
  sIf (tOr (tVal (xCall gIsI (xAcons (xVar 4) (xAcons (xC (.ty "bool")) (xAnil))))) (tOr (tVal (xBin gNe (xCall gIsI (xAcons (xVar 4) (xAcons (xC (.ty "str")) (xAnil)))) (xCall gIsI (xAcons (xVar 5) (xAcons (xC (.ty "str")) (xAnil)))))) (tVal (xBin gNe (xVar 4) (xVar 5)))))
    (sRet (xC (.bl false)))
    (sNext)
abbrev B_law_alike_2 : Sx :=
  sSeq (sIf (tOr (tNot (tVal (xCall gIsI (xAcons (xVar 2) (xAcons (xC (.ty "tuple")) (xAnil)))))) (tVal (xBin gNe (xCall gLen (xAcons (xVar 2) (xAnil))) (xCall gLen (xAcons (xVar 3) (xAnil))))))
    (sRet (xC (.bl false)))
    (sNext))
    (sFor (gxTup 2 (gxCons (gxName 4) (gxCons (gxName 5) (gxNil)))) [4, 5] (ixZA (xAcons (xVar 2) (xAcons (xVar 3) (xAnil))))
    (B_law_alike_1))
/-- _law_alike(_law_found, _law_due, _law_one, _law_other, _law_part, _law_told) -/
def S_law_alike : Sx :=
  sSeq (sIf (tOr (tNot (tVal (xCall gIsI (xAcons (xVar 0) (xAcons (xC (.ty "list")) (xAnil)))))) (tVal (xBin gNe (xCall gLen (xAcons (xVar 0) (xAnil))) (xCall gLen (xAcons (xVar 1) (xAnil))))))
    (sRet (xC (.bl false)))
    (sNext))
    (sSeq (sFor (gxTup 2 (gxCons (gxName 2) (gxCons (gxName 3) (gxNil)))) [2, 3, 4, 5] (ixZA (xAcons (xVar 0) (xAcons (xVar 1) (xAnil))))
    (B_law_alike_2))
    (sRet (xC (.bl true))))
def I_law_alike : Fx := runB 6 S_law_alike
def P_law_alike : List D → Option PR := pRun I_law_alike
abbrev B_law_1 : Sx :=
  sSeq (sNew 8 (xCallN P_log_from (xAcons (xVar 4) (xAnil))))
    (sSeq (sIf (tNot (tVal (xCallL P_law_alike (xAcons (xVar 8) (xAcons (xVar 1) (xAnil))))))
    (sRet (xC (.bl false)))
    (sNext))
    (sMut kApp (xVar 8) (xAcons (xTup (xAcons (xC (.str "bill")) (xAcons (xC (.int 0)) (xAnil)))) (xAnil))))
/-- law(_law_script, _law_log, _law_rows, _law_handed, _law_told, _law_turn, _law_number, _law_at, _law_found, _law_many, _law_cell, _law_k, _law_deed_here) -/
def S_law : Sx :=
  sSeq (sSet 1 (xLc (gxTup 2 (gxCons (gxName 11) (gxCons (gxName 10) (gxNil)))) [11, 10] (ixE (xAcons (xSlice gCut (xVar 0) (oSome (xC (.int 1))) (oSome (xC (.int 61)))) (xAnil))) (tYes_) (xCallP P_law_deed (xAcons (xVar 10) (xAcons (xVar 11) (xAnil))))))
    (sSeq (sNew 2 (xLc (gxName 12) [12] (ixL (xVar 1)) (tYes_) (xCallP P_law_row (xAcons (xVar 12) (xAnil)))))
    (sSeq (sSet 3 (xCall gListOf (xAcons (xVar 1) (xAnil))))
    (sSeq (sSet 4 (xCallP P_log_text (xAcons (xVar 3) (xAnil))))
    (sSeq (sIf (tOr (tNot (tVal (xCall gIsI (xAcons (xVar 4) (xAcons (xC (.ty "str")) (xAnil)))))) (tOr (tVal (xBin gNe (xVar 4) (xBin gJoin (xC (.str "\n")) (xVar 2)))) (tVal (xBin gNe (xVar 3) (xVar 1)))))
    (sRet (xC (.bl false)))
    (sNext))
    (sSeq (sFor (gxName 5) [5, 8] (ixR1 (xAcons (xC (.int 2)) (xAnil)))
    (B_law_1))
    (sSeq (sSet 6 (xCallP P_law_mixed (xAcons (xCallP P_law_cell_at (xAcons (xVar 0) (xAcons (xC (.int 0)) (xAnil)))) (xAcons (xC (.int 81)) (xAnil)))))
    (sSeq (sIf (tVal (xBin gEq (xVar 1) (xLst (xAnil))))
    (sRet (xBin gEq (xCallP P_law_refusal (xAcons (xC (.str "x")) (xAnil))) (xC (.int 1))))
    (sNext))
    (sSeq (sIf (tVal (xBin gEq (xBin gMod (xVar 6) (xC (.int 8))) (xC (.int 0))))
    (sSeq (sSet 9 (xSlice gCut (xBin gMul (xVar 2) (xC (.int 60))) (oNone) (oSome (xC (.int 60)))))
    (sRet (xAnd (xBin gEq (xCallP P_law_refusal (xAcons (xBin gJoin (xC (.str "\n")) (xVar 9)) (xAnil))) (xC (.int 0))) (xBin gEq (xCallP P_law_refusal (xAcons (xBin gJoin (xC (.str "\n")) (xBin gAdd (xVar 9) (xLst (xAcons (xBin gItem (xVar 2) (xC (.int 0))) (xAnil))))) (xAnil))) (xC (.int 61))))))
    (sNext))
    (sSeq (sSet 7 (xBin gMod (xBin gDiv (xVar 6) (xC (.int 8))) (xCall gLen (xAcons (xVar 2) (xAnil)))))
    (sSeq (sPut (xVar 2) (xVar 7) (xCallP P_law_spoilt (xAcons (xBin gItem (xVar 2) (xVar 7)) (xAcons (xBin gDiv (xVar 6) (xC (.int 500))) (xAnil)))))
    (sSeq (sIf (tAnd (tVal (xBin gEq (xCall gLen (xAcons (xVar 2) (xAnil))) (xC (.int 1)))) (tVal (xBin gEq (xBin gItem (xVar 2) (xC (.int 0))) (xC (.str "")))))
    (sRet (xBin gEq (xCallP P_log_from (xAcons (xC (.str "")) (xAnil))) (xLst (xAnil))))
    (sNext))
    (sSeq (sFrz 2 (sIf (tAnd (tVal (xBin gLt (xBin gAdd (xVar 7) (xC (.int 1))) (xCall gLen (xAcons (xVar 2) (xAnil))))) (tVal (xBin gEq (xBin gMod (xBin gDiv (xVar 6) (xC (.int 300000))) (xC (.int 2))) (xC (.int 1)))))
    (sPut (xVar 2) (xBin gSub (xCall gLen (xAcons (xVar 2) (xAnil))) (xC (.int 1))) (xC (.str "")))
    (sNext)))
    (sRet (xBin gEq (xCallP P_law_refusal (xAcons (xBin gJoin (xC (.str "\n")) (xVar 2)) (xAnil))) (xBin gAdd (xVar 7) (xC (.int 1)))))))))))))))))
def I_law : Fx := runB 13 S_law
def P_law : List D → Option PR := pRun I_law
set_option Elab.async false
set_option linter.all false
set_option maxRecDepth 100000
set_option maxHeartbeats 4000000
open PySem L2 G SX
/-! ### literals -/
theorem lit_e : Str.ofString "" = S [] := by decide +kernel
theorem lit_0 : Str.ofString "0" = S [48] := by decide +kernel
theorem lit_sp : Str.ofString " " = S [32] := by decide +kernel
theorem lit_nl : Str.ofString "\n" = S [10] := by decide +kernel
theorem lit_dig : Str.ofString "0123456789" = S [48, 49, 50, 51, 52, 53, 54, 55, 56, 57] := by decide +kernel
theorem lit_abc : Str.ofString "abcdefghijklmnopqrstuvwxyz" = S [97, 98, 99, 100, 101, 102, 103, 104, 105, 106, 107, 108, 109, 110, 111, 112, 113, 114, 115, 116, 117, 118, 119, 120, 121, 122] := by decide +kernel
abbrev BILL : List Nat := [98, 105, 108, 108]
abbrev TELL : List Nat := [116, 101, 108, 108]
abbrev CHANGE : List Nat := [99, 104, 97, 110, 103, 101]
abbrev WRONG : List Nat := [119, 114, 111, 110, 103]
theorem lit_bill : Str.ofString "bill" = S BILL := by decide +kernel
theorem lit_tell : Str.ofString "tell" = S TELL := by decide +kernel
theorem lit_change : Str.ofString "change" = S CHANGE := by decide +kernel
theorem lit_wrong : Str.ofString "wrong" = S WRONG := by decide +kernel
theorem S_eq {a b : List Nat} : (S a = S b) = (a = b) := propext ⟨S_inj, fun h => by rw [h]⟩
theorem S_cps (a : List Nat) : (S a).cps.toList = a := rfl
theorem S_size (a : List Nat) : (S a).cps.size = a.length := S_len a
/-! ### steps that Sim lacks -/
section
variable {Γ : Sl} {M : Mem}
theorem gSplit_S {a b : List Nat} (hb : b ≠ []) (hk : b.all (· < 256) = true) (ha : a.length ≤ 1000000) : gSplit M (.str (S a)) (.str (S b)) = some (.lst (((TL.spl b 0 [] a).map S).map .str)) := by
  unfold gSplit
  have h0 : ((S b).length == 0) = false := by
    rw [S_len]
    cases b with
    | nil => exact absurd rfl hb
    | cons _ _ => rfl
  show (if ((S b).length == 0) = false ∧ (S a).length ≤ 1000000 then some (D.lst ((Txt.split (S a) (S b)).map .str)) else none) = _
  rw [if_pos ⟨h0, by rw [S_len]; exact ha⟩, split_S hb hk]
theorem gStarts_0 (a : List Nat) : gStarts M (.str (S a)) (.str (S [48])) = some (.bl (decide (a.head? = some 48))) := by
  unfold gStarts
  have h := StrLaws.subAt_one (S a) 48 0
  have e : Txt.startswith (S a) (S [48]) = decide (a.head? = some 48) := by
    unfold Txt.startswith
    rw [Bool.eq_iff_iff, Bool.and_eq_true, decide_eq_true_eq, decide_eq_true_eq, h]
    cases a <;> simp
  show some (D.bl (Txt.startswith (S a) (S [48]))) = _
  rw [e]
theorem strsOf_map (l : List Str) : strsOf (l.map .str) = some l := by
  induction l with
  | nil => rfl
  | cons x r ih => rw [List.map_cons]; show (strsOf (r.map .str)).map (x :: ·) = _; rw [ih]; rfl
theorem gJoin_S {a : List Nat} {ys : List (List Nat)} {y : D} (hy : vS M y = some ((ys.map S).map .str)) (hl : (ys.map (·.length)).sum + ys.length * a.length ≤ 1000000) : gJoin M (.str (S a)) y = some (.str (S (TL.joinL a ys))) := by
  unfold gJoin
  rw [hy]
  show (strsOf ((ys.map S).map .str)).bind _ = _
  rw [strsOf_map, Option.bind_some, if_pos (by rw [lens, List.length_map, S_len]; exact hl), join_S]
@[simp] theorem ap_xGet2 (fo fi fz : Ex) : xGet2 fo fi fz Γ M = (fo Γ M).bind fun x => (fi Γ M).bind fun y => (fz Γ M).bind fun z => gGetD M x y z := rfl
@[simp] theorem ap_sTry (ct : Nat → Bool) (i : Nat) (sb ss : Sx) : sTry ct i sb ss Γ M = (sb Γ M).bind fun o => match o with
  | .ex x Γ2 M2 => if ct x.c = true then (ss (Γ2.set i (some (.exc x.c x.row))) M2).bind (unsetO i) else none
  | o => some o := rfl
@[simp] theorem ap_sCallX (I : Fx) (fa : Ax) : sCallX I fa Γ M = (fa Γ M).bind fun xs => if locFrees xs = true then (I xs []).bind fun r => match r with
  | .ret _ _ => some (.nx Γ M)
  | .exc y _ => some (.ex y Γ M) else none := rfl
@[simp] theorem ap_sRaise (c : Nat) (fe : Ax) : sRaise c fe Γ M = (fe Γ M).bind fun xs => match xs with
  | [.int n] => some (.ex ⟨c, some n⟩ Γ M)
  | _ => none := rfl
@[simp] theorem ap_xRow (c0 : Nat) (f : Ex) : xRow c0 f Γ M = (f Γ M).bind fun x => match x with
  | .exc c (some n) => if c = c0 then some (.int n) else none
  | _ => none := rfl
@[simp] theorem ap_ixZA (w : Ax) : ixZA w Γ M = (w Γ M).bind fun xs => match xs with
  | [.lst a, .lst b] => some (zipL a b)
  | [.tup a, .tup b] => some (zipL a b)
  | _ => none := rfl
@[simp] theorem gTupOf_l (ds : List D) : gTupOf M [.lst ds] = some (.tup ds) := rfl
theorem cutD_from {α : Type} (xs : List α) (a : Nat) : cutD xs (some (a : Int)) none = xs.drop a := by
  unfold cutD
  rw [HT.sIx_none, HT.sIx_nat]
  by_cases h : a ≤ xs.length
  · rw [Nat.min_eq_left h, List.take_of_length_le (by rw [List.length_drop]; omega)]
  · rw [List.drop_eq_nil_of_le (by omega), List.drop_eq_nil_of_le (by omega)]
    simp
/-- the signs of a text, one by one -/
def sgn (c : Nat) : D := .str ⟨#[c]⟩
theorem vF_S (a : List Nat) : vF (.str (S a)) = some (a.map sgn) := rfl
theorem gIn_sgn (c : Nat) (b : List Nat) : gIn M (sgn c) (.str (S b)) = some (.bl (decide (c ∈ b))) := rfl
end
/-! ### number_of, is_name -/
def DIG : List Nat := [48, 49, 50, 51, 52, 53, 54, 55, 56, 57]
def ABC : List Nat := [97, 98, 99, 100, 101, 102, 103, 104, 105, 106, 107, 108, 109, 110, 111, 112, 113, 114, 115, 116, 117, 118, 119, 120, 121, 122]
def numB (w : List Nat) : Bool := decide (1 ≤ w.length) && decide (w.length ≤ 12) && w.all (fun c => decide (c ∈ DIG)) && !(decide (w.head? = some 48) && !decide (w = [48]))
def numD (w : List Nat) : D := if numB w = true then .int (NumText.digitsVal w : Nat) else .non
def nameB (w : List Nat) : Bool := decide (1 ≤ w.length) && decide (w.length ≤ 8) && w.all (fun c => decide (c ∈ ABC))
theorem dig_all {w : List Nat} (h : (w.all fun c => decide (c ∈ DIG)) = true) : (w.all fun c => decide (48 ≤ c) && decide (c ≤ 57)) = true := by
  rw [List.all_eq_true] at h ⊢
  intro c hc
  have := of_decide_eq_true (h c hc)
  simp only [DIG, List.mem_cons, List.not_mem_nil, or_false] at this
  rw [Bool.and_eq_true, decide_eq_true_eq, decide_eq_true_eq]
  omega
theorem number_ok (w : List Nat) (hl : w.length ≤ 1000000) : P_number_of [.str (S w)] = some (.val (numD w)) := by
  have hsl : (S w).length ≤ 1000000 := by rw [S_len]; exact hl
  have hlen : ∀ M, gLen M [.str (S w)] = some (.int w.length) := fun M => by
    show (if (S w).length ≤ 1000000 then _ else _) = _
    rw [if_pos hsl, S_len]
  obtain ⟨bs, lc, hall⟩ : ∃ bs : List Bool, (∀ M, lcF (gxName 1) tYes_ (xBin gIn (xVar 1) (xC (.str "0123456789"))) [some (.str (S w)), none] M (w.map sgn) = some (bs.map .bl)) ∧ bs.all id = w.all fun c => decide (c ∈ DIG) := by
    refine ⟨w.map fun c => decide (c ∈ DIG), fun M => ?_, by rw [List.all_map]; rfl⟩
    rw [List.map_map]
    refine lcF_map sgn _ w fun c _ => ⟨_, rfl, rfl, ?_⟩
    rw [lit_dig]
    exact gIn_sgn (M := M) c _
  unfold P_number_of pRun I_number_of runB S_number_of numD
  by_cases h1 : 1 ≤ w.length
  · by_cases h2 : w.length ≤ 12
    · have i1 : ((1 : Int) ≤ w.length) := by omega
      have i2 : ((w.length : Int) ≤ 12) := by omega
      cases h3 : w.all fun c => decide (c ∈ DIG) with
      | false => simp -implicitDefEqProofs [xChain, hlen, i1, i2, vF_S, lc, hall, h3, numB, hl]
      | true =>
        cases h4 : (decide (w.head? = some 48) && !decide (w = [48])) with
        | true =>
          have h5 := Bool.and_eq_true_iff.mp h4
          have h6 := of_decide_eq_true h5.1
          have h7 : ¬ w = [48] := by simpa using h5.2
          simp -implicitDefEqProofs [xChain, hlen, i1, i2, vF_S, lc, hall, h3, numB, hl, lit_0, gStarts_0, h4, h6, h7, S_eq]
        | false =>
          have hv : intText? (S w) = some ((NumText.digitsVal w : Nat) : Int) := int_S (dig_all h3) (fun e => by rw [e] at h1; simp at h1) (by omega)
          have hg : ∀ M, gIntOf M [.str (S w)] = some (.int (NumText.digitsVal w : Nat)) := fun M => by
            show (if (S w).length ≤ 640 then _ else _) = _
            rw [if_pos (by rw [S_len]; omega), hv]; rfl
          by_cases h6 : w.head? = some 48
          · have h7 : w = [48] := by simpa [h6] using h4
            subst h7
            have hd : NumText.digitsVal [48] = 0 := rfl
            simp only [List.map_cons, List.map_nil] at lc
            have hm : 48 ∈ DIG := by decide
            simp -implicitDefEqProofs [xChain, hlen, i1, i2, vF_S, lc, hall, h3, numB, hl, lit_0, gStarts_0, h1, h2, h6, S_eq, hg, hd, hm]
          · simp -implicitDefEqProofs [xChain, hlen, i1, i2, vF_S, lc, hall, h3, numB, hl, lit_0, gStarts_0, h1, h2, h6, S_eq, hg]
    · have i1 : ((1 : Int) ≤ w.length) := by omega
      have i2 : ¬ ((w.length : Int) ≤ 12) := by omega
      simp -implicitDefEqProofs [xChain, hlen, i1, i2, numB, h2]
  · have i1 : ¬ ((1 : Int) ≤ w.length) := by omega
    simp -implicitDefEqProofs [xChain, hlen, i1, numB, h1]
theorem name_ok (w : List Nat) (hl : w.length ≤ 1000000) : P_is_name [.str (S w)] = some (.val (.bl (nameB w))) := by
  have hsl : (S w).length ≤ 1000000 := by rw [S_len]; exact hl
  have hlen : ∀ M, gLen M [.str (S w)] = some (.int w.length) := fun M => by
    show (if (S w).length ≤ 1000000 then _ else _) = _
    rw [if_pos hsl, S_len]
  obtain ⟨bs, lc, hall⟩ : ∃ bs : List Bool, (∀ M, lcF (gxName 1) tYes_ (xBin gIn (xVar 1) (xC (.str "abcdefghijklmnopqrstuvwxyz"))) [some (.str (S w)), none] M (w.map sgn) = some (bs.map .bl)) ∧ bs.all id = w.all fun c => decide (c ∈ ABC) := by
    refine ⟨w.map fun c => decide (c ∈ ABC), fun M => ?_, by rw [List.all_map]; rfl⟩
    rw [List.map_map]
    refine lcF_map sgn _ w fun c _ => ⟨_, rfl, rfl, ?_⟩
    rw [lit_abc]
    exact gIn_sgn (M := M) c _
  unfold P_is_name pRun I_is_name runB S_is_name
  by_cases h1 : 1 ≤ w.length
  · by_cases h2 : w.length ≤ 8
    · have i1 : ((1 : Int) ≤ w.length) := by omega
      have i2 : ((w.length : Int) ≤ 8) := by omega
      simp -implicitDefEqProofs [xChain, hlen, i1, i2, vF_S, lc, hall, nameB, hl, h1, h2]
    · have i1 : ((1 : Int) ≤ w.length) := by omega
      have i2 : ¬ ((w.length : Int) ≤ 8) := by omega
      simp -implicitDefEqProofs [xChain, hlen, i1, i2, nameB, h2]
  · have i1 : ¬ ((1 : Int) ≤ w.length) := by omega
    simp -implicitDefEqProofs [xChain, hlen, i1, nameB, h1]
set_option Elab.async false
set_option linter.all false
set_option maxRecDepth 100000
set_option maxHeartbeats 4000000
open PySem L2 G SX
/-! ### deed_from -/
def eW (w : List Nat) : D := .str (S w)
@[simp] theorem locFree_eW (w : List Nat) : locFree (eW w) = true := rfl
@[simp] theorem locFree_numD (w : List Nat) : locFree (numD w) = true := by unfold numD; split <;> rfl
theorem atI_0 {α : Type} (a : α) (l : List α) : atI (a :: l) 0 = some a := by
  unfold atI ixN
  simp
theorem atI_1 {α : Type} (a b : α) (l : List α) : atI (a :: b :: l) 1 = some b := by
  unfold atI ixN
  have : (1 : Int) < ((a :: b :: l).length : Int) := by simp only [List.length_cons]; omega
  simp only [if_pos this, if_pos (show (0 : Int) ≤ 1 by decide)]
  rfl
theorem atI_2 {α : Type} (a b c : α) (l : List α) : atI (a :: b :: c :: l) 2 = some c := by
  unfold atI ixN
  have : (2 : Int) < ((a :: b :: c :: l).length : Int) := by simp only [List.length_cons]; omega
  simp only [if_pos this, if_pos (show (0 : Int) ≤ 2 by decide)]
  rfl
def manyF (v : List Nat) : Nat := if v = TELL then 2 else if v = CHANGE then 4 else if v = WRONG then 1 else 60
def TAB : D := .asc .k [(.s "tell", .int 2), (.s "change", .int 4), (.s "wrong", .int 1)]
theorem disp_ok (Γ : Sl) (M : Mem) : xDisp (kxCons (.inr "tell") (xC (.int 2)) (kxCons (.inr "change") (xC (.int 4)) (kxCons (.inr "wrong") (xC (.int 1)) (kxNil)))) Γ M = some TAB := by
  have h : ([(Sum.inr "tell" : Key), .inr "change", .inr "wrong"]).Nodup := by decide +kernel
  have e : (kxCons (.inr "tell") (xC (.int 2)) (kxCons (.inr "change") (xC (.int 4)) (kxCons (.inr "wrong") (xC (.int 1)) (kxNil)))) Γ M = some [(.inr "tell", .int 2), (.inr "change", .int 4), (.inr "wrong", .int 1)] := rfl
  unfold xDisp
  rw [e, Option.bind_some, if_pos ⟨by decide, h⟩]
  rfl
theorem many_ok (M : Mem) (v : List Nat) : gGetD M TAB (eW v) (.int 60) = some (.int (manyF v : Nat)) := by
  unfold gGetD eW
  show some ((getA [(DK.s "tell", .int 2), (.s "change", .int 4), (.s "wrong", .int 1)] (.s (S v))).getD (.int 60)) = _
  rw [lit_tell, lit_change, lit_wrong]
  unfold manyF
  simp only [getA, DK.s.injEq, S_eq]
  by_cases h1 : v = TELL
  · subst h1; simp
  · by_cases h2 : v = CHANGE
    · subst h2; simp
    · by_cases h3 : v = WRONG
      · subst h3; simp
      · rw [if_neg (Ne.symm h1), if_neg (Ne.symm h2), if_neg (Ne.symm h3), if_neg h1, if_neg h2, if_neg h3]; rfl
theorem item_many (M : Mem) (v : List Nat) (h : v = TELL ∨ v = CHANGE ∨ v = WRONG) : gItem M TAB (eW v) = some (.int (manyF v : Nat)) := by
  unfold eW
  show getA [(DK.s "tell", .int 2), (.s "change", .int 4), (.s "wrong", .int 1)] (.s (S v)) = _
  rw [lit_tell, lit_change, lit_wrong]
  unfold manyF
  simp only [getA, DK.s.injEq, S_eq]
  rcases h with rfl | rfl | rfl <;> simp
def deedD : List (List Nat) → D
  | k :: v :: r => if numB k = true then (if v = BILL ∧ r = [] then .tup [.str (S BILL), numD k] else match r with
      | nm :: ns => if ns.length = manyF v ∧ nameB nm = true ∧ ns.all numB = true then .tup (eW v :: numD k :: eW nm :: ns.map numD) else .non
      | [] => .non) else .non
  | _ => .non
theorem numD_non (k : List Nat) : isNon (numD k) = !numB k := by
  unfold numD
  cases numB k <;> rfl
theorem gIsN_numD (M : Mem) (k : List Nat) : gIsN M (numD k) .non = some (.bl (!numB k)) := by
  show some (D.bl (isNon (numD k))) = _
  rw [numD_non]
theorem in_nums (M : Mem) (ns : List (List Nat)) : gIn M .non (.lst (ns.map numD)) = some (.bl (!ns.all numB)) := by
  have h1 : (ns.map numD).all flatD = true := by
    rw [List.all_map, List.all_eq_true]
    intro w _
    show flatD (numD w) = true
    unfold numD
    split <;> rfl
  have h2 : ((ns.map numD).any fun y => eqFl y .non) = !ns.all numB := by
    rw [List.any_map]
    induction ns with
    | nil => rfl
    | cons w r ih =>
      rw [List.any_cons, List.all_cons, ih (by
        rw [List.map_cons, List.all_cons, Bool.and_eq_true] at h1
        exact h1.2)]
      have : eqFl (numD w) .non = !numB w := by unfold numD; cases numB w <;> rfl
      show (eqFl (numD w) .non || _) = _
      rw [this]
      cases numB w <;> rfl
  unfold gIn gInB
  show ((if (flatD .non && (ns.map numD).all flatD) = true then some ((ns.map numD).any fun y => eqFl y .non) else none).map D.bl) = _
  rw [h1, h2]
  rfl
theorem number_eW (w : List Nat) (h : w.length ≤ 1000000) : P_number_of [eW w] = some (.val (numD w)) := number_ok w h
theorem name_eW (w : List Nat) (h : w.length ≤ 1000000) : P_is_name [eW w] = some (.val (.bl (nameB w))) := name_ok w h
theorem gEq_eW (M : Mem) (v : List Nat) : gEq M (eW v) (.str (S BILL)) = some (.bl (decide (v = BILL))) := by
  show some (D.bl (decide (S v = S BILL))) = _
  simp only [S_eq]
theorem deed_ok (ws : List (List Nat)) (hl : ws.length ≤ 1000) (hw : ∀ w ∈ ws, w.length ≤ 1000000) : P_deed_from [.lst (ws.map eW)] = some (.val (deedD ws)) := by
  match ws, hl, hw with
  | [], _, _ => simp -implicitDefEqProofs [P_deed_from, pRun, I_deed_from, runB, S_deed_from, deedD]
  | [k], _, _ => simp -implicitDefEqProofs [P_deed_from, pRun, I_deed_from, runB, S_deed_from, deedD]
  | [k, v], _, hw =>
    have hk := number_eW k (hw k (by simp))
    unfold P_deed_from pRun I_deed_from runB S_deed_from deedD
    cases h1 : numB k with
    | false => simp -implicitDefEqProofs [atI_0, hk, gIsN_numD, h1]
    | true =>
      by_cases h2 : v = BILL
      · simp -implicitDefEqProofs [atI_0, atI_1, hk, gIsN_numD, h1, lit_bill, gEq_eW, h2]
      · have h3 : ¬ ((2 : Int) = 3 + (manyF v : Nat)) := by omega
        simp -implicitDefEqProofs [atI_0, atI_1, hk, gIsN_numD, h1, lit_bill, gEq_eW, h2, disp_ok, many_ok, h3]
  | k :: v :: nm :: ns, hl, hw =>
    have hk := number_eW k (hw k (by simp))
    have hnm := name_eW nm (hw nm (by simp))
    have hns : ∀ (Γ0 Γ1 Γ2 : Option D) (M : Mem), lcF (gxName 3) tYes_ (xCallP P_number_of (xAcons (xVar 3) xAnil)) [Γ0, Γ1, Γ2, none] M (ns.map eW) = some (ns.map numD) := fun Γ0 Γ1 Γ2 M =>
      lcF_map eW numD ns fun w h => ⟨_, rfl, rfl, by
        have := number_eW w (hw w (by simp [h]))
        simp -implicitDefEqProofs [this]⟩
    have hcut : cutD (eW k :: eW v :: eW nm :: ns.map eW) (some 3) none = ns.map eW := cutD_from _ 3
    have l1 : ¬ ((ns.length : Int) + 1 + 1 + 1 < 2) := by omega
    have l2 : ¬ ((ns.length : Int) + 1 + 1 + 1 = 2) := by omega
    have l5 : ns.length ≤ 1000000 := by simp only [List.length_cons] at hl; omega
    have l6 : 3 + ns.length ≤ 1000000 := by simp only [List.length_cons] at hl; omega
    unfold P_deed_from pRun I_deed_from runB S_deed_from deedD
    cases h1 : numB k with
    | false => simp -implicitDefEqProofs [atI_0, hk, gIsN_numD, h1, l1]
    | true =>
      by_cases h3 : ns.length = manyF v
      · have l3 : ((ns.length : Int) + 1 + 1 + 1 = 3 + (ns.length : Int)) := by omega
        have l1' : ¬ (3 + (ns.length : Int) < 2) := by omega
        have l2' : ¬ (3 + (ns.length : Int) = 2) := by omega
        replace h3 := h3.symm
        cases h4 : nameB nm with
        | false => simp -implicitDefEqProofs [atI_0, atI_1, atI_2, hk, gIsN_numD, h1, l1', l2', l3, lit_bill, gEq_eW, disp_ok, many_ok, hnm, h4, h3]
        | true =>
          cases h5 : ns.all numB with
          | false => simp -implicitDefEqProofs [atI_0, atI_1, atI_2, hk, gIsN_numD, h1, l1', l2', l3, lit_bill, gEq_eW, disp_ok, many_ok, hnm, h4, h3, hcut, hns, in_nums, h5, l5, l6]
          | true => simp -implicitDefEqProofs [atI_0, atI_1, atI_2, hk, gIsN_numD, h1, l1', l2', l3, lit_bill, gEq_eW, disp_ok, many_ok, hnm, h4, h3, hcut, hns, in_nums, h5, l5, l6]
      · have l3 : ¬ ((ns.length : Int) + 1 + 1 + 1 = 3 + (manyF v : Nat)) := by omega
        simp -implicitDefEqProofs [atI_0, atI_1, atI_2, hk, gIsN_numD, h1, l1, l2, l3, lit_bill, gEq_eW, disp_ok, many_ok, h3]
set_option Elab.async false
set_option linter.all false
set_option maxRecDepth 100000
set_option maxHeartbeats 4000000
open PySem L2 G SX
/-! ### log_from -/
structure GoodR (ws : List (List Nat)) : Prop where
  ne : ws ≠ []
  len : ws.length ≤ 10
  all : ∀ w ∈ ws, w.length ≤ 20 ∧ 32 ∉ w ∧ 10 ∉ w
abbrev rowL (ws : List (List Nat)) : List Nat := TL.joinL [32] ws
abbrev textOf (rows : List (List (List Nat))) : List Nat := TL.joinL [10] (rows.map rowL)
theorem joinL_len (s : List Nat) (b : Nat) : ∀ ps : List (List Nat), (∀ p ∈ ps, p.length ≤ b) → (TL.joinL s ps).length ≤ ps.length * (b + s.length)
  | [], _ => by simp [TL.joinL]
  | [p], h => by
    have := h p (by simp)
    simp only [TL.joinL, List.length_singleton]
    omega
  | p :: q :: r, h => by
    have h1 := h p (by simp)
    have ih := joinL_len s b (q :: r) fun z hz => h z (List.mem_cons_of_mem _ hz)
    show (p ++ (s ++ TL.joinL s (q :: r))).length ≤ _
    rw [List.length_append, List.length_append, List.length_cons, Nat.add_mul]
    omega
theorem joinL_mem (s : List Nat) {c : Nat} : ∀ ps : List (List Nat), c ∈ TL.joinL s ps → c ∈ s ∨ ∃ p ∈ ps, c ∈ p
  | [], h => by simp [TL.joinL] at h
  | [p], h => .inr ⟨p, by simp, h⟩
  | p :: q :: r, h => by
    have h' : c ∈ p ++ (s ++ TL.joinL s (q :: r)) := h
    rcases List.mem_append.mp h' with h | h
    · exact .inr ⟨p, by simp, h⟩
    · rcases List.mem_append.mp h with h | h
      · exact .inl h
      · rcases joinL_mem s (q :: r) h with h | ⟨z, hz, h⟩
        · exact .inl h
        · exact .inr ⟨z, List.mem_cons_of_mem _ hz, h⟩
theorem GoodR.rowLen {ws : List (List Nat)} (g : GoodR ws) : (rowL ws).length ≤ 210 := by
  have h := joinL_len [32] 20 ws fun w hw => (g.all w hw).1
  have := g.len
  simp only [List.length_singleton] at h
  show (TL.joinL [32] ws).length ≤ 210
  omega
theorem GoodR.noNl {ws : List (List Nat)} (g : GoodR ws) : 10 ∉ rowL ws := fun h => by
  rcases joinL_mem [32] ws h with h | ⟨p, hp, h⟩
  · simp at h
  · exact (g.all p hp).2.2 h
theorem split_row (M : Mem) {ws : List (List Nat)} (g : GoodR ws) : gSplit M (eW (rowL ws)) (.str (S [32])) = some (.lst (ws.map eW)) := by
  have h := gSplit_S (M := M) (a := rowL ws) (b := [32]) (by simp) (by decide) (by have := g.rowLen; omega)
  rw [SX.spl_join g.ne fun w hw => (g.all w hw).2.1, List.map_map] at h
  exact h
theorem text_len {rows : List (List (List Nat))} (hn : rows.length ≤ 100) (hg : ∀ r ∈ rows, GoodR r) : (textOf rows).length ≤ 1000000 := by
  have h := joinL_len [10] 210 (rows.map rowL) fun w hw => by
    obtain ⟨r, hr, rfl⟩ := List.mem_map.mp hw
    exact (hg r hr).rowLen
  rw [List.length_map] at h
  simp only [List.length_singleton] at h
  show (TL.joinL [10] (rows.map rowL)).length ≤ _
  omega
theorem split_text (M : Mem) {rows : List (List (List Nat))} (hr : rows ≠ []) (hn : rows.length ≤ 100) (hg : ∀ r ∈ rows, GoodR r) : gSplit M (eW (textOf rows)) (.str (S [10])) = some (.lst (rows.map fun r => eW (rowL r))) := by
  have h := gSplit_S (M := M) (a := textOf rows) (b := [10]) (by simp) (by decide) (text_len hn hg)
  rw [SX.spl_join (fun e => hr (List.map_eq_nil_iff.mp e)) fun w hw => by
    obtain ⟨r, hr, rfl⟩ := List.mem_map.mp hw
    exact (hg r hr).noNl, List.map_map, List.map_map] at h
  exact h
theorem locFree_deedD (ws : List (List Nat)) : locFree (deedD ws) = true := by
  unfold deedD
  split
  · split
    · split
      · simp -implicitDefEqProofs
      · split
        · split
          · simp -implicitDefEqProofs
          · rfl
        · rfl
    · rfl
  · rfl
def runR : Nat → List (List (List Nat)) → List D → List D ⊕ Nat
  | _, [], acc => .inl acc
  | k, r :: rs, acc => if isNon (deedD r) = true ∨ 60 ≤ k then .inr (k + 1) else runR (k + 1) rs (acc ++ [deedD r])
abbrev stL (T : D) : Sl := [some T, some (.loc 0), none, none, none]
theorem log_turn (T : D) (k : Nat) (ws : List (List Nat)) (acc : List D) (g : GoodR ws) (hk : k < 1000) (ha : acc.length < 1000) :
    (¬ (isNon (deedD ws) = true ∨ 60 ≤ k) → turnF (gxTup 2 (gxCons (gxName 2) (gxCons (gxName 3) (gxNil)))) [2, 3, 4] B_log_from_1 (.tup [.int k, eW (rowL ws)]) (stL T) [some (.lst acc)] = some (.nx (stL T) [some (.lst (acc ++ [deedD ws]))])) ∧
    ((isNon (deedD ws) = true ∨ 60 ≤ k) → ∃ Γ', turnF (gxTup 2 (gxCons (gxName 2) (gxCons (gxName 3) (gxNil)))) [2, 3, 4] B_log_from_1 (.tup [.int k, eW (rowL ws)]) (stL T) [some (.lst acc)] = some (.ex ⟨7, some (k + 1)⟩ Γ' [some (.lst acc)])) := by
  have hs := fun M => split_row M g
  have hd := deed_ok ws (by have := g.len; omega) fun w hw => by have := (g.all w hw).1; omega
  have hi : ∀ M, gIsN M (deedD ws) .non = some (.bl (isNon (deedD ws))) := fun _ => rfl
  have hl : acc.length < 1000000 := by omega
  have hf := locFrees_map eW (fun _ => rfl) ws
  refine ⟨fun h => ?_, fun h => ?_⟩
  · have h1 : isNon (deedD ws) = false := by
      cases q : isNon (deedD ws) with
      | false => rfl
      | true => exact absurd (.inl q) h
    have h2 : ¬ ((60 : Int) ≤ k) := fun q => h (.inr (by omega))
    simp -implicitDefEqProofs [turnF, lit_sp, hs, hd, hi, h1, h2, hl, hf]
  · cases h1 : isNon (deedD ws) with
    | true =>
      refine ⟨[some T, some (.loc 0), some (.int k), some (eW (rowL ws)), some (deedD ws)], ?_⟩
      simp -implicitDefEqProofs [turnF, lit_sp, hs, hd, hi, h1, hf]
    | false =>
      have h2 : ((60 : Int) ≤ k) := by
        rcases h with h | h
        · rw [h1] at h; cases h
        · omega
      refine ⟨[some T, some (.loc 0), some (.int k), some (eW (rowL ws)), some (deedD ws)], ?_⟩
      simp -implicitDefEqProofs [turnF, lit_sp, hs, hd, hi, h1, h2, hf]
theorem log_loop (T : D) : ∀ (rows : List (List (List Nat))) (k : Nat) (acc : List D), (∀ r ∈ rows, GoodR r) → k + rows.length < 1000 → acc.length ≤ k →
    (∀ acc', runR k rows acc = .inl acc' → loopF (gxTup 2 (gxCons (gxName 2) (gxCons (gxName 3) (gxNil)))) [2, 3, 4] B_log_from_1 (enumL k (rows.map fun r => eW (rowL r))) (stL T) [some (.lst acc)] = some (.nx (stL T) [some (.lst acc')])) ∧
    (∀ n, runR k rows acc = .inr n → ∃ Γ' M', loopF (gxTup 2 (gxCons (gxName 2) (gxCons (gxName 3) (gxNil)))) [2, 3, 4] B_log_from_1 (enumL k (rows.map fun r => eW (rowL r))) (stL T) [some (.lst acc)] = some (.ex ⟨7, some n⟩ Γ' M'))
  | [], k, acc, _, _, _ => ⟨fun acc' h => by cases h; rfl, fun n h => by cases h⟩
  | r :: rs, k, acc, hg, hk, ha => by
    rw [List.length_cons] at hk
    have ht := log_turn T k r acc (hg r (by simp)) (by omega) (by omega)
    have ih := log_loop T rs (k + 1) (acc ++ [deedD r]) (fun z hz => hg z (List.mem_cons_of_mem _ hz)) (by omega) (by rw [List.length_append, List.length_singleton]; omega)
    have e1 : runR k (r :: rs) acc = if isNon (deedD r) = true ∨ 60 ≤ k then .inr (k + 1) else runR (k + 1) rs (acc ++ [deedD r]) := rfl
    have e2 : enumL k ((r :: rs).map fun r => eW (rowL r)) = .tup [.int k, eW (rowL r)] :: enumL (k + 1) (rs.map fun r => eW (rowL r)) := rfl
    rw [e1, e2, loopF_cons]
    by_cases h : isNon (deedD r) = true ∨ 60 ≤ k
    · obtain ⟨Γ', e⟩ := ht.2 h
      rw [if_pos h, e]
      refine ⟨fun acc' q => (by cases q), fun n q => ?_⟩
      cases q
      exact ⟨Γ', _, rfl⟩
    · rw [if_neg h, ht.1 h]
      exact ih
theorem log_ok {rows : List (List (List Nat))} (hr : rows ≠ []) (hn : rows.length ≤ 100) (hg : ∀ r ∈ rows, GoodR r) (ht : textOf rows ≠ []) :
    (∀ acc', runR 0 rows [] = .inl acc' → I_log_from [eW (textOf rows)] [] = some (.ret (.loc 0) [some (.lst acc')])) ∧ (∀ n, runR 0 rows [] = .inr n → ∃ M', I_log_from [eW (textOf rows)] [] = some (.exc ⟨7, some n⟩ M')) := by
  have hs := fun M => split_text M hr hn hg
  have he : ∀ M, gEq M (eW (textOf rows)) (.str (S [])) = some (.bl false) := fun M => by
    show some (D.bl (decide (S (textOf rows) = S []))) = _
    rw [decide_eq_false]
    exact fun z => ht (S_inj z)
  have hl := log_loop (eW (textOf rows)) rows 0 [] hg (by omega) (Nat.le_refl _)
  unfold I_log_from runB S_log_from
  refine ⟨fun acc' h => ?_, fun n h => ?_⟩
  · have := hl.1 acc' h
    simp -implicitDefEqProofs [lit_e, lit_nl, he, hs, this]
  · obtain ⟨Γ', M', this⟩ := hl.2 n h
    refine ⟨M', ?_⟩
    simp -implicitDefEqProofs [lit_e, lit_nl, he, hs, this]
theorem log_empty : I_log_from [eW []] [] = some (.ret (.loc 0) [some (.lst [])]) := by
  have he : ∀ M, gEq M (eW []) (.str (S [])) = some (.bl true) := fun M => by
    show some (D.bl (decide (S [] = S []))) = _
    rw [decide_eq_true rfl]
  simp -implicitDefEqProofs [I_log_from, runB, S_log_from, lit_e, he]
/-! ### _law_refusal -/
section
variable {M : Mem} {n : Int}
theorem ia_bad : gAlt (gIsX kO kT) gIsI M [.exc 7 (some n), .cls 7] = some (.bl true) := rfl
theorem ia_ve : gAlt (gIsX kO kT) gIsI M [.exc 7 (some n), .ty "ValueError"] = some (.bl true) := by simp [gAlt, gIsX, kT]
theorem ia_oth : gAlt (gIsX kO kT) gIsI M [.exc 7 (some n), .tup [.cls 4, .cls 2, .cls 3, .cls 6, .cls 5, .cls 1]] = some (.bl false) := rfl
theorem ia_int : gAlt (gIsX kO kT) gIsI M [.int n, .ty "int"] = some (.bl true) := by simp [gAlt, gIsX]
theorem ia_bool : gAlt (gIsX kO kT) gIsI M [.int n, .ty "bool"] = some (.bl false) := by simp [gAlt, gIsX]
theorem in_exc : gIsN M (.exc 7 (some n)) .non = some (.bl false) := rfl
theorem in_non : gIsN M .non .non = some (.bl true) := rfl
end
def refV : List D ⊕ Nat → Int
  | .inl _ => 0
  | .inr n => n
theorem refusal_ok {rows : List (List (List Nat))} (hr : rows ≠ []) (hn : rows.length ≤ 100) (hg : ∀ r ∈ rows, GoodR r) (ht : textOf rows ≠ []) : P_law_refusal [eW (textOf rows)] = some (.val (.int (refV (runR 0 rows [])))) := by
  have hl := log_ok hr hn hg ht
  have hf : locFree (eW (textOf rows)) = true := rfl
  generalize eW (textOf rows) = T at *
  unfold P_law_refusal pRun I_law_refusal runB S_law_refusal
  cases h : runR 0 rows [] with
  | inl acc =>
    have := hl.1 acc h
    simp -implicitDefEqProofs [this, refV, in_non, hf]
  | inr n =>
    obtain ⟨M', this⟩ := hl.2 n h
    simp -implicitDefEqProofs [this, refV, in_exc, kCt, unsetO, ia_bad, ia_ve, ia_oth, ia_int, ia_bool, hf]
set_option Elab.async false
set_option linter.all false
set_option maxRecDepth 100000
set_option maxHeartbeats 4000000
open PySem L2 G SX
/-! ### a deed, its words -/
inductive Wd where
  | num (n : Nat) | txt (w : List Nat)
def Wd.d : Wd → D
  | .num n => .int n
  | .txt w => eW w
def Wd.s : Wd → List Nat
  | .num n => TL.numL n
  | .txt w => w
def Wd.ok : Wd → Prop
  | .num n => n < 1000000000000
  | .txt w => w.length ≤ 20 ∧ 32 ∉ w ∧ 10 ∉ w
structure Dd where
  v : List Nat
  k : Nat
  tl : List Wd
def Dd.enc (d : Dd) : D := .tup (eW d.v :: .int d.k :: d.tl.map Wd.d)
def Dd.words (d : Dd) : List (List Nat) := TL.numL d.k :: d.v :: d.tl.map Wd.s
/-- a deed as the law makes it -/
def Dd.ok (d : Dd) : Prop := d.k < 1000000000000 ∧ ((d.v = BILL ∧ d.tl = []) ∨ ∃ (nm : List Nat) (ns : List Nat), d.tl = .txt nm :: ns.map .num ∧ nameB nm = true ∧ (d.v = TELL ∧ ns.length = 2 ∨ d.v = CHANGE ∧ ns.length = 4 ∨ d.v = WRONG ∧ ns.length = 1) ∧ ∀ n ∈ ns, n < 1000000000000)
theorem numL_head : ∀ n : Nat, (TL.numL n).head? = some 48 → n = 0 := by
  intro n
  induction n using Nat.strongRecOn with
  | _ n ih =>
    intro h
    by_cases hn : n < 10
    · rw [TL.numL_lt hn] at h
      simp at h
      exact h
    · rw [TL.numL_step (by omega)] at h
      have hne := TL.numL_ne (n / 10)
      have : (TL.numL (n / 10)).head? = some 48 := by
        cases e : TL.numL (n / 10) with
        | nil => exact absurd e hne
        | cons a l => rw [e] at h; simpa using h
      have := ih (n / 10) (by omega) this
      omega
theorem numB_num {n : Nat} (h : n < 1000000000000) : numB (TL.numL n) = true := by
  have h1 : 1 ≤ (TL.numL n).length := by
    cases e : TL.numL n with
    | nil => exact absurd e (TL.numL_ne n)
    | cons a l => simp
  have h2 : (TL.numL n).length ≤ 12 := TL.numL_len (k := 12) (by decide) h
  have h3 : ((TL.numL n).all fun c => decide (c ∈ DIG)) = true := by
    rw [List.all_eq_true]
    intro c hc
    have := TL.numL_digits n c hc
    apply decide_eq_true
    simp only [DIG, List.mem_cons, List.not_mem_nil, or_false]
    omega
  have h4 : (decide ((TL.numL n).head? = some 48) && !decide (TL.numL n = [48])) = false := by
    by_cases h : (TL.numL n).head? = some 48
    · have := numL_head n h
      subst this
      rfl
    · rw [decide_eq_false h]; rfl
  unfold numB
  rw [decide_eq_true h1, decide_eq_true h2, h3, h4]
  rfl
theorem numD_num {n : Nat} (h : n < 1000000000000) : numD (TL.numL n) = .int n := by
  unfold numD
  rw [if_pos (numB_num h), TL.numL_val]
theorem num_word {n : Nat} (h : n < 1000000000000) : (TL.numL n).length ≤ 20 ∧ 32 ∉ TL.numL n ∧ 10 ∉ TL.numL n :=
  ⟨Nat.le_trans (TL.numL_len (k := 12) (by decide) h) (by decide), TL.numL_free (by omega), TL.numL_free (by omega)⟩
theorem name_word {w : List Nat} (h : nameB w = true) : w.length ≤ 20 ∧ 32 ∉ w ∧ 10 ∉ w := by
  unfold nameB at h
  rw [Bool.and_eq_true, Bool.and_eq_true, decide_eq_true_eq, decide_eq_true_eq, List.all_eq_true] at h
  obtain ⟨⟨_, h2⟩, h3⟩ := h
  have key : ∀ c ∈ w, 97 ≤ c := fun c hc => by
    have := of_decide_eq_true (h3 c hc)
    simp only [ABC, List.mem_cons, List.not_mem_nil, or_false] at this
    omega
  exact ⟨by omega, fun h => by have := key _ h; omega, fun h => by have := key _ h; omega⟩
theorem Wd.good {x : Wd} (h : x.ok) : x.s.length ≤ 20 ∧ 32 ∉ x.s ∧ 10 ∉ x.s := by
  cases x with
  | num n => exact num_word h
  | txt w => exact h
theorem Dd.ok.verb {d : Dd} (h : d.ok) : d.v.length ≤ 20 ∧ 32 ∉ d.v ∧ 10 ∉ d.v := by
  rcases h.2 with ⟨h, _⟩ | ⟨_, _, _, _, h, _⟩
  · rw [h]; decide
  · rcases h with ⟨h, _⟩ | ⟨h, _⟩ | ⟨h, _⟩ <;> rw [h] <;> decide
theorem Dd.ok.tls {d : Dd} (h : d.ok) : d.tl.length ≤ 5 ∧ ∀ x ∈ d.tl, x.ok := by
  rcases h.2 with ⟨_, h⟩ | ⟨nm, ns, h, h1, h2, h3⟩
  · rw [h]; exact ⟨by simp, fun x hx => (List.not_mem_nil hx).elim⟩
  · rw [h]
    refine ⟨by simp only [List.length_cons, List.length_map]; omega, fun x hx => ?_⟩
    rcases List.mem_cons.mp hx with rfl | hx
    · exact name_word h1
    · obtain ⟨n, hn, rfl⟩ := List.mem_map.mp hx
      exact h3 n hn
theorem Dd.ok.good {d : Dd} (h : d.ok) : GoodR d.words := by
  have ht := h.tls
  refine ⟨List.cons_ne_nil _ _, by simp only [Dd.words, List.length_cons, List.length_map]; omega, fun w hw => ?_⟩
  rcases List.mem_cons.mp hw with rfl | hw
  · exact num_word h.1
  · rcases List.mem_cons.mp hw with rfl | hw
    · exact h.verb
    · obtain ⟨x, hx, rfl⟩ := List.mem_map.mp hw
      exact Wd.good (ht.2 x hx)
theorem manyF_t : manyF TELL = 2 := by decide
theorem manyF_c : manyF CHANGE = 4 := by decide
theorem manyF_w : manyF WRONG = 1 := by decide
theorem Dd.ok.deed {d : Dd} (h : d.ok) : deedD d.words = d.enc := by
  obtain ⟨v, k, tl⟩ := d
  obtain ⟨hk, h⟩ := h
  have hb := numB_num hk
  have hd := numD_num hk
  dsimp only at hk hb hd h
  rcases h with ⟨rfl, rfl⟩ | ⟨nm, ns, rfl, h1, h2, h3⟩
  · show (if numB (TL.numL k) = true then (if BILL = BILL ∧ ([] : List (List Nat)) = [] then D.tup [.str (S BILL), numD (TL.numL k)] else _) else D.non) = _
    rw [if_pos hb, if_pos ⟨rfl, rfl⟩, hd]
    rfl
  · have e : (ns.map Wd.num).map Wd.s = ns.map TL.numL := by rw [List.map_map]; rfl
    have e2 : (ns.map Wd.num).map Wd.d = (ns.map TL.numL).map numD := by
      rw [List.map_map, List.map_map]
      exact List.map_congr_left fun n hn => (numD_num (h3 n hn)).symm
    have hm : ns.length = manyF v := by
      rcases h2 with ⟨rfl, h⟩ | ⟨rfl, h⟩ | ⟨rfl, h⟩
      · rw [manyF_t]; exact h
      · rw [manyF_c]; exact h
      · rw [manyF_w]; exact h
    have ha : (ns.map TL.numL).all numB = true := by
      rw [List.all_map, List.all_eq_true]
      exact fun n hn => numB_num (h3 n hn)
    show (if numB (TL.numL k) = true then (if v = BILL ∧ nm :: (ns.map Wd.num).map Wd.s = [] then _ else if ((ns.map Wd.num).map Wd.s).length = manyF v ∧ nameB nm = true ∧ ((ns.map Wd.num).map Wd.s).all numB = true then D.tup (eW v :: numD (TL.numL k) :: eW nm :: ((ns.map Wd.num).map Wd.s).map numD) else .non) else D.non) = D.tup (eW v :: .int k :: eW nm :: (ns.map Wd.num).map Wd.d)
    rw [e, e2, if_pos hb, if_neg (fun z => by cases z.2), if_pos ⟨by rw [List.length_map]; exact hm, h1, ha⟩, hd]
theorem Dd.notNon (d : Dd) : isNon d.enc = false := rfl
/-! ### a row as the law writes it, log_text -/
theorem strOf_n (M : Mem) {n : Nat} (h : n < 1000000000000) : gStrOf M [.int n] = some (eW (TL.numL n)) := by
  show (if numOk (n : Int) = true then some (D.str (Str.ofString (toString (n : Int)))) else none) = _
  rw [if_pos (numOk_of (by omega) (by omega)), num_S]
  rfl
theorem strOf_w (M : Mem) (w : List Nat) : gStrOf M [eW w] = some (eW w) := rfl
theorem strOf_d (M : Mem) {x : Wd} (h : x.ok) : gStrOf M [x.d] = some (eW x.s) := by
  cases x with
  | num n => exact strOf_n M h
  | txt w => rfl
theorem gCut_t2 (M : Mem) (a b : D) (r : List D) : gCut M (.tup (a :: b :: r)) (some 2) none = some (.tup r) := by
  show (if HT.sIx (a :: b :: r).length 0 (some 2) = 0 ∧ HT.sIx (a :: b :: r).length (a :: b :: r).length none = (a :: b :: r).length then none else some (D.tup (cutD (a :: b :: r) (some 2) none))) = _
  have e : cutD (a :: b :: r) (some 2) none = r := cutD_from _ 2
  rw [if_neg, e]
  rintro ⟨h, _⟩
  have : HT.sIx (a :: b :: r).length 0 (some ((2 : Nat) : Int)) = min 2 (a :: b :: r).length := HT.sIx_nat ..
  have h' : HT.sIx (a :: b :: r).length 0 (some ((2 : Nat) : Int)) = 0 := h
  rw [this] at h'
  simp only [List.length_cons] at h'
  omega
theorem locFrees_Wd (l : List Wd) : locFrees (l.map Wd.d) = true := locFrees_map _ (fun x => by cases x <;> rfl) l
theorem join_row (M : Mem) (ws : List (List Nat)) (hg : GoodR ws) : gJoin M (.str (S [32])) (.lst (ws.map eW)) = some (eW (rowL ws)) := by
  refine gJoin_S (ys := ws) ?_ ?_
  · show some (ws.map eW) = _
    rw [List.map_map]
    rfl
  · have h1 : ∀ l : List (List Nat), (∀ w ∈ l, w.length ≤ 20) → (l.map (·.length)).sum ≤ 20 * l.length := by
      intro l
      induction l with
      | nil => intro _; simp
      | cons a l ih =>
        intro h
        have := h a (by simp)
        have := ih fun w hw => h w (List.mem_cons_of_mem _ hw)
        simp only [List.map_cons, List.sum_cons, List.length_cons]
        omega
    have := h1 ws fun w hw => (hg.all w hw).1
    have := hg.len
    simp only [List.length_singleton]
    omega
theorem row_ok (d : Dd) (h : d.ok) : P_law_row [d.enc] = some (.val (eW (rowL d.words))) := by
  have ht := h.tls
  have hj := fun M => join_row M d.words h.good
  obtain ⟨v, k, tl⟩ := d
  have hk : k < 1000000000000 := h.1
  have s1 := fun M => strOf_n M hk
  have lc : ∀ (Γ0 : Option D) (M : Mem), lcF (gxName 1) tYes_ (xCall gStrOf (xAcons (xVar 1) xAnil)) [Γ0, none] M (tl.map Wd.d) = some ((tl.map Wd.s).map eW) := fun Γ0 M => by
    rw [List.map_map]
    refine lcF_map Wd.d _ tl fun x hx => ⟨_, rfl, rfl, ?_⟩
    have := fun M => strOf_d M (ht.2 x hx)
    simp -implicitDefEqProofs [this]
  have hl : tl.length ≤ 1000000 := by have := ht.1; simp only at this; omega
  have hl2 : 2 + tl.length ≤ 1000000 := by have := ht.1; simp only at this; omega
  simp only [Dd.words, List.map_cons] at hj
  have hf : locFree (eW (rowL (TL.numL k :: v :: tl.map Wd.s))) = true := rfl
  have hyl : ((tl.map Wd.s).map eW).length = tl.length := by rw [List.length_map, List.length_map]
  have hwf := locFrees_Wd tl
  show P_law_row [.tup (eW v :: .int k :: tl.map Wd.d)] = some (.val (eW (rowL (TL.numL k :: v :: tl.map Wd.s))))
  generalize (tl.map Wd.s).map eW = ys at *
  generalize eW (rowL (TL.numL k :: v :: tl.map Wd.s)) = out at *
  simp -implicitDefEqProofs [P_law_row, pRun, I_law_row, runB, S_law_row, atI_0, atI_1, s1, strOf_w, gCut_t2, lc, hl, hl2, hyl, lit_sp, hj, hf]
set_option Elab.async false
set_option linter.all false
set_option maxRecDepth 100000
set_option maxHeartbeats 4000000
open PySem L2 G SX
theorem mixed_ok (n k : Int) (h : -1000000 < k ∧ k < 1000000) : P_law_mixed [.int n, .int k] = some (.val (.int (mixF n k))) := by
  have h1 : numOk (n % 1000000007 + 7 * k + 1) = true := numOk_of (by omega) (by omega)
  have h2 : numOk ((n % 1000000007 + 7 * k + 1) * 48271 % 2147483647) = true := numOk_of (by omega) (by omega)
  have h3 : numOk ((n % 1000000007 + 7 * k + 1) * 48271 % 2147483647 % 1009 + k + 3) = true := numOk_of (by omega) (by omega)
  have h4 : numOk k = true := numOk_of (by omega) (by omega)
  have h5 : numOk 7 = true := rfl
  have h6 : numOk 48271 = true := rfl
  simp -implicitDefEqProofs [P_law_mixed, pRun, I_law_mixed, runB, S_law_mixed, h1, h2, h3, h4, h5, h6, mixF]
theorem draws_ok (n : Int) (m : Nat) (sz : Int) (hm : m ≤ 1000) (h0 : 0 < sz) (h9 : numOk sz = true) : ∃ ds : List Int, ds.length = m ∧ (∀ d ∈ ds, 0 ≤ d ∧ d < sz) ∧ P_law_draws [.int n, .int m, .int sz] = some (.fresh (.lst (ds.map .int))) := by
  have hturn : ∀ (acc : List Int) (half : Int) (i : Nat), acc.length = i → i < m → (∀ d ∈ acc, 0 ≤ d ∧ d < sz) → NxTo (fun Γ M => ∃ (acc : List Int) (half : Int), acc.length = i + 1 ∧ (∀ d ∈ acc, 0 ≤ d ∧ d < sz) ∧ Γ = [some (.int n), some (.int m), some (.int sz), some (.loc 0), some (.int half), none] ∧ M = [some (.lst (acc.map .int))])
     (turnF (gxName 5) [5] B_law_draws_1 (.int (i : Nat)) [some (.int n), some (.int m), some (.int sz), some (.loc 0), some (.int half), none] [some (.lst (acc.map .int))]) := by
    intro acc half i h1 h3 h2
    have hl : acc.length < 1000000 := by omega
    have hm := mixed_ok n (i : Nat) (by omega)
    have hm2 := mixed_ok (mixF n (i : Nat)) 3 (by omega)
    have e0 := fun x : Int => Int.emod_nonneg x (show sz ≠ 0 by omega)
    have e1 := fun x : Int => Int.emod_lt_of_pos x h0
    by_cases h : n % 2 = 0
    · simp -implicitDefEqProofs [turnF, B_law_draws_1, h, hl, h9, h0]
      refine ⟨acc ++ [half % sz], by simp; omega, ?_, by simp⟩
      intro d hd
      rcases List.mem_append.mp hd with hd | hd
      · exact h2 d hd
      · cases List.mem_singleton.mp hd; exact ⟨e0 _, e1 _⟩
    · simp -implicitDefEqProofs [turnF, B_law_draws_1, h, hl, h9, h0, hm, hm2]
      refine ⟨acc ++ [mixF (mixF n i) 3 % sz], by simp; omega, ?_, by simp⟩
      intro d hd
      rcases List.mem_append.mp hd with hd | hd
      · exact h2 d hd
      · cases List.mem_singleton.mp hd; exact ⟨e0 _, e1 _⟩
  obtain ⟨Γ', M', h1, acc, half, h2, h3, rfl, rfl⟩ := (loop_to 
    (fun i Γ M => ∃ (acc : List Int) (half : Int), acc.length = i ∧ (∀ d ∈ acc, 0 ≤ d ∧ d < sz) ∧ Γ = [some (.int n), some (.int m), some (.int sz), some (.loc 0), some (.int half), none] ∧ M = [some (.lst (acc.map .int))])
    (rngL 0 m) [some (.int n), some (.int m), some (.int sz), some (.loc 0), some (.int (n / 2)), none] [some (.lst [])] ⟨[], n / 2, rfl, fun _ h => (List.not_mem_nil h).elim, rfl, rfl⟩ (by
      rintro i d Γ M hi - ⟨acc, half, h1, h2, rfl, rfl⟩
      obtain ⟨h3, rfl⟩ := rngL_get hi
      rw [Int.zero_add]
      exact hturn acc half i h1 h3 h2)).ex
  rw [rngL_len] at h2
  refine ⟨acc, h2, h3, ?_⟩
  have hn : numOk 2 = true := rfl
  have hr : (-1000000 : Int) < (m : Int) ∧ (m : Int) < 1000000 := by omega
  simp -implicitDefEqProofs [P_law_draws, pRun, I_law_draws, runB, S_law_draws, hn, h1, hr]
/-! ### log_text -/
theorem text_rows (ds : List Dd) (h : ∀ d ∈ ds, d.ok) : ∀ r ∈ ds.map Dd.words, GoodR r := fun r hr => by
  obtain ⟨d, hd, rfl⟩ := List.mem_map.mp hr
  exact (h d hd).good
theorem sum_len (b : Nat) : ∀ l : List (List Nat), (∀ w ∈ l, w.length ≤ b) → (l.map (·.length)).sum ≤ b * l.length := by
  intro l
  induction l with
  | nil => intro _; simp
  | cons a l ih =>
    intro h
    have := h a (by simp)
    have := ih fun w hw => h w (List.mem_cons_of_mem _ hw)
    simp only [List.map_cons, List.sum_cons, List.length_cons, Nat.mul_add]
    omega
theorem join_text (M : Mem) (y : D) (rows : List (List (List Nat))) (hy : vS M y = some (rows.map fun r => eW (rowL r))) (hn : rows.length ≤ 100) (hg : ∀ r ∈ rows, GoodR r) : gJoin M (.str (S [10])) y = some (eW (textOf rows)) := by
  refine gJoin_S (ys := rows.map rowL) ?_ ?_
  · rw [hy, List.map_map, List.map_map]
    rfl
  · have := sum_len 210 (rows.map rowL) fun w hw => by
      obtain ⟨r, hr, rfl⟩ := List.mem_map.mp hw
      exact (hg r hr).rowLen
    rw [List.length_map] at this ⊢
    simp only [List.length_singleton]
    omega
theorem logtext_ok (ds : List Dd) (hn : ds.length ≤ 100) (h : ∀ d ∈ ds, d.ok) : P_log_text [.lst (ds.map Dd.enc)] = some (.val (eW (textOf (ds.map Dd.words)))) := by
  have hl : ds.length ≤ 1000000 := by omega
  have l1 : ∀ (Γ0 Γ1 Γ3 Γ4 : Option D) (M : Mem), lcF (gxName 2) tYes_ (xBin gAdd (xLst (xAcons (xBin gItem (xVar 2) (xC (.int 1))) (xAcons (xBin gItem (xVar 2) (xC (.int 0))) (xAnil)))) (xCall gListOf (xAcons (xSlice gCut (xVar 2) (oSome (xC (.int 2))) (oNone)) (xAnil)))) [Γ0, Γ1, none, Γ3, Γ4] M (ds.map Dd.enc) = some (ds.map fun d => .lst (.int d.k :: eW d.v :: d.tl.map Wd.d)) := fun Γ0 Γ1 Γ3 Γ4 M => by
    refine lcF_map Dd.enc _ ds fun d hd => ⟨_, rfl, rfl, ?_⟩
    have ht := (h d hd).tls
    have hl2 : 2 + d.tl.length ≤ 1000000 := by omega
    show xBin gAdd _ _ ([Γ0, Γ1, none, Γ3, Γ4].set 2 (some (.tup (eW d.v :: .int d.k :: d.tl.map Wd.d)))) M = _
    simp -implicitDefEqProofs [atI_0, atI_1, gCut_t2, hl2]
  have l2 : ∀ (Γ0 Γ1 Γ2 : Option D) (M : Mem), lcF (gxName 3) tYes_ (xBin gJoin (xC (.str " ")) (xLc (gxName 4) [4] (ixL (xVar 3)) (tYes_) (xCall gStrOf (xAcons (xVar 4) (xAnil))))) [Γ0, Γ1, Γ2, none, none] M (ds.map fun d => .lst (.int d.k :: eW d.v :: d.tl.map Wd.d)) = some (ds.map fun d => eW (rowL d.words)) := fun Γ0 Γ1 Γ2 M => by
    refine lcF_map (fun d : Dd => D.lst (.int d.k :: eW d.v :: d.tl.map Wd.d)) _ ds fun d hd => ⟨_, rfl, rfl, ?_⟩
    have ht := (h d hd).tls
    have hl2 : d.tl.length + 1 + 1 ≤ 1000000 := by omega
    have l3 : ∀ (Γ3 : Option D), lcF (gxName 4) tYes_ (xCall gStrOf (xAcons (xVar 4) (xAnil))) [Γ0, Γ1, Γ2, Γ3, none] M (.int d.k :: eW d.v :: d.tl.map Wd.d) = some (d.words.map eW) := fun Γ3 => by
      have := lcF_map (g := gxName 4) (t := tYes_) (f := xCall gStrOf (xAcons (xVar 4) (xAnil))) (Γ := [Γ0, Γ1, Γ2, Γ3, none]) (M := M) Wd.d (fun x => eW x.s) (.num d.k :: .txt d.v :: d.tl) fun x hx => ⟨_, rfl, rfl, by
        have hx' : x.ok := by
          rcases List.mem_cons.mp hx with rfl | hx
          · exact (h d hd).1
          · rcases List.mem_cons.mp hx with rfl | hx
            · exact (h d hd).verb
            · exact ht.2 x hx
        have := strOf_d M hx'
        simp -implicitDefEqProofs [this]⟩
      rw [show (Wd.num d.k :: Wd.txt d.v :: d.tl).map (fun x => eW x.s) = d.words.map eW by
        simp only [Dd.words, List.map_cons, List.map_map]
        rfl] at this
      exact this
    have hj := join_row M d.words (h d hd).good
    simp -implicitDefEqProofs [l3, hl2, lit_sp, hj]
  have hj := fun M => join_text M (.lst ((ds.map Dd.words).map fun r => eW (rowL r))) (ds.map Dd.words) rfl (by rw [List.length_map]; exact hn) (text_rows ds h)
  rw [List.map_map] at hj
  have hj' : ∀ M, gJoin M (.str (S [10])) (.lst (ds.map fun d => eW (rowL d.words))) = some (eW (textOf (ds.map Dd.words))) := hj
  have hf : locFree (eW (textOf (ds.map Dd.words))) = true := rfl
  generalize eW (textOf (ds.map Dd.words)) = out at *
  simp -implicitDefEqProofs [P_log_text, pRun, I_log_text, runB, S_log_text, hl, l1, l2, lit_nl, hj', hf]
/-! ### names -/
theorem joinL_one : ∀ cs : List Nat, TL.joinL [] (cs.map fun c => [c]) = cs
  | [] => rfl
  | [c] => rfl
  | c :: d :: r => by
    show [c] ++ ([] ++ TL.joinL [] ((d :: r).map fun c => [c])) = _
    rw [joinL_one (d :: r)]
    rfl
theorem lname_ok (n : Int) (hn : 0 ≤ n) : ∃ nm, nameB nm = true ∧ P_law_name [.int n] = some (.val (eW nm)) := by
  by_cases h3 : n % 3 = 0
  · have hc : n / 3 % 6 = 0 ∨ n / 3 % 6 = 1 ∨ n / 3 % 6 = 2 ∨ n / 3 % 6 = 3 ∨ n / 3 % 6 = 4 ∨ n / 3 % 6 = 5 := by omega
    have hat : ∃ nm, nameB nm = true ∧ atI [D.str "tell", .str "bill", .str "wrong", .str "change", .str "main", .str "heat"] (n / 3 % 6) = some (eW nm) := by
      rcases hc with e | e | e | e | e | e <;> rw [e]
      · exact ⟨TELL, by decide, by rw [lit_tell]; rfl⟩
      · exact ⟨BILL, by decide, by rw [lit_bill]; rfl⟩
      · exact ⟨WRONG, by decide, by rw [lit_wrong]; rfl⟩
      · exact ⟨CHANGE, by decide, by rw [lit_change]; rfl⟩
      · exact ⟨[109, 97, 105, 110], by decide, by rw [show Str.ofString "main" = S [109, 97, 105, 110] by decide +kernel]; rfl⟩
      · exact ⟨[104, 101, 97, 116], by decide, by rw [show Str.ofString "heat" = S [104, 101, 97, 116] by decide +kernel]; rfl⟩
    obtain ⟨nm, h1, h2⟩ := hat
    refine ⟨nm, h1, ?_⟩
    have h6 : numOk 3 = true := rfl
    simp -implicitDefEqProofs [P_law_name, pRun, I_law_name, runB, S_law_name, h3, h2, h6]
  · obtain ⟨m, hm⟩ : ∃ m : Nat, 1 + n / 3 % 8 = (m : Int) := ⟨(1 + n / 3 % 8).toNat, by omega⟩
    have hm1 : 1 ≤ m ∧ m ≤ 8 := by omega
    have at_abc : ∀ i : Int, 0 ≤ i → i < 26 → ∃ c, c ∈ ABC ∧ atI ABC i = some c := fun i h0 h1 => by
      obtain ⟨c, e1, e2⟩ := atI_in (l := ABC) h0 (by exact h1)
      exact ⟨c, List.mem_of_getElem? e2, e1⟩
    have ix : ∀ k : Nat, k < m → 0 ≤ n / ((k : Int) + 3) % 26 ∧ n / ((k : Int) + 3) % 26 < 26 := fun k _ => ⟨Int.emod_nonneg _ (by decide), Int.emod_lt_of_pos _ (by decide)⟩
    let cf : Nat → Nat := fun k => (atI ABC (n / ((k : Int) + 3) % 26)).getD 0
    have hcf : ∀ k : Nat, k < m → cf k ∈ ABC ∧ atI ABC (n / ((k : Int) + 3) % 26) = some (cf k) := fun k hk => by
      obtain ⟨c, h1, h2⟩ := at_abc _ (ix k hk).1 (ix k hk).2
      have : cf k = c := by show (atI ABC _).getD 0 = c; rw [h2]; rfl
      rw [this]
      exact ⟨h1, h2⟩
    have lc : ∀ (Γ0 : Option D) (M : Mem), Γ0 = some (.int n) → lcF (gxName 2) tYes_ (xBin gItem (xVar 1) (xBin gMod (xBin gDiv (xVar 0) (xBin gAdd (xVar 2) (xC (.int 3)))) (xC (.int 26)))) [Γ0, some (.str (S ABC)), none] M (rngL 0 m) = some (((List.range m).map cf).map fun c => eW [c]) := fun Γ0 M h0 => by
      subst h0
      unfold rngL
      rw [List.map_map]
      refine lcF_map (fun i : Nat => D.int (0 + (i : Int))) _ (List.range m) fun k hk => ⟨_, rfl, rfl, ?_⟩
      rw [List.mem_range] at hk
      have e1 := (hcf k hk).2
      have e2 : numOk ((k : Int) + 3) = true := numOk_of (by omega) (by omega)
      have e3 : (0 : Int) < (k : Int) + 3 := by omega
      have e4 : gItem M (.str (S ABC)) (.int (n / ((k : Int) + 3) % 26)) = some (eW [cf k]) := by
        show (if (S ABC).length ≤ 1000000 then (atI ABC (n / ((k : Int) + 3) % 26)).map fun c => D.str ⟨#[c]⟩ else none) = _
        rw [if_pos (by decide), e1]
        rfl
      simp -implicitDefEqProofs [e2, e3, e4]
    have hj : ∀ M, gJoin M (.str (S [])) (.lst (((List.range m).map cf).map fun c => eW [c])) = some (eW ((List.range m).map cf)) := fun M => by
      have := gJoin_S (M := M) (a := []) (ys := ((List.range m).map cf).map fun c => [c]) (y := .lst (((List.range m).map cf).map fun c => eW [c])) (by
        show some _ = some _
        simp only [List.map_map]
        rfl) (by
        have := sum_len 1 (((List.range m).map cf).map fun c => [c]) fun w hw => by
          obtain ⟨c, _, rfl⟩ := List.mem_map.mp hw
          exact Nat.le_refl _
        simp only [List.length_map, List.length_range, List.length_nil] at this ⊢
        omega)
      rw [joinL_one] at this
      exact this
    refine ⟨(List.range m).map cf, ?_, ?_⟩
    · unfold nameB
      rw [List.length_map, List.length_range, decide_eq_true hm1.1, decide_eq_true hm1.2]
      show ((List.range m).map cf).all _ = true
      rw [List.all_map, List.all_eq_true]
      exact fun k hk => decide_eq_true (hcf k (List.mem_range.mp hk)).1
    · have h6 : numOk 3 = true := rfl
      have hr : (-1000000 : Int) < (m : Int) ∧ (m : Int) < 1000000 := by omega
      have hl : m ≤ 1000000 := by omega
      have hf : locFree (eW ((List.range m).map cf)) = true := rfl
      have habc : Str.ofString "abcdefghijklmnopqrstuvwxyz" = S ABC := lit_abc
      generalize ((List.range m).map cf).map (fun c => eW [c]) = ys at *
      generalize eW ((List.range m).map cf) = out at *
      simp -implicitDefEqProofs [P_law_name, pRun, I_law_name, runB, S_law_name, h3, h6, hm, hr, hl, habc, lc, lit_e, hj, hf]
/-! ### a deed as the law draws it -/
theorem nats_of : ∀ l : List Int, (∀ x ∈ l, 0 ≤ x ∧ x < 1000000000000) → ∃ ns : List Nat, l = ns.map (fun n : Nat => (n : Int)) ∧ ∀ n ∈ ns, n < 1000000000000
  | [], _ => ⟨[], rfl, fun _ h => (List.not_mem_nil h).elim⟩
  | x :: l, h => by
    obtain ⟨ns, e, h2⟩ := nats_of l fun z hz => h z (List.mem_cons_of_mem _ hz)
    have hx := h x (by simp)
    refine ⟨x.toNat :: ns, by rw [List.map_cons, ← e, Int.toNat_of_nonneg hx.1], fun n hn => ?_⟩
    rcases List.mem_cons.mp hn with rfl | hn
    · omega
    · exact h2 n hn
theorem disp_ok2 (Γ : Sl) (M : Mem) : xDisp (kxCons (.inr (S TELL)) (xC (.int 2)) (kxCons (.inr (S CHANGE)) (xC (.int 4)) (kxCons (.inr (S WRONG)) (xC (.int 1)) (kxNil)))) Γ M = some TAB := by
  rw [← lit_tell, ← lit_change, ← lit_wrong]
  exact disp_ok Γ M
theorem ldeed_ok (c k : Int) (hk : 0 ≤ k ∧ k < 1000) : ∃ d : Dd, d.ok ∧ P_law_deed [.int c, .int k] = some (.val d.enc) := by
  obtain ⟨ds, hd1, hd2, hd3⟩ := draws_ok c 8 1000000 (by decide) (by decide) rfl
  have hd3' : P_law_draws [.int c, .int 8, .int 1000000] = some (.fresh (.lst (ds.map .int))) := hd3
  have hm := mixed_ok c k (by omega)
  have hm0 := mixF_lo c k
  generalize mixF c k = mx at *
  -- the numbers
  obtain ⟨f, hf, hfa⟩ : ∃ f : Int, (f = 1 ∨ f = 1000000) ∧ atI [D.int 1, .int 1000000, .int 1] (k % 3) = some (.int f) := by
    have : k % 3 = 0 ∨ k % 3 = 1 ∨ k % 3 = 2 := by omega
    rcases this with e | e | e <;> rw [e]
    · exact ⟨1, .inl rfl, rfl⟩
    · exact ⟨1000000, .inr rfl, rfl⟩
    · exact ⟨1, .inl rfl, rfl⟩
  have hfn : numOk f = true := by rcases hf with rfl | rfl <;> rfl
  have hcut : cutD (ds.map D.int) (some 2) (some 7) = ((ds.drop 2).take 5).map .int := by rw [cutD_map, cutD_mid' _ _ _ (by decide) (by decide)]; rfl
  obtain ⟨ms, hms, hml⟩ : ∃ ms : List Int, ms = (ds.drop 2).take 5 ∧ ms.length = 5 := ⟨_, rfl, by rw [List.length_take, List.length_drop]; omega⟩
  rw [← hms] at hcut
  have hmm : ∀ x ∈ ms, 0 ≤ x ∧ x < 1000000 := fun x hx => hd2 x (by rw [hms] at hx; exact List.mem_of_mem_drop (List.mem_of_mem_take hx))
  obtain ⟨nums, hnum, hnum2⟩ := nats_of (ms.map (· * f)) fun y hy => by
    obtain ⟨x, hx, rfl⟩ := List.mem_map.mp hy
    have := hmm x hx
    rcases hf with rfl | rfl <;> omega
  have hnl : nums.length = 5 := by
    have := congrArg List.length hnum
    rw [List.length_map, List.length_map] at this
    omega
  have lc : ∀ (Γ0 Γ2 Γ3 Γ4 Γ5 Γ6 : Option D) (M : Mem), lcF (gxName 7) tYes_ (xBin gMul (xVar 7) (xBin gItem (xLst (xAcons (xC (.int 1)) (xAcons (xBin gPow (xC (.int 10)) (xC (.int 6))) (xAcons (xC (.int 1)) (xAnil))))) (xBin gMod (xVar 1) (xC (.int 3))))) [Γ0, some (.int k), Γ2, Γ3, Γ4, Γ5, Γ6, none] M (ms.map .int) = some (nums.map fun n : Nat => D.int n) := fun Γ0 Γ2 Γ3 Γ4 Γ5 Γ6 M => by
    have e : (nums.map fun n : Nat => D.int n) = ms.map fun x => D.int (x * f) := by
      rw [show (nums.map fun n : Nat => D.int n) = (nums.map (fun n : Nat => (n : Int))).map D.int by rw [List.map_map]; rfl, ← hnum, List.map_map]
      rfl
    rw [e]
    refine lcF_map D.int _ ms fun x hx => ⟨_, rfl, rfl, ?_⟩
    have := hmm x hx
    have h1 : numOk x = true := numOk_of (by omega) (by omega)
    simp -implicitDefEqProofs [hfa, h1, hfn]
  obtain ⟨n0, n1, n2, n3, n4, rfl⟩ : ∃ n0 n1 n2 n3 n4, nums = [n0, n1, n2, n3, n4] := by
    match nums, hnl with
    | [a, b, c, d, e], _ => exact ⟨a, b, c, d, e, rfl⟩
  have b0 := hnum2 n0 (by simp)
  have b1 := hnum2 n1 (by simp)
  have b2 := hnum2 n2 (by simp)
  have b3 := hnum2 n3 (by simp)
  have b4 := hnum2 n4 (by simp)
  -- the name
  obtain ⟨a1, ha1, ha1'⟩ := getIn (ds := ds) (i := 1) (by omega)
  have hat1 : atI (ds.map D.int) 1 = some (.int a1) := at_ ha1
  obtain ⟨nm, hnm, hnm2⟩ := lname_ok a1 (hd2 a1 ha1').1
  -- the verb
  have hp6 : (10 : Int) ^ (6 : Nat) = 1000000 := by decide
  simp only [List.map_cons, List.map_nil] at lc
  have hv : mx % 5 = 0 ∨ mx % 5 = 1 ∨ mx % 5 = 2 ∨ mx % 5 = 3 ∨ mx % 5 = 4 := by omega
  have im : ∀ (M : Mem) (v : List Nat), v = TELL ∨ v = CHANGE ∨ v = WRONG → gItem M TAB (eW v) = some (.int (manyF v : Nat)) := item_many
  have key : ∀ v : List Nat, v = TELL ∨ v = CHANGE ∨ v = WRONG → atI [D.str (S TELL), .str (S TELL), .str (S CHANGE), .str (S WRONG), .str (S BILL)] (mx % 5) = some (eW v) → ∃ d : Dd, d.ok ∧ P_law_deed [.int c, .int k] = some (.val d.enc) := fun v hv hat => by
    have hb : ¬ v = BILL := by rcases hv with rfl | rfl | rfl <;> decide
    have hi := fun M => im M v hv
    have hcut2 : cutD [D.int n0, .int n1, .int n2, .int n3, .int n4] (some 1) (some (1 + (manyF v : Nat))) = ([n1, n2, n3, n4].take (manyF v)).map fun n : Nat => D.int n := by
      rw [cutD_mid' _ _ _ (by decide) (by omega)]
      rcases hv with rfl | rfl | rfl <;> rfl
    refine ⟨⟨v, n0, .txt nm :: ([n1, n2, n3, n4].take (manyF v)).map .num⟩, ⟨b0, .inr ⟨nm, [n1, n2, n3, n4].take (manyF v), rfl, hnm, ?_, fun n hn => ?_⟩⟩, ?_⟩
    · rcases hv with rfl | rfl | rfl
      · exact .inl ⟨rfl, rfl⟩
      · exact .inr (.inl ⟨rfl, rfl⟩)
      · exact .inr (.inr ⟨rfl, rfl⟩)
    · have := List.mem_of_mem_take hn
      exact hnum2 n (List.mem_cons_of_mem _ this)
    · have hte : ((([n1, n2, n3, n4].take (manyF v)).map Wd.num).map Wd.d) = ([n1, n2, n3, n4].take (manyF v)).map fun n : Nat => D.int n := by rw [List.map_map]; rfl
      have hlf : locFrees (([n1, n2, n3, n4].take (manyF v)).map fun n : Nat => D.int n) = true := locFrees_map _ (fun _ => rfl) _
      have hll : (([n1, n2, n3, n4].take (manyF v)).map fun n : Nat => D.int n).length ≤ 5 := by rw [List.length_map, List.length_take]; simp only [List.length_cons, List.length_nil]; omega
      show _ = some (PR.val (D.tup (eW v :: .int n0 :: eW nm :: (([n1, n2, n3, n4].take (manyF v)).map Wd.num).map Wd.d)))
      rw [hte]
      generalize (([n1, n2, n3, n4].take (manyF v)).map fun n : Nat => D.int n) = tl at *
      have hll2 : 3 + tl.length ≤ 1000000 := by omega
      simp -implicitDefEqProofs [P_law_deed, pRun, I_law_deed, runB, S_law_deed, hp6, hd3', hm, hcut, hml, lc, lit_tell, lit_change, lit_wrong, lit_bill, hat, disp_ok2, gEq_eW, hb, atI_0, hat1, hnm2, hi, hcut2, hll2, hlf]
  rcases hv with e | e | e | e | e
  · exact key TELL (.inl rfl) (by rw [e]; rfl)
  · exact key TELL (.inl rfl) (by rw [e]; rfl)
  · exact key CHANGE (.inr (.inl rfl)) (by rw [e]; rfl)
  · exact key WRONG (.inr (.inr rfl)) (by rw [e]; rfl)
  · have hat : atI [D.str (S TELL), .str (S TELL), .str (S CHANGE), .str (S WRONG), .str (S BILL)] (mx % 5) = some (eW BILL) := by rw [e]; rfl
    refine ⟨⟨BILL, n0, []⟩, ⟨b0, .inl ⟨rfl, rfl⟩⟩, ?_⟩
    have hq := fun M => gEq_eW M BILL
    show _ = some (PR.val (D.tup [eW BILL, .int n0]))
    have hx : D.str (S BILL) = eW BILL := rfl
    simp -implicitDefEqProofs [P_law_deed, pRun, I_law_deed, runB, S_law_deed, hp6, hd3', hm, hcut, hml, lc, lit_tell, lit_change, lit_wrong, lit_bill, hat, disp_ok2, hq, atI_0]
    rfl
set_option Elab.async false
set_option linter.all false
set_option maxRecDepth 100000
set_option maxHeartbeats 4000000
open PySem L2 G SX
/-! ### words that a row can't have -/
abbrev goodW (w : List Nat) : Prop := w.length ≤ 20 ∧ 32 ∉ w ∧ 10 ∉ w
theorem isNon_non : isNon D.non = true := rfl
theorem deed_num {k : List Nat} (h : numB k = false) (r : List (List Nat)) : isNon (deedD (k :: r)) = true := by
  cases r with
  | nil => rfl
  | cons v r =>
    unfold deedD
    dsimp only
    rw [h, if_neg Bool.false_ne_true]
    rfl
theorem deed_rest {k v : List Nat} {r : List (List Nat)} (hb : ¬ (v = BILL ∧ r = [])) (h : ∀ nm ns, r = nm :: ns → ¬ (ns.length = manyF v ∧ nameB nm = true ∧ ns.all numB = true)) : isNon (deedD (k :: v :: r)) = true := by
  cases hk : numB k with
  | false => exact deed_num hk _
  | true =>
    unfold deedD
    dsimp only
    rw [hk, if_pos rfl, if_neg hb]
    cases r with
    | nil => rfl
    | cons nm ns =>
      dsimp only
      rw [if_neg (h nm ns rfl)]
      rfl
theorem manyF_o {v : List Nat} (h1 : v ≠ TELL) (h2 : v ≠ CHANGE) (h3 : v ≠ WRONG) : manyF v = 60 := by
  unfold manyF
  rw [if_neg h1, if_neg h2, if_neg h3]
theorem deed_verb {k v : List Nat} {r : List (List Nat)} (h0 : v ≠ BILL) (h1 : v ≠ TELL) (h2 : v ≠ CHANGE) (h3 : v ≠ WRONG) (hr : r.length ≤ 10) : isNon (deedD (k :: v :: r)) = true :=
  deed_rest (fun h => h0 h.1) fun nm ns e h => by
    have := h.1
    rw [manyF_o h1 h2 h3] at this
    rw [e, List.length_cons] at hr
    omega
/-- what kind of verb, how many words behind it -/
def Vs (v : List Nat) (n : Nat) : Prop := v = BILL ∧ n = 0 ∨ (v = TELL ∨ v = CHANGE ∨ v = WRONG) ∧ n = manyF v + 1
theorem deed_len {k v : List Nat} {r : List (List Nat)} {n : Nat} (hv : Vs v n) (hn : r.length ≠ n) (hr : r.length ≤ 10) : isNon (deedD (k :: v :: r)) = true := by
  rcases hv with ⟨rfl, rfl⟩ | ⟨hv, rfl⟩
  · refine deed_rest (fun h => hn (by rw [h.2]; rfl)) fun nm ns e h => ?_
    have h1 := h.1
    rw [show manyF BILL = 60 by decide] at h1
    rw [e, List.length_cons] at hr
    omega
  · refine deed_rest (fun h => ?_) fun nm ns e h => hn (by rw [e, List.length_cons, h.1])
    rcases hv with e | e | e <;> rw [e] at h <;> exact absurd h.1 (by decide)
theorem Vs.notBill {v : List Nat} {n : Nat} (h : Vs v (n + 1)) : v ≠ BILL := by
  rcases h with ⟨_, h⟩ | ⟨h, _⟩
  · cases h
  · rcases h with e | e | e <;> rw [e] <;> decide
theorem deed_name {k v nm : List Nat} {ns : List (List Nat)} (hv : v ≠ BILL) (h : nameB nm = false) : isNon (deedD (k :: v :: nm :: ns)) = true :=
  deed_rest (fun z => hv z.1) fun nm' ns' e z => by
    cases e
    rw [h] at z
    cases z.2.1
theorem deed_nums {k v nm b : List Nat} {ns : List (List Nat)} (hv : v ≠ BILL) (hb : b ∈ ns) (h : numB b = false) : isNon (deedD (k :: v :: nm :: ns)) = true :=
  deed_rest (fun z => hv z.1) fun nm' ns' e z => by
    cases e
    have := List.all_eq_true.mp z.2.2 b hb
    rw [h] at this
    cases this
theorem lit (x : Str) : D.str x = eW x.cps.toList := rfl
theorem badnum_ok (n : Int) : ∃ w, numB w = false ∧ goodW w ∧ P_law_bad_number [.int n] = some (.val (eW w)) := by
  have hat : ∃ w, numB w = false ∧ goodW w ∧ atI [D.str "01", .str "00", .str "", .str "-1", .str "+1", .str "1.0", .str "a", .str "1000000000000", .str "1_0"] (n % 9) = some (eW w) := by
    have : n % 9 = 0 ∨ n % 9 = 1 ∨ n % 9 = 2 ∨ n % 9 = 3 ∨ n % 9 = 4 ∨ n % 9 = 5 ∨ n % 9 = 6 ∨ n % 9 = 7 ∨ n % 9 = 8 := by omega
    rcases this with e | e | e | e | e | e | e | e | e <;> rw [e]
    · exact ⟨(Str.ofString "01").cps.toList, by decide +kernel, by decide +kernel, rfl⟩
    · exact ⟨(Str.ofString "00").cps.toList, by decide +kernel, by decide +kernel, rfl⟩
    · exact ⟨(Str.ofString "").cps.toList, by decide +kernel, by decide +kernel, rfl⟩
    · exact ⟨(Str.ofString "-1").cps.toList, by decide +kernel, by decide +kernel, rfl⟩
    · exact ⟨(Str.ofString "+1").cps.toList, by decide +kernel, by decide +kernel, rfl⟩
    · exact ⟨(Str.ofString "1.0").cps.toList, by decide +kernel, by decide +kernel, rfl⟩
    · exact ⟨(Str.ofString "a").cps.toList, by decide +kernel, by decide +kernel, rfl⟩
    · exact ⟨(Str.ofString "1000000000000").cps.toList, by decide +kernel, by decide +kernel, rfl⟩
    · exact ⟨(Str.ofString "1_0").cps.toList, by decide +kernel, by decide +kernel, rfl⟩
  obtain ⟨w, h1, h2, h3⟩ := hat
  refine ⟨w, h1, h2, ?_⟩
  simp -implicitDefEqProofs [P_law_bad_number, pRun, I_law_bad_number, runB, S_law_bad_number, h3]
theorem badverb (n : Int) : ∃ w, (w ≠ BILL ∧ w ≠ TELL ∧ w ≠ CHANGE ∧ w ≠ WRONG) ∧ goodW w ∧ atI [D.str "Tell", .str "told", .str "bills", .str "", .str "5"] (n % 5) = some (eW w) := by
  have : n % 5 = 0 ∨ n % 5 = 1 ∨ n % 5 = 2 ∨ n % 5 = 3 ∨ n % 5 = 4 := by omega
  rcases this with e | e | e | e | e <;> rw [e]
  · exact ⟨(Str.ofString "Tell").cps.toList, by decide +kernel, by decide +kernel, rfl⟩
  · exact ⟨(Str.ofString "told").cps.toList, by decide +kernel, by decide +kernel, rfl⟩
  · exact ⟨(Str.ofString "bills").cps.toList, by decide +kernel, by decide +kernel, rfl⟩
  · exact ⟨(Str.ofString "").cps.toList, by decide +kernel, by decide +kernel, rfl⟩
  · exact ⟨(Str.ofString "5").cps.toList, by decide +kernel, by decide +kernel, rfl⟩
theorem badname (n : Int) : ∃ w, nameB w = false ∧ goodW w ∧ atI [D.str "A", .str "abcdefghi", .str "", .str "a1", .str "5"] (n % 5) = some (eW w) := by
  have : n % 5 = 0 ∨ n % 5 = 1 ∨ n % 5 = 2 ∨ n % 5 = 3 ∨ n % 5 = 4 := by omega
  rcases this with e | e | e | e | e <;> rw [e]
  · exact ⟨(Str.ofString "A").cps.toList, by decide +kernel, by decide +kernel, rfl⟩
  · exact ⟨(Str.ofString "abcdefghi").cps.toList, by decide +kernel, by decide +kernel, rfl⟩
  · exact ⟨(Str.ofString "").cps.toList, by decide +kernel, by decide +kernel, rfl⟩
  · exact ⟨(Str.ofString "a1").cps.toList, by decide +kernel, by decide +kernel, rfl⟩
  · exact ⟨(Str.ofString "5").cps.toList, by decide +kernel, by decide +kernel, rfl⟩
/-! ### rows put otherwise -/
theorem joinL_snoc (s w : List Nat) : ∀ ps : List (List Nat), ps ≠ [] → TL.joinL s ps ++ (s ++ w) = TL.joinL s (ps ++ [w])
  | [], h => absurd rfl h
  | [p], _ => rfl
  | p :: q :: r, _ => by
    show (p ++ (s ++ TL.joinL s (q :: r))) ++ (s ++ w) = p ++ (s ++ TL.joinL s ((q :: r) ++ [w]))
    rw [← joinL_snoc s w (q :: r) (List.cons_ne_nil _ _)]
    simp only [List.append_assoc]
theorem gAdd_W (M : Mem) (a b : List Nat) (h : a.length + b.length ≤ 1000000) : gAdd M (eW a) (eW b) = some (eW (a ++ b)) := by
  show (if (S a).length + (S b).length ≤ 1000000 then some (D.str (S a ++ S b)) else none) = _
  rw [if_pos (by rw [S_len, S_len]; exact h), S_cat]
  rfl
theorem rep1L_first {c : Nat} {z : List Nat} : ∀ (w r : List Nat), c ∉ w → rep1L c z (w ++ c :: r) = w ++ (z ++ r)
  | [], r, _ => by simp [rep1L]
  | k :: w, r, h => by
    have h1 : k ≠ c := fun e => h (by simp [e])
    have h2 : c ∉ w := fun e => h (by simp [e])
    show (if k = c then _ else k :: rep1L c z (w ++ c :: r)) = _
    rw [if_neg h1, rep1L_first w r h2]
    rfl
@[simp] theorem gCut_loc {M : Mem} (n : Nat) (lo hi : Option Int) : gCut M (.loc n) lo hi = (vL M (.loc n)).map fun ds => .lst (cutD ds lo hi) := rfl
@[simp] theorem gLen_loc {M : Mem} (n : Nat) : gLen M [.loc n] = match vS M (.loc n) with
    | some ds => some (.int ds.length)
    | none => (vK M (.loc n)).map fun kvs => .int kvs.length := rfl
theorem GoodR.put {ws ws' : List (List Nat)} (g : GoodR ws) (hn : ws' ≠ []) (hl : ws'.length ≤ 10) (h : ∀ w ∈ ws', w ∈ ws ∨ goodW w) : GoodR ws' := ⟨hn, hl, fun w hw => by
  rcases h w hw with h | h
  · exact g.all w h
  · exact h⟩
section
variable (k v : List Nat) (ts : List (List Nat)) (n : Int)
/-- behind the first three rows -/
abbrev sp0 : Sl := [some (eW (rowL (k :: v :: ts))), some (.int n), some (.loc 0), some (.int (n % 8)), some (.int (n / 8))]
end
set_option Elab.async false
set_option linter.all false
set_option maxRecDepth 100000
set_option maxHeartbeats 4000000
open PySem L2 G SX
theorem lit_sp2 : (Str.ofString "  ").cps.toList = [32, 32] := by decide +kernel
theorem lit_sp1 : Str.ofString " 1" = S [32, 49] := by decide +kernel
theorem rep_row (k : List Nat) (r : List (List Nat)) (h : 32 ∉ k) (hr : r ≠ []) (hl : (rowL (k :: r)).length ≤ 1000000) (f : Ex) (Γ : Sl) (M : Mem) (hf : f Γ M = some (eW (rowL (k :: r)))) : xRep1 32 "  " f Γ M = some (eW (rowL (k :: [] :: r))) := by
  unfold xRep1
  rw [hf, Option.bind_some]
  cases r with
  | nil => exact absurd rfl hr
  | cons a r =>
    have e : rowL (k :: a :: r) = k ++ 32 :: rowL (a :: r) := rfl
    have hm : 32 ∈ (S (rowL (k :: a :: r))).cps.toList := by
      show 32 ∈ rowL (k :: a :: r)
      rw [e]
      simp
    show (if 32 ∈ (S (rowL (k :: a :: r))).cps.toList ∧ (S (rowL (k :: a :: r))).length ≤ 1000000 then some (D.str (rep1 (S (rowL (k :: a :: r))) 32 (Str.ofString "  "))) else none) = _
    rw [if_pos ⟨hm, by rw [S_len]; exact hl⟩]
    have e2 : rep1 (S (rowL (k :: a :: r))) 32 (Str.ofString "  ") = S (rowL (k :: [] :: a :: r)) := by
      unfold rep1
      show S (rep1L 32 (Str.ofString "  ").cps.toList (rowL (k :: a :: r))) = _
      rw [lit_sp2, e, rep1L_first k _ h]
      rfl
    rw [e2]
    rfl
theorem spoilt_ok (k v : List Nat) (ts : List (List Nat)) (n : Int) (hg : GoodR (k :: v :: ts)) (hts : ts.length ≤ 5) (hv : Vs v ts.length) :
    ∃ ws', GoodR ws' ∧ isNon (deedD ws') = true ∧ P_law_spoilt [eW (rowL (k :: v :: ts)), .int n] = some (.val (eW (rowL ws'))) := by
  have hs := fun M => split_row M hg
  simp only [List.map_cons] at hs
  have n8 : numOk 8 = true := rfl
  have hrl := hg.rowLen
  have gE : goodW [] := by decide
  have mem3 : ∀ w, w ∈ k :: v :: ts → w = k ∨ w = v ∨ w ∈ ts := fun w h => by
    rcases List.mem_cons.mp h with h | h
    · exact .inl h
    · rcases List.mem_cons.mp h with h | h
      · exact .inr (.inl h)
      · exact .inr (.inr h)
  have gk := hg.all k (by simp)
  have gv := hg.all v (by simp)
  have gt : ∀ w ∈ ts, goodW w := fun w h => hg.all w (by simp [h])
  have hlf := locFrees_map eW (fun _ => rfl) ts
  -- a number that is none ahead
  have other : ∀ (hc : ∀ (Γ : Sl) (M : Mem), True), (n % 8 ≠ 0 ∧ n % 8 ≠ 1 ∧ n % 8 ≠ 2 ∧ n % 8 ≠ 3 ∧ (n % 8 = 4 → ts.length = 0) ∧ (n % 8 = 5 → ts.length ≤ 1)) → ∃ ws', GoodR ws' ∧ isNon (deedD ws') = true ∧ P_law_spoilt [eW (rowL (k :: v :: ts)), .int n] = some (.val (eW (rowL ws'))) := by
    intro _ ⟨e0, e1, e2, e3, e4, e5⟩
    obtain ⟨b, b1, b2, b3⟩ := badnum_ok (n / 8)
    have g' : GoodR (b :: v :: ts) := hg.put (List.cons_ne_nil _ _) (by simp only [List.length_cons]; omega) fun w h => by
      rcases List.mem_cons.mp h with h | h
      · exact .inr (h ▸ b2)
      · exact .inl (List.mem_cons_of_mem _ h)
    refine ⟨b :: v :: ts, g', deed_num b1 _, ?_⟩
    have hj := fun M => join_row M _ g'
    simp only [List.map_cons] at hj
    have hix : ixN (ts.length + 1 + 1) 0 = some 0 := ixN_in (by decide) (by omega)
    have hf : locFree (eW (rowL (b :: v :: ts))) = true := rfl
    have c4 : ¬ (n % 8 = 4 ∧ (2 : Int) < (ts.length : Int) + 1 + 1) := fun h => by have := e4 h.1; omega
    have c5 : ¬ (n % 8 = 5 ∧ (3 : Int) < (ts.length : Int) + 1 + 1) := fun h => by have := e5 h.1; omega
    generalize eW (rowL (b :: v :: ts)) = out at *
    by_cases q4 : n % 8 = 4
    · have c : ¬ (2 : Int) < (ts.length : Int) + 1 + 1 := fun h => c4 ⟨q4, h⟩
      simp -implicitDefEqProofs [P_law_spoilt, pRun, I_law_spoilt, runB, S_law_spoilt, lit_sp, hs, n8, q4, c, b3, hix, hlf, hj, hf]
    · by_cases q5 : n % 8 = 5
      · have c : ¬ (3 : Int) < (ts.length : Int) + 1 + 1 := fun h => c5 ⟨q5, h⟩
        simp -implicitDefEqProofs [P_law_spoilt, pRun, I_law_spoilt, runB, S_law_spoilt, lit_sp, hs, n8, q5, c, b3, hix, hlf, hj, hf]
      · simp -implicitDefEqProofs [P_law_spoilt, pRun, I_law_spoilt, runB, S_law_spoilt, lit_sp, hs, n8, e0, e1, e2, e3, q4, q5, b3, hix, hlf, hj, hf]
  have h8 : n % 8 = 0 ∨ n % 8 = 1 ∨ n % 8 = 2 ∨ n % 8 = 3 ∨ n % 8 = 4 ∨ n % 8 = 5 ∨ n % 8 = 6 ∨ n % 8 = 7 := by omega
  rcases h8 with e | e | e | e | e | e | e | e
  · -- a blank more, or nothing
    have a1 : ∀ M, gAdd M (eW (rowL (k :: v :: ts))) (.str (S [32])) = some (eW (rowL (k :: v :: (ts ++ [[]])))) := fun M => by
      have := gAdd_W M (rowL (k :: v :: ts)) [32] (by simp only [List.length_singleton]; omega)
      have j := joinL_snoc [32] [] (k :: v :: ts) (List.cons_ne_nil _ _)
      rw [List.append_nil] at j
      rw [show TL.joinL [32] (k :: v :: ts) ++ [32] = rowL (k :: v :: ts) ++ [32] from rfl] at j
      rw [j] at this
      exact this
    have a2 : ∀ M, gAdd M (.str (S [32])) (eW (rowL (k :: v :: ts))) = some (eW (rowL ([] :: k :: v :: ts))) := fun M => gAdd_W M [32] (rowL (k :: v :: ts)) (by simp only [List.length_singleton]; omega)
    have a3 : ∀ (Γ : Sl) (M : Mem), xVar 0 Γ M = some (eW (rowL (k :: v :: ts))) → xRep1 32 "  " (xVar 0) Γ M = some (eW (rowL (k :: [] :: v :: ts))) := fun Γ M h => rep_row k (v :: ts) gk.2.1 (List.cons_ne_nil _ _) (by omega) _ Γ M h
    have a3' := a3 [some (eW (rowL (k :: v :: ts))), some (.int n), some (.loc 0), some (.int 0), some (.int (n / 8))] [some (.lst (eW k :: eW v :: ts.map eW))] rfl
    have hat : ∃ ws', GoodR ws' ∧ isNon (deedD ws') = true ∧ atI [eW (rowL (k :: v :: (ts ++ [[]]))), eW (rowL ([] :: k :: v :: ts)), eW (rowL (k :: [] :: v :: ts)), D.str (S [])] (n / 8 % 4) = some (eW (rowL ws')) := by
      have : n / 8 % 4 = 0 ∨ n / 8 % 4 = 1 ∨ n / 8 % 4 = 2 ∨ n / 8 % 4 = 3 := by omega
      rcases this with q | q | q | q <;> rw [q]
      · refine ⟨k :: v :: (ts ++ [[]]), hg.put (List.cons_ne_nil _ _) (by simp only [List.length_cons, List.length_append, List.length_nil]; omega) fun w h => ?_, deed_len hv (by simp only [List.length_append, List.length_cons, List.length_nil]; omega) (by simp only [List.length_append, List.length_cons, List.length_nil]; omega), rfl⟩
        rw [← List.cons_append, ← List.cons_append] at h
        rcases List.mem_append.mp h with h | h
        · exact .inl h
        · exact .inr (List.mem_singleton.mp h ▸ gE)
      · refine ⟨[] :: k :: v :: ts, hg.put (List.cons_ne_nil _ _) (by simp only [List.length_cons]; omega) fun w h => ?_, deed_num rfl _, rfl⟩
        rcases List.mem_cons.mp h with h | h
        · exact .inr (h ▸ gE)
        · exact .inl h
      · refine ⟨k :: [] :: v :: ts, hg.put (List.cons_ne_nil _ _) (by simp only [List.length_cons]; omega) fun w h => ?_, deed_verb (by decide) (by decide) (by decide) (by decide) (by simp only [List.length_cons]; omega), rfl⟩
        rcases List.mem_cons.mp h with h | h
        · exact .inl (by rw [h]; simp)
        · rcases List.mem_cons.mp h with h | h
          · exact .inr (h ▸ gE)
          · exact .inl (List.mem_cons_of_mem _ h)
      · exact ⟨[[]], ⟨List.cons_ne_nil _ _, by decide, fun w h => by rw [List.mem_singleton.mp h]; decide⟩, rfl, rfl⟩
    obtain ⟨ws', w1, w2, w3⟩ := hat
    refine ⟨ws', w1, w2, ?_⟩
    have hf : locFree (eW (rowL ws')) = true := rfl
    generalize eW (rowL ws') = out at *
    simp -implicitDefEqProofs [P_law_spoilt, pRun, I_law_spoilt, runB, S_law_spoilt, lit_sp, hs, n8, e, a1, a2, a3', lit_e, w3, hf]
  · -- the last word is lost
    cases ts with
    | nil =>
      have g' : GoodR [k] := hg.put (List.cons_ne_nil _ _) (by simp) fun w h => .inl (by rw [List.mem_singleton.mp h]; simp)
      refine ⟨[k], g', by rfl, ?_⟩
      have hj := fun M => join_row M _ g'
      simp only [List.map_cons, List.map_nil] at hj hs
      have hcut : cutD [eW k, eW v] none (some 1) = [eW k] := cutD_up _ 1
      have hf : locFree (eW (rowL [k])) = true := rfl
      generalize eW (rowL [k]) = out at *
      simp -implicitDefEqProofs [P_law_spoilt, pRun, I_law_spoilt, runB, S_law_spoilt, lit_sp, hs, n8, e, hcut, hj, hf]
    | cons t r =>
      have g' : GoodR (k :: v :: (t :: r).take r.length) := hg.put (List.cons_ne_nil _ _) (by simp only [List.length_cons, List.length_take] at hts ⊢; omega) fun w h => by
        rcases List.mem_cons.mp h with h | h
        · exact .inl (by rw [h]; simp)
        · rcases List.mem_cons.mp h with h | h
          · exact .inl (by rw [h]; simp)
          · exact .inl (by simp only [List.mem_cons]; exact .inr (.inr (List.mem_cons.mp (List.mem_of_mem_take h))))
      refine ⟨k :: v :: (t :: r).take r.length, g', deed_len hv (by simp only [List.length_cons, List.length_take]; omega) (by simp only [List.length_cons, List.length_take] at hts ⊢; omega), ?_⟩
      have hj := fun M => join_row M _ g'
      simp only [List.map_cons] at hs
      have hcut : cutD (eW k :: eW v :: eW t :: r.map eW) none (some ((r.length : Int) + 1 + 1)) = (k :: v :: (t :: r).take r.length).map eW := by
        have := cutD_up (eW k :: eW v :: eW t :: r.map eW) (r.length + 1 + 1)
        rw [show (((r.length + 1 + 1 : Nat)) : Int) = (r.length : Int) + 1 + 1 by omega] at this
        rw [this, ← List.map_cons, ← List.map_cons, ← List.map_cons, ← List.map_take]
        rfl
      have hf : locFree (eW (rowL (k :: v :: (t :: r).take r.length))) = true := rfl
      generalize eW (rowL (k :: v :: (t :: r).take r.length)) = out at *
      generalize (k :: v :: (t :: r).take r.length).map eW = ys at *
      simp -implicitDefEqProofs [P_law_spoilt, pRun, I_law_spoilt, runB, S_law_spoilt, lit_sp, hs, n8, e, hcut, hj, hf]
  · -- a word more
    have a1 : ∀ M, gAdd M (eW (rowL (k :: v :: ts))) (.str (S [32, 49])) = some (eW (rowL (k :: v :: (ts ++ [[49]])))) := fun M => by
      have := gAdd_W M (rowL (k :: v :: ts)) [32, 49] (by simp only [List.length_cons, List.length_nil]; omega)
      have j := joinL_snoc [32] [49] (k :: v :: ts) (List.cons_ne_nil _ _)
      rw [show TL.joinL [32] (k :: v :: ts) ++ ([32] ++ [49]) = rowL (k :: v :: ts) ++ [32, 49] from rfl] at j
      rw [j] at this
      exact this
    refine ⟨k :: v :: (ts ++ [[49]]), hg.put (List.cons_ne_nil _ _) (by simp only [List.length_cons, List.length_append, List.length_nil]; omega) fun w h => ?_, deed_len hv (by simp only [List.length_append, List.length_cons, List.length_nil]; omega) (by simp only [List.length_append, List.length_cons, List.length_nil]; omega), ?_⟩
    · rw [← List.cons_append, ← List.cons_append] at h
      rcases List.mem_append.mp h with h | h
      · exact .inl h
      · exact .inr (List.mem_singleton.mp h ▸ by decide)
    · have hf : locFree (eW (rowL (k :: v :: (ts ++ [[49]])))) = true := rfl
      generalize eW (rowL (k :: v :: (ts ++ [[49]]))) = out at *
      simp -implicitDefEqProofs [P_law_spoilt, pRun, I_law_spoilt, runB, S_law_spoilt, lit_sp, hs, n8, e, lit_sp1, a1, hf]
  · -- another verb
    obtain ⟨b, ⟨b1, b2, b3, b4⟩, b5, b6⟩ := badverb (n / 8)
    have g' : GoodR (k :: b :: ts) := hg.put (List.cons_ne_nil _ _) (by simp only [List.length_cons]; omega) fun w h => by
      rcases List.mem_cons.mp h with h | h
      · exact .inl (by rw [h]; simp)
      · rcases List.mem_cons.mp h with h | h
        · exact .inr (h ▸ b5)
        · exact .inl (by simp [h])
    refine ⟨k :: b :: ts, g', deed_verb b1 b2 b3 b4 (by omega), ?_⟩
    have hj := fun M => join_row M _ g'
    simp only [List.map_cons] at hj
    have hix : ixN (ts.length + 1 + 1) 1 = some 1 := ixN_in (by decide) (by omega)
    have hf : locFree (eW (rowL (k :: b :: ts))) = true := rfl
    generalize eW (rowL (k :: b :: ts)) = out at *
    simp -implicitDefEqProofs [P_law_spoilt, pRun, I_law_spoilt, runB, S_law_spoilt, lit_sp, hs, n8, e, b6, hix, hlf, hj, hf]
  · -- another name
    cases ts with
    | nil => exact other (fun _ _ => trivial) ⟨by omega, by omega, by omega, by omega, fun _ => rfl, fun _ => by simp⟩
    | cons t r =>
      obtain ⟨b, b1, b2, b3⟩ := badname (n / 8)
      have hvb : v ≠ BILL := by
        rw [List.length_cons] at hv
        exact hv.notBill
      have g' : GoodR (k :: v :: b :: r) := hg.put (List.cons_ne_nil _ _) (by simp only [List.length_cons] at hts ⊢; omega) fun w h => by
        rcases List.mem_cons.mp h with h | h
        · exact .inl (by rw [h]; simp)
        · rcases List.mem_cons.mp h with h | h
          · exact .inl (by rw [h]; simp)
          · rcases List.mem_cons.mp h with h | h
            · exact .inr (h ▸ b2)
            · exact .inl (by simp [h])
      refine ⟨k :: v :: b :: r, g', deed_name hvb b1, ?_⟩
      have hj := fun M => join_row M _ g'
      simp only [List.map_cons] at hj hs hlf
      have hix : ixN (r.length + 1 + 1 + 1) 2 = some 2 := ixN_in (by decide) (by omega)
      have hlf' := locFrees_map eW (fun _ => rfl) r
      have c : (2 : Int) < (r.length : Int) + 1 + 1 + 1 := by omega
      have hf : locFree (eW (rowL (k :: v :: b :: r))) = true := rfl
      generalize eW (rowL (k :: v :: b :: r)) = out at *
      simp -implicitDefEqProofs [P_law_spoilt, pRun, I_law_spoilt, runB, S_law_spoilt, lit_sp, hs, n8, e, c, b3, hix, hlf', hj, hf]
  · -- another number
    match ts, hg, hts, hv, hs, hrl, mem3, gt, hlf, other with
    | [], _, _, _, _, _, _, _, _, other => exact other (fun _ _ => trivial) (by simp only [List.length_nil]; omega)
    | [t], _, _, _, _, _, _, _, _, other => exact other (fun _ _ => trivial) (by simp only [List.length_cons, List.length_nil]; omega)
    | t :: u :: r, hg, hts, hv, hs, hrl, mem3, gt, hlf, other =>
      obtain ⟨b, b1, b2, b3⟩ := badnum_ok (n / 8 / 10)
      have hvb : v ≠ BILL := by
        rw [List.length_cons] at hv
        exact hv.notBill
      have j0 : 0 ≤ n / 8 % ((r.length : Int) + 1) := Int.emod_nonneg _ (by omega)
      have j1 : n / 8 % ((r.length : Int) + 1) < (r.length : Int) + 1 := Int.emod_lt_of_pos _ (by omega)
      obtain ⟨j, hj⟩ : ∃ j : Nat, n / 8 % ((r.length : Int) + 1) = (j : Int) := ⟨_, (Int.toNat_of_nonneg j0).symm⟩
      have jl : j < (u :: r).length := by rw [List.length_cons]; omega
      have g' : GoodR (k :: v :: t :: (u :: r).set j b) := hg.put (List.cons_ne_nil _ _) (by simp only [List.length_cons, List.length_set] at hts ⊢; omega) fun w h => by
        rcases List.mem_cons.mp h with h | h
        · exact .inl (by rw [h]; simp)
        · rcases List.mem_cons.mp h with h | h
          · exact .inl (by rw [h]; simp)
          · rcases List.mem_cons.mp h with h | h
            · exact .inl (by rw [h]; simp)
            · rcases List.mem_or_eq_of_mem_set h with h | h
              · exact .inl (List.mem_cons_of_mem _ (List.mem_cons_of_mem _ (List.mem_cons_of_mem _ h)))
              · exact .inr (h ▸ b2)
      refine ⟨k :: v :: t :: (u :: r).set j b, g', deed_nums hvb (List.mem_set jl b) b1, ?_⟩
      have hjn := fun M => join_row M _ g'
      have n10 : numOk 10 = true := rfl
      have hix : ixN (r.length + 1 + 1 + 1 + 1) (3 + (j : Int)) = some (j + 1 + 1 + 1) := by
        rw [List.length_cons] at jl
        rw [ixN_in (by omega) (by omega)]
        congr 1
        omega
      have hset : (k :: v :: t :: (u :: r).set j b).map eW = eW k :: eW v :: eW t :: (eW u :: r.map eW).set j (eW b) := by
        simp only [List.map_cons, List.map_set]
      have hlf' : locFrees ((eW u :: r.map eW).set j (eW b)) = true := by
        have := locFrees_map eW (fun _ => rfl) ((u :: r).set j b)
        simp only [List.map_set, List.map_cons] at this
        exact this
      rw [hset] at hjn
      simp only [List.map_cons] at hs
      have c : (3 : Int) < (r.length : Int) + 1 + 1 + 1 + 1 := by omega
      have cc : (r.length : Int) + 1 + 1 + 1 + 1 - 3 = (r.length : Int) + 1 := by omega
      have c0 : (0 : Int) < (r.length : Int) + 1 := by omega
      have hf : locFree (eW (rowL (k :: v :: t :: (u :: r).set j b))) = true := rfl
      generalize eW (rowL (k :: v :: t :: (u :: r).set j b)) = out at *
      simp -implicitDefEqProofs [P_law_spoilt, pRun, I_law_spoilt, runB, S_law_spoilt, lit_sp, hs, n8, n10, e, c, cc, c0, hj, b3, hix, hlf', hjn, hf]
  · exact other (fun _ _ => trivial) (by omega)
  · exact other (fun _ _ => trivial) (by omega)
set_option Elab.async false
set_option linter.all false
set_option maxRecDepth 100000
set_option maxHeartbeats 4000000
open PySem L2 G SX
/-! ### deeds equal themselves -/
theorem name_str {w : List Nat} (h : nameB w = true) : PyData.strOk (S w) = true := by
  unfold nameB at h
  rw [Bool.and_eq_true, Bool.and_eq_true, List.all_eq_true] at h
  unfold PyData.strOk
  rw [← Array.all_toList, List.all_eq_true]
  intro c hc
  have := of_decide_eq_true (h.2 c hc)
  simp only [ABC, List.mem_cons, List.not_mem_nil, or_false] at this
  apply decide_eq_true
  omega
theorem eqOk_W {w : List Nat} (h : PyData.strOk (S w) = true) (n : Nat) : eqOk n (eW w) = true := by cases n <;> exact h
theorem eqOk_i (n : Nat) (i : Int) : eqOk n (.int i) = true := by cases n <;> rfl
theorem Dd.ok.eq {d : Dd} (h : d.ok) (n : Nat) : eqOk (n + 1) d.enc = true := by
  have hv : PyData.strOk (S d.v) = true := by
    rcases h.2 with ⟨e, _⟩ | ⟨_, _, _, _, e, _⟩
    · rw [e]; decide +kernel
    · rcases e with ⟨e, _⟩ | ⟨e, _⟩ | ⟨e, _⟩ <;> rw [e] <;> decide +kernel
  have ht : (d.tl.map Wd.d).all (eqOk n) = true := by
    rcases h.2 with ⟨_, e⟩ | ⟨nm, ns, e, h1, _, _⟩
    · rw [e]; rfl
    · rw [e, List.map_cons, List.all_cons, Bool.and_eq_true]
      refine ⟨eqOk_W (name_str h1) n, ?_⟩
      rw [List.all_map, List.all_map, List.all_eq_true]
      exact fun i _ => eqOk_i n i
  show (eqOk n (eW d.v) && (eqOk n (.int d.k) && (d.tl.map Wd.d).all (eqOk n))) = true
  rw [eqOk_W hv, eqOk_i, ht]
  rfl
theorem eqOk_ds (ds : List Dd) (h : ∀ d ∈ ds, d.ok) : eqOk 60 (.lst (ds.map Dd.enc)) = true := by
  show (ds.map Dd.enc).all (eqOk 59) = true
  rw [List.all_map, List.all_eq_true]
  exact fun d hd => (h d hd).eq 58
theorem gNe_W (M : Mem) (a : List Nat) : gNe M (eW a) (eW a) = some (.bl false) := by
  show some (D.bl (!decide (S a = S a))) = _
  rw [decide_eq_true rfl]
  rfl
theorem pdFs_ne {a : D} {l : List D} {ps : List PyData} (h : pdFs (a :: l) = some ps) : ∃ p qs, ps = p :: qs := by
  unfold pdFs at h
  cases h1 : pdF a with
  | none => rw [h1] at h; cases h
  | some p =>
    rw [h1] at h
    cases h2 : pdFs l with
    | none => rw [h2] at h; cases h
    | some qs =>
      rw [h2] at h
      cases h
      exact ⟨p, qs, rfl⟩
theorem gEq_nil (M : Mem) (ds : List Dd) (h : ∀ d ∈ ds, d.ok) (hne : ds ≠ []) : gEq M (.lst (ds.map Dd.enc)) (.lst []) = some (.bl false) := by
  obtain ⟨p, h1, h2, h3⟩ := eqOk_pd 60 _ (eqOk_ds ds h)
  cases ds with
  | nil => exact absurd rfl hne
  | cons d r =>
    have h1' : (pdFs ((d :: r).map Dd.enc)).map PyData.list = some p := by
      rw [← h1]
      unfold pdF
      rfl
    obtain ⟨ps, e1, e2⟩ := Option.map_eq_some_iff.mp h1'
    rw [List.map_cons] at e1
    obtain ⟨p0, qs, rfl⟩ := pdFs_ne e1
    have hs : SeqAt.shaped p = true := Bool.and_eq_true_iff.mpr ⟨h2, decide_eq_true (by omega)⟩
    have hn : pdF (.lst []) = some (.list []) := by simp [pdF, pdFs]
    have hs2 : SeqAt.shaped (.list []) = true := by decide +kernel
    have he : PyData.eqv p (.list []) = false := by rw [← e2]; simp [PyData.eqv, PyData.eqvAll]
    unfold gEq gEqB
    show (((pd M (.lst ((d :: r).map Dd.enc))).bind fun a => (pd M (.lst [])).bind fun b => if (SeqAt.shaped a && SeqAt.shaped b) = true then some (PyData.eqv a b) else none).map D.bl) = _
    have q1 : pd M (.lst ((d :: r).map Dd.enc)) = some p := h1
    have q2 : pd M (.lst []) = some (.list []) := hn
    rw [q1, q2]
    show ((if (SeqAt.shaped p && SeqAt.shaped (.list [])) = true then some (PyData.eqv p (.list [])) else none).map D.bl) = _
    rw [hs, hs2, he]
    rfl
/-! ### which row is refused -/
theorem runR_in : ∀ (rows : List (List (List Nat))) (k : Nat) (acc : List D), (∀ r ∈ rows, isNon (deedD r) = false) → k + rows.length ≤ 60 → runR k rows acc = .inl (acc ++ rows.map deedD)
  | [], k, acc, _, _ => by simp [runR]
  | r :: rs, k, acc, h, hk => by
    rw [List.length_cons] at hk
    have h1 : ¬ (isNon (deedD r) = true ∨ 60 ≤ k) := fun z => by
      rcases z with z | z
      · rw [h r (by simp)] at z; cases z
      · omega
    show (if isNon (deedD r) = true ∨ 60 ≤ k then _ else runR (k + 1) rs (acc ++ [deedD r])) = _
    rw [if_neg h1, runR_in rs (k + 1) _ (fun z hz => h z (List.mem_cons_of_mem _ hz)) (by omega), List.map_cons, List.append_assoc]
    rfl
theorem runR_at : ∀ (j : Nat) (rows : List (List (List Nat))) (k : Nat) (acc : List D) (b : List (List Nat)), (∀ i, i < j → ∀ r, rows[i]? = some r → isNon (deedD r) = false) → k + j ≤ 60 → rows[j]? = some b → (isNon (deedD b) = true ∨ k + j = 60) →
    runR k rows acc = .inr (k + j + 1)
  | 0, [], _, _, _, _, _, h, _ => by cases h
  | j + 1, [], _, _, _, _, _, h, _ => by cases h
  | 0, r :: rs, k, acc, b, _, hk, hb, h => by
    cases hb
    show (if isNon (deedD r) = true ∨ 60 ≤ k then (Sum.inr (k + 1) : List D ⊕ Nat) else _) = _
    rw [if_pos (h.imp id fun z => by omega)]
  | j + 1, r :: rs, k, acc, b, hg, hk, hb, h => by
    have h1 : ¬ (isNon (deedD r) = true ∨ 60 ≤ k) := fun z => by
      rcases z with z | z
      · rw [hg 0 (by omega) r rfl] at z; cases z
      · omega
    show (if isNon (deedD r) = true ∨ 60 ≤ k then (Sum.inr (k + 1) : List D ⊕ Nat) else runR (k + 1) rs (acc ++ [deedD r])) = _
    rw [if_neg h1, runR_at j rs (k + 1) _ b (fun i hi z hz => hg (i + 1) (by omega) z (by simpa using hz)) (by omega) (by simpa using hb) (h.imp id fun z => by omega)]
    congr 1
    omega
/-! ### a log's own text -/
theorem words_non (d : Dd) (h : d.ok) : isNon (deedD d.words) = false := by rw [h.deed]; rfl
theorem row_ne (d : Dd) : rowL d.words ≠ [] := fun h => by
  have : 32 ∈ rowL d.words := by
    show 32 ∈ TL.numL d.k ++ ([32] ++ TL.joinL [32] (d.v :: d.tl.map Wd.s))
    simp
  rw [h] at this
  cases this
theorem text_ne {rows : List (List (List Nat))} {r : List (List Nat)} (hr : r ∈ rows) (h : rowL r ≠ []) : textOf rows ≠ [] := by
  intro e
  have key : ∀ ps : List (List Nat), (∃ p ∈ ps, p ≠ []) → TL.joinL [10] ps ≠ [] := by
    intro ps
    match ps with
    | [] => rintro ⟨p, hp, _⟩; cases hp
    | [p] => rintro ⟨q, hq, hne⟩; rw [List.mem_singleton.mp hq] at hne; exact hne
    | p :: q :: r =>
      intro _ z
      have z' : p ++ ([10] ++ TL.joinL [10] (q :: r)) = [] := z
      simp at z'
  exact key (rows.map rowL) ⟨rowL r, List.mem_map.mpr ⟨r, hr, rfl⟩, h⟩ e
theorem text_two {rows : List (List (List Nat))} (h : 2 ≤ rows.length) : textOf rows ≠ [] := by
  match rows, h with
  | a :: b :: r, _ =>
    intro z
    have z' : rowL a ++ ([10] ++ TL.joinL [10] ((b :: r).map rowL)) = [] := z
    simp at z'
theorem map_deedD (ds : List Dd) (h : ∀ d ∈ ds, d.ok) : (ds.map Dd.words).map deedD = ds.map Dd.enc := by
  rw [List.map_map]
  exact List.map_congr_left fun d hd => (h d hd).deed
theorem logfrom_ok (ds : List Dd) (hn : ds.length ≤ 60) (h : ∀ d ∈ ds, d.ok) : P_log_from [eW (textOf (ds.map Dd.words))] = some (.fresh (.lst (ds.map Dd.enc))) := by
  have hlf : locFree (.lst (ds.map Dd.enc)) = true := by
    show locFrees _ = true
    refine locFrees_map Dd.enc (fun d => ?_) ds
    show (true && (true && locFrees (d.tl.map Wd.d))) = true
    rw [locFrees_Wd]
    rfl
  cases ds with
  | nil => exact pRun_f log_empty rfl hlf
  | cons d r =>
    have hg := text_rows (d :: r) h
    have ht : textOf ((d :: r).map Dd.words) ≠ [] := text_ne (r := d.words) (by simp) (row_ne d)
    have hr := runR_in ((d :: r).map Dd.words) 0 [] (fun w hw => by
      obtain ⟨d', hd', rfl⟩ := List.mem_map.mp hw
      exact words_non d' (h d' hd')) (by rw [List.length_map]; omega)
    rw [List.nil_append, map_deedD _ h] at hr
    exact pRun_f ((log_ok (by simp) (by rw [List.length_map]; omega) hg ht).1 _ hr) rfl hlf
/-! ### _law_alike -/
theorem loop_same {g : Gx} {kl : List Nat} {b : Sx} {Γ : Sl} {M : Mem} : ∀ xs : List D, (∀ x ∈ xs, turnF g kl b x Γ M = some (.nx Γ M)) → loopF g kl b xs Γ M = some (.nx Γ M)
  | [], _ => rfl
  | x :: xs, h => by
    rw [loopF_cons, h x (by simp)]
    exact loop_same xs fun z hz => h z (List.mem_cons_of_mem _ hz)
theorem zipL_self {α : Type} (f : α → D) : ∀ l : List α, zipL (l.map f) (l.map f) = l.map fun x => .tup [f x, f x]
  | [] => rfl
  | x :: l => by
    rw [List.map_cons, List.map_cons, ← zipL_self f l]
    rfl
theorem part_turn (F U O1 O2 : Option D) (x : Wd) (M : Mem) : turnF (gxTup 2 (gxCons (gxName 4) (gxCons (gxName 5) (gxNil)))) [4, 5] B_law_alike_1 (.tup [x.d, x.d]) [F, U, O1, O2, none, none] M = some (.nx [F, U, O1, O2, none, none] M) := by
  cases x with
  | num n => simp -implicitDefEqProofs [turnF, Wd.d]
  | txt w =>
    have := gNe_W M w
    unfold eW at this
    simp -implicitDefEqProofs [turnF, Wd.d, eW, this]
theorem deed_turn (F U : Option D) (d : Dd) (M : Mem) : turnF (gxTup 2 (gxCons (gxName 2) (gxCons (gxName 3) (gxNil)))) [2, 3, 4, 5] B_law_alike_2 (.tup [d.enc, d.enc]) [F, U, none, none, none, none] M = some (.nx [F, U, none, none, none, none] M) := by
  obtain ⟨v, k, tl⟩ := d
  have hl := loop_same (g := gxTup 2 (gxCons (gxName 4) (gxCons (gxName 5) (gxNil)))) (kl := [4, 5]) (b := B_law_alike_1) (Γ := [F, U, some (Dd.enc ⟨v, k, tl⟩), some (Dd.enc ⟨v, k, tl⟩), none, none]) (M := M) (zipL ((Wd.txt v :: .num k :: tl).map Wd.d) ((Wd.txt v :: .num k :: tl).map Wd.d)) (by
    rw [zipL_self]
    intro x hx
    obtain ⟨y, _, rfl⟩ := List.mem_map.mp hx
    exact part_turn F U _ _ y M)
  have e : Dd.enc ⟨v, k, tl⟩ = .tup ((Wd.txt v :: .num k :: tl).map Wd.d) := rfl
  rw [e] at hl ⊢
  generalize (Wd.txt v :: .num k :: tl).map Wd.d = l at *
  simp -implicitDefEqProofs only [turnF, B_law_alike_2]
  simp -implicitDefEqProofs [-ap_sFor]
  simp -implicitDefEqProofs [hl]
theorem alike_ok (ds : List Dd) : P_law_alike [.lst (ds.map Dd.enc), .lst (ds.map Dd.enc)] = some (.val (.bl true)) := by
  have hl := loop_same (g := gxTup 2 (gxCons (gxName 2) (gxCons (gxName 3) (gxNil)))) (kl := [2, 3, 4, 5]) (b := B_law_alike_2) (Γ := [some (.lst (ds.map Dd.enc)), some (.lst (ds.map Dd.enc)), none, none, none, none]) (M := []) (zipL (ds.map Dd.enc) (ds.map Dd.enc)) (by
    rw [zipL_self]
    intro x hx
    obtain ⟨y, _, rfl⟩ := List.mem_map.mp hx
    exact deed_turn _ _ y [])
  generalize ds.map Dd.enc = l at *
  unfold P_law_alike pRun I_law_alike runB S_law_alike
  simp -implicitDefEqProofs [-ap_sFor]
  simp -implicitDefEqProofs [hl]
set_option Elab.async false
set_option linter.all false
set_option maxRecDepth 100000
set_option maxHeartbeats 4000000
open PySem L2 G SX
theorem lcF_ex {α : Type} {g : Gx} {t : Tx} {f : Ex} {Γ : Sl} {M : Mem} {P : α → Prop} (enc : α → D) : ∀ xs : List D, (∀ x ∈ xs, ∃ a Γ1, P a ∧ g x Γ = some Γ1 ∧ t Γ1 M = some true ∧ f Γ1 M = some (enc a)) →
    ∃ as : List α, as.length = xs.length ∧ (∀ a ∈ as, P a) ∧ lcF g t f Γ M xs = some (as.map enc)
  | [], _ => ⟨[], rfl, fun _ h => (List.not_mem_nil h).elim, rfl⟩
  | x :: xs, h => by
    obtain ⟨a, Γ1, h1, h2, h3, h4⟩ := h x (by simp)
    obtain ⟨as, e1, e2, e3⟩ := lcF_ex (P := P) enc xs fun z hz => h z (List.mem_cons_of_mem _ hz)
    refine ⟨a :: as, by simp [e1], fun b hb => ?_, ?_⟩
    · rcases List.mem_cons.mp hb with rfl | hb
      · exact h1
      · exact e2 b hb
    · show ((g x Γ).bind fun Γ1 => (t Γ1 M).bind fun k => if k = true then (f Γ1 M).bind fun y => (lcF g t f Γ M xs).map (y :: ·) else lcF g t f Γ M xs) = _
      rw [h2, Option.bind_some, h3, Option.bind_some, if_pos rfl, h4, Option.bind_some, e3]
      rfl
/-- the law's slots behind its first rows -/
abbrev lawS (ns : List Int) (L T : D) : Sl := [some (.scr ns), some L, some (.loc 0), some L, some T, none, none, none, none, none, none, none, none]
theorem b1_turn (ns : List Int) (L : List D) (T : D) (M : Mem) (i : Int) (hL : locFrees L = true) (hT : locFree T = true) (hl : L.length < 1000000) (h1 : P_log_from [T] = some (.fresh (.lst L))) (h2 : P_law_alike [.lst L, .lst L] = some (.val (.bl true))) :
    turnF (gxName 5) [5, 8] B_law_1 (.int i) (lawS ns (.lst L) T) M = some (.nx (lawS ns (.lst L) T) (M ++ [some (.lst (L ++ [.tup [.str "bill", .int 0]]))])) := by
  simp -implicitDefEqProofs [turnF, hL, hT, hl, h1, h2]
theorem b1_loop (ns : List Int) (L : List D) (T : D) (c : Option D) (hL : locFrees L = true) (hT : locFree T = true) (hl : L.length < 1000000) (h1 : P_log_from [T] = some (.fresh (.lst L))) (h2 : P_law_alike [.lst L, .lst L] = some (.val (.bl true))) :
    ∃ R, loopF (gxName 5) [5, 8] B_law_1 (rngL 0 2) (lawS ns (.lst L) T) [c] = some (.nx (lawS ns (.lst L) T) (c :: R)) := by
  obtain ⟨Γ', M', e, rfl, R, rfl⟩ := loop_inv (g := gxName 5) (kl := [5, 8]) (b := B_law_1) (fun _ Γ M => Γ = lawS ns (.lst L) T ∧ ∃ R, M = c :: R) (rngL 0 2) 0 (lawS ns (.lst L) T) [c] ⟨rfl, [], rfl⟩ (by
    rintro i d Γ M hi ⟨rfl, R, rfl⟩
    obtain ⟨_, rfl⟩ := rngL_get hi
    exact ⟨_, _, b1_turn ns L T (c :: R) _ hL hT hl h1 h2, rfl, _, rfl⟩)
  exact ⟨R, e⟩
def repL (j : Nat) (a : List D) : List D := (List.replicate j a).flatten
@[simp] theorem gMul_loc (M : Mem) (n : Nat) (j : Int) : gMul M (.loc n) (.int j) = (vL M (.loc n)).bind fun a => if -1000000 < j ∧ j < 1000000 ∧ a.length * j.toNat ≤ 1000000 then some (.lst (repL j.toNat a)) else none := rfl
theorem isI_eW (M : Mem) (a : List Nat) : gIsI M [eW a, .ty "str"] = some (.bl true) := by
  unfold eW
  simp
theorem refuse_x : P_law_refusal [.str "x"] = some (.val (.int 1)) := by
  have g : GoodR [[120]] := ⟨by simp, by simp, fun w h => by rw [List.mem_singleton.mp h]; decide⟩
  have h := refusal_ok (rows := [[[120]]]) (by simp) (by simp) (fun r hr => by rw [List.mem_singleton.mp hr]; exact g) (by decide)
  have e : eW (textOf [[[120]]]) = .str "x" := by
    show D.str (S [120]) = _
    rw [show Str.ofString "x" = S [120] by decide +kernel]
  rw [e] at h
  exact h
theorem cell_ok (ns : List Int) : ∃ c : Int, P_law_cell_at [.scr ns, .int 0] = some (.val (.int c)) := by
  cases ns with
  | nil => exact ⟨0, by simp -implicitDefEqProofs [P_law_cell_at, pRun, I_law_cell_at, runB, S_law_cell_at]⟩
  | cons a r =>
    have h : (0 : Int) < (r.length : Int) + 1 := by omega
    exact ⟨a, by simp -implicitDefEqProofs [P_law_cell_at, pRun, I_law_cell_at, runB, S_law_cell_at, h, atI_0]⟩
def rowD (d : Dd) : D := eW (rowL d.words)
theorem rows_map (ds : List Dd) : ds.map rowD = (ds.map Dd.words).map fun r => eW (rowL r) := by rw [List.map_map]; rfl
theorem refuse_at {rows : List (List (List Nat))} {j : Nat} {b : List (List Nat)} (hn : rows.length ≤ 100) (hg : ∀ r ∈ rows, GoodR r) (ht : textOf rows ≠ []) (hp : ∀ i, i < j → ∀ r, rows[i]? = some r → isNon (deedD r) = false) (hj : j ≤ 60) (hb : rows[j]? = some b) (h : isNon (deedD b) = true ∨ j = 60) :
    P_law_refusal [eW (textOf rows)] = some (.val (.int (j + 1 : Nat))) := by
  have hr : rows ≠ [] := fun e => by rw [e] at hb; simp at hb
  rw [refusal_ok hr hn hg ht, runR_at j rows 0 [] b hp (by omega) hb (by rw [Nat.zero_add]; exact h), Nat.zero_add]
  rfl
section
variable (ns : List Int)
theorem law_body (ds : List Dd) (hok : ∀ d ∈ ds, d.ok) (hlen : ds.length ≤ 60) (hcl : ds.length = (cutD ns (some 1) (some 61)).length)
    (lc1 : lcF (gxTup 2 (gxCons (gxName 11) (gxCons (gxName 10) (gxNil)))) tYes_ (xCallP P_law_deed (xAcons (xVar 10) (xAcons (xVar 11) (xAnil)))) [some (.scr ns), none, none, none, none, none, none, none, none, none, none, none, none] [] (enumL 0 ((cutD ns (some 1) (some 61)).map .int)) = some (ds.map Dd.enc)) :
    ∃ M, I_law [.scr ns] [] = some (.ret (.bl true) M) := by
  have lc2 : lcF (gxName 12) tYes_ (xCallP P_law_row (xAcons (xVar 12) (xAnil))) [some (.scr ns), some (.lst (ds.map Dd.enc)), none, none, none, none, none, none, none, none, none, none, none] [] (ds.map Dd.enc) = some (ds.map rowD) :=
    lcF_map Dd.enc rowD ds fun d hd => ⟨_, rfl, rfl, by
      have := row_ok d (hok d hd)
      have hf : locFree d.enc = true := by
        show (true && (true && locFrees (d.tl.map Wd.d))) = true
        rw [locFrees_Wd]
        rfl
      simp -implicitDefEqProofs [this, hf]
      rfl⟩
  have hlf : locFrees (ds.map Dd.enc) = true := locFrees_map Dd.enc (fun d => by
    show (true && (true && locFrees (d.tl.map Wd.d))) = true
    rw [locFrees_Wd]
    rfl) ds
  have hlr : locFrees (ds.map rowD) = true := locFrees_map rowD (fun d => rfl) ds
  have htx := logtext_ok ds (by omega) hok
  have hfrom := logfrom_ok ds hlen hok
  have hal := alike_ok ds
  have hTT := fun M => gNe_W M (textOf (ds.map Dd.words))
  have hTI := fun M => isI_eW M (textOf (ds.map Dd.words))
  have hLL := fun M => gNe_self (M := M) _ (eqOk_ds ds hok)
  have hj1 : gJoin [some (.lst (ds.map rowD))] (.str (S [10])) (.loc 0) = some (eW (textOf (ds.map Dd.words))) := join_text _ _ (ds.map Dd.words) (by rw [← rows_map]; rfl) (by rw [List.length_map]; omega) (text_rows ds hok)
  have hTf : locFree (eW (textOf (ds.map Dd.words))) = true := rfl
  have hL1 : (cutD ns (some 1) (some 61)).length ≤ 1000000 := by omega
  have hL2 : ds.length ≤ 1000000 := by omega
  obtain ⟨R, hloop⟩ := b1_loop ns (ds.map Dd.enc) (eW (textOf (ds.map Dd.words))) (some (.lst (ds.map rowD))) hlf hTf (by rw [List.length_map]; omega) hfrom hal
  obtain ⟨c, hcell⟩ := cell_ok ns
  have hmix := mixed_ok c 81 (by omega)
  have hm0 := mixF_lo c 81
  generalize mixF c 81 = num at *
  have hrd : ∀ d, locFree (rowD d) = true := fun d => rfl
  have n8 : numOk 8 = true := rfl
  have n500 : numOk 500 = true := rfl
  have n3 : numOk 300000 = true := rfl
  have hrowslen : (ds.map rowD).length = ds.length := List.length_map _
  have henclen : (ds.map Dd.enc).length = ds.length := List.length_map _
  have helen : (enumL 0 ((cutD ns (some 1) (some 61)).map D.int)).length ≤ 1000000 := by rw [enumL_len, List.length_map]; omega
  by_cases hne : ds = []
  · subst hne
    have hEq := fun M => gEq_self (M := M) (.lst []) rfl
    generalize eW (textOf (([] : List Dd).map Dd.words)) = T at *
    simp only [List.map_nil] at *
    refine ⟨some (.lst []) :: R, ?_⟩
    simp -implicitDefEqProofs [I_law, runB, S_law, helen, lc1, lc2, htx, hTI, hTT, hLL, lit_nl, hj1, hTf, hloop, hcell, hmix, hEq, refuse_x]
  · have hEq := fun M => gEq_nil M ds hok hne
    have hpos : 1 ≤ ds.length := by
      cases ds with
      | nil => exact absurd rfl hne
      | cons d r => simp
    by_cases h8 : num % 8 = 0
    · -- sixty rows, and one more
      obtain ⟨d0, hd0⟩ : ∃ d0, ds[0]? = some d0 := ⟨ds[0], by simp [hpos]⟩
      have hd0m : d0 ∈ ds := List.mem_of_getElem? hd0
      obtain ⟨dm, hdm⟩ : ∃ dm, dm = ((List.replicate 60 ds).flatten).take 60 := ⟨_, rfl⟩
      have hdl : dm.length = 60 := by
        rw [hdm, List.length_take, List.length_flatten, List.map_replicate, List.sum_replicate_nat]
        omega
      have hdok : ∀ d ∈ dm, d.ok := fun d hd => by
        rw [hdm] at hd
        obtain ⟨l, hl, hd'⟩ := List.mem_flatten.mp (List.mem_of_mem_take hd)
        rw [List.eq_of_mem_replicate hl] at hd'
        exact hok d hd'
      have hmany : cutD (repL 60 (ds.map rowD)) none (some 60) = dm.map rowD := by
        unfold repL
        rw [cutD_up' _ _ (by decide), hdm, List.map_take, List.map_flatten, List.map_replicate]
        rfl
      have hit : atI (ds.map rowD) 0 = some (rowD d0) := by
        rw [atI_map]
        cases ds with
        | nil => cases hd0
        | cons a r => cases hd0; rw [atI_0]; rfl
      have e1 : dm.map rowD ++ [rowD d0] = (dm ++ [d0]).map rowD := by rw [List.map_append]; rfl
      have hok1 : ∀ d ∈ dm ++ [d0], d.ok := fun d hd => by
        rcases List.mem_append.mp hd with hd | hd
        · exact hdok d hd
        · rw [List.mem_singleton.mp hd]; exact hok d0 hd0m
      have hj2 : ∀ M, gJoin M (.str (S [10])) (.lst (dm.map rowD)) = some (eW (textOf (dm.map Dd.words))) := fun M => join_text _ _ (dm.map Dd.words) (by rw [← rows_map]; rfl) (by rw [List.length_map]; omega) (text_rows dm hdok)
      have hj3 : ∀ M, gJoin M (.str (S [10])) (.lst (dm.map rowD ++ [rowD d0])) = some (eW (textOf ((dm ++ [d0]).map Dd.words))) := fun M => join_text _ _ ((dm ++ [d0]).map Dd.words) (by rw [← rows_map, e1]; rfl) (by rw [List.length_map, List.length_append, hdl]; simp) (text_rows _ hok1)
      have ht2 : textOf (dm.map Dd.words) ≠ [] := text_two (by rw [List.length_map]; omega)
      have ht3 : textOf ((dm ++ [d0]).map Dd.words) ≠ [] := text_two (by rw [List.length_map, List.length_append, hdl]; simp)
      have hgood : ∀ d ∈ dm, isNon (deedD d.words) = false := fun d hd => words_non d (hdok d hd)
      have r2 : P_law_refusal [eW (textOf (dm.map Dd.words))] = some (.val (.int 0)) := by
        have hne2 : dm.map Dd.words ≠ [] := fun e => by
          have := congrArg List.length e
          rw [List.length_map, hdl] at this
          cases this
        rw [refusal_ok hne2 (by rw [List.length_map]; omega) (text_rows dm hdok) ht2, runR_in _ 0 [] (fun w hw => by
          obtain ⟨d, hd, rfl⟩ := List.mem_map.mp hw
          exact hgood d hd) (by rw [List.length_map]; omega)]
        rfl
      have r3 : P_law_refusal [eW (textOf ((dm ++ [d0]).map Dd.words))] = some (.val (.int 61)) :=
        refuse_at (j := 60) (b := d0.words) (by rw [List.length_map, List.length_append, hdl]; simp) (text_rows _ hok1) ht3 (fun i hi r hr => by
          rw [List.getElem?_map] at hr
          obtain ⟨d, hd, rfl⟩ := Option.map_eq_some_iff.mp hr
          exact words_non d (hok1 d (List.mem_of_getElem? hd))) (Nat.le_refl _) (by rw [List.getElem?_map, List.getElem?_append_right (by omega), hdl]; rfl) (.inr rfl)
      have f2 : locFree (eW (textOf (dm.map Dd.words))) = true := rfl
      have f3 : locFree (eW (textOf ((dm ++ [d0]).map Dd.words))) = true := rfl
      have hbig : ds.length * 60 ≤ 1000000 := by omega
      have hml : (dm.map rowD).length = 60 := by rw [List.length_map]; exact hdl
      refine ⟨some (.lst (ds.map rowD)) :: R, ?_⟩
      generalize eW (textOf (ds.map Dd.words)) = T at *
      generalize eW (textOf (dm.map Dd.words)) = T2 at *
      generalize eW (textOf ((dm ++ [d0]).map Dd.words)) = T3 at *
      generalize ds.map Dd.enc = L at *
      generalize ds.map rowD = Rw at *
      generalize dm.map rowD = Rm at *
      generalize rowD d0 = r0 at *
      simp -implicitDefEqProofs [I_law, runB, S_law, helen, henclen, hrowslen, lc1, lc2, htx, hlf, hTI, hTT, hLL, hL2, lit_nl, hj1, hTf, hloop, hcell, hmix, hEq, n8, h8, hbig, hmany, hj2, hj3, f2, f3, r2, r3, hit, hml]
    · -- one row spoilt
      obtain ⟨a, ha⟩ : ∃ a : Nat, num / 8 % (ds.length : Int) = (a : Int) := ⟨(num / 8 % (ds.length : Int)).toNat, (Int.toNat_of_nonneg (Int.emod_nonneg _ (by omega))).symm⟩
      have hal : a < ds.length := by
        have := Int.emod_lt_of_pos (num / 8) (show (0 : Int) < ds.length by omega)
        omega
      obtain ⟨da, hda⟩ : ∃ da, ds[a]? = some da := ⟨ds[a], by simp [hal]⟩
      have hdam : da ∈ ds := List.mem_of_getElem? hda
      have hoa := hok da hdam
      have hta := hoa.tls
      have hvs : Vs da.v (da.tl.map Wd.s).length := by
        rw [List.length_map]
        rcases hoa.2 with ⟨e1, e2⟩ | ⟨nm, ms, e1, _, e2, _⟩
        · exact .inl ⟨e1, by rw [e2]; rfl⟩
        · refine .inr ⟨by rcases e2 with ⟨e, _⟩ | ⟨e, _⟩ | ⟨e, _⟩ <;> simp [e], ?_⟩
          rw [e1, List.length_cons, List.length_map]
          rcases e2 with ⟨e, h⟩ | ⟨e, h⟩ | ⟨e, h⟩ <;> rw [e, h]
          · rw [manyF_t]
          · rw [manyF_c]
          · rw [manyF_w]
      obtain ⟨ws', g1, g2, g3⟩ := spoilt_ok (TL.numL da.k) da.v (da.tl.map Wd.s) (num / 500) hoa.good (by rw [List.length_map]; exact hta.1) hvs
      have g3' : P_law_spoilt [rowD da, .int (num / 500)] = some (.val (eW (rowL ws'))) := g3
      obtain ⟨W1, hW1⟩ : ∃ W1, W1 = (ds.map Dd.words).set a ws' := ⟨_, rfl⟩
      have l1 : W1.length = ds.length := by rw [hW1, List.length_set, List.length_map]
      have gW1 : ∀ r ∈ W1, GoodR r := fun r hr => by
        rw [hW1] at hr
        rcases List.mem_or_eq_of_mem_set hr with h | h
        · exact text_rows ds hok r h
        · rw [h]; exact g1
      have hset : (ds.map rowD).set a (eW (rowL ws')) = W1.map fun r => eW (rowL r) := by rw [hW1, List.map_set, rows_map]
      have hix : ixN ds.length (a : Int) = some a := by rw [ixN_in (by omega) (by omega), Int.toNat_natCast]
      have hit : atI (ds.map rowD) (a : Int) = some (rowD da) := by
        rw [atI_map]
        unfold atI
        rw [hix, Option.bind_some, hda]
        rfl
      have before : ∀ i, i < a → ∀ r, W1[i]? = some r → isNon (deedD r) = false := fun i hi r hr => by
        rw [hW1, List.getElem?_set_ne (by omega), List.getElem?_map] at hr
        obtain ⟨d, hd, rfl⟩ := Option.map_eq_some_iff.mp hr
        exact words_non d (hok d (List.mem_of_getElem? hd))
      have at1 : W1[a]? = some ws' := by rw [hW1, List.getElem?_set_self (by rw [List.length_map]; exact hal)]
      have c0 : 0 < ds.length := hpos
      obtain ⟨w0, r0, hw0⟩ : ∃ w0 r0, W1 = w0 :: r0 := by
        cases e : W1 with
        | nil => rw [e] at l1; simp at l1; omega
        | cons w r => exact ⟨w, r, rfl⟩
      have hV0 : atI (W1.map fun r => eW (rowL r)) 0 = some (eW (rowL w0)) := by rw [hw0, List.map_cons, atI_0]
      have hV0e : ∀ M, gEq M (eW (rowL w0)) (.str (S [])) = some (.bl (decide (rowL w0 = []))) := fun M => by
        show some (D.bl (decide (S (rowL w0) = S []))) = _
        simp only [S_eq]
      have hVl : (W1.map fun r => eW (rowL r)).length = ds.length := by rw [List.length_map]; exact l1
      have fin : ∀ W2 : List (List (List Nat)), W2.length = ds.length → (∀ r ∈ W2, GoodR r) → (∀ i, i < a → ∀ r, W2[i]? = some r → isNon (deedD r) = false) → W2[a]? = some ws' → textOf W2 ≠ [] →
          (∀ M, gJoin M (.str (S [10])) (.lst (W2.map fun r => eW (rowL r))) = some (eW (textOf W2))) ∧ P_law_refusal [eW (textOf W2)] = some (.val (.int ((a : Int) + 1))) := fun W2 q1 q2 q3 q4 q5 =>
        ⟨fun M => join_text _ _ W2 rfl (by omega) q2, refuse_at (by omega) q2 q5 q3 (by omega) q4 (.inl g2)⟩
      have hlW : ∀ W2 : List (List (List Nat)), locFrees (W2.map fun r => eW (rowL r)) = true := fun W2 => locFrees_map _ (fun _ => rfl) W2
      by_cases hone : ds.length = 1 ∧ rowL w0 = []
      · -- the empty text
        obtain ⟨q1, q2⟩ := hone
        have hemp : P_log_from [.str (S [])] = some (.fresh (.lst [])) := pRun_f log_empty rfl rfl
        have hE2 := fun M => gEq_self (M := M) (.lst []) rfl
        refine ⟨some (.lst (W1.map fun r => eW (rowL r))) :: R, ?_⟩
        generalize eW (textOf (ds.map Dd.words)) = T at *
        generalize (W1.map fun r => eW (rowL r)) = V1 at *
        generalize ds.map Dd.enc = L at *
        generalize ds.map rowD = Rw at *
        have q1' : ((ds.length : Nat) : Int) = 1 := by omega
        have a0 : a = 0 := by omega
        subst a0
        have hit0 : atI Rw 0 = some (rowD da) := hit
        have hix0 : ixN ds.length 0 = some 0 := hix
        have hE0 : ∀ M, gEq M (eW []) (.str (S [])) = some (.bl true) := fun M => by
          have := hV0e M
          rw [q2] at this
          rw [this, decide_eq_true rfl]
        simp -implicitDefEqProofs [I_law, runB, S_law, helen, henclen, hrowslen, lc1, lc2, htx, hlf, hTI, hTT, hLL, hL2, lit_nl, hj1, hTf, hloop, hcell, hmix, hEq, n8, n500, h8, hit0, hrd, g3', hix0, hset, hVl, hV0, lit_e, hE0, q1', q2, hemp, hE2]
      · have hT1 : textOf W1 ≠ [] := by
          by_cases q : ds.length = 1
          · exact text_ne (r := w0) (by rw [hw0]; simp) fun e => hone ⟨q, e⟩
          · exact text_two (by omega)
        have hcond : ∀ (k1 k2 : Bool), k1 = decide ((ds.length : Int) = 1) → k2 = decide (rowL w0 = []) → (k1 && k2) = false := fun k1 k2 e1 e2 => by
          rw [e1, e2]
          by_cases q : ds.length = 1
          · rw [decide_eq_false (p := rowL w0 = []) fun e => hone ⟨q, e⟩, Bool.and_false]
          · rw [decide_eq_false (p := (ds.length : Int) = 1) (by omega), Bool.false_and]
        by_cases hlast : (a : Int) + 1 < ds.length ∧ num / 300000 % 2 = 1
        · -- the last row is emptied, too
          obtain ⟨W2, hW2⟩ : ∃ W2, W2 = W1.set (ds.length - 1) [[]] := ⟨_, rfl⟩
          have gE : GoodR [[]] := ⟨List.cons_ne_nil _ _, by decide, fun w h => by rw [List.mem_singleton.mp h]; decide⟩
          have l2 : W2.length = ds.length := by rw [hW2, List.length_set]; exact l1
          obtain ⟨f1, f2⟩ := fin W2 l2 (fun r hr => by
            rw [hW2] at hr
            rcases List.mem_or_eq_of_mem_set hr with h | h
            · exact gW1 r h
            · rw [h]; exact gE) (fun i hi r hr => by
            rw [hW2, List.getElem?_set_ne (by omega)] at hr
            exact before i hi r hr) (by rw [hW2, List.getElem?_set_ne (by omega)]; exact at1) (text_two (by omega))
          have hset2 : (W1.map fun r => eW (rowL r)).set (ds.length - 1) (.str (S [])) = W2.map fun r => eW (rowL r) := by
            rw [hW2, List.map_set]
            rfl
          have hix2 : ixN ds.length ((ds.length : Int) - 1) = some (ds.length - 1) := by
            rw [ixN_in (by omega) (by omega)]
            congr 1
            omega
          have hl2 := hlW W2
          have hf2 : locFree (eW (textOf W2)) = true := rfl
          have n1 : ¬ ((ds.length : Int) = 1) := by omega
          refine ⟨none :: R, ?_⟩
          generalize eW (textOf (ds.map Dd.words)) = T at *
          generalize eW (textOf W2) = T2 at *
          generalize (W1.map fun r => eW (rowL r)) = V1 at *
          generalize (W2.map fun r => eW (rowL r)) = V2 at *
          generalize ds.map Dd.enc = L at *
          generalize ds.map rowD = Rw at *
          simp -implicitDefEqProofs [I_law, runB, S_law, helen, henclen, hrowslen, lc1, lc2, htx, hlf, hTI, hTT, hLL, hL2, lit_nl, hj1, hTf, hloop, hcell, hmix, hEq, n8, n500, n3, h8, c0, ha, hit, hrd, g3', hix, hset, hVl, hV0, lit_e, hV0e, n1, hlast.1, hlast.2, hset2, hix2, hl2, hf2, f1, f2]
        · obtain ⟨f1, f2⟩ := fin W1 l1 gW1 before at1 hT1
          have hl2 := hlW W1
          have hf2 : locFree (eW (textOf W1)) = true := rfl
          refine ⟨none :: R, ?_⟩
          generalize eW (textOf (ds.map Dd.words)) = T at *
          generalize eW (textOf W1) = T2 at *
          generalize (W1.map fun r => eW (rowL r)) = V1 at *
          generalize ds.map Dd.enc = L at *
          generalize ds.map rowD = Rw at *
          by_cases p1 : (ds.length : Int) = 1
          · have p2 : ¬ rowL w0 = [] := fun e => hone ⟨by omega, e⟩
            have a0 : a = 0 := by omega
            subst a0
            have hit0 : atI Rw 0 = some (rowD da) := hit
            have hix0 : ixN ds.length 0 = some 0 := hix
            have f2' : P_law_refusal [T2] = some (.val (.int 1)) := f2
            simp -implicitDefEqProofs [I_law, runB, S_law, helen, henclen, hrowslen, lc1, lc2, htx, hlf, hTI, hTT, hLL, hL2, lit_nl, hj1, hTf, hloop, hcell, hmix, hEq, n8, n500, n3, h8, hit0, hrd, g3', hix0, hset, hVl, hV0, lit_e, hV0e, p1, p2, hl2, hf2, f1, f2']
          · by_cases q1 : (a : Int) + 1 < ds.length
            · have q2 : ¬ num / 300000 % 2 = 1 := fun e => hlast ⟨q1, e⟩
              simp -implicitDefEqProofs [I_law, runB, S_law, helen, henclen, hrowslen, lc1, lc2, htx, hlf, hTI, hTT, hLL, hL2, lit_nl, hj1, hTf, hloop, hcell, hmix, hEq, n8, n500, n3, h8, c0, ha, hit, hrd, g3', hix, hset, hVl, hV0, lit_e, hV0e, p1, q1, q2, hl2, hf2, f1, f2]
            · simp -implicitDefEqProofs [I_law, runB, S_law, helen, henclen, hrowslen, lc1, lc2, htx, hlf, hTI, hTT, hLL, hL2, lit_nl, hj1, hTf, hloop, hcell, hmix, hEq, n8, n500, n3, h8, c0, ha, hit, hrd, g3', hix, hset, hVl, hV0, lit_e, hV0e, p1, q1, hl2, hf2, f1, f2]
end
theorem law_true : ∀ ns : List Int, ns.length ≤ 63 → ∃ M, I_law [.scr ns] [] = some (.ret (.bl true) M) := by
  intro ns hns
  have hc : (cutD ns (some 1) (some 61)).length ≤ 60 := by
    rw [cutD_mid' ns 1 61 (by decide) (by decide), List.length_take]
    have : (61 : Int).toNat - (1 : Int).toNat = 60 := by decide
    omega
  obtain ⟨ds, h1, h2, h3⟩ := lcF_ex (g := gxTup 2 (gxCons (gxName 11) (gxCons (gxName 10) (gxNil)))) (t := tYes_) (f := xCallP P_law_deed (xAcons (xVar 10) (xAcons (xVar 11) (xAnil)))) (Γ := [some (.scr ns), none, none, none, none, none, none, none, none, none, none, none, none]) (M := []) (P := Dd.ok) Dd.enc (enumL 0 ((cutD ns (some 1) (some 61)).map .int)) (by
    intro x hx
    obtain ⟨i, hi⟩ := List.getElem?_of_mem hx
    have hil := (List.getElem?_eq_some_iff.mp hi).1
    rw [enumL_len, List.length_map] at hil
    rw [enumL_get, List.getElem?_map, Nat.zero_add] at hi
    obtain ⟨y, hy, rfl⟩ := Option.map_eq_some_iff.mp hi
    obtain ⟨c, _, rfl⟩ := Option.map_eq_some_iff.mp hy
    obtain ⟨d, d1, d2⟩ := ldeed_ok c (i : Nat) (by omega)
    refine ⟨d, [some (.scr ns), none, none, none, none, none, none, none, none, none, some (.int c), some (.int i), none], d1, rfl, rfl, ?_⟩
    simp -implicitDefEqProofs [d2])
  rw [enumL_len, List.length_map] at h1
  exact law_body ns ds h2 (by omega) h1 h3
set_option Elab.async false
set_option linter.all false
set_option maxRecDepth 100000
set_option maxHeartbeats 0
namespace W
open PySem PySem.Spec PyProof.Rows L2 G
def top (i : Nat) : Stmt := PySem.Challenge.pw_meterbook_k20_log_texts.main.body.getD i (.Pass ⟨0, 0, 0, 0⟩)
abbrev s_is_name : Stmt := top 13
abbrev N_is_name : List Str := ["word", "sign"]
theorem sc_is_name : FnScope N_is_name ["word"] (defScope s_is_name) := ⟨rfl, rfl, rfl, by decide +kernel, rfl, by decide +kernel, by decide +kernel⟩
def d_is_name : He.DefD := ⟨("is_name", none), "is_name", "is_name", defArgs s_is_name, defBody s_is_name, defScope s_is_name, [], []⟩
abbrev s_number_of : Stmt := top 14
abbrev N_number_of : List Str := ["word", "sign"]
theorem sc_number_of : FnScope N_number_of ["word"] (defScope s_number_of) := ⟨rfl, rfl, rfl, by decide +kernel, rfl, by decide +kernel, by decide +kernel⟩
def d_number_of : He.DefD := ⟨("number_of", none), "number_of", "number_of", defArgs s_number_of, defBody s_number_of, defScope s_number_of, [], []⟩
abbrev s_deed_from : Stmt := top 15
abbrev N_deed_from : List Str := ["words", "many", "numbers", "word"]
theorem sc_deed_from : FnScope N_deed_from ["words"] (defScope s_deed_from) := ⟨rfl, rfl, rfl, by decide +kernel, rfl, by decide +kernel, by decide +kernel⟩
def d_deed_from : He.DefD := ⟨("deed_from", none), "deed_from", "deed_from", defArgs s_deed_from, defBody s_deed_from, defScope s_deed_from, [], []⟩
abbrev s_log_from : Stmt := top 16
abbrev N_log_from : List Str := ["text", "found", "k", "row", "deed"]
theorem sc_log_from : FnScope N_log_from ["text"] (defScope s_log_from) := ⟨rfl, rfl, rfl, by decide +kernel, rfl, by decide +kernel, by decide +kernel⟩
def d_log_from : He.DefD := ⟨("log_from", none), "log_from", "log_from", defArgs s_log_from, defBody s_log_from, defScope s_log_from, [], []⟩
abbrev s_log_text : Stmt := top 17
abbrev N_log_text : List Str := ["log", "rows", "deed", "row", "word"]
theorem sc_log_text : FnScope N_log_text ["log"] (defScope s_log_text) := ⟨rfl, rfl, rfl, by decide +kernel, rfl, by decide +kernel, by decide +kernel⟩
def d_log_text : He.DefD := ⟨("log_text", none), "log_text", "log_text", defArgs s_log_text, defBody s_log_text, defScope s_log_text, [], []⟩
abbrev s_law_cell_at : Stmt := top 19
abbrev N_law_cell_at : List Str := ["_law_script", "_law_k"]
theorem sc_law_cell_at : FnScope N_law_cell_at ["_law_script", "_law_k"] (defScope s_law_cell_at) := ⟨rfl, rfl, rfl, by decide +kernel, rfl, by decide +kernel, by decide +kernel⟩
def d_law_cell_at : He.DefD := ⟨("_law_cell_at", none), "_law_cell_at", "_law_cell_at", defArgs s_law_cell_at, defBody s_law_cell_at, defScope s_law_cell_at, [], []⟩
abbrev s_law_mixed : Stmt := top 20
abbrev N_law_mixed : List Str := ["_law_number", "_law_k", "_law_once"]
theorem sc_law_mixed : FnScope N_law_mixed ["_law_number", "_law_k"] (defScope s_law_mixed) := ⟨rfl, rfl, rfl, by decide +kernel, rfl, by decide +kernel, by decide +kernel⟩
def d_law_mixed : He.DefD := ⟨("_law_mixed", none), "_law_mixed", "_law_mixed", defArgs s_law_mixed, defBody s_law_mixed, defScope s_law_mixed, [], []⟩
abbrev s_law_draws : Stmt := top 21
abbrev N_law_draws : List Str := ["_law_cell", "_law_many", "_law_size", "_law_found", "_law_left", "_law_k"]
theorem sc_law_draws : FnScope N_law_draws ["_law_cell", "_law_many", "_law_size"] (defScope s_law_draws) := ⟨rfl, rfl, rfl, by decide +kernel, rfl, by decide +kernel, by decide +kernel⟩
def d_law_draws : He.DefD := ⟨("_law_draws", none), "_law_draws", "_law_draws", defArgs s_law_draws, defBody s_law_draws, defScope s_law_draws, [], []⟩
abbrev s_law_name : Stmt := top 22
abbrev N_law_name : List Str := ["_law_number", "_law_letters", "_law_k"]
theorem sc_law_name : FnScope N_law_name ["_law_number"] (defScope s_law_name) := ⟨rfl, rfl, rfl, by decide +kernel, rfl, by decide +kernel, by decide +kernel⟩
def d_law_name : He.DefD := ⟨("_law_name", none), "_law_name", "_law_name", defArgs s_law_name, defBody s_law_name, defScope s_law_name, [], []⟩
abbrev s_law_deed : Stmt := top 23
abbrev N_law_deed : List Str := ["_law_cell", "_law_k", "_law_draws_here", "_law_number", "_law_numbers", "_law_verb", "_law_many", "_law_one"]
theorem sc_law_deed : FnScope N_law_deed ["_law_cell", "_law_k"] (defScope s_law_deed) := ⟨rfl, rfl, rfl, by decide +kernel, rfl, by decide +kernel, by decide +kernel⟩
def d_law_deed : He.DefD := ⟨("_law_deed", none), "_law_deed", "_law_deed", defArgs s_law_deed, defBody s_law_deed, defScope s_law_deed, [], []⟩
abbrev s_law_row : Stmt := top 24
abbrev N_law_row : List Str := ["_law_deed_here", "_law_one"]
theorem sc_law_row : FnScope N_law_row ["_law_deed_here"] (defScope s_law_row) := ⟨rfl, rfl, rfl, by decide +kernel, rfl, by decide +kernel, by decide +kernel⟩
def d_law_row : He.DefD := ⟨("_law_row", none), "_law_row", "_law_row", defArgs s_law_row, defBody s_law_row, defScope s_law_row, [], []⟩
abbrev s_law_bad_number : Stmt := top 26
abbrev N_law_bad_number : List Str := ["_law_number"]
theorem sc_law_bad_number : FnScope N_law_bad_number ["_law_number"] (defScope s_law_bad_number) := ⟨rfl, rfl, rfl, by decide +kernel, rfl, by decide +kernel, by decide +kernel⟩
def d_law_bad_number : He.DefD := ⟨("_law_bad_number", none), "_law_bad_number", "_law_bad_number", defArgs s_law_bad_number, defBody s_law_bad_number, defScope s_law_bad_number, [], []⟩
abbrev s_law_spoilt : Stmt := top 25
abbrev N_law_spoilt : List Str := ["_law_row_here", "_law_number", "_law_words", "_law_turn", "_law_more"]
theorem sc_law_spoilt : FnScope N_law_spoilt ["_law_row_here", "_law_number"] (defScope s_law_spoilt) := ⟨rfl, rfl, rfl, by decide +kernel, rfl, by decide +kernel, by decide +kernel⟩
def d_law_spoilt : He.DefD := ⟨("_law_spoilt", none), "_law_spoilt", "_law_spoilt", defArgs s_law_spoilt, defBody s_law_spoilt, defScope s_law_spoilt, [], []⟩
abbrev s_law_refusal : Stmt := top 27
abbrev N_law_refusal : List Str := ["_law_text", "_law_caught", "e"]
theorem sc_law_refusal : FnScope N_law_refusal ["_law_text"] (defScope s_law_refusal) := ⟨rfl, rfl, rfl, by decide +kernel, rfl, by decide +kernel, by decide +kernel⟩
def d_law_refusal : He.DefD := ⟨("_law_refusal", none), "_law_refusal", "_law_refusal", defArgs s_law_refusal, defBody s_law_refusal, defScope s_law_refusal, [], []⟩
abbrev s_law_alike : Stmt := top 28
abbrev N_law_alike : List Str := ["_law_found", "_law_due", "_law_one", "_law_other", "_law_part", "_law_told"]
theorem sc_law_alike : FnScope N_law_alike ["_law_found", "_law_due"] (defScope s_law_alike) := ⟨rfl, rfl, rfl, by decide +kernel, rfl, by decide +kernel, by decide +kernel⟩
def d_law_alike : He.DefD := ⟨("_law_alike", none), "_law_alike", "_law_alike", defArgs s_law_alike, defBody s_law_alike, defScope s_law_alike, [], []⟩
abbrev s_law : Stmt := top 29
abbrev N_law : List Str := ["_law_script", "_law_log", "_law_rows", "_law_handed", "_law_told", "_law_turn", "_law_number", "_law_at", "_law_found", "_law_many", "_law_cell", "_law_k", "_law_deed_here"]
theorem sc_law : FnScope N_law ["_law_script"] (defScope s_law) := ⟨rfl, rfl, rfl, by decide +kernel, rfl, by decide +kernel, by decide +kernel⟩
def d_law : He.DefD := ⟨("law", none), "law", "law", defArgs s_law, defBody s_law, defScope s_law, [], []⟩
abbrev s_init : Stmt := match top 8 with
  | .ClassDef _ _ _ b _ _ _ _ _ _ _ => b.getD 0 (.Pass ⟨0, 0, 0, 0⟩)
  | st => st
theorem sc_init : FnScope ["self", "row"] ["self", "row"] (defScope s_init) := ⟨rfl, rfl, rfl, by decide +kernel, rfl, by decide +kernel, by decide +kernel⟩
def d_init : He.DefD := ⟨("BadRow", some "__init__"), "__init__", "BadRow.__init__", defArgs s_init, defBody s_init, defScope s_init, [], []⟩
def fns0 : List He.DefD := [d_is_name, d_number_of, d_deed_from, d_log_from, d_log_text, d_law_cell_at, d_law_mixed, d_law_draws, d_law_name, d_law_deed, d_law_row, d_law_bad_number, d_law_spoilt, d_law_refusal, d_law_alike, d_law, d_init]
def fns : List He.DefD := fns0
def fas0 : List He.Fa := [.free "len", .str "LETTERS" "abcdefghijklmnopqrstuvwxyz", .free "all", .str "FIGURES" "0123456789", .free "int", .int "MOST_ROWS" 60, .free "tuple", .free "enumerate", .glo "BadRow", .free "list", .free "str", .free "range", .glo "MeterError", .free "isinstance", .free "ValueError", .glo "TooLate", .glo "TooFast", .glo "TooEarly", .glo "NoMark", .glo "NoCounter"]
def fas1 : List He.Fa := [.glo "BadValue", .free "bool", .free "zip", .glo "is_name", .glo "number_of", .glo "deed_from", .glo "log_from", .glo "log_text", .glo "_law_cell_at", .glo "_law_mixed", .glo "_law_draws", .glo "_law_name", .glo "_law_deed", .glo "_law_row", .glo "_law_bad_number", .glo "_law_spoilt", .glo "_law_refusal", .glo "_law_alike", .glo "law"]
def fas : List He.Fa := fas0 ++ fas1
def loose0 : List PySem.Str := ["MeterError", "TooLate", "NoCounter", "NoMark", "BadValue", "TooFast", "TooEarly", "BadRow", "LETTERS", "FIGURES", "MOST_ROWS", "is_name", "number_of", "deed_from", "log_from", "log_text", "_law_cell_at", "_law_mixed", "_law_draws", "_law_name"]
def loose1 : List PySem.Str := ["_law_deed", "_law_row", "_law_spoilt", "_law_bad_number", "_law_refusal", "_law_alike"]
def loose : List PySem.Str := loose0 ++ loose1
def clsN : List PySem.Str := ["MeterError", "TooLate", "NoCounter", "NoMark", "BadValue", "TooFast", "TooEarly", "BadRow"]
abbrev CK (K : PySem.W.Frag) : Nat → Addr := fun c => He.ga K (clsN.getD c "")
def vvB (K : PySem.W.Frag) : Bool := match PySem.W.findCls K (.ref (CK K 0)) (.type "type") "__init__" with
  | some (.val (.builtin n)) => decide (n = "ValueError.__init__")
  | _ => false
theorem vvB_ok {K : PySem.W.Frag} (h : vvB K = true) : PySem.W.findCls K (.ref (CK K 0)) (.type "type") "__init__" = some (.val (.builtin "ValueError.__init__")) := by
  unfold vvB at h
  split at h
  · rename_i n e
    rw [e, of_decide_eq_true h]
  · cases h
def Ex (K : PySem.W.Frag) : Prop := ExFacts K (CK K 7) (He.ma K (CK K 7) "__init__") (CK K 0) ∧ vvB K = true ∧ PySem.W.kitOne K (.ref (CK K 7)) (.type "ValueError") = some true ∧ ∀ d ∈ [1, 2, 3, 4, 5, 6], PySem.W.kitOne K (.ref (CK K 7)) (.ref (CK K d)) = some false
instance (K : PySem.W.Frag) : Decidable (Ex K) := by unfold Ex; infer_instance
def exK (K : PySem.W.Frag) : Bool := decide (Ex K)
structure Ctx (K : PySem.W.Frag) (mg : Str → Option Value) : Prop where
  hp : ∃ h : Heap, K.In h ∧ h.Ns mainGlobals mg
  says : He.SaysD fas fns K
  ex : Ex K
section
variable {P : Program} {w : World} {K : PySem.W.Frag} {mg : Str → Option Value} {base : Heap} {C : Nat → Addr}
theorem Ctx.exf (c : Ctx K mg) : ExFacts K (CK K 7) (He.ma K (CK K 7) "__init__") (CK K 0) := c.ex.1
theorem Ctx.kn (c : Ctx K mg) : KnX K (CK K) kO kT := by
  refine ⟨fun a d b e => ?_, fun a n b e => ?_⟩
  · unfold kO at e
    split at e
    · rename_i ha
      subst ha
      refine ⟨?_, c.exf.xcls⟩
      split at e
      · rename_i hd
        subst hd
        cases e
        unfold PySem.W.kitOne
        rw [if_pos (beq_self_eq_true _)]
      · split at e
        · rename_i hd
          cases e
          refine c.ex.2.2.2 d ?_
          simp only [List.mem_cons, List.not_mem_nil, or_false]
          omega
        · cases e
    · cases e
  · unfold kT at e
    split at e
    · rename_i ha
      subst ha
      refine ⟨?_, c.exf.xcls⟩
      split at e
      · rename_i hn
        subst hn
        cases e
        exact c.ex.2.2.1
      · cases e
    · cases e
theorem Ctx.caught (c : Ctx K mg) (k : Nat) (h : kCt k = true) : PySem.W.exmOne K (.ref (CK K k)) (.ref (CK K 0)) = some true := by
  cases of_decide_eq_true h
  exact c.exf.exm
theorem Ctx.glo (c : Ctx K mg) (i : Nat) {x : Str} (h : fas[i]? = some (.glo x)) : mg x = some (.ref (He.ga K x)) := let ⟨_, a, b⟩ := c.hp; He.glo_ok a b (c.says.fact i h)
theorem Ctx.free (c : Ctx K mg) (i : Nat) {x : Str} (h : fas[i]? = some (.free x)) : mg x = none := let ⟨_, a, b⟩ := c.hp; He.free_ok a b (c.says.fact i h)
theorem Ctx.int (c : Ctx K mg) (i : Nat) {x : Str} {n : Int} (h : fas[i]? = some (.int x n)) : ∃ t, mg x = some (.int n t) := let ⟨_, a, b⟩ := c.hp; He.int_ok a b (c.says.fact i h)
theorem Ctx.str (c : Ctx K mg) (i : Nat) {x z : Str} (h : fas[i]? = some (.str x z)) : ∃ t, mg x = some (.str z t) := let ⟨_, a, b⟩ := c.hp; He.str_ok a b (c.says.fact i h)
theorem mk_has {k : Nat} {x : Str} {st : Stmt} {N ps : List Str} {s : Sx} {fd : FuncData} (F : FnP K x x st (He.ga K x) fd) (S : FnScope N ps (defScope st)) (g : mg x = some (.ref (He.ga K x)))
    (hb : ∀ (cdv : Value) (A : Around) (outer : List Env) (s0 : Shared) (H : Hp) (E : XK), Room k (A.deeper (envOfC x (defScope st) s0.heap.objs.size (He.ga K x) cdv)) →
      PBG (cxOf CX0 P w K mg base N x (defScope st) (He.ga K x) cdv A outer s0 H E).nox C (fun _ _ _ _ => False) (defBody st) s)
    (b : ∀ (kV doc pm : Value) (an : Option Addr) (cdv ct : Value) (us : List Value), us.length = ps.length → bindArgs (PySem.W.fnOf x x (defArgs st) (defBody st) (defScope st) .none kV doc pm an cdv ct) ⟨us, []⟩ = pure (ps.zip us)) :
    Has P w K mg base C (k + 1) x ps (runB N.length s) := ⟨_, fd, fn_ok0 F S hb, F.bindsN b, F.kp, g⟩
theorem mk_has0 {x : Str} {st : Stmt} {N ps : List Str} {fd : FuncData} (F : FnP K x x st (He.ga K x) fd) (S : FnScope N ps (defScope st)) (g : mg x = some (.ref (He.ga K x)))
    (b : ∀ (kV doc pm : Value) (an : Option Addr) (cdv ct : Value) (us : List Value), us.length = ps.length → bindArgs (PySem.W.fnOf x x (defArgs st) (defBody st) (defScope st) .none kV doc pm an cdv ct) ⟨us, []⟩ = pure (ps.zip us)) :
    Has P w K mg base C 1 x ps (fun _ _ => none) := ⟨_, fd, F.ok (k := 0) S (fun vs H Q E h => spI_len vs H Q _ h) (fun cdv A outer s0 H vs Q E hr h => by
      obtain ⟨ds, M, F, A, hn, hr, rs, ok⟩ := h
      exact ok.elim), F.bindsN b, F.kp, g⟩
theorem ok_init (c : Ctx K mg) : ∃ fd, FnOk P w K mg base (L2.CX P w) 1 (He.ma K (CK K 7) "__init__") fd ["self", "row"] (spRow (CK K 7)) ∧ Binds K fd ["self", "row"] [] := by
  obtain ⟨fd, F⟩ := c.says.def_ 16 (d := d_init) rfl
  refine ⟨fd, F.ok (k := 0) (N := ["self", "row"]) sc_init (fun vs H Q E h => ?_) (fun cdv A outer s0 H vs Q E hr h => ?_), F.bindsN (fun _ _ _ _ _ _ us hl => match us, hl with | [_, _], _ => rfl)⟩
  · obtain ⟨a, n, rfl, _⟩ := h
    rfl
  · obtain ⟨a, n, rfl, ha, q⟩ := h
    refine ⟨_, pss_cons (ps_expr (pe_meinit rfl (c.glo 12 rfl) c.exf.cread (vvB_ok c.ex.2.1) (pa_cons (pe_var (i := 0) rfl (Or.inl rfl)) (pa_cons pe_str pa_nil)))) (pss_one (ps_ost (pe_var (i := 0) rfl (Or.inl rfl)) (pe_var (i := 1) rfl (Or.inl rfl)))), ?_⟩
    exact ⟨.ref a, rfl, a, _, [.str _], rfl, by decide, c.exf.oex, ha, .int n, rfl, .ref a, rfl, a, _, rfl, c.exf.oex, c.exf.noRow, .inl ⟨ha, fun dx nd ne => q dx nd ne⟩⟩
theorem mk_hasX {k : Nat} {x : Str} {st : Stmt} {N ps : List Str} {s : Sx} {fd : FuncData} (F : FnP K x x st (He.ga K x) fd) (S : FnScope N ps (defScope st)) (g : mg x = some (.ref (He.ga K x)))
    (hb : ∀ (cdv : Value) (A : Around) (outer : List Env) (s0 : Shared) (H : Hp) (E : XK) (W : WX), Room k (A.deeper (envOfC x (defScope st) s0.heap.objs.size (He.ga K x) cdv)) → Takes (cxOf (L2.CX P w) P w K mg base N x (defScope st) (He.ga K x) cdv A outer s0 H E) W →
      PBG (cxOf (L2.CX P w) P w K mg base N x (defScope st) (He.ga K x) cdv A outer s0 H E) C W (defBody st) s)
    (b : ∀ (kV doc pm : Value) (an : Option Addr) (cdv ct : Value) (us : List Value), us.length = ps.length → bindArgs (PySem.W.fnOf x x (defArgs st) (defBody st) (defScope st) .none kV doc pm an cdv ct) ⟨us, []⟩ = pure (ps.zip us)) :
    HasX P w K mg base C (k + 1) x ps (runB N.length s) := ⟨_, fd, fn_okE F S hb, F.bindsN b, F.kp, g⟩
theorem ok_is_name (c : Ctx K mg) : Has P w K mg base (CK K) 1 "is_name" ["word"] I_is_name := by
  obtain ⟨fd, F⟩ := c.says.def_ 0 (d := d_is_name) rfl
  exact mk_has (st := s_is_name) (N := N_is_name) (s := S_is_name) F sc_is_name (c.glo 23 rfl)
    (fun cdv A outer s0 H E hr => by
    unfold S_is_name
    exact bOne (sRet_ (gAnd (gChain oLe oLe (gInt) (gCaB cLen rfl (c.free 0 rfl) (by decide +kernel) (gAcons (gVar 0) (gAnil))) (gInt)) (gAnd1 (gCaB (cAll rfl) rfl (c.free 2 rfl) (by decide +kernel) (gAcons (gLc [("sign", 1)] rfl sc_is_name.nd (iL (gVar 0)) (blkOk_by (N := N_is_name) (sc := defScope s_is_name) (by decide +kernel)) (fun _ _ _ _ _ => tName sc_is_name.nd rfl (by first | exact Or.inl rfl | exact Or.inr rfl)) (fun _ _ _ _ _ => gtsNil) (fun _ _ _ _ _ => gIn_ hr.units (gVar 1) (gGlobS rfl (c.str 1 rfl).choose_spec) (by rfl)) (by decide)) (gAnil)))))))
    (fun _ _ _ _ _ _ us hl => match us, hl with | [_], _ => rfl)
theorem ok_number_of (c : Ctx K mg) : Has P w K mg base (CK K) 1 "number_of" ["word"] I_number_of := by
  obtain ⟨fd, F⟩ := c.says.def_ 1 (d := d_number_of) rfl
  exact mk_has (st := s_number_of) (N := N_number_of) (s := S_number_of) F sc_number_of (c.glo 24 rfl)
    (fun cdv A outer s0 H E hr => by
    unfold S_number_of
    exact bCons (sIf_ (gW (gWor (gTnot (gChainT oLe oLe (gInt) (gCaB cLen rfl (c.free 0 rfl) (by decide +kernel) (gAcons (gVar 0) (gAnil))) (gInt))) (gWor1 (gTnot (gTval (gCaB (cAll rfl) rfl (c.free 2 rfl) (by decide +kernel) (gAcons (gLc [("sign", 1)] rfl sc_number_of.nd (iL (gVar 0)) (blkOk_by (N := N_number_of) (sc := defScope s_number_of) (by decide +kernel)) (fun _ _ _ _ _ => tName sc_number_of.nd rfl (by first | exact Or.inl rfl | exact Or.inr rfl)) (fun _ _ _ _ _ => gtsNil) (fun _ _ _ _ _ => gIn_ hr.units (gVar 1) (gGlobS rfl (c.str 3 rfl).choose_spec) (by rfl)) (by decide)) (gAnil))))))))
            (bOne (sRet_ (gNon)))
            (bNil))
            (bCons (sIf_ (gW (gWand (gTval (gStarts_ (gVar 0) (gStr))) (gWand1 (gCmpT (oNe hr.units) (gVar 0) (gStr) (nomark _)))))
            (bOne (sRet_ (gNon)))
            (bNil))
            (bOne (sRet_ (gCallTy cInt rfl (c.free 4 rfl) (by decide +kernel) (gAcons (gVar 0) (gAnil)))))))
    (fun _ _ _ _ _ _ us hl => match us, hl with | [_], _ => rfl)
theorem ok_deed_from (c : Ctx K mg) : Has P w K mg base (CK K) 2 "deed_from" ["words"] I_deed_from := by
  obtain ⟨fd, F⟩ := c.says.def_ 2 (d := d_deed_from) rfl
  have h_is_name := ok_is_name (P := P) (w := w) (base := base) c
  have h_number_of := ok_number_of (P := P) (w := w) (base := base) c
  exact mk_has (st := s_deed_from) (N := N_deed_from) (s := S_deed_from) F sc_deed_from (c.glo 25 rfl)
    (fun cdv A outer s0 H E hr => by
    unfold S_deed_from
    exact bCons (sIf_ (gW (gWor (gCmpT oLt (gCaB cLen rfl (c.free 0 rfl) (by decide +kernel) (gAcons (gVar 0) (gAnil))) (gInt) (nomark _)) (gWor1 (gCmpT oIsN (callP h_number_of rfl (hr.mono (by decide)) rfl (gAcons (gItem_ hr.units (gVar 0) (gInt)) (gAnil)) (acons_len (anil_len))) (gNon) (nomark _)))))
            (bOne (sRet_ (gNon)))
            (bNil))
            (bCons (sIf_ (gW (gWand (gCmpT (oEq hr.units) (gItem_ hr.units (gVar 0) (gInt)) (gStr) (nomark _)) (gWand1 (gCmpT (oEq hr.units) (gCaB cLen rfl (c.free 0 rfl) (by decide +kernel) (gAcons (gVar 0) (gAnil))) (gInt) (nomark _)))))
            (bOne (sRet_ (gTup (gAcons (gStr) (gAcons (callP h_number_of rfl (hr.mono (by decide)) rfl (gAcons (gItem_ hr.units (gVar 0) (gInt)) (gAnil)) (acons_len (anil_len))) (gAnil))))))
            (bNil))
            (bCons (sSet_ sc_deed_from.nd rfl (by first | exact Or.inl rfl | exact Or.inr rfl) (gGet2_ hr.units (PNG.frz (nDisp (ppCons (gInt) (ppCons (gInt) (ppCons (gInt) (ppNil)))))) (gItem_ hr.units (gVar 0) (gInt)) (gGlobI rfl (c.int 5 rfl).choose_spec) ⟨rfl, rfl, rfl, rfl⟩))
            (bCons (sIf_ (gW (gWor (gCmpT (oNe hr.units) (gCaB cLen rfl (c.free 0 rfl) (by decide +kernel) (gAcons (gVar 0) (gAnil))) (gBin oAdd (gInt) (gVar 1)) (nomark _)) (gWor1 (gTnot (gTval (callP h_is_name rfl (hr.mono (by decide)) rfl (gAcons (gItem_ hr.units (gVar 0) (gInt)) (gAnil)) (acons_len (anil_len))))))))
            (bOne (sRet_ (gNon)))
            (bNil))
            (bCons (sSetLc_ [("word", 3)] rfl sc_deed_from.nd rfl rfl (sw_true rfl rfl rfl (by decide +kernel)) (iL (gSlice oCut (gVar 0) (gOsome (gInt)) (gOnone))) (blkOk_by (N := N_deed_from) (sc := defScope s_deed_from) (by decide +kernel)) (fun _ _ _ _ _ => tName sc_deed_from.nd rfl (by first | exact Or.inl rfl | exact Or.inr rfl)) (fun _ _ _ _ _ => gtsNil) (fun _ _ _ _ _ => callP h_number_of rfl (hr.mono (by decide)) rfl (gAcons (gVar 3) (gAnil)) (acons_len (anil_len))) (by decide))
            (bCons (sIf_ (gInT_ hr.units (gNon) (gVar 2) (by rfl))
            (bOne (sRet_ (gNon)))
            (bNil))
            (bOne (sRet_ (gCallTy cTupOf rfl (c.free 6 rfl) (by decide +kernel) (gAcons (gBin oAdd (gLst (gAcons (gItem_ hr.units (gVar 0) (gInt)) (gAcons (callP h_number_of rfl (hr.mono (by decide)) rfl (gAcons (gItem_ hr.units (gVar 0) (gInt)) (gAnil)) (acons_len (anil_len))) (gAcons (gItem_ hr.units (gVar 0) (gInt)) (gAnil))))) (gVar 2)) (gAnil)))))))))))
    (fun _ _ _ _ _ _ us hl => match us, hl with | [_], _ => rfl)
theorem ok_log_from (c : Ctx K mg) : HasX P w K mg base (CK K) 3 "log_from" ["text"] I_log_from := by
  obtain ⟨fd, F⟩ := c.says.def_ 3 (d := d_log_from) rfl
  obtain ⟨fdI, h_init, b_init⟩ := ok_init (P := P) (w := w) (base := base) c
  have h_deed_from := ok_deed_from (P := P) (w := w) (base := base) c
  exact mk_hasX (st := s_log_from) (N := N_log_from) (s := S_log_from) F sc_log_from (c.glo 26 rfl)
    (fun cdv A outer s0 H E W hr tk => by
    unfold S_log_from
    exact bCons (sNew_ sc_log_from.nd rfl (by first | exact Or.inl rfl | exact Or.inr rfl) (nLst (gAnil)))
            (bCons (sIf_ (gCmpT (oEq hr.units) (gVar 0) (gStr) (nomark _))
            (bOne (sRet_ (gVar 1)))
            (bNil))
            (bCons (sFor_ [2, 3, 4] (passes_of rfl) rfl (iE rfl (c.free 7 rfl) (gAcons (PNG.frz (nSplit (gVar 0) (gStr))) (gAnil))) (tTup rfl (tsCons (tName sc_log_from.nd rfl (by first | exact Or.inl rfl | exact Or.inr rfl)) (tsCons (tName sc_log_from.nd rfl (by first | exact Or.inl rfl | exact Or.inr rfl)) (tsNil))))
            (bCons (sSet_ sc_log_from.nd rfl (by first | exact Or.inl rfl | exact Or.inr rfl) (callP h_deed_from rfl (hr.mono (by decide)) rfl (gAcons (PNG.frz (nSplit (gVar 3) (gStr))) (gAnil)) (acons_len (anil_len))))
            (bCons (sIf_ (gW (gWor (gCmpT oIsN (gVar 4) (gNon) (nomark _)) (gWor1 (gCmpT oGe (gVar 2) (gGlobI rfl (c.int 5 rfl).choose_spec) (nomark _)))))
            (bOne (sRaise_ (c := 7) rfl tk c.exf.oex c.exf.init c.exf.fn h_init (hr.mono (by decide)) b_init passF rfl (c.glo 8 rfl) (gAcons (gBin oAdd (gVar 2) (gInt)) (gAnil))))
            (bNil))
            (bOne (sMut_ PySem.F.plainAttrs_list PySem.F.slot_list_append PySem.F.type_list_append wApp (gVar 1) (gAcons (gVar 4) (gAnil)))))))
            (bOne (sRet_ (gVar 1))))))
    (fun _ _ _ _ _ _ us hl => match us, hl with | [_], _ => rfl)
theorem ok_log_text (c : Ctx K mg) : Has P w K mg base (CK K) 1 "log_text" ["log"] I_log_text := by
  obtain ⟨fd, F⟩ := c.says.def_ 4 (d := d_log_text) rfl
  exact mk_has (st := s_log_text) (N := N_log_text) (s := S_log_text) F sc_log_text (c.glo 27 rfl)
    (fun cdv A outer s0 H E hr => by
    unfold S_log_text
    exact bCons (sSetLc_ [("deed", 2)] rfl sc_log_text.nd rfl rfl (sw_true rfl rfl rfl (by decide +kernel)) (iL (gVar 0)) (blkOk_by (N := N_log_text) (sc := defScope s_log_text) (by decide +kernel)) (fun _ _ _ _ _ => tName sc_log_text.nd rfl (by first | exact Or.inl rfl | exact Or.inr rfl)) (fun _ _ _ _ _ => gtsNil) (fun _ _ _ _ _ => gBin oAdd (gLst (gAcons (gItem_ hr.units (gVar 2) (gInt)) (gAcons (gItem_ hr.units (gVar 2) (gInt)) (gAnil)))) (PNG.frz (nCallTy cListOf rfl (c.free 9 rfl) (by decide +kernel) (gAcons (gSlice oCut (gVar 2) (gOsome (gInt)) (gOnone)) (gAnil))))) (by decide))
            (bOne (sRet_ (gJoin_ (gStr) (gLc [("row", 3)] rfl sc_log_text.nd (iL (gVar 1)) (blkOk_by (N := N_log_text) (sc := defScope s_log_text) (by decide +kernel)) (fun _ _ _ _ _ => tName sc_log_text.nd rfl (by first | exact Or.inl rfl | exact Or.inr rfl)) (fun _ _ _ _ _ => gtsNil) (fun _ _ _ _ _ => gJoin_ (gStr) (gLc [("word", 4)] rfl sc_log_text.nd (iL (gVar 3)) (blkOk_by (by rfl)) (fun _ _ _ _ _ => tName sc_log_text.nd rfl (by first | exact Or.inl rfl | exact Or.inr rfl)) (fun _ _ _ _ _ => gtsNil) (fun _ _ _ _ _ => gCallTy cStr rfl (c.free 10 rfl) (by decide +kernel) (gAcons (gVar 4) (gAnil))) (by decide))) (by decide))))))
    (fun _ _ _ _ _ _ us hl => match us, hl with | [_], _ => rfl)
theorem ok_law_cell_at (c : Ctx K mg) : Has P w K mg base (CK K) 1 "_law_cell_at" ["_law_script", "_law_k"] I_law_cell_at := by
  obtain ⟨fd, F⟩ := c.says.def_ 5 (d := d_law_cell_at) rfl
  exact mk_has (st := s_law_cell_at) (N := N_law_cell_at) (s := S_law_cell_at) F sc_law_cell_at (c.glo 28 rfl)
    (fun cdv A outer s0 H E hr => by
    unfold S_law_cell_at
    exact bCons (sIf_ (gCmpT oLt (gVar 1) (gCaB cLen rfl (c.free 0 rfl) (by decide +kernel) (gAcons (gVar 0) (gAnil))) (nomark _))
            (bOne (sRet_ (gItem_ hr.units (gVar 0) (gVar 1))))
            (bNil))
            (bOne (sRet_ (gInt))))
    (fun _ _ _ _ _ _ us hl => match us, hl with | [_, _], _ => rfl)
theorem ok_law_mixed (c : Ctx K mg) : Has P w K mg base (CK K) 1 "_law_mixed" ["_law_number", "_law_k"] I_law_mixed := by
  obtain ⟨fd, F⟩ := c.says.def_ 6 (d := d_law_mixed) rfl
  exact mk_has (st := s_law_mixed) (N := N_law_mixed) (s := S_law_mixed) F sc_law_mixed (c.glo 29 rfl)
    (fun cdv A outer s0 H E hr => by
    unfold S_law_mixed
    exact bCons (sSet_ sc_law_mixed.nd rfl (by first | exact Or.inl rfl | exact Or.inr rfl) (gBin oMod (gBin oMul (gBin oAdd (gBin oAdd (gBin oMod (gVar 0) (gInt)) (gBin oMul (gInt) (gVar 1))) (gInt)) (gInt)) (gInt)))
            (bOne (sRet_ (gBin oMod (gBin oMul (gVar 2) (gBin oAdd (gBin oAdd (gBin oMod (gVar 2) (gInt)) (gVar 1)) (gInt))) (gInt)))))
    (fun _ _ _ _ _ _ us hl => match us, hl with | [_, _], _ => rfl)
theorem ok_law_draws (c : Ctx K mg) : Has P w K mg base (CK K) 2 "_law_draws" ["_law_cell", "_law_many", "_law_size"] I_law_draws := by
  obtain ⟨fd, F⟩ := c.says.def_ 7 (d := d_law_draws) rfl
  have h_law_mixed := ok_law_mixed (P := P) (w := w) (base := base) c
  exact mk_has (st := s_law_draws) (N := N_law_draws) (s := S_law_draws) F sc_law_draws (c.glo 30 rfl)
    (fun cdv A outer s0 H E hr => by
    unfold S_law_draws
    exact bCons (sNew_ sc_law_draws.nd rfl (by first | exact Or.inl rfl | exact Or.inr rfl) (nLst (gAnil)))
            (bCons (sSet_ sc_law_draws.nd rfl (by first | exact Or.inl rfl | exact Or.inr rfl) (gBin oDiv (gVar 0) (gInt)))
            (bCons (sFor_ [5] PassesOwn.never rfl (iR1 rfl (c.free 11 rfl) (gAcons (gVar 1) (gAnil))) (tName sc_law_draws.nd rfl (by first | exact Or.inl rfl | exact Or.inr rfl))
            (bOne (sIf_ (gCmpT (oEq hr.units) (gBin oMod (gVar 0) (gInt)) (gInt) (nomark _))
            (bCons (sMut_ PySem.F.plainAttrs_list PySem.F.slot_list_append PySem.F.type_list_append wApp (gVar 3) (gAcons (gBin oMod (gVar 4) (gVar 2)) (gAnil)))
            (bOne (sSet_ sc_law_draws.nd rfl (by first | exact Or.inl rfl | exact Or.inr rfl) (gBin oDiv (gVar 4) (gVar 2)))))
            (bOne (sMut_ PySem.F.plainAttrs_list PySem.F.slot_list_append PySem.F.type_list_append wApp (gVar 3) (gAcons (gBin oMod (callP h_law_mixed rfl (hr.mono (by decide)) rfl (gAcons (callP h_law_mixed rfl (hr.mono (by decide)) rfl (gAcons (gVar 0) (gAcons (gVar 5) (gAnil))) (acons_len (acons_len (anil_len)))) (gAcons (gInt) (gAnil))) (acons_len (acons_len (anil_len)))) (gVar 2)) (gAnil)))))))
            (bOne (sRet_ (gVar 3))))))
    (fun _ _ _ _ _ _ us hl => match us, hl with | [_, _, _], _ => rfl)
theorem ok_law_name (c : Ctx K mg) : Has P w K mg base (CK K) 1 "_law_name" ["_law_number"] I_law_name := by
  obtain ⟨fd, F⟩ := c.says.def_ 8 (d := d_law_name) rfl
  exact mk_has (st := s_law_name) (N := N_law_name) (s := S_law_name) F sc_law_name (c.glo 31 rfl)
    (fun cdv A outer s0 H E hr => by
    unfold S_law_name
    exact bCons (sIf_ (gCmpT (oEq hr.units) (gBin oMod (gVar 0) (gInt)) (gInt) (nomark _))
            (bOne (sRet_ (gItem_ hr.units (gLst (gAcons (gStr) (gAcons (gStr) (gAcons (gStr) (gAcons (gStr) (gAcons (gStr) (gAcons (gStr) (gAnil)))))))) (gBin oMod (gBin oDiv (gVar 0) (gInt)) (gInt)))))
            (bNil))
            (bCons (sSet_ sc_law_name.nd rfl (by first | exact Or.inl rfl | exact Or.inr rfl) (gStr))
            (bOne (sRet_ (gJoin_ (gStr) (gLc [("_law_k", 2)] rfl sc_law_name.nd (iR1 rfl (c.free 11 rfl) (gAcons (gBin oAdd (gInt) (gBin oMod (gBin oDiv (gVar 0) (gInt)) (gInt))) (gAnil))) (blkOk_by (N := N_law_name) (sc := defScope s_law_name) (by decide +kernel)) (fun _ _ _ _ _ => tName sc_law_name.nd rfl (by first | exact Or.inl rfl | exact Or.inr rfl)) (fun _ _ _ _ _ => gtsNil) (fun _ _ _ _ _ => gItem_ hr.units (gVar 1) (gBin oMod (gBin oDiv (gVar 0) (gBin oAdd (gVar 2) (gInt))) (gInt))) (by decide)))))))
    (fun _ _ _ _ _ _ us hl => match us, hl with | [_], _ => rfl)
theorem ok_law_deed (c : Ctx K mg) : Has P w K mg base (CK K) 3 "_law_deed" ["_law_cell", "_law_k"] I_law_deed := by
  obtain ⟨fd, F⟩ := c.says.def_ 9 (d := d_law_deed) rfl
  have h_law_draws := ok_law_draws (P := P) (w := w) (base := base) c
  have h_law_mixed := ok_law_mixed (P := P) (w := w) (base := base) c
  have h_law_name := ok_law_name (P := P) (w := w) (base := base) c
  exact mk_has (st := s_law_deed) (N := N_law_deed) (s := S_law_deed) F sc_law_deed (c.glo 32 rfl)
    (fun cdv A outer s0 H E hr => by
    unfold S_law_deed
    exact bCons (sSet_ sc_law_deed.nd rfl (by first | exact Or.inl rfl | exact Or.inr rfl) (callP h_law_draws rfl (hr.mono (by decide)) rfl (gAcons (gVar 0) (gAcons (gInt) (gAcons (gBin oPow (gInt) (gInt)) (gAnil)))) (acons_len (acons_len (acons_len (anil_len))))))
            (bCons (sSet_ sc_law_deed.nd rfl (by first | exact Or.inl rfl | exact Or.inr rfl) (callP h_law_mixed rfl (hr.mono (by decide)) rfl (gAcons (gVar 0) (gAcons (gVar 1) (gAnil))) (acons_len (acons_len (anil_len)))))
            (bCons (sSetLc_ [("_law_one", 7)] rfl sc_law_deed.nd rfl rfl (sw_true rfl rfl rfl (by decide +kernel)) (iL (gSlice oCut (gVar 2) (gOsome (gInt)) (gOsome (gInt)))) (blkOk_by (N := N_law_deed) (sc := defScope s_law_deed) (by decide +kernel)) (fun _ _ _ _ _ => tName sc_law_deed.nd rfl (by first | exact Or.inl rfl | exact Or.inr rfl)) (fun _ _ _ _ _ => gtsNil) (fun _ _ _ _ _ => gBin oMul (gVar 7) (gItem_ hr.units (gLst (gAcons (gInt) (gAcons (gBin oPow (gInt) (gInt)) (gAcons (gInt) (gAnil))))) (gBin oMod (gVar 1) (gInt)))) (by decide))
            (bCons (sSet_ sc_law_deed.nd rfl (by first | exact Or.inl rfl | exact Or.inr rfl) (gItem_ hr.units (gLst (gAcons (gStr) (gAcons (gStr) (gAcons (gStr) (gAcons (gStr) (gAcons (gStr) (gAnil))))))) (gBin oMod (gVar 3) (gInt))))
            (bCons (sSet_ sc_law_deed.nd rfl (by first | exact Or.inl rfl | exact Or.inr rfl) (PNG.frz (nDisp (ppCons (gInt) (ppCons (gInt) (ppCons (gInt) (ppNil)))))))
            (bCons (sIf_ (gCmpT (oEq hr.units) (gVar 5) (gStr) (nomark _))
            (bOne (sRet_ (gTup (gAcons (gStr) (gAcons (gItem_ hr.units (gVar 4) (gInt)) (gAnil))))))
            (bNil))
            (bOne (sRet_ (gCallTy cTupOf rfl (c.free 6 rfl) (by decide +kernel) (gAcons (gBin oAdd (gLst (gAcons (gVar 5) (gAcons (gItem_ hr.units (gVar 4) (gInt)) (gAcons (callP h_law_name rfl (hr.mono (by decide)) rfl (gAcons (gItem_ hr.units (gVar 2) (gInt)) (gAnil)) (acons_len (anil_len))) (gAnil))))) (gSlice oCut (gVar 4) (gOsome (gInt)) (gOsome (gBin oAdd (gInt) (gItem_ hr.units (gVar 6) (gVar 5)))))) (gAnil)))))))))))
    (fun _ _ _ _ _ _ us hl => match us, hl with | [_, _], _ => rfl)
theorem ok_law_row (c : Ctx K mg) : Has P w K mg base (CK K) 1 "_law_row" ["_law_deed_here"] I_law_row := by
  obtain ⟨fd, F⟩ := c.says.def_ 10 (d := d_law_row) rfl
  exact mk_has (st := s_law_row) (N := N_law_row) (s := S_law_row) F sc_law_row (c.glo 33 rfl)
    (fun cdv A outer s0 H E hr => by
    unfold S_law_row
    exact bOne (sRet_ (gJoin_ (gStr) (gBin oAdd (gLst (gAcons (gCallTy cStr rfl (c.free 10 rfl) (by decide +kernel) (gAcons (gItem_ hr.units (gVar 0) (gInt)) (gAnil))) (gAcons (gItem_ hr.units (gVar 0) (gInt)) (gAnil)))) (gLc [("_law_one", 1)] rfl sc_law_row.nd (iL (gSlice oCut (gVar 0) (gOsome (gInt)) (gOnone))) (blkOk_by (N := N_law_row) (sc := defScope s_law_row) (by decide +kernel)) (fun _ _ _ _ _ => tName sc_law_row.nd rfl (by first | exact Or.inl rfl | exact Or.inr rfl)) (fun _ _ _ _ _ => gtsNil) (fun _ _ _ _ _ => gCallTy cStr rfl (c.free 10 rfl) (by decide +kernel) (gAcons (gVar 1) (gAnil))) (by decide))))))
    (fun _ _ _ _ _ _ us hl => match us, hl with | [_], _ => rfl)
theorem ok_law_bad_number (c : Ctx K mg) : Has P w K mg base (CK K) 1 "_law_bad_number" ["_law_number"] I_law_bad_number := by
  obtain ⟨fd, F⟩ := c.says.def_ 11 (d := d_law_bad_number) rfl
  exact mk_has (st := s_law_bad_number) (N := N_law_bad_number) (s := S_law_bad_number) F sc_law_bad_number (c.glo 34 rfl)
    (fun cdv A outer s0 H E hr => by
    unfold S_law_bad_number
    exact bOne (sRet_ (gItem_ hr.units (gLst (gAcons (gStr) (gAcons (gStr) (gAcons (gStr) (gAcons (gStr) (gAcons (gStr) (gAcons (gStr) (gAcons (gStr) (gAcons (gStr) (gAcons (gStr) (gAnil))))))))))) (gBin oMod (gVar 0) (gInt)))))
    (fun _ _ _ _ _ _ us hl => match us, hl with | [_], _ => rfl)
theorem ok_law_spoilt (c : Ctx K mg) : Has P w K mg base (CK K) 2 "_law_spoilt" ["_law_row_here", "_law_number"] I_law_spoilt := by
  obtain ⟨fd, F⟩ := c.says.def_ 12 (d := d_law_spoilt) rfl
  have h_law_bad_number := ok_law_bad_number (P := P) (w := w) (base := base) c
  exact mk_has (st := s_law_spoilt) (N := N_law_spoilt) (s := S_law_spoilt) F sc_law_spoilt (c.glo 35 rfl)
    (fun cdv A outer s0 H E hr => by
    unfold S_law_spoilt
    exact bCons (sNew_ sc_law_spoilt.nd rfl (by first | exact Or.inl rfl | exact Or.inr rfl) (nSplit (gVar 0) (gStr)))
            (bCons (sSet_ sc_law_spoilt.nd rfl (by first | exact Or.inl rfl | exact Or.inr rfl) (gBin oMod (gVar 1) (gInt)))
            (bCons (sSet_ sc_law_spoilt.nd rfl (by first | exact Or.inl rfl | exact Or.inr rfl) (gBin oDiv (gVar 1) (gInt)))
            (bCons (sIf_ (gCmpT (oEq hr.units) (gVar 3) (gInt) (nomark _))
            (bOne (sRet_ (gItem_ hr.units (gLst (gAconsU oAdd (gVar 0) (gAconsT (PEG.t (gBin oAdd (gStr) (gVar 0))) (gAconsT (gRep1 (gVar 0) rfl (by decide) (by decide)) (gAconsT (PEG.t (gStr)) (gAnilT)))))) (gBin oMod (gVar 4) (gInt)))))
            (bNil))
            (bCons (sIf_ (gCmpT (oEq hr.units) (gVar 3) (gInt) (nomark _))
            (bOne (sRet_ (gJoin_ (gStr) (gSlice oCut (gVar 2) (gOnone) (gOsome (gBin oSub (gCaB cLen rfl (c.free 0 rfl) (by decide +kernel) (gAcons (gVar 2) (gAnil))) (gInt)))))))
            (bNil))
            (bCons (sIf_ (gCmpT (oEq hr.units) (gVar 3) (gInt) (nomark _))
            (bOne (sRet_ (gBin oAdd (gVar 0) (gStr))))
            (bNil))
            (bCons (sFrz_ 2 (sIf_ (gCmpT (oEq hr.units) (gVar 3) (gInt) (nomark _))
            (bOne (sPut_ hr.units (gVar 2) (gInt) (gItem_ hr.units (gLst (gAcons (gStr) (gAcons (gStr) (gAcons (gStr) (gAcons (gStr) (gAcons (gStr) (gAnil))))))) (gBin oMod (gVar 4) (gInt)))))
            (bOne (sIf_ (gW (gWand (gCmpT (oEq hr.units) (gVar 3) (gInt) (nomark _)) (gWand1 (gCmpT oGt (gCaB cLen rfl (c.free 0 rfl) (by decide +kernel) (gAcons (gVar 2) (gAnil))) (gInt) (nomark _)))))
            (bOne (sPut_ hr.units (gVar 2) (gInt) (gItem_ hr.units (gLst (gAcons (gStr) (gAcons (gStr) (gAcons (gStr) (gAcons (gStr) (gAcons (gStr) (gAnil))))))) (gBin oMod (gVar 4) (gInt)))))
            (bOne (sIf_ (gW (gWand (gCmpT (oEq hr.units) (gVar 3) (gInt) (nomark _)) (gWand1 (gCmpT oGt (gCaB cLen rfl (c.free 0 rfl) (by decide +kernel) (gAcons (gVar 2) (gAnil))) (gInt) (nomark _)))))
            (bOne (sPut_ hr.units (gVar 2) (gBin oAdd (gInt) (gBin oMod (gVar 4) (gBin oSub (gCaB cLen rfl (c.free 0 rfl) (by decide +kernel) (gAcons (gVar 2) (gAnil))) (gInt)))) (callP h_law_bad_number rfl (hr.mono (by decide)) rfl (gAcons (gBin oDiv (gVar 4) (gInt)) (gAnil)) (acons_len (anil_len)))))
            (bOne (sPut_ hr.units (gVar 2) (gInt) (callP h_law_bad_number rfl (hr.mono (by decide)) rfl (gAcons (gVar 4) (gAnil)) (acons_len (anil_len)))))))))))
            (bOne (sRet_ (gJoin_ (gStr) (gVar 2)))))))))))
    (fun _ _ _ _ _ _ us hl => match us, hl with | [_, _], _ => rfl)
theorem ok_law_refusal (c : Ctx K mg) : Has P w K mg base (CK K) 4 "_law_refusal" ["_law_text"] I_law_refusal := by
  obtain ⟨fd, F⟩ := c.says.def_ 13 (d := d_law_refusal) rfl
  have h_log_from := ok_log_from (P := P) (w := w) (base := base) c
  exact mk_has (st := s_law_refusal) (N := N_law_refusal) (s := S_law_refusal) F sc_law_refusal (c.glo 36 rfl)
    (fun cdv A outer s0 H E hr => by
    unfold S_law_refusal
    exact bCons (sSet_ sc_law_refusal.nd rfl (by first | exact Or.inl rfl | exact Or.inr rfl) (gNon))
            (bCons (sTry_ kCt rfl rfl rfl sc_law_refusal.nd rfl rfl ⟨rfl, by decide, .inl (c.glo 12 rfl)⟩ c.caught (fun W pn xe tk hp => bOne (sCallX_ tk h_log_from (hr.mono (by decide)) rfl (gAcons (gVar 0) (gAnil)) (acons_len (anil_len)))) (fun a pn => bOne (sSet_ sc_law_refusal.nd rfl (by first | exact Or.inl rfl | exact Or.inr rfl) (gVar 2))))
            (bCons (sIf_ (gCmpT oIsN (gVar 1) (gNon) (nomark _))
            (bOne (sRet_ (gInt)))
            (bNil))
            (bCons (sIf_ (gW (gWor (gTnot (gTval (gCaB (cIsA c.kn) rfl (c.free 13 rfl) (by decide +kernel) (gAcons (gVar 1) (gAcons (gCls rfl (c.glo 8 rfl)) (gAnil)))))) (gWor1 (gTnot (gTval (gCaB (cIsA c.kn) rfl (c.free 13 rfl) (by decide +kernel) (gAcons (gVar 1) (gAcons (gTyN rfl (c.free 14 rfl) (by decide +kernel)) (gAnil)))))))))
            (bOne (sRet_ (gNeg (gInt))))
            (bNil))
            (bCons (sIf_ (gTval (gCaB (cIsA c.kn) rfl (c.free 13 rfl) (by decide +kernel) (gAcons (gVar 1) (gAcons (gTup (gAcons (gCls rfl (c.glo 20 rfl)) (gAcons (gCls rfl (c.glo 19 rfl)) (gAcons (gCls rfl (c.glo 18 rfl)) (gAcons (gCls rfl (c.glo 17 rfl)) (gAcons (gCls rfl (c.glo 16 rfl)) (gAcons (gCls rfl (c.glo 15 rfl)) (gAnil)))))))) (gAnil)))))
            (bOne (sRet_ (gNeg (gInt))))
            (bNil))
            (bCons (sIf_ (gW (gWor (gTnot (gTval (gCaB (cIsA c.kn) rfl (c.free 13 rfl) (by decide +kernel) (gAcons (gRow c.exf.xcls c.exf.hd c.exf.noRow (gVar 1)) (gAcons (gTyN rfl (c.free 4 rfl) (by decide +kernel)) (gAnil)))))) (gWor1 (gTval (gCaB (cIsA c.kn) rfl (c.free 13 rfl) (by decide +kernel) (gAcons (gRow c.exf.xcls c.exf.hd c.exf.noRow (gVar 1)) (gAcons (gTyN rfl (c.free 21 rfl) (by decide +kernel)) (gAnil))))))))
            (bOne (sRet_ (gNeg (gInt))))
            (bNil))
            (bOne (sRet_ (gRow c.exf.xcls c.exf.hd c.exf.noRow (gVar 1))))))))))
    (fun _ _ _ _ _ _ us hl => match us, hl with | [_], _ => rfl)
theorem ok_law_alike (c : Ctx K mg) : Has P w K mg base (CK K) 1 "_law_alike" ["_law_found", "_law_due"] I_law_alike := by
  obtain ⟨fd, F⟩ := c.says.def_ 14 (d := d_law_alike) rfl
  exact mk_has (st := s_law_alike) (N := N_law_alike) (s := S_law_alike) F sc_law_alike (c.glo 37 rfl)
    (fun cdv A outer s0 H E hr => by
    unfold S_law_alike
    exact bCons (sIf_ (gW (gWor (gTnot (gTval (gCaB cIsI rfl (c.free 13 rfl) (by decide +kernel) (gAcons (gVar 0) (gAcons (gTyN rfl (c.free 9 rfl) (by decide +kernel)) (gAnil)))))) (gWor1 (gCmpT (oNe hr.units) (gCaB cLen rfl (c.free 0 rfl) (by decide +kernel) (gAcons (gVar 0) (gAnil))) (gCaB cLen rfl (c.free 0 rfl) (by decide +kernel) (gAcons (gVar 1) (gAnil))) (nomark _)))))
            (bOne (sRet_ (gBl)))
            (bNil))
            (bCons (sFor_ [2, 3, 4, 5] PassesOwn.never rfl (iZA rfl (c.free 22 rfl) (gAcons (gVar 0) (gAcons (gVar 1) (gAnil))) (fun h => RZ.pi_zipA rfl (c.free 22 rfl) h)) (tTup rfl (tsCons (tName sc_law_alike.nd rfl (by first | exact Or.inl rfl | exact Or.inr rfl)) (tsCons (tName sc_law_alike.nd rfl (by first | exact Or.inl rfl | exact Or.inr rfl)) (tsNil))))
            (bCons (sIf_ (gW (gWor (gTnot (gTval (gCaB cIsI rfl (c.free 13 rfl) (by decide +kernel) (gAcons (gVar 2) (gAcons (gTyN rfl (c.free 6 rfl) (by decide +kernel)) (gAnil)))))) (gWor1 (gCmpT (oNe hr.units) (gCaB cLen rfl (c.free 0 rfl) (by decide +kernel) (gAcons (gVar 2) (gAnil))) (gCaB cLen rfl (c.free 0 rfl) (by decide +kernel) (gAcons (gVar 3) (gAnil))) (nomark _)))))
            (bOne (sRet_ (gBl)))
            (bNil))
            (bOne (sFor_ [4, 5] PassesOwn.never rfl (iZA rfl (c.free 22 rfl) (gAcons (gVar 2) (gAcons (gVar 3) (gAnil))) (fun h => RZ.pi_zipA rfl (c.free 22 rfl) h)) (tTup rfl (tsCons (tName sc_law_alike.nd rfl (by first | exact Or.inl rfl | exact Or.inr rfl)) (tsCons (tName sc_law_alike.nd rfl (by first | exact Or.inl rfl | exact Or.inr rfl)) (tsNil))))
            (bOne (sIf_ (gW (gWor (gTval (gCaB cIsI rfl (c.free 13 rfl) (by decide +kernel) (gAcons (gVar 4) (gAcons (gTyN rfl (c.free 21 rfl) (by decide +kernel)) (gAnil))))) (gWor (gCmpT (oNe hr.units) (gCaB cIsI rfl (c.free 13 rfl) (by decide +kernel) (gAcons (gVar 4) (gAcons (gTyN rfl (c.free 10 rfl) (by decide +kernel)) (gAnil)))) (gCaB cIsI rfl (c.free 13 rfl) (by decide +kernel) (gAcons (gVar 5) (gAcons (gTyN rfl (c.free 10 rfl) (by decide +kernel)) (gAnil)))) (nomark _)) (gWor1 (gCmpT (oNe hr.units) (gVar 4) (gVar 5) (nomark _))))))
            (bOne (sRet_ (gBl)))
            (bNil)))))))
            (bOne (sRet_ (gBl)))))
    (fun _ _ _ _ _ _ us hl => match us, hl with | [_, _], _ => rfl)
theorem law_fn {fd : FuncData} (c : Ctx K mg) (F : FnP K "law" "law" s_law (He.ga K "law") fd) : FnOk P w K mg base CX0 5 (He.ga K "law") fd ["_law_script"] (fun vs H Q _ => spI ⟨K, (CK K)⟩ 1 I_law vs H Q E0) := by
  have h_law_alike := ok_law_alike (P := P) (w := w) (base := base) c
  have h_law_cell_at := ok_law_cell_at (P := P) (w := w) (base := base) c
  have h_law_deed := ok_law_deed (P := P) (w := w) (base := base) c
  have h_law_mixed := ok_law_mixed (P := P) (w := w) (base := base) c
  have h_law_refusal := ok_law_refusal (P := P) (w := w) (base := base) c
  have h_law_row := ok_law_row (P := P) (w := w) (base := base) c
  have h_law_spoilt := ok_law_spoilt (P := P) (w := w) (base := base) c
  have h_log_from := ok_log_from (P := P) (w := w) (base := base) c
  have h_log_text := ok_log_text (P := P) (w := w) (base := base) c
  exact fn_ok0 (st := s_law) (s := S_law) (N := N_law) F sc_law (fun cdv A outer s0 H E hr => by
    unfold S_law
    exact bCons (sSetLc_ [("_law_k", 11), ("_law_cell", 10)] rfl sc_law.nd rfl rfl (sw_true rfl rfl rfl (by decide +kernel)) (iE rfl (c.free 7 rfl) (gAcons (gSlice oCut (gVar 0) (gOsome (gInt)) (gOsome (gInt))) (gAnil))) (blkOk_by (N := N_law) (sc := defScope s_law) (by decide +kernel)) (fun _ _ _ _ _ => tTup rfl (tsCons (tName sc_law.nd rfl (by first | exact Or.inl rfl | exact Or.inr rfl)) (tsCons (tName sc_law.nd rfl (by first | exact Or.inl rfl | exact Or.inr rfl)) (tsNil)))) (fun _ _ _ _ _ => gtsNil) (fun _ _ _ _ _ => callP h_law_deed rfl (hr.mono (by decide)) rfl (gAcons (gVar 10) (gAcons (gVar 11) (gAnil))) (acons_len (acons_len (anil_len)))) (by decide))
            (bCons (sNewLc_ [("_law_deed_here", 12)] rfl sc_law.nd rfl rfl (sw_true rfl rfl rfl (by decide +kernel)) (iL (gVar 1)) (blkOk_by (N := N_law) (sc := defScope s_law) (by decide +kernel)) (fun _ _ _ _ _ => tName sc_law.nd rfl (by first | exact Or.inl rfl | exact Or.inr rfl)) (fun _ _ _ _ _ => gtsNil) (fun _ _ _ _ _ => callP h_law_row rfl (hr.mono (by decide)) rfl (gAcons (gVar 12) (gAnil)) (acons_len (anil_len))) (by decide))
            (bCons (sSet_ sc_law.nd rfl (by first | exact Or.inl rfl | exact Or.inr rfl) (PNG.frz (nCallTy cListOf rfl (c.free 9 rfl) (by decide +kernel) (gAcons (gVar 1) (gAnil)))))
            (bCons (sSet_ sc_law.nd rfl (by first | exact Or.inl rfl | exact Or.inr rfl) (callP h_log_text rfl (hr.mono (by decide)) rfl (gAcons (gVar 3) (gAnil)) (acons_len (anil_len))))
            (bCons (sIf_ (gW (gWor (gTnot (gTval (gCaB cIsI rfl (c.free 13 rfl) (by decide +kernel) (gAcons (gVar 4) (gAcons (gTyN rfl (c.free 10 rfl) (by decide +kernel)) (gAnil)))))) (gWor (gCmpT (oNe hr.units) (gVar 4) (gJoin_ (gStr) (gVar 2)) (nomark _)) (gWor1 (gCmpT (oNe hr.units) (gVar 3) (gVar 1) (nomark _))))))
            (bOne (sRet_ (gBl)))
            (bNil))
            (bCons (sFor_ [5, 8] PassesOwn.never rfl (iR1 rfl (c.free 11 rfl) (gAcons (gInt) (gAnil))) (tName sc_law.nd rfl (by first | exact Or.inl rfl | exact Or.inr rfl))
            (bCons (sNew_ sc_law.nd rfl (by first | exact Or.inl rfl | exact Or.inr rfl) (callNX h_log_from rfl (hr.mono (by decide)) rfl (gAcons (gVar 4) (gAnil)) (acons_len (anil_len))))
            (bCons (sIf_ (gTnot (gTval (callL h_law_alike rfl (hr.mono (by decide)) rfl (gAcons (gVar 8) (gAcons (gVar 1) (gAnil))) (acons_len (acons_len (anil_len))))))
            (bOne (sRet_ (gBl)))
            (bNil))
            (bOne (sMut_ PySem.F.plainAttrs_list PySem.F.slot_list_append PySem.F.type_list_append wApp (gVar 8) (gAcons (gTup (gAcons (gStr) (gAcons (gInt) (gAnil)))) (gAnil)))))))
            (bCons (sSet_ sc_law.nd rfl (by first | exact Or.inl rfl | exact Or.inr rfl) (callP h_law_mixed rfl (hr.mono (by decide)) rfl (gAcons (callP h_law_cell_at rfl (hr.mono (by decide)) rfl (gAcons (gVar 0) (gAcons (gInt) (gAnil))) (acons_len (acons_len (anil_len)))) (gAcons (gInt) (gAnil))) (acons_len (acons_len (anil_len)))))
            (bCons (sIf_ (gCmpT (oEq hr.units) (gVar 1) (gLst (gAnil)) (nomark _))
            (bOne (sRet_ (gCmp (oEq hr.units) (callP h_law_refusal rfl (hr.mono (by decide)) rfl (gAcons (gStr) (gAnil)) (acons_len (anil_len))) (gInt) (nomark _))))
            (bNil))
            (bCons (sIf_ (gCmpT (oEq hr.units) (gBin oMod (gVar 6) (gInt)) (gInt) (nomark _))
            (bCons (sSet_ sc_law.nd rfl (by first | exact Or.inl rfl | exact Or.inr rfl) (gSlice oCut (gBin oMul (gVar 2) (gInt)) (gOnone) (gOsome (gInt))))
            (bOne (sRet_ (gAnd (gCmp (oEq hr.units) (callP h_law_refusal rfl (hr.mono (by decide)) rfl (gAcons (gJoin_ (gStr) (gVar 9)) (gAnil)) (acons_len (anil_len))) (gInt) (nomark _)) (gAnd1 (gCmp (oEq hr.units) (callP h_law_refusal rfl (hr.mono (by decide)) rfl (gAcons (gJoin_ (gStr) (gBin oAdd (gVar 9) (gLst (gAcons (gItem_ hr.units (gVar 2) (gInt)) (gAnil))))) (gAnil)) (acons_len (anil_len))) (gInt) (nomark _)))))))
            (bNil))
            (bCons (sSet_ sc_law.nd rfl (by first | exact Or.inl rfl | exact Or.inr rfl) (gBin oMod (gBin oDiv (gVar 6) (gInt)) (gCaB cLen rfl (c.free 0 rfl) (by decide +kernel) (gAcons (gVar 2) (gAnil)))))
            (bCons (sPut_ hr.units (gVar 2) (gVar 7) (callP h_law_spoilt rfl (hr.mono (by decide)) rfl (gAcons (gItem_ hr.units (gVar 2) (gVar 7)) (gAcons (gBin oDiv (gVar 6) (gInt)) (gAnil))) (acons_len (acons_len (anil_len)))))
            (bCons (sIf_ (gW (gWand (gCmpT (oEq hr.units) (gCaB cLen rfl (c.free 0 rfl) (by decide +kernel) (gAcons (gVar 2) (gAnil))) (gInt) (nomark _)) (gWand1 (gCmpT (oEq hr.units) (gItem_ hr.units (gVar 2) (gInt)) (gStr) (nomark _)))))
            (bOne (sRet_ (gCmp (oEq hr.units) (callPX h_log_from rfl (hr.mono (by decide)) rfl (gAcons (gStr) (gAnil)) (acons_len (anil_len))) (gLst (gAnil)) (nomark _))))
            (bNil))
            (bCons (sFrz_ 2 (sIf_ (gW (gWand (gCmpT oLt (gBin oAdd (gVar 7) (gInt)) (gCaB cLen rfl (c.free 0 rfl) (by decide +kernel) (gAcons (gVar 2) (gAnil))) (nomark _)) (gWand1 (gCmpT (oEq hr.units) (gBin oMod (gBin oDiv (gVar 6) (gInt)) (gInt)) (gInt) (nomark _)))))
            (bOne (sPut_ hr.units (gVar 2) (gBin oSub (gCaB cLen rfl (c.free 0 rfl) (by decide +kernel) (gAcons (gVar 2) (gAnil))) (gInt)) (gStr)))
            (bNil)))
            (bOne (sRet_ (gCmp (oEq hr.units) (callP h_law_refusal rfl (hr.mono (by decide)) rfl (gAcons (gJoin_ (gStr) (gVar 2)) (gAnil)) (acons_len (anil_len))) (gBin oAdd (gVar 7) (gInt)) (nomark _)))))))))))))))))
end
abbrev R : PySem.W.OpenRow := PySem.W.OpenLaw.row PySem.Challenge.rw_meterbook_k20_log_texts
abbrev hk : PySem.W.Hook := G.hookE 5 fas fns exK
def ob (s : PySem.W.SharedT) : Bool × He.AlD := G.obsE 5 fas fns exK (HandSHeadRun.getT s)
theorem ob_eq (s : PySem.W.SharedT) : ob s = hk.obs s.abs := G.obsE_eq (HandSHeadRun.getT_eq s)
theorem run (w : World) : HandSHeadRun.RunEq R (PySem.W.view R.prog [29]) hk ob 3000 loose w := by
  intro os
  kernel_rfl
end W
open PySem PySem.W PySem.Calls PyProof.Rows
theorem PySem.Challenge.cw_meterbook_k20_log_texts_holds : PySem.Challenge.rw_meterbook_k20_log_texts.Holds := by
  w_on; o_law
  refine HandSHeadRun.head_any (r := OpenLaw.row PySem.Challenge.rw_meterbook_k20_log_texts) (q := view (OpenLaw.row PySem.Challenge.rw_meterbook_k20_log_texts).prog [29]) (H := _root_.W.hk) (ob := _root_.W.ob) (M := 3000) (loose := _root_.W.loose) (d := HandSHeadRun.topDef (OpenLaw.row PySem.Challenge.rw_meterbook_k20_log_texts).prog 29) (kwd := []) _root_.W.ob_eq
    (by kernel_rfl) (fun s => by kernel_rfl) _root_.W.run (by kernel_rfl) (by kernel_rfl) (by kernel_rfl) (by rfl) (by first | assumption | decide +kernel) (by decide +kernel) ⟨rfl, rfl, rfl, rfl, rfl, by decide +kernel⟩ ?hw ?hc
  case hw => w_witness2
  case hc =>
    refine L2.walk_ofE (l := PySem.Challenge.rw_meterbook_k20_log_texts) (n := 63) (k := 5) (x := "_law_script") (CX := L2.CX0) rfl (by decide) (by kernel_rfl) ⟨rfl, by decide, by decide⟩ ?F (fun _ _ _ _ z => z)
    intro w mg fa h Y G0 hmg0
    obtain ⟨K, KX, c, ex⟩ := Y
    have hmg : mg ("law" : PySem.Str) = some (.ref fa) := by
      have e : (HandSHeadRun.topDef (OpenLaw.row PySem.Challenge.rw_meterbook_k20_log_texts).prog 29).name = ("law" : PySem.Str) := by kernel_rfl
      rw [← e]
      exact hmg0
    have cx : _root_.W.Ctx K mg := ⟨⟨h, KX, G0⟩, c, of_decide_eq_true ex⟩
    have e := hmg.symm.trans (cx.glo 38 rfl)
    cases e
    obtain ⟨fd, F⟩ := c.def_ 15 (d := _root_.W.d_law) rfl
    have b := L2.FunD.bindsA (ps := ["_law_script"]) F fun _ _ _ _ _ _ us hl => match us, hl with | [_], _ => rfl
    refine ⟨K, fd, fun vs H Q _ => G.spI ⟨K, _root_.W.CK K⟩ 1 I_law vs H Q L2.E0, KX, fun s v => b s [v] rfl, fun H a ns hl _ hS => G.law_ok law_true H a ns hl hS, fun base _ _ => ?_⟩
    exact _root_.W.law_fn cx F
