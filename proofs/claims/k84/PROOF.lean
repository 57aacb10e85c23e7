import PyProof.Rows.All
import Wide.All
import OpenK.AllK
import Wide.FinOn
import PyProof.EqAt
import PyProof.EqKinds
import PyProof.TupleCall
import HandS.ForMost
import HandS.Exc
import HandS.TryOnly
import HandS.ExcOwn
import HandS.WordsExc
import HandS.HeadHook1
import HandS.ExcCtx
import HandS.SuiteRaise
import HandS.ExcInitHot
import HandS.RaiseFrom
import HandS.Defaults
import HandS.Wide
import HandS.WideBits
import HandS.RaiseMore
import HandS.FStr
import HandS.IsInst
import HandS.More
import HandS.Star
import HandS.Property
import HandS.ClsMeth
import KE.KSuper
import HandS.Nested
import HandS.ExcField
import HandS.ExcIs
import PyProof.NeKinds
import HandS.OwnEq
import KE.KCallOwn
import PyProof.StrHeap
import PyProof.ReprReads
import PyProof.CallFns
import HandS.SortKw
import PyProof.MinMaxWalk
import PyProof.WalkInts
import KE.KExcIs
import PySem.Challenge.RW_agreeingcasts_k84_written_expressions
import PyProof.ReprHeadsTuple
import PyProof.ReprNest
import HandS.HeadHook2
import KE.KStateDown
import HandS.Head0
import HandS.Head1
import HandS.Head2
import HandS.Ends
import HandS.EndBits
import HandS.HeadEnd
import HandS.Codes
import KE.IntTextText
import PyProof.P3Eq
section
set_option Elab.async false
set_option linter.all false
set_option maxRecDepth 100000
set_option maxHeartbeats 2000000
/-! PD: plain data over the hand layer: what an expression, a block, a def is worth as a total function of plain data. -/
namespace PD
open PySem PySem.Spec PyProof.Rows L2

/-- plain data -/
inductive D where
  | non | bl (b : Bool) | int (i : Int) | str (x : Str)
  | lst (xs : List D) | tup (xs : List D) | obj (c : Str) (ns : List Str) (ds : List D) | dct (ks : List Key) (ds : List D)
  deriving Inhabited

mutual
/-- in the part F of the heap, which never changes, v stands for d -/
inductive Rep (K : PySem.W.Frag) (F : Hp) : D → V → Prop where
  | non : Rep K F .non .non
  | bl (b : Bool) : Rep K F (.bl b) (.bl b)
  | int (i : Int) : Rep K F (.int i) (.int i)
  | str (x : Str) : Rep K F (.str x) (.str x)
  | lst {ds : List D} {a : Addr} {vs : List V} : SqL K F a vs → Reps K F ds vs → Rep K F (.lst ds) (.ref a)
  | tup {ds : List D} {a : Addr} {vs : List V} : SqT K F a vs → Reps K F ds vs → Rep K F (.tup ds) (.ref a)
  | obj {c : Str} {ns : List Str} {ds : List D} {a dx : Addr} {vs : List V} : F a = some (.ins (He.ga K c) dx (ns.zip vs)) → ns.length = vs.length → Reps K F ds vs → Rep K F (.obj c ns ds) (.ref a)
  | dct {ks : List Key} {ds : List D} {a : Addr} {vs : List V} : F a = some (.dK (ks.zip vs)) → ks.length = vs.length → Reps K F ds vs → Rep K F (.dct ks ds) (.ref a)
inductive Reps (K : PySem.W.Frag) (F : Hp) : List D → List V → Prop where
  | nil : Reps K F [] []
  | cons {d : D} {v : V} {ds : List D} {vs : List V} : Rep K F d v → Reps K F ds vs → Reps K F (d :: ds) (v :: vs)
end

/-- an own exception in the air: its class's name, its fields -/
structure Exn where
  c : Str
  ns : List Str
  ds : List D

section
variable {K : PySem.W.Frag} {F F' G H H' : Hp}
theorem same_seqT {a : Addr} {xs : List V} (e : Same F F') (h : SqT K F a xs) : SqT K F' a xs := by
  rcases h with (h | ⟨o, h⟩) | h
  · exact .inl (.inl (e _ _ h))
  · exact .inl (.inr ⟨o, e _ _ h⟩)
  · exact .inr h
mutual
theorem Rep.mono (e : Same F F') : ∀ {d : D} {v : V}, Rep K F d v → Rep K F' d v
  | _, _, .non => .non
  | _, _, .bl b => .bl b
  | _, _, .int i => .int i
  | _, _, .str x => .str x
  | _, _, .lst h r => .lst (Same.seq e h) (Reps.mono e r)
  | _, _, .tup h r => .tup (same_seqT e h) (Reps.mono e r)
  | _, _, .obj h l r => .obj (e _ _ h) l (Reps.mono e r)
  | _, _, .dct h l r => .dct (e _ _ h) l (Reps.mono e r)
theorem Reps.mono (e : Same F F') : ∀ {ds : List D} {vs : List V}, Reps K F ds vs → Reps K F' ds vs
  | _, _, .nil => .nil
  | _, _, .cons h r => .cons (Rep.mono e h) (Reps.mono e r)
end
theorem Reps.length : ∀ {ds : List D} {vs : List V}, Reps K F ds vs → ds.length = vs.length
  | _, _, .nil => rfl
  | _, _, .cons _ r => congrArg (· + 1) (Reps.length r)
theorem Reps.get : ∀ {ds : List D} {vs : List V} {i : Nat} {d : D}, Reps K F ds vs → ds[i]? = some d → ∃ v, vs[i]? = some v ∧ Rep K F d v
  | _, _, _, _, .nil, e => by simp at e
  | _, _, 0, _, .cons h _, e => by simp at e; subst e; exact ⟨_, rfl, h⟩
  | _, _, i + 1, d, .cons _ r, e => by
    obtain ⟨v, h1, h2⟩ := Reps.get (i := i) (d := d) r (by simpa using e)
    exact ⟨v, by simpa using h1, h2⟩
theorem Reps.getV : ∀ {ds : List D} {vs : List V} {i : Nat} {v : V}, Reps K F ds vs → vs[i]? = some v → ∃ d, ds[i]? = some d ∧ Rep K F d v
  | _, _, _, _, .nil, e => by simp at e
  | _, _, 0, _, .cons h _, e => by simp at e; subst e; exact ⟨_, rfl, h⟩
  | _, _, i + 1, d, .cons _ r, e => by
    obtain ⟨v, h1, h2⟩ := Reps.getV (i := i) r (by simpa using e)
    exact ⟨v, by simpa using h1, h2⟩
theorem Reps.append : ∀ {ds es : List D} {vs ws : List V}, Reps K F ds vs → Reps K F es ws → Reps K F (ds ++ es) (vs ++ ws)
  | _, _, _, _, .nil, r => r
  | _, _, _, _, .cons h r, s => .cons h (Reps.append r s)
theorem Reps.take : ∀ {ds : List D} {vs : List V} (n : Nat), Reps K F ds vs → Reps K F (ds.take n) (vs.take n)
  | _, _, 0, _ => .nil
  | _, _, _ + 1, .nil => .nil
  | _, _, n + 1, .cons h r => .cons h (Reps.take n r)
theorem Reps.drop : ∀ {ds : List D} {vs : List V} (n : Nat), Reps K F ds vs → Reps K F (ds.drop n) (vs.drop n)
  | _, _, 0, r => r
  | _, _, _ + 1, .nil => .nil
  | _, _, n + 1, .cons _ r => Reps.drop n r
theorem Reps.set : ∀ {ds : List D} {vs : List V} {d : D} {v : V} (i : Nat), Reps K F ds vs → Rep K F d v → Reps K F (ds.set i d) (vs.set i v)
  | _, _, _, _, _, .nil, _ => .nil
  | _, _, _, _, 0, .cons _ r, h => .cons h r
  | _, _, _, _, i + 1, .cons h r, q => .cons h (Reps.set i r q)
theorem Reps.eraseIdx : ∀ {ds : List D} {vs : List V} (i : Nat), Reps K F ds vs → Reps K F (ds.eraseIdx i) (vs.eraseIdx i)
  | _, _, _, .nil => .nil
  | _, _, 0, .cons _ r => r
  | _, _, i + 1, .cons h r => .cons h (Reps.eraseIdx i r)

/-! ### the state: slots -/
/-- what is one's own: a list, an instance, a dict -/
inductive OC where
  | lst (ds : List D) | ins (c : Str) (ns : List Str) (ds : List D) | dct (ks : List Key) (ds : List D)
def OcOk (K : PySem.W.Frag) (F : Hp) : OC → HO → Prop
  | .lst ds, .lst vs => Reps K F ds vs
  | .ins c ns ds, .ins C _ fs => ∃ vs, C = He.ga K c ∧ fs = ns.zip vs ∧ ns.length = vs.length ∧ Reps K F ds vs
  | .dct ks ds, .dK kvs => ∃ vs, kvs = ks.zip vs ∧ ks.length = vs.length ∧ Reps K F ds vs
  | _, _ => False
theorem OcOk.mono (e : Same F F') {o : OC} {u : HO} (h : OcOk K F o u) : OcOk K F' o u := by
  cases o with
  | lst ds => cases u with
    | lst vs => exact Reps.mono e h
    | _ => exact h.elim
  | ins c ns ds => cases u with
    | ins C dx fs =>
      obtain ⟨vs, h1, h2, h3, h4⟩ := h
      exact ⟨vs, h1, h2, h3, h4.mono e⟩
    | _ => exact h.elim
  | dct ks ds => cases u with
    | dK kvs =>
      obtain ⟨vs, h2, h3, h4⟩ := h
      exact ⟨vs, h2, h3, h4.mono e⟩
    | _ => exact h.elim
/-- .. as a datum -/
def OC.d : OC → D
  | .lst ds => .lst ds
  | .ins c ns ds => .obj c ns ds
  | .dct ks ds => .dct ks ds
theorem OcOk.rep {a : Addr} {o : OC} {u : HO} (h : F a = some u) (r : OcOk K F o u) : Rep K F o.d (.ref a) := by
  cases o with
  | lst ds => cases u with
    | lst vs => exact .lst (SqL.of h) r
    | _ => exact r.elim
  | ins c ns ds => cases u with
    | ins C dx fs =>
      obtain ⟨vs, h1, h2, h3, h4⟩ := r
      subst h1 h2
      exact .obj h h3 h4
    | _ => exact r.elim
  | dct ks ds => cases u with
    | dK kvs =>
      obtain ⟨vs, h2, h3, h4⟩ := r
      subst h2
      exact .dct h h3 h4
    | _ => exact r.elim
/-- what a slot is worth: nothing, a datum, a thing that is this slot's own -/
inductive Sl where
  | emp | val (d : D) | own (o : OC)
def Sl.isOwn : Sl → Bool
  | .own _ => true
  | _ => false
abbrev En := List Sl
def SlOk (K : PySem.W.Frag) (F H : Hp) : Option V → Sl → Prop
  | _, .emp => True
  | some v, .val d => Rep K F d v
  | some v, .own o => ∃ a u, v = .ref a ∧ H a = some u ∧ F a = none ∧ OcOk K F o u
  | none, _ => False
/-- the addresses of the own lists -/
def Own (σ : L2.St) (ρ : En) (b : Addr) : Prop := ∃ (i : Nat) (d : OC), ρ[i]? = some (Sl.own d) ∧ σ[i]? = some (some (V.ref b))
structure StOk (K : PySem.W.Frag) (F H : Hp) (σ : L2.St) (ρ : En) : Prop where
  same : Same F H
  len : σ.length = ρ.length
  sl : ∀ (i : Nat) x s, σ[i]? = some x → ρ[i]? = some s → SlOk K F H x s
  inj : ∀ (i j : Nat) a d e, ρ[i]? = some (.own d) → ρ[j]? = some (.own e) → σ[i]? = some (some (.ref a)) → σ[j]? = some (some (.ref a)) → i = j
/-- how heap and part grow; the lists at O may change -/
structure Grow (O : Addr → Prop) (F H F' H' : Hp) : Prop where
  ff : Same F F'
  hh : ∀ b o, H b = some o → ¬ O b → H' b = some o
  ht : ∀ b, H b ≠ none → H' b ≠ none
  fr : ∀ b, H b ≠ none → F b = none → F' b = none
theorem Grow.refl {O : Addr → Prop} : Grow O F H F H := ⟨Same.refl _, fun _ _ h _ => h, fun _ h => h, fun _ _ h => h⟩
theorem Grow.trans {O : Addr → Prop} {F2 H2 : Hp} (a : Grow O F H F' H') (b : Grow O F' H' F2 H2) : Grow O F H F2 H2 :=
  ⟨a.ff.trans b.ff, fun c o h n => b.hh c o (a.hh c o h n) n, fun c h => b.ht c (a.ht c h), fun c h q => b.fr c (a.ht c h) (a.fr c h q)⟩
theorem Grow.imp {O O' : Addr → Prop} (a : Grow O F H F' H') (h : ∀ b, O b → O' b) : Grow O' F H F' H' := ⟨a.ff, fun c o q n => a.hh c o q fun z => n (h c z), a.ht, a.fr⟩
/-- nothing changes -/
abbrev Gr (F H F' H' : Hp) : Prop := Grow (fun _ => False) F H F' H'
theorem Grow.same {F' H' : Hp} (g : Gr F H F' H') : Same H H' := fun b o h => g.hh b o h fun z => z
abbrev shape (ρ : En) : List Bool := ρ.map Sl.isOwn
theorem own_shape {σ : L2.St} {ρ ρ' : En} (e : shape ρ' = shape ρ) {b : Addr} : Own σ ρ' b ↔ Own σ ρ b := by
  have key : ∀ {ρ ρ' : En}, shape ρ' = shape ρ → Own σ ρ' b → Own σ ρ b := fun {ρ ρ'} e ⟨i, d, h1, h2⟩ => by
    have q : (shape ρ')[i]? = some true := by rw [List.getElem?_map, h1]; rfl
    rw [e, List.getElem?_map] at q
    cases r : ρ[i]? with
    | none => rw [r] at q; cases q
    | some s =>
      rw [r] at q
      cases s with
      | own ds => exact ⟨i, ds, r, h2⟩
      | emp => cases q
      | val d => cases q
  exact ⟨key e, key e.symm⟩
theorem StOk.own_at {σ : L2.St} {ρ : En} (s : StOk K F H σ ρ) {b : Addr} (o : Own σ ρ b) : ∃ u, H b = some u ∧ F b = none := by
  obtain ⟨i, d, h1, h2⟩ := o
  have := s.sl i _ _ h2 h1
  obtain ⟨a, vs, e, h, f, _⟩ := this
  cases e
  exact ⟨vs, h, f⟩
/-- the part may grow by what no own list is -/
theorem StOk.grow {σ : L2.St} {ρ : En} (s : StOk K F H σ ρ) (g : Gr F H F' H') (e : Same F' H') : StOk K F' H' σ ρ :=
  ⟨e, s.len, fun i x sl h1 h2 => by
    have q := s.sl i x sl h1 h2
    cases sl with
    | emp => cases x <;> trivial
    | val d => cases x with
      | none => exact q
      | some v => exact Rep.mono g.ff q
    | own ds => cases x with
      | none => exact q
      | some v =>
        obtain ⟨a, vs, r1, r2, r3, r4⟩ := q
        exact ⟨a, vs, r1, g.same _ _ r2, g.fr _ (by rw [r2]; exact fun z => nomatch z) r3, r4.mono g.ff⟩, s.inj⟩
end

/-! ### what evaluation ends in -/
inductive Res (α : Type) where
  | ok (a : α) (ρ : En)
  | er (x : Exn) (ρ : En)
  | no
/-- a value: a datum, or a list that was made and that nothing else holds -/
inductive RV where
  | val (d : D) | fr (o : OC)
/-- .. frozen -/
def RV.d : RV → D
  | .val d => d
  | .fr o => o.d
def Res.env {α : Type} : Res α → En
  | .ok _ ρ => ρ
  | _ => []
def Res.bind {α β : Type} (r : Res α) (k : α → En → Res β) : Res β := match r with
  | .ok a ρ => k a ρ
  | .er x ρ => .er x ρ
  | .no => .no
abbrev M := En → Res RV
abbrev MA := En → Res (List D)
abbrev MT := En → Res Bool

def RepX (K : PySem.W.Frag) (F : Hp) (x : Exn) (cls : Value) (d : Option Addr) : Prop :=
  cls = .ref (He.ga K x.c) ∧ ∃ dd vs, d = some dd ∧ F dd = some (.xd (x.ns.zip vs)) ∧ x.ns.length = vs.length ∧ Reps K F x.ds vs

/-- how a value comes: H0 the heap ahead of it -/
def RepV (K : PySem.W.Frag) (H0 F H : Hp) : RV → V → Prop
  | .val d, v => Rep K F d v
  | .fr o, v => ∃ p u, v = .ref p ∧ H0 p = none ∧ F p = none ∧ H p = some u ∧ OcOk K F o u

/-- the end of an evaluation, R: how the result comes -/
def Post {α β : Type} (K : PySem.W.Frag) (W : WX) (R : Hp → Hp → Hp → α → β → Prop) (σ : L2.St) (ρ : En) (F H : Hp) (r : Res α) (Q : β → Hp → Prop) : Prop := match r with
  | .ok a ρ' => ∀ b F' H', Grow (Own σ ρ) F H F' H' → StOk K F' H' σ ρ' → shape ρ' = shape ρ → R H F' H' a b → Q b H'
  | .er x ρ' => ∀ cls d F' H', Grow (Own σ ρ) F H F' H' → StOk K F' H' σ ρ' → shape ρ' = shape ρ → RepX K F' x cls d → W cls d σ H'
  | .no => False

abbrev RT : Hp → Hp → Hp → Bool → Bool → Prop := fun _ _ _ a b => b = a
abbrev RA (K : PySem.W.Frag) : Hp → Hp → Hp → List D → List V → Prop := fun _ F _ ds vs => Reps K F ds vs

def tE (K : PySem.W.Frag) (W : WX) (ρ : En) (r : Res RV) : TE := fun σ H Q => ∃ F, StOk K F H σ ρ ∧ Post K W (RepV K) σ ρ F H r Q
def tT (K : PySem.W.Frag) (W : WX) (ρ : En) (r : Res Bool) : TT := fun σ H Q => ∃ F, StOk K F H σ ρ ∧ Post K W RT σ ρ F H r Q
def tA (K : PySem.W.Frag) (W : WX) (ρ : En) (r : Res (List D)) : TA := fun σ H Q => ∃ F, StOk K F H σ ρ ∧ Post K W (RA K) σ ρ F H r Q

structure PX (X : Cx) (W : WX) (e : Expr) (m : M) : Prop where
  run : ∀ ρ, PE X e (tE X.K W ρ (m ρ))
structure PXT (X : Cx) (W : WX) (e : Expr) (m : MT) : Prop where
  run : ∀ ρ, PT X e (tT X.K W ρ (m ρ))
structure PXW (X : Cx) (W : WX) (e : Expr) (m : MT) : Prop where
  run : ∀ ρ, PW X e (tT X.K W ρ (m ρ))
structure PXA (X : Cx) (W : WX) (es : List Expr) (m : MA) : Prop where
  run : ∀ ρ, PA X es (tA X.K W ρ (m ρ))

theorem PE.imp {X : Cx} {e : Expr} {t u : TE} (h : PE X e t) (i : ∀ σ H Q, u σ H Q → t σ H Q) : PE X e u := ⟨fun pins s σ H Q I q => h.run pins s σ H Q I (i _ _ _ q)⟩
theorem PT.imp {X : Cx} {e : Expr} {t u : TT} (h : PT X e t) (i : ∀ σ H Q, u σ H Q → t σ H Q) : PT X e u := ⟨fun pins s σ H Q I q => h.run pins s σ H Q I (i _ _ _ q)⟩
theorem PW.imp {X : Cx} {e : Expr} {t u : TT} (h : PW X e t) (i : ∀ σ H Q, u σ H Q → t σ H Q) : PW X e u := ⟨fun wh pins s σ H Q I q => h.run wh pins s σ H Q I (i _ _ _ q)⟩
theorem PA.imp {X : Cx} {e : List Expr} {t u : TA} (h : PA X e t) (i : ∀ σ H Q, u σ H Q → t σ H Q) : PA X e u := ⟨fun pos pins s σ H Q I q => h.run pos pins s σ H Q I (i _ _ _ q)⟩

section
variable {K : PySem.W.Frag} {W : WX} {σ : L2.St} {ρ ρ1 : En} {F F1 H H1 : Hp} {α β γ δ : Type} {R : Hp → Hp → Hp → α → β → Prop} {S : Hp → Hp → Hp → γ → δ → Prop}

/-- from a later state -/
theorem Post.step {r : Res α} {Q : β → Hp → Prop} (hR : ∀ F' H' a b, R H1 F' H' a b → R H F' H' a b) (g : Grow (Own σ ρ) F H F1 H1) (sh : shape ρ1 = shape ρ) (h : Post K W R σ ρ F H r Q) : Post K W R σ ρ1 F1 H1 r Q := by
  have oi : ∀ b, Own σ ρ1 b → Own σ ρ b := fun b => (own_shape sh).mp
  cases r with
  | ok a ρ' => exact fun b F' H' g' s' sh' q => h b F' H' (g.trans (g'.imp oi)) s' (sh'.trans sh) (hR _ _ _ _ q)
  | er x ρ' => exact fun c d F' H' g' s' sh' q => h c d F' H' (g.trans (g'.imp oi)) s' (sh'.trans sh) q
  | no => exact h

/-- what follows an evaluation's end. G: the goal's relation is kept from a later heap on -/
theorem Post.bind {r : Res α} {k : α → En → Res γ} {Q : δ → Hp → Prop} {T : β → Hp → Prop} (h : Post K W S σ ρ F H (r.bind k) Q) (hS : ∀ H H1 F' H' c d, (∀ b, H b ≠ none → H1 b ≠ none) → S H1 F' H' c d → S H F' H' c d)
    (hk : ∀ a ρ1 b F1 H1, r.env = ρ1 → r = .ok a ρ1 → Grow (Own σ ρ) F H F1 H1 → StOk K F1 H1 σ ρ1 → shape ρ1 = shape ρ → R H F1 H1 a b → Post K W S σ ρ1 F1 H1 (k a ρ1) Q → T b H1) : Post K W R σ ρ F H r T := by
  cases r with
  | ok a ρ1 => exact fun b F1 H1 g s sh q => hk a ρ1 b F1 H1 rfl rfl g s sh q (Post.step (fun F' H' c d => hS H H1 F' H' c d g.ht) g sh h)
  | er x ρ1 => exact fun c d F1 H1 g s sh q => h c d F1 H1 g s sh q
  | no => exact h
theorem repV_back {K : PySem.W.Frag} (H H1 F' H' : Hp) (c : RV) (d : V) (k : ∀ b, H b ≠ none → H1 b ≠ none) (h : RepV K H1 F' H' c d) : RepV K H F' H' c d := by
  cases c with
  | val x => exact h
  | fr ds =>
    obtain ⟨p, vs, e, q, r⟩ := h
    exact ⟨p, vs, e, Decidable.byContradiction fun z => k p z q, r⟩
theorem rt_back (H H1 F' H' : Hp) (c d : Bool) (k : ∀ b, H b ≠ none → H1 b ≠ none) (h : RT H1 F' H' c d) : RT H F' H' c d := h
theorem ra_back {K : PySem.W.Frag} (H H1 F' H' : Hp) (c : List D) (d : List V) (k : ∀ b, H b ≠ none → H1 b ≠ none) (h : RA K H1 F' H' c d) : RA K H F' H' c d := h
end
end PD
end
section
set_option Elab.async false
set_option linter.all false
set_option maxRecDepth 100000
set_option maxHeartbeats 2000000
namespace PD
open PySem PySem.Spec PyProof.Rows L2

section
variable {K : PySem.W.Frag} {W : WX} {σ : L2.St} {ρ ρ1 : En} {F F1 H H1 : Hp} {α β γ δ : Type} {S : Hp → Hp → Hp → γ → δ → Prop}

/-- a made list is frozen -/
theorem freeze {a : RV} {v : V} (s0 : StOk K F H σ ρ) (g : Grow (Own σ ρ) F H F1 H1) (s : StOk K F1 H1 σ ρ1) (sh : shape ρ1 = shape ρ) (q : RepV K H F1 H1 a v) : ∃ F2, Grow (Own σ ρ) F H F2 H1 ∧ StOk K F2 H1 σ ρ1 ∧ Rep K F2 a.d v := by
  cases a with
  | val d => exact ⟨F1, g, s, q⟩
  | fr oc =>
    obtain ⟨p, u, rfl, hp, fp, e, r⟩ := q
    have ff : Same F1 (upd F1 p u) := fun b o h => by rw [upd_ne (ne_of_none h fp)]; exact h
    refine ⟨upd F1 p u, ⟨g.ff.trans ff, g.hh, g.ht, fun b h n => ?_⟩, ⟨fun b o h => ?_, s.len, fun i x sl h1 h2 => ?_, s.inj⟩, OcOk.rep upd_same (r.mono ff)⟩
    · have ne : b ≠ p := fun z => h (by rw [z]; exact hp)
      rw [upd_ne ne]
      exact g.fr b h n
    · by_cases hb : b = p
      · subst hb; rw [upd_same] at h; cases h; exact e
      · rw [upd_ne hb] at h; exact s.same b o h
    · have z := s.sl i x sl h1 h2
      cases sl with
      | emp => cases x <;> trivial
      | val d => cases x with
        | none => exact z
        | some v => exact Rep.mono ff z
      | own oc' => cases x with
        | none => exact z
        | some v =>
          obtain ⟨a, ws, r1, r2, r3, r4⟩ := z
          subst r1
          have ow : Own σ ρ a := (own_shape sh).mp ⟨i, oc', h2, h1⟩
          obtain ⟨_, q1, _⟩ := s0.own_at ow
          exact ⟨a, ws, rfl, r2, by rw [upd_ne (ne_of_none q1 hp)]; exact r3, r4.mono ff⟩

/-- what follows the evaluation of an expression, its value frozen -/
theorem Post.bindD {r : Res RV} {k : D → En → Res γ} {Q : δ → Hp → Prop} {T : V → Hp → Prop} (s0 : StOk K F H σ ρ) (h : Post K W S σ ρ F H (r.bind fun a ρ => k a.d ρ) Q) (hS : ∀ H H1 F' H' c d, (∀ b, H b ≠ none → H1 b ≠ none) → S H1 F' H' c d → S H F' H' c d)
    (hk : ∀ d ρ1 v F1 H1, r.env = ρ1 → Grow (Own σ ρ) F H F1 H1 → StOk K F1 H1 σ ρ1 → shape ρ1 = shape ρ → Rep K F1 d v → Post K W S σ ρ1 F1 H1 (k d ρ1) Q → T v H1) : Post K W (RepV K) σ ρ F H r T := by
  cases r with
  | ok a ρ1 =>
    intro v F1 H1 g s sh q
    obtain ⟨F2, g2, s2, r2⟩ := freeze s0 g s sh q
    exact hk a.d ρ1 v F2 H1 rfl g2 s2 sh r2 (Post.step (fun F' H' c d => hS H H1 F' H' c d g2.ht) g2 sh h)
  | er x ρ1 => exact fun c d F1 H1 g s sh q => h c d F1 H1 g s sh q
  | no => exact h
/-- an operation on values at the end -/
theorem Post.fin {a : α} {Q : β → Hp → Prop} {R : Hp → Hp → Hp → α → β → Prop} (s : StOk K F H σ ρ) (h : Post K W R σ ρ F H (.ok a ρ) Q) {b : β} {F' H' : Hp} (g : Gr F H F' H') (e : Same F' H') (q : R H F' H' a b) : Q b H' :=
  h b F' H' (g.imp fun _ z => z.elim) (s.grow g e) rfl q
end

/-! ### names, constants -/
def mC (d : D) : M := fun ρ => .ok (.val d) ρ
def mVar (i : Nat) : M := fun ρ => match ρ[i]? with
  | some (.val d) => .ok (.val d) ρ
  | _ => .no
section
variable {X : Cx} {W : WX} {pos : Pos}
theorem px_var (i : Nat) {x : Str} (hN : X.N[i]? = some x := by rfl) (hv : Vis X.env.scope x := by first | exact Or.inl rfl | exact Or.inr (Or.inl rfl) | exact Or.inr (Or.inr rfl)) (hd : (x == ("__debug__" : Str)) = false := by decide)
    (hcd : (x == ("__classdict__" : Str)) = false := by decide) : PX X W (.Name x pos) (mVar i) := ⟨fun ρ => PE.imp (pv i hN hv hd hcd) fun σ H Q ⟨F, s, h⟩ => by
  unfold mVar at h
  cases e : ρ[i]? with
  | none => rw [e] at h; exact h.elim
  | some sl =>
    rw [e] at h
    cases sl with
    | val d =>
      have hi : i < σ.length := by rw [s.len]; exact (List.getElem?_eq_some_iff.mp e).1
      have z := s.sl i _ _ (List.getElem?_eq_getElem hi) e
      cases q : σ[i] with
      | none => rw [q] at z; exact z.elim
      | some v =>
        rw [q] at z
        exact ⟨v, by rw [List.getElem?_eq_getElem hi, q], h v F H Grow.refl s rfl z⟩
    | emp => exact h.elim
    | own ds => exact h.elim⟩
theorem px_c {e : Expr} {d : D} {v : V} (h : PE X e (tC v)) (r : ∀ F, Rep X.K F d v) : PX X W e (mC d) := ⟨fun ρ => PE.imp h fun σ H Q ⟨F, s, q⟩ => q v F H Grow.refl s rfl (r F)⟩
theorem px_int {i : Int} {j : Nat} : PX X W (.Constant (.int i) j pos) (mC (.int i)) := px_c pe_int fun _ => .int i
theorem px_str {x : Str} {j : Nat} : PX X W (.Constant (.str x) j pos) (mC (.str x)) := px_c pe_str fun _ => .str x
theorem px_bl {b : Bool} {j : Nat} : PX X W (.Constant (.bool b) j pos) (mC (.bl b)) := px_c pe_bl fun _ => .bl b
theorem px_non {j : Nat} : PX X W (.Constant .none j pos) (mC .non) := px_c pe_non fun _ => .non
/-- a module's constant -/
theorem px_glob {x : Str} {v : V} {u : Value} {d : D} (hm : X.mg x = some u) (r : RelV v u) (rd : ∀ F, Rep X.K F d v) (hg : Gl X x := by rfl) (hd : (x == ("__debug__" : Str)) = false := by decide) : PX X W (.Name x pos) (mC d) := px_c (pe_glob hg hm r hd) rd
theorem px_gint {x : Str} {i : Int} (hm : ∃ t, X.mg x = some (.int i t)) (hg : Gl X x := by rfl) (hd : (x == ("__debug__" : Str)) = false := by decide) : PX X W (.Name x pos) (mC (.int i)) :=
  let ⟨t, h⟩ := hm; px_glob (v := .int i) h ⟨t, rfl⟩ (fun _ => .int i) hg hd
theorem px_gstr {x z : Str} (hm : ∃ t, X.mg x = some (.str z t)) (hg : Gl X x := by rfl) (hd : (x == ("__debug__" : Str)) = false := by decide) : PX X W (.Name x pos) (mC (.str z)) :=
  let ⟨t, h⟩ := hm; px_glob (v := .str z) h ⟨t, rfl⟩ (fun _ => .str z) hg hd
end

/-! ### operations on values -/
def rD1 (K : PySem.W.Frag) (g : D → Option RV) : V → Hp → VK → Prop := fun x H Q => ∃ F a r, Same F H ∧ Rep K F a x ∧ g a = some r ∧ ∀ z F' H', Gr F H F' H' → Same F' H' → RepV K H F' H' r z → Q z H'
def rD2 (K : PySem.W.Frag) (g : D → D → Option RV) : R2 := fun x y H Q => ∃ F a b r, Same F H ∧ Rep K F a x ∧ Rep K F b y ∧ g a b = some r ∧ ∀ z F' H', Gr F H F' H' → Same F' H' → RepV K H F' H' r z → Q z H'
def rDL (K : PySem.W.Frag) (g : List D → Option RV) : List V → Hp → VK → Prop := fun xs H Q => ∃ F ds r, Same F H ∧ Reps K F ds xs ∧ g ds = some r ∧ ∀ z F' H', Gr F H F' H' → Same F' H' → RepV K H F' H' r z → Q z H'
def optR (r : Option RV) (ρ : En) : Res RV := match r with
  | some a => .ok a ρ
  | none => .no
def mUn (g : D → Option RV) (ma : M) : M := fun ρ => (ma ρ).bind fun a ρ1 => optR (g a.d) ρ1
def mOp (g : D → D → Option RV) (ma mb : M) : M := fun ρ => (ma ρ).bind fun a ρ1 => (mb ρ1).bind fun b ρ2 => optR (g a.d b.d) ρ2
def mNil : MA := fun ρ => .ok [] ρ
def mCons (m : M) (ms : MA) : MA := fun ρ => (m ρ).bind fun a ρ1 => (ms ρ1).bind fun ds ρ2 => .ok (a.d :: ds) ρ2
def mB (g : List D → Option RV) (ms : MA) : M := fun ρ => (ms ρ).bind fun ds ρ1 => optR (g ds) ρ1

section
variable {K : PySem.W.Frag} {W : WX} {σ : L2.St} {ρ : En} {F H : Hp} {Q : VK}
theorem Post.optR {r : Option RV} (h : Post K W (RepV K) σ ρ F H (PD.optR r ρ) Q) : ∃ a, r = some a ∧ Post K W (RepV K) σ ρ F H (.ok a ρ) Q := by
  cases r with
  | none => exact h.elim
  | some a => exact ⟨a, rfl, h⟩
theorem un_imp {g : D → Option RV} {ma : M} (h : tE K W ρ (mUn g ma ρ) σ H Q) : tUn (rD1 K g) (tE K W ρ (ma ρ)) σ H Q := by
  obtain ⟨F, s, h⟩ := h
  refine ⟨F, s, Post.bindD (k := fun a ρ1 => optR (g a) ρ1) s h repV_back fun d ρ1 v F1 H1 _ g1 s1 sh1 r1 h1 => ?_⟩
  obtain ⟨a, e, h2⟩ := h1.optR
  exact ⟨F1, d, a, s1.same, r1, e, fun z F' H' g' e' q => Post.fin s1 h2 g' e' q⟩
theorem op_imp {g : D → D → Option RV} {ma mb : M} (h : tE K W ρ (mOp g ma mb ρ) σ H Q) : tOp (rD2 K g) (tE K W ρ (ma ρ)) (tE K W (ma ρ).env (mb (ma ρ).env)) σ H Q := by
  obtain ⟨F, s, h⟩ := h
  refine ⟨F, s, Post.bindD (k := fun a ρ1 => (mb ρ1).bind fun b ρ2 => optR (g a b.d) ρ2) s h repV_back fun d ρ1 v F1 H1 e1 g1 s1 sh1 r1 h1 => ?_⟩
  rw [e1]
  refine ⟨F1, s1, Post.bindD (k := fun b ρ2 => optR (g d b) ρ2) s1 h1 repV_back fun d2 ρ2 v2 F2 H2 e2 g2 s2 sh2 r2 h2 => ?_⟩
  obtain ⟨a, e, h3⟩ := h2.optR
  exact ⟨F2, d, d2, a, s2.same, r1.mono g2.ff, r2, e, fun z F' H' g' e' q => Post.fin s2 h3 g' e' q⟩
theorem cons_imp {m : M} {ms : MA} {Q : List V → Hp → Prop} (h : tA K W ρ (mCons m ms ρ) σ H Q) : tCons (tE K W ρ (m ρ)) (tA K W (m ρ).env (ms (m ρ).env)) σ H Q := by
  obtain ⟨F, s, h⟩ := h
  refine ⟨F, s, Post.bindD (k := fun a ρ1 => (ms ρ1).bind fun ds ρ2 => .ok (a :: ds) ρ2) s h ra_back fun d ρ1 v F1 H1 e1 g1 s1 sh1 r1 h1 => ?_⟩
  rw [e1]
  refine ⟨F1, s1, Post.bind (k := fun ds ρ2 => .ok (d :: ds) ρ2) h1 ra_back fun ds ρ2 vs F2 H2 e2 _ g2 s2 sh2 r2 h2 => ?_⟩
  exact h2 _ F2 H2 Grow.refl s2 rfl (.cons (r1.mono g2.ff) r2)
theorem b_imp {g : List D → Option RV} {ms : MA} (h : tE K W ρ (mB g ms ρ) σ H Q) : tCB (rDL K g) (tA K W ρ (ms ρ)) σ H Q := by
  obtain ⟨F, s, h⟩ := h
  refine ⟨F, s, Post.bind (k := fun ds ρ1 => optR (g ds) ρ1) h repV_back fun ds ρ1 vs F1 H1 e1 _ g1 s1 sh1 r1 h1 => ?_⟩
  obtain ⟨a, e, h2⟩ := h1.optR
  exact ⟨F1, ds, a, s1.same, r1, e, fun z F' H' g' e' q => Post.fin s1 h2 g' e' q⟩
end
section
variable {X : Cx} {W : WX} {pos : Pos} {a b c e o : Expr} {es : List Expr} {ma mb mc m : M} {ms : MA}
theorem px_op {op : Operator} {g : D → D → Option RV} (ho : OpR X (binaryOp op) (rD2 X.K g)) (ha : PX X W a ma) (hb : PX X W b mb) : PX X W (.BinOp a op b pos) (mOp g ma mb) := ⟨fun ρ => PE.imp (pe_op ho (ha.run ρ) (hb.run _)) fun _ _ _ h => op_imp h⟩
theorem px_un {op : UnaryOp} {g : D → Option RV} (ho : UnR X (unaryOp op) (rD1 X.K g)) (ha : PX X W a ma) : PX X W (.UnaryOp op a pos) (mUn g ma) := ⟨fun ρ => PE.imp (pe_un ho (ha.run ρ)) fun _ _ _ h => un_imp h⟩
theorem px_cmp {op : CmpOp} {g : D → D → Option RV} (ho : OpR X (compareOp op) (rD2 X.K g)) (ha : PX X W a ma) (hb : PX X W b mb) (hm : behindInMarks op b = false := by first | exact nomark _ | rfl) : PX X W (.Compare a [op] [b] pos) (mOp g ma mb) :=
  ⟨fun ρ => PE.imp (pe_cmpR ho (ha.run ρ) (hb.run _) hm) fun _ _ _ h => op_imp h⟩
theorem pa_n : PXA X W [] mNil := ⟨fun ρ => PA.imp pa_nil fun _ H _ ⟨F, s, h⟩ => h [] F H Grow.refl s rfl .nil⟩
theorem pa_c (he : PX X W e m) (hr : PXA X W es ms) (hs : starEach (e :: es) X.env = (false, eval e X.env) :: starEach es X.env := by rfl) : PXA X W (e :: es) (mCons m ms) := ⟨fun ρ => PA.imp (pa_cons (he.run ρ) (hr.run _) hs) fun _ _ _ h => cons_imp h⟩
/-- a call of a built-in function, of a built-in type -/
theorem px_callB {x : Str} {p : Pos} {id : String} {g : List D → Option RV} (hc : CallR X (.builtin id) (rDL X.K g)) (hm : X.mg x = none) (ha : PXA X W (e :: es) ms) (hv : bootBuiltins x = some (.builtin id) := by decide +kernel) (hg : Gl X x := by rfl) (hn : x ≠ "__name__" := by decide) (hdb : (x == ("__debug__" : Str)) = false := by decide)
    (he : starEach (e :: es) X.env = (false, eval e X.env) :: starEach es X.env := by rfl) (hpl : (backTo pos (starEach es X.env)).any (·.1) = false := by rfl) : PX X W (.Call (.Name x p) (e :: es) [] pos) (mB g ms) :=
  ⟨fun ρ => PE.imp (pe_callB hc hg hm hv (ha.run ρ) hn hdb he hpl) fun _ _ _ h => b_imp h⟩
theorem px_callTy {x : Str} {p : Pos} {T : String} {g : List D → Option RV} (hc : CallR X (.type T) (rDL X.K g)) (hm : X.mg x = none) (ha : PXA X W (e :: es) ms) (hv : bootBuiltins x = some (.type T) := by decide +kernel) (hg : Gl X x := by rfl) (hn : x ≠ "__name__" := by decide) (hdb : (x == ("__debug__" : Str)) = false := by decide)
    (he : starEach (e :: es) X.env = (false, eval e X.env) :: starEach es X.env := by rfl) (hpl : (backTo pos (starEach es X.env)).any (·.1) = false := by rfl) : PX X W (.Call (.Name x p) (e :: es) [] pos) (mB g ms) :=
  ⟨fun ρ => PE.imp (pe_callTy hc hg hm hv (ha.run ρ) hn hdb he hpl) fun _ _ _ h => b_imp h⟩
end
end PD
end
section
set_option Elab.async false
set_option linter.all false
set_option maxRecDepth 100000
set_option maxHeartbeats 2000000
namespace PD
open PySem PySem.Spec PyProof.Rows L2

/-! ### tests -/
def mtV (m : M) : MT := fun ρ => (m ρ).bind fun a ρ1 => match a.d with
  | .bl b => .ok b ρ1
  | _ => .no
def mtNot (t : MT) : MT := fun ρ => (t ρ).bind fun b ρ1 => .ok (!b) ρ1
def mtAnd (t u : MT) : MT := fun ρ => (t ρ).bind fun b ρ1 => match b with
  | true => u ρ1
  | false => .ok false ρ1
def mtOr (t u : MT) : MT := fun ρ => (t ρ).bind fun b ρ1 => match b with
  | true => .ok true ρ1
  | false => u ρ1
/-- and, or, not as values, of bools -/
def mAnd (m n : M) : M := fun ρ => (m ρ).bind fun a ρ1 => match a.d with
  | .bl true => n ρ1
  | .bl false => .ok (.val (.bl false)) ρ1
  | _ => .no
def mOr (m n : M) : M := fun ρ => (m ρ).bind fun a ρ1 => match a.d with
  | .bl true => .ok (.val (.bl true)) ρ1
  | .bl false => n ρ1
  | _ => .no
def gNot : D → Option RV
  | .bl b => some (.val (.bl !b))
  | _ => none
def mIfE (t : MT) (m n : M) : M := fun ρ => (t ρ).bind fun b ρ1 => match b with
  | true => m ρ1
  | false => n ρ1
def mChain (g g' : D → D → Option RV) (ma mb mc : M) : M := fun ρ => (ma ρ).bind fun a ρ1 => (mb ρ1).bind fun b ρ2 => match g a.d b.d with
  | some (.val (.bl true)) => (mc ρ2).bind fun c ρ3 => optR (g' b.d c.d) ρ3
  | some (.val (.bl false)) => .ok (.val (.bl false)) ρ2
  | _ => .no

section
variable {K : PySem.W.Frag} {W : WX} {σ : L2.St} {ρ : En} {F H : Hp}
theorem tv_imp {m : M} {Q : Bool → Hp → Prop} (h : tT K W ρ (mtV m ρ) σ H Q) : tB (tE K W ρ (m ρ)) σ H Q := by
  obtain ⟨F, s, h⟩ := h
  refine ⟨F, s, Post.bindD (k := fun a ρ1 => match a with | .bl b => .ok b ρ1 | _ => .no) s h rt_back fun d ρ1 v F1 H1 e1 g1 s1 sh1 r1 h1 => ?_⟩
  cases d with
  | bl b =>
    cases r1
    exact ⟨b, rfl, h1 b F1 H1 Grow.refl s1 rfl rfl⟩
  | _ => exact h1.elim
theorem tnot_imp {t : MT} {Q : Bool → Hp → Prop} (h : tT K W ρ (mtNot t ρ) σ H Q) : tNot (tT K W ρ (t ρ)) σ H Q := by
  obtain ⟨F, s, h⟩ := h
  refine ⟨F, s, Post.bind (k := fun b ρ1 => .ok (!b) ρ1) h rt_back fun b ρ1 c F1 H1 e1 _ g1 s1 sh1 r1 h1 => ?_⟩
  obtain rfl : c = b := r1
  exact h1 _ F1 H1 Grow.refl s1 rfl rfl
theorem tand_imp {t u : MT} {Q : Bool → Hp → Prop} (h : tT K W ρ (mtAnd t u ρ) σ H Q) : tAnd (tT K W ρ (t ρ)) (tT K W (t ρ).env (u (t ρ).env)) σ H Q := by
  obtain ⟨F, s, h⟩ := h
  refine ⟨F, s, Post.bind (k := fun b ρ1 => match b with | true => u ρ1 | false => .ok false ρ1) h rt_back fun b ρ1 c F1 H1 e1 _ g1 s1 sh1 r1 h1 => ?_⟩
  obtain rfl : c = b := r1
  rw [e1]
  cases c with
  | true =>
    rw [if_pos rfl]
    exact ⟨F1, s1, h1⟩
  | false =>
    rw [if_neg Bool.false_ne_true]
    exact h1 _ F1 H1 Grow.refl s1 rfl rfl
theorem tor_imp {t u : MT} {Q : Bool → Hp → Prop} (h : tT K W ρ (mtOr t u ρ) σ H Q) : tOr (tT K W ρ (t ρ)) (tT K W (t ρ).env (u (t ρ).env)) σ H Q := by
  obtain ⟨F, s, h⟩ := h
  refine ⟨F, s, Post.bind (k := fun b ρ1 => match b with | true => .ok true ρ1 | false => u ρ1) h rt_back fun b ρ1 c F1 H1 e1 _ g1 s1 sh1 r1 h1 => ?_⟩
  obtain rfl : c = b := r1
  rw [e1]
  cases c with
  | false =>
    rw [if_neg Bool.false_ne_true]
    exact ⟨F1, s1, h1⟩
  | true =>
    rw [if_pos rfl]
    exact h1 _ F1 H1 Grow.refl s1 rfl rfl
theorem and_imp {m n : M} {Q : VK} (h : tE K W ρ (mAnd m n ρ) σ H Q) : tAndV (tE K W ρ (m ρ)) (tE K W (m ρ).env (n (m ρ).env)) σ H Q := by
  obtain ⟨F, s, h⟩ := h
  refine ⟨F, s, Post.bindD (k := fun a ρ1 => match a with | .bl true => n ρ1 | .bl false => .ok (.val (.bl false)) ρ1 | _ => .no) s h repV_back fun d ρ1 v F1 H1 e1 g1 s1 sh1 r1 h1 => ?_⟩
  rw [e1]
  cases d with
  | bl b =>
    cases r1
    refine ⟨b, rfl, ?_⟩
    cases b with
    | true =>
      rw [if_pos rfl]
      exact ⟨F1, s1, h1⟩
    | false =>
      rw [if_neg Bool.false_ne_true]
      exact h1 _ F1 H1 Grow.refl s1 rfl (.bl false)
  | _ => exact h1.elim
theorem or_imp {m n : M} {Q : VK} (h : tE K W ρ (mOr m n ρ) σ H Q) : tOrV (tE K W ρ (m ρ)) (tE K W (m ρ).env (n (m ρ).env)) σ H Q := by
  obtain ⟨F, s, h⟩ := h
  refine ⟨F, s, Post.bindD (k := fun a ρ1 => match a with | .bl true => .ok (.val (.bl true)) ρ1 | .bl false => n ρ1 | _ => .no) s h repV_back fun d ρ1 v F1 H1 e1 g1 s1 sh1 r1 h1 => ?_⟩
  rw [e1]
  cases d with
  | bl b =>
    cases r1
    refine ⟨b, rfl, ?_⟩
    cases b with
    | false =>
      rw [if_neg Bool.false_ne_true]
      exact ⟨F1, s1, h1⟩
    | true =>
      rw [if_pos rfl]
      exact h1 _ F1 H1 Grow.refl s1 rfl (.bl true)
  | _ => exact h1.elim
theorem ife_imp {t : MT} {m n : M} {Q : VK} (h : tE K W ρ (mIfE t m n ρ) σ H Q) : tIf (tT K W ρ (t ρ)) (tE K W (t ρ).env (m (t ρ).env)) (tE K W (t ρ).env (n (t ρ).env)) σ H Q := by
  obtain ⟨F, s, h⟩ := h
  refine ⟨F, s, Post.bind (k := fun b ρ1 => match b with | true => m ρ1 | false => n ρ1) h repV_back fun b ρ1 c F1 H1 e1 _ g1 s1 sh1 r1 h1 => ?_⟩
  obtain rfl : c = b := r1
  rw [e1]
  cases c with
  | true =>
    rw [if_pos rfl]
    exact ⟨F1, s1, h1⟩
  | false =>
    rw [if_neg Bool.false_ne_true]
    exact ⟨F1, s1, h1⟩
theorem chain_imp {g g' : D → D → Option RV} {ma mb mc : M} {Q : VK} (h : tE K W ρ (mChain g g' ma mb mc ρ) σ H Q) :
    tChain (rD2 K g) (rD2 K g') (tE K W ρ (ma ρ)) (tE K W (ma ρ).env (mb (ma ρ).env)) (tE K W (mb (ma ρ).env).env (mc (mb (ma ρ).env).env)) σ H Q := by
  obtain ⟨F, s, h⟩ := h
  refine ⟨F, s, Post.bindD (k := fun a ρ1 => (mb ρ1).bind fun b ρ2 => match g a b.d with | some (.val (.bl true)) => (mc ρ2).bind fun c ρ3 => optR (g' b.d c.d) ρ3 | some (.val (.bl false)) => .ok (.val (.bl false)) ρ2 | _ => .no) s h repV_back fun d ρ1 v F1 H1 e1 g1 s1 sh1 r1 h1 => ?_⟩
  rw [e1]
  refine ⟨F1, s1, Post.bindD (k := fun b ρ2 => match g d b with | some (.val (.bl true)) => (mc ρ2).bind fun c ρ3 => optR (g' b c.d) ρ3 | some (.val (.bl false)) => .ok (.val (.bl false)) ρ2 | _ => .no) s1 h1 repV_back fun d2 ρ2 v2 F2 H2 e2 g2 s2 sh2 r2 h2 => ?_⟩
  rw [e2]
  cases e : g d d2 with
  | none => rw [e] at h2; exact h2.elim
  | some rv =>
    rw [e] at h2
    refine ⟨F2, d, d2, rv, s2.same, r1.mono g2.ff, r2, e, fun z F' H' gq e' q => ?_⟩
    cases rv with
    | fr ds => exact h2.elim
    | val dv =>
      cases dv with
      | bl b =>
        cases q
        refine ⟨b, rfl, ?_⟩
        have s3 := s2.grow gq e'
        have h3 := Post.step (ρ1 := ρ2) (fun F' H'' c d => repV_back H2 H' F' H'' c d gq.ht) (gq.imp fun _ z => z.elim) rfl h2
        cases b with
        | false =>
          rw [if_neg Bool.false_ne_true]
          exact h3 _ F' H' Grow.refl s3 rfl (.bl false)
        | true =>
          rw [if_pos rfl]
          refine ⟨F', s3, Post.bindD (k := fun c ρ3 => optR (g' d2 c) ρ3) s3 h3 repV_back fun d3 ρ3 v3 F3 H3 e3 g3 s3 sh3 r3 h3 => ?_⟩
          obtain ⟨a, e, h4⟩ := h3.optR
          exact ⟨F3, d2, d3, a, s3.same, (r2.mono gq.ff).mono g3.ff, r3, e, fun z F' H' gz ez q => Post.fin s3 h4 gz ez q⟩
      | _ => exact h2.elim
end
section
variable {X : Cx} {W : WX} {pos : Pos} {a b c e o : Expr} {es rest : List Expr} {ma mb mc m n : M} {ms : MA} {t u : MT}
theorem pxt_val (h : PX X W e m) (he : ∀ whole, isTrue e X.env whole = (do let v ← whole; standAt e.pos; holding [v] (truthy v)) := by intro _; rfl) : PXT X W e (mtV m) := ⟨fun ρ => PT.imp (pt_val (h.run ρ) he) fun _ _ _ h => tv_imp h⟩
theorem pxt_cmp {op : CmpOp} {g : D → D → Option RV} (ho : OpR X (compareOp op) (rD2 X.K g)) (ha : PX X W a ma) (hb : PX X W b mb) (hm : behindInMarks op b = false := by first | exact nomark _ | rfl) : PXT X W (.Compare a [op] [b] pos) (mtV (mOp g ma mb)) :=
  ⟨fun ρ => PT.imp (pt_cmpR ho (ha.run ρ) (hb.run _) hm) fun _ _ _ h => by
    have q := tv_imp h
    obtain ⟨F, s, q⟩ := q
    exact op_imp ⟨F, s, q⟩⟩
theorem px_chain {op op' : CmpOp} {g g' : D → D → Option RV} (ho : OpR X (compareOp op) (rD2 X.K g)) (ho' : OpR X (compareOp op') (rD2 X.K g')) (ha : PX X W a ma) (hb : PX X W b mb) (hc : PX X W c mc)
    (hm : lastMarks [op, op'] [b, c] = false := by with_unfolding_all rfl) : PX X W (.Compare a [op, op'] [b, c] pos) (mChain g g' ma mb mc) := ⟨fun ρ => PE.imp (pe_chain ho ho' (ha.run ρ) (hb.run _) (hc.run _) hm) fun _ _ _ h => chain_imp h⟩
theorem pxt_chain {op op' : CmpOp} {g g' : D → D → Option RV} (ho : OpR X (compareOp op) (rD2 X.K g)) (ho' : OpR X (compareOp op') (rD2 X.K g')) (ha : PX X W a ma) (hb : PX X W b mb) (hc : PX X W c mc)
    (hm : lastMarks [op, op'] [b, c] = false := by with_unfolding_all rfl) : PXT X W (.Compare a [op, op'] [b, c] pos) (mtV (mChain g g' ma mb mc)) := ⟨fun ρ => PT.imp (pt_chain ho ho' (ha.run ρ) (hb.run _) (hc.run _) hm) fun _ _ _ h => by
    have q := tv_imp h
    obtain ⟨F, s, q⟩ := q
    exact chain_imp ⟨F, s, q⟩⟩
theorem pxt_not (h : PXT X W a t) : PXT X W (.UnaryOp .Not a pos) (mtNot t) := ⟨fun ρ => PT.imp (pt_not (h.run ρ)) fun _ _ _ h => tnot_imp h⟩
theorem pxw_and1 (h : PXT X W a t) : PXW X W (.BoolOp .And [a] pos) t := ⟨fun ρ => pw_and1 (h.run ρ)⟩
theorem pxw_or1 (h : PXT X W a t) : PXW X W (.BoolOp .Or [a] pos) t := ⟨fun ρ => pw_or1 (h.run ρ)⟩
theorem pxw_and (h : PXT X W a t) (h2 : PXW X W (.BoolOp .And (b :: rest) pos) u) : PXW X W (.BoolOp .And (a :: b :: rest) pos) (mtAnd t u) := ⟨fun ρ => PW.imp (pw_and (h.run ρ) (h2.run _)) fun _ _ _ h => tand_imp h⟩
theorem pxw_or (h : PXT X W a t) (h2 : PXW X W (.BoolOp .Or (b :: rest) pos) u) : PXW X W (.BoolOp .Or (a :: b :: rest) pos) (mtOr t u) := ⟨fun ρ => PW.imp (pw_or (h.run ρ) (h2.run _)) fun _ _ _ h => tor_imp h⟩
theorem pxt_w (h : PXW X W e t) : PXT X W e t := ⟨fun ρ => (h.run ρ).pt⟩
theorem px_one {op : BoolOp} (h : PX X W a m) : PX X W (.BoolOp op [a] pos) m := ⟨fun ρ => pe_one (h.run ρ)⟩
theorem px_and (h : PX X W a m) (h2 : PX X W (.BoolOp .And (b :: rest) pos) n) : PX X W (.BoolOp .And (a :: b :: rest) pos) (mAnd m n) := ⟨fun ρ => PE.imp (pe_and (h.run ρ) (h2.run _)) fun _ _ _ h => and_imp h⟩
theorem px_or (h : PX X W a m) (h2 : PX X W (.BoolOp .Or (b :: rest) pos) n) : PX X W (.BoolOp .Or (a :: b :: rest) pos) (mOr m n) := ⟨fun ρ => PE.imp (pe_or (h.run ρ) (h2.run _)) fun _ _ _ h => or_imp h⟩
theorem not_imp {K : PySem.W.Frag} {σ : L2.St} {ρ : En} {H : Hp} {Q : VK} (h : tE K W ρ (mUn gNot m ρ) σ H Q) : tNotV (tE K W ρ (m ρ)) σ H Q := by
  obtain ⟨F, s, h⟩ := h
  refine ⟨F, s, Post.bindD (k := fun a ρ1 => optR (gNot a) ρ1) s h repV_back fun d ρ1 v F1 H1 e1 g1 s1 sh1 r1 h1 => ?_⟩
  cases d with
  | bl b =>
    cases r1
    exact ⟨b, rfl, h1 _ F1 H1 Grow.refl s1 rfl (.bl !b)⟩
  | _ => exact h1.elim
theorem px_not (h : PX X W a m) : PX X W (.UnaryOp .Not a pos) (mUn gNot m) := ⟨fun ρ => PE.imp (pe_not (h.run ρ)) fun _ _ _ h => not_imp h⟩
theorem px_ifE (h : PXT X W c t) (ha : PX X W a m) (hb : PX X W b n) : PX X W (.IfExp c a b pos) (mIfE t m n) := ⟨fun ρ => PE.imp (pe_ifExp (h.run ρ) (ha.run _) (hb.run _)) fun _ _ _ h => ife_imp h⟩
end
end PD
end
section
set_option Elab.async false
set_option linter.all false
set_option maxRecDepth 100000
set_option maxHeartbeats 2000000
namespace PD
open PySem PySem.Spec PyProof.Rows L2

/-- the largest length that is spoken of -/
abbrev top1 : Nat := 1000000
theorem top1_le {n : Nat} (h : n ≤ top1) : n ≤ sizeLine := Nat.le_trans h (by decide)
theorem top1_lt {n : Nat} (h : n ≤ top1) : n < sizeLine := Nat.lt_of_le_of_lt h (by decide)

section
variable {K : PySem.W.Frag} {F H : Hp} {p : Addr} {o : HO}
theorem gr_new (e : Same F H) (hp : H p = none) : Gr F H (upd F p o) (upd H p o) ∧ Same (upd F p o) (upd H p o) := by
  have fp : F p = none := Same.free e hp
  refine ⟨⟨fun b u h => by rw [upd_ne (ne_of_none h fp)]; exact h, fun b u h _ => by rw [upd_ne (ne_of_none h hp)]; exact h, fun b h => ?_, fun b h n => ?_⟩, fun b u h => ?_⟩
  · by_cases q : b = p
    · subst q; rw [upd_same]; exact fun z => nomatch z
    · rw [upd_ne q]; exact h
  · have q : b ≠ p := fun z => h (by rw [z]; exact hp)
    rw [upd_ne q]; exact n
  · by_cases q : b = p
    · subst q; rw [upd_same] at h ⊢; exact h
    · rw [upd_ne q] at h ⊢; exact e b u h
theorem gr_newH (e : Same F H) (hp : H p = none) : Gr F H F (upd H p o) ∧ Same F (upd H p o) := by
  refine ⟨⟨Same.refl _, fun b u h _ => by rw [upd_ne (ne_of_none h hp)]; exact h, fun b h => ?_, fun b h n => n⟩, fun b u h => ?_⟩
  · by_cases q : b = p
    · subst q; rw [upd_same]; exact fun z => nomatch z
    · rw [upd_ne q]; exact h
  · rw [upd_ne (ne_of_none (e b u h) hp)]; exact e b u h
/-- a new list, not frozen -/
theorem repV_new {vs : List V} {ds : List D} (e : Same F H) (hp : H p = none) (r : Reps K F ds vs) : RepV K H F (upd H p (.lst vs)) (.fr (.lst ds)) (.ref p) := ⟨p, .lst vs, rfl, hp, Same.free e hp, upd_same, r⟩
end

/-! ### displays -/
def mTup (ms : MA) : M := fun ρ => (ms ρ).bind fun ds ρ1 => if ds.length ≤ top1 then .ok (.val (.tup ds)) ρ1 else .no
def mLst (ms : MA) : M := fun ρ => (ms ρ).bind fun ds ρ1 => if ds.length ≤ top1 then .ok (.fr (.lst ds)) ρ1 else .no
section
variable {K : PySem.W.Frag} {W : WX} {σ : L2.St} {ρ : En} {H : Hp} {Q : VK} {ms : MA}
theorem tup_imp (h : tE K W ρ (mTup ms ρ) σ H Q) : tTup (tA K W ρ (ms ρ)) σ H Q := by
  obtain ⟨F, s, h⟩ := h
  refine ⟨F, s, Post.bind (k := fun ds ρ1 => if ds.length ≤ top1 then .ok (.val (.tup ds)) ρ1 else .no) h repV_back fun ds ρ1 vs F1 H1 e1 _ g1 s1 sh1 r1 h1 => ?_⟩
  by_cases c : ds.length ≤ top1
  · rw [if_pos c] at h1
    refine ⟨top1_le (by rw [← Reps.length r1]; exact c), fun p hp => ?_⟩
    obtain ⟨g, e⟩ := gr_new (o := .tup vs) s1.same hp
    exact Post.fin s1 h1 g e (.tup (.inl (Rd.of upd_same)) (r1.mono g.ff))
  · rw [if_neg c] at h1; exact h1.elim
theorem lst_imp (h : tE K W ρ (mLst ms ρ) σ H Q) : tLst (tA K W ρ (ms ρ)) σ H Q := by
  obtain ⟨F, s, h⟩ := h
  refine ⟨F, s, Post.bind (k := fun ds ρ1 => if ds.length ≤ top1 then .ok (.fr (.lst ds)) ρ1 else .no) h repV_back fun ds ρ1 vs F1 H1 e1 _ g1 s1 sh1 r1 h1 => ?_⟩
  by_cases c : ds.length ≤ top1
  · rw [if_pos c] at h1
    refine ⟨top1_le (by rw [← Reps.length r1]; exact c), fun p hp => ?_⟩
    obtain ⟨g, e⟩ := gr_newH (o := .lst vs) s1.same hp
    exact Post.fin s1 h1 g e (repV_new s1.same hp r1)
  · rw [if_neg c] at h1; exact h1.elim
end
section
variable {X : Cx} {W : WX} {pos : Pos} {es : List Expr} {ms : MA}
theorem px_tup {k : Nat} (h : PXA X W es ms) : PX X W (.Tuple es k pos) (mTup ms) := ⟨fun ρ => PE.imp (pe_tup (h.run ρ)) fun _ _ _ h => tup_imp h⟩
theorem px_lst (h : PXA X W es ms) : PX X W (.List es pos) (mLst ms) := ⟨fun ρ => PE.imp (pe_lst (h.run ρ)) fun _ _ _ h => lst_imp h⟩
end

/-! ### places -/
theorem atI_reps {K : PySem.W.Frag} {F : Hp} {ds : List D} {vs : List V} {i : Int} {d : D} (r : Reps K F ds vs) (h : atI ds i = some d) : ∃ v, atI vs i = some v ∧ Rep K F d v := by
  unfold atI at h ⊢
  rw [← Reps.length r]
  cases e : ixN ds.length i with
  | none => rw [e] at h; cases h
  | some j =>
    rw [e] at h
    exact r.get h
def gIx : D → D → Option RV
  | .lst ds, .int i => (atI ds i).map .val
  | .tup ds, .int i => (atI ds i).map .val
  | .str z, .int i => if z.length ≤ top1 then (atI z.cps.toList i).map fun c => .val (.str ⟨#[c]⟩) else none
  | _, _ => none
theorem IxR.imp {X : Cx} {r r' : R2} (h : IxR X r) (i : ∀ x y H Q, r' x y H Q → r x y H Q) : IxR X r' := fun value slice pins s σ H x y v u Q I rx ry q hs => h value slice pins s σ H x y v u Q I rx ry (i _ _ _ _ q) hs
theorem OpR.imp {X : Cx} {f : Value → Value → Sem Value} {r r' : R2} (h : OpR X f r) (i : ∀ x y H Q, r' x y H Q → r x y H Q) : OpR X f r' := fun pins s σ H x y v u Q I rx ry q => h pins s σ H x y v u Q I rx ry (i _ _ _ _ q)
theorem UnR.imp {X : Cx} {f : Value → Sem Value} {r r' : V → Hp → VK → Prop} (h : UnR X f r) (i : ∀ x H Q, r' x H Q → r x H Q) : UnR X f r' := fun pins s σ H x v Q I rx q => h pins s σ H x v Q I rx (i _ _ _ q)
theorem CallR.imp {X : Cx} {f : Value} {r r' : List V → Hp → VK → Prop} (h : CallR X f r) (i : ∀ x H Q, r' x H Q → r x H Q) : CallR X f r' := fun pins s σ H xs us Q I rx q => h pins s σ H xs us Q I rx (i _ _ _ q)
theorem MtR.imp {X : Cx} {id : String} {r r' : V → List V → Hp → VK → Prop} (h : MtR X id r) (i : ∀ x xs H Q, r' x xs H Q → r x xs H Q) : MtR X id r' := fun pins s σ H x xs v us Q I rx rs q => h pins s σ H x xs v us Q I rx rs (i _ _ _ _ q)
theorem SlR.imp {X : Cx} {r r' : V → Option Int → Option Int → Hp → VK → Prop} (h : SlR X r) (i : ∀ x a b H Q, r' x a b H Q → r x a b H Q) : SlR X r' := fun pins s σ H x v vl vu lo hi sl Q I rx hs pl pu q => h pins s σ H x v vl vu lo hi sl Q I rx hs pl pu (i _ _ _ _ _ q)
section
variable {X : Cx} {W : WX} {pos p2 : Pos} {a b e : Expr} {ma mb m : M}
theorem ixD : IxR X (rD2 X.K gIx) := IxR.imp ix_seq fun x y H Q ⟨F, da, db, r, e, ra, rb, hg, q⟩ => by
  cases rb with
  | int i =>
    cases ra with
    | lst hs hr =>
      obtain ⟨d, h1, h2⟩ := Option.map_eq_some_iff.mp (show Option.map RV.val (atI _ i) = some r from hg)
      obtain ⟨v, h3, h4⟩ := atI_reps hr h1
      subst h2
      exact .inl ⟨_, _, i, v, rfl, rfl, Same.seq e hs, h3, q v F H Grow.refl e h4⟩
    | tup hs hr =>
      obtain ⟨d, h1, h2⟩ := Option.map_eq_some_iff.mp (show Option.map RV.val (atI _ i) = some r from hg)
      obtain ⟨v, h3, h4⟩ := atI_reps hr h1
      subst h2
      exact .inr (.inl ⟨_, _, i, v, rfl, rfl, same_seqT e hs, h3, q v F H Grow.refl e h4⟩)
    | str z =>
      have hg2 : (if z.length ≤ top1 then (atI z.cps.toList i).map fun c => RV.val (.str ⟨#[c]⟩) else none) = some r := hg
      by_cases c : z.length ≤ top1
      · rw [if_pos c] at hg2
        obtain ⟨d, h1, h2⟩ := Option.map_eq_some_iff.mp hg2
        subst h2
        exact .inr (.inr ⟨z, i, d, rfl, rfl, top1_le c, h1, q _ F H Grow.refl e (.str _)⟩)
      · rw [if_neg c] at hg2; cases hg2
    | _ => cases hg
  | _ => cases ra <;> cases hg
theorem px_ix (ha : PX X W a ma) (hb : PX X W b mb) (hs : PlainIx b := by intro _ _; rfl) : PX X W (.Subscript a b pos) (mOp gIx ma mb) := ⟨fun ρ => PE.imp (pe_ix ixD (ha.run ρ) (hb.run _) hs) fun _ _ _ h => op_imp h⟩

/-! ### slices -/
def cutD {α : Type} (xs : List α) (lo hi : Option Int) : List α := (xs.drop (HT.sIx xs.length 0 lo)).take (HT.sIx xs.length xs.length hi - HT.sIx xs.length 0 lo)
def gSl : D → Option Int → Option Int → Option RV
  | .str z, lo, hi => if z.length ≤ top1 then some (.val (.str (cutS z lo hi))) else none
  | .lst ds, lo, hi => some (.fr (.lst (cutD ds lo hi)))
  | _, _, _ => none
abbrev MO := En → Res (Option Int)
def moN : MO := fun ρ => .ok none ρ
def moS (m : M) : MO := fun ρ => (m ρ).bind fun a ρ1 => match a.d with
  | .int i => .ok (some i) ρ1
  | _ => .no
abbrev RO : Hp → Hp → Hp → Option Int → Option Int → Prop := fun _ _ _ a b => b = a
theorem ro_back (H H1 F' H' : Hp) (c d : Option Int) (k : ∀ b, H b ≠ none → H1 b ≠ none) (h : RO H1 F' H' c d) : RO H F' H' c d := h
def tO (K : PySem.W.Frag) (W : WX) (ρ : En) (r : Res (Option Int)) : TO := fun σ H Q => ∃ F, StOk K F H σ ρ ∧ Post K W RO σ ρ F H r Q
structure PXO (X : Cx) (W : WX) (e : Option Expr) (m : MO) : Prop where
  run : ∀ ρ, PO X e (tO X.K W ρ (m ρ))
theorem PO.imp {X : Cx} {e : Option Expr} {t u : TO} (h : PO X e t) (i : ∀ σ H Q, u σ H Q → t σ H Q) : PO X e u := ⟨fun pins s σ H Q I q => h.run pins s σ H Q I (i _ _ _ q)⟩
theorem pxo_n : PXO X W none moN := ⟨fun ρ => PO.imp po_none fun σ H Q ⟨F, s, h⟩ => h none F H Grow.refl s rfl rfl⟩
theorem pxo_s (h : PX X W e m) : PXO X W (some e) (moS m) := ⟨fun ρ => PO.imp (po_some (h.run ρ)) fun σ H Q ⟨F, s, h⟩ => by
  refine ⟨F, s, Post.bindD (k := fun a ρ1 => match a with | .int i => .ok (some i) ρ1 | _ => .no) s h ro_back fun d ρ1 v F1 H1 e1 g1 s1 sh1 r1 h1 => ?_⟩
  cases r1 with
  | int i => exact ⟨i, rfl, h1 (some i) F1 H1 Grow.refl s1 rfl rfl⟩
  | _ => exact h1.elim⟩
def mSl (m : M) (lo hi : MO) : M := fun ρ => (m ρ).bind fun a ρ1 => (lo ρ1).bind fun l ρ2 => (hi ρ2).bind fun h ρ3 => optR (gSl a.d l h) ρ3
def rDSl (K : PySem.W.Frag) : V → Option Int → Option Int → Hp → VK → Prop := fun x l u H Q => ∃ F a r, Same F H ∧ Rep K F a x ∧ gSl a l u = some r ∧ ∀ z F' H', Gr F H F' H' → Same F' H' → RepV K H F' H' r z → Q z H'
theorem slD : SlR X (rDSl X.K) := SlR.imp (SlR.or sl_list sl_str) fun x l u H Q ⟨F, da, r, e, ra, hg, q⟩ => by
  cases ra with
  | @lst ds a ws hs hr =>
    cases hg
    refine .inl ⟨a, ws, rfl, Same.seq e hs, fun p hp => ?_⟩
    obtain ⟨g, e'⟩ := gr_newH (o := .lst (cutV ws l u)) e hp
    have hc : Reps X.K F (cutD ds l u) (cutV ws l u) := by
      unfold cutD cutV
      rw [Reps.length hr]
      exact (hr.drop _).take _
    exact q _ F _ g e' ⟨p, _, rfl, hp, Same.free e hp, upd_same, hc⟩
  | str z =>
    have hg2 : (if z.length ≤ top1 then some (RV.val (.str (cutS z l u))) else none) = some r := hg
    by_cases c : z.length ≤ top1
    · rw [if_pos c] at hg2
      cases hg2
      exact .inr ⟨z, rfl, top1_le c, q _ F H Grow.refl e (.str _)⟩
    · rw [if_neg c] at hg2; cases hg2
  | _ => cases hg
theorem sl_imp {K : PySem.W.Frag} {σ : L2.St} {ρ : En} {H : Hp} {Q : VK} {lo hi : MO} (h : tE K W ρ (mSl m lo hi ρ) σ H Q) : tSl (rDSl K) (tE K W ρ (m ρ)) (tO K W (m ρ).env (lo (m ρ).env)) (tO K W (lo (m ρ).env).env (hi (lo (m ρ).env).env)) σ H Q := by
  obtain ⟨F, s, h⟩ := h
  refine ⟨F, s, Post.bindD (k := fun a ρ1 => (lo ρ1).bind fun l ρ2 => (hi ρ2).bind fun h ρ3 => optR (gSl a l h) ρ3) s h repV_back fun d ρ1 v F1 H1 e1 g1 s1 sh1 r1 h1 => ?_⟩
  rw [e1]
  refine ⟨F1, s1, Post.bind (k := fun l ρ2 => (hi ρ2).bind fun h ρ3 => optR (gSl d l h) ρ3) h1 repV_back fun l ρ2 l' F2 H2 e2 _ g2 s2 sh2 r2 h2 => ?_⟩
  rw [e2]
  obtain rfl : l' = l := r2
  refine ⟨F2, s2, Post.bind (k := fun h ρ3 => optR (gSl d l' h) ρ3) h2 repV_back fun u ρ3 u' F3 H3 e3 _ g3 s3 sh3 r3 h3 => ?_⟩
  obtain rfl : u' = u := r3
  obtain ⟨a, e, h4⟩ := h3.optR
  exact ⟨F3, d, a, s3.same, (r1.mono g2.ff).mono g3.ff, e, fun z F' H' g' e' q => Post.fin s3 h4 g' e' q⟩
theorem px_sl {lo hi : Option Expr} {ml mh : MO} (he : PX X W e m) (hl : PXO X W lo ml) (hh : PXO X W hi mh) : PX X W (.Subscript e (.Slice lo hi none p2) pos) (mSl m ml mh) := ⟨fun ρ => PE.imp (pe_slice slD (he.run ρ) (hl.run _) (hh.run _)) fun _ _ _ h => sl_imp h⟩
end

/-! ### fields -/
theorem look_zip {K : PySem.W.Frag} {F : Hp} {f : Str} : ∀ {ns : List Str} {ds : List D} {vs : List V} {d : D}, Reps K F ds vs → (ns.zip ds).lookup f = some d → ∃ v, (ns.zip vs).lookup f = some v ∧ Rep K F d v
  | [], _, _, _, _, h => by simp at h
  | _ :: _, [], _, _, _, h => by simp at h
  | n :: ns, d0 :: ds, _, d, .cons (v := v0) h0 r, h => by
    rw [List.zip_cons_cons, List.lookup_cons] at h ⊢
    cases e : f == n with
    | true =>
      rw [e] at h
      cases h
      exact ⟨_, rfl, h0⟩
    | false =>
      rw [e] at h
      exact look_zip r h
def gFld (cs : List Str) (f : Str) : D → Option RV
  | .obj c ns ds => if cs.contains c = true then ((ns.zip ds).lookup f).map .val else none
  | _ => none
theorem gFld_ok {K : PySem.W.Frag} {F : Hp} {cs : List Str} {f : Str} : ∀ {x : D} {v : V} {rv : RV}, gFld cs f x = some rv → Rep K F x v →
    ∃ (a : Addr) (c : Str) (dx : Addr) (ns : List Str) (vs : List V) (w : V) (d : D), v = .ref a ∧ cs.contains c = true ∧ F a = some (.ins (He.ga K c) dx (ns.zip vs)) ∧ (ns.zip vs).lookup f = some w ∧ Rep K F d w ∧ rv = .val d
  | .obj c ns ds, _, rv, e, .obj (a := a) (dx := dx) (vs := vs) ho hl hr => by
    have e2 : (if cs.contains c = true then ((ns.zip ds).lookup f).map RV.val else none) = some rv := e
    by_cases hc : cs.contains c = true
    · rw [if_pos hc] at e2
      obtain ⟨d, h3, h4⟩ := Option.map_eq_some_iff.mp e2
      obtain ⟨v, h5, h6⟩ := look_zip hr h3
      exact ⟨a, c, dx, ns, vs, v, d, rfl, hc, ho, h5, h6, h4.symm⟩
    · rw [if_neg hc] at e2; cases e2
structure FldOk (K : PySem.W.Frag) (c f : Str) : Prop where
  cl : Cls K (He.ga K c)
  no : NoAttr K (He.ga K c) f
section
variable {X : Cx} {W : WX} {pos : Pos} {e : Expr} {m : M}
theorem px_fld {cs : List Str} {f : Str} (he : PX X W e m) (hc : ∀ c, cs.contains c = true → FldOk X.K c f) (hb : attributeBase e f X.env (eval e X.env) = eval e X.env := by rfl) : PX X W (.Attribute e f pos) (mUn (gFld cs f) m) := ⟨fun ρ => PE.imp (pe_fld (he.run ρ) hb) fun σ H Q h => by
  obtain ⟨F, s, h⟩ := h
  refine ⟨F, s, Post.bindD (k := fun a ρ1 => optR (gFld cs f a) ρ1) s h repV_back fun d ρ1 v F1 H1 e1 g1 s1 sh1 r1 h1 => ?_⟩
  obtain ⟨rv, e, h2⟩ := h1.optR
  obtain ⟨a, c, dx, ns, vs, w, d, rfl, hcs, ha, hl, hw, rfl⟩ := gFld_ok e r1
  exact ⟨a, _, dx, _, w, rfl, s1.same _ _ ha, (hc _ hcs).cl, (hc _ hcs).no, hl, h2 w F1 H1 Grow.refl s1 rfl hw⟩⟩
end
end PD
end
section
set_option Elab.async false
set_option linter.all false
set_option maxRecDepth 100000
set_option maxHeartbeats 2000000
namespace PD
open PySem PySem.Spec PyProof.Rows L2

/-! ### what is walked -/
abbrev MI := En → Res (List D)
def ItOk (K : PySem.W.Frag) (J : It) (F : Hp) (ds : List D) : Prop := ∀ F' H', Same F F' → Same F' H' → (∀ i, ds.length ≤ i → J.stop i H') ∧
  ∀ i d, ds[i]? = some d → J.go i H' ∧ ∀ x H2, J.yld i H' x H2 → ∃ F2, Gr F' H' F2 H2 ∧ Same F2 H2 ∧ Rep K F2 d x
abbrev RI (K : PySem.W.Frag) : Hp → Hp → Hp → List D → It → Prop := fun _ F _ ds J => ItOk K J F ds
theorem ri_back {K : PySem.W.Frag} (H H1 F' H' : Hp) (c : List D) (d : It) (k : ∀ b, H b ≠ none → H1 b ≠ none) (h : RI K H1 F' H' c d) : RI K H F' H' c d := h
def tI (K : PySem.W.Frag) (W : WX) (ρ : En) (r : Res (List D)) : TI := fun σ H R => ∃ F, StOk K F H σ ρ ∧ Post K W (RI K) σ ρ F H r R
structure PXI (X : Cx) (W : WX) (tg iter : Expr) (m : MI) : Prop where
  run : ∀ ρ, PI X tg iter (tI X.K W ρ (m ρ))
theorem PI.imp {X : Cx} {tg iter : Expr} {t u : TI} (h : PI X tg iter t) (i : ∀ σ H R, u σ H R → t σ H R) : PI X tg iter u := ⟨fun pins s σ H R I q => h.run pins s σ H R I (i _ _ _ q)⟩
def miL (m : M) : MI := fun ρ => (m ρ).bind fun a ρ1 => match a.d with
  | .lst ds => .ok ds ρ1
  | _ => .no
def miT (m : M) : MI := fun ρ => (m ρ).bind fun a ρ1 => match a.d with
  | .tup ds => .ok ds ρ1
  | _ => .no
def signs (z : Str) : List D := z.cps.toList.map fun c => .str ⟨#[c]⟩
def miS (m : M) : MI := fun ρ => (m ρ).bind fun a ρ1 => match a.d with
  | .str z => .ok (signs z) ρ1
  | _ => .no
def rng (lo : Int) (n : Nat) : List D := (List.range n).map fun k => .int (lo + (k : Nat))
def miR1 (ms : MA) : MI := fun ρ => (ms ρ).bind fun ds ρ1 => match ds with
  | [.int j] => if -1000000000000 < j ∧ j < 1000000000000 then .ok (rng 0 j.toNat) ρ1 else .no
  | _ => .no
def miR2 (ms : MA) : MI := fun ρ => (ms ρ).bind fun ds ρ1 => match ds with
  | [.int i, .int j] => if -1000000000000 < i ∧ i < 1000000000000 ∧ -1000000000000 < j ∧ j < 1000000000000 then .ok (rng i (j - i).toNat) ρ1 else .no
  | _ => .no
theorem rng_get {lo : Int} {n i : Nat} {d : D} (h : (rng lo n)[i]? = some d) : i < n ∧ d = .int (lo + (i : Nat)) := by
  unfold rng at h
  rw [List.getElem?_map] at h
  cases e : (List.range n)[i]? with
  | none => rw [e] at h; cases h
  | some k =>
    rw [e] at h
    obtain ⟨h1, h2⟩ := List.getElem?_eq_some_iff.mp e
    rw [List.length_range] at h1
    rw [List.getElem_range] at h2
    subst h2
    exact ⟨h1, (Option.some.inj h).symm⟩
theorem itOk_list {K : PySem.W.Frag} {F : Hp} {a : Addr} {ds : List D} {vs : List V} (hs : SqL K F a vs) (hr : Reps K F ds vs) : ItOk K (Itl K a) F ds := fun F' H' f h => by
  have h1 : SqL K H' a vs := Same.seq h (Same.seq f hs)
  refine ⟨fun i hi => ⟨vs, h1, by rw [← Reps.length hr]; exact hi⟩, fun i d hd => ?_⟩
  obtain ⟨v, hv, rv⟩ := hr.get hd
  refine ⟨⟨vs, v, h1, hv⟩, fun x H2 hy => ?_⟩
  obtain ⟨rfl, hy⟩ := hy
  have e := hy vs h1
  rw [hv] at e
  cases e
  exact ⟨F', Grow.refl, h, rv.mono f⟩
theorem itOk_tup {K : PySem.W.Frag} {F : Hp} {a : Addr} {ds : List D} {vs : List V} (hs : SqT K F a vs) (hr : Reps K F ds vs) : ItOk K (Itt K a) F ds := fun F' H' f h => by
  have h1 : SqT K H' a vs := same_seqT h (same_seqT f hs)
  refine ⟨fun i hi => ⟨vs, h1, by rw [← Reps.length hr]; exact hi⟩, fun i d hd => ?_⟩
  obtain ⟨v, hv, rv⟩ := hr.get hd
  refine ⟨⟨vs, v, h1, hv⟩, fun x H2 hy => ?_⟩
  obtain ⟨rfl, hy⟩ := hy
  have e := hy vs h1
  rw [hv] at e
  cases e
  exact ⟨F', Grow.refl, h, rv.mono f⟩
theorem itOk_str {K : PySem.W.Frag} {F : Hp} {z : Str} : ItOk K (Its z) F (signs z) := fun F' H' f h => by
  refine ⟨fun i hi => by unfold signs at hi; rw [List.length_map] at hi; exact (show z.cps.size ≤ i by simpa using hi), fun i d hd => ?_⟩
  unfold signs at hd
  rw [List.getElem?_map] at hd
  cases e : z.cps.toList[i]? with
  | none => rw [e] at hd; cases hd
  | some c =>
    rw [e] at hd
    cases hd
    have e2 : z.cps[i]? = some c := by rw [← Array.getElem?_toList]; exact e
    refine ⟨(Array.getElem?_eq_some_iff.mp e2).1, fun x H2 hy => ?_⟩
    obtain ⟨rfl, c', hc, rfl⟩ := hy
    rw [e2] at hc
    cases hc
    exact ⟨F', Grow.refl, h, .str _⟩
theorem itOk_rng {K : PySem.W.Frag} {F : Hp} {lo : Int} {n : Nat} : ItOk K (Itr lo n) F (rng lo n) := fun F' H' f h => by
  refine ⟨fun i hi => by unfold rng at hi; rw [List.length_map, List.length_range] at hi; exact hi, fun i d hd => ?_⟩
  obtain ⟨h1, rfl⟩ := rng_get hd
  refine ⟨h1, fun x H2 hy => ?_⟩
  obtain ⟨rfl, rfl⟩ := hy
  exact ⟨F', Grow.refl, h, .int _⟩
section
variable {X : Cx} {W : WX} {pos p : Pos} {tg e a b : Expr} {m : M} {ms : MA}
theorem pxi_list (h : PX X W e m) : PXI X W tg e (miL m) := ⟨fun ρ => PI.imp (pi_list (h.run ρ)) fun σ H R ⟨F, s, h⟩ => by
  refine ⟨F, s, Post.bindD (k := fun a ρ1 => match a with | .lst ds => .ok ds ρ1 | _ => .no) s h ri_back fun d ρ1 v F1 H1 e1 g1 s1 sh1 r1 h1 => ?_⟩
  cases r1 with
  | lst hs hr => exact ⟨_, rfl, ⟨_, Same.seq s1.same hs⟩, h1 _ F1 H1 Grow.refl s1 rfl (itOk_list hs hr)⟩
  | _ => exact h1.elim⟩
theorem pxi_tup (h : PX X W e m) : PXI X W tg e (miT m) := ⟨fun ρ => PI.imp (pi_tup (h.run ρ)) fun σ H R ⟨F, s, h⟩ => by
  refine ⟨F, s, Post.bindD (k := fun a ρ1 => match a with | .tup ds => .ok ds ρ1 | _ => .no) s h ri_back fun d ρ1 v F1 H1 e1 g1 s1 sh1 r1 h1 => ?_⟩
  cases r1 with
  | tup hs hr => exact ⟨_, rfl, ⟨_, same_seqT s1.same hs⟩, h1 _ F1 H1 Grow.refl s1 rfl (itOk_tup hs hr)⟩
  | _ => exact h1.elim⟩
theorem pxi_str (h : PX X W e m) : PXI X W tg e (miS m) := ⟨fun ρ => PI.imp (pi_str (h.run ρ)) fun σ H R ⟨F, s, h⟩ => by
  refine ⟨F, s, Post.bindD (k := fun a ρ1 => match a with | .str z => .ok (signs z) ρ1 | _ => .no) s h ri_back fun d ρ1 v F1 H1 e1 g1 s1 sh1 r1 h1 => ?_⟩
  cases r1 with
  | str z => exact ⟨z, rfl, h1 _ F1 H1 Grow.refl s1 rfl itOk_str⟩
  | _ => exact h1.elim⟩
theorem pxi_rng1 (hm : X.mg "range" = none) (ha : PXA X W [a] ms) (hg : Gl X "range" := by rfl) (hs : starEach [a] X.env = [(false, eval a X.env)] := by rfl) : PXI X W tg (.Call (.Name "range" p) [a] [] pos) (miR1 ms) := ⟨fun ρ => PI.imp (pi_range1 hg hm (ha.run ρ) hs) fun σ H R ⟨F, s, h⟩ => by
  refine ⟨F, s, Post.bind (k := fun ds ρ1 => match ds with | [.int j] => if -1000000000000 < j ∧ j < 1000000000000 then .ok (rng 0 j.toNat) ρ1 else .no | _ => .no) h ri_back fun ds ρ1 vs F1 H1 e1 _ g1 s1 sh1 r1 h1 => ?_⟩
  cases r1 with
  | nil => exact h1.elim
  | cons r1 r2 =>
    cases r2 with
    | cons _ _ => cases r1 <;> exact h1.elim
    | nil =>
      cases r1 with
      | int j =>
        have h2 : Post X.K W (RI X.K) σ ρ1 F1 H1 (if -1000000000000 < j ∧ j < 1000000000000 then .ok (rng 0 j.toNat) ρ1 else .no) R := h1
        by_cases c : -1000000000000 < j ∧ j < 1000000000000
        · rw [if_pos c] at h2
          exact ⟨j, rfl, by omega, by omega, h2 _ F1 H1 Grow.refl s1 rfl itOk_rng⟩
        · rw [if_neg c] at h2
          exact h2.elim
      | _ => exact h1.elim⟩
theorem pxi_rng2 (hm : X.mg "range" = none) (ha : PXA X W [a, b] ms) (hg : Gl X "range" := by rfl) (hs : starEach [a, b] X.env = [(false, eval a X.env), (false, eval b X.env)] := by rfl) (hs2 : starEach [b] X.env = [(false, eval b X.env)] := by rfl) :
    PXI X W tg (.Call (.Name "range" p) [a, b] [] pos) (miR2 ms) := ⟨fun ρ => PI.imp (pi_range2 hg hm (ha.run ρ) hs hs2) fun σ H R ⟨F, s, h⟩ => by
  refine ⟨F, s, Post.bind (k := fun ds ρ1 => match ds with | [.int i, .int j] => if -1000000000000 < i ∧ i < 1000000000000 ∧ -1000000000000 < j ∧ j < 1000000000000 then .ok (rng i (j - i).toNat) ρ1 else .no | _ => .no) h ri_back fun ds ρ1 vs F1 H1 e1 _ g1 s1 sh1 r1 h1 => ?_⟩
  match ds, vs, r1, h1 with
  | [.int i, .int j], _, .cons (.int _) (.cons (.int _) .nil), h1 =>
    have h2 : Post X.K W (RI X.K) σ ρ1 F1 H1 (if -1000000000000 < i ∧ i < 1000000000000 ∧ -1000000000000 < j ∧ j < 1000000000000 then .ok (rng i (j - i).toNat) ρ1 else .no) R := h1
    by_cases c : -1000000000000 < i ∧ i < 1000000000000 ∧ -1000000000000 < j ∧ j < 1000000000000
    · rw [if_pos c] at h2
      exact ⟨i, j, rfl, by omega, h2 _ F1 H1 Grow.refl s1 rfl itOk_rng⟩
    · rw [if_neg c] at h2
      exact h2.elim⟩
end
end PD
end
section
set_option Elab.async false
set_option linter.all false
set_option maxRecDepth 100000
set_option maxHeartbeats 2000000
namespace PD
open PySem PySem.Spec PyProof.Rows L2

/-! ### defs -/
/-- the promise of a def that is worth f -/
def spF (K : PySem.W.Frag) (n : Nat) (f : En → Res RV) : Sp := fun vs H Q E => vs.length = n ∧ ∃ ρ, tE K (fun cls d _ H => E cls d H) ρ (f ρ) (vs.map some) H Q
structure DefOk (P : Program) (w : World) (K : PySem.W.Frag) (mg : Str → Option Value) (base : Heap) (k : Nat) (x : Str) (n : Nat) (f : En → Res RV) : Prop where
  ex : ∃ fa fd ps, FnOk P w K mg base (L2N.CX P w) k fa fd ps (spF K n f) ∧ mg x = some (.ref fa) ∧ PySem.W.keepIn K (.ref fa) = true ∧ Binds K fd ps [] ∧ ps.length = n
theorem DefOk.mono {P : Program} {w : World} {K : PySem.W.Frag} {mg : Str → Option Value} {base : Heap} {j k : Nat} {x : Str} {n : Nat} {f : En → Res RV} (F : DefOk P w K mg base j x n f) (h : j ≤ k) : DefOk P w K mg base k x n f := by
  obtain ⟨fa, fd, ps, h1, h2⟩ := F.ex
  exact ⟨fa, fd, ps, h1.mono h, h2⟩
def Res.at {α : Type} (r : Res α) (ρ : En) : Res α := match r with
  | .ok a _ => .ok a ρ
  | .er x _ => .er x ρ
  | .no => .no
def mFn (n : Nat) (f : En → Res RV) (ms : MA) : M := fun ρ => (ms ρ).bind fun ds ρ1 => if ds.length = n then (f (ds.map .val)).at ρ1 else .no
/-- the first argument an own list, in slot i -/
def ownBack (r : Res RV) (i : Nat) (ρ : En) : Res RV := match r with
  | .ok a (.own l :: _) => .ok a (ρ.set i (.own l))
  | .er x (.own l :: _) => .er x (ρ.set i (.own l))
  | _ => .no
def mFnO (n : Nat) (f : En → Res RV) (i : Nat) (ms : MA) : M := fun ρ => match ρ[i]? with
  | some (.own _) => (ms ρ).bind fun ds ρ1 => match ρ1[i]? with
    | some (.own l) => if ds.length + 1 = n then ownBack (f (.own l :: ds.map .val)) i ρ1 else .no
    | _ => .no
  | _ => .no

section
variable {K : PySem.W.Frag} {W : WX} {σ : L2.St} {ρ : En} {F H : Hp}
theorem args_ok {ds : List D} {vs : List V} (e : Same F H) (r : Reps K F ds vs) : StOk K F H (vs.map some) (ds.map .val) where
  same := e
  len := by rw [List.length_map, List.length_map, Reps.length r]
  sl := fun i x s h1 h2 => by
    rw [List.getElem?_map] at h1 h2
    cases e : ds[i]? with
    | none => rw [e] at h2; cases h2
    | some d =>
      rw [e] at h2
      cases h2
      obtain ⟨v, hv, rv⟩ := r.get e
      rw [hv] at h1
      cases h1
      exact rv
  inj := fun i j a d e h1 => by
    rw [List.getElem?_map] at h1
    cases q : ds[i]? with
    | none => rw [q] at h1; cases h1
    | some d => rw [q] at h1; cases h1
theorem args_noown {ds : List D} {σ : L2.St} {b : Addr} : ¬ Own σ (ds.map .val) b := fun ⟨i, d, h, _⟩ => by
  rw [List.getElem?_map] at h
  cases q : ds[i]? with
  | none => rw [q] at h; cases h
  | some d => rw [q] at h; cases h
theorem fn_imp {n : Nat} {f : En → Res RV} {ms : MA} {Q : VK} (h : tE K W ρ (mFn n f ms ρ) σ H Q) : tCallS (spF K n f) (WE W) (tA K W ρ (ms ρ)) σ H Q := by
  obtain ⟨F, s, h⟩ := h
  refine ⟨F, s, Post.bind (k := fun ds ρ1 => if ds.length = n then (f (ds.map .val)).at ρ1 else .no) h repV_back fun ds ρ1 vs F1 H1 e1 _ g1 s1 sh1 r1 h1 => ?_⟩
  by_cases c : ds.length = n
  · rw [if_pos c] at h1
    refine ⟨by rw [← Reps.length r1]; exact c, ds.map .val, F1, args_ok s1.same r1, ?_⟩
    have noo : ∀ {F' H'}, Grow (Own (vs.map some) (ds.map .val)) F1 H1 F' H' → Gr F1 H1 F' H' := fun g => g.imp fun b z => (args_noown z).elim
    cases e : f (ds.map .val) with
    | no => rw [e] at h1; exact h1.elim
    | ok a ρ' =>
      rw [e] at h1
      exact fun v F' H' g s' sh q => h1 v F' H' ((noo g).imp fun _ z => z.elim) (s1.grow (noo g) s'.same) rfl q
    | er x ρ' =>
      rw [e] at h1
      exact fun cls d F' H' g s' sh q => h1 cls d F' H' ((noo g).imp fun _ z => z.elim) (s1.grow (noo g) s'.same) rfl q
  · rw [if_neg c] at h1; exact h1.elim

theorem own_args_ok {ds : List D} {vs : List V} {a : Addr} {l : OC} {ls : HO} (e : Same F H) (r : Reps K F ds vs) (ha : H a = some ls) (hf : F a = none) (hl : OcOk K F l ls) : StOk K F H ((V.ref a :: vs).map some) (.own l :: ds.map .val) where
  same := e
  len := by rw [List.map_cons, List.length_cons, List.length_cons, List.length_map, List.length_map, Reps.length r]
  sl := fun i x s h1 h2 => by
    cases i with
    | zero =>
      rw [List.map_cons, List.getElem?_cons_zero] at h1
      rw [List.getElem?_cons_zero] at h2
      cases h1; cases h2
      exact ⟨a, ls, rfl, ha, hf, hl⟩
    | succ i =>
      rw [List.map_cons, List.getElem?_cons_succ] at h1
      rw [List.getElem?_cons_succ] at h2
      exact (args_ok e r).sl i x s h1 h2
  inj := fun i j b d e h1 h2 _ _ => by
    have key : ∀ (i : Nat) d, (Sl.own l :: ds.map .val)[i]? = some (.own d) → i = 0 := fun i d h => by
      cases i with
      | zero => rfl
      | succ i =>
        rw [List.getElem?_cons_succ, List.getElem?_map] at h
        cases q : ds[i]? with
        | none => rw [q] at h; cases h
        | some d => rw [q] at h; cases h
    rw [key i d h1, key j e h2]
theorem shape_set {i : Nat} {s s' : Sl} (h : ρ[i]? = some s) (e : s'.isOwn = s.isOwn) : shape (ρ.set i s') = shape ρ := by
  apply List.ext_getElem?
  intro j
  rw [List.getElem?_map, List.getElem?_map, List.getElem?_set]
  by_cases c : i = j
  · subst c
    have hi := (List.getElem?_eq_some_iff.mp h).1
    rw [if_pos rfl, if_pos hi, h]
    simp [e]
  · rw [if_neg c]
/-- an own list has changed -/
theorem StOk.setOwn {F' H' : Hp} {i : Nat} {a : Addr} {l l' : OC} {ls' : HO} (s : StOk K F H σ ρ) (hi : ρ[i]? = some (.own l)) (ha : σ[i]? = some (some (.ref a))) (g : Grow (fun b => b = a) F H F' H') (e : Same F' H') (h' : H' a = some ls') (r : OcOk K F' l' ls') :
    StOk K F' H' σ (ρ.set i (.own l')) where
  same := e
  len := by rw [List.length_set]; exact s.len
  sl := fun j x sl h1 h2 => by
    have hlt := (List.getElem?_eq_some_iff.mp hi).1
    by_cases c : i = j
    · subst c
      rw [List.getElem?_set_self hlt] at h2
      cases h2
      rw [ha] at h1
      cases h1
      obtain ⟨_, q1, q2⟩ := s.own_at ⟨i, l, hi, ha⟩
      exact ⟨a, ls', rfl, h', g.fr a (by rw [q1]; exact fun z => nomatch z) q2, r⟩
    · rw [List.getElem?_set_ne c] at h2
      have q := s.sl j x sl h1 h2
      cases sl with
      | emp => cases x <;> trivial
      | val d => cases x with
        | none => exact q
        | some v => exact Rep.mono g.ff q
      | own ds => cases x with
        | none => exact q
        | some v =>
          obtain ⟨b, vs, r1, r2, r3, r4⟩ := q
          subst r1
          have ne : b ≠ a := fun z => c (s.inj i j a l ds hi h2 ha (by rw [← z]; exact h1))
          exact ⟨b, vs, rfl, g.hh b _ r2 ne, g.fr b (by rw [r2]; exact fun z => nomatch z) r3, r4.mono g.ff⟩
  inj := fun j j' b d e h1 h2 h3 h4 => by
    have key : ∀ (j : Nat) d, (ρ.set i (.own l'))[j]? = some (.own d) → ∃ d', ρ[j]? = some (.own d') := fun j d h => by
      by_cases c : i = j
      · subst c; exact ⟨l, hi⟩
      · rw [List.getElem?_set_ne c] at h; exact ⟨d, h⟩
    obtain ⟨d1, k1⟩ := key j d h1
    obtain ⟨d2, k2⟩ := key j' e h2
    exact s.inj j j' b d1 d2 k1 k2 h3 h4
theorem StOk.own_slot {i : Nat} {l : OC} (s : StOk K F H σ ρ) (hi : ρ[i]? = some (.own l)) : ∃ a u, σ[i]? = some (some (.ref a)) ∧ H a = some u ∧ F a = none ∧ OcOk K F l u := by
  have hlt := (List.getElem?_eq_some_iff.mp hi).1
  have h1 : i < σ.length := by rw [s.len]; exact hlt
  have q := s.sl i _ _ (List.getElem?_eq_getElem h1) hi
  cases e : σ[i] with
  | none => rw [e] at q; exact q.elim
  | some v =>
    rw [e] at q
    obtain ⟨a, vs, r1, r2, r3, r4⟩ := q
    exact ⟨a, vs, by rw [List.getElem?_eq_getElem h1, e, r1], r2, r3, r4⟩
theorem shape_own {ρ ρ' : En} (sh : shape ρ' = shape ρ) {i : Nat} {l : OC} (h : ρ[i]? = some (.own l)) : ∃ l', ρ'[i]? = some (.own l') := by
  have q : (shape ρ)[i]? = some true := by rw [List.getElem?_map, h]; rfl
  rw [← sh, List.getElem?_map] at q
  cases r : ρ'[i]? with
  | none => rw [r] at q; cases q
  | some s =>
    rw [r] at q
    cases s with
    | own l' => exact ⟨l', rfl⟩
    | emp => cases q
    | val d => cases q
theorem fnO_imp {n i : Nat} {f : En → Res RV} {ms : MA} {Q : VK} (h : tE K W ρ (mFnO n f i ms ρ) σ H Q) : tCallS (spF K n f) (WE W) (tCons (tVar i) (tA K W ρ (ms ρ))) σ H Q := by
  obtain ⟨F, s, h⟩ := h
  unfold mFnO at h
  cases ei : ρ[i]? with
  | none => rw [ei] at h; exact h.elim
  | some sl =>
    rw [ei] at h
    cases sl with
    | emp => exact h.elim
    | val d => exact h.elim
    | own l0 =>
      obtain ⟨a, vs0, ha, hH, hF, hR⟩ := s.own_slot ei
      refine ⟨.ref a, ha, F, s, Post.bind (k := fun ds ρ1 => match ρ1[i]? with | some (.own l) => if ds.length + 1 = n then ownBack (f (.own l :: ds.map .val)) i ρ1 else .no | _ => .no) h repV_back fun ds ρ1 vs F1 H1 e1 _ g1 s1 sh1 r1 h1 => ?_⟩
      obtain ⟨l1, e1'⟩ := shape_own sh1 ei
      have h2 : Post K W (RepV K) σ ρ1 F1 H1 (if ds.length + 1 = n then ownBack (f (.own l1 :: ds.map .val)) i ρ1 else .no) Q := by
        have h1' : Post K W (RepV K) σ ρ1 F1 H1 (match ρ1[i]? with | some (.own l) => if ds.length + 1 = n then ownBack (f (.own l :: ds.map .val)) i ρ1 else .no | _ => .no) Q := h1
        rw [e1'] at h1'
        exact h1'
      obtain ⟨a1, ls, ha1, hH1, hF1, hR1⟩ := s1.own_slot e1'
      obtain rfl : a1 = a := by rw [ha] at ha1; cases ha1; rfl
      by_cases c : ds.length + 1 = n
      · rw [if_pos c] at h2
        refine ⟨by show vs.length + 1 = n; rw [← Reps.length r1]; exact c, .own l1 :: ds.map .val, F1, own_args_ok s1.same r1 hH1 hF1 hR1, ?_⟩
        have oo : ∀ {b : Addr}, Own ((V.ref a1 :: vs).map some) (.own l1 :: ds.map .val) b → b = a1 := fun {b} ⟨j, d, q1, q2⟩ => by
          cases j with
          | zero => rw [List.map_cons, List.getElem?_cons_zero] at q2; cases q2; rfl
          | succ j =>
            rw [List.getElem?_cons_succ, List.getElem?_map] at q1
            cases q : ds[j]? with
            | none => rw [q] at q1; cases q1
            | some d => rw [q] at q1; cases q1
        have fin : ∀ {F' H' : Hp} {ρ' : En}, Grow (Own ((V.ref a1 :: vs).map some) (.own l1 :: ds.map .val)) F1 H1 F' H' → StOk K F' H' ((V.ref a1 :: vs).map some) ρ' → ∀ l2 r2, ρ' = .own l2 :: r2 → StOk K F' H' σ (ρ1.set i (.own l2)) ∧ Grow (Own σ ρ1) F1 H1 F' H' := fun {F' H' ρ'} g s' l2 r2 e => by
          subst e
          have q := s'.sl 0 _ _ rfl rfl
          obtain ⟨a2, vs2, k1, k2, k3, k4⟩ := q
          cases k1
          have g' : Grow (fun b => b = a1) F1 H1 F' H' := g.imp fun b z => oo z
          exact ⟨s1.setOwn e1' ha g' s'.same k2 k4, g'.imp fun b z => ⟨i, l1, e1', by rw [z]; exact ha⟩⟩
        cases e : f (.own l1 :: ds.map .val) with
        | no => rw [e] at h2; exact h2.elim
        | ok x ρ' =>
          rw [e] at h2
          intro v F' H' g s' sh q
          cases ρ' with
          | nil => exact h2.elim
          | cons s0 r =>
            cases s0 with
            | emp => exact h2.elim
            | val d => exact h2.elim
            | own l2 =>
              obtain ⟨k1, k2⟩ := fin g s' l2 r rfl
              exact h2 v F' H' k2 k1 (shape_set e1' rfl) q
        | er x ρ' =>
          rw [e] at h2
          intro cls d F' H' g s' sh q
          cases ρ' with
          | nil => exact h2.elim
          | cons s0 r =>
            cases s0 with
            | emp => exact h2.elim
            | val d => exact h2.elim
            | own l2 =>
              obtain ⟨k1, k2⟩ := fin g s' l2 r rfl
              exact h2 cls d F' H' k2 k1 (shape_set e1' rfl) q
      · rw [if_neg c] at h2; exact h2.elim
end
section
variable {X : Cx} {W : WX} {k n : Nat} {f : En → Res RV} {x : Str} {p pos : Pos} {e : Expr} {es : List Expr} {ms : MA}
theorem px_call (F : DefOk X.prog X.w X.K X.mg X.base k x n f) (hr : Room k X.A) (tk : L2N.Takes X W) (ha : PXA X W (e :: es) ms) (hg : Gl X x := by rfl) (hdb : (x == ("__debug__" : Str)) = false := by decide)
    (he : starEach (e :: es) X.env = (false, eval e X.env) :: starEach es X.env := by rfl) (hpl : (backTo pos (starEach es X.env)).any (·.1) = false := by rfl) : PX X W (.Call (.Name x p) (e :: es) [] pos) (mFn n f ms) := by
  obtain ⟨fa, fd, ps, h1, h2, h3, h4, h5⟩ := F.ex
  exact ⟨fun ρ => PE.imp (pe_callS h1 hr hg h2 h3 h4 (fun σ => L2N.passAt tk σ) (ha.run ρ) hdb he hpl) fun _ _ _ h => fn_imp h⟩
theorem px_callO {i : Nat} {y : Str} {py : Pos} (F : DefOk X.prog X.w X.K X.mg X.base k x n f) (hr : Room k X.A) (tk : L2N.Takes X W) (ha : PXA X W es ms) (hN : X.N[i]? = some y := by rfl) (hv : Vis X.env.scope y := by first | exact Or.inl rfl | exact Or.inr (Or.inl rfl) | exact Or.inr (Or.inr rfl)) (hg : Gl X x := by rfl)
    (hdb : (x == ("__debug__" : Str)) = false := by decide) (hdy : (y == ("__debug__" : Str)) = false := by decide) (hcd : (y == ("__classdict__" : Str)) = false := by decide)
    (he : starEach (.Name y py :: es) X.env = (false, eval (.Name y py) X.env) :: starEach es X.env := by rfl) (hpl : (backTo pos (starEach es X.env)).any (·.1) = false := by rfl) : PX X W (.Call (.Name x p) (.Name y py :: es) [] pos) (mFnO n f i ms) := by
  obtain ⟨fa, fd, ps, h1, h2, h3, h4, h5⟩ := F.ex
  exact ⟨fun ρ => PE.imp (pe_callS h1 hr hg h2 h3 h4 (fun σ => L2N.passAt tk σ) (pa_cons (pv i hN hv hdy hcd) (ha.run ρ)) hdb he hpl) fun _ _ _ h => fnO_imp h⟩
end
end PD
end
section
set_option Elab.async false
set_option linter.all false
set_option maxRecDepth 100000
set_option maxHeartbeats 2000000
namespace PD
open PySem PySem.Spec PyProof.Rows L2

/-! ### a slot that holds no own list is stored -/
section
variable {K : PySem.W.Frag} {σ : L2.St} {ρ ρ' : En} {F H : Hp} {i : Nat} {o : Sl} {x : V} {d : D}
theorem StOk.setVal (s : StOk K F H σ ρ) (hi : ρ[i]? = some o) (ho : o.isOwn = false) (r : Rep K F d x) : StOk K F H (σ.set i (some x)) (ρ.set i (.val d)) where
  same := s.same
  len := by rw [List.length_set, List.length_set]; exact s.len
  sl := fun j y sl h1 h2 => by
    have hlt := (List.getElem?_eq_some_iff.mp hi).1
    by_cases c : i = j
    · subst c
      rw [List.getElem?_set_self hlt] at h2
      rw [List.getElem?_set_self (by rw [s.len]; exact hlt)] at h1
      cases h1; cases h2
      exact r
    · rw [List.getElem?_set_ne c] at h1 h2
      exact s.sl j y sl h1 h2
  inj := fun j j' b d1 d2 h1 h2 h3 h4 => by
    have hlt := (List.getElem?_eq_some_iff.mp hi).1
    have key : ∀ (j : Nat) d1, (ρ.set i (.val d))[j]? = some (.own d1) → i ≠ j := fun j d1 h c => by
      subst c
      rw [List.getElem?_set_self hlt] at h
      cases h
    have k1 := key j d1 h1
    have k2 := key j' d2 h2
    rw [List.getElem?_set_ne k1] at h1 h3
    rw [List.getElem?_set_ne k2] at h2 h4
    exact s.inj j j' b d1 d2 h1 h2 h3 h4
theorem own_setVal (hi : ρ[i]? = some o) (ho : o.isOwn = false) {b : Addr} {y : Option V} {s' : Sl} (hs : s'.isOwn = false) : Own (σ.set i y) (ρ.set i s') b ↔ Own σ ρ b := by
  have hlt := (List.getElem?_eq_some_iff.mp hi).1
  constructor
  · rintro ⟨j, e, h1, h2⟩
    have c : i ≠ j := fun c => by
      subst c
      rw [List.getElem?_set_self hlt] at h1
      cases h1
      cases hs
    rw [List.getElem?_set_ne c] at h1 h2
    exact ⟨j, e, h1, h2⟩
  · rintro ⟨j, e, h1, h2⟩
    have c : i ≠ j := fun c => by
      subst c
      rw [hi] at h1
      cases h1
      cases ho
    exact ⟨j, e, by rw [List.getElem?_set_ne c]; exact h1, by rw [List.getElem?_set_ne c]; exact h2⟩
theorem StOk.back {y : Option V} (s : StOk K F H (σ.set i y) ρ) (hi : i < ρ.length) (hn : ∀ l, ρ[i]? ≠ some (.own l)) (ho : o.isOwn = false) (z : ∀ x, σ[i]? = some x → SlOk K F H x o) : StOk K F H σ (ρ.set i o) where
  same := s.same
  len := by rw [List.length_set]; have := s.len; rw [List.length_set] at this; exact this
  sl := fun j x sl h1 h2 => by
    by_cases c : i = j
    · subst c
      rw [List.getElem?_set_self hi] at h2
      cases h2
      exact z x h1
    · rw [List.getElem?_set_ne c] at h2
      exact s.sl j x sl (by rw [List.getElem?_set_ne c]; exact h1) h2
  inj := fun j j' b d1 d2 h1 h2 h3 h4 => by
    have key : ∀ (j : Nat) d1, (ρ.set i o)[j]? = some (.own d1) → i ≠ j := fun j d1 h c => by
      subst c
      rw [List.getElem?_set_self hi] at h
      cases h
      cases ho
    have k1 := key j d1 h1
    have k2 := key j' d2 h2
    rw [List.getElem?_set_ne k1] at h1
    rw [List.getElem?_set_ne k2] at h2
    exact s.inj j j' b d1 d2 h1 h2 (by rw [List.getElem?_set_ne k1]; exact h3) (by rw [List.getElem?_set_ne k2]; exact h4)
end

/-! ### list comprehensions -/
abbrev WF : WX := fun _ _ _ _ => False
def mtYes : MT := fun ρ => .ok true ρ
def lcGo (i : Nat) (o : Sl) (tt : MT) (me : M) : List D → List D → En → Res RV
  | [], acc, ρ => .ok (.fr (.lst acc)) ρ
  | d :: r, acc, ρ => match tt (ρ.set i (.val d)) with
    | .ok true ρ1 => (match me ρ1 with
      | .ok a ρ2 => lcGo i o tt me r (acc ++ [a.d]) (ρ2.set i o)
      | _ => .no)
    | .ok false ρ1 => lcGo i o tt me r acc (ρ1.set i o)
    | _ => .no
def mLc (mi : MI) (i : Nat) (tt : MT) (me : M) : M := fun ρ => (mi ρ).bind fun ds ρ1 => match ρ1[i]? with
  | some (.own _) => .no
  | some o => if ds.length ≤ top1 then lcGo i o tt me ds [] ρ1 else .no
  | none => .no

section
variable {K : PySem.W.Frag} {W : WX} {σ : L2.St} {ρ : En} {H : Hp} {Q : VK} {mi : MI} {i : Nat} {tt : MT} {me : M}
theorem not_own_shape {ρ ρ' : En} (sh : shape ρ' = shape ρ) (h : ∀ l, ρ[i]? ≠ some (.own l)) : ∀ l, ρ'[i]? ≠ some (.own l) := fun l e => by
  obtain ⟨l', q⟩ := shape_own sh.symm e
  exact h l' q
theorem lc_imp (h : tE K W ρ (mLc mi i tt me ρ) σ H Q) : tLc (tI K W ρ (mi ρ)) (gName i) (fun σ H Q => ∃ ρ', tT K WF ρ' (tt ρ') σ H Q) (fun σ H Q => ∃ ρ', tE K WF ρ' (me ρ') σ H Q) [i] σ H Q := by
  obtain ⟨F, s, h⟩ := h
  refine ⟨F, s, Post.bind (k := fun ds ρ1 => match ρ1[i]? with | some (.own _) => .no | some o => if ds.length ≤ top1 then lcGo i o tt me ds [] ρ1 else .no | none => .no) h repV_back fun ds ρ1 J F1 H1 e1 _ g1 s1 sh1 r1 h1 => ?_⟩
  have h1' : Post K W (RepV K) σ ρ1 F1 H1 (match ρ1[i]? with | some (.own _) => .no | some o => if ds.length ≤ top1 then lcGo i o tt me ds [] ρ1 else .no | none => .no) Q := h1
  obtain ⟨o, ei, ho, hz, h2⟩ : ∃ o, ρ1[i]? = some o ∧ o.isOwn = false ∧ ds.length ≤ top1 ∧ Post K W (RepV K) σ ρ1 F1 H1 (lcGo i o tt me ds [] ρ1) Q := by
    cases e : ρ1[i]? with
    | none => rw [e] at h1'; exact h1'.elim
    | some o =>
      rw [e] at h1'
      cases o with
      | own l => exact h1'.elim
      | emp =>
        have h3 : Post K W (RepV K) σ ρ1 F1 H1 (if ds.length ≤ top1 then lcGo i .emp tt me ds [] ρ1 else .no) Q := h1'
        by_cases c : ds.length ≤ top1
        · exact ⟨_, rfl, rfl, c, by rw [if_pos c] at h3; exact h3⟩
        · rw [if_neg c] at h3; exact h3.elim
      | val d =>
        have h3 : Post K W (RepV K) σ ρ1 F1 H1 (if ds.length ≤ top1 then lcGo i (.val d) tt me ds [] ρ1 else .no) Q := h1'
        by_cases c : ds.length ≤ top1
        · exact ⟨_, rfl, rfl, c, by rw [if_pos c] at h3; exact h3⟩
        · rw [if_neg c] at h3; exact h3.elim
  clear h1 h1' h
  have hlt : i < ρ1.length := (List.getElem?_eq_some_iff.mp ei).1
  have hno : ∀ l, ρ1[i]? ≠ some (.own l) := fun l e => by rw [ei] at e; cases e; cases ho
  intro D hD
  have hDo : ∀ b, Own σ ρ1 b → b ≠ D := fun b ob z => by
    obtain ⟨vs, q, _⟩ := s1.own_at ob
    rw [z, hD] at q; cases q
  have hFD : F1 D = none := Same.free s1.same hD
  refine ⟨fun t m H' => m = ds.length - t ∧ t ≤ ds.length ∧ ∃ F' ρ' acc vacc, StOk K F' H' σ ρ' ∧ shape ρ' = shape ρ1 ∧ Grow (fun b => Own σ ρ1 b ∨ b = D) F1 (upd H1 D (.lst [])) F' H' ∧ F' D = none ∧ H' D = some (.lst vacc) ∧ Reps K F' acc vacc ∧ acc.length ≤ t ∧ ρ'[i]? = some o ∧
      Post K W (RepV K) σ ρ1 F1 H1 (lcGo i o tt me (ds.drop t) acc ρ') Q, ⟨ds.length, by simp, Nat.zero_le _, F1, ρ1, [], [], ?_, rfl, Grow.refl, hFD, upd_same, .nil, Nat.zero_le _, ei, h2⟩, ?_⟩
  · obtain ⟨g, e⟩ := gr_newH (o := .lst []) s1.same hD
    exact s1.grow g e
  rintro t m H' ⟨rfl, ht, F', ρ', acc, vacc, s', sh', g', fD, hD', ra, hl, ei', hp⟩
  have gg : Grow (Own σ ρ1) F1 H1 F' H' := ⟨g'.ff, fun b u q n => by
      have ne : b ≠ D := ne_of_none q hD
      exact g'.hh b u (by rw [upd_ne ne]; exact q) fun z => z.elim n ne, fun b q => g'.ht b (by
      by_cases ne : b = D
      · rw [ne, upd_same]; exact fun z => nomatch z
      · rw [upd_ne ne]; exact q), fun b q n => g'.fr b (by
      by_cases ne : b = D
      · rw [ne, upd_same]; exact fun z => nomatch z
      · rw [upd_ne ne]; exact q) n⟩
  obtain ⟨jst, jgo⟩ := r1 F' H' g'.ff s'.same
  by_cases c : t < ds.length
  · have ed : ds[t]? = some ds[t] := List.getElem?_eq_getElem c
    obtain ⟨go, yl⟩ := jgo t ds[t] ed
    rw [List.drop_eq_getElem_cons c] at hp
    refine .inr ⟨go, _, fun H'' z => z, fun x H2 hy => ?_⟩
    obtain ⟨F2, g2, e2, rx⟩ := yl x H2 hy
    have s2 := s'.grow g2 e2
    have es : (wipe σ [i]).set i (some x) = σ.set i (some x) := List.set_set ..
    have key : ∀ Kk : L2.St → Hp → Prop, Kk (σ.set i (some x)) H2 → gName i x (wipe σ [i]) H2 Kk := fun Kk h => by
      show Kk ((wipe σ [i]).set i (some x)) H2
      rw [es]; exact h
    refine key _ ⟨by show (σ.set i (some x)).set i none = σ.set i none; rw [List.set_set], ?_⟩
    have s3 := s2.setVal ei' ho rx
    have own3 : ∀ {b}, Own (σ.set i (some x)) (ρ'.set i (.val ds[t])) b ↔ Own σ ρ' b := fun {b} => own_setVal ei' ho rfl
    have own1 : ∀ {b}, Own σ ρ' b ↔ Own σ ρ1 b := fun {b} => own_shape sh'
    have hlt' : i < ρ'.length := (List.getElem?_eq_some_iff.mp ei').1
    have hno3 : ∀ l, (ρ'.set i (.val ds[t]))[i]? ≠ some (.own l) := fun l e => by rw [List.getElem?_set_self hlt'] at e; cases e
    have slo : ∀ {F4 H4 : Hp}, Same F1 F4 → ∀ y, σ[i]? = some y → SlOk K F4 H4 y o := fun {F4 H4} f y hy => by
      have q := s1.sl i y o hy ei
      cases o with
      | own l => cases ho
      | emp => cases y <;> trivial
      | val d => cases y with
        | none => exact q
        | some v => exact Rep.mono f q
    -- behind the block: the state of the loop again
    have again : ∀ {F4 H4 : Hp} {ρ4 : En}, Grow (Own (σ.set i (some x)) (ρ'.set i (.val ds[t]))) F2 H2 F4 H4 → StOk K F4 H4 (σ.set i (some x)) ρ4 → shape ρ4 = shape (ρ'.set i (.val ds[t])) → StOk K F4 H4 σ (ρ4.set i o) ∧ shape (ρ4.set i o) = shape ρ1 ∧ Grow (fun b => Own σ ρ1 b ∨ b = D) F1 (upd H1 D (.lst [])) F4 H4 ∧ F4 D = none ∧ H4 D = some (.lst vacc) ∧ Reps K F4 acc vacc ∧ (ρ4.set i o)[i]? = some o ∧ Same F' F4 := fun {F4 H4 ρ4} g4 s4 sh4 => by
      have l4 : ρ4.length = ρ'.length := by
        have := congrArg List.length sh4
        rw [List.length_map, List.length_map, List.length_set] at this
        exact this
      have g4' : Grow (fun b => Own σ ρ1 b ∨ b = D) F2 H2 F4 H4 := g4.imp fun b z => .inl (own1.mp (own3.mp z))
      have gA : Grow (fun b => Own σ ρ1 b ∨ b = D) F' H' F4 H4 := (g2.imp fun b z => z.elim).trans g4'
      have hD2 := g2.same _ _ hD'
      refine ⟨s4.back (by rw [l4]; exact hlt') (not_own_shape sh4 hno3) ho (slo (g'.ff.trans (g2.ff.trans g4.ff))), ?_, g'.trans gA, ?_, ?_, ra.mono (g2.ff.trans g4.ff), List.getElem?_set_self (by rw [l4]; exact hlt'), g2.ff.trans g4.ff⟩
      · have q1 : shape (ρ4.set i o) = shape ρ4 := by
          obtain ⟨s0, hs0⟩ : ∃ s0, ρ4[i]? = some s0 := ⟨ρ4[i]'(by rw [l4]; exact hlt'), List.getElem?_eq_getElem _⟩
          refine shape_set hs0 ?_
          cases s0 with
          | own l => exact absurd hs0 (not_own_shape sh4 hno3 l)
          | emp => rw [ho]; rfl
          | val d => rw [ho]; rfl
        rw [q1, sh4, shape_set ei' (by rw [ho]; rfl), sh']
      · exact g4.fr D (by rw [hD2]; exact fun z => nomatch z) (g2.fr D (by rw [hD']; exact fun z => nomatch z) fD)
      · exact g4.hh D _ hD2 fun z => hDo D (own1.mp (own3.mp z)) rfl
    refine ⟨ρ'.set i (.val ds[t]), F2, s3, ?_⟩
    cases et : tt (ρ'.set i (.val ds[t])) with
    | no => simp only [lcGo, et] at hp; exact hp.elim
    | er y ρ3 => simp only [lcGo, et] at hp; exact hp.elim
    | ok b ρ3 =>
      intro b' F3 H3 g3 s3' sh3 rb
      obtain rfl : b' = b := rb
      cases b' with
      | false =>
        rw [if_neg Bool.false_ne_true]
        have hp2 : Post K W (RepV K) σ ρ1 F1 H1 (lcGo i o tt me (ds.drop (t + 1)) acc (ρ3.set i o)) Q := by simp only [lcGo, et] at hp; exact hp
        obtain ⟨a1, a2, a3, a4, a5, a6, a7, a8⟩ := again g3 s3' sh3
        exact ⟨ds.length - (t + 1), by omega, rfl, c, F3, _, acc, vacc, a1, a2, a3, a4, a5, a6, by omega, a7, hp2⟩
      | true =>
        rw [if_pos rfl]
        refine ⟨ρ3, F3, s3', ?_⟩
        cases ee : me ρ3 with
        | no => simp only [lcGo, et, ee] at hp; exact hp.elim
        | er y ρ4 => simp only [lcGo, et, ee] at hp; exact hp.elim
        | ok a ρ4 =>
          intro y F4 H4 g4 s4 sh4 ry
          have hp2 : Post K W (RepV K) σ ρ1 F1 H1 (lcGo i o tt me (ds.drop (t + 1)) (acc ++ [a.d]) (ρ4.set i o)) Q := by simp only [lcGo, et, ee] at hp; exact hp
          obtain ⟨F5, g5, s5, r5⟩ := freeze s3' g4 s4 sh4 ry
          have own4 : ∀ {b}, Own (σ.set i (some x)) ρ3 b ↔ Own (σ.set i (some x)) (ρ'.set i (.val ds[t])) b := fun {b} => own_shape sh3
          obtain ⟨a1, a2, a3, a4, a5, a6, a7, a8⟩ := again (g3.trans (g5.imp fun b z => own4.mp z)) s5 (sh4.trans sh3)
          refine ⟨vacc, a5, top1_lt (by rw [← Reps.length a6]; omega), ds.length - (t + 1), by omega, rfl, c, F5, ρ4.set i o, acc ++ [a.d], vacc ++ [y], ⟨fun b u q => ?_, a1.len, fun j z sl k1 k2 => ?_, a1.inj⟩, a2, ⟨a3.ff, fun b u q n => ?_, fun b q => ?_, a3.fr⟩, a4, upd_same, a6.append (.cons r5 .nil), by rw [List.length_append]; show acc.length + 1 ≤ t + 1; omega, a7, hp2⟩
          · have ne : b ≠ D := fun z => by rw [z, a4] at q; cases q
            rw [upd_ne ne]; exact a1.same b u q
          · have q := a1.sl j z sl k1 k2
            cases sl with
            | emp => cases z <;> trivial
            | val d => cases z with
              | none => exact q
              | some v => exact q
            | own l => cases z with
              | none => exact q
              | some v =>
                obtain ⟨b, ws, q1, q2, q3, q4⟩ := q
                subst q1
                have ob : Own σ ρ1 b := (own_shape a2).mp ⟨j, l, k2, k1⟩
                exact ⟨b, ws, rfl, by rw [upd_ne (hDo b ob)]; exact q2, q3, q4⟩
          · have ne : b ≠ D := fun z => n (.inr z)
            rw [upd_ne ne]; exact a3.hh b u q n
          · by_cases ne : b = D
            · rw [ne, upd_same]; exact fun z => nomatch z
            · rw [upd_ne ne]; exact a3.ht b q
  · have et : t = ds.length := by omega
    refine .inl ⟨jst t (by omega), ?_⟩
    rw [et, List.drop_length] at hp
    exact hp (.ref D) F' H' gg s' sh' ⟨D, .lst vacc, rfl, hD, fD, hD', ra⟩
end
section
variable {X : Cx} {W : WX} {pos tp : Pos} {elt iter c : Expr} {scope : Scope} {x : Str} {i : Nat} {mi : MI} {tt : MT} {me : M}
theorem pts_ex {X : Cx} {ifs : List Expr} {t : MT} (h : (ifs = [] ∧ t = mtYes) ∨ ∃ c, ifs = [c] ∧ PXT X WF c t) : PTs X ifs (fun σ H Q => ∃ ρ', tT X.K WF ρ' (t ρ') σ H Q) := by
  rcases h with ⟨rfl, rfl⟩ | ⟨c, rfl, h⟩
  · exact ⟨fun pins s σ H Q I ⟨ρ', F, st, q⟩ => pts_nil.run pins s σ H Q I (q true F H Grow.refl st rfl rfl)⟩
  · exact ⟨fun pins s σ H Q I ⟨ρ', q⟩ => (pts_one (h.run ρ')).run pins s σ H Q I q⟩
theorem PX.ex {X : Cx} {W : WX} {e : Expr} {m : M} (h : PX X W e m) : PE X e (fun σ H Q => ∃ ρ', tE X.K W ρ' (m ρ') σ H Q) := ⟨fun pins s σ H Q I ⟨ρ', q⟩ => (h.run ρ').run pins s σ H Q I q⟩
theorem px_lc (hc : X.calm = true) (hN : X.N.Nodup) (hi : PXI X W (.Name x tp) iter mi) (ok : BlkOk X.N X.env.scope scope [(x, i)])
    (hg : ∀ (s : Shared) (H : Hp) (C : Addr) (cl : List (Str × Addr)) (fp : List Addr), PG (X.blk s H scope (compEnvC scope cl C X.env) fp) (.Name x tp) (gName i))
    (he : ∀ (s : Shared) (H : Hp) (C : Addr) (cl : List (Str × Addr)) (fp : List Addr), PX (X.blk s H scope (compEnvC scope cl C X.env) fp) WF elt me) (hs : ∀ x, foldedSetIterable iter X.env x = pure x := by intro _; rfl) :
    PX X W (.ListComp elt [⟨.Name x tp, iter, [], 0⟩] scope pos) (mLc mi i mtYes me) :=
  ⟨fun ρ => PE.imp (pe_lc (own := [(x, i)]) hc hN (hi.run ρ) ok hg (fun s H C cl fp => pts_ex (.inl ⟨rfl, rfl⟩)) (fun s H C cl fp => (he s H C cl fp).ex) hs) fun _ _ _ h => lc_imp h⟩
theorem px_lcIf (hc : X.calm = true) (hN : X.N.Nodup) (hi : PXI X W (.Name x tp) iter mi) (ok : BlkOk X.N X.env.scope scope [(x, i)])
    (hg : ∀ (s : Shared) (H : Hp) (C : Addr) (cl : List (Str × Addr)) (fp : List Addr), PG (X.blk s H scope (compEnvC scope cl C X.env) fp) (.Name x tp) (gName i))
    (ht : ∀ (s : Shared) (H : Hp) (C : Addr) (cl : List (Str × Addr)) (fp : List Addr), PXT (X.blk s H scope (compEnvC scope cl C X.env) fp) WF c tt)
    (he : ∀ (s : Shared) (H : Hp) (C : Addr) (cl : List (Str × Addr)) (fp : List Addr), PX (X.blk s H scope (compEnvC scope cl C X.env) fp) WF elt me) (hs : ∀ x, foldedSetIterable iter X.env x = pure x := by intro _; rfl) :
    PX X W (.ListComp elt [⟨.Name x tp, iter, [c], 0⟩] scope pos) (mLc mi i tt me) :=
  ⟨fun ρ => PE.imp (pe_lc (own := [(x, i)]) hc hN (hi.run ρ) ok hg (fun s H C cl fp => pts_ex (.inr ⟨c, rfl, ht s H C cl fp⟩)) (fun s H C cl fp => (he s H C cl fp).ex) hs) fun _ _ _ h => lc_imp h⟩
end
end PD
end
section
set_option Elab.async false
set_option linter.all false
set_option maxRecDepth 100000
set_option maxHeartbeats 2000000
namespace PD
open PySem PySem.Spec PyProof.Rows L2

/-! ### statements -/
inductive Out where
  | nx (ρ : En) | rt (r : RV) (ρ : En) | bk (ρ : En) | ct (ρ : En) | er (x : Exn) (ρ : En) | no
abbrev MS := En → Out
/-- between two states of a body; the first n slots are parameters -/
structure GrowS (n : Nat) (σ : L2.St) (ρ : En) (F H : Hp) (σ' : L2.St) (ρ' : En) (F' H' : Hp) : Prop where
  g : Grow (Own σ ρ) F H F' H'
  new : ∀ b, Own σ' ρ' b → Own σ ρ b ∨ H b = none
  keep : ∀ (i : Nat) l, i < n → ρ[i]? = some (Sl.own l) → σ'[i]? = σ[i]? ∧ ∃ l', ρ'[i]? = some (Sl.own l')
def RepS (K : PySem.W.Frag) (σ : L2.St) (ρ : En) (H : Hp) (σ' : L2.St) (ρ' : En) (F' H' : Hp) : RV → V → Prop
  | .val d, v => Rep K F' d v
  | .fr o, v => ∃ p u, v = .ref p ∧ (H p = none ∨ Own σ ρ p) ∧ ¬ Own σ' ρ' p ∧ F' p = none ∧ H' p = some u ∧ OcOk K F' o u
def PostS (K : PySem.W.Frag) (W : WX) (n : Nat) (E : Ends) (σ : L2.St) (ρ : En) (F H : Hp) : Out → Prop
  | .nx ρ' => ∀ σ' F' H', GrowS n σ ρ F H σ' ρ' F' H' → StOk K F' H' σ' ρ' → E.nx σ' H'
  | .bk ρ' => ∀ σ' F' H', GrowS n σ ρ F H σ' ρ' F' H' → StOk K F' H' σ' ρ' → E.bk σ' H'
  | .ct ρ' => ∀ σ' F' H', GrowS n σ ρ F H σ' ρ' F' H' → StOk K F' H' σ' ρ' → E.ct σ' H'
  | .rt r ρ' => ∀ v σ' F' H', GrowS n σ ρ F H σ' ρ' F' H' → StOk K F' H' σ' ρ' → RepS K σ ρ H σ' ρ' F' H' r v → E.rt v H'
  | .er x ρ' => ∀ cls d σ' F' H', GrowS n σ ρ F H σ' ρ' F' H' → StOk K F' H' σ' ρ' → RepX K F' x cls d → W cls d σ' H'
  | .no => False
def tS (K : PySem.W.Frag) (W : WX) (n : Nat) (ρ : En) (o : Out) : TS := fun E σ H => ∃ F, StOk K F H σ ρ ∧ PostS K W n E σ ρ F H o
structure PB (X : Cx) (W : WX) (n : Nat) (st : List Stmt) (m : MS) : Prop where
  run : ∀ ρ, PSs X st (tS X.K W n ρ (m ρ))
structure P1 (X : Cx) (W : WX) (n : Nat) (st : Stmt) (m : MS) : Prop where
  run : ∀ ρ, PS X st (tS X.K W n ρ (m ρ))
theorem PS.imp {X : Cx} {e : Stmt} {t u : TS} (h : PS X e t) (i : ∀ D σ H, u D σ H → t D σ H) : PS X e u := ⟨fun pins s σ H D I q => h.run pins s σ H D I (i _ _ _ q)⟩
theorem PSs.imp {X : Cx} {e : List Stmt} {t u : TS} (h : PSs X e t) (i : ∀ D σ H, u D σ H → t D σ H) : PSs X e u := ⟨fun pins s σ H D I q => h.run pins s σ H D I (i _ _ _ q)⟩
theorem PB.ex {X : Cx} {W : WX} {n : Nat} {st : List Stmt} {m : MS} (h : PB X W n st m) : PSs X st (fun D σ H => ∃ ρ, tS X.K W n ρ (m ρ) D σ H) := ⟨fun pins s σ H D I ⟨ρ, q⟩ => (h.run ρ).run pins s σ H D I q⟩
theorem PXT.ex {X : Cx} {W : WX} {e : Expr} {m : MT} (h : PXT X W e m) : PT X e (fun σ H Q => ∃ ρ', tT X.K W ρ' (m ρ') σ H Q) := ⟨fun pins s σ H Q I ⟨ρ', q⟩ => (h.run ρ').run pins s σ H Q I q⟩

section
variable {K : PySem.W.Frag} {W : WX} {n : Nat} {E : Ends} {σ σ1 σ2 : L2.St} {ρ ρ1 ρ2 : En} {F F1 F2 H H1 H2 : Hp} {α β : Type} {R : Hp → Hp → Hp → α → β → Prop}
theorem GrowS.refl : GrowS n σ ρ F H σ ρ F H := ⟨Grow.refl, fun _ z => .inl z, fun i l _ h => ⟨rfl, l, h⟩⟩
theorem GrowS.trans (a : GrowS n σ ρ F H σ1 ρ1 F1 H1) (b : GrowS n σ1 ρ1 F1 H1 σ2 ρ2 F2 H2) : GrowS n σ ρ F H σ2 ρ2 F2 H2 where
  g := by
    refine ⟨a.g.ff.trans b.g.ff, fun c o h k => b.g.hh c o (a.g.hh c o h k) fun z => ?_, fun c h => b.g.ht c (a.g.ht c h), fun c h q => b.g.fr c (a.g.ht c h) (a.g.fr c h q)⟩
    rcases a.new c z with q | q
    · exact k q
    · rw [h] at q; cases q
  new := fun c z => by
    rcases b.new c z with q | q
    · exact a.new c q
    · exact .inr (Decidable.byContradiction fun k => a.g.ht c k q)
  keep := fun i l hi h => by
    obtain ⟨h1, l1, h2⟩ := a.keep i l hi h
    obtain ⟨h3, l2, h4⟩ := b.keep i l1 hi h2
    exact ⟨h3.trans h1, l2, h4⟩
/-- by an expression's evaluation -/
theorem GrowS.ofE (g : Grow (Own σ ρ) F H F1 H1) (sh : shape ρ1 = shape ρ) : GrowS n σ ρ F H σ ρ1 F1 H1 := ⟨g, fun b z => .inl ((own_shape sh).mp z), fun i l _ h => ⟨rfl, shape_own sh h⟩⟩
theorem RepS.back {σ' : L2.St} {ρ' : En} {F' H' : Hp} {r : RV} {v : V} (a : GrowS n σ ρ F H σ1 ρ1 F1 H1) (h : RepS K σ1 ρ1 H1 σ' ρ' F' H' r v) : RepS K σ ρ H σ' ρ' F' H' r v := by
  cases r with
  | val d => exact h
  | fr ds =>
    obtain ⟨p, vs, e, q, r⟩ := h
    refine ⟨p, vs, e, ?_, r⟩
    rcases q with q | q
    · exact .inl (Decidable.byContradiction fun k => a.g.ht p k q)
    · exact (a.new p q).symm
theorem PostS.step {o : Out} (a : GrowS n σ ρ F H σ1 ρ1 F1 H1) (h : PostS K W n E σ ρ F H o) : PostS K W n E σ1 ρ1 F1 H1 o := by
  cases o with
  | nx ρ' => exact fun σ' F' H' b => h σ' F' H' (a.trans b)
  | bk ρ' => exact fun σ' F' H' b => h σ' F' H' (a.trans b)
  | ct ρ' => exact fun σ' F' H' b => h σ' F' H' (a.trans b)
  | rt r ρ' => exact fun v σ' F' H' b s q => h v σ' F' H' (a.trans b) s (q.back a)
  | er x ρ' => exact fun c d σ' F' H' b => h c d σ' F' H' (a.trans b)
  | no => exact h
def Res.toS (r : Res α) (k : α → En → Out) : Out := match r with
  | .ok a ρ => k a ρ
  | .er x ρ => .er x ρ
  | .no => .no
theorem PostS.bind {r : Res α} {k : α → En → Out} {T : β → Hp → Prop} (h : PostS K W n E σ ρ F H (r.toS k))
    (hk : ∀ a ρ1 b F1 H1, r.env = ρ1 → Grow (Own σ ρ) F H F1 H1 → StOk K F1 H1 σ ρ1 → shape ρ1 = shape ρ → R H F1 H1 a b → PostS K W n E σ ρ1 F1 H1 (k a ρ1) → T b H1) : Post K W R σ ρ F H r T := by
  cases r with
  | ok a ρ1 => exact fun b F1 H1 g s sh q => hk a ρ1 b F1 H1 rfl g s sh q (PostS.step (.ofE g sh) h)
  | er x ρ1 => exact fun c d F1 H1 g s sh q => h c d σ F1 H1 (.ofE g sh) s q
  | no => exact h
theorem PostS.bindD {r : Res RV} {k : D → En → Out} {T : V → Hp → Prop} (s0 : StOk K F H σ ρ) (h : PostS K W n E σ ρ F H (r.toS fun a ρ => k a.d ρ))
    (hk : ∀ d ρ1 v F1 H1, r.env = ρ1 → Grow (Own σ ρ) F H F1 H1 → StOk K F1 H1 σ ρ1 → shape ρ1 = shape ρ → Rep K F1 d v → PostS K W n E σ ρ1 F1 H1 (k d ρ1) → T v H1) : Post K W (RepV K) σ ρ F H r T := by
  cases r with
  | ok a ρ1 =>
    intro v F1 H1 g s sh q
    obtain ⟨F2, g2, s2, r2⟩ := freeze s0 g s sh q
    exact hk a.d ρ1 v F2 H1 rfl g2 s2 sh r2 (PostS.step (.ofE g2 sh) h)
  | er x ρ1 => exact fun c d F1 H1 g s sh q => h c d σ F1 H1 (.ofE g sh) s q
  | no => exact h
end

/-! ### blocks -/
def Out.env : Out → En
  | .nx ρ => ρ
  | _ => []
def mNext : MS := fun ρ => .nx ρ
def mSeq (m1 m2 : MS) : MS := fun ρ => match m1 ρ with
  | .nx ρ1 => m2 ρ1
  | o => o
def mBrk : MS := fun ρ => .bk ρ
def mCt : MS := fun ρ => .ct ρ
def mDrop (m : M) : MS := fun ρ => (m ρ).toS fun _ ρ1 => .nx ρ1
def mRet (m : M) : MS := fun ρ => (m ρ).toS fun a ρ1 => .rt a ρ1
def mRetN : MS := fun ρ => .rt (.val .non) ρ
/-- an own list is handed back -/
def mRetO (n i : Nat) : MS := fun ρ => match ρ[i]? with
  | some (.own ds) => if n ≤ i then .rt (.fr ds) (ρ.set i .emp) else .no
  | _ => .no
def mIf (t : MT) (a b : MS) : MS := fun ρ => (t ρ).toS fun c ρ1 => match c with
  | true => a ρ1
  | false => b ρ1
section
variable {X : Cx} {W : WX} {n : Nat} {st : Stmt} {rest a b : List Stmt} {m1 m2 ma mb : MS} {e c : Expr} {m : M} {t : MT} {pos : Pos}
theorem pb_nil : PB X W n [] mNext := ⟨fun ρ => PSs.imp pss_nil fun D σ H ⟨F, s, h⟩ => h σ F H .refl s⟩
theorem pb_cons (h1 : P1 X W n st m1) (h2 : PB X W n rest m2) : PB X W n (st :: rest) (mSeq m1 m2) := ⟨fun ρ => PSs.imp (pss_cons (h1.run ρ) (h2.run (m1 ρ).env)) fun D σ H ⟨F, s, h⟩ => by
  refine ⟨F, s, ?_⟩
  unfold mSeq at h
  cases e : m1 ρ with
  | nx ρ1 =>
    rw [e] at h
    exact fun σ' F' H' g s' => ⟨F', s', PostS.step g h⟩
  | bk ρ1 => rw [e] at h; exact h
  | ct ρ1 => rw [e] at h; exact h
  | rt r ρ1 => rw [e] at h; exact h
  | er x ρ1 => rw [e] at h; exact h
  | no => rw [e] at h; exact h⟩
theorem pb_one (h1 : P1 X W n st m1) : PB X W n [st] m1 := ⟨fun ρ => pss_one (h1.run ρ)⟩
theorem p1_pass : P1 X W n (.Pass pos) mNext := ⟨fun ρ => PS.imp ps_pass fun D σ H ⟨F, s, h⟩ => h σ F H .refl s⟩
theorem p1_brk : P1 X W n (.Break pos) mBrk := ⟨fun ρ => PS.imp ps_break fun D σ H ⟨F, s, h⟩ => h σ F H .refl s⟩
theorem p1_ct : P1 X W n (.Continue pos) mCt := ⟨fun ρ => PS.imp ps_continue fun D σ H ⟨F, s, h⟩ => h σ F H .refl s⟩
theorem p1_expr (he : PX X W e m) (hs : swapsWith e none pos.line X.env = pure false := by rfl) : P1 X W n (.Expr e pos) (mDrop m) := ⟨fun ρ => PS.imp (ps_expr (he.run ρ) hs) fun D σ H ⟨F, s, h⟩ =>
  ⟨F, s, PostS.bind (k := fun _ ρ1 => .nx ρ1) h fun a ρ1 v F1 H1 e1 g1 s1 sh1 r1 h1 => h1 σ F1 H1 .refl s1⟩⟩
theorem p1_ret (he : PX X W e m) : P1 X W n (.Return (some e) pos) (mRet m) := ⟨fun ρ => PS.imp (ps_ret (he.run ρ)) fun D σ H ⟨F, s, h⟩ => by
  refine ⟨F, s, ?_⟩
  unfold mRet at h
  cases e : m ρ with
  | no => rw [e] at h; exact h
  | er x ρ1 => rw [e] at h; exact fun c d F1 H1 g s1 sh q => h c d σ F1 H1 (.ofE g sh) s1 q
  | ok r ρ1 =>
    rw [e] at h
    refine fun v F1 H1 g s1 sh q => h v σ F1 H1 (.ofE g sh) s1 ?_
    cases r with
    | val d => exact q
    | fr ds =>
      obtain ⟨p, vs, e, hp, fp, hp', r⟩ := q
      refine ⟨p, vs, e, .inl hp, fun z => ?_, fp, hp', r⟩
      obtain ⟨vs', k, _⟩ := s.own_at ((own_shape sh).mp z)
      rw [hp] at k; cases k⟩
theorem p1_retN : P1 X W n (.Return none pos) mRetN := ⟨fun ρ => PS.imp ps_retN fun D σ H ⟨F, s, h⟩ => h .non σ F H .refl s .non⟩
theorem p1_retO (i : Nat) {x : Str} {p : Pos} (hN : X.N[i]? = some x := by rfl) (hv : Vis X.env.scope x := by first | exact Or.inl rfl | exact Or.inr (Or.inl rfl) | exact Or.inr (Or.inr rfl)) (hd : (x == ("__debug__" : Str)) = false := by decide)
    (hcd : (x == ("__classdict__" : Str)) = false := by decide) : P1 X W n (.Return (some (.Name x p)) pos) (mRetO n i) := ⟨fun ρ => PS.imp (ps_ret (pv i hN hv hd hcd)) fun D σ H ⟨F, s, h⟩ => by
  unfold mRetO at h
  cases ei : ρ[i]? with
  | none => rw [ei] at h; exact h.elim
  | some sl =>
    rw [ei] at h
    cases sl with
    | emp => exact h.elim
    | val d => exact h.elim
    | own l =>
      have h2 : PostS X.K W n D σ ρ F H (if n ≤ i then .rt (.fr l) (ρ.set i .emp) else .no) := h
      by_cases hn : n ≤ i
      · rw [if_pos hn] at h2
        obtain ⟨a, vs, ha, hH, hF, hR⟩ := s.own_slot ei
        have hlt := (List.getElem?_eq_some_iff.mp ei).1
        have ne : ∀ {j : Nat} {l'}, (ρ.set i .emp)[j]? = some (Sl.own l') → i ≠ j := fun {j l'} h c => by
          subst c
          rw [List.getElem?_set_self hlt] at h
          cases h
        have s2 : StOk X.K F H σ (ρ.set i .emp) := ⟨s.same, by rw [List.length_set]; exact s.len, fun j x sl h1 h2 => by
            by_cases c : i = j
            · subst c
              rw [List.getElem?_set_self hlt] at h2
              cases h2
              cases x <;> trivial
            · rw [List.getElem?_set_ne c] at h2
              exact s.sl j x sl h1 h2, fun j j' b d1 d2 h1 h2 h3 h4 => by
            have k1 := ne h1
            have k2 := ne h2
            rw [List.getElem?_set_ne k1] at h1
            rw [List.getElem?_set_ne k2] at h2
            exact s.inj j j' b d1 d2 h1 h2 h3 h4⟩
        refine ⟨.ref a, ha, h2 (.ref a) σ F H ⟨Grow.refl, fun b ⟨j, l', q1, q2⟩ => ?_, fun j l' hj q => ⟨rfl, l', ?_⟩⟩ s2 ⟨a, vs, rfl, .inr ⟨i, l, ei, ha⟩, fun ⟨j, l', q1, q2⟩ => ?_, hF, hH, hR⟩⟩
        · have k := ne q1
          rw [List.getElem?_set_ne k] at q1
          exact .inl ⟨j, l', q1, q2⟩
        · rw [List.getElem?_set_ne (by omega)]; exact q
        · have k := ne q1
          rw [List.getElem?_set_ne k] at q1
          exact k (s.inj i j a l l' ei q1 ha q2)
      · rw [if_neg hn] at h2; exact h2.elim⟩
theorem p1_if (hc : PXT X W c t) (ha : PB X W n a ma) (hb : PB X W n b mb) : P1 X W n (.If c a b pos) (mIf t ma mb) := ⟨fun ρ => PS.imp (ps_if (hc.run ρ) (ha.run (t ρ).env) (hb.run (t ρ).env)) fun D σ H ⟨F, s, h⟩ => by
  refine ⟨F, s, PostS.bind (k := fun c ρ1 => match c with | true => ma ρ1 | false => mb ρ1) h fun c ρ1 c' F1 H1 e1 g1 s1 sh1 r1 h1 => ?_⟩
  obtain rfl : c' = c := r1
  rw [e1]
  cases c' with
  | true =>
    rw [if_pos rfl]
    exact ⟨F1, s1, h1⟩
  | false =>
    rw [if_neg Bool.false_ne_true]
    exact ⟨F1, s1, h1⟩⟩
end

/-! ### targets -/
abbrev MG := D → En → Option En
def gN (i : Nat) : MG := fun d ρ => match ρ[i]? with
  | some (.own _) => none
  | some _ => some (ρ.set i (.val d))
  | none => none
def tG (K : PySem.W.Frag) (n : Nat) (g : MG) : TG := fun v σ H Q => ∃ F ρ d ρ', StOk K F H σ ρ ∧ Rep K F d v ∧ g d ρ = some ρ' ∧ ∀ σ' F' H', GrowS n σ ρ F H σ' ρ' F' H' → StOk K F' H' σ' ρ' → Q σ' H'
structure PXG (X : Cx) (n : Nat) (tg : Expr) (g : MG) : Prop where
  run : PG X tg (tG X.K n g)
theorem gN_ok {K : PySem.W.Frag} {n i : Nat} {F H : Hp} {σ : L2.St} {ρ ρ' : En} {d : D} {v : V} (s : StOk K F H σ ρ) (r : Rep K F d v) (h : gN i d ρ = some ρ') : ρ' = ρ.set i (.val d) ∧ GrowS n σ ρ F H (σ.set i (some v)) ρ' F H ∧ StOk K F H (σ.set i (some v)) ρ' := by
  obtain ⟨o, ei, ho, rfl⟩ : ∃ o, ρ[i]? = some o ∧ o.isOwn = false ∧ ρ' = ρ.set i (.val d) := by
    unfold gN at h
    cases ei : ρ[i]? with
    | none => rw [ei] at h; cases h
    | some o =>
      rw [ei] at h
      cases o with
      | own l => cases h
      | emp => exact ⟨_, rfl, rfl, (Option.some.inj h).symm⟩
      | val d => exact ⟨_, rfl, rfl, (Option.some.inj h).symm⟩
  have ne : ∀ {j : Nat} {l}, ρ[j]? = some (Sl.own l) → i ≠ j := fun {j l} h c => by
    subst c
    rw [ei] at h
    cases h
    cases ho
  exact ⟨rfl, ⟨Grow.refl, fun b z => .inl ((own_setVal ei ho rfl).mp z), fun j l _ q => ⟨by rw [List.getElem?_set_ne (ne q)], l, by rw [List.getElem?_set_ne (ne q)]; exact q⟩⟩, s.setVal ei ho r⟩
section
variable {X : Cx} {W : WX} {n : Nat} {pos : Pos}
theorem pxg_name {i : Nat} {x : Str} (hN : X.N.Nodup) (hi : X.N[i]? = some x := by rfl) (hx : Loc X.env.scope x := by first | exact .inl rfl | exact .inr rfl) (hf : X.fn x = true ∨ X.env.scope.names.lookup x = some .local := by first | exact .inl rfl | exact .inr rfl) : PXG X n (.Name x pos) (gN i) := ⟨⟨fun pins s σ H v u Q I r h => by
  obtain ⟨F, ρ, d, ρ', st, rd, hg, q⟩ := h
  obtain ⟨_, k1, k2⟩ := gN_ok (n := n) st rd hg
  exact (pg_name (pos := pos) hN hi hx hf).run pins s σ H v u Q I r (q _ F H k1 k2)⟩⟩
/-- several, for the items of a tuple -/
def gGo : List MG → List D → En → Option En
  | [], [], ρ => some ρ
  | g :: gs, d :: ds, ρ => match g d ρ with
    | some ρ1 => gGo gs ds ρ1
    | none => none
  | _, _, _ => none
def gT (gs : List MG) : MG := fun d ρ => match d with
  | .tup ds => gGo gs ds ρ
  | _ => none
def tGs (K : PySem.W.Frag) (n : Nat) (gs : List MG) : TGs := fun vs σ H Q => ∃ F ρ ds ρ', StOk K F H σ ρ ∧ Reps K F ds vs ∧ gGo gs ds ρ = some ρ' ∧ ∀ σ' F' H', GrowS n σ ρ F H σ' ρ' F' H' → StOk K F' H' σ' ρ' → Q σ' H'
structure PXGs (X : Cx) (n : Nat) (ts : List Expr) (gs : List MG) : Prop where
  run : PGs X ts (tGs X.K n gs)
theorem pxgs_n : PXGs X n [] [] := ⟨⟨fun pins s σ H vs us Q I r h => by
  obtain ⟨F, ρ, ds, ρ', st, rd, hg, q⟩ := h
  cases rd with
  | cons _ _ => cases hg
  | nil =>
    cases hg
    exact pgs_nil.run pins s σ H [] us Q I r ⟨rfl, q σ F H .refl st⟩⟩⟩
theorem pxgs_c {e : Expr} {es : List Expr} {g : MG} {gs : List MG} (h1 : PXG X n e g) (h2 : PXGs X n es gs) (hs : (assignEach (e :: es) X.env).map (·.2) = assign e X.env :: (assignEach es X.env).map (·.2) := by rfl) : PXGs X n (e :: es) (g :: gs) := ⟨⟨fun pins s σ H vs us Q I r h => by
  obtain ⟨F, ρ, ds, ρ', st, rd, hg, q⟩ := h
  cases rd with
  | nil => cases hg
  | cons r1 r2 =>
    rename_i d v ds vs
    refine (pgs_cons h1.run h2.run hs).run pins s σ H _ us Q I r ⟨_, _, rfl, ?_⟩
    have hg2 : (match g d ρ with | some ρ1 => gGo gs ds ρ1 | none => none) = some ρ' := hg
    cases e : g d ρ with
    | none => rw [e] at hg2; cases hg2
    | some ρ1 =>
      rw [e] at hg2
      exact ⟨F, ρ, d, ρ1, st, r1, e, fun σ1 F1 H1 g1 s1 => ⟨F1, ρ1, ds, ρ', s1, r2.mono g1.g.ff, hg2, fun σ2 F2 H2 g2 s2 => q σ2 F2 H2 (g1.trans g2) s2⟩⟩⟩⟩
theorem gGo_len : ∀ {gs : List MG} {ds : List D} {ρ ρ' : En}, gGo gs ds ρ = some ρ' → ds.length = gs.length
  | [], [], _, _, _ => rfl
  | [], _ :: _, _, _, h => by cases h
  | _ :: _, [], _, _, h => by cases h
  | g :: gs, d :: ds, ρ, ρ', h => by
    have h2 : (match g d ρ with | some ρ1 => gGo gs ds ρ1 | none => none) = some ρ' := h
    cases e : g d ρ with
    | none => rw [e] at h2; cases h2
    | some ρ1 =>
      rw [e] at h2
      rw [List.length_cons, List.length_cons, gGo_len h2]
theorem pxg_tup {es : List Expr} {k : Nat} {gs : List MG} (hc : X.calm = true) (h : PXGs X n es gs) (hn : (assignEach es X.env).length = gs.length := by rfl) (hst : (assignEach es X.env).findIdx? (·.1) = none := by rfl) : PXG X n (.Tuple es k pos) (gT gs) := ⟨⟨fun pins s σ H v u Q I r hw => by
  obtain ⟨F, ρ, d, ρ', st, rd, hg, q⟩ := hw
  cases rd with
  | tup hs hr =>
    have hl := gGo_len (show gGo gs _ ρ = some ρ' from hg)
    exact (pg_tup (pos := pos) (k := k) hc h.run hn hst).run pins s σ H _ u Q I r ⟨_, _, rfl, same_seqT st.same hs, by rw [← Reps.length hr]; exact hl, F, ρ, _, ρ', st, hr, hg, q⟩
  | _ => cases hg⟩⟩
end

/-! ### stores -/
def mSet (g : MG) (m : M) : MS := fun ρ => (m ρ).toS fun a ρ1 => match g a.d ρ1 with
  | some ρ2 => .nx ρ2
  | none => .no
section
variable {X : Cx} {W : WX} {n : Nat} {pos pos' : Pos} {e tg : Expr} {m : M} {g : MG}
theorem set_imp {K : PySem.W.Frag} {ρ : En} {D : Ends} {σ : L2.St} {H : Hp} (h : tS K W n ρ (mSet g m ρ) D σ H) : tAsg (tE K W ρ (m ρ)) (tG K n g) D σ H := by
  obtain ⟨F, s, h⟩ := h
  refine ⟨F, s, PostS.bindD (k := fun a ρ1 => match g a ρ1 with | some ρ2 => .nx ρ2 | none => .no) s h fun d ρ1 v F1 H1 e1 g1 s1 sh1 r1 h1 => ?_⟩
  cases e : g d ρ1 with
  | none => rw [e] at h1; exact h1.elim
  | some ρ2 =>
    rw [e] at h1
    exact ⟨F1, ρ1, d, ρ2, s1, r1, e, fun σ' F' H' g' s' => h1 σ' F' H' g' s'⟩
theorem setN_imp {K : PySem.W.Frag} {i : Nat} {ρ : En} {D : Ends} {σ : L2.St} {H : Hp} (h : tS K W n ρ (mSet (gN i) m ρ) D σ H) : tAsg (tE K W ρ (m ρ)) (gName i) D σ H := by
  obtain ⟨F, s, h⟩ := h
  refine ⟨F, s, PostS.bindD (k := fun a ρ1 => match gN i a ρ1 with | some ρ2 => .nx ρ2 | none => .no) s h fun d ρ1 v F1 H1 e1 g1 s1 sh1 r1 h1 => ?_⟩
  cases e : gN i d ρ1 with
  | none => rw [e] at h1; exact h1.elim
  | some ρ2 =>
    rw [e] at h1
    obtain ⟨_, k1, k2⟩ := gN_ok (n := n) s1 r1 e
    exact h1 _ F1 H1 k1 k2
theorem p1_set {i : Nat} {x : Str} (hN : X.N.Nodup) (he : PX X W e m) (hi : X.N[i]? = some x := by rfl) (hx : Loc X.env.scope x := by first | exact .inl rfl | exact .inr rfl) (hs : swapsWith e (some (.Name x pos')) pos.line X.env = pure false := by rfl)
    (hf : X.fn x = true ∨ X.env.scope.names.lookup x = some .local := by first | exact .inl rfl | exact .inr rfl) : P1 X W n (.Assign [.Name x pos'] e pos) (mSet (gN i) m) := ⟨fun ρ => PS.imp (ps_set hN hi hx (he.run ρ) hs hf) fun _ _ _ h => setN_imp h⟩
theorem p1_asg (he : PX X W e m) (hg : PXG X n tg g) (hs : swapsWithSole [tg] e pos.line X.env = pure false := by rfl) (hw : swappedStores [tg] e X.env = pure none := by rfl)
    (h1 : (assignEach [tg] X.env).map (·.2) = [assign tg X.env] := by rfl) : P1 X W n (.Assign [tg] e pos) (mSet g m) := ⟨fun ρ => PS.imp (ps_asg (he.run ρ) hg.run hs hw h1) fun _ _ _ h => set_imp h⟩
/-- a, b = e1, e2 -/
def mPar (i j : Nat) (ms : MA) : MS := fun ρ => (ms ρ).toS fun ds ρ1 => match ds with
  | [a, b] => (match gN i a ρ1 with
    | some ρ2 => (match gN j b ρ2 with
      | some ρ3 => .nx ρ3
      | none => .no)
    | none => .no)
  | _ => .no
theorem p1_par {i j : Nat} {x y : Str} {a b : Expr} {ms : MA} {px py pt : Pos} {kt k2 pt2} (hc : X.calm = true) (hN : X.N.Nodup) (ha : PXA X W [a, b] ms) (hi : X.N[i]? = some x := by rfl) (hj : X.N[j]? = some y := by rfl) (hij : i ≠ j := by decide)
    (hx : X.env.scope.names.lookup x = some .local := by rfl) (hy : X.env.scope.names.lookup y = some .local := by rfl)
    (hw : swappedStores [.Tuple [.Name x px, .Name y py] kt pt] (.Tuple [a, b] k2 pt2) X.env = pure (some [x, y]) := by rfl)
    (hs : swapsWithSole [.Tuple [.Name x px, .Name y py] kt pt] (.Tuple [a, b] k2 pt2) pos.line X.env = pure false := by rfl) :
    P1 X W n (.Assign [.Tuple [.Name x px, .Name y py] kt pt] (.Tuple [a, b] k2 pt2) pos) (mPar i j ms) := ⟨fun ρ => PS.imp (ps_par hc hN hi hj hij hx hy (ha.run ρ) hw hs) fun D σ H ⟨F, s, h⟩ => by
  refine ⟨F, s, PostS.bind (k := fun ds ρ1 => match ds with | [a, b] => (match gN i a ρ1 with | some ρ2 => (match gN j b ρ2 with | some ρ3 => .nx ρ3 | none => .no) | none => .no) | _ => .no) h fun ds ρ1 vs F1 H1 e1 g1 s1 sh1 r1 h1 => ?_⟩
  match ds, vs, r1, h1 with
  | [da, db], _, .cons (v := va) ra (.cons (v := vb) rb .nil), h1 =>
    have h2 : PostS X.K W n D σ ρ1 F1 H1 (match gN i da ρ1 with | some ρ2 => (match gN j db ρ2 with | some ρ3 => .nx ρ3 | none => .no) | none => .no) := h1
    cases e2 : gN i da ρ1 with
    | none => rw [e2] at h2; exact h2.elim
    | some ρ2 =>
      rw [e2] at h2
      have h3 : PostS X.K W n D σ ρ1 F1 H1 (match gN j db ρ2 with | some ρ3 => .nx ρ3 | none => .no) := h2
      cases e3 : gN j db ρ2 with
      | none => rw [e3] at h3; exact h3.elim
      | some ρ3 =>
        rw [e3] at h3
        obtain ⟨_, k1, k2⟩ := gN_ok (n := n) s1 ra e2
        obtain ⟨_, k3, k4⟩ := gN_ok (n := n) k2 rb e3
        exact ⟨va, vb, rfl, h3 _ F1 H1 (k1.trans k3) k4⟩⟩
end
end PD
end
section
set_option Elab.async false
set_option linter.all false
set_option maxRecDepth 100000
set_option maxHeartbeats 2000000
namespace PD
open PySem PySem.Spec PyProof.Rows L2

/-! ### loops -/
def whGo (t : MT) (mb : MS) : Nat → En → Out
  | 0, _ => .no
  | k + 1, ρ => match t ρ with
    | .ok true ρ1 => (match mb ρ1 with
      | .nx ρ2 => whGo t mb k ρ2
      | .ct ρ2 => whGo t mb k ρ2
      | .bk ρ2 => .nx ρ2
      | .rt r ρ2 => .rt r ρ2
      | .er x ρ2 => .er x ρ2
      | .no => .no)
    | .ok false ρ1 => .nx ρ1
    | .er x ρ1 => .er x ρ1
    | .no => .no
def mWh (fuel : Nat) (t : MT) (mb : MS) : MS := whGo t mb fuel
def forGo (g : MG) (mb : MS) : List D → En → Out
  | [], ρ => .nx ρ
  | d :: r, ρ => match g d ρ with
    | none => .no
    | some ρ1 => match mb ρ1 with
      | .nx ρ2 => forGo g mb r ρ2
      | .ct ρ2 => forGo g mb r ρ2
      | .bk ρ2 => .nx ρ2
      | .rt x ρ2 => .rt x ρ2
      | .er x ρ2 => .er x ρ2
      | .no => .no
def mFor (mi : MI) (g : MG) (mb : MS) : MS := fun ρ => (mi ρ).toS fun ds ρ1 => forGo g mb ds ρ1
section
variable {K : PySem.W.Frag} {W : WX} {n : Nat} {D : Ends} {σ : L2.St} {ρ : En} {F H F1 H1 : Hp}
theorem GrowS.ofGr (g : Gr F H F1 H1) : GrowS n σ ρ F H σ ρ F1 H1 := ⟨g.imp fun _ z => z.elim, fun _ z => .inl z, fun i l _ h => ⟨rfl, l, h⟩⟩
theorem wh_imp {fuel : Nat} {t : MT} {mb : MS} (h : tS K W n ρ (mWh fuel t mb ρ) D σ H) : tWhile (fun σ H Q => ∃ ρ', tT K W ρ' (t ρ') σ H Q) (fun D σ H => ∃ ρ, tS K W n ρ (mb ρ) D σ H) D σ H := by
  obtain ⟨F, s, h⟩ := h
  refine ⟨fun k σ' H' => ∃ F' ρ', StOk K F' H' σ' ρ' ∧ GrowS n σ ρ F H σ' ρ' F' H' ∧ PostS K W n D σ ρ F H (whGo t mb k ρ'), ⟨fuel, F, ρ, s, .refl, h⟩, ?_⟩
  rintro k σ' H' ⟨F', ρ', s', g', hp⟩
  cases k with
  | zero => exact hp.elim
  | succ k =>
    refine ⟨ρ', F', s', ?_⟩
    cases et : t ρ' with
    | no => simp only [whGo, et] at hp; exact hp.elim
    | er x ρ1 =>
      simp only [whGo, et] at hp
      exact fun c d F2 H2 g2 s2 sh2 q => hp c d σ' F2 H2 (g'.trans (.ofE g2 sh2)) s2 q
    | ok b ρ1 =>
      intro b' F2 H2 g2 s2 sh2 rb
      obtain rfl : b' = b := rb
      have g3 : GrowS n σ ρ F H σ' ρ1 F2 H2 := g'.trans (.ofE g2 sh2)
      cases b' with
      | false =>
        rw [if_neg Bool.false_ne_true]
        simp only [whGo, et] at hp
        exact hp σ' F2 H2 g3 s2
      | true =>
        rw [if_pos rfl]
        refine ⟨_, fun σ3 H3 z => ⟨k, Nat.lt_succ_self k, z⟩, ρ1, F2, s2, ?_⟩
        cases em : mb ρ1 with
        | no => simp only [whGo, et, em] at hp; exact hp.elim
        | nx ρ3 =>
          simp only [whGo, et, em] at hp
          exact fun σ3 F3 H3 g4 s3 => ⟨F3, ρ3, s3, g3.trans g4, hp⟩
        | ct ρ3 =>
          simp only [whGo, et, em] at hp
          exact fun σ3 F3 H3 g4 s3 => ⟨F3, ρ3, s3, g3.trans g4, hp⟩
        | bk ρ3 =>
          simp only [whGo, et, em] at hp
          exact fun σ3 F3 H3 g4 s3 => hp σ3 F3 H3 (g3.trans g4) s3
        | rt r ρ3 =>
          simp only [whGo, et, em] at hp
          exact fun v σ3 F3 H3 g4 s3 q => hp v σ3 F3 H3 (g3.trans g4) s3 (q.back g3)
        | er x ρ3 =>
          simp only [whGo, et, em] at hp
          exact fun c d σ3 F3 H3 g4 s3 q => hp c d σ3 F3 H3 (g3.trans g4) s3 q
theorem for_imp {mi : MI} {g : MG} {mb : MS} (h : tS K W n ρ (mFor mi g mb ρ) D σ H) : tFor (tI K W ρ (mi ρ)) (tG K n g) (fun D σ H => ∃ ρ, tS K W n ρ (mb ρ) D σ H) D σ H := by
  obtain ⟨F, s, h⟩ := h
  refine ⟨F, s, PostS.bind (k := fun ds ρ1 => forGo g mb ds ρ1) h fun ds ρ1 J F1 H1 e1 g1 s1 sh1 r1 h1 => ?_⟩
  refine ⟨fun t m σ' H' => m = ds.length - t ∧ t ≤ ds.length ∧ ∃ F' ρ', StOk K F' H' σ' ρ' ∧ GrowS n σ ρ1 F1 H1 σ' ρ' F' H' ∧ PostS K W n D σ ρ1 F1 H1 (forGo g mb (ds.drop t) ρ'), ⟨ds.length, by simp, Nat.zero_le _, F1, ρ1, s1, .refl, h1⟩, ?_⟩
  rintro t m σ' H' ⟨rfl, ht, F', ρ', s', g', hp⟩
  obtain ⟨jst, jgo⟩ := r1 F' H' g'.g.ff s'.same
  by_cases c : t < ds.length
  · have ed : ds[t]? = some ds[t] := List.getElem?_eq_getElem c
    obtain ⟨go, yl⟩ := jgo t ds[t] ed
    rw [List.drop_eq_getElem_cons c] at hp
    refine .inr ⟨go, _, fun σ3 H3 z => ⟨ds.length - (t + 1), by omega, z⟩, fun x H2 hy => ?_⟩
    obtain ⟨F2, g2, e2, rx⟩ := yl x H2 hy
    have s2 := s'.grow g2 e2
    cases eg : g ds[t] ρ' with
    | none => simp only [forGo, eg] at hp; exact hp.elim
    | some ρ2 =>
      refine ⟨F2, ρ', ds[t], ρ2, s2, rx, eg, fun σ2 F2' H2' g3 s3 => ⟨ρ2, F2', s3, ?_⟩⟩
      have g4 : GrowS n σ ρ1 F1 H1 σ2 ρ2 F2' H2' := (g'.trans (.ofGr g2)).trans g3
      cases em : mb ρ2 with
      | no => simp only [forGo, eg, em] at hp; exact hp.elim
      | nx ρ3 =>
        simp only [forGo, eg, em] at hp
        exact fun σ3 F3 H3 g5 s5 => ⟨rfl, c, F3, ρ3, s5, g4.trans g5, hp⟩
      | ct ρ3 =>
        simp only [forGo, eg, em] at hp
        exact fun σ3 F3 H3 g5 s5 => ⟨rfl, c, F3, ρ3, s5, g4.trans g5, hp⟩
      | bk ρ3 =>
        simp only [forGo, eg, em] at hp
        exact fun σ3 F3 H3 g5 s5 => hp σ3 F3 H3 (g4.trans g5) s5
      | rt r ρ3 =>
        simp only [forGo, eg, em] at hp
        exact fun v σ3 F3 H3 g5 s5 q => hp v σ3 F3 H3 (g4.trans g5) s5 (q.back g4)
      | er x ρ3 =>
        simp only [forGo, eg, em] at hp
        exact fun c d σ3 F3 H3 g5 s5 q => hp c d σ3 F3 H3 (g4.trans g5) s5 q
  · have et : t = ds.length := by omega
    refine .inl ⟨jst t (by omega), ?_⟩
    rw [et, List.drop_length] at hp
    exact hp σ' F' H' g' s'
end
section
variable {X : Cx} {W : WX} {n : Nat} {pos : Pos} {c tg iter : Expr} {body : List Stmt} {t : MT} {mb : MS} {mi : MI} {g : MG}
theorem p1_while (fuel : Nat) (hp : PassesOwn (model X.prog X.w) X.A X.env X.xe) (hc : PXT X W c t) (hb : PB X W n body mb) : P1 X W n (.While c body [] pos) (mWh fuel t mb) := ⟨fun ρ => PS.imp (ps_while hp hc.ex hb.ex) fun _ _ _ h => wh_imp h⟩
theorem p1_for (hp : PassesOwn (model X.prog X.w) X.A X.env X.xe) (hc : X.calm = true) (hi : PXI X W tg iter mi) (hg : PXG X n tg g) (hb : PB X W n body mb) (hs : ∀ x, foldedSetIterable iter X.env x = pure x := by intro _; rfl) : P1 X W n (.For tg iter body [] pos) (mFor mi g mb) := ⟨fun ρ => PS.imp (ps_for hp hc (hi.run ρ) hg.run hb.ex hs) fun _ _ _ h => for_imp h⟩
end

/-! ### a def -/
def backS : Sl → Option Sl → Sl
  | .own _, some (.own l) => .own l
  | a, _ => a
def backP : En → En → En
  | [], _ => []
  | a :: as, [] => backS a none :: backP as []
  | a :: as, r :: rs => backS a (some r) :: backP as rs
theorem backP_at : ∀ (ρ ρ' : En) (i : Nat), (backP ρ ρ')[i]? = (ρ[i]?).map fun a => backS a (ρ'[i]?)
  | [], _, i => by simp [backP]
  | a :: as, [], 0 => rfl
  | a :: as, r :: rs, 0 => rfl
  | a :: as, [], i + 1 => by
    have := backP_at as [] i
    simp only [backP, List.getElem?_cons_succ, this]
    simp
  | a :: as, r :: rs, i + 1 => by
    have := backP_at as rs i
    simp only [backP, List.getElem?_cons_succ, this]
theorem backP_length : ∀ (ρ ρ' : En), (backP ρ ρ').length = ρ.length
  | [], _ => rfl
  | a :: as, [] => congrArg (· + 1) (backP_length as [])
  | a :: as, r :: rs => congrArg (· + 1) (backP_length as rs)
theorem backS_own (a : Sl) (r : Option Sl) : (backS a r).isOwn = a.isOwn := by
  cases a with
  | own l => cases r with
    | none => rfl
    | some r => cases r <;> rfl
  | emp => rfl
  | val d => rfl
def runB (n N : Nat) (m : MS) : En → Res RV := fun args => match m (args ++ List.replicate (N - n) .emp) with
  | .rt r ρ' => .ok r (backP args ρ')
  | .nx ρ' => .ok (.val .non) (backP args ρ')
  | .er x ρ' => .er x (backP args ρ')
  | _ => .no
section
variable {P : Program} {w : World} {K : PySem.W.Frag} {mg : Str → Option Value} {base : Heap}
theorem start_at {N : List Str} {vs : List V} {i : Nat} (h : i < vs.length) : (L2.start N vs)[i]? = (vs.map some)[i]? := by
  unfold L2.start
  rw [List.getElem?_append_left (by simpa using h)]
theorem run_body {N : List Str} {W : WX} {n : Nat} {ρ : En} {m : MS} {vs : List V} {F H : Hp} {Q : VK} (hn : vs.length = n) (s : StOk K F H (vs.map some) ρ) (h : Post K W (RepV K) (vs.map some) ρ F H (runB n N.length m ρ) Q) (hW : ∀ c d σ σ' H, W c d σ H → W c d σ' H) :
    tS K W n (ρ ++ List.replicate (N.length - n) .emp) (m (ρ ++ List.replicate (N.length - n) .emp)) { nx := fun _ H' => Q .non H', rt := Q } (L2.start N vs) H := by
  have hl : ρ.length = n := by rw [← s.len, List.length_map, hn]
  have r0 : ∀ {i : Nat}, i < n → (ρ ++ List.replicate (N.length - n) Sl.emp)[i]? = ρ[i]? := fun {i} hi => List.getElem?_append_left (by omega)
  have r1 : ∀ {i : Nat} {x : Sl}, n ≤ i → (ρ ++ List.replicate (N.length - n) Sl.emp)[i]? = some x → x = .emp := fun {i x} hi e => by
    rw [List.getElem?_append_right (by omega), List.getElem?_replicate] at e
    split at e <;> cases e
    rfl
  have own0 : ∀ {i : Nat} {l}, (ρ ++ List.replicate (N.length - n) Sl.emp)[i]? = some (Sl.own l) → i < n ∧ ρ[i]? = some (Sl.own l) := fun {i l} e => by
    by_cases hi : i < n
    · exact ⟨hi, by rw [← r0 hi]; exact e⟩
    · have := r1 (by omega) e
      cases this
  have ow : ∀ {b}, Own (L2.start N vs) (ρ ++ List.replicate (N.length - n) .emp) b ↔ Own (vs.map some) ρ b := fun {b} => by
    constructor
    · rintro ⟨i, l, h1, h2⟩
      obtain ⟨hi, h3⟩ := own0 h1
      exact ⟨i, l, h3, by rw [← start_at (N := N) (by omega)]; exact h2⟩
    · rintro ⟨i, l, h1, h2⟩
      have hi : i < n := by rw [← hl]; exact (List.getElem?_eq_some_iff.mp h1).1
      exact ⟨i, l, by rw [r0 hi]; exact h1, by rw [start_at (by omega)]; exact h2⟩
  have s0 : StOk K F H (L2.start N vs) (ρ ++ List.replicate (N.length - n) .emp) := by
    refine ⟨s.same, ?_, fun i x sl h1 h2 => ?_, fun i j a d e h1 h2 h3 h4 => ?_⟩
    · unfold L2.start
      rw [List.length_append, List.length_append, List.length_map, List.length_replicate, List.length_replicate, hl, hn]
    · by_cases hi : i < n
      · rw [r0 hi] at h2
        rw [start_at (by omega)] at h1
        exact s.sl i x sl h1 h2
      · rw [r1 (by omega) h2]
        cases x <;> trivial
    · obtain ⟨k1, k2⟩ := own0 h1
      obtain ⟨k3, k4⟩ := own0 h2
      rw [start_at (by omega)] at h3 h4
      exact s.inj i j a d e k2 k4 h3 h4
  refine ⟨F, s0, ?_⟩
  -- behind the body: the parameters' state
  have keep : ∀ {σ' : L2.St} {ρ' : En} {F' H' : Hp}, GrowS n (L2.start N vs) (ρ ++ List.replicate (N.length - n) .emp) F H σ' ρ' F' H' → ∀ {i : Nat} {l}, ρ[i]? = some (Sl.own l) → σ'[i]? = (vs.map some)[i]? ∧ ∃ l', ρ'[i]? = some (Sl.own l') := fun {σ' ρ' F' H'} g {i l} e => by
    have hi : i < n := by rw [← hl]; exact (List.getElem?_eq_some_iff.mp e).1
    obtain ⟨k1, k2⟩ := g.keep i l hi (by rw [r0 hi]; exact e)
    rw [start_at (by omega)] at k1
    exact ⟨k1, k2⟩
  have fin : ∀ {σ' : L2.St} {ρ' : En} {F' H' : Hp}, GrowS n (L2.start N vs) (ρ ++ List.replicate (N.length - n) .emp) F H σ' ρ' F' H' → StOk K F' H' σ' ρ' → Grow (Own (vs.map some) ρ) F H F' H' ∧ StOk K F' H' (vs.map some) (backP ρ ρ') ∧ shape (backP ρ ρ') = shape ρ := fun {σ' ρ' F' H'} g s' => by
    have gl : Grow (Own (vs.map some) ρ) F H F' H' := g.g.imp fun b z => ow.mp z
    have own1 : ∀ {i : Nat} {l}, (backP ρ ρ')[i]? = some (Sl.own l) → ∃ l0, ρ[i]? = some (Sl.own l0) := fun {i l} e => by
      rw [backP_at] at e
      cases q : ρ[i]? with
      | none => rw [q] at e; cases e
      | some a =>
        rw [q] at e
        cases a with
        | own l0 => exact ⟨l0, rfl⟩
        | emp => cases e
        | val d => cases e
    refine ⟨gl, ⟨s'.same, by rw [backP_length]; exact s.len, fun i x sl h1 h2 => ?_, fun i j a d e h1 h2 h3 h4 => ?_⟩, ?_⟩
    · rw [backP_at] at h2
      cases q : ρ[i]? with
      | none => rw [q] at h2; cases h2
      | some a =>
        rw [q] at h2
        have z := s.sl i x a h1 q
        cases a with
        | emp =>
          cases h2
          cases x <;> trivial
        | val d =>
          cases h2
          cases x with
          | none => exact z
          | some v => exact Rep.mono gl.ff z
        | own l =>
          obtain ⟨k1, l', k2⟩ := keep g q
          rw [k2] at h2
          cases h2
          exact s'.sl i x _ (by rw [k1]; exact h1) k2
    · obtain ⟨l1, k1⟩ := own1 h1
      obtain ⟨l2, k2⟩ := own1 h2
      exact s.inj i j a l1 l2 k1 k2 h3 h4
    · apply List.ext_getElem?
      intro i
      rw [List.getElem?_map, List.getElem?_map, backP_at, Option.map_map]
      cases ρ[i]? with
      | none => rfl
      | some a => exact congrArg some (backS_own a _)
  unfold runB at h
  cases em : m (ρ ++ List.replicate (N.length - n) .emp) with
  | no => rw [em] at h; exact h.elim
  | bk ρ' => rw [em] at h; exact h.elim
  | ct ρ' => rw [em] at h; exact h.elim
  | nx ρ' =>
    rw [em] at h
    intro σ' F' H' g s'
    obtain ⟨k1, k2, k3⟩ := fin g s'
    exact h .non F' H' k1 k2 k3 .non
  | er x ρ' =>
    rw [em] at h
    intro c d σ' F' H' g s' q
    obtain ⟨k1, k2, k3⟩ := fin g s'
    exact hW _ _ _ _ _ (h c d F' H' k1 k2 k3 q)
  | rt r ρ' =>
    rw [em] at h
    intro v σ' F' H' g s' q
    obtain ⟨k1, k2, k3⟩ := fin g s'
    refine h v F' H' k1 k2 k3 ?_
    cases r with
    | val d => exact q
    | fr ds =>
      obtain ⟨p, ws, e, hp, no, q⟩ := q
      refine ⟨p, ws, e, ?_, q⟩
      rcases hp with hp | hp
      · exact hp
      · obtain ⟨i, l, h1, h2⟩ := ow.mp hp
        obtain ⟨k4, l', k5⟩ := keep g h1
        exact absurd ⟨i, l', k5, by rw [k4]; exact h2⟩ no
/-- THE RULE for a def: m is what its body is worth -/
theorem fn_pd {x qual : Str} {params : Arguments} {body : List Stmt} {scope : Scope} {f : Addr} {fd : FuncData} {N ps : List Str} {k : Nat} (m : MS) (F : FunD K x qual params body scope [] [] f fd) (S : FnScope N ps scope)
    (hbody : ∀ (cdv : Value) (A : Around) (outer : List PySem.Env) (s : Shared) (H : Hp) (E : XK), Room k (cxOf (L2N.CX P w) P w K mg base N qual scope f cdv A outer s H E).A → L2N.Takes (cxOf (L2N.CX P w) P w K mg base N qual scope f cdv A outer s H E) (fun cls d _ H => E cls d H) →
      PassesOwn (model P w) (cxOf (L2N.CX P w) P w K mg base N qual scope f cdv A outer s H E).A (cxOf (L2N.CX P w) P w K mg base N qual scope f cdv A outer s H E).env (cxOf (L2N.CX P w) P w K mg base N qual scope f cdv A outer s H E).xe →
      PB (cxOf (L2N.CX P w) P w K mg base N qual scope f cdv A outer s H E) (fun cls d _ H => E cls d H) ps.length body m) : FnOk P w K mg base (L2N.CX P w) (k + 1) f fd ps (spF K ps.length (runB ps.length N.length m)) := by
  refine F.ok S (fun vs H Q E h => h.1) (fun cdv A outer s H vs Q E hr h => ?_)
  obtain ⟨hn, ρ, F0, st0, h⟩ := h
  refine ⟨_, (hbody cdv A outer s H E hr (L2N.takes_of rfl rfl rfl rfl) (passes_of rfl)).run (ρ ++ List.replicate (N.length - ps.length) .emp), ?_⟩
  exact run_body hn st0 h fun _ _ _ _ _ z => z
end
end PD
end
section
set_option Elab.async false
set_option linter.all false
set_option maxRecDepth 100000
set_option maxHeartbeats 2000000
namespace PD
open PySem PySem.Spec PyProof.Rows L2

theorem OpR.or {X : Cx} {f : Value → Value → Sem Value} {r r' : R2} (h : OpR X f r) (h' : OpR X f r') : OpR X f (fun x y H Q => r x y H Q ∨ r' x y H Q) := fun pins s σ H x y v u Q I rx ry q => by
  rcases q with q | q
  · exact h pins s σ H x y v u Q I rx ry q
  · exact h' pins s σ H x y v u Q I rx ry q
theorem CallR.or {X : Cx} {f : Value} {r r' : List V → Hp → VK → Prop} (h : CallR X f r) (h' : CallR X f r') : CallR X f (fun xs H Q => r xs H Q ∨ r' xs H Q) := fun pins s σ H xs us Q I rx q => by
  rcases q with q | q
  · exact h pins s σ H xs us Q I rx q
  · exact h' pins s σ H xs us Q I rx q

/-! ### whole numbers, texts -/
abbrev vi (i : Int) : Option RV := some (.val (.int i))
abbrev vb (b : Bool) : Option RV := some (.val (.bl b))
abbrev vs (x : Str) : Option RV := some (.val (.str x))
def gAdd : D → D → Option RV
  | .int i, .int j => vi (i + j)
  | .str a, .str b => if a.length + b.length ≤ top1 then vs (a ++ b) else none
  | _, _ => none
def gSub : D → D → Option RV
  | .int i, .int j => vi (i - j)
  | _, _ => none
def gMul : D → D → Option RV
  | .int i, .int j => if i.natAbs.log2 + j.natAbs.log2 < 1000000 then vi (i * j) else none
  | _, _ => none
def gMod : D → D → Option RV
  | .int i, .int j => if 0 < j then vi (i % j) else none
  | _, _ => none
def gDiv : D → D → Option RV
  | .int i, .int j => if 0 < j ∧ j.natAbs.log2 < 9000 then vi (i / j) else none
  | _, _ => none
def gPow : D → D → Option RV
  | .int i, .int j => if 0 ≤ j ∧ j ≤ 1000000 ∧ i.natAbs < 2 ^ 64 then vi (i ^ j.toNat) else none
  | _, _ => none
def gNeg : D → Option RV
  | .int i => vi (-i)
  | _ => none
def gLt : D → D → Option RV
  | .int i, .int j => vb (decide (i < j))
  | _, _ => none
def gLe : D → D → Option RV
  | .int i, .int j => vb (decide (i ≤ j))
  | _, _ => none
def gGt : D → D → Option RV
  | .int i, .int j => vb (decide (j < i))
  | _, _ => none
def gGe : D → D → Option RV
  | .int i, .int j => vb (decide (j ≤ i))
  | _, _ => none
section
variable {X : Cx}
theorem addD : OpR X (binaryOp .Add) (rD2 X.K gAdd) := OpR.imp (OpR.or op_add op_add_str) fun x y H Q ⟨F, a, b, r, e, ra, rb, hg, q⟩ => by
  cases ra with
  | int i => cases rb with
    | int j => cases hg; exact .inl ⟨i, j, rfl, rfl, q _ F H Grow.refl e (.int _)⟩
    | _ => cases hg
  | str z => cases rb with
    | str u =>
      have h2 : (if z.length + u.length ≤ top1 then vs (z ++ u) else none) = some r := hg
      by_cases c : z.length + u.length ≤ top1
      · rw [if_pos c] at h2; cases h2; exact .inr ⟨z, u, rfl, rfl, top1_le c, q _ F H Grow.refl e (.str _)⟩
      · rw [if_neg c] at h2; cases h2
    | _ => cases hg
  | _ => cases hg
theorem subD : OpR X (binaryOp .Sub) (rD2 X.K gSub) := OpR.imp op_sub fun x y H Q ⟨F, a, b, r, e, ra, rb, hg, q⟩ => by
  cases ra with
  | int i => cases rb with
    | int j => cases hg; exact ⟨i, j, rfl, rfl, q _ F H Grow.refl e (.int _)⟩
    | _ => cases hg
  | _ => cases hg
/-- two whole numbers under a condition -/
theorem intC {f : Value → Value → Sem Value} {C : Int → Int → Prop} {w : Int → Int → D} {v : Int → Int → V} {g : D → D → Option RV} (ho : OpR X f (rI C v)) (hw : ∀ i j F, Rep X.K F (w i j) (v i j)) (hg : ∀ a b r, g a b = some r → ∃ i j, a = .int i ∧ b = .int j ∧ C i j ∧ r = .val (w i j)) : OpR X f (rD2 X.K g) := OpR.imp ho fun x y H Q ⟨F, a, b, r, e, ra, rb, h, q⟩ => by
  obtain ⟨i, j, rfl, rfl, c, rfl⟩ := hg a b r h
  cases ra
  cases rb
  exact ⟨i, j, rfl, rfl, c, q _ F H Grow.refl e (hw i j F)⟩
theorem int0 {f : Value → Value → Sem Value} {w : Int → Int → D} {v : Int → Int → V} {g : D → D → Option RV} (ho : OpR X f (rI0 v)) (hw : ∀ i j F, Rep X.K F (w i j) (v i j)) (hg : ∀ a b r, g a b = some r → ∃ i j, a = .int i ∧ b = .int j ∧ r = .val (w i j)) : OpR X f (rD2 X.K g) := OpR.imp ho fun x y H Q ⟨F, a, b, r, e, ra, rb, h, q⟩ => by
  obtain ⟨i, j, rfl, rfl, rfl⟩ := hg a b r h
  cases ra
  cases rb
  exact ⟨i, j, rfl, rfl, q _ F H Grow.refl e (hw i j F)⟩
theorem mulD : OpR X (binaryOp .Mult) (rD2 X.K gMul) := intC (C := CMulW) (w := fun i j => .int (i * j)) op_mulW (fun i j F => .int _) fun a b r h => by
  cases a with
  | int i => cases b with
    | int j =>
      have h2 : (if i.natAbs.log2 + j.natAbs.log2 < 1000000 then vi (i * j) else none) = some r := h
      by_cases c : i.natAbs.log2 + j.natAbs.log2 < 1000000
      · rw [if_pos c] at h2; cases h2; exact ⟨i, j, rfl, rfl, c, rfl⟩
      · rw [if_neg c] at h2; cases h2
    | _ => cases h
  | _ => cases h
theorem modD : OpR X (binaryOp .Mod) (rD2 X.K gMod) := intC (C := fun _ j => 0 < j) (w := fun i j => .int (i % j)) op_mod (fun i j F => .int _) fun a b r h => by
  cases a with
  | int i => cases b with
    | int j =>
      have h2 : (if 0 < j then vi (i % j) else none) = some r := h
      by_cases c : 0 < j
      · rw [if_pos c] at h2; cases h2; exact ⟨i, j, rfl, rfl, c, rfl⟩
      · rw [if_neg c] at h2; cases h2
    | _ => cases h
  | _ => cases h
theorem divD : OpR X (binaryOp .FloorDiv) (rD2 X.K gDiv) := intC (C := CDivW) (w := fun i j => .int (i / j)) op_fdivW (fun i j F => .int _) fun a b r h => by
  cases a with
  | int i => cases b with
    | int j =>
      have h2 : (if 0 < j ∧ j.natAbs.log2 < 9000 then vi (i / j) else none) = some r := h
      by_cases c : 0 < j ∧ j.natAbs.log2 < 9000
      · rw [if_pos c] at h2; cases h2; exact ⟨i, j, rfl, rfl, c, rfl⟩
      · rw [if_neg c] at h2; cases h2
    | _ => cases h
  | _ => cases h
theorem powD : OpR X (binaryOp .Pow) (rD2 X.K gPow) := intC (C := CPow) (w := fun i j => .int (i ^ j.toNat)) op_pow (fun i j F => .int _) fun a b r h => by
  cases a with
  | int i => cases b with
    | int j =>
      have h2 : (if 0 ≤ j ∧ j ≤ 1000000 ∧ i.natAbs < 2 ^ 64 then vi (i ^ j.toNat) else none) = some r := h
      by_cases c : 0 ≤ j ∧ j ≤ 1000000 ∧ i.natAbs < 2 ^ 64
      · rw [if_pos c] at h2; cases h2; exact ⟨i, j, rfl, rfl, c, rfl⟩
      · rw [if_neg c] at h2; cases h2
    | _ => cases h
  | _ => cases h
theorem two_int {w : Int → Int → D} {g : D → D → Option RV} (h1 : ∀ i j, g (.int i) (.int j) = some (.val (w i j))) (h2 : ∀ a b, (∃ i j, a = .int i ∧ b = .int j) ∨ g a b = none) (a b : D) (r : RV) (h : g a b = some r) : ∃ i j, a = .int i ∧ b = .int j ∧ r = .val (w i j) := by
  rcases h2 a b with ⟨i, j, rfl, rfl⟩ | e
  · rw [h1] at h; cases h; exact ⟨i, j, rfl, rfl, rfl⟩
  · rw [e] at h; cases h
theorem ltD : OpR X (compareOp .Lt) (rD2 X.K gLt) := int0 (w := fun i j => .bl (decide (i < j))) op_lt (fun i j F => .bl _) (two_int (fun _ _ => rfl) fun a b => by cases a <;> cases b <;> first | exact .inl ⟨_, _, rfl, rfl⟩ | exact .inr rfl)
theorem leD : OpR X (compareOp .LtE) (rD2 X.K gLe) := int0 (w := fun i j => .bl (decide (i ≤ j))) op_le (fun i j F => .bl _) (two_int (fun _ _ => rfl) fun a b => by cases a <;> cases b <;> first | exact .inl ⟨_, _, rfl, rfl⟩ | exact .inr rfl)
theorem gtD : OpR X (compareOp .Gt) (rD2 X.K gGt) := int0 (w := fun i j => .bl (decide (j < i))) op_gt (fun i j F => .bl _) (two_int (fun _ _ => rfl) fun a b => by cases a <;> cases b <;> first | exact .inl ⟨_, _, rfl, rfl⟩ | exact .inr rfl)
theorem geD : OpR X (compareOp .GtE) (rD2 X.K gGe) := int0 (w := fun i j => .bl (decide (j ≤ i))) op_ge (fun i j F => .bl _) (two_int (fun _ _ => rfl) fun a b => by cases a <;> cases b <;> first | exact .inl ⟨_, _, rfl, rfl⟩ | exact .inr rfl)
theorem negD : UnR X (unaryOp .USub) (rD1 X.K gNeg) := UnR.imp un_neg fun x H Q ⟨F, a, r, e, ra, hg, q⟩ => by
  cases ra with
  | int i => cases hg; exact ⟨i, rfl, q _ F H Grow.refl e (.int _)⟩
  | _ => cases hg
end

/-! ### is None -/
def D.isN : D → Bool
  | .non => true
  | _ => false
def gIsN (d : D) : D → Option RV
  | .non => vb d.isN
  | _ => none
def gNotN (d : D) : D → Option RV
  | .non => vb (!d.isN)
  | _ => none
section
variable {X : Cx}
theorem rep_non {K : PySem.W.Frag} {F : Hp} {d : D} {v : V} (r : Rep K F d v) : decide (v = .non) = d.isN := by
  cases r <;> first | rfl | exact decide_eq_false (fun h => nomatch h)
theorem isND : OpR X (compareOp .Is) (rD2 X.K gIsN) := OpR.imp op_isN fun x y H Q ⟨F, a, b, r, e, ra, rb, hg, q⟩ => by
  cases rb with
  | non =>
    cases hg
    exact ⟨rfl, by rw [rep_non ra]; exact q _ F H Grow.refl e (.bl _)⟩
  | _ => cases hg
theorem notND : OpR X (compareOp .IsNot) (rD2 X.K gNotN) := OpR.imp op_notN fun x y H Q ⟨F, a, b, r, e, ra, rb, hg, q⟩ => by
  cases rb with
  | non =>
    cases hg
    exact ⟨rfl, by rw [rep_non ra]; exact q _ F H Grow.refl e (.bl _)⟩
  | _ => cases hg
end

/-! ### data without objects: ==, != -/
mutual
def D.py : D → Option PyData
  | .non => some .none
  | .bl b => some (.bool b)
  | .int i => some (.int i)
  | .str x => some (.str x)
  | .lst xs => (pyAll xs).map .list
  | .tup xs => (pyAll xs).map .tuple
  | .obj _ _ _ => none
  | .dct _ _ => none
def pyAll : List D → Option (List PyData)
  | [] => some []
  | x :: xs => match D.py x, pyAll xs with
    | some y, some ys => some (y :: ys)
    | _, _ => none
end
mutual
theorem rep_dp {K : PySem.W.Frag} {F : Hp} : ∀ {d : D} {v : V} {p : PyData}, Rep K F d v → d.py = some p → Dp K F v p
  | _, _, _, .non, h => by simp only [D.py, Option.some.injEq] at h; subst h; exact .non
  | _, _, _, .bl b, h => by simp only [D.py, Option.some.injEq] at h; subst h; exact .bl b
  | _, _, _, .int i, h => by simp only [D.py, Option.some.injEq] at h; subst h; exact .int i
  | _, _, _, .str x, h => by simp only [D.py, Option.some.injEq] at h; subst h; exact .str x
  | _, _, _, .lst hs hr, h => by
    simp only [D.py] at h
    obtain ⟨ps, h1, h2⟩ := Option.map_eq_some_iff.mp h
    subst h2
    exact .lst hs (reps_dp hr h1)
  | _, _, _, .tup hs hr, h => by
    simp only [D.py] at h
    obtain ⟨ps, h1, h2⟩ := Option.map_eq_some_iff.mp h
    subst h2
    exact .tup hs (reps_dp hr h1)
  | _, _, _, .obj _ _ _, h => by simp [D.py] at h
  | _, _, _, .dct _ _ _, h => by simp [D.py] at h
theorem reps_dp {K : PySem.W.Frag} {F : Hp} : ∀ {ds : List D} {vs : List V} {ps : List PyData}, Reps K F ds vs → pyAll ds = some ps → DpAll K F vs ps
  | _, _, _, .nil, h => by simp only [pyAll, Option.some.injEq] at h; subst h; exact .nil
  | _, _, _, .cons (d := d) (ds := ds) h1 h2, h => by
    simp only [pyAll] at h
    cases e1 : d.py with
    | none => rw [e1] at h; simp at h
    | some y =>
      cases e2 : pyAll ds with
      | none => rw [e1, e2] at h; simp at h
      | some ys =>
        rw [e1, e2] at h
        simp only [Option.some.injEq] at h
        subst h
        exact .cons (rep_dp h1 e1) (reps_dp h2 e2)
end
mutual
theorem dp_same {K : PySem.W.Frag} {F H : Hp} (e : Same F H) : ∀ {v : V} {p : PyData}, Dp K F v p → Dp K H v p
  | _, _, .non => .non
  | _, _, .bl b => .bl b
  | _, _, .int i => .int i
  | _, _, .str x => .str x
  | _, _, .lst hs h => .lst (Same.seq e hs) (dpAll_same e h)
  | _, _, .tup hs h => .tup (same_seqT e hs) (dpAll_same e h)
theorem dpAll_same {K : PySem.W.Frag} {F H : Hp} (e : Same F H) : ∀ {vs : List V} {ps : List PyData}, DpAll K F vs ps → DpAll K H vs ps
  | _, _, .nil => .nil
  | _, _, .cons h1 h2 => .cons (dp_same e h1) (dpAll_same e h2)
end
/-- whether two data are equal, where none is an object -/
def eqPy (a b : D) : Option Bool := match a.py, b.py with
  | some p, some q => if SeqAt.shaped p = true ∧ SeqAt.shaped q = true then some (PyData.eqv p q) else none
  | _, _ => none
def gEqS (f : Bool → Bool) (other : D → D → Option Bool) : D → D → Option RV
  | .str a, .str b => vb (f (decide (a = b)))
  | .int a, .int b => vb (f (decide (a = b)))
  | .bl a, .bl b => vb (f (decide (a = b)))
  | a, b => match other a b with
    | some k => vb (f k)
    | none => none
abbrev gEq : D → D → Option RV := gEqS id eqPy
abbrev gNe : D → D → Option RV := gEqS not eqPy
theorem eqPy_ok {a b : D} {k : Bool} (h : eqPy a b = some k) : ∃ p q, a.py = some p ∧ b.py = some q ∧ SeqAt.shaped p = true ∧ SeqAt.shaped q = true ∧ k = PyData.eqv p q := by
  unfold eqPy at h
  cases e1 : a.py with
  | none => rw [e1] at h; cases h
  | some p =>
    cases e2 : b.py with
    | none => rw [e1, e2] at h; cases h
    | some q =>
      rw [e1, e2] at h
      have h2 : (if SeqAt.shaped p = true ∧ SeqAt.shaped q = true then some (PyData.eqv p q) else none) = some k := h
      by_cases c : SeqAt.shaped p = true ∧ SeqAt.shaped q = true
      · rw [if_pos c] at h2; cases h2; exact ⟨p, q, rfl, rfl, c.1, c.2, rfl⟩
      · rw [if_neg c] at h2; cases h2
theorem gEqS_ok {f : Bool → Bool} {other : D → D → Option Bool} {a b : D} {r : RV} (h : gEqS f other a b = some r) :
    (∃ x y, a = .str x ∧ b = .str y ∧ r = .val (.bl (f (decide (x = y))))) ∨ (∃ x y, a = .int x ∧ b = .int y ∧ r = .val (.bl (f (decide (x = y))))) ∨ (∃ x y, a = .bl x ∧ b = .bl y ∧ r = .val (.bl (f (decide (x = y))))) ∨ ∃ k, other a b = some k ∧ r = .val (.bl (f k)) := by
  unfold gEqS at h
  split at h
  · cases h; exact .inl ⟨_, _, rfl, rfl, rfl⟩
  · cases h; exact .inr (.inl ⟨_, _, rfl, rfl, rfl⟩)
  · cases h; exact .inr (.inr (.inl ⟨_, _, rfl, rfl, rfl⟩))
  · rename_i e1 e2 e3
    cases e : other a b with
    | none => rw [e] at h; cases h
    | some k => rw [e] at h; cases h; exact .inr (.inr (.inr ⟨k, rfl, rfl⟩))
section
variable {X : Cx}
theorem eqD_of {other : D → D → Option Bool} {r0 : R2} (h0 : OpR X (compareOp .Eq) r0) (h : ∀ x y H Q F a b k, Same F H → Rep X.K F a x → Rep X.K F b y → other a b = some k → (∀ z F' H', Gr F H F' H' → Same F' H' → RepV X.K H F' H' (.val (.bl k)) z → Q z H') → r0 x y H Q) : OpR X (compareOp .Eq) (rD2 X.K (gEqS id other)) :=
  OpR.imp (OpR.or op_eq h0) fun x y H Q ⟨F, a, b, r, e, ra, rb, hg, q⟩ => by
    rcases gEqS_ok hg with ⟨u, v, rfl, rfl, rfl⟩ | ⟨u, v, rfl, rfl, rfl⟩ | ⟨u, v, rfl, rfl, rfl⟩ | ⟨k, hk, rfl⟩
    · cases ra; cases rb
      exact .inl ⟨rfl, q _ F H Grow.refl e (by have z : decide (V.str u = V.str v) = decide (u = v) := by simp
                                               rw [z]; exact .bl _)⟩
    · cases ra; cases rb
      exact .inl ⟨rfl, q _ F H Grow.refl e (by have z : decide (V.int u = V.int v) = decide (u = v) := by simp
                                               rw [z]; exact .bl _)⟩
    · cases ra; cases rb
      exact .inl ⟨rfl, q _ F H Grow.refl e (by have z : decide (V.bl u = V.bl v) = decide (u = v) := by simp
                                               rw [z]; exact .bl _)⟩
    · exact .inr (h x y H Q F a b k e ra rb hk q)
theorem neD_of {other : D → D → Option Bool} {r0 : R2} (h0 : OpR X (compareOp .NotEq) r0) (h : ∀ x y H Q F a b k, Same F H → Rep X.K F a x → Rep X.K F b y → other a b = some k → (∀ z F' H', Gr F H F' H' → Same F' H' → RepV X.K H F' H' (.val (.bl (!k))) z → Q z H') → r0 x y H Q) : OpR X (compareOp .NotEq) (rD2 X.K (gEqS not other)) :=
  OpR.imp (OpR.or op_ne h0) fun x y H Q ⟨F, a, b, r, e, ra, rb, hg, q⟩ => by
    rcases gEqS_ok hg with ⟨u, v, rfl, rfl, rfl⟩ | ⟨u, v, rfl, rfl, rfl⟩ | ⟨u, v, rfl, rfl, rfl⟩ | ⟨k, hk, rfl⟩
    · cases ra; cases rb
      exact .inl ⟨rfl, q _ F H Grow.refl e (by have z : decide (V.str u = V.str v) = decide (u = v) := by simp
                                               rw [z]; exact .bl _)⟩
    · cases ra; cases rb
      exact .inl ⟨rfl, q _ F H Grow.refl e (by have z : decide (V.int u = V.int v) = decide (u = v) := by simp
                                               rw [z]; exact .bl _)⟩
    · cases ra; cases rb
      exact .inl ⟨rfl, q _ F H Grow.refl e (by have z : decide (V.bl u = V.bl v) = decide (u = v) := by simp
                                               rw [z]; exact .bl _)⟩
    · exact .inr (h x y H Q F a b k e ra rb hk q)
theorem eqD (hu : X.A.units + 64 < cLine) : OpR X (compareOp .Eq) (rD2 X.K gEq) := eqD_of (op_eqD hu) fun x y H Q F a b k e ra rb hk q => by
  obtain ⟨p, p', h1, h2, h3, h4, rfl⟩ := eqPy_ok hk
  exact ⟨p, p', dp_same e (rep_dp ra h1), dp_same e (rep_dp rb h2), h3, h4, q _ F H Grow.refl e (.bl _)⟩
theorem neD (hu : X.A.units + 64 < cLine) : OpR X (compareOp .NotEq) (rD2 X.K gNe) := neD_of (op_neD hu) fun x y H Q F a b k e ra rb hk q => by
  obtain ⟨p, p', h1, h2, h3, h4, rfl⟩ := eqPy_ok hk
  exact ⟨p, p', dp_same e (rep_dp ra h1), dp_same e (rep_dp rb h2), h3, h4, q _ F H Grow.refl e (.bl _)⟩
end
end PD
end
section
set_option Elab.async false
set_option linter.all false
set_option maxRecDepth 100000
set_option maxHeartbeats 2000000
namespace PD
open PySem PySem.Spec PyProof.Rows L2

/-! ### typed views -/
def D.int? : D → Option Int
  | .int i => some i
  | _ => none
def D.bl? : D → Option Bool
  | .bl b => some b
  | _ => none
def D.str? : D → Option Str
  | .str x => some x
  | _ => none
def D.flat? : D → Option V
  | .non => some .non
  | .bl b => some (.bl b)
  | .int i => some (.int i)
  | .str x => some (.str x)
  | _ => none
def mapAll {α : Type} (f : D → Option α) : List D → Option (List α)
  | [] => some []
  | d :: ds => match f d, mapAll f ds with
    | some a, some as => some (a :: as)
    | _, _ => none
section
variable {K : PySem.W.Frag} {F : Hp}
theorem mapAll_ok {α : Type} {f : D → Option α} {g : α → V} (hf : ∀ d a v, f d = some a → Rep K F d v → v = g a) : ∀ {ds : List D} {as : List α} {vs : List V}, mapAll f ds = some as → Reps K F ds vs → vs = as.map g
  | [], _, _, h, .nil => by cases h; rfl
  | d :: ds, as, _, h, .cons (v := v) (vs := vs) h1 h2 => by
    have h3 : (match f d, mapAll f ds with | some a, some as => some (a :: as) | _, _ => none) = some as := h
    cases e1 : f d with
    | none => rw [e1] at h3; cases h3
    | some a =>
      cases e2 : mapAll f ds with
      | none => rw [e1, e2] at h3; cases h3
      | some bs =>
        rw [e1, e2] at h3
        cases h3
        rw [hf d a v e1 h1, mapAll_ok hf e2 h2, List.map_cons]
theorem int_ok (d : D) (a : Int) (v : V) (h : d.int? = some a) (r : Rep K F d v) : v = .int a := by
  cases r <;> cases h; rfl
theorem bl_ok (d : D) (a : Bool) (v : V) (h : d.bl? = some a) (r : Rep K F d v) : v = .bl a := by
  cases r <;> cases h; rfl
theorem str_ok (d : D) (a : Str) (v : V) (h : d.str? = some a) (r : Rep K F d v) : v = .str a := by
  cases r <;> cases h; rfl
theorem flat_ok (d : D) (a : V) (v : V) (h : d.flat? = some a) (r : Rep K F d v) : v = a ∧ flatV v = true := by
  cases r <;> cases h <;> exact ⟨rfl, rfl⟩
end

/-! ### built-ins -/
def gLen : List D → Option RV
  | [.str z] => if z.length ≤ top1 then vi z.length else none
  | [.lst ds] => vi ds.length
  | [.tup ds] => vi ds.length
  | _ => none
def gAbs : List D → Option RV
  | [.int i] => vi (if i < 0 then -i else i)
  | _ => none
def gMax2 : List D → Option RV
  | [.int i, .int j] => vi (if j > i then j else i)
  | _ => none
def gMin2 : List D → Option RV
  | [.int i, .int j] => vi (if j < i then j else i)
  | _ => none
def gSum : List D → Option RV
  | [.lst ds] => (mapAll D.int? ds).bind fun ns => vi ns.sum
  | _ => none
/-- the greatest of the first and others -/
def maxL : Int → List Int → Int
  | m, [] => m
  | m, n :: ns => maxL (if n > m then n else m) ns
def gMax : List D → Option RV
  | [.lst ds] => (mapAll D.int? ds).bind fun ns => match ns with
    | [] => none
    | n :: ns => vi (maxL n ns)
  | _ => none
def gAll : List D → Option RV
  | [.lst ds] => (mapAll D.bl? ds).bind fun bs => vb (bs.all id)
  | _ => none
def gAny : List D → Option RV
  | [.lst ds] => (mapAll D.bl? ds).bind fun bs => vb (bs.any id)
  | _ => none
def gStr : List D → Option RV
  | [.int i] => if i.natAbs.log2 < 1920 then vs (toString i) else none
  | [.str z] => vs z
  | _ => none
def gInt : List D → Option RV
  | [.str a] => (PySem.intText? a).bind fun n => if a.length ≤ 640 then vi n else none
  | [.int i] => vi i
  | _ => none
def gTuple : List D → Option RV
  | [.lst ds] => some (.val (.tup ds))
  | [.tup ds] => some (.val (.tup ds))
  | _ => none
def gList : List D → Option RV
  | [.lst ds] => some (.fr (.lst ds))
  | [.tup ds] => some (.fr (.lst ds))
  | _ => none
def gDivmod : List D → Option RV
  | [.int i, .int j] => if 0 < j ∧ j.natAbs.log2 < 9000 then some (.val (.tup [.int (i / j), .int (i % j)])) else none
  | _ => none
section
variable {X : Cx}
theorem lenD : CallR X (.builtin "len") (rDL X.K gLen) := CallR.imp (CallR.or call_len_seq call_len_str) fun xs H Q ⟨F, ds, r, e, rs, hg, q⟩ => by
  match ds, xs, rs, hg with
  | [.str z], _, .cons (.str _) .nil, hg =>
    have h2 : (if z.length ≤ top1 then vi z.length else none) = some r := hg
    by_cases c : z.length ≤ top1
    · rw [if_pos c] at h2; cases h2; exact .inr ⟨z, rfl, top1_le c, q _ F H Grow.refl e (.int _)⟩
    · rw [if_neg c] at h2; cases h2
  | [.lst ds], _, .cons (.lst hs hr) .nil, hg =>
    cases hg
    exact .inl ⟨_, _, rfl, .inl (Same.seq e hs), by rw [← Reps.length hr]; exact q _ F H Grow.refl e (.int _)⟩
  | [.tup ds], _, .cons (.tup hs hr) .nil, hg =>
    cases hg
    exact .inl ⟨_, _, rfl, .inr (same_seqT e hs), by rw [← Reps.length hr]; exact q _ F H Grow.refl e (.int _)⟩
theorem absD : CallR X (.builtin "abs") (rDL X.K gAbs) := CallR.imp call_abs fun xs H Q ⟨F, ds, r, e, rs, hg, q⟩ => by
  match ds, xs, rs, hg with
  | [.int i], _, .cons (.int _) .nil, hg => cases hg; exact ⟨i, rfl, q _ F H Grow.refl e (.int _)⟩
theorem max2D (hc : X.calm = true) : CallR X (.builtin "max") (rDL X.K gMax2) := CallR.imp (call_max2 hc) fun xs H Q ⟨F, ds, r, e, rs, hg, q⟩ => by
  match ds, xs, rs, hg with
  | [.int i, .int j], _, .cons (.int _) (.cons (.int _) .nil), hg => cases hg; exact ⟨i, j, rfl, q _ F H Grow.refl e (.int _)⟩
theorem min2D (hc : X.calm = true) : CallR X (.builtin "min") (rDL X.K gMin2) := CallR.imp (call_min2 hc) fun xs H Q ⟨F, ds, r, e, rs, hg, q⟩ => by
  match ds, xs, rs, hg with
  | [.int i, .int j], _, .cons (.int _) (.cons (.int _) .nil), hg => cases hg; exact ⟨i, j, rfl, q _ F H Grow.refl e (.int _)⟩
theorem sumD (hc : X.calm = true) : CallR X (.builtin "sum") (rDL X.K gSum) := CallR.imp (cr_sum hc) fun xs H Q ⟨F, ds, r, e, rs, hg, q⟩ => by
  match ds, xs, rs, hg with
  | [.lst ds], _, .cons (.lst (a := a) hs hr) .nil, hg =>
    have h2 : ((mapAll D.int? ds).bind fun ns => vi ns.sum) = some r := hg
    obtain ⟨ns, e1, e2⟩ := Option.bind_eq_some_iff.mp h2
    cases e2
    rw [mapAll_ok int_ok e1 hr] at hs
    exact ⟨a, ns, rfl, Same.seq e hs, q _ F H Grow.refl e (.int _)⟩
theorem maxL_mem : ∀ (ns : List Int) (m : Int), maxL m ns ∈ m :: ns ∧ ∀ y ∈ m :: ns, y ≤ maxL m ns
  | [], m => ⟨List.mem_cons_self, fun y h => by
    rcases List.mem_cons.mp h with rfl | h
    · exact Int.le_refl _
    · cases h⟩
  | n :: ns, m => by
    obtain ⟨h1, h2⟩ := maxL_mem ns (if n > m then n else m)
    have h3 := h2 (if n > m then n else m) List.mem_cons_self
    show maxL (if n > m then n else m) ns ∈ _ ∧ ∀ y ∈ m :: n :: ns, y ≤ maxL (if n > m then n else m) ns
    refine ⟨?_, fun y hy => ?_⟩
    · rcases List.mem_cons.mp h1 with h1 | h1
      · rw [h1]
        by_cases c : n > m
        · rw [if_pos c]; exact List.mem_cons_of_mem _ List.mem_cons_self
        · rw [if_neg c]; exact List.mem_cons_self
      · exact List.mem_cons_of_mem _ (List.mem_cons_of_mem _ h1)
    · rcases List.mem_cons.mp hy with rfl | hy
      · by_cases c : n > y
        · rw [if_pos c] at h3 ⊢; omega
        · rw [if_neg c] at h3 ⊢; exact h3
      · rcases List.mem_cons.mp hy with rfl | hy
        · by_cases c : y > m
          · rw [if_pos c] at h3 ⊢; exact h3
          · rw [if_neg c] at h3 ⊢; omega
        · exact h2 y (List.mem_cons_of_mem _ hy)
theorem maxD (hc : X.calm = true) : CallR X (.builtin "max") (rDL X.K gMax) := CallR.imp (cr_max hc) fun xs H Q ⟨F, ds, r, e, rs, hg, q⟩ => by
  match ds, xs, rs, hg with
  | [.lst ds], _, .cons (.lst (a := a) hs hr) .nil, hg =>
    have h2 : ((mapAll D.int? ds).bind fun ns => match ns with | [] => none | n :: ns => vi (maxL n ns)) = some r := hg
    obtain ⟨ns, e1, e2⟩ := Option.bind_eq_some_iff.mp h2
    rw [mapAll_ok int_ok e1 hr] at hs
    cases ns with
    | nil => cases e2
    | cons n ns =>
      cases e2
      obtain ⟨k1, k2⟩ := maxL_mem ns n
      refine ⟨a, n :: ns, rfl, Same.seq e hs, by simp, fun m hm hy => ?_⟩
      have em : m = maxL n ns := Int.le_antisymm (k2 m hm) (hy _ k1)
      rw [em]
      exact q _ F H Grow.refl e (.int _)
theorem allD (hc : X.calm = true) : CallR X (.builtin "all") (rDL X.K gAll) := CallR.imp (cr_all hc) fun xs H Q ⟨F, ds, r, e, rs, hg, q⟩ => by
  match ds, xs, rs, hg with
  | [.lst ds], _, .cons (.lst (a := a) hs hr) .nil, hg =>
    have h2 : ((mapAll D.bl? ds).bind fun bs => vb (bs.all id)) = some r := hg
    obtain ⟨ns, e1, e2⟩ := Option.bind_eq_some_iff.mp h2
    cases e2
    rw [mapAll_ok bl_ok e1 hr] at hs
    exact ⟨a, ns, rfl, Same.seq e hs, q _ F H Grow.refl e (.bl _)⟩
theorem anyD (hc : X.calm = true) : CallR X (.builtin "any") (rDL X.K gAny) := CallR.imp (cr_any hc) fun xs H Q ⟨F, ds, r, e, rs, hg, q⟩ => by
  match ds, xs, rs, hg with
  | [.lst ds], _, .cons (.lst (a := a) hs hr) .nil, hg =>
    have h2 : ((mapAll D.bl? ds).bind fun bs => vb (bs.any id)) = some r := hg
    obtain ⟨ns, e1, e2⟩ := Option.bind_eq_some_iff.mp h2
    cases e2
    rw [mapAll_ok bl_ok e1 hr] at hs
    exact ⟨a, ns, rfl, Same.seq e hs, q _ F H Grow.refl e (.bl _)⟩
theorem strD : CallR X (.type "str") (rDL X.K gStr) := CallR.imp (CallR.or call_str_int SkE.call_str_str) fun xs H Q ⟨F, ds, r, e, rs, hg, q⟩ => by
  match ds, xs, rs, hg with
  | [.int i], _, .cons (.int _) .nil, hg =>
    have h2 : (if i.natAbs.log2 < 1920 then vs (toString i) else none) = some r := hg
    by_cases c : i.natAbs.log2 < 1920
    · rw [if_pos c] at h2; cases h2; exact .inl ⟨i, rfl, c, q _ F H Grow.refl e (.str _)⟩
    · rw [if_neg c] at h2; cases h2
  | [.str z], _, .cons (.str _) .nil, hg => cases hg; exact .inr ⟨z, rfl, q _ F H Grow.refl e (.str _)⟩
theorem intD : CallR X (.type "int") (rDL X.K gInt) := CallR.imp (CallR.or call_int_str call_int1) fun xs H Q ⟨F, ds, r, e, rs, hg, q⟩ => by
  match ds, xs, rs, hg with
  | [.str a], _, .cons (.str _) .nil, hg =>
    have h2 : ((PySem.intText? a).bind fun n => if a.length ≤ 640 then vi n else none) = some r := hg
    obtain ⟨n, e1, e2⟩ := Option.bind_eq_some_iff.mp h2
    by_cases c : a.length ≤ 640
    · rw [if_pos c] at e2; cases e2; exact .inl ⟨a, n, rfl, e1, c, q _ F H Grow.refl e (.int _)⟩
    · rw [if_neg c] at e2; cases e2
  | [.int i], _, .cons (.int _) .nil, hg => cases hg; exact .inr (.inl ⟨i, rfl, q _ F H Grow.refl e (.int _)⟩)
theorem tupleD : CallR X (.type "tuple") (rDL X.K gTuple) := CallR.imp call_tuple_of fun xs H Q ⟨F, ds, r, e, rs, hg, q⟩ => by
  match ds, xs, rs, hg with
  | [.lst ds], _, .cons (.lst (a := a) hs hr) .nil, hg =>
    cases hg
    refine ⟨a, _, rfl, .inl ⟨Same.seq e hs, fun l hl => ?_⟩⟩
    obtain ⟨g, e2⟩ := gr_new (o := .tup _) e hl
    exact q _ _ _ g e2 (.tup (.inl (Rd.of upd_same)) (hr.mono g.ff))
  | [.tup ds], _, .cons (.tup (a := a) hs hr) .nil, hg =>
    cases hg
    exact ⟨a, _, rfl, .inr ⟨same_seqT e hs, q _ F H Grow.refl e (.tup hs hr)⟩⟩
theorem listD : CallR X (.type "list") (rDL X.K gList) := CallR.imp call_list_of fun xs H Q ⟨F, ds, r, e, rs, hg, q⟩ => by
  match ds, xs, rs, hg with
  | [.lst ds], _, .cons (.lst (a := a) hs hr) .nil, hg =>
    cases hg
    refine ⟨a, _, rfl, .inl (Same.seq e hs), fun l hl => ?_⟩
    obtain ⟨g, e2⟩ := gr_newH (o := .lst _) e hl
    exact q _ _ _ g e2 (repV_new e hl hr)
  | [.tup ds], _, .cons (.tup (a := a) hs hr) .nil, hg =>
    cases hg
    refine ⟨a, _, rfl, .inr (same_seqT e hs), fun l hl => ?_⟩
    obtain ⟨g, e2⟩ := gr_newH (o := .lst _) e hl
    exact q _ _ _ g e2 (repV_new e hl hr)
theorem divmodD : CallR X (.builtin "divmod") (rDL X.K gDivmod) := CallR.imp call_divmodW fun xs H Q ⟨F, ds, r, e, rs, hg, q⟩ => by
  match ds, xs, rs, hg with
  | [.int i, .int j], _, .cons (.int _) (.cons (.int _) .nil), hg =>
    have h2 : (if 0 < j ∧ j.natAbs.log2 < 9000 then some (RV.val (.tup [.int (i / j), .int (i % j)])) else none) = some r := hg
    by_cases c : 0 < j ∧ j.natAbs.log2 < 9000
    · rw [if_pos c] at h2
      cases h2
      refine ⟨i, j, rfl, ⟨c.1, PyProof.noPylong_of_log2 c.2⟩, fun p hp => ?_⟩
      obtain ⟨g, e2⟩ := gr_new (o := .tup [.int (i / j), .int (i % j)]) e hp
      exact q _ _ _ g e2 (.tup (.inl (Rd.of upd_same)) (.cons (.int _) (.cons (.int _) .nil)))
    · rw [if_neg c] at h2; cases h2
end

/-! ### in, not in -/
def inD : D → D → Option Bool
  | .str x, .str z => match x.cps.toList with
    | [c] => some (decide (c ∈ z.cps.toList))
    | _ => none
  | x, .lst ds => match x.flat?, mapAll D.flat? ds with
    | some v, some vs => some (inV v vs)
    | _, _ => none
  | x, .tup ds => match x.flat?, mapAll D.flat? ds with
    | some v, some vs => some (inV v vs)
    | _, _ => none
  | _, _ => none
def gIn (a b : D) : Option RV := (inD a b).map fun k => .val (.bl k)
def gNotIn (a b : D) : Option RV := (inD a b).map fun k => .val (.bl (!k))
section
variable {X : Cx}
theorem flats_ok {K : PySem.W.Frag} {F : Hp} : ∀ {ds : List D} {as : List V} {vs : List V}, mapAll D.flat? ds = some as → Reps K F ds vs → vs = as ∧ as.all flatV = true
  | [], _, _, h, .nil => by cases h; exact ⟨rfl, rfl⟩
  | d :: ds, as, _, h, .cons (v := v) (vs := vs) h1 h2 => by
    have h3 := h
    unfold mapAll at h3
    cases e1 : d.flat? with
    | none => rw [e1] at h3; cases h3
    | some a =>
      cases e2 : mapAll D.flat? ds with
      | none => rw [e1, e2] at h3; cases h3
      | some bs =>
        rw [e1, e2] at h3
        cases h3
        obtain ⟨k1, k2⟩ := flat_ok d a v e1 h1
        obtain ⟨k3, k4⟩ := flats_ok e2 h2
        refine ⟨by rw [k1, k3], ?_⟩
        rw [List.all_cons, k4, ← k1, k2]
        rfl
theorem inD_ok {K : PySem.W.Frag} {F : Hp} {a b : D} {x y : V} {k : Bool} (ra : Rep K F a x) (rb : Rep K F b y) (h : inD a b = some k) :
    (∃ (c : Nat) (z : Str), x = .str ⟨#[c]⟩ ∧ y = .str z ∧ k = decide (c ∈ z.cps.toList)) ∨ ∃ p xs, y = .ref p ∧ (SqL K F p xs ∨ SqT K F p xs) ∧ flatV x = true ∧ xs.all flatV = true ∧ k = inV x xs := by
  have seq : ∀ {ds : List D} {vs : List V}, Reps K F ds vs → (match a.flat?, mapAll D.flat? ds with | some v, some vs => some (inV v vs) | _, _ => none) = some k → flatV x = true ∧ vs.all flatV = true ∧ k = inV x vs := fun {ds vs} hr h => by
    cases e1 : a.flat? with
    | none => rw [e1] at h; cases h
    | some v =>
      cases e2 : mapAll D.flat? ds with
      | none => rw [e1, e2] at h; cases h
      | some ws =>
        rw [e1, e2] at h
        cases h
        obtain ⟨k1, k2⟩ := flat_ok a v x e1 ra
        obtain ⟨k3, k4⟩ := flats_ok e2 hr
        rw [k3, ← k1]
        exact ⟨k2, k4, rfl⟩
  cases rb with
  | str z =>
    cases ra with
    | str u =>
      have h2 : (match u.cps.toList with | [c] => some (decide (c ∈ z.cps.toList)) | _ => none) = some k := h
      split at h2
      · rename_i c e
        cases h2
        refine .inl ⟨c, z, ?_, rfl, rfl⟩
        have : u = ⟨#[c]⟩ := by
          obtain ⟨cs⟩ := u
          have e' : cs.toList = [c] := e
          congr 1
          apply Array.ext'
          exact e'
        rw [this]
      · cases h2
    | _ => cases h
  | lst hs hr =>
    have h2 := seq hr (by cases ra <;> exact h)
    exact .inr ⟨_, _, rfl, .inl hs, h2⟩
  | tup hs hr =>
    have h2 := seq hr (by cases ra <;> exact h)
    exact .inr ⟨_, _, rfl, .inr hs, h2⟩
  | _ => cases ra <;> cases h
theorem inD' : OpR X (compareOp .In) (rD2 X.K gIn) := OpR.imp (OpR.or op_in_sign op_in_seq) fun x y H Q ⟨F, a, b, r, e, ra, rb, hg, q⟩ => by
  obtain ⟨k, hk, rfl⟩ := Option.map_eq_some_iff.mp hg
  rcases inD_ok ra rb hk with ⟨c, z, rfl, rfl, rfl⟩ | ⟨p, xs, rfl, hs, f1, f2, rfl⟩
  · exact .inl ⟨c, z, rfl, rfl, q _ F H Grow.refl e (.bl _)⟩
  · exact .inr ⟨p, xs, rfl, hs.imp (Same.seq e) (same_seqT e), f1, f2, q _ F H Grow.refl e (.bl _)⟩
theorem notInD : OpR X (compareOp .NotIn) (rD2 X.K gNotIn) := OpR.imp (OpR.or op_notIn_sign op_notIn_seq) fun x y H Q ⟨F, a, b, r, e, ra, rb, hg, q⟩ => by
  obtain ⟨k, hk, rfl⟩ := Option.map_eq_some_iff.mp hg
  rcases inD_ok ra rb hk with ⟨c, z, rfl, rfl, rfl⟩ | ⟨p, xs, rfl, hs, f1, f2, rfl⟩
  · exact .inl ⟨c, z, rfl, rfl, q _ F H Grow.refl e (.bl _)⟩
  · exact .inr ⟨p, xs, rfl, hs.imp (Same.seq e) (same_seqT e), f1, f2, q _ F H Grow.refl e (.bl _)⟩
end

/-! ### methods of built-in types -/
def ofTy : String → D → Bool
  | "str", .str _ => true
  | "list", .lst _ => true
  | _, _ => false
def mMt (T : String) (g : D → List D → Option RV) (m : M) (ms : MA) : M := fun ρ => (m ρ).bind fun a ρ1 => if ofTy T a.d = true then (ms ρ1).bind fun ds ρ2 => optR (g a.d ds) ρ2 else .no
def rDM (K : PySem.W.Frag) (g : D → List D → Option RV) : V → List V → Hp → VK → Prop := fun x xs H Q => ∃ F a ds r, Same F H ∧ Rep K F a x ∧ Reps K F ds xs ∧ g a ds = some r ∧ ∀ z F' H', Gr F H F' H' → Same F' H' → RepV K H F' H' r z → Q z H'
def joinS (a : Str) (ys : List Str) : Option RV := if (ys.map (·.length)).sum + ys.length * a.length ≤ top1 then vs (Txt.join a ys) else none
def gJoin : D → List D → Option RV
  | .str a, [.lst ds] => (mapAll D.str? ds).bind (joinS a)
  | .str a, [.tup ds] => (mapAll D.str? ds).bind (joinS a)
  | _, _ => none
section
variable {K : PySem.W.Frag} {W : WX} {σ : L2.St} {ρ : En} {H : Hp} {Q : VK}
theorem ofTy_ok {T : String} {F : Hp} {d : D} {v : V} (e : Same F H) (r : Rep K F d v) (h : ofTy T d = true) : tyV K T v H := by
  unfold ofTy at h
  split at h
  · cases r; rfl
  · cases r with
    | lst hs hr => exact .inl ⟨rfl, _, Same.seq e hs⟩
  · cases h
theorem mt_imp {T : String} {g : D → List D → Option RV} {m : M} {ms : MA} (h : tE K W ρ (mMt T g m ms ρ) σ H Q) : tBM K T (rDM K g) (tE K W ρ (m ρ)) (tA K W (m ρ).env (ms (m ρ).env)) σ H Q := by
  obtain ⟨F, s, h⟩ := h
  refine ⟨F, s, Post.bindD (k := fun a ρ1 => if ofTy T a = true then (ms ρ1).bind fun ds ρ2 => optR (g a ds) ρ2 else .no) s h repV_back fun d ρ1 v F1 H1 e1 g1 s1 sh1 r1 h1 => ?_⟩
  by_cases c : ofTy T d = true
  · rw [if_pos c] at h1
    rw [e1]
    refine ⟨ofTy_ok s1.same r1 c, F1, s1, Post.bind (k := fun ds ρ2 => optR (g d ds) ρ2) h1 repV_back fun ds ρ2 vs F2 H2 e2 _ g2 s2 sh2 r2 h2 => ?_⟩
    obtain ⟨a, e, h3⟩ := h2.optR
    exact ⟨F2, d, ds, a, s2.same, r1.mono g2.ff, r2, e, fun z F' H' g' e' q => Post.fin s2 h3 g' e' q⟩
  · rw [if_neg c] at h1; exact h1.elim
end
section
variable {X : Cx} {W : WX} {o e : Expr} {es : List Expr} {m : M} {ms : MA} {name : Str} {apos cpos : Pos} {T id : String} {g : D → List D → Option RV}
theorem px_bm (pa : PlainAttrs T) (slot : Slot T name id) (hty : typeOf (.builtin id) = pure (.type "method_descriptor")) (hm : MtR X id (rDM X.K g)) (ho : PX X W o m) (ha : PXA X W (e :: es) ms)
    (hbase : attributeBase o name X.env (eval o X.env) = eval o X.env := by rfl)
    (hfew : ((backTo cpos (starEach (e :: es) X.env)).all (fun x => !x.1) && (backToKw cpos (keywordEach [] X.env)).all (fun x => x.1.isSome)
      && decide ((e :: es).length + ([] : List Keyword).length + (if ([] : List Keyword).isEmpty then 0 else 1) < 30)) = true := by rfl)
    (hline : (apos.endLine == cpos.line) = true := by rfl) (hs : starEach (e :: es) X.env = (false, eval e X.env) :: starEach es X.env := by rfl) (hplain : (backTo cpos (starEach es X.env)).any (·.1) = false := by rfl) :
    PX X W (.Call (.Attribute o name apos) (e :: es) [] cpos) (mMt T g m ms) := ⟨fun ρ => PE.imp (pe_bm pa slot hty hm (ho.run ρ) (ha.run _) hbase hfew hline hs hplain) fun _ _ _ h => mt_imp h⟩
theorem joinD : MtR X "str.join" (rDM X.K gJoin) := MtR.imp mt_join fun x xs H Q ⟨F, a, ds, r, e, ra, rs, hg, q⟩ => by
  have fin : ∀ {a : Str} {ys : List Str}, joinS a ys = some r → (ys.map (·.length)).sum + ys.length * a.length ≤ 16777216 ∧ Q (.str (Txt.join a ys)) H := fun {a ys} h => by
    unfold joinS at h
    by_cases c : (ys.map (·.length)).sum + ys.length * a.length ≤ top1
    · rw [if_pos c] at h; cases h; exact ⟨Nat.le_trans c (by decide), q _ F H Grow.refl e (.str _)⟩
    · rw [if_neg c] at h; cases h
  match a, x, ra, ds, xs, rs, hg with
  | .str a, _, .str _, [.lst ds], _, .cons (.lst (a := p) hs hr) .nil, hg =>
    have h2 : (mapAll D.str? ds).bind (joinS a) = some r := hg
    obtain ⟨ys, e1, e2⟩ := Option.bind_eq_some_iff.mp h2
    rw [mapAll_ok str_ok e1 hr] at hs
    exact ⟨a, p, ys, rfl, rfl, .inl (Same.seq e hs), fin e2⟩
  | .str a, _, .str _, [.tup ds], _, .cons (.tup (a := p) hs hr) .nil, hg =>
    have h2 : (mapAll D.str? ds).bind (joinS a) = some r := hg
    obtain ⟨ys, e1, e2⟩ := Option.bind_eq_some_iff.mp h2
    rw [mapAll_ok str_ok e1 hr] at hs
    exact ⟨a, p, ys, rfl, rfl, .inr (same_seqT e hs), fin e2⟩
theorem px_join (ho : PX X W o m) (ha : PXA X W [e] ms) (hbase : attributeBase o "join" X.env (eval o X.env) = eval o X.env := by rfl)
    (hfew : ((backTo cpos (starEach [e] X.env)).all (fun x => !x.1) && (backToKw cpos (keywordEach [] X.env)).all (fun x => x.1.isSome)
      && decide ([e].length + ([] : List Keyword).length + (if ([] : List Keyword).isEmpty then 0 else 1) < 30)) = true := by rfl)
    (hline : (apos.endLine == cpos.line) = true := by rfl) (hs : starEach [e] X.env = (false, eval e X.env) :: starEach [] X.env := by rfl) : PX X W (.Call (.Attribute o "join" apos) [e] [] cpos) (mMt "str" gJoin m ms) :=
  px_bm PySem.F.plainAttrs_str PySem.F.slot_str_join PySem.F.type_str_join joinD ho ha hbase hfew hline hs (by rfl)
end

/-! ### f-strings -/
def gFmt : D → Option RV
  | .str y => if y.length ≤ top1 then vs y else none
  | .int i => if i.natAbs.log2 < 1920 then vs (toString i) else none
  | _ => none
def gFmtR : D → Option RV
  | .str y => if (reprText y).length ≤ top1 then vs (reprText y) else none
  | .int i => if i.natAbs.log2 < 1920 then vs (toString i) else none
  | _ => none
def mJs : List M → Str → En → Res RV
  | [], acc, ρ => .ok (.val (.str acc)) ρ
  | m :: ms, acc, ρ => (m ρ).bind fun a ρ1 => match a.d with
    | .str y => if (acc ++ y).length ≤ top1 then mJs ms (acc ++ y) ρ1 else .no
    | _ => .no
def mJ (ms : List M) : M := fun ρ => mJs ms Str.empty ρ
inductive PXJ (X : Cx) (W : WX) : List Expr → List M → Prop where
  | nil : PXJ X W [] []
  | cons {e : Expr} {m : M} {es : List Expr} {ms : List M} (h : PX X W e m) (r : PXJ X W es ms) : PXJ X W (e :: es) (m :: ms)
section
variable {X : Cx} {W : WX} {e : Expr} {m : M} {pos : Pos}
theorem px_fmt (he : PX X W e m) : PX X W (.FormattedValue e (-1) none pos) (mUn gFmt m) := ⟨fun ρ => PE.imp (pe_fmt (he.run ρ)) fun σ H Q h => by
  obtain ⟨F, s, h⟩ := un_imp h
  refine ⟨F, s, ?_⟩
  cases em : m ρ with
  | no => rw [em] at h; exact h
  | er x ρ1 => rw [em] at h; exact h
  | ok a ρ1 =>
    rw [em] at h
    refine fun v F1 H1 g s1 sh r => ?_
    obtain ⟨F2, d, rv, e2, rd, hg, q⟩ := h v F1 H1 g s1 sh r
    cases rd with
    | str y =>
      have h2 : (if y.length ≤ top1 then PD.vs y else none) = some rv := hg
      by_cases c : y.length ≤ top1
      · rw [if_pos c] at h2; cases h2; exact .inl ⟨y, rfl, top1_le c, q _ F2 H1 Grow.refl e2 (.str _)⟩
      · rw [if_neg c] at h2; cases h2
    | int i =>
      have h2 : (if i.natAbs.log2 < 1920 then PD.vs (toString i) else none) = some rv := hg
      by_cases c : i.natAbs.log2 < 1920
      · rw [if_pos c] at h2; cases h2; exact .inr ⟨i, rfl, c, q _ F2 H1 Grow.refl e2 (.str _)⟩
      · rw [if_neg c] at h2; cases h2
    | _ => cases hg⟩
theorem px_fmtR (he : PX X W e m) : PX X W (.FormattedValue e 114 none pos) (mUn gFmtR m) := ⟨fun ρ => PE.imp (pe_fmtR (he.run ρ)) fun σ H Q h => by
  obtain ⟨F, s, h⟩ := un_imp h
  refine ⟨F, s, ?_⟩
  cases em : m ρ with
  | no => rw [em] at h; exact h
  | er x ρ1 => rw [em] at h; exact h
  | ok a ρ1 =>
    rw [em] at h
    refine fun v F1 H1 g s1 sh r => ?_
    obtain ⟨F2, d, rv, e2, rd, hg, q⟩ := h v F1 H1 g s1 sh r
    cases rd with
    | str y =>
      have h2 : (if (reprText y).length ≤ top1 then PD.vs (reprText y) else none) = some rv := hg
      by_cases c : (reprText y).length ≤ top1
      · rw [if_pos c] at h2; cases h2; exact .inl ⟨y, rfl, top1_le c, q _ F2 H1 Grow.refl e2 (.str _)⟩
      · rw [if_neg c] at h2; cases h2
    | int i =>
      have h2 : (if i.natAbs.log2 < 1920 then PD.vs (toString i) else none) = some rv := hg
      by_cases c : i.natAbs.log2 < 1920
      · rw [if_pos c] at h2; cases h2; exact .inr ⟨i, rfl, c, q _ F2 H1 Grow.refl e2 (.str _)⟩
      · rw [if_neg c] at h2; cases h2
    | _ => cases hg⟩
def jTs (K : PySem.W.Frag) (W : WX) : List M → List TE
  | [] => []
  | m :: ms => (fun σ H Q => ∃ ρ', tE K W ρ' (m ρ') σ H Q) :: jTs K W ms
theorem pxj_pj : ∀ {es : List Expr} {ms : List M}, PXJ X W es ms → PJ X es (jTs X.K W ms)
  | _, _, .nil => .nil
  | _, _, .cons h r => .cons h.ex (pxj_pj r)
theorem js_imp {K : PySem.W.Frag} {σ : L2.St} {Q : VK} : ∀ (ms : List M) (acc : Str) (ρ : En) (F H : Hp), StOk K F H σ ρ → Post K W (RepV K) σ ρ F H (mJs ms acc ρ) Q → tJs (jTs K W ms) acc σ H fun out H1 => Q (.str out) H1
  | [], acc, ρ, F, H, s, h => h _ F H Grow.refl s rfl (.str acc)
  | m :: ms, acc, ρ, F, H, s, h => by
    refine ⟨ρ, F, s, Post.bindD (k := fun a ρ1 => match a with | .str y => if (acc ++ y).length ≤ top1 then mJs ms (acc ++ y) ρ1 else .no | _ => .no) s h repV_back fun d ρ1 v F1 H1 e1 g1 s1 sh1 r1 h1 => ?_⟩
    cases r1 with
    | str y =>
      have h2 : Post K W (RepV K) σ ρ1 F1 H1 (if (acc ++ y).length ≤ top1 then mJs ms (acc ++ y) ρ1 else .no) Q := h1
      by_cases c : (acc ++ y).length ≤ top1
      · rw [if_pos c] at h2
        exact ⟨y, rfl, top1_le c, js_imp ms (acc ++ y) ρ1 F1 H1 s1 h2⟩
      · rw [if_neg c] at h2; exact h2.elim
    | _ => exact h1.elim
theorem px_joined {v1 v2 : Expr} {rest : List Expr} {ms : List M} (h : PXJ X W (v1 :: v2 :: rest) ms) : PX X W (.JoinedStr (v1 :: v2 :: rest) pos) (mJ ms) := ⟨fun ρ => PE.imp (pe_joined (pxj_pj h)) fun σ H Q ⟨F, s, h⟩ => js_imp ms Str.empty ρ F H s h⟩
theorem px_joined1 (he : PX X W e m) : PX X W (.JoinedStr [e] pos) m := ⟨fun ρ => pe_joined1 (he.run ρ)⟩
end
end PD
end
section
set_option Elab.async false
set_option linter.all false
set_option maxRecDepth 100000
set_option maxHeartbeats 2000000
namespace PD
open PySem PySem.Spec PyProof.Rows L2

section
variable {K : PySem.W.Frag} {W : WX} {n : Nat} {σ : L2.St} {ρ : En} {F H : Hp}
/-- an own list is written -/
theorem StOk.write {i : Nat} {a : Addr} {l l' : OC} {ws : HO} (s : StOk K F H σ ρ) (hi : ρ[i]? = some (.own l)) (ha : σ[i]? = some (some (.ref a))) (r : OcOk K F l' ws) :
    StOk K F (upd H a ws) σ (ρ.set i (.own l')) ∧ GrowS n σ ρ F H σ (ρ.set i (.own l')) F (upd H a ws) := by
  obtain ⟨vs, q1, q2⟩ := s.own_at ⟨i, l, hi, ha⟩
  have g : Grow (fun b => b = a) F H F (upd H a ws) := ⟨Same.refl _, fun b o h n => by rw [upd_ne n]; exact h, fun b h => by
      by_cases c : b = a
      · rw [c, upd_same]; exact fun z => nomatch z
      · rw [upd_ne c]; exact h, fun b _ h => h⟩
  have e : Same F (upd H a ws) := fun b o h => by rw [upd_ne (ne_of_none h q2)]; exact s.same b o h
  have s' := s.setOwn hi ha g e upd_same r
  refine ⟨s', g.imp fun b z => ⟨i, l, hi, by rw [z]; exact ha⟩, fun b z => .inl ((own_shape (shape_set (s' := .own l') hi rfl)).mp z), fun j k _ h => ⟨rfl, ?_⟩⟩
  exact shape_own (shape_set (s' := .own l') hi rfl) h
end

/-! ### own lists: made, read, stored, appended to -/
/-- name = a list just made: the name's own -/
def mSetO (i : Nat) (m : M) : MS := fun ρ => match m ρ with
  | .ok (.fr ds) ρ1 => (match ρ1[i]? with
    | some (.own _) => .no
    | some _ => .nx (ρ1.set i (.own ds))
    | none => .no)
  | .er x ρ1 => .er x ρ1
  | _ => .no
def mIxO (i : Nat) (m : M) : M := fun ρ => match ρ[i]? with
  | some (.own _) => (m ρ).bind fun a ρ1 => match ρ1[i]?, a.d with
    | some (.own (.lst ds)), .int k => optR ((atI ds k).map .val) ρ1
    | _, _ => .no
  | _ => .no
def gSubO (i : Nat) (m : M) : MG := fun d ρ => match ρ[i]? with
  | some (.own _) => (match m ρ with
    | .ok a ρ1 => (match ρ1[i]?, a.d with
      | some (.own (.lst ds)), .int k => (match ixN ds.length k with
        | some j => some (ρ1.set i (.own (.lst (ds.set j d))))
        | none => none)
      | _, _ => none)
    | _ => none)
  | _ => none
def mAppO (i : Nat) (m : M) : MS := fun ρ => match ρ[i]? with
  | some (.own (.lst _)) => (m ρ).toS fun a ρ1 => (match ρ1[i]? with
    | some (.own (.lst ds)) => if ds.length < top1 then .nx (ρ1.set i (.own (.lst (ds ++ [a.d])))) else .no
    | _ => .no)
  | _ => .no
/-- an operation whose left side is an own list, its answer a flat value -/
def RV.isFlat : RV → Bool
  | .val d => (d.flat?).isSome
  | .fr _ => false
def mOpO (g : D → D → Option RV) (i : Nat) (mb : M) : M := fun ρ => match ρ[i]? with
  | some (.own _) => (mb ρ).bind fun b ρ1 => match ρ1[i]? with
    | some (.own oc) => (match g oc.d b.d with
      | some r => if r.isFlat = true then .ok r ρ1 else .no
      | none => .no)
    | _ => .no
  | _ => .no
/-- a built-in's call with an own list alone -/
def mBO (g : List D → Option RV) (i : Nat) : M := fun ρ => match ρ[i]? with
  | some (.own oc) => (match g [oc.d] with
    | some r => if r.isFlat = true then .ok r ρ else .no
    | none => .no)
  | _ => .no

section
variable {K : PySem.W.Frag} {W : WX} {n : Nat} {σ : L2.St} {ρ : En} {F H : Hp}
theorem own_of {i : Nat} {α : Type} {k : OC → α} {no : α} {P : α → Prop} (h : P (match ρ[i]? with | some (.own l) => k l | _ => no)) (hn : ¬ P no) : ∃ l, ρ[i]? = some (.own l) ∧ P (k l) := by
  cases e : ρ[i]? with
  | none => rw [e] at h; exact absurd h hn
  | some s =>
    rw [e] at h
    cases s with
    | own l => exact ⟨l, rfl, h⟩
    | emp => exact absurd h hn
    | val d => exact absurd h hn
/-- an own thing for the time of one operation -/
theorem lend {a : Addr} {oc : OC} {u : HO} (s : StOk K F H σ ρ) (ha : H a = some u) (hf : F a = none) (r : OcOk K F oc u) : Same F (upd F a u) ∧ Same (upd F a u) H ∧ Rep K (upd F a u) oc.d (.ref a) := by
  have ff : Same F (upd F a u) := fun b o h => by rw [upd_ne (ne_of_none h hf)]; exact h
  refine ⟨ff, fun b o h => ?_, OcOk.rep upd_same (r.mono ff)⟩
  by_cases c : b = a
  · subst c; rw [upd_same] at h; cases h; exact ha
  · rw [upd_ne c] at h; exact s.same b o h
/-- an own list -/
theorem own_list {i : Nat} {l : List D} (s : StOk K F H σ ρ) (hi : ρ[i]? = some (.own (.lst l))) : ∃ a vs, σ[i]? = some (some (.ref a)) ∧ H a = some (.lst vs) ∧ F a = none ∧ Reps K F l vs := by
  obtain ⟨a, u, h1, h2, h3, h4⟩ := s.own_slot hi
  cases u with
  | lst vs => exact ⟨a, vs, h1, h2, h3, h4⟩
  | _ => exact h4.elim
theorem flat_back {F2 H2 H3 F4 : Hp} {r : RV} {z : V} (h : r.isFlat = true) (q : RepV K H2 F2 H3 r z) : RepV K H2 F4 H3 r z := by
  cases r with
  | fr ds => cases h
  | val d => cases q <;> first | exact .non | exact .bl _ | exact .int _ | exact .str _ | cases h
/-- behind the operation: the state is as it was, the heap has grown -/
theorem lend_back {F2 F3 H3 : Hp} (s : StOk K F H σ ρ) (f : Same F F2) (g : Gr F2 H F3 H3) : Gr F H F H3 ∧ Same F H3 := ⟨⟨Same.refl _, g.hh, g.ht, fun _ _ h => h⟩, fun b o h => g.same _ _ (s.same b o h)⟩
end
section
variable {X : Cx} {W : WX} {n : Nat} {pos p2 pos' apos cpos : Pos} {e b : Expr} {m mb : M} {x : Str} {i : Nat}
theorem setO_imp {K : PySem.W.Frag} {ρ : En} {D : Ends} {σ : L2.St} {H : Hp} (h : tS K W n ρ (mSetO i m ρ) D σ H) : tAsg (tE K W ρ (m ρ)) (gName i) D σ H := by
  obtain ⟨F, s, h⟩ := h
  refine ⟨F, s, ?_⟩
  unfold mSetO at h
  cases em : m ρ with
  | no => rw [em] at h; exact h
  | er x ρ1 => rw [em] at h; exact fun c d F1 H1 g s1 sh q => h c d σ F1 H1 (.ofE g sh) s1 q
  | ok a ρ1 =>
    rw [em] at h
    cases a with
    | val d => exact h.elim
    | fr ds =>
      have h2 : PostS K W n D σ ρ F H (match ρ1[i]? with | some (.own _) => .no | some _ => .nx (ρ1.set i (.own ds)) | none => .no) := h
      obtain ⟨o, ei, ho, h3⟩ : ∃ o, ρ1[i]? = some o ∧ o.isOwn = false ∧ PostS K W n D σ ρ F H (.nx (ρ1.set i (.own ds))) := by
        cases ei : ρ1[i]? with
        | none => rw [ei] at h2; exact h2.elim
        | some o =>
          rw [ei] at h2
          cases o with
          | own l => exact h2.elim
          | emp => exact ⟨_, rfl, rfl, h2⟩
          | val d => exact ⟨_, rfl, rfl, h2⟩
      rintro v F1 H1 g s1 sh ⟨p, vs, rfl, hp, fp, hp', r⟩
      have hlt := (List.getElem?_eq_some_iff.mp ei).1
      have ne : ∀ {j : Nat} {l}, ρ1[j]? = some (Sl.own l) → i ≠ j := fun {j l} h c => by
        subst c
        rw [ei] at h
        cases h
        cases ho
      have fresh : ∀ {b}, Own σ ρ1 b → b ≠ p := fun {b} ob c => by
        obtain ⟨ws, q1, _⟩ := s.own_at ((own_shape sh).mp ob)
        rw [c, hp] at q1; cases q1
      refine h3 (σ.set i (some (.ref p))) F1 H1 ⟨g, fun b ⟨j, l, q1, q2⟩ => ?_, fun j l hj q => ?_⟩ ⟨s1.same, by rw [List.length_set, List.length_set]; exact s1.len, fun j y sl q1 q2 => ?_, fun j j' b d1 d2 q1 q2 q3 q4 => ?_⟩
      · by_cases c : i = j
        · subst c
          rw [List.getElem?_set_self (by rw [s1.len]; exact hlt)] at q2
          cases q2
          exact .inr hp
        · rw [List.getElem?_set_ne c] at q1 q2
          exact .inl ((own_shape sh).mp ⟨j, l, q1, q2⟩)
      · obtain ⟨l', q'⟩ := shape_own sh q
        have c := ne q'
        exact ⟨by rw [List.getElem?_set_ne c], l', by rw [List.getElem?_set_ne c]; exact q'⟩
      · by_cases c : i = j
        · subst c
          rw [List.getElem?_set_self hlt] at q2
          rw [List.getElem?_set_self (by rw [s1.len]; exact hlt)] at q1
          cases q1; cases q2
          exact ⟨p, vs, rfl, hp', fp, r⟩
        · rw [List.getElem?_set_ne c] at q1 q2
          exact s1.sl j y sl q1 q2
      · have key : ∀ {j j' : Nat} {d1 d2}, (ρ1.set i (Sl.own ds))[j]? = some (Sl.own d1) → (ρ1.set i (Sl.own ds))[j']? = some (Sl.own d2) → (σ.set i (some (V.ref p)))[j]? = some (some (V.ref b)) → (σ.set i (some (V.ref p)))[j']? = some (some (V.ref b)) → i = j → j = j' := fun {j j' d1 d2} q1 q2 q3 q4 c => by
          subst c
          rw [List.getElem?_set_self (by rw [s1.len]; exact hlt)] at q3
          cases q3
          by_cases c2 : i = j'
          · exact c2
          · rw [List.getElem?_set_ne c2] at q2 q4
            exact absurd rfl (fresh ⟨j', d2, q2, q4⟩)
        by_cases c : i = j
        · exact key q1 q2 q3 q4 c
        · by_cases c2 : i = j'
          · exact (key q2 q1 q4 q3 c2).symm
          · rw [List.getElem?_set_ne c] at q1 q3
            rw [List.getElem?_set_ne c2] at q2 q4
            exact s1.inj j j' b d1 d2 q1 q2 q3 q4
theorem p1_setO (hN : X.N.Nodup) (he : PX X W e m) (hi : X.N[i]? = some x := by rfl) (hx : Loc X.env.scope x := by first | exact .inl rfl | exact .inr rfl) (hs : swapsWith e (some (.Name x pos')) pos.line X.env = pure false := by rfl)
    (hf : X.fn x = true ∨ X.env.scope.names.lookup x = some .local := by first | exact .inl rfl | exact .inr rfl) : P1 X W n (.Assign [.Name x pos'] e pos) (mSetO i m) := ⟨fun ρ => PS.imp (ps_set hN hi hx (he.run ρ) hs hf) fun _ _ _ h => setO_imp h⟩

/-- x[e], x an own list -/
theorem px_ixO (hb : PX X W b mb) (hN : X.N[i]? = some x := by rfl) (hv : Vis X.env.scope x := by first | exact Or.inl rfl | exact Or.inr (Or.inl rfl) | exact Or.inr (Or.inr rfl)) (hd : (x == ("__debug__" : Str)) = false := by decide)
    (hcd : (x == ("__classdict__" : Str)) = false := by decide) (hs : PlainIx b := by intro _ _; rfl) : PX X W (.Subscript (.Name x p2) b pos) (mIxO i mb) := ⟨fun ρ => PE.imp (pe_ix ix_list (pv i hN hv hd hcd) (hb.run ρ) hs) fun σ H Q ⟨F, s, h⟩ => by
  unfold mIxO at h
  obtain ⟨l, ei, h⟩ := own_of (P := fun r => Post X.K W (RepV X.K) σ ρ F H r Q) h (fun z => z)
  obtain ⟨a, vs0, ha, hH, hF, hR⟩ := s.own_slot ei
  refine ⟨.ref a, ha, F, s, Post.bindD (k := fun a ρ1 => match ρ1[i]?, a with | some (.own (.lst ds)), .int k => optR ((atI ds k).map .val) ρ1 | _, _ => .no) s h repV_back fun d ρ1 v F1 H1 e1 g1 s1 sh1 r1 h1 => ?_⟩
  obtain ⟨l1, ei1⟩ := shape_own sh1 ei
  rw [ei1] at h1
  cases l1 with
  | ins c ns ds => cases r1 <;> exact False.elim h1
  | dct ks ds => cases r1 <;> exact False.elim h1
  | lst l1 =>
    obtain ⟨a1, ls, ha1, hH1, hF1, hR1⟩ := own_list s1 ei1
    rw [ha] at ha1
    cases ha1
    cases r1 with
    | int k =>
      obtain ⟨rv, e, h2⟩ := Post.optR (r := (atI l1 k).map RV.val) h1
      obtain ⟨d, e2, rfl⟩ := Option.map_eq_some_iff.mp e
      obtain ⟨w, e3, rw'⟩ := atI_reps hR1 e2
      exact ⟨a, ls, k, w, rfl, rfl, SqL.of hH1, e3, h2 w F1 H1 Grow.refl s1 rfl rw'⟩
    | _ => exact False.elim h1⟩
theorem pxg_subO (hb : PX X WF b mb) (hN : X.N[i]? = some x := by rfl) (hv : Vis X.env.scope x := by first | exact Or.inl rfl | exact Or.inr (Or.inl rfl) | exact Or.inr (Or.inr rfl)) (hd : (x == ("__debug__" : Str)) = false := by decide)
    (hcd : (x == ("__classdict__" : Str)) = false := by decide) (ha : ∀ v, assign (.Subscript (.Name x p2) b pos) X.env v = (do
      let ov ← holding [v] (eval (.Name x p2) X.env)
      let iv ← holding [v, ov] (eval b X.env)
      standAt pos
      holding [v, ov, iv] (setItem ov iv v)
      release [v, ov, iv] []) := by intro _; rfl) : PXG X n (.Subscript (.Name x p2) b pos) (gSubO i mb) := ⟨⟨fun pins s σ H v u Q I r h => by
  obtain ⟨F, ρ, d, ρ', st, rd, hg, q⟩ := h
  unfold gSubO at hg
  obtain ⟨l, ei, hg⟩ := own_of (P := fun r => r = some ρ') hg (fun z => nomatch z)
  obtain ⟨a, vs0, ha0, hH, hF, hR⟩ := st.own_slot ei
  cases em : mb ρ with
  | no => rw [em] at hg; cases hg
  | er y ρ1 => rw [em] at hg; cases hg
  | ok ra ρ1 =>
    rw [em] at hg
    refine (pg_sub (pos := pos) (pv i hN hv hd hcd) (hb.run ρ) set_list ha).run pins s σ H v u Q I r ⟨.ref a, ha0, F, st, ?_⟩
    rw [em]
    intro w F1 H1 g1 s1 sh1 q1
    obtain ⟨l1, ei1⟩ := shape_own sh1 ei
    have hg2 : (match ρ1[i]?, ra.d with | some (.own (.lst ds)), .int k => (match ixN ds.length k with | some j => some (ρ1.set i (.own (.lst (ds.set j d)))) | none => none) | _, _ => none) = some ρ' := hg
    rw [ei1] at hg2
    cases l1 with
    | ins c ns ds => cases hr : ra.d <;> rw [hr] at hg2 <;> cases hg2
    | dct ks ds => cases hr : ra.d <;> rw [hr] at hg2 <;> cases hg2
    | lst l1 =>
      obtain ⟨a1, ls, ha1, hH1, hF1, hR1⟩ := own_list s1 ei1
      rw [ha0] at ha1
      cases ha1
      cases ra with
      | fr oc => cases oc <;> cases hg2
      | val d0 =>
        cases q1 with
        | int k =>
          have hg3 : (match ixN l1.length k with | some j => some (ρ1.set i (.own (.lst (l1.set j d)))) | none => none) = some ρ' := hg2
          cases ej : ixN l1.length k with
          | none => rw [ej] at hg3; cases hg3
          | some j =>
            rw [ej] at hg3
            cases hg3
            obtain ⟨k1, k2⟩ := s1.write (n := n) (l' := .lst (l1.set j d)) (ws := .lst (ls.set j v)) ei1 ha0 (hR1.set j (rd.mono g1.ff))
            exact ⟨a, ls, k, j, rfl, rfl, hH1, by rw [← Reps.length hR1]; exact ej, q σ F1 _ ((GrowS.ofE g1 sh1).trans k2) k1⟩
        | _ => cases hg2⟩⟩
/-- x.append(e), x an own list, a statement of its own -/
theorem p1_append (ho : PX X W e m) (hN : X.N[i]? = some x := by rfl) (hv : Vis X.env.scope x := by first | exact Or.inl rfl | exact Or.inr (Or.inl rfl) | exact Or.inr (Or.inr rfl)) (hd : (x == ("__debug__" : Str)) = false := by decide)
    (hcd : (x == ("__classdict__" : Str)) = false := by decide) (hbase : attributeBase (.Name x p2) "append" X.env (eval (.Name x p2) X.env) = eval (.Name x p2) X.env := by rfl)
    (hfew : ((backTo cpos (starEach [e] X.env)).all (fun x => !x.1) && (backToKw cpos (keywordEach [] X.env)).all (fun x => x.1.isSome)
      && decide ([e].length + ([] : List Keyword).length + (if ([] : List Keyword).isEmpty then 0 else 1) < 30)) = true := by rfl)
    (hline : (apos.endLine == cpos.line) = true := by rfl) (hs : starEach [e] X.env = (false, eval e X.env) :: starEach [] X.env := by rfl) (hsw : swapsWith (.Call (.Attribute (.Name x p2) "append" apos) [e] [] cpos) none pos.line X.env = pure false := by rfl) :
    P1 X W n (.Expr (.Call (.Attribute (.Name x p2) "append" apos) [e] [] cpos) pos) (mAppO i m) := ⟨fun ρ => PS.imp (ps_expr (pe_bm PySem.F.plainAttrs_list PySem.F.slot_list_append PySem.F.type_list_append mt_append (pv i hN hv hd hcd) (pa_cons (ho.run ρ) pa_nil hs) hbase hfew hline hs (by rfl)) hsw) fun D σ H ⟨F, s, h⟩ => by
  unfold mAppO at h
  obtain ⟨l, ei, h⟩ : ∃ l, ρ[i]? = some (.own (.lst l)) ∧ PostS X.K W n D σ ρ F H ((m ρ).toS fun a ρ1 => (match ρ1[i]? with
    | some (.own (.lst ds)) => if ds.length < top1 then .nx (ρ1.set i (.own (.lst (ds ++ [a.d])))) else .no
    | _ => .no)) := by
    cases e : ρ[i]? with
    | none => rw [e] at h; exact h.elim
    | some sl =>
      rw [e] at h
      cases sl with
      | emp => exact h.elim
      | val d => exact h.elim
      | own oc => cases oc with
        | lst l => exact ⟨l, rfl, h⟩
        | ins _ _ _ => exact h.elim
        | dct _ _ => exact h.elim
  obtain ⟨a, u0, ha, hH, hF, hR⟩ := s.own_slot ei
  cases u0 with
  | lst vs0 =>
    refine ⟨.ref a, ha, .inl ⟨rfl, _, SqL.of hH⟩, F, s, PostS.bindD (k := fun a ρ1 => match ρ1[i]? with | some (.own (.lst ds)) => if ds.length < top1 then .nx (ρ1.set i (.own (.lst (ds ++ [a])))) else .no | _ => .no) s h fun d ρ1 v F1 H1 e1 g1 s1 sh1 r1 h1 => ?_⟩
    obtain ⟨l1, ei1⟩ := shape_own sh1 ei
    rw [ei1] at h1
    cases l1 with
    | ins c ns ds => exact False.elim h1
    | dct ks ds => exact False.elim h1
    | lst l1 =>
      have h2 : PostS X.K W n D σ ρ1 F1 H1 (if l1.length < top1 then .nx (ρ1.set i (.own (.lst (l1 ++ [d])))) else .no) := h1
      obtain ⟨a1, ls, ha1, hH1, hF1, hR1⟩ := own_list s1 ei1
      rw [ha] at ha1
      cases ha1
      by_cases c : l1.length < top1
      · rw [if_pos c] at h2
        obtain ⟨k1, k2⟩ := s1.write (n := n) (l' := .lst (l1 ++ [d])) (ws := .lst (ls ++ [v])) ei1 ha (hR1.append (.cons r1 .nil))
        exact ⟨a, ls, v, rfl, rfl, hH1, top1_lt (by rw [← Reps.length hR1]; exact Nat.le_of_lt c), h2 σ F1 _ k2 k1⟩
      · rw [if_neg c] at h2; exact h2.elim
  | _ => exact hR.elim⟩
theorem opO_imp {K : PySem.W.Frag} {σ : L2.St} {ρ : En} {H : Hp} {Q : VK} {g : D → D → Option RV} (h : tE K W ρ (mOpO g i mb ρ) σ H Q) : tOp (rD2 K g) (tVar i) (tE K W ρ (mb ρ)) σ H Q := by
  obtain ⟨F, s, h⟩ := h
  unfold mOpO at h
  obtain ⟨l, ei, h⟩ := own_of (P := fun r => Post K W (RepV K) σ ρ F H r Q) h (fun z => z)
  obtain ⟨a, vs0, ha, hH, hF, hR⟩ := s.own_slot ei
  refine ⟨.ref a, ha, F, s, Post.bindD (k := fun b ρ1 => match ρ1[i]? with | some (.own oc) => (match g oc.d b with | some r => if r.isFlat = true then .ok r ρ1 else .no | none => .no) | _ => .no) s h repV_back fun d ρ1 v F1 H1 e1 g1 s1 sh1 r1 h1 => ?_⟩
  obtain ⟨l1, ei1⟩ := shape_own sh1 ei
  rw [ei1] at h1
  have h2 : Post K W (RepV K) σ ρ1 F1 H1 (match g l1.d d with | some r => if r.isFlat = true then .ok r ρ1 else .no | none => .no) Q := h1
  obtain ⟨a1, ls, ha1, hH1, hF1, hR1⟩ := s1.own_slot ei1
  rw [ha] at ha1
  cases ha1
  cases eg : g l1.d d with
  | none => rw [eg] at h2; exact h2.elim
  | some r =>
    rw [eg] at h2
    have h3 : Post K W (RepV K) σ ρ1 F1 H1 (if r.isFlat = true then .ok r ρ1 else .no) Q := h2
    by_cases c : r.isFlat = true
    · rw [if_pos c] at h3
      obtain ⟨f1, f2, f3⟩ := lend s1 hH1 hF1 hR1
      refine ⟨_, _, _, r, f2, f3, r1.mono f1, eg, fun z F' H' gg ee qq => ?_⟩
      obtain ⟨k1, k2⟩ := lend_back s1 f1 gg
      exact Post.fin s1 h3 k1 k2 (flat_back c qq)
    · rw [if_neg c] at h3; exact h3.elim
theorem px_cmpO {op : CmpOp} {g : D → D → Option RV} (ho : OpR X (compareOp op) (rD2 X.K g)) (hb : PX X W b mb) (hN : X.N[i]? = some x := by rfl) (hv : Vis X.env.scope x := by first | exact Or.inl rfl | exact Or.inr (Or.inl rfl) | exact Or.inr (Or.inr rfl)) (hd : (x == ("__debug__" : Str)) = false := by decide)
    (hcd : (x == ("__classdict__" : Str)) = false := by decide) (hm : behindInMarks op b = false := by first | exact nomark _ | rfl) : PX X W (.Compare (.Name x p2) [op] [b] pos) (mOpO g i mb) :=
  ⟨fun ρ => PE.imp (pe_cmpR ho (pv i hN hv hd hcd) (hb.run ρ) hm) fun _ _ _ h => opO_imp h⟩
theorem pxt_cmpO {op : CmpOp} {g : D → D → Option RV} (ho : OpR X (compareOp op) (rD2 X.K g)) (hb : PX X W b mb) (hN : X.N[i]? = some x := by rfl) (hv : Vis X.env.scope x := by first | exact Or.inl rfl | exact Or.inr (Or.inl rfl) | exact Or.inr (Or.inr rfl)) (hd : (x == ("__debug__" : Str)) = false := by decide)
    (hcd : (x == ("__classdict__" : Str)) = false := by decide) (hm : behindInMarks op b = false := by first | exact nomark _ | rfl) : PXT X W (.Compare (.Name x p2) [op] [b] pos) (mtV (mOpO g i mb)) :=
  ⟨fun ρ => PT.imp (pt_cmpR ho (pv i hN hv hd hcd) (hb.run ρ) hm) fun _ _ _ h => by
    have q := tv_imp h
    obtain ⟨F, s, q⟩ := q
    exact opO_imp ⟨F, s, q⟩⟩
theorem px_callBO {y : Str} {p : Pos} {id : String} {g : List D → Option RV} (hc : CallR X (.builtin id) (rDL X.K g)) (hm : X.mg y = none) (hN : X.N[i]? = some x := by rfl) (hvi : Vis X.env.scope x := by first | exact Or.inl rfl | exact Or.inr (Or.inl rfl) | exact Or.inr (Or.inr rfl)) (hd : (x == ("__debug__" : Str)) = false := by decide)
    (hcd : (x == ("__classdict__" : Str)) = false := by decide) (hv : bootBuiltins y = some (.builtin id) := by decide +kernel) (hg : Gl X y := by rfl) (hn : y ≠ "__name__" := by decide) (hdb : (y == ("__debug__" : Str)) = false := by decide)
    (he : starEach [.Name x p2] X.env = (false, eval (.Name x p2) X.env) :: starEach [] X.env := by rfl) : PX X W (.Call (.Name y p) [.Name x p2] [] pos) (mBO g i) := ⟨fun ρ => PE.imp (pe_callB hc hg hm hv (pa_cons (pv i hN hvi hd hcd) pa_nil he) hn hdb he (by rfl)) fun σ H Q ⟨F, s, h⟩ => by
  unfold mBO at h
  obtain ⟨l, ei, h⟩ := own_of (P := fun r => Post X.K W (RepV X.K) σ ρ F H r Q) h (fun z => z)
  obtain ⟨a, ls, ha, hH, hF, hR⟩ := s.own_slot ei
  cases eg : g [l.d] with
  | none => rw [eg] at h; exact h.elim
  | some r =>
    rw [eg] at h
    have h3 : Post X.K W (RepV X.K) σ ρ F H (if r.isFlat = true then .ok r ρ else .no) Q := h
    by_cases c : r.isFlat = true
    · rw [if_pos c] at h3
      obtain ⟨f1, f2, f3⟩ := lend s hH hF hR
      refine ⟨.ref a, ha, _, _, r, f2, .cons f3 .nil, eg, fun z F' H' gg ee qq => ?_⟩
      obtain ⟨k1, k2⟩ := lend_back s f1 gg
      exact Post.fin s h3 k1 k2 (flat_back c qq)
    · rw [if_neg c] at h3; exact h3.elim⟩
end
end PD
end
section
set_option Elab.async false
set_option linter.all false
set_option maxRecDepth 100000
set_option maxHeartbeats 2000000
namespace PD
open PySem PySem.Spec PyProof.Rows L2

/-! ### own instances: fields -/
def putN (f : Str) : List Str → List Str
  | [] => [f]
  | g :: r => if g = f then g :: r else g :: putN f r
def putD (f : Str) (d : D) : List Str → List D → List D
  | g :: r, e :: s => if g = f then d :: s else e :: putD f d r s
  | _, _ => [d]
theorem putF_zip {K : PySem.W.Frag} {F : Hp} {f : Str} {d : D} {v : V} (h : Rep K F d v) : ∀ {ns : List Str} {ds : List D} {vs : List V}, ns.length = vs.length → Reps K F ds vs →
    ∃ ws, putF f v (ns.zip vs) = (putN f ns).zip ws ∧ (putN f ns).length = ws.length ∧ Reps K F (putD f d ns ds) ws
  | [], _, [], _, .nil => ⟨[v], rfl, rfl, .cons h .nil⟩
  | _ :: ns, [], [], hl, .nil => absurd hl (Nat.succ_ne_zero _)
  | g :: ns, e :: ds, u :: vs, hl, .cons r1 r2 => by
    have hl' : ns.length = vs.length := Nat.succ.inj hl
    by_cases c : g = f
    · refine ⟨v :: vs, ?_, ?_, ?_⟩
      · show (if g = f then (g, v) :: ns.zip vs else (g, u) :: putF f v (ns.zip vs)) = (if g = f then g :: ns else g :: putN f ns).zip (v :: vs)
        rw [if_pos c, if_pos c]; rfl
      · show (if g = f then g :: ns else g :: putN f ns).length = _
        rw [if_pos c]; exact hl
      · show Reps K F (if g = f then d :: ds else e :: putD f d ns ds) _
        rw [if_pos c]; exact .cons h r2
    · obtain ⟨ws, h1, h2, h3⟩ := putF_zip h hl' r2
      refine ⟨u :: ws, ?_, ?_, ?_⟩
      · show (if g = f then (g, v) :: ns.zip vs else (g, u) :: putF f v (ns.zip vs)) = (if g = f then g :: ns else g :: putN f ns).zip (u :: ws)
        rw [if_neg c, if_neg c, h1]; rfl
      · show (if g = f then g :: ns else g :: putN f ns).length = _
        rw [if_neg c]; exact congrArg (· + 1) h2
      · show Reps K F (if g = f then d :: ds else e :: putD f d ns ds) _
        rw [if_neg c]; exact .cons r1 h3
/-- self.f = e, self an own instance in slot i -/
def mSetF (c f : Str) (i : Nat) (m : M) : MS := fun ρ => (m ρ).toS fun a ρ1 => match ρ1[i]? with
  | some (.own (.ins c' ns ds)) => if c' = c ∧ ns.length < 900 then .nx (ρ1.set i (.own (.ins c (putN f ns) (putD f a.d ns ds)))) else .no
  | _ => .no
/-- self.f read -/
def mFldO (c f : Str) (i : Nat) : M := fun ρ => match ρ[i]? with
  | some (.own (.ins c' ns ds)) => if c' = c then (match (ns.zip ds).lookup f with
    | some d => .ok (.val d) ρ
    | none => .no) else .no
  | _ => .no
section
variable {X : Cx} {W : WX} {n i : Nat} {pos pos' p2 : Pos} {e : Expr} {m : M} {c f x : Str}
theorem own_ins {K : PySem.W.Frag} {F H : Hp} {σ : L2.St} {ρ : En} {i : Nat} {c : Str} {ns : List Str} {ds : List D} (s : StOk K F H σ ρ) (hi : ρ[i]? = some (.own (.ins c ns ds))) :
    ∃ a dx vs, σ[i]? = some (some (.ref a)) ∧ H a = some (.ins (He.ga K c) dx (ns.zip vs)) ∧ F a = none ∧ ns.length = vs.length ∧ Reps K F ds vs := by
  obtain ⟨a, u, h1, h2, h3, h4⟩ := s.own_slot hi
  cases u with
  | ins C dx fs =>
    obtain ⟨vs, k1, k2, k3, k4⟩ := h4
    subst k1 k2
    exact ⟨a, dx, vs, h1, h2, h3, k3, k4⟩
  | _ => exact h4.elim
theorem p1_setF (hv : PX X W e m) (ok : FldOk X.K c f) (hN : X.N[i]? = some x := by rfl) (hvi : Vis X.env.scope x := by first | exact Or.inl rfl | exact Or.inr (Or.inl rfl) | exact Or.inr (Or.inr rfl)) (hd : (x == ("__debug__" : Str)) = false := by decide)
    (hcd : (x == ("__classdict__" : Str)) = false := by decide) (hs : swapsWith e (some (.Attribute (.Name x p2) f pos')) pos.line X.env = pure false := by rfl) :
    P1 X W n (.Assign [.Attribute (.Name x p2) f pos'] e pos) (mSetF c f i m) := ⟨fun ρ => PS.imp (ps_fld (pv i hN hvi hd hcd) (hv.run ρ) hs) fun D σ H ⟨F, s, h⟩ => by
  unfold mSetF at h
  refine ⟨F, s, PostS.bindD (k := fun a ρ1 => match ρ1[i]? with | some (.own (.ins c' ns ds)) => if c' = c ∧ ns.length < 900 then .nx (ρ1.set i (.own (.ins c (putN f ns) (putD f a ns ds)))) else .no | _ => .no) s h fun d ρ1 v F1 H1 e1 g1 s1 sh1 r1 h1 => ?_⟩
  cases ei : ρ1[i]? with
  | none => rw [ei] at h1; exact h1.elim
  | some sl =>
    rw [ei] at h1
    cases sl with
    | emp => exact h1.elim
    | val d => exact h1.elim
    | own oc => cases oc with
      | lst l => exact h1.elim
      | dct k l => exact h1.elim
      | ins c' ns ds =>
        have h2 : PostS X.K W n D σ ρ1 F1 H1 (if c' = c ∧ ns.length < 900 then .nx (ρ1.set i (.own (.ins c (putN f ns) (putD f d ns ds)))) else .no) := h1
        by_cases cc : c' = c ∧ ns.length < 900
        · rw [if_pos cc] at h2
          obtain ⟨rfl, hl⟩ := cc
          obtain ⟨a, dx, vs, ha, hH, hF, hlen, hR⟩ := own_ins s1 ei
          obtain ⟨ws, k1, k2, k3⟩ := putF_zip r1 hlen hR
          obtain ⟨w1, w2⟩ := s1.write (n := n) (l' := .ins c' (putN f ns) (putD f d ns ds)) (ws := .ins (He.ga X.K c') dx (putF f v (ns.zip vs))) ei ha ⟨ws, rfl, k1, k2, k3⟩
          refine ⟨.ref a, ha, a, _, dx, ns.zip vs, rfl, hH, ok.cl, ok.no, ?_, h2 σ F1 _ w2 w1⟩
          rw [List.length_zip, ← hlen, Nat.min_self]; omega
        · rw [if_neg cc] at h2; exact h2.elim⟩
theorem px_fldO (ok : FldOk X.K c f) (hN : X.N[i]? = some x := by rfl) (hvi : Vis X.env.scope x := by first | exact Or.inl rfl | exact Or.inr (Or.inl rfl) | exact Or.inr (Or.inr rfl)) (hd : (x == ("__debug__" : Str)) = false := by decide)
    (hcd : (x == ("__classdict__" : Str)) = false := by decide) (hb : attributeBase (.Name x p2) f X.env (eval (.Name x p2) X.env) = eval (.Name x p2) X.env := by rfl) : PX X W (.Attribute (.Name x p2) f pos) (mFldO c f i) := ⟨fun ρ => PE.imp (pe_fld (pv i hN hvi hd hcd) hb) fun σ H Q ⟨F, s, h⟩ => by
  unfold mFldO at h
  cases ei : ρ[i]? with
  | none => rw [ei] at h; exact h.elim
  | some sl =>
    rw [ei] at h
    cases sl with
    | emp => exact h.elim
    | val d => exact h.elim
    | own oc => cases oc with
      | lst l => exact h.elim
      | dct k l => exact h.elim
      | ins c' ns ds =>
        have h2 : Post X.K W (RepV X.K) σ ρ F H (if c' = c then (match (ns.zip ds).lookup f with | some d => .ok (.val d) ρ | none => .no) else .no) Q := h
        by_cases cc : c' = c
        · rw [if_pos cc] at h2
          subst cc
          obtain ⟨a, dx, vs, ha, hH, hF, hlen, hR⟩ := own_ins s ei
          cases el : (ns.zip ds).lookup f with
          | none => rw [el] at h2; exact h2.elim
          | some d =>
            rw [el] at h2
            obtain ⟨v, k1, k2⟩ := look_zip hR el
            exact ⟨.ref a, ha, a, _, dx, ns.zip vs, v, rfl, hH, ok.cl, ok.no, k1, h2 v F H Grow.refl s rfl k2⟩
        · rw [if_neg cc] at h2; exact h2.elim⟩
end

/-! ### methods, constructors: by positional promises -/
/-- f takes as many arguments as it likes -/
def spV (K : PySem.W.Frag) (f : En → Res RV) : Sp := fun vs H Q E => ∃ ρ, tE K (fun cls d _ H => E cls d H) ρ (f ρ) (vs.map some) H Q
/-- n arguments -/
def lenF (n : Nat) (f : En → Res RV) : En → Res RV := fun ρ => if ρ.length = n then f ρ else .no
theorem spV_len {K : PySem.W.Frag} {n : Nat} {f : En → Res RV} {vs : List V} {H : Hp} {Q : VK} {E : XK} (h : spV K (lenF n f) vs H Q E) : spF K n f vs H Q E := by
  obtain ⟨ρ, F, s, h⟩ := h
  unfold lenF at h
  by_cases c : ρ.length = n
  · rw [if_pos c] at h
    have hl := s.len
    rw [List.length_map] at hl
    exact ⟨hl.trans c, ρ, F, s, h⟩
  · rw [if_neg c] at h; exact h.elim
structure MethOk (P : Program) (w : World) (K : PySem.W.Frag) (mg : Str → Option Value) (base : Heap) (k : Nat) (cs : List Str) (m : Str) (f : En → Res RV) : Prop where
  ex : ∀ c, cs.contains c = true → Cls K (He.ga K c) ∧ ∃ g, Meth K (He.ga K c) m g ∧ FnR P w K mg base (L2N.CX P w) k g (spV K f)
theorem MethOk.mono {P : Program} {w : World} {K : PySem.W.Frag} {mg : Str → Option Value} {base : Heap} {j k : Nat} {cs : List Str} {m : Str} {f : En → Res RV} (h : MethOk P w K mg base j cs m f) (hj : j ≤ k) : MethOk P w K mg base k cs m f :=
  ⟨fun c hc => let ⟨a, g, b, d⟩ := h.ex c hc; ⟨a, g, b, d.mono hj⟩⟩
structure MakeOk (P : Program) (w : World) (K : PySem.W.Frag) (mg : Str → Option Value) (base : Heap) (k : Nat) (c : Str) (f : En → Res RV) : Prop where
  gl : mg c = some (.ref (He.ga K c))
  ex : ∃ g, Mk K (He.ga K c) g ∧ FnR P w K mg base (L2N.CX P w) k g (spV K f)
theorem MakeOk.mono {P : Program} {w : World} {K : PySem.W.Frag} {mg : Str → Option Value} {base : Heap} {j k : Nat} {c : Str} {f : En → Res RV} (h : MakeOk P w K mg base j c f) (hj : j ≤ k) : MakeOk P w K mg base k c f :=
  ⟨h.gl, let ⟨g, b, d⟩ := h.ex; ⟨g, b, d.mono hj⟩⟩
/-- o.m(..), o of one of the classes cs -/
def mMeth (cs : List Str) (m : Str) (f : En → Res RV) (mo : M) (ms : MA) : M := fun ρ => (mo ρ).bind fun a ρ1 => match a.d with
  | .obj c ns ds => if cs.contains c = true ∧ ns.contains m = false then (ms ρ1).bind fun es ρ2 => (f ((.obj c ns ds :: es).map .val)).at ρ2 else .no
  | _ => .no
/-- C(..) -/
def mMk (c : Str) (f : En → Res RV) (ms : MA) : M := fun ρ => (ms ρ).bind fun ds ρ1 => match f (.own (.ins c [] []) :: ds.map .val) with
  | .ok (.val .non) (.own l :: _) => .ok (.fr l) ρ1
  | .er x (.own _ :: _) => .er x ρ1
  | _ => .no
section
variable {X : Cx} {W : WX}
theorem run_fnRS {pins : List (Addr × Obj)} {σ : L2.St} {H : Hp} {s : Shared} {k : Nat} {g : Addr} {sp : Sp} {E : XK} {Q : VK} {us : List Value} {vs : List V} (F : FnR X.prog X.w X.K X.mg X.base (L2N.CX X.prog X.w) k g sp) (hr : Room k X.A) (hx : PassesAt (L2N.CX X.prog X.w) X σ E)
    (I : Inv X pins σ H s) (r : Vals vs us) (h : sp vs H Q E) : wpAny (model X.prog X.w) X.A (call (.ref g) us) (EP X pins σ Q) X.xe s := by
  refine wpAny_call (codeAny_mono (F X.A X.stack s H us vs Q E hr I.env0 r h) fun r s' hq => ?_)
  cases r with
  | error e => exact hx pins H s e s' I hq
  | ok fl =>
    cases fl with
    | ret u => exact I.after hq
    | next => exact False.elim hq
    | brk => exact False.elim hq
    | cont => exact False.elim hq
theorem look_none {ns : List Str} {m : Str} (h : ns.contains m = false) : ∀ {vs : List V}, (ns.zip vs).lookup m = none := by
  induction ns with
  | nil => intro vs; rfl
  | cons g r ih =>
    intro vs
    rw [List.contains_cons, Bool.or_eq_false_iff] at h
    cases vs with
    | nil => rfl
    | cons v vs =>
      rw [List.zip_cons_cons]
      have e : (m == g) = false := h.1
      simp only [List.lookup, e]
      exact ih h.2
theorem run_makeS {pins : List (Addr × Obj)} {σ : L2.St} {H : Hp} {s : Shared} {k : Nat} {C g : Addr} {sp : Sp} {E : XK} {Q : VK} {us : List Value} {vs : List V} (M : Mk X.K C g) (F : FnR X.prog X.w X.K X.mg X.base (L2N.CX X.prog X.w) k g sp) (hr : Room (k + 1) X.A)
    (hx : PassesAt (L2N.CX X.prog X.w) X σ E) (I : Inv X pins σ H s) (r : Vals vs us)
    (h : ∀ x dx, H x = none → H dx = none → dx ≠ x → sp (.ref x :: vs) (upd (upd H dx (.own x)) x (.ins C dx [])) (fun v H2 => v = .non ∧ Q (.ref x) H2) E) :
    wpAny (model X.prog X.w) X.A (call (.ref C) us) (EP X pins σ Q) X.xe s := by
  have hq := h (s.heap.objs.size + 1) s.heap.objs.size (I.hok.fresh (Nat.le_succ _)) (I.hok.fresh (Nat.le_refl _)) (Nat.ne_of_lt (Nat.lt_succ_self _))
  have I2 := Inv.made (C := C) I
  have r2 : Vals (V.ref (s.heap.objs.size + 1) :: vs) (Value.ref (s.heap.objs.size + 1) :: us) := .cons rfl r
  refine wpAny_call (make_map (f := g) I.kIn M.makes M.init (beq_iff_eq.mp M.fn) (codeAny_mono (F _ X.stack _ _ (Value.ref (s.heap.objs.size + 1) :: us) _ _ E (hr.make C us [])
    (I2.env0.make C us []) r2 hq) fun r s' hq' => ?_))
  cases r with
  | error e => exact hx pins _ _ e s' I2 hq'
  | ok fl =>
    cases fl with
    | ret u =>
      obtain ⟨v, H', I3, rv, ev, q3⟩ := I2.after hq'
      subst ev
      exact ⟨rv, ⟨V.ref (s.heap.objs.size + 1), H', I3, rfl, q3⟩⟩
    | next => exact False.elim hq'
    | brk => exact False.elim hq'
    | cont => exact False.elim hq'
end
section
variable {X : Cx} {W : WX} {k : Nat} {f : En → Res RV} {c m : Str} {cs : List Str} {p pos apos : Pos} {e o : Expr} {es : List Expr} {mo : M} {ms : MA} {pl : Sem Bool}
/-- the arguments' end of a call whose promise is spF, all of it frozen -/
theorem fn_end {K : PySem.W.Frag} {W : WX} {σ : L2.St} {ρ : En} {F H : Hp} {Q : VK} {ds : List D} {vs : List V} (s : StOk K F H σ ρ) (r : Reps K F ds vs) (h : Post K W (RepV K) σ ρ F H ((f (ds.map .val)).at ρ) Q) : spV K f vs H Q (WE W σ) := by
  refine ⟨ds.map .val, F, args_ok s.same r, ?_⟩
  have noo : ∀ {F' H'}, Grow (Own (vs.map some) (ds.map .val)) F H F' H' → Gr F H F' H' := fun g => g.imp fun b z => (args_noown z).elim
  cases e : f (ds.map .val) with
  | no => rw [e] at h; exact h.elim
  | ok a ρ' =>
    rw [e] at h
    exact fun v F' H' g s' sh q => h v F' H' ((noo g).imp fun _ z => z.elim) (s.grow (noo g) s'.same) rfl q
  | er x ρ' =>
    rw [e] at h
    exact fun cls d F' H' g s' sh q => h cls d F' H' ((noo g).imp fun _ z => z.elim) (s.grow (noo g) s'.same) rfl q
theorem px_meth (F : MethOk X.prog X.w X.K X.mg X.base k cs m f) (hr : Room k X.A) (tk : L2N.Takes X W) (he : PX X W o mo) (ha : PXA X W (e :: es) ms)
    (hst : starEach (e :: es) X.env = (false, eval e X.env) :: starEach es X.env := by rfl) (hpl : (backTo pos (starEach es X.env)).any (·.1) = false := by rfl)
    (ht : eval (.Call (.Attribute o m apos) (e :: es) [] pos) X.env = (do
      let ov ← eval o X.env
      standAt apos.atName
      let (f, first) ← holding [ov] (getMethod ov m pl)
      callWith pos f first (backTo pos (starEach (e :: es) X.env)) (backToKw pos (keywordEach [] X.env))) := by rfl) :
    PX X W (.Call (.Attribute o m apos) (e :: es) [] pos) (mMeth cs m f mo ms) := ⟨fun ρ => ⟨fun pins s σ H Q I h => by
  obtain ⟨F0, st, h⟩ := h
  refine PySem.W.methodCall_KW (pl := pl) (thn ((he.run ρ).run pins s σ H (fun x H1 => ∃ F1 c ns ds ρ1, StOk X.K F1 H1 σ ρ1 ∧ Rep X.K F1 (.obj c ns ds) x ∧ cs.contains c = true ∧ ns.contains m = false ∧
      Post X.K W (RepV X.K) σ ρ1 F1 H1 ((ms ρ1).bind fun es ρ2 => (f ((D.obj c ns ds :: es).map .val)).at ρ2) Q) I ?_) fun u s1 ⟨x, H1, I1, rx, F1, c, ns, ds, ρ1, s1', r1, hcs, hnm, h1⟩ => ?_) ht
  · unfold mMeth at h
    refine ⟨F0, st, Post.bindD (k := fun a ρ1 => match a with | .obj c ns ds => if cs.contains c = true ∧ ns.contains m = false then (ms ρ1).bind fun es ρ2 => (f ((D.obj c ns ds :: es).map .val)).at ρ2 else .no | _ => .no) st h repV_back fun d ρ1 v F1 H1 e1 g1 s1 sh1 r1 h1 => ?_⟩
    cases d with
    | obj c ns ds =>
      have h2 : Post X.K W (RepV X.K) σ ρ1 F1 H1 (if cs.contains c = true ∧ ns.contains m = false then (ms ρ1).bind fun es ρ2 => (f ((D.obj c ns ds :: es).map .val)).at ρ2 else .no) Q := h1
      by_cases cc : cs.contains c = true ∧ ns.contains m = false
      · rw [if_pos cc] at h2
        exact ⟨F1, c, ns, ds, ρ1, s1, r1, cc.1, cc.2, h2⟩
      · rw [if_neg cc] at h2; exact h2.elim
    | _ => exact h1.elim
  · obtain ⟨cl, g, mt, Fg⟩ := F.ex c hcs
    cases r1 with
    | obj ho hl hr1 =>
      rename_i a dx vs
      obtain rfl : u = Value.ref a := rx
      refine getmeth_ok I1 (s1'.same _ _ ho) cl mt (look_none hnm) ?_
      refine PySem.W.callWith_K (first := [.ref a]) (h₀ := X.base) I.ok.mod.kin mt.kp (thn ((ha.run ρ1).run pos pins s1 σ H1 (fun vs H2 => spV X.K f (.ref a :: vs) H2 Q (WE W σ)) I1 ?_) fun us s2 ⟨vs, H2, I2, r, q2⟩ => ⟨I2.kIn, ?_⟩) hst hpl
      · refine ⟨F1, s1', ?_⟩
        cases em : ms ρ1 with
        | no => rw [em] at h1; exact h1.elim
        | er y ρ2 => rw [em] at h1; exact fun c d F' H' g s' sh q => h1 c d F' H' g s' sh q
        | ok es' ρ2 =>
          rw [em] at h1
          intro vs2 F2 H2 g2 s2 sh2 r2
          have h3 := Post.step (fun F' H' c d => repV_back H1 H2 F' H' c d g2.ht) g2 sh2 h1
          exact fn_end s2 (.cons (.obj (g2.ff _ _ ho) hl (hr1.mono g2.ff)) r2) h3
      · exact run_fnRS (us := .ref a :: us) (vs := .ref a :: vs) Fg hr (L2N.passAt tk σ) I2 (.cons rfl r) q2⟩⟩
theorem px_meth0 (F : MethOk X.prog X.w X.K X.mg X.base k cs m f) (hr : Room k X.A) (tk : L2N.Takes X W) (he : PX X W o mo)
    (ht : eval (.Call (.Attribute o m apos) [] [] pos) X.env = (do
      let ov ← eval o X.env
      standAt apos.atName
      let (f, first) ← holding [ov] (getMethod ov m pl)
      callWith pos f first (backTo pos (starEach [] X.env)) (backToKw pos (keywordEach [] X.env))) := by rfl) :
    PX X W (.Call (.Attribute o m apos) [] [] pos) (mMeth cs m f mo mNil) := ⟨fun ρ => ⟨fun pins s σ H Q I h => by
  obtain ⟨F0, st, h⟩ := h
  refine PySem.W.methodCall_KW (pl := pl) (thn ((he.run ρ).run pins s σ H (fun x H1 => ∃ F1 c ns ds ρ1, StOk X.K F1 H1 σ ρ1 ∧ Rep X.K F1 (.obj c ns ds) x ∧ cs.contains c = true ∧ ns.contains m = false ∧
      Post X.K W (RepV X.K) σ ρ1 F1 H1 ((f ((D.obj c ns ds :: []).map .val)).at ρ1) Q) I ?_) fun u s1 ⟨x, H1, I1, rx, F1, c, ns, ds, ρ1, s1', r1, hcs, hnm, h1⟩ => ?_) ht
  · unfold mMeth at h
    refine ⟨F0, st, Post.bindD (k := fun a ρ1 => match a with | .obj c ns ds => if cs.contains c = true ∧ ns.contains m = false then (mNil ρ1).bind fun es ρ2 => (f ((D.obj c ns ds :: es).map .val)).at ρ2 else .no | _ => .no) st h repV_back fun d ρ1 v F1 H1 e1 g1 s1 sh1 r1 h1 => ?_⟩
    cases d with
    | obj c ns ds =>
      have h2 : Post X.K W (RepV X.K) σ ρ1 F1 H1 (if cs.contains c = true ∧ ns.contains m = false then (mNil ρ1).bind fun es ρ2 => (f ((D.obj c ns ds :: es).map .val)).at ρ2 else .no) Q := h1
      by_cases cc : cs.contains c = true ∧ ns.contains m = false
      · rw [if_pos cc] at h2
        exact ⟨F1, c, ns, ds, ρ1, s1, r1, cc.1, cc.2, h2⟩
      · rw [if_neg cc] at h2; exact h2.elim
    | _ => exact h1.elim
  · obtain ⟨cl, g, mt, Fg⟩ := F.ex c hcs
    cases r1 with
    | obj ho hl hr1 =>
      rename_i a dx vs
      obtain rfl : u = Value.ref a := rx
      refine getmeth_ok I1 (s1'.same _ _ ho) cl mt (look_none hnm) ?_
      exact PySem.W.callWith_K0 (first := [.ref a]) I1.kIn mt.kp (run_fnRS (us := [.ref a]) (vs := [.ref a]) Fg hr (L2N.passAt tk σ) I1 (.cons rfl .nil) (fn_end s1' (.cons (.obj ho hl hr1) .nil) h1))⟩⟩
theorem mk_imp {K : PySem.W.Frag} {W : WX} {σ : L2.St} {ρ : En} {H : Hp} {Q : VK} (h : tE K W ρ (mMk c f ms ρ) σ H Q) : tA K W ρ (ms ρ) σ H fun vs H1 => ∀ x dx, H1 x = none → H1 dx = none → dx ≠ x →
    spV K f (.ref x :: vs) (upd (upd H1 dx (.own x)) x (.ins (He.ga K c) dx [])) (fun v H2 => v = .non ∧ Q (.ref x) H2) (WE W σ) := by
  obtain ⟨F, s, h⟩ := h
  refine ⟨F, s, ?_⟩
  unfold mMk at h
  cases em : ms ρ with
  | no => rw [em] at h; exact h.elim
  | er y ρ2 => rw [em] at h; exact fun c d F' H' g s' sh q => h c d F' H' g s' sh q
  | ok ds ρ1 =>
    rw [em] at h
    intro vs F1 H1 g1 s1 sh1 r1 x dx hx hdx hne
    have h1 := Post.step (fun F' H' c d => repV_back H H1 F' H' c d g1.ht) g1 sh1 h
    have h2 : Post K W (RepV K) σ ρ1 F1 H1 (match f (.own (.ins c [] []) :: ds.map .val) with
      | .ok (.val .non) (.own l :: _) => .ok (.fr l) ρ1
      | .er x (.own _ :: _) => .er x ρ1
      | _ => .no) Q := h1
    have fx : F1 x = none := Same.free s1.same hx
    have sm : Same F1 (upd (upd H1 dx (.own x)) x (.ins (He.ga K c) dx [])) := fun b o z => by
      have z1 := s1.same b o z
      rw [upd_ne (ne_of_none z1 hx), upd_ne (ne_of_none z1 hdx)]
      exact z1
    refine ⟨.own (.ins c [] []) :: ds.map .val, F1, own_args_ok (l := .ins c [] []) sm r1 upd_same fx ⟨[], rfl, rfl, rfl, .nil⟩, ?_⟩
    have oo : ∀ {b : Addr}, Own ((V.ref x :: vs).map some) (.own (.ins c [] []) :: ds.map .val) b → b = x := fun {b} ⟨j, d, q1, q2⟩ => by
      cases j with
      | zero => rw [List.map_cons, List.getElem?_cons_zero] at q2; cases q2; rfl
      | succ j =>
        rw [List.getElem?_cons_succ, List.getElem?_map] at q1
        cases q : ds[j]? with
        | none => rw [q] at q1; cases q1
        | some d => rw [q] at q1; cases q1
    have gr : ∀ {F' H' : Hp}, Grow (Own ((V.ref x :: vs).map some) (.own (.ins c [] []) :: ds.map .val)) F1 (upd (upd H1 dx (.own x)) x (.ins (He.ga K c) dx [])) F' H' → Gr F1 H1 F' H' := fun {F' H'} g => by
      have up : ∀ {b : Addr}, H1 b ≠ none → upd (upd H1 dx (.own x)) x (.ins (He.ga K c) dx []) b = H1 b := fun {b} z => by
        rw [upd_ne (fun e => z (by rw [e]; exact hx)), upd_ne (fun e => z (by rw [e]; exact hdx))]
      refine ⟨g.ff, fun b o z _ => ?_, fun b z => g.ht b (by rw [up z]; exact z), fun b z q => g.fr b (by rw [up z]; exact z) q⟩
      have zn : H1 b ≠ none := by rw [z]; exact fun e => nomatch e
      exact g.hh b o (by rw [up zn]; exact z) fun e => zn (by rw [oo e]; exact hx)
    cases e : f (.own (.ins c [] []) :: ds.map .val) with
    | no => rw [e] at h2; exact h2.elim
    | ok a ρ' =>
      rw [e] at h2
      cases a with
      | fr oc => exact h2.elim
      | val dv =>
        cases dv with
        | non =>
          cases ρ' with
          | nil => exact h2.elim
          | cons s0 r =>
            cases s0 with
            | emp => exact h2.elim
            | val d => exact h2.elim
            | own l =>
              intro v F' H' g s' sh q
              cases q
              obtain ⟨a2, u2, k1, k2, k3, k4⟩ := s'.sl 0 _ _ rfl rfl
              cases k1
              exact ⟨rfl, h2 (.ref x) F' H' ((gr g).imp fun _ z => z.elim) (s1.grow (gr g) s'.same) rfl ⟨x, u2, rfl, hx, k3, k2, k4⟩⟩
        | _ => exact h2.elim
    | er y ρ' =>
      rw [e] at h2
      cases ρ' with
      | nil => exact h2.elim
      | cons s0 r =>
        cases s0 with
        | emp => exact h2.elim
        | val d => exact h2.elim
        | own l =>
          exact fun cls d F' H' g s' sh q => h2 cls d F' H' ((gr g).imp fun _ z => z.elim) (s1.grow (gr g) s'.same) rfl q
theorem px_mk (F : MakeOk X.prog X.w X.K X.mg X.base k c f) (hr : Room (k + 1) X.A) (tk : L2N.Takes X W) (ha : PXA X W (e :: es) ms) (hg : Gl X c := by rfl) (hdb : (c == ("__debug__" : Str)) = false := by decide)
    (he : starEach (e :: es) X.env = (false, eval e X.env) :: starEach es X.env := by rfl) (hpl : (backTo pos (starEach es X.env)).any (·.1) = false := by rfl) : PX X W (.Call (.Name c p) (e :: es) [] pos) (mMk c f ms) := ⟨fun ρ => ⟨fun pins s σ H Q I h => by
  obtain ⟨g, M, Fg⟩ := F.ex
  refine wpAny_Call_Name_kw (ld_glob I hg F.gl ?_ hdb)
  refine PySem.W.callWith_K (h₀ := X.base) I.ok.mod.kin M.kp (thn ((ha.run ρ).run pos pins s σ H _ I (mk_imp h)) fun us s1 ⟨vs, H1, I1, r, q⟩ => ⟨I1.kIn, ?_⟩) he hpl
  exact run_makeS M Fg hr (L2N.passAt tk σ) I1 r q⟩⟩
end

/-! ### properties that hand a field out -/
structure PropOk (P : Program) (w : World) (K : PySem.W.Frag) (mg : Str → Option Value) (base : Heap) (k : Nat) (c f g : Str) : Prop where
  cl : Cls K (He.ga K c)
  no : NoAttr K (He.ga K c) g
  ex : ∃ p a fd, PropOf K (He.ga K c) f p a ∧ FnOk P w K mg base (L2N.CX P w) k a fd ["self"] (getSp (He.ga K c) g) ∧ Binds K fd ["self"] []
theorem no_pass {X : Cx} : Passes (L2N.CX X.prog X.w) X.nox (fun _ _ _ => False) := fun pins σ H s e s' I ⟨_, _, _, _, _, _, _, _, _, _, _, _, z⟩ => z
section
variable {X : Cx} {W : WX} {k : Nat} {c f g : Str} {pos : Pos} {e : Expr} {m : M}
theorem px_prop (F : PropOk X.prog X.w X.K X.mg X.base k c f g) (hr : Room (k + 1) X.A) (he : PX X W e m) (hb : attributeBase e f X.env (eval e X.env) = eval e X.env := by rfl) : PX X W (.Attribute e f pos) (mUn (gFld [c] g) m) := by
  obtain ⟨p, ap, fd, k1, k2, k3⟩ := F.ex
  refine ⟨fun ρ => PE.imp (pe_prop (he.run ρ) F.cl k1 k2 hr k3 .nil no_pass hb) fun σ H Q h => ?_⟩
  obtain ⟨F0, s, h⟩ := h
  refine ⟨F0, s, Post.bindD (k := fun a ρ1 => optR (gFld [c] g a) ρ1) s h repV_back fun d ρ1 v F1 H1 e1 g1 s1 sh1 r1 h1 => ?_⟩
  obtain ⟨rv, e, h2⟩ := h1.optR
  obtain ⟨a, c', dx, ns, vs, w, d, rfl, hcs, ha, hl, hw, rfl⟩ := gFld_ok e r1
  have ec : c' = c := by simpa using hcs
  subst ec
  exact ⟨a, dx, _, rfl, s1.same _ _ ha, a, dx, _, w, rfl, s1.same _ _ ha, hl, h2 w F1 H1 Grow.refl s1 rfl hw⟩
end
end PD
end
section
set_option Elab.async false
set_option linter.all false
set_option maxRecDepth 100000
set_option maxHeartbeats 2000000
namespace PD
open PySem PySem.Spec PyProof.Rows L2 NdefX ClX

/-! ### super().__init__(..): blocks whose running code is told -/
structure PSA (X : Cx) (c : Code) (st : Stmt) (t : TS) : Prop where
  run : ∀ (pins : List (Addr × Obj)) (s : Shared) (σ : L2.St) (H : Hp) (D : Ends), Inv X pins σ H s → t D σ H → _root_.PySem.wpAt (model X.prog X.w) X.A c (exec st X.env) (SP X pins D) X.xe s
structure PSAs (X : Cx) (c : Code) (st : List Stmt) (t : TS) : Prop where
  run : ∀ (pins : List (Addr × Obj)) (s : Shared) (σ : L2.St) (H : Hp) (D : Ends), Inv X pins σ H s → t D σ H → _root_.PySem.wpAt (model X.prog X.w) X.A c (execs st X.env) (SP X pins D) X.xe s
structure PBA (X : Cx) (c : Code) (W : WX) (n : Nat) (st : List Stmt) (m : MS) : Prop where
  run : ∀ ρ, PSAs X c st (tS X.K W n ρ (m ρ))
structure P1A (X : Cx) (c : Code) (W : WX) (n : Nat) (st : Stmt) (m : MS) : Prop where
  run : ∀ ρ, PSA X c st (tS X.K W n ρ (m ρ))
section
variable {X : Cx} {c : Code} {W : WX} {n : Nat} {st : Stmt} {rest sts : List Stmt} {m m1 m2 : MS} {t u : TS}
theorem PB.at_ (h : PB X W n sts m) : PBA X c W n sts m := ⟨fun ρ => ⟨fun pins s σ H D I q => _root_.PySem.wpAt_of_wpAny ((h.run ρ).run pins s σ H D I q)⟩⟩
theorem P1.at_ (h : P1 X W n st m) : P1A X c W n st m := ⟨fun ρ => ⟨fun pins s σ H D I q => _root_.PySem.wpAt_of_wpAny ((h.run ρ).run pins s σ H D I q)⟩⟩
theorem psas_cons (h1 : PSA X c st t) (h2 : PSAs X c rest u) : PSAs X c (st :: rest) (tSeq t u) := by
  refine ⟨fun pins s σ H D I h => ?_⟩
  refine ks_wpAt_execs_cons (ks_wpAt_mono (h1.run pins s σ H { D with nx := u D } I h) (fun f s1 q => ?_) fun _ _ z => z)
  cases f with
  | next =>
    obtain ⟨σ', H', I', q⟩ := q
    exact h2.run pins s1 σ' H' D I' q
  | ret v => exact q
  | brk => exact q
  | cont => exact q
theorem pba_cons (h1 : P1A X c W n st m1) (h2 : PBA X c W n rest m2) : PBA X c W n (st :: rest) (mSeq m1 m2) := ⟨fun ρ => ⟨fun pins s σ H D I q => (psas_cons (h1.run ρ) (h2.run (m1 ρ).env)).run pins s σ H D I (by
  obtain ⟨F, s0, h⟩ := q
  refine ⟨F, s0, ?_⟩
  unfold mSeq at h
  cases e : m1 ρ with
  | nx ρ1 =>
    rw [e] at h
    exact fun σ' F' H' g s' => ⟨F', s', PostS.step g h⟩
  | bk ρ1 => rw [e] at h; exact h
  | ct ρ1 => rw [e] at h; exact h
  | rt r ρ1 => rw [e] at h; exact h
  | er x ρ1 => rw [e] at h; exact h
  | no => rw [e] at h; exact h)⟩⟩
theorem pba_of (h : PB X W n sts m) : PBA X c W n sts m := h.at_
end
/-- what the text must say, for super().__init__(..) in a def of the class c, the next __init__ being the def at g -/
structure SupOk (P : Program) (K : PySem.W.Frag) (mg : Str → Option Value) (c : Str) (g cc cda : Addr) : Prop where
  cell : ∃ cl cld csl, K.lookup cc = some ⟨cl, cld, .cell (some (.ref (He.ga K c))), csl⟩
  dcls : ∃ cd, PySem.W.clsIn K (He.ga K c) = some cd
  sub : PySem.W.mroIn K (He.ga K c) (.ref (He.ga K c)) = some true
  sup : mg "super" = none
  meth : PySem.W.ks_superIn K (He.ga K c) (He.ga K c) "__init__" = some (some (.ref g))
  gty : PySem.W.typeIn K (.ref g) = some (.type "function")
  gfn : PySem.W.fnIn K g = true
  opq : PySem.W.nsIn K cStatics "thirdparty.any" = some none
  code : ∃ ccl cdd vs ccs file tf, K.lookup cda = some ⟨ccl, cdd, .fields vs, ccs⟩ ∧ vs[2]? = some (.str file tf) ∧ ((P.main.file : Str) == file) = true
  top : (P.main.scope.names.lookup ("super" : Str)).isSome = false
def mSup (c : Str) (n : Nat) (f : En → Res RV) (ms : MA) : PD.M := fun (ρ : En) => match ρ[0]? with
  | some (Sl.own (OC.ins c' _ _)) => if c' = c then mFnO n f 0 ms ρ else .no
  | _ => .no
section
variable {P : Program} {w : World} {K : PySem.W.Frag} {mg : Str → Option Value} {base : Heap} {N : List Str} {name qual c : Str} {params : Arguments} {body : List Stmt} {scope : Scope} {cc cda f g : Addr} {A : Around} {outer : List PySem.Env} {s0 : Shared} {H0 : Hp} {E0 : XK}
  {oc dV kV doc pm ct : Value} {od an : Option Addr} {osl : Array (Option Value)}
abbrev nfk (name qual : Str) (params : Arguments) (body : List Stmt) (scope : Scope) (cc cda : Addr) : NF := ⟨name, qual, params, body, scope, [("__class__", cc)], cda⟩
theorem psa_super {k : Nat} {sp : Sp} {W : WX} {p0 p1 p2 p3 pos : Pos} {e : Expr} {es : List Expr} {ta : TA} {ar : Arg} {pl : Sem Bool}
    (S : SupOk P K mg c g cc cda) (lk : K.lookup f = some ⟨oc, od, .func (PySem.W.fnX name qual params body scope [("__class__", cc)] dV kV doc pm an (.ref cda) ct), osl⟩)
    (hp : (params.posonlyargs ++ params.args).head? = some ar) (hks : scope.names.lookup ("super" : Str) = some .globalImplicit) (hkc : scope.names.lookup ("__class__" : Str) = some .free) (hka : scope.names.lookup ar.arg = some .local) (hk : scope.kind = .function) (hN : N[0]? = some ar.arg)
    (Fg : FnR P w K mg base (L2N.CX P w) k g sp) (hr : Room k (A.deeper (envF (nfk name qual params body scope cc cda) f s0.heap.objs.size))) (tk : L2N.Takes (ncx (L2N.CX P w) P w K mg base N (nfk name qual params body scope cc cda) f A outer s0 H0 E0) W)
    (ha : PA (ncx (L2N.CX P w) P w K mg base N (nfk name qual params body scope cc cda) f A outer s0 H0 E0) (e :: es) ta)
    (hst : starEach (e :: es) (ncx (L2N.CX P w) P w K mg base N (nfk name qual params body scope cc cda) f A outer s0 H0 E0).env = (false, eval e (ncx (L2N.CX P w) P w K mg base N (nfk name qual params body scope cc cda) f A outer s0 H0 E0).env) :: starEach es (ncx (L2N.CX P w) P w K mg base N (nfk name qual params body scope cc cda) f A outer s0 H0 E0).env := by rfl)
    (hpl : (backTo p3 (starEach es (ncx (L2N.CX P w) P w K mg base N (nfk name qual params body scope cc cda) f A outer s0 H0 E0).env)).any (·.1) = false := by rfl)
    (hsw : swapsWith (.Call (.Attribute (.Call (.Name "super" p0) [] [] p1) "__init__" p2) (e :: es) [] p3) none pos.line (ncx (L2N.CX P w) P w K mg base N (nfk name qual params body scope cc cda) f A outer s0 H0 E0).env = pure false := by rfl)
    (ht : eval (.Call (.Attribute (.Call (.Name "super" p0) [] [] p1) "__init__" p2) (e :: es) [] p3) (ncx (L2N.CX P w) P w K mg base N (nfk name qual params body scope cc cda) f A outer s0 H0 E0).env = (do
      let ov ← attributeBase (.Call (.Name "super" p0) [] [] p1) "__init__" (ncx (L2N.CX P w) P w K mg base N (nfk name qual params body scope cc cda) f A outer s0 H0 E0).env (eval (.Call (.Name "super" p0) [] [] p1) (ncx (L2N.CX P w) P w K mg base N (nfk name qual params body scope cc cda) f A outer s0 H0 E0).env)
      standAt p2.atName
      let (fv, first) ← holding [ov] (getMethod ov "__init__" pl)
      callWith p3 fv first (backTo p3 (starEach (e :: es) (ncx (L2N.CX P w) P w K mg base N (nfk name qual params body scope cc cda) f A outer s0 H0 E0).env)) []) := by rfl) :
    PSA (ncx (L2N.CX P w) P w K mg base N (nfk name qual params body scope cc cda) f A outer s0 H0 E0) (.func body (envF (nfk name qual params body scope cc cda) f s0.heap.objs.size)) (.Expr (.Call (.Attribute (.Call (.Name "super" p0) [] [] p1) "__init__" p2) (e :: es) [] p3) pos)
      (fun D σ H => ∃ x dx fs, σ[0]? = some (some (.ref x)) ∧ H x = some (.ins (He.ga K c) dx fs) ∧ ta σ H fun vs H1 => sp (.ref x :: vs) H1 (fun _ H2 => D.nx σ H2) (WE W σ)) := by
  refine ⟨fun pins s σ H D I h => ?_⟩
  obtain ⟨x, dx, fs, hx, hxi, h⟩ := h
  refine ks_wpAt_Expr_any (ks_wpAt_MethodCall (pl := pl) ?_ ht) I.quiet hsw
  obtain ⟨cl, cld, csl, hcell⟩ := S.cell
  obtain ⟨cdD, hD⟩ := S.dcls
  obtain ⟨ccl, cdd, vs, ccs, file, tf, hcode, hvs, hfile⟩ := S.code
  have XI : K.In s.heap := I.kIn
  obtain ⟨oD, hD1, hD2⟩ : ∃ oD, s.heap.get? (He.ga K c) = some oD ∧ oD.data = .cls cdD := by
    unfold PySem.W.clsIn at hD
    split at hD
    · rename_i c d cd' sl ho
      cases hD
      exact ⟨_, XI _ _ ho, rfl⟩
    · cases hD
  obtain ⟨mA, O, _, _, _, _⟩ := ins_get I.hok hxi
  have hxo := O.obj
  have hself : ∃ m, s.heap.Ns s0.heap.objs.size m ∧ m ar.arg = some (.ref x) := by
    obtain ⟨m, hn, hl⟩ := I.loc
    obtain ⟨u, ru, l⟩ := hl 0 ar.arg (.ref x) hN hx (.inl hka)
    obtain rfl : u = Value.ref x := ru
    refine ⟨m, hn, ?_⟩
    rcases l with ⟨_, hm⟩ | ⟨hk', _⟩
    · exact hm
    · have q : scope.names.lookup ar.arg = some .cell ∨ scope.names.lookup ar.arg = some .free := hk'
      rw [hka] at q
      rcases q with q | q <;> cases q
  obtain ⟨m, hns, hm⟩ := hself
  refine ks_wpAt_super_base (env := envF (nfk name qual params body scope cc cda) f s0.heap.objs.size) hks hkc (by decide) rfl (XI _ _ lk) rfl hp rfl (XI _ _ hcode) rfl hvs hfile S.top ?_
  have hsup : wpAny (model P w) (A.deeper (envF (nfk name qual params body scope cc cda) f s0.heap.objs.size)) (loadName (envF (nfk name qual params body scope cc cda) f s0.heap.objs.size) "super") (fun g s₁ => g = .type "super" ∧ s₁ = s)
      (ncx (L2N.CX P w) P w K mg base N (nfk name qual params body scope cc cda) f A outer s0 H0 E0).xe s := by
    obtain ⟨mb, h1, h2⟩ := I.mod.blt
    exact PySem.W.ks_loadName_global hk hks (Calls.loadGlobal_builtin (env := envF (nfk name qual params body scope cc cda) f s0.heap.objs.size) (I.mod.glob.keeps I.bk) S.sup (h1.keeps I.bk) ((h2 "super" (by decide)).trans (show bootBuiltins "super" = some (.type "super") by decide +kernel)) ⟨rfl, rfl⟩)
  refine wpAny_mono hsup (fun gv s₁ hg => ?_) fun _ _ z => z
  obtain ⟨rfl, rfl⟩ := hg
  refine ⟨rfl, ?_⟩
  refine wpAny_loadName_free hk hkc rfl ⟨_, XI _ _ hcell, rfl⟩ ?_
  refine wpAny_loadName_local hk hka hns hm ?_
  refine ks_wpAny_isType_cls hD1 hD2 ⟨rfl, ?_⟩
  obtain ⟨hh, gg, dd, tt, os⟩ := s₁
  refine ks_wpAny_call_super hD1 hD2 hxo rfl (fun c e => by cases e) (PySem.W.looks_mroIn XI S.sub) (fun h' e' kp => ?_)
  have I1 : Inv (ncx (L2N.CX P w) P w K mg base N (nfk name qual params body scope cc cda) f A outer s0 H0 E0) pins σ H ⟨h', gg, dd, tt, os⟩ := I.kept (t' := tt) kp
  have hxC : x ≠ He.ga K c := fun z => by
    have q : base.get? (He.ga K c) = none := by
      cases eb : base.get? (He.ga K c) with
      | none => rfl
      | some o =>
        have z2 := (I.bs _ o eb).2
        rw [← z, hxi] at z2
        cases z2
    have q2 : K.In base := I.ok.mod.kin
    unfold PySem.W.clsIn at hD
    split at hD
    · rename_i c d cd' sl ho
      rw [q2 _ _ ho] at q
      cases q
    · cases hD
  have X1 : K.In h' := I1.kIn
  obtain ⟨of, hof, hofc⟩ : ∃ of, h'.get? g = some of ∧ of.cls = .type "function" := by
    have ht' : (K.lookup g).map (·.cls) = some (.type "function") := S.gty
    cases z : K.lookup g with
    | none => rw [z] at ht'; cases ht'
    | some of => rw [z] at ht'; exact ⟨of, X1 _ _ z, Option.some.inj ht'⟩
  have hmeth : PySem.W.alongIn K "__init__" ((cdD.mro.dropWhile (· != .ref (He.ga K c))).drop 1) = some (some (.ref g)) := by
    have q := S.meth
    unfold PySem.W.ks_superIn at q
    rw [hD] at q
    exact q
  refine ks_wpAny_getMethod_super e' (PySem.W.looks_opaque X1 S.opq) (l₀ := cdD.mro) (fun A Q E s k q => wpAny_bind ((PySem.W.looks_clsIn X1 hD) A _ E s k (wpAny_pure q))) rfl X1 hmeth hof hofc hxC (by decide) ?_
  have I2 : Inv (ncx (L2N.CX P w) P w K mg base N (nfk name qual params body scope cc cda) f A outer s0 H0 E0) ((h'.objs.size, PySem.W.methodObj (.ref g) (.ref x)) :: pins) σ H ⟨h'.push { cls := .type "method", data := .fields #[.ref g, .ref x] }, gg, dd, tt + 1, os⟩ :=
    pin_new (t' := tt + 1) (o := PySem.W.methodObj (.ref g) (.ref x)) I1 (fun b u q => Heap.get?_push_of_some _ q) (Nat.le_refl _) (Heap.get?_push_at rfl rfl) (fun v z => by cases z)
  refine callwith_cm (C := x) I2 (base_none I1 (Nat.le_refl _)) S.gfn (thn (ha.run p3 _ _ σ H _ I2 h) fun us s3 ⟨vs, H2, I3, rv, q2⟩ => ⟨⟨pin_at I3, I3.kIn⟩, ?_⟩) hst hpl
  refine wpAny_call (PySem.W.method_call (pin_at I3) (codeAny_mono (Fg (A.deeper (envF (nfk name qual params body scope cc cda) f s0.heap.objs.size)) _ s3 H2 (.ref x :: us) (.ref x :: vs) _ (WE W σ) hr I3.env0 (.cons rfl rv) q2) fun r s' hq => ?_))
  cases r with
  | error e => exact L2N.passAt tk σ _ H2 s3 e s' I3 hq
  | ok fl =>
    cases fl with
    | ret u =>
      obtain ⟨v, H', J, rv', q⟩ := I3.after hq
      exact ⟨σ, H', unpin J, q⟩
    | next => exact False.elim hq
    | brk => exact False.elim hq
    | cont => exact False.elim hq
end
end PD
end
section
set_option Elab.async false
set_option linter.all false
set_option maxRecDepth 100000
set_option maxHeartbeats 2000000
namespace PD
open PySem PySem.Spec PyProof.Rows L2 NdefX ClX

theorem cxUpN {P : Program} {w : World} : StX.CXUp (L2N.CX P w) := by
  rintro outer s H s2 H2 E e s' un kp ho ⟨a, B, H', cls, d, ea, fl, hok, ub, na, os, ag, he⟩
  refine ⟨a, B, H', cls, d, ea, fl, hok, ⟨fun b o q n hb => ub.keep b o (kp b o q) (un.free b o q n (by simp)) hb, fun b o q hb => ub.slot b o (kp b o q) hb, fun b o q n => ub.free b o (kp b o q) (un.free b o q n (by simp)),
    fun b o q hb => ub.there b o (kp b o q) hb, fun b xs q => ub.tups b xs (un.tups b xs q), fun b o xs q => ub.frzs b o xs (un.frzs b o xs q), fun b ps q => ?_⟩, na, os.trans ho, ag, he⟩
  obtain ⟨m1, e1⟩ := un.tbls b ps q
  obtain ⟨m2, e2⟩ := ub.tbls b _ e1
  exact ⟨m1 ++ m2, by rw [e2, Array.append_assoc]⟩
section
variable {P : Program} {w : World} {K : PySem.W.Frag} {mg : Str → Option Value} {base : Heap} {N : List Str} {name qual c : Str} {params : Arguments} {body : List Stmt} {scope : Scope} {cc cda f g : Addr} {A : Around} {outer : List PySem.Env} {s0 : Shared} {H0 : Hp} {E0 : XK}
  {oc dV kV doc pm ct : Value} {od an : Option Addr} {osl : Array (Option Value)}
abbrev kcx (P : Program) (w : World) (K : PySem.W.Frag) (mg : Str → Option Value) (base : Heap) (N : List Str) (name qual : Str) (params : Arguments) (body : List Stmt) (scope : Scope) (cc cda f : Addr) (A : Around) (outer : List PySem.Env) (s : Shared) (H : Hp) (E : XK) : Cx :=
  ncx (L2N.CX P w) P w K mg base N (nfk name qual params body scope cc cda) f A outer s H E
abbrev kcode (name qual : Str) (params : Arguments) (body : List Stmt) (scope : Scope) (cc cda f : Addr) (s : Shared) : Code := .func body (envF (nfk name qual params body scope cc cda) f s.heap.objs.size)
/-- what is known of the def's text -/
structure KFn (P : Program) (K : PySem.W.Frag) (mg : Str → Option Value) (N : List Str) (name qual c : Str) (params : Arguments) (body : List Stmt) (scope : Scope) (cc cda f g : Addr) (ar : Arg) : Prop where
  S : SupOk P K mg c g cc cda
  lk : ∃ oc od dV kV doc pm an ct osl, K.lookup f = some ⟨oc, od, .func (PySem.W.fnX name qual params body scope [("__class__", cc)] dV kV doc pm an (.ref cda) ct), osl⟩
  cd : PySem.W.codeIn K (.ref cda) qual = true
  hp : (params.posonlyargs ++ params.args).head? = some ar
  hks : scope.names.lookup ("super" : Str) = some .globalImplicit
  hkc : scope.names.lookup ("__class__" : Str) = some .free
  hka : scope.names.lookup ar.arg = some .local
  hN : N[0]? = some ar.arg
  nd : ∀ oc od fd osl, K.lookup f = some ⟨oc, od, .func fd, osl⟩ → fd.defaults = .none
theorem p1a_super {k n0 n : Nat} {fs : En → Res RV} {W : WX} {p0 p1 p2 p3 pos : Pos} {e : Expr} {es : List Expr} {ms : MA} {ar : Arg} {pl : Sem Bool} (T : KFn P K mg N name qual c params body scope cc cda f g ar) (hk : scope.kind = .function)
    (Fg : FnR P w K mg base (L2N.CX P w) k g (spF K n fs)) (hr : Room k (A.deeper (envF (nfk name qual params body scope cc cda) f s0.heap.objs.size))) (tk : L2N.Takes (kcx P w K mg base N name qual params body scope cc cda f A outer s0 H0 E0) W)
    (ha : PXA (kcx P w K mg base N name qual params body scope cc cda f A outer s0 H0 E0) W (e :: es) ms)
    (hst : starEach (e :: es) (kcx P w K mg base N name qual params body scope cc cda f A outer s0 H0 E0).env = (false, eval e (kcx P w K mg base N name qual params body scope cc cda f A outer s0 H0 E0).env) :: starEach es (kcx P w K mg base N name qual params body scope cc cda f A outer s0 H0 E0).env := by rfl)
    (hpl : (backTo p3 (starEach es (kcx P w K mg base N name qual params body scope cc cda f A outer s0 H0 E0).env)).any (·.1) = false := by rfl)
    (hsw : swapsWith (.Call (.Attribute (.Call (.Name "super" p0) [] [] p1) "__init__" p2) (e :: es) [] p3) none pos.line (kcx P w K mg base N name qual params body scope cc cda f A outer s0 H0 E0).env = pure false := by rfl)
    (ht : eval (.Call (.Attribute (.Call (.Name "super" p0) [] [] p1) "__init__" p2) (e :: es) [] p3) (kcx P w K mg base N name qual params body scope cc cda f A outer s0 H0 E0).env = (do
      let ov ← attributeBase (.Call (.Name "super" p0) [] [] p1) "__init__" (kcx P w K mg base N name qual params body scope cc cda f A outer s0 H0 E0).env (eval (.Call (.Name "super" p0) [] [] p1) (kcx P w K mg base N name qual params body scope cc cda f A outer s0 H0 E0).env)
      standAt p2.atName
      let (fv, first) ← holding [ov] (getMethod ov "__init__" pl)
      callWith p3 fv first (backTo p3 (starEach (e :: es) (kcx P w K mg base N name qual params body scope cc cda f A outer s0 H0 E0).env)) []) := by rfl) :
    P1A (kcx P w K mg base N name qual params body scope cc cda f A outer s0 H0 E0) (kcode name qual params body scope cc cda f s0) W n0 (.Expr (.Call (.Attribute (.Call (.Name "super" p0) [] [] p1) "__init__" p2) (e :: es) [] p3) pos) (mDrop (mSup c n fs ms)) := by
  obtain ⟨oc, od, dV, kV, doc, pm, an, ct, osl, lk⟩ := T.lk
  refine ⟨fun ρ => ⟨fun pins s σ H D I q => (psa_super (pl := pl) T.S lk T.hp T.hks T.hkc T.hka hk T.hN Fg hr tk (ha.run ρ) hst hpl hsw ht).run pins s σ H D I ?_⟩⟩
  obtain ⟨F, st, h⟩ := q
  unfold mDrop mSup at h
  cases ei : ρ[0]? with
  | none => rw [ei] at h; exact h.elim
  | some sl =>
    rw [ei] at h
    cases sl with
    | emp => exact h.elim
    | val d => exact h.elim
    | own oc => cases oc with
      | lst l => exact h.elim
      | dct k l => exact h.elim
      | ins c' ns ds =>
        have h2 : PostS K W n0 D σ ρ F H ((if c' = c then mFnO n fs 0 ms ρ else .no).toS fun _ ρ1 => .nx ρ1) := h
        by_cases ec : c' = c
        · rw [if_pos ec] at h2
          subst ec
          obtain ⟨a, dx, vs, ha', hH, _, _, _⟩ := own_ins st ei
          have te : tE K W ρ (mFnO n fs 0 ms ρ) σ H (fun _ H2 => D.nx σ H2) := ⟨F, st, PostS.bind (k := fun _ ρ1 => .nx ρ1) h2 fun a ρ1 v F1 H1 e1 g1 s1 sh1 r1 h1 => h1 σ F1 H1 .refl s1⟩
          obtain ⟨v, ev, q2⟩ := fnO_imp te
          rw [ha'] at ev
          cases ev
          exact ⟨a, dx, _, ha', hH, q2⟩
        · rw [if_neg ec] at h2; exact h2.elim

/-- how a closure's body is run, whatever the binding makes -/
theorem runk_bnd {ar : Arg} {ps : List Str} {k : Nat} {args : Args} {Q : VK} {s : Shared} {H : Hp} {E : XK} {G : List V → Hp → Prop} (T : KFn P K mg N name qual c params body scope cc cda f g ar) (S : NScope N ps ["__class__"] scope) (hr : Room (k + 1) A) (e0 : Env0 P w K mg base A outer s H)
    (hb : ∀ oc od dV kV doc pm an ct osl, K.lookup f = some ⟨oc, od, .func (PySem.W.fnX name qual params body scope [("__class__", cc)] dV kV doc pm an (.ref cda) ct), osl⟩ → StX.Bnd (L2N.CX P w) P w K mg base (PySem.W.fnX name qual params body scope [("__class__", cc)] dV kV doc pm an (.ref cda) ct) args ps A outer s H E G)
    (hbody : ∀ (s2 : Shared) (H2 : Hp) (vs : List V), G vs H2 → Room k (A.deeper (envF (nfk name qual params body scope cc cda) f s2.heap.objs.size)) →
      ∃ t, PSAs (kcx P w K mg base N name qual params body scope cc cda f A outer s2 H2 E) (kcode name qual params body scope cc cda f s2) body t ∧ t { nx := fun _ H' => Q .non H', rt := Q } (startF N vs [none]) H2) :
    codeAny (model P w) A (.call (.ref f) args) (CR (L2N.CX P w) outer P w H s Q E) s := by
  obtain ⟨oc, od, dV, kV, doc, pm, an, ct, osl, lk⟩ := T.lk
  have KX : K.In s.heap := e0.mod.kin.keeps fun b o e => (e0.bs b o e).1
  refine codeAny_call_function hr.depth (KX _ _ lk) rfl S.co S.gen rfl (PySem.W.codeRec_of KX T.cd) ?_
  refine hb _ _ _ _ _ _ _ _ _ lk _ _ _ fun s2 H2 vs us e2 un ho hx r hl g => ?_
  have lim : s2.heap.NoLimit := e0.mod.nolimit.keeps fun b o e => (e2.bs b o e).1
  obtain ⟨cl, cld, csl, hcell⟩ := T.S.cell
  have KB : K.In base := e0.mod.kin
  have C : CellsAt [("__class__", cc)] ["__class__"] [none] s2.heap H2 := by
    have hc := e2.bs _ _ (KB _ _ hcell)
    refine ⟨rfl, fun y a e => ?_, fun x y a e1 e2 => ?_, fun i y e => ?_⟩
    · have ey : a = cc := by
        simp only [List.lookup] at e
        split at e <;> first | (cases e; rfl) | cases e
      subst ey
      exact ⟨hc.2, _, _, hc.1, rfl⟩
    · have key : ∀ {z : Str}, ([("__class__", cc)] : List (Str × Addr)).lookup z = some a → z = "__class__" := fun {z} e => by
        simp only [List.lookup] at e
        split at e
        · rename_i q; exact beq_iff_eq.mp q
        · cases e
      rw [key e1, key e2]
    · cases i with
      | zero =>
        have ey : ("__class__" : Str) = y := by simpa using e
        subst ey
        exact ⟨cc, rfl, fun v ev => by simp at ev⟩
      | succ i => simp at e
  refine wpAny_newFunctionEnv (s := s2) S.nocell (fun ⟨n, _⟩ hy => S.par n (List.of_mem_zip hy).1) (fun h₁ hns hsb => ⟨lim.fresh _ hsb, ?_⟩) S.kind
  show codeAny _ _ (.func body (envF (nfk name qual params body scope cc cda) f s2.heap.objs.size)) _ _
  refine ks_codeAny_funcAt ?_
  have kp : ∀ b o, s2.heap.get? b = some o → h₁.get? b = some o := fun b o e => hsb.extBut b o (Nat.ne_of_lt (Heap.lt_size e)) (Heap.get?_push_of_some _ e)
  obtain ⟨t, ht, hq⟩ := hbody s2 H2 vs g (hr.deeper _)
  have I : Inv (kcx P w K mg base N name qual params body scope cc cda f A outer s2 H2 E) [] (startF N vs [none]) H2 { s2 with heap := h₁, toks := s2.toks + (ps.zip us).length } := inv_startN S hr.hd e2 hl r C hns kp
  refine ks_wpAt_mono (ht.run [] _ _ _ _ I hq) (fun fl s' hs => ?_) fun e s' hs => ?_
  · have fin : ∀ {σ' : L2.St} {H' : Hp} {v' : V} {u' : Value}, Inv (kcx P w K mg base N name qual params body scope cc cda f A outer s2 H2 E) [] σ' H' s' → L2.RelV v' u' → Q v' H' → CE outer P w H s Q u' s' :=
      fun {σ' H' v' u'} J rv' q => ⟨v', H', J.os.trans ho, J.bare, un.trans J.base, J.hok, rv', q⟩
    cases fl with
    | ret u' =>
      obtain ⟨v', σ', H', J, rv', q⟩ := hs
      exact fin J rv' q
    | next =>
      obtain ⟨σ', H', J, q⟩ := hs
      exact fin (v' := V.non) (u' := Value.none) J rfl q
    | brk =>
      obtain ⟨_, _, _, q⟩ := hs
      exact False.elim q
    | cont =>
      obtain ⟨_, _, _, q⟩ := hs
      exact False.elim q
  · exact wpAny_mono hs (fun _ s'' z => hx e s'' z) fun e' s'' z => hx e' s'' z
theorem startF_eq {N : List Str} {vs : List V} (h : vs.length + 1 ≤ N.length) : startF N vs [none] = L2.start N vs := by
  unfold startF L2.start
  congr 1
  have e : N.length - vs.length = (N.length - vs.length - 1) + 1 := by omega
  rw [e, List.replicate_succ]
  show none :: List.replicate (N.length - vs.length - 1) none = _
  rfl
theorem len_of {N ps : List Str} {sc : Scope} (S : NScope N ps ["__class__"] sc) : ps.length + 1 ≤ N.length := by
  have q := congrArg List.length S.pre
  rw [List.length_take, List.length_append] at q
  have : (["__class__"] : List Str).length = 1 := rfl
  omega
/-- a closure over its class, all its parameters given -/
theorem fnk_pd {ar : Arg} {ps : List Str} {k : Nat} (m : MS) (T : KFn P K mg N name qual c params body scope cc cda f g ar) (S : NScope N ps ["__class__"] scope)
    (hb : ∀ dV kV doc pm an ct (us : List Value), dV = Value.none → us.length = ps.length → bindArgs (PySem.W.fnX name qual params body scope [("__class__", cc)] dV kV doc pm an (.ref cda) ct) ⟨us, []⟩ = pure (ps.zip us))
    (hbody : ∀ (A : Around) (outer : List PySem.Env) (s : Shared) (H : Hp) (E : XK), Room k (A.deeper (envF (nfk name qual params body scope cc cda) f s.heap.objs.size)) → L2N.Takes (kcx P w K mg base N name qual params body scope cc cda f A outer s H E) (fun cls d _ H => E cls d H) →
      PassesOwn (model P w) (kcx P w K mg base N name qual params body scope cc cda f A outer s H E).A (kcx P w K mg base N name qual params body scope cc cda f A outer s H E).env (kcx P w K mg base N name qual params body scope cc cda f A outer s H E).xe →
      PBA (kcx P w K mg base N name qual params body scope cc cda f A outer s H E) (kcode name qual params body scope cc cda f s) (fun cls d _ H => E cls d H) ps.length body m) :
    FnR P w K mg base (L2N.CX P w) (k + 1) f (spF K ps.length (runB ps.length N.length m)) := by
  intro A outer s H us vs Q E hr e0 r h
  obtain ⟨hn, ρ, F0, st0, h⟩ := h
  refine runk_bnd T S hr e0 (G := fun xs H2 => xs = vs ∧ H2 = H) (fun oc od dV kV doc pm an ct osl lk A' Ex Q' hq => ?_) fun s2 H2 xs hg hr' => ?_
  · rw [hb dV kV doc pm an ct us (T.nd _ _ _ _ lk) (by rw [← r.length]; exact hn)]
    exact wpAny_pure (hq s H vs us e0 Un.refl rfl (fun _ _ z => z) r hn ⟨rfl, rfl⟩)
  · obtain ⟨rfl, rfl⟩ := hg
    refine ⟨_, (hbody A outer s2 _ E hr' (L2N.takes_of rfl rfl rfl rfl) (passes_of rfl)).run (ρ ++ List.replicate (N.length - ps.length) .emp), ?_⟩
    rw [startF_eq (by rw [hn]; exact len_of S)]
    exact run_body hn st0 h fun _ _ _ _ _ z => z

/-! ### *parts -/
def valsOf : En → Option (List D)
  | [] => some []
  | .val d :: r => (valsOf r).map (d :: ·)
  | _ => none
theorem valsOf_eq : ∀ {ρ : En} {ds : List D}, valsOf ρ = some ds → ρ = ds.map .val
  | [], _, h => by cases h; rfl
  | .val d :: r, ds, h => by
    obtain ⟨es, h1, h2⟩ := Option.map_eq_some_iff.mp h
    subst h2
    rw [List.map_cons, valsOf_eq h1]
  | .emp :: r, _, h => by cases h
  | .own _ :: r, _, h => by cases h
/-- from the n-th on the arguments are one tuple -/
def starF (n : Nat) (f : En → Res RV) : En → Res RV := fun ρ => match valsOf (ρ.drop n) with
  | some ds => if n ≤ ρ.length ∧ ds.length ≤ top1 then (match f (ρ.take n ++ [.val (.tup ds)]) with
    | .ok a ρ' => .ok a (ρ'.take n ++ ρ.drop n)
    | .er x ρ' => .er x (ρ'.take n ++ ρ.drop n)
    | .no => .no) else .no
  | none => .no
theorem star_imp {vs : List V} {ρ : En} {F H : Hp} {Q : VK} {W : WX} {n : Nat} {fs : En → Res RV} (hW : ∀ c d σ σ' H, W c d σ H → W c d σ' H) (st : StOk K F H (vs.map some) ρ) (h : Post K W (RepV K) (vs.map some) ρ F H (starF n fs ρ) Q) : n ≤ vs.length ∧ (vs.drop n).length ≤ sizeLine ∧
    ∀ p, H p = none → ∃ ρ', tE K W ρ' (fs ρ') ((vs.take n ++ [V.ref p]).map some) (upd H p (.tup (vs.drop n))) Q := by
  unfold starF at h
  have hl : vs.length = ρ.length := by have := st.len; rw [List.length_map] at this; exact this
  cases ev : valsOf (ρ.drop n) with
  | none => rw [ev] at h; exact h.elim
  | some ds =>
    rw [ev] at h
    have h2 : Post K W (RepV K) (vs.map some) ρ F H (if n ≤ ρ.length ∧ ds.length ≤ top1 then (match fs (ρ.take n ++ [.val (.tup ds)]) with
      | .ok a ρ' => .ok a (ρ'.take n ++ ρ.drop n)
      | .er x ρ' => .er x (ρ'.take n ++ ρ.drop n)
      | .no => .no) else .no) Q := h
    by_cases cn : n ≤ ρ.length ∧ ds.length ≤ top1
    · rw [if_pos cn] at h2
      obtain ⟨c1, c2⟩ := cn
      have ed := valsOf_eq ev
      have el : (vs.drop n).length = ds.length := by
        have := congrArg List.length ed
        rw [List.length_drop, List.length_map] at this
        rw [List.length_drop, hl]; exact this
      refine ⟨by omega, top1_le (by rw [el]; exact c2), fun p hp => ⟨ρ.take n ++ [.val (.tup ds)], ?_⟩⟩
      have at1 : ∀ {i : Nat}, i < n → ((vs.take n ++ [V.ref p]).map some)[i]? = (vs.map some)[i]? := fun {i} hi => by
        rw [List.getElem?_map, List.getElem?_map, List.getElem?_append_left (by rw [List.length_take]; omega), List.getElem?_take_of_lt hi]
      have at2 : ∀ {i : Nat}, i < n → (ρ.take n ++ [Sl.val (.tup ds)])[i]? = ρ[i]? := fun {i} hi => by
        rw [List.getElem?_append_left (by rw [List.length_take]; omega), List.getElem?_take_of_lt hi]
      have at3 : ((vs.take n ++ [V.ref p]).map some)[n]? = some (some (.ref p)) := by
        rw [List.getElem?_map, List.getElem?_append_right (by rw [List.length_take]; omega), List.length_take, show n - min n vs.length = 0 by omega]; rfl
      have at4 : (ρ.take n ++ [Sl.val (.tup ds)])[n]? = some (.val (.tup ds)) := by
        rw [List.getElem?_append_right (by rw [List.length_take]; omega), List.length_take, show n - min n ρ.length = 0 by omega]; rfl
      have rd : Reps K F ds (vs.drop n) := by
        have key : ∀ {ds : List D} {ws : List V}, ds.length = ws.length → (∀ (i : Nat) (d : D) (v : V), ds[i]? = some d → ws[i]? = some v → Rep K F d v) → Reps K F ds ws := by
          intro ds
          induction ds with
          | nil => intro ws hl _; cases ws with
            | nil => exact .nil
            | cons w ws => cases hl
          | cons d ds ih => intro ws hl hh; cases ws with
            | nil => cases hl
            | cons w ws => exact .cons (hh 0 d w rfl rfl) (ih (Nat.succ.inj hl) fun i d' v' h1 h2 => hh (i + 1) d' v' h1 h2)
        refine key el.symm fun i d v h1 h3 => ?_
        have q1 : ρ[n + i]? = some (.val d) := by
          rw [← List.getElem?_drop, ed, List.getElem?_map, h1]; rfl
        have q2 : (vs.map some)[n + i]? = some (some v) := by
          rw [List.getElem?_map, ← List.getElem?_drop, h3]; rfl
        exact st.sl _ _ _ q2 q1
      obtain ⟨g, ge⟩ := gr_new (o := .tup (vs.drop n)) st.same hp
      have s1 := st.grow g ge
      have ownlt : ∀ {i : Nat} {l}, (ρ.take n ++ [Sl.val (.tup ds)])[i]? = some (Sl.own l) → i < n ∧ ρ[i]? = some (.own l) := fun {i l} e => by
        by_cases hi : i < n
        · exact ⟨hi, by rw [← at2 hi]; exact e⟩
        · by_cases hi2 : i = n
          · subst hi2; rw [at4] at e; cases e
          · rw [List.getElem?_eq_none (by rw [List.length_append, List.length_take]; show min n ρ.length + 1 ≤ i; omega)] at e; cases e
      have hlen : ((vs.take n ++ [V.ref p]).map some).length = (ρ.take n ++ [Sl.val (.tup ds)]).length := by
        rw [List.length_map, List.length_append, List.length_append, List.length_take, List.length_take, hl]; rfl
      have s2 : StOk K (upd F p (.tup (vs.drop n))) (upd H p (.tup (vs.drop n))) ((vs.take n ++ [V.ref p]).map some) (ρ.take n ++ [.val (.tup ds)]) := by
        refine ⟨ge, hlen, fun i x sl e1 e2 => ?_, fun i j a d e h1 h2 h3 h4 => ?_⟩
        · by_cases hi : i < n
          · rw [at1 hi] at e1
            rw [at2 hi] at e2
            exact s1.sl i x sl e1 e2
          · by_cases hi2 : i = n
            · subst hi2
              rw [at3] at e1
              rw [at4] at e2
              cases e1; cases e2
              exact .tup (.inl (Rd.of upd_same)) (rd.mono g.ff)
            · rw [List.getElem?_eq_none (by rw [List.length_append, List.length_take]; show min n ρ.length + 1 ≤ i; omega)] at e2; cases e2
        · obtain ⟨i1, i2⟩ := ownlt h1
          obtain ⟨j1, j2⟩ := ownlt h2
          rw [at1 i1] at h3
          rw [at1 j1] at h4
          exact st.inj i j a d e i2 j2 h3 h4
      refine ⟨_, s2, ?_⟩
      have back : ∀ {F' H' : Hp} {ρ' : En}, Grow (Own ((vs.take n ++ [V.ref p]).map some) (ρ.take n ++ [.val (.tup ds)])) (upd F p (.tup (vs.drop n))) (upd H p (.tup (vs.drop n))) F' H' → StOk K F' H' ((vs.take n ++ [V.ref p]).map some) ρ' → shape ρ' = shape (ρ.take n ++ [Sl.val (.tup ds)]) →
          Grow (Own (vs.map some) ρ) F H F' H' ∧ StOk K F' H' (vs.map some) (ρ'.take n ++ ρ.drop n) ∧ shape (ρ'.take n ++ ρ.drop n) = shape ρ := fun {F' H' ρ'} gr s' sh => by
        have g2 : Grow (Own (vs.map some) ρ) F H F' H' := (g.imp fun _ z => z.elim).trans (gr.imp fun b ⟨i, l, e1, e2⟩ => by
          obtain ⟨i1, i2⟩ := ownlt e1
          exact ⟨i, l, i2, by rw [← at1 i1]; exact e2⟩)
        have l' : ρ'.length = n + 1 := by
          have := s'.len
          rw [hlen, List.length_append, List.length_take] at this
          rw [← this]
          show min n ρ.length + 1 = n + 1
          omega
        have b1 : ∀ {i : Nat}, i < n → (ρ'.take n ++ ρ.drop n)[i]? = ρ'[i]? := fun {i} hi => by rw [List.getElem?_append_left (by rw [List.length_take]; omega), List.getElem?_take_of_lt hi]
        have b2 : ∀ {i : Nat}, ¬ i < n → (ρ'.take n ++ ρ.drop n)[i]? = ρ[i]? := fun {i} hi => by
          rw [List.getElem?_append_right (by rw [List.length_take]; omega), List.length_take, List.getElem?_drop]
          congr 1; omega
        have isval : ∀ {i : Nat} {x : Sl}, ¬ i < n → ρ[i]? = some x → ∃ d, x = .val d := fun {i x} hi e => by
          have q : (ρ.drop n)[i - n]? = some x := by rw [List.getElem?_drop, show n + (i - n) = i by omega]; exact e
          rw [ed, List.getElem?_map] at q
          cases qd : ds[i - n]? with
          | none => rw [qd] at q; cases q
          | some d => rw [qd] at q; cases q; exact ⟨d, rfl⟩
        refine ⟨g2, ⟨s'.same, by rw [List.length_map, List.length_append, List.length_take, List.length_drop]; omega, fun i x sl e1 e2 => ?_, fun i j a d e h1 h2 h3 h4 => ?_⟩, ?_⟩
        · by_cases hi : i < n
          · rw [b1 hi] at e2
            exact s'.sl i x sl (by rw [at1 hi]; exact e1) e2
          · rw [b2 hi] at e2
            obtain ⟨d, rfl⟩ := isval hi e2
            have z := st.sl i x _ e1 e2
            cases x with
            | none => exact z
            | some v => exact Rep.mono g2.ff z
        · have lt : ∀ {i : Nat} {l}, (ρ'.take n ++ ρ.drop n)[i]? = some (Sl.own l) → i < n := fun {i l} e => Decidable.byContradiction fun hi => by
            rw [b2 hi] at e
            obtain ⟨d, z⟩ := isval hi e
            cases z
          have i1 := lt h1
          have j1 := lt h2
          rw [b1 i1] at h1
          rw [b1 j1] at h2
          exact s'.inj i j a d e h1 h2 (by rw [at1 i1]; exact h3) (by rw [at1 j1]; exact h4)
        · apply List.ext_getElem?
          intro i
          rw [List.getElem?_map, List.getElem?_map]
          by_cases hi : i < n
          · have q := congrArg (fun l : List Bool => l[i]?) sh
            simp only [List.getElem?_map] at q
            rw [b1 hi, q, at2 hi]
          · rw [b2 hi]
      cases ef : fs (ρ.take n ++ [.val (.tup ds)]) with
      | no => rw [ef] at h2; exact h2.elim
      | ok a ρ' =>
        rw [ef] at h2
        intro v F' H' gr s' sh q
        obtain ⟨k1, k2, k3⟩ := back gr s' sh
        exact h2 v F' H' k1 k2 k3 (repV_back H _ F' H' a v (fun b z => by
          by_cases eb : b = p
          · rw [eb, hp] at z; exact absurd rfl z
          · rw [upd_ne eb]; exact z) q)
      | er x ρ' =>
        rw [ef] at h2
        intro cls d F' H' gr s' sh q
        obtain ⟨k1, k2, k3⟩ := back gr s' sh
        exact hW _ _ _ _ _ (h2 cls d F' H' k1 k2 k3 q)
    · rw [if_neg cn] at h2; exact h2.elim
/-- a closure over its class whose last parameter takes all that is left -/
theorem fnk_star {ar : Arg} {ps : List Str} {pv : Str} {k : Nat} (m : MS) (T : KFn P K mg N name qual c params body scope cc cda f g ar) (S : NScope N (ps ++ [pv]) ["__class__"] scope)
    (hb : ∀ dV kV doc pm an ct (us rest : List Value), dV = Value.none → us.length = ps.length → bindArgs (PySem.W.fnX name qual params body scope [("__class__", cc)] dV kV doc pm an (.ref cda) ct) ⟨us ++ rest, []⟩ = (newTuple rest >>= fun t => pure (ps.zip us ++ [(pv, t)])))
    (hbody : ∀ (A : Around) (outer : List PySem.Env) (s : Shared) (H : Hp) (E : XK), Room k (A.deeper (envF (nfk name qual params body scope cc cda) f s.heap.objs.size)) → L2N.Takes (kcx P w K mg base N name qual params body scope cc cda f A outer s H E) (fun cls d _ H => E cls d H) →
      PassesOwn (model P w) (kcx P w K mg base N name qual params body scope cc cda f A outer s H E).A (kcx P w K mg base N name qual params body scope cc cda f A outer s H E).env (kcx P w K mg base N name qual params body scope cc cda f A outer s H E).xe →
      PBA (kcx P w K mg base N name qual params body scope cc cda f A outer s H E) (kcode name qual params body scope cc cda f s) (fun cls d _ H => E cls d H) (ps.length + 1) body m) :
    FnR P w K mg base (L2N.CX P w) (k + 1) f (spV K (starF ps.length (runB (ps.length + 1) N.length m))) := by
  intro A outer s H us vs Q E hr e0 r h
  obtain ⟨ρ, F0, st0, h⟩ := h
  obtain ⟨hn, hz, hall⟩ := star_imp (fun _ _ _ _ _ z => z) st0 h
  obtain ⟨u1, u2, eu, r1, r2⟩ := StX.vals_split (ws := vs.take ps.length) (rest := vs.drop ps.length) (by rw [List.take_append_drop]; exact r)
  subst eu
  have hl1 : u1.length = ps.length := by rw [← r1.length, List.length_take]; omega
  have hl2 : u2.length ≤ sizeLine := by rw [← r2.length]; exact hz
  have hnn : H s.heap.objs.size = none := e0.hok.fresh (Nat.le_refl _)
  refine runk_bnd T S hr e0 (G := fun xs H2 => ∃ p, H p = none ∧ xs = vs.take ps.length ++ [V.ref p] ∧ H2 = upd H p (.tup (vs.drop ps.length))) (fun oc od dV kV doc pm an ct osl lk A' Ex Q' hq => ?_) fun s2 H2 xs hg hr' => ?_
  · rw [hb dV kV doc pm an ct u1 u2 (T.nd _ _ _ _ lk) hl1]
    refine wpAny_bind (wpAny_newTuple (wpAny_pure ?_) hl2)
    have new : ObjOk P w (upd H s.heap.objs.size (.tup (vs.drop ps.length))) (s.heap.push ({ cls := .type "tuple", data := .seq u2.toArray } : Obj)) s.heap.objs.size (.tup (vs.drop ps.length)) := ⟨hz, u2, r2, ⟨_, Heap.get?_push_size _ rfl, rfl, _, rfl⟩⟩
    have un := StX.un_laid (fs := frs outer) (s := s) (o := ({ cls := .type "tuple", data := .seq u2.toArray } : Obj)) (u := .tup (vs.drop ps.length)) hnn
    have z := hq _ _ (vs.take ps.length ++ [V.ref s.heap.objs.size]) (u1 ++ [Value.ref s.heap.objs.size]) (StX.env0_laid e0 new) un rfl (fun e s' => cxUpN outer s H _ _ E e s' un (fun b o q => Heap.get?_push_of_some _ q) rfl) (r1.append (.cons rfl .nil))
      (by rw [List.length_append, List.length_append, List.length_take]; show min ps.length vs.length + 1 = ps.length + 1; omega) ⟨_, hnn, rfl, rfl⟩
    rw [List.zip_append hl1.symm] at z
    exact z
  · obtain ⟨p, hp, rfl, rfl⟩ := hg
    obtain ⟨ρ', F1, st1, h1⟩ := hall p hp
    refine ⟨_, (hbody A outer s2 _ E hr' (L2N.takes_of rfl rfl rfl rfl) (passes_of rfl)).run (ρ' ++ List.replicate (N.length - (ps.length + 1)) .emp), ?_⟩
    have hl : (vs.take ps.length ++ [V.ref p]).length = ps.length + 1 := by rw [List.length_append, List.length_take]; show min ps.length vs.length + 1 = ps.length + 1; omega
    rw [startF_eq (by rw [hl]; have := len_of S; rw [List.length_append] at this; exact this)]
    exact run_body hl st1 h1 fun _ _ _ _ _ z => z
end
end PD
end
section
set_option Elab.async false
set_option linter.all false
set_option maxRecDepth 100000
set_option maxHeartbeats 2000000
namespace PD
open PySem PySem.Spec PyProof.Rows L2 L2H HotX

/-! ### an own exception: D.__init__(self, ..), D a class that takes ValueError's; self.f = e -/
structure BaseRd (K : PySem.W.Frag) (mg : Str → Option Value) (d : Str) : Prop where
  gl : mg d = some (.ref (He.ga K d))
  rd : PySem.W.readsIn K (He.ga K d) (.type "type") = true
  ga : PySem.W.specialIn K (.ref (He.ga K d)) "__getattribute__" = some (some (.builtin "type.__getattribute__"))
  init : PySem.W.findCls K (.ref (He.ga K d)) (.type "type") "__init__" = some (.val (.builtin "ValueError.__init__"))
section
variable {X : Cx} {e : Expr} {es : List Expr} {ta : TA} {p1 p2 pos : Pos} {d : Str}
theorem pe_binit {pl : Sem Bool} (B : BaseRd X.K X.mg d) (hg : Gl X d) (ha : PA X (e :: es) ta) (hdb : (d == ("__debug__" : Str)) = false := by decide)
    (hc : eval (.Call (.Attribute (.Name d p1) "__init__" p2) (e :: es) [] pos) X.env = (do
      let ov ← eval (.Name d p1) X.env
      standAt p2.atName
      let (f, first) ← holding [ov] (getMethod ov "__init__" pl)
      callWith pos f first (backTo pos (starEach (e :: es) X.env)) (backToKw pos (keywordEach [] X.env))) := by rfl)
    (he : starEach (e :: es) X.env = (false, eval e X.env) :: starEach es X.env := by rfl) (hpl : (backTo pos (starEach es X.env)).any (·.1) = false := by rfl) :
    PE X (.Call (.Attribute (.Name d p1) "__init__" p2) (e :: es) [] pos) (tVeI X.K ta) := by
  refine ⟨fun pins s σ H Q I h => ?_⟩
  refine PySem.W.methodCall_KW (ld_glob I hg B.gl ?_ hdb) hc
  refine PySem.W.method_cls I.kIn B.ga (PySem.W.cls_value I.kIn B.rd B.init (by decide +kernel) ?_)
  show wpAny _ _ (callWith pos (Value.builtin "ValueError.__init__") [] (backTo pos (starEach (e :: es) X.env)) []) _ _ _
  refine PyProof.Rows.callWith_method1 (thn (ha.run pos pins _ σ H _ (I.tok _) h) fun us s1 ⟨vs, H1, I1, r1, a, C, ws, ev, hl, T, ea, q⟩ => ?_) he hpl
  subst ev
  cases r1 with
  | @cons _ u0 _ ur ra rw' =>
    obtain rfl : u0 = Value.ref a := ra
    have hlen : ur.length ≤ sizeLine := by
      rw [← Paired.length rw', sizeLine_eq]
      omega
    exact oinit_ok T I1 ea hlen fun s' J => ⟨.non, H1, J, rfl, q⟩
end
/-- what such an __init__ promises -/
def spXI (K : PySem.W.Frag) (C : Addr) (f : Str) : Sp := fun vs H Q _ => ∃ (a : Addr) (v : V), vs = [.ref a, v] ∧ H a = some (exo a C none) ∧ ∀ dx, H dx = none → dx ≠ a → Q .non (upd (upd H dx (exd dx [(f, v)])) a (exo a C (some dx)))
/-- its body's reading -/
def tXI (K : PySem.W.Frag) (z : Str) (f : Str) : TS := tSeq (tDrop (tVeI K (tCons (tVar 0) (tCons (tC (.str z)) tNil)))) (tOst K f (tVar 0) (tVar 1))
def xiBody (d z f x : Str) (j : Nat) (p1 p2 p3 p4 p5 p6 p7 p8 p9 p10 : Pos) : List Stmt :=
  [.Expr (.Call (.Attribute (.Name d p1) "__init__" p2) [.Name "self" p3, .Constant (.str z) j p4] [] p5) p6, .Assign [.Attribute (.Name "self" p7) f p8] (.Name x p9) p10]
theorem xi_run {K : PySem.W.Frag} {C : Addr} {z f x : Str} (T : OexC K C) (no : PySem.W.findIn K (.ref C) f = some none) {vs : List V} {H : Hp} {Q : VK} {E : XK} (h : spXI K C f vs H Q E) : tXI K z f { nx := fun _ H' => Q .non H', rt := Q } (L2.start [("self" : Str), x] vs) H := by
  obtain ⟨a, v, rfl, ha, q⟩ := h
  refine ⟨.ref a, rfl, a, C, [.str z], rfl, by show 1 ≤ 1000; decide, T, ha, ?_⟩
  exact ⟨v, rfl, .ref a, rfl, a, C, rfl, T, no, .inl ⟨ha, fun dx hd hne => q dx hd hne⟩⟩
/-- what is known of an own exception class x with the one field f -/
structure ExcOk (P : Program) (w : World) (K : PySem.W.Frag) (mg : Str → Option Value) (base : Heap) (x f : Str) : Prop where
  gl : mg x = some (.ref (He.ga K x))
  cls : OexC K (He.ga K x)
  xf : XfC K (He.ga K x)
  no : PySem.W.findIn K (.ref (He.ga K x)) f = some none
  ex : ∃ fI fd ps, PySem.W.findIn K (.ref (He.ga K x)) "__init__" = some (some (.ref fI)) ∧ PySem.W.typeIn K (.ref fI) = some (.type "function") ∧ FnOk P w K mg base (L2N.CX P w) 1 fI fd ps (spXI K (He.ga K x) f) ∧
    FnH P w K mg base (L2.CX P w) 1 fI fd ps (spXI K (He.ga K x) f) ∧ Binds K fd ps []
section
variable {P : Program} {w : World} {K : PySem.W.Frag} {mg : Str → Option Value} {base : Heap}
theorem exc_ok {x f z y qual : Str} {params : Arguments} {body : List Stmt} {scope : Scope} {j : Nat} {p1 p2 p3 p4 p5 p6 p7 p8 p9 p10 : Pos} {fI : Addr} {fd : FuncData} (gl : mg x = some (.ref (He.ga K x))) (B : BaseRd K mg "CastError") (cls : OexC K (He.ga K x)) (xf : XfC K (He.ga K x))
    (no : PySem.W.findIn K (.ref (He.ga K x)) f = some none) (iC : PySem.W.findIn K (.ref (He.ga K x)) "__init__" = some (some (.ref fI))) (tI : PySem.W.typeIn K (.ref fI) = some (.type "function")) (F : FunD K "__init__" qual params body scope [] [] fI fd)
    (S : FnScope [("self" : Str), y] [("self" : Str), y] scope) (hbd : body = xiBody "CastError" z f y j p1 p2 p3 p4 p5 p6 p7 p8 p9 p10) (hs1 : scope.names.lookup ("self" : Str) = some .local) (hs2 : scope.names.lookup y = some .local) (hs3 : scope.names.lookup ("CastError" : Str) = some .globalImplicit) (hy : (y == ("__debug__" : Str)) = false) (hy2 : (y == ("__classdict__" : Str)) = false)
    (hbi : ∀ (dV kV doc pm : Value) (an : Option Addr) (cdv ct : Value) (us : List Value), us.length = 2 → bindArgs (PySem.W.fnOf "__init__" qual params body scope dV kV doc pm an cdv ct) ⟨us, []⟩ = pure ([("self" : Str), y].zip us))
    {pl : PySem.Env → Sem Bool} (hev : ∀ env : PySem.Env, eval (.Call (.Attribute (.Name "CastError" p1) "__init__" p2) [.Name "self" p3, .Constant (.str z) j p4] [] p5) env = (do
      let ov ← eval (.Name "CastError" p1) env
      standAt p2.atName
      let (f, first) ← holding [ov] (getMethod ov "__init__" (pl env))
      callWith p5 f first (backTo p5 (starEach [.Name "self" p3, .Constant (.str z) j p4] env)) (backToKw p5 (keywordEach [] env)))) : ∃ fd, 
    FnOk P w K mg base (L2N.CX P w) 1 fI fd [("self" : Str), y] (spXI K (He.ga K x) f) ∧ FnH P w K mg base (L2.CX P w) 1 fI fd [("self" : Str), y] (spXI K (He.ga K x) f) ∧ Binds K fd [("self" : Str), y] [] := by
  have len : ∀ vs H Q E, spXI K (He.ga K x) f vs H Q E → vs.length = [("self" : Str), y].length := fun vs H Q E ⟨a, v, e, _⟩ => by rw [e]; rfl
  have run : ∀ (X : Cx), X.K = K → X.mg = mg → X.N = [("self" : Str), y] → X.env.scope = scope → PSs X (xiBody "CastError" z f y j p1 p2 p3 p4 p5 p6 p7 p8 p9 p10) (tXI K z f) := fun X hK hm hN hsc => by
    subst hK
    have v0 : X.N[0]? = some ("self" : Str) := by rw [hN]; rfl
    have v1 : X.N[1]? = some y := by rw [hN]; rfl
    have k0 : Vis X.env.scope "self" := .inl (by rw [hsc]; exact hs1)
    have k1 : Vis X.env.scope y := .inl (by rw [hsc]; exact hs2)
    have kd : Gl X "CastError" := by show X.env.scope.names.lookup ("CastError" : Str) = _; rw [hsc]; exact hs3
    have B' : BaseRd X.K X.mg "CastError" := by rw [hm]; exact B
    exact pss_cons (ps_expr (pe_binit B' kd (pa_cons (pe_var v0 k0) (pa_cons pe_str pa_nil)) (by decide) (hev X.env))) (pss_one (ps_ost (pe_var v0 k0) (pe_var v1 k1 hy hy2)))
  obtain ⟨oc, od, dV, kV, doc, pm, an, cdv, ct, osl, rfl, lk, hcd, _, _⟩ := F.ex
  subst hbd
  refine ⟨_, fn_of lk hcd S len fun A outer s H vs Q E hr h => ⟨_, run _ rfl rfl rfl rfl, xi_run cls no h⟩, fn_ofH lk hcd S len fun A outer s H vs Q E p hot hr h => ⟨_, run _ rfl rfl rfl rfl, xi_run cls no h⟩, Binds.all fun us hl => hbi _ _ _ _ _ _ _ us hl⟩
end
end PD
end
section
set_option Elab.async false
set_option linter.all false
set_option maxRecDepth 100000
set_option maxHeartbeats 2000000
namespace PD
open PySem PySem.Spec PyProof.Rows L2 L2H HotX

/-! ### raise X(e) -/
theorem pmkN {X : Cx} {x : Str} {e : Expr} {es : List Expr} {ta : TA} {p pos : Pos} {C fI : Addr} {k : Nat} {fd : FuncData} {ps : List Str} {sp : Sp} (T : OexC X.K C) (iC : PySem.W.findIn X.K (.ref C) "__init__" = some (some (.ref fI))) (tI : PySem.W.typeIn X.K (.ref fI) = some (.type "function"))
    (F1 : FnOk X.prog X.w X.K X.mg X.base (L2N.CX X.prog X.w) k fI fd ps sp) (hr : Room (k + 1) X.A) (hb : Binds X.K fd ps []) (hg : Gl X x) (hm : X.mg x = some (.ref C)) (ha : PA X (e :: es) ta)
    (hdb : (x == ("__debug__" : Str)) = false := by decide) (he : starEach (e :: es) X.env = (false, eval e X.env) :: starEach es X.env := by rfl) (hpl : (backTo pos (starEach es X.env)).any (·.1) = false := by rfl) :
    L2N.PMk X (.Call (.Name x p) (e :: es) [] pos) (tMkO C sp [] ta) := by
  intro pins s σ H Q I h
  obtain ⟨nm, q, N, bs, bm, sn, sub, ab, col, dd, k0, k1, k2, k3, k5, hC, hbm⟩ := T.cls
  refine wpAny_Call_Name_kw (ld_glob I hg hm ?_ hdb)
  refine PySem.W.callWith_K (h₀ := X.base) I.ok.mod.kin T.kC (thn (ha.run pos pins s σ H _ I h) fun us s1 ⟨vs, H1, I1, r1, hz, q1⟩ => ⟨I1.kIn, ?_⟩) he hpl
  show wpAny _ _ (call (.ref C) us) _ _ _
  obtain ⟨hp, g, dr, tk, os⟩ := s1
  have hsz : hp.objs.size ≤ hp.objs.size + 1 := Nat.le_succ _
  have hn : H1 (hp.objs.size + 1) = none := I1.hok.fresh hsz
  have hq := q1 (hp.objs.size + 1) hn
  rw [List.append_nil] at hq
  have kk : ∀ b o, hp.get? b = some o → ((hp.push (PySem.W.kdv_tup us)).push (PySem.HandSPX.excO C hp.objs.size)).get? b = some o := fun b o e => Heap.get?_push_of_some _ (Heap.get?_push_of_some _ e)
  have hget : ((hp.push (PySem.W.kdv_tup us)).push (PySem.HandSPX.excO C hp.objs.size)).get? (hp.objs.size + 1) = some (PySem.HandSPX.excO C hp.objs.size) := by heap_get
  have I2 : Inv X pins σ (upd H1 (hp.objs.size + 1) (exo (hp.objs.size + 1) C none)) ⟨(hp.push (PySem.W.kdv_tup us)).push (PySem.HandSPX.excO C hp.objs.size), g, dr, tk, os⟩ :=
    I1.laid (t' := tk) (a := hp.objs.size + 1) (o := exo (hp.objs.size + 1) C none) (h' := (hp.push (PySem.W.kdv_tup us)).push (PySem.HandSPX.excO C hp.objs.size)) kk hsz (exo_ok hget)
  have r2 : Vals (V.ref (hp.objs.size + 1) :: vs) (Value.ref (hp.objs.size + 1) :: us) := .cons rfl r1
  have hl : (Value.ref (hp.objs.size + 1) :: us ++ []).length = ps.length := by
    have e := r2.length
    rw [F1.len _ _ _ _ hq] at e
    rw [List.append_nil]
    exact e.symm
  have hus : us.length ≤ sizeLine := by
    rw [← Paired.length r1, sizeLine_eq]
    omega
  have b2 := hb _ (Value.ref (hp.objs.size + 1) :: us) I2.kIn hl
  rw [List.append_nil] at b2
  refine wpAny_call (PySem.HandSPX.call_own F.excBase_ValueError (fun Y => PySem.HandSPX.refsVE_contains Y bm hbm) (I1.kIn _ _ hC) (PySem.W.looks_findIn I1.kIn iC) (fun self => PySem.W.bind_fn I1.kIn self tI) hus
    (codeAny_mono (F1.run _ X.stack _ _ ⟨Value.ref (hp.objs.size + 1) :: us, []⟩ (Value.ref (hp.objs.size + 1) :: us) _ _ (fun _ _ _ => False) (hr.make C us []) (I2.env0.make C us []) b2 r2 hq) fun r s' hq' => ?_))
  cases r with
  | error er => obtain ⟨_, _, _, _, _, _, _, _, _, _, _, _, z⟩ := hq'; exact z.elim
  | ok fl =>
    cases fl with
    | ret u =>
      obtain ⟨v, H2, os2, bare2, un2, hok2, rv, ev, d, fs, ea, ed, hd1, q2⟩ := hq'
      subst ev
      obtain ⟨h2, g2, d2, t2, os'⟩ := s'
      obtain ⟨t0, G, J, kG, ge, hoe, na⟩ := mk_end0 (d2 := d2) (t2 := t2) I1 hsz kk un2 hok2 os2 bare2 ea ed hd1
      refine ⟨rv, ⟨hp.objs.size + 1, _, _, ⟨G, g2, d2, t2, os'⟩, _, .ref C, some d, rfl, J, kG, ge, hoe, ⟨rfl, rfl, fun vs hv => ?_⟩, rfl, rfl, na, rfl, bare2, raises_own T.exC T.tyC, q2⟩⟩
      cases hv
      rfl
    | next => exact False.elim hq'
    | brk => exact False.elim hq'
    | cont => exact False.elim hq'
def mRaise (x f : Str) (m : M) : MS := fun ρ => match m ρ with
  | .ok a ρ1 => .er ⟨x, [f], [a.d]⟩ ρ1
  | .er y ρ1 => .er y ρ1
  | .no => .no
section
variable {X : Cx} {W : WX} {n k : Nat} {x f : Str} {e : Expr} {m : M} {p p2 pos : Pos}
theorem raise_heap {K : PySem.W.Frag} {H1 : Hp} {a dx : Addr} {C : Addr} {fs : List (Str × V)} (ha : H1 a = none) (hne : dx ≠ a) : upd (del (upd (upd (upd H1 a (exo a C none)) dx (exd dx fs)) a (exo a C (some dx))) a) dx (.xd fs) = upd H1 dx (.xd fs) := by
  funext b
  by_cases hb : b = dx
  · rw [hb, upd_same, upd_same]
  · rw [upd_ne hb, upd_ne hb]
    by_cases hb2 : b = a
    · rw [hb2, del_same, ha]
    · rw [del_ne hb2, upd_ne hb2, upd_ne hb, upd_ne hb2]
/-- what the making of X(e) wants, from what raising it gives -/
theorem mk_want {K : PySem.W.Frag} {W : WX} {D : Ends} {σ : L2.St} {ρ : En} {H : Hp} {n : Nat} {C : Addr} (hC : C = He.ga K x) (h : tS K W n ρ (mRaise x f m ρ) D σ H) :
    tMkO C (spXI K C f) [] (tCons (tE K W ρ (m ρ)) tNil) σ H fun cls d H' => W cls d σ H' := by
  obtain ⟨F, s, h⟩ := h
  refine ⟨F, s, PostS.bindD (E := D) (n := n) (k := fun a ρ1 => .er ⟨x, [f], [a]⟩ ρ1) s (by unfold mRaise at h; cases em : m ρ <;> (rw [em] at h; exact h)) fun d ρ1 v F1 H1 e1 g1 s1 sh1 r1 h1 => ?_⟩
  refine ⟨by show 1 ≤ 1000; decide, fun a ha => ⟨a, v, rfl, upd_same, fun dx hdx hne => ⟨rfl, dx, [(f, v)], upd_same, by rw [upd_ne hne, upd_same], by rw [upd_ne hne] at hdx; exact hdx, ?_⟩⟩⟩
  rw [raise_heap (K := K) ha hne]
  rw [upd_ne hne] at hdx
  obtain ⟨g, ge⟩ := gr_new (o := .xd [(f, v)]) s1.same hdx
  exact h1 _ (some dx) σ _ _ (.ofE (g.imp fun _ z => z.elim) rfl) (s1.grow g ge) ⟨by rw [hC], dx, [v], rfl, upd_same, rfl, .cons (r1.mono g.ff) .nil⟩
theorem p1_raise (hc : X.calm = true) (tk : L2N.Takes X W) (E : ExcOk X.prog X.w X.K X.mg X.base x f) (hr : Room 2 X.A) (he : PX X W e m) (hg : Gl X x := by rfl) (hdb : (x == ("__debug__" : Str)) = false := by decide)
    (hs : starEach [e] X.env = (false, eval e X.env) :: starEach [] X.env := by rfl) : P1 X W n (.Raise (some (.Call (.Name x p) [e] [] pos)) none p2) (mRaise x f m) := by
  obtain ⟨fI, fd, ps, h1, h2, h3, h4, h5⟩ := E.ex
  exact ⟨fun ρ => PS.imp (L2N.ps_raise hc tk (pmkN E.cls h1 h2 h3 hr h5 hg E.gl (pa_cons (he.run ρ) pa_nil hs) hdb hs (by rfl))) fun D σ H h => mk_want rfl h⟩
end

/-! ### try: .. except X as e: .. -/
/-- slot i is emptied -/
def clrE (i : Nat) (ρ : En) : Option En := match ρ[i]? with
  | some (.own _) => none
  | some _ => some (ρ.set i .emp)
  | none => none
def clr (i : Nat) : Out → Out
  | .nx ρ => (match clrE i ρ with | some r => .nx r | none => .no)
  | .bk ρ => (match clrE i ρ with | some r => .bk r | none => .no)
  | .ct ρ => (match clrE i ρ with | some r => .ct r | none => .no)
  | .rt v ρ => (match clrE i ρ with | some r => .rt v r | none => .no)
  | .er x ρ => .er x ρ
  | .no => .no
/-- em: whether the clause takes an exception of the class; mh: what the suite is worth, slot i (the exception) being empty for it -/
def mTry (em : Str → Option Bool) (i : Nat) (mb : MS) (mh : Exn → MS) : MS := fun ρ => match mb ρ with
  | .er y ρ1 => (match em y.c with
    | some true => (match clrE i ρ1 with
      | some ρ2 => (match mh y ρ2 with
        | .er _ _ => .no
        | o => clr i o)
      | none => .no)
    | some false => .er y ρ1
    | none => .no)
  | o => o
section
variable {K : PySem.W.Frag} {σ : L2.St} {ρ ρ' : En} {F H : Hp} {i : Nat}
theorem clrE_some (h : clrE i ρ = some ρ') : ∃ o, ρ[i]? = some o ∧ o.isOwn = false ∧ ρ' = ρ.set i .emp := by
  unfold clrE at h
  cases e : ρ[i]? with
  | none => rw [e] at h; cases h
  | some o =>
    rw [e] at h
    cases o with
    | own l => cases h
    | emp => cases h; exact ⟨_, rfl, rfl, rfl⟩
    | val d => cases h; exact ⟨_, rfl, rfl, rfl⟩
/-- slot i: empty, whatever it holds -/
theorem StOk.clr (s : StOk K F H σ ρ) (h : clrE i ρ = some ρ') (y : Option V) : StOk K F H (σ.set i y) ρ' := by
  obtain ⟨o, e, ho, rfl⟩ := clrE_some h
  have hlt := (List.getElem?_eq_some_iff.mp e).1
  refine ⟨s.same, by rw [List.length_set, List.length_set]; exact s.len, fun j x sl h1 h2 => ?_, fun j j' b d1 d2 h1 h2 h3 h4 => ?_⟩
  · by_cases c : i = j
    · subst c
      rw [List.getElem?_set_self hlt] at h2
      cases h2
      cases x <;> trivial
    · rw [List.getElem?_set_ne c] at h1 h2
      exact s.sl j x sl h1 h2
  · have key : ∀ (j : Nat) d1, (ρ.set i .emp)[j]? = some (Sl.own d1) → i ≠ j := fun j d1 h c => by
      subst c
      rw [List.getElem?_set_self hlt] at h
      cases h
    have k1 := key j d1 h1
    have k2 := key j' d2 h2
    rw [List.getElem?_set_ne k1] at h1 h3
    rw [List.getElem?_set_ne k2] at h2 h4
    exact s.inj j j' b d1 d2 h1 h2 h3 h4
theorem own_clr (h : clrE i ρ = some ρ') {b : Addr} {y : Option V} : Own (σ.set i y) ρ' b ↔ Own σ ρ b := by
  obtain ⟨o, e, ho, rfl⟩ := clrE_some h
  exact own_setVal e ho rfl
theorem grow_clr {n : Nat} (h : clrE i ρ = some ρ') (y : Option V) : GrowS n σ ρ F H (σ.set i y) ρ' F H := by
  obtain ⟨o, e, ho, rfl⟩ := clrE_some h
  refine ⟨Grow.refl, fun b z => .inl ((own_setVal e ho rfl).mp z), fun j l hj hl => ?_⟩
  have c : i ≠ j := fun c => by
    subst c
    rw [e] at hl
    cases hl
    cases ho
  exact ⟨List.getElem?_set_ne c, l, by rw [List.getElem?_set_ne c]; exact hl⟩
end
section
variable {X : Cx} {W : WX} {x nm : Str} {c : Value} {i n : Nat} {body suite : List Stmt} {b₀ : Stmt} {np pos pos' : Pos} {ts : Addr → Value → Option Addr → TS} {em : Str → Option Bool} {mb : MS} {mh : Exn → MS}
/-- the suite's reading ts, given that the suite is worth mh -/
def SuiteT (K : PySem.W.Frag) (i : Nat) (ts : Addr → Value → Option Addr → TS) (mh : Exn → MS) : Prop := ∀ (n : Nat) (a : Addr) (cls : Value) (d : Option Addr) (y : Exn) (σ : L2.St) (ρ : En) (F H : Hp) (D : Ends), H a = none → RepX K F y cls d → StOk K F H σ ρ → σ[i]? = some (some (.ref a)) → ρ[i]? = some .emp →
  PostS K (fun _ _ _ _ => False) n D σ ρ F H (mh y ρ) → ts a cls d D σ H
theorem clr_ends {K : PySem.W.Frag} {W : WX} {n : Nat} {D : Ends} {σ : L2.St} {ρ : En} {F H : Hp} {o : Out} (h : PostS K W n D σ ρ F H (clr i o)) (he : ∀ y r, o ≠ .er y r) :
    PostS K (fun _ _ _ _ => False) n { nx := fun σ' H' => D.nx (σ'.set i none) H', rt := D.rt, bk := fun σ' H' => D.bk (σ'.set i none) H', ct := fun σ' H' => D.ct (σ'.set i none) H' } σ ρ F H o := by
  cases o with
  | no => exact h
  | er y r => exact absurd rfl (he y r)
  | nx ρ' =>
    have h : PostS K W n D σ ρ F H (match clrE i ρ' with | some r => Out.nx r | none => .no) := h
    cases e : clrE i ρ' with
    | none => rw [e] at h; exact h.elim
    | some r => rw [e] at h; exact fun σ' F' H' g s => h _ F' H' (g.trans (grow_clr e none)) (s.clr e none)
  | bk ρ' =>
    have h : PostS K W n D σ ρ F H (match clrE i ρ' with | some r => Out.bk r | none => .no) := h
    cases e : clrE i ρ' with
    | none => rw [e] at h; exact h.elim
    | some r => rw [e] at h; exact fun σ' F' H' g s => h _ F' H' (g.trans (grow_clr e none)) (s.clr e none)
  | ct ρ' =>
    have h : PostS K W n D σ ρ F H (match clrE i ρ' with | some r => Out.ct r | none => .no) := h
    cases e : clrE i ρ' with
    | none => rw [e] at h; exact h.elim
    | some r => rw [e] at h; exact fun σ' F' H' g s => h _ F' H' (g.trans (grow_clr e none)) (s.clr e none)
  | rt v ρ' =>
    have h : PostS K W n D σ ρ F H (match clrE i ρ' with | some r => Out.rt v r | none => .no) := h
    cases e : clrE i ρ' with
    | none => rw [e] at h; exact h.elim
    | some r =>
      rw [e] at h
      intro u σ' F' H' g s q
      refine h u _ F' H' (g.trans (grow_clr e none)) (s.clr e none) ?_
      cases v with
      | val d => exact q
      | fr oc =>
        obtain ⟨p, w, e1, e2, e3, e4⟩ := q
        exact ⟨p, w, e1, e2, fun z => e3 ((own_clr e).mp z), e4⟩
theorem p1_tryAs (hs : X.stack = X.env :: X.outer) (hf : X.env.frame = some X.env.locals) (hN : X.N.Nodup) (hi : X.N[i]? = some nm) (hln : X.env.kindOf nm = some .local) (hc : Names X x c) (tk : L2.Takes X W)
    (hem : ∀ y b, em y = some b → PySem.W.exmOne X.K (.ref (He.ga X.K y)) c = some b)
    (hb : ∀ (W : WX) (pn : List (Addr × Obj)) (xe : Value → Shared → Prop), L2.Takes (X.tr pn xe) W → PassesOwn (model X.prog X.w) X.A X.env xe → PB (X.tr pn xe) W n body mb)
    (hsu : ∀ (a : Addr) (oe : Obj) (cls : Value) (d : Option Addr) (pn : List (Addr × Obj)), Zc cls d oe → (∃ vs, oe.data = .fields vs) → PSs (X.suite a ((a, oe) :: pn)) (b₀ :: suite) (ts a cls d)) (hts : SuiteT X.K i ts mh) :
    P1 X W n (.Try body [.ExceptHandler (some (.Name x np)) (some nm) (b₀ :: suite) pos'] [] [] pos) (mTry em i mb mh) := ⟨fun ρ => PS.imp (L2.ps_try_as hs hf hN hi hln hc tk (tb := fun W => tS X.K W n ρ (mb ρ)) (fun W pn xe t p => (hb W pn xe t p).run ρ) hsu) fun D σ H ⟨F, s, h⟩ => by
  refine ⟨F, s, ?_⟩
  unfold mTry at h
  cases e : mb ρ with
  | nx ρ1 => rw [e] at h; exact h
  | bk ρ1 => rw [e] at h; exact h
  | ct ρ1 => rw [e] at h; exact h
  | rt v ρ1 => rw [e] at h; exact h
  | no => rw [e] at h; exact h
  | er y ρ1 =>
    rw [e] at h
    intro cls d σ1 F1 H1 g1 s1 rx
    have h2 : PostS X.K W n D σ ρ F H (match em y.c with
      | some true => (match clrE i ρ1 with
        | some ρ2 => (match mh y ρ2 with
          | .er _ _ => .no
          | o => clr i o)
        | none => .no)
      | some false => .er y ρ1
      | none => .no) := h
    cases ee : em y.c with
    | none => rw [ee] at h2; exact h2.elim
    | some b =>
      rw [ee] at h2
      have hcls := rx.1
      refine ⟨b, by rw [hcls]; exact hem _ _ ee, fun hb1 a na => ?_, fun hb0 => ?_⟩
      · subst hb1
        have h3 : PostS X.K W n D σ ρ F H (match clrE i ρ1 with
          | some ρ2 => (match mh y ρ2 with
            | .er _ _ => .no
            | o => clr i o)
          | none => .no) := h2
        cases ec : clrE i ρ1 with
        | none => rw [ec] at h3; exact h3.elim
        | some ρ2 =>
          rw [ec] at h3
          have h4 : PostS X.K W n D σ ρ F H (match mh y ρ2 with
            | .er _ _ => .no
            | o => clr i o) := h3
          obtain ⟨o, eo, ho, er⟩ := clrE_some ec
          have hlt := (List.getElem?_eq_some_iff.mp eo).1
          have h5 : (∀ y' r, mh y ρ2 ≠ .er y' r) ∧ PostS X.K W n D σ ρ F H (clr i (mh y ρ2)) := by
            cases em2 : mh y ρ2 with
            | er y' r => rw [em2] at h4; exact h4.elim
            | nx r => rw [em2] at h4; exact ⟨(fun _ _ z => nomatch z), h4⟩
            | bk r => rw [em2] at h4; exact ⟨(fun _ _ z => nomatch z), h4⟩
            | ct r => rw [em2] at h4; exact ⟨(fun _ _ z => nomatch z), h4⟩
            | rt v r => rw [em2] at h4; exact ⟨(fun _ _ z => nomatch z), h4⟩
            | no => rw [em2] at h4; exact h4.elim
          have g2 := g1.trans (grow_clr ec (some (V.ref a)))
          refine hts n a cls d y _ ρ2 F1 H1 _ na rx (s1.clr ec (some (.ref a))) (List.getElem?_set_self (by rw [s1.len]; exact hlt)) (by rw [er, List.getElem?_set_self hlt]) (clr_ends (W := W) (PostS.step g2 h5.2) h5.1)
      · subst hb0
        exact h2 cls d σ1 F1 H1 g1 s1 rx⟩
end
end PD
end
section
set_option Elab.async false
set_option linter.all false
set_option maxRecDepth 100000
set_option maxHeartbeats 2000000
namespace PD
open PySem PySem.Spec PyProof.Rows L2 L2H HotX

theorem takesN {X : Cx} {W : WX} (tk : L2.Takes X W) : L2N.Takes X W := fun u s' ⟨a, B, sI, pins, σ, H, cls, d, e, I, nb, up, sky, na, os, ag, w⟩ => tk u s' ⟨a, B, sI, pins, σ, H, cls, d, e, I, nb, up, by
  have zz : ∀ o, L2N.Zn cls d o → Zc cls d o := fun _ z => z.zc
  rcases sky with ⟨h1, h2, h3, oe, vs, k1, k2, k3, k4⟩ | h | h
  · exact .inl ⟨h1, h2, h3, oe, vs, k1, zz _ k2, k3, k4⟩
  · exact .inr (.inl (flyingZ_imp zz h))
  · exact .inr (.inr ⟨h.1, h.2.1, h.2.2.1, tracedZ_imp zz h.2.2.2⟩), na, os, ag, w⟩

/-! ### try: .. except X as e: .. raise ..: an exception out of a suite that has a name -/
/-- the context of an except suite with its own end -/
abbrev suiteE (X : Cx) (a : Addr) (pn : List (Addr × Obj)) (xe : Value → Shared → Prop) : Cx := { X with A := X.A.mark (some (.ref a)), calm := false, pn := pn, xe := xe }
theorem funFrames_but {B h h' : Heap} {L : Addr} (hs : Heap.SameBut L h h') (hL : ∃ o, h'.get? L = some o ∧ ∀ vs, o.data ≠ .fields vs) : ∀ {l : List PySem.Env}, h.FunFrames B l → h'.FunFrames B l
  | [], _ => trivial
  | env :: l, ⟨hk, ⟨b, o, hf, hn, ho, hd⟩, hr⟩ => by
    refine ⟨hk, ?_, funFrames_but hs hL hr⟩
    by_cases c : b = L
    · obtain ⟨o', e', d'⟩ := hL
      exact ⟨b, o', hf, hn, by rw [c]; exact e', d'⟩
    · exact ⟨b, o, hf, hn, (hs.2 b c).trans ho, hd⟩
section
variable {X : Cx} {pins : List (Addr × Obj)} {σ : L2.St} {H : Hp} {s : Shared} {i : Nat} {n : Str}
/-- a state whose frame has lost a name -/
theorem inv_gone {m : Str → Option Value} {v : Option Value} {h' : Heap} {t' : Nat} (I : Inv X pins σ H s) (hlk : ∀ (i : Nat) (x : Str) (v : V), X.N[i]? = some x → σ[i]? = some (some v) → Vis X.env.scope x → ∃ u, RelV v u ∧ Look X.env s.heap m x u) (hN : X.N.Nodup) (hi : X.N[i]? = some n) (hl : X.env.kindOf n = some .local)
    (hn' : h'.Ns X.env.locals (fun x => if x = n then v else m x)) (hs : Heap.SameBut X.env.locals s.heap h') : Inv X pins (σ.set i none) H { s with heap := h', toks := t' } := by
  have neL : ∀ b o, X.s_0.heap.get? b = some o → b ≠ X.env.locals := fun b o e => Nat.ne_of_lt (Nat.lt_of_lt_of_le (Heap.lt_size e) I.ok.above)
  refine ⟨I.ok, I.os, I.bare, ⟨fun b o e n hb hx => ?_, fun b o e n hb hx => ?_, I.base.free, fun b o e hx => ?_, I.base.tups, I.base.frzs, I.base.tbls⟩, ⟨_, hn', fun j y v' e1 e2 e3 => ?_⟩, fun y c e => ?_, I.free, I.freeC, fun p hp => ?_, fun b ob e => ?_, by simpa using I.len⟩
  · exact (hs.2 b (neL b o e)).trans (I.base.keep b o e n hb hx)
  · obtain ⟨sl, e1⟩ := I.base.slot b o e n hb hx
    exact ⟨sl, (hs.2 b (neL b o e)).trans e1⟩
  · obtain ⟨o', e1⟩ := I.base.there b o e hx
    exact ⟨o', (hs.2 b (neL b o e)).trans e1⟩
  · by_cases hj : j = i
    · subst hj
      by_cases hlt : j < σ.length
      · rw [List.getElem?_set_self hlt] at e2; cases e2
      · rw [List.getElem?_eq_none (by simpa using hlt)] at e2; cases e2
    · rw [List.getElem?_set_ne (Ne.symm hj)] at e2
      obtain ⟨u', r', q⟩ := hlk j y v' e1 e2 e3
      refine ⟨u', r', ?_⟩
      rcases q with ⟨k, e⟩ | ⟨k, c, e, z⟩
      · have ny : y ≠ n := fun e => hj (nodup_ix hN e1 (e ▸ hi))
        exact .inl ⟨k, (if_neg ny).trans e⟩
      · exact .inr ⟨k, c, e, z.sameBut hs (I.cne y c e)⟩
  · obtain ⟨w', z⟩ := I.cell y c e
    exact ⟨w', z.sameBut hs (I.cne y c e)⟩
  · obtain ⟨e, n, ne, nf, d⟩ := I.pin p hp
    exact ⟨(hs.2 p.1 ne).trans e, n, ne, nf, d⟩
  · refine (I.hok b ob e).stay (fun c w' hc q => (hs.2 c ?_).trans q) (fun _ q => q) fun _ _ q => q
    intro z
    subst z
    rcases hc with hc | hc
    · rw [← hc, I.free] at e; cases e
    · rw [I.free] at hc; cases hc
theorem as_raised {a : Addr} {q : Addr × Obj} {xe' N : Value → Shared → Prop} {Wout : WX} {pos' : Pos} {u : Value} {s2 : Shared} (ok : X.Ok) (hs : X.stack = X.env :: X.outer) (hf : X.env.frame = some X.env.locals) (hN : X.N.Nodup) (hi : X.N[i]? = some n) (hln : X.env.kindOf n = some .local) (tk : L2.Takes X Wout)
    (hNN : ∀ e s, X.xe e s → N e s) (x : XE (suiteE X a (q :: (X.pn ++ pins)) xe') (fun cls d σ H => Wout cls d (σ.set i none) H) u s2) :
    wpAny (model X.prog X.w) (X.A.mark (some (.ref a))) (noteFrame u X.env) (fun _ s₃' =>
      wpAny (model X.prog X.w) (X.A.mark (some (.ref a))) (do bindName X.env n .none; unbindBehindTheSuite X.env n pos')
        (fun _ s₄ => wpAny (model X.prog X.w) (X.A.mark (some (.ref a))) (PySem.passOn "try.except-as" u X.env : Sem Flow) (fun _ _ => False) N s₄)
        (fun y s₄ => wpAny (model X.prog X.w) (X.A.mark (some (.ref a))) (setFlight u none) (fun _ s₅ => N y s₅) N s₄) s₃') N s2 := by
  obtain ⟨a2, B, sI, pins', σ', H', cls, d, rfl, J', nb, up, sky, na, os, ag, w⟩ := x
  have J : Inv X pins σ' H' sI := Inv.unsuite (X := X) (a := a) (q := q) (pn' := pins') (show Inv (X.suite a (q :: (X.pn ++ pins))) pins' σ' H' sI from J'.wish fun _ _ => False) ok
  have hfr : (X.A.mark (some (.ref a))).frames = some (X.env :: X.outer) := by
    show X.A.frames = _
    rw [ok.frames, hs]
  have sky' : Sky B (X.env :: X.outer) a2 (Zc cls d) X.env.locals s2.heap := by rw [← hs]; exact sky
  have nb' : ∀ b o, sI.heap.get? b = some o → b ∉ frs X.stack → B.get? b = some o := nb
  obtain ⟨mI, hnI, hlkI⟩ := id J.loc
  have hcls : (X.env.scope.kind == .class || (X.env.scope.kind == .module && X.env.locals != X.env.globals)) = false := by rw [ok.kind]; rfl
  have fin : ∀ h1, HandSPX.HeldZ B (X.env :: X.outer) a2 (Zc cls d) X.env.locals h1 → s2.heap.UpToSlots h1 →
      wpAny (model X.prog X.w) (X.A.mark (some (.ref a))) (do bindName X.env n .none; unbindBehindTheSuite X.env n pos')
        (fun _ s₄ => wpAny (model X.prog X.w) (X.A.mark (some (.ref a))) (PySem.passOn "try.except-as" (.ref a2) X.env : Sem Flow) (fun _ _ => False) N s₄)
        (fun y s₄ => wpAny (model X.prog X.w) (X.A.mark (some (.ref a))) (setFlight (.ref a2) none) (fun _ s₅ => N y s₅) N s₄) { s2 with heap := h1 } := fun h1 hh up1 => by
    obtain ⟨oL, es, ep, hoL, hdL, hkL, hfL⟩ := id hnI
    have upA := up.trans up1
    have ndL : ∀ vs, oL.data ≠ .fields vs := fun vs z => by rw [hdL] at z; cases z
    obtain ⟨sl, hoL1⟩ := upA _ _ hoL ndL
    have hn1 : h1.Ns X.env.locals mI := ⟨_, es, ep, hoL1, hdL, hkL, hfL⟩
    refine wpAny_nameGoes_keeps (s := { s2 with heap := h1 }) hln hn1 hcls fun h' v hn' hsb => ?_
    obtain ⟨oL', es', ep', hoL', hdL', hkL', hfL'⟩ := id hn'
    have ndL' : ∀ vs, oL'.data ≠ .fields vs := fun vs z => by rw [hdL'] at z; cases z
    obtain ⟨f1, f2, f3, oe, vs, T, oT, ts, he, hz, hd, hv1, hnT, hTe, hT, hdT, h3⟩ := id hh
    have nL : ∀ {b : Addr} {o : Obj} {vs : Array Value}, h1.get? b = some o → o.data = .fields vs → b ≠ X.env.locals := fun {b o vs} e dd z => by
      rw [z, hoL1] at e
      cases e
      exact ndL _ dd
    have stay : B.StaysIn h' := fun b o e => by
      have e1 := f1 b o e
      by_cases c : b = X.env.locals
      · have hm : X.env.locals ∈ (X.env :: X.outer).filterMap (·.frame) := List.mem_filterMap.mpr ⟨X.env, List.mem_cons_self, hf⟩
        rw [c, (f3.mem hm).1] at e
        cases e
      · exact (hsb.2 b c).trans e1
    have he' := (hsb.2 a2 (nL he hd)).trans he
    have hh' : HandSPX.HeldZ B (X.env :: X.outer) a2 (Zc cls d) X.env.locals h' := ⟨stay, f2, funFrames_but hsb ⟨oL', hoL', ndL'⟩ f3, oe, vs, T, oT, ts, he', hz, hd, hv1, hnT, hTe, (hsb.2 T (nL hT hdT)).trans hT, hdT, h3⟩
    unfold PySem.passOn
    refine wpAny_bind (wpAny_field he' hd hv1 ?_)
    rw [if_neg (show ¬ ((Value.ref T == Value.none) = true) from by simp)]
    have fin2 : wpAny (model X.prog X.w) (X.A.mark (some (.ref a))) (setFlight (.ref a2) X.env.frame) (fun _ s4 => wpAny (model X.prog X.w) (X.A.mark (some (.ref a))) (throw (.ref a2) : Sem Flow) (fun _ _ => False) N s4) N { s2 with heap := h', toks := s2.toks + 1 } := by
      rw [hf]
      refine HandSPX.setFlight_onZ hh' fun h4 hh4 up4 => wpAny_throw (hNN _ _ (tk _ _ ?_))
      have fz : oL'.isFreed = false := by
        obtain ⟨c1, c2, c3, c4⟩ := oL'
        have c5 : c3 = .dict es' ep' := hdL'
        subst c5
        rfl
      have gL : (sI.heap.update X.env.locals (fun _ => oL')).get? X.env.locals = some oL' := Heap.get?_update_self _ hoL fz
      have gO : ∀ b, b ≠ X.env.locals → (sI.heap.update X.env.locals (fun _ => oL')).get? b = sI.heap.get? b := fun b hb => Heap.get?_update_other _ _ (Ne.symm hb)
      have I4 : Inv X pins (σ'.set i none) H' { sI with heap := sI.heap.update X.env.locals (fun _ => oL'), toks := sI.toks } := inv_gone (v := v) J hlkI hN hi hln ⟨oL', es', ep', gL, hdL', hkL', hfL'⟩ (Heap.SameBut.update _ _ _)
      refine ⟨a2, B, _, pins, σ'.set i none, H', cls, d, rfl, I4, fun b o e hb => ?_, fun b o e hnf => ?_, .inr (.inr (by rw [hs]; exact hh4)), na, os, ag, w⟩
      · have c : b ≠ X.env.locals := fun z => hb (by rw [hs]; exact List.mem_filterMap.mpr ⟨X.env, List.mem_cons_self, by rw [hf, z]⟩)
        exact nb' b o ((gO b c).symm.trans e) hb
      · by_cases c : b = X.env.locals
        · subst c
          have e' : oL' = o := Option.some.inj (gL.symm.trans e)
          subst e'
          exact up4 _ _ hoL' ndL'
        · obtain ⟨sl2, q2⟩ := upA b o ((gO b c).symm.trans e) hnf
          obtain ⟨sl3, q3⟩ := up4 b _ ((hsb.2 b c).trans q2) hnf
          exact ⟨sl3, q3⟩
    first
      | exact wpAny_bind (wpAny_pure (wpAny_bind fin2))
      | exact wpAny_bind fin2
  rcases sky' with ⟨hB, hn, hl, oe, vs, he, hz, hd, h1⟩ | fl | hh
  · exact HandSPX.look_newZ Zc.steady hfr hl hf he hB hn hd h1 hz fin
  · exact HandSPX.looks_onZ Zc.steady hfr hf fl fin
  · exact HandSPX.againZ hf hh.2.2.2 (fin s2.heap hh (Heap.UpToSlots.refl _))
end
section
variable {X : Cx} {x n : Str} {c : Value} {i : Nat} {body suite : List Stmt} {b₀ : Stmt} {np pos pos' : Pos} {tb : WX → TS} {ts : Addr → Value → Option Addr → TS} {Wout : WX}
theorem ps_try_asX (hs : X.stack = X.env :: X.outer) (hf : X.env.frame = some X.env.locals) (hN : X.N.Nodup) (hi : X.N[i]? = some n) (hln : X.env.kindOf n = some .local) (hc : Names X x c) (hpa : ∀ hd : Option Value, PassesOwnAt (model X.prog X.w) (X.A.mark hd) X.A X.env X.xe) (tk : L2.Takes X Wout)
    (hb : ∀ (W : WX) (pn : List (Addr × Obj)) (xe : Value → Shared → Prop), L2N.Takes (X.tr pn xe) W → PassesOwn (model X.prog X.w) X.A X.env xe → PSs (X.tr pn xe) body (tb W))
    (hsu : ∀ (a : Addr) (oe : Obj) (cls : Value) (d : Option Addr) (pn : List (Addr × Obj)) (xe' : Value → Shared → Prop), L2N.Zn cls d oe → (∃ vs, oe.data = .fields vs) → L2.Takes (suiteE X a ((a, oe) :: pn) xe') (fun cls d σ H => Wout cls d (σ.set i none) H) → HotC (suiteE X a ((a, oe) :: pn) xe') →
      PSs (suiteE X a ((a, oe) :: pn) xe') (b₀ :: suite) (ts a cls d)) :
    PS X (.Try body [.ExceptHandler (some (.Name x np)) (some n) (b₀ :: suite) pos'] [] [] pos) (fun D σ H => tb (wAs X.K c i ts Wout D) D σ H) := by
  refine ⟨fun pins s σ H D I h => ?_⟩
  have ok := I.ok
  have hfr : X.A.frames = some (X.env :: X.outer) := by rw [ok.frames, hs]
  have hloc : Loc X.env.scope n := .inl hln
  have notFr : ∀ {B h : Heap} {a : Addr} {o : Obj} {vs : Array Value}, h.FunFrames B (X.env :: X.outer) → h.get? a = some o → o.data = .fields vs → a ∉ frs (X.env :: X.outer) := fun {B h a o vs} ff e dd hm => by
    obtain ⟨_, o', e', hnf⟩ := ff.mem hm
    rw [e] at e'; cases e'
    exact hnf _ dd
  refine wpAny_Try_except ?_
  refine wpAny_mono ((hb (wAs X.K c i ts Wout D) (X.pn ++ pins) (fun e s₁ => wpAny (model X.prog X.w) X.A (noteFrame e X.env) (fun _ s₂ => wpAny (model X.prog X.w) X.A (setFlight e none) (fun _ s₃ =>
    wpAny (model X.prog X.w) X.A (handleBy e X.env [.ExceptHandler (some (.Name x np)) (some n) (b₀ :: suite) pos']) (SP X pins D) X.xe s₃) X.xe s₂) X.xe s₁) (fun u s' xx => ?_) PassesOwn.looking).run [] s σ H D (I.toTry _) h) (fun f s1 hsp => ?_) (fun e s1 he => he)
  · obtain ⟨a, B, sI, pins', σ', H', cls, d, rfl, J', nb, up, sky, na, os, ag, b, hb1, hyes, hno⟩ := xx
    have J : Inv X pins σ' H' sI := J'.ofTry ok
    have sky' : Sky B (X.env :: X.outer) a (L2N.Zn cls d) X.env.locals s'.heap := by rw [← hs]; exact sky
    show wpAny (model X.prog X.w) X.A (noteFrame (.ref a) X.env) _ _ _
    refine L2N.Sky.land L2N.Zn.steady hfr hf sky' fun h3 fl3 up3 => ?_
    have J3 : Inv X pins σ' H' { s' with heap := h3 } := J.landed nb fl3.1 (up.trans up3) os ag
    obtain ⟨oe3, vs3, he3, hz3, hd3⟩ := fl3.there
    have nfr : a ∉ frs (X.env :: X.outer) := notFr fl3.2.2.1 he3 hd3
    have nL : a ≠ X.env.locals := fun z => nfr (List.mem_filterMap.mpr ⟨X.env, List.mem_cons_self, by rw [hf, z]⟩)
    have nF : a ∉ X.fs := fun hm => by
      obtain ⟨e, he, q⟩ := List.mem_filterMap.mp hm
      exact nfr (List.mem_filterMap.mpr ⟨e, List.mem_cons_of_mem _ he, q⟩)
    have S3 := J3.suite he3 hd3 na nL nF
    refine wpAny_handleBy_cons (codeAny_handlers_test ?_) (by intro q; cases q)
    have LT : PySem.W.Looks (model X.prog X.w) h3 (typeOf (.ref a)) cls := fun A Q E s k q => wpAny_typeOf_ref (k _ _ he3) (by rw [hz3.1]; exact q)
    have LM := PySem.W.exm_one (M := model X.prog X.w) (J3.kIn) LT hb1
    have test : ∀ {Q : Value → Shared → Prop} {E : Value → Shared → Prop}, Q c { s' with heap := h3 } → wpAny (model X.prog X.w) (X.A.mark (some (.ref a))) (eval (.Name x np) X.env) Q E { s' with heap := h3 } := fun {Q E} q => by
      obtain ⟨hg, hdbg, hm | ⟨hm, hv, hnn⟩⟩ := hc
      · exact ld_glob (X := X.suite a ((a, oe3) :: (X.pn ++ pins))) S3 hg hm q hdbg
      · exact ld_blt (X := X.suite a ((a, oe3) :: (X.pn ++ pins))) S3 hg hm hv q hnn hdbg
    refine test (LM.here ?_)
    cases b with
    | true =>
      refine codeAny_handlers_suite_as ?_
      refine HandSPX.lands_againZ fl3 fun h4 fl4 up4 => ?_
      have J4 : Inv X pins σ' H' { s' with heap := h4 } := J.landed nb fl4.1 ((up.trans up3).trans up4) os ag
      obtain ⟨oe4, vs4, he4, hz4, hd4⟩ := fl4.there
      have S4 := J4.suite he4 hd4 na nL nF
      refine store_ok (X := X.suite a ((a, oe4) :: (X.pn ++ pins))) (v := .ref a) S4 hN hi hloc rfl (fun s5 S5 => ?_) (.inr hln)
      have hot : ∀ xe', HotC (suiteE X a ((a, oe4) :: (X.pn ++ pins)) xe') := fun xe' => ⟨(a, oe4), ⟨rfl, vs4, hd4, hz4.2.2 vs4 hd4⟩, List.mem_cons_self⟩
      refine wpAny_mono ((hsu a oe4 cls d (X.pn ++ pins) _ hz4 ⟨_, hd4⟩ (fun u2 s2 x2 => as_raised (pos' := pos') ok hs hf hN hi hln tk (fun e6 s6 z => hpa (some (.ref a)) e6 s6 z) x2) (hot _)).run [] s5 _ H' _ (Inv.unwish (X := suiteE X a ((a, oe4) :: (X.pn ++ pins)) _) (E := fun _ _ => False) S5) (hyes rfl a na)) (fun f s6 hsp => ?_) (fun e6 s6 z => z)
      have end_ : ∀ {σ6 : L2.St} {H6 : Hp} {Q : Shared → Prop}, Inv (X.suite a ((a, oe4) :: (X.pn ++ pins))) [] σ6 H6 s6 → (∀ s7, Inv X pins (σ6.set i none) H6 s7 → Q s7) →
          wpAny (model X.prog X.w) X.A (do bindName X.env n .none; unbindBehindTheSuite X.env n pos') (fun _ s7 => Q s7) X.xe s6 := fun {σ6 H6 Q} S6 hq => gone_ok (S6.unsuite ok) hN hi hln hq
      cases f with
      | next =>
        obtain ⟨σ6, H6, S6, q6⟩ := hsp
        exact end_ (S6.wish _) fun s7 J7 => ⟨_, _, J7, q6⟩
      | brk =>
        obtain ⟨σ6, H6, S6, q6⟩ := hsp
        exact end_ (S6.wish _) fun s7 J7 => ⟨_, _, J7, q6⟩
      | cont =>
        obtain ⟨σ6, H6, S6, q6⟩ := hsp
        exact end_ (S6.wish _) fun s7 J7 => ⟨_, _, J7, q6⟩
      | ret u =>
        obtain ⟨v6, σ6, H6, S6, r6, q6⟩ := hsp
        exact end_ (S6.wish _) fun s7 J7 => ⟨_, _, _, J7, r6, q6⟩
    | false =>
      show wpAny _ X.A (handleBy (.ref a) X.env []) _ _ _
      have fl3' := flyingZ_imp (Z' := Zc cls d) (fun o z => z.zc) fl3
      refine wpAny_handleBy_nil ?_
      obtain ⟨k1, k2, k3, oe, vs, T, oT, ts', he, hz, hd, h1, hr⟩ := id fl3'
      unfold PySem.passOn
      refine wpAny_bind (wpAny_field he hd h1 ?_)
      rw [if_neg (show ¬ ((Value.ref T == Value.none) = true) from by simp)]
      have fin : wpAny (model X.prog X.w) X.A (setFlight (.ref a) X.env.frame) (fun _ s4 => wpAny (model X.prog X.w) X.A (throw (.ref a) : Sem Flow) (SP X pins D) X.xe s4) X.xe { s' with heap := h3 } := by
        rw [hf]
        refine HandSPX.setFlight_upZ fl3' fun h4 hh4 up4 => wpAny_throw (tk _ _ ?_)
        exact ⟨a, B, sI, pins, σ', H', cls, d, rfl, J, nb, (up.trans up3).trans up4, .inr (.inr (by rw [hs]; exact hh4)), na, os, ag, hno rfl⟩
      first
        | exact wpAny_bind (wpAny_pure (wpAny_bind fin))
        | exact wpAny_bind fin
  · cases f with
    | next =>
      obtain ⟨σ', H', J', q⟩ := hsp
      exact wpAny_execs_nil ⟨σ', H', J'.ofTry ok, q⟩
    | brk =>
      obtain ⟨σ', H', J', q⟩ := hsp
      exact ⟨σ', H', J'.ofTry ok, q⟩
    | cont =>
      obtain ⟨σ', H', J', q⟩ := hsp
      exact ⟨σ', H', J'.ofTry ok, q⟩
    | ret u =>
      obtain ⟨v, σ', H', J', r, q⟩ := hsp
      exact ⟨v, σ', H', J'.ofTry ok, r, q⟩
end
end PD
end
section
set_option Elab.async false
set_option linter.all false
set_option maxRecDepth 100000
set_option maxHeartbeats 2000000
namespace PD
open PySem PySem.Spec PyProof.Rows L2 L2H HotX

/-! ### raise X(..) from e, e the exception that the suite holds -/
def causeAt (h : Heap) (a x1 : Addr) : Heap := (h.update a (Obj.mapFields (·.setIfInBounds 3 (.ref x1)))).update a (Obj.mapFields (·.setIfInBounds 4 (.bool true)))
theorem causeAt_at {h : Heap} {a x1 : Addr} {oe : Obj} {vs : Array Value} (ha : h.get? a = some oe) (hd : oe.data = .fields vs) :
    (causeAt h a x1).get? a = some ((oe.mapFields (·.setIfInBounds 3 (.ref x1))).mapFields (·.setIfInBounds 4 (.bool true))) ∧ ((oe.mapFields (·.setIfInBounds 3 (.ref x1))).mapFields (·.setIfInBounds 4 (.bool true))).data = .fields ((vs.setIfInBounds 3 (.ref x1)).setIfInBounds 4 (.bool true)) := by
  have hd3 := Obj.data_mapFields hd (·.setIfInBounds 3 (.ref x1))
  have ha3 := Heap.get?_update_self (Obj.mapFields (·.setIfInBounds 3 (.ref x1))) ha (Obj.isFreed_of_fields hd3)
  have hd4 := Obj.data_mapFields hd3 (·.setIfInBounds 4 (.bool true))
  exact ⟨Heap.get?_update_self (Obj.mapFields (·.setIfInBounds 4 (.bool true))) ha3 (Obj.isFreed_of_fields hd4), hd4⟩
theorem causeAt_other {h : Heap} {a b x1 : Addr} (hne : a ≠ b) : (causeAt h a x1).get? b = h.get? b := by
  unfold causeAt
  rw [Heap.get?_update_other _ _ hne, Heap.get?_update_other _ _ hne]
theorem raise_made_hotC {prog : Program} {w : World} {A : Around} {E : Value → Shared → Prop} {env : Env} {s : Shared} {x c : Sem Value} {Q : Flow → Shared → Prop} {x1 : Addr}
    (h : wpAny (model prog w) A x (fun v s₁ => ∃ a oe vs cls o1 vs1 cls1, v = .ref a ∧ s₁.heap.get? a = some oe ∧ oe.cls = cls ∧ oe.data = .fields vs ∧ vs[1]? = some .none ∧ 4 < vs.size ∧ x1 ≠ a ∧ HotAt A x1 s₁.heap ∧
      (∀ Q' : Value → Shared → Prop, Q' (.ref x1) s₁ → wpAny (model prog w) A c Q' E s₁) ∧ s₁.heap.get? x1 = some o1 ∧ o1.cls = cls1 ∧ o1.data = .fields vs1 ∧ PySem.W.Looks (model prog w) s₁.heap (isSubtype cls1 (.type "BaseException")) true ∧
      PySem.W.Looks (model prog w) s₁.heap (isSubtype cls (.type "BaseException")) true ∧ PySem.W.Looks (model prog w) (causeAt s₁.heap a x1) (typeOf cls) (.type "type") ∧
      E (.ref a) { s₁ with heap := (causeAt s₁.heap a x1).update a (Obj.mapFields (·.setIfInBounds 2 (.ref x1))) }) E s) :
    wpAny (model prog w) A (raiseStmt env (some x) (some c)) Q E s := by
  unfold raiseStmt
  dsimp only
  refine wpAny_bind (wpAny_mono h (fun v s₁ h₁ => ?_) fun _ _ x => x)
  obtain ⟨a, oe, vs, cls, o1, vs1, cls1, rfl, ha, hcls, hd, h1, hi, hne, hot, hcs, ho1, hcls1, hd1, LB1, L1, L3, hE⟩ := h₁
  have LT : PySem.W.Looks (model prog w) s₁.heap (typeOf (.ref a)) cls := fun A Q E s k q => wpAny_typeOf_ref (k _ _ ha) (by rw [hcls]; exact q)
  have LI : PySem.W.Looks (model prog w) s₁.heap (isInstance (.ref a) (.type "BaseException")) true := LT.andThen L1
  have LT1 : PySem.W.Looks (model prog w) s₁.heap (typeOf (.ref x1)) cls1 := fun A Q E s k q => wpAny_typeOf_ref (k _ _ ho1) (by rw [hcls1]; exact q)
  have LI1 : PySem.W.Looks (model prog w) s₁.heap (isInstance (.ref x1) (.type "BaseException")) true := LT1.andThen LB1
  have hnt : ∀ {Q' : Bool → Shared → Prop}, Q' false s₁ → wpAny (model prog w) A (isType (.ref a)) Q' E s₁ := by
    intro Q' hq
    simp only [isType, loadHead]
    refine wpAny_bind (wpAny_loadPart ha ?_)
    rw [hd]; exact wpAny_pure hq
  have hnt1 : ∀ {Q' : Bool → Shared → Prop}, Q' false s₁ → wpAny (model prog w) A (isType (.ref x1)) Q' E s₁ := by
    intro Q' hq
    simp only [isType, loadHead]
    refine wpAny_bind (wpAny_loadPart ho1 ?_)
    rw [hd1]; exact wpAny_pure hq
  have hd3 := Obj.data_mapFields hd (·.setIfInBounds 3 (.ref x1))
  have ha3 := Heap.get?_update_self (Obj.mapFields (·.setIfInBounds 3 (.ref x1))) ha (Obj.isFreed_of_fields hd3)
  obtain ⟨ha4, hd4⟩ := causeAt_at (x1 := x1) ha hd
  have s3 : 3 < vs.size := by omega
  have s4 : 4 < (vs.setIfInBounds 3 (Value.ref x1)).size := by rw [set_size]; exact hi
  have s2 : 2 < ((vs.setIfInBounds 3 (Value.ref x1)).setIfInBounds 4 (Value.bool true)).size := by rw [set_size, set_size]; omega
  have h14 : ((vs.setIfInBounds 3 (Value.ref x1)).setIfInBounds 4 (Value.bool true))[1]? = some Value.none := set_other (by decide) (set_other (by decide) h1)
  have hcls4 : ((oe.mapFields (·.setIfInBounds 3 (.ref x1))).mapFields (·.setIfInBounds 4 (.bool true))).cls = cls := by rw [Obj.cls_mapFields, Obj.cls_mapFields]; exact hcls
  have LT4 : PySem.W.Looks (model prog w) (causeAt s₁.heap a x1) (typeOf (.ref a)) cls := fun A Q E s k q => wpAny_typeOf_ref (k _ _ ha4) (by rw [hcls4]; exact q)
  have hnt4 : ∀ {Q' : Bool → Shared → Prop}, Q' false { s₁ with heap := causeAt s₁.heap a x1 } → wpAny (model prog w) A (isType (.ref a)) Q' E { s₁ with heap := causeAt s₁.heap a x1 } := by
    intro Q' hq
    simp only [isType, loadHead]
    refine wpAny_bind (wpAny_loadPart ha4 ?_)
    rw [hd4]; exact wpAny_pure hq
  have hot4 : HotAt A x1 (causeAt s₁.heap a x1) := by
    obtain ⟨q1, o, vs', q2, q3, q4⟩ := hot
    exact ⟨q1, o, vs', by rw [causeAt_other (Ne.symm hne)]; exact q2, q3, q4⟩
  have rest : wpAny (model prog w) A (do
      let b ← isType (.ref a)
      if b = true then do
        let e ← holding [.ref a] (raisedFor (.ref a) (.ref a))
        setFlight e none
        raiseNew e
      else do
        let e ← raisedInstance (.ref a)
        setFlight e none
        raiseNew e : Sem Flow) Q E { s₁ with heap := causeAt s₁.heap a x1 } := by
    refine wpAny_bind (hnt4 ?_)
    simp only [Bool.false_eq_true, if_false]
    unfold raisedInstance
    refine wpAny_bind (wpAny_bind (LT4.here (wpAny_bind (L3.here ?_))))
    rw [if_pos (beq_self_eq_true _)]
    refine wpAny_pure ?_
    unfold setFlight
    refine wpAny_bind (wpAny_bind (wpAny_field ha4 hd4 h14 ?_))
    rw [if_neg (by decide)]
    refine wpAny_pure ?_
    exact raiseNew_hot hot4 hne ha4 hd4 s2 hE
  refine wpAny_bind (wpAny_holding (hcs _ (wpAny_bind (wpAny_pure ?_))))
  dsimp only
  refine wpAny_bind (wpAny_holding ?_)
  unfold excFromValue isExcClass
  refine wpAny_bind (wpAny_bind (hnt ?_))
  simp only [Bool.false_eq_true, if_false]
  refine wpAny_pure ?_
  simp only [Bool.false_eq_true, if_false]
  refine wpAny_bind (LI.here ?_)
  simp only [if_true]
  refine wpAny_pure ?_
  rw [if_neg (show ¬ ((Value.ref x1 == Value.none) = true) from by simp)]
  refine wpAny_bind (wpAny_holding (wpAny_bind (wpAny_bind (hnt1 ?_))))
  simp only [Bool.false_eq_true, if_false]
  refine wpAny_pure ?_
  simp only [Bool.false_eq_true, if_false]
  refine wpAny_bind (LI1.here ?_)
  simp only [if_true]
  refine wpAny_pure ?_
  first
  | refine wpAny_bind (wpAny_setField ha hd s3 (wpAny_bind (wpAny_setField ha3 hd3 s4 ?_)))
  | refine wpAny_bind (wpAny_pure (wpAny_bind (wpAny_setField ha hd s3 (wpAny_bind (wpAny_setField ha3 hd3 s4 ?_)))))
  exact rest
/-- .. as a statement -/
theorem ps_raiseHC {X : Cx} {W : WX} {e : Expr} {t : L2.St → Hp → XK → Prop} {i : Nat} {n : Str} {cpos pos : Pos} {p : Addr × Obj} (hot : Hot1 X.A p) (hp : p ∈ X.pn) (hpc : ∃ cls1, p.2.cls = cls1 ∧ Raises X cls1) (tk : L2.Takes X W) (he : PMk5 X e t)
    (hN : X.N[i]? = some n) (hv : Vis X.env.scope n) (hdb : (n == ("__debug__" : Str)) = false := by decide) (hcd : (n == ("__classdict__" : Str)) = false := by decide) :
    PS X (.Raise (some e) (some (.Name n cpos)) pos) (fun _ σ H => σ[i]? = some (some (.ref p.1)) ∧ t σ H fun cls d H' => W cls d σ H') := by
  refine ⟨fun pins s σ H D I h => ?_⟩
  obtain ⟨hh, v1, e1, c1⟩ := hot
  obtain ⟨cls1, hc1, r1c⟩ := hpc
  obtain ⟨hσ, h⟩ := h
  show wpAny _ _ (do standAt pos; raiseStmt X.env (some (do let v ← eval e X.env; standAt pos; pure v)) (some (do let v ← eval (.Name n cpos) X.env; standAt pos; pure v))) _ _ _
  refine wpAny_bind (wpAny_standAt (raise_made_hotC (x1 := p.1) (wpAny_bind (wpAny_mono (he pins s σ H _ I h) (fun u s1 hu => wpAny_bind (wpAny_standAt (wpAny_pure ?_))) fun _ _ x => x))))
  obtain ⟨⟨a, oe, vs, sI, H', cls, d, rfl, J, k, hne, ha, hz, hd, h1, na, os, ag, r, q⟩, h5⟩ := hu
  have hi : 4 < vs.size := h5 a oe vs rfl ha hd
  have k4 : ∀ b u, sI.heap.get? b = some u → (causeAt s1.heap a p.1).get? b = some u := fun b u z => by
    have nab : a ≠ b := fun y => by
      rw [← y, hne] at z
      cases z
    rw [causeAt_other nab]
    exact k b u z
  obtain ⟨r1, _⟩ := r (model X.prog X.w) s1.heap (J.kIn.keeps k)
  obtain ⟨_, r2⟩ := r (model X.prog X.w) (causeAt s1.heap a p.1) (J.kIn.keeps k4)
  obtain ⟨r3, _⟩ := r1c (model X.prog X.w) s1.heap (J.kIn.keeps k)
  have P1 := (J.pin p (List.mem_append_left _ hp)).1
  have nap : p.1 ≠ a := fun z => by
    rw [z, hne] at P1
    cases P1
  obtain ⟨ha4, hd4⟩ := causeAt_at (x1 := p.1) ha hd
  have h12 : (((vs.setIfInBounds 3 (Value.ref p.1)).setIfInBounds 4 (Value.bool true)).setIfInBounds 2 (Value.ref p.1))[1]? = some Value.none := set_other (by decide) (set_other (by decide) (set_other (by decide) h1))
  have hcause : ∀ Q' : Value → Shared → Prop, Q' (.ref p.1) s1 → wpAny (model X.prog X.w) X.A (do let v ← eval (.Name n cpos) X.env; standAt pos; pure v) Q' X.xe s1 := fun Q' q' => by
    obtain ⟨m, hn, hl⟩ := J.loc
    obtain ⟨u, ru, l⟩ := hl i n (.ref p.1) hN hσ hv
    obtain rfl : u = Value.ref p.1 := ru
    refine wpAny_bind ?_
    have tail : wpAny (model X.prog X.w) X.A (do standAt pos; pure (Value.ref p.1)) Q' X.xe s1 := wpAny_bind (wpAny_standAt (wpAny_pure q'))
    rcases l with ⟨hk, hm⟩ | ⟨hk, c, hc, hcell⟩
    · exact wpAny_Name (wpAny_loadName_local J.ok.kind hk (hn.at fun o e => k _ _ e) hm tail) hdb
    · obtain ⟨oc, hoc, hdc⟩ := hcell
      rcases hk with hk | hk
      · exact wpAny_Name (wpAny_loadName_cell J.ok.kind hk hc ⟨oc, k _ _ hoc, hdc⟩ tail) hdb
      · exact wpAny_Name (wpAny_loadName_free J.ok.kind hk hc ⟨oc, k _ _ hoc, hdc⟩ tail hcd) hdb
  refine ⟨a, oe, vs, cls, p.2, v1, cls1, rfl, ha, hz.1, hd, h1, hi, nap, ⟨hh, p.2, v1, k _ _ P1, e1, c1⟩, hcause, k _ _ P1, hc1, e1, r3, r1, r2, tk _ _ (XE.new J (fun b u z => ?_) hne (Heap.get?_update_self _ ha4 (Obj.isFreed_of_fields (Obj.data_mapFields hd4 _)))
    ⟨by rw [Obj.cls_mapFields, Obj.cls_mapFields, Obj.cls_mapFields]; exact hz.1, by rw [HandSPX.dict_mapFields, HandSPX.dict_mapFields, HandSPX.dict_mapFields]; exact hz.2.1⟩ (Obj.data_mapFields hd4 _) h12 na os ag q)⟩
  have nab : a ≠ b := fun y => by
    rw [← y, hne] at z
    cases z
  show ((causeAt s1.heap a p.1).update a (Obj.mapFields (·.setIfInBounds 2 (.ref p.1)))).get? b = some u
  rw [Heap.get?_update_other _ _ nab]
  exact k4 b u z
end PD
end
section
set_option Elab.async false
set_option linter.all false
set_option maxRecDepth 100000
set_option maxHeartbeats 2000000
namespace PD
open PySem PySem.Spec PyProof.Rows L2 L2H HotX

/-! ### try: body / except Y as e: raise X(j) from e -/
def mTryR (em : Str → Option Bool) (i : Nat) (x f : Str) (j : Int) (mb : MS) : MS := fun ρ => match mb ρ with
  | .er y ρ1 => (match em y.c with
    | some true => (match clrE i ρ1 with
      | some ρ2 => .er ⟨x, [f], [.int j]⟩ ρ2
      | none => .no)
    | some false => .er y ρ1
    | none => .no)
  | o => o
theorem PS.cond {X : Cx} {st : Stmt} {p : Prop} {t : TS} (h : p → PS X st t) : PS X st (fun D σ H => p ∧ t D σ H) := ⟨fun pins s σ H D I ⟨hp, q⟩ => (h hp).run pins s σ H D I q⟩
theorem no_passX {X : Cx} : Passes (L2.CX X.prog X.w) X (fun _ _ _ => False) := fun pins σ H s e s' I ⟨_, _, _, _, _, _, _, _, _, _, _, _, z⟩ => z.elim
section
variable {X : Cx} {W : WX} {y x nm f : Str} {i n : Nat} {j : Int} {k1 : Nat} {body : List Stmt} {np pos pos' p1 p2 p3 p4 p5 : Pos} {em : Str → Option Bool} {mb : MS}
theorem p1_tryR (hs : X.stack = X.env :: X.outer) (hf : X.env.frame = some X.env.locals) (hN : X.N.Nodup) (hi : X.N[i]? = some nm) (hln : X.env.kindOf nm = some .local) (hd : (nm == ("__debug__" : Str)) = false) (hcd : (nm == ("__classdict__" : Str)) = false)
    (hc : Names X y (.ref (He.ga X.K y))) (hpa : ∀ hd : Option Value, PassesOwnAt (model X.prog X.w) (X.A.mark hd) X.A X.env X.xe) (tk : L2.Takes X W) (hW : ∀ cls d σ σ' H, W cls d σ H → W cls d σ' H)
    (hem : ∀ z b, em z = some b → PySem.W.exmOne X.K (.ref (He.ga X.K z)) (.ref (He.ga X.K y)) = some b) (her : ∀ z, em z = some true → Raises X (.ref (He.ga X.K z)))
    (E : ExcOk X.prog X.w X.K X.mg X.base x f) (hr : Room 2 X.A) (hg : Gl X x) (hdx : (x == ("__debug__" : Str)) = false)
    (hb : ∀ (W : WX) (pn : List (Addr × Obj)) (xe : Value → Shared → Prop), L2N.Takes (X.tr pn xe) W → PassesOwn (model X.prog X.w) X.A X.env xe → PB (X.tr pn xe) W n body mb) :
    P1 X W n (.Try body [.ExceptHandler (some (.Name y np)) (some nm) [.Raise (some (.Call (.Name x p1) [.Constant (.int j) k1 p2] [] p3)) (some (.Name nm p4)) p5] pos'] [] [] pos) (mTryR em i x f j mb) := by
  obtain ⟨fI, fd, ps, h1, h2, h3, h4, h5⟩ := E.ex
  have hsu : ∀ (a : Addr) (oe : Obj) (cls : Value) (d : Option Addr) (pn : List (Addr × Obj)) (xe' : Value → Shared → Prop), L2N.Zn cls d oe → (∃ vs, oe.data = .fields vs) → L2.Takes (suiteE X a ((a, oe) :: pn) xe') (fun cls d σ H => W cls d (σ.set i none) H) → HotC (suiteE X a ((a, oe) :: pn) xe') →
      PSs (suiteE X a ((a, oe) :: pn) xe') [.Raise (some (.Call (.Name x p1) [.Constant (.int j) k1 p2] [] p3)) (some (.Name nm p4)) p5]
        (fun _ σ H => Raises X cls ∧ σ[i]? = some (some (.ref a)) ∧ tMkO (He.ga X.K x) (spXI X.K (He.ga X.K x) f) [] (tCons (tC (.int j)) tNil) σ H fun cls d H' => W cls d (σ.set i none) H') := fun a oe cls d pn xe' hz hv tk' hot => by
    obtain ⟨vs, hvs⟩ := hv
    refine pss_one (PS.cond fun hra => ?_)
    refine ps_raiseHC (X := suiteE X a ((a, oe) :: pn) xe') (p := (a, oe)) ⟨rfl, vs, hvs, hz.2.2 vs hvs⟩ List.mem_cons_self ⟨cls, hz.1, hra⟩ tk' ?_ hi (.inl hln) hd hcd
    exact pmk5_oexH (X := suiteE X a ((a, oe) :: pn) xe') E.cls h1 h2 h4 (roomH_mark hr _) hot h5 no_passX hg E.gl (pa_cons pe_int pa_nil) hdx
  refine ⟨fun ρ => PS.imp (ps_try_asX hs hf hN hi hln hc hpa tk (tb := fun W => tS X.K W n ρ (mb ρ)) (fun W pn xe t p => (hb W pn xe t p).run ρ) hsu) fun D σ H ⟨F, s, h⟩ => ?_⟩
  refine ⟨F, s, ?_⟩
  unfold mTryR at h
  cases e : mb ρ with
  | nx ρ1 => rw [e] at h; exact h
  | bk ρ1 => rw [e] at h; exact h
  | ct ρ1 => rw [e] at h; exact h
  | rt v ρ1 => rw [e] at h; exact h
  | no => rw [e] at h; exact h
  | er z ρ1 =>
    rw [e] at h
    intro cls d σ1 F1 H1 g1 s1 rx
    have h2' : PostS X.K W n D σ ρ F H (match em z.c with
      | some true => (match clrE i ρ1 with
        | some ρ2 => .er ⟨x, [f], [.int j]⟩ ρ2
        | none => .no)
      | some false => .er z ρ1
      | none => .no) := h
    cases ee : em z.c with
    | none => rw [ee] at h2'; exact h2'.elim
    | some b =>
      rw [ee] at h2'
      have hcls := rx.1
      refine ⟨b, by rw [hcls]; exact hem _ _ ee, fun hb1 a na => ?_, fun hb0 => ?_⟩
      · subst hb1
        have h3' : PostS X.K W n D σ ρ F H (match clrE i ρ1 with
          | some ρ2 => .er ⟨x, [f], [.int j]⟩ ρ2
          | none => .no) := h2'
        cases ec : clrE i ρ1 with
        | none => rw [ec] at h3'; exact h3'.elim
        | some ρ2 =>
          rw [ec] at h3'
          obtain ⟨o, eo, ho, er⟩ := clrE_some ec
          have hlt := (List.getElem?_eq_some_iff.mp eo).1
          refine ⟨by rw [hcls]; exact her _ ee, List.getElem?_set_self (by rw [s1.len]; exact hlt), ?_⟩
          refine ⟨by show 1 ≤ 1000; decide, fun a' ha' => ⟨a', .int j, rfl, upd_same, fun dx hdx hne => ⟨rfl, dx, [(f, .int j)], upd_same, by rw [upd_ne hne, upd_same], by rw [upd_ne hne] at hdx; exact hdx, ?_⟩⟩⟩
          rw [raise_heap (K := X.K) ha' hne]
          rw [upd_ne hne] at hdx
          obtain ⟨g, ge⟩ := gr_new (o := .xd [(f, .int j)]) s1.same hdx
          have s2 := (s1.grow g ge).clr ec none
          refine hW _ _ _ _ _ (h3' _ (some dx) (σ1.set i none) _ _ (g1.trans ((GrowS.ofE (g.imp fun _ z => z.elim) rfl).trans (grow_clr ec none))) s2 ⟨rfl, dx, [.int j], rfl, upd_same, rfl, .cons (.int j) .nil⟩)
      · subst hb0
        exact h2' cls d σ1 F1 H1 g1 s1 rx
end

/-! ### a def whose exceptions may have a context (L2.CX) -/
structure DefOkX (P : Program) (w : World) (K : PySem.W.Frag) (mg : Str → Option Value) (base : Heap) (k : Nat) (x : Str) (n : Nat) (f : En → Res RV) : Prop where
  ex : ∃ fa fd ps, FnOk P w K mg base (L2.CX P w) k fa fd ps (spF K n f) ∧ mg x = some (.ref fa) ∧ PySem.W.keepIn K (.ref fa) = true ∧ Binds K fd ps [] ∧ ps.length = n
/-- no exception is wanted of it -/
def noEr (f : En → Res RV) : En → Res RV := fun ρ => match f ρ with
  | .er _ _ => .no
  | r => r
section
variable {X : Cx} {W : WX} {k n : Nat} {f : En → Res RV} {x : Str} {p pos : Pos} {e : Expr} {es : List Expr} {ms : MA}
theorem px_callX (F : DefOkX X.prog X.w X.K X.mg X.base k x n f) (hr : Room k X.A) (tk : L2.Takes X W) (ha : PXA X W (e :: es) ms) (hg : Gl X x := by rfl) (hdb : (x == ("__debug__" : Str)) = false := by decide)
    (he : starEach (e :: es) X.env = (false, eval e X.env) :: starEach es X.env := by rfl) (hpl : (backTo pos (starEach es X.env)).any (·.1) = false := by rfl) : PX X W (.Call (.Name x p) (e :: es) [] pos) (mFn n f ms) := by
  obtain ⟨fa, fd, ps, h1, h2, h3, h4, h5⟩ := F.ex
  exact ⟨fun ρ => PE.imp (pe_callS h1 hr hg h2 h3 h4 (fun σ => L2.passAt tk σ) (ha.run ρ) hdb he hpl) fun _ _ _ h => fn_imp h⟩
theorem spF_noEr {K : PySem.W.Frag} {n : Nat} {f : En → Res RV} {vs : List V} {H : Hp} {Q : VK} {E E' : XK} (h : spF K n (noEr f) vs H Q E) : spF K n f vs H Q E' := by
  obtain ⟨hn, ρ, F, s, h⟩ := h
  refine ⟨hn, ρ, F, s, ?_⟩
  unfold noEr at h
  cases e : f ρ with
  | ok a ρ' => rw [e] at h; exact h
  | er x ρ' => rw [e] at h; exact h.elim
  | no => rw [e] at h; exact h.elim
theorem px_callQ (F : DefOkX X.prog X.w X.K X.mg X.base k x n f) (hr : Room k X.A) (ha : PXA X W (e :: es) ms) (hg : Gl X x := by rfl) (hdb : (x == ("__debug__" : Str)) = false := by decide)
    (he : starEach (e :: es) X.env = (false, eval e X.env) :: starEach es X.env := by rfl) (hpl : (backTo pos (starEach es X.env)).any (·.1) = false := by rfl) : PX X W (.Call (.Name x p) (e :: es) [] pos) (mFn n (noEr f) ms) := by
  obtain ⟨fa, fd, ps, h1, h2, h3, h4, h5⟩ := F.ex
  refine ⟨fun ρ => PE.imp (pe_callS (E := fun _ _ _ _ => False) h1 hr hg h2 h3 h4 (fun σ pins H s e s' I c => by obtain ⟨_, _, _, _, _, _, _, _, _, _, _, _, z⟩ := c; exact z.elim) (ha.run ρ) hdb he hpl) fun σ H Q h => ?_⟩
  obtain ⟨F0, s, h⟩ := fn_imp h
  refine ⟨F0, s, ?_⟩
  cases em : ms ρ with
  | no => rw [em] at h; exact h.elim
  | er y ρ1 => rw [em] at h; exact h
  | ok ds ρ1 => rw [em] at h; exact fun b F' H' g s' sh q => spF_noEr (h b F' H' g s' sh q)
/-- as the body of a def -/
theorem fn_pdX {P : Program} {w : World} {K : PySem.W.Frag} {mg : Str → Option Value} {base : Heap} {x qual : Str} {params : Arguments} {body : List Stmt} {scope : Scope} {f : Addr} {fd : FuncData} {N ps : List Str} {k : Nat} (m : MS) (F : FunD K x qual params body scope [] [] f fd) (S : FnScope N ps scope)
    (hbody : ∀ (cdv : Value) (A : Around) (outer : List PySem.Env) (s : Shared) (H : Hp) (E : XK), Room k (cxOf (L2.CX P w) P w K mg base N qual scope f cdv A outer s H E).A → L2.Takes (cxOf (L2.CX P w) P w K mg base N qual scope f cdv A outer s H E) (fun cls d _ H => E cls d H) →
      (∀ hd : Option Value, PassesOwnAt (model P w) ((cxOf (L2.CX P w) P w K mg base N qual scope f cdv A outer s H E).A.mark hd) (cxOf (L2.CX P w) P w K mg base N qual scope f cdv A outer s H E).A (cxOf (L2.CX P w) P w K mg base N qual scope f cdv A outer s H E).env (cxOf (L2.CX P w) P w K mg base N qual scope f cdv A outer s H E).xe) →
      PB (cxOf (L2.CX P w) P w K mg base N qual scope f cdv A outer s H E) (fun cls d _ H => E cls d H) ps.length body m) : FnOk P w K mg base (L2.CX P w) (k + 1) f fd ps (spF K ps.length (runB ps.length N.length m)) := by
  refine F.ok S (fun vs H Q E h => h.1) (fun cdv A outer s H vs Q E hr h => ?_)
  obtain ⟨hn, ρ, F0, st0, h⟩ := h
  refine ⟨_, (hbody cdv A outer s H E hr (L2.takes_of rfl rfl rfl rfl) (passesAt_of rfl)).run (ρ ++ List.replicate (N.length - ps.length) .emp), ?_⟩
  exact run_body hn st0 h fun _ _ _ _ _ z => z
end
end PD
end
section
set_option Elab.async false
set_option linter.all false
set_option maxRecDepth 100000
set_option maxHeartbeats 2000000
namespace PD
open PySem PySem.Spec PySem.SeqAt
open AutoSeq1 (wpAny_loadPart')
open MeetsSeq

/-! ### built-in values beside an instance of an own class: they decline -/
abbrev iO (C dx : Addr) : Obj := PySem.W.instObj C dx
theorem dec_int_eq (b : Int) (u : Tok) (x C dx : Addr) : Meets (Builtin.«int.__eq__» ⟨[.int b u, .ref x], []⟩) (fun _ R s => s.heap.get? x = some (iO C dx) ∧ R (.ok (.ret .notImplemented)) s) :=
  .of_wp fun prog w A R s h => by obtain ⟨hp, g, d, tk, os⟩ := s; obtain ⟨hl, h⟩ := h; wp_walk using wpAny_loadPart' hl, wpAny_load hl; exact ⟨_, rfl, h⟩
theorem dec_int_ne (b : Int) (u : Tok) (x C dx : Addr) : Meets (Builtin.«int.__ne__» ⟨[.int b u, .ref x], []⟩) (fun _ R s => s.heap.get? x = some (iO C dx) ∧ R (.ok (.ret .notImplemented)) s) :=
  .of_wp fun prog w A R s h => by obtain ⟨hp, g, d, tk, os⟩ := s; obtain ⟨hl, h⟩ := h; wp_walk using wpAny_loadPart' hl, wpAny_load hl; exact ⟨_, rfl, h⟩
theorem dec_str_eq (b : Str) (u : Tok) (x C dx : Addr) : Meets (Builtin.«str.__eq__» ⟨[.str b u, .ref x], []⟩) (fun _ R s => s.heap.get? x = some (iO C dx) ∧ R (.ok (.ret .notImplemented)) s) :=
  .of_wp fun prog w A R s h => by obtain ⟨hp, g, d, tk, os⟩ := s; obtain ⟨hl, h⟩ := h; wp_walk using wpAny_loadPart' hl, wpAny_load hl; exact ⟨_, rfl, h⟩
theorem dec_str_ne (b : Str) (u : Tok) (x C dx : Addr) : Meets (Builtin.«str.__ne__» ⟨[.str b u, .ref x], []⟩) (fun _ R s => s.heap.get? x = some (iO C dx) ∧ R (.ok (.ret .notImplemented)) s) :=
  .of_wp fun prog w A R s h => by obtain ⟨hp, g, d, tk, os⟩ := s; obtain ⟨hl, h⟩ := h; wp_walk using wpAny_loadPart' hl, wpAny_load hl; exact ⟨_, rfl, h⟩
theorem dec_non_eq (x : Addr) : Gives (Builtin.«NoneType.__eq__» ⟨[.none, .ref x], []⟩) (.val (Value.notImplemented)) :=
  .of_wp fun M A E s Q h => by obtain ⟨hp, g, d, tk, os⟩ := s; wp_walk; exact ⟨_, rfl, h⟩
theorem dec_non_ne (x : Addr) : Gives (Builtin.«NoneType.__ne__» ⟨[.none, .ref x], []⟩) (.val (Value.notImplemented)) :=
  .of_wp fun M A E s Q h => by obtain ⟨hp, g, d, tk, os⟩ := s; wp_walk; exact ⟨_, rfl, h⟩
section
variable {x l C dx : Addr} {items : Array Value} {n : Nat} {dd : Option Addr} {sl : Array (Option Value)}
theorem dec_lst_eq {prog : Program} {w : World} {A : Around} {R : Result → Shared → Prop} {s : Shared} (hi : PySem.W.Looks (model prog w) s.heap (isSubtype (.ref C) (.type "list")) false) (hx : s.heap.get? x = some (iO C dx))
    (hl : s.heap.get? l = some { cls := .type "list", dict := dd, data := .seq items n, slots := sl }) (h : R (.ok (.ret .notImplemented)) s) :
    wpAny (model prog w) A.in1 (Builtin.«list.__eq__» ⟨[.ref l, .ref x], []⟩) (fun fin s' => match fin with | .done f => R (.ok f) s' | .again c' => c'.quiet = true ∧ codeAny (model prog w) A c' R s') (fun e s' => R (.error e) s') s := by
  obtain ⟨hp, g, d, tk, os⟩ := s
  unfold Builtin.«list.__eq__»
  wp_walk using wpAny_loadPart' hl, wpAny_loadPart' hx
  refine hi.at ?_
  wp_walk
  exact h
theorem dec_lst_ne {prog : Program} {w : World} {A : Around} {R : Result → Shared → Prop} {s : Shared} (hi : PySem.W.Looks (model prog w) s.heap (isSubtype (.ref C) (.type "list")) false) (hx : s.heap.get? x = some (iO C dx))
    (hl : s.heap.get? l = some { cls := .type "list", dict := dd, data := .seq items n, slots := sl }) (h : R (.ok (.ret .notImplemented)) s) :
    wpAny (model prog w) A.in1 (Builtin.«list.__ne__» ⟨[.ref l, .ref x], []⟩) (fun fin s' => match fin with | .done f => R (.ok f) s' | .again c' => c'.quiet = true ∧ codeAny (model prog w) A c' R s') (fun e s' => R (.error e) s') s := by
  obtain ⟨hp, g, d, tk, os⟩ := s
  unfold Builtin.«list.__ne__»
  wp_walk using wpAny_loadPart' hl, wpAny_loadPart' hx
  refine hi.at ?_
  wp_walk
  exact h
theorem dec_tup_eq {prog : Program} {w : World} {A : Around} {R : Result → Shared → Prop} {s : Shared} (hi : PySem.W.Looks (model prog w) s.heap (isSubtype (.ref C) (.type "tuple")) false) (hx : s.heap.get? x = some (iO C dx))
    (hl : s.heap.get? l = some { cls := .type "tuple", dict := dd, data := .seq items n, slots := sl }) (h : R (.ok (.ret .notImplemented)) s) :
    wpAny (model prog w) A.in1 (Builtin.«tuple.__eq__» ⟨[.ref l, .ref x], []⟩) (fun fin s' => match fin with | .done f => R (.ok f) s' | .again c' => c'.quiet = true ∧ codeAny (model prog w) A c' R s') (fun e s' => R (.error e) s') s := by
  obtain ⟨hp, g, d, tk, os⟩ := s
  unfold Builtin.«tuple.__eq__»
  wp_walk using wpAny_loadPart' hl, wpAny_loadPart' hx
  refine hi.at ?_
  wp_walk
  exact h
theorem dec_tup_ne {prog : Program} {w : World} {A : Around} {R : Result → Shared → Prop} {s : Shared} (hi : PySem.W.Looks (model prog w) s.heap (isSubtype (.ref C) (.type "tuple")) false) (hx : s.heap.get? x = some (iO C dx))
    (hl : s.heap.get? l = some { cls := .type "tuple", dict := dd, data := .seq items n, slots := sl }) (h : R (.ok (.ret .notImplemented)) s) :
    wpAny (model prog w) A.in1 (Builtin.«tuple.__ne__» ⟨[.ref l, .ref x], []⟩) (fun fin s' => match fin with | .done f => R (.ok f) s' | .again c' => c'.quiet = true ∧ codeAny (model prog w) A c' R s') (fun e s' => R (.error e) s') s := by
  obtain ⟨hp, g, d, tk, os⟩ := s
  unfold Builtin.«tuple.__ne__»
  wp_walk using wpAny_loadPart' hl, wpAny_loadPart' hx
  refine hi.at ?_
  wp_walk
  exact h
end
end PD
end
section
set_option Elab.async false
set_option linter.all false
set_option maxRecDepth 100000
set_option maxHeartbeats 2000000
namespace PD
open PySem PySem.Spec PyProof.Rows L2

/-! ### == and != by an own __eq__ -/
def eqTypes : List String := ["NoneType", "int", "str", "list", "tuple"]
structure EqOk (P : Program) (w : World) (K : PySem.W.Frag) (mg : Str → Option Value) (base : Heap) (k : Nat) (cs : List Str) (f : En → Res RV) : Prop where
  ex : ∃ g, FnR P w K mg base (L2N.CX P w) k g (spV K f) ∧ PySem.W.isFn K (.ref g) = true ∧ ∀ c, cs.contains c = true → PySem.W.findIn K (.ref (He.ga K c)) "__eq__" = some (some (.ref g)) ∧ PySem.W.findIn K (.ref (He.ga K c)) "__ne__" = some (some (.builtin "object.__ne__")) ∧
    PySem.W.mroIn K (He.ga K c) (.type "object") = some true ∧ (∀ T ∈ eqTypes, PySem.W.mroIn K (He.ga K c) (.type T) = some false ∧ PySem.W.notFirst K (He.ga K c) (.type T) = true) ∧ ∀ d, cs.contains d = true → PySem.W.notFirst K (He.ga K c) (.ref (He.ga K d)) = true
theorem EqOk.mono {P : Program} {w : World} {K : PySem.W.Frag} {mg : Str → Option Value} {base : Heap} {j k : Nat} {cs : List Str} {f : En → Res RV} (h : EqOk P w K mg base j cs f) (hj : j ≤ k) : EqOk P w K mg base k cs f :=
  ⟨let ⟨g, a, b⟩ := h.ex; ⟨g, a.mono hj, b⟩⟩
/-- what __eq__ answers -/
def ownEq (f : En → Res RV) (a b : D) : Option Bool := match f [.val a, .val b] with
  | .ok (.val (.bl r)) _ => some r
  | _ => none
/-- the kind of a value that stands beside an instance -/
def D.kind : D → Option String
  | .non => some "NoneType"
  | .int _ => some "int"
  | .str _ => some "str"
  | .lst _ => some "list"
  | .tup _ => some "tuple"
  | _ => none
theorem kind_mem {d : D} {T : String} (h : d.kind = some T) : T ∈ eqTypes := by
  cases d <;> first | (cases h; decide) | cases h
section
variable {X : Cx} {pins : List (Addr × Obj)} {σ : L2.St} {H F : Hp} {s : Shared} {A : Around} {k : Nat} {cs : List Str} {f : En → Res RV}
/-- the type of a value, as the model asks it -/
theorem kind_looks {d : D} {v : V} {u : Value} {T : String} (I : Inv X pins σ H s) (e : Same F H) (r : Rep X.K F d v) (ru : RelV v u) (h : d.kind = some T) : PySem.W.Looks (model X.prog X.w) s.heap (typeOf u) (.type T) ∧ ∀ s' : Shared, s'.heap = s.heap → s'.TypeIs u T := by
  cases r with
  | non => cases h; obtain rfl : u = .none := ru; exact ⟨.of_pure rfl, fun _ _ => rfl⟩
  | bl b => cases h
  | int i => cases h; obtain ⟨t, rfl⟩ := (show ∃ t, u = .int i t from ru); exact ⟨.of_pure rfl, fun s' _ => typeIs_int s' i t⟩
  | str x => cases h; obtain ⟨t, rfl⟩ := (show ∃ t, u = .str x t from ru); exact ⟨.of_pure rfl, fun s' _ => typeIs_str s' x t⟩
  | lst hs hr =>
    rename_i ds a vs
    cases h
    obtain rfl : u = .ref a := ru
    obtain ⟨its, _, ⟨o, n, eo, hc, _, _⟩, _⟩ := I.list (Same.seq e hs)
    exact ⟨fun A Q E s k q => wpAny_typeOf_ref (k _ _ eo) (by rw [hc]; exact q), fun s' hs' => ⟨o, by rw [hs']; exact eo, hc⟩⟩
  | tup hs hr =>
    rename_i ds a vs
    cases h
    obtain rfl : u = .ref a := ru
    obtain ⟨its, _, ⟨o, eo, hc, _, _⟩, _⟩ := I.tuple (same_seqT e hs)
    exact ⟨fun A Q E s k q => wpAny_typeOf_ref (k _ _ eo) (by rw [hc]; exact q), fun s' hs' => ⟨o, by rw [hs']; exact eo, hc⟩⟩
  | obj _ _ _ => cases h
  | dct _ _ _ => cases h
/-- what is told behind such a comparison -/
def EqEnd (X : Cx) (pins : List (Addr × Obj)) (σ : L2.St) (F H : Hp) (s' : Shared) : Prop := ∃ F' H', Inv X pins σ H' s' ∧ Gr F H F' H' ∧ Same F' H'
theorem own_call {g : Addr} {E : Value → Shared → Prop} (sb : Sub X k A) (Fg : FnR X.prog X.w X.K X.mg X.base (L2N.CX X.prog X.w) k g (spV X.K f)) (I : Inv X pins σ H s) (e : Same F H) {a b : D} {x : Addr} {y : V} {u : Value} {r : Bool} (ra : Rep X.K F a (.ref x)) (rb : Rep X.K F b y) (ru : RelV y u)
    (hr : ownEq f a b = some r) : wpAny (model X.prog X.w) A (call (.ref g) [.ref x, u]) (fun v s' => v = .bool r ∧ EqEnd X pins σ F H s') E s := by
  have e0 : Env0 X.prog X.w X.K X.mg X.base A X.stack s H := by
    have z := I.env0
    exact ⟨by rw [sb.fr]; exact z.frames, z.mod, z.bs, z.bsz, z.funs, z.frf, z.hok, z.bare⟩
  have rr : Reps X.K F [a, b] [.ref x, y] := .cons ra (.cons rb .nil)
  have hsp : spV X.K f [.ref x, y] H (fun v H' => v = .bl r ∧ ∃ F', Gr F H F' H' ∧ Same F' H') (fun _ _ _ => False) := by
    refine ⟨[.val a, .val b], F, args_ok e rr, ?_⟩
    have noo : ∀ {F' H'}, Grow (Own (([.ref x, y] : List V).map some) ([a, b].map .val)) F H F' H' → Gr F H F' H' := fun g => g.imp fun b z => (args_noown z).elim
    unfold ownEq at hr
    cases ef : f [.val a, .val b] with
    | no => rw [ef] at hr; cases hr
    | er z ρ' => rw [ef] at hr; cases hr
    | ok av ρ' =>
      rw [ef] at hr
      cases av with
      | fr oc => cases hr
      | val dv =>
        cases dv with
        | bl r' =>
          cases hr
          intro v F' H' gr s' sh q
          cases q
          exact ⟨rfl, F', noo gr, s'.same⟩
        | _ => cases hr
  refine wpAny_call (codeAny_mono (Fg A X.stack s H [.ref x, u] [.ref x, y] _ _ sb.room e0 (.cons rfl (.cons ru .nil)) hsp) fun r' s' hq => ?_)
  cases r' with
  | error er => obtain ⟨_, _, _, _, _, _, _, _, _, _, _, _, z⟩ := hq; exact z.elim
  | ok fl =>
    cases fl with
    | ret u' =>
      obtain ⟨v, H', J, rv, ev, F', g', e'⟩ := I.after hq
      subst ev
      obtain rfl : u' = .bool r := rv
      exact ⟨rfl, F', H', J, g', e'⟩
    | next => exact False.elim hq
    | brk => exact False.elim hq
    | cont => exact False.elim hq
/-- x.__ne__(u), x an instance -/
theorem try_ne {g C : Addr} {E : Value → Shared → Prop} {x : Addr} {ox : Obj} {od : Option Obj} {u : Value} {r : Bool} {R : Shared → Prop} (hu : A.units + 1 < cLine) (X0 : X.K.In s.heap) (J : PySem.W.InstAt s.heap x ox C od) (hq : PySem.W.findIn X.K (.ref C) "__eq__" = some (some (.ref g))) (hf : PySem.W.isFn X.K (.ref g) = true)
    (hn : PySem.W.findIn X.K (.ref C) "__ne__" = some (some (.builtin "object.__ne__"))) (ho : PySem.W.mroIn X.K C (.type "object") = some true)
    (h : wpAny (model X.prog X.w) A.in1 (call (.ref g) [.ref x, u]) (fun v s' => v = .bool r ∧ R s') E s) : wpAny (model X.prog X.w) A (tryCompare (.ref x) "__ne__" u) (fun v s' => v = some (.bool (!r)) ∧ R s') E s := by
  unfold tryCompare
  have key : wpAny (model X.prog X.w) A (call (.builtin "object.__ne__") [.ref x, u]) (fun v s' => v = .bool (!r) ∧ R s') E s := by
    have sub : PySem.W.Looks (model X.prog X.w) s.heap (isInstance (.ref x) (.type "object")) true := J.type.andThen (PySem.W.looks_mroIn X0 ho)
    refine wpAny_call (codeAny_call_builtin PySem.F.cmp_object.ne.plain PySem.F.cmpEntry_ne (PySem.W.check_slot PySem.F.cmpKind_ne PySem.F.cmpSplit_ne sub (PySem.F.cmpArgs_ne _ _) ?_))
    obtain ⟨hp, gg, d, t, os⟩ := s
    unfold Builtin.«object.__ne__»
    refine wpAny_bind (wpAny_of_eq (a := ((Value.ref x : Value), [u])) (by first | rfl | (simp only [slotArgs]; rfl)) ?_)
    refine wpAny_bind (wpAny_cRoomFor (by show A.units + 1 < cLine; exact hu) ?_)
    refine wpAny_bind (PySem.W.ifBound_K X0 J hq hf (wpAny_mono h (fun v s' hv => ?_) fun _ _ z => z))
    obtain ⟨rfl, hR⟩ := hv
    exact wpAny_bind (wpAny_truthy_bool (wpAny_pure ⟨rfl, hR⟩))
  have bound : wpAny (model X.prog X.w) A (callSpecialIfBound? (.ref x) "__ne__" [u]) (fun v s' => v = some (.bool (!r)) ∧ R s') E s := by
    simp only [callSpecialIfBound?, bindSpecialIfBound?]
    refine wpAny_holding (wpAny_bind (wpAny_bind (wpAny_bind (J.type.here ((PySem.W.looks_findIn X0 hn).here ?_)))))
    have fin : wpAny (model X.prog X.w) A (call (.builtin "object.__ne__") ([.ref x] ++ [u]) >>= fun v => pure (some v)) (fun v s' => v = some (.bool (!r)) ∧ R s') E s := wpAny_bind (wpAny_mono key (fun v s' h' => wpAny_pure ⟨by rw [h'.1], h'.2⟩) fun _ _ h' => h')
    simp only [PySem.F.cmp_object.ne.bind]
    refine wpAny_bind (wpAny_askSetting (wpAny_ite ?_))
    split
    · first | exact wpAny_bind (wpAny_pure (wpAny_pure fin)) | exact wpAny_bind (wpAny_pure fin) | exact wpAny_pure fin
    · first | exact wpAny_tryCatch (wpAny_bind (wpAny_pure (wpAny_pure fin))) | exact wpAny_tryCatch (wpAny_bind (wpAny_pure fin)) | exact wpAny_tryCatch (wpAny_pure fin)
  refine wpAny_bind (wpAny_mono bound (fun v s' h' => ?_) fun _ _ h' => h')
  obtain ⟨rfl, hR⟩ := h'
  exact wpAny_pure ⟨rfl, hR⟩
end
end PD
end
section
set_option Elab.async false
set_option linter.all false
set_option maxRecDepth 100000
set_option maxHeartbeats 2000000
namespace PD
open PySem PySem.Spec PyProof.Rows L2

section
variable {X : Cx} {pins : List (Addr × Obj)} {σ : L2.St} {H F : Hp} {s : Shared} {A : Around} {k : Nat} {cs : List Str} {f : En → Res RV}
/-- a built-in value beside an instance declines -/
theorem try_dec {op : CmpOp} (hop : op = .Eq ∨ op = .NotEq) {E : Value → Shared → Prop} {d : D} {v : V} {u : Value} {T : String} {x C dx : Addr} (I : Inv X pins σ H s) (e : Same F H) (r : Rep X.K F d v) (ru : RelV v u) (h : d.kind = some T) (hx : s.heap.get? x = some (iO C dx))
    (hi : PySem.W.mroIn X.K C (.type T) = some false) : wpAny (model X.prog X.w) A (tryCompare u (cmpInfo op).2.1 (.ref x)) (fun v s' => v = none ∧ s' = s) E s := by
  have hT := (kind_looks I e r ru h).2
  have hT0 := hT s rfl
  have fin : (fun (v : Value) (s' : Shared) => v = .notImplemented ∧ (none : Option Value) = none ∧ s' = s) .notImplemented s := ⟨rfl, rfl, rfl⟩
  cases r with
  | non =>
    cases h
    obtain rfl : u = .none := ru
    rcases hop with rfl | rfl
    · exact wpAny_tryCompare_declines hT0 PySem.F.slot_NoneType_eq (call_gives PySem.F.slot_NoneType_eq rfl PySem.F.entry_NoneType_eq (PySem.F.args_NoneType_eq_2 _ _) (dec_non_eq x) fin)
    · exact wpAny_tryCompare_declines hT0 PySem.F.slot_NoneType_ne (call_gives PySem.F.slot_NoneType_ne rfl PySem.F.entry_NoneType_ne (PySem.F.args_NoneType_ne_2 _ _) (dec_non_ne x) fin)
  | bl b => cases h
  | int i =>
    cases h
    obtain ⟨t, rfl⟩ := (show ∃ t, u = .int i t from ru)
    rcases hop with rfl | rfl
    · exact wpAny_tryCompare_declines hT0 PySem.F.slot_int_eq (call_meets PySem.F.slot_int_eq hT0 PySem.F.entry_int_eq (PySem.F.args_int_eq_2 _ _) (dec_int_eq i t x C dx) ⟨hx, fin⟩)
    · exact wpAny_tryCompare_declines hT0 PySem.F.slot_int_ne (call_meets PySem.F.slot_int_ne hT0 PySem.F.entry_int_ne (PySem.F.args_int_ne_2 _ _) (dec_int_ne i t x C dx) ⟨hx, fin⟩)
  | str z =>
    cases h
    obtain ⟨t, rfl⟩ := (show ∃ t, u = .str z t from ru)
    rcases hop with rfl | rfl
    · exact wpAny_tryCompare_declines hT0 PySem.F.slot_str_eq (call_meets PySem.F.slot_str_eq hT0 PySem.F.entry_str_eq (PySem.F.args_str_eq_2 _ _) (dec_str_eq z t x C dx) ⟨hx, fin⟩)
    · exact wpAny_tryCompare_declines hT0 PySem.F.slot_str_ne (call_meets PySem.F.slot_str_ne hT0 PySem.F.entry_str_ne (PySem.F.args_str_ne_2 _ _) (dec_str_ne z t x C dx) ⟨hx, fin⟩)
  | lst hs hr =>
    rename_i ds a vs
    cases h
    obtain rfl : u = .ref a := ru
    obtain ⟨its, _, ⟨⟨oc, od, odt, osl⟩, n, eo, hc, hd, hdt⟩, _⟩ := I.list (Same.seq e hs)
    dsimp only at hc hd hdt
    subst hc hd hdt
    have hi' : PySem.W.Looks (model X.prog X.w) s.heap (isSubtype (.ref C) (.type "list")) false := PySem.W.looks_mroIn I.kIn hi
    rcases hop with rfl | rfl
    · exact wpAny_tryCompare_declines hT0 PySem.F.slot_list_eq (GQ.call_here PySem.F.slot_list_eq hT0 PySem.F.entry_list_eq (PySem.F.args_list_eq_2 _ _) (dec_lst_eq hi' hx eo fin))
    · exact wpAny_tryCompare_declines hT0 PySem.F.slot_list_ne (GQ.call_here PySem.F.slot_list_ne hT0 PySem.F.entry_list_ne (PySem.F.args_list_ne_2 _ _) (dec_lst_ne hi' hx eo fin))
  | tup hs hr =>
    rename_i ds a vs
    cases h
    obtain rfl : u = .ref a := ru
    obtain ⟨its, _, ⟨⟨oc, od, odt, osl⟩, eo, hc, n, hdt⟩, _⟩ := I.tuple (same_seqT e hs)
    dsimp only at hc hdt
    subst hc hdt
    have hi' : PySem.W.Looks (model X.prog X.w) s.heap (isSubtype (.ref C) (.type "tuple")) false := PySem.W.looks_mroIn I.kIn hi
    rcases hop with rfl | rfl
    · exact wpAny_tryCompare_declines hT0 PySem.F.slot_tuple_eq (GQ.call_here PySem.F.slot_tuple_eq hT0 PySem.F.entry_tuple_eq (PySem.F.args_tuple_eq_2 _ _) (dec_tup_eq hi' hx eo fin))
    · exact wpAny_tryCompare_declines hT0 PySem.F.slot_tuple_ne (GQ.call_here PySem.F.slot_tuple_ne hT0 PySem.F.entry_tuple_ne (PySem.F.args_tuple_ne_2 _ _) (dec_tup_ne hi' hx eo fin))
  | obj _ _ _ => cases h
  | dct _ _ _ => cases h

/-- the instance stands first -/
theorem rc_first {op : CmpOp} {x C : Addr} {ox : Obj} {od : Option Obj} {u tb : Value} {Q : Value → Shared → Prop} {E : Value → Shared → Prop} (hu : A.units < cLine) (X0 : X.K.In s.heap) (J : PySem.W.InstAt s.heap x ox C od) (hb : PySem.W.Looks (model X.prog X.w) s.heap (typeOf u) tb) (hn : PySem.W.notFirst X.K C tb = true)
    (one : wpAny (model X.prog X.w) A (tryCompare (.ref x) (cmpInfo op).2.1 u) (fun r s' => ∃ v, r = some v ∧ Q v s') E s) : wpAny (model X.prog X.w) A (richCompare op (.ref x) u) Q E s := by
  unfold richCompare
  simp only [oneThing_ref]
  refine wpAny_holding (wpAny_bind (wpAny_cRoomFor hu ?_))
  refine wpAny_bind (J.type.here (wpAny_bind (hb.here ?_)))
  split
  · rename_i q
    have e : PySem.W.subIn X.K tb (.ref C) = some false := by
      rcases Bool.or_eq_true_iff.mp hn with e | e
      · rw [beq_iff_eq.mp e] at q; simp at q
      · exact beq_iff_eq.mp e
    refine wpAny_bind ((PySem.W.looks_subIn X0 e).here ?_)
    simp only [Bool.false_eq_true, if_false]
    refine wpAny_bind (wpAny_mono one (fun r s' z => ?_) fun _ _ e => e)
    obtain ⟨v, rfl, hq⟩ := z
    exact wpAny_pure hq
  · refine wpAny_bind (wpAny_pure ?_)
    simp only [Bool.false_eq_true, if_false]
    refine wpAny_bind (wpAny_mono one (fun r s' z => ?_) fun _ _ e => e)
    obtain ⟨v, rfl, hq⟩ := z
    exact wpAny_pure hq
/-- the instance stands behind -/
theorem rc_behind {op : CmpOp} {x C : Addr} {ox : Obj} {od : Option Obj} {u : Value} {T : String} {Q : Value → Shared → Prop} {E : Value → Shared → Prop} (hu : A.units < cLine) (X0 : X.K.In s.heap) (J : PySem.W.InstAt s.heap x ox C od) (hT : s.TypeIs u T) (hi : PySem.W.mroIn X.K C (.type T) = some false)
    (h1 : wpAny (model X.prog X.w) A (tryCompare u (cmpInfo op).2.1 (.ref x)) (fun v s' => v = none ∧ s' = s) E s)
    (h2 : wpAny (model X.prog X.w) A (tryCompare (.ref x) (cmpInfo op).2.2 u) (fun r s' => ∃ v, r = some v ∧ Q v s') E s) : wpAny (model X.prog X.w) A (richCompare op u (.ref x)) Q E s := by
  unfold richCompare
  simp only [hT.oneThing_none]
  refine wpAny_holding (wpAny_bind (wpAny_cRoomFor hu ?_))
  refine wpAny_bind (wpAny_typeOf hT (wpAny_bind (J.type.here ?_)))
  have ne : (Value.type T != Value.ref C) = true := by simp
  rw [if_pos ne]
  refine wpAny_bind ((PySem.W.looks_mroIn X0 hi).here ?_)
  simp only [Bool.false_eq_true, if_false, Bool.not_false, if_true]
  refine wpAny_bind (wpAny_mono h1 (fun r s' z => ?_) fun _ _ e => e)
  obtain ⟨rfl, rfl⟩ := z
  refine wpAny_bind (wpAny_mono h2 (fun r s' z => ?_) fun _ _ e => e)
  obtain ⟨v, rfl, hq⟩ := z
  exact wpAny_pure hq
/-- an instance of one of the classes -/
theorem obj_at {c : Str} {ns : List Str} {ds : List D} {v : V} (I : Inv X pins σ H s) (e : Same F H) (r : Rep X.K F (.obj c ns ds) v) : ∃ x dx ox od, v = .ref x ∧ s.heap.get? x = some (iO (He.ga X.K c) dx) ∧ PySem.W.InstAt s.heap x ox (He.ga X.K c) od := by
  cases r with
  | obj ho hl hr =>
    rename_i a dx vs
    obtain ⟨mA, O, _⟩ := ins_get I.hok (e _ _ ho)
    obtain ⟨od, J, _⟩ := O.look
    exact ⟨a, dx, _, _, rfl, O.obj, J⟩
/-- what == (i: false), != (i: true) answer of two values, one at least an instance -/
def eqPair (cs : List Str) (f : En → Res RV) : D → D → Option Bool
  | .obj c ns ds, .obj c' ns' ds' => if cs.contains c = true ∧ cs.contains c' = true then ownEq f (.obj c ns ds) (.obj c' ns' ds') else none
  | .obj c ns ds, b => if cs.contains c = true ∧ b.kind.isSome = true then ownEq f (.obj c ns ds) b else none
  | a, .obj c ns ds => if cs.contains c = true ∧ a.kind.isSome = true then ownEq f (.obj c ns ds) a else none
  | _, _ => none
theorem eqPair_ok {a b : D} {r : Bool} (h : eqPair cs f a b = some r) : (∃ c ns ds, a = .obj c ns ds ∧ cs.contains c = true ∧ ownEq f a b = some r ∧ ((∃ c' ns' ds', b = .obj c' ns' ds' ∧ cs.contains c' = true) ∨ ∃ T, b.kind = some T)) ∨
    (∃ c ns ds T, b = .obj c ns ds ∧ cs.contains c = true ∧ a.kind = some T ∧ ownEq f b a = some r) := by
  unfold eqPair at h
  split at h
  · split at h
    · rename_i hc
      exact .inl ⟨_, _, _, rfl, hc.1, h, .inl ⟨_, _, _, rfl, hc.2⟩⟩
    · cases h
  · split at h
    · rename_i hc
      exact .inl ⟨_, _, _, rfl, hc.1, h, .inr (Option.isSome_iff_exists.mp hc.2)⟩
    · cases h
  · split at h
    · rename_i hc
      obtain ⟨T, hT⟩ := Option.isSome_iff_exists.mp hc.2
      exact .inr ⟨_, _, _, T, rfl, hc.1, hT, h⟩
    · cases h
  · cases h
theorem rc_pair {op : CmpOp} (hop : op = .Eq ∨ op = .NotEq) {E : Value → Shared → Prop} {a b : D} {x y : V} {u v : Value} {r : Bool} (O : EqOk X.prog X.w X.K X.mg X.base k cs f) (sb : Sub X (k + 1) A) (I : Inv X pins σ H s) (e : Same F H) (ra : Rep X.K F a x) (rb : Rep X.K F b y) (ru : RelV x u) (rv : RelV y v) (h : eqPair cs f a b = some r) :
    wpAny (model X.prog X.w) A (richCompare op u v) (fun w s' => w = .bool (if op = .NotEq then !r else r) ∧ EqEnd X pins σ F H s') E s := by
  obtain ⟨g, Fg, hf, hg⟩ := O.ex
  have hun : A.units + 64 < cLine := sb.room.units
  -- the two ways of asking, of the instance at z for w
  have ask : ∀ {c : Str} {ns : List Str} {ds : List D} {z : Addr} {dz : Addr} {oz : Obj} {odz : Option Obj} {d2 : D} {y2 : V} {w : Value}, cs.contains c = true → PySem.W.InstAt s.heap z oz (He.ga X.K c) odz → Rep X.K F (.obj c ns ds) (.ref z) → Rep X.K F d2 y2 → RelV y2 w → ownEq f (.obj c ns ds) d2 = some r →
      wpAny (model X.prog X.w) A (tryCompare (.ref z) (cmpInfo op).2.1 w) (fun q s' => ∃ v, q = some v ∧ v = .bool (if op = .NotEq then !r else r) ∧ EqEnd X pins σ F H s') E s := fun {c ns ds z dz oz odz d2 y2 w} hc J rz r2 rw2 ho => by
    obtain ⟨h1, h2, h3, h4, h5⟩ := hg c hc
    rcases hop with rfl | rfl
    · have one := own_call (E := E) (sb.mono (Nat.le_succ k)) Fg I e rz r2 rw2 ho
      show wpAny _ _ (tryCompare (.ref z) "__eq__" w) _ _ _
      unfold tryCompare
      refine wpAny_bind (PySem.W.ifBound_K I.kIn J h1 hf (wpAny_mono one (fun v s' hv => ?_) fun _ _ z => z))
      obtain ⟨rfl, q⟩ := hv
      exact wpAny_pure ⟨_, rfl, by simp, q⟩
    · have one := own_call (E := E) sb.in1 Fg I e rz r2 rw2 ho
      show wpAny _ _ (tryCompare (.ref z) "__ne__" w) _ _ _
      refine wpAny_mono (try_ne (by omega) I.kIn J h1 hf h2 h3 one) (fun q s' hv => ?_) fun _ _ z => z
      obtain ⟨rfl, q⟩ := hv
      exact ⟨_, rfl, by simp, q⟩
  have hrefl : (cmpInfo op).2.2 = (cmpInfo op).2.1 := by rcases hop with rfl | rfl <;> rfl
  rcases eqPair_ok h with ⟨c, ns, ds, rfl, hc, ho, hb⟩ | ⟨c, ns, ds, T, rfl, hc, hk, ho⟩
  · obtain ⟨z, dz, oz, odz, rfl, hz, J⟩ := obj_at I e ra
    obtain rfl : u = .ref z := ru
    obtain ⟨h1, h2, h3, h4, h5⟩ := hg c hc
    have hb' : ∃ tb, PySem.W.Looks (model X.prog X.w) s.heap (typeOf v) tb ∧ PySem.W.notFirst X.K (He.ga X.K c) tb = true := by
      rcases hb with ⟨c', ns', ds', rfl, hc'⟩ | ⟨T, hT⟩
      · obtain ⟨z', dz', oz', odz', rfl, hz', J'⟩ := obj_at I e rb
        obtain rfl : v = .ref z' := rv
        exact ⟨_, J'.type, h5 c' hc'⟩
      · exact ⟨_, (kind_looks I e rb rv hT).1, (h4 T (kind_mem hT)).2⟩
    obtain ⟨tb, hl, hnf⟩ := hb'
    exact rc_first (by omega) I.kIn J hl hnf (ask (dz := dz) hc J ra rb rv ho)
  · obtain ⟨z, dz, oz, odz, rfl, hz, J⟩ := obj_at I e rb
    obtain rfl : v = .ref z := rv
    obtain ⟨h1, h2, h3, h4, h5⟩ := hg c hc
    refine rc_behind (by omega) I.kIn J ((kind_looks I e ra ru hk).2 s rfl) (h4 T (kind_mem hk)).1 (try_dec hop I e ra ru hk hz (h4 T (kind_mem hk)).1) ?_
    rw [hrefl]
    exact ask (dz := dz) hc J rb ra ru ho
end
end PD
end
section
set_option Elab.async false
set_option linter.all false
set_option maxRecDepth 100000
set_option maxHeartbeats 2000000
namespace PD
namespace LoopO
open PySem PySem.SeqAt GQ
open AutoSeq1 (wpAny_loadPart')
open MeetsSeq MeetsSeq2 MeetsSeq3 SeqRoads2
section
variable {prog : Program} {w : World} {A : Around} {R : Result → Shared → Prop}
abbrev lO (items : Array Value) (n : Nat) (dd : Option Addr) (sl : Array (Option Value)) : Obj := { cls := .type "list", dict := dd, data := .seq items n, slots := sl }
def ListO (prog : Program) (w : World) (A : Around) (E : Value → Shared → Prop) (l b : Addr) (N : Nat) (I : Nat → Shared → Prop) : Prop :=
  ∀ i s, I i s → ∃ (items items2 : Array Value) (n n2 : Nat) (dd dd2 : Option Addr) (sl sl2 : Array (Option Value)), s.heap.get? l = some (lO items n dd sl) ∧ s.heap.get? b = some (lO items2 n2 dd2 sl2) ∧ items.size = N ∧ items2.size = N ∧
    ∀ (h1 : i < items.size) (h2 : i < items2.size), wpAny (model prog w) A.in1 (eqBool items[i] items2[i]) (fun r s' => r = true ∧ I (i + 1) s') E s
theorem eq_loopO (l b : Addr) (N : Nat) (I : Nat → Shared → Prop) (hl : ListO prog w A (fun e s' => R (.error e) s') l b N I)
    (fin : ∀ s, I N s → R (.ok (.ret (.bool true))) s) (k : Nat) :
    ∀ i : Nat, N - i = k → i ≤ N → ∀ s, I i s →
      wpAny (model prog w) A.in1 (Builtin.«list.__eq__.loop» ⟨[.ref l, .ref b, rawInt i, rawInt 2], []⟩) (FinOf prog w A R) (fun e s' => R (.error e) s') s := by
  induction k with
  | zero =>
    intro i hk hi s h
    obtain ⟨items, items2, n, n2, dd, dd2, sl, sl2, hl1, hb1, hs1, hs2, _⟩ := hl _ _ h
    have hi' : i = N := by omega
    have hR : R (.ok (.ret (.bool true))) s := fin s (hi' ▸ h)
    obtain ⟨hp, g, d, tk, os⟩ := s
    wp_walk using wpAny_loadPart' hl1, wpAny_loadPart' hb1
    have hi1 : items[((i : Nat) : Int).toNat]? = none := by simp; omega
    have hi2 : items2[((i : Nat) : Int).toNat]? = none := by simp; omega
    rw [hi1, hi2]
    wp_walk using wpAny_loadPart' hl1, wpAny_loadPart' hb1
    show R (.ok (.ret (.bool (items.size == items2.size)))) _
    rw [hs1, hs2]
    simpa using hR
  | succ k ih =>
    intro i hk hi s h
    obtain ⟨items, items2, n, n2, dd, dd2, sl, sl2, hl1, hb1, hs1, hs2, turn⟩ := hl _ _ h
    have hlt : i < items.size := by omega
    have hlt2 : i < items2.size := by omega
    have ht := turn hlt hlt2
    obtain ⟨hp, g, d, tk, os⟩ := s
    wp_walk using wpAny_loadPart' hl1, wpAny_loadPart' hb1
    have hi1 : items[((i : Nat) : Int).toNat]? = some items[i] := by simp [hlt]
    have hi2 : items2[((i : Nat) : Int).toNat]? = some items2[i] := by simp [hlt2]
    have hc : ((i : Int) + 1) = ((i + 1 : Nat) : Int) := by omega
    rw [hi1, hi2]
    refine wpAny_bind (wpAny_mono ht (fun r s2 h2 => ?_) fun _ _ x => x)
    obtain ⟨hr, h2⟩ := h2
    subst hr
    have hrec := ih (i + 1) (by omega) (by omega) s2 h2
    obtain ⟨hp2, g2, d2, tk2, os2⟩ := s2
    wp_walk
    rw [hc]
    exact ⟨plainId_quiet plain_eq_loop _, codeAny_builtin entry_eq_loop (by
      rw [Around.under_plainId plain_eq_loop _]
      exact hrec)⟩
theorem list_eqO (l b : Addr) (N : Nat) (I : Nat → Shared → Prop) (hl : ListO prog w A (fun e s' => R (.error e) s') l b N I)
    (fin : ∀ s, I N s → R (.ok (.ret (.bool true))) s) {s : Shared} (h : I 0 s) :
    wpAny (model prog w) A.in1 (Builtin.«list.__eq__» ⟨[.ref l, .ref b], []⟩) (FinOf prog w A R) (fun e s' => R (.error e) s') s := by
  obtain ⟨items, items2, n, n2, dd, dd2, sl, sl2, hl1, hb1, hs1, hs2, _⟩ := hl _ _ h
  have hrec := eq_loopO (A := A) (R := R) l b N I hl fin _ 0 rfl (Nat.zero_le _) s h
  obtain ⟨hp, g, d, tk, os⟩ := s
  have f3 := AutoSeq1.sub_list_list
  have hne : ¬ (items.size != items2.size) = true := by simp [hs1, hs2]
  wp_walk using wpAny_loadPart' hl1, wpAny_loadPart' hb1
  exact ⟨plainId_quiet plain_eq_loop _, codeAny_builtin entry_eq_loop (by
    rw [Around.under_plainId plain_eq_loop _]
    exact hrec)⟩
theorem rc_eqO {E : Value → Shared → Prop} {s : Shared} {l b : Addr} {N : Nat} {Q : Value → Shared → Prop} (hu : A.units < cLine) (I : Nat → Shared → Prop) (hl : ListO prog w A E l b N I)
    (fin : ∀ s, I N s → Q (.bool true) s) (h : I 0 s) : wpAny (model prog w) A (richCompare .Eq (.ref l) (.ref b)) Q E s := by
  obtain ⟨items, items2, n, n2, dd, dd2, sl, sl2, hl1, hb1, _, _, _⟩ := hl _ _ h
  refine wpAny_richCompare_same_room (op := .Eq) ⟨_, hl1, rfl⟩ ⟨_, hb1, rfl⟩ F.slot_list_eq (call_here F.slot_list_eq ⟨_, hl1, rfl⟩ F.entry_list_eq (F.args_list_eq_2 _ _) ?_) hu
  exact list_eqO (R := wants (fun v s' => v ≠ .notImplemented ∧ Q v s') E) l b N I hl (fun s' q => ⟨(fun x => nomatch x), fin s' q⟩) h
theorem ne_loopO (l b : Addr) (N : Nat) (I : Nat → Shared → Prop) (hl : ListO prog w A (fun e s' => R (.error e) s') l b N I)
    (fin : ∀ s, I N s → R (.ok (.ret (.bool false))) s) (k : Nat) :
    ∀ i : Nat, N - i = k → i ≤ N → ∀ s, I i s →
      wpAny (model prog w) A.in1 (Builtin.«list.__eq__.loop» ⟨[.ref l, .ref b, rawInt i, rawInt 3], []⟩) (FinOf prog w A R) (fun e s' => R (.error e) s') s := by
  induction k with
  | zero =>
    intro i hk hi s h
    obtain ⟨items, items2, n, n2, dd, dd2, sl, sl2, hl1, hb1, hs1, hs2, _⟩ := hl _ _ h
    have hi' : i = N := by omega
    have hR : R (.ok (.ret (.bool false))) s := fin s (hi' ▸ h)
    obtain ⟨hp, g, d, tk, os⟩ := s
    wp_walk using wpAny_loadPart' hl1, wpAny_loadPart' hb1
    have hi1 : items[((i : Nat) : Int).toNat]? = none := by simp; omega
    have hi2 : items2[((i : Nat) : Int).toNat]? = none := by simp; omega
    rw [hi1, hi2]
    wp_walk using wpAny_loadPart' hl1, wpAny_loadPart' hb1
    show R (.ok (.ret (.bool (items.size != items2.size)))) _
    rw [hs1, hs2]
    simpa using hR
  | succ k ih =>
    intro i hk hi s h
    obtain ⟨items, items2, n, n2, dd, dd2, sl, sl2, hl1, hb1, hs1, hs2, turn⟩ := hl _ _ h
    have hlt : i < items.size := by omega
    have hlt2 : i < items2.size := by omega
    have ht := turn hlt hlt2
    obtain ⟨hp, g, d, tk, os⟩ := s
    wp_walk using wpAny_loadPart' hl1, wpAny_loadPart' hb1
    have hi1 : items[((i : Nat) : Int).toNat]? = some items[i] := by simp [hlt]
    have hi2 : items2[((i : Nat) : Int).toNat]? = some items2[i] := by simp [hlt2]
    have hc : ((i : Int) + 1) = ((i + 1 : Nat) : Int) := by omega
    rw [hi1, hi2]
    refine wpAny_bind (wpAny_mono ht (fun r s2 h2 => ?_) fun _ _ x => x)
    obtain ⟨hr, h2⟩ := h2
    subst hr
    have hrec := ih (i + 1) (by omega) (by omega) s2 h2
    obtain ⟨hp2, g2, d2, tk2, os2⟩ := s2
    wp_walk
    rw [hc]
    exact ⟨plainId_quiet plain_eq_loop _, codeAny_builtin entry_eq_loop (by
      rw [Around.under_plainId plain_eq_loop _]
      exact hrec)⟩
theorem list_neO (l b : Addr) (N : Nat) (I : Nat → Shared → Prop) (hl : ListO prog w A (fun e s' => R (.error e) s') l b N I)
    (fin : ∀ s, I N s → R (.ok (.ret (.bool false))) s) {s : Shared} (h : I 0 s) :
    wpAny (model prog w) A.in1 (Builtin.«list.__ne__» ⟨[.ref l, .ref b], []⟩) (FinOf prog w A R) (fun e s' => R (.error e) s') s := by
  obtain ⟨items, items2, n, n2, dd, dd2, sl, sl2, hl1, hb1, hs1, hs2, _⟩ := hl _ _ h
  have hrec := ne_loopO (A := A) (R := R) l b N I hl fin _ 0 rfl (Nat.zero_le _) s h
  obtain ⟨hp, g, d, tk, os⟩ := s
  have f3 := AutoSeq1.sub_list_list
  have hne : ¬ (items.size != items2.size) = true := by simp [hs1, hs2]
  wp_walk using wpAny_loadPart' hl1, wpAny_loadPart' hb1
  exact ⟨plainId_quiet plain_eq_loop _, codeAny_builtin entry_eq_loop (by
    rw [Around.under_plainId plain_eq_loop _]
    exact hrec)⟩
theorem rc_neO {E : Value → Shared → Prop} {s : Shared} {l b : Addr} {N : Nat} {Q : Value → Shared → Prop} (hu : A.units < cLine) (I : Nat → Shared → Prop) (hl : ListO prog w A E l b N I)
    (fin : ∀ s, I N s → Q (.bool false) s) (h : I 0 s) : wpAny (model prog w) A (richCompare .NotEq (.ref l) (.ref b)) Q E s := by
  obtain ⟨items, items2, n, n2, dd, dd2, sl, sl2, hl1, hb1, _, _, _⟩ := hl _ _ h
  refine wpAny_richCompare_same_room (op := .NotEq) ⟨_, hl1, rfl⟩ ⟨_, hb1, rfl⟩ F.slot_list_ne (call_here F.slot_list_ne ⟨_, hl1, rfl⟩ F.entry_list_ne (F.args_list_ne_2 _ _) ?_) hu
  exact list_neO (R := wants (fun v s' => v ≠ .notImplemented ∧ Q v s') E) l b N I hl (fun s' q => ⟨(fun x => nomatch x), fin s' q⟩) h
end
end LoopO
end PD
end
section
set_option Elab.async false
set_option linter.all false
set_option maxRecDepth 100000
set_option maxHeartbeats 2000000
namespace PD
open PySem PySem.Spec PyProof.Rows L2

/-! ### == and != as operators, instances among the values -/
/-- both lists of instances, pair by pair equal -/
def eqAllT (cs : List Str) (f : En → Res RV) : List D → List D → Bool
  | [], [] => true
  | a :: as, b :: bs => (match a, b with
    | .obj _ _ _, .obj _ _ _ => decide (eqPair cs f a b = some true)
    | _, _ => false) && eqAllT cs f as bs
  | _, _ => false
theorem eqAllT_at {cs : List Str} {f : En → Res RV} : ∀ {xs ys : List D}, eqAllT cs f xs ys = true → xs.length = ys.length ∧ ∀ (i : Nat) a b, xs[i]? = some a → ys[i]? = some b → (∃ c ns ds, a = .obj c ns ds) ∧ (∃ c ns ds, b = .obj c ns ds) ∧ eqPair cs f a b = some true
  | [], [], _ => ⟨rfl, fun i a b h => by simp at h⟩
  | a :: as, b :: bs, h => by
    unfold eqAllT at h
    obtain ⟨h1, h2⟩ := Bool.and_eq_true_iff.mp h
    obtain ⟨k1, k2⟩ := eqAllT_at h2
    refine ⟨congrArg (· + 1) k1, fun i x y e1 e2 => ?_⟩
    cases i with
    | zero =>
      simp at e1 e2
      subst e1 e2
      split at h1
      · exact ⟨⟨_, _, _, rfl⟩, ⟨_, _, _, rfl⟩, of_decide_eq_true h1⟩
      · cases h1
    | succ i =>
      simp at e1 e2
      exact k2 i x y e1 e2
  | [], _ :: _, h => by cases h
  | _ :: _, [], h => by cases h
def eqAny (cs : List Str) (f : En → Res RV) (a b : D) : Option Bool := match eqPair cs f a b with
  | some r => some r
  | none => match eqPy a b with
    | some r => some r
    | none => match a, b with
      | .lst xs, .lst ys => if eqAllT cs f xs ys = true then some true else none
      | _, _ => none
section
variable {X : Cx} {k : Nat} {cs : List Str} {f : En → Res RV}
def rPair (K : PySem.W.Frag) (cs : List Str) (f : En → Res RV) (ne : Bool) : R2 := fun x y H Q => ∃ F a b r, Same F H ∧ Rep K F a x ∧ Rep K F b y ∧ eqPair cs f a b = some r ∧ ∀ F' H', Gr F H F' H' → Same F' H' → Q (.bl (if ne = true then !r else r)) H'
def rLstO (K : PySem.W.Frag) (cs : List Str) (f : En → Res RV) (ne : Bool) : R2 := fun x y H Q => ∃ F xs ys, Same F H ∧ Rep K F (.lst xs) x ∧ Rep K F (.lst ys) y ∧ eqAllT cs f xs ys = true ∧ ∀ F' H', Gr F H F' H' → Same F' H' → Q (.bl (!ne)) H'
theorem op_pair {op : CmpOp} {ne : Bool} (hop : (op = .Eq ∧ ne = false) ∨ (op = .NotEq ∧ ne = true)) (O : EqOk X.prog X.w X.K X.mg X.base k cs f) (hr : Room (k + 1) X.A) : OpR X (compareOp op) (rPair X.K cs f ne) := by
  intro pins s σ H x y v u Q I rx ry ⟨F, a, b, r, e, ra, rb, h, q⟩
  have hop' : op = .Eq ∨ op = .NotEq := hop.elim (fun z => .inl z.1) fun z => .inr z.1
  have key := rc_pair (E := X.xe) (A := X.A) hop' O ⟨hr, rfl⟩ I e ra rb rx ry h
  have hc : compareOp op v u = richCompare op v u := by rcases hop' with rfl | rfl <;> rfl
  rw [hc]
  refine wpAny_mono key (fun w s' ⟨ew, F', H', J, g, e'⟩ => ?_) fun _ _ z => z
  subst ew
  refine ⟨_, H', J, ?_, q F' H' g e'⟩
  rcases hop with ⟨rfl, rfl⟩ | ⟨rfl, rfl⟩
  · show Value.bool _ = Value.bool _
    simp
  · show Value.bool _ = Value.bool _
    simp
theorem listO {A : Around} {E : Value → Shared → Prop} {pins : List (Addr × Obj)} {σ : L2.St} {F H : Hp} {xs ys : List D} {vs ws : List V} {p q : Addr} (O : EqOk X.prog X.w X.K X.mg X.base k cs f) (sb : Sub X (k + 2) A) (e : Same F H)
    (hp : SqL X.K F p vs) (hq : SqL X.K F q ws) (r1 : Reps X.K F xs vs) (r2 : Reps X.K F ys ws) (h : eqAllT cs f xs ys = true) : LoopO.ListO X.prog X.w A E p q xs.length (fun _ s' => EqEnd X pins σ F H s') := by
  obtain ⟨hlen, hpr⟩ := eqAllT_at h
  intro i s' ⟨F', H', J, g, e'⟩
  have hp' := Same.seq (g.ff.trans e') hp
  have hq' := Same.seq (g.ff.trans e') hq
  obtain ⟨its, rv1, ⟨⟨c1, d1, dt1, sl1⟩, n1, eo1, hc1, hd1, hdt1⟩, _⟩ := J.list hp'
  obtain ⟨its2, rv2, ⟨⟨c2, d2, dt2, sl2⟩, n2, eo2, hc2, hd2, hdt2⟩, _⟩ := J.list hq'
  dsimp only at hc1 hd1 hdt1 hc2 hd2 hdt2
  subst hc1 hd1 hdt1 hc2 hd2 hdt2
  refine ⟨its.toArray, its2.toArray, n1, n2, none, none, sl1, sl2, eo1, eo2, by rw [List.size_toArray, ← rv1.length, Reps.length r1], by rw [List.size_toArray, ← rv2.length, ← Reps.length r2, hlen], fun h1 h2 => ?_⟩
  have k1 : i < xs.length := by rw [Reps.length r1, rv1.length]; simpa using h1
  have k2 : i < ys.length := by rw [← hlen]; exact k1
  obtain ⟨v, hv, rv⟩ := r1.get (List.getElem?_eq_getElem k1)
  obtain ⟨w, hw, rw'⟩ := r2.get (List.getElem?_eq_getElem k2)
  obtain ⟨u, hu, ru⟩ := rv1.get hv
  obtain ⟨u2, hu2, ru2⟩ := rv2.get hw
  obtain ⟨⟨c, ns, ds, ea⟩, ⟨c', ns', ds', eb⟩, heq⟩ := hpr i _ _ (List.getElem?_eq_getElem k1) (List.getElem?_eq_getElem k2)
  have g1 : its.toArray[i] = u := by
    have h1' : i < its.length := by simpa using h1
    rw [List.getElem?_eq_getElem h1'] at hu
    simpa using Option.some.inj hu
  have g2 : its2.toArray[i] = u2 := by
    have h2' : i < its2.length := by simpa using h2
    rw [List.getElem?_eq_getElem h2'] at hu2
    simpa using Option.some.inj hu2
  rw [g1, g2]
  have ra := rv.mono g.ff
  have rb := rw'.mono g.ff
  obtain ⟨x, _, _, _, ex, _, _⟩ := obj_at (c := c) (ns := ns) (ds := ds) J e' (by rw [← ea]; exact ra)
  obtain ⟨y, _, _, _, ey, _, _⟩ := obj_at (c := c') (ns := ns') (ds := ds') J e' (by rw [← eb]; exact rb)
  subst ex ey
  obtain rfl : u = .ref x := ru
  obtain rfl : u2 = .ref y := ru2
  have more : ∀ {s2 : Shared}, EqEnd X pins σ F' H' s2 → EqEnd X pins σ F H s2 := fun ⟨F2, H2, J2, gg, ee⟩ => ⟨F2, H2, J2, g.trans gg, ee⟩
  by_cases hxy : x = y
  · subst hxy
    exact SeqAt.EqAt.same (A := A.in1) (s := s') (.ref x) X.prog X.w E _ ⟨rfl, F', H', J, g, e'⟩
  · refine GQ.eqBool_refG hxy (wpAny_mono (rc_pair (op := .Eq) (E := E) (A := A.in1) (.inl rfl) O sb.in1 J e' ra rb rfl rfl heq) (fun w s2 ⟨hw, q2⟩ => ?_) fun _ _ z => z)
    subst hw
    exact ⟨true, by simp, rfl, more q2⟩
theorem op_lstO {op : CmpOp} {ne : Bool} (hop : (op = .Eq ∧ ne = false) ∨ (op = .NotEq ∧ ne = true)) (O : EqOk X.prog X.w X.K X.mg X.base k cs f) (hr : Room (k + 2) X.A) : OpR X (compareOp op) (rLstO X.K cs f ne) := by
  intro pins s σ H x y v u Q I rx ry ⟨F, xs, ys, e, ra, rb, h, q⟩
  cases ra with
  | lst hp r1 =>
    cases rb with
    | lst hq r2 =>
      rename_i p vs qa ws
      obtain rfl : v = .ref p := rx
      obtain rfl : u = .ref qa := ry
      have st : EqEnd X pins σ F H s := ⟨F, H, I, Grow.refl, e⟩
      rcases hop with ⟨rfl, rfl⟩ | ⟨rfl, rfl⟩
      · show wpAny (model X.prog X.w) X.A (richCompare .Eq (.ref p) (.ref qa)) (EP X pins σ Q) X.xe s
        exact LoopO.rc_eqO hr.units0 _ (listO O ⟨hr, rfl⟩ e hp hq r1 r2 h) (fun s' ⟨F', H', J, g, e'⟩ => ⟨.bl true, H', J, rfl, q F' H' g e'⟩) st
      · show wpAny (model X.prog X.w) X.A (richCompare .NotEq (.ref p) (.ref qa)) (EP X pins σ Q) X.xe s
        exact LoopO.rc_neO hr.units0 _ (listO O ⟨hr, rfl⟩ e hp hq r1 r2 h) (fun s' ⟨F', H', J, g, e'⟩ => ⟨.bl false, H', J, rfl, q F' H' g e'⟩) st
theorem eqAny_ok {a b : D} {r : Bool} (h : eqAny cs f a b = some r) : eqPair cs f a b = some r ∨ eqPy a b = some r ∨ ∃ xs ys, a = .lst xs ∧ b = .lst ys ∧ eqAllT cs f xs ys = true ∧ r = true := by
  unfold eqAny at h
  cases e1 : eqPair cs f a b with
  | some r' => rw [e1] at h; cases h; exact .inl rfl
  | none =>
    rw [e1] at h
    cases e2 : eqPy a b with
    | some r' => rw [e2] at h; cases h; exact .inr (.inl rfl)
    | none =>
      rw [e2] at h
      dsimp only at h
      split at h
      · split at h
        · rename_i hc
          cases h
          exact .inr (.inr ⟨_, _, rfl, rfl, hc, rfl⟩)
        · cases h
      · cases h
theorem eqDO (O : EqOk X.prog X.w X.K X.mg X.base k cs f) (hr : Room (k + 2) X.A) : OpR X (compareOp .Eq) (rD2 X.K (gEqS id (eqAny cs f))) :=
  eqD_of (OpR.or (op_eqD hr.units) (OpR.or (op_pair (.inl ⟨rfl, rfl⟩) O (hr.mono (Nat.le_succ _))) (op_lstO (.inl ⟨rfl, rfl⟩) O hr))) fun x y H Q F a b r e ra rb hk q => by
    rcases eqAny_ok hk with h | h | ⟨xs, ys, rfl, rfl, h, rfl⟩
    · exact .inr (.inl ⟨F, a, b, r, e, ra, rb, h, fun F' H' g e' => q _ F' H' g e' (.bl r)⟩)
    · obtain ⟨p, p', h1, h2, h3, h4, rfl⟩ := eqPy_ok h
      exact .inl ⟨p, p', dp_same e (rep_dp ra h1), dp_same e (rep_dp rb h2), h3, h4, q _ F H Grow.refl e (.bl _)⟩
    · exact .inr (.inr ⟨F, xs, ys, e, ra, rb, h, fun F' H' g e' => q _ F' H' g e' (.bl true)⟩)
theorem neDO (O : EqOk X.prog X.w X.K X.mg X.base k cs f) (hr : Room (k + 2) X.A) : OpR X (compareOp .NotEq) (rD2 X.K (gEqS not (eqAny cs f))) :=
  neD_of (OpR.or (op_neD hr.units) (OpR.or (op_pair (.inr ⟨rfl, rfl⟩) O (hr.mono (Nat.le_succ _))) (op_lstO (.inr ⟨rfl, rfl⟩) O hr))) fun x y H Q F a b r e ra rb hk q => by
    rcases eqAny_ok hk with h | h | ⟨xs, ys, rfl, rfl, h, rfl⟩
    · exact .inr (.inl ⟨F, a, b, r, e, ra, rb, h, fun F' H' g e' => q _ F' H' g e' (.bl _)⟩)
    · obtain ⟨p, p', h1, h2, h3, h4, rfl⟩ := eqPy_ok h
      exact .inl ⟨p, p', dp_same e (rep_dp ra h1), dp_same e (rep_dp rb h2), h3, h4, q _ F H Grow.refl e (.bl _)⟩
    · exact .inr (.inr ⟨F, xs, ys, e, ra, rb, h, fun F' H' g e' => q _ F' H' g e' (.bl _)⟩)
end
end PD
end
section
set_option Elab.async false
set_option linter.all false
set_option maxRecDepth 100000
set_option maxHeartbeats 2000000
namespace PD
open PySem PySem.Spec PyProof.Rows L2

/-! ### str(x), repr(x) of instances and of plain data -/
section
variable {X : Cx} {pins : List (Addr × Obj)} {σ : L2.St} {H F : Hp} {s : Shared}
mutual
theorem rep_reads (I : Inv X pins σ H s) (e : Same F H) : ∀ {d : D} {v : V} {p : PyData} {u : Value}, Rep X.K F d v → d.py = some p → RelV v u → ∃ as, Reads s.heap u p as
  | _, _, _, u, .non, h, r => by simp only [D.py, Option.some.injEq] at h; subst h; obtain rfl : u = .none := r; exact ⟨_, .none⟩
  | _, _, _, u, .bl b, h, r => by simp only [D.py, Option.some.injEq] at h; subst h; obtain rfl : u = .bool b := r; exact ⟨_, .bool b⟩
  | _, _, _, u, .int i, h, r => by simp only [D.py, Option.some.injEq] at h; subst h; obtain ⟨t, rfl⟩ := (show ∃ t, u = .int i t from r); exact ⟨_, .int i t⟩
  | _, _, _, u, .str x, h, r => by simp only [D.py, Option.some.injEq] at h; subst h; obtain ⟨t, rfl⟩ := (show ∃ t, u = .str x t from r); exact ⟨_, .str x t⟩
  | _, _, _, u, .lst (a := a) hs hr, h, r => by
    simp only [D.py] at h
    obtain ⟨ps, h1, h2⟩ := Option.map_eq_some_iff.mp h
    subst h2
    obtain rfl : u = .ref a := r
    obtain ⟨its, rv, ⟨o, n, eo, hc, _, hd⟩, _⟩ := I.list (Same.seq e hs)
    obtain ⟨as, q⟩ := reps_reads I e hr h1 rv
    exact ⟨_, .list eo hc hd (by simpa using q)⟩
  | _, _, _, u, .tup (a := a) hs hr, h, r => by
    simp only [D.py] at h
    obtain ⟨ps, h1, h2⟩ := Option.map_eq_some_iff.mp h
    subst h2
    obtain rfl : u = .ref a := r
    obtain ⟨its, rv, ⟨o, eo, hc, n, hd⟩, _⟩ := I.tuple (same_seqT e hs)
    obtain ⟨as, q⟩ := reps_reads I e hr h1 rv
    exact ⟨_, .tuple eo hc hd (by simpa using q)⟩
  | _, _, _, _, .obj _ _ _, h, _ => by simp [D.py] at h
  | _, _, _, _, .dct _ _ _, h, _ => by simp [D.py] at h
theorem reps_reads (I : Inv X pins σ H s) (e : Same F H) : ∀ {ds : List D} {vs : List V} {ps : List PyData} {us : List Value}, Reps X.K F ds vs → pyAll ds = some ps → Vals vs us → ∃ as, ReadsAll s.heap us ps as
  | _, _, _, _, .nil, h, r => by
    simp only [pyAll, Option.some.injEq] at h; subst h
    cases r
    exact ⟨_, .nil⟩
  | _, _, _, _, .cons (d := d) (ds := ds) h1 h2, h, r => by
    simp only [pyAll] at h
    cases e1 : d.py with
    | none => rw [e1] at h; simp at h
    | some y =>
      cases e2 : pyAll ds with
      | none => rw [e1, e2] at h; simp at h
      | some ys =>
        rw [e1, e2] at h
        simp only [Option.some.injEq] at h
        subst h
        cases r with
        | cons r1 r2 =>
          obtain ⟨as, q1⟩ := rep_reads I e h1 e1 r1
          obtain ⟨bs, q2⟩ := reps_reads I e h2 e2 r2
          exact ⟨_, .cons q1 q2⟩
end
end
mutual
theorem py_noDict : ∀ {d : D} {p : PyData}, d.py = some p → p.hasDict = false
  | .non, _, h => by simp only [D.py, Option.some.injEq] at h; subst h; rfl
  | .bl _, _, h => by simp only [D.py, Option.some.injEq] at h; subst h; rfl
  | .int _, _, h => by simp only [D.py, Option.some.injEq] at h; subst h; rfl
  | .str _, _, h => by simp only [D.py, Option.some.injEq] at h; subst h; rfl
  | .lst xs, _, h => by
    simp only [D.py] at h
    obtain ⟨ps, h1, h2⟩ := Option.map_eq_some_iff.mp h
    subst h2
    simp only [PyData.hasDict]
    exact pyAll_noDict h1
  | .tup xs, _, h => by
    simp only [D.py] at h
    obtain ⟨ps, h1, h2⟩ := Option.map_eq_some_iff.mp h
    subst h2
    simp only [PyData.hasDict]
    exact pyAll_noDict h1
  | .obj _ _ _, _, h => by simp [D.py] at h
  | .dct _ _, _, h => by simp [D.py] at h
theorem pyAll_noDict : ∀ {ds : List D} {ps : List PyData}, pyAll ds = some ps → PyData.hasDictAll ps = false
  | [], _, h => by simp only [pyAll, Option.some.injEq] at h; subst h; simp [PyData.hasDictAll]
  | d :: ds, _, h => by
    simp only [pyAll] at h
    cases e1 : d.py with
    | none => rw [e1] at h; simp at h
    | some y =>
      cases e2 : pyAll ds with
      | none => rw [e1, e2] at h; simp at h
      | some ys =>
        rw [e1, e2] at h
        simp only [Option.some.injEq] at h
        subst h
        simp only [PyData.hasDictAll, py_noDict e1, pyAll_noDict e2, Bool.or_self]
end
/-- repr of a list, of a tuple, of plain data -/
theorem call_repr_py {prog : Program} {w : World} {A : Around} {E : Value → Shared → Prop} {s : Shared} {v : Value} {p : PyData} {as : List Addr} {Q : Value → Shared → Prop} (r : Reads s.heap v p as) (hs : p.showable = true) (hd : p.hasDict = false) (hg : A.guards = some []) (hu : A.units + p.depth + 2 < cLine) (hz : p.shown.length ≤ sizeLine)
    (hi : (∃ a, v = .ref a) ∨ ∃ x t, v = .str x t) (hQ : ∀ h' u tk, (∀ b o, s.heap.get? b = some o → h'.get? b = some o) → Q (.str p.shown u) { s with heap := h', toks := tk }) : wpAny (model prog w) A (call (.builtin "repr") [v]) Q E s := by
  have hsm : p.hasDict = true → sysModules ∉ as := fun e => by rw [hd] at e; cases e
  cases r with
  | none => rcases hi with ⟨a, e⟩ | ⟨x, t, e⟩ <;> cases e
  | bool b => rcases hi with ⟨a, e⟩ | ⟨x, t, e⟩ <;> cases e
  | int i t => rcases hi with ⟨a, e⟩ | ⟨x, t, e⟩ <;> cases e
  | str x t =>
    have e : (PyData.str x).shown = reprText x := by simp only [PyData.shown]
    rw [e] at hQ hz
    exact call_repr_gives (typeIs_str _ _ _) PySem.F.slot_str_repr PySem.F.entry_str_repr (PySem.F.args_str_repr_1 _) (by first | exact gives_str_repr x t | exact PySem.gives_str_repr _ _) (hQ s.heap _ _ fun _ _ z => z) rfl hz
  | list h1 h2 h3 h4 =>
    rename_i a o vs n xs as'
    have hz' : (listText (PyData.shownAll xs)).length ≤ sizeLine := by simpa only [PyData.shown] using hz
    have r0 : Reads s.heap (.ref a) (.list xs) _ := .list h1 h2 h3 h4
    obtain ⟨bs, hb, hk⟩ := ReprAllK.of_readsAll (prog := prog) (w := w) h4 (by simpa [PyData.showable] using hs) (fun hx hm => hsm (by simpa [PyData.hasDict] using hx) (List.mem_cons_of_mem _ hm)) (fun t ht => Nat.le_trans (listText_mem_le ht) hz')
    have hna : a ∉ bs := not_mem_of_deeper r0 (by simp only [PyData.depth]; omega) hb
    simp only [PyData.depth] at hu
    simp only [PyData.shown] at hQ
    refine call_repr_slot (T := "list") (by omega) ⟨_, h1, h2⟩ PySem.F.slot_list_repr.toG ?_
    obtain ⟨l⟩ := vs
    cases l with
    | nil =>
      have h4' : ReadsAll s.heap [] xs _ := h4
      cases h4'
      simp only [PyData.shownAll, listText_nil] at hQ
      exact call_list_repr_empty ⟨_, h1, h2⟩ h1 h3 ⟨_, _, rfl, hQ s.heap _ _ fun _ _ e => e⟩
    | cons x l =>
      exact call_list_reprK (A := A.in1) h1 h2 h3 hna (by simpa using hk.length_eq) (fun i y e => hk.item i y (by simpa using e)) hg (fun b _ => Clear.nil b) (by show A.units + 1 + _ < cLine; omega) (fun _ _ e => e) (fun h' u tk hk' => ⟨_, _, rfl, hQ h' u tk hk'⟩) hz'
  | tuple h1 h2 h3 h4 =>
    rename_i a o vs n xs
    have hz' : (tupleText (PyData.shownAll xs)).length ≤ sizeLine := by simpa only [PyData.shown] using hz
    have r0 : Reads s.heap (.ref a) (.tuple xs) _ := .tuple h1 h2 h3 h4
    obtain ⟨bs, hb, hk⟩ := ReprAllK.of_readsAll (prog := prog) (w := w) h4 (by simpa [PyData.showable] using hs) (fun hx => hsm (by simpa [PyData.hasDict] using hx)) (fun t ht => Nat.le_trans (tupleText_mem_le ht) hz')
    have hna : a ∉ bs := not_mem_of_deeper r0 (by simp only [PyData.depth]; omega) hb
    simp only [PyData.depth] at hu
    simp only [PyData.shown] at hQ
    refine call_repr_slot (T := "tuple") (by omega) ⟨_, h1, h2⟩ PySem.F.slot_tuple_repr ?_
    exact call_tuple_reprK (A := A.in1) h1 h2 h3 hna hk hg (fun b _ => Clear.nil b) (by show A.units + 1 + _ < cLine; omega) (fun _ _ e => e) (fun h' u tk hk' => ⟨_, _, rfl, hQ h' u tk hk'⟩) hz'
  | dict h1 h2 h3 h4 h5 => simp [PyData.hasDict] at hd
end PD
end
section
set_option Elab.async false
set_option linter.all false
set_option maxRecDepth 100000
set_option maxHeartbeats 2000000
namespace PD
open PySem PySem.Spec PyProof.Rows L2

/-! ### str, repr as calls -/
/-- what an instance's own __str__, __repr__ answers -/
def ownTxt (f : En → Res RV) (a : D) : Option Str := match f [.val a] with
  | .ok (.val (.str z)) _ => some z
  | _ => none
def gStrO (cs : List Str) (f : En → Res RV) : List D → Option RV
  | [.obj c ns ds] => if cs.contains c = true then (ownTxt f (.obj c ns ds)).map fun z => .val (.str z) else none
  | l => gStr l
def gRepr (cs : List Str) (f : En → Res RV) : List D → Option RV
  | [.obj c ns ds] => if cs.contains c = true then (ownTxt f (.obj c ns ds)).map fun z => .val (.str z) else none
  | [.str x] => if (reprText x).length ≤ top1 then vs (reprText x) else none
  | [.lst xs] => (D.py (.lst xs)).bind fun p => if p.showable = true ∧ p.depth ≤ 50 ∧ p.shown.length ≤ top1 then vs p.shown else none
  | [.tup xs] => (D.py (.tup xs)).bind fun p => if p.showable = true ∧ p.depth ≤ 50 ∧ p.shown.length ≤ top1 then vs p.shown else none
  | _ => none
section
variable {X : Cx} {k : Nat} {cs : List Str} {f : En → Res RV}
/-- the own def run anywhere below, with one instance -/
theorem own_txt {pins : List (Addr × Obj)} {σ : L2.St} {H F : Hp} {s : Shared} {A : Around} {g : Addr} {E : Value → Shared → Prop} (hr : Room k A) (hfr : A.frames = X.A.frames) (Fg : FnR X.prog X.w X.K X.mg X.base (L2N.CX X.prog X.w) k g (spV X.K f)) (I : Inv X pins σ H s) (e : Same F H) {a : D} {x : Addr} {z : Str} (ra : Rep X.K F a (.ref x))
    (h : ownTxt f a = some z) : wpAny (model X.prog X.w) A (call (.ref g) [.ref x]) (fun v s' => (∃ t, v = .str z t) ∧ EqEnd X pins σ F H s') E s := by
  have e0 : Env0 X.prog X.w X.K X.mg X.base A X.stack s H := by
    have z := I.env0
    exact ⟨by rw [hfr]; exact z.frames, z.mod, z.bs, z.bsz, z.funs, z.frf, z.hok, z.bare⟩
  have rr : Reps X.K F [a] [.ref x] := .cons ra .nil
  have hsp : spV X.K f [.ref x] H (fun v H' => v = .str z ∧ ∃ F', Gr F H F' H' ∧ Same F' H') (fun _ _ _ => False) := by
    refine ⟨[.val a], F, args_ok e rr, ?_⟩
    have noo : ∀ {F' H'}, Grow (Own (([.ref x] : List V).map some) ([a].map .val)) F H F' H' → Gr F H F' H' := fun g => g.imp fun b z => (args_noown z).elim
    unfold ownTxt at h
    cases ef : f [.val a] with
    | no => rw [ef] at h; cases h
    | er z ρ' => rw [ef] at h; cases h
    | ok av ρ' =>
      rw [ef] at h
      cases av with
      | fr oc => cases h
      | val dv =>
        cases dv with
        | str z' =>
          cases h
          intro v F' H' gr s' sh q
          cases q
          exact ⟨rfl, F', noo gr, s'.same⟩
        | _ => cases h
  refine wpAny_call (codeAny_mono (Fg A X.stack s H [.ref x] [.ref x] _ _ hr e0 (.cons rfl .nil) hsp) fun r' s' hq => ?_)
  cases r' with
  | error er => obtain ⟨_, _, _, _, _, _, _, _, _, _, _, _, z⟩ := hq; exact z.elim
  | ok fl =>
    cases fl with
    | ret u' =>
      obtain ⟨v, H', J, rv, ev, F', g', e'⟩ := I.after hq
      subst ev
      exact ⟨rv, F', H', J, g', e'⟩
    | next => exact False.elim hq
    | brk => exact False.elim hq
    | cont => exact False.elim hq
theorem strOD (M : MethOk X.prog X.w X.K X.mg X.base k cs "__str__" f) (hr : Room (k + 2) X.A) : CallR X (.type "str") (rDL X.K (gStrO cs f)) := by
  intro pins s σ H xs us Q I r ⟨F, ds, rv, e, rs, hg, q⟩
  match ds, xs, rs, hg with
  | [.obj c ns ds], _, .cons ro .nil, hg =>
    have h2 : (if cs.contains c = true then (ownTxt f (.obj c ns ds)).map fun z => RV.val (.str z) else none) = some rv := hg
    by_cases hc : cs.contains c = true
    · rw [if_pos hc] at h2
      obtain ⟨z, h3, h4⟩ := Option.map_eq_some_iff.mp h2
      subst h4
      obtain ⟨x, dx, ox, od, rfl, hx, J⟩ := obj_at I e ro
      cases r with
      | cons r1 r2 =>
        rename_i u us'
        cases r2
        obtain rfl : u = .ref x := r1
        obtain ⟨cl, g, mt, Fg⟩ := M.ex c hc
        refine PySem.W.kso_call (by have := hr.units; show X.A.units + 1 + 1 < cLine; omega) I.kIn J mt.at_ mt.fn (wpAny_mono (own_txt (E := X.xe) (A := X.A.in1.in1) hr.in1.in1 rfl Fg I e ro h3) (fun v s' hv => ?_) fun _ _ z => z)
        obtain ⟨⟨t, rfl⟩, F', H', J', g', e'⟩ := hv
        exact ⟨.str z, H', J', ⟨t, rfl⟩, q _ F' H' g' e' (.str z)⟩
    · rw [if_neg hc] at h2; cases h2
  | [.int i], _, .cons (.int _) .nil, hg => exact strD pins s σ H _ us Q I r ⟨F, [.int i], rv, e, .cons (.int i) .nil, hg, q⟩
  | [.str z], _, .cons (.str _) .nil, hg => exact strD pins s σ H _ us Q I r ⟨F, [.str z], rv, e, .cons (.str z) .nil, hg, q⟩
theorem reprD (M : MethOk X.prog X.w X.K X.mg X.base k cs "__repr__" f) (hr : Room (k + 2) X.A) (hgu : X.A.guards = some []) : CallR X (.builtin "repr") (rDL X.K (gRepr cs f)) := by
  intro pins s σ H xs us Q I r ⟨F, ds, rv, e, rs, hg, q⟩
  have hun := hr.units
  have data : ∀ {d : D} {v : V} {u : Value} {p : PyData}, Rep X.K F d v → RelV v u → d.py = some p → p.showable = true → p.depth ≤ 50 → p.shown.length ≤ top1 → rv = .val (.str p.shown) → ((∃ a, u = .ref a) ∨ ∃ x t, u = .str x t) → wpAny (model X.prog X.w) X.A (call (.builtin "repr") [u]) (EP X pins σ Q) X.xe s := fun {d v u p} ra ru hp h1 h2 h3 h4 hi => by
    obtain ⟨as, rd⟩ := rep_reads I e ra hp ru
    refine call_repr_py rd h1 (py_noDict hp) hgu (by omega) (top1_le h3) hi fun h' w tk hk => ?_
    subst h4
    exact ⟨.str p.shown, H, I.kept hk, ⟨w, rfl⟩, q _ F H Grow.refl e (.str _)⟩
  match ds, xs, rs, hg with
  | [.obj c ns ds], _, .cons ro .nil, hg =>
    have h2 : (if cs.contains c = true then (ownTxt f (.obj c ns ds)).map fun z => RV.val (.str z) else none) = some rv := hg
    by_cases hc : cs.contains c = true
    · rw [if_pos hc] at h2
      obtain ⟨z, h3, h4⟩ := Option.map_eq_some_iff.mp h2
      subst h4
      obtain ⟨x, dx, ox, od, rfl, hx, J⟩ := obj_at I e ro
      cases r with
      | cons r1 r2 =>
        rename_i u us'
        cases r2
        obtain rfl : u = .ref x := r1
        obtain ⟨cl, g, mt, Fg⟩ := M.ex c hc
        obtain ⟨m, hF⟩ := I.fr
        refine PySem.W.repr_K (by show X.A.units + 1 < cLine; omega) hF I.ok.mod.kin J mt.at_ mt.fn (wpAny_mono (own_txt (E := X.xe) (A := X.A.in1) (hr.in1.mono (Nat.le_succ k)) rfl Fg I e ro h3) (fun v s' hv => ?_) fun _ _ z => z)
        obtain ⟨⟨t, rfl⟩, F', H', J', g', e'⟩ := hv
        exact ⟨.str z, H', J', ⟨t, rfl⟩, q _ F' H' g' e' (.str z)⟩
    · rw [if_neg hc] at h2; cases h2
  | [.str z], _, .cons ro .nil, hg =>
    have h2 : (if (reprText z).length ≤ top1 then vs (reprText z) else none) = some rv := hg
    by_cases hc : (reprText z).length ≤ top1
    · rw [if_pos hc] at h2
      cases h2
      cases r with
      | cons r1 r2 =>
        cases r2
        cases ro
        obtain ⟨t, rfl⟩ := (show ∃ t, _ = Value.str z t from r1)
        have es : (PyData.str z).shown = reprText z := by simp only [PyData.shown]
        exact data (p := .str z) (.str z) ⟨t, rfl⟩ (by simp only [D.py]) (by simp [PyData.showable]) (by simp [PyData.depth]) (by rw [es]; exact hc) (by rw [es]) (.inr ⟨z, t, rfl⟩)
    · rw [if_neg hc] at h2; cases h2
  | [.lst xs], _, .cons ro .nil, hg =>
    have h2 : ((D.py (.lst xs)).bind fun p => if p.showable = true ∧ p.depth ≤ 50 ∧ p.shown.length ≤ top1 then vs p.shown else none) = some rv := hg
    obtain ⟨p, h3, h4⟩ := Option.bind_eq_some_iff.mp h2
    by_cases hc : p.showable = true ∧ p.depth ≤ 50 ∧ p.shown.length ≤ top1
    · rw [if_pos hc] at h4
      cases h4
      cases r with
      | cons r1 r2 =>
        cases r2
        have hi : ∃ a, ‹Value› = Value.ref a := by
          cases ro with
          | lst hs hr' => exact ⟨_, r1⟩
        exact data ro r1 h3 hc.1 hc.2.1 hc.2.2 rfl (.inl hi)
    · rw [if_neg hc] at h4; cases h4
  | [.tup xs], _, .cons ro .nil, hg =>
    have h2 : ((D.py (.tup xs)).bind fun p => if p.showable = true ∧ p.depth ≤ 50 ∧ p.shown.length ≤ top1 then vs p.shown else none) = some rv := hg
    obtain ⟨p, h3, h4⟩ := Option.bind_eq_some_iff.mp h2
    by_cases hc : p.showable = true ∧ p.depth ≤ 50 ∧ p.shown.length ≤ top1
    · rw [if_pos hc] at h4
      cases h4
      cases r with
      | cons r1 r2 =>
        cases r2
        have hi : ∃ a, ‹Value› = Value.ref a := by
          cases ro with
          | tup hs hr' => exact ⟨_, r1⟩
        exact data ro r1 h3 hc.1 hc.2.1 hc.2.2 rfl (.inl hi)
    · rw [if_neg hc] at h4; cases h4
end
end PD
end
section
set_option Elab.async false
set_option linter.all false
set_option maxRecDepth 100000
set_option maxHeartbeats 2000000
namespace PD
namespace MaxK
open PySem PySem.Spec PyProof.Rows
section
variable {prog : Program} {w : World} {A : Around} {R : Result → Shared → Prop} {I : Addr} {fp wr : List Addr} {n : Nat} {P : Nat → Value → Prop} {St : Nat → Heap → Prop} {kw : List (Str × Value)}
theorem loop (W : Walks prog w A.in1 I fp wr n P St) (bt : Nat → Nat → Bool) (hcmp : CmpOf prog w A.in1 .Gt P bt) (S : Addr) (hSf : S ∉ fp) :
    ∀ (k j : Nat) (s : Shared) (vb : Value) (c : Nat), n - (j + 1) = k → j + 1 ≤ n → St (j + 1) s.heap → P (argBest bt j) vb →
    s.heap.get? S = some { cls := .type "list", dict := none, data := .seq #[vb, vb] c, slots := #[] } →
    (∀ v h' tk, P (argBest bt (n - 1)) v → (∀ b o, b ∉ wr → b ≠ S → s.heap.get? b = some o → h'.get? b = some o) → R (.ok (.ret v)) { s with heap := h', toks := tk }) →
    codeAny (model prog w) A (.builtin "max.loop" ⟨[.ref I, .none, .ref S], kw⟩) R s := by
  have hSw : S ∉ wr := fun h => hSf (W.sub _ h)
  have hname : (toString "max" ++ toString ".loop" : String) = "max.loop" := by decide
  intro k
  induction k with
  | zero =>
    intro j s vb c hk hj hst hPb hS hR
    have hin : j + 1 = n := by omega
    refine codeAny_builtin PySem.F.entry_max_loop ?_
    rw [Around.under_plainId PySem.F.plain_max_loop _]
    show wpAny _ A.in1 (seqItems? (.ref S) >>= _) _ _ s
    refine wpAny_bind (wpAny_seqItems hS rfl ?_)
    show wpAny _ A.in1 (tryCatch (pyNext (.ref I)) _ >>= _) _ _ s
    refine wpAny_bind (wpAny_tryCatch (W.done s _ _ (hin ▸ hst) fun h' tk hk' => ?_))
    have hS' := hk' S _ hSw hS
    show wpAny _ A.in1 (updateSeq S (fun _ => #[]) >>= _) _ _ _
    refine wpAny_bind ?_
    refine wpAny_updateSeq hS' rfl (wpAny_bind (wpAny_letGo (wpAny_pure ?_)))
    refine hR vb _ tk (by rw [← hin]; exact hPb) fun b o hbw hbS e => (Heap.get?_update_other _ _ (Ne.symm hbS)).trans (hk' b o hbw e)
  | succ k ih =>
    intro j s vb c hk hj hst hPb hS hR
    have hlt : j + 1 < n := by omega
    refine codeAny_builtin PySem.F.entry_max_loop ?_
    rw [Around.under_plainId PySem.F.plain_max_loop _]
    show wpAny _ A.in1 (seqItems? (.ref S) >>= _) _ _ s
    refine wpAny_bind (wpAny_seqItems hS rfl ?_)
    show wpAny _ A.in1 (tryCatch (pyNext (.ref I)) _ >>= _) _ _ s
    refine wpAny_bind (wpAny_tryCatch (W.item (j + 1) s _ _ hlt hst fun v h' tk hP hst' hk' => ?_))
    have hS' := hk' S _ hSw hS
    show wpAny _ A.in1 (tryCatch (holding [v, v] (richCompare .Gt v vb >>= _)) _ >>= _) _ _ _
    refine wpAny_bind (wpAny_tryCatch (wpAny_holding (wpAny_bind (hcmp (j + 1) (argBest bt j) v vb _ _ _ hP hPb ?_))))
    refine wpAny_bind (wpAny_holding (wpAny_truthy_bool ?_))
    refine wpAny_bind (wpAny_letGo (wpAny_pure ?_))
    cases hb : bt (j + 1) (argBest bt j) with
    | true =>
      simp only [if_true]
      refine wpAny_bind ?_
      refine wpAny_updateSeq hS' rfl (wpAny_bind (wpAny_letGo ?_))
      rw [hname]
      refine wpAny_pure ⟨plainId_quiet PySem.F.plain_max_loop _, ih (j + 1) _ v _ (by omega) hlt (W.frame _ _ _ hst' fun b hbf o e => ?_) (by simp only [argBest, hb, if_true]; exact hP) (Heap.get?_update_self _ hS' rfl)
        fun v' h'' tk'' hP' hk'' => ?_⟩
      · exact (Heap.get?_update_other _ _ (fun h : S = b => hSf (by rw [h]; exact hbf))).trans e
      · exact hR v' h'' tk'' hP' fun b o hbw hbS e => hk'' b o hbw hbS ((Heap.get?_update_other _ _ (Ne.symm hbS)).trans (hk' b o hbw e))
    | false =>
      simp only [Bool.false_eq_true, if_false]
      refine wpAny_bind (wpAny_letGo ?_)
      rw [hname]
      refine wpAny_pure ⟨plainId_quiet PySem.F.plain_max_loop _, ih (j + 1) _ vb c (by omega) hlt hst' (by simp only [argBest, hb, Bool.false_eq_true, if_false]; exact hPb) hS' fun v' h'' tk'' hP' hk'' => ?_⟩
      exact hR v' h'' tk'' hP' fun b o hbw hbS e => hk'' b o hbw hbS (hk' b o hbw e)
theorem first (W : Walks prog w A.in1 I fp wr n P St) (bt : Nat → Nat → Bool) (hcmp : CmpOf prog w A.in1 .Gt P bt) (S : Addr) (hSf : S ∉ fp) (hn : 0 < n) {s : Shared} {c : Nat} (hst : St 0 s.heap)
    (hS : s.heap.get? S = some { cls := .type "list", dict := none, data := .seq #[] c, slots := #[] })
    (hR : ∀ v h' tk, P (argBest bt (n - 1)) v → (∀ b o, b ∉ wr → b ≠ S → s.heap.get? b = some o → h'.get? b = some o) → R (.ok (.ret v)) { s with heap := h', toks := tk }) :
    codeAny (model prog w) A (.builtin "max.loop" ⟨[.ref I, .none, .ref S], kw⟩) R s := by
  have hSw : S ∉ wr := fun h => hSf (W.sub _ h)
  have hname : (toString "max" ++ toString ".loop" : String) = "max.loop" := by decide
  refine codeAny_builtin PySem.F.entry_max_loop ?_
  rw [Around.under_plainId PySem.F.plain_max_loop _]
  show wpAny _ A.in1 (seqItems? (.ref S) >>= _) _ _ s
  refine wpAny_bind (wpAny_seqItems hS rfl ?_)
  show wpAny _ A.in1 (tryCatch (pyNext (.ref I)) _ >>= _) _ _ s
  refine wpAny_bind (wpAny_tryCatch (W.item 0 s _ _ hn hst fun v h' tk hP hst' hk' => ?_))
  have hS' := hk' S _ hSw hS
  show wpAny _ A.in1 (updateSeq S (fun _ => #[v, v]) >>= _) _ _ _
  refine wpAny_bind ?_
  refine wpAny_updateSeq hS' rfl ?_
  rw [hname]
  refine wpAny_pure ⟨plainId_quiet PySem.F.plain_max_loop _, loop W bt hcmp S hSf _ 0 _ v _ rfl hn (W.frame _ _ _ hst' fun b hbf o e => ?_) hP (Heap.get?_update_self _ hS' rfl) fun v' h'' tk'' hP' hk'' => ?_⟩
  · exact (Heap.get?_update_other _ _ (fun h : S = b => hSf (by rw [h]; exact hbf))).trans e
  · exact hR v' h'' tk'' hP' fun b o hbw hbS e => hk'' b o hbw hbS ((Heap.get?_update_other _ _ (Ne.symm hbS)).trans (hk' b o hbw e))
theorem none_ (W : Walks prog w A.in1 I fp wr 0 P St) (S : Addr) (hSf : S ∉ fp) {s : Shared} {c : Nat} {nm : Str} {d : Value} (hst : St 0 s.heap) (hS : s.heap.get? S = some { cls := .type "list", dict := none, data := .seq #[] c, slots := #[] })
    (hR : ∀ h' tk, (∀ b o, b ∉ wr → b ≠ S → s.heap.get? b = some o → h'.get? b = some o) → R (.ok (.ret d)) { s with heap := h', toks := tk }) :
    codeAny (model prog w) A (.builtin "max.loop" ⟨[.ref I, .none, .ref S], [(nm, d)]⟩) R s := by
  refine codeAny_builtin PySem.F.entry_max_loop ?_
  rw [Around.under_plainId PySem.F.plain_max_loop _]
  show wpAny _ A.in1 (seqItems? (.ref S) >>= _) _ _ s
  refine wpAny_bind (wpAny_seqItems hS rfl ?_)
  show wpAny _ A.in1 (tryCatch (pyNext (.ref I)) _ >>= _) _ _ s
  refine wpAny_bind (wpAny_tryCatch (W.done s _ _ hst fun h' tk hk' => ?_))
  refine wpAny_bind (wpAny_rule (wpAny_pure ?_))
  exact hR h' tk fun b o hbw hbS e => hk' b o hbw e
end
section
variable {prog : Program} {w : World} {A : Around} {E : Value → Shared → Prop} {s : Shared} {l : Addr} {its : List Value} {ns : List Int} {Q : Value → Shared → Prop}
theorem args_d (a d : Value) : argsOk "max" ⟨[a], [("default", d)]⟩ := by unfold argsOk; kernel_rfl
theorem tree_kw {args : List Value} {kw : List (Str × Value)} {id : String} {b : Builtin} (hk : builtinKind id = none) (hp : plainId id = true)
    (hb : entryFor table id = some b) (ha : argsOk id ⟨args, kw⟩)
    (hc : wpAny (model prog w) A.in1 (b ⟨args, kw⟩) (fun fin s' => match fin with
      | .done f => (match (Except.ok f : Result) with | .ok (.ret v) => Q v s' | .ok _ => False | .error e => E e s')
      | .again c' => c'.quiet = true ∧ codeAny (model prog w) A c' (fun r s' => match r with | .ok (.ret v) => Q v s' | .ok _ => False | .error e => E e s') s') E s) :
    wpAny (model prog w) A (call (.builtin id) args kw) Q E s := by
  refine wpAny_call (codeAny_call_builtin hp hb ?_)
  simp only [checkBuiltinCall, hk]
  cases hsig : Manifest.signature? id with
  | none => exact wpAny_pure hc
  | some sig =>
    simp only [argsOk, hsig] at ha
    have h2 : Bind.checkArgs id sig ⟨args, kw⟩ = pure () := ha
    first
      | (rw [h2]; exact wpAny_pure hc)
      | (simp only [h2]; exact wpAny_pure hc)
      | (refine wpAny_bind ?_; rw [h2]; exact wpAny_pure (wpAny_pure hc))
theorem call_d {d : Value} (hh : A.handled = none) (hl : s.heap.IsList l its.toArray) (hi : IntsAre its ns)
    (h0 : ns = [] → ∀ h' tk, (∀ b o, s.heap.get? b = some o → h'.get? b = some o) → Q d { s with heap := h', toks := tk })
    (h : 0 < ns.length → ∀ h' tk M t', (∀ b o, s.heap.get? b = some o → h'.get? b = some o) → M ∈ ns → (∀ a, a ∈ ns → a ≤ M) → Q (.int M t') { s with heap := h', toks := tk }) : wpAny (model prog w) A (call (.builtin "max") [.ref l] [("default", d)]) Q E s := by
  obtain ⟨xs, e⟩ := hi.allInts.items
  have hn : numsOf (intItems xs).toList = ns := by rw [← e]; exact hi.numsOf
  rw [nums_intItems] at hn
  subst hn
  rw [e] at hl
  have hname : (toString "max" ++ toString ".loop" : String) = "max.loop" := by decide
  refine tree_kw PySem.F.kind_max PySem.F.plain_max PySem.F.entry_max (args_d _ _) ?_
  show wpAny _ A.in1 (Builtin.Builtins.bindParams "max" ["key", "default"] 0 ⟨[], [("default", d)]⟩ >>= _) _ _ s
  refine wpAny_bind (wpAny_of_eq (show Builtin.Builtins.bindParams "max" ["key", "default"] 0 ⟨[], [("default", d)]⟩ = pure [none, some d] from rfl) ?_)
  refine wpAny_bind (wpAny_pure ?_)
  refine wpAny_bind (iter_intList hl fun s₂ e2 st hfp hlI => ?_)
  subst e2
  refine wpAny_bind (wpAny_newObj_type ?_)
  have W := Walks.list (prog := prog) (w := w) (A := A.in1) hh s.heap.objs.size l hlI (intItems xs)
  have hSf : (s.heap.push { cls := .type "list_iterator", data := .fields #[.ref l, .int 0 0] }).objs.size ∉ [s.heap.objs.size, l] := fun hm => Nat.lt_irrefl _ (hfp _ hm)
  have keep : ∀ {h' : Heap}, (∀ b o, b ∉ [s.heap.objs.size] → b ≠ (s.heap.push { cls := .type "list_iterator", data := .fields #[.ref l, .int 0 0] }).objs.size → ((s.heap.push { cls := .type "list_iterator", data := .fields #[.ref l, .int 0 0] }).push { cls := .type "list", data := .seq #[] }).get? b = some o → h'.get? b = some o) →
      ∀ b o, s.heap.get? b = some o → h'.get? b = some o := fun {h'} hk => old_kept (l := l) fun b o hb eo => hk b o hb (Nat.ne_of_lt (Heap.lt_size eo)) (Heap.get?_push_of_some _ eo)
  rw [hname]
  by_cases hz : 0 < xs.size
  · refine wpAny_pure ⟨plainId_quiet PySem.F.plain_max_loop _, first W _ (CmpOf.ints_gt (numAt xs) (fun _ _ => intItems_at)) _ hSf (by simpa [intItems] using hz) (W.frame _ _ _ st fun b _ o e => Heap.get?_push_of_some _ e) (Heap.get?_push_size _ rfl) fun v h' tk hP hk => ?_⟩
    have hv : (intItems xs)[argBest (fun i j => decide (numAt xs i > numAt xs j)) (xs.size - 1)]? = some v := by simpa [intItems] using hP
    obtain ⟨t, rfl⟩ := intItems_at hv
    obtain ⟨h1, h2⟩ := argBest_gt (numAt xs) (xs.size - 1)
    refine h (by simpa using hz) h' tk _ t (keep hk) ?_ fun a ha => ?_
    · rw [numAt_eq]; exact PySem.getD_mem (by rw [List.length_map, Array.length_toList]; omega)
    · obtain ⟨j, hj, rfl⟩ := mem_getD ha
      rw [List.length_map, Array.length_toList] at hj
      rw [← numAt_eq]; exact h2 j (by omega)
  · have hz0 : xs = #[] := by
      apply Array.eq_empty_of_size_eq_zero
      omega
    subst hz0
    have e0 : (intItems #[]).size = 0 := by simp [intItems]
    rw [e0] at W
    exact wpAny_pure ⟨plainId_quiet PySem.F.plain_max_loop _, none_ W _ hSf (W.frame _ _ _ st fun b _ o e => Heap.get?_push_of_some _ e) (Heap.get?_push_size _ rfl) fun h' tk hk => h0 rfl h' tk (keep hk)⟩
end
end MaxK
open PySem PySem.Spec PyProof.Rows L2
/-- max(xs, default=d) -/
def gMaxD (i : Int) : List D → Option RV
  | [.lst ds] => (mapAll D.int? ds).bind fun ns => match ns with
    | [] => vi i
    | n :: ns => vi (maxL n ns)
  | _ => none
section
variable {X : Cx} {W : WX} {p pos p2 kp : Pos} {e : Expr} {ms : MA} {i : Int} {j : Nat}
theorem pk_int : PK X [⟨some "default", .Constant (.int i) j p2, kp⟩] (tCons (tC (.int i)) tNil) := pk_cons pe_int pk_nil
theorem px_maxD (hc : X.calm = true) (hm : X.mg "max" = none) (ha : PXA X W [e] ms) (hg : Gl X "max" := by rfl) (he : backTo pos (starEach [e] X.env) = (false, eval e X.env) :: backTo pos (starEach [] X.env) := by rfl) (hpl : (backTo pos (starEach [e] X.env)).any (·.1) = false := by rfl) :
    PX X W (.Call (.Name "max" p) [e] [⟨some "default", .Constant (.int i) j p2, kp⟩] pos) (mB (gMaxD i) ms) := by
  have key : CallRK X (.builtin "max") [("default" : Str)] (fun vs zs H Q => zs = [.int i] ∧ rDL X.K (gMaxD i) vs H Q) := by
    intro pins s σ H xs zs us ws Q I r rz ⟨ez, F, ds, rv, es, rs, hg, q⟩
    subst ez
    obtain ⟨w1, rfl, e1⟩ := vals1 rz
    obtain ⟨t1, rfl⟩ := (show ∃ t, w1 = Value.int i t from e1)
    match ds, xs, rs, hg with
    | [.lst ds], _, .cons (.lst (a := a) hs hr) .nil, hg =>
      have h2 : ((mapAll D.int? ds).bind fun ns => match ns with | [] => vi i | n :: ns => vi (maxL n ns)) = some rv := hg
      obtain ⟨ns, k1, k2⟩ := Option.bind_eq_some_iff.mp h2
      rw [mapAll_ok int_ok k1 hr] at hs
      obtain ⟨its, rvv, hl, _⟩ := I.list (Same.seq es hs)
      rw [Vals.ref1 r]
      refine MaxK.call_d (I.ok.hd hc) hl.isList rvv.ints (fun e0 h' tk hk => ?_) fun hn h' tk M t' hk h3 h4 => ?_
      · subst e0
        cases k2
        exact ⟨.int i, H, I.kept hk, ⟨t1, rfl⟩, q _ F H Grow.refl es (.int _)⟩
      · cases ns with
        | nil => exact absurd hn (by simp)
        | cons n ns =>
          cases k2
          obtain ⟨m1, m2⟩ := maxL_mem ns n
          have em : M = maxL n ns := Int.le_antisymm (m2 M h3) (h4 _ m1)
          exact ⟨.int M, H, I.kept hk, ⟨t', rfl⟩, by rw [em]; exact q _ F H Grow.refl es (.int _)⟩
  refine ⟨fun ρ => PE.imp (pe_callBK key hg hm (by decide +kernel) (ha.run ρ) pk_int (by decide) (by decide) he hpl (by rfl) (by rfl) (by rfl)) fun σ H Q h => ?_⟩
  obtain ⟨F, s, h⟩ := b_imp h
  exact ⟨F, s, by
    cases em : ms ρ with
    | no => rw [em] at h; exact h.elim
    | er y ρ1 => rw [em] at h; exact h
    | ok ds ρ1 => rw [em] at h; exact fun b F' H' g s' sh q => ⟨rfl, h b F' H' g s' sh q⟩⟩
end
end PD
end
section
set_option Elab.async false
set_option linter.all false
set_option maxRecDepth 100000
set_option maxHeartbeats 2000000
namespace PD
open PySem PySem.Spec PyProof.Rows L2

/-! ### isinstance(x, C) -/
def D.kindB : D → Option String
  | .non => some "NoneType"
  | .bl _ => some "bool"
  | .int _ => some "int"
  | .str _ => some "str"
  | .lst _ => some "list"
  | .tup _ => some "tuple"
  | .dct _ _ => some "dict"
  | .obj _ _ _ => none
/-- tk: the answer by the kind, tc: by an instance's class -/
def gIsi (tk : String → Option Bool) (tc : Str → Option Bool) : D → Option RV
  | .obj c _ _ => (tc c).map fun b => .val (.bl b)
  | d => match d.kindB with
    | some T => (tk T).map fun b => .val (.bl b)
    | none => none
/-- what isinstance asks of an own class -/
structure IsiOk (K : PySem.W.Frag) (c : Str) : Prop where
  cl : Cls K (He.ga K c)
  ha : PySem.W.findIn K (.ref (He.ga K c)) "__class__" = some (some (.builtin "object.__class__"))
  hn : PySem.W.specialIn K (.builtin "object.__class__") "__get__" = some (some (.builtin "getset_descriptor.__get__"))
  ht : PySem.W.takesIn K (.builtin "object.__class__") = some true
  hm : PySem.W.mroIn K (He.ga K c) (.type "object") = some true
theorem rep_tyX {K : PySem.W.Frag} {F H : Hp} {d : D} {v : V} {T : String} (e : Same F H) (r : Rep K F d v) (h : d.kindB = some T) : TyX K H v (.type T) := by
  cases r with
  | non => cases h; exact .base .non
  | bl b => cases h; exact .base (.bl b)
  | int i => cases h; exact .base (.int i)
  | str x => cases h; exact .base (.str x)
  | lst hs hr =>
    cases h
    rcases Same.seq e hs with (h | ⟨o, h⟩) | ⟨o, its, n, hk, hc, _⟩
    · exact .base (.lst h)
    · exact .base (.frz h)
    · exact .kList hk hc
  | tup hs hr =>
    cases h
    rcases same_seqT e hs with (h | ⟨o, h⟩) | ⟨o, its, n, hk, hc, _⟩
    · exact .base (.tup h)
    · exact .fTuple h
    · exact .kTuple hk hc
  | obj _ _ _ => cases h
  | dct ho _ _ => cases h; exact .base (.dK (e _ _ ho))
section
variable {X : Cx} {W : WX} {p p2 pos : Pos} {e : Expr} {m : M} {x : Str} {c : V} {cv : Value} {tk : String → Option Bool} {tc : Str → Option Bool}
theorem px_isi (hm : X.mg "isinstance" = none) (he : PX X W e m) (hcl : PE X (.Name x p2) (tC c)) (hc : ClsV c cv) (hk : ∀ T b, tk T = some b → PySem.W.kitOne X.K (.type T) cv = some b) (hi : ∀ c b, tc c = some b → IsiOk X.K c ∧ PySem.W.kitOne X.K (.ref (He.ga X.K c)) cv = some b)
    (hg : Gl X "isinstance" := by rfl) (hs : starEach [e, .Name x p2] X.env = (false, eval e X.env) :: starEach [.Name x p2] X.env := by rfl) (hs2 : starEach [.Name x p2] X.env = (false, eval (.Name x p2) X.env) :: starEach [] X.env := by rfl)
    (hpl : (backTo pos (starEach [.Name x p2] X.env)).any (·.1) = false := by rfl) : PX X W (.Call (.Name "isinstance" p) [e, .Name x p2] [] pos) (mUn (gIsi tk tc) m) := ⟨fun ρ => PE.imp (pe_callB call_isi hg hm (by decide +kernel) (pa_cons (he.run ρ) (pa_cons hcl pa_nil hs2) hs) (by decide) (by decide) hs hpl) fun σ H Q h => by
  obtain ⟨F, s, h⟩ := un_imp h
  refine ⟨F, s, ?_⟩
  have key : ∀ v H1, rD1 X.K (gIsi tk tc) v H1 Q → rIsi X.K [v, c] H1 Q := fun v H1 ⟨F1, d, r, e1, r1, hr, q⟩ => by
    by_cases ho : ∃ c' ns ds, d = .obj c' ns ds
    · obtain ⟨c', ns, ds, rfl⟩ := ho
      have h2 : (tc c').map (fun b => RV.val (.bl b)) = some r := hr
      obtain ⟨b, h3, h4⟩ := Option.map_eq_some_iff.mp h2
      subst h4
      obtain ⟨io, kb⟩ := hi c' b h3
      cases r1 with
      | obj ha hl hrr => exact ⟨_, c, _, cv, b, rfl, hc, .base (.ins (e1 _ _ ha) io.cl io.ha io.hn io.ht io.hm), kb, q _ F1 H1 Grow.refl e1 (.bl b)⟩
    · have h2 : (match d.kindB with | some T => (tk T).map fun b => RV.val (.bl b) | none => none) = some r := by
        cases d <;> first | exact hr | exact absurd ⟨_, _, _, rfl⟩ ho
      cases hkd : d.kindB with
      | none => rw [hkd] at h2; cases h2
      | some T =>
        rw [hkd] at h2
        obtain ⟨b, h3, h4⟩ := Option.map_eq_some_iff.mp h2
        subst h4
        exact ⟨v, c, _, cv, b, rfl, hc, rep_tyX e1 r1 hkd, hk T b h3, q _ F1 H1 Grow.refl e1 (.bl b)⟩
  cases em : m ρ with
  | no => rw [em] at h; exact h.elim
  | er y ρ1 => rw [em] at h; exact h
  | ok a ρ1 => rw [em] at h; exact fun v F' H' g s' sh q => key v H' (h v F' H' g s' sh q)⟩
end

/-! ### defs that ask what reprs are under way: in a run where none is -/
structure FnG (P : Program) (w : World) (K : PySem.W.Frag) (mg : Str → Option Value) (base : Heap) (CX : CXT) (k : Nat) (f : Addr) (fd : FuncData) (ps : List Str) (sp : Sp) : Prop where
  len : ∀ vs H Q E, sp vs H Q E → vs.length = ps.length
  run : ∀ (A : Around) (outer : List PySem.Env) (s : Shared) (H : Hp) (args : Args) (us : List Value) (vs : List V) (Q : VK) (E : XK), Room k A → A.guards = some [] → Env0 P w K mg base A outer s H → BindsTo s fd args (ps.zip us) → Vals vs us → sp vs H Q E →
    codeAny (model P w) A (.call (.ref f) args) (CR CX outer P w H s Q E) s
structure DefOkG (P : Program) (w : World) (K : PySem.W.Frag) (mg : Str → Option Value) (base : Heap) (k : Nat) (x : Str) (n : Nat) (f : En → Res RV) : Prop where
  ex : ∃ fa fd ps, FnG P w K mg base (L2N.CX P w) k fa fd ps (spF K n f) ∧ mg x = some (.ref fa) ∧ PySem.W.keepIn K (.ref fa) = true ∧ Binds K fd ps [] ∧ ps.length = n
section
variable {P : Program} {w : World} {K : PySem.W.Frag} {mg : Str → Option Value} {base : Heap}
theorem FnG.mono {CX : CXT} {j k : Nat} {f : Addr} {fd : FuncData} {ps : List Str} {sp : Sp} (F : FnG P w K mg base CX j f fd ps sp) (h : j ≤ k) : FnG P w K mg base CX k f fd ps sp := ⟨F.len, fun A outer s H args us vs Q E hr => F.run A outer s H args us vs Q E (hr.mono h)⟩
theorem DefOkG.mono {j k : Nat} {x : Str} {n : Nat} {f : En → Res RV} (F : DefOkG P w K mg base j x n f) (h : j ≤ k) : DefOkG P w K mg base k x n f := by
  obtain ⟨fa, fd, ps, h1, h2⟩ := F.ex
  exact ⟨fa, fd, ps, h1.mono h, h2⟩
theorem fn_pdG {x qual : Str} {params : Arguments} {body : List Stmt} {scope : Scope} {f : Addr} {fd : FuncData} {N ps : List Str} {k : Nat} (m : MS) (F : FunD K x qual params body scope [] [] f fd) (S : FnScope N ps scope)
    (hbody : ∀ (cdv : Value) (A : Around) (outer : List PySem.Env) (s : Shared) (H : Hp) (E : XK), Room k (cxOf (L2N.CX P w) P w K mg base N qual scope f cdv A outer s H E).A → (cxOf (L2N.CX P w) P w K mg base N qual scope f cdv A outer s H E).A.guards = some [] → L2N.Takes (cxOf (L2N.CX P w) P w K mg base N qual scope f cdv A outer s H E) (fun cls d _ H => E cls d H) →
      PassesOwn (model P w) (cxOf (L2N.CX P w) P w K mg base N qual scope f cdv A outer s H E).A (cxOf (L2N.CX P w) P w K mg base N qual scope f cdv A outer s H E).env (cxOf (L2N.CX P w) P w K mg base N qual scope f cdv A outer s H E).xe →
      PB (cxOf (L2N.CX P w) P w K mg base N qual scope f cdv A outer s H E) (fun cls d _ H => E cls d H) ps.length body m) : FnG P w K mg base (L2N.CX P w) (k + 1) f fd ps (spF K ps.length (runB ps.length N.length m)) := by
  obtain ⟨oc, od, dV, kV, doc, pm, an, cdv, ct, osl, rfl, lk, hcd, _, _⟩ := F.ex
  refine ⟨fun vs H Q E h => h.1, fun A outer s H args us vs Q E hr hgu e0 hb r hsp => ?_⟩
  obtain ⟨hn, ρ, F0, st0, h⟩ := hsp
  have hl : vs.length = ps.length := hn
  have KX : K.In s.heap := e0.mod.kin.keeps fun b o e => (e0.bs b o e).1
  have lim : s.heap.NoLimit := e0.mod.nolimit.keeps fun b o e => (e0.bs b o e).1
  have hkind : ∀ y ∈ ps.zip us, scope.names.lookup y.1 = some .local ∨ (scope.names.lookup y.1 = some .cell ∧ ((cellsFrom (s.heap.objs.size + 1) scope.names []).lookup y.1).isSome = true) := fun ⟨n, v⟩ hy => by
    rcases S.par n (List.of_mem_zip hy).1 with q | q
    · exact .inl q
    · exact .inr ⟨q, PySem.W.cellsFrom_some _ _ _ (.inl q)⟩
  refine codeAny_call_function hr.depth (KX _ _ lk) rfl S.co S.gen rfl (PySem.W.codeRec_of KX hcd) (hb _ _ _ _ ?_)
  refine wpAny_newFunctionEnv_cells S.kind hkind fun env he s1 x => ?_
  subst he
  refine ⟨lim.keeps x.toInCall.keep, codeAny_func ?_⟩
  have hq := run_body (N := N) (m := m) (W := fun cls d _ H => E cls d H) hn st0 h fun _ _ _ _ _ z => z
  have ht := (hbody cdv A outer s H E (hr.deeper _) hgu (L2N.takes_of rfl rfl rfl rfl) (passes_of rfl)).run (ρ ++ List.replicate (N.length - ps.length) .emp)
  have I : Inv (cxOf (L2N.CX P w) P w K mg base N qual scope f cdv A outer s H E) [] (L2.start N vs) H s1 := inv_start S hr.hd e0 hl r x
  refine wpAny_mono (ht.run [] s1 (L2.start N vs) H _ I hq) (fun fl s' hs => ?_) fun e s' hs => hs
  have fin : ∀ {σ' : L2.St} {H' : Hp} {v : V} {u : Value}, Inv (cxOf (L2N.CX P w) P w K mg base N qual scope f cdv A outer s H E) [] σ' H' s' → RelV v u → Q v H' → CE outer P w H s Q u s' :=
    fun {σ' H' v u} J rv q => ⟨v, H', J.os, J.bare, J.base, J.hok, rv, q⟩
  cases fl with
  | ret u =>
    obtain ⟨v, σ', H', J, rv, q⟩ := hs
    exact fin J rv q
  | next =>
    obtain ⟨σ', H', J, q⟩ := hs
    exact fin (v := V.non) (u := Value.none) J rfl q
  | brk =>
    obtain ⟨_, _, _, q⟩ := hs
    exact False.elim q
  | cont =>
    obtain ⟨_, _, _, q⟩ := hs
    exact False.elim q
end
section
variable {X : Cx} {W : WX} {k n : Nat} {f : En → Res RV} {x : Str} {p pos : Pos} {e : Expr} {es : List Expr} {ms : MA}
theorem pe_callG {sp : Sp} {E : L2.St → XK} {fa : Addr} {fd : FuncData} {ps : List Str} {t : TA} (F : FnG X.prog X.w X.K X.mg X.base (L2N.CX X.prog X.w) k fa fd ps sp) (hr : Room k X.A) (hgu : X.A.guards = some []) (hg : Gl X x) (hm : X.mg x = some (.ref fa)) (hk : PySem.W.keepIn X.K (.ref fa) = true) (hb : Binds X.K fd ps []) (hx : ∀ σ, PassesAt (L2N.CX X.prog X.w) X σ (E σ))
    (ha : PA X (e :: es) t) (hdb : (x == ("__debug__" : Str)) = false := by decide) (he : starEach (e :: es) X.env = (false, eval e X.env) :: starEach es X.env := by rfl) (hpl : (backTo pos (starEach es X.env)).any (·.1) = false := by rfl) :
    PE X (.Call (.Name x p) (e :: es) [] pos) (tCallS sp E t) := by
  refine ⟨fun pins s σ H Q I h => ?_⟩
  refine wpAny_Call_Name_kw (ld_glob I hg hm ?_ hdb)
  refine PySem.W.callWith_K (h₀ := X.base) I.ok.mod.kin hk (thn (ha.run pos pins s σ H _ I h) fun us s1 ⟨vs, H1, I1, r, q⟩ => ⟨I1.kIn, ?_⟩) he hpl
  have hl : us.length = ps.length := by rw [← r.length]; exact F.len _ _ _ _ q
  have b := hb s1 us I1.kIn (by rw [List.append_nil]; exact hl)
  rw [List.append_nil] at b
  refine wpAny_call (codeAny_mono (F.run X.A X.stack s1 H1 ⟨us, []⟩ us vs Q (E σ) hr hgu I1.env0 b r q) fun r s' hq => ?_)
  cases r with
  | error e => exact hx σ pins H1 s1 e s' I1 hq
  | ok fl =>
    cases fl with
    | ret u => exact I1.after hq
    | next => exact False.elim hq
    | brk => exact False.elim hq
    | cont => exact False.elim hq
theorem px_callG (F : DefOkG X.prog X.w X.K X.mg X.base k x n f) (hr : Room k X.A) (hgu : X.A.guards = some []) (tk : L2N.Takes X W) (ha : PXA X W (e :: es) ms) (hg : Gl X x := by rfl) (hdb : (x == ("__debug__" : Str)) = false := by decide)
    (he : starEach (e :: es) X.env = (false, eval e X.env) :: starEach es X.env := by rfl) (hpl : (backTo pos (starEach es X.env)).any (·.1) = false := by rfl) : PX X W (.Call (.Name x p) (e :: es) [] pos) (mFn n f ms) := by
  obtain ⟨fa, fd, ps, h1, h2, h3, h4, h5⟩ := F.ex
  exact ⟨fun ρ => PE.imp (pe_callG h1 hr hgu hg h2 h3 h4 (fun σ => L2N.passAt tk σ) (ha.run ρ) hdb he hpl) fun _ _ _ h => fn_imp h⟩
theorem px_callOG {i : Nat} {y : Str} {py : Pos} (F : DefOkG X.prog X.w X.K X.mg X.base k x n f) (hr : Room k X.A) (hgu : X.A.guards = some []) (tk : L2N.Takes X W) (ha : PXA X W es ms) (hN : X.N[i]? = some y := by rfl) (hv : Vis X.env.scope y := by first | exact Or.inl rfl | exact Or.inr (Or.inl rfl) | exact Or.inr (Or.inr rfl)) (hg : Gl X x := by rfl)
    (hdb : (x == ("__debug__" : Str)) = false := by decide) (hdy : (y == ("__debug__" : Str)) = false := by decide) (hcd : (y == ("__classdict__" : Str)) = false := by decide)
    (he : starEach (.Name y py :: es) X.env = (false, eval (.Name y py) X.env) :: starEach es X.env := by rfl) (hpl : (backTo pos (starEach es X.env)).any (·.1) = false := by rfl) : PX X W (.Call (.Name x p) (.Name y py :: es) [] pos) (mFnO n f i ms) := by
  obtain ⟨fa, fd, ps, h1, h2, h3, h4, h5⟩ := F.ex
  exact ⟨fun ρ => PE.imp (pe_callG h1 hr hgu hg h2 h3 h4 (fun σ => L2N.passAt tk σ) (pa_cons (pv i hN hv hdy hcd) (ha.run ρ)) hdb he hpl) fun _ _ _ h => fnO_imp h⟩
end
end PD
end
section
set_option Elab.async false
set_option linter.all false
set_option maxRecDepth 100000
set_option maxHeartbeats 2000000
namespace PD
open PySem PySem.Spec PyProof.Rows L2
theorem takesF {X : Cx} : L2N.Takes X WF := fun u s' ⟨_, _, _, _, _, _, _, _, _, _, _, _, _, _, _, _, w⟩ => w.elim
/-! ### name += e, whole numbers -/
def mAug (i : Nat) (m : M) : MS := fun ρ => match ρ[i]? with
  | some (.val (.int x)) => (m ρ).toS fun a ρ1 => match a.d with
    | .int y => (match gN i (.int (x + y)) ρ1 with
      | some ρ2 => .nx ρ2
      | none => .no)
    | _ => .no
  | _ => .no
section
variable {X : Cx} {W : WX} {n i : Nat} {e : Expr} {m : M} {pos pos' : Pos} {x : Str}
theorem val_at {K : PySem.W.Frag} {F H : Hp} {σ : L2.St} {ρ : En} {d : D} (s : StOk K F H σ ρ) (e : ρ[i]? = some (.val d)) : ∃ v, σ[i]? = some (some v) ∧ Rep K F d v := by
  have hi : i < σ.length := by rw [s.len]; exact (List.getElem?_eq_some_iff.mp e).1
  have z := s.sl i _ _ (List.getElem?_eq_getElem hi) e
  cases q : σ[i] with
  | none => rw [q] at z; exact z.elim
  | some v =>
    rw [q] at z
    exact ⟨v, by rw [List.getElem?_eq_getElem hi, q], z⟩
theorem aug_imp {K : PySem.W.Frag} {D : Ends} {σ : L2.St} {ρ : En} {H : Hp} (h : tS K W n ρ (mAug i m ρ) D σ H) : tAug i (tE K W ρ (m ρ)) (ipI fun i j => i + j) D σ H := by
  obtain ⟨F, s, h⟩ := h
  unfold mAug at h
  cases e : ρ[i]? with
  | none => rw [e] at h; exact h.elim
  | some sl =>
    rw [e] at h
    cases sl with
    | val d =>
      obtain ⟨v, hv, r⟩ := val_at s e
      cases d with
      | int x =>
        cases r
        refine ⟨_, hv, F, s, PostS.bindD (k := fun a ρ1 => match a with | .int y => (match gN i (.int (x + y)) ρ1 with | some ρ2 => .nx ρ2 | none => .no) | _ => .no) s h fun d ρ1 v F1 H1 e1 g1 s1 sh1 r1 h1 => ?_⟩
        cases d with
        | int y =>
          have h1 : PostS K W n D σ ρ1 F1 H1 (match gN i (.int (x + y)) ρ1 with | some ρ2 => .nx ρ2 | none => .no) := h1
          cases e : gN i (.int (x + y)) ρ1 with
          | none => rw [e] at h1; exact h1.elim
          | some ρ2 =>
            rw [e] at h1
            cases r1
            obtain ⟨_, k1, k2⟩ := gN_ok (n := n) s1 (.int (x + y)) e
            exact ⟨x, y, rfl, rfl, h1 _ F1 H1 k1 k2⟩
        | _ => exact h1.elim
      | _ => exact h.elim
    | _ => exact h.elim
theorem p1_aug (hN : X.N.Nodup) (he : PX X W e m) (hi : X.N[i]? = some x := by rfl) (hx : Loc X.env.scope x := by first | exact .inl rfl | exact .inr rfl)
    (hf : X.fn x = true ∨ X.env.scope.names.lookup x = some .local := by first | exact .inl rfl | exact .inr rfl) : P1 X W n (.AugAssign (.Name x pos') .Add e pos) (mAug i m) := ⟨fun ρ => PS.imp (ps_aug hN hi hx (he.run ρ) ip_add hf) fun _ _ _ h => aug_imp h⟩
end
/-! ### y = [.. for x in ..] on one line, y a local -/
section
variable {X : Cx} {W : WX} {n i j : Nat} {x y : Str} {elt iter c : Expr} {scope : Scope} {pos spos tp py : Pos} {mi : MI} {me : M} {tt : MT}
theorem p1_setLc (hc : X.calm = true) (hN : X.N.Nodup) (hi : PXI X W (.Name x tp) iter mi) (ok : BlkOk X.N X.env.scope scope [(x, i)])
    (hg : ∀ (s : Shared) (H : Hp) (C : Addr) (cl : List (Str × Addr)) (fp : List Addr), PG (X.blk s H scope (compEnvC scope cl C X.env) fp) (.Name x tp) (gName i))
    (he : ∀ (s : Shared) (H : Hp) (C : Addr) (cl : List (Str × Addr)) (fp : List Addr), PX (X.blk s H scope (compEnvC scope cl C X.env) fp) WF elt me)
    (hy : X.N[j]? = some y := by rfl) (hyl : X.env.scope.names.lookup y = some .local := by rfl) (hk : X.env.scope.kind = .function := by rfl) (hl : (py.line == pos.line) = true := by rfl)
    (hsc : (scope.names.any fun (n, k) => n == y && (k == .local || k == .cell)) = false := by rfl) (hs : ∀ x, foldedSetIterable iter X.env x = pure x := by intro _; rfl) :
    P1 X W n (.Assign [.Name y py] (.ListComp elt [⟨.Name x tp, iter, [], 0⟩] scope pos) spos) (mSet (gN j) (mLc mi i mtYes me)) :=
  ⟨fun ρ => PS.imp (ps_setLc (own := [(x, i)]) hc hN hy hyl (sw_true hk hyl hl hsc) (hi.run ρ) ok hg (fun s H C cl fp => pts_ex (.inl ⟨rfl, rfl⟩)) (fun s H C cl fp => (he s H C cl fp).ex) hs) fun _ _ _ h => lc_imp (setN_imp h)⟩
theorem p1_setLcIf (hc : X.calm = true) (hN : X.N.Nodup) (hi : PXI X W (.Name x tp) iter mi) (ok : BlkOk X.N X.env.scope scope [(x, i)])
    (hg : ∀ (s : Shared) (H : Hp) (C : Addr) (cl : List (Str × Addr)) (fp : List Addr), PG (X.blk s H scope (compEnvC scope cl C X.env) fp) (.Name x tp) (gName i))
    (ht : ∀ (s : Shared) (H : Hp) (C : Addr) (cl : List (Str × Addr)) (fp : List Addr), PXT (X.blk s H scope (compEnvC scope cl C X.env) fp) WF c tt)
    (he : ∀ (s : Shared) (H : Hp) (C : Addr) (cl : List (Str × Addr)) (fp : List Addr), PX (X.blk s H scope (compEnvC scope cl C X.env) fp) WF elt me)
    (hy : X.N[j]? = some y := by rfl) (hyl : X.env.scope.names.lookup y = some .local := by rfl) (hk : X.env.scope.kind = .function := by rfl) (hl : (py.line == pos.line) = true := by rfl)
    (hsc : (scope.names.any fun (n, k) => n == y && (k == .local || k == .cell)) = false := by rfl) (hs : ∀ x, foldedSetIterable iter X.env x = pure x := by intro _; rfl) :
    P1 X W n (.Assign [.Name y py] (.ListComp elt [⟨.Name x tp, iter, [c], 0⟩] scope pos) spos) (mSet (gN j) (mLc mi i tt me)) :=
  ⟨fun ρ => PS.imp (ps_setLc (own := [(x, i)]) hc hN hy hyl (sw_true hk hyl hl hsc) (hi.run ρ) ok hg (fun s H C cl fp => pts_ex (.inr ⟨c, rfl, ht s H C cl fp⟩)) (fun s H C cl fp => (he s H C cl fp).ex) hs) fun _ _ _ h => lc_imp (setN_imp h)⟩
end
end PD
end
section
set_option Elab.async false
set_option linter.all false
set_option maxRecDepth 100000
set_option maxHeartbeats 2000000
namespace PD
open PySem PySem.Spec PyProof.Rows L2
/-! ### {} -/
def mDct0 : M := fun ρ => .ok (.fr (.dct [] [])) ρ
/-! ### range(i, j, c) -/
def rng3 (lo c : Int) (n : Nat) : List D := (List.range n).map fun k => .int (lo + (k : Nat) * c)
def miR3 (ms : MA) : MI := fun ρ => (ms ρ).bind fun ds ρ1 => match ds with
  | [.int i, .int j, .int c] => if c ≠ 0 ∧ c.natAbs < 1073741824 ∧ Builtin.Range.small i j c = true ∧ 0 ≤ Builtin.Range.rangeSize i j c then .ok (rng3 i c (Builtin.Range.rangeSize i j c).toNat) ρ1 else .no
  | _ => .no
/-! ### a, b, .. = a list -/
def gL (gs : List MG) : MG := fun d ρ => match d with
  | .lst ds => gGo gs ds ρ
  | _ => none
section
variable {X : Cx} {W : WX} {n : Nat} {pos p : Pos} {a b c : Expr} {tg : Expr} {ms : MA}
theorem px_dct0 : PX X W (.Dict [] [] pos) mDct0 := ⟨fun ρ => PE.imp pe_dnewK fun σ H Q ⟨F, s, h⟩ q hq => by
  obtain ⟨g, e⟩ := gr_newH (p := q) (o := .dK []) s.same hq
  exact h (.ref q) F _ (g.imp fun _ z => z.elim) (s.grow g e) rfl ⟨q, .dK [], rfl, hq, Same.free s.same hq, upd_same, [], rfl, rfl, .nil⟩⟩
theorem rng3_get {lo c : Int} {n i : Nat} {d : D} (h : (rng3 lo c n)[i]? = some d) : i < n ∧ d = .int (lo + (i : Nat) * c) := by
  unfold rng3 at h
  rw [List.getElem?_map] at h
  by_cases q : i < n
  · rw [List.getElem?_range q] at h; cases h; exact ⟨q, rfl⟩
  · rw [List.getElem?_eq_none (by rw [List.length_range]; omega)] at h; cases h
theorem itOk_rng3 {K : PySem.W.Frag} {F : Hp} {lo c : Int} {n : Nat} : ItOk K (Itc lo c n) F (rng3 lo c n) := fun F' H' f h => by
  refine ⟨fun i hi => by unfold rng3 at hi; rw [List.length_map, List.length_range] at hi; exact hi, fun i d hd => ?_⟩
  obtain ⟨h1, rfl⟩ := rng3_get hd
  refine ⟨h1, fun x H2 hy => ?_⟩
  obtain ⟨rfl, rfl⟩ := hy
  exact ⟨F', Grow.refl, h, .int _⟩
theorem pxi_rng3 (hm : X.mg "range" = none) (ha : PXA X W [a, b, c] ms) (hg : Gl X "range" := by rfl) (hs : starEach [a, b, c] X.env = (false, eval a X.env) :: starEach [b, c] X.env := by rfl) (hpl : (backTo pos (starEach [b, c] X.env)).any (·.1) = false := by rfl) :
    PXI X W tg (.Call (.Name "range" p) [a, b, c] [] pos) (miR3 ms) := ⟨fun ρ => PI.imp (pi_range3 hg hm (ha.run ρ) hs hpl) fun σ H R ⟨F, s, h⟩ => by
  refine ⟨F, s, Post.bind (k := fun ds ρ1 => match ds with | [.int i, .int j, .int c] => if c ≠ 0 ∧ c.natAbs < 1073741824 ∧ Builtin.Range.small i j c = true ∧ 0 ≤ Builtin.Range.rangeSize i j c then .ok (rng3 i c (Builtin.Range.rangeSize i j c).toNat) ρ1 else .no | _ => .no) h ri_back fun ds ρ1 vs F1 H1 e1 _ g1 s1 sh1 r1 h1 => ?_⟩
  match ds, vs, r1, h1 with
  | [.int i, .int j, .int c], _, .cons (.int _) (.cons (.int _) (.cons (.int _) .nil)), h1 =>
    have h2 : Post X.K W (RI X.K) σ ρ1 F1 H1 (if c ≠ 0 ∧ c.natAbs < 1073741824 ∧ Builtin.Range.small i j c = true ∧ 0 ≤ Builtin.Range.rangeSize i j c then .ok (rng3 i c (Builtin.Range.rangeSize i j c).toNat) ρ1 else .no) R := h1
    by_cases k : c ≠ 0 ∧ c.natAbs < 1073741824 ∧ Builtin.Range.small i j c = true ∧ 0 ≤ Builtin.Range.rangeSize i j c
    · rw [if_pos k] at h2
      exact ⟨i, j, c, _, rfl, ⟨k.1, k.2.1, k.2.2.1, (Int.toNat_of_nonneg k.2.2.2).symm⟩, h2 _ F1 H1 Grow.refl s1 rfl itOk_rng3⟩
    · rw [if_neg k] at h2
      exact h2.elim⟩
theorem pxg_lst {es : List Expr} {k : Nat} {gs : List MG} (hc : X.calm = true) (h : PXGs X n es gs) (hn : (assignEach es X.env).length = gs.length := by rfl) (hst : (assignEach es X.env).findIdx? (·.1) = none := by rfl) : PXG X n (.Tuple es k pos) (gL gs) := ⟨⟨fun pins s σ H v u Q I r hw => by
  obtain ⟨F, ρ, d, ρ', st, rd, hg, q⟩ := hw
  cases rd with
  | lst hs hr =>
    have hl := gGo_len (show gGo gs _ ρ = some ρ' from hg)
    exact (pg_lst (pos := pos) (k := k) hc h.run hn hst).run pins s σ H _ u Q I r ⟨_, _, rfl, Same.seq st.same hs, by rw [← Reps.length hr]; exact hl, F, ρ, _, ρ', st, hr, hg, q⟩
  | _ => cases hg⟩⟩
end
end PD
end
section
set_option Elab.async false
set_option linter.all false
set_option maxRecDepth 100000
set_option maxHeartbeats 2000000
namespace PD
open PySem PySem.Spec PyProof.Rows L2
/-! ### f(e), e a thing just made, which f may change -/
def mFnF (f : En → Res RV) (m : M) : M := fun ρ => match m ρ with
  | .ok (.fr o) ρ1 => (match f [.own o] with
    | .ok (.val d) _ => .ok (.val d) ρ1
    | _ => .no)
  | .er x ρ1 => .er x ρ1
  | _ => .no
section
variable {K : PySem.W.Frag} {W : WX} {F H F' H' : Hp} {σ : L2.St} {ρ : En} {p : Addr}
theorem StOk.growO (s : StOk K F H σ ρ) (g : Grow (fun b => b = p) F H F' H') (e : Same F' H') (hp : ¬ Own σ ρ p) : StOk K F' H' σ ρ :=
  ⟨e, s.len, fun i x sl h1 h2 => by
    have q := s.sl i x sl h1 h2
    cases sl with
    | emp => cases x <;> trivial
    | val d => cases x with
      | none => exact q
      | some v => exact Rep.mono g.ff q
    | own ds => cases x with
      | none => exact q
      | some v =>
        obtain ⟨a, vs, r1, r2, r3, r4⟩ := q
        exact ⟨a, vs, r1, g.hh _ _ r2 fun z => hp ⟨i, ds, h2, by rw [h1, r1, z]⟩, g.fr _ (by rw [r2]; exact fun z => nomatch z) r3, r4.mono g.ff⟩, s.inj⟩
theorem fnF_imp {f : En → Res RV} {m : M} {Q : VK} (h : tE K W ρ (mFnF f m ρ) σ H Q) : tCallS (spF K 1 f) (WE W) (tCons (tE K W ρ (m ρ)) tNil) σ H Q := by
  obtain ⟨F, s, h⟩ := h
  refine ⟨F, s, ?_⟩
  unfold mFnF at h
  cases em : m ρ with
  | no => rw [em] at h; exact h.elim
  | er y ρ1 => rw [em] at h; exact h
  | ok a ρ1 =>
    cases a with
    | val d => rw [em] at h; exact h.elim
    | fr o =>
      rw [em] at h
      have h : Post K W (RepV K) σ ρ F H (match f [.own o] with | .ok (.val d) _ => .ok (.val d) ρ1 | _ => .no) Q := h
      intro v F1 H1 g1 s1 sh1 q1
      obtain ⟨p, u, rfl, hp, hF1, hH1, ho⟩ := q1
      have hno : ¬ Own σ ρ p := fun z => by
        obtain ⟨u2, k, _⟩ := s.own_at z
        rw [hp] at k; cases k
      have hno1 : ¬ Own σ ρ1 p := fun z => hno ((own_shape sh1).mp z)
      refine ⟨rfl, [.own o], F1, own_args_ok (vs := []) (ds := []) s1.same .nil hH1 hF1 ho, ?_⟩
      have oo : ∀ {b : Addr}, Own (([V.ref p]).map some) [.own o] b → b = p := fun {b} ⟨j, d, k1, k2⟩ => by
        cases j with
        | zero => rw [List.map_cons, List.getElem?_cons_zero] at k2; cases k2; rfl
        | succ j => rw [List.getElem?_cons_succ] at k1; cases k1
      cases e : f [.own o] with
      | no => rw [e] at h; exact h.elim
      | er y ρ' => rw [e] at h; exact h.elim
      | ok r ρ' =>
        rw [e] at h
        cases r with
        | fr o2 => exact h.elim
        | val d =>
          intro v2 F2 H2 g s' sh q
          have g' : Grow (fun b => b = p) F1 H1 F2 H2 := g.imp fun b z => oo z
          refine h v2 F2 H2 ⟨g1.ff.trans g'.ff, fun b o2 z n => g'.hh b o2 (g1.hh b o2 z n) fun e2 => ?_, fun b z => g'.ht b (g1.ht b z), fun b z k => g'.fr b (g1.ht b z) (g1.fr b z k)⟩ (s1.growO g' s'.same hno1) sh1 q
          rw [e2, hp] at z; cases z
end
section
variable {X : Cx} {W : WX} {k : Nat} {f : En → Res RV} {x : Str} {p pos : Pos} {e : Expr} {m : M}
theorem px_callF (F : DefOk X.prog X.w X.K X.mg X.base k x 1 f) (hr : Room k X.A) (tk : L2N.Takes X W) (he1 : PX X W e m) (hg : Gl X x := by rfl) (hdb : (x == ("__debug__" : Str)) = false := by decide)
    (he : starEach [e] X.env = (false, eval e X.env) :: starEach [] X.env := by rfl) : PX X W (.Call (.Name x p) [e] [] pos) (mFnF f m) := by
  obtain ⟨fa, fd, ps, h1, h2, h3, h4, h5⟩ := F.ex
  exact ⟨fun ρ => PE.imp (pe_callS h1 hr hg h2 h3 h4 (fun σ => L2N.passAt tk σ) (pa_cons (he1.run ρ) pa_nil he) hdb he (by rfl)) fun _ _ _ h => fnF_imp h⟩
theorem px_callFG (F : DefOkG X.prog X.w X.K X.mg X.base k x 1 f) (hr : Room k X.A) (hgu : X.A.guards = some []) (tk : L2N.Takes X W) (he1 : PX X W e m) (hg : Gl X x := by rfl) (hdb : (x == ("__debug__" : Str)) = false := by decide)
    (he : starEach [e] X.env = (false, eval e X.env) :: starEach [] X.env := by rfl) : PX X W (.Call (.Name x p) [e] [] pos) (mFnF f m) := by
  obtain ⟨fa, fd, ps, h1, h2, h3, h4, h5⟩ := F.ex
  exact ⟨fun ρ => PE.imp (pe_callG h1 hr hgu hg h2 h3 h4 (fun σ => L2N.passAt tk σ) (pa_cons (he1.run ρ) pa_nil he) hdb he (by rfl)) fun _ _ _ h => fnF_imp h⟩
end
end PD
end
section
set_option Elab.async false
set_option linter.all false
set_option maxRecDepth 100000
set_option maxHeartbeats 2000000
namespace PD
open PySem PySem.Spec PyProof.Rows L2
section
variable {X : Cx} {W : WX} {k : Nat} {f : En → Res RV} {x : Str} {p pos : Pos}
/-- f() in a run where no repr is under way -/
theorem pe_callG0 {sp : Sp} {E : L2.St → XK} {fa : Addr} {fd : FuncData} {ps : List Str} (F : FnG X.prog X.w X.K X.mg X.base (L2N.CX X.prog X.w) k fa fd ps sp) (hr : Room k X.A) (hgu : X.A.guards = some []) (hg : Gl X x) (hm : X.mg x = some (.ref fa)) (hk : PySem.W.keepIn X.K (.ref fa) = true) (hb : Binds X.K fd ps []) (hx : ∀ σ, PassesAt (L2N.CX X.prog X.w) X σ (E σ))
    (hdb : (x == ("__debug__" : Str)) = false := by decide) : PE X (.Call (.Name x p) [] [] pos) (tCallS sp E tNil) := by
  refine ⟨fun pins s σ H Q I h => ?_⟩
  refine wpAny_Call_Name_kw (ld_glob I hg hm ?_ hdb)
  refine PySem.W.callWith_K0 I.kIn hk ?_
  have q : sp [] H Q (E σ) := h
  have hl : ([] : List Value).length = ps.length := F.len _ _ _ _ q
  have b := hb s [] I.kIn (by rw [List.append_nil]; exact hl)
  rw [List.append_nil] at b
  refine wpAny_call (codeAny_mono (F.run X.A X.stack s H ⟨[], []⟩ [] [] Q (E σ) hr hgu I.env0 b .nil q) fun r s' hq => ?_)
  cases r with
  | error e => exact hx σ pins H s e s' I hq
  | ok fl =>
    cases fl with
    | ret u => exact I.after hq
    | next => exact False.elim hq
    | brk => exact False.elim hq
    | cont => exact False.elim hq
theorem px_callG0 {n : Nat} (F : DefOkG X.prog X.w X.K X.mg X.base k x n f) (hr : Room k X.A) (hgu : X.A.guards = some []) (tk : L2N.Takes X W) (hg : Gl X x := by rfl) (hdb : (x == ("__debug__" : Str)) = false := by decide) : PX X W (.Call (.Name x p) [] [] pos) (mFn n f mNil) := by
  obtain ⟨fa, fd, ps, h1, h2, h3, h4, h5⟩ := F.ex
  exact ⟨fun ρ => PE.imp (pe_callG0 h1 hr hgu hg h2 h3 h4 (fun σ => L2N.passAt tk σ) hdb) fun σ H Q h => by
    obtain ⟨F0, s, hp⟩ := fn_imp (W := W) (ms := mNil) h
    exact hp [] F0 H Grow.refl s rfl .nil⟩
end
end PD
end
section
set_option Elab.async false
set_option linter.all false
set_option maxRecDepth 100000
set_option maxHeartbeats 2000000
namespace PD
open PySem PySem.Spec PyProof.Rows L2
/-! ### isinstance(e, C), e the exception of a named suite, an own one with fields -/
structure IsxC (K : PySem.W.Frag) (C : Addr) : Prop where
  xf : XfC K C
  ha : PySem.W.findIn K (.ref C) "__class__" = some (some (.builtin "object.__class__"))
  hn : PySem.W.specialIn K (.builtin "object.__class__") "__get__" = some (some (.builtin "getset_descriptor.__get__"))
  ht : PySem.W.takesIn K (.builtin "object.__class__") = some true
  hm : PySem.W.mroIn K C (.type "object") = some true
section
variable {X : Cx} {a C dd : Addr} {oe : Obj} {pn pins : List (Addr × Obj)} {σ : L2.St} {H : Hp} {s : Shared} {fs : List (Str × V)}
theorem inst_xd (I : Inv (X.suite a ((a, oe) :: pn)) pins σ H s) (hz : Zc (.ref C) (some dd) oe) (hf : ∃ vs, oe.data = .fields vs) (hd : H dd = some (.xd fs)) : ∃ od, PySem.W.InstAt s.heap a oe C (some od) := by
  obtain ⟨ha, _⟩ := I.pin (a, oe) (List.mem_append_left _ List.mem_cons_self)
  obtain ⟨vs, hv⟩ := hf
  have hx : ObjOk X.prog X.w H s.heap dd (.xd fs) := I.hok dd _ hd
  obtain ⟨mA, hns, hr⟩ := hx
  obtain ⟨od, ho, hl⟩ := lookIn_ns hns
  exact ⟨od, ha, hz.1, by unfold PySem.W.notCls; rw [hv] <;> rfl, by rw [hz.2]; exact ho⟩
def rIsX (K : PySem.W.Frag) (C dd a : Addr) : List V → Hp → VK → Prop := fun xs H Q => ∃ (c : V) (cv : Value) (b : Bool) (fs : List (Str × V)), xs = [.ref a, c] ∧ ClsV c cv ∧ H dd = some (.xd fs) ∧ PySem.W.kitOne K (.ref C) cv = some b ∧ Q (.bl b) H
theorem call_isX (T : IsxC X.K C) (hz : Zc (.ref C) (some dd) oe) (hf : ∃ vs, oe.data = .fields vs) : CallR (X.suite a ((a, oe) :: pn)) (.builtin "isinstance") (rIsX X.K C dd a) := by
  intro pins s σ H xs us Q I r h
  obtain ⟨c, cv, b, fs, rfl, hcv, hd, e, q⟩ := h
  cases r with
  | cons rx rr =>
    cases rr with
    | cons rt rr =>
      cases rr
      cases rx
      have ec := hcv.eq rt
      subst ec
      obtain ⟨od, J⟩ := inst_xd I hz hf hd
      have hcl : (PySem.W.clsIn X.K C).isSome = true := by
        have k := T.xf.hdC
        obtain ⟨cd, hc, _⟩ := PySem.W.any_some k
        rw [hc]; rfl
      exact PySem.W.kia_one (PySem.W.kitx_exc hcl T.xf.ga T.xf.gg T.xf.exC T.ha T.hn T.ht T.hm) I.kIn J e (fun z => nomatch z) fun tk => ⟨.bl b, H, I.kept (t' := tk) fun _ _ z => z, rfl, q⟩
/-- .. and a tuple of classes -/
def rIsXT (K : PySem.W.Frag) (C dd a : Addr) : List V → Hp → VK → Prop := fun xs H Q => ∃ (tp : Addr) (cs : List V) (us : List Value) (b : Bool) (fs : List (Str × V)), xs = [.ref a, .ref tp] ∧ H tp = some (.tup cs) ∧ Paired ClsV cs us ∧ H dd = some (.xd fs) ∧ PySem.W.kitAny K (.ref C) us = some b ∧ Q (.bl b) H
theorem call_isXT (T : IsxC X.K C) (hz : Zc (.ref C) (some dd) oe) (hf : ∃ vs, oe.data = .fields vs) : CallR (X.suite a ((a, oe) :: pn)) (.builtin "isinstance") (rIsXT X.K C dd a) := by
  intro pins s σ H xs us Q I r h
  obtain ⟨tp, cs, ws, b, fs, rfl, hT, k, hd, e, q⟩ := h
  cases r with
  | cons rx rr =>
    cases rr with
    | cons rt rr =>
      cases rr
      cases rx
      cases rt
      obtain ⟨od, J⟩ := inst_xd I hz hf hd
      have hcl : (PySem.W.clsIn X.K C).isSome = true := by
        have k := T.xf.hdC
        obtain ⟨cd, hc, _⟩ := PySem.W.any_some k
        rw [hc]; rfl
      have ho := I.hok tp _ hT
      obtain ⟨w1, its, rv, o, h1, h2, m, h3⟩ := (show ObjOk X.prog X.w H s.heap tp (.tup cs) from ho)
      obtain rfl := ClsV.all k rv
      rcases o with ⟨oc, od2, dt, sl⟩
      dsimp only at h2 h3
      subst h2
      subst h3
      exact PySem.W.kia_tup (PySem.W.kitx_exc hcl T.xf.ga T.xf.gg T.xf.exC T.ha T.hn T.ht T.hm) I.kIn J h1 e (fun z => nomatch z) fun tk => ⟨.bl b, H, I.kept (t' := tk) fun _ _ z => z, rfl, q⟩
end
end PD
end
section
set_option Elab.async false
set_option linter.all false
set_option maxRecDepth 100000
set_option maxHeartbeats 2000000
namespace PD
open PySem PySem.Spec PyProof.Rows L2
/-! ### statements that raise nothing -/
def noErS (m : MS) : MS := fun ρ => match m ρ with
  | .er _ _ => .no
  | o => o
section
variable {X : Cx} {W : WX} {n : Nat} {m : MS}
theorem noErS_imp {K : PySem.W.Frag} {ρ : En} {D : Ends} {σ : L2.St} {H : Hp} (h : tS K W n ρ (noErS m ρ) D σ H) : tS K WF n ρ (m ρ) D σ H := by
  obtain ⟨F, s, h⟩ := h
  refine ⟨F, s, ?_⟩
  unfold noErS at h
  cases e : m ρ with
  | er x ρ1 => rw [e] at h; exact h.elim
  | _ => rw [e] at h; exact h
theorem p1_noEr {st : Stmt} (h : P1 X WF n st m) : P1 X W n st (noErS m) := ⟨fun ρ => PS.imp (h.run ρ) fun _ _ _ z => noErS_imp z⟩
theorem pb_noEr {st : List Stmt} (h : PB X WF n st m) : PB X W n st (noErS m) := ⟨fun ρ => PSs.imp (h.run ρ) fun _ _ _ z => noErS_imp z⟩
theorem takesF2 : L2.Takes X WF := fun u s' h => by
  obtain ⟨_, _, _, _, _, _, _, _, _, _, _, _, _, _, _, w⟩ := h
  first | exact w.elim | exact w.2.elim
end
end PD
end
section
set_option Elab.async false
set_option linter.all false
set_option maxRecDepth 100000
set_option maxHeartbeats 4000000
namespace K84
open PySem PySem.Spec PyProof.Rows L2 PD
def top (i : Nat) : Stmt := PySem.Challenge.pw_agreeingcasts_k84_written_expressions.main.body.getD i (.Pass ⟨0, 0, 0, 0⟩)
structure DefIs (K : PySem.W.Frag) (mg : Str → Option Value) (x : Str) (st : Stmt) : Prop where
  ex : ∃ f fd, mg x = some (.ref f) ∧ FunD K x x (defArgs st) (defBody st) (defScope st) [] [] f fd
abbrev Cc (P : Program) (w : World) (K : PySem.W.Frag) (mg : Str → Option Value) (base : Heap) (N : List Str) (x : Str) (st : Stmt) (f : Addr) (cdv : Value) (A : Around) (outer : List PySem.Env) (s : Shared) (H : Hp) (E : XK) : Cx :=
  cxOf (L2N.CX P w) P w K mg base N x (defScope st) f cdv A outer s H E
abbrev WW (E : XK) : WX := fun cls d _ H => E cls d H
/-- a def of the row's top is worth m -/
theorem def_ok {P : Program} {w : World} {K : PySem.W.Frag} {mg : Str → Option Value} {base : Heap} {x : Str} {st : Stmt} {N ps : List Str} {k : Nat} (m : MS) (n : Nat) (I : DefIs K mg x st) (S : FnScope N ps (defScope st)) (hn : ps.length = n)
    (hb : ∀ {f : Addr} {fd : FuncData}, FunD K x x (defArgs st) (defBody st) (defScope st) [] [] f fd → Binds K fd ps [])
    (hbody : ∀ (f : Addr) (cdv : Value) (A : Around) (outer : List PySem.Env) (s : Shared) (H : Hp) (E : XK), Room k (Cc P w K mg base N x st f cdv A outer s H E).A → L2N.Takes (Cc P w K mg base N x st f cdv A outer s H E) (WW E) →
      PassesOwn (model P w) (Cc P w K mg base N x st f cdv A outer s H E).A (Cc P w K mg base N x st f cdv A outer s H E).env (Cc P w K mg base N x st f cdv A outer s H E).xe →
      PB (Cc P w K mg base N x st f cdv A outer s H E) (WW E) n (defBody st) m) : DefOk P w K mg base (k + 1) x n (runB n N.length m) := by
  obtain ⟨f, fd, hm, F⟩ := I.ex
  subst hn
  exact ⟨f, fd, ps, fn_pd m F S (hbody f), hm, F.kp, hb F, rfl⟩
theorem hu {k : Nat} {A : Around} (r : Room k A) : A.units + 64 < cLine := by have := r.un; omega
theorem pb_no {X : Cx} {W : WX} {n : Nat} {st : List Stmt} : PB X W n st (fun _ => .no) := ⟨fun ρ => ⟨fun pins s σ H D I ⟨_, _, h⟩ => h.elim⟩⟩
theorem p1_no {X : Cx} {W : WX} {n : Nat} {st : Stmt} : P1 X W n st (fun _ => .no) := ⟨fun ρ => ⟨fun pins s σ H D I ⟨_, _, h⟩ => h.elim⟩⟩
theorem def_no {P : Program} {w : World} {K : PySem.W.Frag} {mg : Str → Option Value} {base : Heap} {x : Str} {st : Stmt} {N ps : List Str} (n : Nat) (I : DefIs K mg x st) (S : FnScope N ps (defScope st)) (hn : ps.length = n)
    (hb : ∀ {f : Addr} {fd : FuncData}, FunD K x x (defArgs st) (defBody st) (defScope st) [] [] f fd → Binds K fd ps []) : DefOk P w K mg base 1 x n (fun _ => .no) := by
  have h := def_ok (P := P) (w := w) (base := base) (N := N) (ps := ps) (k := 0) (fun _ => Out.no) n I S hn hb fun f cdv A outer s H E hr tk hp => pb_no
  have e : runB n N.length (fun _ => Out.no) = fun _ => Res.no := funext fun ρ => rfl
  rw [e] at h
  exact h
structure Facts (P : Program) (w : World) (K : PySem.W.Frag) (mg : Str → Option Value) (base : Heap) : Prop where
  d_is_name : DefIs K mg "is_name" (top 9)
  d_is_count : DefIs K mg "is_count" (top 10)
  d_run_end : DefIs K mg "run_end" (top 19)
  d_read_constant : DefIs K mg "read_constant" (top 20)
  d_closed : DefIs K mg "closed" (top 21)
  d_read_expression : DefIs K mg "read_expression" (top 22)
  d_parse_expression : DefIs K mg "parse_expression" (top 23)
  d__law_pot : DefIs K mg "_law_pot" (top 25)
  d__law_draw : DefIs K mg "_law_draw" (top 26)
  d__law_choice : DefIs K mg "_law_choice" (top 27)
  d__law_word : DefIs K mg "_law_word" (top 29)
  d__law_tree : DefIs K mg "_law_tree" (top 30)
  d__law_expression : DefIs K mg "_law_expression" (top 31)
  d__law_written : DefIs K mg "_law_written" (top 32)
  d__law_many : DefIs K mg "_law_many" (top 33)
  d__law_deep : DefIs K mg "_law_deep" (top 34)
  d__law_read : DefIs K mg "_law_read" (top 35)
  d__law_read_number : DefIs K mg "_law_read_number" (top 36)
  d__law_read_parts : DefIs K mg "_law_read_parts" (top 37)
  d__law_told : DefIs K mg "_law_told" (top 38)
  d__law_spoilt : DefIs K mg "_law_spoilt" (top 39)
  d__law_same : DefIs K mg "_law_same" (top 40)
  d__law_parts_right : DefIs K mg "_law_parts_right" (top 41)
  d__law_twice_right : DefIs K mg "_law_twice_right" (top 42)
  d__law_tree_right : DefIs K mg "_law_tree_right" (top 43)
  d__law_wide : DefIs K mg "_law_wide" (top 44)
  d__law_sizes_right : DefIs K mg "_law_sizes_right" (top 45)
  d__law_right : DefIs K mg "_law_right" (top 46)
  b_len : mg "len" = none
  b_abs : mg "abs" = none
  b_sum : mg "sum" = none
  b_all : mg "all" = none
  b_any : mg "any" = none
  b_divmod : mg "divmod" = none
  b_max : mg "max" = none
  b_min : mg "min" = none
  b_range : mg "range" = none
  b_isinstance : mg "isinstance" = none
  b_repr : mg "repr" = none
  b_str : mg "str" = none
  b_int : mg "int" = none
  b_tuple : mg "tuple" = none
  b_bool : mg "bool" = none
  b_list : mg "list" = none
  c_MOST_LETTERS : ∃ t, mg "MOST_LETTERS" = some (.int 8 t)
  c_MAX_SIZE : ∃ t, mg "MAX_SIZE" = some (.int 60 t)
  c_MAX_PARTS : ∃ t, mg "MAX_PARTS" = some (.int 2 t)
  c_LETTERS_names : ∃ t, mg "LETTERS_names" = some (.str "abcdefghijklmnopqrstuvwxyz" t)
  c_LETTERS_expressions : ∃ t, mg "LETTERS_expressions" = some (.str "abcdefghijklmnopqrstuvwxyz" t)
  c_DIGITS : ∃ t, mg "DIGITS" = some (.str "0123456789" t)
  e_InvalidText : ExcOk P w K mg base "InvalidText" "line"
  e_InvalidName : ExcOk P w K mg base "InvalidName" "value"
  e_InvalidValue : ExcOk P w K mg base "InvalidValue" "value"
  e_InvalidExpression : ExcOk P w K mg base "InvalidExpression" "value"
end K84
end
section
set_option Elab.async false
set_option linter.all false
set_option maxRecDepth 100000
set_option maxHeartbeats 4000000
namespace K84
open PySem PySem.Spec PyProof.Rows L2 PD
def m_run_end : MS := (mSeq (mWh 100000 (mtAnd (mtV (mOp gLt (mVar 1) (mB gLen (mCons (mVar 0) mNil)))) (mtV (mOp gIn (mOp gIx (mVar 0) (mVar 1)) (mVar 2)))) (mAug 1 (mC (.int 1)))) (mRet (mVar 1)))
theorem sc_run_end : FnScope ["text", "at", "signs"] ["text", "at", "signs"] (defScope (top 19)) := ⟨rfl, rfl, rfl, by decide +kernel, rfl, by decide +kernel, by decide +kernel⟩
def v_run_end : En → Res RV := runB 3 3 m_run_end
theorem ok_run_end {P : Program} {w : World} {K : PySem.W.Frag} {mg : Str → Option Value} {base : Heap} (C : Facts P w K mg base) : DefOk P w K mg base 1 "run_end" 3 v_run_end := by
  have S := sc_run_end
  refine def_ok (N := ["text", "at", "signs"]) m_run_end 3 C.d_run_end S rfl (fun F => F.bindsN fun _ _ _ _ _ _ us hl => match us, hl with | [_, _, _], _ => rfl) fun f cdv A outer s H E hr tk hp => ?_
  exact (pb_cons (p1_while 100000 hp (pxt_w (pxw_and (pxt_cmp ltD (px_var 1) (px_callB lenD C.b_len (pa_c (px_var 0) pa_n))) (pxw_and1 (pxt_cmp inD' (px_ix (px_var 0) (px_var 1)) (px_var 2))))) (pb_one (p1_aug (i := 1) S.nd px_int))) (pb_one (p1_ret (px_var 1))))
def m__law_draw : MS := (mSeq (mIf (mtV (mOp gGt (mIxO 0 (mC (.int 0))) (mC (.int 0)))) (mSeq (mSet (gT [(gSubO 0 (mC (.int 0))), (gN 2)]) (mB gDivmod (mCons (mIxO 0 (mC (.int 0))) (mCons (mVar 1) mNil)))) (mRet (mVar 2))) mNext) (mSeq (mSet (gSubO 0 (mC (.int 1))) (mOp gMod (mOp gAdd (mOp gMul (mIxO 0 (mC (.int 1))) (mC (.int 48271))) (mC (.int 10037))) (mC (.int 2147483587)))) (mRet (mOp gMod (mOp gDiv (mOp gMod (mOp gMul (mIxO 0 (mC (.int 1))) (mIxO 0 (mC (.int 1)))) (mC (.int 2147483563))) (mC (.int 7))) (mVar 1)))))
theorem sc__law_draw : FnScope ["pot", "bound", "digit"] ["pot", "bound"] (defScope (top 26)) := ⟨rfl, rfl, rfl, by decide +kernel, rfl, by decide +kernel, by decide +kernel⟩
def v__law_draw : En → Res RV := runB 2 3 m__law_draw
theorem ok__law_draw {P : Program} {w : World} {K : PySem.W.Frag} {mg : Str → Option Value} {base : Heap} (C : Facts P w K mg base) : DefOk P w K mg base 1 "_law_draw" 2 v__law_draw := by
  have S := sc__law_draw
  refine def_ok (N := ["pot", "bound", "digit"]) m__law_draw 2 C.d__law_draw S rfl (fun F => F.bindsN fun _ _ _ _ _ _ us hl => match us, hl with | [_, _], _ => rfl) fun f cdv A outer s H E hr tk hp => ?_
  exact (pb_cons (p1_if (pxt_cmp gtD (px_ixO px_int (i := 0)) px_int) (pb_cons (p1_asg (px_callB divmodD C.b_divmod (pa_c (px_ixO px_int (i := 0)) (pa_c (px_var 1) pa_n))) (pxg_tup rfl (pxgs_c (pxg_subO (i := 0) px_int) (pxgs_c (pxg_name S.nd) pxgs_n)))) (pb_one (p1_ret (px_var 2)))) pb_nil) (pb_cons (p1_asg (px_op modD (px_op addD (px_op mulD (px_ixO px_int (i := 0)) px_int) px_int) px_int) (pxg_subO (i := 0) px_int)) (pb_one (p1_ret (px_op modD (px_op divD (px_op modD (px_op mulD (px_ixO px_int (i := 0)) (px_ixO px_int (i := 0))) px_int) px_int) (px_var 1))))))
def m__law_choice : MS := (mRet (mOp gIx (mVar 1) (mFnO 2 v__law_draw 0 (mCons (mB gLen (mCons (mVar 1) mNil)) mNil))))
theorem sc__law_choice : FnScope ["pot", "options"] ["pot", "options"] (defScope (top 27)) := ⟨rfl, rfl, rfl, by decide +kernel, rfl, by decide +kernel, by decide +kernel⟩
def v__law_choice : En → Res RV := runB 2 2 m__law_choice
theorem ok__law_choice {P : Program} {w : World} {K : PySem.W.Frag} {mg : Str → Option Value} {base : Heap} (C : Facts P w K mg base) : DefOk P w K mg base 2 "_law_choice" 2 v__law_choice := by
  have S := sc__law_choice
  refine def_ok (N := ["pot", "options"]) m__law_choice 2 C.d__law_choice S rfl (fun F => F.bindsN fun _ _ _ _ _ _ us hl => match us, hl with | [_, _], _ => rfl) fun f cdv A outer s H E hr tk hp => ?_
  exact (pb_one (p1_ret (px_ix (px_var 1) (px_callO (i := 0) ((ok__law_draw C).mono (j := 1) (by omega)) hr tk (pa_c (px_callB lenD C.b_len (pa_c (px_var 1) pa_n)) pa_n)))))
def m__law_pot : MS := (mSeq (mSet (gN 2) (mC (.int 0))) (mSeq (mIf (mtV (mOp gLt (mVar 1) (mB gLen (mCons (mVar 0) mNil)))) (mSet (gN 2) (mB gAbs (mCons (mOp gIx (mVar 0) (mVar 1)) mNil))) mNext) (mRet (mLst (mCons (mB gMax2 (mCons (mC (.int 0)) (mCons (mOp gSub (mVar 2) (mOp gPow (mC (.int 10)) (mC (.int 18)))) mNil))) (mCons (mOp gAdd (mOp gMod (mOp gPow (mOp gAdd (mOp gAdd (mOp gMod (mVar 2) (mC (.int 2147483629))) (mOp gMul (mC (.int 1013)) (mVar 1))) (mC (.int 7))) (mC (.int 3))) (mC (.int 2147483587))) (mC (.int 1))) mNil))))))
theorem sc__law_pot : FnScope ["script", "index", "cell"] ["script", "index"] (defScope (top 25)) := ⟨rfl, rfl, rfl, by decide +kernel, rfl, by decide +kernel, by decide +kernel⟩
def v__law_pot : En → Res RV := runB 2 3 m__law_pot
theorem ok__law_pot {P : Program} {w : World} {K : PySem.W.Frag} {mg : Str → Option Value} {base : Heap} (C : Facts P w K mg base) : DefOk P w K mg base 1 "_law_pot" 2 v__law_pot := by
  have S := sc__law_pot
  refine def_ok (N := ["script", "index", "cell"]) m__law_pot 2 C.d__law_pot S rfl (fun F => F.bindsN fun _ _ _ _ _ _ us hl => match us, hl with | [_, _], _ => rfl) fun f cdv A outer s H E hr tk hp => ?_
  exact (pb_cons (p1_set (i := 2) S.nd px_int) (pb_cons (p1_if (pxt_cmp ltD (px_var 1) (px_callB lenD C.b_len (pa_c (px_var 0) pa_n))) (pb_one (p1_set (i := 2) S.nd (px_callB absD C.b_abs (pa_c (px_ix (px_var 0) (px_var 1)) pa_n)))) pb_nil) (pb_one (p1_ret (px_lst (pa_c (px_callB (max2D rfl) C.b_max (pa_c px_int (pa_c (px_op subD (px_var 2) (px_op powD px_int px_int)) pa_n))) (pa_c (px_op addD (px_op modD (px_op powD (px_op addD (px_op addD (px_op modD (px_var 2) px_int) (px_op mulD px_int (px_var 1))) px_int) px_int) px_int) px_int) pa_n)))))))
def m__law_word : MS := (mSeq (mSet (gN 2) (mC (.str "abcdefghijklmnopqrstuvwxyz"))) (mSeq (mSet (gN 3) (mLst (mCons (mC (.str "sort")) (mCons (mC (.str "cast")) (mCons (mC (.str "version")) (mCons (mC (.str "use")) (mCons (mC (.str "drop")) (mCons (mC (.str "step")) (mCons (mC (.str "regular")) (mCons (mC (.str "add")) (mCons (mC (.str "plus")) (mCons (mC (.str "a")) mNil)))))))))))) (mSeq (mSet (gN 4) (mFnO 2 v__law_choice 0 (mCons (mVar 3) mNil))) (mSeq (mIf (mtV (mOp gGt (mFnO 2 v__law_draw 0 (mCons (mC (.int 3)) mNil)) (mC (.int 0)))) (mSet (gN 4) (mMt "str" gJoin (mC (.str "")) (mCons (mLc (miR1 (mCons (mOp gIx (mLst (mCons (mC (.int 1)) (mCons (mC (.int 2)) (mCons (mC (.int 3)) (mCons (mC (.int 8)) mNil))))) (mFnO 2 v__law_draw 0 (mCons (mC (.int 4)) mNil))) mNil)) 5 mtYes (mOp gIx (mVar 2) (mFnO 2 v__law_draw 0 (mCons (mC (.int 26)) mNil)))) mNil))) mNext) (mSeq (mSet (gN 6) (mLc (miR1 (mCons (mC (.int 78)) mNil)) 7 mtYes (mOp gAdd (mOp gIx (mVar 2) (mOp gMod (mVar 7) (mC (.int 26)))) (mOp gIx (mC (.str "xyz")) (mOp gDiv (mVar 7) (mC (.int 26))))))) (mSeq (mSet (gN 8) (mLc (miL (mVar 6)) 9 (mtV (mOp gNotIn (mVar 9) (mVar 1))) (mVar 9))) (mRet (mIfE (mtV (mOp gNotIn (mVar 4) (mVar 1))) (mVar 4) (mOp gIx (mVar 8) (mC (.int 0)))))))))))
theorem sc__law_word : FnScope ["pot", "taken", "letters", "some", "word", "turn", "spare", "k", "free", "one"] ["pot", "taken"] (defScope (top 29)) := ⟨rfl, rfl, rfl, by decide +kernel, rfl, by decide +kernel, by decide +kernel⟩
def v__law_word : En → Res RV := runB 2 10 m__law_word
theorem ok__law_word {P : Program} {w : World} {K : PySem.W.Frag} {mg : Str → Option Value} {base : Heap} (C : Facts P w K mg base) : DefOk P w K mg base 3 "_law_word" 2 v__law_word := by
  have S := sc__law_word
  refine def_ok (N := ["pot", "taken", "letters", "some", "word", "turn", "spare", "k", "free", "one"]) m__law_word 2 C.d__law_word S rfl (fun F => F.bindsN fun _ _ _ _ _ _ us hl => match us, hl with | [_, _], _ => rfl) fun f cdv A outer s H E hr tk hp => ?_
  exact (pb_cons (p1_set (i := 2) S.nd px_str) (pb_cons (p1_set (i := 3) S.nd (px_lst (pa_c px_str (pa_c px_str (pa_c px_str (pa_c px_str (pa_c px_str (pa_c px_str (pa_c px_str (pa_c px_str (pa_c px_str (pa_c px_str pa_n)))))))))))) (pb_cons (p1_set (i := 4) S.nd (px_callO (i := 0) ((ok__law_choice C).mono (j := 2) (by omega)) hr tk (pa_c (px_var 3) pa_n))) (pb_cons (p1_if (pxt_cmp gtD (px_callO (i := 0) ((ok__law_draw C).mono (j := 1) (by omega)) hr tk (pa_c px_int pa_n)) px_int) (pb_one (p1_set (i := 4) S.nd (px_join px_str (pa_c (px_lc (x := "turn") (i := 5) rfl S.nd (pxi_rng1 C.b_range (pa_c (px_ix (px_lst (pa_c px_int (pa_c px_int (pa_c px_int (pa_c px_int pa_n))))) (px_callO (i := 0) ((ok__law_draw C).mono (j := 1) (by omega)) hr tk (pa_c px_int pa_n))) pa_n)) (blkOk_by rfl) (fun _ _ _ _ _ => pg_name S.nd rfl (by first | exact .inl rfl | exact .inr rfl)) (fun _ _ _ _ _ => (px_ix (px_var 2) (px_callO (i := 0) ((ok__law_draw C).mono (j := 1) (by omega)) hr takesF (pa_c px_int pa_n))))) pa_n)))) pb_nil) (pb_cons (p1_setLc (x := "k") (j := 6) (i := 7) rfl S.nd (pxi_rng1 C.b_range (pa_c px_int pa_n)) (blkOk_by rfl) (fun _ _ _ _ _ => pg_name S.nd rfl (by first | exact .inl rfl | exact .inr rfl)) (fun _ _ _ _ _ => (px_op addD (px_ix (px_var 2) (px_op modD (px_var 7) px_int)) (px_ix px_str (px_op divD (px_var 7) px_int))))) (pb_cons (p1_setLcIf (x := "one") (j := 8) (i := 9) rfl S.nd (pxi_list (px_var 6)) (blkOk_by rfl) (fun _ _ _ _ _ => pg_name S.nd rfl (by first | exact .inl rfl | exact .inr rfl)) (fun _ _ _ _ _ => (pxt_cmp notInD (px_var 9) (px_var 1))) (fun _ _ _ _ _ => (px_var 9))) (pb_one (p1_ret (px_ifE (pxt_cmp notInD (px_var 4) (px_var 1)) (px_var 4) (px_ix (px_var 8) px_int))))))))))
def m__law_tree (v : En → Res RV) : MS := (mSeq (mSet (gN 2) (mFnO 2 v__law_word 0 (mCons (mLst mNil) mNil))) (mSeq (mIf (mtOr (mtV (mOp gEq (mVar 1) (mC (.int 0)))) (mtV (mOp gEq (mFnO 2 v__law_draw 0 (mCons (mC (.int 4)) mNil)) (mC (.int 0))))) (mRet (mTup (mCons (mC (.str "of")) (mCons (mVar 2) (mCons (mFnO 2 v__law_choice 0 (mCons (mLst (mCons (mC (.int 0)) (mCons (mC (.int 1)) (mCons (mC (.int 10)) (mCons (mFnO 2 v__law_draw 0 (mCons (mC (.int 100)) mNil)) (mCons (mFnO 2 v__law_draw 0 (mCons (mOp gPow (mC (.int 10)) (mC (.int 28))) mNil)) mNil)))))) mNil)) mNil))))) mNext) (mRet (mTup (mCons (mC (.str "do")) (mCons (mVar 2) (mCons (mB gTuple (mCons (mLc (miR1 (mCons (mOp gAdd (mC (.int 1)) (mFnO 2 v__law_draw 0 (mCons (mC (.int 2)) mNil))) mNil)) 3 mtYes (mFnO 2 v 0 (mCons (mOp gSub (mVar 1) (mC (.int 1))) mNil))) mNil)) mNil)))))))
theorem sc__law_tree : FnScope ["pot", "depth", "word", "turn"] ["pot", "depth"] (defScope (top 30)) := ⟨rfl, rfl, rfl, by decide +kernel, rfl, by decide +kernel, by decide +kernel⟩
def v__law_tree : Nat → En → Res RV
  | 0 => fun _ => .no
  | d + 1 => runB 2 4 (m__law_tree (v__law_tree d))
theorem st__law_tree {P : Program} {w : World} {K : PySem.W.Frag} {mg : Str → Option Value} {base : Heap} (C : Facts P w K mg base) {v : En → Res RV} {k : Nat} (hk : 3 ≤ k) (ih : DefOk P w K mg base k "_law_tree" 2 v) : DefOk P w K mg base (k + 1) "_law_tree" 2 (runB 2 4 (m__law_tree v)) := by
  have S := sc__law_tree
  refine def_ok (N := ["pot", "depth", "word", "turn"]) (m__law_tree v) 2 C.d__law_tree S rfl (fun F => F.bindsN fun _ _ _ _ _ _ us hl => match us, hl with | [_, _], _ => rfl) fun f cdv A outer s H E hr tk hp => ?_
  exact (pb_cons (p1_set (i := 2) S.nd (px_callO (i := 0) ((ok__law_word C).mono (j := 3) (by omega)) hr tk (pa_c (px_lst pa_n) pa_n))) (pb_cons (p1_if (pxt_w (pxw_or (pxt_cmp (eqD (hu hr)) (px_var 1) px_int) (pxw_or1 (pxt_cmp (eqD (hu hr)) (px_callO (i := 0) ((ok__law_draw C).mono (j := 1) (by omega)) hr tk (pa_c px_int pa_n)) px_int)))) (pb_one (p1_ret (px_tup (pa_c px_str (pa_c (px_var 2) (pa_c (px_callO (i := 0) ((ok__law_choice C).mono (j := 2) (by omega)) hr tk (pa_c (px_lst (pa_c px_int (pa_c px_int (pa_c px_int (pa_c (px_callO (i := 0) ((ok__law_draw C).mono (j := 1) (by omega)) hr tk (pa_c px_int pa_n)) (pa_c (px_callO (i := 0) ((ok__law_draw C).mono (j := 1) (by omega)) hr tk (pa_c (px_op powD px_int px_int) pa_n)) pa_n)))))) pa_n)) pa_n)))))) pb_nil) (pb_one (p1_ret (px_tup (pa_c px_str (pa_c (px_var 2) (pa_c (px_callTy tupleD C.b_tuple (pa_c (px_lc (x := "turn") (i := 3) rfl S.nd (pxi_rng1 C.b_range (pa_c (px_op addD px_int (px_callO (i := 0) ((ok__law_draw C).mono (j := 1) (by omega)) hr tk (pa_c px_int pa_n))) pa_n)) (blkOk_by rfl) (fun _ _ _ _ _ => pg_name S.nd rfl (by first | exact .inl rfl | exact .inr rfl)) (fun _ _ _ _ _ => (px_callO (i := 0) ih hr takesF (pa_c (px_op subD (px_var 1) px_int) pa_n)))) pa_n)) pa_n))))))))
theorem ok__law_tree {P : Program} {w : World} {K : PySem.W.Frag} {mg : Str → Option Value} {base : Heap} (C : Facts P w K mg base) : ∀ d, DefOk P w K mg base (3 + d) "_law_tree" 2 (v__law_tree d)
  | 0 => (def_no (N := ["pot", "depth", "word", "turn"]) 2 C.d__law_tree sc__law_tree rfl (fun F => F.bindsN fun _ _ _ _ _ _ us hl => match us, hl with | [_, _], _ => rfl)).mono (by omega)
  | d + 1 => st__law_tree C (Nat.le_add_right _ _) (ok__law_tree C d)
def m__law_written (v : En → Res RV) : MS := (mSeq (mIf (mtV (mOp gEq (mOp gIx (mVar 0) (mC (.int 0))) (mC (.str "of")))) (mRet (mOp gAdd (mOp gAdd (mOp gIx (mVar 0) (mC (.int 1))) (mC (.str ":"))) (mB gStr (mCons (mOp gIx (mVar 0) (mC (.int 2))) mNil)))) mNext) (mRet (mOp gAdd (mOp gAdd (mOp gAdd (mOp gIx (mVar 0) (mC (.int 1))) (mC (.str "("))) (mMt "str" gJoin (mC (.str ",")) (mCons (mLc (miT (mOp gIx (mVar 0) (mC (.int 2)))) 1 mtYes (mFn 1 v (mCons (mVar 1) mNil))) mNil))) (mC (.str ")")))))
theorem sc__law_written : FnScope ["tree", "part"] ["tree"] (defScope (top 32)) := ⟨rfl, rfl, rfl, by decide +kernel, rfl, by decide +kernel, by decide +kernel⟩
def v__law_written : Nat → En → Res RV
  | 0 => fun _ => .no
  | d + 1 => runB 1 2 (m__law_written (v__law_written d))
theorem st__law_written {P : Program} {w : World} {K : PySem.W.Frag} {mg : Str → Option Value} {base : Heap} (C : Facts P w K mg base) {v : En → Res RV} {k : Nat} (hk : 1 ≤ k) (ih : DefOk P w K mg base k "_law_written" 1 v) : DefOk P w K mg base (k + 1) "_law_written" 1 (runB 1 2 (m__law_written v)) := by
  have S := sc__law_written
  refine def_ok (N := ["tree", "part"]) (m__law_written v) 1 C.d__law_written S rfl (fun F => F.bindsN fun _ _ _ _ _ _ us hl => match us, hl with | [_], _ => rfl) fun f cdv A outer s H E hr tk hp => ?_
  exact (pb_cons (p1_if (pxt_cmp (eqD (hu hr)) (px_ix (px_var 0) px_int) px_str) (pb_one (p1_ret (px_op addD (px_op addD (px_ix (px_var 0) px_int) px_str) (px_callTy strD C.b_str (pa_c (px_ix (px_var 0) px_int) pa_n))))) pb_nil) (pb_one (p1_ret (px_op addD (px_op addD (px_op addD (px_ix (px_var 0) px_int) px_str) (px_join px_str (pa_c (px_lc (x := "part") (i := 1) rfl S.nd (pxi_tup (px_ix (px_var 0) px_int)) (blkOk_by rfl) (fun _ _ _ _ _ => pg_name S.nd rfl (by first | exact .inl rfl | exact .inr rfl)) (fun _ _ _ _ _ => (px_call ih hr takesF (pa_c (px_var 1) pa_n)))) pa_n))) px_str))))
theorem ok__law_written {P : Program} {w : World} {K : PySem.W.Frag} {mg : Str → Option Value} {base : Heap} (C : Facts P w K mg base) : ∀ d, DefOk P w K mg base (1 + d) "_law_written" 1 (v__law_written d)
  | 0 => (def_no (N := ["tree", "part"]) 1 C.d__law_written sc__law_written rfl (fun F => F.bindsN fun _ _ _ _ _ _ us hl => match us, hl with | [_], _ => rfl)).mono (by omega)
  | d + 1 => st__law_written C (Nat.le_add_right _ _) (ok__law_written C d)
def m__law_many (v : En → Res RV) : MS := (mRet (mIfE (mtV (mOp gEq (mOp gIx (mVar 0) (mC (.int 0))) (mC (.str "of")))) (mC (.int 1)) (mOp gAdd (mC (.int 1)) (mB gSum (mCons (mLc (miT (mOp gIx (mVar 0) (mC (.int 2)))) 1 mtYes (mFn 1 v (mCons (mVar 1) mNil))) mNil)))))
theorem sc__law_many : FnScope ["tree", "part"] ["tree"] (defScope (top 33)) := ⟨rfl, rfl, rfl, by decide +kernel, rfl, by decide +kernel, by decide +kernel⟩
def v__law_many : Nat → En → Res RV
  | 0 => fun _ => .no
  | d + 1 => runB 1 2 (m__law_many (v__law_many d))
theorem st__law_many {P : Program} {w : World} {K : PySem.W.Frag} {mg : Str → Option Value} {base : Heap} (C : Facts P w K mg base) {v : En → Res RV} {k : Nat} (hk : 1 ≤ k) (ih : DefOk P w K mg base k "_law_many" 1 v) : DefOk P w K mg base (k + 1) "_law_many" 1 (runB 1 2 (m__law_many v)) := by
  have S := sc__law_many
  refine def_ok (N := ["tree", "part"]) (m__law_many v) 1 C.d__law_many S rfl (fun F => F.bindsN fun _ _ _ _ _ _ us hl => match us, hl with | [_], _ => rfl) fun f cdv A outer s H E hr tk hp => ?_
  exact (pb_one (p1_ret (px_ifE (pxt_cmp (eqD (hu hr)) (px_ix (px_var 0) px_int) px_str) px_int (px_op addD px_int (px_callB (sumD rfl) C.b_sum (pa_c (px_lc (x := "part") (i := 1) rfl S.nd (pxi_tup (px_ix (px_var 0) px_int)) (blkOk_by rfl) (fun _ _ _ _ _ => pg_name S.nd rfl (by first | exact .inl rfl | exact .inr rfl)) (fun _ _ _ _ _ => (px_call ih hr takesF (pa_c (px_var 1) pa_n)))) pa_n))))))
theorem ok__law_many {P : Program} {w : World} {K : PySem.W.Frag} {mg : Str → Option Value} {base : Heap} (C : Facts P w K mg base) : ∀ d, DefOk P w K mg base (1 + d) "_law_many" 1 (v__law_many d)
  | 0 => (def_no (N := ["tree", "part"]) 1 C.d__law_many sc__law_many rfl (fun F => F.bindsN fun _ _ _ _ _ _ us hl => match us, hl with | [_], _ => rfl)).mono (by omega)
  | d + 1 => st__law_many C (Nat.le_add_right _ _) (ok__law_many C d)
def m__law_deep (v : En → Res RV) : MS := (mRet (mIfE (mtV (mOp gEq (mOp gIx (mVar 0) (mC (.int 0))) (mC (.str "of")))) (mC (.int 1)) (mOp gAdd (mC (.int 1)) (mB gMax (mCons (mLc (miT (mOp gIx (mVar 0) (mC (.int 2)))) 1 mtYes (mFn 1 v (mCons (mVar 1) mNil))) mNil)))))
theorem sc__law_deep : FnScope ["tree", "part"] ["tree"] (defScope (top 34)) := ⟨rfl, rfl, rfl, by decide +kernel, rfl, by decide +kernel, by decide +kernel⟩
def v__law_deep : Nat → En → Res RV
  | 0 => fun _ => .no
  | d + 1 => runB 1 2 (m__law_deep (v__law_deep d))
theorem st__law_deep {P : Program} {w : World} {K : PySem.W.Frag} {mg : Str → Option Value} {base : Heap} (C : Facts P w K mg base) {v : En → Res RV} {k : Nat} (hk : 1 ≤ k) (ih : DefOk P w K mg base k "_law_deep" 1 v) : DefOk P w K mg base (k + 1) "_law_deep" 1 (runB 1 2 (m__law_deep v)) := by
  have S := sc__law_deep
  refine def_ok (N := ["tree", "part"]) (m__law_deep v) 1 C.d__law_deep S rfl (fun F => F.bindsN fun _ _ _ _ _ _ us hl => match us, hl with | [_], _ => rfl) fun f cdv A outer s H E hr tk hp => ?_
  exact (pb_one (p1_ret (px_ifE (pxt_cmp (eqD (hu hr)) (px_ix (px_var 0) px_int) px_str) px_int (px_op addD px_int (px_callB (maxD rfl) C.b_max (pa_c (px_lc (x := "part") (i := 1) rfl S.nd (pxi_tup (px_ix (px_var 0) px_int)) (blkOk_by rfl) (fun _ _ _ _ _ => pg_name S.nd rfl (by first | exact .inl rfl | exact .inr rfl)) (fun _ _ _ _ _ => (px_call ih hr takesF (pa_c (px_var 1) pa_n)))) pa_n))))))
theorem ok__law_deep {P : Program} {w : World} {K : PySem.W.Frag} {mg : Str → Option Value} {base : Heap} (C : Facts P w K mg base) : ∀ d, DefOk P w K mg base (1 + d) "_law_deep" 1 (v__law_deep d)
  | 0 => (def_no (N := ["tree", "part"]) 1 C.d__law_deep sc__law_deep rfl (fun F => F.bindsN fun _ _ _ _ _ _ us hl => match us, hl with | [_], _ => rfl)).mono (by omega)
  | d + 1 => st__law_deep C (Nat.le_add_right _ _) (ok__law_deep C d)
def m__law_read_number : MS := (mSeq (mSet (gN 3) (mVar 2)) (mSeq (mWh 100000 (mtAnd (mtV (mOp gLt (mVar 3) (mB gLen (mCons (mVar 0) mNil)))) (mtV (mOp gIn (mOp gIx (mVar 0) (mVar 3)) (mC (.str "0123456789"))))) (mSet (gN 3) (mOp gAdd (mVar 3) (mC (.int 1))))) (mSeq (mSet (gN 4) (mSl (mVar 0) (moS (mVar 2)) (moS (mVar 3)))) (mSeq (mIf (mtOr (mtV (mOp gEq (mVar 4) (mC (.str "")))) (mtAnd (mtV (mOp gEq (mOp gIx (mVar 4) (mC (.int 0))) (mC (.str "0")))) (mtV (mOp gNe (mVar 4) (mC (.str "0")))))) (mRet (mC .non)) mNext) (mRet (mTup (mCons (mTup (mCons (mC (.str "of")) (mCons (mVar 1) (mCons (mB gInt (mCons (mVar 4) mNil)) mNil)))) (mCons (mVar 3) mNil))))))))
theorem sc__law_read_number : FnScope ["text", "word", "at", "end", "digits"] ["text", "word", "at"] (defScope (top 36)) := ⟨rfl, rfl, rfl, by decide +kernel, rfl, by decide +kernel, by decide +kernel⟩
def v__law_read_number : En → Res RV := runB 3 5 m__law_read_number
theorem ok__law_read_number {P : Program} {w : World} {K : PySem.W.Frag} {mg : Str → Option Value} {base : Heap} (C : Facts P w K mg base) : DefOk P w K mg base 1 "_law_read_number" 3 v__law_read_number := by
  have S := sc__law_read_number
  refine def_ok (N := ["text", "word", "at", "end", "digits"]) m__law_read_number 3 C.d__law_read_number S rfl (fun F => F.bindsN fun _ _ _ _ _ _ us hl => match us, hl with | [_, _, _], _ => rfl) fun f cdv A outer s H E hr tk hp => ?_
  exact (pb_cons (p1_set (i := 3) S.nd (px_var 2)) (pb_cons (p1_while 100000 hp (pxt_w (pxw_and (pxt_cmp ltD (px_var 3) (px_callB lenD C.b_len (pa_c (px_var 0) pa_n))) (pxw_and1 (pxt_cmp inD' (px_ix (px_var 0) (px_var 3)) px_str)))) (pb_one (p1_set (i := 3) S.nd (px_op addD (px_var 3) px_int)))) (pb_cons (p1_set (i := 4) S.nd (px_sl (px_var 0) (pxo_s (px_var 2)) (pxo_s (px_var 3)))) (pb_cons (p1_if (pxt_w (pxw_or (pxt_cmp (eqD (hu hr)) (px_var 4) px_str) (pxw_or1 (pxt_w (pxw_and (pxt_cmp (eqD (hu hr)) (px_ix (px_var 4) px_int) px_str) (pxw_and1 (pxt_cmp (neD (hu hr)) (px_var 4) px_str))))))) (pb_one (p1_ret px_non)) pb_nil) (pb_one (p1_ret (px_tup (pa_c (px_tup (pa_c px_str (pa_c (px_var 1) (pa_c (px_callTy intD C.b_int (pa_c (px_var 4) pa_n)) pa_n)))) (pa_c (px_var 3) pa_n)))))))))
def m__law_spoilt : MS := (mSeq (mFor (miR1 (mCons (mOp gAdd (mC (.int 1)) (mFnO 2 v__law_draw 0 (mCons (mC (.int 2)) mNil))) mNil)) (gN 2) (mSeq (mPar 3 4 (mCons (mFnO 2 v__law_draw 0 (mCons (mOp gAdd (mB gLen (mCons (mVar 1) mNil)) (mC (.int 1))) mNil)) (mCons (mFnO 2 v__law_draw 0 (mCons (mC (.int 3)) mNil)) mNil))) (mSeq (mSet (gN 5) (mOp gIx (mC (.str "abz:(),019 -_A\n")) (mFnO 2 v__law_draw 0 (mCons (mC (.int 15)) mNil)))) (mSet (gN 1) (mOp gIx (mLst (mCons (mOp gAdd (mSl (mVar 1) moN (moS (mVar 3))) (mSl (mVar 1) (moS (mOp gAdd (mVar 3) (mC (.int 1)))) moN)) (mCons (mOp gAdd (mOp gAdd (mSl (mVar 1) moN (moS (mVar 3))) (mVar 5)) (mSl (mVar 1) (moS (mVar 3)) moN)) (mCons (mOp gAdd (mOp gAdd (mSl (mVar 1) moN (moS (mVar 3))) (mVar 5)) (mSl (mVar 1) (moS (mOp gAdd (mVar 3) (mC (.int 1)))) moN)) mNil)))) (mVar 4)))))) (mRet (mVar 1)))
theorem sc__law_spoilt : FnScope ["pot", "text", "turn", "at", "way", "sign"] ["pot", "text"] (defScope (top 39)) := ⟨rfl, rfl, rfl, by decide +kernel, rfl, by decide +kernel, by decide +kernel⟩
def v__law_spoilt : En → Res RV := runB 2 6 m__law_spoilt
theorem ok__law_spoilt {P : Program} {w : World} {K : PySem.W.Frag} {mg : Str → Option Value} {base : Heap} (C : Facts P w K mg base) : DefOk P w K mg base 2 "_law_spoilt" 2 v__law_spoilt := by
  have S := sc__law_spoilt
  refine def_ok (N := ["pot", "text", "turn", "at", "way", "sign"]) m__law_spoilt 2 C.d__law_spoilt S rfl (fun F => F.bindsN fun _ _ _ _ _ _ us hl => match us, hl with | [_, _], _ => rfl) fun f cdv A outer s H E hr tk hp => ?_
  exact (pb_cons (p1_for hp rfl (pxi_rng1 C.b_range (pa_c (px_op addD px_int (px_callO (i := 0) ((ok__law_draw C).mono (j := 1) (by omega)) hr tk (pa_c px_int pa_n))) pa_n)) (pxg_name S.nd) (pb_cons (p1_par (i := 3) (j := 4) rfl S.nd (pa_c (px_callO (i := 0) ((ok__law_draw C).mono (j := 1) (by omega)) hr tk (pa_c (px_op addD (px_callB lenD C.b_len (pa_c (px_var 1) pa_n)) px_int) pa_n)) (pa_c (px_callO (i := 0) ((ok__law_draw C).mono (j := 1) (by omega)) hr tk (pa_c px_int pa_n)) pa_n))) (pb_cons (p1_set (i := 5) S.nd (px_ix px_str (px_callO (i := 0) ((ok__law_draw C).mono (j := 1) (by omega)) hr tk (pa_c px_int pa_n)))) (pb_one (p1_set (i := 1) S.nd (px_ix (px_lst (pa_c (px_op addD (px_sl (px_var 1) pxo_n (pxo_s (px_var 3))) (px_sl (px_var 1) (pxo_s (px_op addD (px_var 3) px_int)) pxo_n)) (pa_c (px_op addD (px_op addD (px_sl (px_var 1) pxo_n (pxo_s (px_var 3))) (px_var 5)) (px_sl (px_var 1) (pxo_s (px_var 3)) pxo_n)) (pa_c (px_op addD (px_op addD (px_sl (px_var 1) pxo_n (pxo_s (px_var 3))) (px_var 5)) (px_sl (px_var 1) (pxo_s (px_op addD (px_var 3) px_int)) pxo_n)) pa_n)))) (px_var 4))))))) (pb_one (p1_ret (px_var 1))))
end K84
end
section
set_option Elab.async false
set_option linter.all false
set_option maxRecDepth 100000
set_option maxHeartbeats 4000000
namespace K84
open PySem PySem.Spec PyProof.Rows L2 PD
def cls : List Str := ["Constant", "Application"]
def kinds : List String := ["NoneType", "bool", "int", "str", "list", "tuple", "dict"]
def sub (i j : Nat) : Stmt := match top i with
  | .ClassDef _ _ _ b _ _ _ _ _ _ _ => b.getD j (.Pass ⟨0, 0, 0, 0⟩)
  | _ => .Pass ⟨0, 0, 0, 0⟩
/-! ### isinstance -/
def tkI (T a : String) : Option Bool := if kinds.contains a then some (a == T || (T == "int" && a == "bool")) else none
def tcI (b : Bool) (c : Str) : Option Bool := if cls.contains c then some b else none
def gIsT (T : String) : D → Option RV := gIsi (tkI T) (tcI false)
def gIsE : D → Option RV := gIsi (fun a => if kinds.contains a then some false else none) (tcI true)
structure IsiF (K : PySem.W.Frag) (mg : Str → Option Value) : Prop where
  io : ∀ c, cls.contains c = true → IsiOk K c
  kt : ∀ c, cls.contains c = true → ∀ T ∈ ["str", "int", "bool"], PySem.W.kitOne K (.ref (He.ga K c)) (.type T) = some false
  ke : ∀ a, kinds.contains a = true → PySem.W.kitOne K (.type a) (.ref (He.ga K "Expression")) = some false
  kc : ∀ c, cls.contains c = true → PySem.W.kitOne K (.ref (He.ga K c)) (.ref (He.ga K "Expression")) = some true
  gl : mg "Expression" = some (.ref (He.ga K "Expression"))
  bi : mg "isinstance" = none
section
variable {X : Cx} {W : WX} {e : Expr} {m : M} {p p2 pos : Pos}
theorem tkI_ok {K : PySem.W.Frag} {T : String} (h : kinds.all (fun a => kitB a T == some (a == T || (T == "int" && a == "bool"))) = true) (a : String) (b : Bool) (q : tkI T a = some b) : PySem.W.kitOne K (.type a) (.type T) = some b := by
  unfold tkI at q
  by_cases c : kinds.contains a = true
  · rw [if_pos c] at q
    cases q
    have hm : a ∈ kinds := List.contains_iff_mem.mp c
    exact kit_ty (eq_of_beq (List.all_eq_true.mp h a hm))
  · rw [if_neg c] at q; cases q
theorem tcI_ok {b : Bool} {P : Str → Prop} (h : ∀ c, cls.contains c = true → P c) (c : Str) (r : Bool) (q : tcI b c = some r) : r = b ∧ P c := by
  unfold tcI at q
  by_cases k : cls.contains c = true
  · rw [if_pos k] at q; cases q; exact ⟨rfl, h c k⟩
  · rw [if_neg k] at q; cases q
theorem px_isT (T : String) {x : Str} (J : IsiF X.K X.mg) (hT : T ∈ ["str", "int", "bool"]) (he : PX X W e m) (hm : X.mg x = none) (hv : bootBuiltins x = some (.type T) := by decide +kernel) (hx : Gl X x := by rfl)
    (hall : kinds.all (fun a => kitB a T == some (a == T || (T == "int" && a == "bool"))) = true := by decide +kernel) (hn : x ≠ "__name__" := by decide) (hdb : (x == ("__debug__" : Str)) = false := by decide)
    (hg : Gl X "isinstance" := by rfl) (hs : starEach [e, .Name x p2] X.env = (false, eval e X.env) :: starEach [.Name x p2] X.env := by rfl) (hs2 : starEach [.Name x p2] X.env = (false, eval (.Name x p2) X.env) :: starEach [] X.env := by rfl)
    (hpl : (backTo pos (starEach [.Name x p2] X.env)).any (·.1) = false := by rfl) : PX X W (.Call (.Name "isinstance" p) [e, .Name x p2] [] pos) (mUn (gIsT T) m) :=
  px_isi (c := .ty T) (cv := .type T) J.bi he (pe_bltn hx hm hv rfl hn hdb) (.ty T) (fun a b q => tkI_ok hall a b q)
    (fun c b q => let ⟨h1, h2, h3⟩ := tcI_ok (P := fun c => IsiOk X.K c ∧ PySem.W.kitOne X.K (.ref (He.ga X.K c)) (.type T) = some false) (fun c hc => ⟨J.io c hc, J.kt c hc T hT⟩) c b q; ⟨h2, by rw [h1]; exact h3⟩) hg hs hs2 hpl
theorem px_isE (J : IsiF X.K X.mg) (he : PX X W e m) (hx : Gl X "Expression" := by rfl)
    (hg : Gl X "isinstance" := by rfl) (hs : starEach [e, .Name "Expression" p2] X.env = (false, eval e X.env) :: starEach [.Name "Expression" p2] X.env := by rfl) (hs2 : starEach [.Name "Expression" p2] X.env = (false, eval (.Name "Expression" p2) X.env) :: starEach [] X.env := by rfl)
    (hpl : (backTo pos (starEach [.Name "Expression" p2] X.env)).any (·.1) = false := by rfl) : PX X W (.Call (.Name "isinstance" p) [e, .Name "Expression" p2] [] pos) (mUn gIsE m) :=
  px_isi (c := .ref (He.ga X.K "Expression")) (cv := .ref (He.ga X.K "Expression")) J.bi he (pe_glob hx J.gl rfl (by decide)) (.own _)
    (fun a b q => by
      by_cases c : kinds.contains a = true
      · rw [if_pos c] at q; cases q; exact J.ke a c
      · rw [if_neg c] at q; cases q)
    (fun c b q => let ⟨h1, h2, h3⟩ := tcI_ok (P := fun c => IsiOk X.K c ∧ PySem.W.kitOne X.K (.ref (He.ga X.K c)) (.ref (He.ga X.K "Expression")) = some true) (fun c hc => ⟨J.io c hc, J.kc c hc⟩) c b q; ⟨h2, by rw [h1]; exact h3⟩) hg hs hs2 hpl
end
/-! ### methods -/
abbrev Cq (P : Program) (w : World) (K : PySem.W.Frag) (mg : Str → Option Value) (base : Heap) (N : List Str) (qual : Str) (st : Stmt) (f : Addr) (cdv : Value) (A : Around) (outer : List PySem.Env) (s : Shared) (H : Hp) (E : XK) : Cx :=
  cxOf (L2N.CX P w) P w K mg base N qual (defScope st) f cdv A outer s H E
structure MIs (K : PySem.W.Frag) (cs : List Str) (name qual : Str) (st : Stmt) : Prop where
  ex : ∃ g fd, FunD K name qual (defArgs st) (defBody st) (defScope st) [] [] g fd ∧ PySem.W.isFn K (.ref g) = true ∧ ∀ c, cs.contains c = true → Meth K (He.ga K c) name g
section
variable {P : Program} {w : World} {K : PySem.W.Frag} {mg : Str → Option Value} {base : Heap}
theorem fnR_of {CX : CXT} {k : Nat} {f : Addr} {fd : FuncData} {ps : List Str} {sp : Sp} (F : FnOk P w K mg base CX k f fd ps sp) (hb : Binds K fd ps []) : FnR P w K mg base CX k f sp :=
  (F.raw (dvs := []) hb .nil).imp fun vs H Q E h => by rw [List.append_nil]; exact h
theorem fn_meth {name qual : Str} {st : Stmt} {N ps : List Str} {k n : Nat} {g : Addr} {fd : FuncData} (m : MS) (F : FunD K name qual (defArgs st) (defBody st) (defScope st) [] [] g fd) (S : FnScope N ps (defScope st)) (hn : ps.length = n)
    (hb : ∀ {f : Addr} {fd : FuncData}, FunD K name qual (defArgs st) (defBody st) (defScope st) [] [] f fd → Binds K fd ps [])
    (hbody : ∀ (f : Addr) (cdv : Value) (A : Around) (outer : List PySem.Env) (s : Shared) (H : Hp) (E : XK), Room k (Cq P w K mg base N qual st f cdv A outer s H E).A → L2N.Takes (Cq P w K mg base N qual st f cdv A outer s H E) (WW E) →
      PassesOwn (model P w) (Cq P w K mg base N qual st f cdv A outer s H E).A (Cq P w K mg base N qual st f cdv A outer s H E).env (Cq P w K mg base N qual st f cdv A outer s H E).xe →
      PB (Cq P w K mg base N qual st f cdv A outer s H E) (WW E) n (defBody st) m) : FnR P w K mg base (L2N.CX P w) (k + 1) g (spF K n (runB n N.length m)) := by
  subst hn
  exact fnR_of (fn_pd m F S (hbody g)) (hb F)
theorem meth_ok {cs : List Str} {name qual : Str} {st : Stmt} {N ps : List Str} {k : Nat} (m : MS) (n : Nat) (I : MIs K cs name qual st) (hc : ∀ c, cs.contains c = true → Cls K (He.ga K c)) (S : FnScope N ps (defScope st)) (hn : ps.length = n)
    (hb : ∀ {f : Addr} {fd : FuncData}, FunD K name qual (defArgs st) (defBody st) (defScope st) [] [] f fd → Binds K fd ps [])
    (hbody : ∀ (f : Addr) (cdv : Value) (A : Around) (outer : List PySem.Env) (s : Shared) (H : Hp) (E : XK), Room k (Cq P w K mg base N qual st f cdv A outer s H E).A → L2N.Takes (Cq P w K mg base N qual st f cdv A outer s H E) (WW E) →
      PassesOwn (model P w) (Cq P w K mg base N qual st f cdv A outer s H E).A (Cq P w K mg base N qual st f cdv A outer s H E).env (Cq P w K mg base N qual st f cdv A outer s H E).xe →
      PB (Cq P w K mg base N qual st f cdv A outer s H E) (WW E) n (defBody st) m) : MethOk P w K mg base (k + 1) cs name (lenF n (runB n N.length m)) := by
  obtain ⟨g, fd, F, hi, hM⟩ := I.ex
  exact ⟨fun c h => ⟨hc c h, g, hM c h, (fn_meth m F S hn hb hbody).imp fun vs H Q E z => spV_len z⟩⟩
end
end K84
end
section
set_option Elab.async false
set_option linter.all false
set_option maxRecDepth 100000
set_option maxHeartbeats 4000000
namespace K84
open PySem PySem.Spec PyProof.Rows L2 PD
def fields : List Str := ["own_parts", "own_text", "own_size", "own_depth", "own_type", "own_number", "own_operator"]
structure KF (P : Program) (w : World) (K : PySem.W.Frag) (mg : Str → Option Value) (base : Heap) : Prop extends Facts P w K mg base where
  j : IsiF K mg
  fo : ∀ f ∈ fields, ∀ c, cls.contains c = true → FldOk K c f
  m_size : MIs K cls "size" "Expression.size" (sub 16 2)
  m_depth : MIs K cls "depth" "Expression.depth" (sub 16 3)
  m_parts : MIs K cls "parts" "Expression.parts" (sub 16 1)
  m_str : MIs K cls "__str__" "Expression.__str__" (sub 16 4)
  m_repr : MIs K cls "__repr__" "Expression.__repr__" (sub 16 5)
  m_eq : MIs K cls "__eq__" "Expression.__eq__" (sub 16 6)
theorem KF.cl {P : Program} {w : World} {K : PySem.W.Frag} {mg : Str → Option Value} {base : Heap} (C : KF P w K mg base) : ∀ c, cls.contains c = true → Cls K (He.ga K c) := fun c h => (C.fo "own_text" (by decide) c h).cl
def m_Expression_size : MS := (mRet (mUn (gFld cls "own_size") (mVar 0)))
theorem sc_Expression_size : FnScope ["self"] ["self"] (defScope (sub 16 2)) := ⟨rfl, rfl, rfl, by decide +kernel, rfl, by decide +kernel, by decide +kernel⟩
def v_Expression_size : En → Res RV := lenF 1 (runB 1 1 m_Expression_size)
theorem ok_Expression_size {P : Program} {w : World} {K : PySem.W.Frag} {mg : Str → Option Value} {base : Heap} (C : KF P w K mg base) : MethOk P w K mg base 1 cls "size" v_Expression_size := by
  have S := sc_Expression_size
  refine meth_ok (N := ["self"]) (qual := "Expression.size") m_Expression_size 1 C.m_size C.cl S rfl (fun F => F.bindsN fun _ _ _ _ _ _ us hl => match us, hl with | [_], _ => rfl) fun f cdv A outer s H E hr tk hp => ?_
  exact (pb_one (p1_ret (px_fld (px_var 0) (C.fo "own_size" (by decide)))))
def m_Expression_depth : MS := (mRet (mUn (gFld cls "own_depth") (mVar 0)))
theorem sc_Expression_depth : FnScope ["self"] ["self"] (defScope (sub 16 3)) := ⟨rfl, rfl, rfl, by decide +kernel, rfl, by decide +kernel, by decide +kernel⟩
def v_Expression_depth : En → Res RV := lenF 1 (runB 1 1 m_Expression_depth)
theorem ok_Expression_depth {P : Program} {w : World} {K : PySem.W.Frag} {mg : Str → Option Value} {base : Heap} (C : KF P w K mg base) : MethOk P w K mg base 1 cls "depth" v_Expression_depth := by
  have S := sc_Expression_depth
  refine meth_ok (N := ["self"]) (qual := "Expression.depth") m_Expression_depth 1 C.m_depth C.cl S rfl (fun F => F.bindsN fun _ _ _ _ _ _ us hl => match us, hl with | [_], _ => rfl) fun f cdv A outer s H E hr tk hp => ?_
  exact (pb_one (p1_ret (px_fld (px_var 0) (C.fo "own_depth" (by decide)))))
def m_Expression_parts : MS := (mRet (mB gList (mCons (mUn (gFld cls "own_parts") (mVar 0)) mNil)))
theorem sc_Expression_parts : FnScope ["self"] ["self"] (defScope (sub 16 1)) := ⟨rfl, rfl, rfl, by decide +kernel, rfl, by decide +kernel, by decide +kernel⟩
def v_Expression_parts : En → Res RV := lenF 1 (runB 1 1 m_Expression_parts)
theorem ok_Expression_parts {P : Program} {w : World} {K : PySem.W.Frag} {mg : Str → Option Value} {base : Heap} (C : KF P w K mg base) : MethOk P w K mg base 1 cls "parts" v_Expression_parts := by
  have S := sc_Expression_parts
  refine meth_ok (N := ["self"]) (qual := "Expression.parts") m_Expression_parts 1 C.m_parts C.cl S rfl (fun F => F.bindsN fun _ _ _ _ _ _ us hl => match us, hl with | [_], _ => rfl) fun f cdv A outer s H E hr tk hp => ?_
  exact (pb_one (p1_ret (px_callTy listD C.b_list (pa_c (px_fld (px_var 0) (C.fo "own_parts" (by decide))) pa_n))))
def m_Expression___str__ : MS := (mRet (mUn gFmt (mUn (gFld cls "own_text") (mVar 0))))
theorem sc_Expression___str__ : FnScope ["self"] ["self"] (defScope (sub 16 4)) := ⟨rfl, rfl, rfl, by decide +kernel, rfl, by decide +kernel, by decide +kernel⟩
def v_Expression___str__ : En → Res RV := lenF 1 (runB 1 1 m_Expression___str__)
theorem ok_Expression___str__ {P : Program} {w : World} {K : PySem.W.Frag} {mg : Str → Option Value} {base : Heap} (C : KF P w K mg base) : MethOk P w K mg base 1 cls "__str__" v_Expression___str__ := by
  have S := sc_Expression___str__
  refine meth_ok (N := ["self"]) (qual := "Expression.__str__") m_Expression___str__ 1 C.m_str C.cl S rfl (fun F => F.bindsN fun _ _ _ _ _ _ us hl => match us, hl with | [_], _ => rfl) fun f cdv A outer s H E hr tk hp => ?_
  exact (pb_one (p1_ret (px_joined1 (px_fmt (px_fld (px_var 0) (C.fo "own_text" (by decide)))))))
def m_Expression___repr__ : MS := (mRet (mJ [(mC (.str "Expression(")), (mUn gFmtR (mUn (gFld cls "own_text") (mVar 0))), (mC (.str ")"))]))
theorem sc_Expression___repr__ : FnScope ["self"] ["self"] (defScope (sub 16 5)) := ⟨rfl, rfl, rfl, by decide +kernel, rfl, by decide +kernel, by decide +kernel⟩
def v_Expression___repr__ : En → Res RV := lenF 1 (runB 1 1 m_Expression___repr__)
theorem ok_Expression___repr__ {P : Program} {w : World} {K : PySem.W.Frag} {mg : Str → Option Value} {base : Heap} (C : KF P w K mg base) : MethOk P w K mg base 1 cls "__repr__" v_Expression___repr__ := by
  have S := sc_Expression___repr__
  refine meth_ok (N := ["self"]) (qual := "Expression.__repr__") m_Expression___repr__ 1 C.m_repr C.cl S rfl (fun F => F.bindsN fun _ _ _ _ _ _ us hl => match us, hl with | [_], _ => rfl) fun f cdv A outer s H E hr tk hp => ?_
  exact (pb_one (p1_ret (px_joined (.cons px_str (.cons (px_fmtR (px_fld (px_var 0) (C.fo "own_text" (by decide)))) (.cons px_str .nil))))))
def m_Expression___eq__ : MS := (mRet (mAnd (mUn gIsE (mVar 1)) (mOp gEq (mUn (gFld cls "own_text") (mVar 0)) (mUn (gFld cls "own_text") (mVar 1)))))
theorem sc_Expression___eq__ : FnScope ["self", "other"] ["self", "other"] (defScope (sub 16 6)) := ⟨rfl, rfl, rfl, by decide +kernel, rfl, by decide +kernel, by decide +kernel⟩
def v_Expression___eq__ : En → Res RV := lenF 2 (runB 2 2 m_Expression___eq__)
theorem ok_Expression___eq__ {P : Program} {w : World} {K : PySem.W.Frag} {mg : Str → Option Value} {base : Heap} (C : KF P w K mg base) : MethOk P w K mg base 1 cls "__eq__" v_Expression___eq__ := by
  have S := sc_Expression___eq__
  refine meth_ok (N := ["self", "other"]) (qual := "Expression.__eq__") m_Expression___eq__ 2 C.m_eq C.cl S rfl (fun F => F.bindsN fun _ _ _ _ _ _ us hl => match us, hl with | [_, _], _ => rfl) fun f cdv A outer s H E hr tk hp => ?_
  exact (pb_one (p1_ret (px_and (px_isE C.j (px_var 1)) (px_one (px_cmp (eqD (hu hr)) (px_fld (px_var 0) (C.fo "own_text" (by decide))) (px_fld (px_var 1) (C.fo "own_text" (by decide))))))))
def m_is_name : MS := (mSeq (mIf (mtOr (mtNot (mtV (mUn (gIsT "str") (mVar 0)))) (mtNot (mtV (mChain gLe gLe (mC (.int 1)) (mB gLen (mCons (mVar 0) mNil)) (mC (.int 8)))))) (mRet (mC (.bl false))) mNext) (mRet (mB gAll (mCons (mLc (miS (mVar 0)) 1 mtYes (mOp gIn (mVar 1) (mC (.str "abcdefghijklmnopqrstuvwxyz")))) mNil))))
theorem sc_is_name : FnScope ["value", "letter"] ["value"] (defScope (top 9)) := ⟨rfl, rfl, rfl, by decide +kernel, rfl, by decide +kernel, by decide +kernel⟩
def v_is_name : En → Res RV := runB 1 2 m_is_name
theorem ok_is_name {P : Program} {w : World} {K : PySem.W.Frag} {mg : Str → Option Value} {base : Heap} (C : KF P w K mg base) : DefOk P w K mg base 1 "is_name" 1 v_is_name := by
  have S := sc_is_name
  refine def_ok (N := ["value", "letter"]) m_is_name 1 C.d_is_name S rfl (fun F => F.bindsN fun _ _ _ _ _ _ us hl => match us, hl with | [_], _ => rfl) fun f cdv A outer s H E hr tk hp => ?_
  exact (pb_cons (p1_if (pxt_w (pxw_or (pxt_not (pxt_val (px_isT "str" C.j (by decide) (px_var 0) C.b_str))) (pxw_or1 (pxt_not (pxt_chain leD leD px_int (px_callB lenD C.b_len (pa_c (px_var 0) pa_n)) (px_gint C.c_MOST_LETTERS)))))) (pb_one (p1_ret px_bl)) pb_nil) (pb_one (p1_ret (px_callB (allD rfl) C.b_all (pa_c (px_lc (x := "letter") (i := 1) rfl S.nd (pxi_str (px_var 0)) (blkOk_by rfl) (fun _ _ _ _ _ => pg_name S.nd rfl (by first | exact .inl rfl | exact .inr rfl)) (fun _ _ _ _ _ => (px_cmp inD' (px_var 1) (px_gstr C.c_LETTERS_names)))) pa_n)))))
def m_is_count : MS := (mRet (mAnd (mUn (gIsT "int") (mVar 0)) (mAnd (mUn gNot (mUn (gIsT "bool") (mVar 0))) (mOp gGe (mVar 0) (mC (.int 0))))))
theorem sc_is_count : FnScope ["value"] ["value"] (defScope (top 10)) := ⟨rfl, rfl, rfl, by decide +kernel, rfl, by decide +kernel, by decide +kernel⟩
def v_is_count : En → Res RV := runB 1 1 m_is_count
theorem ok_is_count {P : Program} {w : World} {K : PySem.W.Frag} {mg : Str → Option Value} {base : Heap} (C : KF P w K mg base) : DefOk P w K mg base 1 "is_count" 1 v_is_count := by
  have S := sc_is_count
  refine def_ok (N := ["value"]) m_is_count 1 C.d_is_count S rfl (fun F => F.bindsN fun _ _ _ _ _ _ us hl => match us, hl with | [_], _ => rfl) fun f cdv A outer s H E hr tk hp => ?_
  exact (pb_one (p1_ret (px_and (px_isT "int" C.j (by decide) (px_var 0) C.b_int) (px_and (px_not (px_isT "bool" C.j (by decide) (px_var 0) C.b_bool)) (px_one (px_cmp geD (px_var 0) px_int))))))
end K84
end
section
set_option Elab.async false
set_option linter.all false
set_option maxRecDepth 100000
set_option maxHeartbeats 4000000
namespace K84
open PySem PySem.Spec PyProof.Rows L2 PD NdefX ClX
def m_einit (c : Str) : MS := (mSeq (mSetF c "own_parts" 0 (mB gList (mCons (mVar 1) mNil))) (mSeq (mSetF c "own_text" 0 (mVar 2)) (mSeq (mSetF c "own_size" 0 (mOp gAdd (mC (.int 1)) (mB gSum (mCons (mLc (miL (mFldO c "own_parts" 0)) 3 mtYes (mMeth cls "size" v_Expression_size (mVar 3) mNil)) mNil)))) (mSetF c "own_depth" 0 (mOp gAdd (mC (.int 1)) (mB (gMaxD 0) (mCons (mLc (miL (mFldO c "own_parts" 0)) 3 mtYes (mMeth cls "depth" v_Expression_depth (mVar 3) mNil)) mNil)))))))
theorem sc_einit : FnScope ["self", "parts", "text", "part"] ["self", "parts", "text"] (defScope (sub 16 0)) := ⟨rfl, rfl, rfl, by decide +kernel, rfl, by decide +kernel, by decide +kernel⟩
def v_einit (c : Str) : En → Res RV := runB 3 4 (m_einit c)
theorem fn_einit {P : Program} {w : World} {K : PySem.W.Frag} {mg : Str → Option Value} {base : Heap} (C : KF P w K mg base) {g : Addr} {fd : FuncData} (FE : FunD K "__init__" "Expression.__init__" (defArgs (sub 16 0)) (defBody (sub 16 0)) (defScope (sub 16 0)) [] [] g fd) (c : Str) (hc : cls.contains c = true) : FnR P w K mg base (L2N.CX P w) 2 g (spF K 3 (v_einit c)) := by
  have S := sc_einit
  have fo : ∀ f ∈ fields, FldOk K c f := fun f hf => C.fo f hf c hc
  refine fn_meth (k := 1) (N := ["self", "parts", "text", "part"]) (n := 3) (m_einit c) FE S rfl (fun F => F.bindsN fun _ _ _ _ _ _ us hl => match us, hl with | [_, _, _], _ => rfl) fun f cdv A outer s H E hr tk hp => ?_
  exact (pb_cons (p1_setF (i := 0) (px_callTy listD C.b_list (pa_c (px_var 1) pa_n)) (fo "own_parts" (by decide))) (pb_cons (p1_setF (i := 0) (px_var 2) (fo "own_text" (by decide))) (pb_cons (p1_setF (i := 0) (px_op addD px_int (px_callB (sumD rfl) C.b_sum (pa_c (px_lc (x := "part") (i := 3) rfl S.nd (pxi_list (px_fldO (fo "own_parts" (by decide)) (i := 0))) (blkOk_by rfl) (fun _ _ _ _ _ => pg_name S.nd rfl (by first | exact .inl rfl | exact .inr rfl)) (fun _ _ _ _ _ => (px_meth0 ((ok_Expression_size C).mono (by omega)) hr takesF (px_var 3)))) pa_n))) (fo "own_size" (by decide))) (pb_one (p1_setF (i := 0) (px_op addD px_int (px_maxD rfl C.b_max (pa_c (px_lc (x := "part") (i := 3) rfl S.nd (pxi_list (px_fldO (fo "own_parts" (by decide)) (i := 0))) (blkOk_by rfl) (fun _ _ _ _ _ => pg_name S.nd rfl (by first | exact .inl rfl | exact .inr rfl)) (fun _ _ _ _ _ => (px_meth0 ((ok_Expression_depth C).mono (by omega)) hr takesF (px_var 3)))) pa_n))) (fo "own_depth" (by decide)))))))
def m_init_Constant : MS := (mSeq (mIf (mtNot (mtV (mFn 1 v_is_name (mCons (mVar 1) mNil)))) (mRaise "InvalidName" "value" (mVar 1)) mNext) (mSeq (mIf (mtNot (mtV (mFn 1 v_is_count (mCons (mVar 2) mNil)))) (mRaise "InvalidValue" "value" (mVar 2)) mNext) (mSeq (mDrop (mSup "Constant" 3 (v_einit "Constant") (mCons (mLst mNil) (mCons (mJ [(mUn gFmt (mVar 1)), (mC (.str ":")), (mUn gFmt (mVar 2))]) mNil)))) (mSeq (mSetF "Constant" "own_type" 0 (mVar 1)) (mSetF "Constant" "own_number" 0 (mVar 2))))))
theorem ns_Constant : NScope ["self", "type_name", "number", "__class__"] ["self", "type_name", "number"] ["__class__"] (defScope (sub 17 0)) := nscope_by (by decide +kernel)
def v_init_Constant : En → Res RV := lenF 3 (runB 3 4 m_init_Constant)
theorem fn_init_Constant {P : Program} {w : World} {K : PySem.W.Frag} {mg : Str → Option Value} {base : Heap} (C : KF P w K mg base) {g f cc cda : Addr} {ar : Arg} {fd : FuncData} (FE : FunD K "__init__" "Expression.__init__" (defArgs (sub 16 0)) (defBody (sub 16 0)) (defScope (sub 16 0)) [] [] g fd)
    (T : KFn P K mg ["self", "type_name", "number", "__class__"] "__init__" "Constant.__init__" "Constant" (defArgs (sub 17 0)) (defBody (sub 17 0)) (defScope (sub 17 0)) cc cda f g ar) : FnR P w K mg base (L2N.CX P w) 4 f (spV K v_init_Constant) := by
  have S := ns_Constant
  have fo : ∀ f ∈ fields, FldOk K "Constant" f := fun f hf => C.fo f hf "Constant" (by decide)
  refine (fnk_pd (ps := ["self", "type_name", "number"]) (k := 3) m_init_Constant T S (fun dV kV doc pm an ct us hd hl => by subst hd; exact match us, hl with | [_, _, _], _ => rfl) fun A outer s H E hr tk hp => ?_).imp fun vs H Q E z => spV_len z
  exact (pba_cons (P1.at_ (p1_if (pxt_not (pxt_val (px_call (ok_is_name C |>.mono (by omega)) hr tk (pa_c (px_var 1) pa_n)))) (pb_one (p1_raise rfl tk C.e_InvalidName (hr.mono (by omega)) (px_var 1))) pb_nil)) (pba_cons (P1.at_ (p1_if (pxt_not (pxt_val (px_call (ok_is_count C |>.mono (by omega)) hr tk (pa_c (px_var 2) pa_n)))) (pb_one (p1_raise rfl tk C.e_InvalidValue (hr.mono (by omega)) (px_var 2))) pb_nil)) (pba_cons (p1a_super (pl := _) T rfl ((fn_einit C FE "Constant" rfl).mono (by omega)) hr tk (pa_c (px_lst pa_n) (pa_c (px_joined (.cons (px_fmt (px_var 1)) (.cons px_str (.cons (px_fmt (px_var 2)) .nil)))) pa_n))) (pba_cons (P1.at_ (p1_setF (i := 0) (px_var 1) (fo "own_type" (by decide)))) (pba_of (pb_one (p1_setF (i := 0) (px_var 2) (fo "own_number" (by decide)))))))))
end K84
end
section
set_option Elab.async false
set_option linter.all false
set_option maxRecDepth 100000
set_option maxHeartbeats 4000000
namespace K84
open PySem PySem.Spec PyProof.Rows L2 PD NdefX ClX
def m_init_Application : MS := (mSeq (mIf (mtNot (mtV (mFn 1 v_is_name (mCons (mVar 1) mNil)))) (mRaise "InvalidName" "value" (mVar 1)) mNext) (mSeq (mIf (mtOr (mtNot (mtV (mChain gLe gLe (mC (.int 1)) (mB gLen (mCons (mVar 2) mNil)) (mC (.int 2))))) (mtNot (mtV (mB gAll (mCons (mLc (miT (mVar 2)) 4 mtYes (mUn gIsE (mVar 4))) mNil))))) (mRaise "InvalidExpression" "value" (mVar 2)) mNext) (mSeq (mDrop (mSup "Application" 3 (v_einit "Application") (mCons (mVar 2) (mCons (mOp gAdd (mOp gAdd (mOp gAdd (mVar 1) (mC (.str "("))) (mMt "str" gJoin (mC (.str ",")) (mCons (mLc (miT (mVar 2)) 4 mtYes (mB (gStrO cls v_Expression___str__) (mCons (mVar 4) mNil))) mNil))) (mC (.str ")"))) mNil)))) (mSeq (mIf (mtV (mOp gGt (mFldO "Application" "own_size" 0) (mC (.int 60)))) (mRaise "InvalidExpression" "value" (mVar 2)) mNext) (mSetF "Application" "own_operator" 0 (mVar 1))))))
theorem ns_Application : NScope ["self", "operator_name", "parts", "__class__", "part"] ["self", "operator_name", "parts"] ["__class__"] (defScope (sub 18 0)) := nscope_by (by decide +kernel)
def v_init_Application : En → Res RV := starF 2 (runB 3 5 m_init_Application)
theorem fn_init_Application {P : Program} {w : World} {K : PySem.W.Frag} {mg : Str → Option Value} {base : Heap} (C : KF P w K mg base) {g f cc cda : Addr} {ar : Arg} {fd : FuncData} (FE : FunD K "__init__" "Expression.__init__" (defArgs (sub 16 0)) (defBody (sub 16 0)) (defScope (sub 16 0)) [] [] g fd)
    (T : KFn P K mg ["self", "operator_name", "parts", "__class__", "part"] "__init__" "Application.__init__" "Application" (defArgs (sub 18 0)) (defBody (sub 18 0)) (defScope (sub 18 0)) cc cda f g ar) : FnR P w K mg base (L2N.CX P w) 5 f (spV K v_init_Application) := by
  have S := ns_Application
  have fo : ∀ f ∈ fields, FldOk K "Application" f := fun f hf => C.fo f hf "Application" (by decide)
  have hb : ∀ dV kV doc pm an ct (us rest : List Value), dV = Value.none → us.length = 2 → bindArgs (PySem.W.fnX "__init__" "Application.__init__" (defArgs (sub 18 0)) (defBody (sub 18 0)) (defScope (sub 18 0)) [("__class__", cc)] dV kV doc pm an (.ref cda) ct) ⟨us ++ rest, []⟩ = (newTuple rest >>= fun t => pure ((["self", "operator_name"] : List Str).zip us ++ [(("parts" : Str), t)])) := by
    intro dV kV doc pm an ct us rest hd hl
    subst hd
    exact StX.bind_star2 (B := fun us => bindArgs (PySem.W.fnX "__init__" "Application.__init__" (defArgs (sub 18 0)) (defBody (sub 18 0)) (defScope (sub 18 0)) [("__class__", cc)] .none kV doc pm an (.ref cda) ct) ⟨us, []⟩) (p1 := "self") (p2 := "operator_name") (pv := "parts") (fun _ _ => rfl) (fun _ _ _ _ => rfl) us rest hl
  have k1 := fnk_star (P := P) (w := w) (base := base) (ps := ["self", "operator_name"]) (pv := "parts") (k := 4) m_init_Application T S hb
  refine k1 (fun A outer s H E hr tk hp => ?_)
  exact (pba_cons (P1.at_ (p1_if (pxt_not (pxt_val (px_call (ok_is_name C |>.mono (by omega)) hr tk (pa_c (px_var 1) pa_n)))) (pb_one (p1_raise rfl tk C.e_InvalidName (hr.mono (by omega)) (px_var 1))) pb_nil)) (pba_cons (P1.at_ (p1_if (pxt_w (pxw_or (pxt_not (pxt_chain leD leD px_int (px_callB lenD C.b_len (pa_c (px_var 2) pa_n)) (px_gint C.c_MAX_PARTS))) (pxw_or1 (pxt_not (pxt_val (px_callB (allD rfl) C.b_all (pa_c (px_lc (x := "part") (i := 4) rfl S.nd (pxi_tup (px_var 2)) (blkOk_by rfl) (fun _ _ _ _ _ => pg_name S.nd rfl (by first | exact .inl rfl | exact .inr rfl)) (fun _ _ _ _ _ => (px_isE C.j (px_var 4)))) pa_n))))))) (pb_one (p1_raise rfl tk C.e_InvalidExpression (hr.mono (by omega)) (px_var 2))) pb_nil)) (pba_cons (p1a_super (pl := _) T rfl ((fn_einit C FE "Application" rfl).mono (by omega)) hr tk (pa_c (px_var 2) (pa_c (px_op addD (px_op addD (px_op addD (px_var 1) px_str) (px_join px_str (pa_c (px_lc (x := "part") (i := 4) rfl S.nd (pxi_tup (px_var 2)) (blkOk_by rfl) (fun _ _ _ _ _ => pg_name S.nd rfl (by first | exact .inl rfl | exact .inr rfl)) (fun _ _ _ _ _ => (px_callTy (strOD (k := 1) (ok_Expression___str__ C) (hr.mono (by omega))) C.b_str (pa_c (px_var 4) pa_n)))) pa_n))) px_str) pa_n))) (pba_cons (P1.at_ (p1_if (pxt_cmp gtD (px_fldO (fo "own_size" (by decide)) (i := 0)) (px_gint C.c_MAX_SIZE)) (pb_one (p1_raise rfl tk C.e_InvalidExpression (hr.mono (by omega)) (px_var 2))) pb_nil)) (pba_of (pb_one (p1_setF (i := 0) (px_var 1) (fo "own_operator" (by decide)))))))))
end K84
end
section
set_option Elab.async false
set_option linter.all false
set_option maxRecDepth 100000
set_option maxHeartbeats 4000000
namespace K84
open PySem PySem.Spec PyProof.Rows L2 PD NdefX ClX
structure PrF (K : PySem.W.Frag) (c f : Str) (qual : Str) (st : Stmt) : Prop where
  ex : ∃ p a fd, PropOf K (He.ga K c) f p a ∧ FunD K f qual (defArgs st) (defBody st) (defScope st) [] [] a fd
structure KM (P : Program) (w : World) (K : PySem.W.Frag) (mg : Str → Option Value) (base : Heap) : Prop extends KF P w K mg base where
  ini : ∃ g fd, FunD K "__init__" "Expression.__init__" (defArgs (sub 16 0)) (defBody (sub 16 0)) (defScope (sub 16 0)) [] [] g fd ∧
    (∃ f cc cda ar, KFn P K mg ["self", "type_name", "number", "__class__"] "__init__" "Constant.__init__" "Constant" (defArgs (sub 17 0)) (defBody (sub 17 0)) (defScope (sub 17 0)) cc cda f g ar ∧ Mk K (He.ga K "Constant") f) ∧
    (∃ f cc cda ar, KFn P K mg ["self", "operator_name", "parts", "__class__", "part"] "__init__" "Application.__init__" "Application" (defArgs (sub 18 0)) (defBody (sub 18 0)) (defScope (sub 18 0)) cc cda f g ar ∧ Mk K (He.ga K "Application") f)
  gC : mg "Constant" = some (.ref (He.ga K "Constant"))
  gA : mg "Application" = some (.ref (He.ga K "Application"))
  p_type : PrF K "Constant" "type_name" "Constant.type_name" (sub 17 1)
  p_number : PrF K "Constant" "number" "Constant.number" (sub 17 2)
  p_op : PrF K "Application" "operator_name" "Application.operator_name" (sub 18 1)
theorem mk_Constant {P : Program} {w : World} {K : PySem.W.Frag} {mg : Str → Option Value} {base : Heap} (C : KM P w K mg base) : MakeOk P w K mg base 4 "Constant" v_init_Constant := by
  obtain ⟨g, fd, FE, ⟨f, cc, cda, ar, T, M⟩, _⟩ := C.ini
  exact ⟨C.gC, f, M, fn_init_Constant C.toKF FE T⟩
theorem mk_Application {P : Program} {w : World} {K : PySem.W.Frag} {mg : Str → Option Value} {base : Heap} (C : KM P w K mg base) : MakeOk P w K mg base 5 "Application" v_init_Application := by
  obtain ⟨g, fd, FE, _, f, cc, cda, ar, T, M⟩ := C.ini
  exact ⟨C.gA, f, M, fn_init_Application C.toKF FE T⟩
theorem pr_type_name {P : Program} {w : World} {K : PySem.W.Frag} {mg : Str → Option Value} {base : Heap} (C : KM P w K mg base) : PropOk P w K mg base 1 "Constant" "type_name" "own_type" := by
  have O := C.fo "own_type" (by decide) "Constant" (by decide)
  obtain ⟨p, a, fd, hp, FD⟩ := C.p_type.ex
  refine ⟨O.cl, O.no, p, a, fd, hp, ?_, FD.bindsN fun _ _ _ _ _ _ us hl => match us, hl with | [_], _ => rfl⟩
  obtain ⟨oc, od, dV, kV, doc, pm, an, cdv, ct, osl, e, lk, hcd, _⟩ := FD.ex
  rw [e] at lk ⊢
  exact fn_getter (k := 0) (N := ["self"]) lk hcd (show FnScope ["self"] ["self"] (defScope (sub 17 1)) from ⟨rfl, rfl, rfl, by decide +kernel, rfl, by decide +kernel, by decide +kernel⟩) rfl rfl O.cl O.no
theorem pr_number {P : Program} {w : World} {K : PySem.W.Frag} {mg : Str → Option Value} {base : Heap} (C : KM P w K mg base) : PropOk P w K mg base 1 "Constant" "number" "own_number" := by
  have O := C.fo "own_number" (by decide) "Constant" (by decide)
  obtain ⟨p, a, fd, hp, FD⟩ := C.p_number.ex
  refine ⟨O.cl, O.no, p, a, fd, hp, ?_, FD.bindsN fun _ _ _ _ _ _ us hl => match us, hl with | [_], _ => rfl⟩
  obtain ⟨oc, od, dV, kV, doc, pm, an, cdv, ct, osl, e, lk, hcd, _⟩ := FD.ex
  rw [e] at lk ⊢
  exact fn_getter (k := 0) (N := ["self"]) lk hcd (show FnScope ["self"] ["self"] (defScope (sub 17 2)) from ⟨rfl, rfl, rfl, by decide +kernel, rfl, by decide +kernel, by decide +kernel⟩) rfl rfl O.cl O.no
theorem pr_operator_name {P : Program} {w : World} {K : PySem.W.Frag} {mg : Str → Option Value} {base : Heap} (C : KM P w K mg base) : PropOk P w K mg base 1 "Application" "operator_name" "own_operator" := by
  have O := C.fo "own_operator" (by decide) "Application" (by decide)
  obtain ⟨p, a, fd, hp, FD⟩ := C.p_op.ex
  refine ⟨O.cl, O.no, p, a, fd, hp, ?_, FD.bindsN fun _ _ _ _ _ _ us hl => match us, hl with | [_], _ => rfl⟩
  obtain ⟨oc, od, dV, kV, doc, pm, an, cdv, ct, osl, e, lk, hcd, _⟩ := FD.ex
  rw [e] at lk ⊢
  exact fn_getter (k := 0) (N := ["self"]) lk hcd (show FnScope ["self"] ["self"] (defScope (sub 18 1)) from ⟨rfl, rfl, rfl, by decide +kernel, rfl, by decide +kernel, by decide +kernel⟩) rfl rfl O.cl O.no
def m_read_constant : MS := (mSeq (mSet (gN 3) (mFn 3 v_run_end (mCons (mVar 1) (mCons (mVar 2) (mCons (mC (.str "0123456789")) mNil))))) (mSeq (mSet (gN 4) (mSl (mVar 1) (moS (mVar 2)) (moS (mVar 3)))) (mSeq (mIf (mtOr (mtV (mOp gEq (mVar 4) (mC (.str "")))) (mtAnd (mtV (mOp gEq (mOp gIx (mVar 4) (mC (.int 0))) (mC (.str "0")))) (mtV (mOp gNe (mVar 4) (mC (.str "0")))))) (mRaise "InvalidText" "line" (mC (.int 1))) mNext) (mRet (mTup (mCons (mMk "Constant" v_init_Constant (mCons (mVar 0) (mCons (mB gInt (mCons (mVar 4) mNil)) mNil))) (mCons (mVar 3) mNil)))))))
theorem sc_read_constant : FnScope ["name", "text", "at", "end", "digits"] ["name", "text", "at"] (defScope (top 20)) := ⟨rfl, rfl, rfl, by decide +kernel, rfl, by decide +kernel, by decide +kernel⟩
def v_read_constant : En → Res RV := runB 3 5 m_read_constant
theorem ok_read_constant {P : Program} {w : World} {K : PySem.W.Frag} {mg : Str → Option Value} {base : Heap} (C : KM P w K mg base) : DefOk P w K mg base 6 "read_constant" 3 v_read_constant := by
  have S := sc_read_constant
  refine def_ok (N := ["name", "text", "at", "end", "digits"]) m_read_constant 3 C.d_read_constant S rfl (fun F => F.bindsN fun _ _ _ _ _ _ us hl => match us, hl with | [_, _, _], _ => rfl) fun f cdv A outer s H E hr tk hp => ?_
  exact (pb_cons (p1_set (i := 3) S.nd (px_call ((ok_run_end C.toFacts).mono (by omega)) hr tk (pa_c (px_var 1) (pa_c (px_var 2) (pa_c (px_gstr C.c_DIGITS) pa_n))))) (pb_cons (p1_set (i := 4) S.nd (px_sl (px_var 1) (pxo_s (px_var 2)) (pxo_s (px_var 3)))) (pb_cons (p1_if (pxt_w (pxw_or (pxt_cmp (eqD (hu hr)) (px_var 4) px_str) (pxw_or1 (pxt_w (pxw_and (pxt_cmp (eqD (hu hr)) (px_ix (px_var 4) px_int) px_str) (pxw_and1 (pxt_cmp (neD (hu hr)) (px_var 4) px_str))))))) (pb_one (p1_raise rfl tk C.e_InvalidText (hr.mono (by omega)) px_int)) pb_nil) (pb_one (p1_ret (px_tup (pa_c (px_mk (mk_Constant C) (hr.mono (by omega)) tk (pa_c (px_var 0) (pa_c (px_callTy intD C.b_int (pa_c (px_var 4) pa_n)) pa_n))) (pa_c (px_var 3) pa_n))))))))
def m__law_expression (v : En → Res RV) : MS := (mSeq (mIf (mtV (mOp gEq (mOp gIx (mVar 0) (mC (.int 0))) (mC (.str "of")))) (mRet (mMk "Constant" v_init_Constant (mCons (mOp gIx (mVar 0) (mC (.int 1))) (mCons (mOp gIx (mVar 0) (mC (.int 2))) mNil)))) mNext) (mSeq (mSet (gN 1) (mLc (miT (mOp gIx (mVar 0) (mC (.int 2)))) 2 mtYes (mFn 1 v (mCons (mVar 2) mNil)))) (mRet (mIfE (mtV (mOp gEq (mB gLen (mCons (mVar 1) mNil)) (mC (.int 1)))) (mMk "Application" v_init_Application (mCons (mOp gIx (mVar 0) (mC (.int 1))) (mCons (mOp gIx (mVar 1) (mC (.int 0))) mNil))) (mMk "Application" v_init_Application (mCons (mOp gIx (mVar 0) (mC (.int 1))) (mCons (mOp gIx (mVar 1) (mC (.int 0))) (mCons (mOp gIx (mVar 1) (mC (.int 1))) mNil))))))))
theorem sc__law_expression : FnScope ["tree", "some", "part"] ["tree"] (defScope (top 31)) := ⟨rfl, rfl, rfl, by decide +kernel, rfl, by decide +kernel, by decide +kernel⟩
def v__law_expression : Nat → En → Res RV
  | 0 => fun _ => .no
  | d + 1 => runB 1 3 (m__law_expression (v__law_expression d))
theorem st__law_expression {P : Program} {w : World} {K : PySem.W.Frag} {mg : Str → Option Value} {base : Heap} (C : KM P w K mg base) {v : En → Res RV} {k : Nat} (hk : 6 ≤ k) (ih : DefOk P w K mg base k "_law_expression" 1 v) : DefOk P w K mg base (k + 1) "_law_expression" 1 (runB 1 3 (m__law_expression v)) := by
  have S := sc__law_expression
  refine def_ok (N := ["tree", "some", "part"]) (m__law_expression v) 1 C.d__law_expression S rfl (fun F => F.bindsN fun _ _ _ _ _ _ us hl => match us, hl with | [_], _ => rfl) fun f cdv A outer s H E hr tk hp => ?_
  exact (pb_cons (p1_if (pxt_cmp (eqD (hu hr)) (px_ix (px_var 0) px_int) px_str) (pb_one (p1_ret (px_mk (mk_Constant C) (hr.mono (by omega)) tk (pa_c (px_ix (px_var 0) px_int) (pa_c (px_ix (px_var 0) px_int) pa_n))))) pb_nil) (pb_cons (p1_setLc (x := "part") (j := 1) (i := 2) rfl S.nd (pxi_tup (px_ix (px_var 0) px_int)) (blkOk_by rfl) (fun _ _ _ _ _ => pg_name S.nd rfl (by first | exact .inl rfl | exact .inr rfl)) (fun _ _ _ _ _ => (px_call ih hr takesF (pa_c (px_var 2) pa_n)))) (pb_one (p1_ret (px_ifE (pxt_cmp (eqD (hu hr)) (px_callB lenD C.b_len (pa_c (px_var 1) pa_n)) px_int) (px_mk (mk_Application C) (hr.mono (by omega)) tk (pa_c (px_ix (px_var 0) px_int) (pa_c (px_ix (px_var 1) px_int) pa_n))) (px_mk (mk_Application C) (hr.mono (by omega)) tk (pa_c (px_ix (px_var 0) px_int) (pa_c (px_ix (px_var 1) px_int) (pa_c (px_ix (px_var 1) px_int) pa_n)))))))))
theorem ok__law_expression {P : Program} {w : World} {K : PySem.W.Frag} {mg : Str → Option Value} {base : Heap} (C : KM P w K mg base) : ∀ d, DefOk P w K mg base (6 + d) "_law_expression" 1 (v__law_expression d)
  | 0 => (def_no (N := ["tree", "some", "part"]) 1 C.d__law_expression sc__law_expression rfl (fun F => F.bindsN fun _ _ _ _ _ _ us hl => match us, hl with | [_], _ => rfl)).mono (by omega)
  | d + 1 => st__law_expression C (Nat.le_add_right _ _) (ok__law_expression C d)
def m__law_read (vp : En → Res RV) : MS := (mSeq (mSet (gN 2) (mVar 1)) (mSeq (mWh 100000 (mtAnd (mtV (mOp gLt (mVar 2) (mB gLen (mCons (mVar 0) mNil)))) (mtV (mOp gIn (mOp gIx (mVar 0) (mVar 2)) (mC (.str "abcdefghijklmnopqrstuvwxyz"))))) (mSet (gN 2) (mOp gAdd (mVar 2) (mC (.int 1))))) (mSeq (mPar 3 4 (mCons (mSl (mVar 0) (moS (mVar 1)) (moS (mVar 2))) (mCons (mSl (mVar 0) (moS (mVar 2)) (moS (mOp gAdd (mVar 2) (mC (.int 1))))) mNil))) (mSeq (mIf (mtOr (mtNot (mtV (mChain gLt gLt (mC (.int 0)) (mB gLen (mCons (mVar 3) mNil)) (mC (.int 9))))) (mtV (mOp gNotIn (mVar 4) (mTup (mCons (mC (.str ":")) (mCons (mC (.str "(")) mNil)))))) (mRet (mC .non)) mNext) (mRet (mIfE (mtV (mOp gEq (mVar 4) (mC (.str ":")))) (mFn 3 v__law_read_number (mCons (mVar 0) (mCons (mVar 3) (mCons (mOp gAdd (mVar 2) (mC (.int 1))) mNil)))) (mFn 3 vp (mCons (mVar 0) (mCons (mVar 3) (mCons (mOp gAdd (mVar 2) (mC (.int 1))) mNil))))))))))
theorem sc__law_read : FnScope ["text", "at", "end", "word", "sign"] ["text", "at"] (defScope (top 35)) := ⟨rfl, rfl, rfl, by decide +kernel, rfl, by decide +kernel, by decide +kernel⟩
theorem st__law_read {P : Program} {w : World} {K : PySem.W.Frag} {mg : Str → Option Value} {base : Heap} (C : KM P w K mg base) {vp : En → Res RV} {k : Nat} (hk : 1 ≤ k) (h_vp : DefOk P w K mg base k "_law_read_parts" 3 vp) : DefOk P w K mg base (k + 1) "_law_read" 2 (runB 2 5 (m__law_read vp)) := by
  have S := sc__law_read
  refine def_ok (N := ["text", "at", "end", "word", "sign"]) (m__law_read vp) 2 C.d__law_read S rfl (fun F => F.bindsN fun _ _ _ _ _ _ us hl => match us, hl with | [_, _], _ => rfl) fun f cdv A outer s H E hr tk hp => ?_
  exact (pb_cons (p1_set (i := 2) S.nd (px_var 1)) (pb_cons (p1_while 100000 hp (pxt_w (pxw_and (pxt_cmp ltD (px_var 2) (px_callB lenD C.b_len (pa_c (px_var 0) pa_n))) (pxw_and1 (pxt_cmp inD' (px_ix (px_var 0) (px_var 2)) px_str)))) (pb_one (p1_set (i := 2) S.nd (px_op addD (px_var 2) px_int)))) (pb_cons (p1_par (i := 3) (j := 4) rfl S.nd (pa_c (px_sl (px_var 0) (pxo_s (px_var 1)) (pxo_s (px_var 2))) (pa_c (px_sl (px_var 0) (pxo_s (px_var 2)) (pxo_s (px_op addD (px_var 2) px_int))) pa_n))) (pb_cons (p1_if (pxt_w (pxw_or (pxt_not (pxt_chain ltD ltD px_int (px_callB lenD C.b_len (pa_c (px_var 3) pa_n)) px_int)) (pxw_or1 (pxt_cmp notInD (px_var 4) (px_tup (pa_c px_str (pa_c px_str pa_n))))))) (pb_one (p1_ret px_non)) pb_nil) (pb_one (p1_ret (px_ifE (pxt_cmp (eqD (hu hr)) (px_var 4) px_str) (px_call ((ok__law_read_number C.toFacts).mono (by omega)) hr tk (pa_c (px_var 0) (pa_c (px_var 3) (pa_c (px_op addD (px_var 2) px_int) pa_n)))) (px_call h_vp hr tk (pa_c (px_var 0) (pa_c (px_var 3) (pa_c (px_op addD (px_var 2) px_int) pa_n)))))))))))
def m__law_read_parts (vr : En → Res RV) : MS := (mSeq (mSet (gN 3) (mFn 2 vr (mCons (mVar 0) (mCons (mVar 2) mNil)))) (mSeq (mIf (mtV (mOp gIsN (mVar 3) (mC .non))) (mRet (mC .non)) mNext) (mSeq (mIf (mtV (mOp gEq (mSl (mVar 0) (moS (mOp gIx (mVar 3) (mC (.int 1)))) (moS (mOp gAdd (mOp gIx (mVar 3) (mC (.int 1))) (mC (.int 1))))) (mC (.str ")")))) (mRet (mTup (mCons (mTup (mCons (mC (.str "do")) (mCons (mVar 1) (mCons (mTup (mCons (mOp gIx (mVar 3) (mC (.int 0))) mNil)) mNil)))) (mCons (mOp gAdd (mOp gIx (mVar 3) (mC (.int 1))) (mC (.int 1))) mNil)))) mNext) (mSeq (mSet (gN 4) (mIfE (mtV (mOp gEq (mSl (mVar 0) (moS (mOp gIx (mVar 3) (mC (.int 1)))) (moS (mOp gAdd (mOp gIx (mVar 3) (mC (.int 1))) (mC (.int 1))))) (mC (.str ",")))) (mFn 2 vr (mCons (mVar 0) (mCons (mOp gAdd (mOp gIx (mVar 3) (mC (.int 1))) (mC (.int 1))) mNil))) (mC .non))) (mSeq (mIf (mtOr (mtV (mOp gIsN (mVar 4) (mC .non))) (mtV (mOp gNe (mSl (mVar 0) (moS (mOp gIx (mVar 4) (mC (.int 1)))) (moS (mOp gAdd (mOp gIx (mVar 4) (mC (.int 1))) (mC (.int 1))))) (mC (.str ")"))))) (mRet (mC .non)) mNext) (mRet (mTup (mCons (mTup (mCons (mC (.str "do")) (mCons (mVar 1) (mCons (mTup (mCons (mOp gIx (mVar 3) (mC (.int 0))) (mCons (mOp gIx (mVar 4) (mC (.int 0))) mNil))) mNil)))) (mCons (mOp gAdd (mOp gIx (mVar 4) (mC (.int 1))) (mC (.int 1))) mNil)))))))))
theorem sc__law_read_parts : FnScope ["text", "word", "at", "first", "second"] ["text", "word", "at"] (defScope (top 37)) := ⟨rfl, rfl, rfl, by decide +kernel, rfl, by decide +kernel, by decide +kernel⟩
theorem st__law_read_parts {P : Program} {w : World} {K : PySem.W.Frag} {mg : Str → Option Value} {base : Heap} (C : KM P w K mg base) {vr : En → Res RV} {k : Nat} (hk : 1 ≤ k) (h_vr : DefOk P w K mg base k "_law_read" 2 vr) : DefOk P w K mg base (k + 1) "_law_read_parts" 3 (runB 3 5 (m__law_read_parts vr)) := by
  have S := sc__law_read_parts
  refine def_ok (N := ["text", "word", "at", "first", "second"]) (m__law_read_parts vr) 3 C.d__law_read_parts S rfl (fun F => F.bindsN fun _ _ _ _ _ _ us hl => match us, hl with | [_, _, _], _ => rfl) fun f cdv A outer s H E hr tk hp => ?_
  exact (pb_cons (p1_set (i := 3) S.nd (px_call h_vr hr tk (pa_c (px_var 0) (pa_c (px_var 2) pa_n)))) (pb_cons (p1_if (pxt_cmp isND (px_var 3) px_non) (pb_one (p1_ret px_non)) pb_nil) (pb_cons (p1_if (pxt_cmp (eqD (hu hr)) (px_sl (px_var 0) (pxo_s (px_ix (px_var 3) px_int)) (pxo_s (px_op addD (px_ix (px_var 3) px_int) px_int))) px_str) (pb_one (p1_ret (px_tup (pa_c (px_tup (pa_c px_str (pa_c (px_var 1) (pa_c (px_tup (pa_c (px_ix (px_var 3) px_int) pa_n)) pa_n)))) (pa_c (px_op addD (px_ix (px_var 3) px_int) px_int) pa_n))))) pb_nil) (pb_cons (p1_set (i := 4) S.nd (px_ifE (pxt_cmp (eqD (hu hr)) (px_sl (px_var 0) (pxo_s (px_ix (px_var 3) px_int)) (pxo_s (px_op addD (px_ix (px_var 3) px_int) px_int))) px_str) (px_call h_vr hr tk (pa_c (px_var 0) (pa_c (px_op addD (px_ix (px_var 3) px_int) px_int) pa_n))) px_non)) (pb_cons (p1_if (pxt_w (pxw_or (pxt_cmp isND (px_var 4) px_non) (pxw_or1 (pxt_cmp (neD (hu hr)) (px_sl (px_var 0) (pxo_s (px_ix (px_var 4) px_int)) (pxo_s (px_op addD (px_ix (px_var 4) px_int) px_int))) px_str)))) (pb_one (p1_ret px_non)) pb_nil) (pb_one (p1_ret (px_tup (pa_c (px_tup (pa_c px_str (pa_c (px_var 1) (pa_c (px_tup (pa_c (px_ix (px_var 3) px_int) (pa_c (px_ix (px_var 4) px_int) pa_n))) pa_n)))) (pa_c (px_op addD (px_ix (px_var 4) px_int) px_int) pa_n))))))))))
def v__law_read : Nat → En → Res RV
  | 0 => fun _ => .no
  | d + 1 => runB 2 5 (m__law_read (runB 3 5 (m__law_read_parts (v__law_read d))))
theorem ok__law_read {P : Program} {w : World} {K : PySem.W.Frag} {mg : Str → Option Value} {base : Heap} (C : KM P w K mg base) : ∀ d, DefOk P w K mg base (1 + 2 * d) "_law_read" 2 (v__law_read d)
  | 0 => def_no (N := ["text", "at", "end", "word", "sign"]) 2 C.d__law_read sc__law_read rfl (fun F => F.bindsN fun _ _ _ _ _ _ us hl => match us, hl with | [_, _], _ => rfl)
  | d + 1 => st__law_read C (k := 1 + 2 * d + 1) (by omega) (st__law_read_parts C (k := 1 + 2 * d) (by omega) (ok__law_read C d))
end K84
end
section
set_option Elab.async false
set_option linter.all false
set_option maxRecDepth 100000
set_option maxHeartbeats 4000000
namespace K84
open PySem PySem.Spec PyProof.Rows L2 PD NdefX ClX
abbrev vEq : En → Res RV := v_Expression___eq__
def gEqO : D → D → Option RV := gEqS id (eqAny cls vEq)
def gNeO : D → D → Option RV := gEqS not (eqAny cls vEq)
def gReprO : List D → Option RV := gRepr cls v_Expression___repr__
def gStrE : List D → Option RV := gStrO cls v_Expression___str__
structure KE (P : Program) (w : World) (K : PySem.W.Frag) (mg : Str → Option Value) (base : Heap) : Prop extends KM P w K mg base where
  eqx : ∀ c, cls.contains c = true → PySem.W.findIn K (.ref (He.ga K c)) "__ne__" = some (some (.builtin "object.__ne__")) ∧
    PySem.W.mroIn K (He.ga K c) (.type "object") = some true ∧ (∀ T ∈ eqTypes, PySem.W.mroIn K (He.ga K c) (.type T) = some false ∧ PySem.W.notFirst K (He.ga K c) (.type T) = true) ∧ ∀ d, cls.contains d = true → PySem.W.notFirst K (He.ga K c) (.ref (He.ga K d)) = true
theorem eq_ok {P : Program} {w : World} {K : PySem.W.Frag} {mg : Str → Option Value} {base : Heap} (C : KE P w K mg base) : EqOk P w K mg base 1 cls vEq := by
  obtain ⟨c0, g, hM, hF⟩ := (ok_Expression___eq__ C.toKF).ex "Constant" (by decide)
  obtain ⟨g2, fd, F, hi, hm⟩ := C.m_eq.ex
  obtain rfl : g = g2 := by
    have e := hM.at_.symm.trans (hm "Constant" (by decide)).at_
    cases e; rfl
  exact ⟨g, hF, hi, fun c hc => ⟨(hm c hc).at_, C.eqx c hc⟩⟩
/-- a def of the row's top, in a run where no repr is under way -/
theorem def_okG {P : Program} {w : World} {K : PySem.W.Frag} {mg : Str → Option Value} {base : Heap} {x : Str} {st : Stmt} {N ps : List Str} {k : Nat} (m : MS) (n : Nat) (I : DefIs K mg x st) (S : FnScope N ps (defScope st)) (hn : ps.length = n)
    (hb : ∀ {f : Addr} {fd : FuncData}, FunD K x x (defArgs st) (defBody st) (defScope st) [] [] f fd → Binds K fd ps [])
    (hbody : ∀ (f : Addr) (cdv : Value) (A : Around) (outer : List PySem.Env) (s : Shared) (H : Hp) (E : XK), Room k (Cc P w K mg base N x st f cdv A outer s H E).A → (Cc P w K mg base N x st f cdv A outer s H E).A.guards = some [] → L2N.Takes (Cc P w K mg base N x st f cdv A outer s H E) (WW E) →
      PassesOwn (model P w) (Cc P w K mg base N x st f cdv A outer s H E).A (Cc P w K mg base N x st f cdv A outer s H E).env (Cc P w K mg base N x st f cdv A outer s H E).xe →
      PB (Cc P w K mg base N x st f cdv A outer s H E) (WW E) n (defBody st) m) : DefOkG P w K mg base (k + 1) x n (runB n N.length m) := by
  obtain ⟨f, fd, hm, F⟩ := I.ex
  subst hn
  exact ⟨f, fd, ps, fn_pdG m F S (hbody f), hm, F.kp, hb F, rfl⟩
def m__law_wide : MS := (mSeq (mSet (gN 1) (mLc (miR1 (mCons (mVar 0) mNil)) 2 mtYes (mTup (mCons (mC (.str "of")) (mCons (mC (.str "a")) (mCons (mVar 2) mNil)))))) (mSeq (mWh 100000 (mtV (mOp gGt (mB gLen (mCons (mVar 1) mNil)) (mC (.int 1)))) (mSeq (mSet (gN 3) (mLc (miR3 (mCons (mC (.int 0)) (mCons (mB gLen (mCons (mVar 1) mNil)) (mCons (mC (.int 2)) mNil)))) 2 mtYes (mB gTuple (mCons (mSl (mVar 1) (moS (mVar 2)) (moS (mOp gAdd (mVar 2) (mC (.int 2))))) mNil)))) (mSet (gN 1) (mLc (miL (mVar 3)) 4 mtYes (mIfE (mtV (mOp gEqO (mB gLen (mCons (mVar 4) mNil)) (mC (.int 2)))) (mTup (mCons (mC (.str "do")) (mCons (mC (.str "plus")) (mCons (mVar 4) mNil)))) (mOp gIx (mVar 4) (mC (.int 0)))))))) (mRet (mOp gIx (mVar 1) (mC (.int 0))))))
theorem sc__law_wide : FnScope ["many", "rows", "at", "pairs", "pair"] ["many"] (defScope (top 44)) := ⟨rfl, rfl, rfl, by decide +kernel, rfl, by decide +kernel, by decide +kernel⟩
def v__law_wide : En → Res RV := runB 1 5 m__law_wide
theorem ok__law_wide {P : Program} {w : World} {K : PySem.W.Frag} {mg : Str → Option Value} {base : Heap} (C : KE P w K mg base) : DefOk P w K mg base 4 "_law_wide" 1 v__law_wide := by
  have S := sc__law_wide
  refine def_ok (N := ["many", "rows", "at", "pairs", "pair"]) m__law_wide 1 C.d__law_wide S rfl (fun F => F.bindsN fun _ _ _ _ _ _ us hl => match us, hl with | [_], _ => rfl) fun f cdv A outer s H E hr tk hp => ?_
  exact (pb_cons (p1_set (i := 1) S.nd (px_lc (x := "at") (i := 2) rfl S.nd (pxi_rng1 C.b_range (pa_c (px_var 0) pa_n)) (blkOk_by rfl) (fun _ _ _ _ _ => pg_name S.nd rfl (by first | exact .inl rfl | exact .inr rfl)) (fun _ _ _ _ _ => (px_tup (pa_c px_str (pa_c px_str (pa_c (px_var 2) pa_n))))))) (pb_cons (p1_while 100000 hp (pxt_cmp gtD (px_callB lenD C.b_len (pa_c (px_var 1) pa_n)) px_int) (pb_cons (p1_setLc (x := "at") (j := 3) (i := 2) rfl S.nd (pxi_rng3 C.b_range (pa_c px_int (pa_c (px_callB lenD C.b_len (pa_c (px_var 1) pa_n)) (pa_c px_int pa_n)))) (blkOk_by rfl) (fun _ _ _ _ _ => pg_name S.nd rfl (by first | exact .inl rfl | exact .inr rfl)) (fun _ _ _ _ _ => (px_callTy tupleD C.b_tuple (pa_c (px_sl (px_var 1) (pxo_s (px_var 2)) (pxo_s (px_op addD (px_var 2) px_int))) pa_n)))) (pb_one (p1_set (i := 1) S.nd (px_lc (x := "pair") (i := 4) rfl S.nd (pxi_list (px_var 3)) (blkOk_by rfl) (fun _ _ _ _ _ => pg_name S.nd rfl (by first | exact .inl rfl | exact .inr rfl)) (fun _ _ _ _ _ => (px_ifE (pxt_cmp (eqDO (eq_ok C) (hr.mono (by omega))) (px_callB lenD C.b_len (pa_c (px_var 4) pa_n)) px_int) (px_tup (pa_c px_str (pa_c px_str (pa_c (px_var 4) pa_n)))) (px_ix (px_var 4) px_int)))))))) (pb_one (p1_ret (px_ix (px_var 1) px_int)))))
def m__law_same : MS := (mRet (mOp gEqO (mB gReprO (mCons (mLst (mCons (mOp gEqO (mVar 0) (mVar 1)) (mCons (mOp gEqO (mVar 1) (mVar 0)) (mCons (mOp gNeO (mVar 0) (mVar 1)) (mCons (mOp gNeO (mVar 1) (mVar 0)) mNil))))) mNil)) (mB gReprO (mCons (mLst (mCons (mVar 2) (mCons (mVar 2) (mCons (mUn gNot (mVar 2)) (mCons (mUn gNot (mVar 2)) mNil))))) mNil))))
theorem sc__law_same : FnScope ["one", "other", "due"] ["one", "other", "due"] (defScope (top 40)) := ⟨rfl, rfl, rfl, by decide +kernel, rfl, by decide +kernel, by decide +kernel⟩
def v__law_same : En → Res RV := runB 3 3 m__law_same
theorem ok__law_same {P : Program} {w : World} {K : PySem.W.Frag} {mg : Str → Option Value} {base : Heap} (C : KE P w K mg base) : DefOkG P w K mg base 4 "_law_same" 3 v__law_same := by
  have S := sc__law_same
  refine def_okG (N := ["one", "other", "due"]) m__law_same 3 C.d__law_same S rfl (fun F => F.bindsN fun _ _ _ _ _ _ us hl => match us, hl with | [_, _, _], _ => rfl) fun f cdv A outer s H E hr hgu tk hp => ?_
  exact (pb_one (p1_ret (px_cmp (eqDO (eq_ok C) (hr.mono (by omega))) (px_callB (reprD (k := 1) (ok_Expression___repr__ C.toKF) (hr.mono (by omega)) hgu) C.b_repr (pa_c (px_lst (pa_c (px_cmp (eqDO (eq_ok C) (hr.mono (by omega))) (px_var 0) (px_var 1)) (pa_c (px_cmp (eqDO (eq_ok C) (hr.mono (by omega))) (px_var 1) (px_var 0)) (pa_c (px_cmp (neDO (eq_ok C) (hr.mono (by omega))) (px_var 0) (px_var 1)) (pa_c (px_cmp (neDO (eq_ok C) (hr.mono (by omega))) (px_var 1) (px_var 0)) pa_n))))) pa_n)) (px_callB (reprD (k := 1) (ok_Expression___repr__ C.toKF) (hr.mono (by omega)) hgu) C.b_repr (pa_c (px_lst (pa_c (px_var 2) (pa_c (px_var 2) (pa_c (px_not (px_var 2)) (pa_c (px_not (px_var 2)) pa_n))))) pa_n)))))
def m__law_parts_right : MS := (mSeq (mIf (mtV (mOp gEqO (mOp gIx (mVar 1) (mC (.int 0))) (mC (.str "of")))) (mRet (mOp gEqO (mB gReprO (mCons (mLst (mCons (mUn (gFld ["Constant"] "own_type") (mVar 0)) (mCons (mUn (gFld ["Constant"] "own_number") (mVar 0)) (mCons (mMeth cls "parts" v_Expression_parts (mVar 0) mNil) mNil)))) mNil)) (mB gReprO (mCons (mLst (mCons (mOp gIx (mVar 1) (mC (.int 1))) (mCons (mOp gIx (mVar 1) (mC (.int 2))) (mCons (mLst mNil) mNil)))) mNil)))) mNext) (mSeq (mSetO 2 (mMeth cls "parts" v_Expression_parts (mVar 0) mNil)) (mSeq (mSet (gN 3) (mLc (miT (mOp gIx (mVar 1) (mC (.int 2)))) 4 mtYes (mFn 1 (v__law_expression 12) (mCons (mVar 4) mNil)))) (mSeq (mIf (mtOr (mtV (mOp gNeO (mUn (gFld ["Application"] "own_operator") (mVar 0)) (mOp gIx (mVar 1) (mC (.int 1))))) (mtV (mOpO gNeO 2 (mVar 3)))) (mRet (mC (.bl false))) mNext) (mSeq (mAppO 2 (mC .non)) (mRet (mOp gEqO (mMeth cls "parts" v_Expression_parts (mVar 0) mNil) (mVar 3))))))))
theorem sc__law_parts_right : FnScope ["made", "tree", "told", "due", "part"] ["made", "tree"] (defScope (top 41)) := ⟨rfl, rfl, rfl, by decide +kernel, rfl, by decide +kernel, by decide +kernel⟩
def v__law_parts_right : En → Res RV := runB 2 5 m__law_parts_right
theorem ok__law_parts_right {P : Program} {w : World} {K : PySem.W.Frag} {mg : Str → Option Value} {base : Heap} (C : KE P w K mg base) : DefOkG P w K mg base 21 "_law_parts_right" 2 v__law_parts_right := by
  have S := sc__law_parts_right
  refine def_okG (N := ["made", "tree", "told", "due", "part"]) m__law_parts_right 2 C.d__law_parts_right S rfl (fun F => F.bindsN fun _ _ _ _ _ _ us hl => match us, hl with | [_, _], _ => rfl) fun f cdv A outer s H E hr hgu tk hp => ?_
  exact (pb_cons (p1_if (pxt_cmp (eqDO (eq_ok C) (hr.mono (by omega))) (px_ix (px_var 1) px_int) px_str) (pb_one (p1_ret (px_cmp (eqDO (eq_ok C) (hr.mono (by omega))) (px_callB (reprD (k := 1) (ok_Expression___repr__ C.toKF) (hr.mono (by omega)) hgu) C.b_repr (pa_c (px_lst (pa_c (px_prop (pr_type_name C.toKM) (hr.mono (by omega)) (px_var 0)) (pa_c (px_prop (pr_number C.toKM) (hr.mono (by omega)) (px_var 0)) (pa_c (px_meth0 ((ok_Expression_parts C.toKF).mono (by omega)) hr tk (px_var 0)) pa_n)))) pa_n)) (px_callB (reprD (k := 1) (ok_Expression___repr__ C.toKF) (hr.mono (by omega)) hgu) C.b_repr (pa_c (px_lst (pa_c (px_ix (px_var 1) px_int) (pa_c (px_ix (px_var 1) px_int) (pa_c (px_lst pa_n) pa_n)))) pa_n))))) pb_nil) (pb_cons (p1_setO (i := 2) S.nd (px_meth0 ((ok_Expression_parts C.toKF).mono (by omega)) hr tk (px_var 0))) (pb_cons (p1_setLc (x := "part") (j := 3) (i := 4) rfl S.nd (pxi_tup (px_ix (px_var 1) px_int)) (blkOk_by rfl) (fun _ _ _ _ _ => pg_name S.nd rfl (by first | exact .inl rfl | exact .inr rfl)) (fun _ _ _ _ _ => (px_call ((ok__law_expression C.toKM 12).mono (by omega)) hr takesF (pa_c (px_var 4) pa_n)))) (pb_cons (p1_if (pxt_w (pxw_or (pxt_cmp (neDO (eq_ok C) (hr.mono (by omega))) (px_prop (pr_operator_name C.toKM) (hr.mono (by omega)) (px_var 0)) (px_ix (px_var 1) px_int)) (pxw_or1 (pxt_cmpO (i := 2) (neDO (eq_ok C) (hr.mono (by omega))) (px_var 3))))) (pb_one (p1_ret px_bl)) pb_nil) (pb_cons (p1_append (i := 2) px_non) (pb_one (p1_ret (px_cmp (eqDO (eq_ok C) (hr.mono (by omega))) (px_meth0 ((ok_Expression_parts C.toKF).mono (by omega)) hr tk (px_var 0)) (px_var 3)))))))))
def m__law_twice_right : MS := (mSeq (mSet (gL [(gN 1), (gN 2), (gN 3)]) (mLc (miR1 (mCons (mC (.int 3)) mNil)) 4 mtYes (mFn 1 (v__law_expression 12) (mCons (mVar 0) mNil)))) (mSeq (mIf (mtV (mOp gGt (mMeth cls "size" v_Expression_size (mVar 1) mNil) (mC (.int 29)))) (mRet (mC (.bl true))) mNext) (mSeq (mPar 5 6 (mCons (mMk "Application" v_init_Application (mCons (mC (.str "plus")) (mCons (mVar 1) (mCons (mVar 1) mNil)))) (mCons (mMk "Application" v_init_Application (mCons (mC (.str "plus")) (mCons (mVar 2) (mCons (mVar 3) mNil)))) mNil))) (mSeq (mIf (mtOr (mtV (mOp gNeO (mMeth cls "size" v_Expression_size (mVar 5) mNil) (mOp gAdd (mOp gMul (mC (.int 2)) (mMeth cls "size" v_Expression_size (mVar 1) mNil)) (mC (.int 1))))) (mtOr (mtV (mOp gNeO (mMeth cls "depth" v_Expression_depth (mVar 5) mNil) (mOp gAdd (mMeth cls "depth" v_Expression_depth (mVar 1) mNil) (mC (.int 1))))) (mtV (mOp gNeO (mMeth cls "parts" v_Expression_parts (mVar 5) mNil) (mLst (mCons (mVar 1) (mCons (mVar 1) mNil))))))) (mRet (mC (.bl false))) mNext) (mRet (mAnd (mFn 3 v__law_same (mCons (mVar 5) (mCons (mVar 6) (mCons (mC (.bl true)) mNil)))) (mOp gEqO (mB gStrE (mCons (mVar 5) mNil)) (mOp gAdd (mOp gAdd (mOp gAdd (mOp gAdd (mC (.str "plus(")) (mB gStrE (mCons (mVar 1) mNil))) (mC (.str ","))) (mB gStrE (mCons (mVar 1) mNil))) (mC (.str ")"))))))))))
theorem sc__law_twice_right : FnScope ["tree", "one", "other", "again", "turn", "both", "apart"] ["tree"] (defScope (top 42)) := ⟨rfl, rfl, rfl, by decide +kernel, rfl, by decide +kernel, by decide +kernel⟩
def v__law_twice_right : En → Res RV := runB 1 7 m__law_twice_right
theorem ok__law_twice_right {P : Program} {w : World} {K : PySem.W.Frag} {mg : Str → Option Value} {base : Heap} (C : KE P w K mg base) : DefOkG P w K mg base 21 "_law_twice_right" 1 v__law_twice_right := by
  have S := sc__law_twice_right
  refine def_okG (N := ["tree", "one", "other", "again", "turn", "both", "apart"]) m__law_twice_right 1 C.d__law_twice_right S rfl (fun F => F.bindsN fun _ _ _ _ _ _ us hl => match us, hl with | [_], _ => rfl) fun f cdv A outer s H E hr hgu tk hp => ?_
  exact (pb_cons (p1_asg (px_lc (x := "turn") (i := 4) rfl S.nd (pxi_rng1 C.b_range (pa_c px_int pa_n)) (blkOk_by rfl) (fun _ _ _ _ _ => pg_name S.nd rfl (by first | exact .inl rfl | exact .inr rfl)) (fun _ _ _ _ _ => (px_call ((ok__law_expression C.toKM 12).mono (by omega)) hr takesF (pa_c (px_var 0) pa_n)))) (pxg_lst rfl (pxgs_c (pxg_name S.nd) (pxgs_c (pxg_name S.nd) (pxgs_c (pxg_name S.nd) pxgs_n))))) (pb_cons (p1_if (pxt_cmp gtD (px_meth0 ((ok_Expression_size C.toKF).mono (by omega)) hr tk (px_var 1)) px_int) (pb_one (p1_ret px_bl)) pb_nil) (pb_cons (p1_par (i := 5) (j := 6) rfl S.nd (pa_c (px_mk (mk_Application C.toKM) (hr.mono (by omega)) tk (pa_c px_str (pa_c (px_var 1) (pa_c (px_var 1) pa_n)))) (pa_c (px_mk (mk_Application C.toKM) (hr.mono (by omega)) tk (pa_c px_str (pa_c (px_var 2) (pa_c (px_var 3) pa_n)))) pa_n))) (pb_cons (p1_if (pxt_w (pxw_or (pxt_cmp (neDO (eq_ok C) (hr.mono (by omega))) (px_meth0 ((ok_Expression_size C.toKF).mono (by omega)) hr tk (px_var 5)) (px_op addD (px_op mulD px_int (px_meth0 ((ok_Expression_size C.toKF).mono (by omega)) hr tk (px_var 1))) px_int)) (pxw_or (pxt_cmp (neDO (eq_ok C) (hr.mono (by omega))) (px_meth0 ((ok_Expression_depth C.toKF).mono (by omega)) hr tk (px_var 5)) (px_op addD (px_meth0 ((ok_Expression_depth C.toKF).mono (by omega)) hr tk (px_var 1)) px_int)) (pxw_or1 (pxt_cmp (neDO (eq_ok C) (hr.mono (by omega))) (px_meth0 ((ok_Expression_parts C.toKF).mono (by omega)) hr tk (px_var 5)) (px_lst (pa_c (px_var 1) (pa_c (px_var 1) pa_n)))))))) (pb_one (p1_ret px_bl)) pb_nil) (pb_one (p1_ret (px_and (px_callG ((ok__law_same C).mono (by omega)) hr hgu tk (pa_c (px_var 5) (pa_c (px_var 6) (pa_c px_bl pa_n)))) (px_one (px_cmp (eqDO (eq_ok C) (hr.mono (by omega))) (px_callTy (strOD (k := 1) (ok_Expression___str__ C.toKF) (hr.mono (by omega))) C.b_str (pa_c (px_var 5) pa_n)) (px_op addD (px_op addD (px_op addD (px_op addD px_str (px_callTy (strOD (k := 1) (ok_Expression___str__ C.toKF) (hr.mono (by omega))) C.b_str (pa_c (px_var 1) pa_n))) px_str) (px_callTy (strOD (k := 1) (ok_Expression___str__ C.toKF) (hr.mono (by omega))) C.b_str (pa_c (px_var 1) pa_n))) px_str))))))))))
end K84
end
section
set_option Elab.async false
set_option linter.all false
set_option maxRecDepth 100000
set_option maxHeartbeats 4000000
namespace K84
open PySem PySem.Spec PyProof.Rows L2 PD NdefX ClX
def m__law_tree_right (vt : En → Res RV) (vp : En → Res RV) : MS := (mSeq (mSet (gT [(gN 2), (gN 3)]) (mTup (mCons (mFn 1 (v__law_expression 12) (mCons (mVar 1) mNil)) (mCons (mFn 1 (v__law_written 12) (mCons (mVar 1) mNil)) mNil)))) (mSeq (mSet (gN 4) (mLst (mCons (mB gStrE (mCons (mVar 2) mNil)) (mCons (mB gReprO (mCons (mVar 2) mNil)) (mCons (mMeth cls "size" v_Expression_size (mVar 2) mNil) (mCons (mMeth cls "depth" v_Expression_depth (mVar 2) mNil) (mCons (mUn gIsE (mVar 2)) mNil))))))) (mSeq (mIf (mtV (mOp gNeO (mB gReprO (mCons (mVar 4) mNil)) (mB gReprO (mCons (mLst (mCons (mVar 3) (mCons (mOp gAdd (mOp gAdd (mC (.str "Expression(")) (mB gReprO (mCons (mVar 3) mNil))) (mC (.str ")"))) (mCons (mFn 1 (v__law_many 12) (mCons (mVar 1) mNil)) (mCons (mFn 1 (v__law_deep 12) (mCons (mVar 1) mNil)) (mCons (mC (.bl true)) mNil)))))) mNil)))) (mRet (mC (.bl false))) mNext) (mSeq (mIf (mtOr (mtNot (mtV (mFn 2 v__law_parts_right (mCons (mVar 2) (mCons (mVar 1) mNil))))) (mtNot (mtV (mFn 3 v__law_same (mCons (mVar 2) (mCons (mFn 1 (v__law_expression 12) (mCons (mVar 1) mNil)) (mCons (mC (.bl true)) mNil))))))) (mRet (mC (.bl false))) mNext) (mSeq (mIf (mtOr (mtNot (mtV (mFn 3 v__law_same (mCons (mFn 1 (noEr vp) (mCons (mVar 3) mNil)) (mCons (mVar 2) (mCons (mC (.bl true)) mNil)))))) (mtNot (mtV (mFn 1 v__law_twice_right (mCons (mVar 1) mNil))))) (mRet (mC (.bl false))) mNext) (mSeq (mSet (gN 5) (mFnO 2 (v__law_tree 8) 0 (mCons (mC (.int 2)) mNil))) (mSeq (mIf (mtNot (mtV (mFn 3 v__law_same (mCons (mVar 2) (mCons (mFn 1 (v__law_expression 12) (mCons (mVar 5) mNil)) (mCons (mOp gEqO (mFn 1 (v__law_written 12) (mCons (mVar 5) mNil)) (mVar 3)) mNil)))))) (mRet (mC (.bl false))) mNext) (mSeq (mIf (mtNot (mtV (mB gAll (mCons (mLc (miL (mLst (mCons (mC .non) (mCons (mC (.int 0)) (mCons (mVar 3) (mCons (mVar 1) (mCons (mLst (mCons (mVar 2) mNil)) (mCons (mTup mNil) (mCons (mB gReprO (mCons (mVar 2) mNil)) mNil))))))))) 6 mtYes (mFn 3 v__law_same (mCons (mVar 2) (mCons (mVar 6) (mCons (mC (.bl false)) mNil))))) mNil)))) (mRet (mC (.bl false))) mNext) (mSeq (mFor (miR1 (mCons (mC (.int 4)) mNil)) (gN 7) (mSeq (mSet (gN 8) (mFnO 2 v__law_spoilt 0 (mCons (mVar 3) mNil))) (mSeq (mSet (gN 9) (mFn 2 (v__law_read 24) (mCons (mVar 8) (mCons (mC (.int 0)) mNil)))) (mSeq (mSet (gN 10) (mAnd (mOp gNotN (mVar 9) (mC .non)) (mAnd (mOp gEqO (mOp gIx (mVar 9) (mC (.int 1))) (mB gLen (mCons (mVar 8) mNil))) (mOp gLe (mFn 1 (v__law_many 30) (mCons (mOp gIx (mVar 9) (mC (.int 0))) mNil)) (mC (.int 60)))))) (mIf (mtV (mOp gNeO (mFn 1 vt (mCons (mVar 8) mNil)) (mIfE (mtV (mVar 10)) (mLst (mCons (mC (.str "read")) (mCons (mVar 8) mNil))) (mLst (mCons (mC (.str "text")) (mCons (mC (.int 1)) mNil)))))) (mRet (mC (.bl false))) mNext))))) (mRet (mC (.bl true))))))))))))
theorem sc__law_tree_right : FnScope ["pot", "tree", "made", "text", "told", "other", "thing", "turn", "spoilt", "found", "is_whole"] ["pot", "tree"] (defScope (top 43)) := ⟨rfl, rfl, rfl, by decide +kernel, rfl, by decide +kernel, by decide +kernel⟩
theorem st__law_tree_right {P : Program} {w : World} {K : PySem.W.Frag} {mg : Str → Option Value} {base : Heap} (C : KE P w K mg base) {vt : En → Res RV} {vp : En → Res RV} {k : Nat} (hk : 60 ≤ k) (h_vt : DefOk P w K mg base k "_law_told" 1 vt) (h_vp : DefOkX P w K mg base k "parse_expression" 1 vp) : DefOkG P w K mg base (k + 1) "_law_tree_right" 2 (runB 2 11 (m__law_tree_right vt vp)) := by
  have S := sc__law_tree_right
  refine def_okG (N := ["pot", "tree", "made", "text", "told", "other", "thing", "turn", "spoilt", "found", "is_whole"]) (m__law_tree_right vt vp) 2 C.d__law_tree_right S rfl (fun F => F.bindsN fun _ _ _ _ _ _ us hl => match us, hl with | [_, _], _ => rfl) fun f cdv A outer s H E hr hgu tk hp => ?_
  exact (pb_cons (p1_asg (px_tup (pa_c (px_call ((ok__law_expression C.toKM 12).mono (by omega)) hr tk (pa_c (px_var 1) pa_n)) (pa_c (px_call ((ok__law_written C.toFacts 12).mono (by omega)) hr tk (pa_c (px_var 1) pa_n)) pa_n))) (pxg_tup rfl (pxgs_c (pxg_name S.nd) (pxgs_c (pxg_name S.nd) pxgs_n)))) (pb_cons (p1_set (i := 4) S.nd (px_lst (pa_c (px_callTy (strOD (k := 1) (ok_Expression___str__ C.toKF) (hr.mono (by omega))) C.b_str (pa_c (px_var 2) pa_n)) (pa_c (px_callB (reprD (k := 1) (ok_Expression___repr__ C.toKF) (hr.mono (by omega)) hgu) C.b_repr (pa_c (px_var 2) pa_n)) (pa_c (px_meth0 ((ok_Expression_size C.toKF).mono (by omega)) hr tk (px_var 2)) (pa_c (px_meth0 ((ok_Expression_depth C.toKF).mono (by omega)) hr tk (px_var 2)) (pa_c (px_isE C.j (px_var 2)) pa_n))))))) (pb_cons (p1_if (pxt_cmp (neDO (eq_ok C) (hr.mono (by omega))) (px_callB (reprD (k := 1) (ok_Expression___repr__ C.toKF) (hr.mono (by omega)) hgu) C.b_repr (pa_c (px_var 4) pa_n)) (px_callB (reprD (k := 1) (ok_Expression___repr__ C.toKF) (hr.mono (by omega)) hgu) C.b_repr (pa_c (px_lst (pa_c (px_var 3) (pa_c (px_op addD (px_op addD px_str (px_callB (reprD (k := 1) (ok_Expression___repr__ C.toKF) (hr.mono (by omega)) hgu) C.b_repr (pa_c (px_var 3) pa_n))) px_str) (pa_c (px_call ((ok__law_many C.toFacts 12).mono (by omega)) hr tk (pa_c (px_var 1) pa_n)) (pa_c (px_call ((ok__law_deep C.toFacts 12).mono (by omega)) hr tk (pa_c (px_var 1) pa_n)) (pa_c px_bl pa_n)))))) pa_n))) (pb_one (p1_ret px_bl)) pb_nil) (pb_cons (p1_if (pxt_w (pxw_or (pxt_not (pxt_val (px_callG ((ok__law_parts_right C).mono (by omega)) hr hgu tk (pa_c (px_var 2) (pa_c (px_var 1) pa_n))))) (pxw_or1 (pxt_not (pxt_val (px_callG ((ok__law_same C).mono (by omega)) hr hgu tk (pa_c (px_var 2) (pa_c (px_call ((ok__law_expression C.toKM 12).mono (by omega)) hr tk (pa_c (px_var 1) pa_n)) (pa_c px_bl pa_n))))))))) (pb_one (p1_ret px_bl)) pb_nil) (pb_cons (p1_if (pxt_w (pxw_or (pxt_not (pxt_val (px_callG ((ok__law_same C).mono (by omega)) hr hgu tk (pa_c (px_callQ h_vp hr (pa_c (px_var 3) pa_n)) (pa_c (px_var 2) (pa_c px_bl pa_n)))))) (pxw_or1 (pxt_not (pxt_val (px_callG ((ok__law_twice_right C).mono (by omega)) hr hgu tk (pa_c (px_var 1) pa_n))))))) (pb_one (p1_ret px_bl)) pb_nil) (pb_cons (p1_set (i := 5) S.nd (px_callO (i := 0) ((ok__law_tree C.toFacts 8).mono (by omega)) hr tk (pa_c px_int pa_n))) (pb_cons (p1_if (pxt_not (pxt_val (px_callG ((ok__law_same C).mono (by omega)) hr hgu tk (pa_c (px_var 2) (pa_c (px_call ((ok__law_expression C.toKM 12).mono (by omega)) hr tk (pa_c (px_var 5) pa_n)) (pa_c (px_cmp (eqDO (eq_ok C) (hr.mono (by omega))) (px_call ((ok__law_written C.toFacts 12).mono (by omega)) hr tk (pa_c (px_var 5) pa_n)) (px_var 3)) pa_n)))))) (pb_one (p1_ret px_bl)) pb_nil) (pb_cons (p1_if (pxt_not (pxt_val (px_callB (allD rfl) C.b_all (pa_c (px_lc (x := "thing") (i := 6) rfl S.nd (pxi_list (px_lst (pa_c px_non (pa_c px_int (pa_c (px_var 3) (pa_c (px_var 1) (pa_c (px_lst (pa_c (px_var 2) pa_n)) (pa_c (px_tup pa_n) (pa_c (px_callB (reprD (k := 1) (ok_Expression___repr__ C.toKF) (hr.mono (by omega)) hgu) C.b_repr (pa_c (px_var 2) pa_n)) pa_n))))))))) (blkOk_by rfl) (fun _ _ _ _ _ => pg_name S.nd rfl (by first | exact .inl rfl | exact .inr rfl)) (fun _ _ _ _ _ => (px_callG ((ok__law_same C).mono (by omega)) hr hgu takesF (pa_c (px_var 2) (pa_c (px_var 6) (pa_c px_bl pa_n)))))) pa_n)))) (pb_one (p1_ret px_bl)) pb_nil) (pb_cons (p1_for hp rfl (pxi_rng1 C.b_range (pa_c px_int pa_n)) (pxg_name S.nd) (pb_cons (p1_set (i := 8) S.nd (px_callO (i := 0) ((ok__law_spoilt C.toFacts).mono (by omega)) hr tk (pa_c (px_var 3) pa_n))) (pb_cons (p1_set (i := 9) S.nd (px_call ((ok__law_read C.toKM 24).mono (by omega)) hr tk (pa_c (px_var 8) (pa_c px_int pa_n)))) (pb_cons (p1_set (i := 10) S.nd (px_and (px_cmp notND (px_var 9) px_non) (px_and (px_cmp (eqDO (eq_ok C) (hr.mono (by omega))) (px_ix (px_var 9) px_int) (px_callB lenD C.b_len (pa_c (px_var 8) pa_n))) (px_one (px_cmp leD (px_call ((ok__law_many C.toFacts 30).mono (by omega)) hr tk (pa_c (px_ix (px_var 9) px_int) pa_n)) px_int))))) (pb_one (p1_if (pxt_cmp (neDO (eq_ok C) (hr.mono (by omega))) (px_call h_vt hr tk (pa_c (px_var 8) pa_n)) (px_ifE (pxt_val (px_var 10)) (px_lst (pa_c px_str (pa_c (px_var 8) pa_n))) (px_lst (pa_c px_str (pa_c px_int pa_n))))) (pb_one (p1_ret px_bl)) pb_nil)))))) (pb_one (p1_ret px_bl)))))))))))
def m__law_right (vt : En → Res RV) (vtr : En → Res RV) : MS := (mSeq (mIf (mtNot (mtV (mB gAll (mCons (mLc (miR1 (mCons (mC (.int 8)) mNil)) 1 mtYes (mFnO 2 vtr 0 (mCons (mFnO 2 (v__law_tree 8) 0 (mCons (mFnO 2 v__law_draw 0 (mCons (mC (.int 5)) mNil)) mNil)) mNil))) mNil)))) (mRet (mC (.bl false))) mNext) (mSeq (mSet (gN 2) (mLst (mCons (mC .non) (mCons (mC (.int 0)) (mCons (mC (.bl true)) (mCons (mLst mNil) (mCons (mTup mNil) (mCons mDct0 (mCons (mLst (mCons (mC (.str "a:1")) mNil)) (mCons (mTup (mCons (mC (.str "a")) (mCons (mC (.int 1)) mNil))) (mCons (mMk "Constant" v_init_Constant (mCons (mC (.str "a")) (mCons (mC (.int 1)) mNil))) mNil))))))))))) (mRet (mAnd (mB gAll (mCons (mLc (miL (mVar 2)) 3 mtYes (mOp gEqO (mFn 1 vt (mCons (mVar 3) mNil)) (mLst (mCons (mC (.str "text")) (mCons (mC (.int 0)) mNil))))) mNil)) (mOp gEqO (mFn 1 vt (mCons (mC (.str "")) mNil)) (mLst (mCons (mC (.str "text")) (mCons (mC (.int 1)) mNil))))))))
theorem sc__law_right : FnScope ["pot", "turn", "odd", "value"] ["pot"] (defScope (top 46)) := ⟨rfl, rfl, rfl, by decide +kernel, rfl, by decide +kernel, by decide +kernel⟩
theorem st__law_right {P : Program} {w : World} {K : PySem.W.Frag} {mg : Str → Option Value} {base : Heap} (C : KE P w K mg base) {vt : En → Res RV} {vtr : En → Res RV} {k : Nat} (hk : 60 ≤ k) (h_vt : DefOk P w K mg base k "_law_told" 1 vt) (h_vtr : DefOkG P w K mg base k "_law_tree_right" 2 vtr) : DefOkG P w K mg base (k + 1) "_law_right" 1 (runB 1 4 (m__law_right vt vtr)) := by
  have S := sc__law_right
  refine def_okG (N := ["pot", "turn", "odd", "value"]) (m__law_right vt vtr) 1 C.d__law_right S rfl (fun F => F.bindsN fun _ _ _ _ _ _ us hl => match us, hl with | [_], _ => rfl) fun f cdv A outer s H E hr hgu tk hp => ?_
  exact (pb_cons (p1_if (pxt_not (pxt_val (px_callB (allD rfl) C.b_all (pa_c (px_lc (x := "turn") (i := 1) rfl S.nd (pxi_rng1 C.b_range (pa_c px_int pa_n)) (blkOk_by rfl) (fun _ _ _ _ _ => pg_name S.nd rfl (by first | exact .inl rfl | exact .inr rfl)) (fun _ _ _ _ _ => (px_callOG (i := 0) h_vtr hr hgu takesF (pa_c (px_callO (i := 0) ((ok__law_tree C.toFacts 8).mono (by omega)) hr takesF (pa_c (px_callO (i := 0) ((ok__law_draw C.toFacts).mono (by omega)) hr takesF (pa_c px_int pa_n)) pa_n)) pa_n)))) pa_n)))) (pb_one (p1_ret px_bl)) pb_nil) (pb_cons (p1_set (i := 2) S.nd (px_lst (pa_c px_non (pa_c px_int (pa_c px_bl (pa_c (px_lst pa_n) (pa_c (px_tup pa_n) (pa_c px_dct0 (pa_c (px_lst (pa_c px_str pa_n)) (pa_c (px_tup (pa_c px_str (pa_c px_int pa_n))) (pa_c (px_mk (mk_Constant C.toKM) (hr.mono (by omega)) tk (pa_c px_str (pa_c px_int pa_n))) pa_n))))))))))) (pb_one (p1_ret (px_and (px_callB (allD rfl) C.b_all (pa_c (px_lc (x := "value") (i := 3) rfl S.nd (pxi_list (px_var 2)) (blkOk_by rfl) (fun _ _ _ _ _ => pg_name S.nd rfl (by first | exact .inl rfl | exact .inr rfl)) (fun _ _ _ _ _ => (px_cmp (eqDO (eq_ok C) (hr.mono (by omega))) (px_call h_vt hr takesF (pa_c (px_var 3) pa_n)) (px_lst (pa_c px_str (pa_c px_int pa_n)))))) pa_n)) (px_one (px_cmp (eqDO (eq_ok C) (hr.mono (by omega))) (px_call h_vt hr tk (pa_c px_str pa_n)) (px_lst (pa_c px_str (pa_c px_int pa_n))))))))))
def m_law (vs : En → Res RV) (vr : En → Res RV) : MS := (mSeq (mIf (mtNot (mtV (mFn 0 vs mNil))) (mRet (mC (.bl false))) mNext) (mRet (mB gAll (mCons (mLc (miR1 (mCons (mB gMax2 (mCons (mC (.int 1)) (mCons (mB gMin2 (mCons (mC (.int 4)) (mCons (mB gLen (mCons (mVar 0) mNil)) mNil))) mNil))) mNil)) 1 mtYes (mFnF vr (mFn 2 v__law_pot (mCons (mVar 0) (mCons (mVar 1) mNil))))) mNil))))
theorem sc_law : FnScope ["script", "index"] ["script"] (defScope (top 47)) := ⟨rfl, rfl, rfl, by decide +kernel, rfl, by decide +kernel, by decide +kernel⟩
theorem st_law {P : Program} {w : World} {K : PySem.W.Frag} {mg : Str → Option Value} {base : Heap} (C : KE P w K mg base) {vs : En → Res RV} {vr : En → Res RV} {k : Nat} (dl : DefIs K mg "law" (top 47)) (hk : 60 ≤ k) (h_vs : DefOkG P w K mg base k "_law_sizes_right" 0 vs) (h_vr : DefOkG P w K mg base k "_law_right" 1 vr) : DefOkG P w K mg base (k + 1) "law" 1 (runB 1 2 (m_law vs vr)) := by
  have S := sc_law
  refine def_okG (N := ["script", "index"]) (m_law vs vr) 1 dl S rfl (fun F => F.bindsN fun _ _ _ _ _ _ us hl => match us, hl with | [_], _ => rfl) fun f cdv A outer s H E hr hgu tk hp => ?_
  exact (pb_cons (p1_if (pxt_not (pxt_val (px_callG0 h_vs hr hgu tk))) (pb_one (p1_ret px_bl)) pb_nil) (pb_one (p1_ret (px_callB (allD rfl) C.b_all (pa_c (px_lc (x := "index") (i := 1) rfl S.nd (pxi_rng1 C.b_range (pa_c (px_callB (max2D rfl) C.b_max (pa_c px_int (pa_c (px_callB (min2D rfl) C.b_min (pa_c px_int (pa_c (px_callB lenD C.b_len (pa_c (px_var 0) pa_n)) pa_n))) pa_n))) pa_n)) (blkOk_by rfl) (fun _ _ _ _ _ => pg_name S.nd rfl (by first | exact .inl rfl | exact .inr rfl)) (fun _ _ _ _ _ => (px_callFG h_vr hr hgu takesF (px_call ((ok__law_pot C.toFacts).mono (by omega)) hr takesF (pa_c (px_var 0) (pa_c (px_var 1) pa_n)))))) pa_n)))))
end K84
end
section
set_option Elab.async false
set_option linter.all false
set_option maxRecDepth 100000
set_option maxHeartbeats 4000000
namespace K84
open PySem PySem.Spec PyProof.Rows L2 PD NdefX ClX
structure ToldF (K : PySem.W.Frag) (mg : Str → Option Value) : Prop where
  gT : mg "InvalidText" = some (.ref (He.ga K "InvalidText"))
  gE : mg "InvalidExpression" = some (.ref (He.ga K "InvalidExpression"))
  gN : mg "InvalidName" = some (.ref (He.ga K "InvalidName"))
  gV : mg "InvalidValue" = some (.ref (He.ga K "InvalidValue"))
  gC : mg "CastError" = some (.ref (He.ga K "CastError"))
  gL : mg "LookupError" = none
  ix : IsxC K (He.ga K "InvalidText")
  no : PySem.W.findIn K (.ref (He.ga K "InvalidText")) "line" = some none
  ex : PySem.W.exmOne K (.ref (He.ga K "InvalidText")) (.ref (He.ga K "InvalidText")) = some true
  k4 : PySem.W.kitAny K (.ref (He.ga K "InvalidText")) [.ref (He.ga K "InvalidExpression"), .ref (He.ga K "InvalidName"), .ref (He.ga K "InvalidValue"), .type "LookupError"] = some false
  kc : PySem.W.kitOne K (.ref (He.ga K "InvalidText")) (.ref (He.ga K "CastError")) = some true
def emT (c : Str) : Option Bool := if c = "InvalidText" then some true else none
/-- the suite: told = ['text', e.line] -/
def mhT (y : Exn) : MS := fun ρ => if y.c = "InvalidText" then (match (y.ns.zip y.ds).lookup ("line" : Str) with
  | some d => (match gN 3 (.bl false) ρ with
    | some ρ1 => (match gN 1 (.lst [.str "text", d]) ρ1 with
      | some ρ2 => .nx ρ2
      | none => .no)
    | none => .no)
  | none => .no) else .no
def tsT (K : PySem.W.Frag) (a : Addr) (cls : Value) (d : Option Addr) : TS := fun D σ H => ∃ dd, cls = .ref (He.ga K "InvalidText") ∧ d = some dd ∧
  tSeq (tAsg (tCB (rIsXT K (He.ga K "InvalidText") dd a) (tCons (tVar 2) (tCons (tTup (tCons (tC (.ref (He.ga K "InvalidExpression"))) (tCons (tC (.ref (He.ga K "InvalidName"))) (tCons (tC (.ref (He.ga K "InvalidValue"))) (tCons (tC (.ty "LookupError")) tNil))))) tNil))) (gName 3))
    (tAsg (tIf (tAnd (tB (tCB (rIsX K (He.ga K "InvalidText") dd a) (tCons (tVar 2) (tCons (tC (.ref (He.ga K "CastError"))) tNil)))) (tNot (tB (tVar 3))))
      (tLst (tCons (tC (.str "text")) (tCons (tXf a cls d (He.ga K "InvalidText") "line" (tVar 2)) tNil))) (tLst (tCons (tC (.str "other")) tNil))) (gName 1)) D σ H
def m_told (vp : En → Res RV) : MS := mSeq (mSet (gN 1) (mLst (mCons (mC (.str "other")) mNil))) (mSeq (noErS (mTry emT 2
  (mSet (gN 1) (mLst (mCons (mC (.str "read")) (mCons (mB gStrE (mCons (mFn 1 vp (mCons (mVar 0) mNil)) mNil)) mNil)))) mhT)) (mRet (mVar 1)))
theorem sc_told : FnScope ["value", "told", "e", "others"] ["value"] (defScope (top 38)) := ⟨rfl, rfl, rfl, by decide +kernel, rfl, by decide +kernel, by decide +kernel⟩
theorem gN_lt {i : Nat} {d : D} {ρ ρ1 : En} (h : gN i d ρ = some ρ1) : i < ρ.length := by
  unfold gN at h
  cases e : ρ[i]? with
  | none => rw [e] at h; cases h
  | some x => exact (List.getElem?_eq_some_iff.mp e).1
theorem told_suite {K : PySem.W.Frag} {mg : Str → Option Value} (T : ToldF K mg) : SuiteT K 2 (tsT K) mhT := by
  intro n a cls d y σ ρ F H D na rx s ha he h
  unfold mhT at h
  by_cases c : y.c = "InvalidText"
  · rw [if_pos c] at h
    obtain ⟨hcls, dd, vs, hd, hF, hlen, hr⟩ := rx
    rw [c] at hcls
    cases el : (y.ns.zip y.ds).lookup ("line" : Str) with
    | none => rw [el] at h; exact h.elim
    | some l =>
      rw [el] at h
      obtain ⟨vl, hvl, rl⟩ := look_zip hr el
      have hH : H dd = some (.xd (y.ns.zip vs)) := s.same _ _ hF
      have h1 : PostS K (fun _ _ _ _ => False) n D σ ρ F H (match gN 3 (.bl false) ρ with
        | some ρ1 => (match gN 1 (.lst [.str "text", l]) ρ1 with
          | some ρ2 => .nx ρ2
          | none => .no)
        | none => .no) := h
      cases e3 : gN 3 (.bl false) ρ with
      | none => rw [e3] at h1; exact h1.elim
      | some ρ1 =>
        rw [e3] at h1
        have h2 : PostS K (fun _ _ _ _ => False) n D σ ρ F H (match gN 1 (.lst [.str "text", l]) ρ1 with
          | some ρ2 => .nx ρ2
          | none => .no) := h1
        cases e1 : gN 1 (.lst [.str "text", l]) ρ1 with
        | none => rw [e1] at h2; exact h2.elim
        | some ρ2 =>
          rw [e1] at h2
          subst hcls hd
          refine ⟨dd, rfl, rfl, ?_⟩
          refine ⟨.ref a, ha, ?_⟩
          refine ⟨by show 4 ≤ sizeLine; decide, fun p hp => ?_⟩
          obtain ⟨g1, k1⟩ := gr_newH (p := p) (o := .tup [.ref (He.ga K "InvalidExpression"), .ref (He.ga K "InvalidName"), .ref (He.ga K "InvalidValue"), .ty "LookupError"]) s.same hp
          have s1 := s.grow g1 k1
          obtain ⟨q3, w3, z3⟩ := gN_ok (n := n) s1 (.bl false) e3
          refine ⟨p, _, _, false, _, rfl, upd_same, .cons (.own _) (.cons (.own _) (.cons (.own _) (.cons (.ty _) .nil))), g1.same _ _ hH, T.k4, ?_⟩
          have h32 : (σ.set 3 (some (V.bl false)))[2]? = some (some (.ref a)) := by rw [List.getElem?_set_ne (by decide)]; exact ha
          have h33 : (σ.set 3 (some (V.bl false)))[3]? = some (some (.bl false)) := List.getElem?_set_self (by rw [s.len]; exact gN_lt e3)
          refine ⟨.ref a, h32, ?_⟩
          refine ⟨_, _, true, _, rfl, .own _, g1.same _ _ hH, T.kc, true, rfl, ?_⟩
          refine ⟨.bl false, h33, false, rfl, ?_⟩
          refine ⟨.ref a, h32, rfl, rfl, dd, _, vl, rfl, g1.same _ _ hH, hvl, ?_⟩
          refine ⟨by show 2 ≤ sizeLine; decide, fun p2 hp2 => ?_⟩
          obtain ⟨g2, k2⟩ := gr_new (p := p2) (o := .lst [.str "text", vl]) z3.same hp2
          have s2 := z3.grow g2 k2
          obtain ⟨q1, w1, z1⟩ := gN_ok (n := n) s2 (.lst (SqL.of upd_same) (.cons (.str _) (.cons (rl.mono g2.ff) .nil))) e1
          exact h2 _ _ _ ((GrowS.ofE (g1.imp fun _ z => z.elim) rfl).trans (w3.trans ((GrowS.ofE (g2.imp fun _ z => z.elim) rfl).trans w1))) z1
  · rw [if_neg c] at h; exact h.elim
theorem ok_told {P : Program} {w : World} {K : PySem.W.Frag} {mg : Str → Option Value} {base : Heap} (C : KE P w K mg base) (T : ToldF K mg) {vp : En → Res RV} {k : Nat} (hk : 60 ≤ k) (h_vp : DefOkX P w K mg base k "parse_expression" 1 vp) :
    DefOk P w K mg base (k + 1) "_law_told" 1 (runB 1 4 (m_told vp)) := by
  have S := sc_told
  refine def_ok (N := ["value", "told", "e", "others"]) (m_told vp) 1 C.d__law_told S rfl (fun F => F.bindsN fun _ _ _ _ _ _ us hl => match us, hl with | [_], _ => rfl) fun f cdv A outer s H E hr tk hp => ?_
  refine pb_cons (p1_set (i := 1) S.nd (px_lst (pa_c px_str pa_n))) (pb_cons (p1_noEr ?_) (pb_one (p1_ret (px_var 1))))
  refine p1_tryAs (c := .ref (He.ga K "InvalidText")) rfl rfl S.nd rfl rfl ⟨rfl, by decide, .inl T.gT⟩ takesF2 (fun y b q => ?_) (fun W pn xe t p => pb_one (p1_set (i := 1) S.nd (px_lst (pa_c px_str (pa_c (px_callTy (strOD (k := 1) (ok_Expression___str__ C.toKF) (hr.mono (by omega))) C.b_str (pa_c (px_callX h_vp hr t (pa_c (px_var 0) pa_n)) pa_n)) pa_n))))) (fun a oe cls d pn hz hf => ?_) (told_suite T)
  · unfold emT at q
    by_cases c : y = "InvalidText"
    · rw [if_pos c] at q; cases q; subst c; exact T.ex
    · rw [if_neg c] at q; cases q
  · refine ⟨fun pins s1 σ H1 D I ⟨dd, h1, h2, q⟩ => ?_⟩
    subst h1 h2
    refine PSs.run (X := (Cc P w K mg base ["value", "told", "e", "others"] "_law_told" (top 38) f cdv A outer s H E).suite a ((a, oe) :: pn)) ?_ pins s1 σ H1 D I q
    refine pss_cons (ps_set (i := 3) S.nd rfl (.inl rfl) (pe_callB (call_isXT T.ix hz hf) (by rfl) C.b_isinstance (by decide +kernel) (pa_cons (pv 2 (by rfl) (.inl (by rfl))) (pa_cons (pe_tup (pa_cons (pe_glob (by rfl) T.gE (by rfl)) (pa_cons (pe_glob (by rfl) T.gN (by rfl)) (pa_cons (pe_glob (by rfl) T.gV (by rfl)) (pa_cons (pe_bltn (v := .ty "LookupError") (u := .type "LookupError") (by rfl) T.gL (by decide +kernel) rfl) pa_nil))))) pa_nil))) rfl) (pss_one (ps_set (i := 1) S.nd rfl (.inl rfl) (pe_ifExp (PW.pt (pw_and (pt_val (pe_callB (call_isX T.ix hz hf) (by rfl) C.b_isinstance (by decide +kernel) (pa_cons (pv 2 (by rfl) (.inl (by rfl))) (pa_cons (pe_glob (by rfl) T.gC (by rfl)) pa_nil)))) (pw_and1 (pt_not (pt_val (pv 3 (by rfl) (.inl (by rfl))))))))
      (pe_lst (pa_cons pe_str (pa_cons (pe_xf T.ix.xf T.no hz hf (pv 2 (by rfl) (.inl (by rfl)))) pa_nil))) (pe_lst (pa_cons pe_str pa_nil)))))
end K84
end
section
set_option Elab.async false
set_option linter.all false
set_option maxRecDepth 100000
set_option maxHeartbeats 4000000
/-! a stack of pairs with inner lists, by hand: what `closed` needs -/
namespace PD
open PySem PySem.Spec PyProof.Rows L2
section
variable {K : PySem.W.Frag} {W : WX} {σ : L2.St} {ρ : En} {F H : Hp}
/-- the call of a def whose worth is known -/
theorem spF_ok {n : Nat} {f : En → Res RV} {ds : List D} {vs : List V} {Q : VK} {E : XK} {a : RV} {ρ' : En} (e : Same F H) (r : Reps K F ds vs) (hn : vs.length = n) (hf : f (ds.map .val) = .ok a ρ') (hQ : ∀ b F' H', Gr F H F' H' → Same F' H' → Rep K F' a.d b → Q b H') : spF K n f vs H Q E := by
  refine ⟨hn, ds.map .val, F, args_ok e r, ?_⟩
  rw [hf]
  intro b F' H' g s' sh q
  obtain ⟨F2, g2, s2, r2⟩ := freeze (args_ok e r) g s' sh q
  exact hQ b F2 H' (g2.imp fun b z => (args_noown z).elim) s2.same r2
theorem spF_er {n : Nat} {f : En → Res RV} {ds : List D} {vs : List V} {Q : VK} {E : XK} {x : Exn} {ρ' : En} (e : Same F H) (r : Reps K F ds vs) (hn : vs.length = n) (hf : f (ds.map .val) = .er x ρ') (hE : ∀ c d F' H', Gr F H F' H' → Same F' H' → RepX K F' x c d → E c d H') : spF K n f vs H Q E := by
  refine ⟨hn, ds.map .val, F, args_ok e r, ?_⟩
  rw [hf]
  intro c d F' H' g s' sh q
  exact hE c d F' H' (g.imp fun b z => (args_noown z).elim) s'.same q
/-- no own slot -/
def noOwn (ρ : En) : Prop := ∀ (i : Nat) l, ρ[i]? ≠ some (Sl.own l)
theorem noOwn.not {b : Addr} (h : noOwn ρ) : ¬ Own σ ρ b := fun ⟨i, d, h1, _⟩ => h i d h1
theorem stEmp (e : Same F H) : StOk K F H σ (σ.map fun _ => .emp) where
  same := e
  len := by rw [List.length_map]
  sl := fun i x s h1 h2 => by
    rw [List.getElem?_map, h1] at h2
    cases h2
    cases x <;> trivial
  inj := fun i j a d e h1 => by
    rw [List.getElem?_map] at h1
    cases q : σ[i]? with
    | none => rw [q] at h1; cases h1
    | some x => rw [q] at h1; cases h1
theorem noOwn_emp : noOwn (σ.map fun _ => Sl.emp) := fun i l h => by
  rw [List.getElem?_map] at h
  cases q : σ[i]? with
  | none => rw [q] at h; cases h
  | some x => rw [q] at h; cases h
/-- the making of an instance, from what its constructor is worth -/
theorem mk_end {c : Str} {f : En → Res RV} {ds : List D} {vs : List V} {Q : Hp → Prop} {E : XK} {x dx : Addr} (s : Same F H) (r1 : Reps K F ds vs) (hx : H x = none) (hdx : H dx = none) (hne : dx ≠ x)
    (h : match f (.own (.ins c [] []) :: ds.map .val) with
      | .ok (.val .non) (.own l :: _) => ∀ F' H', Gr F H F' H' → Same F' H' → Rep K F' l.d (.ref x) → Q H'
      | .er y (.own _ :: _) => ∀ cls d F' H', Gr F H F' H' → Same F' H' → RepX K F' y cls d → E cls d H'
      | _ => False) : spV K f (.ref x :: vs) (upd (upd H dx (.own x)) x (.ins (He.ga K c) dx [])) (fun v H2 => v = .non ∧ Q H2) E := by
  have fx : F x = none := Same.free s hx
  have sm : Same F (upd (upd H dx (.own x)) x (.ins (He.ga K c) dx [])) := fun b o z => by
    have z1 := s b o z
    rw [upd_ne (ne_of_none z1 hx), upd_ne (ne_of_none z1 hdx)]
    exact z1
  refine ⟨.own (.ins c [] []) :: ds.map .val, F, own_args_ok (l := .ins c [] []) sm r1 upd_same fx ⟨[], rfl, rfl, rfl, .nil⟩, ?_⟩
  have oo : ∀ {b : Addr}, Own ((V.ref x :: vs).map some) (.own (.ins c [] []) :: ds.map .val) b → b = x := fun {b} ⟨j, d, q1, q2⟩ => by
    cases j with
    | zero => rw [List.map_cons, List.getElem?_cons_zero] at q2; cases q2; rfl
    | succ j =>
      rw [List.getElem?_cons_succ, List.getElem?_map] at q1
      cases q : ds[j]? with
      | none => rw [q] at q1; cases q1
      | some d => rw [q] at q1; cases q1
  have gr : ∀ {F' H' : Hp}, Grow (Own ((V.ref x :: vs).map some) (.own (.ins c [] []) :: ds.map .val)) F (upd (upd H dx (.own x)) x (.ins (He.ga K c) dx [])) F' H' → Gr F H F' H' := fun {F' H'} g => by
    have up : ∀ {b : Addr}, H b ≠ none → upd (upd H dx (.own x)) x (.ins (He.ga K c) dx []) b = H b := fun {b} z => by
      rw [upd_ne (fun e => z (by rw [e]; exact hx)), upd_ne (fun e => z (by rw [e]; exact hdx))]
    refine ⟨g.ff, fun b o z _ => ?_, fun b z => g.ht b (by rw [up z]; exact z), fun b z q => g.fr b (by rw [up z]; exact z) q⟩
    have zn : H b ≠ none := by rw [z]; exact fun e => nomatch e
    exact g.hh b o (by rw [up zn]; exact z) fun e => zn (by rw [oo e]; exact hx)
  cases e : f (.own (.ins c [] []) :: ds.map .val) with
  | no => rw [e] at h; exact h.elim
  | ok a ρ' =>
    rw [e] at h
    cases a with
    | fr oc => exact h.elim
    | val dv =>
      cases dv with
      | non =>
        cases ρ' with
        | nil => exact h.elim
        | cons s0 r =>
          cases s0 with
          | emp => exact h.elim
          | val d => exact h.elim
          | own l =>
            intro v F' H' g s' sh q
            cases q
            obtain ⟨a2, u2, k1, k2, k3, k4⟩ := s'.sl 0 _ _ rfl rfl
            cases k1
            refine ⟨rfl, ?_⟩
            have g' := gr g
            have st : StOk K F H ([] : L2.St) [] := ⟨s, rfl, fun i x s h1 => by simp at h1, fun i j a d e h1 => by simp at h1⟩
            obtain ⟨F2, g2, s2, r2⟩ := freeze (a := .fr l) (v := .ref x) st (g'.imp fun _ z => z.elim) (st.grow g' s'.same) rfl ⟨x, u2, rfl, hx, k3, k2, k4⟩
            exact h F2 H' (g2.imp fun _ ⟨i, d, z, _⟩ => by simp at z) s2.same r2
      | _ => exact h.elim
  | er y ρ' =>
    rw [e] at h
    cases ρ' with
    | nil => exact h.elim
    | cons s0 r =>
      cases s0 with
      | emp => exact h.elim
      | val d => exact h.elim
      | own l =>
        exact fun cls d F' H' g s' sh q => h cls d F' H' (gr g) s'.same q
end
section
variable {X : Cx} {W : WX} {k : Nat} {f : En → Res RV} {c : Str} {p pos : Pos} {e : Expr} {es : List Expr} {t : TA}
/-- C(e, .., *y) -/
theorem pe_mkS (F : MakeOk X.prog X.w X.K X.mg X.base k c f) (hr : Room (k + 1) X.A) (tk : L2N.Takes X W) (ha : PA X (e :: es) t) (hg : Gl X c := by rfl) (hdb : (c == ("__debug__" : Str)) = false := by decide)
    (he : starEach (e :: es) X.env = (false, eval e X.env) :: starEach es X.env := by rfl) (hst : (backTo pos (starEach es X.env)).any (·.1) = true := by rfl) : PE X (.Call (.Name c p) (e :: es) [] pos)
    (fun σ H Q => t σ H fun vs H1 => ∀ x dx, H1 x = none → H1 dx = none → dx ≠ x → spV X.K f (.ref x :: vs) (upd (upd H1 dx (.own x)) x (.ins (He.ga X.K c) dx [])) (fun v H2 => v = .non ∧ Q (.ref x) H2) (WE W σ)) := ⟨fun pins s σ H Q I h => by
  obtain ⟨g, M, Fg⟩ := F.ex
  refine wpAny_Call_Name_kw (ld_glob I hg F.gl ?_ hdb)
  refine PySem.W.callWith_S2 (h₀ := X.base) I.ok.mod.kin M.kp (thn (ha.run pos pins s σ H _ I h) fun us s1 ⟨vs, H1, I1, r, q⟩ => ⟨I1.kIn, ?_⟩) he hst
  exact run_makeS M Fg hr (L2N.passAt tk σ) I1 r q⟩
/-- a list != [] -/
def rNeE : R2 := fun x y H Q => ∃ p q xs, x = .ref p ∧ y = .ref q ∧ H p = some (.lst xs) ∧ H q = some (.lst []) ∧ Q (.bl (!xs.isEmpty)) H
theorem op_neE (hu : X.A.units + 1 < cLine) : OpR X (compareOp .NotEq) rNeE := by
  intro pins s σ H x y v u Q I rx ry ⟨p, q, xs, hx, hy, hp, hq, h⟩
  subst hx hy
  obtain rfl : v = .ref p := rx
  obtain rfl : u = .ref q := ry
  obtain ⟨its, rv1, pl1, _⟩ := I.list (SqL.of hp)
  obtain ⟨its2, rv2, pl2, _⟩ := I.list (SqL.of hq)
  have l1 := pl1.isList
  have l2 := pl2.isList
  cases rv2
  show wpAny (model X.prog X.w) X.A (richCompare .NotEq (.ref p) (.ref q)) (EP X pins σ Q) X.xe s
  cases xs with
  | nil =>
    cases rv1
    exact SeqAt.RcNeAt.lists (e := fun _ => true) l1 l2 rfl (by omega) (fun j h1 => absurd h1 (Nat.not_lt_zero _)) _ _ _ _ ⟨.bl false, H, I, rfl, h⟩
  | cons z zs =>
    cases rv1 with
    | cons a b => exact SeqAt.RcNeAt.lists_lengths l1 l2 (by simp) (by omega) _ _ _ _ ⟨.bl true, H, I, rfl, h⟩
end
end PD
end
section
set_option Elab.async false
set_option linter.all false
set_option maxRecDepth 100000
set_option maxHeartbeats 4000000
/-! `closed`, by hand -/
namespace K84
open PySem PySem.Spec PyProof.Rows L2 PD NdefX ClX StX
/-- Application(op, *ps) -/
def appR (op : Str) (ps : List D) : Res RV := match v_init_Application (.own (.ins "Application" [] []) :: (D.str op :: ps).map .val) with
  | .ok (.val .non) (.own l :: _) => .ok (.fr l) []
  | .er x (.own _ :: _) => .er x []
  | _ => .no
inductive CR where
  | cont (st : List (Str × List D)) (i : Int) | done (d : D) (i : Int) | er (x : Exn) | no
/-- what `closed` does: the stack's top first -/
def clGo (t : Str) : List (Str × List D) → D → Int → CR
  | [], f, i => .done f i
  | (op, ps) :: rest, f, i =>
    if cutS t (some i) (some (i + 1)) = "," ∧ ps.length + 1 < 2 then .cont ((op, ps ++ [f]) :: rest) (i + 1)
    else if cutS t (some i) (some (i + 1)) = ")" then (match appR op (ps ++ [f]) with
      | .ok a _ => clGo t rest a.d (i + 1)
      | .er x _ => .er x
      | .no => .no)
    else .er ⟨"InvalidText", ["line"], [.int 1]⟩
section
variable {K : PySem.W.Frag} {H0 F H F' H' : Hp}
inductive Its (K : PySem.W.Frag) (H0 F H : Hp) : List (Str × List D) → List V → List Addr → Prop where
  | nil : Its K H0 F H [] [] []
  | cons {n : Str} {ps : List D} {t l : Addr} {ws : List V} {st : List (Str × List D)} {vs : List V} {ls : List Addr} : H t = some (.tup [.str n, .ref l]) → H l = some (.lst ws) → F l = none → H0 l = none → Reps K F ps ws → ps.length ≤ 1 → Its K H0 F H st vs ls → Its K H0 F H ((n, ps) :: st) (.ref t :: vs) (l :: ls)
def Stk (K : PySem.W.Frag) (H0 F H : Hp) (o : Addr) (st : List (Str × List D)) : Prop := ∃ vs ls, H o = some (.lst vs.reverse) ∧ F o = none ∧ H0 o = none ∧ Its K H0 F H st vs ls ∧ (o :: ls).Nodup
theorem Its.len : ∀ {st : List (Str × List D)} {vs : List V} {ls : List Addr}, Its K H0 F H st vs ls → vs.length = st.length
  | _, _, _, .nil => rfl
  | _, _, _, .cons _ _ _ _ _ _ r => congrArg (· + 1) r.len
theorem Its.upd {l : Addr} {w0 w : List V} (hl : H l = some (.lst w0)) {st : List (Str × List D)} {vs : List V} {ls : List Addr} (h : Its K H0 F H st vs ls) (hn : l ∉ ls) : Its K H0 F (L2.upd H l (.lst w)) st vs ls := by
  induction h with
  | nil => exact .nil
  | cons h1 h2 h3 h4 h5 h6 r ih =>
    refine .cons ?_ ?_ h3 h4 h5 h6 (ih fun z => hn (List.mem_cons_of_mem _ z))
    · rw [upd_ne (fun e => by rw [e, hl] at h1; cases h1)]; exact h1
    · rw [upd_ne (fun e => hn (by rw [e]; exact List.mem_cons_self))]; exact h2
theorem Its.grow (g : Gr F H F' H') : ∀ {st : List (Str × List D)} {vs : List V} {ls : List Addr}, Its K H0 F H st vs ls → Its K H0 F' H' st vs ls
  | _, _, _, .nil => .nil
  | _, _, _, .cons h1 h2 h3 h4 h5 h6 r => .cons (g.same _ _ h1) (g.same _ _ h2) (g.fr _ (by rw [h2]; exact fun z => nomatch z) h3) h4 (h5.mono g.ff) h6 (Its.grow g r)
theorem Stk.grow {o : Addr} {st : List (Str × List D)} (g : Gr F H F' H') (h : Stk K H0 F H o st) : Stk K H0 F' H' o st := by
  obtain ⟨vs, ls, h1, h2, h3, h4, h5⟩ := h
  exact ⟨vs, ls, g.same _ _ h1, g.fr _ (by rw [h1]; exact fun z => nomatch z) h2, h3, h4.grow g, h5⟩
/-- what was not there ahead may change -/
abbrev O0 (H0 : Hp) : Addr → Prop := fun b => H0 b = none
abbrev Gr0 (H0 F H F' H' : Hp) : Prop := Grow (O0 H0) F H F' H'
theorem gr0 (g : Gr F H F' H') : Gr0 H0 F H F' H' := g.imp fun _ z => z.elim
theorem gr0_upd {l : Addr} {w : HO} (h0 : H0 l = none) (hf : F l = none) (e : Same F H) : Gr0 H0 F H F (L2.upd H l w) ∧ Same F (L2.upd H l w) := by
  refine ⟨⟨Same.refl _, fun b o h n => by rw [upd_ne (fun z => n (by rw [z]; exact h0))]; exact h, fun b h => ?_, fun _ _ h => h⟩, fun b o h => ?_⟩
  · by_cases c : b = l
    · rw [c, upd_same]; exact fun z => nomatch z
    · rw [upd_ne c]; exact h
  · rw [upd_ne (ne_of_none h hf)]; exact e b o h
/-- the end of `closed` -/
def CP (K : PySem.W.Frag) (H0 : Hp) (Q : VK) (E : XK) (o : Addr) (F H : Hp) : CR → Prop
  | .cont st i => ∀ F' H' p, Gr0 H0 F H F' H' → Same F' H' → Stk K H0 F' H' o st → H' p = some (.tup [.non, .int i]) → Q (.ref p) H'
  | .done d i => ∀ F' H' p v, Gr0 H0 F H F' H' → Same F' H' → Stk K H0 F' H' o [] → Rep K F' d v → H' p = some (.tup [v, .int i]) → Q (.ref p) H'
  | .er x => ∀ cls dd F' H', Gr0 H0 F H F' H' → Same F' H' → RepX K F' x cls dd → E cls dd H'
  | .no => False
theorem CP.step {Q : VK} {E : XK} {o : Addr} {r : CR} (g : Gr0 H0 F H F' H') (h : CP K H0 Q E o F H r) : CP K H0 Q E o F' H' r := by
  cases r with
  | cont st i => exact fun F2 H2 p k => h F2 H2 p (g.trans k)
  | done d i => exact fun F2 H2 p v k => h F2 H2 p v (g.trans k)
  | er x => exact fun c d F2 H2 k => h c d F2 H2 (g.trans k)
  | no => exact h
/-- the promise of `closed` -/
def spCl (K : PySem.W.Frag) : Sp := fun vs H Q E => ∃ (o : Addr) (fv : V) (t : Str) (i : Int) (H0 F : Hp) (st : List (Str × List D)) (fnd : D), vs = [.ref o, fv, .str t, .int i] ∧ t.length ≤ sizeLine ∧ Same F H ∧ Stk K H0 F H o st ∧ Rep K F fnd fv ∧ CP K H0 Q E o F H (clGo t st fnd i)
end
theorem sc_closed : FnScope ["opened", "found", "text", "at", "operator", "parts", "sign"] ["opened", "found", "text", "at"] (defScope (top 21)) := ⟨rfl, rfl, rfl, by decide +kernel, rfl, by decide +kernel, by decide +kernel⟩
structure ClOk (P : Program) (w : World) (K : PySem.W.Frag) (mg : Str → Option Value) (base : Heap) (k : Nat) : Prop where
  ex : ∃ fa fd ps, FnOk P w K mg base (L2N.CX P w) k fa fd ps (spCl K) ∧ mg "closed" = some (.ref fa) ∧ PySem.W.keepIn K (.ref fa) = true ∧ Binds K fd ps [] ∧ ps.length = 4
abbrev clN : List Str := ["opened", "found", "text", "at", "operator", "parts", "sign"]
/-- between two turns -/
def clW (K : PySem.W.Frag) (H0 : Hp) (Q : VK) (E : XK) (o : Addr) (t : Str) : Nat → L2.St → Hp → Prop := fun m σ H => ∃ (F : Hp) (st : List (Str × List D)) (fnd : D) (i : Int) (fv : V) (x4 x5 x6 : Option V), m = st.length ∧
  σ = [some (.ref o), some fv, some (.str t), some (.int i), x4, x5, x6] ∧ Same F H ∧ Stk K H0 F H o st ∧ Rep K F fnd fv ∧ CP K H0 Q E o F H (clGo t st fnd i)
theorem atI_last {α : Type} {v : α} {vs : List α} : atI (v :: vs).reverse (-1) = some v := by
  unfold atI ixN
  rw [if_neg (by decide), if_pos (by rw [List.length_reverse, List.length_cons]; omega)]
  show (v :: vs).reverse[((-1 : Int) + ((v :: vs).reverse.length : Nat)).toNat]? = some v
  rw [List.length_reverse, List.length_cons, show ((-1 : Int) + ((vs.length + 1 : Nat) : Int)).toNat = vs.length from by omega, List.reverse_cons, List.getElem?_append_right (by simp), List.length_reverse, Nat.sub_self]
  rfl
theorem emp7 : noOwn [.emp, .emp, .emp, .emp, .emp, .emp, .emp] := noOwn_emp (σ := [none, none, none, none, none, none, none])
theorem ifT {c A B : Prop} [Decidable c] (h : c) (a : A) : if c then A else B := by rw [if_pos h]; exact a
theorem ifF {c A B : Prop} [Decidable c] (h : ¬ c) (a : B) : if c then A else B := by rw [if_neg h]; exact a
theorem ok_closed {P : Program} {w : World} {K : PySem.W.Frag} {mg : Str → Option Value} {base : Heap} (C : KM P w K mg base) : ClOk P w K mg base 7 := by
  obtain ⟨f, fd, hm, FD⟩ := C.d_closed
  have S := sc_closed
  refine ⟨f, fd, ["opened", "found", "text", "at"], ?_, hm, FD.kp, FD.bindsN fun _ _ _ _ _ _ us hl => match us, hl with | [_, _, _, _], _ => rfl, rfl⟩
  refine FD.ok S (fun vs H Q E h => by obtain ⟨o, fv, t, i, H0, F, st, fnd, rfl, _⟩ := h; rfl) (fun cdv A outer s H vs Q E hr h => ?_)
  have tk : L2N.Takes (Cc P w K mg base clN "closed" (top 21) f cdv A outer s H E) (WW E) := L2N.takes_of rfl rfl rfl rfl
  have hp : PassesOwn (model P w) (Cc P w K mg base clN "closed" (top 21) f cdv A outer s H E).A (Cc P w K mg base clN "closed" (top 21) f cdv A outer s H E).env (Cc P w K mg base clN "closed" (top 21) f cdv A outer s H E).xe := passes_of rfl
  have hr : Room 6 (Cc P w K mg base clN "closed" (top 21) f cdv A outer s H E).A := hr
  refine ⟨_, pss_cons (ps_while (X := Cc P w K mg base clN "closed" (top 21) f cdv A outer s H E) hp (pt_cmpR (op_neE (by have := hu hr; omega)) (pv 0) (pe_lst pa_nil) (nomark _))
    (pss_cons (ps_asg (pe_ix ix_list (pv 0) (pe_un un_neg pe_int) (fun _ _ => rfl)) (pg_tup rfl (pgs_cons (pg_name (i := 4) S.nd rfl (.inl rfl)) (pgs_cons (pg_name (i := 5) S.nd rfl (.inl rfl)) pgs_nil))))
    (pss_cons (ps_expr (pe_bm PySem.F.plainAttrs_list PySem.F.slot_list_append PySem.F.type_list_append mt_append (pv 5) (pa_cons (pv 1) pa_nil)))
    (pss_cons (ps_set (i := 6) S.nd rfl (.inl rfl) (pe_slice sl_str (pv 2) (po_some (pv 3)) (po_some (pe_op op_add (pv 3) pe_int))))
    (pss_cons (ps_if (PW.pt (pw_and (pt_cmpR op_eq (pv 6) pe_str (nomark _)) (pw_and1 (pt_cmpR op_lt (pe_callB call_len_seq (by rfl) C.b_len (by decide +kernel) (pa_cons (pv 5) pa_nil)) (pe_glob (v := .int 2) (by rfl) (Classical.choose_spec C.c_MAX_PARTS) ⟨_, rfl⟩) (nomark _)))))
        (pss_one (ps_ret (pe_tup (pa_cons pe_non (pa_cons (pe_op op_add (pv 3) pe_int) pa_nil))))) pss_nil)
    (pss_cons (ps_if (pt_cmpR op_ne (pv 6) pe_str (nomark _)) (pss_one ((p1_raise (n := 0) rfl tk C.e_InvalidText (hr.mono (by omega)) px_int).run [.emp, .emp, .emp, .emp, .emp, .emp, .emp])) pss_nil)
    (pss_cons (ps_expr (pe_bm0 PySem.F.plainAttrs_list PySem.F.slot_list_pop PySem.F.type_list_pop mt_pop (pv 0)))
    (pss_cons (ps_set (i := 1) S.nd rfl (.inl rfl) (pe_mkS (mk_Application C) hr tk (pa_cons (pv 4) (pa_star (pv 5) pa_nil))))
    (pss_one (ps_aug (i := 3) S.nd rfl (.inl rfl) pe_int ip_add)))))))))) (pss_one (ps_ret (pe_tup (pa_cons (pv 1) (pa_cons (pv 3) pa_nil))))), ?_⟩
  obtain ⟨o, fv, t, i, H0, F, st, fnd, rfl, hz, e, hs, rf, hc⟩ := h
  refine ⟨clW K H0 Q E o t, ⟨st.length, F, st, fnd, i, fv, none, none, none, rfl, rfl, e, hs, rf, hc⟩, ?_⟩
  rintro m σ H1 ⟨F, st, fnd, i, fv, x4, x5, x6, rfl, rfl, e, ⟨vs, ls, ho, hfo, h0o, hits, hnd⟩, rf, hc⟩
  refine ⟨.ref o, rfl, by decide, fun p hp => ?_⟩
  obtain ⟨g1, e1⟩ := gr_newH (o := .lst []) e hp
  have ho1 := g1.same _ _ ho
  have hits1 := hits.grow (H0 := H0) g1
  have hc1 := hc.step (gr0 g1)
  refine ⟨o, p, vs.reverse, rfl, rfl, ho1, upd_same, _, rfl, ?_⟩
  cases hits1 with
  | nil =>
    show (if (!([] : List V).reverse.isEmpty) = true then _ else _)
    rw [if_neg (by simp)]
    refine ⟨fv, rfl, .int i, rfl, by show 2 ≤ sizeLine; decide, fun q hq => ?_⟩
    obtain ⟨g2, e2⟩ := gr_newH (o := .tup [fv, .int i]) e1 hq
    exact hc1 F _ q fv (gr0 g2) e2 ⟨[], [], g2.same _ _ ho1, hfo, h0o, .nil, hnd⟩ rf upd_same
  | @cons n ps tt l ws st vs ls h1 h2 h3 h4 h5 h6 r =>
    rw [if_pos (by simp)]
    refine ⟨fun σ' H' => ∃ m', m' < ((n, ps) :: st).length ∧ clW K H0 Q E o t m' σ' H', fun σ' H' z => z, ?_⟩
    -- operator, parts = opened[-1]
    refine ⟨.ref o, rfl, 1, rfl, o, _, -1, .ref tt, rfl, rfl, SqL.of ho1, atI_last, tt, [.str n, .ref l], rfl, SqT.of h1, rfl, .str n, [.ref l], rfl, .ref l, [], rfl, rfl, ?_⟩
    -- parts.append(found)
    refine ⟨.ref l, rfl, .inl ⟨rfl, _, SqL.of h2⟩, fv, rfl, l, ws, fv, rfl, rfl, h2, ?_, ?_⟩
    · have := Reps.length h5
      exact Nat.lt_of_le_of_lt (show ws.length ≤ 1 by omega) (by decide)
    have hol : o ≠ l := fun z => (List.nodup_cons.mp hnd).1 (by rw [z]; exact List.mem_cons_self)
    have hlls : l ∉ ls := (List.nodup_cons.mp (List.nodup_cons.mp hnd).2).1
    have hnd2 : (o :: ls).Nodup := List.nodup_cons.mpr ⟨fun z => (List.nodup_cons.mp hnd).1 (List.mem_cons_of_mem _ z), (List.nodup_cons.mp (List.nodup_cons.mp hnd).2).2⟩
    obtain ⟨g2, e2⟩ := gr0_upd (w := .lst (ws ++ [fv])) h4 h3 e1
    have hc2 := hc1.step g2
    have ho2 : upd (upd H1 p (.lst [])) l (.lst (ws ++ [fv])) o = some (.lst (V.ref tt :: vs).reverse) := by rw [upd_ne hol]; exact ho1
    have r2 := r.upd (w := ws ++ [fv]) h2 hlls
    have h12 : upd (upd H1 p (.lst [])) l (.lst (ws ++ [fv])) tt = some (.tup [.str n, .ref l]) := by rw [upd_ne (fun z => by rw [z, h2] at h1; cases h1)]; exact h1
    have h22 : upd (upd H1 p (.lst [])) l (.lst (ws ++ [fv])) l = some (.lst (ws ++ [fv])) := upd_same
    have h52 : Reps K F (ps ++ [fnd]) (ws ++ [fv]) := h5.append (.cons rf .nil)
    have hwl : (ws ++ [fv]).length = ps.length + 1 := by rw [List.length_append, Reps.length h5]; rfl
    generalize upd (upd H1 p (.lst [])) l (.lst (ws ++ [fv])) = H2 at g2 e2 hc2 ho2 r2 h12 h22 ⊢
    -- sign = text[at:at + 1]
    refine ⟨.str t, rfl, .int i, rfl, i, rfl, .int i, rfl, i, 1, rfl, rfl, i + 1, rfl, t, rfl, hz, ?_⟩
    refine ⟨.str (cutS t (some i) (some (i + 1))), rfl, rfl, _, rfl, ?_⟩
    have key : ∀ {G R : Prop}, (G → R) → G → R := fun f g => f g
    by_cases hcm : cutS t (some i) (some (i + 1)) = "," ∧ ps.length + 1 < 2
    · have hc3 : CP K H0 Q E o F H2 (.cont ((n, ps ++ [fnd]) :: st) (i + 1)) := by
        have z := hc2
        rw [clGo, if_pos hcm] at z
        exact z
      refine ifT (by simp [hcm.1]) ?_
      refine ⟨.ref l, rfl, l, ws ++ [fv], rfl, .inl (SqL.of h22), _, 2, rfl, rfl, _, rfl, ?_⟩
      refine ifT (by rw [hwl]; have := hcm.2; simp; omega) ?_
      refine ⟨.int i, rfl, i, 1, rfl, rfl, by show 2 ≤ sizeLine; decide, fun q hq => ?_⟩
      obtain ⟨g3, e3⟩ := gr_newH (o := .tup [.non, .int (i + 1)]) e2 hq
      refine hc3 F _ q (gr0 g3) e3 ?_ upd_same
      refine Stk.grow g3 ⟨.ref tt :: vs, l :: ls, ho2, hfo, h0o, .cons h12 h22 h3 h4 h52 ?_ r2, hnd⟩
      rw [List.length_append]
      exact Nat.le_of_lt_succ hcm.2
    by_cases h0 : cutS t (some i) (some (i + 1)) = ","
    · have hne : ¬ cutS t (some i) (some (i + 1)) = ")" := by rw [h0]; decide
      refine ifT (by simp [h0]) ?_
      refine ⟨.ref l, rfl, l, ws ++ [fv], rfl, .inl (SqL.of h22), _, 2, rfl, rfl, _, rfl, ?_⟩
      refine ifF (by rw [hwl]; have hl : ¬ ps.length + 1 < 2 := fun z => hcm ⟨h0, z⟩; simp; omega) ?_
      refine ⟨.str (cutS t (some i) (some (i + 1))), rfl, rfl, _, rfl, ?_⟩
      have hc3 : CP K H0 Q E o F H2 (.er ⟨"InvalidText", ["line"], [.int 1]⟩) := by
        have z := hc2
        rw [clGo, if_neg hcm, if_neg hne] at z
        exact z
      refine ifT (by simp [hne]) ?_
      refine ⟨F, stEmp (σ := [_, _, _, _, _, _, _]) e2, ?_⟩
      exact fun cls d σ' F' H' g s' rx => hc3 cls d F' H' (gr0 (g.g.imp fun b z => (emp7.not z).elim)) s'.same rx
    refine ifF (by simp [h0]) ?_
    refine ifF (by decide) ?_
    refine ⟨.str (cutS t (some i) (some (i + 1))), rfl, rfl, _, rfl, ?_⟩
    by_cases hcl : cutS t (some i) (some (i + 1)) = ")"
    · have hc3 : CP K H0 Q E o F H2 (match appR n (ps ++ [fnd]) with
        | .ok a _ => clGo t st a.d (i + 1)
        | .er x _ => .er x
        | .no => .no) := by
        have z := hc2
        rw [clGo, if_neg hcm, if_pos hcl] at z
        exact z
      refine ifF (by simp [hcl]) ?_
      -- opened.pop()
      refine ⟨.ref o, rfl, .inl ⟨rfl, _, SqL.of ho2⟩, o, _, .ref tt, rfl, rfl, ho2, ?_, ?_⟩
      · rw [List.length_reverse, List.length_cons, List.reverse_cons, List.getElem?_append_right (by simp)]
        simp
      have ed : (V.ref tt :: vs).reverse.dropLast = vs.reverse := by rw [List.reverse_cons, List.dropLast_concat]
      rw [ed]
      obtain ⟨g3, e3⟩ := gr0_upd (w := .lst vs.reverse) h0o hfo e2
      have hc4 := hc3.step g3
      have ho3 : upd H2 o (.lst vs.reverse) o = some (.lst vs.reverse) := upd_same
      have r3 := r2.upd (w := vs.reverse) ho2 (List.nodup_cons.mp hnd2).1
      have h23 : upd H2 o (.lst vs.reverse) l = some (.lst (ws ++ [fv])) := by rw [upd_ne (Ne.symm hol)]; exact h22
      generalize upd H2 o (.lst vs.reverse) = H3 at g3 e3 hc4 ho3 r3 h23 ⊢
      -- found = Application(operator, *parts)
      refine ⟨.str n, rfl, .ref l, rfl, l, ws ++ [fv], rfl, .inr (SqL.of h23), fun x dx hx hdx hne => ?_⟩
      have hargs : Reps K F (D.str n :: (ps ++ [fnd])) (V.str n :: ((ws ++ [fv]) ++ [])) := by rw [List.append_nil]; exact .cons (.str n) h52
      refine PD.mk_end e3 hargs hx hdx hne ?_
      have hc5 : CP K H0 Q E o F H3 (match (match v_init_Application (.own (.ins "Application" [] []) :: (D.str n :: (ps ++ [fnd])).map .val) with
          | .ok (.val .non) (.own l :: _) => (Res.ok (RV.fr l) [] : Res RV)
          | .er x (.own _ :: _) => .er x []
          | _ => .no) with
        | .ok a _ => clGo t st a.d (i + 1)
        | .er x _ => .er x
        | .no => .no) := hc4
      cases ev : v_init_Application (.own (.ins "Application" [] []) :: (D.str n :: (ps ++ [fnd])).map .val) with
      | no => rw [ev] at hc5; exact hc5.elim
      | er y ρ' =>
        rw [ev] at hc5
        cases ρ' with
        | nil => exact hc5.elim
        | cons s0 rr => cases s0 with
          | emp => exact hc5.elim
          | val d => exact hc5.elim
          | own oc => exact fun cls dd F' H' g4 e4 rx => hc5 cls dd F' H' (gr0 g4) e4 rx
      | ok a ρ' =>
        rw [ev] at hc5
        cases a with
        | fr oc => exact hc5.elim
        | val dv => cases dv with
          | non => cases ρ' with
            | nil => exact hc5.elim
            | cons s0 rr => cases s0 with
              | emp => exact hc5.elim
              | val d => exact hc5.elim
              | own oc =>
                exact fun F' H' g4 e4 rb => ⟨.int i, rfl, i, 1, rfl, rfl, st.length, Nat.lt_succ_self _, F', st, oc.d, i + 1, .ref x, _, _, _, rfl, rfl, e4, Stk.grow g4 ⟨vs, ls, ho3, hfo, h0o, r3, hnd2⟩, rb, CP.step (gr0 g4) hc5⟩
          | _ => exact hc5.elim
    · have hc3 : CP K H0 Q E o F H2 (.er ⟨"InvalidText", ["line"], [.int 1]⟩) := by
        have z := hc2
        rw [clGo, if_neg hcm, if_neg hcl] at z
        exact z
      refine ifT (by simp [hcl]) ?_
      refine ⟨F, stEmp (σ := [_, _, _, _, _, _, _]) e2, ?_⟩
      exact fun cls d σ' F' H' g s' rx => hc3 cls d F' H' (gr0 (g.g.imp fun b z => (emp7.not z).elim)) s'.same rx
end K84
end
section
set_option Elab.async false
set_option linter.all false
set_option maxRecDepth 100000
set_option maxHeartbeats 4000000
/-! `read_expression`, by hand; `parse_expression` -/
namespace K84
open PySem PySem.Spec PyProof.Rows L2 PD NdefX ClX StX
def it1 : Res RV := .er ⟨"InvalidText", ["line"], [.int 1]⟩ []
abbrev abc : Str := "abcdefghijklmnopqrstuvwxyz"
def mSign : MT := mtOr (mtNot (mtV (mFn 1 v_is_name (mCons (mVar 4) mNil)))) (mtV (mOp gNotIn (mVar 5) (mTup (mCons (mC (.str "(")) (mCons (mC (.str ":")) mNil)))))
def rdE (t name sign : Str) : En := [.val (.str t), .emp, .emp, .emp, .val (.str name), .val (.str sign), .emp]
def rdGo (t : Str) : Nat → List (Str × List D) → Int → Res RV
  | 0, _, _ => .no
  | n + 1, st, i =>
    if st.length < 60 then (match v_run_end ([.str t, .int i, .str abc].map .val) with
      | .ok a _ => (match a.d with
        | .int e => (match mSign (rdE t (cutS t (some i) (some e)) (cutS t (some e) (some (e + 1)))) with
          | .ok true _ => it1
          | .ok false _ => if cutS t (some e) (some (e + 1)) = "(" then rdGo t n ((cutS t (some i) (some e), []) :: st) (e + 1)
            else (match v_read_constant ([.str (cutS t (some i) (some e)), .str t, .int (e + 1)].map .val) with
              | .ok c _ => (match c.d with
                | .tup [f, .int j] => (match clGo t st f j with
                  | .cont st' k => rdGo t n st' k
                  | .done d k => if d.isN = false then (if k = t.length then .ok (.val d) [] else it1) else .no
                  | .er x => .er x []
                  | .no => .no)
                | _ => .no)
              | .er x _ => .er x []
              | .no => .no)
          | _ => .no)
        | _ => .no)
      | _ => .no)
    else it1
def v_read_expression : En → Res RV := fun ρ => match ρ with
  | [.val (.str t)] => if t.length ≤ top1 then (match rdGo t 100000 [] 0 with
    | .ok a _ => .ok (.val a.d) ρ
    | .er x _ => .er x ρ
    | .no => .no) else .no
  | _ => .no
section
variable {K : PySem.W.Frag} {H0 F H F' H' : Hp}
def RP (K : PySem.W.Frag) (H0 : Hp) (Q : VK) (E : XK) (F H : Hp) : Res RV → Prop
  | .ok a _ => ∀ F' H' v, Gr0 H0 F H F' H' → Same F' H' → Rep K F' a.d v → Q v H'
  | .er x _ => ∀ cls dd F' H', Gr0 H0 F H F' H' → Same F' H' → RepX K F' x cls dd → E cls dd H'
  | .no => False
theorem RP.step {Q : VK} {E : XK} {r : Res RV} (g : Gr0 H0 F H F' H') (h : RP K H0 Q E F H r) : RP K H0 Q E F' H' r := by
  cases r with
  | ok a ρ => exact fun F2 H2 v k => h F2 H2 v (g.trans k)
  | er x ρ => exact fun c d F2 H2 k => h c d F2 H2 (g.trans k)
  | no => exact h
end
theorem st7 {K : PySem.W.Frag} {F H : Hp} (e : Same F H) {t a b : Str} {x1 x2 x3 x6 : Option V} : StOk K F H [some (.str t), x1, x2, x3, some (.str a), some (.str b), x6] (rdE t a b) where
  same := e
  len := rfl
  sl := fun i x s h1 h2 => by
    match i, h1, h2 with
    | 0, h1, h2 => cases h1; cases h2; exact .str t
    | 1, h1, h2 => cases h1; cases h2; cases x1 <;> trivial
    | 2, h1, h2 => cases h1; cases h2; cases x2 <;> trivial
    | 3, h1, h2 => cases h1; cases h2; cases x3 <;> trivial
    | 4, h1, h2 => cases h1; cases h2; exact .str a
    | 5, h1, h2 => cases h1; cases h2; exact .str b
    | 6, h1, h2 => cases h1; cases h2; cases x6 <;> trivial
    | i + 7, h1, _ => simp at h1
  inj := fun i j a d e h1 => by
    match i, h1 with
    | 0, h1 => cases h1
    | 1, h1 => cases h1
    | 2, h1 => cases h1
    | 3, h1 => cases h1
    | 4, h1 => cases h1
    | 5, h1 => cases h1
    | 6, h1 => cases h1
    | i + 7, h1 => simp [rdE] at h1
theorem no7 {t a b : Str} : noOwn (rdE t a b) := fun i l h1 => by
    match i, h1 with
    | 0, h1 => cases h1
    | 1, h1 => cases h1
    | 2, h1 => cases h1
    | 3, h1 => cases h1
    | 4, h1 => cases h1
    | 5, h1 => cases h1
    | 6, h1 => cases h1
    | i + 7, h1 => simp [rdE] at h1
theorem read_start {K : PySem.W.Frag} {F H : Hp} {Q : VK} {E : XK} {vs : List V} {ρ : En} (s : StOk K F H (vs.map some) ρ) (h : Post K (fun cls d _ H => E cls d H) (RepV K) (vs.map some) ρ F H (v_read_expression ρ) Q) :
    ∃ t, vs = [.str t] ∧ t.length ≤ top1 ∧ RP K H Q E F H (rdGo t 100000 [] 0) := by
  unfold v_read_expression at h
  split at h
  · rename_i t
    have hv : vs = [.str t] := by
      have hl := s.len
      match vs, hl with
      | [v], _ =>
        have z : Rep K F (.str t) v := s.sl 0 _ _ rfl rfl
        cases z; rfl
    subst hv
    by_cases c : t.length ≤ top1
    · rw [if_pos c] at h
      refine ⟨t, rfl, c, ?_⟩
      have own : ∀ {F' H'}, Gr0 H F H F' H' → Grow (Own ([V.str t].map some) [.val (.str t)]) F H F' H' := fun g => ⟨g.ff, fun b o q _ => g.hh b o q (by show H b ≠ none; rw [q]; exact fun z => nomatch z), g.ht, g.fr⟩
      have sok : ∀ {F' H' : Hp}, Same F' H' → StOk K F' H' ([V.str t].map some) [.val (.str t)] := fun e' => args_ok (ds := [.str t]) e' (.cons (.str t) .nil)
      cases er : rdGo t 100000 [] 0 with
      | no => rw [er] at h; exact h.elim
      | er x ρ' => rw [er] at h; exact fun cls dd F' H' g e' rx => h cls dd F' H' (own g) (sok e') rfl rx
      | ok a ρ' =>
        rw [er] at h
        exact fun F' H' v g e' rv => h v F' H' (own g) (sok e') rfl rv
    · rw [if_neg c] at h; exact h.elim
  · exact h.elim
theorem Its.there {K : PySem.W.Frag} {H0 F H : Hp} {l : Addr} {st : List (Str × List D)} {vs : List V} {ls : List Addr} (h : Its K H0 F H st vs ls) (hl : l ∈ ls) : H l ≠ none := by
  induction h with
  | nil => cases hl
  | cons h1 h2 h3 h4 h5 h6 r ih =>
    rcases List.mem_cons.mp hl with q | q
    · rw [q, h2]; exact fun z => nomatch z
    · exact ih q
theorem pair_of {G : Res RV → Prop} (h0 : ¬ G .no) {k : D → Int → Res RV} {cd : D} (h : G (match cd with | .tup [f, .int j] => k f j | _ => .no)) : ∃ f j, cd = .tup [f, .int j] ∧ G (k f j) := by
  cases cd with
  | tup l => cases l with
    | nil => exact absurd h h0
    | cons f l => cases l with
      | nil => exact absurd h h0
      | cons j l => cases l with
        | nil => cases j with
          | int j => exact ⟨f, j, rfl, h⟩
          | _ => exact absurd h h0
        | cons a b => cases j <;> exact absurd h h0
  | _ => exact absurd h h0
theorem sc_read_expression : FnScope ["text", "opened", "at", "end", "name", "sign", "found"] ["text"] (defScope (top 22)) := ⟨rfl, rfl, rfl, by decide +kernel, rfl, by decide +kernel, by decide +kernel⟩
abbrev rdN : List Str := ["text", "opened", "at", "end", "name", "sign", "found"]
def rdW (K : PySem.W.Frag) (H0 : Hp) (Q : VK) (E : XK) (o : Addr) (t : Str) : Nat → L2.St → Hp → Prop := fun m σ H => ∃ (F : Hp) (st : List (Str × List D)) (i : Int) (x3 x4 x5 x6 : Option V),
  σ = [some (.str t), some (.ref o), some (.int i), x3, x4, x5, x6] ∧ (∀ b, H0 b ≠ none → H b ≠ none) ∧ Same F H ∧ Stk K H0 F H o st ∧ RP K H0 Q E F H (rdGo t m st i)
theorem ok_read_expression {P : Program} {w : World} {K : PySem.W.Frag} {mg : Str → Option Value} {base : Heap} (C : KM P w K mg base) : DefOk P w K mg base 8 "read_expression" 1 v_read_expression := by
  obtain ⟨f, fd, hm, FD⟩ := C.d_read_expression
  have S := sc_read_expression
  refine ⟨f, fd, ["text"], ?_, hm, FD.kp, FD.bindsN fun _ _ _ _ _ _ us hl => match us, hl with | [_], _ => rfl, rfl⟩
  obtain ⟨f1, fd1, ps1, F1, m1, k1, b1, _⟩ := ((ok_run_end C.toFacts).mono (show 1 ≤ 7 by omega)).ex
  obtain ⟨f2, fd2, ps2, F2, m2, k2, b2, _⟩ := ((ok_read_constant C).mono (show 6 ≤ 7 by omega)).ex
  obtain ⟨f3, fd3, ps3, F3, m3, k3, b3, _⟩ := (ok_closed C).ex
  refine FD.ok S (fun vs H Q E h => h.1) (fun cdv A outer s H vs Q E hr h => ?_)
  have tk : L2N.Takes (Cc P w K mg base rdN "read_expression" (top 22) f cdv A outer s H E) (WW E) := L2N.takes_of rfl rfl rfl rfl
  have hp : PassesOwn (model P w) (Cc P w K mg base rdN "read_expression" (top 22) f cdv A outer s H E).A (Cc P w K mg base rdN "read_expression" (top 22) f cdv A outer s H E).env (Cc P w K mg base rdN "read_expression" (top 22) f cdv A outer s H E).xe := passes_of rfl
  have hr : Room 7 (Cc P w K mg base rdN "read_expression" (top 22) f cdv A outer s H E).A := hr
  refine ⟨_, pss_cons (ps_par (X := Cc P w K mg base rdN "read_expression" (top 22) f cdv A outer s H E) (i := 1) (j := 2) rfl S.nd rfl rfl (by decide) rfl rfl (pa_cons (pe_lst pa_nil) (pa_cons pe_int pa_nil)) (by rfl) (by rfl))
    (pss_cons (ps_while hp (pt_cmpR op_lt (pe_callB call_len_seq (by rfl) C.b_len (by decide +kernel) (pa_cons (pv 1) pa_nil)) (pe_glob (v := .int 60) (by rfl) (Classical.choose_spec C.c_MAX_SIZE) ⟨_, rfl⟩) (nomark _))
    (pss_cons (ps_set (i := 3) S.nd rfl (.inl rfl) (pe_callS F1 hr (by rfl) m1 k1 b1 (fun σ => L2N.passAt tk σ) (pa_cons (pv 0) (pa_cons (pv 2) (pa_cons (pe_glob (v := .str abc) (by rfl) (Classical.choose_spec C.c_LETTERS_expressions) ⟨_, rfl⟩) pa_nil)))))
    (pss_cons (ps_par (i := 4) (j := 5) rfl S.nd rfl rfl (by decide) rfl rfl (pa_cons (pe_slice sl_str (pv 0) (po_some (pv 2)) (po_some (pv 3))) (pa_cons (pe_slice sl_str (pv 0) (po_some (pv 3)) (po_some (pe_op op_add (pv 3) pe_int))) pa_nil)) (by rfl) (by rfl))
    (pss_cons (ps_if (PXT.ex (W := WW E) (pxt_w (pxw_or (pxt_not (pxt_val (px_call ((ok_is_name C.toKF).mono (show 1 ≤ 7 by omega)) hr tk (pa_c (px_var 4) pa_n)))) (pxw_or1 (pxt_cmp notInD (px_var 5) (px_tup (pa_c px_str (pa_c px_str pa_n)))))))) (pss_one ((p1_raise (n := 0) rfl tk C.e_InvalidText (hr.mono (by omega)) px_int).run [.emp, .emp, .emp, .emp, .emp, .emp, .emp])) pss_nil)
    (pss_cons (ps_if (pt_cmpR op_eq (pv 5) pe_str (nomark _))
      (pss_cons (ps_expr (pe_bm PySem.F.plainAttrs_list PySem.F.slot_list_append PySem.F.type_list_append mt_append (pv 1) (pa_cons (pe_tup (pa_cons (pv 4) (pa_cons (pe_lst pa_nil) pa_nil))) pa_nil)))
      (pss_cons (ps_set (i := 2) S.nd rfl (.inl rfl) (pe_op op_add (pv 3) pe_int)) (pss_one ps_continue))) pss_nil)
    (pss_cons (ps_asg (pe_callS F2 hr (by rfl) m2 k2 b2 (fun σ => L2N.passAt tk σ) (pa_cons (pv 4) (pa_cons (pv 0) (pa_cons (pe_op op_add (pv 3) pe_int) pa_nil)))) (pg_tup rfl (pgs_cons (pg_name (i := 6) S.nd rfl (.inl rfl)) (pgs_cons (pg_name (i := 2) S.nd rfl (.inl rfl)) pgs_nil))))
    (pss_cons (ps_asg (pe_callS F3 hr (by rfl) m3 k3 b3 (fun σ => L2N.passAt tk σ) (pa_cons (pv 1) (pa_cons (pv 6) (pa_cons (pv 0) (pa_cons (pv 2) pa_nil))))) (pg_tup rfl (pgs_cons (pg_name (i := 6) S.nd rfl (.inl rfl)) (pgs_cons (pg_name (i := 2) S.nd rfl (.inl rfl)) pgs_nil))))
    (pss_one (ps_if (pt_cmpR op_notN (pv 6) pe_non (nomark _)) (pss_cons (ps_if (pt_cmpR op_ne (pv 2) (pe_callB call_len_str (by rfl) C.b_len (by decide +kernel) (pa_cons (pv 0) pa_nil)) (nomark _)) (pss_one ((p1_raise (n := 0) rfl tk C.e_InvalidText (hr.mono (by omega)) px_int).run [.emp, .emp, .emp, .emp, .emp, .emp, .emp])) pss_nil) (pss_one (ps_ret (pv 6)))) pss_nil)))))))))
    (pss_one ((p1_raise (n := 0) rfl tk C.e_InvalidText (hr.mono (by omega)) px_int).run [.emp, .emp, .emp, .emp, .emp, .emp, .emp]))), ?_⟩
  obtain ⟨hn, ρ, F00, st0, h⟩ := h
  have e00 := st0.same
  obtain ⟨t, rfl, hz0, hc⟩ := read_start st0 h
  have hz : t.length ≤ sizeLine := top1_le hz0
  clear h st0 hn
  refine ⟨by decide, fun o ho => ⟨.ref o, .int 0, rfl, ?_⟩⟩
  obtain ⟨g0, e0⟩ := gr_newH (o := .lst []) e00 ho
  refine ⟨rdW K H Q E o t, ⟨100000, F00, [], 0, none, none, none, none, rfl, g0.ht, e0, ⟨[], [], upd_same, Same.free e00 ho, ho, .nil, by simp⟩, hc.step (gr0 g0)⟩, ?_⟩
  clear hc g0 e0
  rintro m σ H1 ⟨F, st, i, x3, x4, x5, x6, rfl, kk, e, hs, hc⟩
  obtain ⟨vs, ls, hso, hfo, h0o, hits, hnd⟩ := hs
  have hlen : (vs.reverse).length = st.length := by rw [List.length_reverse]; exact hits.len
  refine ⟨.ref o, rfl, o, vs.reverse, rfl, .inl (SqL.of hso), _, 60, rfl, rfl, _, rfl, ?_⟩
  cases m with
  | zero => exact hc.elim
  | succ n =>
    by_cases hl : st.length < 60
    · rw [rdGo, if_pos hl] at hc
      refine ifT (by rw [hlen]; simp; omega) ?_
      refine ⟨fun σ' H' => ∃ m', m' < n + 1 ∧ rdW K H Q E o t m' σ' H', fun σ' H' z => z, ?_⟩
      refine ⟨.str t, rfl, .int i, rfl, ?_⟩
      cases ev : v_run_end ([.str t, .int i, .str abc].map .val) with
      | no => rw [ev] at hc; exact hc.elim
      | er x ρ' => rw [ev] at hc; exact hc.elim
      | ok a ρ' =>
        rw [ev] at hc
        refine spF_ok (F := F) (ds := [.str t, .int i, .str abc]) e (.cons (.str _) (.cons (.int _) (.cons (.str _) .nil))) rfl ev (fun b F2 H2 g2 e2 rb => ?_)
        dsimp only at hc
        generalize a.d = ad at hc rb
        cases ad with
        | int z =>
          cases rb
          have hs2 : Stk K H F2 H2 o st := Stk.grow g2 ⟨vs, ls, hso, hfo, h0o, hits, hnd⟩
          have kk := fun b q => g2.ht b (kk b q)
          have hc := hc.step (gr0 g2)
          dsimp only at hc
          clear ev e hso hfo h0o hits hnd hlen g2
          -- name, sign = text[at:end], text[end:end + 1]
          refine ⟨.str t, rfl, .int i, rfl, i, rfl, .int z, rfl, z, rfl, t, rfl, hz, .str t, rfl, .int z, rfl, z, rfl, .int z, rfl, z, 1, rfl, rfl, z + 1, rfl, t, rfl, hz, _, _, rfl, ?_⟩
          refine ⟨rdE t (cutS t (some i) (some z)) (cutS t (some z) (some (z + 1))), F2, st7 e2, ?_⟩
          show Post _ _ _ _ _ _ _ (mSign (rdE t (cutS t (some i) (some z)) (cutS t (some z) (some (z + 1))))) _
          cases em : mSign (rdE t (cutS t (some i) (some z)) (cutS t (some z) (some (z + 1)))) with
          | no => rw [em] at hc; exact hc.elim
          | er x ρ' => rw [em] at hc; exact hc.elim
          | ok bb ρ' =>
            rw [em] at hc
            intro b F3 H3 g3 s3 sh rb
            subst rb
            have g3 : Gr F2 H2 F3 H3 := g3.imp fun b z => (no7.not z).elim
            have hs3 := hs2.grow g3
            have kk := fun b q => g3.ht b (kk b q)
            have e3 := s3.same
            cases b with
            | true =>
              have hc3 : RP K H Q E F3 H3 it1 := RP.step (gr0 g3) hc
              refine ⟨F3, stEmp (σ := [_, _, _, _, _, _, _]) e3, ?_⟩
              exact fun cls d σ' F' H' g s' rx => hc3 cls d F' H' (gr0 (g.g.imp fun b z => (emp7.not z).elim)) s'.same rx
            | false =>
              have hc3 := RP.step (gr0 g3) hc
              dsimp only at hc3
              clear em s3 sh hc hs2 e2 g3
              refine ⟨.str (cutS t (some z) (some (z + 1))), rfl, rfl, _, rfl, ?_⟩
              by_cases hso : cutS t (some z) (some (z + 1)) = "("
              · rw [if_pos hso] at hc3
                refine ifT (by simp [hso]) ?_
                obtain ⟨vs, ls, hso, hfo, h0o, hits, hnd⟩ := hs3
                refine ⟨.ref o, rfl, .inl ⟨rfl, _, SqL.of hso⟩, .str (cutS t (some i) (some z)), rfl, by decide, fun l hl0 => ⟨by show 2 ≤ sizeLine; decide, fun q hq => ?_⟩⟩
                obtain ⟨g4, e4⟩ := gr_newH (o := .lst []) e3 hl0
                obtain ⟨g5, e5⟩ := gr_newH (o := .tup [.str (cutS t (some i) (some z)), .ref l]) e4 hq
                have ho5 := g5.same _ _ (g4.same _ _ hso)
                have hl5 := g5.same _ _ (upd_same (H := H3) (a := l) (o := .lst []))
                have hl3 : F3 l = none := Same.free e3 hl0
                have hH : ∀ {b : Addr}, H3 b = none → H b = none := fun {b} q => Decidable.byContradiction fun z => kk b z q
                have hol : o ≠ l := fun q => by rw [q, hl0] at hso; cases hso
                have hlls : l ∉ ls := fun q => hits.there q hl0
                obtain ⟨g6, e6⟩ := gr0_upd (H0 := H) (w := .lst (vs.reverse ++ [.ref q])) h0o hfo e5
                refine ⟨o, vs.reverse, .ref q, rfl, rfl, ho5, by rw [List.length_reverse, hits.len]; exact Nat.lt_of_lt_of_le hl (by decide), ?_⟩
                refine ⟨.int z, rfl, z, 1, rfl, rfl, n, Nat.lt_succ_self _, F3, (cutS t (some i) (some z), []) :: st, z + 1, _, _, _, _, rfl, fun b q => ((gr0 (H0 := H) g4).trans ((gr0 g5).trans g6)).ht b (kk b q), e6, ⟨.ref q :: vs, l :: ls, ?_, hfo, h0o, ?_, ?_⟩, RP.step ((gr0 g4).trans ((gr0 g5).trans g6)) hc3⟩
                · rw [List.reverse_cons]; exact upd_same
                · have hits5 := (hits.grow (H0 := H) (g4.trans (g5.imp fun _ z => z.elim))).upd (w := vs.reverse ++ [.ref q]) ho5 (List.nodup_cons.mp hnd).1
                  have hoq : o ≠ q := fun q' => by rw [← q', g4.same _ _ hso] at hq; cases hq
                  refine .cons ?_ ?_ hl3 (hH hl0) .nil (Nat.zero_le _) hits5
                  · rw [upd_ne (Ne.symm hoq)]; exact upd_same
                  · rw [upd_ne (Ne.symm hol)]; exact hl5
                · refine List.nodup_cons.mpr ⟨fun q' => ?_, List.nodup_cons.mpr ⟨hlls, (List.nodup_cons.mp hnd).2⟩⟩
                  rcases List.mem_cons.mp q' with q' | q'
                  · exact hol q'
                  · exact (List.nodup_cons.mp hnd).1 q'
              · rw [if_neg hso] at hc3
                refine ifF (by simp [hso]) ?_
                refine ⟨.str (cutS t (some i) (some z)), rfl, .str t, rfl, .int z, rfl, z, 1, rfl, rfl, ?_⟩
                cases ev : v_read_constant ([.str (cutS t (some i) (some z)), .str t, .int (z + 1)].map .val) with
                | no => rw [ev] at hc3; exact hc3.elim
                | er x ρ' =>
                  rw [ev] at hc3
                  exact spF_er (F := F3) (ds := [.str (cutS t (some i) (some z)), .str t, .int (z + 1)]) e3 (.cons (.str _) (.cons (.str _) (.cons (.int _) .nil))) rfl ev fun cls dd F' H' g e' rx => hc3 cls dd F' H' (gr0 g) e' rx
                | ok c ρ' =>
                  rw [ev] at hc3
                  refine spF_ok (F := F3) (ds := [.str (cutS t (some i) (some z)), .str t, .int (z + 1)]) e3 (.cons (.str _) (.cons (.str _) (.cons (.int _) .nil))) rfl ev (fun b F4 H4 g4 e4 rb => ?_)
                  have hc4 := RP.step (gr0 g4) hc3
                  have hs4 := hs3.grow g4
                  have kk := fun b q => g4.ht b (kk b q)
                  clear hc3 hs3 ev e3 g4
                  dsimp only at hc4
                  generalize c.d = cd at rb hc4
                  obtain ⟨fnd, j, ecd, hc6⟩ : ∃ fnd j, cd = D.tup [fnd, .int j] ∧ RP K H Q E F4 H4 (match clGo t st fnd j with
                    | .cont st' k => rdGo t n st' k
                    | .done d k => if d.isN = false then (if k = t.length then .ok (.val d) [] else it1) else .no
                    | .er x => .er x []
                    | .no => .no) := by
                    exact pair_of (G := RP K H Q E F4 H4) (fun z => z) hc4
                  clear hc4
                  have hc4 := hc6
                  clear hc6
                  subst ecd
                  obtain ⟨pt, fv, rfl, hs', rf⟩ : ∃ pt fv, b = .ref pt ∧ SqT K F4 pt [fv, .int j] ∧ Rep K F4 fnd fv := by
                    cases rb with
                    | tup hs' hr' =>
                      cases hr' with
                      | cons rf hr2 =>
                        cases hr2 with
                        | cons rj hr3 =>
                          cases hr3
                          cases rj
                          exact ⟨_, _, rfl, hs', rf⟩
                  refine ⟨_, [fv, .int j], rfl, same_seqT e4 hs', rfl, fv, [.int j], rfl, .int j, [], rfl, rfl, ?_⟩
                  refine ⟨.ref o, rfl, fv, rfl, .str t, rfl, .int j, rfl, ?_⟩
                  refine ⟨o, fv, t, j, H, F4, st, fnd, rfl, hz, e4, hs4, rf, ?_⟩
                  cases ec : clGo t st fnd j with
                  | no => rw [ec] at hc4; exact hc4.elim
                  | er x => rw [ec] at hc4; exact fun cls dd F' H' g e' rx => hc4 cls dd F' H' g e' rx
                  | cont st' k =>
                    rw [ec] at hc4
                    intro F' H' p g e' hs' hp
                    refine ⟨p, [.non, .int k], rfl, SqT.of hp, rfl, .non, [.int k], rfl, .int k, [], rfl, rfl, ?_⟩
                    refine ⟨.non, rfl, rfl, _, rfl, ?_⟩
                    refine ifF (by decide) ?_
                    exact ⟨n, Nat.lt_succ_self _, F', st', k, _, _, _, _, rfl, fun b q => g.ht b (kk b q), e', hs', RP.step g hc4⟩
                  | done d k =>
                    rw [ec] at hc4
                    dsimp only at hc4
                    by_cases hd : d.isN = false
                    · rw [if_pos hd] at hc4
                      intro F' H' p v g e' hs' rv hp
                      have hc5 := RP.step g hc4
                      refine ⟨p, [v, .int k], rfl, SqT.of hp, rfl, v, [.int k], rfl, .int k, [], rfl, rfl, ?_⟩
                      refine ⟨v, rfl, rfl, _, rfl, ?_⟩
                      refine ifT (by rw [rep_non rv, hd]; rfl) ?_
                      refine ⟨.int k, rfl, .str t, rfl, t, rfl, hz, rfl, _, rfl, ?_⟩
                      by_cases hk : k = t.length
                      · rw [if_pos hk] at hc5
                        refine ifF (by simp [hk]) ?_
                        exact ⟨v, rfl, hc5 F' H' v Grow.refl e' rv⟩
                      · rw [if_neg hk] at hc5
                        refine ifT (by simp [hk]) ?_
                        refine ⟨F', stEmp (σ := [_, _, _, _, _, _, _]) e', ?_⟩
                        exact fun cls d σ' F' H' g s' rx => hc5 cls d F' H' (gr0 (g.g.imp fun b z => (emp7.not z).elim)) s'.same rx
                    · rw [if_neg hd] at hc4; exact hc4.elim
        | _ => exact hc.elim
    · rw [rdGo, if_neg hl] at hc
      refine ifF (by rw [hlen]; simp; omega) ?_
      refine ⟨F, stEmp (σ := [_, _, _, _, _, _, _]) e, ?_⟩
      exact fun cls d σ' F' H' g s' rx => hc cls d F' H' (gr0 (g.g.imp fun b z => (emp7.not z).elim)) s'.same rx
end K84
end
section
set_option Elab.async false
set_option linter.all false
set_option maxRecDepth 100000
set_option maxHeartbeats 4000000
/-! `parse_expression` -/
namespace K84
open PySem PySem.Spec PyProof.Rows L2 PD NdefX ClX StX
def emP (c : Str) : Option Bool := if c = "InvalidExpression" then some true else if c = "InvalidText" then some false else none
structure ParseF (K : PySem.W.Frag) : Prop where
  e1 : PySem.W.exmOne K (.ref (He.ga K "InvalidExpression")) (.ref (He.ga K "InvalidExpression")) = some true
  e2 : PySem.W.exmOne K (.ref (He.ga K "InvalidText")) (.ref (He.ga K "InvalidExpression")) = some false
def m_parse : MS := mSeq (mIf (mtNot (mtV (mUn (gIsT "str") (mVar 0)))) (mRaise "InvalidText" "line" (mC (.int 0))) mNext) (mTryR emP 1 "InvalidText" "line" 1 (mRet (mFn 1 v_read_expression (mCons (mVar 0) mNil))))
def v_parse : En → Res RV := runB 1 2 m_parse
theorem sc_parse_expression : FnScope ["text", "e"] ["text"] (defScope (top 23)) := ⟨rfl, rfl, rfl, by decide +kernel, rfl, by decide +kernel, by decide +kernel⟩
theorem ok_parse_expression {P : Program} {w : World} {K : PySem.W.Frag} {mg : Str → Option Value} {base : Heap} (C : KM P w K mg base) (T : ToldF K mg) (T2 : ParseF K) : DefOkX P w K mg base 9 "parse_expression" 1 v_parse := by
  obtain ⟨f, fd, hm, FD⟩ := C.d_parse_expression
  have S := sc_parse_expression
  refine ⟨f, fd, ["text"], fn_pdX (N := ["text", "e"]) (ps := ["text"]) (k := 8) m_parse FD S (fun cdv A outer s H E hr tk hpa => ?_), hm, FD.kp, FD.bindsN fun _ _ _ _ _ _ us hl => match us, hl with | [_], _ => rfl, rfl⟩
  refine pb_cons (p1_if (pxt_not (pxt_val (px_isT "str" C.j (by decide) (px_var 0) C.b_str))) (pb_one (p1_raise rfl (takesN tk) C.e_InvalidText (hr.mono (by omega)) px_int)) pb_nil) (pb_one ?_)
  exact p1_tryR rfl rfl S.nd rfl rfl (by decide) (by decide) ⟨rfl, by decide, .inl T.gE⟩ hpa tk (fun _ _ _ _ _ z => z)
    (fun z b q => by
      unfold emP at q
      by_cases c : z = "InvalidExpression"
      · rw [if_pos c] at q; cases q; subst c; exact T2.e1
      · rw [if_neg c] at q
        by_cases c2 : z = "InvalidText"
        · rw [if_pos c2] at q; cases q; subst c2; exact T2.e2
        · rw [if_neg c2] at q; cases q)
    (fun z q => by
      unfold emP at q
      by_cases c : z = "InvalidExpression"
      · subst c; exact raises_own C.e_InvalidExpression.cls.exC C.e_InvalidExpression.cls.tyC
      · rw [if_neg c] at q
        by_cases c2 : z = "InvalidText"
        · rw [if_pos c2] at q; cases q
        · rw [if_neg c2] at q; cases q)
    C.e_InvalidText (hr.mono (by omega)) (by rfl) (by decide)
    (fun W pn xe t p => pb_one (p1_ret (px_call (ok_read_expression C) hr t (pa_c (px_var 0) pa_n))))
end K84
end
section
set_option Elab.async false
set_option linter.all false
set_option maxRecDepth 100000
set_option maxHeartbeats 2000000
/-! repr((obj,)) with an own __repr__ -/
namespace PD
open PySem PySem.Spec PyProof.Rows L2
section
variable {prog : Program} {w : World} {A : Around} {E : Value → Shared → Prop} {s : Shared} {K : PySem.W.Frag} {a x C f : Addr} {o ox : Obj} {od : Option Obj} {n : Nat}
abbrev tupCode (a : Addr) : Code := .builtin "tuple.__repr__" ⟨[.ref a], []⟩
theorem ifBoundBy_K {M : Model} {last : Value → List Value → Sem Value} {name : Str} {Q : Option Value → Shared → Prop} (X : K.In s.heap) (I : PySem.W.InstAt s.heap x ox C od) (hs : PySem.W.findIn K (.ref C) name = some (some (.ref f))) (hf : PySem.W.isFn K (.ref f) = true)
    (h : wpAny M A (last (.ref f) [.ref x]) (fun v => Q (some v)) E s) : wpAny M A (callSpecialIfBoundBy? last (.ref x) name) Q E s := by
  simp only [callSpecialIfBoundBy?, bindSpecialIfBound?]
  refine wpAny_holding (wpAny_bind (wpAny_bind (wpAny_bind (I.type.here ((PySem.W.looks_findIn X hs).here ?_)))))
  refine wpAny_bind (wpAny_askSetting (wpAny_ite ?_))
  have fin : wpAny M A (last (.ref f) [.ref x] >>= fun v => pure (some v)) Q E s := wpAny_bind (wpAny_mono h (fun v s' h' => wpAny_pure h') fun _ _ h' => h')
  split
  · exact wpAny_bind ((PySem.W.bind_fn X _ (beq_iff_eq.mp hf)).here (wpAny_pure (by exact fin)))
  · exact wpAny_tryCatch (wpAny_bind ((PySem.W.bind_fn X _ (beq_iff_eq.mp hf)).here (wpAny_pure (by exact fin))))
theorem reprUnder_K {b : Nat} {Q : Str → Shared → Prop} (hb : b ≤ sizeLine) (hu : A.units < cLine) (X : K.In s.heap) (I : PySem.W.InstAt s.heap x ox C od) (hs : PySem.W.findIn K (.ref C) "__repr__" = some (some (.ref f))) (hf : PySem.W.isFn K (.ref f) = true)
    (h : wpAny (model prog w) A (call (.ref f) [.ref x]) (fun v s' => ∃ z t, v = .str z t ∧ Q z s') E s) : wpAny (model prog w) A (pyReprUnder b (.ref x)) Q E s := by
  refine wpAny_pyReprUnder_ref hb ?_
  unfold pyReprObjUnder pyReprObjBy
  refine wpAny_bind (wpAny_cRoomFor hu ?_)
  refine wpAny_bind (wpAny_bind (I.type.here ((PySem.W.looks_findIn X hs).here ?_)))
  show wpAny _ _ (if (some (Value.ref f)).isNone = true then _ else _) _ _ _
  rw [if_neg (by simp)]
  refine wpAny_bind (ifBoundBy_K (name := Str.ofString "__repr__") X I hs hf (wpAny_mono h (fun v s' hv => ?_) fun _ _ z => z))
  obtain ⟨z, t, rfl, hq⟩ := hv
  refine wpAny_bind (wpAny_isInstance (T := "str") (b := true) rfl isSubtype_str_str ?_)
  exact wpAny_pure ⟨z, t, rfl, hq⟩
theorem call_repr_tup1 {Q : Value → Shared → Prop} (ha : s.heap.get? a = some o) (hc : o.cls = .type "tuple") (hd : o.data = .seq #[.ref x] n) (hg : A.guards = some []) (hu : A.units + 5 < cLine) (X : K.In s.heap) (I : PySem.W.InstAt s.heap x ox C od)
    (hs : PySem.W.findIn K (.ref C) "__repr__" = some (some (.ref f))) (hf : PySem.W.isFn K (.ref f) = true)
    (h : wpAny (model prog w) (A.in1.under (tupCode a)) (call (.ref f) [.ref x]) (fun v s' => ∃ z t, v = .str z t ∧ z.length + 10 ≤ sizeLine ∧ ∀ u tk, Q (.str (tupleText [z]) u) { s' with toks := tk }) E s) :
    wpAny (model prog w) A (call (.builtin "repr") [.ref a]) Q E s := by
  have hT : s.TypeIs (.ref a) "tuple" := ⟨o, ha, hc⟩
  refine call_repr_slot (T := "tuple") (by omega) hT PySem.F.slot_tuple_repr ?_
  refine wpAny_call (codeAny_call_builtin_own (Code.quiet_builtin _ (by decide +kernel)) PySem.F.entry_tuple_repr (PySem.F.slot_tuple_repr.check _ _ _ _ _ _ _ _ hT (PySem.F.args_tuple_repr_1 _) ?_))
  show wpOwn _ _ _ (Builtin.tupleReprAt 0 ⟨[.ref a], []⟩) _ _ _
  rw [tuple_repr_tree, tupleReprUnderWay_eq]
  refine wpOwn_bind (wpOwn_stackTailAny (g := []) hg (tupGuardF_off _) (tupGuardF_pos _) ?_)
  show wpOwn _ _ _ (if false = true then _ else _) _ _ _
  rw [if_neg (by decide)]
  refine wpOwn_of_wpAny ?_
  unfold tupleReprRest Builtin.Tuple.tupleItemsOf
  refine wpAny_bind (wpAny_bind (wpAny_seqItems ha hd (wpAny_pure ?_)))
  rw [← Array.forIn_toList]
  show wpAny _ _ (forIn [Value.ref x] _ tupBody >>= _) _ _ _
  rw [List.forIn_cons]
  refine wpAny_bind (wpAny_bind (wpAny_bind (reprUnder_K (b := 1) (by decide) (by rw [units_under_tuple_repr]; show A.units + 1 + 1 < cLine; omega) X I hs hf (wpAny_mono h (fun v s' hv => ?_) fun _ _ z => z))))
  obtain ⟨z, t, rfl, hz, hq⟩ := hv
  refine ⟨z, t, rfl, wpAny_pure ?_⟩
  show wpAny _ _ (forIn [] _ tupBody) _ _ _
  rw [List.forIn_nil]
  refine wpAny_pure ?_
  have hlen : (tupleText [z]).length = z.length + 3 := by
    unfold tupleText
    rw [strLen_append, strLen_append]
    show 1 + z.length + 2 = _
    omega
  refine wpAny_bind (wpAny_mkStr (wpAny_pure ?_) (by
    show (tupleText [z]).length ≤ sizeLine
    omega))
  exact ⟨_, _, rfl, hq _ _⟩
theorem under_frames (A : Around) (a : Addr) : (A.in1.under (tupCode a)).frames = A.frames := rfl
theorem under_handled (A : Around) (a : Addr) : (A.in1.under (tupCode a)).handled = A.handled := rfl
theorem under_units (A : Around) (a : Addr) : (A.in1.under (tupCode a)).units = A.units + 2 := by rw [units_under_tuple_repr]
theorem under_depth (A : Around) (a : Addr) : (A.in1.under (tupCode a)).depth ≤ A.depth + 3 := by
  show A.depth + (tupCode a).weight ≤ _
  have : (tupCode a).weight = 1 := by rfl
  omega
end
/-- repr((obj,)) -/
def gReprT (cs : List Str) (f : En → Res RV) : List D → Option RV
  | [.tup [.obj c ns ds]] => if cs.contains c = true then (ownTxt f (.obj c ns ds)).bind fun z => if z.length + 10 ≤ top1 then vs (tupleText [z]) else none else none
  | _ => none
section
variable {X : Cx} {k : Nat} {cs : List Str} {f : En → Res RV}
theorem gReprT_ok {ds : List D} {r : RV} (h : gReprT cs f ds = some r) : ∃ c ns es z, ds = [.tup [.obj c ns es]] ∧ cs.contains c = true ∧ ownTxt f (.obj c ns es) = some z ∧ z.length + 10 ≤ top1 ∧ r = .val (.str (tupleText [z])) := by
  unfold gReprT at h
  split at h
  · rename_i c ns es
    by_cases hc : cs.contains c = true
    · rw [if_pos hc] at h
      obtain ⟨z, h3, h4⟩ := Option.bind_eq_some_iff.mp h
      by_cases hz : z.length + 10 ≤ top1
      · rw [if_pos hz] at h4; cases h4; exact ⟨c, ns, es, z, rfl, hc, h3, hz, rfl⟩
      · rw [if_neg hz] at h4; cases h4
    · rw [if_neg hc] at h; cases h
  · cases h
theorem tup_str (z : Str) (hz : z.length + 10 ≤ top1) : z.length + 10 ≤ sizeLine := top1_le hz
/-- the pair's place -/
theorem tup1_at {pins : List (Addr × Obj)} {σ : L2.St} {H F : Hp} {s : Shared} {c : Str} {ns : List Str} {es : List D} {v : V} (I : Inv X pins σ H s) (e : Same F H) (r : Rep X.K F (.tup [.obj c ns es]) v) :
    ∃ a x o n dx ox od, v = .ref a ∧ s.heap.get? a = some o ∧ o.cls = .type "tuple" ∧ o.data = .seq #[.ref x] n ∧ Rep X.K F (.obj c ns es) (.ref x) ∧ s.heap.get? x = some (iO (He.ga X.K c) dx) ∧ PySem.W.InstAt s.heap x ox (He.ga X.K c) od := by
  cases r with
  | tup hs hr =>
    cases hr with
    | cons ro hr =>
      cases hr
      obtain ⟨x, dx, ox, od, rfl, hx, J⟩ := obj_at I e ro
      obtain ⟨its, rv, ⟨o, ho, hc, n, hd⟩, _⟩ := I.tuple (same_seqT e hs)
      cases rv with
      | @cons _ u _ _ r1 r2 =>
        cases r2
        obtain rfl : u = .ref x := r1
        exact ⟨_, x, o, n, dx, ox, od, rfl, ho, hc, hd, ro, hx, J⟩
theorem reprT_end {pins : List (Addr × Obj)} {σ : L2.St} {H F : Hp} {s : Shared} {c : Str} {ns : List Str} {es : List D} {v : V} {u : Value} {z : Str} {g : Addr} {Q : VK} (hgu : X.A.guards = some []) (hun : X.A.units + 5 < cLine) (mt : Meth X.K (He.ga X.K c) "__repr__" g)
    (I : Inv X pins σ H s) (e : Same F H) (r : Rep X.K F (.tup [.obj c ns es]) v) (ru : RelV v u) (hz : z.length + 10 ≤ top1)
    (own : ∀ (A : Around) (x : Addr), A.frames = X.A.frames → A.handled = X.A.handled → A.depth ≤ X.A.depth + 3 → A.units ≤ X.A.units + 3 → Rep X.K F (.obj c ns es) (.ref x) → wpAny (model X.prog X.w) A (call (.ref g) [.ref x]) (fun v s' => (∃ t, v = .str z t) ∧ EqEnd X pins σ F H s') X.xe s)
    (q : ∀ F' H', Gr F H F' H' → Same F' H' → Q (.str (tupleText [z])) H') : wpAny (model X.prog X.w) X.A (call (.builtin "repr") [u]) (EP X pins σ Q) X.xe s := by
  obtain ⟨a, x, o, n, dx, ox, od, rfl, ho, hc, hd, ro, hx, J⟩ := tup1_at I e r
  obtain rfl : u = .ref a := ru
  refine call_repr_tup1 ho hc hd hgu hun I.kIn J mt.at_ mt.fn (wpAny_mono (own _ x (under_frames _ _) (under_handled _ _) (under_depth _ _) (by rw [under_units]; omega) ro) (fun v s' hv => ?_) fun _ _ z => z)
  obtain ⟨⟨t, rfl⟩, F', H', J', g', e'⟩ := hv
  exact ⟨z, t, rfl, tup_str z hz, fun u tk => ⟨.str (tupleText [z]), H', J'.kept (t' := tk) fun _ _ z => z, ⟨u, rfl⟩, q F' H' g' e'⟩⟩
theorem reprTD (M : MethOk X.prog X.w X.K X.mg X.base k cs "__repr__" f) (hr : Room (k + 1) X.A) (hgu : X.A.guards = some []) : CallR X (.builtin "repr") (rDL X.K (gReprT cs f)) := by
  intro pins s σ H xs us Q I r ⟨F, ds, rv, e, rs, hg, q⟩
  obtain ⟨c, ns, es, z, rfl, hc, hz, hl, rfl⟩ := gReprT_ok hg
  cases rs with
  | cons ro rs =>
    cases rs
    cases r with
    | cons r1 r2 =>
      cases r2
      obtain ⟨cl, g, mt, Fg⟩ := M.ex c hc
      have hun := hr.un
      refine reprT_end hgu (by omega) mt I e ro r1 hl (fun A x h1 h2 h3 h4 rx => ?_) (fun F' H' g' e' => q _ F' H' g' e' (.str _))
      exact own_txt (E := X.xe) (A := A) ⟨h2.trans hr.hd, by have := hr.dp; omega, by omega⟩ h1 Fg I e rx hz
/-! ### .. in an except suite -/
structure MethH (P : Program) (w : World) (K : PySem.W.Frag) (mg : Str → Option Value) (base : Heap) (k : Nat) (cs : List Str) (m : Str) (f : En → Res RV) : Prop where
  ex : ∀ c, cs.contains c = true → ∃ g fd ps, Meth K (He.ga K c) m g ∧ L2H.FnH P w K mg base (L2N.CX P w) k g fd ps (spF K 1 f) ∧ Binds K fd ps [] ∧ ps.length = 1
theorem own_txtH {pins : List (Addr × Obj)} {σ : L2.St} {H F : Hp} {s : Shared} {A : Around} {g : Addr} {fd : FuncData} {ps : List Str} {E : Value → Shared → Prop} (hr : L2H.RoomH k A) (hfr : A.frames = X.A.frames) (hh : A.handled = X.A.handled) (hot : L2H.HotC X)
    (Fg : L2H.FnH X.prog X.w X.K X.mg X.base (L2N.CX X.prog X.w) k g fd ps (spF X.K 1 f)) (hb : Binds X.K fd ps []) (hps : ps.length = 1) (I : Inv X pins σ H s) (e : Same F H) {a : D} {x : Addr} {z : Str} (ra : Rep X.K F a (.ref x))
    (h : ownTxt f a = some z) : wpAny (model X.prog X.w) A (call (.ref g) [.ref x]) (fun v s' => (∃ t, v = .str z t) ∧ EqEnd X pins σ F H s') E s := by
  have e0 : Env0 X.prog X.w X.K X.mg X.base A X.stack s H := by
    have z := I.env0
    exact ⟨by rw [hfr]; exact z.frames, z.mod, z.bs, z.bsz, z.funs, z.frf, z.hok, z.bare⟩
  have rr : Reps X.K F [a] [.ref x] := .cons ra .nil
  have hsp : spF X.K 1 f [.ref x] H (fun v H' => v = .str z ∧ ∃ F', Gr F H F' H' ∧ Same F' H') (fun _ _ _ => False) := by
    unfold ownTxt at h
    refine ⟨rfl, [.val a], F, args_ok e rr, ?_⟩
    have noo : ∀ {F' H'}, Grow (Own (([.ref x] : List V).map some) ([a].map .val)) F H F' H' → Gr F H F' H' := fun g => g.imp fun b z => (args_noown z).elim
    cases ef : f [.val a] with
    | no => rw [ef] at h; cases h
    | er z ρ' => rw [ef] at h; cases h
    | ok av ρ' =>
      rw [ef] at h
      cases av with
      | fr oc => cases h
      | val dv =>
        cases dv with
        | str z' =>
          cases h
          intro v F' H' gr s' sh q
          cases q
          exact ⟨rfl, F', noo gr, s'.same⟩
        | _ => cases h
  obtain ⟨p, ⟨hot1, hot2⟩, hp⟩ := hot
  have b := hb s [.ref x] I.kIn (by rw [List.append_nil, hps]; rfl)
  rw [List.append_nil] at b
  have P1 := I.pin p (List.mem_append_left _ hp)
  have hpin : L2H.PinOk X.stack H s p := ⟨P1.1, P1.2.1, fun hm => (List.mem_cons.mp (I.stkSub p.1 hm)).elim P1.2.2.1 P1.2.2.2.1, P1.2.2.2.2⟩
  refine wpAny_call (codeAny_mono (Fg.run A X.stack s H ⟨[.ref x], []⟩ [.ref x] [.ref x] _ _ p hr ⟨hh.trans hot1, hot2⟩ hpin e0 b (.cons rfl .nil) hsp) fun r' s' hq => ?_)
  cases r' with
  | error er => obtain ⟨_, _, _, _, _, _, _, _, _, _, _, _, z⟩ := hq; exact z.elim
  | ok fl =>
    cases fl with
    | ret u' =>
      obtain ⟨v, H', J, rv, ev, F', g', e'⟩ := I.after hq
      subst ev
      exact ⟨rv, F', H', J, g', e'⟩
    | next => exact False.elim hq
    | brk => exact False.elim hq
    | cont => exact False.elim hq
theorem reprTH (M : MethH X.prog X.w X.K X.mg X.base k cs "__repr__" f) (hr : L2H.RoomH (k + 1) X.A) (hot : L2H.HotC X) (hgu : X.A.guards = some []) : CallR X (.builtin "repr") (rDL X.K (gReprT cs f)) := by
  intro pins s σ H xs us Q I r ⟨F, ds, rv, e, rs, hg, q⟩
  obtain ⟨c, ns, es, z, rfl, hc, hz, hl, rfl⟩ := gReprT_ok hg
  cases rs with
  | cons ro rs =>
    cases rs
    cases r with
    | cons r1 r2 =>
      cases r2
      obtain ⟨g, fd, ps, mt, Fg, hb, hps⟩ := M.ex c hc
      have hun := hr.un
      refine reprT_end hgu (by omega) mt I e ro r1 hl (fun A x h1 h2 h3 h4 rx => ?_) (fun F' H' g' e' => q _ F' H' g' e' (.str _))
      exact own_txtH (E := X.xe) (A := A) ⟨by have := hr.dp; omega, by omega⟩ h1 h2 hot Fg hb hps I e rx hz
end
end PD
end
section
set_option Elab.async false
set_option linter.all false
set_option maxRecDepth 100000
set_option maxHeartbeats 2000000
/-! a named suite that may call defs: the exception has no context -/
namespace PD
open PySem PySem.Spec PyProof.Rows L2 L2H HotX
theorem PSs.unSuite {X : Cx} {a : Addr} {pn : List (Addr × Obj)} {xe' : Value → Shared → Prop} {st : List Stmt} {t : TS} (h : PSs (X.suite a pn) st t) : PSs (suiteE X a pn xe') st t :=
  ⟨fun pins s σ H D I q => wpAny_mono (h.run pins s σ H D (Inv.wish (X := suiteE X a pn xe') I (fun _ _ => False)) q) (fun f s' z => SP.unwish (X := suiteE X a pn xe') (E := fun _ _ => False) z) (fun e s z => z.elim)⟩
section
variable {X : Cx} {W : WX} {x nm : Str} {c : Value} {i n : Nat} {body suite : List Stmt} {b₀ : Stmt} {np pos pos' : Pos} {ts : Addr → Value → Option Addr → TS} {em : Str → Option Bool} {mb : MS} {mh : Exn → MS}
theorem p1_tryAsH (hs : X.stack = X.env :: X.outer) (hf : X.env.frame = some X.env.locals) (hN : X.N.Nodup) (hi : X.N[i]? = some nm) (hln : X.env.kindOf nm = some .local) (hc : Names X x c) (hpa : ∀ hd : Option Value, PassesOwnAt (model X.prog X.w) (X.A.mark hd) X.A X.env X.xe) (tk : L2.Takes X W)
    (hem : ∀ y b, em y = some b → PySem.W.exmOne X.K (.ref (He.ga X.K y)) c = some b)
    (hb : ∀ (W : WX) (pn : List (Addr × Obj)) (xe : Value → Shared → Prop), L2N.Takes (X.tr pn xe) W → PassesOwn (model X.prog X.w) X.A X.env xe → PB (X.tr pn xe) W n body mb)
    (hsu : ∀ (a : Addr) (oe : Obj) (cls : Value) (d : Option Addr) (pn : List (Addr × Obj)), Zc cls d oe → (∃ vs, oe.data = .fields vs) → HotC (X.suite a ((a, oe) :: pn)) → PSs (X.suite a ((a, oe) :: pn)) (b₀ :: suite) (ts a cls d)) (hts : SuiteT X.K i ts mh) :
    P1 X W n (.Try body [.ExceptHandler (some (.Name x np)) (some nm) (b₀ :: suite) pos'] [] [] pos) (mTry em i mb mh) := ⟨fun ρ => PS.imp (ps_try_asX hs hf hN hi hln hc hpa tk (tb := fun W => tS X.K W n ρ (mb ρ)) (fun W pn xe t p => (hb W pn xe t p).run ρ) (fun a oe cls d pn xe' hz hv tk' hot => PSs.unSuite (hsu a oe cls d pn hz.zc hv hot))) fun D σ H ⟨F, s, h⟩ => by
  refine ⟨F, s, ?_⟩
  unfold mTry at h
  cases e : mb ρ with
  | nx ρ1 => rw [e] at h; exact h
  | bk ρ1 => rw [e] at h; exact h
  | ct ρ1 => rw [e] at h; exact h
  | rt v ρ1 => rw [e] at h; exact h
  | no => rw [e] at h; exact h
  | er y ρ1 =>
    rw [e] at h
    intro cls d σ1 F1 H1 g1 s1 rx
    have h2 : PostS X.K W n D σ ρ F H (match em y.c with
      | some true => (match clrE i ρ1 with
        | some ρ2 => (match mh y ρ2 with
          | .er _ _ => .no
          | o => clr i o)
        | none => .no)
      | some false => .er y ρ1
      | none => .no) := h
    cases ee : em y.c with
    | none => rw [ee] at h2; exact h2.elim
    | some b =>
      rw [ee] at h2
      have hcls := rx.1
      refine ⟨b, by rw [hcls]; exact hem _ _ ee, fun hb1 a na => ?_, fun hb0 => ?_⟩
      · subst hb1
        have h3 : PostS X.K W n D σ ρ F H (match clrE i ρ1 with
          | some ρ2 => (match mh y ρ2 with
            | .er _ _ => .no
            | o => clr i o)
          | none => .no) := h2
        cases ec : clrE i ρ1 with
        | none => rw [ec] at h3; exact h3.elim
        | some ρ2 =>
          rw [ec] at h3
          have h4 : PostS X.K W n D σ ρ F H (match mh y ρ2 with
            | .er _ _ => .no
            | o => clr i o) := h3
          obtain ⟨o, eo, ho, er⟩ := clrE_some ec
          have hlt := (List.getElem?_eq_some_iff.mp eo).1
          have h5 : (∀ y' r, mh y ρ2 ≠ .er y' r) ∧ PostS X.K W n D σ ρ F H (clr i (mh y ρ2)) := by
            cases em2 : mh y ρ2 with
            | er y' r => rw [em2] at h4; exact h4.elim
            | nx r => rw [em2] at h4; exact ⟨(fun _ _ z => nomatch z), h4⟩
            | bk r => rw [em2] at h4; exact ⟨(fun _ _ z => nomatch z), h4⟩
            | ct r => rw [em2] at h4; exact ⟨(fun _ _ z => nomatch z), h4⟩
            | rt v r => rw [em2] at h4; exact ⟨(fun _ _ z => nomatch z), h4⟩
            | no => rw [em2] at h4; exact h4.elim
          have g2 := g1.trans (grow_clr ec (some (V.ref a)))
          refine hts n a cls d y _ ρ2 F1 H1 _ na rx (s1.clr ec (some (.ref a))) (List.getElem?_set_self (by rw [s1.len]; exact hlt)) (by rw [er, List.getElem?_set_self hlt]) (clr_ends (W := W) (PostS.step g2 h5.2) h5.1)
      · subst hb0
        exact h2 cls d σ1 F1 H1 g1 s1 rx⟩
end
end PD
end
section
set_option Elab.async false
set_option linter.all false
set_option maxRecDepth 100000
set_option maxHeartbeats 4000000
namespace K84
open PySem PySem.Spec PyProof.Rows L2 PD NdefX ClX

def gReprT1 : List D → Option RV := gReprT cls v_Expression___repr__
def emS (c : Str) : Option Bool := if c = "InvalidExpression" then some true else none
/-- the suite: most = repr(e.value) -/
def mhS (y : Exn) : MS := fun ρ => if y.c = "InvalidExpression" then (match (y.ns.zip y.ds).lookup ("value" : Str) with
  | some d => (match gReprT1 [d] with
    | some r => (match gN 1 r.d ρ with
      | some ρ1 => .nx ρ1
      | none => .no)
    | none => .no)
  | none => .no) else .no
def mTryS : MS := noErS (mTry emS 3 (mDrop (mMk "Application" v_init_Application (mCons (mC (.str "b")) (mCons (mFn 1 (v__law_expression 12) (mCons (mVar 2) mNil)) mNil)))) mhS)
def m__law_sizes_right (vt : En → Res RV) : MS := (mSeq (mPar 0 1 (mCons (mFn 1 v__law_wide (mCons (mC (.int 30)) mNil)) (mCons (mC .non) mNil))) (mSeq (mSet (gN 2) (mTup (mCons (mC (.str "do")) (mCons (mC (.str "b")) (mCons (mTup (mCons (mVar 0) mNil)) mNil))))) (mSeq (mIf (mtOr (mtV (mOp gNeO (mMeth cls "size" v_Expression_size (mFn 1 (v__law_expression 12) (mCons (mVar 2) mNil)) mNil) (mC (.int 60)))) (mtV (mOp gNeO (mFn 1 vt (mCons (mFn 1 (v__law_written 12) (mCons (mVar 2) mNil)) mNil)) (mLst (mCons (mC (.str "read")) (mCons (mFn 1 (v__law_written 12) (mCons (mVar 2) mNil)) mNil)))))) (mRet (mC (.bl false))) mNext) (mSeq mTryS (mSeq (mIf (mtOr (mtV (mOp gNeO (mVar 1) (mB gReprT1 (mCons (mTup (mCons (mFn 1 (v__law_expression 12) (mCons (mVar 2) mNil)) mNil)) mNil)))) (mtV (mOp gNeO (mFn 1 vt (mCons (mFn 1 (v__law_written 12) (mCons (mFn 1 v__law_wide (mCons (mC (.int 31)) mNil)) mNil)) mNil)) (mLst (mCons (mC (.str "text")) (mCons (mC (.int 1)) mNil)))))) (mRet (mC (.bl false))) mNext) (mRet (mOp gEqO (mFn 1 vt (mCons (mFn 1 (v__law_written 12) (mCons (mTup (mCons (mC (.str "do")) (mCons (mC (.str "b")) (mCons (mTup (mCons (mVar 2) mNil)) mNil)))) mNil)) mNil)) (mLst (mCons (mC (.str "text")) (mCons (mC (.int 1)) mNil))))))))))
theorem sc__law_sizes_right : FnScope ["thirty", "most", "sixty", "e"] [] (defScope (top 45)) := ⟨rfl, rfl, rfl, by decide +kernel, rfl, by decide +kernel, by decide +kernel⟩
structure SizeF (K : PySem.W.Frag) : Prop where
  xf : XfC K (He.ga K "InvalidExpression")
  no : PySem.W.findIn K (.ref (He.ga K "InvalidExpression")) "value" = some none
theorem em_ok {K : PySem.W.Frag} (T : ParseF K) (y : Str) (b : Bool) (q : emS y = some b) : PySem.W.exmOne K (.ref (He.ga K y)) (.ref (He.ga K "InvalidExpression")) = some b := by
  unfold emS at q
  by_cases c : y = "InvalidExpression"
  · rw [if_pos c] at q; cases q; subst c; exact T.e1
  · rw [if_neg c] at q; cases q
def tsS (K : PySem.W.Frag) (a : Addr) (cls0 : Value) (d : Option Addr) : TS := tAsg (tCB (rDL K gReprT1) (tCons (tXf a cls0 d (He.ga K "InvalidExpression") "value" (tVar 3)) tNil)) (gName 1)
theorem sizes_suite {K : PySem.W.Frag} {mg : Str → Option Value} (T : ToldF K mg) : SuiteT K 3 (tsS K) mhS := by
  intro n a cls d y σ ρ F H D na rx s ha he h
  unfold mhS at h
  by_cases c : y.c = "InvalidExpression"
  · rw [if_pos c] at h
    obtain ⟨hcls, dd, vs, hd, hF, hlen, hr⟩ := rx
    rw [c] at hcls
    cases el : (y.ns.zip y.ds).lookup ("value" : Str) with
    | none => rw [el] at h; exact h.elim
    | some l =>
      rw [el] at h
      have h1 : PostS K (fun _ _ _ _ => False) n D σ ρ F H (match gReprT1 [l] with
        | some r => (match gN 1 r.d ρ with
          | some ρ1 => .nx ρ1
          | none => .no)
        | none => .no) := h
      obtain ⟨vl, hvl, rl⟩ := look_zip hr el
      cases er : gReprT1 [l] with
      | none => rw [er] at h1; exact h1.elim
      | some r =>
        rw [er] at h1
        have h2 : PostS K (fun _ _ _ _ => False) n D σ ρ F H (match gN 1 r.d ρ with
          | some ρ1 => .nx ρ1
          | none => .no) := h1
        cases e1 : gN 1 r.d ρ with
        | none => rw [e1] at h2; exact h2.elim
        | some ρ1 =>
          rw [e1] at h2
          refine ⟨.ref a, ha, rfl, hcls, dd, _, vl, hd, s.same _ _ hF, hvl, F, [l], r, s.same, .cons rl .nil, er, fun z F' H' g e' rz => ?_⟩
          obtain ⟨c', ns, es, z0, _, _, _, _, rfl⟩ := gReprT_ok er
          have s' := s.grow g e'
          obtain ⟨q3, w3, z3⟩ := gN_ok (n := n) s' rz e1
          exact h2 _ _ _ ((GrowS.ofE (g.imp fun _ z => z.elim) rfl).trans w3) z3
  · rw [if_neg c] at h; exact h.elim
theorem meth_reprH {P : Program} {w : World} {K : PySem.W.Frag} {mg : Str → Option Value} {base : Heap} (C : KF P w K mg base) : MethH P w K mg base 1 cls "__repr__" v_Expression___repr__ := by
  obtain ⟨g, fd, F, hi, hm⟩ := C.m_repr.ex
  refine ⟨fun c hc => ⟨g, fd, ["self"], hm c hc, ?_, F.bindsN fun _ _ _ _ _ _ us hl => match us, hl with | [_], _ => rfl, rfl⟩⟩
  obtain ⟨oc, od, dV, kV, doc, pm, an, cdv, ct, osl, e, lk, hcd, _⟩ := F.ex
  rw [e] at lk ⊢
  refine L2H.fn_ofH (k := 0) (N := ["self"]) lk hcd sc_Expression___repr__ (fun vs H Q E h => h.1) (fun A outer s H vs Q E p hot hr h => ?_)
  obtain ⟨hn, ρ, F0, st0, h⟩ := h
  unfold v_Expression___repr__ lenF at h
  by_cases c1 : ρ.length = 1
  · rw [if_pos c1] at h
    refine ⟨_, PB.run (X := L2H.cxH (L2N.CX P w) P w K mg base ["self"] "Expression.__repr__" (defScope (sub 16 5)) g cdv A outer s H E p) (W := WW E) (n := 1) (m := m_Expression___repr__) (pb_one (p1_ret (px_joined (.cons px_str (.cons (px_fmtR (px_fld (px_var 0) (C.fo "own_text" (by decide)))) (.cons px_str .nil)))))) (ρ ++ List.replicate (1 - 1) .emp), ?_⟩
    exact run_body (N := ["self"]) hn st0 h fun _ _ _ _ _ z => z
  · rw [if_neg c1] at h; exact h.elim
theorem st__law_sizes_right {P : Program} {w : World} {K : PySem.W.Frag} {mg : Str → Option Value} {base : Heap} (C : KE P w K mg base) (T : ToldF K mg) (T2 : ParseF K) (T3 : SizeF K) {vt : En → Res RV} {k : Nat} (hk : 60 ≤ k) (h_vt : DefOk P w K mg base k "_law_told" 1 vt) : DefOkG P w K mg base (k + 1) "_law_sizes_right" 0 (runB 0 4 (m__law_sizes_right vt)) := by
  have S := sc__law_sizes_right
  refine def_okG (N := ["thirty", "most", "sixty", "e"]) (m__law_sizes_right vt) 0 C.d__law_sizes_right S rfl (fun F => F.bindsN fun _ _ _ _ _ _ us hl => match us, hl with | [], _ => rfl) fun f cdv A outer s H E hr hgu tk hp => ?_
  refine (pb_cons (p1_par (i := 0) (j := 1) rfl S.nd (pa_c (px_call ((ok__law_wide C).mono (by omega)) hr tk (pa_c px_int pa_n)) (pa_c px_non pa_n))) (pb_cons (p1_set (i := 2) S.nd (px_tup (pa_c px_str (pa_c px_str (pa_c (px_tup (pa_c (px_var 0) pa_n)) pa_n))))) (pb_cons (p1_if (pxt_w (pxw_or (pxt_cmp (neDO (eq_ok C) (hr.mono (by omega))) (px_meth0 ((ok_Expression_size C.toKF).mono (by omega)) hr tk (px_call ((ok__law_expression C.toKM 12).mono (by omega)) hr tk (pa_c (px_var 2) pa_n))) px_int) (pxw_or1 (pxt_cmp (neDO (eq_ok C) (hr.mono (by omega))) (px_call h_vt hr tk (pa_c (px_call ((ok__law_written C.toFacts 12).mono (by omega)) hr tk (pa_c (px_var 2) pa_n)) pa_n)) (px_lst (pa_c px_str (pa_c (px_call ((ok__law_written C.toFacts 12).mono (by omega)) hr tk (pa_c (px_var 2) pa_n)) pa_n))))))) (pb_one (p1_ret px_bl)) pb_nil) (pb_cons (p1_noEr (p1_tryAsH (c := .ref (He.ga K "InvalidExpression")) rfl rfl S.nd rfl rfl ⟨rfl, by decide, .inl T.gE⟩ (L2H.passesAt_of rfl) takesF2 (fun y b q => em_ok T2 y b q) (fun W pn xe t p => pb_one (p1_expr (px_mk (mk_Application C.toKM) (hr.mono (by omega)) t (pa_c px_str (pa_c (px_call ((ok__law_expression C.toKM 12).mono (by omega)) hr t (pa_c (px_var 2) pa_n)) pa_n))))) (fun a oe cls d pn hz hf hot => ?_) (sizes_suite T))) (pb_cons (p1_if (pxt_w (pxw_or (pxt_cmp (neDO (eq_ok C) (hr.mono (by omega))) (px_var 1) (px_callB (reprTD (k := 1) (ok_Expression___repr__ C.toKF) (hr.mono (by omega)) hgu) C.b_repr (pa_c (px_tup (pa_c (px_call ((ok__law_expression C.toKM 12).mono (by omega)) hr tk (pa_c (px_var 2) pa_n)) pa_n)) pa_n))) (pxw_or1 (pxt_cmp (neDO (eq_ok C) (hr.mono (by omega))) (px_call h_vt hr tk (pa_c (px_call ((ok__law_written C.toFacts 12).mono (by omega)) hr tk (pa_c (px_call ((ok__law_wide C).mono (by omega)) hr tk (pa_c px_int pa_n)) pa_n)) pa_n)) (px_lst (pa_c px_str (pa_c px_int pa_n))))))) (pb_one (p1_ret px_bl)) pb_nil) (pb_one (p1_ret (px_cmp (eqDO (eq_ok C) (hr.mono (by omega))) (px_call h_vt hr tk (pa_c (px_call ((ok__law_written C.toFacts 12).mono (by omega)) hr tk (pa_c (px_tup (pa_c px_str (pa_c px_str (pa_c (px_tup (pa_c (px_var 2) pa_n)) pa_n)))) pa_n)) pa_n)) (px_lst (pa_c px_str (pa_c px_int pa_n)))))))))))
  exact pss_one (ps_set (i := 1) S.nd rfl (.inl rfl) (pe_callB (reprTH (k := 1) (meth_reprH C.toKF) (L2H.roomH_mark (hr.mono (by omega)) _) hot hgu) (by rfl) C.b_repr (by decide +kernel) (pa_cons (pe_xf T3.xf T3.no hz hf (pv 3 (by rfl) (.inl (by rfl)))) pa_nil)))
end K84
end
section
set_option Elab.async false
set_option linter.all false
set_option maxRecDepth 100000
set_option maxHeartbeats 2000000
/-! the head's facts by paths of one's own; functions with a closure over __class__ -/
namespace PD
open PySem PySem.Spec PyProof.Rows L2
abbrev Fg := PySem.W.Frag
/-- a function: how it is found, what it is -/
structure PathD where
  path : Fg → Addr
  name : Str
  qual : Str
  params : Arguments
  body : List Stmt
  scope : Scope
  cl : List Str := []
abbrev FnP : Type := Option (Str × Str × Arguments × FuncBody × Scope × Addr × List Str × Addr)
def fnP (K : Fg) (a : Addr) : FnP := match K.lookup a with
  | some ⟨_, _, .func fd, _⟩ => some (fd.name, fd.qualname, fd.params, fd.body, fd.scope, fd.globals, fd.closure.map (·.1), fd.builtins)
  | _ => none
def PathD.val (d : PathD) : FnP := some (d.name, d.qual, d.params, .stmts d.body, d.scope, mainGlobals, d.cl, builtinsNs)
def PathD.ok (K : Fg) (d : PathD) : Bool := PySem.W.keepIn K (.ref (d.path K)) && (match K.lookup (d.path K) with
  | some ⟨_, _, .func fd, _⟩ => PySem.W.codeIn K fd.code d.qual && He.dflB K fd.defaults []
  | _ => false)
theorem PathD.funD {K : Fg} {d : PathD} (hc : d.cl = []) (e : fnP K (d.path K) = d.val) (c : d.ok K = true) : ∃ fd, FunD K d.name d.qual d.params d.body d.scope [] [] (d.path K) fd := by
  obtain ⟨kp, c2⟩ := Bool.and_eq_true_iff.mp c
  unfold fnP at e
  cases q : K.lookup (d.path K) with
  | none => rw [q] at c2; cases c2
  | some o =>
    obtain ⟨oc, od, dt, osl⟩ := o
    rw [q] at c2 e
    cases dt with
    | func fd =>
      obtain ⟨n1, n2, n3, n4, n5, n6, n7, n8, n9, n10, n11, n12, n13, n14, n15⟩ := fd
      have e2 : (some (n1, n2, n3, n4, n5, n6, n7.map (·.1), n15) : FnP) = some (d.name, d.qual, d.params, .stmts d.body, d.scope, mainGlobals, d.cl, builtinsNs) := e
      simp only [Option.some.injEq, Prod.mk.injEq] at e2
      obtain ⟨h1, h2, h3, h4, h5, h6, h7, h8⟩ := e2
      rw [hc, List.map_eq_nil_iff] at h7
      subst h1 h2 h3 h4 h5 h6 h7 h8
      have c3 : (PySem.W.codeIn K n13 d.qual && He.dflB K n8 []) = true := c2
      obtain ⟨k1, k2⟩ := Bool.and_eq_true_iff.mp c3
      exact ⟨_, ⟨oc, od, n8, n9, n10, n11, n12, n13, n14, osl, rfl, q, k1, He.dflB_ok k2, .inl rfl⟩, kp⟩
    | _ => cases c2
/-- the closure's first cell, the code object -/
def cloAt (K : Fg) (f : Addr) : Addr := match K.lookup f with
  | some ⟨_, _, .func fd, _⟩ => (match fd.closure with
    | q :: _ => q.2
    | [] => 0)
  | _ => 0
def codeAt (K : Fg) (f : Addr) : Addr := match K.lookup f with
  | some ⟨_, _, .func fd, _⟩ => (match fd.code with
    | .ref a => a
    | _ => 0)
  | _ => 0
def codeRefB (K : Fg) (f : Addr) : Bool := match K.lookup f with
  | some ⟨_, _, .func fd, _⟩ => (match fd.code with
    | .ref _ => true
    | _ => false)
  | _ => false
theorem PathD.cloD {K : Fg} {d : PathD} (hc : d.cl = (["__class__"] : List Str)) (e : fnP K (d.path K) = d.val) (c : d.ok K = true) (cr : codeRefB K (d.path K) = true) :
    (∃ oc od dV kV doc pm an ct osl, K.lookup (d.path K) = some ⟨oc, od, .func (PySem.W.fnX d.name d.qual d.params d.body d.scope [("__class__", cloAt K (d.path K))] dV kV doc pm an (.ref (codeAt K (d.path K))) ct), osl⟩) ∧
    PySem.W.codeIn K (.ref (codeAt K (d.path K))) d.qual = true ∧ ∀ oc od fd osl, K.lookup (d.path K) = some ⟨oc, od, .func fd, osl⟩ → fd.defaults = .none := by
  obtain ⟨kp, c2⟩ := Bool.and_eq_true_iff.mp c
  unfold fnP at e
  unfold codeRefB at cr
  unfold cloAt codeAt
  cases q : K.lookup (d.path K) with
  | none => rw [q] at c2; cases c2
  | some o =>
    obtain ⟨oc, od, dt, osl⟩ := o
    rw [q] at c2 e cr
    cases dt with
    | func fd =>
      obtain ⟨n1, n2, n3, n4, n5, n6, n7, n8, n9, n10, n11, n12, n13, n14, n15⟩ := fd
      have e2 : (some (n1, n2, n3, n4, n5, n6, n7.map (·.1), n15) : FnP) = some (d.name, d.qual, d.params, .stmts d.body, d.scope, mainGlobals, d.cl, builtinsNs) := e
      simp only [Option.some.injEq, Prod.mk.injEq] at e2
      obtain ⟨h1, h2, h3, h4, h5, h6, h7, h8⟩ := e2
      rw [hc] at h7
      have c3 : (PySem.W.codeIn K n13 d.qual && He.dflB K n8 []) = true := c2
      obtain ⟨k1, k2⟩ := Bool.and_eq_true_iff.mp c3
      have k3 : n8 = .none := by
        cases n8 with
        | none => rfl
        | _ => cases k2
      cases n13 with
      | ref a =>
        cases n7 with
        | nil => cases h7
        | cons p r =>
          obtain ⟨p1, p2⟩ := p
          cases r with
          | nil =>
            have h7' : p1 = "__class__" := by simpa using h7
            subst h1 h2 h3 h4 h5 h6 h7' h8 k3
            exact ⟨⟨oc, od, _, n9, n10, n11, n12, n14, osl, rfl⟩, k1, fun oc' od' fd' osl' z => by cases z; rfl⟩
          | cons _ _ => simp at h7
      | _ => cases cr
    | _ => cases c2
/-! ### the Hook -/
def asX (g : Addr → Option Obj) (n : Nat) : List Addr := cStatics :: He.asD g n
abbrev AlX : Type := Bool × List FnP
def obsX (chk : Fg → Bool) (fn : List PathD) (K : Fg) : AlX := (chk K && fn.all fun d => d.ok K, fn.map fun d => fnP K (d.path K))
def valX (fn : List PathD) : AlX := (true, fn.map PathD.val)
def SaysX (chk : Fg → Bool) (fn : List PathD) (K : Fg) : Prop := obsX chk fn K = valX fn
def obsXG (n : Nat) (chk : Fg → Bool) (fn : List PathD) (g : Addr → Option Obj) : AlX := obsX chk fn (He.frG g (asX g n))
def hookX (n : Nat) (chk : Fg → Bool) (fn : List PathD) : PySem.W.Hook where
  α := AlX
  obs := fun s => obsXG n chk fn s.heap.get?
  val := fun _ => valX fn
  says := fun _ h => ∃ K : Fg, K.In h ∧ SaysX chk fn K
  of := fun _ _ e => ⟨_, He.frG_in, e⟩
  keeps := fun _ _ _ ⟨K, hK, c⟩ k => ⟨K, PySem.W.Frag.In.keeps hK k, c⟩
theorem obsXG_eq {n : Nat} {chk : Fg → Bool} {fn : List PathD} {g : Addr → Option Obj} {s : Shared} (h : ∀ a, g a = s.heap.get? a) : obsXG n chk fn g = (hookX n chk fn).obs s := by
  have e : g = s.heap.get? := funext h
  rw [e] <;> rfl
section
variable {chk : Fg → Bool} {fn : List PathD} {K : Fg}
theorem SaysX.all_ (c : SaysX chk fn K) : chk K = true := (Bool.and_eq_true_iff.mp (show (chk K && fn.all fun d => d.ok K) = true from congrArg (fun z : AlX => z.1) c)).1
theorem SaysX.at_ (c : SaysX chk fn K) (i : Nat) {d : PathD} (h : fn[i]? = some d := by kernel_rfl) : fnP K (d.path K) = d.val ∧ d.ok K = true := by
  have c2 := (Bool.and_eq_true_iff.mp (show (chk K && fn.all fun d => d.ok K) = true from congrArg (fun z : AlX => z.1) c)).2
  have e : fn.map (fun d => fnP K (d.path K)) = fn.map PathD.val := congrArg (fun z : AlX => z.2) c
  have e2 : (fn.map fun d => fnP K (d.path K))[i]? = (fn.map PathD.val)[i]? := by rw [e]
  rw [List.getElem?_map, List.getElem?_map, h] at e2
  exact ⟨Option.some.inj e2, List.all_eq_true.mp c2 d (List.mem_of_getElem? h)⟩
theorem SaysX.funD (c : SaysX chk fn K) (i : Nat) {d : PathD} (h : fn[i]? = some d := by kernel_rfl) (hc : d.cl = [] := by rfl) : ∃ fd, FunD K d.name d.qual d.params d.body d.scope [] [] (d.path K) fd := PathD.funD hc (c.at_ i h).1 (c.at_ i h).2
end
/-! ### exceptions -/
def oexB (K : Fg) (C : Addr) : Bool := (match K.lookup C with
    | some ⟨.type t, _, .cls cd, sl⟩ => decide (t = "type") && (match cd.mro, sl.toList with
      | .ref C' :: bm, [_, _, _, _, some (.builtin n), _] => (C' == C && n == "ValueError.__new__") && ((!cd.hasDel && cd.hasDict) && PySem.HandSPX.refsVE bm)
      | _, _ => false)
    | _ => false) && (decide (PySem.W.findIn K (.ref C) "__setattr__" = some (some (.builtin "object.__setattr__"))) && (decide (PySem.W.subIn K (.ref C) (.type "BaseException") = some true) && (decide (PySem.W.typeIn K (.ref C) = some (.type "type")) && PySem.W.keepIn K (.ref C))))
theorem oexB_ok {K : Fg} {C : Addr} (h : oexB K C = true) : OexC K C := by
  obtain ⟨h0, h⟩ := Bool.and_eq_true_iff.mp h
  obtain ⟨h2, h⟩ := Bool.and_eq_true_iff.mp h
  obtain ⟨h3, h⟩ := Bool.and_eq_true_iff.mp h
  obtain ⟨h4, h5⟩ := Bool.and_eq_true_iff.mp h
  refine ⟨?_, of_decide_eq_true h2, of_decide_eq_true h3, of_decide_eq_true h4, h5⟩
  cases q : K.lookup C with
  | none => rw [q] at h0; cases h0
  | some o =>
    obtain ⟨oc, od, dt, osl⟩ := o
    rw [q] at h0
    cases oc with
    | type t => cases dt with
      | cls cd =>
        obtain ⟨ht, h1⟩ := Bool.and_eq_true_iff.mp (show (decide (t = "type") && _) = true from h0)
        obtain rfl : t = "type" := of_decide_eq_true ht
        split at h1
        · rename_i C' bm k0 k1 k2 k3 n k5 hm hs
          simp only [Bool.and_eq_true, beq_iff_eq, Bool.not_eq_true'] at h1
          obtain ⟨⟨rfl, rfl⟩, ⟨hdel, hdict⟩, hve⟩ := h1
          obtain ⟨c1, c2, c3, c4, c5, c6, c7, c8, c9, c10, c11⟩ := cd
          dsimp only at hm hdel hdict
          subst hm hdel hdict
          obtain ⟨l⟩ := osl
          dsimp only at hs
          subst hs
          exact ⟨c1, c5, c4, c2, bm, c7, c8, c9, c10, od, k0, k1, k2, k3, k5, rfl, hve⟩
        · cases h1
      | _ => cases h0
    | _ => cases dt <;> cases h0
/-! ### cells, code -/
def cellB (K : Fg) (cc a : Addr) : Bool := match K.lookup cc with
  | some ⟨_, _, .cell (some (.ref b)), _⟩ => decide (b = a)
  | _ => false
theorem cellB_ok {K : Fg} {cc a : Addr} (h : cellB K cc a = true) : ∃ cl cld csl, K.lookup cc = some ⟨cl, cld, .cell (some (.ref a)), csl⟩ := by
  unfold cellB at h
  split at h
  · rename_i q
    obtain rfl := of_decide_eq_true h
    exact ⟨_, _, _, q⟩
  · cases h
def fileB (K : Fg) (cda : Addr) (z : Str) : Bool := match K.lookup cda with
  | some ⟨_, _, .fields vs, _⟩ => (match (vs[2]? : Option Value) with
    | some (Value.str f _) => z == f
    | _ => false)
  | _ => false
theorem fileB_ok {K : Fg} {cda : Addr} {z : Str} (h : fileB K cda z = true) : ∃ ccl cdd vs ccs file tf, K.lookup cda = some ⟨ccl, cdd, .fields vs, ccs⟩ ∧ vs[2]? = some (.str file tf) ∧ (z == file) = true := by
  unfold fileB at h
  split at h
  · rename_i q
    split at h
    · rename_i q2
      exact ⟨_, _, _, _, _, _, q, q2, h⟩
    · cases h
  · cases h
def propG (K : Fg) (p : Addr) : Addr := match PySem.W.recIn K p "property" with
  | some (.ref g :: _) => g
  | _ => 0
def propB (K : Fg) (p : Addr) : Bool := match PySem.W.recIn K p "property" with
  | some (.ref _ :: _) => true
  | _ => false
theorem propB_ok {K : Fg} {p : Addr} (h : propB K p = true) : ∃ rest, PySem.W.recIn K p "property" = some (.ref (propG K p) :: rest) := by
  unfold propB at h
  unfold propG
  split at h
  · rename_i q
    rw [q]
    exact ⟨_, rfl⟩
  · cases h
/-- the i-th check holds -/
theorem all_at {l : List Bool} (h : l.all id = true) (i : Nat) {b : Bool} (e : l[i]? = some b := by kernel_rfl) : b = true := List.all_eq_true.mp h b (List.mem_of_getElem? e)
theorem all_dec {l : List Bool} (h : l.all id = true) (i : Nat) {p : Prop} [Decidable p] (e : l[i]? = some (decide p) := by kernel_rfl) : p := of_decide_eq_true (all_at h i e)
theorem all_ex {l : List Bool} (h : l.all id = true) {b : Bool} (e : b ∈ l) : b = true := List.all_eq_true.mp h b e
section
open L2H HotX
variable {P : Program} {w : World} {K : PySem.W.Frag} {mg : Str → Option Value} {base : Heap}
theorem exc_ok2 {x f z y qual : Str} {params : Arguments} {body : List Stmt} {scope : Scope} {j : Nat} {p1 p2 p3 p4 p5 p6 p7 p8 p9 p10 : Pos} {fI : Addr} {fd : FuncData} (gl : mg x = some (.ref (He.ga K x))) (B : BaseRd K mg "CastError") (cls : OexC K (He.ga K x)) (xf : XfC K (He.ga K x))
    (no : PySem.W.findIn K (.ref (He.ga K x)) f = some none) (iC : PySem.W.findIn K (.ref (He.ga K x)) "__init__" = some (some (.ref fI))) (tI : PySem.W.typeIn K (.ref fI) = some (.type "function")) (F : FunD K "__init__" qual params body scope [] [] fI fd)
    (S : FnScope [("self" : Str), y] [("self" : Str), y] scope) (hbd : body = xiBody "CastError" z f y j p1 p2 p3 p4 p5 p6 p7 p8 p9 p10) (hs1 : scope.names.lookup ("self" : Str) = some .local) (hs2 : scope.names.lookup y = some .local) (hs3 : scope.names.lookup ("CastError" : Str) = some .globalImplicit) (hy : (y == ("__debug__" : Str)) = false) (hy2 : (y == ("__classdict__" : Str)) = false)
    (hbi : ∀ (kV doc pm : Value) (an : Option Addr) (cdv ct : Value) (us : List Value), us.length = 2 → bindArgs (PySem.W.fnOf "__init__" qual params body scope .none kV doc pm an cdv ct) ⟨us, []⟩ = pure ([("self" : Str), y].zip us))
    {pl : PySem.Env → Sem Bool} (hev : ∀ env : PySem.Env, eval (.Call (.Attribute (.Name "CastError" p1) "__init__" p2) [.Name "self" p3, .Constant (.str z) j p4] [] p5) env = (do
      let ov ← eval (.Name "CastError" p1) env
      standAt p2.atName
      let (f, first) ← holding [ov] (getMethod ov "__init__" (pl env))
      callWith p5 f first (backTo p5 (starEach [.Name "self" p3, .Constant (.str z) j p4] env)) (backToKw p5 (keywordEach [] env)))) : ∃ fd, 
    FnOk P w K mg base (L2N.CX P w) 1 fI fd [("self" : Str), y] (spXI K (He.ga K x) f) ∧ FnH P w K mg base (L2.CX P w) 1 fI fd [("self" : Str), y] (spXI K (He.ga K x) f) ∧ Binds K fd [("self" : Str), y] [] := by
  have len : ∀ vs H Q E, spXI K (He.ga K x) f vs H Q E → vs.length = [("self" : Str), y].length := fun vs H Q E ⟨a, v, e, _⟩ => by rw [e]; rfl
  have run : ∀ (X : Cx), X.K = K → X.mg = mg → X.N = [("self" : Str), y] → X.env.scope = scope → PSs X (xiBody "CastError" z f y j p1 p2 p3 p4 p5 p6 p7 p8 p9 p10) (tXI K z f) := fun X hK hm hN hsc => by
    subst hK
    have v0 : X.N[0]? = some ("self" : Str) := by rw [hN]; rfl
    have v1 : X.N[1]? = some y := by rw [hN]; rfl
    have k0 : Vis X.env.scope "self" := .inl (by rw [hsc]; exact hs1)
    have k1 : Vis X.env.scope y := .inl (by rw [hsc]; exact hs2)
    have kd : Gl X "CastError" := by show X.env.scope.names.lookup ("CastError" : Str) = _; rw [hsc]; exact hs3
    have B' : BaseRd X.K X.mg "CastError" := by rw [hm]; exact B
    exact pss_cons (ps_expr (pe_binit B' kd (pa_cons (pe_var v0 k0) (pa_cons pe_str pa_nil)) (by decide) (hev X.env))) (pss_one (ps_ost (pe_var v0 k0) (pe_var v1 k1 hy hy2)))
  obtain ⟨oc, od, dV, kV, doc, pm, an, cdv, ct, osl, rfl, lk, hcd, hdf, _⟩ := F.ex
  obtain rfl : dV = .none := by
    rcases hdf with h | ⟨h, _⟩
    · exact h.2
    · exact absurd rfl h
  subst hbd
  refine ⟨_, fn_of lk hcd S len fun A outer s H vs Q E hr h => ⟨_, run _ rfl rfl rfl rfl, xi_run cls no h⟩, fn_ofH lk hcd S len fun A outer s H vs Q E p hot hr h => ⟨_, run _ rfl rfl rfl rfl, xi_run cls no h⟩, Binds.all fun us hl => hbi _ _ _ _ _ _ us hl⟩
end
end PD
end
section
set_option Elab.async false
set_option linter.all false
set_option maxRecDepth 100000
set_option maxHeartbeats 0
/-! the head of k84: its facts -/
namespace K84
open PySem PySem.Spec PyProof.Rows L2 PD NdefX ClX StX
abbrev R : PySem.W.OpenRow := PySem.W.OpenLaw.row PySem.Challenge.rw_agreeingcasts_k84_written_expressions
def progFile : Str := PySem.Challenge.pw_agreeingcasts_k84_written_expressions.main.file
def fclsB (K : Fg) (c : Value) (m : Str) (n : String) : Bool := match PySem.W.findCls K c (.type "type") m with
  | some (.val (.builtin k)) => decide (k = n)
  | _ => false
theorem fclsB_ok {K : Fg} {c : Value} {m : Str} {n : String} (h : fclsB K c m n = true) : PySem.W.findCls K c (.type "type") m = some (.val (.builtin n)) := by
  unfold fclsB at h
  split at h
  · rename_i q
    rw [q, of_decide_eq_true h]
  · cases h
def pd0 : PathD := ⟨fun K => He.ga K "is_name", "is_name", "is_name", defArgs (top 9), defBody (top 9), defScope (top 9), []⟩
def pd1 : PathD := ⟨fun K => He.ga K "is_count", "is_count", "is_count", defArgs (top 10), defBody (top 10), defScope (top 10), []⟩
def pd2 : PathD := ⟨fun K => He.ga K "run_end", "run_end", "run_end", defArgs (top 19), defBody (top 19), defScope (top 19), []⟩
def pd3 : PathD := ⟨fun K => He.ga K "read_constant", "read_constant", "read_constant", defArgs (top 20), defBody (top 20), defScope (top 20), []⟩
def pd4 : PathD := ⟨fun K => He.ga K "closed", "closed", "closed", defArgs (top 21), defBody (top 21), defScope (top 21), []⟩
def pd5 : PathD := ⟨fun K => He.ga K "read_expression", "read_expression", "read_expression", defArgs (top 22), defBody (top 22), defScope (top 22), []⟩
def pd6 : PathD := ⟨fun K => He.ga K "parse_expression", "parse_expression", "parse_expression", defArgs (top 23), defBody (top 23), defScope (top 23), []⟩
def pd7 : PathD := ⟨fun K => He.ga K "_law_pot", "_law_pot", "_law_pot", defArgs (top 25), defBody (top 25), defScope (top 25), []⟩
def pd8 : PathD := ⟨fun K => He.ga K "_law_draw", "_law_draw", "_law_draw", defArgs (top 26), defBody (top 26), defScope (top 26), []⟩
def pd9 : PathD := ⟨fun K => He.ga K "_law_choice", "_law_choice", "_law_choice", defArgs (top 27), defBody (top 27), defScope (top 27), []⟩
def pd10 : PathD := ⟨fun K => He.ga K "_law_word", "_law_word", "_law_word", defArgs (top 29), defBody (top 29), defScope (top 29), []⟩
def pd11 : PathD := ⟨fun K => He.ga K "_law_tree", "_law_tree", "_law_tree", defArgs (top 30), defBody (top 30), defScope (top 30), []⟩
def pd12 : PathD := ⟨fun K => He.ga K "_law_expression", "_law_expression", "_law_expression", defArgs (top 31), defBody (top 31), defScope (top 31), []⟩
def pd13 : PathD := ⟨fun K => He.ga K "_law_written", "_law_written", "_law_written", defArgs (top 32), defBody (top 32), defScope (top 32), []⟩
def pd14 : PathD := ⟨fun K => He.ga K "_law_many", "_law_many", "_law_many", defArgs (top 33), defBody (top 33), defScope (top 33), []⟩
def pd15 : PathD := ⟨fun K => He.ga K "_law_deep", "_law_deep", "_law_deep", defArgs (top 34), defBody (top 34), defScope (top 34), []⟩
def pd16 : PathD := ⟨fun K => He.ga K "_law_read", "_law_read", "_law_read", defArgs (top 35), defBody (top 35), defScope (top 35), []⟩
def pd17 : PathD := ⟨fun K => He.ga K "_law_read_number", "_law_read_number", "_law_read_number", defArgs (top 36), defBody (top 36), defScope (top 36), []⟩
def pd18 : PathD := ⟨fun K => He.ga K "_law_read_parts", "_law_read_parts", "_law_read_parts", defArgs (top 37), defBody (top 37), defScope (top 37), []⟩
def pd19 : PathD := ⟨fun K => He.ga K "_law_told", "_law_told", "_law_told", defArgs (top 38), defBody (top 38), defScope (top 38), []⟩
def pd20 : PathD := ⟨fun K => He.ga K "_law_spoilt", "_law_spoilt", "_law_spoilt", defArgs (top 39), defBody (top 39), defScope (top 39), []⟩
def pd21 : PathD := ⟨fun K => He.ga K "_law_same", "_law_same", "_law_same", defArgs (top 40), defBody (top 40), defScope (top 40), []⟩
def pd22 : PathD := ⟨fun K => He.ga K "_law_parts_right", "_law_parts_right", "_law_parts_right", defArgs (top 41), defBody (top 41), defScope (top 41), []⟩
def pd23 : PathD := ⟨fun K => He.ga K "_law_twice_right", "_law_twice_right", "_law_twice_right", defArgs (top 42), defBody (top 42), defScope (top 42), []⟩
def pd24 : PathD := ⟨fun K => He.ga K "_law_tree_right", "_law_tree_right", "_law_tree_right", defArgs (top 43), defBody (top 43), defScope (top 43), []⟩
def pd25 : PathD := ⟨fun K => He.ga K "_law_wide", "_law_wide", "_law_wide", defArgs (top 44), defBody (top 44), defScope (top 44), []⟩
def pd26 : PathD := ⟨fun K => He.ga K "_law_sizes_right", "_law_sizes_right", "_law_sizes_right", defArgs (top 45), defBody (top 45), defScope (top 45), []⟩
def pd27 : PathD := ⟨fun K => He.ga K "_law_right", "_law_right", "_law_right", defArgs (top 46), defBody (top 46), defScope (top 46), []⟩
def pd28 : PathD := ⟨fun K => He.ga K "law", "law", "law", defArgs (top 47), defBody (top 47), defScope (top 47), []⟩
def pd29 : PathD := ⟨fun K => He.ma K (He.ga K "InvalidText") "__init__", "__init__", "InvalidText.__init__", defArgs (sub 5 0), defBody (sub 5 0), defScope (sub 5 0), []⟩
def pd30 : PathD := ⟨fun K => He.ma K (He.ga K "InvalidName") "__init__", "__init__", "InvalidName.__init__", defArgs (sub 2 0), defBody (sub 2 0), defScope (sub 2 0), []⟩
def pd31 : PathD := ⟨fun K => He.ma K (He.ga K "InvalidValue") "__init__", "__init__", "InvalidValue.__init__", defArgs (sub 3 0), defBody (sub 3 0), defScope (sub 3 0), []⟩
def pd32 : PathD := ⟨fun K => He.ma K (He.ga K "InvalidExpression") "__init__", "__init__", "InvalidExpression.__init__", defArgs (sub 4 0), defBody (sub 4 0), defScope (sub 4 0), []⟩
def pd33 : PathD := ⟨fun K => He.ma K (He.ga K "Expression") "parts", "parts", "Expression.parts", defArgs (sub 16 1), defBody (sub 16 1), defScope (sub 16 1), []⟩
def pd34 : PathD := ⟨fun K => He.ma K (He.ga K "Expression") "size", "size", "Expression.size", defArgs (sub 16 2), defBody (sub 16 2), defScope (sub 16 2), []⟩
def pd35 : PathD := ⟨fun K => He.ma K (He.ga K "Expression") "depth", "depth", "Expression.depth", defArgs (sub 16 3), defBody (sub 16 3), defScope (sub 16 3), []⟩
def pd36 : PathD := ⟨fun K => He.ma K (He.ga K "Expression") "__str__", "__str__", "Expression.__str__", defArgs (sub 16 4), defBody (sub 16 4), defScope (sub 16 4), []⟩
def pd37 : PathD := ⟨fun K => He.ma K (He.ga K "Expression") "__repr__", "__repr__", "Expression.__repr__", defArgs (sub 16 5), defBody (sub 16 5), defScope (sub 16 5), []⟩
def pd38 : PathD := ⟨fun K => He.ma K (He.ga K "Expression") "__eq__", "__eq__", "Expression.__eq__", defArgs (sub 16 6), defBody (sub 16 6), defScope (sub 16 6), []⟩
def pd39 : PathD := ⟨fun K => He.ma K (He.ga K "Expression") "__init__", "__init__", "Expression.__init__", defArgs (sub 16 0), defBody (sub 16 0), defScope (sub 16 0), []⟩
def pd40 : PathD := ⟨fun K => He.ma K (He.ga K "Constant") "__init__", "__init__", "Constant.__init__", defArgs (sub 17 0), defBody (sub 17 0), defScope (sub 17 0), ["__class__"]⟩
def pd41 : PathD := ⟨fun K => He.ma K (He.ga K "Application") "__init__", "__init__", "Application.__init__", defArgs (sub 18 0), defBody (sub 18 0), defScope (sub 18 0), ["__class__"]⟩
def pd42 : PathD := ⟨fun K => propG K (He.ma K (He.ga K "Constant") "type_name"), "type_name", "Constant.type_name", defArgs (sub 17 1), defBody (sub 17 1), defScope (sub 17 1), []⟩
def pd43 : PathD := ⟨fun K => propG K (He.ma K (He.ga K "Constant") "number"), "number", "Constant.number", defArgs (sub 17 2), defBody (sub 17 2), defScope (sub 17 2), []⟩
def pd44 : PathD := ⟨fun K => propG K (He.ma K (He.ga K "Application") "operator_name"), "operator_name", "Application.operator_name", defArgs (sub 18 1), defBody (sub 18 1), defScope (sub 18 1), []⟩
def fnL : List PathD := ([pd0, pd1, pd2, pd3, pd4, pd5, pd6, pd7, pd8, pd9] : List PathD) ++ ([pd10, pd11, pd12, pd13, pd14, pd15, pd16, pd17, pd18, pd19] : List PathD) ++ ([pd20, pd21, pd22, pd23, pd24, pd25, pd26, pd27, pd28, pd29] : List PathD) ++ ([pd30, pd31, pd32, pd33, pd34, pd35, pd36, pd37, pd38, pd39] : List PathD) ++ ([pd40, pd41, pd42, pd43, pd44] : List PathD)
def faL : List He.Fa := ([He.Fa.glo "is_name", He.Fa.glo "is_count", He.Fa.glo "run_end", He.Fa.glo "read_constant", He.Fa.glo "closed", He.Fa.glo "read_expression", He.Fa.glo "parse_expression", He.Fa.glo "_law_pot", He.Fa.glo "_law_draw", He.Fa.glo "_law_choice"] : List He.Fa) ++ ([He.Fa.glo "_law_word", He.Fa.glo "_law_tree", He.Fa.glo "_law_expression", He.Fa.glo "_law_written", He.Fa.glo "_law_many", He.Fa.glo "_law_deep", He.Fa.glo "_law_read", He.Fa.glo "_law_read_number", He.Fa.glo "_law_read_parts", He.Fa.glo "_law_told"] : List He.Fa) ++ ([He.Fa.glo "_law_spoilt", He.Fa.glo "_law_same", He.Fa.glo "_law_parts_right", He.Fa.glo "_law_twice_right", He.Fa.glo "_law_tree_right", He.Fa.glo "_law_wide", He.Fa.glo "_law_sizes_right", He.Fa.glo "_law_right", He.Fa.glo "law", He.Fa.free "len"] : List He.Fa) ++ ([He.Fa.free "abs", He.Fa.free "sum", He.Fa.free "all", He.Fa.free "any", He.Fa.free "divmod", He.Fa.free "max", He.Fa.free "min", He.Fa.free "range", He.Fa.free "isinstance", He.Fa.free "repr"] : List He.Fa) ++ ([He.Fa.free "str", He.Fa.free "int", He.Fa.free "tuple", He.Fa.free "bool", He.Fa.free "list", He.Fa.int "MOST_LETTERS" 8, He.Fa.int "MAX_SIZE" 60, He.Fa.int "MAX_PARTS" 2, He.Fa.str "LETTERS_names" "abcdefghijklmnopqrstuvwxyz", He.Fa.str "LETTERS_expressions" "abcdefghijklmnopqrstuvwxyz"] : List He.Fa) ++ ([He.Fa.str "DIGITS" "0123456789", He.Fa.glo "CastError", He.Fa.glo "InvalidText", He.Fa.glo "InvalidName", He.Fa.glo "InvalidValue", He.Fa.glo "InvalidExpression", He.Fa.cls "Constant", He.Fa.cls "Application", He.Fa.glo "Expression", He.Fa.free "super"] : List He.Fa) ++ ([He.Fa.mkr "Constant", He.Fa.mkr "Application", He.Fa.glo "Constant", He.Fa.glo "Application", He.Fa.free "LookupError"] : List He.Fa)
def exL (K : Fg) : List Bool := ([PySem.W.readsIn K (He.ga K "CastError") (.type "type"), decide (PySem.W.specialIn K (.ref (He.ga K "CastError")) "__getattribute__" = some (some (.builtin "type.__getattribute__"))), fclsB K (.ref (He.ga K "CastError")) "__init__" "ValueError.__init__", decide (PySem.W.findIn K (.ref (He.ga K "InvalidText")) "__init__" = some (some (.ref (He.ma K (He.ga K "InvalidText") "__init__")))), decide (PySem.W.typeIn K (.ref (He.ma K (He.ga K "InvalidText") "__init__")) = some (.type "function")), oexB K (He.ga K "InvalidText"), xfB K (He.ga K "InvalidText"), decide (PySem.W.findIn K (.ref (He.ga K "InvalidText")) "line" = some none)] : List Bool) ++ ([decide (PySem.W.findIn K (.ref (He.ga K "InvalidName")) "__init__" = some (some (.ref (He.ma K (He.ga K "InvalidName") "__init__")))), decide (PySem.W.typeIn K (.ref (He.ma K (He.ga K "InvalidName") "__init__")) = some (.type "function")), oexB K (He.ga K "InvalidName"), xfB K (He.ga K "InvalidName"), decide (PySem.W.findIn K (.ref (He.ga K "InvalidName")) "value" = some none), decide (PySem.W.findIn K (.ref (He.ga K "InvalidValue")) "__init__" = some (some (.ref (He.ma K (He.ga K "InvalidValue") "__init__")))), decide (PySem.W.typeIn K (.ref (He.ma K (He.ga K "InvalidValue") "__init__")) = some (.type "function")), oexB K (He.ga K "InvalidValue")] : List Bool) ++ ([xfB K (He.ga K "InvalidValue"), decide (PySem.W.findIn K (.ref (He.ga K "InvalidValue")) "value" = some none), decide (PySem.W.findIn K (.ref (He.ga K "InvalidExpression")) "__init__" = some (some (.ref (He.ma K (He.ga K "InvalidExpression") "__init__")))), decide (PySem.W.typeIn K (.ref (He.ma K (He.ga K "InvalidExpression") "__init__")) = some (.type "function")), oexB K (He.ga K "InvalidExpression"), xfB K (He.ga K "InvalidExpression"), decide (PySem.W.findIn K (.ref (He.ga K "InvalidExpression")) "value" = some none), decide (PySem.W.specialIn K (.builtin "object.__class__") "__get__" = some (some (.builtin "getset_descriptor.__get__")))] : List Bool) ++ ([decide (PySem.W.takesIn K (.builtin "object.__class__") = some true), decide (PySem.W.findIn K (.ref (He.ga K "Constant")) "__class__" = some (some (.builtin "object.__class__"))), decide (PySem.W.mroIn K (He.ga K "Constant") (.type "object") = some true), decide (PySem.W.findIn K (.ref (He.ga K "Application")) "__class__" = some (some (.builtin "object.__class__"))), decide (PySem.W.mroIn K (He.ga K "Application") (.type "object") = some true), decide (PySem.W.kitOne K (.ref (He.ga K "Constant")) (.type "str") = some false), decide (PySem.W.kitOne K (.ref (He.ga K "Constant")) (.type "int") = some false), decide (PySem.W.kitOne K (.ref (He.ga K "Constant")) (.type "bool") = some false)] : List Bool) ++ ([decide (PySem.W.kitOne K (.ref (He.ga K "Application")) (.type "str") = some false), decide (PySem.W.kitOne K (.ref (He.ga K "Application")) (.type "int") = some false), decide (PySem.W.kitOne K (.ref (He.ga K "Application")) (.type "bool") = some false), decide (PySem.W.kitOne K (.type "NoneType") (.ref (He.ga K "Expression")) = some false), decide (PySem.W.kitOne K (.type "bool") (.ref (He.ga K "Expression")) = some false), decide (PySem.W.kitOne K (.type "int") (.ref (He.ga K "Expression")) = some false), decide (PySem.W.kitOne K (.type "str") (.ref (He.ga K "Expression")) = some false), decide (PySem.W.kitOne K (.type "list") (.ref (He.ga K "Expression")) = some false)] : List Bool) ++ ([decide (PySem.W.kitOne K (.type "tuple") (.ref (He.ga K "Expression")) = some false), decide (PySem.W.kitOne K (.type "dict") (.ref (He.ga K "Expression")) = some false), decide (PySem.W.kitOne K (.ref (He.ga K "Constant")) (.ref (He.ga K "Expression")) = some true), decide (PySem.W.kitOne K (.ref (He.ga K "Application")) (.ref (He.ga K "Expression")) = some true), decide (PySem.W.findIn K (.ref (He.ga K "Constant")) "own_parts" = some none), decide (PySem.W.findIn K (.ref (He.ga K "Application")) "own_parts" = some none), decide (PySem.W.findIn K (.ref (He.ga K "Constant")) "own_text" = some none), decide (PySem.W.findIn K (.ref (He.ga K "Application")) "own_text" = some none)] : List Bool) ++ ([decide (PySem.W.findIn K (.ref (He.ga K "Constant")) "own_size" = some none), decide (PySem.W.findIn K (.ref (He.ga K "Application")) "own_size" = some none), decide (PySem.W.findIn K (.ref (He.ga K "Constant")) "own_depth" = some none), decide (PySem.W.findIn K (.ref (He.ga K "Application")) "own_depth" = some none), decide (PySem.W.findIn K (.ref (He.ga K "Constant")) "own_type" = some none), decide (PySem.W.findIn K (.ref (He.ga K "Application")) "own_type" = some none), decide (PySem.W.findIn K (.ref (He.ga K "Constant")) "own_number" = some none), decide (PySem.W.findIn K (.ref (He.ga K "Application")) "own_number" = some none)] : List Bool) ++ ([decide (PySem.W.findIn K (.ref (He.ga K "Constant")) "own_operator" = some none), decide (PySem.W.findIn K (.ref (He.ga K "Application")) "own_operator" = some none), PySem.W.isFn K (.ref (He.ma K (He.ga K "Expression") "parts")), PySem.W.keepIn K (.ref (He.ma K (He.ga K "Expression") "parts")), decide (PySem.W.findIn K (.ref (He.ga K "Constant")) "parts" = some (some (.ref (He.ma K (He.ga K "Expression") "parts")))), decide (PySem.W.findIn K (.ref (He.ga K "Application")) "parts" = some (some (.ref (He.ma K (He.ga K "Expression") "parts")))), PySem.W.isFn K (.ref (He.ma K (He.ga K "Expression") "size")), PySem.W.keepIn K (.ref (He.ma K (He.ga K "Expression") "size"))] : List Bool) ++ ([decide (PySem.W.findIn K (.ref (He.ga K "Constant")) "size" = some (some (.ref (He.ma K (He.ga K "Expression") "size")))), decide (PySem.W.findIn K (.ref (He.ga K "Application")) "size" = some (some (.ref (He.ma K (He.ga K "Expression") "size")))), PySem.W.isFn K (.ref (He.ma K (He.ga K "Expression") "depth")), PySem.W.keepIn K (.ref (He.ma K (He.ga K "Expression") "depth")), decide (PySem.W.findIn K (.ref (He.ga K "Constant")) "depth" = some (some (.ref (He.ma K (He.ga K "Expression") "depth")))), decide (PySem.W.findIn K (.ref (He.ga K "Application")) "depth" = some (some (.ref (He.ma K (He.ga K "Expression") "depth")))), PySem.W.isFn K (.ref (He.ma K (He.ga K "Expression") "__str__")), PySem.W.keepIn K (.ref (He.ma K (He.ga K "Expression") "__str__"))] : List Bool) ++ ([decide (PySem.W.findIn K (.ref (He.ga K "Constant")) "__str__" = some (some (.ref (He.ma K (He.ga K "Expression") "__str__")))), decide (PySem.W.findIn K (.ref (He.ga K "Application")) "__str__" = some (some (.ref (He.ma K (He.ga K "Expression") "__str__")))), PySem.W.isFn K (.ref (He.ma K (He.ga K "Expression") "__repr__")), PySem.W.keepIn K (.ref (He.ma K (He.ga K "Expression") "__repr__")), decide (PySem.W.findIn K (.ref (He.ga K "Constant")) "__repr__" = some (some (.ref (He.ma K (He.ga K "Expression") "__repr__")))), decide (PySem.W.findIn K (.ref (He.ga K "Application")) "__repr__" = some (some (.ref (He.ma K (He.ga K "Expression") "__repr__")))), PySem.W.isFn K (.ref (He.ma K (He.ga K "Expression") "__eq__")), PySem.W.keepIn K (.ref (He.ma K (He.ga K "Expression") "__eq__"))] : List Bool) ++ ([decide (PySem.W.findIn K (.ref (He.ga K "Constant")) "__eq__" = some (some (.ref (He.ma K (He.ga K "Expression") "__eq__")))), decide (PySem.W.findIn K (.ref (He.ga K "Application")) "__eq__" = some (some (.ref (He.ma K (He.ga K "Expression") "__eq__")))), cellB K (cloAt K (He.ma K (He.ga K "Constant") "__init__")) (He.ga K "Constant"), (PySem.W.clsIn K (He.ga K "Constant")).isSome, decide (PySem.W.mroIn K (He.ga K "Constant") (.ref (He.ga K "Constant")) = some true), decide (PySem.W.ks_superIn K (He.ga K "Constant") (He.ga K "Constant") "__init__" = some (some (.ref (He.ma K (He.ga K "Expression") "__init__")))), decide (PySem.W.typeIn K (.ref (He.ma K (He.ga K "Expression") "__init__")) = some (.type "function")), PySem.W.fnIn K (He.ma K (He.ga K "Expression") "__init__")] : List Bool) ++ ([decide (PySem.W.nsIn K cStatics "thirdparty.any" = some none), fileB K (codeAt K (He.ma K (He.ga K "Constant") "__init__")) progFile, codeRefB K (He.ma K (He.ga K "Constant") "__init__"), cellB K (cloAt K (He.ma K (He.ga K "Application") "__init__")) (He.ga K "Application"), (PySem.W.clsIn K (He.ga K "Application")).isSome, decide (PySem.W.mroIn K (He.ga K "Application") (.ref (He.ga K "Application")) = some true), decide (PySem.W.ks_superIn K (He.ga K "Application") (He.ga K "Application") "__init__" = some (some (.ref (He.ma K (He.ga K "Expression") "__init__")))), fileB K (codeAt K (He.ma K (He.ga K "Application") "__init__")) progFile] : List Bool) ++ ([codeRefB K (He.ma K (He.ga K "Application") "__init__"), decide (PySem.W.findIn K (.ref (He.ga K "Constant")) "type_name" = some (some (.ref (He.ma K (He.ga K "Constant") "type_name")))), decide (PySem.W.specialIn K (.ref (He.ma K (He.ga K "Constant") "type_name")) "__get__" = some (some (.builtin "property.__get__"))), decide (PySem.W.takesIn K (.ref (He.ma K (He.ga K "Constant") "type_name")) = some true), propB K (He.ma K (He.ga K "Constant") "type_name"), decide (PySem.W.findIn K (.ref (He.ga K "Constant")) "number" = some (some (.ref (He.ma K (He.ga K "Constant") "number")))), decide (PySem.W.specialIn K (.ref (He.ma K (He.ga K "Constant") "number")) "__get__" = some (some (.builtin "property.__get__"))), decide (PySem.W.takesIn K (.ref (He.ma K (He.ga K "Constant") "number")) = some true)] : List Bool) ++ ([propB K (He.ma K (He.ga K "Constant") "number"), decide (PySem.W.findIn K (.ref (He.ga K "Application")) "operator_name" = some (some (.ref (He.ma K (He.ga K "Application") "operator_name")))), decide (PySem.W.specialIn K (.ref (He.ma K (He.ga K "Application") "operator_name")) "__get__" = some (some (.builtin "property.__get__"))), decide (PySem.W.takesIn K (.ref (He.ma K (He.ga K "Application") "operator_name")) = some true), propB K (He.ma K (He.ga K "Application") "operator_name"), decide (PySem.W.findIn K (.ref (He.ga K "Constant")) "__ne__" = some (some (.builtin "object.__ne__"))), decide (PySem.W.mroIn K (He.ga K "Constant") (.type "NoneType") = some false), PySem.W.notFirst K (He.ga K "Constant") (.type "NoneType")] : List Bool) ++ ([decide (PySem.W.mroIn K (He.ga K "Constant") (.type "int") = some false), PySem.W.notFirst K (He.ga K "Constant") (.type "int"), decide (PySem.W.mroIn K (He.ga K "Constant") (.type "str") = some false), PySem.W.notFirst K (He.ga K "Constant") (.type "str"), decide (PySem.W.mroIn K (He.ga K "Constant") (.type "list") = some false), PySem.W.notFirst K (He.ga K "Constant") (.type "list"), decide (PySem.W.mroIn K (He.ga K "Constant") (.type "tuple") = some false), PySem.W.notFirst K (He.ga K "Constant") (.type "tuple")] : List Bool) ++ ([PySem.W.notFirst K (He.ga K "Constant") (.ref (He.ga K "Constant")), PySem.W.notFirst K (He.ga K "Constant") (.ref (He.ga K "Application")), decide (PySem.W.findIn K (.ref (He.ga K "Application")) "__ne__" = some (some (.builtin "object.__ne__"))), decide (PySem.W.mroIn K (He.ga K "Application") (.type "NoneType") = some false), PySem.W.notFirst K (He.ga K "Application") (.type "NoneType"), decide (PySem.W.mroIn K (He.ga K "Application") (.type "int") = some false), PySem.W.notFirst K (He.ga K "Application") (.type "int"), decide (PySem.W.mroIn K (He.ga K "Application") (.type "str") = some false)] : List Bool) ++ ([PySem.W.notFirst K (He.ga K "Application") (.type "str"), decide (PySem.W.mroIn K (He.ga K "Application") (.type "list") = some false), PySem.W.notFirst K (He.ga K "Application") (.type "list"), decide (PySem.W.mroIn K (He.ga K "Application") (.type "tuple") = some false), PySem.W.notFirst K (He.ga K "Application") (.type "tuple"), PySem.W.notFirst K (He.ga K "Application") (.ref (He.ga K "Constant")), PySem.W.notFirst K (He.ga K "Application") (.ref (He.ga K "Application")), decide (PySem.W.findIn K (.ref (He.ga K "InvalidText")) "__class__" = some (some (.builtin "object.__class__")))] : List Bool) ++ ([decide (PySem.W.mroIn K (He.ga K "InvalidText") (.type "object") = some true), decide (PySem.W.exmOne K (.ref (He.ga K "InvalidText")) (.ref (He.ga K "InvalidText")) = some true), decide (PySem.W.kitAny K (.ref (He.ga K "InvalidText")) [(.ref (He.ga K "InvalidExpression")), (.ref (He.ga K "InvalidName")), (.ref (He.ga K "InvalidValue")), .type "LookupError"] = some false), decide (PySem.W.kitOne K (.ref (He.ga K "InvalidText")) (.ref (He.ga K "CastError")) = some true), decide (PySem.W.exmOne K (.ref (He.ga K "InvalidExpression")) (.ref (He.ga K "InvalidExpression")) = some true), decide (PySem.W.exmOne K (.ref (He.ga K "InvalidText")) (.ref (He.ga K "InvalidExpression")) = some false)] : List Bool)
def chkL (K : Fg) : Bool := (faL.all fun f => f.ok K) && (exL K).all id
abbrev hk84 : PySem.W.Hook := hookX 6 chkL fnL
def ob84 (s : PySem.W.SharedT) : AlX := obsXG 6 chkL fnL (HandSHeadRun.getT s)
theorem ob84_eq (s : PySem.W.SharedT) : ob84 s = hk84.obs s.abs := obsXG_eq (HandSHeadRun.getT_eq s)
def loose84 : List PySem.Str := (["CastError", "InvalidName", "InvalidValue", "InvalidExpression", "InvalidText", "LETTERS_names", "MOST_LETTERS", "is_name", "is_count", "MAX_SIZE", "MAX_PARTS", "DIGITS"] : List PySem.Str) ++ (["LETTERS_expressions", "Expression", "Constant", "Application", "run_end", "read_constant", "closed", "read_expression", "parse_expression", "_law_pot", "_law_draw", "_law_choice"] : List PySem.Str) ++ (["_law_mixed", "_law_word", "_law_tree", "_law_expression", "_law_written", "_law_many", "_law_deep", "_law_read", "_law_read_number", "_law_read_parts", "_law_told", "_law_spoilt"] : List PySem.Str) ++ (["_law_same", "_law_parts_right", "_law_twice_right", "_law_tree_right", "_law_wide", "_law_sizes_right", "_law_right"] : List PySem.Str)
theorem run84 (w : World) : HandSHeadRun.RunEq R (PySem.W.view R.prog [47]) hk84 ob84 4000 loose84 w := by
  intro os
  kernel_rfl
end K84
end
section
set_option Elab.async false
set_option linter.all false
set_option maxRecDepth 100000
set_option maxHeartbeats 400000
/-! the head of k84: what the walks lean on -/
namespace K84
open PySem PySem.Spec PyProof.Rows L2 PD NdefX ClX StX
theorem fat {K : Fg} (h : (faL.all fun f => f.ok K) = true) (i : Nat) {f : He.Fa} (e : faL[i]? = some f := by kernel_rfl) : f.ok K = true := List.all_eq_true.mp h f (List.mem_of_getElem? e)
theorem fldok {K : Fg} {c f : Str} (h1 : Cls K (He.ga K c)) (h2 : PySem.W.findIn K (.ref (He.ga K c)) f = some none) : FldOk K c f := ⟨h1, h2⟩
theorem cls_cases {p : Str → Prop} (h1 : p "Constant") (h2 : p "Application") : ∀ c, cls.contains c = true → p c := fun c h => by
  have m : c ∈ cls := List.contains_iff_mem.mp h
  rcases List.mem_cons.mp m with e | m
  · rw [e]; exact h1
  · rcases List.mem_cons.mp m with e | m
    · rw [e]; exact h2
    · cases m
theorem kinds_cases {p : String → Prop} (h1 : p "NoneType") (h2 : p "bool") (h3 : p "int") (h4 : p "str") (h5 : p "list") (h6 : p "tuple") (h7 : p "dict") : ∀ a, kinds.contains a = true → p a := fun c h => by
  have m : c ∈ kinds := List.contains_iff_mem.mp h
  simp only [kinds, List.mem_cons, List.not_mem_nil, or_false] at m
  rcases m with e | e | e | e | e | e | e <;> (rw [e]; assumption)
section
variable {P : Program} {w : World} {K : Fg} {h : Heap} {mg : Str → Option Value} {base : Heap}
theorem facts0 (X : K.In h) (G : h.Ns mainGlobals mg) (c : SaysX chkL fnL K) : Facts P w K mg base := by
  obtain ⟨hf, he⟩ := Bool.and_eq_true_iff.mp c.all_
  have B : BaseRd K mg "CastError" := ⟨(He.glo_ok X G (fat hf 51)), (all_at he 0), (all_dec he 1), fclsB_ok (all_at he 2)⟩
  exact {
    d_is_name := by obtain ⟨fd, h⟩ := c.funD (d := pd0) 0; exact ⟨_, fd, (He.glo_ok X G (fat hf 0)), h⟩
    d_is_count := by obtain ⟨fd, h⟩ := c.funD (d := pd1) 1; exact ⟨_, fd, (He.glo_ok X G (fat hf 1)), h⟩
    d_run_end := by obtain ⟨fd, h⟩ := c.funD (d := pd2) 2; exact ⟨_, fd, (He.glo_ok X G (fat hf 2)), h⟩
    d_read_constant := by obtain ⟨fd, h⟩ := c.funD (d := pd3) 3; exact ⟨_, fd, (He.glo_ok X G (fat hf 3)), h⟩
    d_closed := by obtain ⟨fd, h⟩ := c.funD (d := pd4) 4; exact ⟨_, fd, (He.glo_ok X G (fat hf 4)), h⟩
    d_read_expression := by obtain ⟨fd, h⟩ := c.funD (d := pd5) 5; exact ⟨_, fd, (He.glo_ok X G (fat hf 5)), h⟩
    d_parse_expression := by obtain ⟨fd, h⟩ := c.funD (d := pd6) 6; exact ⟨_, fd, (He.glo_ok X G (fat hf 6)), h⟩
    d__law_pot := by obtain ⟨fd, h⟩ := c.funD (d := pd7) 7; exact ⟨_, fd, (He.glo_ok X G (fat hf 7)), h⟩
    d__law_draw := by obtain ⟨fd, h⟩ := c.funD (d := pd8) 8; exact ⟨_, fd, (He.glo_ok X G (fat hf 8)), h⟩
    d__law_choice := by obtain ⟨fd, h⟩ := c.funD (d := pd9) 9; exact ⟨_, fd, (He.glo_ok X G (fat hf 9)), h⟩
    d__law_word := by obtain ⟨fd, h⟩ := c.funD (d := pd10) 10; exact ⟨_, fd, (He.glo_ok X G (fat hf 10)), h⟩
    d__law_tree := by obtain ⟨fd, h⟩ := c.funD (d := pd11) 11; exact ⟨_, fd, (He.glo_ok X G (fat hf 11)), h⟩
    d__law_expression := by obtain ⟨fd, h⟩ := c.funD (d := pd12) 12; exact ⟨_, fd, (He.glo_ok X G (fat hf 12)), h⟩
    d__law_written := by obtain ⟨fd, h⟩ := c.funD (d := pd13) 13; exact ⟨_, fd, (He.glo_ok X G (fat hf 13)), h⟩
    d__law_many := by obtain ⟨fd, h⟩ := c.funD (d := pd14) 14; exact ⟨_, fd, (He.glo_ok X G (fat hf 14)), h⟩
    d__law_deep := by obtain ⟨fd, h⟩ := c.funD (d := pd15) 15; exact ⟨_, fd, (He.glo_ok X G (fat hf 15)), h⟩
    d__law_read := by obtain ⟨fd, h⟩ := c.funD (d := pd16) 16; exact ⟨_, fd, (He.glo_ok X G (fat hf 16)), h⟩
    d__law_read_number := by obtain ⟨fd, h⟩ := c.funD (d := pd17) 17; exact ⟨_, fd, (He.glo_ok X G (fat hf 17)), h⟩
    d__law_read_parts := by obtain ⟨fd, h⟩ := c.funD (d := pd18) 18; exact ⟨_, fd, (He.glo_ok X G (fat hf 18)), h⟩
    d__law_told := by obtain ⟨fd, h⟩ := c.funD (d := pd19) 19; exact ⟨_, fd, (He.glo_ok X G (fat hf 19)), h⟩
    d__law_spoilt := by obtain ⟨fd, h⟩ := c.funD (d := pd20) 20; exact ⟨_, fd, (He.glo_ok X G (fat hf 20)), h⟩
    d__law_same := by obtain ⟨fd, h⟩ := c.funD (d := pd21) 21; exact ⟨_, fd, (He.glo_ok X G (fat hf 21)), h⟩
    d__law_parts_right := by obtain ⟨fd, h⟩ := c.funD (d := pd22) 22; exact ⟨_, fd, (He.glo_ok X G (fat hf 22)), h⟩
    d__law_twice_right := by obtain ⟨fd, h⟩ := c.funD (d := pd23) 23; exact ⟨_, fd, (He.glo_ok X G (fat hf 23)), h⟩
    d__law_tree_right := by obtain ⟨fd, h⟩ := c.funD (d := pd24) 24; exact ⟨_, fd, (He.glo_ok X G (fat hf 24)), h⟩
    d__law_wide := by obtain ⟨fd, h⟩ := c.funD (d := pd25) 25; exact ⟨_, fd, (He.glo_ok X G (fat hf 25)), h⟩
    d__law_sizes_right := by obtain ⟨fd, h⟩ := c.funD (d := pd26) 26; exact ⟨_, fd, (He.glo_ok X G (fat hf 26)), h⟩
    d__law_right := by obtain ⟨fd, h⟩ := c.funD (d := pd27) 27; exact ⟨_, fd, (He.glo_ok X G (fat hf 27)), h⟩
    b_len := (He.free_ok X G (fat hf 29))
    b_abs := (He.free_ok X G (fat hf 30))
    b_sum := (He.free_ok X G (fat hf 31))
    b_all := (He.free_ok X G (fat hf 32))
    b_any := (He.free_ok X G (fat hf 33))
    b_divmod := (He.free_ok X G (fat hf 34))
    b_max := (He.free_ok X G (fat hf 35))
    b_min := (He.free_ok X G (fat hf 36))
    b_range := (He.free_ok X G (fat hf 37))
    b_isinstance := (He.free_ok X G (fat hf 38))
    b_repr := (He.free_ok X G (fat hf 39))
    b_str := (He.free_ok X G (fat hf 40))
    b_int := (He.free_ok X G (fat hf 41))
    b_tuple := (He.free_ok X G (fat hf 42))
    b_bool := (He.free_ok X G (fat hf 43))
    b_list := (He.free_ok X G (fat hf 44))
    c_MOST_LETTERS := He.int_ok X G (fat hf 45)
    c_MAX_SIZE := He.int_ok X G (fat hf 46)
    c_MAX_PARTS := He.int_ok X G (fat hf 47)
    c_LETTERS_names := He.str_ok X G (fat hf 48)
    c_LETTERS_expressions := He.str_ok X G (fat hf 49)
    c_DIGITS := He.str_ok X G (fat hf 50)
    e_InvalidText := by
      obtain ⟨fd, h⟩ := c.funD (d := pd29) 29
      obtain ⟨fd2, k1, k2, k3⟩ := PD.exc_ok2 (P := P) (w := w) (base := base) (x := "InvalidText") (f := "line") (y := "line") (He.glo_ok X G (fat hf 52)) B (oexB_ok (all_at he 5)) (xfB_ok (all_at he 6)) (all_dec he 7) (all_dec he 3) (all_dec he 4) h ⟨rfl, rfl, rfl, by decide +kernel, rfl, by decide +kernel, by decide +kernel⟩ rfl rfl rfl rfl (by decide) (by decide) (fun _ _ _ _ _ _ us hl => match us, hl with | [_, _], _ => rfl) (fun env => rfl)
      exact ⟨(He.glo_ok X G (fat hf 52)), (oexB_ok (all_at he 5)), (xfB_ok (all_at he 6)), (all_dec he 7), _, fd2, _, (all_dec he 3), (all_dec he 4), k1, k2, k3⟩
    e_InvalidName := by
      obtain ⟨fd, h⟩ := c.funD (d := pd30) 30
      obtain ⟨fd2, k1, k2, k3⟩ := PD.exc_ok2 (P := P) (w := w) (base := base) (x := "InvalidName") (f := "value") (y := "value") (He.glo_ok X G (fat hf 53)) B (oexB_ok (all_at he 10)) (xfB_ok (all_at he 11)) (all_dec he 12) (all_dec he 8) (all_dec he 9) h ⟨rfl, rfl, rfl, by decide +kernel, rfl, by decide +kernel, by decide +kernel⟩ rfl rfl rfl rfl (by decide) (by decide) (fun _ _ _ _ _ _ us hl => match us, hl with | [_, _], _ => rfl) (fun env => rfl)
      exact ⟨(He.glo_ok X G (fat hf 53)), (oexB_ok (all_at he 10)), (xfB_ok (all_at he 11)), (all_dec he 12), _, fd2, _, (all_dec he 8), (all_dec he 9), k1, k2, k3⟩
    e_InvalidValue := by
      obtain ⟨fd, h⟩ := c.funD (d := pd31) 31
      obtain ⟨fd2, k1, k2, k3⟩ := PD.exc_ok2 (P := P) (w := w) (base := base) (x := "InvalidValue") (f := "value") (y := "value") (He.glo_ok X G (fat hf 54)) B (oexB_ok (all_at he 15)) (xfB_ok (all_at he 16)) (all_dec he 17) (all_dec he 13) (all_dec he 14) h ⟨rfl, rfl, rfl, by decide +kernel, rfl, by decide +kernel, by decide +kernel⟩ rfl rfl rfl rfl (by decide) (by decide) (fun _ _ _ _ _ _ us hl => match us, hl with | [_, _], _ => rfl) (fun env => rfl)
      exact ⟨(He.glo_ok X G (fat hf 54)), (oexB_ok (all_at he 15)), (xfB_ok (all_at he 16)), (all_dec he 17), _, fd2, _, (all_dec he 13), (all_dec he 14), k1, k2, k3⟩
    e_InvalidExpression := by
      obtain ⟨fd, h⟩ := c.funD (d := pd32) 32
      obtain ⟨fd2, k1, k2, k3⟩ := PD.exc_ok2 (P := P) (w := w) (base := base) (x := "InvalidExpression") (f := "value") (y := "value") (He.glo_ok X G (fat hf 55)) B (oexB_ok (all_at he 20)) (xfB_ok (all_at he 21)) (all_dec he 22) (all_dec he 18) (all_dec he 19) h ⟨rfl, rfl, rfl, by decide +kernel, rfl, by decide +kernel, by decide +kernel⟩ rfl rfl rfl rfl (by decide) (by decide) (fun _ _ _ _ _ _ us hl => match us, hl with | [_, _], _ => rfl) (fun env => rfl)
      exact ⟨(He.glo_ok X G (fat hf 55)), (oexB_ok (all_at he 20)), (xfB_ok (all_at he 21)), (all_dec he 22), _, fd2, _, (all_dec he 18), (all_dec he 19), k1, k2, k3⟩ }
theorem facts1 (X : K.In h) (G : h.Ns mainGlobals mg) (c : SaysX chkL fnL K) : KF P w K mg base := by
  obtain ⟨hf, he⟩ := Bool.and_eq_true_iff.mp c.all_
  exact { facts0 X G c with
    j := ⟨cls_cases (⟨(He.cls_ok (fat hf 56)), (all_dec he 25), (all_dec he 23), (all_dec he 24), (all_dec he 26)⟩) (⟨(He.cls_ok (fat hf 57)), (all_dec he 27), (all_dec he 23), (all_dec he 24), (all_dec he 28)⟩),
      cls_cases (by simp only [List.forall_mem_cons]; exact ⟨(all_dec he 29), (all_dec he 30), (all_dec he 31), fun _ h => nomatch h⟩) (by simp only [List.forall_mem_cons]; exact ⟨(all_dec he 32), (all_dec he 33), (all_dec he 34), fun _ h => nomatch h⟩),
      kinds_cases ((all_dec he 35)) ((all_dec he 36)) ((all_dec he 37)) ((all_dec he 38)) ((all_dec he 39)) ((all_dec he 40)) ((all_dec he 41)),
      cls_cases ((all_dec he 42)) ((all_dec he 43)), (He.glo_ok X G (fat hf 58)), (He.free_ok X G (fat hf 38))⟩
    fo := by simp only [fields, List.forall_mem_cons]; exact ⟨cls_cases (fldok (He.cls_ok (fat hf 56)) (all_dec he 44)) (fldok (He.cls_ok (fat hf 57)) (all_dec he 45)), cls_cases (fldok (He.cls_ok (fat hf 56)) (all_dec he 46)) (fldok (He.cls_ok (fat hf 57)) (all_dec he 47)), cls_cases (fldok (He.cls_ok (fat hf 56)) (all_dec he 48)) (fldok (He.cls_ok (fat hf 57)) (all_dec he 49)), cls_cases (fldok (He.cls_ok (fat hf 56)) (all_dec he 50)) (fldok (He.cls_ok (fat hf 57)) (all_dec he 51)), cls_cases (fldok (He.cls_ok (fat hf 56)) (all_dec he 52)) (fldok (He.cls_ok (fat hf 57)) (all_dec he 53)), cls_cases (fldok (He.cls_ok (fat hf 56)) (all_dec he 54)) (fldok (He.cls_ok (fat hf 57)) (all_dec he 55)), cls_cases (fldok (He.cls_ok (fat hf 56)) (all_dec he 56)) (fldok (He.cls_ok (fat hf 57)) (all_dec he 57)), fun _ h => nomatch h⟩
    m_parts := by obtain ⟨fd, h⟩ := c.funD (d := pd33) 33; exact ⟨_, fd, h, (all_at he 58), cls_cases (⟨(all_dec he 60), (all_at he 58), (all_at he 59)⟩) (⟨(all_dec he 61), (all_at he 58), (all_at he 59)⟩)⟩
    m_size := by obtain ⟨fd, h⟩ := c.funD (d := pd34) 34; exact ⟨_, fd, h, (all_at he 62), cls_cases (⟨(all_dec he 64), (all_at he 62), (all_at he 63)⟩) (⟨(all_dec he 65), (all_at he 62), (all_at he 63)⟩)⟩
    m_depth := by obtain ⟨fd, h⟩ := c.funD (d := pd35) 35; exact ⟨_, fd, h, (all_at he 66), cls_cases (⟨(all_dec he 68), (all_at he 66), (all_at he 67)⟩) (⟨(all_dec he 69), (all_at he 66), (all_at he 67)⟩)⟩
    m_str := by obtain ⟨fd, h⟩ := c.funD (d := pd36) 36; exact ⟨_, fd, h, (all_at he 70), cls_cases (⟨(all_dec he 72), (all_at he 70), (all_at he 71)⟩) (⟨(all_dec he 73), (all_at he 70), (all_at he 71)⟩)⟩
    m_repr := by obtain ⟨fd, h⟩ := c.funD (d := pd37) 37; exact ⟨_, fd, h, (all_at he 74), cls_cases (⟨(all_dec he 76), (all_at he 74), (all_at he 75)⟩) (⟨(all_dec he 77), (all_at he 74), (all_at he 75)⟩)⟩
    m_eq := by obtain ⟨fd, h⟩ := c.funD (d := pd38) 38; exact ⟨_, fd, h, (all_at he 78), cls_cases (⟨(all_dec he 80), (all_at he 78), (all_at he 79)⟩) (⟨(all_dec he 81), (all_at he 78), (all_at he 79)⟩)⟩ }
theorem facts2 (hP : P = PySem.Challenge.pw_agreeingcasts_k84_written_expressions) (X : K.In h) (G : h.Ns mainGlobals mg) (c : SaysX chkL fnL K) : KM P w K mg base := by
  obtain ⟨hf, he⟩ := Bool.and_eq_true_iff.mp c.all_
  exact { facts1 X G c with
    ini := by
      obtain ⟨fd, h⟩ := c.funD (d := pd39) 39
      exact ⟨_, fd, h, (by
        obtain ⟨e, o⟩ := c.at_ (d := pd40) 40
        obtain ⟨l1, l2, l3⟩ := PathD.cloD rfl e o (all_at he 90)
        exact ⟨_, _, _, _, ⟨⟨cellB_ok (all_at he 82), Option.isSome_iff_exists.mp (all_at he 83), (all_dec he 84), (He.free_ok X G (fat hf 59)), (all_dec he 85), (all_dec he 86), (all_at he 87), (all_dec he 88), fileB_ok (by rw [hP]; exact (all_at he 89)), by rw [hP]; decide +kernel⟩, l1, l2, rfl, by decide +kernel, by decide +kernel, by decide +kernel, rfl, l3⟩, (He.mkr_ok (fat hf 60))⟩), (by
        obtain ⟨e, o⟩ := c.at_ (d := pd41) 41
        obtain ⟨l1, l2, l3⟩ := PathD.cloD rfl e o (all_at he 96)
        exact ⟨_, _, _, _, ⟨⟨cellB_ok (all_at he 91), Option.isSome_iff_exists.mp (all_at he 92), (all_dec he 93), (He.free_ok X G (fat hf 59)), (all_dec he 94), (all_dec he 86), (all_at he 87), (all_dec he 88), fileB_ok (by rw [hP]; exact (all_at he 95)), by rw [hP]; decide +kernel⟩, l1, l2, rfl, by decide +kernel, by decide +kernel, by decide +kernel, rfl, l3⟩, (He.mkr_ok (fat hf 61))⟩)⟩
    gC := (He.glo_ok X G (fat hf 62))
    gA := (He.glo_ok X G (fat hf 63))
    p_type := by
      obtain ⟨fd, h⟩ := c.funD (d := pd42) 42
      exact ⟨_, _, fd, ⟨(all_dec he 97), (all_dec he 98), (all_dec he 99), propB_ok (all_at he 100)⟩, h⟩
    p_number := by
      obtain ⟨fd, h⟩ := c.funD (d := pd43) 43
      exact ⟨_, _, fd, ⟨(all_dec he 101), (all_dec he 102), (all_dec he 103), propB_ok (all_at he 104)⟩, h⟩
    p_op := by
      obtain ⟨fd, h⟩ := c.funD (d := pd44) 44
      exact ⟨_, _, fd, ⟨(all_dec he 105), (all_dec he 106), (all_dec he 107), propB_ok (all_at he 108)⟩, h⟩ }
theorem facts3 (hP : P = PySem.Challenge.pw_agreeingcasts_k84_written_expressions) (X : K.In h) (G : h.Ns mainGlobals mg) (c : SaysX chkL fnL K) : KE P w K mg base := by
  obtain ⟨hf, he⟩ := Bool.and_eq_true_iff.mp c.all_
  exact { facts2 hP X G c with
    eqx := cls_cases (⟨(all_dec he 109), (all_dec he 26), by simp only [eqTypes, List.forall_mem_cons]; exact ⟨⟨(all_dec he 110), (all_at he 111)⟩, ⟨(all_dec he 112), (all_at he 113)⟩, ⟨(all_dec he 114), (all_at he 115)⟩, ⟨(all_dec he 116), (all_at he 117)⟩, ⟨(all_dec he 118), (all_at he 119)⟩, fun _ h => nomatch h⟩, cls_cases ((all_at he 120)) ((all_at he 121))⟩) (⟨(all_dec he 122), (all_dec he 28), by simp only [eqTypes, List.forall_mem_cons]; exact ⟨⟨(all_dec he 123), (all_at he 124)⟩, ⟨(all_dec he 125), (all_at he 126)⟩, ⟨(all_dec he 127), (all_at he 128)⟩, ⟨(all_dec he 129), (all_at he 130)⟩, ⟨(all_dec he 131), (all_at he 132)⟩, fun _ h => nomatch h⟩, cls_cases ((all_at he 133)) ((all_at he 134))⟩) }
theorem facts4 (X : K.In h) (G : h.Ns mainGlobals mg) (c : SaysX chkL fnL K) : ToldF K mg ∧ ParseF K ∧ SizeF K ∧ DefIs K mg "law" (top 47) := by
  obtain ⟨hf, he⟩ := Bool.and_eq_true_iff.mp c.all_
  exact ⟨⟨(He.glo_ok X G (fat hf 52)), (He.glo_ok X G (fat hf 55)), (He.glo_ok X G (fat hf 53)), (He.glo_ok X G (fat hf 54)), (He.glo_ok X G (fat hf 51)), (He.free_ok X G (fat hf 64)), ⟨(xfB_ok (all_at he 6)), (all_dec he 135), (all_dec he 23), (all_dec he 24), (all_dec he 136)⟩, (all_dec he 7), (all_dec he 137), (all_dec he 138), (all_dec he 139)⟩, ⟨(all_dec he 140), (all_dec he 141)⟩, ⟨(xfB_ok (all_at he 21)), (all_dec he 22)⟩, by obtain ⟨fd, h⟩ := c.funD (d := pd28) 28; exact ⟨_, fd, (He.glo_ok X G (fat hf 28)), h⟩⟩
end
end K84
end
section
set_option Elab.async false
set_option linter.all false
set_option maxRecDepth 100000
set_option maxHeartbeats 2000000
/-! a law's end: its def is worth v (FnG) -/
namespace PD
open PySem PySem.Spec PyProof.Rows L2
theorem reps_ints {K : PySem.W.Frag} {F : Hp} : ∀ ns : List Int, Reps K F (ns.map .int) (ns.map V.int)
  | [] => .nil
  | n :: r => .cons (.int n) (reps_ints r)
/-- the script, as the only thing that is tracked, unless the module has it -/
def onlyS (K : PySem.W.Frag) (a : Addr) (o : Obj) (ns : List Int) : Hp := fun b => match decide (b = a), K.lookup a with
  | true, none => some (.frz o (.lst (ns.map V.int)))
  | _, _ => none
section
variable {K : PySem.W.Frag} {a b : Addr} {o : Obj} {ns : List Int}
theorem onlyS_some {u : HO} (e : onlyS K a o ns b = some u) : b = a ∧ K.lookup a = none ∧ u = .frz o (.lst (ns.map V.int)) := by
  unfold onlyS at e
  split at e
  · rename_i h1 h2
    exact ⟨of_decide_eq_true h1, h2, (Option.some.inj e).symm⟩
  · cases e
theorem onlyS_here (h : K.lookup a = none) : onlyS K a o ns a = some (.frz o (.lst (ns.map V.int))) := by
  unfold onlyS
  rw [h, decide_eq_true rfl]
theorem onlyS_none (h : K.lookup a ≠ none) : onlyS K a o ns b = none := by
  cases e : onlyS K a o ns b with
  | none => rfl
  | some u => exact absurd (onlyS_some e).2.1 h
end
theorem end_G {P : Program} {w : World} {K : PySem.W.Frag} {mg mb : Str → Option Value} {k : Nat} {fa a : Addr} {x : Str} {v : En → Res RV} {s₁ : Shared} {vs : List Value} {ns : List Int} {ρ' : En}
    (KX : K.In s₁.heap) (hns : s₁.heap.Ns mainGlobals mg) (hb : s₁.heap.Ns builtinsNs mb) (hbb : ∀ x : Str, x ≠ "__name__" → mb x = bootBuiltins x) (hlim : s₁.heap.NoLimit) (hg : s₁.gens = #[])
    (ha : s₁.heap.get? a = some { cls := .type "list", data := .seq vs.toArray }) (hi : IntsAre vs ns) (hl : ns.length ≤ sizeLine) (hr : Room k callerA) (hx : mg x = some (.ref fa))
    (hv : v [.val (.lst (ns.map .int))] = .ok (.val (.bl true)) ρ') (D : ∀ base : Heap, K.In base → base.Ns mainGlobals mg → DefOkG P w K mg base k x 1 v) :
    codeAny (model P w) callerA (.call (.ref fa) ⟨[.ref a], []⟩) (fun r s' => r = .ok (.ret (.bool true)) ∧ OldK s₁.heap s'.heap ∧ s'.os = s₁.os ∧ AllBare s'.gens) s₁ := by
  let o : Obj := { cls := .type "list", data := .seq vs.toArray }
  let H : Hp := onlyS K a o ns
  let base : Heap := hidT s₁.heap H
  have hid : ∀ {c : Addr} {z : Obj}, s₁.heap.get? c = some z → H c = none → base.get? c = some z := fun e n => hidT_get e n
  have lens := hi.length
  have hok : HOk P w H s₁.heap := fun c u e => by
    obtain ⟨rfl, _, rfl⟩ := onlyS_some e
    exact ⟨ha, by rw [List.length_map]; exact hl, vs, _, vals_ints hi, ha⟩
  have hK : K.In base := fun c z e => hid (KX c z e) (by
    cases q : H c with
    | none => rfl
    | some u =>
      obtain ⟨rfl, h2, _⟩ := onlyS_some q
      rw [h2] at e
      cases e)
  have dict : ∀ {c : Addr} {m : Str → Option Value}, s₁.heap.Ns c m → base.Ns c m := fun {c m} ⟨z, es, ep, e, d, r⟩ => by
    refine ⟨z, es, ep, hid e ?_, d, r⟩
    cases q : H c with
    | none => rfl
    | some u =>
      obtain ⟨rfl, _, _⟩ := onlyS_some q
      rw [ha] at e
      cases e
      cases d
  obtain ⟨fa', fd, ps, Fn, hm, _, hbd, hps⟩ := (D base hK (dict hns)).ex
  obtain rfl : fa' = fa := by rw [hx] at hm; cases hm; rfl
  obtain ⟨mc, hc1, hc2⟩ := hlim
  have env : Env0 P w K mg base callerA [] s₁ H := {
    frames := rfl
    mod := ⟨hK, dict hns, ⟨mb, dict hb, hbb⟩, ⟨mc, dict hc1, hc2⟩⟩
    bs := fun c z e => of_hidT e
    bsz := Nat.le_of_eq (hidT_size s₁.heap H)
    funs := trivial
    frf := fun c hc => by cases hc
    hok := hok
    bare := .of_eq hg }
  have seq : SqL K H a (ns.map V.int) := by
    cases q : K.lookup a with
    | none => exact .inl (.inr ⟨o, onlyS_here q⟩)
    | some z =>
      have e := KX a z q
      rw [ha] at e
      cases e
      exact .inr ⟨_, vs.toArray, _, q, rfl, rfl, rfl, by rw [List.size_toArray, lens]; exact hl, by simpa using vals_ints hi⟩
  have sp : spF K 1 v [.ref a] H (fun u _ => u = .bl true) (fun _ _ _ => False) := by
    refine ⟨rfl, [.val (.lst (ns.map .int))], H, args_ok (ds := [.lst (ns.map .int)]) (Same.refl _) (.cons (.lst seq (reps_ints ns)) .nil), ?_⟩
    rw [hv]
    intro u F' H' g st sh r
    cases r
    rfl
  have bnd := hbd s₁ [.ref a] KX (by rw [List.append_nil, hps]; rfl)
  rw [List.append_nil] at bnd
  refine codeAny_mono (Fn.run callerA [] s₁ H ⟨[.ref a], []⟩ [.ref a] [.ref a] _ _ hr rfl env bnd (.cons rfl .nil) sp) fun r s' h => ?_
  cases r with
  | error er => obtain ⟨_, _, _, _, _, _, _, _, _, _, _, _, z⟩ := h; exact z.elim
  | ok fl =>
    cases fl with
    | next => exact False.elim h
    | brk => exact False.elim h
    | cont => exact False.elim h
    | ret u =>
      obtain ⟨y, H', os', bare', un, hok', ry, ey⟩ := h
      have ey : y = .bl true := ey
      subst ey
      obtain rfl : u = Value.bool true := ry
      refine ⟨rfl, OldK.of_keep fun c z e => ?_, os', bare'⟩
      cases q : H c with
      | none => exact un.keep c z e q (fun hm => by cases hm) (fun hm => by cases hm)
      | some t =>
        have eq := onlyS_some q
        obtain ⟨rfl, _, rfl⟩ := eq
        have e2 := (hok' c _ (un.frzs c o _ q)).1
        rw [ha] at e
        cases e
        exact e2
/-- the goal behind the head -/
theorem walk_G {l : PySem.W.OpenLaw} {n k : Nat} {q : Program} {loose : List Str} {XP : (Str → Option Value) → Heap → Prop} {YP : World → Heap → Prop} {d : DefRec} (hn : l.most = some n) (hn2 : n ≤ sizeLine) (hdf : d.params.defaults = []) (hr : Room k callerA)
    (F : ∀ (w : World) (mg : Str → Option Value) (fa : Addr) (h : Heap), YP w h → h.Ns mainGlobals mg → mg d.name = some (.ref fa) → ∃ (K : PySem.W.Frag) (v : En → Res RV), K.In h ∧
      (∀ ns : List Int, ns.length ≤ n → (∀ z ∈ ns, Builtin.Int.intBits z ≤ 1048576) → ∃ ρ', v [.val (.lst (ns.map .int))] = .ok (.val (.bl true)) ρ') ∧ ∀ base : Heap, K.In base → base.Ns mainGlobals mg → DefOkG l.prog w K mg base k d.name 1 v) :
    PySem.W.WalkO q loose XP YP l.row.toRowW d [] (fun f vs => PySem.call f vs) := by
  refine Att.attach_callB hn hdf fun w s₀ s₁ mg mb fa o pm cd doc a vs ns G Y ho hd hcd hmg hobj hints hlen hbits hg => ?_
  obtain ⟨K, v, KX, hv, D⟩ := F w mg fa _ Y G.T.g hmg
  obtain ⟨ρ', e⟩ := hv ns hlen hbits
  exact end_G KX G.T.g G.T.b G.T.builtins G.T.nolimit hg hobj hints (Nat.le_trans hlen hn2) hr hmg e D
end PD
end
section
set_option Elab.async false
set_option linter.all false
set_option maxRecDepth 100000
set_option maxHeartbeats 4000000
/-! k84: the law's worth; the end but for the plain law -/
namespace K84
open PySem PySem.Spec PyProof.Rows L2 PD NdefX ClX StX
def v_told : En → Res RV := runB 1 4 (m_told v_parse)
def v_sizes : En → Res RV := runB 0 4 (m__law_sizes_right v_told)
def v_tree_right : En → Res RV := runB 2 11 (m__law_tree_right v_told v_parse)
def v_right : En → Res RV := runB 1 4 (m__law_right v_told v_tree_right)
def v_law : En → Res RV := runB 1 2 (m_law v_sizes v_right)
theorem DefOkX.mono {P : Program} {w : World} {K : PySem.W.Frag} {mg : Str → Option Value} {base : Heap} {j k : Nat} {x : Str} {n : Nat} {f : En → Res RV} (F : DefOkX P w K mg base j x n f) (h : j ≤ k) : DefOkX P w K mg base k x n f := by
  obtain ⟨fa, fd, ps, h1, h2⟩ := F.ex
  exact ⟨fa, fd, ps, h1.mono h, h2⟩
theorem ok_law {P : Program} {w : World} {K : Fg} {mg : Str → Option Value} {base : Heap} (C : KE P w K mg base) (T : ToldF K mg) (T2 : ParseF K) (T3 : SizeF K) (dl : DefIs K mg "law" (top 47)) : DefOkG P w K mg base 64 "law" 1 v_law := by
  have hp := ok_parse_expression C.toKM T T2
  have ht : DefOk P w K mg base 61 "_law_told" 1 v_told := ok_told C T (k := 60) (by omega) (DefOkX.mono hp (by omega))
  have htr : DefOkG P w K mg base 62 "_law_tree_right" 2 v_tree_right := st__law_tree_right C (k := 61) (by omega) ht (DefOkX.mono hp (by omega))
  have hr : DefOkG P w K mg base 63 "_law_right" 1 v_right := st__law_right C (k := 62) (by omega) (ht.mono (by omega)) htr
  have hs : DefOkG P w K mg base 62 "_law_sizes_right" 0 v_sizes := st__law_sizes_right C T T2 T3 (k := 61) (by omega) ht
  exact st_law C (k := 63) dl (by omega) (hs.mono (by omega)) hr
/-- what is left: the plain law -/
def Plain : Prop := ∀ ns : List Int, ns.length ≤ 63 → (∀ z ∈ ns, Builtin.Int.intBits z ≤ 1048576) → ∃ ρ', v_law [.val (.lst (ns.map .int))] = .ok (.val (.bl true)) ρ'
open PySem.W in
theorem holds_of (hplain : Plain) : PySem.Challenge.rw_agreeingcasts_k84_written_expressions.Holds := by
  w_on; o_law
  refine HandSHeadRun.head_any (r := R) (q := view R.prog [47]) (H := hk84) (ob := ob84) (M := 4000) (loose := loose84) (d := HandSHeadRun.topDef R.prog 47) (kwd := []) ob84_eq
    (by kernel_rfl) (fun s => by kernel_rfl) run84 (by kernel_rfl) (by kernel_rfl) (by kernel_rfl) (by rfl) (by first | assumption | decide +kernel) (by decide +kernel) ⟨rfl, rfl, rfl, rfl, rfl, by decide +kernel⟩ ?hw ?hc
  case hw => w_witness2
  case hc =>
    refine walk_G (l := PySem.Challenge.rw_agreeingcasts_k84_written_expressions) (n := 63) (k := 64) rfl (by decide) (by kernel_rfl) ⟨rfl, by decide, by decide⟩ ?F
    intro w mg fa h Y G hmg
    obtain ⟨K, KX, c⟩ := Y
    have e : (HandSHeadRun.topDef R.prog 47).name = ("law" : PySem.Str) := by kernel_rfl
    rw [e]
    obtain ⟨T, T2, T3, dl⟩ := facts4 KX G c
    exact ⟨K, v_law, KX, hplain, fun base hK hN => by
      obtain ⟨T, T2, T3, dl⟩ := facts4 KX G c
      exact ok_law (facts3 rfl KX G c) T T2 T3 dl⟩
end K84
end
section
set_option Elab.async false
set_option linter.all false
set_option maxRecDepth 100000
set_option maxHeartbeats 4000000
/-! the plain law: draws -/
namespace K84
open PySem PySem.Spec PyProof.Rows L2 PD NdefX ClX StX SX TL
/-- the draws' state -/
def potD (p0 p1 : Int) : Sl := .own (.lst [.int p0, .int p1])
theorem backVal {d : D} {x : Option Sl} : backS (.val d) x = .val d := by cases x with
  | none => rfl
  | some s => cases s <;> rfl
theorem backEmp {x : Option Sl} : backS .emp x = .emp := by cases x with
  | none => rfl
  | some s => cases s <;> rfl
theorem backOwn {a b : OC} : backS (.own a) (some (.own b)) = .own b := rfl
theorem backPot {a b c d : Int} : backS (potD a b) (some (potD c d)) = potD c d := rfl
structure PotOk (p0 p1 : Int) : Prop where
  a : 0 ≤ p0
  b : 0 ≤ p1 ∧ p1 < 4294967296
theorem lg {n k : Nat} (h : n < 2 ^ k) : n.log2 ≤ k := by
  by_cases c : n = 0
  · subst c; simp
  · exact Nat.le_of_lt ((Nat.log2_lt c).mpr h)
theorem draw_ok {p0 p1 b : Int} (h : PotOk p0 p1) (hb : 0 < b ∧ b.natAbs.log2 < 9000) : ∃ r q0 q1 ρ', 0 ≤ r ∧ r < b ∧ PotOk q0 q1 ∧ v__law_draw [potD p0 p1, .val (.int b)] = .ok (.val (.int r)) (potD q0 q1 :: ρ') := by
  obtain ⟨h0, h1, h2⟩ := h
  by_cases c : 0 < p0
  · refine ⟨p0 % b, p0 / b, p1, [.val (.int b)], Int.emod_nonneg _ (by omega), Int.emod_lt_of_pos _ hb.1, ⟨Int.ediv_nonneg h0 (by omega), h1, h2⟩, ?_⟩
    simp [potD, v__law_draw, m__law_draw, c, hb, gDivmod, atI, ixN, runB, mSeq, mIf, mtV, mtNot, mtAnd, mtOr, mtYes, mAnd, mOr, mIfE, mChain, mOp, mUn, mIxO, mC, mVar, Res.bind, Res.toS, Res.at, optR, RV.d, OC.d, mSet, mSetO, gT, gL, gGo, gSubO, gN, mB, mBO, mCons, mNil, mRet, mRetN, mNext, mDrop, mPar, mTup, mLst, mSl, moS, moN, mMt, mFn, ofTy, backP, backVal, backEmp, backOwn, gGt, gLt, gGe, gLe, gAdd, PD.gSub, gNot, vi, vb, vs, List.map_cons, List.map_nil, List.length_cons, List.length_nil, List.set_cons_zero, List.set_cons_succ, List.getElem?_cons_zero, List.getElem?_cons_succ, List.replicate, List.append_assoc, List.cons_append, List.nil_append, backPot]
  · have l1 : p1.natAbs.log2 ≤ 32 := lg (by omega)
    have l2 : Nat.log2 48271 = 15 := by decide +kernel
    have n0 : 0 ≤ (p1 * 48271 + 10037) % 2147483587 := Int.emod_nonneg _ (by decide)
    have n1 : (p1 * 48271 + 10037) % 2147483587 < 2147483587 := Int.emod_lt_of_pos _ (by decide)
    have l3 : ((p1 * 48271 + 10037) % 2147483587).natAbs.log2 ≤ 32 := lg (by omega)
    have l4 : Nat.log2 7 = 2 := by decide +kernel
    have g1 : p1.natAbs.log2 + Nat.log2 48271 < 1000000 := by omega
    have g2 : ((p1 * 48271 + 10037) % 2147483587).natAbs.log2 + ((p1 * 48271 + 10037) % 2147483587).natAbs.log2 < 1000000 := by omega
    refine ⟨_, p0, (p1 * 48271 + 10037) % 2147483587, [.val (.int b)], Int.emod_nonneg ((p1 * 48271 + 10037) % 2147483587 * ((p1 * 48271 + 10037) % 2147483587) % 2147483563 / 7) (by omega), Int.emod_lt_of_pos _ hb.1, ⟨h0, n0, by omega⟩, ?_⟩
    generalize hq : (p1 * 48271 + 10037) % 2147483587 = q at *
    simp [potD, v__law_draw, m__law_draw, c, hb, hq, gDivmod, gMod, gMul, gDiv, g1, g2, l4, atI, ixN, runB, mSeq, mIf, mtV, mtNot, mtAnd, mtOr, mtYes, mAnd, mOr, mIfE, mChain, mOp, mUn, mIxO, mC, mVar, Res.bind, Res.toS, Res.at, optR, RV.d, OC.d, mSet, mSetO, gT, gL, gGo, gSubO, gN, mB, mBO, mCons, mNil, mRet, mRetN, mNext, mDrop, mPar, mTup, mLst, mSl, moS, moN, mMt, mFn, ofTy, backP, backVal, backEmp, backOwn, gGt, gLt, gGe, gLe, gAdd, PD.gSub, gNot, vi, vb, vs, List.map_cons, List.map_nil, List.length_cons, List.length_nil, List.set_cons_zero, List.set_cons_succ, List.getElem?_cons_zero, List.getElem?_cons_succ, List.replicate, List.append_assoc, List.cons_append, List.nil_append, backPot]
theorem mdraw {p0 p1 b : Int} {i : Nat} {ρ : En} {ms : MA} (h : PotOk p0 p1) (hb : 0 < b ∧ b.natAbs.log2 < 9000) (hρ : ρ[i]? = some (potD p0 p1)) (hm : ms ρ = .ok [.int b] ρ) : ∃ r q0 q1, 0 ≤ r ∧ r < b ∧ PotOk q0 q1 ∧ mFnO 2 v__law_draw i ms ρ = .ok (.val (.int r)) (ρ.set i (potD q0 q1)) := by
  obtain ⟨r, q0, q1, ρ', h1, h2, h3, h4⟩ := draw_ok h hb
  refine ⟨r, q0, q1, h1, h2, h3, ?_⟩
  unfold potD at h4 hρ ⊢
  simp [mFnO, hρ, hm, Res.bind, h4, ownBack]
/-! ### comprehensions -/
section
variable {i : Nat} {o : Sl} {tt : MT} {me : M} (P : En → Prop) (Q : D → Prop)
theorem lc_ex : ∀ (ds acc : List D) (ρ : En), P ρ → (∀ d ∈ acc, Q d) → (∀ d ∈ ds, ∀ ρ, P ρ → (∃ ρ1 a ρ2, tt (ρ.set i (.val d)) = .ok true ρ1 ∧ me ρ1 = .ok a ρ2 ∧ P (ρ2.set i o) ∧ Q a.d) ∨ (∃ ρ1, tt (ρ.set i (.val d)) = .ok false ρ1 ∧ P (ρ1.set i o))) →
    ∃ out ρ', lcGo i o tt me ds acc ρ = .ok (.fr (.lst out)) ρ' ∧ P ρ' ∧ ∀ d ∈ out, Q d
  | [], acc, ρ, hp, ha, _ => ⟨acc, ρ, rfl, hp, ha⟩
  | d :: r, acc, ρ, hp, ha, h => by
    rcases h d List.mem_cons_self ρ hp with ⟨ρ1, a, ρ2, h1, h2, h3, h4⟩ | ⟨ρ1, h1, h3⟩
    · obtain ⟨out, ρ', k1, k2, k3⟩ := lc_ex r (acc ++ [a.d]) (ρ2.set i o) h3 (fun x hx => by
        rcases List.mem_append.mp hx with hx | hx
        · exact ha x hx
        · rw [List.mem_singleton.mp hx]; exact h4) fun d' hd => h d' (List.mem_cons_of_mem _ hd)
      exact ⟨out, ρ', by rw [lcGo, h1]; dsimp only; rw [h2]; exact k1, k2, k3⟩
    · obtain ⟨out, ρ', k1, k2, k3⟩ := lc_ex r acc (ρ1.set i o) h3 ha fun d' hd => h d' (List.mem_cons_of_mem _ hd)
      exact ⟨out, ρ', by rw [lcGo, h1]; exact k1, k2, k3⟩
theorem lc_all : ∀ (ds acc : List D) (ρ : En), P ρ → (∀ d ∈ acc, Q d) → (∀ d ∈ ds, ∀ ρ, P ρ → ∃ a ρ2, me (ρ.set i (.val d)) = .ok a ρ2 ∧ P (ρ2.set i o) ∧ Q a.d) →
    ∃ out ρ', lcGo i o mtYes me ds acc ρ = .ok (.fr (.lst out)) ρ' ∧ P ρ' ∧ (∀ d ∈ out, Q d) ∧ out.length = acc.length + ds.length
  | [], acc, ρ, hp, ha, _ => ⟨acc, ρ, rfl, hp, ha, rfl⟩
  | d :: r, acc, ρ, hp, ha, h => by
    obtain ⟨a, ρ2, h2, h3, h4⟩ := h d List.mem_cons_self ρ hp
    obtain ⟨out, ρ', k1, k2, k3, k4⟩ := lc_all r (acc ++ [a.d]) (ρ2.set i o) h3 (fun x hx => by
        rcases List.mem_append.mp hx with hx | hx
        · exact ha x hx
        · rw [List.mem_singleton.mp hx]; exact h4) fun d' hd => h d' (List.mem_cons_of_mem _ hd)
    exact ⟨out, ρ', by rw [lcGo]; unfold mtYes; dsimp only; rw [h2]; exact k1, k2, k3, by rw [k4, List.length_append, List.length_cons, List.length_cons, List.length_nil]; omega⟩
/-- .. whose items are a function of the items -/
theorem lc_map (g : D → D) {ρ0 : En} : ∀ (ds acc : List D), (∀ d ∈ ds, ∃ a ρ2, me (ρ0.set i (.val d)) = .ok a ρ2 ∧ ρ2.set i o = ρ0 ∧ a.d = g d) → lcGo i o mtYes me ds acc ρ0 = .ok (.fr (.lst (acc ++ ds.map g))) ρ0
  | [], acc, _ => by rw [List.map_nil, List.append_nil]; rfl
  | d :: r, acc, h => by
    obtain ⟨a, ρ2, h2, h3, h4⟩ := h d List.mem_cons_self
    rw [lcGo]; unfold mtYes; dsimp only; rw [h2]; dsimp only
    rw [h3, h4]
    have k := lc_map g r (acc ++ [g d]) fun d' hd => h d' (List.mem_cons_of_mem _ hd)
    unfold mtYes at k
    rw [k, List.map_cons, List.append_assoc]
    rfl
end
theorem choice_ok {p0 p1 : Int} {ds : List D} (h : PotOk p0 p1) (h1 : 0 < ds.length) (h2 : ds.length < 1000000) : ∃ d q0 q1 ρ', d ∈ ds ∧ PotOk q0 q1 ∧ v__law_choice [potD p0 p1, .val (.lst ds)] = .ok (.val d) (potD q0 q1 :: ρ') := by
  have hl : ((ds.length : Nat) : Int).natAbs.log2 < 9000 := Nat.lt_of_le_of_lt (lg (k := 20) (by omega)) (by decide)
  obtain ⟨r, q0, q1, r1, r2, r3, r4⟩ := mdraw (b := ds.length) (i := 0) (ρ := [potD p0 p1, .val (.lst ds)]) (ms := mCons (mB gLen (mCons (mVar 1) mNil)) mNil) h ⟨by omega, hl⟩ rfl (by simp [gLen, runB, mSeq, mIf, mtV, mtNot, mtAnd, mtOr, mtYes, mAnd, mOr, mIfE, mChain, mOp, mUn, mIxO, mC, mVar, Res.bind, Res.toS, Res.at, optR, RV.d, OC.d, mSet, mSetO, gT, gL, gGo, gSubO, gN, mB, mBO, mCons, mNil, mRet, mRetN, mNext, mDrop, mPar, mTup, mLst, mSl, moS, moN, mMt, mFn, ofTy, backP, backVal, backEmp, backOwn, gGt, gLt, gGe, gLe, gAdd, PD.gSub, gNot, vi, vb, vs, List.map_cons, List.map_nil, List.length_cons, List.length_nil, List.set_cons_zero, List.set_cons_succ, List.getElem?_cons_zero, List.getElem?_cons_succ, List.replicate, List.append_assoc, List.cons_append, List.nil_append, backPot])
  have hr : r.toNat < ds.length := by omega
  refine ⟨ds[r.toNat], q0, q1, [.val (.lst ds)], List.getElem_mem hr, r3, ?_⟩
  have e : atI ds r = some ds[r.toNat] := by
    unfold atI ixN
    rw [if_pos r1, if_pos (by omega)]
    exact List.getElem?_eq_getElem hr
  simp only [v__law_choice, m__law_choice, runB, mRet, mOp, mVar, Res.bind, Res.toS, List.length_cons, List.length_nil, List.replicate, List.append_nil, List.getElem?_cons_succ, List.getElem?_cons_zero]
  rw [show ([potD p0 p1, Sl.val (D.lst ds)] ++ List.replicate (2 - 2) Sl.emp) = [potD p0 p1, Sl.val (D.lst ds)] from rfl]
  simp [r4, gIx, e, runB, mSeq, mIf, mtV, mtNot, mtAnd, mtOr, mtYes, mAnd, mOr, mIfE, mChain, mOp, mUn, mIxO, mC, mVar, Res.bind, Res.toS, Res.at, optR, RV.d, OC.d, mSet, mSetO, gT, gL, gGo, gSubO, gN, mB, mBO, mCons, mNil, mRet, mRetN, mNext, mDrop, mPar, mTup, mLst, mSl, moS, moN, mMt, mFn, ofTy, backP, backVal, backEmp, backOwn, gGt, gLt, gGe, gLe, gAdd, PD.gSub, gNot, vi, vb, vs, List.map_cons, List.map_nil, List.length_cons, List.length_nil, List.set_cons_zero, List.set_cons_succ, List.getElem?_cons_zero, List.getElem?_cons_succ, List.replicate, List.append_assoc, List.cons_append, List.nil_append, backPot]
end K84
end
section
set_option Elab.async false
set_option linter.all false
set_option maxRecDepth 100000
set_option maxHeartbeats 4000000
/-! the plain law: words, trees -/
namespace K84
open PySem PySem.Spec PyProof.Rows L2 PD NdefX ClX StX SX TL
structure WOk (w : List Nat) : Prop where
  l : 1 ≤ w.length ∧ w.length ≤ 8
  c : ∀ c ∈ w, 97 ≤ c ∧ c ≤ 122
instance (w : List Nat) : Decidable (WOk w) := decidable_of_iff ((1 ≤ w.length ∧ w.length ≤ 8) ∧ ∀ c ∈ w, 97 ≤ c ∧ c ≤ 122) ⟨fun h => ⟨h.1, h.2⟩, fun h => ⟨h.l, h.c⟩⟩
def IsW (d : D) : Prop := ∃ w, WOk w ∧ d = .str (S w)
def IsL (d : D) : Prop := ∃ c, (97 ≤ c ∧ c ≤ 122) ∧ d = .str (S [c])
def abcL : List Nat := [97, 98, 99, 100, 101, 102, 103, 104, 105, 106, 107, 108, 109, 110, 111, 112, 113, 114, 115, 116, 117, 118, 119, 120, 121, 122]
theorem abc_S : abc = S abcL := by decide +kernel
theorem abcL_get : ∀ i : Nat, i < 26 → abcL[i]? = some (97 + i) := by decide
theorem abc_ix {r : Int} (h0 : 0 ≤ r) (h1 : r < 26) : gIx (.str abc) (.int r) = some (.val (.str (S [97 + r.toNat]))) := by
  rw [abc_S]
  have hl : (S abcL).length ≤ top1 := by decide
  have e : atI (S abcL).cps.toList r = some (97 + r.toNat) := by
    unfold atI ixN
    rw [show (S abcL).cps.toList = abcL from rfl, if_pos h0, if_pos (by show r < (26 : Nat); omega)]
    exact abcL_get r.toNat (by omega)
  show (if (S abcL).length ≤ top1 then (atI (S abcL).cps.toList r).map fun c => RV.val (.str ⟨#[c]⟩) else none) = _
  rw [if_pos hl, e]
  rfl
theorem letters_join : ∀ {out : List D}, (∀ d ∈ out, IsL d) → ∃ w : List Nat, (∀ c ∈ w, 97 ≤ c ∧ c ≤ 122) ∧ w.length = out.length ∧ mapAll D.str? out = some (w.map fun c => S [c])
  | [], _ => ⟨[], fun c h => (nomatch h), rfl, rfl⟩
  | d :: r, h => by
    obtain ⟨c, hc, rfl⟩ := h d List.mem_cons_self
    obtain ⟨w, h1, h2, h3⟩ := letters_join (out := r) fun x hx => h x (List.mem_cons_of_mem _ hx)
    refine ⟨c :: w, fun x hx => ?_, by rw [List.length_cons, List.length_cons, h2], ?_⟩
    · rcases List.mem_cons.mp hx with e | e
      · rw [e]; exact hc
      · exact h1 x e
    · unfold mapAll
      rw [h3]
      rfl
theorem join_letters : ∀ w : List Nat, Txt.join (S []) (w.map fun c => S [c]) = S w := fun w => by
  rw [join_eq]
  refine TL.ext_tl ?_
  rw [tl_join]
  show joinL [] ((w.map fun c => S [c]).map tl) = w
  induction w with
  | nil => rfl
  | cons c r ih =>
    cases r with
    | nil => rfl
    | cons d r =>
      show [c] ++ ([] ++ joinL [] (((d :: r).map fun c => S [c]).map tl)) = _
      rw [ih]
      rfl
theorem join_ok {out : List D} (h : ∀ d ∈ out, IsL d) (hl : 1 ≤ out.length ∧ out.length ≤ 8) : ∃ w, WOk w ∧ gJoin (.str "") [.lst out] = some (.val (.str (S w))) := by
  obtain ⟨w, h1, h2, h3⟩ := letters_join h
  refine ⟨w, ⟨by rw [h2]; exact hl, h1⟩, ?_⟩
  show (mapAll D.str? out).bind (joinS (Str.ofString "")) = _
  rw [h3]
  show joinS (Str.ofString "") (w.map fun c => S [c]) = _
  unfold joinS
  have e0 : Str.ofString "" = S [] := rfl
  have hs : ∀ l : List Nat, ((l.map fun c => S [c]).map (·.length)).sum = l.length := fun l => by
    induction l with
    | nil => rfl
    | cons a r ih =>
      rw [List.map_cons, List.map_cons, List.sum_cons, ih, List.length_cons]
      show 1 + _ = _
      omega
  rw [e0, join_letters, if_pos]
  rw [hs, h2]
  show _ + _ * 0 ≤ 1000000
  omega
def someW : List D := [.str "sort", .str "cast", .str "version", .str "use", .str "drop", .str "step", .str "regular", .str "add", .str "plus", .str "a"]
theorem someW_ok : ∀ d ∈ someW, IsW d := by
  simp only [someW, List.forall_mem_cons]
  exact ⟨⟨[115, 111, 114, 116], by decide, congrArg D.str (by decide +kernel)⟩, ⟨[99, 97, 115, 116], by decide, congrArg D.str (by decide +kernel)⟩, ⟨[118, 101, 114, 115, 105, 111, 110], by decide, congrArg D.str (by decide +kernel)⟩, ⟨[117, 115, 101], by decide, congrArg D.str (by decide +kernel)⟩, ⟨[100, 114, 111, 112], by decide, congrArg D.str (by decide +kernel)⟩,
    ⟨[115, 116, 101, 112], by decide, congrArg D.str (by decide +kernel)⟩, ⟨[114, 101, 103, 117, 108, 97, 114], by decide, congrArg D.str (by decide +kernel)⟩, ⟨[97, 100, 100], by decide, congrArg D.str (by decide +kernel)⟩, ⟨[112, 108, 117, 115], by decide, congrArg D.str (by decide +kernel)⟩, ⟨[97], by decide, congrArg D.str (by decide +kernel)⟩, fun _ h => nomatch h⟩
/-- the pot ahead of what does not change -/
def PP (rest : En) (ρ : En) : Prop := ∃ q0 q1, PotOk q0 q1 ∧ ρ = potD q0 q1 :: rest
theorem spare_ok {rest : En} (hr : ∃ r1 r2 r3 r4, rest = [r1, .val (.str abc), r2, r3, r4, .emp, .emp, .emp, .emp]) : ∀ d ∈ rng 0 78, ∀ ρ, PP rest ρ → ∃ a ρ2, mOp gAdd (mOp gIx (mVar 2) (mOp gMod (mVar 7) (mC (.int 26)))) (mOp gIx (mC (.str "xyz")) (mOp gDiv (mVar 7) (mC (.int 26)))) (ρ.set 7 (.val d)) = .ok a ρ2 ∧ PP rest (ρ2.set 7 .emp) ∧ ∃ z, a.d = .str z := by
  obtain ⟨r1, r2, r3, r4, rfl⟩ := hr
  rintro d hd ρ ⟨q0, q1, hq, rfl⟩
  obtain ⟨k, hk⟩ := List.mem_iff_getElem?.mp hd
  obtain ⟨h1, rfl⟩ := rng_get hk
  have g1 := abc_ix (r := (0 + (k : Nat) : Int) % 26) (Int.emod_nonneg _ (by decide)) (Int.emod_lt_of_pos _ (by decide))
  have g2 : ∃ c, gIx (.str "xyz") (.int ((0 + (k : Nat) : Int) / 26)) = some (.val (.str (S [c]))) := by
    have : ((0 + (k : Nat) : Int) / 26) = 0 ∨ ((0 + (k : Nat) : Int) / 26) = 1 ∨ ((0 + (k : Nat) : Int) / 26) = 2 := by omega
    rcases this with e | e | e <;> rw [e]
    · exact ⟨120, rfl⟩
    · exact ⟨121, rfl⟩
    · exact ⟨122, rfl⟩
  obtain ⟨c, g2⟩ := g2
  have l26 : Nat.log2 26 < 9000 := by decide +kernel
  have hlen : (S [97 + ((0 + (k : Nat) : Int) % 26).toNat]).length + (S [c]).length ≤ top1 := by show 1 + 1 ≤ 1000000; omega
  refine ⟨.val (.str (S [97 + ((0 + (k : Nat) : Int) % 26).toNat] ++ S [c])), [potD q0 q1, r1, .val (.str abc), r2, r3, r4, .emp, .val (.int (0 + (k : Nat))), .emp, .emp], ?_, ⟨q0, q1, hq, rfl⟩, _, rfl⟩
  have m1 : mOp gMod (mVar 7) (mC (.int 26)) [potD q0 q1, r1, .val (.str abc), r2, r3, r4, .emp, .val (.int (0 + (k : Nat))), .emp, .emp] = .ok (.val (.int ((0 + (k : Nat) : Int) % 26))) [potD q0 q1, r1, .val (.str abc), r2, r3, r4, .emp, .val (.int (0 + (k : Nat))), .emp, .emp] := by simp [gMod, runB, mSeq, mIf, mtV, mtNot, mtAnd, mtOr, mtYes, mAnd, mOr, mIfE, mChain, mOp, mUn, mIxO, mC, mVar, Res.bind, Res.toS, Res.at, optR, RV.d, OC.d, mSet, mSetO, gT, gL, gGo, gSubO, gN, mB, mBO, mCons, mNil, mRet, mRetN, mNext, mDrop, mPar, mTup, mLst, mSl, moS, moN, mMt, mFn, ofTy, backP, backVal, backEmp, backOwn, gGt, gLt, gGe, gLe, gAdd, PD.gSub, gNot, vi, vb, vs, List.map_cons, List.map_nil, List.length_cons, List.length_nil, List.set_cons_zero, List.set_cons_succ, List.getElem?_cons_zero, List.getElem?_cons_succ, List.replicate, List.append_assoc, List.cons_append, List.nil_append, backPot]
  have m2 : mOp gDiv (mVar 7) (mC (.int 26)) [potD q0 q1, r1, .val (.str abc), r2, r3, r4, .emp, .val (.int (0 + (k : Nat))), .emp, .emp] = .ok (.val (.int ((0 + (k : Nat) : Int) / 26))) [potD q0 q1, r1, .val (.str abc), r2, r3, r4, .emp, .val (.int (0 + (k : Nat))), .emp, .emp] := by simp [gDiv, l26, runB, mSeq, mIf, mtV, mtNot, mtAnd, mtOr, mtYes, mAnd, mOr, mIfE, mChain, mOp, mUn, mIxO, mC, mVar, Res.bind, Res.toS, Res.at, optR, RV.d, OC.d, mSet, mSetO, gT, gL, gGo, gSubO, gN, mB, mBO, mCons, mNil, mRet, mRetN, mNext, mDrop, mPar, mTup, mLst, mSl, moS, moN, mMt, mFn, ofTy, backP, backVal, backEmp, backOwn, gGt, gLt, gGe, gLe, gAdd, PD.gSub, gNot, vi, vb, vs, List.map_cons, List.map_nil, List.length_cons, List.length_nil, List.set_cons_zero, List.set_cons_succ, List.getElem?_cons_zero, List.getElem?_cons_succ, List.replicate, List.append_assoc, List.cons_append, List.nil_append, backPot]
  show mOp gAdd _ _ [potD q0 q1, r1, .val (.str abc), r2, r3, r4, .emp, .val (.int (0 + (k : Nat))), .emp, .emp] = _
  generalize hE : [potD q0 q1, r1, .val (.str abc), r2, r3, r4, .emp, .val (.int (0 + (k : Nat))), .emp, .emp] = ρ at *
  have m3 : mVar 2 ρ = .ok (.val (.str abc)) ρ := by rw [← hE]; rfl
  have m4 : mOp gIx (mVar 2) (mOp gMod (mVar 7) (mC (.int 26))) ρ = .ok (.val (.str (S [97 + ((0 + (k : Nat) : Int) % 26).toNat]))) ρ := by
    show (mVar 2 ρ).bind _ = _
    rw [m3]
    show ((mOp gMod (mVar 7) (mC (.int 26))) ρ).bind _ = _
    rw [m1]
    show optR (gIx (.str abc) (.int ((0 + (k : Nat) : Int) % 26))) ρ = _
    rw [g1]
    rfl
  show ((mOp gIx (mVar 2) (mOp gMod (mVar 7) (mC (.int 26)))) ρ).bind _ = _
  rw [m4]
  show ((mOp gDiv (mVar 7) (mC (.int 26)) ρ).bind fun b ρ2 => optR (gIx (.str "xyz") b.d) ρ2).bind _ = _
  rw [m2]
  show (optR (gIx (.str "xyz") (.int ((0 + (k : Nat) : Int) / 26))) ρ).bind _ = _
  rw [g2]
  show optR (gAdd (.str (S [97 + ((0 + (k : Nat) : Int) % 26).toNat])) (.str (S [c]))) ρ = _
  unfold gAdd
  dsimp only
  rw [if_pos hlen]
  rfl
/-- a comprehension's run -/
theorem mLc_run {mi : MI} {i : Nat} {tt : MT} {me : M} {ρ ρ1 : En} {ds : List D} {o : Sl} (hi : mi ρ = .ok ds ρ1) (ho : ρ1[i]? = some o) (hno : o.isOwn = false) (hl : ds.length ≤ top1) : mLc mi i tt me ρ = lcGo i o tt me ds [] ρ1 := by
  unfold mLc
  rw [hi]
  show (match ρ1[i]? with
    | some (.own _) => (.no : Res RV)
    | some o => if ds.length ≤ top1 then lcGo i o tt me ds [] ρ1 else .no
    | none => (.no : Res RV)) = _
  rw [ho]
  cases o with
  | own _ => cases hno
  | emp => exact if_pos hl
  | val d => exact if_pos hl
theorem seq_nx {m1 m2 : MS} {ρ ρ1 : En} (h : m1 ρ = .nx ρ1) : mSeq m1 m2 ρ = m2 ρ1 := by unfold mSeq; rw [h]
theorem seq_rt {m1 m2 : MS} {ρ ρ1 : En} {r : RV} (h : m1 ρ = .rt r ρ1) : mSeq m1 m2 ρ = .rt r ρ1 := by unfold mSeq; rw [h]
theorem seq_er {m1 m2 : MS} {ρ ρ1 : En} {r : Exn} (h : m1 ρ = .er r ρ1) : mSeq m1 m2 ρ = .er r ρ1 := by unfold mSeq; rw [h]
theorem set_nx {g : MG} {m : M} {ρ ρ1 ρ2 : En} {a : RV} (h : m ρ = .ok a ρ1) (hg : g a.d ρ1 = some ρ2) : mSet g m ρ = .nx ρ2 := by unfold mSet; rw [h]; show (match g a.d ρ1 with | some ρ2 => Out.nx ρ2 | none => .no) = _; rw [hg]
theorem ret_rt {m : M} {ρ ρ1 : En} {a : RV} (h : m ρ = .ok a ρ1) : mRet m ρ = .rt a ρ1 := by unfold mRet; rw [h]; rfl
theorem if_t {t : MT} {a b : MS} {ρ ρ1 : En} (h : t ρ = .ok true ρ1) : mIf t a b ρ = a ρ1 := by unfold mIf; rw [h]; rfl
theorem if_f {t : MT} {a b : MS} {ρ ρ1 : En} (h : t ρ = .ok false ρ1) : mIf t a b ρ = b ρ1 := by unfold mIf; rw [h]; rfl
theorem tv_b {m : M} {ρ ρ1 : En} {b : Bool} (h : m ρ = .ok (.val (.bl b)) ρ1) : mtV m ρ = .ok b ρ1 := by unfold mtV; rw [h]; rfl
theorem op_ok {g : D → D → Option RV} {ma mb : M} {ρ ρ1 ρ2 : En} {a b r : RV} (ha : ma ρ = .ok a ρ1) (hb : mb ρ1 = .ok b ρ2) (h : g a.d b.d = some r) : mOp g ma mb ρ = .ok r ρ2 := by
  unfold mOp; rw [ha]; show (mb ρ1).bind _ = _; rw [hb]; show optR (g a.d b.d) ρ2 = _; rw [h]; rfl
theorem un_ok {g : D → Option RV} {ma : M} {ρ ρ1 : En} {a r : RV} (ha : ma ρ = .ok a ρ1) (h : g a.d = some r) : mUn g ma ρ = .ok r ρ1 := by
  unfold mUn; rw [ha]; show optR (g a.d) ρ1 = _; rw [h]; rfl
theorem cons_ok {m : M} {ms : MA} {ρ ρ1 ρ2 : En} {a : RV} {ds : List D} (ha : m ρ = .ok a ρ1) (h : ms ρ1 = .ok ds ρ2) : mCons m ms ρ = .ok (a.d :: ds) ρ2 := by
  unfold mCons; rw [ha]; show (ms ρ1).bind _ = _; rw [h]; rfl
theorem nil_ok {ρ : En} : mNil ρ = .ok [] ρ := rfl
theorem b_ok {g : List D → Option RV} {ms : MA} {ρ ρ1 : En} {ds : List D} {r : RV} (h : ms ρ = .ok ds ρ1) (hg : g ds = some r) : mB g ms ρ = .ok r ρ1 := by
  unfold mB; rw [h]; show optR (g ds) ρ1 = _; rw [hg]; rfl
theorem lst_ok {ms : MA} {ρ ρ1 : En} {ds : List D} (h : ms ρ = .ok ds ρ1) (hl : ds.length ≤ top1) : mLst ms ρ = .ok (.fr (.lst ds)) ρ1 := by
  unfold mLst; rw [h]; exact if_pos hl
theorem tup_ok {ms : MA} {ρ ρ1 : En} {ds : List D} (h : ms ρ = .ok ds ρ1) (hl : ds.length ≤ top1) : mTup ms ρ = .ok (.val (.tup ds)) ρ1 := by
  unfold mTup; rw [h]; exact if_pos hl
theorem fn_ok {n : Nat} {f : En → Res RV} {ms : MA} {ρ ρ1 ρ' : En} {ds : List D} {a : RV} (h : ms ρ = .ok ds ρ1) (hn : ds.length = n) (hf : f (ds.map .val) = .ok a ρ') : mFn n f ms ρ = .ok a ρ1 := by
  unfold mFn; rw [h]; show (if ds.length = n then (f (ds.map .val)).at ρ1 else .no) = _; rw [if_pos hn, hf]; rfl
theorem fn_er {n : Nat} {f : En → Res RV} {ms : MA} {ρ ρ1 ρ' : En} {ds : List D} {x : Exn} (h : ms ρ = .ok ds ρ1) (hn : ds.length = n) (hf : f (ds.map .val) = .er x ρ') : mFn n f ms ρ = .er x ρ1 := by
  unfold mFn; rw [h]; show (if ds.length = n then (f (ds.map .val)).at ρ1 else .no) = _; rw [if_pos hn, hf]; rfl
/-- the first argument an own thing -/
theorem fnO_ok {n i : Nat} {f : En → Res RV} {ms : MA} {ρ ρ1 ρ' : En} {ds : List D} {a : RV} {l0 l l' : OC} (h0 : ρ[i]? = some (.own l0)) (h : ms ρ = .ok ds ρ1) (h1 : ρ1[i]? = some (.own l)) (hn : ds.length + 1 = n) (hf : f (.own l :: ds.map .val) = .ok a (.own l' :: ρ')) :
    mFnO n f i ms ρ = .ok a (ρ1.set i (.own l')) := by
  unfold mFnO
  rw [h0]
  show (ms ρ).bind _ = _
  rw [h]
  show (match ρ1[i]? with | some (.own l) => if ds.length + 1 = n then ownBack (f (.own l :: ds.map .val)) i ρ1 else .no | _ => .no) = _
  rw [h1]
  show (if ds.length + 1 = n then ownBack (f (.own l :: ds.map .val)) i ρ1 else .no) = _
  rw [if_pos hn, hf]
  rfl
theorem r1_ok {ms : MA} {ρ ρ1 : En} {j : Int} (h : ms ρ = .ok [.int j] ρ1) (hj : -1000000000000 < j ∧ j < 1000000000000) : miR1 ms ρ = .ok (rng 0 j.toNat) ρ1 := by
  unfold miR1; rw [h]; exact if_pos hj
theorem rng_len (lo : Int) (n : Nat) : (rng lo n).length = n := by unfold rng; rw [List.length_map, List.length_range]
end K84
end
section
set_option Elab.async false
set_option linter.all false
set_option maxRecDepth 100000
set_option maxHeartbeats 4000000
/-! the plain law: words, trees -/
namespace K84
open PySem PySem.Spec PyProof.Rows L2 PD NdefX ClX StX SX TL
theorem run_rt {n N : Nat} {m : MS} {args ρ' : En} {r : RV} (h : m (args ++ List.replicate (N - n) .emp) = .rt r ρ') : runB n N m args = .ok r (backP args ρ') := by unfold runB; rw [h]
theorem run_nx {n N : Nat} {m : MS} {args ρ' : En} (h : m (args ++ List.replicate (N - n) .emp) = .nx ρ') : runB n N m args = .ok (.val .non) (backP args ρ') := by unfold runB; rw [h]
theorem run_er {n N : Nat} {m : MS} {args ρ' : En} {x : Exn} (h : m (args ++ List.replicate (N - n) .emp) = .er x ρ') : runB n N m args = .er x (backP args ρ') := by unfold runB; rw [h]
theorem var_ok {i : Nat} {ρ : En} {d : D} (h : ρ[i]? = some (.val d)) : mVar i ρ = .ok (.val d) ρ := by unfold mVar; rw [h]
theorem ife_t {t : MT} {m n : M} {ρ ρ1 : En} (h : t ρ = .ok true ρ1) : mIfE t m n ρ = m ρ1 := by unfold mIfE; rw [h]; rfl
theorem ife_f {t : MT} {m n : M} {ρ ρ1 : En} (h : t ρ = .ok false ρ1) : mIfE t m n ρ = n ρ1 := by unfold mIfE; rw [h]; rfl
theorem or_t {t u : MT} {ρ ρ1 : En} (h : t ρ = .ok true ρ1) : mtOr t u ρ = .ok true ρ1 := by unfold mtOr; rw [h]; rfl
theorem or_f {t u : MT} {ρ ρ1 : En} (h : t ρ = .ok false ρ1) : mtOr t u ρ = u ρ1 := by unfold mtOr; rw [h]; rfl
theorem and_t {t u : MT} {ρ ρ1 : En} (h : t ρ = .ok true ρ1) : mtAnd t u ρ = u ρ1 := by unfold mtAnd; rw [h]; rfl
theorem and_f {t u : MT} {ρ ρ1 : En} (h : t ρ = .ok false ρ1) : mtAnd t u ρ = .ok false ρ1 := by unfold mtAnd; rw [h]; rfl
theorem not_ok {t : MT} {ρ ρ1 : En} {b : Bool} (h : t ρ = .ok b ρ1) : mtNot t ρ = .ok (!b) ρ1 := by unfold mtNot; rw [h]; rfl
theorem inV_nil {v : V} : inV v [] = false := rfl
theorem notin_nil {z : Str} : gNotIn (.str z) (.lst []) = some (.val (.bl true)) := rfl
theorem ix1238 {r : Int} (h0 : 0 ≤ r) (h1 : r < 4) : ∃ n : Nat, (1 ≤ n ∧ n ≤ 8) ∧ gIx (.lst [.int 1, .int 2, .int 3, .int 8]) (.int r) = some (.val (.int n)) := by
  have : r = 0 ∨ r = 1 ∨ r = 2 ∨ r = 3 := by omega
  rcases this with e | e | e | e <;> subst e
  · exact ⟨1, by decide, rfl⟩
  · exact ⟨2, by decide, rfl⟩
  · exact ⟨3, by decide, rfl⟩
  · exact ⟨8, by decide, rfl⟩
theorem mt_ok {T : String} {g : D → List D → Option RV} {m : M} {ms : MA} {ρ ρ1 ρ2 : En} {a r : RV} {ds : List D} (ho : m ρ = .ok a ρ1) (ht : ofTy T a.d = true) (hs : ms ρ1 = .ok ds ρ2) (hg : g a.d ds = some r) : mMt T g m ms ρ = .ok r ρ2 := by
  unfold mMt
  rw [ho]
  show (if ofTy T a.d = true then (ms ρ1).bind fun ds ρ2 => optR (g a.d ds) ρ2 else .no) = _
  rw [if_pos ht, hs]
  show optR (g a.d ds) ρ2 = _
  rw [hg]
  rfl
theorem word_letters {p0 p1 : Int} {r1 r2 : Sl} {z : Str} (h : PotOk p0 p1) : ∃ w q0 q1, WOk w ∧ PotOk q0 q1 ∧ (mSet (gN 4) (mMt "str" gJoin (mC (.str "")) (mCons (mLc (miR1 (mCons (mOp gIx (mLst (mCons (mC (.int 1)) (mCons (mC (.int 2)) (mCons (mC (.int 3)) (mCons (mC (.int 8)) mNil))))) (mFnO 2 v__law_draw 0 (mCons (mC (.int 4)) mNil))) mNil)) 5 mtYes (mOp gIx (mVar 2) (mFnO 2 v__law_draw 0 (mCons (mC (.int 26)) mNil)))) mNil))) [potD p0 p1, .val (.lst []), .val (.str abc), r1, .val (.str z), .emp, .emp, .emp, .emp, .emp] = .nx [potD q0 q1, .val (.lst []), .val (.str abc), r1, .val (.str (S w)), .emp, .emp, .emp, .emp, .emp] := by
  obtain ⟨r, q0, q1, a1, a2, a3, a4⟩ := mdraw (b := 4) (i := 0) (ρ := [potD p0 p1, .val (.lst []), .val (.str abc), r1, .val (.str z), .emp, .emp, .emp, .emp, .emp]) (ms := mCons (mC (.int 4)) mNil) h ⟨by decide, by decide +kernel⟩ rfl rfl
  obtain ⟨n, hn, hix⟩ := ix1238 a1 a2
  have hI : miR1 (mCons (mOp gIx (mLst (mCons (mC (.int 1)) (mCons (mC (.int 2)) (mCons (mC (.int 3)) (mCons (mC (.int 8)) mNil))))) (mFnO 2 v__law_draw 0 (mCons (mC (.int 4)) mNil))) mNil) [potD p0 p1, .val (.lst []), .val (.str abc), r1, .val (.str z), .emp, .emp, .emp, .emp, .emp] = .ok (rng 0 ((n : Nat) : Int).toNat) [potD q0 q1, .val (.lst []), .val (.str abc), r1, .val (.str z), .emp, .emp, .emp, .emp, .emp] :=
    r1_ok (cons_ok (op_ok (lst_ok (ds := [.int 1, .int 2, .int 3, .int 8]) (cons_ok rfl (cons_ok rfl (cons_ok rfl (cons_ok rfl nil_ok)))) (by decide)) a4 hix) nil_ok) ⟨by omega, by omega⟩
  obtain ⟨out, ρ', k1, ⟨s0, s1, ks, rfl⟩, k3, k4⟩ := lc_all (i := 5) (o := .emp) (me := mOp gIx (mVar 2) (mFnO 2 v__law_draw 0 (mCons (mC (.int 26)) mNil))) (PP [.val (.lst []), .val (.str abc), r1, .val (.str z), .emp, .emp, .emp, .emp, .emp]) IsL (rng 0 ((n : Nat) : Int).toNat) [] _ ⟨q0, q1, a3, rfl⟩ (fun d hd => nomatch hd) (fun d hd ρ he => by
    obtain ⟨t0, t1, ht, rfl⟩ := he
    obtain ⟨x, u0, u1, b1, b2, b3, b4⟩ := mdraw (b := 26) (i := 0) (ρ := [potD t0 t1, .val (.lst []), .val (.str abc), r1, .val (.str z), .val d, .emp, .emp, .emp, .emp]) (ms := mCons (mC (.int 26)) mNil) ht ⟨by decide, by decide +kernel⟩ rfl rfl
    exact ⟨_, _, op_ok (var_ok rfl) b4 (abc_ix b1 b2), ⟨u0, u1, b3, rfl⟩, ⟨97 + x.toNat, ⟨by omega, by omega⟩, rfl⟩⟩)
  have hlen : out.length = n := by rw [k4, rng_len]; simp
  obtain ⟨w, hw, hj⟩ := join_ok k3 (by rw [hlen]; exact hn)
  refine ⟨w, s0, s1, hw, ks, set_nx (a := .val (.str (S w))) (ρ1 := [potD s0 s1, .val (.lst []), .val (.str abc), r1, .val (.str z), .emp, .emp, .emp, .emp, .emp]) (mt_ok rfl rfl (cons_ok (a := .fr (.lst out)) ?_ nil_ok) hj) rfl⟩
  rw [mLc_run hI (o := .emp) rfl rfl (by rw [rng_len]; show _ ≤ 1000000; omega)]
  exact k1
theorem word_ok {p0 p1 : Int} (h : PotOk p0 p1) : ∃ w q0 q1 ρ', WOk w ∧ PotOk q0 q1 ∧ v__law_word [potD p0 p1, .val (.lst [])] = .ok (.val (.str (S w))) (potD q0 q1 :: ρ') := by
  obtain ⟨d, q0, q1, ρ1, hd, hq, hc⟩ := choice_ok (ds := someW) h (by decide) (by decide)
  obtain ⟨w0, hw0, rfl⟩ := someW_ok d hd
  have s1 : mFnO 2 v__law_choice 0 (mCons (mVar 3) mNil) [potD p0 p1, .val (.lst []), .val (.str abc), .val (.lst someW), .emp, .emp, .emp, .emp, .emp, .emp] = .ok (.val (.str (S w0))) [potD q0 q1, .val (.lst []), .val (.str abc), .val (.lst someW), .emp, .emp, .emp, .emp, .emp, .emp] :=
    fnO_ok (l0 := .lst [.int p0, .int p1]) (l := .lst [.int p0, .int p1]) (l' := .lst [.int q0, .int q1]) rfl (cons_ok (var_ok rfl) nil_ok) rfl rfl hc
  obtain ⟨r, t0, t1, a1, a2, a3, a4⟩ := mdraw (b := 3) (i := 0) (ρ := [potD q0 q1, .val (.lst []), .val (.str abc), .val (.lst someW), .val (.str (S w0)), .emp, .emp, .emp, .emp, .emp]) (ms := mCons (mC (.int 3)) mNil) hq ⟨by decide, by decide +kernel⟩ rfl rfl
  have ht : mtV (mOp gGt (mFnO 2 v__law_draw 0 (mCons (mC (.int 3)) mNil)) (mC (.int 0))) [potD q0 q1, .val (.lst []), .val (.str abc), .val (.lst someW), .val (.str (S w0)), .emp, .emp, .emp, .emp, .emp] = .ok (decide (0 < r)) [potD t0 t1, .val (.lst []), .val (.str abc), .val (.lst someW), .val (.str (S w0)), .emp, .emp, .emp, .emp, .emp] := tv_b (op_ok a4 rfl rfl)
  obtain ⟨w, u0, u1, hw, hu, hs⟩ : ∃ w u0 u1, WOk w ∧ PotOk u0 u1 ∧ mIf (mtV (mOp gGt (mFnO 2 v__law_draw 0 (mCons (mC (.int 3)) mNil)) (mC (.int 0)))) (mSet (gN 4) (mMt "str" gJoin (mC (.str "")) (mCons (mLc (miR1 (mCons (mOp gIx (mLst (mCons (mC (.int 1)) (mCons (mC (.int 2)) (mCons (mC (.int 3)) (mCons (mC (.int 8)) mNil))))) (mFnO 2 v__law_draw 0 (mCons (mC (.int 4)) mNil))) mNil)) 5 mtYes (mOp gIx (mVar 2) (mFnO 2 v__law_draw 0 (mCons (mC (.int 26)) mNil)))) mNil))) mNext
      [potD q0 q1, .val (.lst []), .val (.str abc), .val (.lst someW), .val (.str (S w0)), .emp, .emp, .emp, .emp, .emp] = .nx [potD u0 u1, .val (.lst []), .val (.str abc), .val (.lst someW), .val (.str (S w)), .emp, .emp, .emp, .emp, .emp] := by
    by_cases c : 0 < r
    · rw [decide_eq_true c] at ht
      obtain ⟨w, u0, u1, hw, hu, hs⟩ := word_letters (r1 := .val (.lst someW)) (r2 := .emp) (z := S w0) a3
      exact ⟨w, u0, u1, hw, hu, by rw [if_t ht]; exact hs⟩
    · rw [decide_eq_false c] at ht
      exact ⟨w0, t0, t1, hw0, a3, by rw [if_f ht]; rfl⟩
  obtain ⟨sp, ρs, k1, ⟨v0, v1, hv, rfl⟩, k3, k4⟩ := lc_all (i := 7) (o := .emp) (PP [.val (.lst []), .val (.str abc), .val (.lst someW), .val (.str (S w)), .emp, .emp, .emp, .emp, .emp]) (fun d => ∃ z, d = .str z) (rng 0 78) [] [potD u0 u1, .val (.lst []), .val (.str abc), .val (.lst someW), .val (.str (S w)), .emp, .emp, .emp, .emp, .emp] ⟨u0, u1, hu, rfl⟩ (fun d hd => nomatch hd) (fun d hd ρ he => spare_ok ⟨_, _, _, _, rfl⟩ d hd ρ he)
  obtain ⟨fr, ρf, f1, ⟨x0, x1, hx, rfl⟩, f3⟩ := lc_ex (i := 9) (o := .emp) (tt := mtV (mOp gNotIn (mVar 9) (mVar 1))) (me := mVar 9) (PP [.val (.lst []), .val (.str abc), .val (.lst someW), .val (.str (S w)), .emp, .val (.lst sp), .emp, .emp, .emp]) (fun d => ∃ z, d = .str z) sp [] [potD v0 v1, .val (.lst []), .val (.str abc), .val (.lst someW), .val (.str (S w)), .emp, .val (.lst sp), .emp, .emp, .emp] ⟨v0, v1, hv, rfl⟩ (fun d hd => nomatch hd) (fun d hd ρ he => by
    obtain ⟨y0, y1, hy, rfl⟩ := he
    obtain ⟨z, rfl⟩ := k3 d hd
    exact .inl ⟨_, _, _, tv_b (op_ok (var_ok rfl) (var_ok rfl) notin_nil), var_ok rfl, ⟨y0, y1, hy, rfl⟩, z, rfl⟩)
  suffices key : m__law_word [potD p0 p1, .val (.lst []), .emp, .emp, .emp, .emp, .emp, .emp, .emp, .emp] = .rt (.val (.str (S w))) [potD x0 x1, .val (.lst []), .val (.str abc), .val (.lst someW), .val (.str (S w)), .emp, .val (.lst sp), .emp, .val (.lst fr), .emp] from
    ⟨w, x0, x1, _, hw, hx, run_rt (n := 2) (N := 10) (m := m__law_word) (args := [potD p0 p1, .val (.lst [])]) key⟩
  unfold m__law_word
  refine (seq_nx (set_nx (a := .val (.str abc)) (ρ1 := [potD p0 p1, .val (.lst []), .emp, .emp, .emp, .emp, .emp, .emp, .emp, .emp]) rfl rfl)).trans ?_
  refine (seq_nx (ρ1 := [potD p0 p1, .val (.lst []), .val (.str abc), .val (.lst someW), .emp, .emp, .emp, .emp, .emp, .emp]) (set_nx (lst_ok (ds := someW) rfl (by decide)) rfl)).trans ?_
  refine (seq_nx (set_nx s1 (ρ2 := [potD q0 q1, .val (.lst []), .val (.str abc), .val (.lst someW), .val (.str (S w0)), .emp, .emp, .emp, .emp, .emp]) rfl)).trans ?_
  refine (seq_nx hs).trans ?_
  refine (seq_nx (set_nx (a := .fr (.lst sp)) (ρ1 := [potD v0 v1, .val (.lst []), .val (.str abc), .val (.lst someW), .val (.str (S w)), .emp, .emp, .emp, .emp, .emp]) (ρ2 := [potD v0 v1, .val (.lst []), .val (.str abc), .val (.lst someW), .val (.str (S w)), .emp, .val (.lst sp), .emp, .emp, .emp]) (by
    rw [mLc_run (ds := rng 0 78) (o := .emp) (ρ1 := [potD u0 u1, .val (.lst []), .val (.str abc), .val (.lst someW), .val (.str (S w)), .emp, .emp, .emp, .emp, .emp]) (r1_ok (j := 78) (cons_ok rfl nil_ok) (by decide)) rfl rfl (by rw [rng_len]; decide)]
    exact k1) rfl)).trans ?_
  refine (seq_nx (set_nx (a := .fr (.lst fr)) (ρ1 := [potD x0 x1, .val (.lst []), .val (.str abc), .val (.lst someW), .val (.str (S w)), .emp, .val (.lst sp), .emp, .emp, .emp]) (ρ2 := [potD x0 x1, .val (.lst []), .val (.str abc), .val (.lst someW), .val (.str (S w)), .emp, .val (.lst sp), .emp, .val (.lst fr), .emp]) (by
    rw [mLc_run (ds := sp) (o := .emp) (ρ1 := [potD v0 v1, .val (.lst []), .val (.str abc), .val (.lst someW), .val (.str (S w)), .emp, .val (.lst sp), .emp, .emp, .emp]) (by unfold miL; rw [var_ok rfl]; rfl) rfl rfl (by rw [k4, rng_len]; decide)]
    exact f1) rfl)).trans ?_
  refine ret_rt ?_
  exact (ife_t (tv_b (op_ok (var_ok (i := 4) rfl) (var_ok (i := 1) rfl) notin_nil))).trans (var_ok rfl)
end K84
end
section
set_option Elab.async false
set_option linter.all false
set_option maxRecDepth 100000
set_option maxHeartbeats 4000000
/-! the plain law: trees -/
namespace K84
open PySem PySem.Spec PyProof.Rows L2 PD NdefX ClX StX SX TL
inductive T where
  | of (w : List Nat) (n : Nat) | a1 (w : List Nat) (t : T) | a2 (w : List Nat) (t u : T)
namespace T
def d : T → D
  | of w n => .tup [.str "of", .str (S w), .int n]
  | a1 w t => .tup [.str "do", .str (S w), .tup [t.d]]
  | a2 w t u => .tup [.str "do", .str (S w), .tup [t.d, u.d]]
/-- its words are words, its numbers are not too large -/
def Ok : T → Prop
  | of w n => WOk w ∧ n < 10 ^ 28
  | a1 w t => WOk w ∧ t.Ok
  | a2 w t u => WOk w ∧ t.Ok ∧ u.Ok
def deep : T → Nat
  | of _ _ => 1
  | a1 _ t => 1 + t.deep
  | a2 _ t u => 1 + max t.deep u.deep
def size : T → Nat
  | of _ _ => 1
  | a1 _ t => 1 + t.size
  | a2 _ t u => 1 + (t.size + u.size)
end T
theorem c_ok {d : D} {ρ : En} : mC d ρ = .ok (.val d) ρ := rfl
theorem pow28 : gPow (.int 10) (.int 28) = some (.val (.int (10 ^ 28))) := by
  show (if (0 : Int) ≤ 28 ∧ (28 : Int) ≤ 1000000 ∧ (10 : Int).natAbs < 2 ^ 64 then vi (10 ^ (28 : Int).toNat) else none) = _
  rw [if_pos ⟨by decide, by decide, by decide +kernel⟩]
  rfl
theorem eq_int {a b : Int} : gEqO (.int a) (.int b) = some (.val (.bl (decide (a = b)))) := rfl
theorem eq_int0 {a b : Int} : gEq (.int a) (.int b) = some (.val (.bl (decide (a = b)))) := rfl
theorem tree_of {p0 p1 : Int} {k : Int} {w : List Nat} (hw : WOk w) (h : PotOk p0 p1) : ∃ n q0 q1, n < 10 ^ 28 ∧ PotOk q0 q1 ∧ (mRet (mTup (mCons (mC (.str "of")) (mCons (mVar 2) (mCons (mFnO 2 v__law_choice 0 (mCons (mLst (mCons (mC (.int 0)) (mCons (mC (.int 1)) (mCons (mC (.int 10)) (mCons (mFnO 2 v__law_draw 0 (mCons (mC (.int 100)) mNil)) (mCons (mFnO 2 v__law_draw 0 (mCons (mOp gPow (mC (.int 10)) (mC (.int 28))) mNil)) mNil)))))) mNil)) mNil))))) [potD p0 p1, .val (.int k), .val (.str (S w)), .emp] = .rt (.val (T.of w n).d) [potD q0 q1, .val (.int k), .val (.str (S w)), .emp] := by
  obtain ⟨x, q0, q1, a1, a2, a3, a4⟩ := mdraw (b := 100) (i := 0) (ρ := [potD p0 p1, .val (.int k), .val (.str (S w)), .emp]) (ms := mCons (mC (.int 100)) mNil) h ⟨by decide, by decide +kernel⟩ rfl rfl
  obtain ⟨y, r0, r1, b1, b2, b3, b4⟩ := mdraw (b := 10 ^ 28) (i := 0) (ρ := [potD q0 q1, .val (.int k), .val (.str (S w)), .emp]) (ms := mCons (mOp gPow (mC (.int 10)) (mC (.int 28))) mNil) a3 ⟨by decide, by decide +kernel⟩ rfl (cons_ok (op_ok c_ok c_ok pow28) nil_ok)
  obtain ⟨d, s0, s1, ρ', hd, hs, hc⟩ := choice_ok (ds := [.int 0, .int 1, .int 10, .int x, .int y]) b3 (by show 0 < 5; decide) (by show 5 < 1000000; decide)
  have hn : ∃ n : Nat, n < 10 ^ 28 ∧ d = .int n := by
    simp only [List.mem_cons, List.not_mem_nil, or_false] at hd
    rcases hd with e | e | e | e | e
    · exact ⟨0, by decide, e⟩
    · exact ⟨1, by decide, e⟩
    · exact ⟨10, by decide, e⟩
    · exact ⟨x.toNat, Nat.lt_of_lt_of_le (show x.toNat < 100 by omega) (by decide), by rw [e]; congr 1; omega⟩
    · refine ⟨y.toNat, ?_, by rw [e]; congr 1; omega⟩
      have : ((y.toNat : Nat) : Int) < 10 ^ 28 := by rw [Int.toNat_of_nonneg b1]; exact b2
      exact_mod_cast this
  obtain ⟨n, hn, rfl⟩ := hn
  refine ⟨n, s0, s1, hn, hs, ret_rt (tup_ok (ds := [.str "of", .str (S w), .int n]) (cons_ok (a := .val (.str "of")) c_ok (cons_ok (var_ok rfl) (cons_ok (a := .val (.int n)) (ρ1 := [potD s0 s1, .val (.int k), .val (.str (S w)), .emp]) ?_ nil_ok))) (by show 3 ≤ 1000000; decide))⟩
  exact fnO_ok (l0 := .lst [.int p0, .int p1]) (l := .lst [.int r0, .int r1]) (l' := .lst [.int s0, .int s1]) (ρ1 := [potD r0 r1, .val (.int k), .val (.str (S w)), .emp]) rfl (cons_ok (a := .fr (.lst [.int 0, .int 1, .int 10, .int x, .int y])) (lst_ok (cons_ok c_ok (cons_ok c_ok (cons_ok c_ok (cons_ok a4 (cons_ok b4 nil_ok))))) (by show 5 ≤ 1000000; decide)) nil_ok) rfl rfl hc
theorem tree_ok : ∀ (fuel k : Nat) {p0 p1 : Int}, k < fuel → PotOk p0 p1 → ∃ (t : T) (q0 q1 : Int) (ρ' : En), t.Ok ∧ t.deep ≤ k + 1 ∧ PotOk q0 q1 ∧ v__law_tree fuel [potD p0 p1, .val (.int k)] = .ok (.val t.d) (potD q0 q1 :: ρ')
  | 0, _, _, _, h, _ => absurd h (Nat.not_lt_zero _)
  | fuel + 1, k, p0, p1, hk, h => by
    obtain ⟨w, q0, q1, ρw, hw, hq, hc⟩ := word_ok h
    have s1 : mFnO 2 v__law_word 0 (mCons (mLst mNil) mNil) [potD p0 p1, .val (.int k), .emp, .emp] = .ok (.val (.str (S w))) [potD q0 q1, .val (.int k), .emp, .emp] :=
      fnO_ok (l0 := .lst [.int p0, .int p1]) (l := .lst [.int p0, .int p1]) (l' := .lst [.int q0, .int q1]) (ρ1 := [potD p0 p1, .val (.int k), .emp, .emp]) rfl (cons_ok (a := .fr (.lst [])) (lst_ok nil_ok (by decide)) nil_ok) rfl rfl hc
    have start : ∀ {r : RV} {ρ' : En}, mSeq (mIf (mtOr (mtV (mOp gEq (mVar 1) (mC (.int 0)))) (mtV (mOp gEq (mFnO 2 v__law_draw 0 (mCons (mC (.int 4)) mNil)) (mC (.int 0))))) (mRet (mTup (mCons (mC (.str "of")) (mCons (mVar 2) (mCons (mFnO 2 v__law_choice 0 (mCons (mLst (mCons (mC (.int 0)) (mCons (mC (.int 1)) (mCons (mC (.int 10)) (mCons (mFnO 2 v__law_draw 0 (mCons (mC (.int 100)) mNil)) (mCons (mFnO 2 v__law_draw 0 (mCons (mOp gPow (mC (.int 10)) (mC (.int 28))) mNil)) mNil)))))) mNil)) mNil))))) mNext)
        (mRet (mTup (mCons (mC (.str "do")) (mCons (mVar 2) (mCons (mB gTuple (mCons (mLc (miR1 (mCons (mOp gAdd (mC (.int 1)) (mFnO 2 v__law_draw 0 (mCons (mC (.int 2)) mNil))) mNil)) 3 mtYes (mFnO 2 (v__law_tree fuel) 0 (mCons (mOp PD.gSub (mVar 1) (mC (.int 1))) mNil))) mNil)) mNil))))) [potD q0 q1, .val (.int k), .val (.str (S w)), .emp] = .rt r ρ' →
        v__law_tree (fuel + 1) [potD p0 p1, .val (.int k)] = .ok r (backP [potD p0 p1, .val (.int k)] ρ') := fun e =>
      run_rt (n := 2) (N := 4) (m := m__law_tree (v__law_tree fuel)) (args := [potD p0 p1, .val (.int k)]) ((seq_nx (set_nx s1 (ρ2 := [potD q0 q1, .val (.int k), .val (.str (S w)), .emp]) rfl)).trans e)
    by_cases h0 : k = 0
    · subst h0
      obtain ⟨n, r0, r1, hn, hr, hl⟩ := tree_of (k := ((0 : Nat) : Int)) hw hq
      refine ⟨.of w n, r0, r1, _, ⟨hw, hn⟩, by show 1 ≤ 0 + 1; omega, hr, start (ρ' := [potD r0 r1, .val (.int ((0 : Nat) : Int)), .val (.str (S w)), .emp]) (seq_rt ((if_t (or_t (tv_b (op_ok (var_ok rfl) c_ok rfl)))).trans hl))⟩
    · obtain ⟨x, u0, u1, b1, b2, b3, b4⟩ := mdraw (b := 4) (i := 0) (ρ := [potD q0 q1, .val (.int k), .val (.str (S w)), .emp]) (ms := mCons (mC (.int 4)) mNil) hq ⟨by decide, by decide +kernel⟩ rfl rfl
      have t1 : mtV (mOp gEq (mVar 1) (mC (.int 0))) [potD q0 q1, .val (.int k), .val (.str (S w)), .emp] = .ok false [potD q0 q1, .val (.int k), .val (.str (S w)), .emp] := by
        have e := eq_int0 (a := (k : Int)) (b := 0)
        rw [decide_eq_false (by omega)] at e
        exact tv_b (op_ok (var_ok rfl) c_ok e)
      by_cases hx : x = 0
      · subst hx
        obtain ⟨n, r0, r1, hn, hr, hl⟩ := tree_of (k := ((k : Nat) : Int)) hw b3
        exact ⟨.of w n, r0, r1, _, ⟨hw, hn⟩, by show 1 ≤ k + 1; omega, hr, start (ρ' := [potD r0 r1, .val (.int k), .val (.str (S w)), .emp]) (seq_rt ((if_t ((or_f t1).trans (tv_b (op_ok b4 c_ok rfl)))).trans hl))⟩
      · have t2 : mtV (mOp gEq (mFnO 2 v__law_draw 0 (mCons (mC (.int 4)) mNil)) (mC (.int 0))) [potD q0 q1, .val (.int k), .val (.str (S w)), .emp] = .ok false [potD u0 u1, .val (.int k), .val (.str (S w)), .emp] := by
          have e := eq_int0 (a := x) (b := 0)
          rw [decide_eq_false hx] at e
          exact tv_b (op_ok b4 c_ok e)
        obtain ⟨y, v0, v1, c1, c2, c3, c4⟩ := mdraw (b := 2) (i := 0) (ρ := [potD u0 u1, .val (.int k), .val (.str (S w)), .emp]) (ms := mCons (mC (.int 2)) mNil) b3 ⟨by decide, by decide +kernel⟩ rfl rfl
        have hsub : PD.gSub (.int (k : Int)) (.int 1) = some (.val (.int ((k - 1 : Nat) : Int))) := by
          show some (RV.val (.int ((k : Int) - 1))) = _
          congr 3
          omega
        obtain ⟨out, ρ2, k1, ⟨w0, w1, kw, rfl⟩, k3, k4⟩ := lc_all (i := 3) (o := .emp) (me := mFnO 2 (v__law_tree fuel) 0 (mCons (mOp PD.gSub (mVar 1) (mC (.int 1))) mNil)) (PP [.val (.int k), .val (.str (S w)), .emp]) (fun d => ∃ t : T, t.Ok ∧ t.deep ≤ k ∧ d = t.d) (rng 0 (1 + y).toNat) [] [potD v0 v1, .val (.int k), .val (.str (S w)), .emp] ⟨v0, v1, c3, rfl⟩ (fun d hd => nomatch hd) (fun d hd ρ he => by
          obtain ⟨y0, y1, hy, rfl⟩ := he
          obtain ⟨t, z0, z1, ρz, t1, t2, t3, t4⟩ := tree_ok fuel (k - 1) (by omega) hy
          exact ⟨_, _, fnO_ok (l0 := .lst [.int y0, .int y1]) (l := .lst [.int y0, .int y1]) (l' := .lst [.int z0, .int z1]) (ρ := [potD y0 y1, .val (.int k), .val (.str (S w)), .val d]) (ρ1 := [potD y0 y1, .val (.int k), .val (.str (S w)), .val d]) rfl (cons_ok (op_ok (var_ok rfl) c_ok hsub) nil_ok) rfl rfl t4, ⟨z0, z1, t3, rfl⟩, t, t1, by omega, rfl⟩)
        have hlen : out.length = (1 + y).toNat := by rw [k4, rng_len]; simp
        have fin : ∀ (t : T), t.d = .tup [.str "do", .str (S w), .tup out] → v__law_tree (fuel + 1) [potD p0 p1, .val (.int k)] = .ok (.val t.d) (backP [potD p0 p1, .val (.int k)] [potD w0 w1, .val (.int k), .val (.str (S w)), .emp]) := fun t ht => by
          refine start (seq_nx ((if_f ((or_f t1).trans t2)).trans rfl) |>.trans (ret_rt ?_))
          rw [ht]
          refine tup_ok (ds := [.str "do", .str (S w), .tup out]) (cons_ok (a := .val (.str "do")) c_ok (cons_ok (var_ok rfl) (cons_ok (a := .val (.tup out)) (ρ1 := [potD w0 w1, .val (.int k), .val (.str (S w)), .emp]) (b_ok (ds := [.lst out]) (cons_ok (a := .fr (.lst out)) ?_ nil_ok) rfl) nil_ok))) (by show 3 ≤ 1000000; decide)
          rw [mLc_run (ds := rng 0 (1 + y).toNat) (o := .emp) (ρ1 := [potD v0 v1, .val (.int k), .val (.str (S w)), .emp]) (r1_ok (cons_ok (a := .val (.int (1 + y))) (op_ok c_ok c4 rfl) nil_ok) (by omega)) rfl rfl (by rw [rng_len]; show _ ≤ 1000000; omega)]
          exact k1
        have hy : y = 0 ∨ y = 1 := by omega
        rcases hy with rfl | rfl
        · match out, hlen, k3, fin with
          | [d1], _, k3, fin =>
            obtain ⟨t, q1, q2, rfl⟩ := k3 d1 List.mem_cons_self
            exact ⟨.a1 w t, w0, w1, _, ⟨hw, q1⟩, by show 1 + t.deep ≤ k + 1; omega, kw, fin (.a1 w t) rfl⟩
        · match out, hlen, k3, fin with
          | [d1, d2], _, k3, fin =>
            obtain ⟨t, q1, q2, rfl⟩ := k3 d1 List.mem_cons_self
            obtain ⟨u, q3, q4, rfl⟩ := k3 d2 (List.mem_cons_of_mem _ List.mem_cons_self)
            exact ⟨.a2 w t u, w0, w1, _, ⟨hw, q1, q3⟩, by show 1 + max t.deep u.deep ≤ k + 1; omega, kw, fin (.a2 w t u) rfl⟩
end K84
end
section
set_option Elab.async false
set_option linter.all false
set_option maxRecDepth 100000
set_option maxHeartbeats 4000000
/-! the plain law: expressions as objects -/
namespace K84
open PySem PySem.Spec PyProof.Rows L2 PD NdefX ClX StX SX TL
namespace T
def txt : T → List Nat
  | of w n => w ++ (58 :: numL n)
  | a1 w t => w ++ (40 :: (t.txt ++ [41]))
  | a2 w t u => w ++ (40 :: (t.txt ++ (44 :: (u.txt ++ [41]))))
def Ok' : T → Prop
  | of w n => WOk w ∧ n < 10 ^ 500
  | a1 w t => WOk w ∧ t.Ok'
  | a2 w t u => WOk w ∧ t.Ok' ∧ u.Ok'
def fldC : List Str := ["own_parts", "own_text", "own_size", "own_depth", "own_type", "own_number"]
def fldA : List Str := ["own_parts", "own_text", "own_size", "own_depth", "own_operator"]
def ob : T → D
  | of w n => .obj "Constant" fldC [.lst [], .str (S (of w n).txt), .int 1, .int 1, .str (S w), .int n]
  | a1 w t => .obj "Application" fldA [.lst [t.ob], .str (S (a1 w t).txt), .int (a1 w t).size, .int (a1 w t).deep, .str (S w)]
  | a2 w t u => .obj "Application" fldA [.lst [t.ob, u.ob], .str (S (a2 w t u).txt), .int (a2 w t u).size, .int (a2 w t u).deep, .str (S w)]
theorem Ok.ok' : ∀ {t : T}, t.Ok → t.Ok'
  | of _ _, h => ⟨h.1, Nat.lt_of_lt_of_le h.2 (Nat.pow_le_pow_right (by decide) (by decide))⟩
  | a1 _ _, h => ⟨h.1, Ok.ok' h.2⟩
  | a2 _ _ _, h => ⟨h.1, Ok.ok' h.2.1, Ok.ok' h.2.2⟩
theorem size_pos : ∀ t : T, 1 ≤ t.size
  | of _ _ => Nat.le_refl _
  | a1 _ t => by show 1 ≤ 1 + t.size; omega
  | a2 _ t u => by show 1 ≤ 1 + (t.size + u.size); omega
theorem txt_len : ∀ {t : T}, t.Ok' → t.txt.length ≤ 520 * t.size
  | of w n, h => by
    have h1 := h.1.l.2
    have h2 := numL_len (k := 500) (by decide) h.2
    show (w ++ (58 :: numL n)).length ≤ 520 * 1
    rw [List.length_append, List.length_cons]
    omega
  | a1 w t, h => by
    have h1 := h.1.l.2
    have h2 := txt_len h.2
    show (w ++ (40 :: (t.txt ++ [41]))).length ≤ 520 * (1 + t.size)
    simp only [List.length_append, List.length_cons, List.length_nil]
    omega
  | a2 w t u, h => by
    have h1 := h.1.l.2
    have h2 := txt_len h.2.1
    have h3 := txt_len h.2.2
    show (w ++ (40 :: (t.txt ++ (44 :: (u.txt ++ [41]))))).length ≤ 520 * (1 + (t.size + u.size))
    simp only [List.length_append, List.length_cons, List.length_nil]
    omega
end T
theorem ob_text (t : T) : gFld cls "own_text" t.ob = some (.val (.str (S t.txt))) := by cases t <;> rfl
theorem ob_size (t : T) : gFld cls "own_size" t.ob = some (.val (.int t.size)) := by cases t <;> rfl
theorem ob_deep (t : T) : gFld cls "own_depth" t.ob = some (.val (.int t.deep)) := by cases t <;> rfl
def T.parts : T → List T
  | .of _ _ => []
  | .a1 _ t => [t]
  | .a2 _ t u => [t, u]
theorem ob_parts (t : T) : gFld cls "own_parts" t.ob = some (.val (.lst (t.parts.map T.ob))) := by cases t <;> rfl
theorem ob_obj (t : T) : ∃ c ns ds, t.ob = .obj c ns ds ∧ cls.contains c = true ∧ ∀ m : Str, m ∈ (["size", "depth", "parts"] : List Str) → ns.contains m = false := by
  cases t
  · exact ⟨_, _, _, rfl, rfl, by decide⟩
  · exact ⟨_, _, _, rfl, rfl, by decide⟩
  · exact ⟨_, _, _, rfl, rfl, by decide⟩
theorem S_len' (l : List Nat) : (S l).length = l.length := by show l.toArray.size = _; simp
theorem lenF_ok {n : Nat} {f : En → Res RV} {ρ : En} (h : ρ.length = n) : lenF n f ρ = f ρ := if_pos h
theorem not_tt {t : MT} {ρ ρ1 : En} (h : t ρ = .ok true ρ1) : mtNot t ρ = .ok false ρ1 := not_ok h
theorem not_ff {t : MT} {ρ ρ1 : En} (h : t ρ = .ok false ρ1) : mtNot t ρ = .ok true ρ1 := not_ok h
theorem chain_t {g g' : D → D → Option RV} {ma mb mc : M} {ρ ρ1 ρ2 ρ3 : En} {a b c r : RV} (ha : ma ρ = .ok a ρ1) (hb : mb ρ1 = .ok b ρ2) (h1 : g a.d b.d = some (.val (.bl true))) (hc : mc ρ2 = .ok c ρ3) (h2 : g' b.d c.d = some r) : mChain g g' ma mb mc ρ = .ok r ρ3 := by
  unfold mChain
  rw [ha]
  show (mb ρ1).bind _ = _
  rw [hb]
  show (match g a.d b.d with
    | some (.val (.bl true)) => (mc ρ2).bind fun c ρ3 => optR (g' b.d c.d) ρ3
    | some (.val (.bl false)) => .ok (.val (.bl false)) ρ2
    | _ => .no) = _
  rw [h1]
  show (mc ρ2).bind _ = _
  rw [hc]
  show optR (g' b.d c.d) ρ3 = _
  rw [h2]
  rfl
theorem chain_f {g g' : D → D → Option RV} {ma mb mc : M} {ρ ρ1 ρ2 : En} {a b : RV} (ha : ma ρ = .ok a ρ1) (hb : mb ρ1 = .ok b ρ2) (h1 : g a.d b.d = some (.val (.bl false))) : mChain g g' ma mb mc ρ = .ok (.val (.bl false)) ρ2 := by
  unfold mChain
  rw [ha]
  show (mb ρ1).bind _ = _
  rw [hb]
  show (match g a.d b.d with
    | some (.val (.bl true)) => (mc ρ2).bind fun c ρ3 => optR (g' b.d c.d) ρ3
    | some (.val (.bl false)) => .ok (.val (.bl false)) ρ2
    | _ => .no) = _
  rw [h1]
theorem le_int {a b : Int} : gLe (.int a) (.int b) = some (.val (.bl (decide (a ≤ b)))) := rfl
theorem lt_int {a b : Int} : gLt (.int a) (.int b) = some (.val (.bl (decide (a < b)))) := rfl
theorem gt_int {a b : Int} : gGt (.int a) (.int b) = some (.val (.bl (decide (b < a)))) := rfl
theorem iff_t {p : Prop} [Decidable p] {o : D → D → Option RV} {a b : D} (e : o a b = some (.val (.bl (decide p)))) (h : p) : o a b = some (.val (.bl true)) := by rw [e, decide_eq_true h]
theorem iff_f {p : Prop} [Decidable p] {o : D → D → Option RV} {a b : D} (e : o a b = some (.val (.bl (decide p)))) (h : ¬ p) : o a b = some (.val (.bl false)) := by rw [e, decide_eq_false h]
theorem len_S {w : List Nat} (hl : w.length ≤ top1) : gLen [.str (S w)] = some (.val (.int w.length)) := by
  show (if (S w).length ≤ top1 then vi (S w).length else none) = _
  rw [S_len', if_pos hl]
/-! ### methods -/
theorem size_ok (t : T) : v_Expression_size [.val t.ob] = .ok (.val (.int t.size)) [.val t.ob] := by
  exact (lenF_ok rfl).trans <| run_rt (n := 1) (N := 1) (m := m_Expression_size) (args := [.val t.ob]) (ret_rt (un_ok (var_ok rfl) (ob_size t)))
theorem depth_ok (t : T) : v_Expression_depth [.val t.ob] = .ok (.val (.int t.deep)) [.val t.ob] := by
  exact (lenF_ok rfl).trans <| run_rt (n := 1) (N := 1) (m := m_Expression_depth) (args := [.val t.ob]) (ret_rt (un_ok (var_ok rfl) (ob_deep t)))
theorem parts_ok (t : T) : v_Expression_parts [.val t.ob] = .ok (.fr (.lst (t.parts.map T.ob))) [.val t.ob] := by
  exact (lenF_ok rfl).trans <| run_rt (n := 1) (N := 1) (m := m_Expression_parts) (args := [.val t.ob]) (ret_rt (b_ok (cons_ok (un_ok (var_ok rfl) (ob_parts t)) nil_ok) rfl))
theorem str_ok' {t : T} (h : t.txt.length ≤ top1) : v_Expression___str__ [.val t.ob] = .ok (.val (.str (S t.txt))) [.val t.ob] := by
  refine (lenF_ok rfl).trans <| run_rt (n := 1) (N := 1) (m := m_Expression___str__) (args := [.val t.ob]) (ret_rt (un_ok (un_ok (var_ok rfl) (ob_text t)) ?_))
  show (if (S t.txt).length ≤ top1 then _ else _) = _
  rw [if_pos (by rw [S_len']; exact h)]
/-- o.m(), m of an expression -/
theorem meth0_ok {m : Str} {f : En → Res RV} {mo : M} {ρ ρ1 ρ' : En} {a r : RV} {t : T} (ha : mo ρ = .ok a ρ1) (hd : a.d = t.ob) (hm : m ∈ (["size", "depth", "parts"] : List Str)) (hf : f [.val t.ob] = .ok r ρ') : mMeth cls m f mo mNil ρ = .ok r ρ1 := by
  obtain ⟨c, ns, ds, e, h1, h2⟩ := ob_obj t
  unfold mMeth
  rw [ha]
  show (match a.d with | .obj c ns ds => if cls.contains c = true ∧ ns.contains m = false then (mNil ρ1).bind fun es ρ2 => (f ((D.obj c ns ds :: es).map .val)).at ρ2 else .no | _ => .no) = _
  rw [hd, e]
  show (if cls.contains c = true ∧ ns.contains m = false then (mNil ρ1).bind fun es ρ2 => (f ((D.obj c ns ds :: es).map .val)).at ρ2 else .no) = _
  rw [if_pos ⟨h1, h2 m hm⟩]
  show (f [.val (D.obj c ns ds)]).at ρ1 = _
  rw [← e, hf]
  rfl
/-! ### names -/
theorem abc_mem (c : Nat) : c ∈ abcL ↔ 97 ≤ c ∧ c ≤ 122 := by
  unfold abcL
  simp only [List.mem_cons, List.not_mem_nil, or_false]
  omega
theorem in_abc (c : Nat) : gIn (.str (S [c])) (.str abc) = some (.val (.bl (decide (97 ≤ c ∧ c ≤ 122)))) := by
  rw [abc_S]
  show some (RV.val (.bl (decide (c ∈ abcL)))) = _
  rw [decide_eq_decide.mpr (abc_mem c)]
theorem all_bools : ∀ w : List Nat, (mapAll D.bl? (w.map fun c => D.bl (decide (97 ≤ c ∧ c ≤ 122)))) = some (w.map fun c => decide (97 ≤ c ∧ c ≤ 122))
  | [] => rfl
  | c :: r => by rw [List.map_cons, mapAll, all_bools r]; rfl
theorem is_name_ok {w : List Nat} (hl : w.length ≤ top1) : ∃ ρ', v_is_name [.val (.str (S w))] = .ok (.val (.bl (decide (WOk w)))) ρ' := by
  have hT : mtNot (mtV (mUn (gIsT "str") (mVar 0))) [.val (.str (S w)), .emp] = .ok false [.val (.str (S w)), .emp] := not_tt (tv_b (un_ok (var_ok rfl) rfl))
  have fin : ∀ b, mtNot (mtV (mChain gLe gLe (mC (.int 1)) (mB gLen (mCons (mVar 0) mNil)) (mC (.int 8)))) [.val (.str (S w)), .emp] = .ok b [.val (.str (S w)), .emp] → (b = true → ¬ WOk w) → (b = false → (1 ≤ w.length ∧ w.length ≤ 8)) → ∃ ρ', v_is_name [.val (.str (S w))] = .ok (.val (.bl (decide (WOk w)))) ρ' := fun b hb h1 h2 => by
    refine ⟨[.val (.str (S w))], run_rt (n := 1) (N := 2) (m := m_is_name) (args := [.val (.str (S w))]) (ρ' := [.val (.str (S w)), .emp]) ?_⟩
    cases b with
    | true =>
      rw [decide_eq_false (h1 rfl)]
      exact seq_rt ((if_t ((or_f hT).trans hb)).trans (ret_rt c_ok))
    | false =>
      refine (seq_nx ((if_f ((or_f hT).trans hb)).trans rfl)).trans (ret_rt (b_ok (ds := [.lst (w.map fun c => D.bl (decide (97 ≤ c ∧ c ≤ 122)))]) (cons_ok (a := .fr (.lst (w.map fun c => D.bl (decide (97 ≤ c ∧ c ≤ 122))))) (ρ1 := [.val (.str (S w)), .emp]) ?_ nil_ok) ?_))
      · rw [mLc_run (ds := PD.signs (S w)) (o := .emp) (ρ1 := [.val (.str (S w)), .emp]) (by unfold miS; rw [var_ok rfl]; rfl) rfl rfl (by unfold PD.signs; rw [List.length_map]; exact hl)]
        have e : PD.signs (S w) = w.map fun c => D.str (S [c]) := rfl
        have k := lc_map (i := 1) (o := .emp) (me := mOp gIn (mVar 1) (mC (.str abc))) (fun d => match d with | .str z => .bl (z.cps.toList.all fun c => decide (97 ≤ c ∧ c ≤ 122)) | d => d) (ρ0 := [.val (.str (S w)), .emp]) (PD.signs (S w)) [] (fun d hd => by
          rw [e] at hd
          obtain ⟨c, hc, rfl⟩ := List.mem_map.mp hd
          exact ⟨_, _, op_ok (var_ok rfl) c_ok (in_abc c), rfl, by show D.bl _ = D.bl _; simp⟩)
        rw [k, e, List.nil_append, List.map_map]
        congr 3
        refine List.map_congr_left fun c _ => ?_
        show D.bl _ = D.bl _
        simp
      · show (mapAll D.bl? (w.map fun c => D.bl (decide (97 ≤ c ∧ c ≤ 122)))).bind _ = _
        rw [all_bools]
        show some (RV.val (.bl _)) = some (RV.val (.bl _))
        congr 3
        rw [Bool.eq_iff_iff, decide_eq_true_iff, List.all_eq_true]
        constructor
        · intro h
          refine ⟨h2 rfl, fun c hc => ?_⟩
          have := h _ (List.mem_map.mpr ⟨c, hc, rfl⟩)
          simpa using this
        · intro h x hx
          obtain ⟨c, hc, rfl⟩ := List.mem_map.mp hx
          simpa using h.c c hc
  by_cases h1 : 1 ≤ w.length
  · by_cases h2 : w.length ≤ 8
    · exact fin false (not_tt (tv_b (chain_t c_ok (b_ok (cons_ok (var_ok rfl) nil_ok) (len_S hl)) (iff_t le_int (by omega)) c_ok (iff_t le_int (by omega))))) (fun z => nomatch z) (fun _ => ⟨h1, h2⟩)
    · exact fin true (not_ff (tv_b (chain_t c_ok (b_ok (cons_ok (var_ok rfl) nil_ok) (len_S hl)) (iff_t le_int (by omega)) c_ok (iff_f le_int (by omega))))) (fun _ z => h2 z.l.2) (fun z => nomatch z)
  · exact fin true (not_ff (tv_b (chain_f c_ok (b_ok (cons_ok (var_ok rfl) nil_ok) (len_S hl)) (iff_f le_int (by omega))))) (fun _ z => h1 z.l.1) (fun z => nomatch z)
theorem is_count_ok (n : Nat) : v_is_count [.val (.int n)] = .ok (.val (.bl true)) [.val (.int n)] := by
  have e : gGe (.int (n : Int)) (.int 0) = some (.val (.bl true)) := by
    show some (RV.val (.bl (decide ((0 : Int) ≤ n)))) = _
    rw [decide_eq_true (by omega)]
  refine run_rt (n := 1) (N := 1) (m := m_is_count) (args := [.val (.int n)]) (ρ' := [.val (.int n)]) (ret_rt (a := .val (.bl true)) ?_)
  have h1 : mUn (gIsT "int") (mVar 0) [.val (.int n)] = .ok (.val (.bl true)) [.val (.int n)] := un_ok (var_ok rfl) rfl
  have h2 : mUn gNot (mUn (gIsT "bool") (mVar 0)) [.val (.int n)] = .ok (.val (.bl true)) [.val (.int n)] := un_ok (un_ok (var_ok rfl) rfl) rfl
  have h3 : mOp gGe (mVar 0) (mC (.int 0)) [.val (.int n)] = .ok (.val (.bl true)) [.val (.int n)] := op_ok (var_ok rfl) c_ok e
  show mAnd _ _ [.val (.int n)] = _
  unfold mAnd
  rw [h1]
  show (mUn gNot (mUn (gIsT "bool") (mVar 0)) [.val (.int n)]).bind _ = _
  rw [h2]
  exact h3
end K84
end
section
set_option Elab.async false
set_option linter.all false
set_option maxRecDepth 100000
set_option maxHeartbeats 4000000
/-! the plain law: constructors -/
namespace K84
open PySem PySem.Spec PyProof.Rows L2 PD NdefX ClX StX SX TL
theorem setF_ok {c f : Str} {i : Nat} {m : M} {ρ ρ1 : En} {a : RV} {ns : List Str} {ds : List D} (hm : m ρ = .ok a ρ1) (hi : ρ1[i]? = some (.own (.ins c ns ds))) (hl : ns.length < 900) : mSetF c f i m ρ = .nx (ρ1.set i (.own (.ins c (putN f ns) (putD f a.d ns ds)))) := by
  unfold mSetF
  rw [hm]
  show (match ρ1[i]? with
    | some (.own (.ins c' ns ds)) => if c' = c ∧ ns.length < 900 then Out.nx (ρ1.set i (.own (.ins c (putN f ns) (putD f a.d ns ds)))) else .no
    | _ => .no) = _
  rw [hi]
  exact if_pos ⟨rfl, hl⟩
theorem fldO_ok {c f : Str} {i : Nat} {ρ : En} {ns : List Str} {ds : List D} {d : D} (hi : ρ[i]? = some (.own (.ins c ns ds))) (hd : (ns.zip ds).lookup f = some d) : mFldO c f i ρ = .ok (.val d) ρ := by
  unfold mFldO
  rw [hi]
  show (if c = c then (match (ns.zip ds).lookup f with
      | some d => Res.ok (RV.val d) ρ
      | none => .no) else .no) = _
  rw [if_pos rfl, hd]
theorem ints_ok : ∀ ns : List Int, mapAll D.int? (ns.map .int) = some ns
  | [] => rfl
  | n :: r => by rw [List.map_cons, mapAll, ints_ok r]; rfl
def maxD0 : List Int → Int
  | [] => 0
  | n :: r => maxL n r
def fInt (f : Str) : D → D := fun d => match gFld cls f d with
  | some (.val x) => x
  | _ => .non
theorem einit_ok {c : Str} {ts : List T} {p : D} {z : Str} (hp : gList [p] = some (.fr (.lst (ts.map T.ob)))) (hl : ts.length ≤ 2) : ∃ ρ', v_einit c [.own (.ins c [] []), .val p, .val (.str z)] = .ok (.val .non) (.own (.ins c ["own_parts", "own_text", "own_size", "own_depth"] [.lst (ts.map T.ob), .str z, .int (1 + (ts.map fun t => (t.size : Int)).sum), .int (1 + (maxD0 (ts.map fun t => (t.deep : Int))))]) :: ρ') := by
  refine ⟨[.val p, .val (.str z)], run_nx (n := 3) (N := 4) (m := m_einit c) (args := [.own (.ins c [] []), .val p, .val (.str z)]) (ρ' := [.own (.ins c ["own_parts", "own_text", "own_size", "own_depth"] [.lst (ts.map T.ob), .str z, .int (1 + (ts.map fun t => (t.size : Int)).sum), .int (1 + (maxD0 (ts.map fun t => (t.deep : Int))))]), .val p, .val (.str z), .emp]) ?_⟩
  have loop : ∀ (f m : Str) (v : En → Res RV) (k : T → Nat) (o : OC) (ns : List Str) (ds : List D), m ∈ (["size", "depth", "parts"] : List Str) → (∀ t : T, v [.val t.ob] = .ok (.val (.int (k t))) [.val t.ob]) → (ns.zip ds).lookup ("own_parts" : Str) = some (D.lst (ts.map T.ob)) →
      mLc (miL (mFldO c "own_parts" 0)) 3 mtYes (mMeth cls m v (mVar 3) mNil) [.own (.ins c ns ds), .val p, .val (.str z), .emp] = .ok (.fr (.lst ((ts.map fun t => (k t : Int)).map .int))) [.own (.ins c ns ds), .val p, .val (.str z), .emp] := fun f m v k o ns ds hm hv hd => by
    rw [mLc_run (ds := ts.map T.ob) (o := .emp) (ρ1 := [.own (.ins c ns ds), .val p, .val (.str z), .emp]) (by unfold miL; rw [fldO_ok rfl hd]; rfl) rfl rfl (by rw [List.length_map]; show _ ≤ 1000000; omega)]
    have go : ∀ (us : List T) (acc : List D), lcGo 3 .emp mtYes (mMeth cls m v (mVar 3) mNil) (us.map T.ob) acc [.own (.ins c ns ds), .val p, .val (.str z), .emp] = .ok (.fr (.lst (acc ++ (us.map fun t => (k t : Int)).map .int))) [.own (.ins c ns ds), .val p, .val (.str z), .emp] := fun us => by
      induction us with
      | nil => intro acc; rw [List.map_nil, List.map_nil, List.map_nil, List.append_nil]; rfl
      | cons t r ih =>
        intro acc
        rw [List.map_cons, lcGo]
        unfold mtYes
        dsimp only
        rw [show ([Sl.own (OC.ins c ns ds), .val p, .val (.str z), .emp].set 3 (.val t.ob)) = [Sl.own (OC.ins c ns ds), .val p, .val (.str z), .val t.ob] from rfl, meth0_ok (mo := mVar 3) (t := t) (a := .val t.ob) (ρ1 := [.own (.ins c ns ds), .val p, .val (.str z), .val t.ob]) (var_ok rfl) rfl hm (hv t)]
        have k2 := ih (acc ++ [.int (k t)])
        unfold mtYes at k2
        refine k2.trans ?_
        rw [List.append_assoc]
        rfl
    have k3 := go ts []
    rw [List.nil_append] at k3
    exact k3
  unfold m_einit
  refine (seq_nx (setF_ok (a := .fr (.lst (ts.map T.ob))) (ρ1 := [.own (.ins c [] []), .val p, .val (.str z), .emp]) (b_ok (cons_ok (var_ok rfl) nil_ok) hp) rfl (by decide))).trans ?_
  refine (seq_nx (setF_ok (a := .val (.str z)) (ρ1 := [.own (.ins c ["own_parts"] [.lst (ts.map T.ob)]), .val p, .val (.str z), .emp]) (var_ok rfl) rfl (by decide))).trans ?_
  refine (seq_nx (setF_ok (a := .val (.int (1 + (ts.map fun t => (t.size : Int)).sum))) (ρ1 := [.own (.ins c ["own_parts", "own_text"] [.lst (ts.map T.ob), .str z]), .val p, .val (.str z), .emp]) (op_ok (a := .val (.int 1)) (b := .val (.int (ts.map fun t => (t.size : Int)).sum)) c_ok (b_ok (ds := [.lst ((ts.map fun t => (t.size : Int)).map .int)]) (cons_ok (a := .fr (.lst ((ts.map fun t => (t.size : Int)).map .int))) (loop "own_size" "size" v_Expression_size T.size (.lst []) ["own_parts", "own_text"] [.lst (ts.map T.ob), .str z] (by decide) size_ok rfl) nil_ok) ?_) rfl) rfl (by decide))).trans ?_
  · show (mapAll D.int? ((ts.map fun t => (t.size : Int)).map .int)).bind _ = _
    rw [ints_ok]
    rfl
  refine Eq.trans (setF_ok (c := c) (f := "own_depth") (i := 0) (ns := ["own_parts", "own_text", "own_size"]) (ds := [.lst (ts.map T.ob), .str z, .int (1 + (ts.map fun t => (t.size : Int)).sum)]) (a := .val (.int (1 + (maxD0 (ts.map fun t => (t.deep : Int)))))) (ρ1 := [.own (.ins c ["own_parts", "own_text", "own_size"] [.lst (ts.map T.ob), .str z, .int (1 + (ts.map fun t => (t.size : Int)).sum)]), .val p, .val (.str z), .emp]) (op_ok (a := .val (.int 1)) (b := .val (.int (maxD0 (ts.map fun t => (t.deep : Int))))) c_ok (b_ok (ds := [.lst ((ts.map fun t => (t.deep : Int)).map .int)]) (cons_ok (a := .fr (.lst ((ts.map fun t => (t.deep : Int)).map .int))) (loop "own_depth" "depth" v_Expression_depth T.deep (.lst []) ["own_parts", "own_text", "own_size"] [.lst (ts.map T.ob), .str z, .int (1 + (ts.map fun t => (t.size : Int)).sum)] (by decide) depth_ok rfl) nil_ok) ?_) rfl) rfl (by decide)) rfl
  show (mapAll D.int? ((ts.map fun t => (t.deep : Int)).map .int)).bind _ = _
  rw [ints_ok]
  cases ts.map fun t => (t.deep : Int) <;> rfl
end K84
end
section
set_option Elab.async false
set_option linter.all false
set_option maxRecDepth 100000
set_option maxHeartbeats 4000000
/-! the plain law: constructors -/
namespace K84
open PySem PySem.Spec PyProof.Rows L2 PD NdefX ClX StX SX TL
theorem S_app (a b : List Nat) : S a ++ S b = S (a ++ b) := by
  refine TL.ext_tl ?_
  rw [tl_append]
theorem js_cons {m : M} {ms : List M} {acc y : Str} {ρ ρ1 : En} {a : RV} (h : m ρ = .ok a ρ1) (hd : a.d = .str y) (hl : (acc ++ y).length ≤ top1) : mJs (m :: ms) acc ρ = mJs ms (acc ++ y) ρ1 := by
  rw [mJs, h]
  show (match a.d with
    | .str y => if (acc ++ y).length ≤ top1 then mJs ms (acc ++ y) ρ1 else .no
    | _ => .no) = _
  rw [hd]
  exact if_pos hl
theorem log500 {n : Nat} (h : n < 10 ^ 500) : n.log2 < 1920 := Nat.lt_of_le_of_lt (lg (k := 1661) (Nat.lt_of_lt_of_le h (by decide +kernel))) (by decide)
theorem fmt_int {n : Nat} (h : n < 10 ^ 500) : gFmt (.int n) = some (.val (.str (S (numL n)))) := by
  show (if (n : Int).natAbs.log2 < 1920 then vs (Str.ofString (toString (n : Int))) else none) = _
  rw [if_pos (by rw [Int.natAbs_natCast]; exact log500 h), num_S]
theorem fmt_str {w : List Nat} (h : w.length ≤ top1) : gFmt (.str (S w)) = some (.val (.str (S w))) := by
  show (if (S w).length ≤ top1 then vs (S w) else none) = _
  rw [if_pos (by rw [S_len']; exact h)]
theorem sup_ok {c : Str} {n : Nat} {f : En → Res RV} {ms : MA} {ρ ρ' : En} {ds : List D} {a : RV} {ns : List Str} {es : List D} {l' : OC} (h0 : ρ[0]? = some (.own (.ins c ns es))) (h : ms ρ = .ok ds ρ) (hn : ds.length + 1 = n) (hf : f (.own (.ins c ns es) :: ds.map .val) = .ok a (.own l' :: ρ')) :
    mSup c n f ms ρ = .ok a (ρ.set 0 (.own l')) := by
  unfold mSup
  rw [h0]
  show (if c = c then mFnO n f 0 ms ρ else .no) = _
  rw [if_pos rfl]
  exact fnO_ok h0 h h0 hn hf
theorem drop_nx {m : M} {ρ ρ1 : En} {a : RV} (h : m ρ = .ok a ρ1) : mDrop m ρ = .nx ρ1 := by unfold mDrop; rw [h]; rfl
theorem init_C {w : List Nat} {n : Nat} (hw : WOk w) (hn : n < 10 ^ 500) : ∃ ρ', v_init_Constant [.own (.ins "Constant" [] []), .val (.str (S w)), .val (.int n)] = .ok (.val .non) (.own (.ins "Constant" T.fldC [.lst [], .str (S (T.of w n).txt), .int 1, .int 1, .str (S w), .int n]) :: ρ') := by
  have hl : w.length ≤ 8 := hw.l.2
  have hl2 := numL_len (k := 500) (by decide) hn
  obtain ⟨r1, e1⟩ := is_name_ok (w := w) (by show _ ≤ 1000000; omega)
  rw [decide_eq_true hw] at e1
  obtain ⟨r2, e2⟩ := einit_ok (c := "Constant") (ts := []) (p := .lst []) (z := S (T.of w n).txt) rfl (by decide)
  refine ⟨[.val (.str (S w)), .val (.int n)], (lenF_ok rfl).trans <| run_nx (n := 3) (N := 4) (m := m_init_Constant) (args := [.own (.ins "Constant" [] []), .val (.str (S w)), .val (.int n)]) (ρ' := [.own (.ins "Constant" T.fldC [.lst [], .str (S (T.of w n).txt), .int 1, .int 1, .str (S w), .int n]), .val (.str (S w)), .val (.int n), .emp]) ?_⟩
  unfold m_init_Constant
  refine (seq_nx (ρ1 := [.own (.ins "Constant" [] []), .val (.str (S w)), .val (.int n), .emp]) ((if_f (not_tt (tv_b (fn_ok (cons_ok (var_ok rfl) nil_ok) rfl e1)))).trans rfl)).trans ?_
  refine (seq_nx (ρ1 := [.own (.ins "Constant" [] []), .val (.str (S w)), .val (.int n), .emp]) ((if_f (not_tt (tv_b (fn_ok (cons_ok (var_ok rfl) nil_ok) rfl (is_count_ok n))))).trans rfl)).trans ?_
  have hj : mJ [mUn gFmt (mVar 1), mC (.str ":"), mUn gFmt (mVar 2)] [.own (.ins "Constant" [] []), .val (.str (S w)), .val (.int n), .emp] = .ok (.val (.str (S (T.of w n).txt))) [.own (.ins "Constant" [] []), .val (.str (S w)), .val (.int n), .emp] := by
    unfold mJ
    have z0 : Str.empty ++ S w = S w := by
      refine TL.ext_tl ?_
      rw [tl_append]
      rfl
    have z1 : S w ++ (":" : Str) = S (w ++ [58]) := by
      refine TL.ext_tl ?_
      rw [tl_append]
      rfl
    refine (js_cons (a := .val (.str (S w))) (un_ok (var_ok rfl) (fmt_str (by show _ ≤ 1000000; omega))) rfl (by rw [z0, S_len']; show _ ≤ 1000000; omega)).trans ?_
    rw [z0]
    refine (js_cons (a := .val (.str ":")) c_ok rfl (by rw [z1, S_len', List.length_append]; show _ + 1 ≤ 1000000; omega)).trans ?_
    rw [z1]
    refine (js_cons (a := .val (.str (S (numL n)))) (un_ok (var_ok rfl) (fmt_int hn)) rfl (by rw [S_app, S_len', List.length_append, List.length_append]; show _ + 1 + _ ≤ 1000000; omega)).trans ?_
    rw [S_app, mJs]
    show Res.ok (RV.val (.str (S (w ++ [58] ++ numL n)))) _ = Res.ok (RV.val (.str (S (w ++ (58 :: numL n))))) _
    rw [List.append_assoc]
    rfl
  refine (seq_nx (drop_nx (sup_ok rfl (cons_ok (a := .fr (.lst [])) (lst_ok nil_ok (by decide)) (cons_ok hj nil_ok)) rfl e2))).trans ?_
  refine (seq_nx (setF_ok (var_ok rfl) rfl (by decide))).trans ?_
  exact Eq.trans (setF_ok (c := "Constant") (f := "own_number") (i := 0) (var_ok rfl) rfl (by decide)) rfl
theorem add_str {a b : List Nat} (h : a.length + b.length ≤ 1000000) : gAdd (.str (S a)) (.str (S b)) = some (.val (.str (S (a ++ b)))) := by
  show (if (S a).length + (S b).length ≤ top1 then vs (S a ++ S b) else none) = _
  rw [S_len', S_len', if_pos h, S_app]
theorem ob_isE (t : T) : gIsE t.ob = some (.val (.bl true)) := by cases t <;> rfl
theorem lc_obs {i : Nat} {me : M} {k : T → D} {ρ0 : En} (h : ∀ t : T, ∃ a ρ2, me (ρ0.set i (.val t.ob)) = .ok a ρ2 ∧ ρ2.set i .emp = ρ0 ∧ a.d = k t) : ∀ (ts : List T) (acc : List D), lcGo i .emp mtYes me (ts.map T.ob) acc ρ0 = .ok (.fr (.lst (acc ++ ts.map k))) ρ0
  | [], acc => by rw [List.map_nil, List.map_nil, List.append_nil]; rfl
  | t :: r, acc => by
    obtain ⟨a, ρ2, h2, h3, h4⟩ := h t
    rw [List.map_cons, lcGo]; unfold mtYes; dsimp only; rw [h2]; dsimp only
    rw [h3, h4]
    have z := lc_obs h r (acc ++ [k t])
    unfold mtYes at z
    rw [z, List.map_cons, List.append_assoc]
    rfl
theorem lc_obsP {i : Nat} {me : M} {k : T → D} {ρ0 : En} : ∀ (ts : List T) (acc : List D), (∀ t ∈ ts, ∃ a ρ2, me (ρ0.set i (.val t.ob)) = .ok a ρ2 ∧ ρ2.set i .emp = ρ0 ∧ a.d = k t) → lcGo i .emp mtYes me (ts.map T.ob) acc ρ0 = .ok (.fr (.lst (acc ++ ts.map k))) ρ0
  | [], acc, _ => by rw [List.map_nil, List.map_nil, List.append_nil]; rfl
  | t :: r, acc, h => by
    obtain ⟨a, ρ2, h2, h3, h4⟩ := h t List.mem_cons_self
    rw [List.map_cons, lcGo]; unfold mtYes; dsimp only; rw [h2]; dsimp only
    rw [h3, h4]
    have z := lc_obsP r (acc ++ [k t]) fun x hx => h x (List.mem_cons_of_mem _ hx)
    unfold mtYes at z
    rw [z, List.map_cons, List.append_assoc]
    rfl
theorem bools_ok : ∀ bs : List Bool, mapAll D.bl? (bs.map .bl) = some bs
  | [] => rfl
  | n :: r => by rw [List.map_cons, mapAll, bools_ok r]; rfl
theorem strs_ok : ∀ xs : List Str, mapAll D.str? (xs.map .str) = some xs
  | [] => rfl
  | n :: r => by rw [List.map_cons, mapAll, strs_ok r]; rfl
/-- what an application's text is -/
def appT (w : List Nat) (ts : List T) : List Nat := w ++ (40 :: (joinL [44] (ts.map T.txt) ++ [41]))
def tD (t : T) : D := .str (S t.txt)
theorem comma_S : ("," : Str) = S [44] := rfl
theorem join_txt {ts : List T} (h : ts.length ≤ 2) (hl : ∀ t ∈ ts, t.txt.length ≤ 100000) : gJoin (.str ",") [.lst (ts.map tD)] = some (.val (.str (S (joinL [44] (ts.map T.txt))))) ∧ (joinL [44] (ts.map T.txt)).length ≤ 300000 := by
  have e : gJoin (.str ",") [.lst (ts.map tD)] = joinS "," (ts.map fun t => S t.txt) := by
    show (mapAll D.str? (ts.map tD)).bind (joinS ",") = _
    rw [show (ts.map tD) = (ts.map fun t => S t.txt).map .str from by rw [List.map_map]; rfl, strs_ok]
    rfl
  have j : Txt.join "," (ts.map fun t => S t.txt) = S (joinL [44] (ts.map T.txt)) := by
    rw [join_eq]
    refine TL.ext_tl ?_
    rw [tl_join, List.map_map]
    rfl
  rw [e]
  unfold joinS
  match ts, h, hl, j with
  | [], _, _, j => exact ⟨by rw [if_pos (by decide), j], by decide⟩
  | [t], _, hl, j =>
    have h1 := hl t List.mem_cons_self
    refine ⟨?_, by show t.txt.length ≤ _; omega⟩
    rw [j, if_pos]
    show (S t.txt).length + 0 + 1 * 1 ≤ 1000000
    rw [S_len']; omega
  | [t, u], _, hl, j =>
    have h1 := hl t List.mem_cons_self
    have h2 := hl u (List.mem_cons_of_mem _ List.mem_cons_self)
    refine ⟨?_, ?_⟩
    · rw [j, if_pos]
      show (S t.txt).length + ((S u.txt).length + 0) + 2 * 1 ≤ 1000000
      rw [S_len', S_len']; omega
    · show (t.txt ++ ([44] ++ u.txt)).length ≤ _
      simp only [List.length_append, List.length_cons, List.length_nil]; omega
def sumS (ts : List T) : Int := (ts.map fun t => (t.size : Int)).sum
def maxS (ts : List T) : Int := maxD0 (ts.map fun t => (t.deep : Int))
theorem init_A {w : List Nat} {ts : List T} (hw : WOk w) (h1 : 1 ≤ ts.length ∧ ts.length ≤ 2) (ho : ∀ t ∈ ts, t.Ok' ∧ t.size ≤ 60) :
    (1 + sumS ts ≤ 60 → ∃ ρ', v_init_Application (.own (.ins "Application" [] []) :: .val (.str (S w)) :: (ts.map T.ob).map .val) = .ok (.val .non) (.own (.ins "Application" T.fldA [.lst (ts.map T.ob), .str (S (appT w ts)), .int (1 + sumS ts), .int (1 + maxS ts), .str (S w)]) :: ρ')) ∧
    (60 < 1 + sumS ts → ∃ oc ρ', v_init_Application (.own (.ins "Application" [] []) :: .val (.str (S w)) :: (ts.map T.ob).map .val) = .er ⟨"InvalidExpression", ["value"], [.tup (ts.map T.ob)]⟩ (.own oc :: ρ')) := by
  have hl : w.length ≤ 8 := hw.l.2
  have htl : ∀ t ∈ ts, t.txt.length ≤ 100000 := fun t ht => by
    have := T.txt_len (ho t ht).1
    have := (ho t ht).2
    omega
  obtain ⟨j1, j2⟩ := join_txt h1.2 htl
  obtain ⟨r1, e1⟩ := is_name_ok (w := w) (by show _ ≤ 1000000; omega)
  rw [decide_eq_true hw] at e1
  obtain ⟨r2, e2⟩ := einit_ok (c := "Application") (ts := ts) (p := .tup (ts.map T.ob)) (z := S (appT w ts)) rfl h1.2
  have vals : ∀ ds : List D, valsOf (ds.map .val) = some ds := fun ds => by
    induction ds with
    | nil => rfl
    | cons d r ih => rw [List.map_cons, valsOf, ih]; rfl
  have hst : ∀ (m : MS), starF 2 (runB 3 5 m) (.own (.ins "Application" [] []) :: .val (.str (S w)) :: (ts.map T.ob).map .val) = (match runB 3 5 m [.own (.ins "Application" [] []), .val (.str (S w)), .val (.tup (ts.map T.ob))] with
      | .ok a ρ' => .ok a (ρ'.take 2 ++ (ts.map T.ob).map .val)
      | .er x ρ' => .er x (ρ'.take 2 ++ (ts.map T.ob).map .val)
      | .no => .no) := fun m => by
    unfold starF
    rw [show (Sl.own (.ins "Application" [] []) :: .val (.str (S w)) :: (ts.map T.ob).map .val).drop 2 = (ts.map T.ob).map .val from rfl, vals]
    dsimp only
    rw [if_pos ⟨by simp, by rw [List.length_map]; show _ ≤ 1000000; omega⟩]
    rfl
  -- the body ahead of the size's test
  have body : ∀ {o : Out}, (mIf (mtV (mOp gGt (mFldO "Application" "own_size" 0) (mC (.int 60)))) (mRaise "InvalidExpression" "value" (mVar 2)) mNext |> fun m => mSeq m (mSetF "Application" "own_operator" 0 (mVar 1))) [.own (.ins "Application" ["own_parts", "own_text", "own_size", "own_depth"] [.lst (ts.map T.ob), .str (S (appT w ts)), .int (1 + sumS ts), .int (1 + maxS ts)]), .val (.str (S w)), .val (.tup (ts.map T.ob)), .emp, .emp] = o →
      m_init_Application [.own (.ins "Application" [] []), .val (.str (S w)), .val (.tup (ts.map T.ob)), .emp, .emp] = o := fun {o} ho => by
    unfold m_init_Application
    refine (seq_nx (ρ1 := [.own (.ins "Application" [] []), .val (.str (S w)), .val (.tup (ts.map T.ob)), .emp, .emp]) ((if_f (not_tt (tv_b (fn_ok (cons_ok (var_ok rfl) nil_ok) rfl e1)))).trans rfl)).trans ?_
    have t1 : mtNot (mtV (mChain gLe gLe (mC (.int 1)) (mB gLen (mCons (mVar 2) mNil)) (mC (.int 2)))) [.own (.ins "Application" [] []), .val (.str (S w)), .val (.tup (ts.map T.ob)), .emp, .emp] = .ok false [.own (.ins "Application" [] []), .val (.str (S w)), .val (.tup (ts.map T.ob)), .emp, .emp] :=
      not_tt (tv_b (chain_t c_ok (b_ok (r := .val (.int (ts.map T.ob).length)) (cons_ok (var_ok rfl) nil_ok) rfl) (iff_t le_int (by rw [List.length_map]; omega)) c_ok (iff_t le_int (by rw [List.length_map]; omega))))
    have t2 : mtNot (mtV (mB gAll (mCons (mLc (miT (mVar 2)) 4 mtYes (mUn gIsE (mVar 4))) mNil))) [.own (.ins "Application" [] []), .val (.str (S w)), .val (.tup (ts.map T.ob)), .emp, .emp] = .ok false [.own (.ins "Application" [] []), .val (.str (S w)), .val (.tup (ts.map T.ob)), .emp, .emp] := by
      refine not_tt (tv_b (b_ok (ds := [.lst ((ts.map fun _ => true).map .bl)]) (cons_ok (a := .fr (.lst ((ts.map fun _ => true).map .bl))) (ρ1 := [.own (.ins "Application" [] []), .val (.str (S w)), .val (.tup (ts.map T.ob)), .emp, .emp]) ?_ nil_ok) ?_))
      · rw [mLc_run (ds := ts.map T.ob) (o := .emp) (ρ1 := [.own (.ins "Application" [] []), .val (.str (S w)), .val (.tup (ts.map T.ob)), .emp, .emp]) (by unfold miT; rw [var_ok rfl]; rfl) rfl rfl (by rw [List.length_map]; show _ ≤ 1000000; omega)]
        refine (lc_obs (k := fun _ => .bl true) (fun t => ⟨_, _, un_ok (var_ok rfl) (ob_isE t), rfl, rfl⟩) ts []).trans ?_
        rw [List.nil_append, List.map_map]
        rfl
      · show (mapAll D.bl? ((ts.map fun _ => true).map .bl)).bind _ = _
        rw [bools_ok]
        show some (RV.val (.bl _)) = _
        congr 3
        rw [List.all_eq_true]
        intro x hx
        obtain ⟨t, _, rfl⟩ := List.mem_map.mp hx
        rfl
    refine (seq_nx (ρ1 := [.own (.ins "Application" [] []), .val (.str (S w)), .val (.tup (ts.map T.ob)), .emp, .emp]) ((if_f ((or_f t1).trans t2)).trans rfl)).trans ?_
    have hj : mOp gAdd (mOp gAdd (mOp gAdd (mVar 1) (mC (.str "("))) (mMt "str" gJoin (mC (.str ",")) (mCons (mLc (miT (mVar 2)) 4 mtYes (mB (gStrO cls v_Expression___str__) (mCons (mVar 4) mNil))) mNil))) (mC (.str ")")) [.own (.ins "Application" [] []), .val (.str (S w)), .val (.tup (ts.map T.ob)), .emp, .emp] = .ok (.val (.str (S (appT w ts)))) [.own (.ins "Application" [] []), .val (.str (S w)), .val (.tup (ts.map T.ob)), .emp, .emp] := by
      have lc : mLc (miT (mVar 2)) 4 mtYes (mB (gStrO cls v_Expression___str__) (mCons (mVar 4) mNil)) [.own (.ins "Application" [] []), .val (.str (S w)), .val (.tup (ts.map T.ob)), .emp, .emp] = .ok (.fr (.lst (ts.map tD))) [.own (.ins "Application" [] []), .val (.str (S w)), .val (.tup (ts.map T.ob)), .emp, .emp] := by
        rw [mLc_run (ds := ts.map T.ob) (o := .emp) (ρ1 := [.own (.ins "Application" [] []), .val (.str (S w)), .val (.tup (ts.map T.ob)), .emp, .emp]) (by unfold miT; rw [var_ok rfl]; rfl) rfl rfl (by rw [List.length_map]; show _ ≤ 1000000; omega)]
        refine (lc_obsP (k := tD) ts [] fun t ht => ⟨.val (.str (S t.txt)), _, b_ok (ds := [t.ob]) (cons_ok (var_ok rfl) nil_ok) ?_, rfl, rfl⟩).trans rfl
        obtain ⟨c, ns, ds, eo, hc, _⟩ := ob_obj t
        have hs := str_ok' (t := t) (by have := htl t ht; show _ ≤ 1000000; omega)
        rw [eo] at hs ⊢
        show (if cls.contains c = true then (ownTxt v_Expression___str__ (.obj c ns ds)).map fun z => RV.val (.str z) else none) = _
        rw [if_pos hc]
        unfold ownTxt
        rw [hs]
        rfl
      have p1 : gAdd (.str (S w)) (.str "(") = some (.val (.str (S (w ++ [40])))) := add_str (b := [40]) (by show _ + 1 ≤ _; omega)
      have p2 : gAdd (.str (S (w ++ [40]))) (.str (S (joinL [44] (ts.map T.txt)))) = some (.val (.str (S ((w ++ [40]) ++ joinL [44] (ts.map T.txt))))) := add_str (by rw [List.length_append]; show _ + 1 + _ ≤ _; omega)
      have p3 : gAdd (.str (S ((w ++ [40]) ++ joinL [44] (ts.map T.txt)))) (.str ")") = some (.val (.str (S (appT w ts)))) := by
        refine (add_str (b := [41]) (by rw [List.length_append, List.length_append]; show _ + 1 + _ + 1 ≤ _; omega)).trans ?_
        unfold appT
        rw [List.append_assoc, List.append_assoc]
        rfl
      exact op_ok (op_ok (op_ok (var_ok rfl) c_ok p1) (mt_ok (ds := [.lst (ts.map tD)]) c_ok rfl (cons_ok (a := .fr (.lst (ts.map tD))) lc nil_ok) j1) p2) c_ok p3
    refine (seq_nx (drop_nx (sup_ok rfl (cons_ok (var_ok rfl) (cons_ok hj nil_ok)) rfl e2))).trans ho
  refine ⟨fun hs => ?_, fun hs => ?_⟩
  · have b := body (o := .nx [.own (.ins "Application" T.fldA [.lst (ts.map T.ob), .str (S (appT w ts)), .int (1 + sumS ts), .int (1 + maxS ts), .str (S w)]), .val (.str (S w)), .val (.tup (ts.map T.ob)), .emp, .emp]) (by
      refine (seq_nx ((if_f (tv_b (op_ok (fldO_ok rfl rfl) c_ok (iff_f gt_int (by omega))))).trans rfl)).trans ?_
      exact Eq.trans (setF_ok (c := "Application") (f := "own_operator") (i := 0) (var_ok rfl) rfl (by decide)) rfl)
    refine ⟨.val (.str (S w)) :: (ts.map T.ob).map .val, ?_⟩
    unfold v_init_Application
    rw [hst, run_nx (n := 3) (N := 5) (m := m_init_Application) (args := [.own (.ins "Application" [] []), .val (.str (S w)), .val (.tup (ts.map T.ob))]) b]
    rfl
  · have b := body (o := .er ⟨"InvalidExpression", ["value"], [.tup (ts.map T.ob)]⟩ [.own (.ins "Application" ["own_parts", "own_text", "own_size", "own_depth"] [.lst (ts.map T.ob), .str (S (appT w ts)), .int (1 + sumS ts), .int (1 + maxS ts)]), .val (.str (S w)), .val (.tup (ts.map T.ob)), .emp, .emp]) (by
      exact seq_er ((if_t (tv_b (op_ok (fldO_ok rfl rfl) c_ok (iff_t gt_int (by omega))))).trans rfl))
    refine ⟨.ins "Application" ["own_parts", "own_text", "own_size", "own_depth"] [.lst (ts.map T.ob), .str (S (appT w ts)), .int (1 + sumS ts), .int (1 + maxS ts)], .val (.str (S w)) :: (ts.map T.ob).map .val, ?_⟩
    unfold v_init_Application
    rw [hst, run_er (n := 3) (N := 5) (m := m_init_Application) (args := [.own (.ins "Application" [] []), .val (.str (S w)), .val (.tup (ts.map T.ob))]) b]
    rfl
end K84
end
section
set_option Elab.async false
set_option linter.all false
set_option maxRecDepth 100000
set_option maxHeartbeats 4000000
/-! the plain law: expressions, their texts, sizes, depths -/
namespace K84
open PySem PySem.Spec PyProof.Rows L2 PD NdefX ClX StX SX TL
def T.app (w : List Nat) : List T → T
  | [t] => .a1 w t
  | [t, u] => .a2 w t u
  | _ => .of w 0
theorem two {α : Type} {ts : List α} (h : 1 ≤ ts.length ∧ ts.length ≤ 2) : (∃ t, ts = [t]) ∨ ∃ t u, ts = [t, u] := by
  match ts, h with
  | [t], _ => exact .inl ⟨t, rfl⟩
  | [t, u], _ => exact .inr ⟨t, u, rfl⟩
  | _ :: _ :: _ :: _, h => simp at h
  | [], h => simp at h
theorem app_size {w : List Nat} {ts : List T} (h : 1 ≤ ts.length ∧ ts.length ≤ 2) : ((T.app w ts).size : Int) = 1 + sumS ts := by
  rcases two h with ⟨t, rfl⟩ | ⟨t, u, rfl⟩
  · show ((1 + t.size : Nat) : Int) = 1 + ((t.size : Int) + 0); omega
  · show ((1 + (t.size + u.size) : Nat) : Int) = 1 + ((t.size : Int) + ((u.size : Int) + 0)); omega
theorem app_deep {w : List Nat} {ts : List T} (h : 1 ≤ ts.length ∧ ts.length ≤ 2) : ((T.app w ts).deep : Int) = 1 + maxS ts := by
  rcases two h with ⟨t, rfl⟩ | ⟨t, u, rfl⟩
  · show ((1 + t.deep : Nat) : Int) = 1 + (t.deep : Int); omega
  · show ((1 + max t.deep u.deep : Nat) : Int) = 1 + (if (u.deep : Int) > (t.deep : Int) then (u.deep : Int) else (t.deep : Int))
    split <;> omega
theorem app_txt {w : List Nat} {ts : List T} (h : 1 ≤ ts.length ∧ ts.length ≤ 2) : (T.app w ts).txt = appT w ts := by
  rcases two h with ⟨t, rfl⟩ | ⟨t, u, rfl⟩
  · rfl
  · show w ++ (40 :: (t.txt ++ (44 :: (u.txt ++ [41])))) = w ++ (40 :: ((t.txt ++ ([44] ++ u.txt)) ++ [41]))
    simp
theorem app_d {w : List Nat} {ts : List T} (h : 1 ≤ ts.length ∧ ts.length ≤ 2) : (T.app w ts).d = .tup [.str "do", .str (S w), .tup (ts.map T.d)] := by
  rcases two h with ⟨t, rfl⟩ | ⟨t, u, rfl⟩ <;> rfl
theorem app_ob {w : List Nat} {ts : List T} (h : 1 ≤ ts.length ∧ ts.length ≤ 2) : (T.app w ts).ob = .obj "Application" T.fldA [.lst (ts.map T.ob), .str (S (appT w ts)), .int (1 + sumS ts), .int (1 + maxS ts), .str (S w)] := by
  have e1 := app_size (w := w) h
  have e2 := app_deep (w := w) h
  have e3 := app_txt (w := w) h
  rw [← e1, ← e2, ← e3]
  rcases two h with ⟨t, rfl⟩ | ⟨t, u, rfl⟩ <;> rfl
theorem mkC {ms : MA} {ρ ρ1 : En} {w : List Nat} {n : Nat} (hw : WOk w) (hn : n < 10 ^ 500) (h : ms ρ = .ok [.str (S w), .int n] ρ1) : ∃ oc : OC, oc.d = (T.of w n).ob ∧ mMk "Constant" v_init_Constant ms ρ = .ok (.fr oc) ρ1 := by
  obtain ⟨ρ', e⟩ := init_C hw hn
  refine ⟨.ins "Constant" T.fldC [.lst [], .str (S (T.of w n).txt), .int 1, .int 1, .str (S w), .int n], rfl, ?_⟩
  unfold mMk
  rw [h]
  show (match v_init_Constant [.own (.ins "Constant" [] []), .val (.str (S w)), .val (.int n)] with
      | .ok (.val .non) (.own l :: _) => Res.ok (RV.fr l) ρ1
      | .er x (.own _ :: _) => .er x ρ1
      | _ => .no) = _
  rw [e]
theorem mkA {ms : MA} {ρ ρ1 : En} {w : List Nat} {ts : List T} (hw : WOk w) (h1 : 1 ≤ ts.length ∧ ts.length ≤ 2) (ho : ∀ t ∈ ts, t.Ok' ∧ t.size ≤ 60) (hs : (T.app w ts).size ≤ 60) (h : ms ρ = .ok (.str (S w) :: ts.map T.ob) ρ1) :
    ∃ oc : OC, oc.d = (T.app w ts).ob ∧ mMk "Application" v_init_Application ms ρ = .ok (.fr oc) ρ1 := by
  obtain ⟨ρ', e⟩ := (init_A hw h1 ho).1 (by rw [← app_size (w := w) h1]; omega)
  refine ⟨.ins "Application" T.fldA [.lst (ts.map T.ob), .str (S (appT w ts)), .int (1 + sumS ts), .int (1 + maxS ts), .str (S w)], (app_ob h1).symm, ?_⟩
  unfold mMk
  rw [h]
  show (match v_init_Application (.own (.ins "Application" [] []) :: .val (.str (S w)) :: (ts.map T.ob).map .val) with
      | .ok (.val .non) (.own l :: _) => Res.ok (RV.fr l) ρ1
      | .er x (.own _ :: _) => .er x ρ1
      | _ => .no) = _
  rw [e]
theorem mkA_er {ms : MA} {ρ ρ1 : En} {w : List Nat} {ts : List T} (hw : WOk w) (h1 : 1 ≤ ts.length ∧ ts.length ≤ 2) (ho : ∀ t ∈ ts, t.Ok' ∧ t.size ≤ 60) (hs : 60 < (T.app w ts).size) (h : ms ρ = .ok (.str (S w) :: ts.map T.ob) ρ1) :
    mMk "Application" v_init_Application ms ρ = .er ⟨"InvalidExpression", ["value"], [.tup (ts.map T.ob)]⟩ ρ1 := by
  obtain ⟨oc, ρ', e⟩ := (init_A hw h1 ho).2 (by rw [← app_size (w := w) h1]; omega)
  unfold mMk
  rw [h]
  show (match v_init_Application (.own (.ins "Application" [] []) :: .val (.str (S w)) :: (ts.map T.ob).map .val) with
      | .ok (.val .non) (.own l :: _) => Res.ok (RV.fr l) ρ1
      | .er x (.own _ :: _) => .er x ρ1
      | _ => .no) = _
  rw [e]
theorem lc_ts {f k : T → D} {i : Nat} {me : M} {ρ0 : En} : ∀ (ts : List T) (acc : List D), (∀ t ∈ ts, ∃ a ρ2, me (ρ0.set i (.val (f t))) = .ok a ρ2 ∧ ρ2.set i .emp = ρ0 ∧ a.d = k t) → lcGo i .emp mtYes me (ts.map f) acc ρ0 = .ok (.fr (.lst (acc ++ ts.map k))) ρ0
  | [], acc, _ => by rw [List.map_nil, List.map_nil, List.append_nil]; rfl
  | t :: r, acc, h => by
    obtain ⟨a, ρ2, h2, h3, h4⟩ := h t List.mem_cons_self
    rw [List.map_cons, lcGo]; unfold mtYes; dsimp only; rw [h2]; dsimp only
    rw [h3, h4]
    have z := lc_ts r (acc ++ [k t]) fun x hx => h x (List.mem_cons_of_mem _ hx)
    unfold mtYes at z
    rw [z, List.map_cons, List.append_assoc]
    rfl
/-- the tree is a leaf, an application -/
theorem isOf_t {w : List Nat} {n : Nat} {ρ : En} (h : ρ[0]? = some (.val (T.of w n).d)) : mtV (mOp gEq (mOp gIx (mVar 0) (mC (.int 0))) (mC (.str "of"))) ρ = .ok true ρ := tv_b (op_ok (op_ok (r := .val (.str "of")) (var_ok h) c_ok rfl) c_ok rfl)
theorem isOf_f {w : List Nat} {ts : List T} {ρ : En} (h : ρ[0]? = some (.val (.tup [.str "do", .str (S w), .tup (ts.map T.d)]))) : mtV (mOp gEq (mOp gIx (mVar 0) (mC (.int 0))) (mC (.str "of"))) ρ = .ok false ρ := tv_b (op_ok (op_ok (r := .val (.str "do")) (var_ok h) c_ok rfl) c_ok rfl)
theorem parts_lc {v : En → Res RV} {k : T → D} {w : List Nat} {ts : List T} {i : Nat} {ρ : En} (h0 : ρ[0]? = some (.val (.tup [.str "do", .str (S w), .tup (ts.map T.d)]))) (hi : ρ[i]? = some .emp) (hn : i < ρ.length) (hl : ts.length ≤ 2) (hv : ∀ t ∈ ts, ∃ a ρ', v [.val t.d] = .ok a ρ' ∧ a.d = k t) :
    mLc (miT (mOp gIx (mVar 0) (mC (.int 2)))) i mtYes (mFn 1 v (mCons (mVar i) mNil)) ρ = .ok (.fr (.lst (ts.map k))) ρ := by
  rw [mLc_run (ds := ts.map T.d) (o := .emp) (ρ1 := ρ) (by unfold miT; rw [op_ok (r := .val (.tup (ts.map T.d))) (var_ok h0) c_ok rfl]; rfl) hi rfl (by rw [List.length_map]; show _ ≤ 1000000; omega)]
  refine (lc_ts (f := T.d) (k := k) ts [] fun t ht => ?_).trans (by rw [List.nil_append])
  obtain ⟨a, ρ', h1, h2⟩ := hv t ht
  refine ⟨a, ρ.set i (.val t.d), fn_ok (ds := [t.d]) (cons_ok (var_ok (List.getElem?_set_self hn)) nil_ok) rfl h1, ?_, h2⟩
  rw [List.set_set]
  refine List.ext_getElem? fun j => ?_
  rw [List.getElem?_set]
  split
  · rename_i c; subst c; first | rw [if_pos hn, hi] | rw [hi]
  · rfl
theorem ob_rec {p : T → Prop} (h1 : ∀ w n, p (.of w n)) (h2 : ∀ w ts, 1 ≤ ts.length ∧ ts.length ≤ 2 → (∀ t ∈ ts, p t) → p (T.app w ts)) : ∀ t, p t
  | .of w n => h1 w n
  | .a1 w t => h2 w [t] ⟨by show 1 ≤ 1; decide, by show 1 ≤ 2; decide⟩ fun x hx => by rw [List.mem_singleton.mp hx]; exact ob_rec h1 h2 t
  | .a2 w t u => h2 w [t, u] ⟨by show 1 ≤ 2; decide, by show 2 ≤ 2; decide⟩ fun x hx => by
    rcases List.mem_cons.mp hx with e | e
    · rw [e]; exact ob_rec h1 h2 t
    · rw [List.mem_singleton.mp e]; exact ob_rec h1 h2 u
theorem app_ok' {w : List Nat} {ts : List T} (h : 1 ≤ ts.length ∧ ts.length ≤ 2) : (T.app w ts).Ok' ↔ WOk w ∧ ∀ t ∈ ts, t.Ok' := by
  rcases two h with ⟨t, rfl⟩ | ⟨t, u, rfl⟩
  · exact ⟨fun z => ⟨z.1, fun x hx => by rw [List.mem_singleton.mp hx]; exact z.2⟩, fun z => ⟨z.1, z.2 t List.mem_cons_self⟩⟩
  · exact ⟨fun z => ⟨z.1, fun x hx => by
      rcases List.mem_cons.mp hx with e | e
      · rw [e]; exact z.2.1
      · rw [List.mem_singleton.mp e]; exact z.2.2⟩, fun z => ⟨z.1, z.2 t List.mem_cons_self, z.2 u (List.mem_cons_of_mem _ List.mem_cons_self)⟩⟩
theorem app_lt {w : List Nat} {ts : List T} (h : 1 ≤ ts.length ∧ ts.length ≤ 2) : ∀ t ∈ ts, t.size < (T.app w ts).size ∧ t.deep < (T.app w ts).deep := by
  rcases two h with ⟨t, rfl⟩ | ⟨t, u, rfl⟩
  · intro x hx
    rw [List.mem_singleton.mp hx]
    exact ⟨by show t.size < 1 + t.size; omega, by show t.deep < 1 + t.deep; omega⟩
  · intro x hx
    have := T.size_pos t
    have := T.size_pos u
    rcases List.mem_cons.mp hx with e | e
    · rw [e]
      exact ⟨by show t.size < 1 + (t.size + u.size); omega, by show t.deep < 1 + max t.deep u.deep; omega⟩
    · rw [List.mem_singleton.mp e]
      exact ⟨by show u.size < 1 + (t.size + u.size); omega, by show u.deep < 1 + max t.deep u.deep; omega⟩
theorem written_ok : ∀ (t : T) (fuel : Nat), t.Ok' → t.size ≤ 190 → t.deep ≤ fuel → ∃ ρ', v__law_written fuel [.val t.d] = .ok (.val (.str (S t.txt))) ρ' := by
  refine ob_rec (fun w n fuel h hs hd => ?_) (fun w ts hl ih fuel h hs hd => ?_)
  · cases fuel with
    | zero => exact absurd hd (by show ¬ 1 ≤ 0; omega)
    | succ fuel =>
      have h1 := h.1.l.2
      have h2 := numL_len (k := 500) (by decide) h.2
      have p1 : gAdd (.str (S w)) (.str ":") = some (.val (.str (S (w ++ [58])))) := add_str (b := [58]) (by show _ + 1 ≤ _; omega)
      have p2 : gAdd (.str (S (w ++ [58]))) (.str (S (numL n))) = some (.val (.str (S ((w ++ [58]) ++ numL n)))) := add_str (by rw [List.length_append]; show _ + 1 + _ ≤ _; omega)
      have p3 : gStr [.int n] = some (.val (.str (S (numL n)))) := by
        show (if (n : Int).natAbs.log2 < 1920 then vs (Str.ofString (toString (n : Int))) else none) = _
        rw [if_pos (by rw [Int.natAbs_natCast]; exact log500 h.2), num_S]
      refine ⟨[.val (T.of w n).d], (run_rt (n := 1) (N := 2) (m := m__law_written (v__law_written fuel)) (args := [.val (T.of w n).d]) (ρ' := [.val (T.of w n).d, .emp]) (seq_rt ((if_t (isOf_t rfl)).trans (ret_rt (op_ok (op_ok (op_ok (r := .val (.str (S w))) (var_ok rfl) c_ok rfl) c_ok p1) (b_ok (ds := [.int n]) (cons_ok (op_ok (r := .val (.int n)) (var_ok rfl) c_ok rfl) nil_ok) p3) p2))))).trans ?_⟩
      show Res.ok (RV.val (.str (S (w ++ [58] ++ numL n)))) _ = Res.ok (RV.val (.str (S (w ++ (58 :: numL n))))) _
      rw [List.append_assoc]
      rfl
  · cases fuel with
    | zero => exact absurd hd (by have := app_deep (w := w) hl; have : 0 < (T.app w ts).deep := by rcases two hl with ⟨t, rfl⟩ | ⟨t, u, rfl⟩ <;> (show 0 < 1 + _; omega)
                                  omega)
    | succ fuel =>
      have hO := (app_ok' hl).mp h
      have hlt := app_lt (w := w) hl
      have hw8 := hO.1.l.2
      obtain ⟨j1, j2⟩ := join_txt (ts := ts) hl.2 (fun t ht => by have := T.txt_len (hO.2 t ht); have := (hlt t ht).1; omega)
      rw [app_d hl, app_txt hl]
      have lc := parts_lc (v := v__law_written fuel) (k := tD) (w := w) (ts := ts) (i := 1) (ρ := [.val (.tup [.str "do", .str (S w), .tup (ts.map T.d)]), .emp]) rfl rfl (by show 1 < 2; decide) hl.2 (fun t ht => by
        obtain ⟨ρ', e⟩ := ih t ht fuel (hO.2 t ht) (by have := (hlt t ht).1; omega) (by have := (hlt t ht).2; omega)
        exact ⟨_, ρ', e, rfl⟩)
      have p1 : gAdd (.str (S w)) (.str "(") = some (.val (.str (S (w ++ [40])))) := add_str (b := [40]) (by show _ + 1 ≤ _; omega)
      have p2 : gAdd (.str (S (w ++ [40]))) (.str (S (joinL [44] (ts.map T.txt)))) = some (.val (.str (S ((w ++ [40]) ++ joinL [44] (ts.map T.txt))))) := add_str (by rw [List.length_append]; show _ + 1 + _ ≤ _; omega)
      have p3 : gAdd (.str (S ((w ++ [40]) ++ joinL [44] (ts.map T.txt)))) (.str ")") = some (.val (.str (S (appT w ts)))) := by
        refine (add_str (b := [41]) (by rw [List.length_append, List.length_append]; show _ + 1 + _ + 1 ≤ _; omega)).trans ?_
        unfold appT
        rw [List.append_assoc, List.append_assoc]
        rfl
      exact ⟨_, run_rt (n := 1) (N := 2) (m := m__law_written (v__law_written fuel)) (args := [.val (.tup [.str "do", .str (S w), .tup (ts.map T.d)])]) (ρ' := [.val (.tup [.str "do", .str (S w), .tup (ts.map T.d)]), .emp]) ((seq_nx ((if_f (isOf_f rfl)).trans rfl)).trans (ret_rt (op_ok (op_ok (op_ok (op_ok (r := .val (.str (S w))) (var_ok rfl) c_ok rfl) c_ok p1) (mt_ok (ds := [.lst (ts.map tD)]) c_ok rfl (cons_ok (a := .fr (.lst (ts.map tD))) lc nil_ok) j1) p2) c_ok p3)))⟩
theorem app_pos {w : List Nat} {ts : List T} (h : 1 ≤ ts.length ∧ ts.length ≤ 2) : 0 < (T.app w ts).deep := by
  rcases two h with ⟨t, rfl⟩ | ⟨t, u, rfl⟩ <;> (show 0 < 1 + _; omega)
theorem many_ok : ∀ (t : T) (fuel : Nat), t.deep ≤ fuel → ∃ ρ', v__law_many fuel [.val t.d] = .ok (.val (.int t.size)) ρ' := by
  refine ob_rec (fun w n fuel hd => ?_) (fun w ts hl ih fuel hd => ?_)
  · cases fuel with
    | zero => exact absurd hd (by show ¬ 1 ≤ 0; omega)
    | succ fuel => exact ⟨[.val (T.of w n).d], run_rt (n := 1) (N := 2) (m := m__law_many (v__law_many fuel)) (args := [.val (T.of w n).d]) (ρ' := [.val (T.of w n).d, .emp]) (ret_rt ((ife_t (isOf_t rfl)).trans c_ok))⟩
  · cases fuel with
    | zero => exact absurd hd (by have := app_pos (w := w) hl; omega)
    | succ fuel =>
      have hlt := app_lt (w := w) hl
      rw [app_d hl, app_size hl]
      have lc := parts_lc (v := v__law_many fuel) (k := fun t => .int t.size) (w := w) (ts := ts) (i := 1) (ρ := [.val (.tup [.str "do", .str (S w), .tup (ts.map T.d)]), .emp]) rfl rfl (by show 1 < 2; decide) hl.2 (fun t ht => by
        obtain ⟨ρ', e⟩ := ih t ht fuel (by have := (hlt t ht).2; omega)
        exact ⟨_, ρ', e, rfl⟩)
      have hg : gSum [.lst (ts.map fun t => D.int t.size)] = some (.val (.int (sumS ts))) := by
        show (mapAll D.int? (ts.map fun t => D.int t.size)).bind _ = _
        rw [show (ts.map fun t => D.int (t.size : Int)) = (ts.map fun t => (t.size : Int)).map .int from by rw [List.map_map]; rfl, ints_ok]
        rfl
      exact ⟨_, run_rt (n := 1) (N := 2) (m := m__law_many (v__law_many fuel)) (args := [.val (.tup [.str "do", .str (S w), .tup (ts.map T.d)])]) (ρ' := [.val (.tup [.str "do", .str (S w), .tup (ts.map T.d)]), .emp]) (ret_rt ((ife_f (isOf_f rfl)).trans (op_ok c_ok (b_ok (ds := [.lst (ts.map fun t => D.int t.size)]) (cons_ok (a := .fr (.lst (ts.map fun t => D.int t.size))) lc nil_ok) hg) rfl)))⟩
theorem law_deep_ok : ∀ (t : T) (fuel : Nat), t.deep ≤ fuel → ∃ ρ', v__law_deep fuel [.val t.d] = .ok (.val (.int t.deep)) ρ' := by
  refine ob_rec (fun w n fuel hd => ?_) (fun w ts hl ih fuel hd => ?_)
  · cases fuel with
    | zero => exact absurd hd (by show ¬ 1 ≤ 0; omega)
    | succ fuel => exact ⟨[.val (T.of w n).d], run_rt (n := 1) (N := 2) (m := m__law_deep (v__law_deep fuel)) (args := [.val (T.of w n).d]) (ρ' := [.val (T.of w n).d, .emp]) (ret_rt ((ife_t (isOf_t rfl)).trans c_ok))⟩
  · cases fuel with
    | zero => exact absurd hd (by have := app_pos (w := w) hl; omega)
    | succ fuel =>
      have hlt := app_lt (w := w) hl
      rw [app_d hl, app_deep hl]
      have lc := parts_lc (v := v__law_deep fuel) (k := fun t => .int t.deep) (w := w) (ts := ts) (i := 1) (ρ := [.val (.tup [.str "do", .str (S w), .tup (ts.map T.d)]), .emp]) rfl rfl (by show 1 < 2; decide) hl.2 (fun t ht => by
        obtain ⟨ρ', e⟩ := ih t ht fuel (by have := (hlt t ht).2; omega)
        exact ⟨_, ρ', e, rfl⟩)
      have hg : gMax [.lst (ts.map fun t => D.int t.deep)] = some (.val (.int (maxS ts))) := by
        unfold gMax
        dsimp only
        rw [show (ts.map fun t => D.int (t.deep : Int)) = (ts.map fun t => (t.deep : Int)).map .int from by rw [List.map_map]; rfl, ints_ok]
        rcases two hl with ⟨t, rfl⟩ | ⟨t, u, rfl⟩ <;> rfl
      exact ⟨_, run_rt (n := 1) (N := 2) (m := m__law_deep (v__law_deep fuel)) (args := [.val (.tup [.str "do", .str (S w), .tup (ts.map T.d)])]) (ρ' := [.val (.tup [.str "do", .str (S w), .tup (ts.map T.d)]), .emp]) (ret_rt ((ife_f (isOf_f rfl)).trans (op_ok c_ok (b_ok (ds := [.lst (ts.map fun t => D.int t.deep)]) (cons_ok (a := .fr (.lst (ts.map fun t => D.int t.deep))) lc nil_ok) hg) rfl)))⟩
theorem expr_ok : ∀ (t : T) (fuel : Nat), t.Ok' → t.size ≤ 60 → t.deep ≤ fuel → ∃ (oc : OC) (ρ' : En), oc.d = t.ob ∧ v__law_expression fuel [.val t.d] = .ok (.fr oc) ρ' := by
  refine ob_rec (fun w n fuel h hs hd => ?_) (fun w ts hl ih fuel h hs hd => ?_)
  · cases fuel with
    | zero => exact absurd hd (by show ¬ 1 ≤ 0; omega)
    | succ fuel =>
      obtain ⟨oc, e1, e2⟩ := mkC (ms := mCons (mOp gIx (mVar 0) (mC (.int 1))) (mCons (mOp gIx (mVar 0) (mC (.int 2))) mNil)) (ρ := [.val (T.of w n).d, .emp, .emp]) h.1 h.2 (cons_ok (op_ok (r := .val (.str (S w))) (var_ok rfl) c_ok rfl) (cons_ok (op_ok (r := .val (.int n)) (var_ok rfl) c_ok rfl) nil_ok))
      exact ⟨oc, _, e1, run_rt (n := 1) (N := 3) (m := m__law_expression (v__law_expression fuel)) (args := [.val (T.of w n).d]) (seq_rt ((if_t (isOf_t rfl)).trans (ret_rt e2)))⟩
  · cases fuel with
    | zero => exact absurd hd (by have := app_pos (w := w) hl; omega)
    | succ fuel =>
      have hO := (app_ok' hl).mp h
      have hlt := app_lt (w := w) hl
      have ho : ∀ t ∈ ts, t.Ok' ∧ t.size ≤ 60 := fun t ht => ⟨hO.2 t ht, by have := (hlt t ht).1; omega⟩
      have lc := parts_lc (v := v__law_expression fuel) (k := T.ob) (w := w) (ts := ts) (i := 2) (ρ := [.val (.tup [.str "do", .str (S w), .tup (ts.map T.d)]), .emp, .emp]) rfl rfl (by show 2 < 3; decide) hl.2 (fun t ht => by
        obtain ⟨oc, ρ', e1, e2⟩ := ih t ht fuel (ho t ht).1 (ho t ht).2 (by have := (hlt t ht).2; omega)
        exact ⟨_, ρ', e2, e1⟩)
      have pre : ∀ {r : RV} {ρ' : En}, mRet (mIfE (mtV (mOp gEq (mB gLen (mCons (mVar 1) mNil)) (mC (.int 1)))) (mMk "Application" v_init_Application (mCons (mOp gIx (mVar 0) (mC (.int 1))) (mCons (mOp gIx (mVar 1) (mC (.int 0))) mNil))) (mMk "Application" v_init_Application (mCons (mOp gIx (mVar 0) (mC (.int 1))) (mCons (mOp gIx (mVar 1) (mC (.int 0))) (mCons (mOp gIx (mVar 1) (mC (.int 1))) mNil))))) [.val (.tup [.str "do", .str (S w), .tup (ts.map T.d)]), .val (.lst (ts.map T.ob)), .emp] = .rt r ρ' →
          v__law_expression (fuel + 1) [.val (T.app w ts).d] = .ok r (backP [.val (T.app w ts).d] ρ') := fun {r ρ'} e => by
        rw [app_d hl]
        exact run_rt (n := 1) (N := 3) (m := m__law_expression (v__law_expression fuel)) (args := [.val (.tup [.str "do", .str (S w), .tup (ts.map T.d)])]) ((seq_nx ((if_f (isOf_f rfl)).trans rfl)).trans ((seq_nx (set_nx lc (ρ2 := [.val (.tup [.str "do", .str (S w), .tup (ts.map T.d)]), .val (.lst (ts.map T.ob)), .emp]) rfl)).trans e))
      have hw' : ∀ {ρ : En}, ρ[0]? = some (.val (.tup [.str "do", .str (S w), .tup (ts.map T.d)])) → mOp gIx (mVar 0) (mC (.int 1)) ρ = .ok (.val (.str (S w))) ρ := fun h0 => op_ok (r := .val (.str (S w))) (var_ok h0) c_ok rfl
      rcases two hl with ⟨t, rfl⟩ | ⟨t, u, rfl⟩
      · obtain ⟨oc, e1, e2⟩ := mkA (ms := mCons (mOp gIx (mVar 0) (mC (.int 1))) (mCons (mOp gIx (mVar 1) (mC (.int 0))) mNil)) (ρ := [.val (.tup [.str "do", .str (S w), .tup ([t].map T.d)]), .val (.lst ([t].map T.ob)), .emp]) hO.1 hl ho hs (cons_ok (hw' rfl) (cons_ok (op_ok (r := .val t.ob) (var_ok rfl) c_ok rfl) nil_ok))
        exact ⟨oc, _, e1, pre (ret_rt ((ife_t (tv_b (op_ok (b_ok (r := .val (.int 1)) (cons_ok (var_ok rfl) nil_ok) rfl) c_ok rfl))).trans e2))⟩
      · obtain ⟨oc, e1, e2⟩ := mkA (ms := mCons (mOp gIx (mVar 0) (mC (.int 1))) (mCons (mOp gIx (mVar 1) (mC (.int 0))) (mCons (mOp gIx (mVar 1) (mC (.int 1))) mNil))) (ρ := [.val (.tup [.str "do", .str (S w), .tup ([t, u].map T.d)]), .val (.lst ([t, u].map T.ob)), .emp]) hO.1 hl ho hs (cons_ok (hw' rfl) (cons_ok (op_ok (r := .val t.ob) (var_ok rfl) c_ok rfl) (cons_ok (op_ok (r := .val u.ob) (var_ok rfl) c_ok rfl) nil_ok)))
        exact ⟨oc, _, e1, pre (ret_rt ((ife_f (tv_b (op_ok (b_ok (r := .val (.int 2)) (cons_ok (var_ok rfl) nil_ok) rfl) c_ok rfl))).trans e2))⟩
end K84
end
section
set_option Elab.async false
set_option linter.all false
set_option maxRecDepth 100000
set_option maxHeartbeats 4000000
/-! the plain law: runs of signs, cuts, digits -/
namespace K84
open PySem PySem.Spec PyProof.Rows L2 PD NdefX ClX StX SX TL
theorem wh_run {t : MT} {mb : MS} (E : Nat → En) : ∀ (k i fuel : Nat), (∀ j, i ≤ j → j < i + k → t (E j) = .ok true (E j) ∧ mb (E j) = .nx (E (j + 1))) → t (E (i + k)) = .ok false (E (i + k)) → k < fuel → whGo t mb fuel (E i) = .nx (E (i + k))
  | 0, i, fuel + 1, _, h2, _ => by rw [whGo]; rw [Nat.add_zero] at h2 ⊢; rw [h2]
  | k + 1, i, fuel + 1, h1, h2, h3 => by
    obtain ⟨a, b⟩ := h1 i (Nat.le_refl _) (by omega)
    rw [whGo, a]
    dsimp only
    rw [b]
    dsimp only
    have e : i + (k + 1) = i + 1 + k := by omega
    rw [e] at h2 ⊢
    exact wh_run E k (i + 1) fuel (fun j hj hk => h1 j (by omega) (by omega)) h2 (by omega)
/-- the length of the run of signs of p that begins at i -/
def runN (p : Nat → Bool) (x : List Nat) (i : Nat) : Nat := ((x.drop i).takeWhile p).length
theorem tw_get {p : Nat → Bool} : ∀ {l : List Nat} {j : Nat}, j < (l.takeWhile p).length → ∃ c, l[j]? = some c ∧ p c = true
  | [], j, h => by simp at h
  | c :: r, j, h => by
    rw [List.takeWhile_cons] at h
    by_cases q : p c = true
    · rw [if_pos q] at h
      cases j with
      | zero => exact ⟨c, rfl, q⟩
      | succ j => exact tw_get (l := r) (j := j) (by simpa using h)
    · rw [if_neg q] at h; simp at h
theorem tw_end {p : Nat → Bool} : ∀ {l : List Nat}, (l.takeWhile p).length = l.length ∨ ∃ c, l[(l.takeWhile p).length]? = some c ∧ p c = false
  | [] => .inl rfl
  | c :: r => by
    rw [List.takeWhile_cons]
    by_cases q : p c = true
    · rw [if_pos q]
      rcases tw_end (p := p) (l := r) with h | ⟨d, h1, h2⟩
      · exact .inl (by rw [List.length_cons, List.length_cons, h])
      · exact .inr ⟨d, by rw [List.length_cons, List.getElem?_cons_succ]; exact h1, h2⟩
    · rw [if_neg q]
      exact .inr ⟨c, rfl, by simpa using q⟩
theorem tw_le {p : Nat → Bool} (l : List Nat) : (l.takeWhile p).length ≤ l.length := (List.takeWhile_sublist p).length_le
/-- the test of such a loop: at < len(text) and text[at] in signs -/
theorem at_test {x : List Nat} {j : Nat} {ma mt ms : M} {cs : List Nat} {ρ : En} (hx : x.length ≤ top1) (ha : ma ρ = .ok (.val (.int j)) ρ) (ht : mt ρ = .ok (.val (.str (S x))) ρ) (hs : ms ρ = .ok (.val (.str (S cs))) ρ) :
    mtAnd (mtV (mOp gLt ma (mB gLen (mCons mt mNil)))) (mtV (mOp gIn (mOp gIx mt ma) ms)) ρ = .ok (match x[j]? with | some c => decide (c ∈ cs) | none => false) ρ := by
  have h1 : mtV (mOp gLt ma (mB gLen (mCons mt mNil))) ρ = .ok (decide ((j : Int) < x.length)) ρ := tv_b (op_ok ha (b_ok (cons_ok ht nil_ok) (len_S hx)) rfl)
  by_cases c : j < x.length
  · rw [decide_eq_true (by omega)] at h1
    rw [and_t h1, List.getElem?_eq_getElem c]
    refine tv_b (op_ok (op_ok (r := .val (.str (S [x[j]]))) ht ha ?_) hs rfl)
    show (if (S x).length ≤ top1 then (atI (S x).cps.toList (j : Int)).map fun c => RV.val (.str ⟨#[c]⟩) else none) = _
    rw [if_pos (by rw [S_len']; exact hx)]
    have e : atI (S x).cps.toList (j : Int) = some x[j] := by
      unfold atI ixN
      rw [show (S x).cps.toList = x from rfl, if_pos (by omega), if_pos (by omega)]
      show x[(j : Int).toNat]? = _
      rw [Int.toNat_natCast]
      exact List.getElem?_eq_getElem c
    rw [e]
    rfl
  · rw [decide_eq_false (by omega)] at h1
    rw [and_f h1, List.getElem?_eq_none (by omega)]
/-- such a loop -/
theorem run_loop {x cs : List Nat} {i : Nat} {ma mt ms : M} {mb : MS} (E : Nat → En) (hx : x.length < 100000) (hi : i ≤ x.length) (ha : ∀ j : Nat, ma (E j) = .ok (.val (.int j)) (E j)) (ht : ∀ j, mt (E j) = .ok (.val (.str (S x))) (E j)) (hs : ∀ j, ms (E j) = .ok (.val (.str (S cs))) (E j)) (hb : ∀ j, mb (E j) = .nx (E (j + 1))) :
    mWh 100000 (mtAnd (mtV (mOp gLt ma (mB gLen (mCons mt mNil)))) (mtV (mOp gIn (mOp gIx mt ma) ms))) mb (E i) = .nx (E (i + runN (fun c => decide (c ∈ cs)) x i)) := by
  have hx' : x.length ≤ top1 := by show _ ≤ 1000000; omega
  unfold mWh runN
  have hle := tw_le (p := fun c => decide (c ∈ cs)) (x.drop i)
  rw [List.length_drop] at hle
  refine wh_run E _ i 100000 (fun j h1 h2 => ?_) ?_ (by omega)
  · obtain ⟨c, e1, e2⟩ := tw_get (p := fun c => decide (c ∈ cs)) (l := x.drop i) (j := j - i) (by omega)
    rw [List.getElem?_drop, show i + (j - i) = j from by omega] at e1
    refine ⟨?_, hb j⟩
    rw [at_test hx' (ha j) (ht j) (hs j), e1]
    exact congrArg (fun b => Res.ok b (E j)) e2
  · rw [at_test hx' (ha _) (ht _) (hs _)]
    rcases tw_end (p := fun c => decide (c ∈ cs)) (l := x.drop i) with h | ⟨c, e1, e2⟩
    · rw [h, List.length_drop, List.getElem?_eq_none (by omega)]
    · rw [List.getElem?_drop] at e1
      rw [e1]
      exact congrArg (fun b => Res.ok b (E (i + (List.takeWhile (fun c => decide (c ∈ cs)) (List.drop i x)).length))) e2
theorem run_end_ok {x cs : List Nat} {i : Nat} (hx : x.length < 100000) (hi : i ≤ x.length) : ∃ ρ', v_run_end [.val (.str (S x)), .val (.int i), .val (.str (S cs))] = .ok (.val (.int ((i + runN (fun c => decide (c ∈ cs)) x i : Nat)))) ρ' := by
  refine ⟨_, run_rt (n := 3) (N := 3) (m := m_run_end) (args := [.val (.str (S x)), .val (.int i), .val (.str (S cs))]) (ρ' := [.val (.str (S x)), .val (.int ((i + runN (fun c => decide (c ∈ cs)) x i : Nat))), .val (.str (S cs))]) ?_⟩
  exact (seq_nx (run_loop (fun j => [.val (.str (S x)), .val (.int (j : Nat)), .val (.str (S cs))]) hx hi (fun j => var_ok rfl) (fun j => var_ok rfl) (fun j => var_ok rfl) (fun j => rfl))).trans (ret_rt (var_ok rfl))
theorem cut_S {x : List Nat} {a b : Nat} (ha : a ≤ x.length) : cutS (S x) (some (a : Int)) (some (b : Int)) = S ((x.drop a).take (b - a)) := by
  refine TL.ext_tl ?_
  show ((x.drop (HT.sIx (S x).length 0 (some (a : Int)))).take (HT.sIx (S x).length (S x).length (some (b : Int)) - HT.sIx (S x).length 0 (some (a : Int)))).toArray.toList = ((x.drop a).take (b - a)).toArray.toList
  rw [HT.sIx_nat, HT.sIx_nat, S_len', Nat.min_eq_left ha]
  by_cases h : b ≤ x.length
  · rw [Nat.min_eq_left h]
  · rw [Nat.min_eq_right (by omega), List.take_of_length_le (by rw [List.length_drop]; omega), List.take_of_length_le (by rw [List.length_drop]; omega)]
end K84
end
section
set_option Elab.async false
set_option linter.all false
set_option maxRecDepth 100000
set_option maxHeartbeats 4000000
/-! the plain law: constants read, the stack parser -/
namespace K84
open PySem PySem.Spec PyProof.Rows L2 PD NdefX ClX StX SX TL
open NumText (digitsVal AllDigits)
def digL : List Nat := [48, 49, 50, 51, 52, 53, 54, 55, 56, 57]
def low (c : Nat) : Bool := decide (c ∈ abcL)
def dig (c : Nat) : Bool := decide (c ∈ digL)
theorem dig_mem (c : Nat) : c ∈ digL ↔ 48 ≤ c ∧ c ≤ 57 := by
  unfold digL
  simp only [List.mem_cons, List.not_mem_nil, or_false]
  omega
theorem digs_S : ("0123456789" : Str) = S digL := by decide +kernel
theorem S_inj {a b : List Nat} : S a = S b ↔ a = b := ⟨fun h => congrArg tl h, fun h => by rw [h]⟩
/-- digits of a number as the text has it -/
def canon (ds : List Nat) : Bool := match ds with
  | [] => false
  | c :: r => decide (c ≠ 48) || decide (r = [])
theorem seq_str {a b : List Nat} : gEq (.str (S a)) (.str (S b)) = some (.val (.bl (decide (a = b)))) := by
  show some (RV.val (.bl (decide (S a = S b)))) = _
  rw [decide_eq_decide.mpr S_inj]
theorem sne_str {a b : List Nat} : gNe (.str (S a)) (.str (S b)) = some (.val (.bl (!decide (a = b)))) := by
  show some (RV.val (.bl (!decide (S a = S b)))) = _
  rw [decide_eq_decide.mpr S_inj]
theorem digits_test {ds : List Nat} {ρ : En} (hl : ds.length ≤ top1) (h : ρ[4]? = some (.val (.str (S ds)))) : mtOr (mtV (mOp gEq (mVar 4) (mC (.str "")))) (mtAnd (mtV (mOp gEq (mOp gIx (mVar 4) (mC (.int 0))) (mC (.str "0")))) (mtV (mOp gNe (mVar 4) (mC (.str "0"))))) ρ = .ok (!canon ds) ρ := by
  have h1 : mtV (mOp gEq (mVar 4) (mC (.str ""))) ρ = .ok (decide (ds = [])) ρ := tv_b (op_ok (var_ok h) c_ok (seq_str (b := [])))
  cases ds with
  | nil => exact or_t h1
  | cons c r =>
    rw [decide_eq_false (by simp)] at h1
    rw [or_f h1]
    have hx : gIx (.str (S (c :: r))) (.int 0) = some (.val (.str (S [c]))) := by
      show (if (S (c :: r)).length ≤ top1 then (atI (S (c :: r)).cps.toList (0 : Int)).map fun c => RV.val (.str ⟨#[c]⟩) else none) = _
      rw [if_pos (by rw [S_len']; exact hl), show (S (c :: r)).cps.toList = c :: r from rfl]
      unfold atI ixN
      rw [if_pos (by decide), if_pos (by rw [List.length_cons]; omega)]
      rfl
    have h2 : mtV (mOp gEq (mOp gIx (mVar 4) (mC (.int 0))) (mC (.str "0"))) ρ = .ok (decide ([c] = [48])) ρ := tv_b (op_ok (op_ok (var_ok h) c_ok hx) c_ok (seq_str (b := [48])))
    have h3 : mtV (mOp gNe (mVar 4) (mC (.str "0"))) ρ = .ok (!decide (c :: r = [48])) ρ := tv_b (op_ok (var_ok h) c_ok (sne_str (b := [48])))
    by_cases hc : c = 48
    · subst hc
      rw [decide_eq_true rfl] at h2
      rw [and_t h2, h3]
      congr 1
      show (!decide (48 :: r = [48])) = !(decide ((48 : Nat) ≠ 48) || decide (r = []))
      simp
    · rw [decide_eq_false (by simpa using hc)] at h2
      rw [and_f h2]
      congr 1
      show false = !(decide (c ≠ 48) || decide (r = []))
      simp [hc]
theorem tw_all {p : Nat → Bool} (l : List Nat) : ∀ c ∈ l.takeWhile p, p c = true := by
  intro c hc
  induction l with
  | nil => simp at hc
  | cons a r ih =>
    rw [List.takeWhile_cons] at hc
    by_cases q : p a = true
    · rw [if_pos q] at hc
      rcases List.mem_cons.mp hc with e | e
      · rw [e]; exact q
      · exact ih e
    · rw [if_neg q] at hc; simp at hc
theorem dig_all {l : List Nat} : AllDigits (l.takeWhile dig) := fun c hc => (dig_mem c).mp (of_decide_eq_true (tw_all l c hc))
theorem canon_num {ds : List Nat} (h : AllDigits ds) (hc : canon ds = true) : numL (digitsVal ds) = ds := by
  cases ds with
  | nil => cases hc
  | cons c r =>
    have hc' : (decide (c ≠ 48) || decide (r = [])) = true := hc
    have e : Nat.toDigits 10 (digitsVal (c :: r)) = (c :: r).map Char.ofNat := NumText.toDigits_digitsVal r.length (c :: r) rfl h (by
      rcases Bool.or_eq_true_iff.mp hc' with q | q
      · have := h.head
        have := of_decide_eq_true q
        exact .inr ⟨c, r, rfl, by omega⟩
      · have := of_decide_eq_true q
        exact .inl (by rw [this]; rfl))
    unfold numL
    rw [e, List.map_map]
    refine (List.map_congr_left (g := id) fun a ha => ?_).trans (List.map_id _)
    have := h a ha
    show (Char.ofNat a).toNat = a
    have h10 : ∀ d, d < 10 → (Char.ofNat (48 + d)).toNat = 48 + d := by decide
    have e := h10 (a - 48) (by omega)
    rw [show 48 + (a - 48) = a from by omega] at e
    exact e
theorem canon_of (n : Nat) : canon (numL n) = true := by
  by_cases h : n < 10
  · rw [numL_lt h]
    show (decide (48 + n ≠ 48) || decide (([] : List Nat) = [])) = true
    simp
  · have key : ∀ m, 0 < m → ∃ c r, numL m = c :: r ∧ c ≠ 48 := fun m => by
      induction m using Nat.strongRecOn with
      | _ m ih =>
        intro hm
        by_cases h : m < 10
        · exact ⟨48 + m, [], numL_lt h, by omega⟩
        · obtain ⟨c, r, e, hc⟩ := ih (m / 10) (by omega) (by omega)
          exact ⟨c, r ++ [48 + m % 10], by rw [numL_step (by omega), e]; rfl, hc⟩
    obtain ⟨c, r, e, hc⟩ := key n (by omega)
    rw [e]
    show (decide (c ≠ 48) || decide (r = [])) = true
    simp [hc]
theorem num_lt {n k : Nat} (h : (numL n).length ≤ k) : n < 10 ^ k := by
  refine Decidable.byContradiction fun c => ?_
  have := PyProof.Rows.digits10_ge (k := k) (n := n) (by omega)
  unfold numL at h
  rw [List.length_map] at h
  omega
theorem int_digits {ds : List Nat} (h : AllDigits ds) (h0 : ds ≠ []) (hl : ds.length ≤ 500) : gInt [.str (S ds)] = some (.val (.int (digitsVal ds))) := by
  show (intText? (S ds)).bind _ = _
  rw [int_S (List.all_eq_true.mpr fun c hc => by have := h c hc; simp; omega) h0 (by omega)]
  show (if (S ds).length ≤ 640 then vi _ else none) = _
  rw [if_pos (by rw [S_len']; omega)]
/-- what begins at a place, cut -/
theorem cut_app {p m r : List Nat} : cutS (S (p ++ (m ++ r))) (some (p.length : Int)) (some ((p.length + m.length : Nat) : Int)) = S m := by
  rw [cut_S (by rw [List.length_append]; omega)]
  congr 1
  rw [List.drop_left, Nat.add_sub_cancel_left, List.take_left]
theorem run_app {p l : List Nat} {q : Nat → Bool} : runN q (p ++ l) p.length = (l.takeWhile q).length := by unfold runN; rw [List.drop_left]
theorem tw_dw {q : Nat → Bool} (l : List Nat) : l.takeWhile q ++ l.dropWhile q = l := List.takeWhile_append_dropWhile
/-- the digits in a text -/
def nd (l : List Nat) : Nat := (l.filter dig).length
theorem nd_tw {p l : List Nat} : (l.takeWhile dig).length ≤ nd (p ++ l) := by
  unfold nd
  rw [List.filter_append, List.length_append]
  have h : ∀ l : List Nat, (l.takeWhile dig).length ≤ (l.filter dig).length := fun l => by
    induction l with
    | nil => simp
    | cons a r ih =>
      rw [List.takeWhile_cons, List.filter_cons]
      by_cases c : dig a = true
      · rw [if_pos c, if_pos c, List.length_cons, List.length_cons]; omega
      · rw [if_neg c]; simp
  have := h l
  omega
theorem read_constant_ok {p l w : List Nat} (hx : (p ++ l).length < 100000) (hw : WOk w) (hn : nd (p ++ l) ≤ 500) :
    if canon (l.takeWhile dig) = true then ∃ r ρ', r.d = .tup [(T.of w (digitsVal (l.takeWhile dig))).ob, .int ((p.length + (l.takeWhile dig).length : Nat))] ∧ v_read_constant [.val (.str (S w)), .val (.str (S (p ++ l))), .val (.int p.length)] = .ok r ρ'
    else ∃ ρ', v_read_constant [.val (.str (S w)), .val (.str (S (p ++ l))), .val (.int p.length)] = .er ⟨"InvalidText", ["line"], [.int 1]⟩ ρ' := by
  have hx' : (p ++ l).length ≤ top1 := by show _ ≤ 1000000; omega
  obtain ⟨r1, e1⟩ := run_end_ok (x := p ++ l) (cs := digL) (i := p.length) hx (by rw [List.length_append]; omega)
  have hrun : runN (fun c => decide (c ∈ digL)) (p ++ l) p.length = (l.takeWhile dig).length := run_app
  rw [hrun] at e1
  have hdl : (l.takeWhile dig).length ≤ 500 := Nat.le_trans nd_tw hn
  have hcut : cutS (S (p ++ l)) (some (p.length : Int)) (some ((p.length + (l.takeWhile dig).length : Nat) : Int)) = S (l.takeWhile dig) := by
    have e := cut_app (p := p) (m := l.takeWhile dig) (r := l.dropWhile dig)
    rw [tw_dw] at e
    exact e
  have pre : ∀ {o : Out}, mSeq (mIf (mtOr (mtV (mOp gEq (mVar 4) (mC (.str "")))) (mtAnd (mtV (mOp gEq (mOp gIx (mVar 4) (mC (.int 0))) (mC (.str "0")))) (mtV (mOp gNe (mVar 4) (mC (.str "0")))))) (mRaise "InvalidText" "line" (mC (.int 1))) mNext) (mRet (mTup (mCons (mMk "Constant" v_init_Constant (mCons (mVar 0) (mCons (mB gInt (mCons (mVar 4) mNil)) mNil))) (mCons (mVar 3) mNil)))) [.val (.str (S w)), .val (.str (S (p ++ l))), .val (.int p.length), .val (.int ((p.length + (l.takeWhile dig).length : Nat))), .val (.str (S (l.takeWhile dig)))] = o →
      m_read_constant [.val (.str (S w)), .val (.str (S (p ++ l))), .val (.int p.length), .emp, .emp] = o := fun ho => by
    unfold m_read_constant
    refine (seq_nx (set_nx (a := .val (.int ((p.length + (l.takeWhile dig).length : Nat)))) (fn_ok (ds := [.str (S (p ++ l)), .int p.length, .str "0123456789"]) (cons_ok (var_ok rfl) (cons_ok (var_ok rfl) (cons_ok c_ok nil_ok))) rfl (by rw [digs_S]; exact e1)) (ρ2 := [.val (.str (S w)), .val (.str (S (p ++ l))), .val (.int p.length), .val (.int ((p.length + (l.takeWhile dig).length : Nat))), .emp]) rfl)).trans ?_
    refine (seq_nx (set_nx (a := .val (.str (S (l.takeWhile dig)))) (ρ1 := [.val (.str (S w)), .val (.str (S (p ++ l))), .val (.int p.length), .val (.int ((p.length + (l.takeWhile dig).length : Nat))), .emp]) ?_ (ρ2 := [.val (.str (S w)), .val (.str (S (p ++ l))), .val (.int p.length), .val (.int ((p.length + (l.takeWhile dig).length : Nat))), .val (.str (S (l.takeWhile dig)))]) rfl)).trans ho
    show optR (if (S (p ++ l)).length ≤ top1 then some (RV.val (.str (cutS (S (p ++ l)) (some (p.length : Int)) (some ((p.length + (l.takeWhile dig).length : Nat) : Int))))) else none) _ = _
    rw [if_pos (by rw [S_len']; exact hx'), hcut]
    rfl
  have ht := digits_test (ds := l.takeWhile dig) (ρ := [.val (.str (S w)), .val (.str (S (p ++ l))), .val (.int p.length), .val (.int ((p.length + (l.takeWhile dig).length : Nat))), .val (.str (S (l.takeWhile dig)))]) (by show _ ≤ 1000000; omega) rfl
  by_cases hc : canon (l.takeWhile dig) = true
  · rw [if_pos hc]
    rw [hc] at ht
    have h0 : l.takeWhile dig ≠ [] := fun e => by rw [e] at hc; cases hc
    have hnum := canon_num (dig_all (l := l)) hc
    obtain ⟨oc, k1, k2⟩ := mkC (ms := mCons (mVar 0) (mCons (mB gInt (mCons (mVar 4) mNil)) mNil)) (ρ := [.val (.str (S w)), .val (.str (S (p ++ l))), .val (.int p.length), .val (.int ((p.length + (l.takeWhile dig).length : Nat))), .val (.str (S (l.takeWhile dig)))]) hw (num_lt (k := 500) (by rw [hnum]; exact hdl)) (cons_ok (var_ok rfl) (cons_ok (b_ok (cons_ok (var_ok rfl) nil_ok) (int_digits dig_all h0 hdl)) nil_ok))
    refine ⟨.val (.tup [oc.d, .int ((p.length + (l.takeWhile dig).length : Nat))]), _, by rw [← k1]; rfl, run_rt (n := 3) (N := 5) (m := m_read_constant) (args := [.val (.str (S w)), .val (.str (S (p ++ l))), .val (.int p.length)]) (pre ((seq_nx ((if_f ht).trans rfl)).trans (ret_rt (tup_ok (cons_ok k2 (cons_ok (var_ok rfl) nil_ok)) (by show 2 ≤ 1000000; decide)))))⟩
  · rw [if_neg hc]
    have hc' : canon (l.takeWhile dig) = false := by simpa using hc
    rw [hc'] at ht
    exact ⟨_, run_er (n := 3) (N := 5) (m := m_read_constant) (args := [.val (.str (S w)), .val (.str (S (p ++ l))), .val (.int p.length)]) (pre (seq_er ((if_t ht).trans rfl)))⟩
end K84
end
section
set_option Elab.async false
set_option linter.all false
set_option maxRecDepth 100000
set_option maxHeartbeats 4000000
/-! the plain law: the stack parser -/
namespace K84
open PySem PySem.Spec PyProof.Rows L2 PD NdefX ClX StX SX TL
open NumText (digitsVal AllDigits)
inductive CL where
  | cont (st : List (List Nat × List T)) (l : List Nat) | done (t : T) (l : List Nat) | err
def clP : List (List Nat × List T) → T → List Nat → CL
  | [], t, l => .done t l
  | (w, ps) :: rest, t, l => match l with
    | [] => .err
    | c :: r => if c = 44 ∧ ps.length + 1 < 2 then .cont ((w, ps ++ [t]) :: rest) r
      else if c = 41 then (if (T.app w (ps ++ [t])).size ≤ 60 then clP rest (T.app w (ps ++ [t])) r else .err)
      else .err
def itP : Nat → List (List Nat × List T) → List Nat → Option T
  | 0, _, _ => none
  | n + 1, st, l => if st.length < 60 ∧ WOk (l.takeWhile low) then (match l.dropWhile low with
      | [] => none
      | c :: r => if c = 40 then itP n ((l.takeWhile low, []) :: st) r
        else if c = 58 then (if canon (r.takeWhile dig) = true then (match clP st (.of (l.takeWhile low) (digitsVal (r.takeWhile dig))) (r.dropWhile dig) with
            | .cont st' l' => itP n st' l'
            | .done t l' => if l' = [] then some t else none
            | .err => none) else none)
        else none) else none
structure FOk (f : List Nat × List T) : Prop where
  w : WOk f.1
  l : f.2.length ≤ 1
  p : ∀ t ∈ f.2, t.Ok' ∧ t.size ≤ 60
def SOk (st : List (List Nat × List T)) : Prop := ∀ f ∈ st, FOk f
def stD (st : List (List Nat × List T)) : List (Str × List D) := st.map fun f => (S f.1, f.2.map T.ob)
def EOk (e : Exn) : Prop := e = ⟨"InvalidText", ["line"], [.int 1]⟩ ∨ ∃ v, e = ⟨"InvalidExpression", ["value"], v⟩
theorem take1 {p l : List Nat} : cutS (S (p ++ l)) (some (p.length : Int)) (some ((p.length : Int) + 1)) = S (l.take 1) := by
  rw [show ((p.length : Int) + 1) = ((p.length + 1 : Nat) : Int) from by omega, cut_S (by rw [List.length_append]; omega), List.drop_left, Nat.add_sub_cancel_left]
theorem sign_is {l : List Nat} {c : Nat} : S (l.take 1) = S [c] ↔ ∃ r, l = c :: r := by
  rw [S_inj]
  cases l with
  | nil => simp
  | cons a r => simp
theorem app_ok_all {w : List Nat} {ps : List T} {t : T} (hw : WOk w) (hl : ps.length ≤ 1) (hp : ∀ t ∈ ps, t.Ok' ∧ t.size ≤ 60) (ht : t.Ok' ∧ t.size ≤ 60) : (1 ≤ (ps ++ [t]).length ∧ (ps ++ [t]).length ≤ 2) ∧ (∀ u ∈ ps ++ [t], u.Ok' ∧ u.size ≤ 60) ∧ (T.app w (ps ++ [t])).Ok' := by
  have h1 : 1 ≤ (ps ++ [t]).length ∧ (ps ++ [t]).length ≤ 2 := by rw [List.length_append, List.length_cons, List.length_nil]; omega
  have h2 : ∀ u ∈ ps ++ [t], u.Ok' ∧ u.size ≤ 60 := fun u hu => by
    rcases List.mem_append.mp hu with e | e
    · exact hp u e
    · rw [List.mem_singleton.mp e]; exact ht
  exact ⟨h1, h2, (app_ok' h1).mpr ⟨hw, fun u hu => (h2 u hu).1⟩⟩
theorem appR_ok {w : List Nat} {ts : List T} (hw : WOk w) (h1 : 1 ≤ ts.length ∧ ts.length ≤ 2) (ho : ∀ t ∈ ts, t.Ok' ∧ t.size ≤ 60) :
    if (T.app w ts).size ≤ 60 then ∃ r, appR (S w) (ts.map T.ob) = .ok r [] ∧ r.d = (T.app w ts).ob else ∃ e, EOk e ∧ appR (S w) (ts.map T.ob) = .er e [] := by
  obtain ⟨k1, k2⟩ := init_A hw h1 ho
  have hs := app_size (w := w) h1
  by_cases c : (T.app w ts).size ≤ 60
  · rw [if_pos c]
    obtain ⟨ρ', e⟩ := k1 (by omega)
    refine ⟨.fr (.ins "Application" T.fldA [.lst (ts.map T.ob), .str (S (appT w ts)), .int (1 + sumS ts), .int (1 + maxS ts), .str (S w)]), ?_, ?_⟩
    · unfold appR
      rw [show v_init_Application (.own (.ins "Application" [] []) :: (D.str (S w) :: ts.map T.ob).map .val) = _ from e]
    · exact (app_ob h1).symm
  · rw [if_neg c]
    obtain ⟨oc, ρ', e⟩ := k2 (by omega)
    refine ⟨⟨"InvalidExpression", ["value"], [.tup (ts.map T.ob)]⟩, .inr ⟨_, rfl⟩, ?_⟩
    unfold appR
    rw [show v_init_Application (.own (.ins "Application" [] []) :: (D.str (S w) :: ts.map T.ob).map .val) = _ from e]
theorem cl_ok {x : List Nat} : ∀ (st : List (List Nat × List T)) (t : T) (p l : List Nat), x = p ++ l → SOk st → t.Ok' ∧ t.size ≤ 60 →
    match clP st t l with
    | .cont st' l' => SOk st' ∧ ∃ p', x = p' ++ l' ∧ l'.length ≤ l.length ∧ clGo (S x) (stD st) t.ob p.length = .cont (stD st') p'.length
    | .done u l' => (u.Ok' ∧ u.size ≤ 60) ∧ ∃ p', x = p' ++ l' ∧ clGo (S x) (stD st) t.ob p.length = .done u.ob p'.length
    | .err => ∃ e, EOk e ∧ clGo (S x) (stD st) t.ob p.length = .er e
  | [], t, p, l, hx, _, ht => ⟨ht, p, hx, rfl⟩
  | (w, ps) :: rest, t, p, l, hx, hs, ht => by
    have hf := hs (w, ps) List.mem_cons_self
    have hrest : SOk rest := fun f hm => hs f (List.mem_cons_of_mem _ hm)
    obtain ⟨a1, a2, a3⟩ := app_ok_all (w := w) (ps := ps) (t := t) hf.w hf.l hf.p ht
    have hcut : cutS (S x) (some (p.length : Int)) (some ((p.length : Int) + 1)) = S (l.take 1) := by rw [hx]; exact take1
    have hgo : clGo (S x) (stD ((w, ps) :: rest)) t.ob p.length = (if S (l.take 1) = S [44] ∧ ps.length + 1 < 2 then .cont ((S w, ps.map T.ob ++ [t.ob]) :: stD rest) (p.length + 1)
        else if S (l.take 1) = S [41] then (match appR (S w) (ps.map T.ob ++ [t.ob]) with
          | .ok a _ => clGo (S x) (stD rest) a.d (p.length + 1)
          | .er x _ => .er x
          | .no => .no)
        else .er ⟨"InvalidText", ["line"], [.int 1]⟩) := by
      show clGo (S x) ((S w, ps.map T.ob) :: stD rest) t.ob p.length = _
      rw [clGo, hcut, List.length_map]
      rfl
    have hmap : ps.map T.ob ++ [t.ob] = (ps ++ [t]).map T.ob := by rw [List.map_append]; rfl
    rw [hgo, hmap]
    cases l with
    | nil =>
      show ∃ e, EOk e ∧ _ = _
      have n44 : ¬ (S (([] : List Nat).take 1) = S [44] ∧ ps.length + 1 < 2) := fun z => by obtain ⟨r, e⟩ := sign_is.mp z.1; cases e
      have n41 : ¬ (S (([] : List Nat).take 1) = S [41]) := fun z => by obtain ⟨r, e⟩ := sign_is.mp z; cases e
      rw [if_neg n44, if_neg n41]
      exact ⟨_, .inl rfl, rfl⟩
    | cons c r =>
      have s1 : ∀ d, (S ((c :: r).take 1) = S [d]) ↔ c = d := fun d => by
        rw [sign_is]
        exact ⟨fun ⟨r', e⟩ => by cases e; rfl, fun e => ⟨r, by rw [e]⟩⟩
      have hx2 : x = (p ++ [c]) ++ r := by rw [hx, List.append_assoc]; rfl
      have hp2 : ((p ++ [c]).length : Int) = (p.length : Int) + 1 := by rw [List.length_append]; simp
      unfold clP
      dsimp only
      by_cases h44 : c = 44 ∧ ps.length + 1 < 2
      · rw [if_pos h44, if_pos ⟨(s1 44).mpr h44.1, h44.2⟩]
        refine ⟨fun f hm => ?_, p ++ [c], hx2, by simp, ?_⟩
        · rcases List.mem_cons.mp hm with e | e
          · rw [e]; exact ⟨hf.w, by show (ps ++ [t]).length ≤ 1; rw [List.length_append, List.length_cons, List.length_nil]; omega, a2⟩
          · exact hrest f e
        · rw [hp2]; rfl
      · have n44 : ¬ (S ((c :: r).take 1) = S [44] ∧ ps.length + 1 < 2) := fun z => h44 ⟨(s1 44).mp z.1, z.2⟩
        rw [if_neg h44, if_neg n44]
        by_cases h41 : c = 41
        · rw [if_pos h41, if_pos ((s1 41).mpr h41)]
          have hap := appR_ok (w := w) (ts := ps ++ [t]) hf.w a1 a2
          by_cases hsz : (T.app w (ps ++ [t])).size ≤ 60
          · rw [if_pos hsz] at hap ⊢
            obtain ⟨a, e1, e2⟩ := hap
            rw [e1]
            dsimp only
            rw [e2]
            have ih := cl_ok rest (T.app w (ps ++ [t])) (p ++ [c]) r hx2 hrest ⟨a3, hsz⟩
            rw [hp2] at ih
            split at ih
            · rename_i st' l' e
              obtain ⟨k1, p', k2, k3, k4⟩ := ih
              exact ⟨k1, p', k2, by rw [List.length_cons]; omega, k4⟩
            · rename_i u l' e
              exact ih
            · rename_i e
              exact ih
          · rw [if_neg hsz] at hap ⊢
            obtain ⟨e, h1, h2⟩ := hap
            rw [h2]
            exact ⟨e, h1, rfl⟩
        · have n41 : ¬ (S ((c :: r).take 1) = S [41]) := fun z => h41 ((s1 41).mp z)
          rw [if_neg h41, if_neg n41]
          exact ⟨_, .inl rfl, rfl⟩
end K84
end
section
set_option Elab.async false
set_option linter.all false
set_option maxRecDepth 100000
set_option maxHeartbeats 400000
/-! the plain law: the reader walked -/
namespace K84
open PySem PySem.Spec PyProof.Rows L2 PD NdefX ClX StX SX TL
open NumText (digitsVal AllDigits)
theorem in2 {a b c : Str} : inD (.str a) (.tup [.str b, .str c]) = some (decide (a = b) || decide (a = c)) := by
  have e : ∀ z : Str, eqV (.str z) (.str a) = decide (a = z) := fun z => by
    show decide (z = a) = _
    exact decide_eq_decide.mpr ⟨Eq.symm, Eq.symm⟩
  show some (eqV (.str b) (.str a) || (eqV (.str c) (.str a) || false)) = _
  rw [e, e, Bool.or_false]
theorem notin2 {a b c : Str} : gNotIn (.str a) (.tup [.str b, .str c]) = some (.val (.bl (!(decide (a = b) || decide (a = c))))) := by
  unfold gNotIn
  rw [in2]
  rfl
theorem sign_test {w s : List Nat} (t : Str) (hl : w.length ≤ top1) : mSign (rdE t (S w) (S s)) = .ok (!(decide (WOk w) && (decide (s = [40]) || decide (s = [58])))) (rdE t (S w) (S s)) := by
  obtain ⟨ρ', e⟩ := is_name_ok (w := w) hl
  have h1 : mtNot (mtV (mFn 1 v_is_name (mCons (mVar 4) mNil))) (rdE t (S w) (S s)) = .ok (!decide (WOk w)) (rdE t (S w) (S s)) := not_ok (tv_b (fn_ok (ds := [.str (S w)]) (cons_ok (var_ok rfl) nil_ok) rfl e))
  have h2 : mtV (mOp gNotIn (mVar 5) (mTup (mCons (mC (.str "(")) (mCons (mC (.str ":")) mNil)))) (rdE t (S w) (S s)) = .ok (!(decide (s = [40]) || decide (s = [58]))) (rdE t (S w) (S s)) := by
    refine tv_b (op_ok (var_ok (d := .str (S s)) rfl) (tup_ok (cons_ok c_ok (cons_ok c_ok nil_ok)) (by show 2 ≤ 1000000; decide)) (notin2.trans ?_))
    rw [show (decide (S s = "(")) = decide (s = [40]) from decide_eq_decide.mpr (S_inj (b := [40])), show (decide (S s = ":")) = decide (s = [58]) from decide_eq_decide.mpr (S_inj (b := [58]))]
  unfold mSign
  by_cases c : WOk w
  · rw [decide_eq_true c] at h1 ⊢
    rw [or_f h1, h2]
    rfl
  · rw [decide_eq_false c] at h1 ⊢
    rw [or_t h1]
    rfl
theorem dw_lt {q : Nat → Bool} (l : List Nat) : (l.dropWhile q).length ≤ l.length := (List.dropWhile_sublist q).length_le
theorem tw_wok {l : List Nat} : (l.takeWhile low).length ≤ l.length := tw_le l
theorem ob_isN (t : T) : t.ob.isN = false := by cases t <;> rfl
theorem rv_val_d (d : D) : (RV.val d).d = d := rfl
theorem of_ok' {w r : List Nat} (cw : WOk w) (hcan : canon (r.takeWhile dig) = true) (hdl : (r.takeWhile dig).length ≤ 500) : (T.of w (digitsVal (r.takeWhile dig))).Ok' ∧ (T.of w (digitsVal (r.takeWhile dig))).size ≤ 60 :=
  ⟨⟨cw, num_lt (n := digitsVal (r.takeWhile dig)) (k := 500) (by rw [canon_num dig_all hcan]; exact hdl)⟩, by show 1 ≤ 60; decide⟩
theorem it_ok {x : List Nat} (hx : x.length < 100000) (hn : nd x ≤ 500) : ∀ (n : Nat) (st : List (List Nat × List T)) (p l : List Nat), x = p ++ l → SOk st → l.length < n →
    match itP n st l with
    | some t => (t.Ok' ∧ t.size ≤ 60) ∧ rdGo (S x) n (stD st) (p.length : Int) = .ok (.val t.ob) []
    | none => ∃ e, EOk e ∧ rdGo (S x) n (stD st) (p.length : Int) = .er e []
  | 0, _, _, _, _, _, hl => absurd hl (Nat.not_lt_zero _)
  | n + 1, st, p, l, hxe, hs, hl => by
    have hpl : p.length ≤ x.length := by rw [hxe, List.length_append]; omega
    have hst : (stD st).length = st.length := by unfold stD; rw [List.length_map]
    have hll : l.length ≤ x.length := by rw [hxe, List.length_append]; omega
    have hrd : rdGo (S x) (n + 1) (stD st) (p.length : Int) = if st.length < 60 then (match v_run_end [.val (.str (S x)), .val (.int (p.length : Int)), .val (.str abc)] with
      | .ok a _ => (match a.d with
        | .int e => (match mSign (rdE (S x) (cutS (S x) (some (p.length : Int)) (some e)) (cutS (S x) (some e) (some (e + 1)))) with
          | .ok true _ => it1
          | .ok false _ => if cutS (S x) (some e) (some (e + 1)) = "(" then rdGo (S x) n ((cutS (S x) (some (p.length : Int)) (some e), []) :: stD st) (e + 1)
            else (match v_read_constant [.val (.str (cutS (S x) (some (p.length : Int)) (some e))), .val (.str (S x)), .val (.int (e + 1))] with
              | .ok c _ => (match c.d with
                | .tup [f, .int j] => (match clGo (S x) (stD st) f j with
                  | .cont st' k => rdGo (S x) n st' k
                  | .done d k => if d.isN = false then (if k = (S x).length then .ok (.val d) [] else it1) else .no
                  | .er x => .er x []
                  | .no => .no)
                | _ => .no)
              | .er x _ => .er x []
              | .no => .no)
          | _ => .no)
        | _ => .no)
      | _ => .no)
    else it1 := by
      rw [← hst]
      rfl
    rw [hrd]
    by_cases c60 : st.length < 60
    · rw [if_pos c60]
      obtain ⟨r1, e1⟩ := run_end_ok (x := x) (cs := abcL) (i := p.length) hx hpl
      rw [← abc_S] at e1
      have hrun : runN (fun c => decide (c ∈ abcL)) x p.length = (l.takeWhile low).length := by rw [hxe]; exact run_app
      rw [hrun] at e1
      rw [e1]
      have hsp : x = p ++ (l.takeWhile low ++ l.dropWhile low) := by rw [tw_dw]; exact hxe
      have hpe : ((p.length + (l.takeWhile low).length : Nat) : Int) = ((p ++ l.takeWhile low).length : Nat) := by rw [List.length_append]
      have hc1 : cutS (S x) (some (p.length : Int)) (some ((p.length + (l.takeWhile low).length : Nat) : Int)) = S (l.takeWhile low) := by
        rw [hsp]; exact cut_app
      have hc2 : cutS (S x) (some ((p.length + (l.takeWhile low).length : Nat) : Int)) (some (((p.length + (l.takeWhile low).length : Nat) : Int) + 1)) = S ((l.dropWhile low).take 1) := by
        rw [hpe, hsp, ← List.append_assoc]
        exact take1
      dsimp only [rv_val_d]
      rw [hc1, hc2, sign_test (S x) (by show _ ≤ 1000000; have := tw_le (p := low) l; omega)]
      unfold itP
      generalize hw : l.takeWhile low = w at *
      cases hd : l.dropWhile low with
      | nil =>
        rw [show (decide (WOk w) && (decide (([] : List Nat).take 1 = [40]) || decide (([] : List Nat).take 1 = [58]))) = false from by simp]
        by_cases cw : WOk w
        · rw [if_pos ⟨c60, cw⟩]
          exact ⟨_, .inl rfl, rfl⟩
        · rw [if_neg (fun z => cw z.2)]
          exact ⟨_, .inl rfl, rfl⟩
      | cons c r =>
        rw [hd] at hsp
        have ht1 : ∀ d, ((c :: r).take 1 = [d]) ↔ c = d := fun d => by simp
        have hlr : l.length = w.length + (r.length + 1) := by
          have e := congrArg List.length hsp
          rw [hxe, List.length_append, List.length_append, List.length_append, List.length_cons] at e
          omega
        by_cases cw : WOk w
        · rw [if_pos ⟨c60, cw⟩, decide_eq_true cw]
          have hx3 : x = (p ++ w ++ [c]) ++ r := by rw [hsp]; simp
          have hl3 : (((p.length + w.length : Nat) : Int) + 1) = ((p ++ w ++ [c]).length : Nat) := by rw [List.length_append, List.length_append]; simp
          by_cases h40 : c = 40
          · subst h40
            rw [show (decide ((40 :: r).take 1 = [40])) = true from decide_eq_true rfl]
            dsimp only [Bool.true_and, Bool.true_or, Bool.not_true]
            rw [if_pos rfl, if_pos (show S ((40 :: r).take 1) = "(" from rfl)]
            have ih := it_ok hx hn n ((w, []) :: st) (p ++ w ++ [40]) r hx3 (fun f hf => by
              rcases List.mem_cons.mp hf with e | e
              · rw [e]; exact ⟨cw, Nat.zero_le _, fun t ht => nomatch ht⟩
              · exact hs f e) (by omega)
            rw [hl3]
            exact ih
          · by_cases h58 : c = 58
            · subst h58
              rw [show (decide ((58 :: r).take 1 = [58])) = true from decide_eq_true rfl]
              dsimp only
              have ns : ¬ (S ((58 :: r).take 1) = "(") := fun z => by
                have := (S_inj (a := [58]) (b := [40])).mp z
                cases this
              rw [Bool.or_true, Bool.true_and, Bool.not_true]
              dsimp only
              rw [if_neg (show ¬ ((58 : Nat) = 40) by decide), if_pos rfl, if_neg ns, hl3]
              have hrc := read_constant_ok (p := p ++ w ++ [58]) (l := r) (w := w) (by rw [← hx3]; exact hx) cw (by rw [← hx3]; exact hn)
              rw [← hx3] at hrc
              by_cases hcan : canon (r.takeWhile dig) = true
              · rw [if_pos hcan] at hrc ⊢
                obtain ⟨r2, ρ2, k1, k2⟩ := hrc
                rw [k2]
                dsimp only
                rw [k1]
                dsimp only
                have hx4 : x = (p ++ w ++ [58] ++ r.takeWhile dig) ++ r.dropWhile dig := by rw [List.append_assoc, tw_dw]; exact hx3
                have hl4 : (((p ++ w ++ [58]).length + (r.takeWhile dig).length : Nat) : Int) = ((p ++ w ++ [58] ++ r.takeWhile dig).length : Nat) := by rw [List.length_append (as := p ++ w ++ [58])]
                have hdl : (r.takeWhile dig).length ≤ 500 := by
                  have := nd_tw (p := p ++ w ++ [58]) (l := r)
                  rw [← hx3] at this
                  omega
                have hcl := cl_ok (x := x) st (.of w (digitsVal (r.takeWhile dig))) (p ++ w ++ [58] ++ r.takeWhile dig) (r.dropWhile dig) hx4 hs (of_ok' cw hcan hdl)
                rw [hl4]
                have hdd := dw_lt (q := dig) r
                cases hcp : clP st (.of w (digitsVal (r.takeWhile dig))) (r.dropWhile dig) with
                | cont st' l' =>
                  rw [hcp] at hcl
                  obtain ⟨g1, p', g2, g3, g4⟩ := hcl
                  rw [g4]
                  exact it_ok hx hn n st' p' l' g2 g1 (by omega)
                | done u l' =>
                  rw [hcp] at hcl
                  obtain ⟨g1, p', g2, g4⟩ := hcl
                  rw [g4]
                  dsimp only
                  rw [if_pos (ob_isN u)]
                  have hlen : ((p'.length : Int) = (S x).length) ↔ l' = [] := by
                    rw [S_len', g2, List.length_append]
                    constructor
                    · intro h; exact List.length_eq_zero_iff.mp (by omega)
                    · intro h; rw [h]; simp
                  by_cases hl' : l' = []
                  · rw [if_pos hl', if_pos (hlen.mpr hl')]
                    exact ⟨g1, rfl⟩
                  · rw [if_neg hl', if_neg (fun z => hl' (hlen.mp z))]
                    exact ⟨_, .inl rfl, rfl⟩
                | err =>
                  rw [hcp] at hcl
                  obtain ⟨e, g1, g2⟩ := hcl
                  rw [g2]
                  exact ⟨e, g1, rfl⟩
              · rw [if_neg hcan] at hrc ⊢
                obtain ⟨ρ2, k2⟩ := hrc
                rw [k2]
                exact ⟨_, .inl rfl, rfl⟩
            · rw [decide_eq_false (fun z => h40 ((ht1 40).mp z)), decide_eq_false (fun z => h58 ((ht1 58).mp z))]
              dsimp only
              rw [if_neg h40, if_neg h58]
              exact ⟨_, .inl rfl, rfl⟩
        · rw [if_neg (fun z => cw z.2), decide_eq_false cw]
          exact ⟨_, .inl rfl, rfl⟩
    · rw [if_neg c60]
      unfold itP
      rw [if_neg (fun z => c60 z.1)]
      exact ⟨_, .inl rfl, rfl⟩
end K84
end
section
set_option Elab.async false
set_option linter.all false
set_option maxRecDepth 100000
set_option maxHeartbeats 400000
/-! the plain law: parse and told -/
namespace K84
open PySem PySem.Spec PyProof.Rows L2 PD NdefX ClX StX SX TL
open NumText (digitsVal AllDigits)
theorem cons_e1 {m : M} {ms : MA} {ρ ρ1 : En} {x : Exn} (h : m ρ = .er x ρ1) : mCons m ms ρ = .er x ρ1 := by unfold mCons; rw [h]; rfl
theorem cons_e2 {m : M} {ms : MA} {ρ ρ1 ρ2 : En} {a : RV} {x : Exn} (h : m ρ = .ok a ρ1) (h2 : ms ρ1 = .er x ρ2) : mCons m ms ρ = .er x ρ2 := by unfold mCons; rw [h]; show (ms ρ1).bind _ = _; rw [h2]; rfl
theorem b_er {g : List D → Option RV} {ms : MA} {ρ ρ1 : En} {x : Exn} (h : ms ρ = .er x ρ1) : mB g ms ρ = .er x ρ1 := by unfold mB; rw [h]; rfl
theorem lst_er {ms : MA} {ρ ρ1 : En} {x : Exn} (h : ms ρ = .er x ρ1) : mLst ms ρ = .er x ρ1 := by unfold mLst; rw [h]; rfl
theorem set_er {g : MG} {m : M} {ρ ρ1 : En} {x : Exn} (h : m ρ = .er x ρ1) : mSet g m ρ = .er x ρ1 := by unfold mSet; rw [h]; rfl
theorem ret_er {m : M} {ρ ρ1 : En} {x : Exn} (h : m ρ = .er x ρ1) : mRet m ρ = .er x ρ1 := by unfold mRet; rw [h]; rfl
theorem told_er {d : D} {e : Exn} {ρ1 ρ : En} (h0 : ρ[0]? = some (.val d)) (h : v_parse [.val d] = .er e ρ1) : mSet (gN 1) (mLst (mCons (mC (.str "read")) (mCons (mB gStrE (mCons (mFn 1 v_parse (mCons (mVar 0) mNil)) mNil)) mNil))) ρ = .er e ρ :=
  set_er (lst_er (cons_e2 c_ok (cons_e1 (b_er (cons_e1 (fn_er (ds := [d]) (cons_ok (var_ok h0) nil_ok) rfl h))))))
theorem read_ok {x : List Nat} (hx : x.length < 100000) (hn : nd x ≤ 500) :
    match itP 100000 [] x with
    | some t => (t.Ok' ∧ t.size ≤ 60) ∧ v_read_expression [.val (.str (S x))] = .ok (.val t.ob) [.val (.str (S x))]
    | none => ∃ e, EOk e ∧ v_read_expression [.val (.str (S x))] = .er e [.val (.str (S x))] := by
  have h := it_ok hx hn 100000 [] [] x rfl (fun f hf => nomatch hf) hx
  have hv : v_read_expression [.val (.str (S x))] = (match rdGo (S x) 100000 (stD []) (([] : List Nat).length : Int) with
    | .ok a _ => .ok (.val a.d) [.val (.str (S x))]
    | .er y _ => .er y [.val (.str (S x))]
    | .no => .no) := by
    show (if (S x).length ≤ top1 then _ else _) = _
    rw [if_pos (by rw [S_len']; show _ ≤ 1000000; omega)]
    rfl
  rw [hv]
  cases hi : itP 100000 [] x with
  | some t =>
    rw [hi] at h
    obtain ⟨h1, h2⟩ := h
    exact ⟨h1, by rw [h2]; rfl⟩
  | none =>
    rw [hi] at h
    obtain ⟨e, h1, h2⟩ := h
    exact ⟨e, h1, by rw [h2]⟩
theorem parse_ok {x : List Nat} (hx : x.length < 100000) (hn : nd x ≤ 500) :
    match itP 100000 [] x with
    | some t => (t.Ok' ∧ t.size ≤ 60) ∧ ∃ ρ', v_parse [.val (.str (S x))] = .ok (.val t.ob) ρ'
    | none => ∃ ρ', v_parse [.val (.str (S x))] = .er ⟨"InvalidText", ["line"], [.int 1]⟩ ρ' := by
  have h := read_ok hx hn
  have h0 : mIf (mtNot (mtV (mUn (gIsT "str") (mVar 0)))) (mRaise "InvalidText" "line" (mC (.int 0))) mNext [.val (.str (S x)), .emp] = .nx [.val (.str (S x)), .emp] := (if_f (not_tt (tv_b (un_ok (var_ok rfl) rfl)))).trans rfl
  cases hi : itP 100000 [] x with
  | some t =>
    rw [hi] at h
    obtain ⟨h1, h2⟩ := h
    refine ⟨h1, _, run_rt (n := 1) (N := 2) (m := m_parse) (args := [.val (.str (S x))]) (ρ' := [.val (.str (S x)), .emp]) ((seq_nx h0).trans ?_)⟩
    have hm : mRet (mFn 1 v_read_expression (mCons (mVar 0) mNil)) [.val (.str (S x)), .emp] = .rt (.val t.ob) [.val (.str (S x)), .emp] := ret_rt (fn_ok (ds := [.str (S x)]) (cons_ok (var_ok rfl) nil_ok) rfl h2)
    unfold mTryR
    rw [hm]
  | none =>
    rw [hi] at h
    obtain ⟨e, h1, h2⟩ := h
    refine ⟨_, run_er (n := 1) (N := 2) (m := m_parse) (args := [.val (.str (S x))]) (ρ' := [.val (.str (S x)), .emp]) ((seq_nx h0).trans ?_)⟩
    have hm : mRet (mFn 1 v_read_expression (mCons (mVar 0) mNil)) [.val (.str (S x)), .emp] = .er e [.val (.str (S x)), .emp] := ret_er (fn_er (ds := [.str (S x)]) (cons_ok (var_ok rfl) nil_ok) rfl h2)
    unfold mTryR
    rw [hm]
    rcases h1 with h1 | ⟨v, h1⟩
    · rw [h1]; rfl
    · rw [h1]; rfl
theorem str_exp {t : T} (h : t.txt.length ≤ top1) : gStrE [t.ob] = some (.val (.str (S t.txt))) := by
  obtain ⟨c, ns, ds, e, h1, h2⟩ := ob_obj t
  have h3 := str_ok' h
  rw [e] at h3 ⊢
  show (if cls.contains c = true then (ownTxt v_Expression___str__ (.obj c ns ds)).map fun z => RV.val (.str z) else none) = _
  rw [if_pos h1]
  unfold ownTxt
  rw [h3]
  rfl
theorem told_ok {x : List Nat} (hx : x.length < 100000) (hn : nd x ≤ 500) : ∃ ρ', v_told [.val (.str (S x))] = .ok (.val (.lst (match itP 100000 [] x with
    | some t => [.str "read", .str (S t.txt)]
    | none => [.str "text", .int 1]))) ρ' := by
  have h := parse_ok hx hn
  cases hi : itP 100000 [] x with
  | some t =>
    rw [hi] at h
    obtain ⟨h1, ρ1, h2⟩ := h
    refine ⟨_, run_rt (n := 1) (N := 4) (m := m_told v_parse) (args := [.val (.str (S x))]) (ρ' := [.val (.str (S x)), .val (.lst [.str "read", .str (S t.txt)]), .emp, .emp]) ?_⟩
    refine (seq_nx (set_nx (ρ2 := [.val (.str (S x)), .val (.lst [.str "other"]), .emp, .emp]) (lst_ok (ds := [.str "other"]) (cons_ok c_ok nil_ok) (by show 1 ≤ 1000000; decide)) rfl)).trans ?_
    refine (seq_nx (ρ1 := [.val (.str (S x)), .val (.lst [.str "read", .str (S t.txt)]), .emp, .emp]) ?_).trans (ret_rt (var_ok rfl))
    have hl := T.txt_len h1.1
    have hm : mSet (gN 1) (mLst (mCons (mC (.str "read")) (mCons (mB gStrE (mCons (mFn 1 v_parse (mCons (mVar 0) mNil)) mNil)) mNil))) [.val (.str (S x)), .val (.lst [.str "other"]), .emp, .emp] = .nx [.val (.str (S x)), .val (.lst [.str "read", .str (S t.txt)]), .emp, .emp] := by
      refine set_nx (a := .fr (.lst [.str "read", .str (S t.txt)])) (ρ1 := [.val (.str (S x)), .val (.lst [.str "other"]), .emp, .emp]) (lst_ok (cons_ok c_ok (cons_ok (b_ok (cons_ok (fn_ok (ds := [.str (S x)]) (cons_ok (var_ok rfl) nil_ok) rfl h2) nil_ok) (str_exp (t := t) ?_)) nil_ok)) (by show 2 ≤ 1000000; decide)) rfl
      show _ ≤ 1000000
      omega
    unfold noErS mTry
    rw [hm]
  | none =>
    rw [hi] at h
    obtain ⟨ρ1, h2⟩ := h
    refine ⟨_, run_rt (n := 1) (N := 4) (m := m_told v_parse) (args := [.val (.str (S x))]) (ρ' := [.val (.str (S x)), .val (.lst [.str "text", .int 1]), .emp, .val (.bl false)]) ?_⟩
    refine (seq_nx (set_nx (ρ2 := [.val (.str (S x)), .val (.lst [.str "other"]), .emp, .emp]) (lst_ok (ds := [.str "other"]) (cons_ok c_ok nil_ok) (by show 1 ≤ 1000000; decide)) rfl)).trans ?_
    refine (seq_nx (ρ1 := [.val (.str (S x)), .val (.lst [.str "text", .int 1]), .emp, .val (.bl false)]) ?_).trans (ret_rt (var_ok rfl))
    have hm : mSet (gN 1) (mLst (mCons (mC (.str "read")) (mCons (mB gStrE (mCons (mFn 1 v_parse (mCons (mVar 0) mNil)) mNil)) mNil))) [.val (.str (S x)), .val (.lst [.str "other"]), .emp, .emp] = .er ⟨"InvalidText", ["line"], [.int 1]⟩ [.val (.str (S x)), .val (.lst [.str "other"]), .emp, .emp] := by
      exact told_er rfl h2
    unfold noErS mTry
    rw [hm]
    rfl
theorem told_odd {d : D} (h : gIsT "str" d = some (.val (.bl false))) : ∃ ρ', v_told [.val d] = .ok (.val (.lst [.str "text", .int 0])) ρ' := by
  have h0 : v_parse [.val d] = .er ⟨"InvalidText", ["line"], [.int 0]⟩ [.val d] := by
    refine run_er (n := 1) (N := 2) (m := m_parse) (args := [.val d]) (ρ' := [.val d, .emp]) (seq_er ((if_t (not_ff (tv_b (un_ok (var_ok rfl) h)))).trans rfl))
  refine ⟨_, run_rt (n := 1) (N := 4) (m := m_told v_parse) (args := [.val d]) (ρ' := [.val d, .val (.lst [.str "text", .int 0]), .emp, .val (.bl false)]) ?_⟩
  refine (seq_nx (set_nx (ρ2 := [.val d, .val (.lst [.str "other"]), .emp, .emp]) (lst_ok (ds := [.str "other"]) (cons_ok c_ok nil_ok) (by show 1 ≤ 1000000; decide)) rfl)).trans ?_
  refine (seq_nx (ρ1 := [.val d, .val (.lst [.str "text", .int 0]), .emp, .val (.bl false)]) ?_).trans (ret_rt (var_ok rfl))
  have hm : mSet (gN 1) (mLst (mCons (mC (.str "read")) (mCons (mB gStrE (mCons (mFn 1 v_parse (mCons (mVar 0) mNil)) mNil)) mNil))) [.val d, .val (.lst [.str "other"]), .emp, .emp] = .er ⟨"InvalidText", ["line"], [.int 0]⟩ [.val d, .val (.lst [.str "other"]), .emp, .emp] := by
    exact told_er rfl h0
  unfold noErS mTry
  rw [hm]
  rfl
end K84
end
section
set_option Elab.async false
set_option linter.all false
set_option maxRecDepth 100000
set_option maxHeartbeats 400000
/-! the plain law: the grammar -/
namespace K84
open PySem PySem.Spec PyProof.Rows L2 PD NdefX ClX StX SX TL
open NumText (digitsVal AllDigits)
/-- the grammar's reader -/
def rdL : Nat → List Nat → Option (T × List Nat)
  | 0, _ => none
  | k + 1, l => if WOk (l.takeWhile low) then (match l.dropWhile low with
      | [] => none
      | c :: r => if c = 58 then (if canon (r.takeWhile dig) = true then some (.of (l.takeWhile low) (digitsVal (r.takeWhile dig)), r.dropWhile dig) else none)
        else if c = 40 then (match rdL k r with
          | none => none
          | some (_, []) => none
          | some (t, a :: r2) => if a = 41 then some (.a1 (l.takeWhile low) t, r2)
            else if a = 44 then (match rdL k r2 with
              | none => none
              | some (_, []) => none
              | some (u, b :: r3) => if b = 41 then some (.a2 (l.takeWhile low) t u, r3) else none) else none)
        else none) else none
def c40 (l : List Nat) : Nat := (l.filter (fun c => decide (c = 40))).length
def contP (n : Nat) : CL → Option T
  | .cont st' l' => itP n st' l'
  | .done t l' => if l' = [] then some t else none
  | .err => none
theorem c40_app (a b : List Nat) : c40 (a ++ b) = c40 a + c40 b := by unfold c40; rw [List.filter_append, List.length_append]
theorem c40_cons (c : Nat) (l : List Nat) : c40 (c :: l) = (if c = 40 then 1 else 0) + c40 l := by
  unfold c40
  rw [List.filter_cons]
  by_cases h : c = 40
  · rw [if_pos (by simp [h]), if_pos h, List.length_cons]; omega
  · rw [if_neg (by simp [h]), if_neg h]; omega
/-- what a success of the reader is -/
theorem rdL_some {k : Nat} {l r : List Nat} {t : T} (h : rdL k l = some (t, r)) : ∃ k', k = k' + 1 ∧ WOk (l.takeWhile low) ∧
    ((∃ r1, l = l.takeWhile low ++ 58 :: r1 ∧ canon (r1.takeWhile dig) = true ∧ t = .of (l.takeWhile low) (digitsVal (r1.takeWhile dig)) ∧ r = r1.dropWhile dig) ∨
     (∃ r1 u, l = l.takeWhile low ++ 40 :: r1 ∧ rdL k' r1 = some (u, 41 :: r) ∧ t = .a1 (l.takeWhile low) u) ∨
     (∃ r1 u v r2, l = l.takeWhile low ++ 40 :: r1 ∧ rdL k' r1 = some (u, 44 :: r2) ∧ rdL k' r2 = some (v, 41 :: r) ∧ t = .a2 (l.takeWhile low) u v)) := by
  cases k with
  | zero => cases h
  | succ k =>
    refine ⟨k, rfl, ?_⟩
    unfold rdL at h
    by_cases cw : WOk (l.takeWhile low)
    · rw [if_pos cw] at h
      refine ⟨cw, ?_⟩
      have hsp : l = l.takeWhile low ++ l.dropWhile low := (tw_dw l).symm
      cases hd : l.dropWhile low with
      | nil => rw [hd] at h; cases h
      | cons c r1 =>
        rw [hd] at h hsp
        dsimp only at h
        by_cases h58 : c = 58
        · subst h58
          rw [if_pos rfl] at h
          by_cases hc : canon (r1.takeWhile dig) = true
          · rw [if_pos hc] at h
            cases h
            exact .inl ⟨r1, hsp, hc, rfl, rfl⟩
          · rw [if_neg hc] at h; cases h
        · rw [if_neg h58] at h
          by_cases h4 : c = 40
          · subst h4
            rw [if_pos rfl] at h
            split at h
            · cases h
            · cases h
            · rename_i t1 a r2 e1
              by_cases h41 : a = 41
              · subst h41
                rw [if_pos rfl] at h
                cases h
                exact .inr (.inl ⟨r1, t1, hsp, e1, rfl⟩)
              · rw [if_neg h41] at h
                by_cases h44 : a = 44
                · subst h44
                  rw [if_pos rfl] at h
                  split at h
                  · cases h
                  · cases h
                  · rename_i u b r3 e2
                    by_cases hb : b = 41
                    · subst hb
                      rw [if_pos rfl] at h
                      cases h
                      exact .inr (.inr ⟨r1, t1, u, r2, hsp, e1, e2, rfl⟩)
                    · rw [if_neg hb] at h; cases h
                · rw [if_neg h44] at h; cases h
          · rw [if_neg h4] at h; cases h
    · rw [if_neg cw] at h; cases h
/-- the text of what was read -/
theorem rdL_txt : ∀ {k : Nat} {l r : List Nat} {t : T}, rdL k l = some (t, r) → l = t.txt ++ r ∧ (r.length + t.size ≤ l.length ∧ c40 r ≤ c40 l)
  | 0, _, _, _, h => nomatch h
  | k + 1, l, r, t, h => by
    obtain ⟨k', e, cw, h⟩ := rdL_some h
    cases e
    have hw := cw.l.1
    rcases h with ⟨r1, h1, h2, h3, h4⟩ | ⟨r1, u, h1, h2, h3⟩ | ⟨r1, u, v, r2, h1, h2, h3, h4⟩
    · have e : l = t.txt ++ r := by
        rw [h3, h4]
        show l = (l.takeWhile low ++ (58 :: numL (digitsVal (r1.takeWhile dig)))) ++ r1.dropWhile dig
        rw [canon_num dig_all h2, List.append_assoc, List.cons_append, tw_dw]
        exact h1
      have hs : t.size = 1 := by rw [h3]; rfl
      refine ⟨e, ?_, ?_⟩
      · have e2 := congrArg List.length h1
        have e3 := dw_lt (q := dig) r1
        rw [List.length_append, List.length_cons] at e2
        rw [hs, h4]
        omega
      · rw [e, c40_app]; omega
    · obtain ⟨a1, a2, a3⟩ := rdL_txt h2
      have e : l = t.txt ++ r := by
        rw [h3]
        show l = (l.takeWhile low ++ (40 :: (u.txt ++ [41]))) ++ r
        conv => lhs; rw [h1, a1]
        simp
      have hs : t.size = 1 + u.size := by rw [h3]; rfl
      refine ⟨e, ?_, ?_⟩
      · have e2 := congrArg List.length h1
        rw [List.length_append, List.length_cons] at e2
        rw [List.length_cons] at a2
        omega
      · rw [e, c40_app]; omega
    · obtain ⟨a1, a2, a3⟩ := rdL_txt h2
      obtain ⟨b1, b2, b3⟩ := rdL_txt h3
      have e : l = t.txt ++ r := by
        rw [h4]
        show l = (l.takeWhile low ++ (40 :: (u.txt ++ (44 :: (v.txt ++ [41]))))) ++ r
        conv => lhs; rw [h1, a1, b1]
        simp
      have hs : t.size = 1 + (u.size + v.size) := by rw [h4]; rfl
      refine ⟨e, ?_, ?_⟩
      · have e2 := congrArg List.length h1
        rw [List.length_append, List.length_cons] at e2
        rw [List.length_cons] at a2 b2
        omega
      · rw [e, c40_app]; omega
theorem clP_cons {w : List Nat} {ps : List T} {rest : List (List Nat × List T)} {t : T} {c : Nat} {r : List Nat} : clP ((w, ps) :: rest) t (c :: r) = (if c = 44 ∧ ps.length + 1 < 2 then .cont ((w, ps ++ [t]) :: rest) r
      else if c = 41 then (if (T.app w (ps ++ [t])).size ≤ 60 then clP rest (T.app w (ps ++ [t])) r else .err)
      else .err) := rfl
theorem tw_c40 (l : List Nat) : c40 (l.takeWhile low) = 0 := by
  unfold c40
  rw [List.length_eq_zero_iff, List.filter_eq_nil_iff]
  intro c hc h
  have h1 := tw_all l c hc
  have h2 := of_decide_eq_true h
  subst h2
  revert h1
  decide
theorem cont_if {n : Nat} {b : Prop} [Decidable b] {x : CL} : contP n (if b then x else .err) = if b then contP n x else none := by by_cases h : b <;> simp [h] <;> rfl
/-- the stack reader and the grammar's reader agree -/
theorem it_rd : ∀ (k : Nat) (l : List Nat), c40 l < k → ∀ (n : Nat) (st : List (List Nat × List T)), l.length < n → st.length + c40 l < 60 →
    itP n st l = match rdL k l with
      | none => none
      | some (t, r) => if t.size ≤ 60 then contP (n - t.size) (clP st t r) else none
  | 0, _, h, _, _, _, _ => absurd h (Nat.not_lt_zero _)
  | _ + 1, _, _, 0, _, h, _ => absurd h (Nat.not_lt_zero _)
  | k + 1, l, hk, n + 1, st, hn, hst => by
    unfold itP rdL
    by_cases cw : WOk (l.takeWhile low)
    · rw [if_pos ⟨by omega, cw⟩, if_pos cw]
      have hsp : l = l.takeWhile low ++ l.dropWhile low := (tw_dw l).symm
      have hw := cw.l.1
      cases hd : l.dropWhile low with
      | nil => rfl
      | cons c r =>
        rw [hd] at hsp
        have hlen := congrArg List.length hsp
        have hc40 := congrArg c40 hsp
        rw [List.length_append, List.length_cons] at hlen
        rw [c40_app, tw_c40, c40_cons] at hc40
        dsimp only
        by_cases h58 : c = 58
        · subst h58
          rw [if_neg (show ¬ ((58 : Nat) = 40) by decide), if_pos rfl, if_pos rfl]
          by_cases hc : canon (r.takeWhile dig) = true
          · rw [if_pos hc, if_pos hc]
            dsimp only
            rw [if_pos (show (T.of (l.takeWhile low) (digitsVal (r.takeWhile dig))).size ≤ 60 from by show 1 ≤ 60; decide)]
            show _ = contP (n + 1 - 1) _
            rw [Nat.add_sub_cancel]
            cases clP st (.of (l.takeWhile low) (digitsVal (r.takeWhile dig))) (r.dropWhile dig) <;> rfl
          · rw [if_neg hc, if_neg hc]
        · by_cases h4 : c = 40
          · subst h4
            rw [if_pos rfl, if_neg h58, if_pos rfl]
            rw [if_pos rfl] at hc40
            rw [it_rd k r (by omega) n ((l.takeWhile low, []) :: st) (by omega) (by rw [List.length_cons]; omega)]
            cases e1 : rdL k r with
            | none => rfl
            | some q =>
              obtain ⟨t, r2⟩ := q
              obtain ⟨_, a2, a3⟩ := rdL_txt e1
              cases r2 with
              | nil =>
                dsimp only
                by_cases hs : t.size ≤ 60
                · rw [if_pos hs]; rfl
                · rw [if_neg hs]
              | cons a r2 =>
                rw [List.length_cons] at a2
                rw [c40_cons] at a3
                dsimp only
                rw [clP_cons]
                by_cases h41 : a = 41
                · subst h41
                  rw [if_neg (show ¬ ((41 : Nat) = 44 ∧ ([] : List T).length + 1 < 2) by decide), if_pos rfl, if_pos rfl]
                  dsimp only
                  show (if t.size ≤ 60 then contP (n - t.size) (if (T.a1 (l.takeWhile low) t).size ≤ 60 then _ else _) else none) = _
                  rw [cont_if]
                  have hs1 : (T.a1 (l.takeWhile low) t).size = 1 + t.size := rfl
                  rw [hs1]
                  by_cases hs : 1 + t.size ≤ 60
                  · rw [if_pos hs, if_pos (by omega), if_pos hs, show n + 1 - (1 + t.size) = n - t.size from by omega]
                    rfl
                  · rw [if_neg hs, if_neg hs, ite_self]
                · by_cases h44 : a = 44
                  · subst h44
                    rw [if_pos (show ((44 : Nat) = 44 ∧ ([] : List T).length + 1 < 2) by decide), if_neg h41, if_pos rfl]
                    show (if t.size ≤ 60 then itP (n - t.size) ((l.takeWhile low, [] ++ [t]) :: st) r2 else none) = _
                    rw [it_rd k r2 (by omega) (n - t.size) ((l.takeWhile low, [] ++ [t]) :: st) (by omega) (by rw [List.length_cons]; omega)]
                    cases e2 : rdL k r2 with
                    | none => dsimp only; rw [ite_self]
                    | some q =>
                      obtain ⟨u, r3⟩ := q
                      obtain ⟨_, b2, b3⟩ := rdL_txt e2
                      cases r3 with
                      | nil =>
                        dsimp only
                        show (if t.size ≤ 60 then (if u.size ≤ 60 then none else none) else none) = _
                        rw [ite_self, ite_self]
                      | cons b r3 =>
                        rw [List.length_cons] at b2
                        dsimp only
                        rw [clP_cons, if_neg (show ¬ (b = 44 ∧ (([] : List T) ++ [t]).length + 1 < 2) from fun z => absurd z.2 (by show ¬ (2 < 2); decide))]
                        by_cases hb : b = 41
                        · subst hb
                          rw [if_pos rfl, if_pos rfl]
                          dsimp only
                          show (if t.size ≤ 60 then (if u.size ≤ 60 then contP (n - t.size - u.size) (if (T.a2 (l.takeWhile low) t u).size ≤ 60 then _ else _) else none) else none) = _
                          rw [cont_if]
                          have hs1 : (T.a2 (l.takeWhile low) t u).size = 1 + (t.size + u.size) := rfl
                          rw [hs1]
                          by_cases hs : 1 + (t.size + u.size) ≤ 60
                          · rw [if_pos hs, if_pos (show t.size ≤ 60 by omega), if_pos (show u.size ≤ 60 by omega), if_pos hs, show n + 1 - (1 + (t.size + u.size)) = n - t.size - u.size from by omega]
                            rfl
                          · rw [if_neg hs, if_neg hs, ite_self, ite_self]
                        · rw [if_neg hb, if_neg hb]
                          show (if t.size ≤ 60 then (if u.size ≤ 60 then none else none) else none) = _
                          rw [ite_self, ite_self]
                  · have n44 : ¬ (a = 44 ∧ ([] : List T).length + 1 < 2) := fun z => h44 z.1
                    simp only [if_neg n44, if_neg h41, if_neg h44]
                    show (if t.size ≤ 60 then none else none) = _
                    rw [ite_self]
          · rw [if_neg h4, if_neg h58, if_neg h58, if_neg h4]
    · rw [if_neg (fun z => cw z.2), if_neg cw]
end K84
end
section
set_option Elab.async false
set_option linter.all false
set_option maxRecDepth 100000
set_option maxHeartbeats 400000
/-! the plain law: the law's own reader -/
namespace K84
open PySem PySem.Spec PyProof.Rows L2 PD NdefX ClX StX SX TL
open NumText (digitsVal AllDigits)
def rdD (x : List Nat) : Option (T × List Nat) → D
  | none => .non
  | some (t, r) => .tup [t.d, .int ((x.length - r.length : Nat) : Int)]
def rdP (k : Nat) (w r : List Nat) : Option (T × List Nat) := match rdL k r with
  | none => none
  | some (_, []) => none
  | some (t, a :: r2) => if a = 41 then some (.a1 w t, r2)
    else if a = 44 then (match rdL k r2 with
      | none => none
      | some (_, []) => none
      | some (u, b :: r3) => if b = 41 then some (.a2 w t u, r3) else none) else none
theorem rdL_P (k : Nat) (l : List Nat) : rdL (k + 1) l = if WOk (l.takeWhile low) then (match l.dropWhile low with
      | [] => none
      | c :: r => if c = 58 then (if canon (r.takeWhile dig) = true then some (.of (l.takeWhile low) (digitsVal (r.takeWhile dig)), r.dropWhile dig) else none)
        else if c = 40 then rdP k (l.takeWhile low) r else none) else none := rfl
theorem sl_ok {x : List Nat} {m ml mh : M} {ρ : En} {a b : Int} {ra rb : RV} (hx : x.length ≤ top1) (h : m ρ = .ok (.val (.str (S x))) ρ) (hl : ml ρ = .ok ra ρ) (ha : ra.d = .int a) (hh : mh ρ = .ok rb ρ) (hb : rb.d = .int b) : mSl m (moS ml) (moS mh) ρ = .ok (.val (.str (cutS (S x) (some a) (some b)))) ρ := by
  have e1 : moS ml ρ = .ok (some a) ρ := by unfold moS; rw [hl]; show (match ra.d with | .int i => Res.ok (some i) ρ | _ => .no) = _; rw [ha]
  have e2 : moS mh ρ = .ok (some b) ρ := by unfold moS; rw [hh]; show (match rb.d with | .int i => Res.ok (some i) ρ | _ => .no) = _; rw [hb]
  unfold mSl
  rw [h]
  show (moS ml ρ).bind _ = _
  rw [e1]
  show (moS mh ρ).bind _ = _
  rw [e2]
  show optR (if (S x).length ≤ top1 then some (RV.val (.str (cutS (S x) (some a) (some b)))) else none) ρ = _
  rw [if_pos (by rw [S_len']; exact hx)]
  rfl
theorem seq_if_f {t : MT} {a m : MS} {ρ ρ1 : En} (h : t ρ = .ok false ρ1) : mSeq (mIf t a mNext) m ρ = m ρ1 := (seq_nx ((if_f h).trans rfl))
theorem seq_if_t {t : MT} {a b m : MS} {ρ ρ1 ρ2 : En} {r : RV} (h : t ρ = .ok true ρ1) (h2 : a ρ1 = .rt r ρ2) : mSeq (mIf t a b) m ρ = .rt r ρ2 := seq_rt ((if_t h).trans h2)
abbrev mAt (i : Nat) : M := mSl (mVar 0) (moS (mOp gIx (mVar i) (mC (.int 1)))) (moS (mOp gAdd (mOp gIx (mVar i) (mC (.int 1))) (mC (.int 1))))
/-- the sign at the place where a part ends -/
theorem at_sign {x p r : List Nat} {i : Nat} {t : D} {ρ : En} (hx : x.length ≤ top1) (he : x = p ++ r) (h0 : ρ[0]? = some (.val (.str (S x)))) (hi : ρ[i]? = some (.val (.tup [t, .int (p.length : Nat)]))) :
    mSl (mVar 0) (moS (mOp gIx (mVar i) (mC (.int 1)))) (moS (mOp gAdd (mOp gIx (mVar i) (mC (.int 1))) (mC (.int 1)))) ρ = .ok (.val (.str (S (r.take 1)))) ρ := by
  have h1 : mOp gIx (mVar i) (mC (.int 1)) ρ = .ok (.val (.int (p.length : Nat))) ρ := op_ok (var_ok hi) c_ok rfl
  rw [sl_ok hx (var_ok h0) h1 rfl (op_ok h1 c_ok (r := .val (.int ((p.length : Nat) + 1))) rfl) rfl]
  rw [he, take1]
theorem parts_read {x : List Nat} (hx : x.length < 100000) {vr : En → Res RV} {k : Nat} (ih : ∀ p l, x = p ++ l → c40 l < k → ∃ ρ', vr [.val (.str (S x)), .val (.int (p.length : Nat))] = .ok (.val (rdD x (rdL k l))) ρ')
    {p r w : List Nat} (he : x = p ++ r) (hc : c40 r < k) : ∃ ρ', runB 3 5 (m__law_read_parts vr) [.val (.str (S x)), .val (.str (S w)), .val (.int (p.length : Nat))] = .ok (.val (rdD x (rdP k w r))) ρ' := by
  have hx' : x.length ≤ top1 := by show _ ≤ 1000000; omega
  obtain ⟨ρ1, e1⟩ := ih p r he hc
  have s1 : mSet (gN 3) (mFn 2 vr (mCons (mVar 0) (mCons (mVar 2) mNil))) [.val (.str (S x)), .val (.str (S w)), .val (.int (p.length : Nat)), .emp, .emp] = .nx [.val (.str (S x)), .val (.str (S w)), .val (.int (p.length : Nat)), .val (rdD x (rdL k r)), .emp] :=
    set_nx (fn_ok (ds := [.str (S x), .int (p.length : Nat)]) (cons_ok (var_ok rfl) (cons_ok (var_ok rfl) nil_ok)) rfl e1) rfl
  suffices H : ∃ ρ', m__law_read_parts vr [.val (.str (S x)), .val (.str (S w)), .val (.int (p.length : Nat)), .emp, .emp] = .rt (.val (rdD x (rdP k w r))) ρ' from by
    obtain ⟨ρ', e⟩ := H
    exact ⟨_, run_rt (n := 3) (N := 5) (m := m__law_read_parts vr) (args := [.val (.str (S x)), .val (.str (S w)), .val (.int (p.length : Nat))]) e⟩
  unfold m__law_read_parts
  rw [seq_nx s1]
  cases er : rdL k r with
  | none =>
    have hP : rdP k w r = none := by unfold rdP; rw [er]
    rw [hP]
    exact ⟨_, seq_if_t (tv_b (op_ok (var_ok rfl) c_ok rfl)) (ret_rt c_ok)⟩
  | some q =>
    obtain ⟨t, r2⟩ := q
    obtain ⟨ht, a2, a3⟩ := rdL_txt er
    have hx2 : x = (p ++ t.txt) ++ r2 := by rw [he, List.append_assoc, ← ht]
    have hq : x.length - r2.length = (p ++ t.txt).length := by
      have := congrArg List.length hx2
      rw [List.length_append] at this
      omega
    have hD : rdD x (some (t, r2)) = .tup [t.d, .int ((p ++ t.txt).length : Nat)] := by
      show D.tup [t.d, .int ((x.length - r2.length : Nat) : Int)] = _
      rw [hq]
    rw [hD]
    generalize hρ : ([.val (.str (S x)), .val (.str (S w)), .val (.int (p.length : Nat)), .val (.tup [t.d, .int ((p ++ t.txt).length : Nat)]), .emp] : En) = ρ
    have z0 : ρ[0]? = some (.val (.str (S x))) := by rw [← hρ]; rfl
    have z1 : ρ[1]? = some (.val (.str (S w))) := by rw [← hρ]; rfl
    have z3 : ρ[3]? = some (.val (.tup [t.d, .int ((p ++ t.txt).length : Nat)])) := by rw [← hρ]; rfl
    have t1 : mtV (mOp gIsN (mVar 3) (mC .non)) ρ = .ok false ρ := tv_b (op_ok (var_ok z3) c_ok rfl)
    rw [seq_if_f t1]
    have hs := at_sign (i := 3) hx' hx2 z0 z3
    have t2 : ∀ b, decide (r2.take 1 = [41]) = b → mtV (mOp gEq (mAt 3) (mC (.str ")"))) ρ = .ok b ρ := fun b hb => tv_b (op_ok hs c_ok ((seq_str (b := [41])).trans (by rw [hb])))
    have t3 : ∀ b, decide (r2.take 1 = [44]) = b → mtV (mOp gEq (mAt 3) (mC (.str ","))) ρ = .ok b ρ := fun b hb => tv_b (op_ok hs c_ok ((seq_str (b := [44])).trans (by rw [hb])))
    have hq1 : mOp gIx (mVar 3) (mC (.int 1)) ρ = .ok (.val (.int ((p ++ t.txt).length : Nat))) ρ := op_ok (var_ok z3) c_ok rfl
    have hq0 : mOp gIx (mVar 3) (mC (.int 0)) ρ = .ok (.val t.d) ρ := op_ok (var_ok z3) c_ok rfl
    have hqp : mOp gAdd (mOp gIx (mVar 3) (mC (.int 1))) (mC (.int 1)) ρ = .ok (.val (.int (((p ++ t.txt).length : Nat) + 1))) ρ := op_ok hq1 c_ok rfl
    cases r2 with
    | nil =>
      have hP : rdP k w r = none := by unfold rdP; rw [er]
      rw [hP]
      rw [seq_if_f (t2 false rfl)]
      have s2 : mSet (gN 4) (mIfE (mtV (mOp gEq (mSl (mVar 0) (moS (mOp gIx (mVar 3) (mC (.int 1)))) (moS (mOp gAdd (mOp gIx (mVar 3) (mC (.int 1))) (mC (.int 1))))) (mC (.str ",")))) (mFn 2 vr (mCons (mVar 0) (mCons (mOp gAdd (mOp gIx (mVar 3) (mC (.int 1))) (mC (.int 1))) mNil))) (mC .non)) ρ = .nx (ρ.set 4 (.val .non)) :=
        set_nx ((ife_f (t3 false rfl)).trans c_ok) (by rw [← hρ]; rfl)
      rw [seq_nx s2]
      exact ⟨_, seq_if_t (or_t (tv_b (op_ok (var_ok (d := .non) (by rw [← hρ]; rfl)) c_ok rfl))) (ret_rt c_ok)⟩
    | cons a r2 =>
      rw [show ((a :: r2).take 1) = [a] from rfl] at hs t2 t3
      have hx3 : x = (p ++ t.txt ++ [a]) ++ r2 := by rw [hx2]; simp
      have hl3 : (((p ++ t.txt).length : Nat) : Int) + 1 = ((p ++ t.txt ++ [a]).length : Nat) := by rw [List.length_append (bs := [a])]; simp
      have hlx : ∀ q : List Nat, ∀ y : List Nat, x = q ++ y → ((x.length - y.length : Nat) : Int) = (q.length : Nat) := fun q y h => by
        have := congrArg List.length h
        rw [List.length_append] at this
        omega
      rw [hl3] at hqp
      by_cases h41 : a = 41
      · subst h41
        have hP : rdP k w r = some (.a1 w t, r2) := by unfold rdP; rw [er]; rfl
        rw [hP]
        refine ⟨ρ, (seq_if_t (t2 true rfl) (ret_rt (tup_ok (cons_ok (tup_ok (cons_ok c_ok (cons_ok (var_ok z1) (cons_ok (tup_ok (cons_ok hq0 nil_ok) (by show 1 ≤ 1000000; decide)) nil_ok))) (by show 3 ≤ 1000000; decide)) (cons_ok hqp nil_ok)) (by show 2 ≤ 1000000; decide)))).trans ?_⟩
        show Out.rt (.val (.tup [_, .int _])) _ = Out.rt (.val (.tup [_, .int _])) _
        rw [hlx _ _ hx3]
        rfl
      · have d41 : decide ([a] = [41]) = false := decide_eq_false (by simpa using h41)
        rw [seq_if_f (t2 false d41)]
        by_cases h44 : a = 44
        · subst h44
          rw [c40_cons] at a3
          obtain ⟨ρ2, e2⟩ := ih (p ++ t.txt ++ [44]) r2 hx3 (by omega)
          have hargs := cons_ok (var_ok z0) (cons_ok hqp nil_ok)
          have s2 : mSet (gN 4) (mIfE (mtV (mOp gEq (mSl (mVar 0) (moS (mOp gIx (mVar 3) (mC (.int 1)))) (moS (mOp gAdd (mOp gIx (mVar 3) (mC (.int 1))) (mC (.int 1))))) (mC (.str ",")))) (mFn 2 vr (mCons (mVar 0) (mCons (mOp gAdd (mOp gIx (mVar 3) (mC (.int 1))) (mC (.int 1))) mNil))) (mC .non)) ρ = .nx (ρ.set 4 (.val (rdD x (rdL k r2)))) :=
            set_nx ((ife_t (t3 true rfl)).trans (fn_ok hargs rfl e2)) (by rw [← hρ]; rfl)
          rw [seq_nx s2]
          cases er2 : rdL k r2 with
          | none =>
            have hP : rdP k w r = none := by
              unfold rdP
              rw [er]
              dsimp only
              rw [if_neg h41, if_pos rfl, er2]
            rw [hP]
            exact ⟨_, seq_if_t (or_t (tv_b (op_ok (var_ok (d := .non) (by rw [← hρ]; rfl)) c_ok rfl))) (ret_rt c_ok)⟩
          | some q =>
            obtain ⟨u, r3⟩ := q
            obtain ⟨hu, _, _⟩ := rdL_txt er2
            have hx4 : x = (p ++ t.txt ++ [44] ++ u.txt) ++ r3 := by rw [List.append_assoc _ u.txt r3, ← hu]; exact hx3
            have hD2 : rdD x (some (u, r3)) = .tup [u.d, .int ((p ++ t.txt ++ [44] ++ u.txt).length : Nat)] := by
              show D.tup [u.d, .int ((x.length - r3.length : Nat) : Int)] = _
              rw [hlx _ _ hx4]
            rw [hD2]
            generalize hρ4 : (ρ.set 4 (.val (.tup [u.d, .int ((p ++ t.txt ++ [44] ++ u.txt).length : Nat)]))) = ρ4
            have y0 : ρ4[0]? = some (.val (.str (S x))) := by rw [← hρ4, ← hρ]; rfl
            have y1 : ρ4[1]? = some (.val (.str (S w))) := by rw [← hρ4, ← hρ]; rfl
            have y3 : ρ4[3]? = some (.val (.tup [t.d, .int ((p ++ t.txt).length : Nat)])) := by rw [← hρ4, ← hρ]; rfl
            have y4 : ρ4[4]? = some (.val (.tup [u.d, .int ((p ++ t.txt ++ [44] ++ u.txt).length : Nat)])) := by rw [← hρ4, ← hρ]; rfl
            have hs4 := at_sign (i := 4) hx' hx4 y0 y4
            have hn1 : mtV (mOp gIsN (mVar 4) (mC .non)) ρ4 = .ok false ρ4 := tv_b (op_ok (var_ok y4) c_ok rfl)
            have fin : ∀ b : Bool, decide (r3.take 1 = [41]) = b → mtOr (mtV (mOp gIsN (mVar 4) (mC .non))) (mtV (mOp gNe (mSl (mVar 0) (moS (mOp gIx (mVar 4) (mC (.int 1)))) (moS (mOp gAdd (mOp gIx (mVar 4) (mC (.int 1))) (mC (.int 1))))) (mC (.str ")")))) ρ4 = .ok (!b) ρ4 := fun b hb => by
              rw [or_f hn1]
              exact tv_b (op_ok hs4 c_ok ((sne_str (b := [41])).trans (by rw [hb])))
            cases r3 with
            | nil =>
              have hP : rdP k w r = none := by
                unfold rdP
                rw [er]
                dsimp only
                rw [if_neg h41, if_pos rfl, er2]
              rw [hP]
              exact ⟨_, seq_if_t (fin false rfl) (ret_rt c_ok)⟩
            | cons b r3 =>
              by_cases hb : b = 41
              · subst hb
                have hP : rdP k w r = some (.a2 w t u, r3) := by
                  unfold rdP
                  rw [er]
                  dsimp only
                  rw [if_neg h41, if_pos rfl, er2]
                  rfl
                rw [hP]
                have hx5 : x = (p ++ t.txt ++ [44] ++ u.txt ++ [41]) ++ r3 := by rw [hx4]; simp
                have hl5 : (((p ++ t.txt ++ [44] ++ u.txt).length : Nat) : Int) + 1 = ((p ++ t.txt ++ [44] ++ u.txt ++ [41]).length : Nat) := by rw [List.length_append (bs := [41])]; simp
                have g0 : mOp gIx (mVar 3) (mC (.int 0)) ρ4 = .ok (.val t.d) ρ4 := op_ok (var_ok y3) c_ok rfl
                have g1 : mOp gIx (mVar 4) (mC (.int 0)) ρ4 = .ok (.val u.d) ρ4 := op_ok (var_ok y4) c_ok rfl
                have g2 : mOp gAdd (mOp gIx (mVar 4) (mC (.int 1))) (mC (.int 1)) ρ4 = .ok (.val (.int (((p ++ t.txt ++ [44] ++ u.txt).length : Nat) + 1))) ρ4 := op_ok (op_ok (var_ok y4) c_ok (r := .val (.int ((p ++ t.txt ++ [44] ++ u.txt).length : Nat))) rfl) c_ok rfl
                rw [hl5] at g2
                refine ⟨ρ4, ((seq_if_f (fin true rfl)).trans (ret_rt (tup_ok (cons_ok (tup_ok (cons_ok c_ok (cons_ok (var_ok y1) (cons_ok (tup_ok (cons_ok g0 (cons_ok g1 nil_ok)) (by show 2 ≤ 1000000; decide)) nil_ok))) (by show 3 ≤ 1000000; decide)) (cons_ok g2 nil_ok)) (by show 2 ≤ 1000000; decide)))).trans ?_⟩
                show Out.rt (.val (.tup [_, .int _])) _ = Out.rt (.val (.tup [_, .int _])) _
                rw [hlx _ _ hx5]
                rfl
              · have hP : rdP k w r = none := by
                  unfold rdP
                  rw [er]
                  dsimp only
                  rw [if_neg h41, if_pos rfl, er2]
                  dsimp only
                  rw [if_neg hb]
                rw [hP]
                exact ⟨_, seq_if_t (fin false (decide_eq_false (by simpa using hb))) (ret_rt c_ok)⟩
        · have hP : rdP k w r = none := by
            unfold rdP
            rw [er]
            dsimp only
            rw [if_neg h41, if_neg h44]
          rw [hP]
          have d44 : decide ([a] = [44]) = false := decide_eq_false (by simpa using h44)
          have s2 : mSet (gN 4) (mIfE (mtV (mOp gEq (mSl (mVar 0) (moS (mOp gIx (mVar 3) (mC (.int 1)))) (moS (mOp gAdd (mOp gIx (mVar 3) (mC (.int 1))) (mC (.int 1))))) (mC (.str ",")))) (mFn 2 vr (mCons (mVar 0) (mCons (mOp gAdd (mOp gIx (mVar 3) (mC (.int 1))) (mC (.int 1))) mNil))) (mC .non)) ρ = .nx (ρ.set 4 (.val .non)) :=
            set_nx ((ife_f (t3 false d44)).trans c_ok) (by rw [← hρ]; rfl)
          rw [seq_nx s2]
          exact ⟨_, seq_if_t (or_t (tv_b (op_ok (var_ok (d := .non) (by rw [← hρ]; rfl)) c_ok rfl))) (ret_rt c_ok)⟩
end K84
end
section
set_option Elab.async false
set_option linter.all false
set_option maxRecDepth 100000
set_option maxHeartbeats 400000
/-! the plain law: the law's own reader, whole -/
namespace K84
open PySem PySem.Spec PyProof.Rows L2 PD NdefX ClX StX SX TL
open NumText (digitsVal AllDigits)
theorem par_nx {i j : Nat} {ms : MA} {ρ ρ1 ρ2 ρ3 : En} {a b : D} (h : ms ρ = .ok [a, b] ρ1) (h1 : gN i a ρ1 = some ρ2) (h2 : gN j b ρ2 = some ρ3) : mPar i j ms ρ = .nx ρ3 := by
  unfold mPar
  rw [h]
  show (match gN i a ρ1 with | some ρ2 => (match gN j b ρ2 with | some ρ3 => Out.nx ρ3 | none => .no) | none => .no) = _
  rw [h1]
  show (match gN j b ρ2 with | some ρ3 => Out.nx ρ3 | none => .no) = _
  rw [h2]
theorem number_read {x p r w : List Nat} (hx : x.length < 100000) (hn : nd x ≤ 500) (he : x = p ++ r) : ∃ ρ', v__law_read_number [.val (.str (S x)), .val (.str (S w)), .val (.int (p.length : Nat))] = .ok (.val (rdD x (if canon (r.takeWhile dig) = true then some (.of w (digitsVal (r.takeWhile dig)), r.dropWhile dig) else none))) ρ' := by
  have hx' : x.length ≤ top1 := by show _ ≤ 1000000; omega
  have hpl : p.length ≤ x.length := by rw [he, List.length_append]; omega
  have hrun : runN (fun c => decide (c ∈ digL)) x p.length = (r.takeWhile dig).length := by rw [he]; exact run_app
  have hdl : (r.takeWhile dig).length ≤ 500 := by
    have := nd_tw (p := p) (l := r)
    rw [← he] at this
    omega
  have hcut : cutS (S x) (some (p.length : Int)) (some ((p.length + (r.takeWhile dig).length : Nat) : Int)) = S (r.takeWhile dig) := by
    have e := cut_app (p := p) (m := r.takeWhile dig) (r := r.dropWhile dig)
    rw [tw_dw, ← he] at e
    exact e
  have s1 : mSet (gN 3) (mVar 2) [.val (.str (S x)), .val (.str (S w)), .val (.int (p.length : Nat)), .emp, .emp] = .nx [.val (.str (S x)), .val (.str (S w)), .val (.int (p.length : Nat)), .val (.int (p.length : Nat)), .emp] := rfl
  have s2 := run_loop (x := x) (cs := digL) (i := p.length) (ma := mVar 3) (mt := mVar 0) (ms := mC (.str "0123456789")) (mb := mSet (gN 3) (mOp gAdd (mVar 3) (mC (.int 1)))) (fun j => [.val (.str (S x)), .val (.str (S w)), .val (.int (p.length : Nat)), .val (.int (j : Nat)), .emp]) hx hpl (fun j => var_ok rfl) (fun j => var_ok rfl) (fun j => by rw [digs_S]; exact c_ok) (fun j => rfl)
  rw [hrun] at s2
  generalize hm : p.length + (r.takeWhile dig).length = m at *
  have s3 : mSet (gN 4) (mSl (mVar 0) (moS (mVar 2)) (moS (mVar 3))) [.val (.str (S x)), .val (.str (S w)), .val (.int (p.length : Nat)), .val (.int (m : Nat)), .emp] = .nx [.val (.str (S x)), .val (.str (S w)), .val (.int (p.length : Nat)), .val (.int (m : Nat)), .val (.str (S (r.takeWhile dig)))] := by
    refine set_nx (sl_ok hx' (var_ok rfl) (var_ok rfl) rfl (var_ok rfl) rfl) ?_
    show some _ = _
    rw [hcut]
    rfl
  have ht := digits_test (ds := r.takeWhile dig) (ρ := [.val (.str (S x)), .val (.str (S w)), .val (.int (p.length : Nat)), .val (.int (m : Nat)), .val (.str (S (r.takeWhile dig)))]) (by show _ ≤ 1000000; omega) rfl
  have hr : r.length = (r.takeWhile dig).length + (r.dropWhile dig).length := by
    have e := congrArg List.length (tw_dw (q := dig) r)
    rw [List.length_append] at e
    exact e.symm
  have hq : m = x.length - (r.dropWhile dig).length := by
    have e := congrArg List.length he
    rw [List.length_append] at e
    omega
  suffices H : ∃ ρ', m__law_read_number [.val (.str (S x)), .val (.str (S w)), .val (.int (p.length : Nat)), .emp, .emp] = .rt (.val (rdD x (if canon (r.takeWhile dig) = true then some (.of w (digitsVal (r.takeWhile dig)), r.dropWhile dig) else none))) ρ' from by
    obtain ⟨ρ', e⟩ := H
    exact ⟨_, run_rt (n := 3) (N := 5) (m := m__law_read_number) (args := [.val (.str (S x)), .val (.str (S w)), .val (.int (p.length : Nat))]) e⟩
  unfold m__law_read_number
  rw [seq_nx s1, seq_nx s2, seq_nx s3]
  by_cases hc : canon (r.takeWhile dig) = true
  · rw [hc] at ht
    rw [if_pos hc, seq_if_f ht]
    have h0 : r.takeWhile dig ≠ [] := fun e => by rw [e] at hc; cases hc
    have hD : rdD x (some (.of w (digitsVal (r.takeWhile dig)), r.dropWhile dig)) = .tup [.tup [.str "of", .str (S w), .int (digitsVal (r.takeWhile dig) : Nat)], .int (m : Nat)] := by
      show D.tup [_, .int ((x.length - (r.dropWhile dig).length : Nat) : Int)] = _
      rw [← hq]
      rfl
    rw [hD]
    exact ⟨_, ret_rt (tup_ok (cons_ok (tup_ok (cons_ok c_ok (cons_ok (var_ok rfl) (cons_ok (b_ok (cons_ok (var_ok rfl) nil_ok) (int_digits dig_all h0 hdl)) nil_ok))) (by show 3 ≤ 1000000; decide)) (cons_ok (var_ok rfl) nil_ok)) (by show 2 ≤ 1000000; decide))⟩
  · rw [show canon (r.takeWhile dig) = false from by simpa using hc] at ht
    rw [if_neg hc]
    exact ⟨_, seq_if_t ht (ret_rt c_ok)⟩
theorem wok_low {l : List Nat} : WOk (l.takeWhile low) ↔ 1 ≤ (l.takeWhile low).length ∧ (l.takeWhile low).length ≤ 8 :=
  ⟨fun h => h.l, fun h => ⟨h, fun c hc => (abc_mem c).mp (of_decide_eq_true (tw_all l c hc))⟩⟩
theorem len_test {w : List Nat} {ρ : En} (hl : w.length ≤ top1) (h : ρ[3]? = some (.val (.str (S w)))) : mtNot (mtV (mChain gLt gLt (mC (.int 0)) (mB gLen (mCons (mVar 3) mNil)) (mC (.int 9)))) ρ = .ok (!decide (1 ≤ w.length ∧ w.length ≤ 8)) ρ := by
  have hb : mB gLen (mCons (mVar 3) mNil) ρ = .ok (.val (.int (w.length : Nat))) ρ := b_ok (cons_ok (var_ok h) nil_ok) (len_S hl)
  refine not_ok (tv_b ?_)
  by_cases c : 1 ≤ w.length
  · refine chain_t c_ok hb (iff_t lt_int (by show (0 : Int) < (w.length : Nat); omega)) c_ok ((lt_int).trans ?_)
    rw [decide_eq_decide.mpr (show ((w.length : Nat) : Int) < 9 ↔ (1 ≤ w.length ∧ w.length ≤ 8) from by omega)]
  · rw [decide_eq_false (fun z => c z.1)]
    exact chain_f c_ok hb (iff_f lt_int (by show ¬ (0 : Int) < (w.length : Nat); omega))
theorem law_read_ok {x : List Nat} (hx : x.length < 100000) (hn : nd x ≤ 500) : ∀ (k : Nat) (p l : List Nat), x = p ++ l → c40 l < k → ∃ ρ', v__law_read k [.val (.str (S x)), .val (.int (p.length : Nat))] = .ok (.val (rdD x (rdL k l))) ρ'
  | 0, _, _, _, h => absurd h (Nat.not_lt_zero _)
  | k + 1, p, l, he, hk => by
    have hx' : x.length ≤ top1 := by show _ ≤ 1000000; omega
    have hpl : p.length ≤ x.length := by rw [he, List.length_append]; omega
    have hll : l.length ≤ x.length := by rw [he, List.length_append]; omega
    have hrun : runN (fun c => decide (c ∈ abcL)) x p.length = (l.takeWhile low).length := by rw [he]; exact run_app
    have s1 : mSet (gN 2) (mVar 1) [.val (.str (S x)), .val (.int (p.length : Nat)), .emp, .emp, .emp] = .nx [.val (.str (S x)), .val (.int (p.length : Nat)), .val (.int (p.length : Nat)), .emp, .emp] := rfl
    have s2 := run_loop (x := x) (cs := abcL) (i := p.length) (ma := mVar 2) (mt := mVar 0) (ms := mC (.str "abcdefghijklmnopqrstuvwxyz")) (mb := mSet (gN 2) (mOp gAdd (mVar 2) (mC (.int 1)))) (fun j => [.val (.str (S x)), .val (.int (p.length : Nat)), .val (.int (j : Nat)), .emp, .emp]) hx hpl (fun j => var_ok rfl) (fun j => var_ok rfl) (fun j => by rw [← abc_S]; exact c_ok) (fun j => rfl)
    rw [hrun] at s2
    have hsp : x = p ++ (l.takeWhile low ++ l.dropWhile low) := by rw [tw_dw]; exact he
    have hpe : ((p.length + (l.takeWhile low).length : Nat) : Int) = ((p ++ l.takeWhile low).length : Nat) := by rw [List.length_append]
    have hc1 : cutS (S x) (some (p.length : Int)) (some ((p.length + (l.takeWhile low).length : Nat) : Int)) = S (l.takeWhile low) := by
      rw [hsp]; exact cut_app
    have hc2 : cutS (S x) (some ((p.length + (l.takeWhile low).length : Nat) : Int)) (some (((p.length + (l.takeWhile low).length : Nat) : Int) + 1)) = S ((l.dropWhile low).take 1) := by
      rw [hpe, hsp, ← List.append_assoc]
      exact take1
    have hwl := tw_le (p := low) l
    have hwk := wok_low (l := l)
    have hwc := tw_c40 l
    rw [rdL_P]
    generalize l.takeWhile low = w at *
    generalize hm : p.length + w.length = m at *
    have s3 : mPar 3 4 (mCons (mSl (mVar 0) (moS (mVar 1)) (moS (mVar 2))) (mCons (mSl (mVar 0) (moS (mVar 2)) (moS (mOp gAdd (mVar 2) (mC (.int 1))))) mNil)) [.val (.str (S x)), .val (.int (p.length : Nat)), .val (.int (m : Nat)), .emp, .emp] = .nx [.val (.str (S x)), .val (.int (p.length : Nat)), .val (.int (m : Nat)), .val (.str (S w)), .val (.str (S ((l.dropWhile low).take 1)))] := by
      refine par_nx (cons_ok (sl_ok hx' (var_ok rfl) (var_ok rfl) rfl (var_ok rfl) rfl) (cons_ok (sl_ok hx' (var_ok rfl) (var_ok rfl) rfl (op_ok (var_ok rfl) c_ok (r := .val (.int ((m : Int) + 1))) rfl) rfl) nil_ok)) (ρ2 := [.val (.str (S x)), .val (.int (p.length : Nat)), .val (.int (m : Nat)), .val (.str (S w)), .emp]) ?_ ?_
      · show some _ = _
        rw [hc1]
        rfl
      · show some _ = _
        rw [hc2]
        rfl
    suffices H : ∃ ρ', m__law_read (runB 3 5 (m__law_read_parts (v__law_read k))) [.val (.str (S x)), .val (.int (p.length : Nat)), .emp, .emp, .emp] = .rt (.val (rdD x (if WOk w then (match l.dropWhile low with
      | [] => none
      | c :: r => if c = 58 then (if canon (r.takeWhile dig) = true then some (.of w (digitsVal (r.takeWhile dig)), r.dropWhile dig) else none)
        else if c = 40 then rdP k w r else none) else none))) ρ' from by
      obtain ⟨ρ', e⟩ := H
      exact ⟨_, run_rt (n := 2) (N := 5) (m := m__law_read (runB 3 5 (m__law_read_parts (v__law_read k)))) (args := [.val (.str (S x)), .val (.int (p.length : Nat))]) e⟩
    unfold m__law_read
    rw [seq_nx s1, seq_nx s2, seq_nx s3]
    generalize hρ : ([.val (.str (S x)), .val (.int (p.length : Nat)), .val (.int (m : Nat)), .val (.str (S w)), .val (.str (S ((l.dropWhile low).take 1)))] : En) = ρ
    have z0 : ρ[0]? = some (.val (.str (S x))) := by rw [← hρ]; rfl
    have z2 : ρ[2]? = some (.val (.int (m : Nat))) := by rw [← hρ]; rfl
    have z3 : ρ[3]? = some (.val (.str (S w))) := by rw [← hρ]; rfl
    have z4 : ρ[4]? = some (.val (.str (S ((l.dropWhile low).take 1)))) := by rw [← hρ]; rfl
    have t1 := len_test (w := w) (ρ := ρ) (by show _ ≤ 1000000; omega) z3
    rw [← decide_eq_decide.mpr hwk] at t1
    have t2 : mtV (mOp gNotIn (mVar 4) (mTup (mCons (mC (.str ":")) (mCons (mC (.str "(")) mNil)))) ρ = .ok (!(decide ((l.dropWhile low).take 1 = [58]) || decide ((l.dropWhile low).take 1 = [40]))) ρ := by
      refine tv_b (op_ok (var_ok z4) (tup_ok (cons_ok c_ok (cons_ok c_ok nil_ok)) (by show 2 ≤ 1000000; decide)) (notin2.trans ?_))
      rw [show (decide (S ((l.dropWhile low).take 1) = ":")) = decide ((l.dropWhile low).take 1 = [58]) from decide_eq_decide.mpr (S_inj (b := [58])), show (decide (S ((l.dropWhile low).take 1) = "(")) = decide ((l.dropWhile low).take 1 = [40]) from decide_eq_decide.mpr (S_inj (b := [40]))]
    have t3 : mtV (mOp gEq (mVar 4) (mC (.str ":"))) ρ = .ok (decide ((l.dropWhile low).take 1 = [58])) ρ := tv_b (op_ok (var_ok z4) c_ok (seq_str (b := [58])))
    have hqp : mOp gAdd (mVar 2) (mC (.int 1)) ρ = .ok (.val (.int ((m : Int) + 1))) ρ := op_ok (var_ok z2) c_ok rfl
    by_cases cw : WOk w
    · rw [if_pos cw]
      rw [decide_eq_true cw] at t1
      have tt := (or_f t1).trans t2
      cases hd : l.dropWhile low with
      | nil =>
        rw [hd] at tt
        exact ⟨_, seq_if_t tt (ret_rt c_ok)⟩
      | cons c r =>
        rw [hd] at tt t3 hsp
        have ht1 : ∀ d, ((c :: r).take 1 = [d]) ↔ c = d := fun d => by simp
        have hx3 : x = (p ++ w ++ [c]) ++ r := by rw [hsp]; simp
        have hl3 : ((m : Int) + 1) = ((p ++ w ++ [c]).length : Nat) := by rw [← hm, List.length_append, List.length_append]; simp
        rw [hl3] at hqp
        have hargs := cons_ok (var_ok z0) (cons_ok (var_ok z3) (cons_ok hqp nil_ok))
        dsimp only
        by_cases h58 : c = 58
        · subst h58
          rw [if_pos rfl]
          rw [decide_eq_true ((ht1 58).mpr rfl)] at tt t3
          obtain ⟨ρ2, e2⟩ := number_read (w := w) hx hn hx3
          exact ⟨_, (seq_if_f tt).trans (ret_rt ((ife_t t3).trans (fn_ok hargs rfl e2)))⟩
        · rw [if_neg h58]
          rw [decide_eq_false (fun z => h58 ((ht1 58).mp z))] at tt t3
          by_cases h4 : c = 40
          · subst h4
            rw [if_pos rfl]
            rw [decide_eq_true ((ht1 40).mpr rfl)] at tt
            have hck : c40 r < k := by
              have e := congrArg c40 (he.symm.trans hsp)
              rw [c40_app, c40_app, c40_app, hwc, c40_cons, if_pos rfl] at e
              omega
            obtain ⟨ρ2, e2⟩ := parts_read (w := w) hx (law_read_ok hx hn k) hx3 hck
            exact ⟨_, (seq_if_f tt).trans (ret_rt ((ife_f t3).trans (fn_ok hargs rfl e2)))⟩
          · rw [if_neg h4]
            rw [decide_eq_false (fun z => h4 ((ht1 40).mp z))] at tt
            exact ⟨_, seq_if_t tt (ret_rt c_ok)⟩
    · rw [if_neg cw]
      rw [decide_eq_false cw] at t1
      exact ⟨_, seq_if_t (or_t t1) (ret_rt c_ok)⟩
end K84
end
section
set_option Elab.async false
set_option linter.all false
set_option maxRecDepth 100000
set_option maxHeartbeats 400000
/-! the plain law: spoilt texts -/
namespace K84
open PySem PySem.Spec PyProof.Rows L2 PD NdefX ClX StX SX TL
theorem for_ok {g : MG} {mb : MS} (P : Nat → En → Prop) : ∀ (ds : List D) (i : Nat) (ρ : En), P i ρ → (∀ d ∈ ds, ∀ i ρ, P i ρ → ∃ ρ1 ρ2, g d ρ = some ρ1 ∧ mb ρ1 = .nx ρ2 ∧ P (i + 1) ρ2) → ∃ ρ', forGo g mb ds ρ = .nx ρ' ∧ P (i + ds.length) ρ'
  | [], i, ρ, h, _ => ⟨ρ, rfl, h⟩
  | d :: r, i, ρ, h, hs => by
    obtain ⟨ρ1, ρ2, h1, h2, h3⟩ := hs d List.mem_cons_self i ρ h
    obtain ⟨ρ', k1, k2⟩ := for_ok P r (i + 1) ρ2 h3 fun d' hd => hs d' (List.mem_cons_of_mem _ hd)
    refine ⟨ρ', ?_, by rw [List.length_cons, show i + (r.length + 1) = i + 1 + r.length from by omega]; exact k2⟩
    rw [forGo, h1]
    dsimp only
    rw [h2]
    exact k1
theorem cut_lo {x : List Nat} {a : Nat} (ha : a ≤ x.length) : cutS (S x) none (some (a : Int)) = S (x.take a) := by
  refine TL.ext_tl ?_
  show ((x.drop 0).take (HT.sIx (S x).length (S x).length (some (a : Int)) - 0)).toArray.toList = (x.take a).toArray.toList
  rw [HT.sIx_nat, S_len', Nat.min_eq_left ha]
  rfl
theorem cut_hi {x : List Nat} {a : Nat} : cutS (S x) (some (a : Int)) none = S (x.drop a) := by
  refine TL.ext_tl ?_
  show ((x.drop (HT.sIx (S x).length 0 (some (a : Int)))).take ((S x).length - HT.sIx (S x).length 0 (some (a : Int)))).toArray.toList = (x.drop a).toArray.toList
  rw [HT.sIx_nat, S_len']
  show (x.drop (min a x.length)).take (x.length - min a x.length) = x.drop a
  by_cases h : a ≤ x.length
  · rw [Nat.min_eq_left h, ← List.length_drop, List.take_length]
  · rw [Nat.min_eq_right (by omega), List.drop_of_length_le (by omega), List.drop_of_length_le (i := a) (by omega)]
    exact List.take_nil
theorem sl_lo {x : List Nat} {m mh : M} {ρ : En} {a : Nat} {ra : RV} (hx : x.length ≤ top1) (ha : a ≤ x.length) (h : m ρ = .ok (.val (.str (S x))) ρ) (hl : mh ρ = .ok ra ρ) (hr : ra.d = .int (a : Nat)) : mSl m moN (moS mh) ρ = .ok (.val (.str (S (x.take a)))) ρ := by
  have e1 : moS mh ρ = .ok (some (a : Int)) ρ := by unfold moS; rw [hl]; show (match ra.d with | .int i => Res.ok (some i) ρ | _ => .no) = _; rw [hr]
  unfold mSl
  rw [h]
  show (moS mh ρ).bind _ = _
  rw [e1]
  show optR (if (S x).length ≤ top1 then some (RV.val (.str (cutS (S x) none (some (a : Int))))) else none) ρ = _
  rw [if_pos (by rw [S_len']; exact hx), cut_lo ha]
  rfl
theorem sl_hi {x : List Nat} {m ml : M} {ρ : En} {a : Nat} {ra : RV} (hx : x.length ≤ top1) (h : m ρ = .ok (.val (.str (S x))) ρ) (hl : ml ρ = .ok ra ρ) (hr : ra.d = .int (a : Nat)) : mSl m (moS ml) moN ρ = .ok (.val (.str (S (x.drop a)))) ρ := by
  have e1 : moS ml ρ = .ok (some (a : Int)) ρ := by unfold moS; rw [hl]; show (match ra.d with | .int i => Res.ok (some i) ρ | _ => .no) = _; rw [hr]
  unfold mSl
  rw [h]
  show (moS ml ρ).bind _ = _
  rw [e1]
  show optR (if (S x).length ≤ top1 then some (RV.val (.str (cutS (S x) (some (a : Int)) none))) else none) ρ = _
  rw [if_pos (by rw [S_len']; exact hx), cut_hi]
  rfl
/-- no longer than x by more than j, and so are its digits and its parentheses -/
def Near (x0 : List Nat) (j : Nat) (x : List Nat) : Prop := x.length ≤ x0.length + j ∧ (∀ p : Nat → Bool, (x.filter p).length ≤ (x0.filter p).length + j) ∧ ∀ c ∈ x, c ∈ x0 ∨ c < 128
theorem Near.step {x0 x y : List Nat} {j a b : Nat} {c : List Nat} (h : Near x0 j x) (hc : c.length ≤ 1) (hcl : ∀ d ∈ c, d < 128) (hab : a ≤ b) (he : y = x.take a ++ (c ++ x.drop b)) : Near x0 (j + 1) y := by
  have hsub : (x.drop b).Sublist (x.drop a) := by
    rw [show b = a + (b - a) from by omega, ← List.drop_drop]
    exact List.drop_sublist _ _
  have hx : x = x.take a ++ x.drop a := (List.take_append_drop a x).symm
  refine ⟨?_, ?_, fun d hd => ?_⟩
  · have h1 := h.1
    have h2 := congrArg List.length hx
    have h3 := hsub.length_le
    rw [List.length_append] at h2
    rw [he, List.length_append, List.length_append]
    omega
  · intro p
    have h1 := h.2.1 p
    have h2 : (x.filter p).length = ((x.take a ++ x.drop a).filter p).length := congrArg (fun l => (l.filter p).length) hx
    have h3 := (hsub.filter p).length_le
    have h4 := (List.length_filter_le p c)
    rw [List.filter_append, List.length_append] at h2
    rw [he, List.filter_append, List.filter_append, List.length_append, List.length_append]
    omega
  · rw [he] at hd
    rcases List.mem_append.mp hd with e | e
    · exact h.2.2 d (List.mem_of_mem_take e)
    · rcases List.mem_append.mp e with e | e
      · exact .inr (hcl d e)
      · exact h.2.2 d (List.mem_of_mem_drop e)
def P84 (x0 : List Nat) (j : Nat) (ρ : En) : Prop := ∃ p0 p1 x v2 v3 v4 v5, PotOk p0 p1 ∧ ρ = [potD p0 p1, .val (.str (S x)), v2, v3, v4, v5] ∧ (v2.isOwn = false ∧ v3.isOwn = false ∧ v4.isOwn = false ∧ v5.isOwn = false) ∧ Near x0 j x
theorem gN_set {i : Nat} {d : D} {ρ : En} {s : Sl} (h : ρ[i]? = some s) (hs : s.isOwn = false) : gN i d ρ = some (ρ.set i (.val d)) := by
  unfold gN
  rw [h]
  cases s with
  | own o => cases hs
  | val d => rfl
  | emp => rfl
theorem sub_2 {T : M} {ms : MA} {ρ : En} {a : RV} (h : T ρ = .ok a ρ) (k : ms ρ = .ok [] ρ) : mCons T ms ρ = .ok [a.d] ρ := cons_ok h k
theorem spoil_lst {a b c : M} {ρ : En} {x y z : D} {k : Int} {mk : M} {d : D} (ha : a ρ = .ok (.val x) ρ) (hb : b ρ = .ok (.val y) ρ) (hc : c ρ = .ok (.val z) ρ) (hk : mk ρ = .ok (.val (.int k)) ρ) (hd : atI [x, y, z] k = some d) : mOp gIx (mLst (mCons a (mCons b (mCons c mNil)))) mk ρ = .ok (.val d) ρ := by
  refine op_ok (lst_ok (cons_ok ha (cons_ok hb (cons_ok hc nil_ok))) (by show 3 ≤ 1000000; decide)) hk ?_
  show (atI [x, y, z] k).map RV.val = _
  rw [hd]
  rfl
theorem sign15 {r : Int} (h0 : 0 ≤ r) (h1 : r < 15) : ∃ c : Nat, c < 128 ∧ gIx (.str "abz:(),019 -_A\n") (.int r) = some (.val (.str (S [c]))) := by
  obtain ⟨n, rfl⟩ := Int.eq_ofNat_of_zero_le h0
  have hn : n < 15 := by omega
  match n, hn with
  | 0, _ => exact ⟨97, by decide, rfl⟩
  | 1, _ => exact ⟨98, by decide, rfl⟩
  | 2, _ => exact ⟨122, by decide, rfl⟩
  | 3, _ => exact ⟨58, by decide, rfl⟩
  | 4, _ => exact ⟨40, by decide, rfl⟩
  | 5, _ => exact ⟨41, by decide, rfl⟩
  | 6, _ => exact ⟨44, by decide, rfl⟩
  | 7, _ => exact ⟨48, by decide, rfl⟩
  | 8, _ => exact ⟨49, by decide, rfl⟩
  | 9, _ => exact ⟨57, by decide, rfl⟩
  | 10, _ => exact ⟨32, by decide, rfl⟩
  | 11, _ => exact ⟨45, by decide, rfl⟩
  | 12, _ => exact ⟨95, by decide, rfl⟩
  | 13, _ => exact ⟨65, by decide, rfl⟩
  | 14, _ => exact ⟨10, by decide, rfl⟩
def spB : MS := mSeq (mPar 3 4 (mCons (mFnO 2 v__law_draw 0 (mCons (mOp gAdd (mB gLen (mCons (mVar 1) mNil)) (mC (.int 1))) mNil)) (mCons (mFnO 2 v__law_draw 0 (mCons (mC (.int 3)) mNil)) mNil))) (mSeq (mSet (gN 5) (mOp gIx (mC (.str "abz:(),019 -_A\n")) (mFnO 2 v__law_draw 0 (mCons (mC (.int 15)) mNil)))) (mSet (gN 1) (mOp gIx (mLst (mCons (mOp gAdd (mSl (mVar 1) moN (moS (mVar 3))) (mSl (mVar 1) (moS (mOp gAdd (mVar 3) (mC (.int 1)))) moN)) (mCons (mOp gAdd (mOp gAdd (mSl (mVar 1) moN (moS (mVar 3))) (mVar 5)) (mSl (mVar 1) (moS (mVar 3)) moN)) (mCons (mOp gAdd (mOp gAdd (mSl (mVar 1) moN (moS (mVar 3))) (mVar 5)) (mSl (mVar 1) (moS (mOp gAdd (mVar 3) (mC (.int 1)))) moN)) mNil)))) (mVar 4))))
theorem spoilt_step {x0 : List Nat} (hx0 : x0.length ≤ 100000) {d : D} {j : Nat} {ρ : En} (hj : j ≤ 10) (h : P84 x0 j ρ) : ∃ ρ1 ρ2, gN 2 d ρ = some ρ1 ∧ spB ρ1 = .nx ρ2 ∧ P84 x0 (j + 1) ρ2 := by
  obtain ⟨p0, p1, x, v2, v3, v4, v5, hp, rfl, ⟨w2, w3, w4, w5⟩, hnear⟩ := h
  have hxl := hnear.1
  have hx' : x.length ≤ top1 := by show _ ≤ 1000000; omega
  refine ⟨[potD p0 p1, .val (.str (S x)), .val d, v3, v4, v5], ?_⟩
  have hl1 : (((x.length : Nat) : Int) + 1).natAbs.log2 < 9000 := Nat.lt_of_le_of_lt (lg (k := 20) (by omega)) (by decide)
  obtain ⟨r1, q0, q1, a1, a2, hq, e1⟩ := mdraw (b := (x.length : Nat) + 1) (i := 0) (ρ := [potD p0 p1, .val (.str (S x)), .val d, v3, v4, v5]) (ms := mCons (mOp gAdd (mB gLen (mCons (mVar 1) mNil)) (mC (.int 1))) mNil) hp ⟨by omega, hl1⟩ rfl (cons_ok (op_ok (b_ok (cons_ok (var_ok rfl) nil_ok) (len_S hx')) c_ok (r := .val (.int ((x.length : Nat) + 1))) rfl) nil_ok)
  obtain ⟨r2, q2, q3, b1, b2, hq2, e2⟩ := mdraw (b := 3) (i := 0) (ρ := [potD q0 q1, .val (.str (S x)), .val d, v3, v4, v5]) (ms := mCons (mC (.int 3)) mNil) hq ⟨by decide, Nat.lt_of_le_of_lt (lg (k := 2) (by decide)) (by decide)⟩ rfl (cons_ok c_ok nil_ok)
  obtain ⟨r3, q4, q5, c1, c2, hq3, e3⟩ := mdraw (b := 15) (i := 0) (ρ := [potD q2 q3, .val (.str (S x)), .val d, .val (.int r1), .val (.int r2), v5]) (ms := mCons (mC (.int 15)) mNil) hq2 ⟨by decide, Nat.lt_of_le_of_lt (lg (k := 4) (by decide)) (by decide)⟩ rfl (cons_ok c_ok nil_ok)
  obtain ⟨c, hc128, hc⟩ := sign15 c1 c2
  obtain ⟨n, rfl⟩ := Int.eq_ofNat_of_zero_le a1
  have hn : n ≤ x.length := by omega
  have s1 : mPar 3 4 (mCons (mFnO 2 v__law_draw 0 (mCons (mOp gAdd (mB gLen (mCons (mVar 1) mNil)) (mC (.int 1))) mNil)) (mCons (mFnO 2 v__law_draw 0 (mCons (mC (.int 3)) mNil)) mNil)) [potD p0 p1, .val (.str (S x)), .val d, v3, v4, v5] = .nx [potD q2 q3, .val (.str (S x)), .val d, .val (.int (n : Nat)), .val (.int r2), v5] :=
    par_nx (cons_ok e1 (cons_ok e2 nil_ok)) (ρ2 := [potD q2 q3, .val (.str (S x)), .val d, .val (.int (n : Nat)), v4, v5]) (gN_set (s := v3) rfl w3) (gN_set (s := v4) rfl w4)
  have s2 : mSet (gN 5) (mOp gIx (mC (.str "abz:(),019 -_A\n")) (mFnO 2 v__law_draw 0 (mCons (mC (.int 15)) mNil))) [potD q2 q3, .val (.str (S x)), .val d, .val (.int (n : Nat)), .val (.int r2), v5] = .nx [potD q4 q5, .val (.str (S x)), .val d, .val (.int (n : Nat)), .val (.int r2), .val (.str (S [c]))] :=
    set_nx (op_ok c_ok e3 hc) (gN_set (s := v5) rfl w5)
  generalize hρ : ([potD q4 q5, .val (.str (S x)), .val d, .val (.int (n : Nat)), .val (.int r2), .val (.str (S [c]))] : En) = ρ
  have z1 : ρ[1]? = some (.val (.str (S x))) := by rw [← hρ]; rfl
  have z3 : ρ[3]? = some (.val (.int (n : Nat))) := by rw [← hρ]; rfl
  have z4 : ρ[4]? = some (.val (.int r2)) := by rw [← hρ]; rfl
  have z5 : ρ[5]? = some (.val (.str (S [c]))) := by rw [← hρ]; rfl
  have lo := sl_lo hx' hn (var_ok z1) (var_ok z3) rfl
  have hi0 := sl_hi hx' (var_ok z1) (var_ok z3) rfl
  have hi1 := sl_hi (a := n + 1) hx' (var_ok z1) (op_ok (g := gAdd) (var_ok z3) (c_ok (d := .int 1)) (r := .val (.int ((n : Int) + 1))) rfl) rfl
  have lt : (x.take n).length ≤ x.length := by rw [List.length_take]; omega
  have ld : ∀ k, (x.drop k).length ≤ x.length := fun k => by rw [List.length_drop]; omega
  have ld0 := ld n
  have ld1 := ld (n + 1)
  have k1 : (S (x.take n ++ x.drop (n + 1))) = S (x.take n ++ ([] ++ x.drop (n + 1))) := rfl
  have i0 := op_ok lo hi1 (add_str (by omega))
  have ij := op_ok lo (var_ok z5) (add_str (b := [c]) (by show (x.take n).length + 1 ≤ _; omega))
  have i1 := op_ok ij hi0 (add_str (by rw [List.length_append]; show (x.take n).length + 1 + _ ≤ _; omega))
  have i2 := op_ok ij hi1 (add_str (by rw [List.length_append]; show (x.take n).length + 1 + _ ≤ _; omega))
  obtain ⟨y, hy, hys⟩ : ∃ y, Near x0 (j + 1) y ∧ atI [D.str (S (x.take n ++ x.drop (n + 1))), .str (S ((x.take n ++ [c]) ++ x.drop n)), .str (S ((x.take n ++ [c]) ++ x.drop (n + 1)))] r2 = some (.str (S y)) := by
    obtain ⟨m, rfl⟩ := Int.eq_ofNat_of_zero_le b1
    have hm : m < 3 := by omega
    match m, hm with
    | 0, _ => exact ⟨_, hnear.step (c := []) (by simp) (fun d hd => nomatch hd) (Nat.le_succ n) rfl, rfl⟩
    | 1, _ => exact ⟨_, hnear.step (c := [c]) (by simp) (fun d hd => by rw [List.mem_singleton.mp hd]; exact hc128) (Nat.le_refl n) (List.append_assoc _ _ _), rfl⟩
    | 2, _ => exact ⟨_, hnear.step (c := [c]) (by simp) (fun d hd => by rw [List.mem_singleton.mp hd]; exact hc128) (Nat.le_succ n) (List.append_assoc _ _ _), rfl⟩
  refine ⟨[potD q4 q5, .val (.str (S y)), .val d, .val (.int (n : Nat)), .val (.int r2), .val (.str (S [c]))], gN_set (s := v2) rfl w2, ?_, ⟨_, _, y, _, _, _, _, hq3, rfl, ⟨rfl, rfl, rfl, rfl⟩, hy⟩⟩
  unfold spB
  rw [seq_nx s1, seq_nx s2, hρ]
  exact set_nx (spoil_lst i0 i1 i2 (var_ok z4) hys) (by rw [← hρ]; rfl)
theorem Near.mono {x0 x : List Nat} {i j : Nat} (h : Near x0 i x) (hij : i ≤ j) : Near x0 j x := ⟨Nat.le_trans h.1 (by omega), fun p => Nat.le_trans (h.2.1 p) (by omega), h.2.2⟩
/-- a spoilt text is a text -/
theorem spoilt_ok {x0 : List Nat} {p0 p1 : Int} (hx0 : x0.length ≤ 100000) (hp : PotOk p0 p1) : ∃ x q0 q1 ρ', Near x0 2 x ∧ PotOk q0 q1 ∧ v__law_spoilt [potD p0 p1, .val (.str (S x0))] = .ok (.val (.str (S x))) (potD q0 q1 :: ρ') := by
  obtain ⟨r1, q0, q1, a1, a2, hq, e1⟩ := mdraw (b := 2) (i := 0) (ρ := [potD p0 p1, .val (.str (S x0)), .emp, .emp, .emp, .emp]) (ms := mCons (mC (.int 2)) mNil) hp ⟨by decide, Nat.lt_of_le_of_lt (lg (k := 2) (by decide)) (by decide)⟩ rfl (cons_ok c_ok nil_ok)
  have h0 : P84 x0 0 [potD q0 q1, .val (.str (S x0)), .emp, .emp, .emp, .emp] := ⟨q0, q1, x0, _, _, _, _, hq, rfl, ⟨rfl, rfl, rfl, rfl⟩, ⟨Nat.le_refl _, fun p => Nat.le_refl _, fun c hc => .inl hc⟩⟩
  obtain ⟨ρa, ρb, b1, b2, b3⟩ := spoilt_step hx0 (d := .int 0) (by decide) h0
  have hr : r1 = 0 ∨ r1 = 1 := by omega
  have hmi : ∃ ds ρ2, miR1 (mCons (mOp gAdd (mC (.int 1)) (mFnO 2 v__law_draw 0 (mCons (mC (.int 2)) mNil))) mNil) [potD p0 p1, .val (.str (S x0)), .emp, .emp, .emp, .emp] = .ok ds [potD q0 q1, .val (.str (S x0)), .emp, .emp, .emp, .emp] ∧ forGo (gN 2) spB ds [potD q0 q1, .val (.str (S x0)), .emp, .emp, .emp, .emp] = .nx ρ2 ∧ P84 x0 2 ρ2 := by
    have hms : mCons (mOp gAdd (mC (.int 1)) (mFnO 2 v__law_draw 0 (mCons (mC (.int 2)) mNil))) mNil [potD p0 p1, .val (.str (S x0)), .emp, .emp, .emp, .emp] = .ok [.int (1 + r1)] [potD q0 q1, .val (.str (S x0)), .emp, .emp, .emp, .emp] := cons_ok (op_ok c_ok e1 (r := .val (.int (1 + r1))) rfl) nil_ok
    unfold miR1
    rw [hms]
    rcases hr with hr | hr
    · subst hr
      refine ⟨[.int 0], ρb, rfl, ?_, ?_⟩
      · rw [forGo, b1]
        dsimp only
        rw [b2]
        rfl
      · obtain ⟨p0, p1, x, v2, v3, v4, v5, k1, k2, k3, k4⟩ := b3
        exact ⟨p0, p1, x, v2, v3, v4, v5, k1, k2, k3, k4.mono (by decide)⟩
    · subst hr
      obtain ⟨ρc, ρd, c1, c2, c3⟩ := spoilt_step hx0 (d := .int 1) (by decide) b3
      refine ⟨[.int 0, .int 1], ρd, rfl, ?_, c3⟩
      rw [forGo, b1]
      dsimp only
      rw [b2]
      dsimp only
      rw [forGo, c1]
      dsimp only
      rw [c2]
      rfl
  obtain ⟨ds, ρ2, m1, m2, s0, s1, x, v2, v3, v4, v5, k1, rfl, k3, k4⟩ := hmi
  refine ⟨x, s0, s1, _, k4, k1, run_rt (n := 2) (N := 6) (m := m__law_spoilt) (args := [potD p0 p1, .val (.str (S x0))]) (ρ' := [potD s0 s1, .val (.str (S x)), v2, v3, v4, v5]) ?_⟩
  refine (seq_nx (ρ1 := [potD s0 s1, .val (.str (S x)), v2, v3, v4, v5]) ?_).trans (ret_rt (var_ok rfl))
  unfold mFor
  rw [show miR1 _ ([potD p0 p1, .val (.str (S x0))] ++ List.replicate (6 - 2) .emp) = _ from m1]
  exact m2
end K84
end
section
set_option Elab.async false
set_option linter.all false
set_option maxRecDepth 100000
set_option maxHeartbeats 400000
/-! the plain law: equality -/
namespace K84
open PySem PySem.Spec PyProof.Rows L2 PD NdefX ClX StX SX TL
theorem vand_t {a b : M} {ρ ρ1 : En} (h : a ρ = .ok (.val (.bl true)) ρ1) : mAnd a b ρ = b ρ1 := by unfold mAnd; rw [h]; rfl
theorem vand_f {a b : M} {ρ ρ1 : En} (h : a ρ = .ok (.val (.bl false)) ρ1) : mAnd a b ρ = .ok (.val (.bl false)) ρ1 := by unfold mAnd; rw [h]; rfl
theorem eq_obs (t u : T) : vEq [.val t.ob, .val u.ob] = .ok (.val (.bl (decide (t.txt = u.txt)))) [.val t.ob, .val u.ob] := by
  refine (lenF_ok rfl).trans <| run_rt (n := 2) (N := 2) (m := m_Expression___eq__) (args := [.val t.ob, .val u.ob]) (ρ' := [.val t.ob, .val u.ob]) (ret_rt ?_)
  refine (vand_t (un_ok (var_ok rfl) (ob_isE u))).trans ?_
  exact op_ok (un_ok (var_ok rfl) (ob_text t)) (un_ok (var_ok rfl) (ob_text u)) (seq_str (a := t.txt) (b := u.txt))
theorem pair_obs (t u : T) : eqPair cls vEq t.ob u.ob = some (decide (t.txt = u.txt)) := by
  have h := eq_obs t u
  obtain ⟨c, ns, ds, e, h1, _⟩ := ob_obj t
  obtain ⟨c', ns', ds', e', h1', _⟩ := ob_obj u
  rw [e, e'] at h ⊢
  show (if cls.contains c = true ∧ cls.contains c' = true then ownEq vEq (.obj c ns ds) (.obj c' ns' ds') else none) = _
  rw [if_pos ⟨h1, h1'⟩]
  unfold ownEq
  rw [h]
theorem eqO_obs (t u : T) : gEqO t.ob u.ob = some (.val (.bl (decide (t.txt = u.txt)))) := by
  have h := pair_obs t u
  obtain ⟨c, ns, ds, e, h1, _⟩ := ob_obj t
  rw [e] at h ⊢
  show (match eqAny cls vEq (.obj c ns ds) u.ob with | some k => vb (id k) | none => none) = _
  unfold eqAny
  rw [h]
  rfl
theorem neO_obs (t u : T) : gNeO t.ob u.ob = some (.val (.bl (!decide (t.txt = u.txt)))) := by
  have h := pair_obs t u
  obtain ⟨c, ns, ds, e, h1, _⟩ := ob_obj t
  rw [e] at h ⊢
  show (match eqAny cls vEq (.obj c ns ds) u.ob with | some k => vb (not k) | none => none) = _
  unfold eqAny
  rw [h]
/-- what is no expression -/
structure Odd (d : D) : Prop where
  e : gIsE d = some (.val (.bl false))
  k : d.kind.isSome = true
  n : ∀ c ns ds, d ≠ .obj c ns ds
theorem eq_odd (t : T) {d : D} (o : Odd d) : vEq [.val t.ob, .val d] = .ok (.val (.bl false)) [.val t.ob, .val d] := by
  refine (lenF_ok rfl).trans <| run_rt (n := 2) (N := 2) (m := m_Expression___eq__) (args := [.val t.ob, .val d]) (ρ' := [.val t.ob, .val d]) (ret_rt ?_)
  exact vand_f (un_ok (var_ok rfl) o.e)
theorem pair_odd (t : T) {d : D} (o : Odd d) : eqPair cls vEq t.ob d = some false ∧ eqPair cls vEq d t.ob = some false := by
  have h := eq_odd t o
  obtain ⟨c, ns, ds, e, h1, _⟩ := ob_obj t
  rw [e] at h ⊢
  have hw : ownEq vEq (.obj c ns ds) d = some false := by unfold ownEq; rw [h]
  cases d with
  | obj c' ns' ds' => exact absurd rfl (o.n c' ns' ds')
  | non => exact ⟨(if_pos ⟨h1, o.k⟩).trans hw, (if_pos ⟨h1, o.k⟩).trans hw⟩
  | bl b => exact ⟨(if_pos ⟨h1, o.k⟩).trans hw, (if_pos ⟨h1, o.k⟩).trans hw⟩
  | int b => exact ⟨(if_pos ⟨h1, o.k⟩).trans hw, (if_pos ⟨h1, o.k⟩).trans hw⟩
  | str b => exact ⟨(if_pos ⟨h1, o.k⟩).trans hw, (if_pos ⟨h1, o.k⟩).trans hw⟩
  | lst b => exact ⟨(if_pos ⟨h1, o.k⟩).trans hw, (if_pos ⟨h1, o.k⟩).trans hw⟩
  | tup b => exact ⟨(if_pos ⟨h1, o.k⟩).trans hw, (if_pos ⟨h1, o.k⟩).trans hw⟩
  | dct b c => exact ⟨(if_pos ⟨h1, o.k⟩).trans hw, (if_pos ⟨h1, o.k⟩).trans hw⟩
theorem any_l {f : Bool → Bool} {a b : D} {k : Bool} (h : eqPair cls vEq a b = some k) (ha : ∃ c ns ds, a = .obj c ns ds) : gEqS f (eqAny cls vEq) a b = some (.val (.bl (f k))) := by
  obtain ⟨c, ns, ds, rfl⟩ := ha
  show (match eqAny cls vEq (.obj c ns ds) b with | some k => vb (f k) | none => none) = _
  unfold eqAny
  rw [h]
theorem any_r {f : Bool → Bool} {a b : D} {k : Bool} (h : eqPair cls vEq a b = some k) (hb : ∃ c ns ds, b = .obj c ns ds) : gEqS f (eqAny cls vEq) a b = some (.val (.bl (f k))) := by
  obtain ⟨c, ns, ds, rfl⟩ := hb
  have e : gEqS f (eqAny cls vEq) a (.obj c ns ds) = (match eqAny cls vEq a (.obj c ns ds) with | some k => vb (f k) | none => none) := by cases a <;> rfl
  rw [e]
  unfold eqAny
  rw [h]
theorem repr4 (a b c d : Bool) : ∃ z, gReprO [.lst [.bl a, .bl b, .bl c, .bl d]] = some (.val (.str z)) := by
  have h : ((D.py (.lst [.bl a, .bl b, .bl c, .bl d])).bind fun p => if p.showable = true ∧ p.depth ≤ 50 ∧ p.shown.length ≤ top1 then vs p.shown else none) = gReprO [.lst [.bl a, .bl b, .bl c, .bl d]] := rfl
  rw [← h]
  refine ⟨(PyData.list [.bool a, .bool b, .bool c, .bool d]).shown, ?_⟩
  show (if _ then _ else _) = _
  rw [if_pos]
  cases a <;> cases b <;> cases c <;> cases d <;> decide +kernel
theorem same_ok {a b : D} {r : Bool} (h1 : gEqO a b = some (.val (.bl r))) (h2 : gEqO b a = some (.val (.bl r))) (h3 : gNeO a b = some (.val (.bl (!r)))) (h4 : gNeO b a = some (.val (.bl (!r)))) : ∃ ρ', v__law_same [.val a, .val b, .val (.bl r)] = .ok (.val (.bl true)) ρ' := by
  obtain ⟨z, hz⟩ := repr4 r r (!r) (!r)
  refine ⟨_, run_rt (n := 3) (N := 3) (m := m__law_same) (args := [.val a, .val b, .val (.bl r)]) (ρ' := [.val a, .val b, .val (.bl r)]) (ret_rt ?_)⟩
  refine op_ok (b_ok (cons_ok (lst_ok (cons_ok (op_ok (var_ok rfl) (var_ok rfl) h1) (cons_ok (op_ok (var_ok rfl) (var_ok rfl) h2) (cons_ok (op_ok (var_ok rfl) (var_ok rfl) h3) (cons_ok (op_ok (var_ok rfl) (var_ok rfl) h4) nil_ok)))) (by show 4 ≤ 1000000; decide)) nil_ok) hz) (b_ok (cons_ok (lst_ok (cons_ok (var_ok rfl) (cons_ok (var_ok rfl) (cons_ok (un_ok (var_ok rfl) rfl) (cons_ok (un_ok (var_ok rfl) rfl) nil_ok)))) (by show 4 ≤ 1000000; decide)) nil_ok) hz) ?_
  show some (RV.val (.bl (decide (z = z)))) = _
  rw [decide_eq_true rfl]
theorem ob_o (t : T) : ∃ c ns ds, t.ob = .obj c ns ds := by obtain ⟨c, ns, ds, e, _⟩ := ob_obj t; exact ⟨c, ns, ds, e⟩
theorem same_obs (t u : T) : ∃ ρ', v__law_same [.val t.ob, .val u.ob, .val (.bl (decide (t.txt = u.txt)))] = .ok (.val (.bl true)) ρ' := by
  have hs : decide (u.txt = t.txt) = decide (t.txt = u.txt) := decide_eq_decide.mpr ⟨Eq.symm, Eq.symm⟩
  refine same_ok (eqO_obs t u) ?_ (neO_obs t u) ?_
  · rw [eqO_obs u t, hs]
  · rw [neO_obs u t, hs]
theorem same_odd (t : T) {d : D} (o : Odd d) : ∃ ρ', v__law_same [.val t.ob, .val d, .val (.bl false)] = .ok (.val (.bl true)) ρ' := by
  obtain ⟨h1, h2⟩ := pair_odd t o
  exact same_ok (any_l h1 (ob_o t)) (any_r h2 (ob_o t)) (any_l h1 (ob_o t)) (any_r h2 (ob_o t))
end K84
end
section
set_option Elab.async false
set_option linter.all false
set_option maxRecDepth 100000
set_option maxHeartbeats 400000
/-! the plain law: reprs; the parts -/
namespace K84
open PySem PySem.Spec PyProof.Rows L2 PD NdefX ClX StX SX TL
theorem numL_dig (n : Nat) : ∀ c ∈ numL n, 48 ≤ c ∧ c ≤ 57 := by
  induction n using Nat.strongRecOn with
  | _ n ih =>
    by_cases h : n < 10
    · rw [numL_lt h]
      intro c hc
      rw [List.mem_singleton.mp hc]
      omega
    · rw [numL_step (by omega)]
      intro c hc
      rcases List.mem_append.mp hc with e | e
      · exact ih (n / 10) (by omega) c e
      · rw [List.mem_singleton.mp e]; omega
theorem txt_low : ∀ {t : T}, t.Ok' → ∀ c ∈ t.txt, c < 128
  | .of w n, h, c, hc => by
    rcases List.mem_append.mp hc with e | e
    · have := h.1.c c e; omega
    · rcases List.mem_cons.mp e with e | e
      · omega
      · have := numL_dig n c e; omega
  | .a1 w t, h, c, hc => by
    rcases List.mem_append.mp hc with e | e
    · have := h.1.c c e; omega
    · rcases List.mem_cons.mp e with e | e
      · omega
      · rcases List.mem_append.mp e with e | e
        · exact txt_low h.2 c e
        · rw [List.mem_singleton.mp e]; omega
  | .a2 w t u, h, c, hc => by
    rcases List.mem_append.mp hc with e | e
    · have := h.1.c c e; omega
    · rcases List.mem_cons.mp e with e | e
      · omega
      · rcases List.mem_append.mp e with e | e
        · exact txt_low h.2.1 c e
        · rcases List.mem_cons.mp e with e | e
          · omega
          · rcases List.mem_append.mp e with e | e
            · exact txt_low h.2.2 c e
            · rw [List.mem_singleton.mp e]; omega
theorem repr_low {l : List Nat} (h : ∀ c ∈ l, c < 128) : (reprText (S l)).length ≤ 10 * l.length + 2 := by
  have := StrLaws.reprText_len (S l) (fun c hc => Nat.lt_trans (h c hc) (by decide))
  rw [S_len'] at this
  exact this
theorem S_E : ("Expression(" : Str) = S [69, 120, 112, 114, 101, 115, 115, 105, 111, 110, 40] := by decide +kernel
def reE (t : T) : Str := (("Expression(" : Str) ++ reprText (S t.txt)) ++ ")"
theorem reE_len (t : T) : (reE t).length = 11 + (reprText (S t.txt)).length + 1 := by
  unfold reE
  rw [strLen_append, strLen_append]
  rfl
theorem repr_ok' {t : T} (h : t.Ok') (hs : t.size ≤ 60) : v_Expression___repr__ [.val t.ob] = .ok (.val (.str (reE t))) [.val t.ob] := by
  have h1 := T.txt_len h
  have h2 := repr_low (txt_low h)
  refine (lenF_ok rfl).trans <| run_rt (n := 1) (N := 1) (m := m_Expression___repr__) (args := [.val t.ob]) (ρ' := [.val t.ob]) (ret_rt ?_)
  have z0 : Str.empty ++ ("Expression(" : Str) = "Expression(" := by decide +kernel
  unfold mJ
  refine (js_cons (a := .val (.str "Expression(")) c_ok rfl (by rw [z0]; decide +kernel)).trans ?_
  rw [z0]
  refine (js_cons (a := .val (.str (reprText (S t.txt)))) (un_ok (un_ok (var_ok rfl) (ob_text t)) ?_) rfl ?_).trans ?_
  · show (if (reprText (S t.txt)).length ≤ top1 then vs (reprText (S t.txt)) else none) = _
    rw [if_pos (by show _ ≤ 1000000; omega)]
  · rw [strLen_append]
    show 11 + _ ≤ 1000000
    omega
  · refine (js_cons (a := .val (.str ")")) c_ok rfl ?_).trans ?_
    · have := reE_len t
      show (reE t).length ≤ 1000000
      omega
    · rw [mJs]
      rfl
theorem repr_exp {t : T} (h : t.Ok') (hs : t.size ≤ 60) : gReprO [t.ob] = some (.val (.str (reE t))) := by
  have h3 := repr_ok' h hs
  obtain ⟨c, ns, ds, e, h1, h2⟩ := ob_obj t
  rw [e] at h3 ⊢
  show (if cls.contains c = true then (ownTxt v_Expression___repr__ (.obj c ns ds)).map fun z => RV.val (.str z) else none) = _
  rw [if_pos h1]
  unfold ownTxt
  rw [h3]
  rfl
theorem pair_self (t : T) : eqPair cls vEq t.ob t.ob = some true := by rw [pair_obs, decide_eq_true rfl]
theorem allT_self : ∀ ts : List T, eqAllT cls vEq (ts.map T.ob) (ts.map T.ob) = true
  | [] => rfl
  | t :: r => by
    have h := pair_self t
    obtain ⟨c, ns, ds, e, _⟩ := ob_obj t
    rw [e] at h
    rw [List.map_cons, e]
    show (decide (eqPair cls vEq (.obj c ns ds) (.obj c ns ds) = some true) && eqAllT cls vEq (r.map T.ob) (r.map T.ob)) = true
    rw [h, allT_self r]
    rfl
theorem py_ob (t : T) : t.ob.py = none := by cases t <;> rfl
theorem eq_lists {f : Bool → Bool} {ts : List T} (h : 1 ≤ ts.length) : gEqS f (eqAny cls vEq) (.lst (ts.map T.ob)) (.lst (ts.map T.ob)) = some (.val (.bl (f true))) := by
  cases ts with
  | nil => exact absurd h (by decide)
  | cons t r =>
    have hp : D.py (.lst ((t :: r).map T.ob)) = none := by
      rw [List.map_cons]
      unfold D.py pyAll
      rw [py_ob]
      rfl
    have he : eqAny cls vEq (.lst ((t :: r).map T.ob)) (.lst ((t :: r).map T.ob)) = some true := by
      have h1 : eqPair cls vEq (.lst ((t :: r).map T.ob)) (.lst ((t :: r).map T.ob)) = none := rfl
      have h2 : eqPy (.lst ((t :: r).map T.ob)) (.lst ((t :: r).map T.ob)) = none := by unfold eqPy; rw [hp]
      unfold eqAny
      rw [h1, h2]
      dsimp only
      rw [if_pos (allT_self (t :: r))]
    show (match eqAny cls vEq (.lst ((t :: r).map T.ob)) (.lst ((t :: r).map T.ob)) with | some k => vb (f k) | none => none) = _
    rw [he]
theorem parts_lcJ {v : En → Res RV} {k : T → D} {w : List Nat} {ts : List T} {i j : Nat} {ρ : En} (h0 : ρ[j]? = some (.val (.tup [.str "do", .str (S w), .tup (ts.map T.d)]))) (hi : ρ[i]? = some .emp) (hn : i < ρ.length) (hl : ts.length ≤ 2) (hv : ∀ t ∈ ts, ∃ a ρ', v [.val t.d] = .ok a ρ' ∧ a.d = k t) :
    mLc (miT (mOp gIx (mVar j) (mC (.int 2)))) i mtYes (mFn 1 v (mCons (mVar i) mNil)) ρ = .ok (.fr (.lst (ts.map k))) ρ := by
  rw [mLc_run (ds := ts.map T.d) (o := .emp) (ρ1 := ρ) (by unfold miT; rw [op_ok (r := .val (.tup (ts.map T.d))) (var_ok h0) c_ok rfl]; rfl) hi rfl (by rw [List.length_map]; show _ ≤ 1000000; omega)]
  refine (lc_ts (f := T.d) (k := k) ts [] fun t ht => ?_).trans (by rw [List.nil_append])
  obtain ⟨a, ρ', h1, h2⟩ := hv t ht
  refine ⟨a, ρ.set i (.val t.d), fn_ok (ds := [t.d]) (cons_ok (var_ok (List.getElem?_set_self hn)) nil_ok) rfl h1, ?_, h2⟩
  rw [List.set_set]
  refine List.ext_getElem? fun j => ?_
  rw [List.getElem?_set]
  split
  · rename_i c; subst c; first | rw [if_pos hn, hi] | rw [hi]
  · rfl
theorem same_txt {a b : Str} : gEqO (.str a) (.str b) = some (.val (.bl (decide (a = b)))) := rfl
theorem reprC {w : List Nat} {n : Nat} (hw : WOk w) (hn : n < 10 ^ 500) : ∃ z, gReprO [.lst [.str (S w), .int n, .lst []]] = some (.val (.str z)) := by
  have h : ((D.py (.lst [.str (S w), .int n, .lst []])).bind fun p => if p.showable = true ∧ p.depth ≤ 50 ∧ p.shown.length ≤ top1 then vs p.shown else none) = gReprO [.lst [.str (S w), .int n, .lst []]] := rfl
  rw [← h]
  refine ⟨(PyData.list [.str (S w), .int n, .list []]).shown, ?_⟩
  show (if _ then _ else _) = _
  rw [if_pos]
  refine ⟨?_, by show (2 : Nat) ≤ 50; decide, ?_⟩
  · show (true && (decide ((n : Int).natAbs.log2 < 1920) && (true && true))) = true
    rw [decide_eq_true (by rw [Int.natAbs_natCast]; exact log500 hn)]
    rfl
  · have h1 := listText_len_le [reprText (S w), Str.ofString (toString (n : Int)), listText []]
    have h2 := repr_low (l := w) (fun c hc => by have := hw.c c hc; omega)
    have h3 := hw.l.2
    have h4 := numL_len (k := 500) (by decide) hn
    have h5 : (Str.ofString (toString (n : Int))).length ≤ 500 := by rw [num_S, S_len']; exact h4
    have h6 : (listText []).length = 2 := by decide +kernel
    show (listText [reprText (S w), Str.ofString (toString (n : Int)), listText []]).length ≤ 1000000
    simp only [List.map_cons, List.map_nil, List.sum_cons, List.sum_nil, List.length_cons, List.length_nil] at h1
    omega
theorem parts_right_ok {t : T} (h : t.Ok') (hs : t.size ≤ 60) (hd : t.deep ≤ 12) : ∃ ρ', v__law_parts_right [.val t.ob, .val t.d] = .ok (.val (.bl true)) ρ' := by
  have key : ∀ t : T, t.Ok' → t.size ≤ 60 → t.deep ≤ 12 → ∃ ρ', m__law_parts_right [.val t.ob, .val t.d, .emp, .emp, .emp] = .rt (.val (.bl true)) ρ' := by
    refine ob_rec (fun w n h hs hd => ?_) (fun w ts hl _ h hs hd => ?_)
    · obtain ⟨z, hz⟩ := reprC h.1 h.2
      refine ⟨_, seq_if_t (tv_b (op_ok (op_ok (r := .val (.str "of")) (var_ok rfl) c_ok rfl) c_ok rfl)) (ret_rt (op_ok (b_ok (cons_ok (lst_ok (cons_ok (un_ok (r := .val (.str (S w))) (var_ok rfl) rfl) (cons_ok (un_ok (r := .val (.int n)) (var_ok rfl) rfl) (cons_ok (meth0_ok (t := T.of w n) (var_ok rfl) rfl (by decide) (parts_ok (T.of w n))) nil_ok))) (by show 3 ≤ 1000000; decide)) nil_ok) hz) (b_ok (cons_ok (lst_ok (cons_ok (op_ok (r := .val (.str (S w))) (var_ok rfl) c_ok rfl) (cons_ok (op_ok (r := .val (.int n)) (var_ok rfl) c_ok rfl) (cons_ok (lst_ok nil_ok (by decide)) nil_ok))) (by show 3 ≤ 1000000; decide)) nil_ok) hz) (same_txt.trans (by rw [decide_eq_true rfl]))))⟩
    · have hparts : (T.app w ts).parts = ts := by rcases two hl with ⟨t, rfl⟩ | ⟨t, u, rfl⟩ <;> rfl
      have hob := app_ob (w := w) hl
      have hok := (app_ok' hl).mp h
      have hlt := app_lt (w := w) hl
      rw [app_d hl]
      have s1 : mSetO 2 (mMeth cls "parts" v_Expression_parts (mVar 0) mNil) [.val (T.app w ts).ob, .val (.tup [.str "do", .str (S w), .tup (ts.map T.d)]), .emp, .emp, .emp] = .nx [.val (T.app w ts).ob, .val (.tup [.str "do", .str (S w), .tup (ts.map T.d)]), .own (.lst (ts.map T.ob)), .emp, .emp] := by
        unfold mSetO
        rw [show mMeth cls "parts" v_Expression_parts (mVar 0) mNil [.val (T.app w ts).ob, .val (.tup [.str "do", .str (S w), .tup (ts.map T.d)]), .emp, .emp, .emp] = .ok (.fr (.lst (ts.map T.ob))) [.val (T.app w ts).ob, .val (.tup [.str "do", .str (S w), .tup (ts.map T.d)]), .emp, .emp, .emp] from by
          rw [meth0_ok (t := T.app w ts) (var_ok rfl) rfl (by decide) (parts_ok (T.app w ts)), hparts]]
        rfl
      have s2 : mSet (gN 3) (mLc (miT (mOp gIx (mVar 1) (mC (.int 2)))) 4 mtYes (mFn 1 (v__law_expression 12) (mCons (mVar 4) mNil))) [.val (T.app w ts).ob, .val (.tup [.str "do", .str (S w), .tup (ts.map T.d)]), .own (.lst (ts.map T.ob)), .emp, .emp] = .nx [.val (T.app w ts).ob, .val (.tup [.str "do", .str (S w), .tup (ts.map T.d)]), .own (.lst (ts.map T.ob)), .val (.lst (ts.map T.ob)), .emp] :=
        set_nx (parts_lcJ (j := 1) (i := 4) (k := T.ob) rfl rfl (by show 4 < 5; decide) hl.2 (fun t ht => by
          obtain ⟨oc, ρ', e1, e2⟩ := expr_ok t 12 (hok.2 t ht) (by have := (hlt t ht).1; omega) (by have := (hlt t ht).2; omega)
          exact ⟨_, ρ', e2, e1⟩)) rfl
      have hop : gFld ["Application"] "own_operator" (T.app w ts).ob = some (.val (.str (S w))) := by rw [hob]; rfl
      have t1 : mtOr (mtV (mOp gNeO (mUn (gFld ["Application"] "own_operator") (mVar 0)) (mOp gIx (mVar 1) (mC (.int 1))))) (mtV (mOpO gNeO 2 (mVar 3))) [.val (T.app w ts).ob, .val (.tup [.str "do", .str (S w), .tup (ts.map T.d)]), .own (.lst (ts.map T.ob)), .val (.lst (ts.map T.ob)), .emp] = .ok false [.val (T.app w ts).ob, .val (.tup [.str "do", .str (S w), .tup (ts.map T.d)]), .own (.lst (ts.map T.ob)), .val (.lst (ts.map T.ob)), .emp] := by
        refine (or_f (tv_b (op_ok (un_ok (var_ok rfl) hop) (op_ok (r := .val (.str (S w))) (var_ok rfl) c_ok rfl) ?_))).trans (tv_b ?_)
        · show some (RV.val (.bl (!decide (S w = S w)))) = _
          rw [decide_eq_true rfl]
          rfl
        · unfold mOpO
          show (match gNeO (OC.lst (ts.map T.ob)).d (.lst (ts.map T.ob)) with
            | some r => if r.isFlat = true then Res.ok r _ else .no
            | none => .no) = _
          rw [show gNeO (OC.lst (ts.map T.ob)).d (.lst (ts.map T.ob)) = _ from eq_lists hl.1]
          rfl
      have s3 : mAppO 2 (mC .non) [.val (T.app w ts).ob, .val (.tup [.str "do", .str (S w), .tup (ts.map T.d)]), .own (.lst (ts.map T.ob)), .val (.lst (ts.map T.ob)), .emp] = .nx [.val (T.app w ts).ob, .val (.tup [.str "do", .str (S w), .tup (ts.map T.d)]), .own (.lst (ts.map T.ob ++ [.non])), .val (.lst (ts.map T.ob)), .emp] := by
        show (if (ts.map T.ob).length < top1 then _ else _) = _
        rw [if_pos (by rw [List.length_map]; show _ < 1000000; omega)]
        rfl
      have t0 : mtV (mOp gEqO (mOp gIx (mVar 1) (mC (.int 0))) (mC (.str "of"))) [.val (T.app w ts).ob, .val (.tup [.str "do", .str (S w), .tup (ts.map T.d)]), .emp, .emp, .emp] = .ok false [.val (T.app w ts).ob, .val (.tup [.str "do", .str (S w), .tup (ts.map T.d)]), .emp, .emp, .emp] := tv_b (op_ok (op_ok (r := .val (.str "do")) (var_ok rfl) c_ok rfl) c_ok rfl)
      unfold m__law_parts_right
      rw [seq_if_f t0, seq_nx s1, seq_nx s2, seq_if_f t1, seq_nx s3]
      refine ⟨_, ret_rt (op_ok (meth0_ok (t := T.app w ts) (var_ok rfl) rfl (by decide) (parts_ok (T.app w ts))) (var_ok rfl) ?_)⟩
      rw [hparts]
      exact eq_lists hl.1
  obtain ⟨ρ', e⟩ := key t h hs hd
  exact ⟨_, run_rt (n := 2) (N := 5) (m := m__law_parts_right) (args := [.val t.ob, .val t.d]) e⟩
end K84
end
section
set_option Elab.async false
set_option linter.all false
set_option maxRecDepth 100000
set_option maxHeartbeats 400000
/-! the plain law: a part twice -/
namespace K84
open PySem PySem.Spec PyProof.Rows L2 PD NdefX ClX StX SX TL
def plusL : List Nat := [112, 108, 117, 115]
theorem plus_S : ("plus" : Str) = S plusL := by decide +kernel
theorem plus_ok : WOk plusL := by decide
theorem int_eqO {a b : Int} : gNeO (.int a) (.int b) = some (.val (.bl (!decide (a = b)))) := rfl
theorem mul2 {n : Nat} (h : n < 1000) : gMul (.int 2) (.int (n : Nat)) = some (.val (.int (2 * (n : Int)))) := by
  show (if (2 : Int).natAbs.log2 + ((n : Nat) : Int).natAbs.log2 < 1000000 then vi (2 * (n : Int)) else none) = _
  rw [if_pos]
  have h1 : (2 : Int).natAbs.log2 ≤ 2 := lg (by decide)
  have h2 : ((n : Nat) : Int).natAbs.log2 ≤ 10 := lg (by rw [Int.natAbs_natCast]; omega)
  omega
theorem twice_right_ok {t : T} (h : t.Ok') (hs : t.size ≤ 60) (hd : t.deep ≤ 12) : ∃ ρ', v__law_twice_right [.val t.d] = .ok (.val (.bl true)) ρ' := by
  suffices H : ∃ ρ', m__law_twice_right [.val t.d, .emp, .emp, .emp, .emp, .emp, .emp] = .rt (.val (.bl true)) ρ' from by
    obtain ⟨ρ', e⟩ := H
    exact ⟨_, run_rt (n := 1) (N := 7) (m := m__law_twice_right) (args := [.val t.d]) e⟩
  obtain ⟨oc, ρe, x1, x2⟩ := expr_ok t 12 h hs hd
  have s1 : mSet (gL [(gN 1), (gN 2), (gN 3)]) (mLc (miR1 (mCons (mC (.int 3)) mNil)) 4 mtYes (mFn 1 (v__law_expression 12) (mCons (mVar 0) mNil))) [.val t.d, .emp, .emp, .emp, .emp, .emp, .emp] = .nx [.val t.d, .val t.ob, .val t.ob, .val t.ob, .emp, .emp, .emp] := by
    refine set_nx (a := .fr (.lst [t.ob, t.ob, t.ob])) (ρ1 := [.val t.d, .emp, .emp, .emp, .emp, .emp, .emp]) ?_ rfl
    refine Eq.trans (mLc_run (ds := rng 0 3) (o := .emp) (ρ1 := [.val t.d, .emp, .emp, .emp, .emp, .emp, .emp]) rfl rfl rfl (by rw [rng_len]; decide)) ?_
    exact (lc_map (fun _ => t.ob) (rng 0 3) [] fun d hd => ⟨.fr oc, [.val t.d, .emp, .emp, .emp, .val d, .emp, .emp], fn_ok (ds := [t.d]) (cons_ok (var_ok rfl) nil_ok) rfl x2, rfl, x1⟩).trans rfl
  unfold m__law_twice_right
  rw [seq_nx s1]
  have hsz : ∀ {i : Nat} {ρ : En} {u : T}, ρ[i]? = some (.val u.ob) → mMeth cls "size" v_Expression_size (mVar i) mNil ρ = .ok (.val (.int u.size)) ρ := fun hi => meth0_ok (var_ok hi) rfl (by decide) (size_ok _)
  have hdp : ∀ {i : Nat} {ρ : En} {u : T}, ρ[i]? = some (.val u.ob) → mMeth cls "depth" v_Expression_depth (mVar i) mNil ρ = .ok (.val (.int u.deep)) ρ := fun hi => meth0_ok (var_ok hi) rfl (by decide) (depth_ok _)
  have hpt : ∀ {i : Nat} {ρ : En} {u : T}, ρ[i]? = some (.val u.ob) → mMeth cls "parts" v_Expression_parts (mVar i) mNil ρ = .ok (.fr (.lst (u.parts.map T.ob))) ρ := fun hi => meth0_ok (var_ok hi) rfl (by decide) (parts_ok _)
  by_cases c : t.size ≤ 29
  · have t1 : mtV (mOp gGt (mMeth cls "size" v_Expression_size (mVar 1) mNil) (mC (.int 29))) [.val t.d, .val t.ob, .val t.ob, .val t.ob, .emp, .emp, .emp] = .ok false [.val t.d, .val t.ob, .val t.ob, .val t.ob, .emp, .emp, .emp] := tv_b (op_ok (hsz rfl) c_ok (iff_f gt_int (by omega)))
    rw [seq_if_f t1]
    have hsize : (T.app plusL [t, t]).size ≤ 60 := by show 1 + (t.size + t.size) ≤ 60; omega
    have hok : ∀ u ∈ [t, t], u.Ok' ∧ u.size ≤ 60 := fun u hu => by
      rcases List.mem_cons.mp hu with e | e
      · rw [e]; exact ⟨h, hs⟩
      · rw [List.mem_singleton.mp e]; exact ⟨h, hs⟩
    have h2 : 1 ≤ [t, t].length ∧ [t, t].length ≤ 2 := ⟨by show 1 ≤ 2; decide, by show 2 ≤ 2; decide⟩
    obtain ⟨o1, a1, a2⟩ := mkA (ms := mCons (mC (.str "plus")) (mCons (mVar 1) (mCons (mVar 1) mNil))) (ρ := [.val t.d, .val t.ob, .val t.ob, .val t.ob, .emp, .emp, .emp]) plus_ok h2 hok hsize (by rw [← plus_S]; exact cons_ok c_ok (cons_ok (var_ok rfl) (cons_ok (var_ok rfl) nil_ok)))
    obtain ⟨o2, b1, b2⟩ := mkA (ms := mCons (mC (.str "plus")) (mCons (mVar 2) (mCons (mVar 3) mNil))) (ρ := [.val t.d, .val t.ob, .val t.ob, .val t.ob, .emp, .emp, .emp]) plus_ok h2 hok hsize (by rw [← plus_S]; exact cons_ok c_ok (cons_ok (var_ok rfl) (cons_ok (var_ok rfl) nil_ok)))
    have s2 : mPar 5 6 (mCons (mMk "Application" v_init_Application (mCons (mC (.str "plus")) (mCons (mVar 1) (mCons (mVar 1) mNil)))) (mCons (mMk "Application" v_init_Application (mCons (mC (.str "plus")) (mCons (mVar 2) (mCons (mVar 3) mNil)))) mNil)) [.val t.d, .val t.ob, .val t.ob, .val t.ob, .emp, .emp, .emp] = .nx [.val t.d, .val t.ob, .val t.ob, .val t.ob, .emp, .val (T.a2 plusL t t).ob, .val (T.a2 plusL t t).ob] := by
      have hms := cons_ok a2 (cons_ok b2 nil_ok)
      rw [show (RV.fr o1).d = (T.a2 plusL t t).ob from a1, show (RV.fr o2).d = (T.a2 plusL t t).ob from b1] at hms
      exact par_nx hms (ρ2 := [.val t.d, .val t.ob, .val t.ob, .val t.ob, .emp, .val (T.a2 plusL t t).ob, .emp]) rfl rfl
    rw [seq_nx s2]
    generalize hρ : ([.val t.d, .val t.ob, .val t.ob, .val t.ob, .emp, .val (T.a2 plusL t t).ob, .val (T.a2 plusL t t).ob] : En) = ρ
    have z1 : ρ[1]? = some (.val t.ob) := by rw [← hρ]; rfl
    have z5 : ρ[5]? = some (.val (T.a2 plusL t t).ob) := by rw [← hρ]; rfl
    have z6 : ρ[6]? = some (.val (T.a2 plusL t t).ob) := by rw [← hρ]; rfl
    have u1 : mtV (mOp gNeO (mMeth cls "size" v_Expression_size (mVar 5) mNil) (mOp gAdd (mOp gMul (mC (.int 2)) (mMeth cls "size" v_Expression_size (mVar 1) mNil)) (mC (.int 1)))) ρ = .ok false ρ := by
      refine tv_b (op_ok (hsz z5) (op_ok (r := .val (.int (2 * (t.size : Int) + 1))) (op_ok c_ok (hsz z1) (mul2 (by omega))) c_ok rfl) (int_eqO.trans ?_))
      rw [decide_eq_true (show (((T.a2 plusL t t).size : Nat) : Int) = 2 * (t.size : Int) + 1 from by show ((1 + (t.size + t.size) : Nat) : Int) = _; omega)]
      rfl
    have u2 : mtV (mOp gNeO (mMeth cls "depth" v_Expression_depth (mVar 5) mNil) (mOp gAdd (mMeth cls "depth" v_Expression_depth (mVar 1) mNil) (mC (.int 1)))) ρ = .ok false ρ := by
      refine tv_b (op_ok (hdp z5) (op_ok (r := .val (.int ((t.deep : Int) + 1))) (hdp z1) c_ok rfl) (int_eqO.trans ?_))
      rw [decide_eq_true (show (((T.a2 plusL t t).deep : Nat) : Int) = (t.deep : Int) + 1 from by show ((1 + max t.deep t.deep : Nat) : Int) = _; rw [Nat.max_self]; omega)]
      rfl
    have u3 : mtV (mOp gNeO (mMeth cls "parts" v_Expression_parts (mVar 5) mNil) (mLst (mCons (mVar 1) (mCons (mVar 1) mNil)))) ρ = .ok false ρ := by
      refine tv_b (op_ok (hpt z5) (lst_ok (cons_ok (var_ok z1) (cons_ok (var_ok z1) nil_ok)) (by show 2 ≤ 1000000; decide)) ?_)
      exact eq_lists (ts := [t, t]) h2.1
    rw [seq_if_f ((or_f u1).trans ((or_f u2).trans u3))]
    obtain ⟨ρs, es⟩ := same_obs (T.a2 plusL t t) (T.a2 plusL t t)
    rw [decide_eq_true rfl] at es
    have hl := T.txt_len h
    have hl2 : (T.a2 plusL t t).txt = (((plusL ++ [40]) ++ t.txt) ++ [44]) ++ t.txt ++ [41] := by
      show plusL ++ (40 :: (t.txt ++ (44 :: (t.txt ++ [41])))) = _
      simp
    have hl3 : (T.a2 plusL t t).txt.length ≤ top1 := by
      rw [hl2]
      simp only [List.length_append, List.length_cons, List.length_nil]
      show 4 + 1 + _ + 1 + _ + 1 ≤ 1000000
      omega
    have hstr1 : mB gStrE (mCons (mVar 1) mNil) ρ = .ok (.val (.str (S t.txt))) ρ := b_ok (cons_ok (var_ok z1) nil_ok) (str_exp (by show _ ≤ 1000000; omega))
    have hp : ("plus(" : Str) = S (plusL ++ [40]) := by decide +kernel
    have g0 : mC (.str "plus(") ρ = .ok (.val (.str (S (plusL ++ [40])))) ρ := by rw [← hp]; exact c_ok
    have lp : (plusL ++ [40]).length = 5 := rfl
    have g1 := op_ok g0 hstr1 (add_str (by omega))
    have g2 := op_ok g1 (c_ok (d := .str ",")) (add_str (b := [44]) (by simp only [List.length_append, List.length_cons, List.length_nil]; rw [show plusL.length = 4 from rfl]; omega))
    have g3 := op_ok g2 hstr1 (add_str (by simp only [List.length_append, List.length_cons, List.length_nil]; rw [show plusL.length = 4 from rfl]; omega))
    have g4 := op_ok g3 (c_ok (d := .str ")")) (add_str (b := [41]) (by simp only [List.length_append, List.length_cons, List.length_nil]; rw [show plusL.length = 4 from rfl]; omega))
    refine ⟨ρ, ret_rt ((vand_t (fn_ok (ds := [(T.a2 plusL t t).ob, (T.a2 plusL t t).ob, .bl true]) (cons_ok (var_ok z5) (cons_ok (var_ok z6) (cons_ok c_ok nil_ok))) rfl es)).trans (op_ok (b_ok (cons_ok (var_ok z5) nil_ok) (str_exp hl3)) g4 (same_txt.trans ?_)))⟩
    rw [hl2, decide_eq_true rfl]
  · have t1 : mtV (mOp gGt (mMeth cls "size" v_Expression_size (mVar 1) mNil) (mC (.int 29))) [.val t.d, .val t.ob, .val t.ob, .val t.ob, .emp, .emp, .emp] = .ok true [.val t.d, .val t.ob, .val t.ob, .val t.ob, .emp, .emp, .emp] := tv_b (op_ok (hsz rfl) c_ok (iff_t gt_int (by omega)))
    exact ⟨_, seq_if_t t1 (ret_rt c_ok)⟩
end K84
end
section
set_option Elab.async false
set_option linter.all false
set_option maxRecDepth 100000
set_option maxHeartbeats 400000
/-! the plain law: written texts read back; what is told -/
namespace K84
open PySem PySem.Spec PyProof.Rows L2 PD NdefX ClX StX SX TL
open NumText (digitsVal AllDigits)
theorem tw_app {p : Nat → Bool} : ∀ {w rest : List Nat}, (∀ c ∈ w, p c = true) → (∀ c, rest.head? = some c → p c = false) → (w ++ rest).takeWhile p = w ∧ (w ++ rest).dropWhile p = rest
  | [], [], _, _ => ⟨rfl, rfl⟩
  | [], c :: r, _, h => by
    have := h c rfl
    rw [List.nil_append, List.takeWhile_cons, List.dropWhile_cons, if_neg (by rw [this]; decide), if_neg (by rw [this]; decide)]
    exact ⟨rfl, rfl⟩
  | a :: w, rest, h1, h2 => by
    have ha := h1 a List.mem_cons_self
    obtain ⟨e1, e2⟩ := tw_app (w := w) (rest := rest) (fun c hc => h1 c (List.mem_cons_of_mem _ hc)) h2
    rw [List.cons_append, List.takeWhile_cons, List.dropWhile_cons, if_pos ha, if_pos ha, e1, e2]
    exact ⟨rfl, rfl⟩
theorem wok_tw {w r : List Nat} {c : Nat} (h : WOk w) (hc : low c = false) : (w ++ c :: r).takeWhile low = w ∧ (w ++ c :: r).dropWhile low = c :: r :=
  tw_app (fun x hx => decide_eq_true ((abc_mem x).mpr (h.c x hx))) (fun x hx => by cases hx; exact hc)
theorem rdL_step {k : Nat} {w r : List Nat} {c : Nat} (h : WOk w) (hc : low c = false) : rdL (k + 1) (w ++ c :: r) = if c = 58 then (if canon (r.takeWhile dig) = true then some (.of w (digitsVal (r.takeWhile dig)), r.dropWhile dig) else none) else if c = 40 then rdP k w r else none := by
  obtain ⟨e1, e2⟩ := wok_tw (r := r) h hc
  rw [rdL_P, e1, e2, if_pos h]
theorem rdL_comp : ∀ {t : T} {k : Nat} {r : List Nat}, t.Ok' → t.deep ≤ k → (∀ c, r.head? = some c → dig c = false) → rdL k (t.txt ++ r) = some (t, r)
  | .of w n, 0, _, _, h, _ => absurd h (by show ¬ 1 ≤ 0; decide)
  | .a1 w t, 0, _, _, h, _ => absurd h (by show ¬ 1 + t.deep ≤ 0; omega)
  | .a2 w t u, 0, _, _, h, _ => absurd h (by show ¬ 1 + max t.deep u.deep ≤ 0; omega)
  | .of w n, k + 1, r, h, hd, hr => by
    show rdL (k + 1) ((w ++ (58 :: numL n)) ++ r) = _
    rw [List.append_assoc, List.cons_append, rdL_step h.1 (by decide), if_pos rfl]
    obtain ⟨e1, e2⟩ := tw_app (p := dig) (w := numL n) (rest := r) (fun c hc => decide_eq_true ((dig_mem c).mpr (numL_dig n c hc))) hr
    rw [e1, e2, if_pos (canon_of n), numL_val]
  | .a1 w t, k + 1, r, h, hd, hr => by
    have hd' : 1 + t.deep ≤ k + 1 := hd
    show rdL (k + 1) ((w ++ (40 :: (t.txt ++ [41]))) ++ r) = _
    rw [List.append_assoc, List.cons_append, rdL_step h.1 (by decide), if_neg (by decide), if_pos rfl, List.append_assoc]
    unfold rdP
    rw [show [41] ++ r = 41 :: r from rfl, rdL_comp h.2 (by omega) (fun c hc => by cases hc; decide)]
    rfl
  | .a2 w t u, k + 1, r, h, hd, hr => by
    have hd' : 1 + max t.deep u.deep ≤ k + 1 := hd
    show rdL (k + 1) ((w ++ (40 :: (t.txt ++ (44 :: (u.txt ++ [41]))))) ++ r) = _
    rw [List.append_assoc, List.cons_append, rdL_step h.1 (by decide), if_neg (by decide), if_pos rfl, List.append_assoc, List.cons_append, List.append_assoc]
    unfold rdP
    rw [show [41] ++ r = 41 :: r from rfl, rdL_comp h.2.1 (by omega) (fun c hc => by cases hc; decide)]
    dsimp only
    rw [if_neg (by decide), if_pos rfl, rdL_comp h.2.2 (by omega) (fun c hc => by cases hc; decide)]
    rfl
theorem rdL_txtOk {t : T} {k : Nat} (h : t.Ok') (hd : t.deep ≤ k) : rdL k t.txt = some (t, []) := by
  have e := rdL_comp (r := []) h hd (fun c hc => nomatch hc)
  rw [List.append_nil] at e
  exact e
/-! ### counts -/
theorem deep_pos : ∀ t : T, 1 ≤ t.deep
  | .of _ _ => Nat.le_refl _
  | .a1 _ t => by show 1 ≤ 1 + t.deep; omega
  | .a2 _ t u => by show 1 ≤ 1 + max t.deep u.deep; omega
theorem pow_mx {a b : Nat} : 2 ^ a ≤ 2 ^ max a b ∧ 2 ^ b ≤ 2 ^ max a b := ⟨Nat.pow_le_pow_right (by decide) (Nat.le_max_left _ _), Nat.pow_le_pow_right (by decide) (Nat.le_max_right _ _)⟩
theorem size_deep : ∀ t : T, t.size + 1 ≤ 2 ^ t.deep
  | .of _ _ => Nat.le_refl 2
  | .a1 _ t => by
    have := size_deep t
    show 1 + t.size + 1 ≤ 2 ^ (1 + t.deep)
    rw [Nat.add_comm 1 t.deep, Nat.pow_succ]
    have := t.size_pos
    omega
  | .a2 _ t u => by
    have := size_deep t
    have := size_deep u
    obtain ⟨h1, h2⟩ := pow_mx (a := t.deep) (b := u.deep)
    show 1 + (t.size + u.size) + 1 ≤ 2 ^ (1 + max t.deep u.deep)
    rw [Nat.add_comm 1 (max t.deep u.deep), Nat.pow_succ]
    omega
theorem c40_none {w : List Nat} (h : ∀ c ∈ w, c ≠ 40) : c40 w = 0 := by
  unfold c40
  rw [List.length_eq_zero_iff, List.filter_eq_nil_iff]
  intro c hc e
  exact h c hc (of_decide_eq_true e)
theorem nd_app (a b : List Nat) : nd (a ++ b) = nd a + nd b := by unfold nd; rw [List.filter_append, List.length_append]
theorem nd_cons (c : Nat) (l : List Nat) : nd (c :: l) = (if dig c = true then 1 else 0) + nd l := by
  unfold nd
  rw [List.filter_cons]
  by_cases h : dig c = true
  · rw [if_pos h, if_pos h, List.length_cons]; omega
  · rw [if_neg h, if_neg h]; omega
theorem nd_none {w : List Nat} (h : WOk w) : nd w = 0 := by
  unfold nd
  rw [List.length_eq_zero_iff, List.filter_eq_nil_iff]
  intro c hc e
  have h1 := h.c c hc
  have h2 := (dig_mem c).mp (of_decide_eq_true e)
  omega
theorem nd_le (l : List Nat) : nd l ≤ l.length := List.length_filter_le _ _
theorem c40_w {w : List Nat} (h : WOk w) : c40 w = 0 := c40_none fun c hc e => by have := h.c c hc; omega
/-- the parentheses of a text: one for each application -/
theorem c40_txt : ∀ {t : T}, t.Ok' → 2 * c40 t.txt + 1 ≤ 2 * t.size ∧ 2 * (c40 t.txt + 1) ≤ 2 ^ t.deep
  | .of w n, h => by
    have e : c40 (T.of w n).txt = 0 := by
      show c40 (w ++ (58 :: numL n)) = 0
      rw [c40_app, c40_cons, c40_w h.1, if_neg (by decide), c40_none fun c hc e => by have := numL_dig n c hc; omega]
    rw [e]
    exact ⟨by show 1 ≤ 2 * 1; decide, by show 2 ≤ 2 ^ 1; decide⟩
  | .a1 w t, h => by
    obtain ⟨h1, h2⟩ := c40_txt h.2
    have e : c40 (T.a1 w t).txt = 1 + c40 t.txt := by
      show c40 (w ++ (40 :: (t.txt ++ [41]))) = _
      rw [c40_app, c40_cons, c40_app, c40_w h.1, if_pos rfl]
      show 0 + (1 + (c40 t.txt + 0)) = _
      omega
    rw [e]
    refine ⟨by show 2 * (1 + c40 t.txt) + 1 ≤ 2 * (1 + t.size); omega, ?_⟩
    show 2 * (1 + c40 t.txt + 1) ≤ 2 ^ (1 + t.deep)
    rw [Nat.add_comm 1 t.deep, Nat.pow_succ]
    omega
  | .a2 w t u, h => by
    obtain ⟨h1, h2⟩ := c40_txt h.2.1
    obtain ⟨k1, k2⟩ := c40_txt h.2.2
    obtain ⟨m1, m2⟩ := pow_mx (a := t.deep) (b := u.deep)
    have e : c40 (T.a2 w t u).txt = 1 + c40 t.txt + c40 u.txt := by
      show c40 (w ++ (40 :: (t.txt ++ (44 :: (u.txt ++ [41]))))) = _
      rw [c40_app, c40_cons, c40_app, c40_cons, c40_app, c40_w h.1, if_pos rfl, if_neg (by decide)]
      show 0 + (1 + (c40 t.txt + (0 + (c40 u.txt + 0)))) = _
      omega
    rw [e]
    refine ⟨by show 2 * (1 + c40 t.txt + c40 u.txt) + 1 ≤ 2 * (1 + (t.size + u.size)); omega, ?_⟩
    show 2 * (1 + c40 t.txt + c40 u.txt + 1) ≤ 2 ^ (1 + max t.deep u.deep)
    rw [Nat.add_comm 1 (max t.deep u.deep), Nat.pow_succ]
    omega
theorem nd_txt : ∀ {t : T}, t.Ok → nd t.txt ≤ 28 * t.size ∧ nd t.txt ≤ 14 * 2 ^ t.deep
  | .of w n, h => by
    have e : nd (T.of w n).txt ≤ 28 := by
      show nd (w ++ (58 :: numL n)) ≤ 28
      rw [nd_app, nd_cons, nd_none h.1, if_neg (by decide)]
      have := nd_le (numL n)
      have := numL_len (k := 28) (by decide) h.2
      omega
    exact ⟨Nat.le_trans e (by show 28 ≤ 28 * 1; decide), Nat.le_trans e (by show 28 ≤ 14 * 2 ^ 1; decide)⟩
  | .a1 w t, h => by
    obtain ⟨h1, h2⟩ := nd_txt h.2
    have e : nd (T.a1 w t).txt = nd t.txt := by
      show nd (w ++ (40 :: (t.txt ++ [41]))) = _
      rw [nd_app, nd_cons, nd_app, nd_none h.1, if_neg (by decide)]
      show 0 + (0 + (nd t.txt + 0)) = _
      omega
    rw [e]
    refine ⟨by show nd t.txt ≤ 28 * (1 + t.size); omega, ?_⟩
    show nd t.txt ≤ 14 * 2 ^ (1 + t.deep)
    rw [Nat.add_comm 1 t.deep, Nat.pow_succ]
    omega
  | .a2 w t u, h => by
    obtain ⟨h1, h2⟩ := nd_txt h.2.1
    obtain ⟨k1, k2⟩ := nd_txt h.2.2
    obtain ⟨m1, m2⟩ := pow_mx (a := t.deep) (b := u.deep)
    have e : nd (T.a2 w t u).txt = nd t.txt + nd u.txt := by
      show nd (w ++ (40 :: (t.txt ++ (44 :: (u.txt ++ [41]))))) = _
      rw [nd_app, nd_cons, nd_app, nd_cons, nd_app, nd_none h.1, if_neg (by decide), if_neg (by decide)]
      show 0 + (0 + (nd t.txt + (0 + (nd u.txt + 0)))) = _
      omega
    rw [e]
    refine ⟨by show nd t.txt + nd u.txt ≤ 28 * (1 + (t.size + u.size)); omega, ?_⟩
    show nd t.txt + nd u.txt ≤ 14 * 2 ^ (1 + max t.deep u.deep)
    rw [Nat.add_comm 1 (max t.deep u.deep), Nat.pow_succ]
    omega
/-! ### what is told -/
theorem told_yes {x : List Nat} {k : Nat} {t : T} (hx : x.length < 100000) (hn : nd x ≤ 500) (h1 : c40 x < k) (h2 : c40 x < 60) (h : rdL k x = some (t, [])) (hs : t.size ≤ 60) : ∃ ρ', v_told [.val (.str (S x))] = .ok (.val (.lst [.str "read", .str (S x)])) ρ' := by
  obtain ⟨ρ', e⟩ := told_ok hx hn
  have hi := it_rd k x h1 100000 [] hx (by rw [List.length_nil]; omega)
  rw [h] at hi
  dsimp only at hi
  rw [if_pos hs, show clP [] t [] = .done t [] from rfl] at hi
  have hi' : itP 100000 [] x = some t := hi.trans rfl
  rw [hi'] at e
  dsimp only at e
  obtain ⟨ht, _⟩ := rdL_txt h
  rw [List.append_nil] at ht
  rw [← ht] at e
  exact ⟨ρ', e⟩
theorem told_no {x : List Nat} {k : Nat} (hx : x.length < 100000) (hn : nd x ≤ 500) (h1 : c40 x < k) (h2 : c40 x < 60) (h : ∀ t, rdL k x = some (t, []) → 60 < t.size) : ∃ ρ', v_told [.val (.str (S x))] = .ok (.val (.lst [.str "text", .int 1])) ρ' := by
  obtain ⟨ρ', e⟩ := told_ok hx hn
  have hi := it_rd k x h1 100000 [] hx (by rw [List.length_nil]; omega)
  have hi' : itP 100000 [] x = none := by
    rw [hi]
    cases hr : rdL k x with
    | none => rfl
    | some q =>
      obtain ⟨t, r⟩ := q
      dsimp only
      by_cases hs : t.size ≤ 60
      · rw [if_pos hs, show clP [] t r = .done t r from rfl]
        refine if_neg fun er => ?_
        subst er
        have := h t hr
        omega
      · rw [if_neg hs]
  rw [hi'] at e
  exact ⟨ρ', e⟩
theorem parse_yes {x : List Nat} {k : Nat} {t : T} (hx : x.length < 100000) (hn : nd x ≤ 500) (h1 : c40 x < k) (h2 : c40 x < 60) (h : rdL k x = some (t, [])) (hs : t.size ≤ 60) : ∃ ρ', v_parse [.val (.str (S x))] = .ok (.val t.ob) ρ' := by
  have e := parse_ok hx hn
  have hi := it_rd k x h1 100000 [] hx (by rw [List.length_nil]; omega)
  rw [h] at hi
  dsimp only at hi
  rw [if_pos hs, show clP [] t [] = .done t [] from rfl] at hi
  have hi' : itP 100000 [] x = some t := hi.trans rfl
  rw [hi'] at e
  exact e.2
end K84
end
section
set_option Elab.async false
set_option linter.all false
set_option maxRecDepth 100000
set_option maxHeartbeats 400000
/-! the plain law: one tree -/
namespace K84
open PySem PySem.Spec PyProof.Rows L2 PD NdefX ClX StX SX TL
open NumText (digitsVal AllDigits)
theorem rdL_deep : ∀ {k : Nat} {l r : List Nat} {t : T}, rdL k l = some (t, r) → t.deep ≤ k
  | 0, _, _, _, h => nomatch h
  | k + 1, l, r, t, h => by
    obtain ⟨k', e, cw, h⟩ := rdL_some h
    cases e
    rcases h with ⟨r1, h1, h2, h3, h4⟩ | ⟨r1, u, h1, h2, h3⟩ | ⟨r1, u, v, r2, h1, h2, h3, h4⟩
    · rw [h3]; show 1 ≤ k + 1; omega
    · have := rdL_deep h2
      rw [h3]; show 1 + u.deep ≤ k + 1; omega
    · have := rdL_deep h2
      have := rdL_deep h3
      rw [h4]; show 1 + max u.deep v.deep ≤ k + 1; omega
/-! ### lengths of reprs -/
def Low (s : Str) : Prop := ∀ c ∈ s.cps.toList, c < 128
theorem low_app {a b : Str} (ha : Low a) (hb : Low b) : Low (a ++ b) := by
  intro c hc
  have e : (a ++ b).cps.toList = a.cps.toList ++ b.cps.toList := tl_append a b
  rw [e] at hc
  rcases List.mem_append.mp hc with h | h
  · exact ha c h
  · exact hb c h
theorem rc_low : ∀ q ∈ [34, 39], ∀ c, c < 128 → ∀ d ∈ Builtin.Str.reprChar q c, d < 128 := by decide +kernel
theorem fold_low (q : Nat) (hq : q ∈ [34, 39]) : ∀ (l : List Nat) (acc : Array Nat), (∀ c ∈ l, c < 128) → (∀ c ∈ acc.toList, c < 128) → ∀ c ∈ (l.foldl (fun out c => out ++ (Builtin.Str.reprChar q c).toArray) acc).toList, c < 128
  | [], acc, _, h => h
  | a :: r, acc, hl, h => by
    rw [List.foldl_cons]
    refine fold_low q hq r _ (fun c hc => hl c (List.mem_cons_of_mem _ hc)) fun c hc => ?_
    rw [Array.toList_append] at hc
    rcases List.mem_append.mp hc with e | e
    · exact h c e
    · exact rc_low q hq a (hl a List.mem_cons_self) c e
theorem low_repr {s : Str} (h : Low s) : Low (reprText s) := by
  have hq : reprQuote s ∈ [34, 39] := by
    unfold reprQuote
    split <;> simp
  have hq2 : reprQuote s < 128 := by
    rcases List.mem_cons.mp hq with e | e
    · rw [e]; decide
    · rw [List.mem_singleton.mp e]; decide
  intro c hc
  unfold reprText at hc
  dsimp only at hc
  rw [Array.toList_push, ← Array.foldl_toList] at hc
  rcases List.mem_append.mp hc with e | e
  · refine fold_low (reprQuote s) hq s.cps.toList #[reprQuote s] h (fun c hc => ?_) c e
    rw [show (#[reprQuote s] : Array Nat).toList = [reprQuote s] from rfl] at hc
    rw [List.mem_singleton.mp hc]
    exact hq2
  · rw [List.mem_singleton.mp e]; exact hq2
theorem repr_lowS {s : Str} (h : Low s) : (reprText s).length ≤ 10 * s.length + 2 := StrLaws.reprText_len s (fun c hc => Nat.lt_trans (h c hc) (by decide))
theorem low_S {l : List Nat} (h : ∀ c ∈ l, c < 128) : Low (S l) := h
theorem txt_len' : ∀ {t : T}, t.Ok → t.txt.length ≤ 40 * t.size
  | .of w n, h => by
    have h1 := h.1.l.2
    have h2 := numL_len (k := 28) (by decide) h.2
    show (w ++ (58 :: numL n)).length ≤ 40 * 1
    rw [List.length_append, List.length_cons]
    omega
  | .a1 w t, h => by
    have h1 := h.1.l.2
    have h2 := txt_len' h.2
    show (w ++ (40 :: (t.txt ++ [41]))).length ≤ 40 * (1 + t.size)
    simp only [List.length_append, List.length_cons, List.length_nil]
    omega
  | .a2 w t u, h => by
    have h1 := h.1.l.2
    have h2 := txt_len' h.2.1
    have h3 := txt_len' h.2.2
    show (w ++ (40 :: (t.txt ++ (44 :: (u.txt ++ [41]))))).length ≤ 40 * (1 + (t.size + u.size))
    simp only [List.length_append, List.length_cons, List.length_nil]
    omega
theorem int_len {n : Nat} (h : n < 1000) : (Str.ofString (toString (n : Int))).length ≤ 3 := by
  rw [num_S, S_len']
  exact numL_len (k := 3) (by decide) h
theorem repr5 {t : T} (h : t.Ok) (hs : t.size ≤ 31) (hd : t.deep ≤ 60) : ∃ z, gReprO [.lst [.str (S t.txt), .str (reE t), .int t.size, .int t.deep, .bl true]] = some (.val (.str z)) := by
  have hh : ((D.py (.lst [.str (S t.txt), .str (reE t), .int t.size, .int t.deep, .bl true])).bind fun p => if p.showable = true ∧ p.depth ≤ 50 ∧ p.shown.length ≤ top1 then vs p.shown else none) = gReprO [.lst [.str (S t.txt), .str (reE t), .int t.size, .int t.deep, .bl true]] := rfl
  rw [← hh]
  refine ⟨(PyData.list [.str (S t.txt), .str (reE t), .int t.size, .int t.deep, .bool true]).shown, ?_⟩
  show (if _ then _ else _) = _
  rw [if_pos]
  have l500 : ∀ {n : Nat}, n < 1000 → n.log2 < 1920 := fun hn => Nat.lt_of_le_of_lt (lg (k := 10) (by omega)) (by decide)
  refine ⟨?_, by show (1 : Nat) ≤ 50; decide, ?_⟩
  · show (true && (true && (decide ((t.size : Int).natAbs.log2 < 1920) && (decide ((t.deep : Int).natAbs.log2 < 1920) && (true && true))))) = true
    rw [decide_eq_true (by rw [Int.natAbs_natCast]; exact l500 (by omega)), decide_eq_true (by rw [Int.natAbs_natCast]; exact l500 (by omega))]
    rfl
  · have hlow := txt_low h.ok'
    have lE : Low (reE t) := low_app (low_app (by unfold Low; decide +kernel) (low_repr (low_S hlow))) (by unfold Low; decide +kernel)
    have h1 := listText_len_le [reprText (S t.txt), reprText (reE t), Str.ofString (toString (t.size : Int)), Str.ofString (toString (t.deep : Int)), "True"]
    have h2 := repr_low hlow
    have h3 := repr_lowS lE
    have h4 := txt_len' h
    have h5 := reE_len t
    have h6 := int_len (n := t.size) (by omega)
    have h7 := int_len (n := t.deep) (by omega)
    have h8 : ("True" : Str).length = 4 := by decide +kernel
    show (listText [reprText (S t.txt), reprText (reE t), Str.ofString (toString (t.size : Int)), Str.ofString (toString (t.deep : Int)), "True"]).length ≤ 1000000
    simp only [List.map_cons, List.map_nil, List.sum_cons, List.sum_nil, List.length_cons, List.length_nil] at h1
    omega
theorem odd_non : Odd .non := ⟨rfl, rfl, fun _ _ _ h => nomatch h⟩
theorem odd_int (z : Int) : Odd (.int z) := ⟨rfl, rfl, fun _ _ _ h => nomatch h⟩
theorem odd_str (z : Str) : Odd (.str z) := ⟨rfl, rfl, fun _ _ _ h => nomatch h⟩
theorem odd_lst (z : List D) : Odd (.lst z) := ⟨rfl, rfl, fun _ _ _ h => nomatch h⟩
theorem odd_tup (z : List D) : Odd (.tup z) := ⟨rfl, rfl, fun _ _ _ h => nomatch h⟩
theorem odd_d (t : T) : Odd t.d := by cases t <;> exact odd_tup _
/-! ### two lists of what is told -/
theorem low_strOk {l : List Nat} (h : ∀ c ∈ l, c < 128) : PyData.strOk (S l) = true := by
  show (l.toArray).all (· < 0x110000) = true
  rw [Array.all_eq_true']
  intro c hc
  have := h c (by simpa using hc)
  simp
  omega
theorem told_eq {a b : D} {p q : PyData} (ha : a.py = some p) (hb : b.py = some q) (sp : SeqAt.shaped p = true) (sq : SeqAt.shaped q = true) (na : ∃ xs, a = .lst xs) (nb : ∃ xs, b = .lst xs) (f : Bool → Bool) : gEqS f (eqAny cls vEq) a b = some (.val (.bl (f (PyData.eqv p q)))) := by
  obtain ⟨xs, rfl⟩ := na
  obtain ⟨ys, rfl⟩ := nb
  have h1 : eqPair cls vEq (.lst xs) (.lst ys) = none := rfl
  have h2 : eqPy (.lst xs) (.lst ys) = some (PyData.eqv p q) := by
    unfold eqPy
    rw [ha, hb]
    exact if_pos ⟨sp, sq⟩
  have h3 : eqAny cls vEq (.lst xs) (.lst ys) = some (PyData.eqv p q) := by unfold eqAny; rw [h1, h2]
  show (match eqAny cls vEq (.lst xs) (.lst ys) with | some k => vb (f k) | none => none) = _
  rw [h3]
theorem shaped_read {l : List Nat} (h : ∀ c ∈ l, c < 128) : SeqAt.shaped (.list [.str "read", .str (S l)]) = true := by
  unfold SeqAt.shaped
  rw [show PyData.canLay0 (.list [.str "read", .str (S l)]) = (PyData.strOk "read" && (PyData.strOk (S l) && true)) from rfl, low_strOk h, show PyData.strOk "read" = true from by decide +kernel]
  exact decide_eq_true (show (1 : Nat) ≤ 64 by decide)
theorem shaped_text {z : Int} : SeqAt.shaped (.list [.str "text", .int z]) = true := by
  unfold SeqAt.shaped
  rw [show PyData.canLay0 (.list [.str "text", .int z]) = (PyData.strOk "text" && (true && true)) from rfl, show PyData.strOk "text" = true from by decide +kernel]
  exact decide_eq_true (show (1 : Nat) ≤ 64 by decide)
theorem canLay_shaped {p : PyData} (h : SeqAt.shaped p = true) : PyData.canLay0 p = true := by
  unfold SeqAt.shaped at h
  exact (Bool.and_eq_true_iff.mp h).1
theorem read_self {l : List Nat} (h : ∀ c ∈ l, c < 128) (f : Bool → Bool) : gEqS f (eqAny cls vEq) (.lst [.str "read", .str (S l)]) (.lst [.str "read", .str (S l)]) = some (.val (.bl (f true))) := by
  have hs := shaped_read h
  rw [told_eq (p := .list [.str "read", .str (S l)]) (q := .list [.str "read", .str (S l)]) rfl rfl hs hs ⟨_, rfl⟩ ⟨_, rfl⟩ f, SeqAt.eqv_refl _ (canLay_shaped hs)]
theorem text_self {z : Int} (f : Bool → Bool) : gEqS f (eqAny cls vEq) (.lst [.str "text", .int z]) (.lst [.str "text", .int z]) = some (.val (.bl (f true))) := by
  have hs := shaped_text (z := z)
  rw [told_eq (p := .list [.str "text", .int z]) (q := .list [.str "text", .int z]) rfl rfl hs hs ⟨_, rfl⟩ ⟨_, rfl⟩ f, SeqAt.eqv_refl _ (canLay_shaped hs)]
end K84
end
section
set_option Elab.async false
set_option linter.all false
set_option maxRecDepth 100000
set_option maxHeartbeats 400000
/-! the plain law: one tree, whole -/
namespace K84
open PySem PySem.Spec PyProof.Rows L2 PD NdefX ClX StX SX TL
def trB : MS := (mSeq (mSet (gN 8) (mFnO 2 v__law_spoilt 0 (mCons (mVar 3) mNil))) (mSeq (mSet (gN 9) (mFn 2 (v__law_read 24) (mCons (mVar 8) (mCons (mC (.int 0)) mNil)))) (mSeq (mSet (gN 10) (mAnd (mOp gNotN (mVar 9) (mC .non)) (mAnd (mOp gEqO (mOp gIx (mVar 9) (mC (.int 1))) (mB gLen (mCons (mVar 8) mNil))) (mOp gLe (mFn 1 (v__law_many 30) (mCons (mOp gIx (mVar 9) (mC (.int 0))) mNil)) (mC (.int 60)))))) (mIf (mtV (mOp gNeO (mFn 1 v_told (mCons (mVar 8) mNil)) (mIfE (mtV (mVar 10)) (mLst (mCons (mC (.str "read")) (mCons (mVar 8) mNil))) (mLst (mCons (mC (.str "text")) (mCons (mC (.int 1)) mNil)))))) (mRet (mC (.bl false))) mNext))))
def Pt (t : T) (_ : Nat) (ρ : En) : Prop := ∃ p0 p1 s4 s5 s6 s7 s8 s9 s10, PotOk p0 p1 ∧ ρ = [potD p0 p1, .val t.d, .val t.ob, .val (.str (S t.txt)), s4, s5, s6, s7, s8, s9, s10] ∧ (s7.isOwn = false ∧ s8.isOwn = false ∧ s9.isOwn = false ∧ s10.isOwn = false)
theorem tr_step {t : T} (h : t.Ok) (hd : t.deep ≤ 5) {d : D} {i : Nat} {ρ : En} (hP : Pt t i ρ) : ∃ ρ1 ρ2, gN 7 d ρ = some ρ1 ∧ trB ρ1 = .nx ρ2 ∧ Pt t (i + 1) ρ2 := by
  obtain ⟨p0, p1, s4, s5, s6, s7, s8, s9, s10, hp, rfl, w7, w8, w9, w10⟩ := hP
  have hsz := size_deep t
  have hpw : 2 ^ t.deep ≤ 2 ^ 5 := Nat.pow_le_pow_right (by decide) hd
  have hp5 : (2 : Nat) ^ 5 = 32 := by decide
  have hlen := txt_len' h
  have hnd := (nd_txt h).2
  have hc := (c40_txt h.ok').2
  obtain ⟨x, q0, q1, ρs, hnear, hq, es⟩ := spoilt_ok (x0 := t.txt) (by omega) hp
  have hxl : x.length < 100000 := by have := hnear.1; omega
  have hxn : nd x ≤ 500 := by
    have h1 : nd x ≤ nd t.txt + 2 := hnear.2.1 dig
    omega
  have hxc : c40 x ≤ 17 := by
    have h1 : c40 x ≤ c40 t.txt + 2 := hnear.2.1 (fun c => decide (c = 40))
    omega
  have hlow : ∀ c ∈ x, c < 128 := fun c hc => by
    rcases hnear.2.2 c hc with e | e
    · exact txt_low h.ok' c e
    · exact e
  have hx' : x.length ≤ top1 := by show _ ≤ 1000000; omega
  refine ⟨[potD p0 p1, .val t.d, .val t.ob, .val (.str (S t.txt)), s4, s5, s6, .val d, s8, s9, s10], _, gN_set (s := s7) rfl w7, ?_, ⟨q0, q1, s4, s5, s6, .val d, .val (.str (S x)), .val (rdD x (rdL 24 x)), .val (.bl (match rdL 24 x with | some (u, r) => decide (r = []) && decide (u.size ≤ 60) | none => false)), hq, rfl, rfl, rfl, rfl, rfl⟩⟩
  have a1 : mSet (gN 8) (mFnO 2 v__law_spoilt 0 (mCons (mVar 3) mNil)) [potD p0 p1, .val t.d, .val t.ob, .val (.str (S t.txt)), s4, s5, s6, .val d, s8, s9, s10] = .nx [potD q0 q1, .val t.d, .val t.ob, .val (.str (S t.txt)), s4, s5, s6, .val d, .val (.str (S x)), s9, s10] :=
    set_nx (fnO_ok (l0 := .lst [.int p0, .int p1]) (l := .lst [.int p0, .int p1]) (l' := .lst [.int q0, .int q1]) (ρ := [potD p0 p1, .val t.d, .val t.ob, .val (.str (S t.txt)), s4, s5, s6, .val d, s8, s9, s10]) (ρ1 := [potD p0 p1, .val t.d, .val t.ob, .val (.str (S t.txt)), s4, s5, s6, .val d, s8, s9, s10]) (ds := [.str (S t.txt)]) rfl (cons_ok (var_ok rfl) nil_ok) rfl rfl es) (gN_set (s := s8) rfl w8)
  obtain ⟨ρr, er⟩ := law_read_ok hxl hxn 24 [] x rfl (by omega)
  have a2 : mSet (gN 9) (mFn 2 (v__law_read 24) (mCons (mVar 8) (mCons (mC (.int 0)) mNil))) [potD q0 q1, .val t.d, .val t.ob, .val (.str (S t.txt)), s4, s5, s6, .val d, .val (.str (S x)), s9, s10] = .nx [potD q0 q1, .val t.d, .val t.ob, .val (.str (S t.txt)), s4, s5, s6, .val d, .val (.str (S x)), .val (rdD x (rdL 24 x)), s10] :=
    set_nx (fn_ok (ds := [.str (S x), .int 0]) (cons_ok (var_ok rfl) (cons_ok c_ok nil_ok)) rfl er) (gN_set (s := s9) rfl w9)
  unfold trB
  rw [seq_nx a1, seq_nx a2]
  have yes : ∀ {u : T}, rdL 24 x = some (u, []) → u.size ≤ 60 → ∃ ρ', v_told [.val (.str (S x))] = .ok (.val (.lst [.str "read", .str (S x)])) ρ' := fun hr hs => told_yes (k := 24) hxl hxn (by omega) (by omega) hr hs
  have no : (∀ u, rdL 24 x = some (u, []) → 60 < u.size) → ∃ ρ', v_told [.val (.str (S x))] = .ok (.val (.lst [.str "text", .int 1])) ρ' := fun hr => told_no (k := 24) hxl hxn (by omega) (by omega) hr
  have fin : ∀ {b : Bool} {ρ3 : En} {E : En}, E[8]? = some (.val (.str (S x))) → E[10]? = some (.val (.bl b)) → v_told [.val (.str (S x))] = .ok (.val (.lst (if b = true then [.str "read", .str (S x)] else [.str "text", .int 1]))) ρ3 → mIf (mtV (mOp gNeO (mFn 1 v_told (mCons (mVar 8) mNil)) (mIfE (mtV (mVar 10)) (mLst (mCons (mC (.str "read")) (mCons (mVar 8) mNil))) (mLst (mCons (mC (.str "text")) (mCons (mC (.int 1)) mNil)))))) (mRet (mC (.bl false))) mNext E = .nx E := fun {b ρ3 E} h8 h10 ht => by
    refine (if_f (tv_b ?_)).trans rfl
    cases b with
    | true => exact op_ok (fn_ok (ds := [.str (S x)]) (cons_ok (var_ok h8) nil_ok) rfl ht) ((ife_t (tv_b (var_ok h10))).trans (lst_ok (cons_ok c_ok (cons_ok (var_ok h8) nil_ok)) (by show 2 ≤ 1000000; decide))) (read_self hlow not)
    | false => exact op_ok (fn_ok (ds := [.str (S x)]) (cons_ok (var_ok h8) nil_ok) rfl ht) ((ife_f (tv_b (var_ok h10))).trans (lst_ok (cons_ok c_ok (cons_ok c_ok nil_ok)) (by show 2 ≤ 1000000; decide))) (text_self not)
  cases hr : rdL 24 x with
  | none =>
    obtain ⟨ρ3, e3⟩ := no (fun u hu => by rw [hr] at hu; cases hu)
    have a3 : mSet (gN 10) (mAnd (mOp gNotN (mVar 9) (mC .non)) (mAnd (mOp gEqO (mOp gIx (mVar 9) (mC (.int 1))) (mB gLen (mCons (mVar 8) mNil))) (mOp gLe (mFn 1 (v__law_many 30) (mCons (mOp gIx (mVar 9) (mC (.int 0))) mNil)) (mC (.int 60))))) [potD q0 q1, .val t.d, .val t.ob, .val (.str (S t.txt)), s4, s5, s6, .val d, .val (.str (S x)), .val (rdD x none), s10] = .nx [potD q0 q1, .val t.d, .val t.ob, .val (.str (S t.txt)), s4, s5, s6, .val d, .val (.str (S x)), .val (rdD x none), .val (.bl false)] :=
      set_nx (vand_f (op_ok (var_ok rfl) c_ok rfl)) (gN_set (s := s10) rfl w10)
    rw [seq_nx a3]
    exact fin rfl rfl e3
  | some q =>
    obtain ⟨u, r⟩ := q
    obtain ⟨_, hl, _⟩ := rdL_txt hr
    have hdeep := rdL_deep hr
    obtain ⟨ρm, em⟩ := many_ok u 30 (by omega)
    have hiff : (((x.length - r.length : Nat) : Int) = (x.length : Nat)) ↔ r = [] := by
      constructor
      · intro e
        exact List.length_eq_zero_iff.mp (by omega)
      · intro e; rw [e]; simp
    have a3 : mSet (gN 10) (mAnd (mOp gNotN (mVar 9) (mC .non)) (mAnd (mOp gEqO (mOp gIx (mVar 9) (mC (.int 1))) (mB gLen (mCons (mVar 8) mNil))) (mOp gLe (mFn 1 (v__law_many 30) (mCons (mOp gIx (mVar 9) (mC (.int 0))) mNil)) (mC (.int 60))))) [potD q0 q1, .val t.d, .val t.ob, .val (.str (S t.txt)), s4, s5, s6, .val d, .val (.str (S x)), .val (rdD x (some (u, r))), s10] = .nx [potD q0 q1, .val t.d, .val t.ob, .val (.str (S t.txt)), s4, s5, s6, .val d, .val (.str (S x)), .val (rdD x (some (u, r))), .val (.bl (decide (r = []) && decide (u.size ≤ 60)))] := by
      refine set_nx (a := .val (.bl (decide (r = []) && decide (u.size ≤ 60)))) (ρ1 := [potD q0 q1, .val t.d, .val t.ob, .val (.str (S t.txt)), s4, s5, s6, .val d, .val (.str (S x)), .val (rdD x (some (u, r))), s10]) ?_ (gN_set (s := s10) rfl w10)
      refine (vand_t (op_ok (var_ok rfl) c_ok rfl)).trans ?_
      have e1 : mOp gEqO (mOp gIx (mVar 9) (mC (.int 1))) (mB gLen (mCons (mVar 8) mNil)) [potD q0 q1, .val t.d, .val t.ob, .val (.str (S t.txt)), s4, s5, s6, .val d, .val (.str (S x)), .val (rdD x (some (u, r))), s10] = .ok (.val (.bl (decide (r = [])))) [potD q0 q1, .val t.d, .val t.ob, .val (.str (S t.txt)), s4, s5, s6, .val d, .val (.str (S x)), .val (rdD x (some (u, r))), s10] := by
        refine op_ok (op_ok (r := .val (.int ((x.length - r.length : Nat) : Int))) (var_ok rfl) c_ok rfl) (b_ok (cons_ok (var_ok rfl) nil_ok) (len_S hx')) ?_
        show some (RV.val (.bl (decide (((x.length - r.length : Nat) : Int) = (x.length : Nat))))) = _
        rw [decide_eq_decide.mpr hiff]
      by_cases c : r = []
      · rw [decide_eq_true c] at e1 ⊢
        refine (vand_t e1).trans ?_
        refine op_ok (fn_ok (ds := [u.d]) (cons_ok (op_ok (r := .val u.d) (var_ok rfl) c_ok rfl) nil_ok) rfl em) c_ok ?_
        show some (RV.val (.bl (decide ((u.size : Int) ≤ 60)))) = _
        rw [decide_eq_decide.mpr (show (u.size : Int) ≤ 60 ↔ u.size ≤ 60 from by omega), Bool.true_and]
      · rw [decide_eq_false c] at e1 ⊢
        exact vand_f e1
    rw [seq_nx a3]
    by_cases cb : r = [] ∧ u.size ≤ 60
    · obtain ⟨c1, c2⟩ := cb
      subst c1
      obtain ⟨ρ3, e3⟩ := yes hr c2
      refine fin rfl rfl (ρ3 := ρ3) ?_
      rw [decide_eq_true c2]
      exact e3
    · obtain ⟨ρ3, e3⟩ := no (fun v hv => by
        rw [hr] at hv
        cases hv
        refine Decidable.byContradiction fun hs => cb ⟨rfl, by omega⟩)
      have hb : (decide (r = []) && decide (u.size ≤ 60)) = false := by
        rw [← Bool.not_eq_true]
        intro hb
        exact cb ⟨of_decide_eq_true (Bool.and_eq_true_iff.mp hb).1, of_decide_eq_true (Bool.and_eq_true_iff.mp hb).2⟩
      dsimp only
      rw [hb]
      exact fin rfl rfl (ρ3 := ρ3) e3
end K84
end
section
set_option Elab.async false
set_option linter.all false
set_option maxRecDepth 100000
set_option maxHeartbeats 400000
/-! the plain law: one tree, from end to end -/
namespace K84
open PySem PySem.Spec PyProof.Rows L2 PD NdefX ClX StX SX TL
theorem repr_txt {t : T} (h : t.Ok) (hs : t.size ≤ 31) : gReprO [.str (S t.txt)] = some (.val (.str (reprText (S t.txt)))) := by
  have h2 := repr_low (txt_low h.ok')
  have h4 := txt_len' h
  show (if (reprText (S t.txt)).length ≤ top1 then vs (reprText (S t.txt)) else none) = _
  rw [if_pos (by show _ ≤ 1000000; omega)]
theorem tree_right_ok {t : T} (h : t.Ok) (hd : t.deep ≤ 5) {p0 p1 : Int} (hp : PotOk p0 p1) : ∃ q0 q1 ρ', PotOk q0 q1 ∧ v_tree_right [potD p0 p1, .val t.d] = .ok (.val (.bl true)) (potD q0 q1 :: ρ') := by
  have h' := h.ok'
  have hsz := size_deep t
  have hpw : 2 ^ t.deep ≤ 2 ^ 5 := Nat.pow_le_pow_right (by decide) hd
  have hp5 : (2 : Nat) ^ 5 = 32 := by decide
  have hlen := txt_len' h
  have hnd := (nd_txt h).2
  have hc := (c40_txt h').2
  have hs31 : t.size ≤ 31 := by omega
  have hs : t.size ≤ 60 := by omega
  have hd12 : t.deep ≤ 12 := by omega
  have htop : t.txt.length ≤ top1 := by show _ ≤ 1000000; omega
  suffices H : ∃ q0 q1 s4 s5 s6 s7 s8 s9 s10, PotOk q0 q1 ∧ m__law_tree_right v_told v_parse [potD p0 p1, .val t.d, .emp, .emp, .emp, .emp, .emp, .emp, .emp, .emp, .emp] = .rt (.val (.bl true)) [potD q0 q1, .val t.d, .val t.ob, .val (.str (S t.txt)), s4, s5, s6, s7, s8, s9, s10] from by
    obtain ⟨q0, q1, s4, s5, s6, s7, s8, s9, s10, hq, e⟩ := H
    exact ⟨q0, q1, _, hq, run_rt (n := 2) (N := 11) (m := m__law_tree_right v_told v_parse) (args := [potD p0 p1, .val t.d]) e⟩
  obtain ⟨oc, ρe, x1, x2⟩ := expr_ok t 12 h' hs hd12
  obtain ⟨ρw, ew⟩ := written_ok t 12 h' (by omega) hd12
  obtain ⟨ρm, em⟩ := many_ok t 12 hd12
  obtain ⟨ρd, ed⟩ := law_deep_ok t 12 hd12
  have sA : mSet (gT [(gN 2), (gN 3)]) (mTup (mCons (mFn 1 (v__law_expression 12) (mCons (mVar 1) mNil)) (mCons (mFn 1 (v__law_written 12) (mCons (mVar 1) mNil)) mNil))) [potD p0 p1, .val t.d, .emp, .emp, .emp, .emp, .emp, .emp, .emp, .emp, .emp] = .nx [potD p0 p1, .val t.d, .val t.ob, .val (.str (S t.txt)), .emp, .emp, .emp, .emp, .emp, .emp, .emp] := by
    have hms := cons_ok (fn_ok (n := 1) (ρ := [potD p0 p1, .val t.d, .emp, .emp, .emp, .emp, .emp, .emp, .emp, .emp, .emp]) (ms := mCons (mVar 1) mNil) (ds := [t.d]) (cons_ok (var_ok rfl) nil_ok) rfl x2) (cons_ok (fn_ok (n := 1) (ms := mCons (mVar 1) mNil) (ds := [t.d]) (cons_ok (var_ok rfl) nil_ok) rfl ew) nil_ok)
    rw [show (RV.fr oc).d = t.ob from x1] at hms
    exact set_nx (tup_ok hms (by show 2 ≤ 1000000; decide)) rfl
  have hsize : ∀ {ρ : En}, ρ[2]? = some (.val t.ob) → mMeth cls "size" v_Expression_size (mVar 2) mNil ρ = .ok (.val (.int t.size)) ρ := fun hi => meth0_ok (var_ok hi) rfl (by decide) (size_ok _)
  have hdeep : ∀ {ρ : En}, ρ[2]? = some (.val t.ob) → mMeth cls "depth" v_Expression_depth (mVar 2) mNil ρ = .ok (.val (.int t.deep)) ρ := fun hi => meth0_ok (var_ok hi) rfl (by decide) (depth_ok _)
  have sB : mSet (gN 4) (mLst (mCons (mB gStrE (mCons (mVar 2) mNil)) (mCons (mB gReprO (mCons (mVar 2) mNil)) (mCons (mMeth cls "size" v_Expression_size (mVar 2) mNil) (mCons (mMeth cls "depth" v_Expression_depth (mVar 2) mNil) (mCons (mUn gIsE (mVar 2)) mNil)))))) [potD p0 p1, .val t.d, .val t.ob, .val (.str (S t.txt)), .emp, .emp, .emp, .emp, .emp, .emp, .emp] = .nx [potD p0 p1, .val t.d, .val t.ob, .val (.str (S t.txt)), .val (.lst [.str (S t.txt), .str (reE t), .int t.size, .int t.deep, .bl true]), .emp, .emp, .emp, .emp, .emp, .emp] :=
    set_nx (lst_ok (cons_ok (b_ok (cons_ok (var_ok rfl) nil_ok) (str_exp htop)) (cons_ok (b_ok (cons_ok (var_ok rfl) nil_ok) (repr_exp h' hs)) (cons_ok (hsize rfl) (cons_ok (hdeep rfl) (cons_ok (un_ok (var_ok rfl) (ob_isE t)) nil_ok))))) (by show 5 ≤ 1000000; decide)) rfl
  generalize hρ : ([potD p0 p1, .val t.d, .val t.ob, .val (.str (S t.txt)), .val (.lst [.str (S t.txt), .str (reE t), .int t.size, .int t.deep, .bl true]), .emp, .emp, .emp, .emp, .emp, .emp] : En) = ρ at sB
  have z0 : ρ[0]? = some (.own (.lst [.int p0, .int p1])) := by rw [← hρ]; rfl
  have z1 : ρ[1]? = some (.val t.d) := by rw [← hρ]; rfl
  have z2 : ρ[2]? = some (.val t.ob) := by rw [← hρ]; rfl
  have z3 : ρ[3]? = some (.val (.str (S t.txt))) := by rw [← hρ]; rfl
  have z4 : ρ[4]? = some (.val (.lst [.str (S t.txt), .str (reE t), .int t.size, .int t.deep, .bl true])) := by rw [← hρ]; rfl
  obtain ⟨z, hz⟩ := repr5 h hs31 (by omega)
  have hrl := repr_low (txt_low h')
  have hre := reE_len t
  have tC : mtV (mOp gNeO (mB gReprO (mCons (mVar 4) mNil)) (mB gReprO (mCons (mLst (mCons (mVar 3) (mCons (mOp gAdd (mOp gAdd (mC (.str "Expression(")) (mB gReprO (mCons (mVar 3) mNil))) (mC (.str ")"))) (mCons (mFn 1 (v__law_many 12) (mCons (mVar 1) mNil)) (mCons (mFn 1 (v__law_deep 12) (mCons (mVar 1) mNil)) (mCons (mC (.bl true)) mNil)))))) mNil))) ρ = .ok false ρ := by
    have g1 : mOp gAdd (mC (.str "Expression(")) (mB gReprO (mCons (mVar 3) mNil)) ρ = .ok (.val (.str ("Expression(" ++ reprText (S t.txt)))) ρ := by
      refine op_ok c_ok (b_ok (cons_ok (var_ok z3) nil_ok) (repr_txt h hs31)) ?_
      show (if ("Expression(" : Str).length + (reprText (S t.txt)).length ≤ top1 then vs ("Expression(" ++ reprText (S t.txt)) else none) = _
      rw [if_pos (by show 11 + _ ≤ 1000000; omega)]
    have g2 : mOp gAdd (mOp gAdd (mC (.str "Expression(")) (mB gReprO (mCons (mVar 3) mNil))) (mC (.str ")")) ρ = .ok (.val (.str (reE t))) ρ := by
      refine op_ok g1 c_ok ?_
      show (if ("Expression(" ++ reprText (S t.txt)).length + (")" : Str).length ≤ top1 then vs (("Expression(" ++ reprText (S t.txt)) ++ ")") else none) = _
      rw [if_pos (by rw [strLen_append]; show 11 + _ + 1 ≤ 1000000; omega)]
      rfl
    refine tv_b (op_ok (b_ok (cons_ok (var_ok z4) nil_ok) hz) (b_ok (cons_ok (lst_ok (cons_ok (var_ok z3) (cons_ok g2 (cons_ok (fn_ok (ds := [t.d]) (cons_ok (var_ok z1) nil_ok) rfl em) (cons_ok (fn_ok (ds := [t.d]) (cons_ok (var_ok z1) nil_ok) rfl ed) (cons_ok c_ok nil_ok))))) (by show 5 ≤ 1000000; decide)) nil_ok) hz) ?_)
    show some (RV.val (.bl (!decide (z = z)))) = _
    rw [decide_eq_true rfl]
    rfl
  obtain ⟨ρp, ep⟩ := parts_right_ok h' hs hd12
  obtain ⟨ρs, es⟩ := same_obs t t
  rw [decide_eq_true rfl] at es
  have hexp : ∀ {i : Nat} {E : En} {u : T} {o : OC} {r : En}, E[i]? = some (.val u.d) → o.d = u.ob → v__law_expression 12 [.val u.d] = .ok (.fr o) r → mFn 1 (v__law_expression 12) (mCons (mVar i) mNil) E = .ok (.fr o) E := fun hi _ hx => fn_ok (ds := [_]) (cons_ok (var_ok hi) nil_ok) rfl hx
  have tD : mtOr (mtNot (mtV (mFn 2 v__law_parts_right (mCons (mVar 2) (mCons (mVar 1) mNil))))) (mtNot (mtV (mFn 3 v__law_same (mCons (mVar 2) (mCons (mFn 1 (v__law_expression 12) (mCons (mVar 1) mNil)) (mCons (mC (.bl true)) mNil)))))) ρ = .ok false ρ := by
    refine (or_f (not_tt (tv_b (fn_ok (ds := [t.ob, t.d]) (cons_ok (var_ok z2) (cons_ok (var_ok z1) nil_ok)) rfl ep)))).trans (not_tt (tv_b ?_))
    have hms := cons_ok (var_ok z2) (cons_ok (hexp z1 x1 x2) (cons_ok (c_ok (d := .bl true)) nil_ok))
    rw [show (RV.fr oc).d = t.ob from x1] at hms
    exact fn_ok hms rfl es
  obtain ⟨ρq, eq⟩ := parse_yes (x := t.txt) (k := 24) (t := t) (by omega) (by omega) (by omega) (by omega) (rdL_txtOk h' (by omega)) hs
  have eq' : noEr v_parse [.val (.str (S t.txt))] = .ok (.val t.ob) ρq := by unfold noEr; rw [eq]
  obtain ⟨ρt, et⟩ := twice_right_ok h' hs hd12
  have tE : mtOr (mtNot (mtV (mFn 3 v__law_same (mCons (mFn 1 (noEr v_parse) (mCons (mVar 3) mNil)) (mCons (mVar 2) (mCons (mC (.bl true)) mNil)))))) (mtNot (mtV (mFn 1 v__law_twice_right (mCons (mVar 1) mNil)))) ρ = .ok false ρ :=
    (or_f (not_tt (tv_b (fn_ok (ds := [t.ob, t.ob, .bl true]) (cons_ok (fn_ok (ds := [.str (S t.txt)]) (cons_ok (var_ok z3) nil_ok) rfl eq') (cons_ok (var_ok z2) (cons_ok c_ok nil_ok))) rfl es)))).trans (not_tt (tv_b (fn_ok (ds := [t.d]) (cons_ok (var_ok z1) nil_ok) rfl et)))
  obtain ⟨u, q0, q1, ρu, u1, u2, u3, u4⟩ := tree_ok 8 2 (by decide) hp
  have sF : mSet (gN 5) (mFnO 2 (v__law_tree 8) 0 (mCons (mC (.int 2)) mNil)) ρ = .nx [potD q0 q1, .val t.d, .val t.ob, .val (.str (S t.txt)), .val (.lst [.str (S t.txt), .str (reE t), .int t.size, .int t.deep, .bl true]), .val u.d, .emp, .emp, .emp, .emp, .emp] :=
    set_nx (fnO_ok (l0 := .lst [.int p0, .int p1]) (l := .lst [.int p0, .int p1]) (l' := .lst [.int q0, .int q1]) (ds := [.int 2]) z0 (cons_ok c_ok nil_ok) z0 rfl u4) (by rw [← hρ]; rfl)
  generalize hE : ([potD q0 q1, .val t.d, .val t.ob, .val (.str (S t.txt)), .val (.lst [.str (S t.txt), .str (reE t), .int t.size, .int t.deep, .bl true]), .val u.d, .emp, .emp, .emp, .emp, .emp] : En) = E at sF
  have y1 : E[1]? = some (.val t.d) := by rw [← hE]; rfl
  have y2 : E[2]? = some (.val t.ob) := by rw [← hE]; rfl
  have y3 : E[3]? = some (.val (.str (S t.txt))) := by rw [← hE]; rfl
  have y5 : E[5]? = some (.val u.d) := by rw [← hE]; rfl
  have usz := size_deep u
  have upw : 2 ^ u.deep ≤ 2 ^ 5 := Nat.pow_le_pow_right (by decide) (by omega)
  obtain ⟨ou, ρue, xu1, xu2⟩ := expr_ok u 12 u1.ok' (by omega) (by omega)
  obtain ⟨ρuw, euw⟩ := written_ok u 12 u1.ok' (by omega) (by omega)
  obtain ⟨ρsu, esu⟩ := same_obs t u
  have hdec : decide (S u.txt = S t.txt) = decide (t.txt = u.txt) := decide_eq_decide.mpr ⟨fun e => (S_inj.mp e).symm, fun e => S_inj.mpr e.symm⟩
  have tG : mtNot (mtV (mFn 3 v__law_same (mCons (mVar 2) (mCons (mFn 1 (v__law_expression 12) (mCons (mVar 5) mNil)) (mCons (mOp gEqO (mFn 1 (v__law_written 12) (mCons (mVar 5) mNil)) (mVar 3)) mNil))))) E = .ok false E := by
    refine not_tt (tv_b ?_)
    have ge : mOp gEqO (mFn 1 (v__law_written 12) (mCons (mVar 5) mNil)) (mVar 3) E = .ok (.val (.bl (decide (t.txt = u.txt)))) E := op_ok (fn_ok (ds := [u.d]) (cons_ok (var_ok y5) nil_ok) rfl euw) (var_ok y3) (same_txt.trans (by rw [hdec]))
    have hms := cons_ok (var_ok y2) (cons_ok (hexp y5 xu1 xu2) (cons_ok ge nil_ok))
    rw [show (RV.fr ou).d = u.ob from xu1] at hms
    exact fn_ok hms rfl esu
  have tH : mtNot (mtV (mB gAll (mCons (mLc (miL (mLst (mCons (mC .non) (mCons (mC (.int 0)) (mCons (mVar 3) (mCons (mVar 1) (mCons (mLst (mCons (mVar 2) mNil)) (mCons (mTup mNil) (mCons (mB gReprO (mCons (mVar 2) mNil)) mNil))))))))) 6 mtYes (mFn 3 v__law_same (mCons (mVar 2) (mCons (mVar 6) (mCons (mC (.bl false)) mNil))))) mNil))) E = .ok false E := by
    refine not_tt (tv_b (b_ok (ds := [.lst ((([.non, .int 0, .str (S t.txt), t.d, .lst [t.ob], .tup [], .str (reE t)] : List D)).map fun _ => .bl true)]) (cons_ok (a := .fr (.lst ((([.non, .int 0, .str (S t.txt), t.d, .lst [t.ob], .tup [], .str (reE t)] : List D)).map fun _ => .bl true))) ?_ nil_ok) rfl))
    have hmi : miL (mLst (mCons (mC .non) (mCons (mC (.int 0)) (mCons (mVar 3) (mCons (mVar 1) (mCons (mLst (mCons (mVar 2) mNil)) (mCons (mTup mNil) (mCons (mB gReprO (mCons (mVar 2) mNil)) mNil)))))))) E = .ok [.non, .int 0, .str (S t.txt), t.d, .lst [t.ob], .tup [], .str (reE t)] E := by
      unfold miL
      rw [lst_ok (cons_ok c_ok (cons_ok c_ok (cons_ok (var_ok y3) (cons_ok (var_ok y1) (cons_ok (lst_ok (cons_ok (var_ok y2) nil_ok) (by show 1 ≤ 1000000; decide)) (cons_ok (tup_ok nil_ok (by decide)) (cons_ok (b_ok (cons_ok (var_ok y2) nil_ok) (repr_exp h' hs)) nil_ok))))))) (by show 7 ≤ 1000000; decide)]
      rfl
    refine Eq.trans (mLc_run (o := .emp) hmi (by rw [← hE]; rfl) rfl (by show 7 ≤ 1000000; decide)) ?_
    refine (lc_map (fun _ => .bl true) _ [] fun d hd => ?_).trans rfl
    have hodd : Odd d := by
      simp only [List.mem_cons, List.not_mem_nil, or_false] at hd
      rcases hd with rfl | rfl | rfl | rfl | rfl | rfl | rfl
      · exact odd_non
      · exact odd_int 0
      · exact odd_str _
      · exact odd_d t
      · exact odd_lst _
      · exact odd_tup _
      · exact odd_str _
    obtain ⟨ρo, eo⟩ := same_odd t hodd
    refine ⟨.val (.bl true), E.set 6 (.val d), fn_ok (ds := [t.ob, d, .bl false]) (cons_ok (var_ok (by rw [← hE]; rfl)) (cons_ok (var_ok (by rw [← hE]; rfl)) (cons_ok c_ok nil_ok))) rfl eo, by rw [← hE]; rfl, rfl⟩
  obtain ⟨ρf, ef, r0, r1, s4, s5, s6, s7, s8, s9, s10, rp, rfl, _⟩ := for_ok (g := gN 7) (mb := trB) (Pt t) (rng 0 4) 0 E ⟨q0, q1, _, _, _, _, _, _, _, u3, hE.symm, rfl, rfl, rfl, rfl⟩ (fun d _ i ρ hP => tr_step h hd hP)
  refine ⟨r0, r1, s4, s5, s6, s7, s8, s9, s10, rp, ?_⟩
  unfold m__law_tree_right
  rw [seq_nx sA, seq_nx sB, seq_if_f tC, seq_if_f tD, seq_if_f tE, seq_nx sF, seq_if_f tG, seq_if_f tH]
  refine (seq_nx ?_).trans (ret_rt c_ok)
  exact ef
end K84
end
section
set_option Elab.async false
set_option linter.all false
set_option maxRecDepth 100000
set_option maxHeartbeats 400000
/-! the plain law: trees of sixty parts and of more -/
namespace K84
open PySem PySem.Spec PyProof.Rows L2 PD NdefX ClX StX SX TL
def pairT : List T → List T
  | a :: b :: r => .a2 plusL a b :: pairT r
  | l => l
def wideT (n : Nat) : T := ((pairT (pairT (pairT (pairT (pairT ((List.range n).map fun i => T.of [97] i))))))).headD (.of [97] 0)
def okB : T → Bool
  | .of w n => decide (WOk w) && decide (n < 10 ^ 28)
  | .a1 w t => decide (WOk w) && okB t
  | .a2 w t u => decide (WOk w) && (okB t && okB u)
theorem okB_ok : ∀ {t : T}, okB t = true → t.Ok
  | .of w n, h => ⟨of_decide_eq_true (Bool.and_eq_true_iff.mp h).1, of_decide_eq_true (Bool.and_eq_true_iff.mp h).2⟩
  | .a1 w t, h => ⟨of_decide_eq_true (Bool.and_eq_true_iff.mp h).1, okB_ok (Bool.and_eq_true_iff.mp h).2⟩
  | .a2 w t u, h => ⟨of_decide_eq_true (Bool.and_eq_true_iff.mp h).1, okB_ok (Bool.and_eq_true_iff.mp (Bool.and_eq_true_iff.mp h).2).1, okB_ok (Bool.and_eq_true_iff.mp (Bool.and_eq_true_iff.mp h).2).2⟩
theorem wide30 : v__law_wide [.val (.int 30)] = .ok (.val (wideT 30).d) [.val (.int 30)] := by kernel_rfl
theorem wide31 : v__law_wide [.val (.int 31)] = .ok (.val (wideT 31).d) [.val (.int 31)] := by kernel_rfl
def t60 : T := .a1 [98] (wideT 30)
def t61 : T := wideT 31
def t61b : T := .a1 [98] t60
structure Fits (t : T) (n : Nat) : Prop where
  o : t.Ok
  s : t.size = n
  d : t.deep ≤ 12
  l : t.txt.length < 10000
  n : nd t.txt ≤ 500
  c : c40 t.txt < 40
theorem fits60 : Fits t60 60 := ⟨okB_ok (by decide +kernel), by decide +kernel, by decide +kernel, by decide +kernel, by decide +kernel, by decide +kernel⟩
theorem fits61 : Fits t61 61 := ⟨okB_ok (by decide +kernel), by decide +kernel, by decide +kernel, by decide +kernel, by decide +kernel, by decide +kernel⟩
theorem fits61b : Fits t61b 61 := ⟨okB_ok (by decide +kernel), by decide +kernel, by decide +kernel, by decide +kernel, by decide +kernel, by decide +kernel⟩
theorem Fits.yes {t : T} {n : Nat} (f : Fits t n) (h : n ≤ 60) : ∃ ρ', v_told [.val (.str (S t.txt))] = .ok (.val (.lst [.str "read", .str (S t.txt)])) ρ' :=
  told_yes (k := 40) (by have := f.l; omega) f.n f.c (by have := f.c; omega) (rdL_txtOk f.o.ok' (by have := f.d; omega)) (by rw [f.s]; exact h)
theorem Fits.no {t : T} {n : Nat} (f : Fits t n) (h : 60 < n) : ∃ ρ', v_told [.val (.str (S t.txt))] = .ok (.val (.lst [.str "text", .int 1])) ρ' :=
  told_no (k := 40) (by have := f.l; omega) f.n f.c (by have := f.c; omega) (fun u hu => by
    rw [rdL_txtOk f.o.ok' (by have := f.d; omega)] at hu
    cases hu
    rw [f.s]; exact h)
theorem Fits.w {t : T} {n : Nat} (f : Fits t n) (h : n ≤ 190) : ∃ ρ', v__law_written 12 [.val t.d] = .ok (.val (.str (S t.txt))) ρ' := written_ok t 12 f.o.ok' (by rw [f.s]; exact h) f.d
theorem sizes_gen {W A B C : T} (w30 : v__law_wide [.val (.int 30)] = .ok (.val W.d) [.val (.int 30)]) (w31 : v__law_wide [.val (.int 31)] = .ok (.val B.d) [.val (.int 31)]) (hA : D.tup [.str "do", .str "b", .tup [W.d]] = A.d) (hC : D.tup [.str "do", .str "b", .tup [A.d]] = C.d) (fA : Fits A 60) (fB : Fits B 61) (fC : Fits C 61) : v_sizes [] = .ok (.val (.bl true)) [] := by
  obtain ⟨oc, ρe, x1, x2⟩ := expr_ok A 12 fA.o.ok' (by rw [fA.s]; decide) fA.d
  obtain ⟨ρw, ew⟩ := fA.w (by decide)
  obtain ⟨ρt, et⟩ := fA.yes (by decide)
  obtain ⟨ρw2, ew2⟩ := fB.w (by decide)
  obtain ⟨ρt2, et2⟩ := fB.no (by decide)
  obtain ⟨ρw3, ew3⟩ := fC.w (by decide)
  obtain ⟨ρt3, et3⟩ := fC.no (by decide)
  have b_S : ("b" : Str) = S [98] := by decide +kernel
  have b_ok' : WOk [98] := by decide
  have s1 : mPar 0 1 (mCons (mFn 1 v__law_wide (mCons (mC (.int 30)) mNil)) (mCons (mC .non) mNil)) [.emp, .emp, .emp, .emp] = .nx [.val W.d, .val .non, .emp, .emp] :=
    par_nx (cons_ok (fn_ok (ds := [.int 30]) (cons_ok c_ok nil_ok) rfl w30) (cons_ok c_ok nil_ok)) (ρ2 := [.val W.d, .emp, .emp, .emp]) rfl rfl
  have s2 : mSet (gN 2) (mTup (mCons (mC (.str "do")) (mCons (mC (.str "b")) (mCons (mTup (mCons (mVar 0) mNil)) mNil)))) [.val W.d, .val .non, .emp, .emp] = .nx [.val W.d, .val .non, .val A.d, .emp] :=
    by
    rw [← hA]
    exact set_nx (tup_ok (cons_ok c_ok (cons_ok c_ok (cons_ok (tup_ok (cons_ok (var_ok rfl) nil_ok) (by show 1 ≤ 1000000; decide)) nil_ok))) (by show 3 ≤ 1000000; decide)) rfl
  generalize hρ : ([.val W.d, .val .non, .val A.d, .emp] : En) = ρ at s2
  have z2 : ρ[2]? = some (.val A.d) := by rw [← hρ]; rfl
  have hex : ∀ {E : En}, E[2]? = some (.val A.d) → mFn 1 (v__law_expression 12) (mCons (mVar 2) mNil) E = .ok (.fr oc) E := fun hi => fn_ok (ds := [A.d]) (cons_ok (var_ok hi) nil_ok) rfl x2
  have hwr : ∀ {E : En}, E[2]? = some (.val A.d) → mFn 1 (v__law_written 12) (mCons (mVar 2) mNil) E = .ok (.val (.str (S A.txt))) E := fun hi => fn_ok (ds := [A.d]) (cons_ok (var_ok hi) nil_ok) rfl ew
  have t1 : mtOr (mtV (mOp gNeO (mMeth cls "size" v_Expression_size (mFn 1 (v__law_expression 12) (mCons (mVar 2) mNil)) mNil) (mC (.int 60)))) (mtV (mOp gNeO (mFn 1 v_told (mCons (mFn 1 (v__law_written 12) (mCons (mVar 2) mNil)) mNil)) (mLst (mCons (mC (.str "read")) (mCons (mFn 1 (v__law_written 12) (mCons (mVar 2) mNil)) mNil))))) ρ = .ok false ρ := by
    refine (or_f (tv_b (op_ok (meth0_ok (t := A) (hex z2) x1 (by decide) (size_ok A)) c_ok (int_eqO.trans ?_)))).trans (tv_b (op_ok (fn_ok (ds := [.str (S A.txt)]) (cons_ok (hwr z2) nil_ok) rfl et) (lst_ok (cons_ok c_ok (cons_ok (hwr z2) nil_ok)) (by show 2 ≤ 1000000; decide)) (read_self (txt_low fA.o.ok') not)))
    rw [fA.s]
    rfl
  have hl60 := T.txt_len fA.o.ok'
  have hr60 := repr_low (txt_low fA.o.ok')
  have hre := reE_len A
  have hsz := fA.s
  have hrT : gReprT1 [.tup [A.ob]] = some (.val (.str (tupleText [reE A]))) := by
    have h3 := repr_ok' fA.o.ok' (by rw [fA.s]; decide)
    obtain ⟨c, ns, ds, e, h1, h2⟩ := ob_obj A
    rw [e] at h3 ⊢
    show (if cls.contains c = true then (ownTxt v_Expression___repr__ (.obj c ns ds)).bind fun z => if z.length + 10 ≤ top1 then vs (tupleText [z]) else none else none) = _
    rw [if_pos h1]
    unfold ownTxt
    rw [h3]
    show (if (reE A).length + 10 ≤ top1 then vs (tupleText [reE A]) else none) = _
    rw [if_pos (by show _ ≤ 1000000; omega)]
  have s3 : mTryS ρ = .nx [.val W.d, .val (.str (tupleText [reE A])), .val A.d, .emp] := by
    have hmk : mMk "Application" v_init_Application (mCons (mC (.str "b")) (mCons (mFn 1 (v__law_expression 12) (mCons (mVar 2) mNil)) mNil)) ρ = .er ⟨"InvalidExpression", ["value"], [.tup ([A].map T.ob)]⟩ ρ := by
      refine mkA_er (w := [98]) (ts := [A]) b_ok' ⟨by show 1 ≤ 1; decide, by show 1 ≤ 2; decide⟩ (fun u hu => by rw [List.mem_singleton.mp hu]; exact ⟨fA.o.ok', by rw [fA.s]; decide⟩) (by show 60 < 1 + A.size; rw [fA.s]; decide) ?_
      have hms := cons_ok (c_ok (d := .str "b") (ρ := ρ)) (cons_ok (hex z2) nil_ok)
      rw [show (RV.fr oc).d = A.ob from x1] at hms
      rw [← b_S]
      exact hms
    have hdr : mDrop (mMk "Application" v_init_Application (mCons (mC (.str "b")) (mCons (mFn 1 (v__law_expression 12) (mCons (mVar 2) mNil)) mNil))) ρ = .er ⟨"InvalidExpression", ["value"], [.tup ([A].map T.ob)]⟩ ρ := by
      unfold mDrop
      rw [hmk]
      rfl
    have hh : mhS ⟨"InvalidExpression", ["value"], [.tup ([A].map T.ob)]⟩ [.val W.d, .val .non, .val A.d, .emp] = .nx [.val W.d, .val (.str (tupleText [reE A])), .val A.d, .emp] := by
      show (match gReprT1 [.tup [A.ob]] with
        | some r => (match gN 1 r.d [.val W.d, .val .non, .val A.d, .emp] with
          | some ρ1 => Out.nx ρ1
          | none => .no)
        | none => .no) = _
      rw [hrT]
      rfl
    have he : emS "InvalidExpression" = some true := by decide +kernel
    have hc3 : clrE 3 ρ = some [.val W.d, .val .non, .val A.d, .emp] := by rw [← hρ]; rfl
    have hm : mTry emS 3 (mDrop (mMk "Application" v_init_Application (mCons (mC (.str "b")) (mCons (mFn 1 (v__law_expression 12) (mCons (mVar 2) mNil)) mNil)))) mhS ρ = .nx [.val W.d, .val (.str (tupleText [reE A])), .val A.d, .emp] := by
      unfold mTry
      rw [hdr]
      dsimp only
      rw [he]
      dsimp only
      rw [hc3]
      dsimp only
      rw [hh]
      rfl
    unfold mTryS noErS
    rw [hm]
  generalize hE : ([.val W.d, .val (.str (tupleText [reE A])), .val A.d, .emp] : En) = E at s3
  have y1 : E[1]? = some (.val (.str (tupleText [reE A]))) := by rw [← hE]; rfl
  have y2 : E[2]? = some (.val A.d) := by rw [← hE]; rfl
  have t2 : mtOr (mtV (mOp gNeO (mVar 1) (mB gReprT1 (mCons (mTup (mCons (mFn 1 (v__law_expression 12) (mCons (mVar 2) mNil)) mNil)) mNil)))) (mtV (mOp gNeO (mFn 1 v_told (mCons (mFn 1 (v__law_written 12) (mCons (mFn 1 v__law_wide (mCons (mC (.int 31)) mNil)) mNil)) mNil)) (mLst (mCons (mC (.str "text")) (mCons (mC (.int 1)) mNil))))) E = .ok false E := by
    have htu : mCons (mTup (mCons (mFn 1 (v__law_expression 12) (mCons (mVar 2) mNil)) mNil)) mNil E = .ok [.tup [A.ob]] E := by
      have hms := cons_ok (hex y2) nil_ok
      rw [show (RV.fr oc).d = A.ob from x1] at hms
      exact cons_ok (tup_ok hms (by show 1 ≤ 1000000; decide)) nil_ok
    refine (or_f (tv_b (op_ok (var_ok y1) (b_ok htu hrT) ?_))).trans (tv_b (op_ok (fn_ok (ds := [.str (S B.txt)]) (cons_ok (fn_ok (ds := [B.d]) (cons_ok (fn_ok (ds := [.int 31]) (cons_ok c_ok nil_ok) rfl w31) nil_ok) rfl ew2) nil_ok) rfl et2) (lst_ok (cons_ok c_ok (cons_ok c_ok nil_ok)) (by show 2 ≤ 1000000; decide)) (text_self not)))
    show some (RV.val (.bl (!decide (tupleText [reE A] = tupleText [reE A])))) = _
    rw [decide_eq_true rfl]
    rfl
  have r1 : mRet (mOp gEqO (mFn 1 v_told (mCons (mFn 1 (v__law_written 12) (mCons (mTup (mCons (mC (.str "do")) (mCons (mC (.str "b")) (mCons (mTup (mCons (mVar 2) mNil)) mNil)))) mNil)) mNil)) (mLst (mCons (mC (.str "text")) (mCons (mC (.int 1)) mNil)))) E = .rt (.val (.bl true)) E := by
    rw [← hC] at ew3
    refine ret_rt (op_ok (fn_ok (ds := [.str (S C.txt)]) (cons_ok (fn_ok (ds := [.tup [.str "do", .str "b", .tup [A.d]]]) (cons_ok (tup_ok (cons_ok c_ok (cons_ok c_ok (cons_ok (tup_ok (cons_ok (var_ok y2) nil_ok) (by show 1 ≤ 1000000; decide)) nil_ok))) (by show 3 ≤ 1000000; decide)) nil_ok) rfl ew3) nil_ok) rfl et3) (lst_ok (cons_ok c_ok (cons_ok c_ok nil_ok)) (by show 2 ≤ 1000000; decide)) (text_self id))
  have key : m__law_sizes_right v_told [.emp, .emp, .emp, .emp] = .rt (.val (.bl true)) E := by
    unfold m__law_sizes_right
    rw [seq_nx s1, seq_nx s2, seq_if_f t1, seq_nx s3, seq_if_f t2]
    exact r1
  exact run_rt (n := 0) (N := 4) (m := m__law_sizes_right v_told) (args := []) key
theorem sizes_ok : v_sizes [] = .ok (.val (.bl true)) [] := by
  have b_S : ("b" : Str) = S [98] := by decide +kernel
  refine sizes_gen wide30 wide31 (A := t60) (C := t61b) ?_ ?_ fits60 fits61 fits61b
  · show _ = D.tup [.str "do", .str (S [98]), .tup [(wideT 30).d]]
    rw [b_S]
  · show _ = D.tup [.str "do", .str (S [98]), .tup [t60.d]]
    rw [b_S]
end K84
end
section
set_option Elab.async false
set_option linter.all false
set_option maxRecDepth 100000
set_option maxHeartbeats 400000
/-! the plain law: whole -/
namespace K84
open PySem PySem.Spec PyProof.Rows L2 PD NdefX ClX StX SX TL
theorem all_true : ∀ {out : List D}, (∀ d ∈ out, d = .bl true) → gAll [.lst out] = some (.val (.bl true)) := by
  intro out h
  have hb : ∀ {out : List D}, (∀ d ∈ out, d = .bl true) → ∃ bs : List Bool, mapAll D.bl? out = some bs ∧ bs.all id = true := by
    intro out
    induction out with
    | nil => exact fun _ => ⟨[], rfl, rfl⟩
    | cons a r ih =>
      intro h
      obtain ⟨bs, e1, e2⟩ := ih fun d hd => h d (List.mem_cons_of_mem _ hd)
      refine ⟨true :: bs, ?_, ?_⟩
      · rw [h a List.mem_cons_self, mapAll, e1]; rfl
      · simp [e2]
  obtain ⟨bs, e1, e2⟩ := hb h
  show (mapAll D.bl? out).bind _ = _
  rw [e1]
  show vb (bs.all id) = _
  rw [e2]
/-- one tree, drawn and looked at -/
theorem one_ok {p0 p1 : Int} (hp : PotOk p0 p1) {d : D} : ∃ q0 q1, PotOk q0 q1 ∧ mFnO 2 v_tree_right 0 (mCons (mFnO 2 (v__law_tree 8) 0 (mCons (mFnO 2 v__law_draw 0 (mCons (mC (.int 5)) mNil)) mNil)) mNil) [potD p0 p1, .val d, .emp, .emp] = .ok (.val (.bl true)) [potD q0 q1, .val d, .emp, .emp] := by
  obtain ⟨r, a0, a1, r1, r2, ha, e1⟩ := mdraw (b := 5) (i := 0) (ρ := [potD p0 p1, .val d, .emp, .emp]) (ms := mCons (mC (.int 5)) mNil) hp ⟨by decide, Nat.lt_of_le_of_lt (lg (k := 3) (by decide)) (by decide)⟩ rfl (cons_ok c_ok nil_ok)
  obtain ⟨n, rfl⟩ := Int.eq_ofNat_of_zero_le r1
  obtain ⟨t, b0, b1, ρt, t1, t2, hb, e2⟩ := tree_ok 8 n (by omega) ha
  have f1 : mFnO 2 (v__law_tree 8) 0 (mCons (mFnO 2 v__law_draw 0 (mCons (mC (.int 5)) mNil)) mNil) [potD p0 p1, .val d, .emp, .emp] = .ok (.val t.d) [potD b0 b1, .val d, .emp, .emp] :=
    fnO_ok (l0 := .lst [.int p0, .int p1]) (l := .lst [.int a0, .int a1]) (l' := .lst [.int b0, .int b1]) (ρ1 := [potD a0 a1, .val d, .emp, .emp]) (ds := [.int (n : Nat)]) rfl (cons_ok e1 nil_ok) rfl rfl e2
  obtain ⟨c0, c1, ρc, hc, e3⟩ := tree_right_ok t1 (by omega) hb
  exact ⟨c0, c1, hc, fnO_ok (l0 := .lst [.int p0, .int p1]) (l := .lst [.int b0, .int b1]) (l' := .lst [.int c0, .int c1]) (ρ1 := [potD b0 b1, .val d, .emp, .emp]) (ds := [t.d]) rfl (cons_ok f1 nil_ok) rfl rfl e3⟩
theorem told_nil : ∃ ρ', v_told [.val (.str "")] = .ok (.val (.lst [.str "text", .int 1])) ρ' :=
  told_no (x := []) (k := 1) (by decide) (by decide) (by decide) (by decide) (fun t ht => by
    have e : rdL 1 [] = none := by decide +kernel
    rw [e] at ht
    cases ht)
theorem right_ok {p0 p1 : Int} (hp : PotOk p0 p1) : ∃ ρ', v_right [potD p0 p1] = .ok (.val (.bl true)) ρ' := by
  suffices H : ∃ ρ', m__law_right v_told v_tree_right [potD p0 p1, .emp, .emp, .emp] = .rt (.val (.bl true)) ρ' from by
    obtain ⟨ρ', e⟩ := H
    exact ⟨_, run_rt (n := 1) (N := 4) (m := m__law_right v_told v_tree_right) (args := [potD p0 p1]) e⟩
  obtain ⟨out, ρf, f1, ⟨q0, q1, hq, rfl⟩, f3, f4⟩ := lc_all (i := 1) (o := .emp) (me := mFnO 2 v_tree_right 0 (mCons (mFnO 2 (v__law_tree 8) 0 (mCons (mFnO 2 v__law_draw 0 (mCons (mC (.int 5)) mNil)) mNil)) mNil)) (fun ρ => ∃ p0 p1, PotOk p0 p1 ∧ ρ = [potD p0 p1, .emp, .emp, .emp]) (fun d => d = .bl true) (rng 0 8) [] [potD p0 p1, .emp, .emp, .emp] ⟨p0, p1, hp, rfl⟩ (fun d hd => nomatch hd) (fun d hd ρ hρ => by
    obtain ⟨a0, a1, ha, rfl⟩ := hρ
    obtain ⟨b0, b1, hb, e⟩ := one_ok ha (d := d)
    exact ⟨.val (.bl true), _, e, ⟨b0, b1, hb, rfl⟩, rfl⟩)
  have t1 : mtNot (mtV (mB gAll (mCons (mLc (miR1 (mCons (mC (.int 8)) mNil)) 1 mtYes (mFnO 2 v_tree_right 0 (mCons (mFnO 2 (v__law_tree 8) 0 (mCons (mFnO 2 v__law_draw 0 (mCons (mC (.int 5)) mNil)) mNil)) mNil))) mNil))) [potD p0 p1, .emp, .emp, .emp] = .ok false [potD q0 q1, .emp, .emp, .emp] := by
    refine not_tt (tv_b (b_ok (ds := [.lst out]) (cons_ok (a := .fr (.lst out)) ?_ nil_ok) (all_true f3)))
    refine Eq.trans (mLc_run (ds := rng 0 8) (o := .emp) (ρ1 := [potD p0 p1, .emp, .emp, .emp]) rfl rfl rfl (by rw [rng_len]; decide)) ?_
    exact f1
  obtain ⟨oc, k1, k2⟩ := mkC (w := [97]) (n := 1) (ms := mCons (mC (.str "a")) (mCons (mC (.int 1)) mNil)) (ρ := [potD q0 q1, .emp, .emp, .emp]) (by decide) (Nat.one_lt_pow (by decide) (by decide)) (cons_ok c_ok (cons_ok c_ok nil_ok))
  have s2 : mSet (gN 2) (mLst (mCons (mC .non) (mCons (mC (.int 0)) (mCons (mC (.bl true)) (mCons (mLst mNil) (mCons (mTup mNil) (mCons mDct0 (mCons (mLst (mCons (mC (.str "a:1")) mNil)) (mCons (mTup (mCons (mC (.str "a")) (mCons (mC (.int 1)) mNil))) (mCons (mMk "Constant" v_init_Constant (mCons (mC (.str "a")) (mCons (mC (.int 1)) mNil))) mNil)))))))))) [potD q0 q1, .emp, .emp, .emp] = .nx [potD q0 q1, .emp, .val (.lst [.non, .int 0, .bl true, .lst [], .tup [], .dct [] [], .lst [.str "a:1"], .tup [.str "a", .int 1], (T.of [97] 1).ob]), .emp] := by
    have hms := cons_ok k2 nil_ok
    rw [show (RV.fr oc).d = (T.of [97] 1).ob from k1] at hms
    exact set_nx (lst_ok (cons_ok c_ok (cons_ok c_ok (cons_ok c_ok (cons_ok (lst_ok nil_ok (by decide)) (cons_ok (tup_ok nil_ok (by decide)) (cons_ok (a := .fr (.dct [] [])) rfl (cons_ok (lst_ok (cons_ok c_ok nil_ok) (by show 1 ≤ 1000000; decide)) (cons_ok (tup_ok (cons_ok c_ok (cons_ok c_ok nil_ok)) (by show 2 ≤ 1000000; decide)) hms)))))))) (by show 9 ≤ 1000000; decide)) rfl
  have a1 : mB gAll (mCons (mLc (miL (mVar 2)) 3 mtYes (mOp gEqO (mFn 1 v_told (mCons (mVar 3) mNil)) (mLst (mCons (mC (.str "text")) (mCons (mC (.int 0)) mNil))))) mNil) [potD q0 q1, .emp, .val (.lst [.non, .int 0, .bl true, .lst [], .tup [], .dct [] [], .lst [.str "a:1"], .tup [.str "a", .int 1], (T.of [97] 1).ob]), .emp] = .ok (.val (.bl true)) [potD q0 q1, .emp, .val (.lst [.non, .int 0, .bl true, .lst [], .tup [], .dct [] [], .lst [.str "a:1"], .tup [.str "a", .int 1], (T.of [97] 1).ob]), .emp] := by
    refine b_ok (ds := [.lst ((([.non, .int 0, .bl true, .lst [], .tup [], .dct [] [], .lst [.str "a:1"], .tup [.str "a", .int 1], (T.of [97] 1).ob] : List D)).map fun _ => .bl true)]) (cons_ok (a := .fr (.lst ((([.non, .int 0, .bl true, .lst [], .tup [], .dct [] [], .lst [.str "a:1"], .tup [.str "a", .int 1], (T.of [97] 1).ob] : List D)).map fun _ => .bl true))) ?_ nil_ok) rfl
    refine Eq.trans (mLc_run (ds := [.non, .int 0, .bl true, .lst [], .tup [], .dct [] [], .lst [.str "a:1"], .tup [.str "a", .int 1], (T.of [97] 1).ob]) (o := .emp) (ρ1 := [potD q0 q1, .emp, .val (.lst [.non, .int 0, .bl true, .lst [], .tup [], .dct [] [], .lst [.str "a:1"], .tup [.str "a", .int 1], (T.of [97] 1).ob]), .emp]) rfl rfl rfl (by show 9 ≤ 1000000; decide)) ?_
    refine (lc_map (fun _ => .bl true) _ [] fun d hd => ?_).trans rfl
    have hodd : gIsT "str" d = some (.val (.bl false)) := by
      simp only [List.mem_cons, List.not_mem_nil, or_false] at hd
      rcases hd with rfl | rfl | rfl | rfl | rfl | rfl | rfl | rfl | rfl <;> rfl
    obtain ⟨ρo, eo⟩ := told_odd hodd
    exact ⟨.val (.bl true), [potD q0 q1, .emp, .val (.lst [.non, .int 0, .bl true, .lst [], .tup [], .dct [] [], .lst [.str "a:1"], .tup [.str "a", .int 1], (T.of [97] 1).ob]), .val d], op_ok (fn_ok (ds := [d]) (cons_ok (var_ok rfl) nil_ok) rfl eo) (lst_ok (cons_ok c_ok (cons_ok c_ok nil_ok)) (by show 2 ≤ 1000000; decide)) (text_self id), rfl, rfl⟩
  obtain ⟨ρn, en⟩ := told_nil
  unfold m__law_right
  rw [seq_if_f t1, seq_nx s2]
  exact ⟨_, ret_rt ((vand_t a1).trans (op_ok (fn_ok (ds := [.str ""]) (cons_ok c_ok nil_ok) rfl en) (lst_ok (cons_ok c_ok (cons_ok c_ok nil_ok)) (by show 2 ≤ 1000000; decide)) (text_self id)))⟩
end K84
end
section
set_option Elab.async false
set_option linter.all false
set_option maxRecDepth 100000
set_option maxHeartbeats 400000
/-! the plain law: the end -/
namespace K84
open PySem PySem.Spec PyProof.Rows L2 PD NdefX ClX StX SX TL
theorem pot_tail {ns : List Int} {i c : Int} (h0 : 0 ≤ i) (h1 : i < 4) : ∃ p0 p1, PotOk p0 p1 ∧ mRet (mLst (mCons (mB gMax2 (mCons (mC (.int 0)) (mCons (mOp gSub (mVar 2) (mOp gPow (mC (.int 10)) (mC (.int 18)))) mNil))) (mCons (mOp gAdd (mOp gMod (mOp gPow (mOp gAdd (mOp gAdd (mOp gMod (mVar 2) (mC (.int 2147483629))) (mOp gMul (mC (.int 1013)) (mVar 1))) (mC (.int 7))) (mC (.int 3))) (mC (.int 2147483587))) (mC (.int 1))) mNil))) [.val (.lst (ns.map .int)), .val (.int i), .val (.int c)] = .rt (.fr (.lst [.int p0, .int p1])) [.val (.lst (ns.map .int)), .val (.int i), .val (.int c)] := by
  have m1 : 0 ≤ c % 2147483629 := Int.emod_nonneg _ (by decide)
  have m2 : c % 2147483629 < 2147483629 := Int.emod_lt_of_pos _ (by decide)
  have n1 : 0 ≤ (c % 2147483629 + 1013 * i + 7) ^ 3 % 2147483587 := Int.emod_nonneg _ (by decide)
  have n2 : (c % 2147483629 + 1013 * i + 7) ^ 3 % 2147483587 < 2147483587 := Int.emod_lt_of_pos _ (by decide)
  generalize hE : ([.val (.lst (ns.map .int)), .val (.int i), .val (.int c)] : En) = E
  have z1 : E[1]? = some (.val (.int i)) := by rw [← hE]; rfl
  have z2 : E[2]? = some (.val (.int c)) := by rw [← hE]; rfl
  have e1 : mOp gPow (mC (.int 10)) (mC (.int 18)) E = .ok (.val (.int (10 ^ 18))) E := by
    refine op_ok c_ok c_ok ?_
    show (if (0 : Int) ≤ 18 ∧ (18 : Int) ≤ 1000000 ∧ (10 : Int).natAbs < 2 ^ 64 then vi (10 ^ (18 : Int).toNat) else none) = _
    rw [if_pos (by decide)]
    rfl
  have e2 : mOp gSub (mVar 2) (mOp gPow (mC (.int 10)) (mC (.int 18))) E = .ok (.val (.int (c - 10 ^ 18))) E := op_ok (var_ok z2) e1 rfl
  have e3 : mB gMax2 (mCons (mC (.int 0)) (mCons (mOp gSub (mVar 2) (mOp gPow (mC (.int 10)) (mC (.int 18)))) mNil)) E = .ok (.val (.int (if c - 10 ^ 18 > 0 then c - 10 ^ 18 else 0))) E := b_ok (cons_ok c_ok (cons_ok e2 nil_ok)) rfl
  have f1 : mOp gMul (mC (.int 1013)) (mVar 1) E = .ok (.val (.int (1013 * i))) E := by
    refine op_ok c_ok (var_ok z1) ?_
    show (if (1013 : Int).natAbs.log2 + i.natAbs.log2 < 1000000 then vi (1013 * i) else none) = _
    rw [if_pos]
    have l1 : (1013 : Int).natAbs.log2 ≤ 10 := lg (by decide)
    have l2 : i.natAbs.log2 ≤ 2 := lg (by omega)
    omega
  have f2 : mOp gMod (mVar 2) (mC (.int 2147483629)) E = .ok (.val (.int (c % 2147483629))) E := op_ok (var_ok z2) c_ok rfl
  have f3 : mOp gAdd (mOp gMod (mVar 2) (mC (.int 2147483629))) (mOp gMul (mC (.int 1013)) (mVar 1)) E = .ok (.val (.int (c % 2147483629 + 1013 * i))) E := op_ok f2 f1 rfl
  have f4 : mOp gAdd (mOp gAdd (mOp gMod (mVar 2) (mC (.int 2147483629))) (mOp gMul (mC (.int 1013)) (mVar 1))) (mC (.int 7)) E = .ok (.val (.int (c % 2147483629 + 1013 * i + 7))) E := op_ok f3 c_ok rfl
  have f5 : mOp gPow (mOp gAdd (mOp gAdd (mOp gMod (mVar 2) (mC (.int 2147483629))) (mOp gMul (mC (.int 1013)) (mVar 1))) (mC (.int 7))) (mC (.int 3)) E = .ok (.val (.int ((c % 2147483629 + 1013 * i + 7) ^ 3))) E := by
    refine op_ok f4 c_ok ?_
    show (if (0 : Int) ≤ 3 ∧ (3 : Int) ≤ 1000000 ∧ (c % 2147483629 + 1013 * i + 7).natAbs < 2 ^ 64 then vi ((c % 2147483629 + 1013 * i + 7) ^ (3 : Int).toNat) else none) = _
    rw [if_pos ⟨by decide, by decide, by omega⟩]
    rfl
  have f6 : mOp gMod (mOp gPow (mOp gAdd (mOp gAdd (mOp gMod (mVar 2) (mC (.int 2147483629))) (mOp gMul (mC (.int 1013)) (mVar 1))) (mC (.int 7))) (mC (.int 3))) (mC (.int 2147483587)) E = .ok (.val (.int ((c % 2147483629 + 1013 * i + 7) ^ 3 % 2147483587))) E := op_ok f5 c_ok rfl
  have f7 : mOp gAdd (mOp gMod (mOp gPow (mOp gAdd (mOp gAdd (mOp gMod (mVar 2) (mC (.int 2147483629))) (mOp gMul (mC (.int 1013)) (mVar 1))) (mC (.int 7))) (mC (.int 3))) (mC (.int 2147483587))) (mC (.int 1)) E = .ok (.val (.int ((c % 2147483629 + 1013 * i + 7) ^ 3 % 2147483587 + 1))) E := op_ok f6 c_ok rfl
  refine ⟨if c - 10 ^ 18 > 0 then c - 10 ^ 18 else 0, (c % 2147483629 + 1013 * i + 7) ^ 3 % 2147483587 + 1, ⟨by split <;> omega, by omega, by omega⟩, ret_rt (lst_ok (cons_ok e3 (cons_ok f7 nil_ok)) (by show 2 ≤ 1000000; decide))⟩
theorem pot_ok {ns : List Int} {i : Int} (hl : ns.length ≤ 63) (h0 : 0 ≤ i) (h1 : i < 4) : ∃ p0 p1 ρ', PotOk p0 p1 ∧ v__law_pot [.val (.lst (ns.map .int)), .val (.int i)] = .ok (.fr (.lst [.int p0, .int p1])) ρ' := by
  have hlen : mB gLen (mCons (mVar 0) mNil) [.val (.lst (ns.map .int)), .val (.int i), .val (.int 0)] = .ok (.val (.int (ns.length : Nat))) [.val (.lst (ns.map .int)), .val (.int i), .val (.int 0)] := by
    refine b_ok (cons_ok (var_ok rfl) nil_ok) ?_
    show some (RV.val (.int ((ns.map D.int).length : Nat))) = _
    rw [List.length_map]
  have t1 : mtV (mOp gLt (mVar 1) (mB gLen (mCons (mVar 0) mNil))) [.val (.lst (ns.map .int)), .val (.int i), .val (.int 0)] = .ok (decide (i < (ns.length : Nat))) [.val (.lst (ns.map .int)), .val (.int i), .val (.int 0)] := tv_b (op_ok (var_ok rfl) hlen lt_int)
  have key : ∃ c : Int, mSeq (mSet (gN 2) (mC (.int 0))) (mSeq (mIf (mtV (mOp gLt (mVar 1) (mB gLen (mCons (mVar 0) mNil)))) (mSet (gN 2) (mB gAbs (mCons (mOp gIx (mVar 0) (mVar 1)) mNil))) mNext) (mRet (mLst (mCons (mB gMax2 (mCons (mC (.int 0)) (mCons (mOp gSub (mVar 2) (mOp gPow (mC (.int 10)) (mC (.int 18)))) mNil))) (mCons (mOp gAdd (mOp gMod (mOp gPow (mOp gAdd (mOp gAdd (mOp gMod (mVar 2) (mC (.int 2147483629))) (mOp gMul (mC (.int 1013)) (mVar 1))) (mC (.int 7))) (mC (.int 3))) (mC (.int 2147483587))) (mC (.int 1))) mNil))))) [.val (.lst (ns.map .int)), .val (.int i), .emp] = mRet (mLst (mCons (mB gMax2 (mCons (mC (.int 0)) (mCons (mOp gSub (mVar 2) (mOp gPow (mC (.int 10)) (mC (.int 18)))) mNil))) (mCons (mOp gAdd (mOp gMod (mOp gPow (mOp gAdd (mOp gAdd (mOp gMod (mVar 2) (mC (.int 2147483629))) (mOp gMul (mC (.int 1013)) (mVar 1))) (mC (.int 7))) (mC (.int 3))) (mC (.int 2147483587))) (mC (.int 1))) mNil))) [.val (.lst (ns.map .int)), .val (.int i), .val (.int c)] := by
    have s0 : mSet (gN 2) (mC (.int 0)) [.val (.lst (ns.map .int)), .val (.int i), .emp] = .nx [.val (.lst (ns.map .int)), .val (.int i), .val (.int 0)] := rfl
    rw [seq_nx s0]
    by_cases c : i < (ns.length : Nat)
    · rw [decide_eq_true c] at t1
      obtain ⟨n, rfl⟩ := Int.eq_ofNat_of_zero_le h0
      have hn : n < ns.length := by omega
      refine ⟨if ns[n] < 0 then -ns[n] else ns[n], seq_nx ((if_t t1).trans (set_nx (a := .val (.int (if ns[n] < 0 then -ns[n] else ns[n]))) (ρ1 := [.val (.lst (ns.map .int)), .val (.int (n : Nat)), .val (.int 0)]) (b_ok (ds := [.int ns[n]]) (cons_ok (a := .val (.int ns[n])) (op_ok (var_ok rfl) (var_ok rfl) ?_) nil_ok) rfl) rfl))⟩
      show (atI (ns.map D.int) (n : Int)).map RV.val = _
      unfold atI ixN
      rw [if_pos (by omega), List.length_map, if_pos (by omega)]
      show ((ns.map D.int)[(n : Int).toNat]?).map RV.val = _
      rw [Int.toNat_natCast, List.getElem?_map, List.getElem?_eq_getElem hn]
      rfl
    · rw [decide_eq_false c] at t1
      exact ⟨0, seq_nx ((if_f t1).trans rfl)⟩
  obtain ⟨c, e⟩ := key
  obtain ⟨p0, p1, hp, e2⟩ := pot_tail (ns := ns) (c := c) h0 h1
  exact ⟨p0, p1, _, hp, run_rt (n := 2) (N := 3) (m := m__law_pot) (args := [.val (.lst (ns.map .int)), .val (.int i)]) (e.trans e2)⟩
theorem plain : Plain := by
  intro ns hl _
  suffices H : ∃ ρ', m_law v_sizes v_right [.val (.lst (ns.map .int)), .emp] = .rt (.val (.bl true)) ρ' from by
    obtain ⟨ρ', e⟩ := H
    exact ⟨_, run_rt (n := 1) (N := 2) (m := m_law v_sizes v_right) (args := [.val (.lst (ns.map .int))]) e⟩
  have t1 : mtNot (mtV (mFn 0 v_sizes mNil)) [.val (.lst (ns.map .int)), .emp] = .ok false [.val (.lst (ns.map .int)), .emp] := not_tt (tv_b (fn_ok nil_ok rfl sizes_ok))
  unfold m_law
  rw [seq_if_f t1]
  obtain ⟨n, hn1, hn2, hmi⟩ : ∃ n : Nat, n ≤ 4 ∧ n ≤ 1000000 ∧ miR1 (mCons (mB gMax2 (mCons (mC (.int 1)) (mCons (mB gMin2 (mCons (mC (.int 4)) (mCons (mB gLen (mCons (mVar 0) mNil)) mNil))) mNil))) mNil) [.val (.lst (ns.map .int)), .emp] = .ok (rng 0 n) [.val (.lst (ns.map .int)), .emp] := by
    have hlen : mB gLen (mCons (mVar 0) mNil) [.val (.lst (ns.map .int)), .emp] = .ok (.val (.int (ns.length : Nat))) [.val (.lst (ns.map .int)), .emp] := by
      refine b_ok (cons_ok (var_ok rfl) nil_ok) ?_
      show some (RV.val (.int ((ns.map D.int).length : Nat))) = _
      rw [List.length_map]
    obtain ⟨j, hj1, hj2, hms⟩ : ∃ j : Int, 1 ≤ j ∧ j ≤ 4 ∧ mCons (mB gMax2 (mCons (mC (.int 1)) (mCons (mB gMin2 (mCons (mC (.int 4)) (mCons (mB gLen (mCons (mVar 0) mNil)) mNil))) mNil))) mNil [.val (.lst (ns.map .int)), .emp] = .ok [.int j] [.val (.lst (ns.map .int)), .emp] := by
      have h1 : mB gMin2 (mCons (mC (.int 4)) (mCons (mB gLen (mCons (mVar 0) mNil)) mNil)) [.val (.lst (ns.map .int)), .emp] = .ok (.val (.int (if (ns.length : Int) < 4 then (ns.length : Int) else 4))) [.val (.lst (ns.map .int)), .emp] := b_ok (cons_ok c_ok (cons_ok hlen nil_ok)) rfl
      have h2 : mB gMax2 (mCons (mC (.int 1)) (mCons (mB gMin2 (mCons (mC (.int 4)) (mCons (mB gLen (mCons (mVar 0) mNil)) mNil))) mNil)) [.val (.lst (ns.map .int)), .emp] = .ok (.val (.int (if (if (ns.length : Int) < 4 then (ns.length : Int) else 4) > 1 then (if (ns.length : Int) < 4 then (ns.length : Int) else 4) else 1))) [.val (.lst (ns.map .int)), .emp] := b_ok (cons_ok c_ok (cons_ok h1 nil_ok)) rfl
      refine ⟨if (if (ns.length : Int) < 4 then (ns.length : Int) else 4) > 1 then (if (ns.length : Int) < 4 then (ns.length : Int) else 4) else 1, ?_, ?_, cons_ok h2 nil_ok⟩
      · split <;> omega
      · split <;> (split <;> omega)
    refine ⟨j.toNat, by omega, by omega, ?_⟩
    unfold miR1
    rw [hms]
    show (if -1000000000000 < j ∧ j < 1000000000000 then Res.ok (rng 0 j.toNat) _ else .no) = _
    rw [if_pos (by omega)]
  refine ⟨_, ret_rt (b_ok (ds := [.lst ((rng 0 n).map fun _ => .bl true)]) (cons_ok (a := .fr (.lst ((rng 0 n).map fun _ => .bl true))) (ρ1 := [.val (.lst (ns.map .int)), .emp]) ?_ nil_ok) (all_true fun d hd => by
    obtain ⟨_, _, e⟩ := List.mem_map.mp hd
    exact e.symm))⟩
  refine Eq.trans (mLc_run (o := .emp) hmi rfl rfl (by rw [rng_len]; exact hn2)) ?_
  refine (lc_map (fun _ => .bl true) (rng 0 n) [] fun d hd => ?_).trans rfl
  obtain ⟨i, hi, e⟩ := List.mem_map.mp hd
  rw [List.mem_range] at hi
  obtain ⟨p0, p1, ρp, hp, ep⟩ := pot_ok (ns := ns) (i := 0 + (i : Nat)) hl (by omega) (by omega)
  obtain ⟨ρr, er⟩ := right_ok hp
  refine ⟨.val (.bl true), [.val (.lst (ns.map .int)), .val d], ?_, rfl, rfl⟩
  show mFnF v_right (mFn 2 v__law_pot (mCons (mVar 0) (mCons (mVar 1) mNil))) [.val (.lst (ns.map .int)), .val d] = _
  have hf : mFn 2 v__law_pot (mCons (mVar 0) (mCons (mVar 1) mNil)) [.val (.lst (ns.map .int)), .val d] = .ok (.fr (.lst [.int p0, .int p1])) [.val (.lst (ns.map .int)), .val d] := by
    rw [← e]
    exact fn_ok (ds := [.lst (ns.map .int), .int (0 + (i : Nat))]) (cons_ok (var_ok rfl) (cons_ok (var_ok rfl) nil_ok)) rfl ep
  unfold mFnF
  rw [hf]
  show (match v_right [potD p0 p1] with
    | Res.ok (RV.val d) _ => Res.ok (RV.val d) _
    | _ => Res.no) = _
  rw [er]
end K84
theorem PySem.Challenge.cw_agreeingcasts_k84_written_expressions_holds : PySem.Challenge.rw_agreeingcasts_k84_written_expressions.Holds :=
  K84.holds_of K84.plain
end
