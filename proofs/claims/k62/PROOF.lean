import PyProof.Rows.All
import Wide.All
import OpenK.AllK
import Wide.FinOn
import HandS.ForMost
import HandS.Walk
import HandS.IsInst
import HandS.TupMul
import HandS.StrMore
import HandS.Defaults
import HandS.Words
import HandS.Style
import PySem.Challenge.RW_standreaders_k62_numbers_and_their_rows
set_option Elab.async false
set_option linter.all false
set_option maxRecDepth 100000
set_option maxHeartbeats 2000000
/-! DL1: a data layer over HandS: pure data D, cells C of a def's names, the relation Rel between an abstract state and them; readings that evaluate a state function (tD, tO, tA, tDS). -/
namespace DL
open PySem PySem.Spec PyProof.Rows L2
abbrev St := L2.St

/-- data: what values are, the heap left aside -/
inductive D where
  | non | bl (b : Bool) | int (i : Int) | str (x : Str) | tup (ds : List D) | lst (ds : List D) | obj (C : Addr) (fs : List (Str × D))

/-- what a name holds: data; a list of its own; the j-th list that was handed in to be changed -/
inductive C where
  | val (d : D) | own (ds : List D) | io (j : Nat) (ds : List D)
def C.mine : C → Bool
  | .val _ => false
  | _ => true
def C.toD : C → D
  | .val d => d
  | .own ds => .lst ds
  | .io _ ds => .lst ds
abbrev DS := List (Option C)
abbrev M (α : Type) := DS → Option (α × DS)

/-- a list that stands still -/
def SqF (K : PySem.W.Frag) (H : Hp) (a : Addr) (xs : List V) : Prop :=
  (∃ o, H a = some (.frz o (.lst xs))) ∨ ∃ (o : Obj) (its : Array Value) (n : Nat), K.lookup a = some o ∧ o.cls = .type "list" ∧ o.dict = none ∧ o.data = .seq its n ∧ its.size ≤ sizeLine ∧ Vals xs its.toList
theorem SqF.sq {K : PySem.W.Frag} {H : Hp} {a : Addr} {xs : List V} (h : SqF K H a xs) : SqL K H a xs := by
  rcases h with ⟨o, h⟩ | h
  · exact .inl (.inr ⟨o, h⟩)
  · exact .inr h
mutual
inductive Rep (K : PySem.W.Frag) (H : Hp) : V → D → Prop
  | non : Rep K H .non .non
  | bl (b : Bool) : Rep K H (.bl b) (.bl b)
  | int (i : Int) : Rep K H (.int i) (.int i)
  | str (x : Str) : Rep K H (.str x) (.str x)
  | lst {a : Addr} {xs : List V} {ds : List D} : SqF K H a xs → RepAll K H xs ds → Rep K H (.ref a) (.lst ds)
  | tup {a : Addr} {xs : List V} {ds : List D} : SqT K H a xs → RepAll K H xs ds → Rep K H (.ref a) (.tup ds)
  | obj {a dx Cl : Addr} {vs : List (Str × V)} {fs : List (Str × D)} : H a = some (.ins Cl dx vs) → RepFs K H vs fs → Rep K H (.ref a) (.obj Cl fs)
inductive RepAll (K : PySem.W.Frag) (H : Hp) : List V → List D → Prop
  | nil : RepAll K H [] []
  | cons {v : V} {vs : List V} {d : D} {ds : List D} : Rep K H v d → RepAll K H vs ds → RepAll K H (v :: vs) (d :: ds)
inductive RepFs (K : PySem.W.Frag) (H : Hp) : List (Str × V) → List (Str × D) → Prop
  | nil : RepFs K H [] []
  | cons {f : Str} {v : V} {vs : List (Str × V)} {d : D} {ds : List (Str × D)} : Rep K H v d → RepFs K H vs ds → RepFs K H ((f, v) :: vs) ((f, d) :: ds)
end

/-- what never changes stands -/
structure Stb (H H' : Hp) : Prop where
  tup : ∀ b xs, H b = some (.tup xs) → H' b = some (.tup xs)
  frz : ∀ b o u, H b = some (.frz o u) → H' b = some (.frz o u)
  ins : ∀ b c dx fs, H b = some (.ins c dx fs) → H' b = some (.ins c dx fs)
theorem Stb.refl (H : Hp) : Stb H H := ⟨fun _ _ h => h, fun _ _ _ h => h, fun _ _ _ _ h => h⟩
theorem Stb.trans {H H1 H2 : Hp} (a : Stb H H1) (b : Stb H1 H2) : Stb H H2 := ⟨fun c x h => b.tup c x (a.tup c x h), fun c o u h => b.frz c o u (a.frz c o u h), fun c x y z h => b.ins c x y z (a.ins c x y z h)⟩
theorem Stb.of {H H' : Hp} (s : Same H H') : Stb H H' := ⟨fun b _ h => s b _ h, fun b _ _ h => s b _ h, fun b _ _ _ h => s b _ h⟩
section
variable {K : PySem.W.Frag} {H H' : Hp}
theorem SqF.mono {a : Addr} {xs : List V} (s : Stb H H') (h : SqF K H a xs) : SqF K H' a xs := by
  rcases h with ⟨o, h⟩ | h
  · exact .inl ⟨o, s.frz _ _ _ h⟩
  · exact .inr h
theorem sqT_mono {a : Addr} {xs : List V} (s : Stb H H') (h : SqT K H a xs) : SqT K H' a xs := by
  rcases h with (h | ⟨o, h⟩) | h
  · exact .inl (.inl (s.tup _ _ h))
  · exact .inl (.inr ⟨o, s.frz _ _ _ h⟩)
  · exact .inr h
mutual
theorem Rep.mono (s : Stb H H') : ∀ {v : V} {d : D}, Rep K H v d → Rep K H' v d
  | _, _, .non => .non
  | _, _, .bl b => .bl b
  | _, _, .int i => .int i
  | _, _, .str x => .str x
  | _, _, .lst h a => .lst (h.mono s) (RepAll.mono s a)
  | _, _, .tup h a => .tup (sqT_mono s h) (RepAll.mono s a)
  | _, _, .obj h a => .obj (s.ins _ _ _ _ h) (RepFs.mono s a)
theorem RepAll.mono (s : Stb H H') : ∀ {vs : List V} {ds : List D}, RepAll K H vs ds → RepAll K H' vs ds
  | _, _, .nil => .nil
  | _, _, .cons a b => .cons (Rep.mono s a) (RepAll.mono s b)
theorem RepFs.mono (s : Stb H H') : ∀ {vs : List (Str × V)} {ds : List (Str × D)}, RepFs K H vs ds → RepFs K H' vs ds
  | _, _, .nil => .nil
  | _, _, .cons a b => .cons (Rep.mono s a) (RepFs.mono s b)
end
theorem RepAll.len : ∀ {vs : List V} {ds : List D}, RepAll K H vs ds → vs.length = ds.length
  | _, _, .nil => rfl
  | _, _, .cons _ b => by simp [RepAll.len b]
theorem RepAll.app : ∀ {vs ws : List V} {ds es : List D}, RepAll K H vs ds → RepAll K H ws es → RepAll K H (vs ++ ws) (ds ++ es)
  | _, _, _, _, .nil, h => h
  | _, _, _, _, .cons a b, h => .cons a (RepAll.app b h)
theorem RepAll.get : ∀ {vs : List V} {ds : List D} {i : Nat} {d : D}, RepAll K H vs ds → ds[i]? = some d → ∃ v, vs[i]? = some v ∧ Rep K H v d
  | _, _, _, _, .nil, e => by simp at e
  | _, _, 0, _, .cons a _, e => by simp at e; subst e; exact ⟨_, rfl, a⟩
  | _, _, i + 1, d, .cons _ b, e => by
    obtain ⟨v, h1, h2⟩ := RepAll.get (i := i) (d := d) b (by simpa using e)
    exact ⟨v, by simpa using h1, h2⟩
theorem RepAll.getV : ∀ {vs : List V} {ds : List D} {i : Nat} {v : V}, RepAll K H vs ds → vs[i]? = some v → ∃ d, ds[i]? = some d ∧ Rep K H v d
  | _, _, _, _, .nil, e => by simp at e
  | _, _, 0, _, .cons a _, e => by simp at e; subst e; exact ⟨_, rfl, a⟩
  | _, _, i + 1, v, .cons _ b, e => by
    obtain ⟨d, h1, h2⟩ := RepAll.getV (i := i) (v := v) b (by simpa using e)
    exact ⟨d, by simpa using h1, h2⟩
theorem RepAll.set {v : V} {d : D} (r : Rep K H v d) : ∀ {vs : List V} {ds : List D} (i : Nat), RepAll K H vs ds → RepAll K H (vs.set i v) (ds.set i d)
  | _, _, _, .nil => .nil
  | _, _, 0, .cons _ b => .cons r b
  | _, _, i + 1, .cons a b => .cons a (RepAll.set r i b)
theorem RepAll.take : ∀ {vs : List V} {ds : List D} (n : Nat), RepAll K H vs ds → RepAll K H (vs.take n) (ds.take n)
  | _, _, 0, _ => .nil
  | _, _, _ + 1, .nil => .nil
  | _, _, n + 1, .cons a b => .cons a (RepAll.take n b)
theorem RepAll.drop : ∀ {vs : List V} {ds : List D} (n : Nat), RepAll K H vs ds → RepAll K H (vs.drop n) (ds.drop n)
  | _, _, 0, h => h
  | _, _, _ + 1, .nil => .nil
  | _, _, n + 1, .cons _ b => RepAll.drop n b
theorem RepAll.rep {vs : List V} {ds : List D} (h : RepAll K H vs ds) : ∀ k : Nat, RepAll K H (List.replicate k vs).flatten (List.replicate k ds).flatten
  | 0 => .nil
  | k + 1 => by
    rw [List.replicate_succ, List.replicate_succ, List.flatten_cons, List.flatten_cons]
    exact h.app (RepAll.rep h k)
end

/-! ### the state of a def and its data -/
/-- the abstract heap at the entry, the lists that were handed in to be changed -/
structure Bx where
  K : PySem.W.Frag
  H0 : Hp
  io : Nat → Option Addr
def CellOk (B : Bx) (H : Hp) (v : V) : C → Prop
  | .val d => Rep B.K H v d
  | .own ds => ∃ a xs, v = .ref a ∧ H a = some (.lst xs) ∧ RepAll B.K H xs ds ∧ B.H0 a = none
  | .io j ds => ∃ a xs, v = .ref a ∧ H a = some (.lst xs) ∧ RepAll B.K H xs ds ∧ B.io j = some a
def Own (σ : St) (δ : DS) (a : Addr) : Prop := ∃ (i : Nat) (c : C), δ[i]? = some (some c) ∧ c.mine = true ∧ σ[i]? = some (some (.ref a))
structure Rel (B : Bx) (σ : St) (H : Hp) (δ : DS) : Prop where
  len : σ.length = δ.length
  slot : ∀ (i : Nat) (c : C), δ[i]? = some (some c) → ∃ v, σ[i]? = some (some v) ∧ CellOk B H v c
  apart : ∀ (i j : Nat) (c c' : C) (a : Addr), δ[i]? = some (some c) → δ[j]? = some (some c') → c.mine = true → c'.mine = true → σ[i]? = some (some (.ref a)) → σ[j]? = some (some (.ref a)) → i = j
  frame : ∀ b o, B.H0 b = some o → (∀ j, B.io j ≠ some b) → H b = some o
  trk : ∀ b, B.H0 b ≠ none → H b ≠ none
/-- an expression's way: what is no list of one's own stands -/
structure Go (σ : St) (δ : DS) (H : Hp) (δ' : DS) (H' : Hp) : Prop where
  keep : ∀ b o, H b = some o → ¬ Own σ δ b → H' b = some o
  trk : ∀ b, H b ≠ none → H' b ≠ none
  sub : ∀ a, Own σ δ' a → Own σ δ a
theorem Go.refl (σ : St) (δ : DS) (H : Hp) : Go σ δ H δ H := ⟨fun _ _ h _ => h, fun _ h => h, fun _ h => h⟩
theorem Go.trans {σ : St} {δ δ1 δ2 : DS} {H H1 H2 : Hp} (a : Go σ δ H δ1 H1) (b : Go σ δ1 H1 δ2 H2) : Go σ δ H δ2 H2 :=
  ⟨fun c o h n => b.keep c o (a.keep c o h n) fun z => n (a.sub c z), fun c h => b.trk c (a.trk c h), fun c h => a.sub c (b.sub c h)⟩
theorem Go.of {σ : St} {δ : DS} {H H' : Hp} (s : Same H H') : Go σ δ H δ H' := ⟨fun b o h _ => s b o h, fun b h z => h (s.free z), fun _ h => h⟩
section
variable {B : Bx} {σ : St} {H H' : Hp} {δ δ' : DS}
theorem Rel.live (R : Rel B σ H δ) {a : Addr} (h : Own σ δ a) : ∃ xs, H a = some (.lst xs) := by
  obtain ⟨i, c, h1, h2, h3⟩ := h
  obtain ⟨v, e, ok⟩ := R.slot i c h1
  rw [h3] at e; cases e
  cases c with
  | val d => cases h2
  | own ds => obtain ⟨a', xs, e, h, _⟩ := ok; cases e; exact ⟨xs, h⟩
  | io j ds => obtain ⟨a', xs, e, h, _⟩ := ok; cases e; exact ⟨xs, h⟩
theorem Rel.stb (R : Rel B σ H δ) (G : Go σ δ H δ' H') : Stb H H' :=
  ⟨fun b xs h => G.keep b _ h fun z => (by obtain ⟨ys, e⟩ := R.live z; rw [h] at e; cases e), fun b o u h => G.keep b _ h fun z => (by obtain ⟨ys, e⟩ := R.live z; rw [h] at e; cases e), fun b c dx fs h => G.keep b _ h fun z => (by obtain ⟨ys, e⟩ := R.live z; rw [h] at e; cases e)⟩
theorem CellOk.same {v : V} {c : C} (s : Same H H') (h : CellOk B H v c) : CellOk B H' v c := by
  cases c with
  | val d => exact Rep.mono (Stb.of s) h
  | own ds => obtain ⟨a, xs, e, h1, h2, h3⟩ := h; exact ⟨a, xs, e, s _ _ h1, h2.mono (Stb.of s), h3⟩
  | io j ds => obtain ⟨a, xs, e, h1, h2, h3⟩ := h; exact ⟨a, xs, e, s _ _ h1, h2.mono (Stb.of s), h3⟩
theorem Rel.same (R : Rel B σ H δ) (s : Same H H') : Rel B σ H' δ :=
  ⟨R.len, fun i c e => let ⟨v, h1, h2⟩ := R.slot i c e; ⟨v, h1, h2.same s⟩, R.apart, fun b o e n => s _ _ (R.frame b o e n), fun b h z => R.trk b h (s.free z)⟩

/-! ### results -/
/-- a value behind an expression that began at H: data, or a new list that nobody else knows -/
def CRes (K : PySem.W.Frag) (H H' : Hp) (v : V) : C → Prop
  | .val d => Rep K H' v d
  | .own ds => ∃ a xs, v = .ref a ∧ H a = none ∧ H' a = some (.lst xs) ∧ RepAll K H' xs ds
  | .io _ _ => False
/-- what may be looked at: data, or a list that lives -/
inductive Pk (K : PySem.W.Frag) (H : Hp) : V → D → Prop
  | rep {v : V} {d : D} : Rep K H v d → Pk K H v d
  | live {a : Addr} {xs : List V} {ds : List D} : H a = some (.lst xs) → RepAll K H xs ds → Pk K H (.ref a) (.lst ds)
theorem Pk.list {K : PySem.W.Frag} {H : Hp} {v : V} {ds : List D} (h : Pk K H v (.lst ds)) : ∃ a xs, v = .ref a ∧ SqL K H a xs ∧ RepAll K H xs ds := by
  cases h with
  | rep h => cases h with | lst h a => exact ⟨_, _, rfl, h.sq, a⟩
  | live h a => exact ⟨_, _, rfl, .of h, a⟩
theorem Pk.tuple {K : PySem.W.Frag} {H : Hp} {v : V} {ds : List D} (h : Pk K H v (.tup ds)) : ∃ a xs, v = .ref a ∧ SqT K H a xs ∧ RepAll K H xs ds := by
  cases h with
  | rep h => cases h with | tup h a => exact ⟨_, _, rfl, h, a⟩
theorem Pk.int {K : PySem.W.Frag} {H : Hp} {v : V} {i : Int} (h : Pk K H v (.int i)) : v = .int i := by
  cases h with
  | rep h => cases h; rfl
theorem Pk.str {K : PySem.W.Frag} {H : Hp} {v : V} {i : Str} (h : Pk K H v (.str i)) : v = .str i := by
  cases h with
  | rep h => cases h; rfl
theorem Pk.bl {K : PySem.W.Frag} {H : Hp} {v : V} {i : Bool} (h : Pk K H v (.bl i)) : v = .bl i := by
  cases h with
  | rep h => cases h; rfl
theorem Pk.non {K : PySem.W.Frag} {H : Hp} {v : V} (h : Pk K H v .non) : v = .non := by
  cases h with
  | rep h => cases h; rfl
theorem CRes.pk {K : PySem.W.Frag} {H H' : Hp} {v : V} {c : C} (h : CRes K H H' v c) : Pk K H' v c.toD := by
  cases c with
  | val d => exact .rep h
  | own ds => obtain ⟨a, xs, rfl, _, h1, h2⟩ := h; exact .live h1 h2
  | io j ds => exact h.elim
/-- an operand: a result, or a name's slot -/
inductive O where
  | r (c : C) | sl (i : Nat)
def O.toD (δ : DS) : O → Option D
  | .r c => some c.toD
  | .sl i => match δ[i]? with
    | some (some c) => some c.toD
    | _ => none
def ORes (K : PySem.W.Frag) (σ : St) (H H' : Hp) (v : V) : O → Prop
  | .r c => CRes K H H' v c
  | .sl i => σ[i]? = some (some v)
theorem CellOk.pk {v : V} {c : C} (h : CellOk B H v c) : Pk B.K H v c.toD := by
  cases c with
  | val d => exact .rep h
  | own ds => obtain ⟨a, xs, rfl, h1, h2, _⟩ := h; exact .live h1 h2
  | io j ds => obtain ⟨a, xs, rfl, h1, h2, _⟩ := h; exact .live h1 h2
theorem ORes.pk {H1 : Hp} {v : V} {o : O} {d : D} (R : Rel B σ H' δ) (h : ORes B.K σ H H' v o) (e : o.toD δ = some d) : Pk B.K H' v d := by
  cases o with
  | r c => cases e; exact CRes.pk h
  | sl i =>
    have h : σ[i]? = some (some v) := h
    have e : (match δ[i]? with
      | some (some c) => some c.toD
      | _ => none) = some d := e
    cases hc : δ[i]? with
    | none => rw [hc] at e; cases e
    | some oc =>
      cases oc with
      | none => rw [hc] at e; cases e
      | some c =>
        rw [hc] at e
        cases e
        obtain ⟨v', h1, h2⟩ := R.slot i c hc
        rw [h] at h1; cases h1
        exact h2.pk
theorem CRes.later {H1 H2 : Hp} {δ1 δ2 : DS} {v : V} {c : C} (R : Rel B σ H δ) (R1 : Rel B σ H1 δ1) (G : Go σ δ H δ1 H1) (G2 : Go σ δ1 H1 δ2 H2) (h : CRes B.K H H1 v c) : CRes B.K H H2 v c := by
  cases c with
  | val d => exact Rep.mono (R1.stb G2) h
  | own ds =>
    obtain ⟨a, xs, rfl, h0, h1, h2⟩ := h
    refine ⟨a, xs, rfl, h0, G2.keep a _ h1 fun z => ?_, h2.mono (R1.stb G2)⟩
    obtain ⟨ys, e⟩ := R.live (G.sub a z)
    rw [h0] at e; cases e
  | io j ds => exact h.elim
theorem ORes.later {H1 H2 : Hp} {δ1 δ2 : DS} {v : V} {o : O} (R : Rel B σ H δ) (R1 : Rel B σ H1 δ1) (G : Go σ δ H δ1 H1) (G2 : Go σ δ1 H1 δ2 H2) (h : ORes B.K σ H H1 v o) : ORes B.K σ H H2 v o := by
  cases o with
  | r c => exact CRes.later R R1 G G2 h
  | sl i => exact h
/-- begun earlier -/
theorem CRes.back {K : PySem.W.Frag} {H H1 H2 : Hp} {v : V} {c : C} (t : ∀ b, H b ≠ none → H1 b ≠ none) (h : CRes K H1 H2 v c) : CRes K H H2 v c := by
  cases c with
  | val d => exact h
  | own ds =>
    obtain ⟨a, xs, rfl, h0, h1, h2⟩ := h
    refine ⟨a, xs, rfl, ?_, h1, h2⟩
    cases e : H a with
    | none => rfl
    | some o => exact absurd h0 (t a (by rw [e]; intro z; cases z))
  | io j ds => exact h.elim
theorem ORes.back {K : PySem.W.Frag} {H1 H2 : Hp} {v : V} {o : O} (t : ∀ b, H b ≠ none → H1 b ≠ none) (h : ORes K σ H1 H2 v o) : ORes K σ H H2 v o := by
  cases o with
  | r c => exact CRes.back t h
  | sl i => exact h
inductive OAll (K : PySem.W.Frag) (σ : St) (H H' : Hp) : List V → List O → Prop
  | nil : OAll K σ H H' [] []
  | cons {v : V} {vs : List V} {o : O} {os : List O} : ORes K σ H H' v o → OAll K σ H H' vs os → (∀ (i : Nat) (ds ds' : List D), o = .r (.own ds) → os[i]? = some (.r (.own ds')) → vs[i]? ≠ some v) → OAll K σ H H' (v :: vs) (o :: os)
theorem OAll.back {K : PySem.W.Frag} {H1 H2 : Hp} (t : ∀ b, H b ≠ none → H1 b ≠ none) : ∀ {vs : List V} {os : List O}, OAll K σ H1 H2 vs os → OAll K σ H H2 vs os
  | _, _, .nil => .nil
  | _, _, .cons a b n => .cons (a.back t) (OAll.back t b) n
inductive PkAll (K : PySem.W.Frag) (H : Hp) : List V → List D → Prop
  | nil : PkAll K H [] []
  | cons {v : V} {vs : List V} {d : D} {ds : List D} : Pk K H v d → PkAll K H vs ds → PkAll K H (v :: vs) (d :: ds)
def toDs (δ : DS) : List O → Option (List D)
  | [] => some []
  | o :: os => match o.toD δ, toDs δ os with
    | some d, some ds => some (d :: ds)
    | _, _ => none
theorem OAll.get {K : PySem.W.Frag} : ∀ {vs : List V} {os : List O} {i : Nat} {o : O}, OAll K σ H H' vs os → os[i]? = some o → ∃ v, vs[i]? = some v ∧ ORes K σ H H' v o
  | _, _, _, _, .nil, e => by simp at e
  | _, _, 0, _, .cons a _ _, e => by simp at e; subst e; exact ⟨_, rfl, a⟩
  | _, _, i + 1, o, .cons _ b _, e => by
    obtain ⟨v, h1, h2⟩ := OAll.get (i := i) (o := o) b (by simpa using e)
    exact ⟨v, by simpa using h1, h2⟩
theorem OAll.pk (R : Rel B σ H' δ) : ∀ {vs : List V} {os : List O} {ds : List D}, OAll B.K σ H H' vs os → toDs δ os = some ds → PkAll B.K H' vs ds
  | _, _, _, .nil, e => by cases e; exact .nil
  | _, _, ds, .cons (o := o) (os := os) a b _, e => by
    unfold toDs at e
    split at e
    · rename_i d ds' h1 h2
      cases e
      exact .cons (a.pk (H1 := H') R h1) (OAll.pk R b h2)
    · cases e
end

/-! ### ghost steps: a list is laid to rest -/
inductive Gh (Q : Hp → Prop) : Hp → Prop
  | done {H : Hp} : Q H → Gh Q H
  | frz {H : Hp} {a : Addr} {xs : List V} : H a = some (.lst xs) → (∀ o, Gh Q (upd H a (.frz o (.lst xs)))) → Gh Q H
section
variable {X : Cx}
theorem Gh.run {pins : List (Addr × Obj)} {σ : St} {s : Shared} {Q : Hp → Prop} {H : Hp} (h : Gh Q H) : Inv X pins σ H s → ∃ H', Inv X pins σ H' s ∧ Q H' := by
  induction h with
  | done q => exact fun I => ⟨_, I, q⟩
  | frz e _ ih => exact fun I => let ⟨od, I'⟩ := I.lock e trivial; ih od I'
theorem pe_gh {e : Expr} {t : TE} (h : PE X e t) : PE X e (fun σ H Q => t σ H fun v H1 => Gh (Q v) H1) := ⟨fun pins s σ H Q I hw =>
  thn (h.run pins s σ H _ I hw) fun u s1 ⟨v, H1, I1, r, q⟩ => let ⟨H', I', q'⟩ := q.run I1; ⟨v, H', I', r, q'⟩⟩
theorem pt_gh {e : Expr} {t : TT} (h : PT X e t) : PT X e (fun σ H Q => t σ H fun v H1 => Gh (Q v) H1) := ⟨fun pins s σ H Q I hw =>
  thn (h.run pins s σ H _ I hw) fun b s1 ⟨H1, I1, q⟩ => let ⟨H', I', q'⟩ := q.run I1; ⟨H', I', q'⟩⟩
theorem pa_gh {es : List Expr} {t : TA} (h : PA X es t) : PA X es (fun σ H Q => t σ H fun v H1 => Gh (Q v) H1) := ⟨fun pos pins s σ H Q I hw =>
  thn (h.run pos pins s σ H _ I hw) fun us s1 ⟨vs, H1, I1, r, q⟩ => let ⟨H', I', q'⟩ := q.run I1; ⟨vs, H', I', r, q'⟩⟩
theorem pe_weak {e : Expr} {t t' : TE} (h : PE X e t) (w : ∀ σ H Q, t' σ H Q → t σ H Q) : PE X e t' := ⟨fun pins s σ H Q I hw => h.run pins s σ H Q I (w _ _ _ hw)⟩
theorem pt_weak {e : Expr} {t t' : TT} (h : PT X e t) (w : ∀ σ H Q, t' σ H Q → t σ H Q) : PT X e t' := ⟨fun pins s σ H Q I hw => h.run pins s σ H Q I (w _ _ _ hw)⟩
theorem pw_weak {e : Expr} {t t' : TT} (h : PW X e t) (w : ∀ σ H Q, t' σ H Q → t σ H Q) : PW X e t' := ⟨fun wh pins s σ H Q I hw => h.run wh pins s σ H Q I (w _ _ _ hw)⟩
theorem pa_weak {es : List Expr} {t t' : TA} (h : PA X es t) (w : ∀ σ H Q, t' σ H Q → t σ H Q) : PA X es t' := ⟨fun pos pins s σ H Q I hw => h.run pos pins s σ H Q I (w _ _ _ hw)⟩
theorem ps_weak {st : Stmt} {t t' : TS} (h : PS X st t) (w : ∀ D σ H, t' D σ H → t D σ H) : PS X st t' := ⟨fun pins s σ H D I hw => h.run pins s σ H D I (w _ _ _ hw)⟩
theorem pss_weak {st : List Stmt} {t t' : TS} (h : PSs X st t) (w : ∀ D σ H, t' D σ H → t D σ H) : PSs X st t' := ⟨fun pins s σ H D I hw => h.run pins s σ H D I (w _ _ _ hw)⟩
end

/-! ### the readings -/
def tD (B : Bx) (f : M C) : TE := fun σ H Q => ∃ δ c δ', Rel B σ H δ ∧ f δ = some (c, δ') ∧ ∀ v H', Go σ δ H δ' H' → Rel B σ H' δ' → CRes B.K H H' v c → Q v H'
def tO (B : Bx) (f : M O) : TE := fun σ H Q => ∃ δ o δ', Rel B σ H δ ∧ f δ = some (o, δ') ∧ ∀ v H', Go σ δ H δ' H' → Rel B σ H' δ' → ORes B.K σ H H' v o → Q v H'
def tV (B : Bx) (f : M D) : TE := fun σ H Q => ∃ δ d δ', Rel B σ H δ ∧ f δ = some (d, δ') ∧ ∀ v H', Go σ δ H δ' H' → Rel B σ H' δ' → Rep B.K H' v d → Q v H'
def tT (B : Bx) (f : M Bool) : TT := fun σ H Q => ∃ δ b δ', Rel B σ H δ ∧ f δ = some (b, δ') ∧ ∀ H', Go σ δ H δ' H' → Rel B σ H' δ' → Q b H'
def tA (B : Bx) (f : M (List O)) : TA := fun σ H Q => ∃ δ os δ', Rel B σ H δ ∧ f δ = some (os, δ') ∧ ∀ vs H', Go σ δ H δ' H' → Rel B σ H' δ' → OAll B.K σ H H' vs os → Q vs H'
def tVs (B : Bx) (f : M (List D)) : TA := fun σ H Q => ∃ δ ds δ', Rel B σ H δ ∧ f δ = some (ds, δ') ∧ ∀ vs H', Go σ δ H δ' H' → Rel B σ H' δ' → RepAll B.K H' vs ds → Q vs H'
/-- how a statement ends -/
inductive Fl where
  | nx | bk | ct | rt (c : C)
def endOf (B : Bx) (D : Ends) (H : Hp) (δ' : DS) : Fl → Prop
  | .nx => ∀ σ' H', Stb H H' → Rel B σ' H' δ' → D.nx σ' H'
  | .bk => ∀ σ' H', Stb H H' → Rel B σ' H' δ' → D.bk σ' H'
  | .ct => ∀ σ' H', Stb H H' → Rel B σ' H' δ' → D.ct σ' H'
  | .rt c => ∀ v σ' H', Stb H H' → Rel B σ' H' δ' → CRes B.K B.H0 H' v c → D.rt v H'
def tDS (B : Bx) (f : M Fl) : TS := fun D σ H => ∃ δ r δ', Rel B σ H δ ∧ f δ = some (r, δ') ∧ endOf B D H δ' r
abbrev DE (X : Cx) (B : Bx) (e : Expr) (f : M C) : Prop := PE X e (tD B f)
abbrev DO (X : Cx) (B : Bx) (e : Expr) (f : M O) : Prop := PE X e (tO B f)
abbrev DV (X : Cx) (B : Bx) (e : Expr) (f : M D) : Prop := PE X e (tV B f)
abbrev DT (X : Cx) (B : Bx) (e : Expr) (f : M Bool) : Prop := PT X e (tT B f)
abbrev DA (X : Cx) (B : Bx) (es : List Expr) (f : M (List O)) : Prop := PA X es (tA B f)
abbrev DVs (X : Cx) (B : Bx) (es : List Expr) (f : M (List D)) : Prop := PA X es (tVs B f)
abbrev DS1 (X : Cx) (B : Bx) (s : Stmt) (f : M Fl) : Prop := PS X s (tDS B f)
abbrev DSs (X : Cx) (B : Bx) (s : List Stmt) (f : M Fl) : Prop := PSs X s (tDS B f)
end DL

set_option Elab.async false
set_option linter.all false
set_option maxRecDepth 100000
set_option maxHeartbeats 2000000
/-! DL2: the data layer's rules for expressions. -/
namespace DL
open PySem PySem.Spec PyProof.Rows L2

/-! ### changing one list of one's own -/
section
variable {B : Bx} {σ : St} {H H' : Hp} {δ δ' : DS}
theorem stb_upd {a : Addr} {xs : List V} {o : HO} (h : H a = some (.lst xs)) : Stb H (upd H a o) :=
  ⟨fun b ys e => by rw [upd_ne (fun z => by rw [z, h] at e; cases e)]; exact e, fun b ys u e => by rw [upd_ne (fun z => by rw [z, h] at e; cases e)]; exact e, fun b c dx fs e => by rw [upd_ne (fun z => by rw [z, h] at e; cases e)]; exact e⟩
theorem trk_upd {a : Addr} {o : HO} : ∀ b, H b ≠ none → upd H a o b ≠ none := fun b hb z => by
  by_cases e : b = a
  · subst e; rw [upd_same] at z; cases z
  · rw [upd_ne e] at z; exact hb z
theorem own_ne {a : Addr} {c : C} {v : V} (h : CellOk B H v c) (hm : c.mine = true) (hn : v ≠ .ref a) (o : HO) (s : Stb H (upd H a o)) : CellOk B (upd H a o) v c := by
  cases c with
  | val d => cases hm
  | own ds => obtain ⟨b, xs, rfl, h1, h2, h3⟩ := h; exact ⟨b, xs, rfl, by rw [upd_ne (fun z => hn (by rw [z]))]; exact h1, h2.mono s, h3⟩
  | io j ds => obtain ⟨b, xs, rfl, h1, h2, h3⟩ := h; exact ⟨b, xs, rfl, by rw [upd_ne (fun z => hn (by rw [z]))]; exact h1, h2.mono s, h3⟩
/-- where a live list of mine stands at the entry -/
theorem CellOk.at0 {c : C} {a : Addr} (h : CellOk B H (.ref a) c) (hm : c.mine = true) : (∃ xs, H a = some (.lst xs)) ∧ ∀ b o, B.H0 b = some o → (∀ j, B.io j ≠ some b) → b ≠ a := by
  cases c with
  | val d => cases hm
  | own ds => obtain ⟨b, xs, e, h1, _, h3⟩ := h; cases e; exact ⟨⟨xs, h1⟩, fun b o e _ z => by rw [z, h3] at e; cases e⟩
  | io j ds => obtain ⟨b, xs, e, h1, _, h3⟩ := h; cases e; exact ⟨⟨xs, h1⟩, fun b o e n z => n j (by rw [z]; exact h3)⟩
theorem Rel.put (R : Rel B σ H δ) {i : Nat} {c c' : C} {a : Addr} {o : HO} (hi : δ[i]? = some (some c)) (hm : c.mine = true) (hv : σ[i]? = some (some (.ref a))) (ok : CellOk B (upd H a o) (.ref a) c') : Rel B σ (upd H a o) (δ.set i (some c')) := by
  obtain ⟨v, e, okc⟩ := R.slot i c hi
  rw [hv] at e; cases e
  obtain ⟨⟨xs, ha⟩, fr⟩ := okc.at0 hm
  have s := stb_upd (o := o) ha
  have hlt : i < δ.length := (List.getElem?_eq_some_iff.mp hi).1
  refine ⟨by rw [List.length_set]; exact R.len, fun j cj hj => ?_, fun j k cj ck b hj hk mj mk sj sk => ?_, fun b u e n => ?_, fun b hb => trk_upd b (R.trk b hb)⟩
  · by_cases e : i = j
    · subst e
      rw [List.getElem?_set_self hlt] at hj; cases hj
      exact ⟨_, hv, ok⟩
    · rw [List.getElem?_set_ne e] at hj
      obtain ⟨w, h1, h2⟩ := R.slot j cj hj
      refine ⟨w, h1, ?_⟩
      cases hmj : cj.mine with
      | false =>
        cases cj with
        | val d => exact Rep.mono s h2
        | own ds => cases hmj
        | io j ds => cases hmj
      | true =>
        refine own_ne h2 hmj (fun z => ?_) o s
        rw [z] at h1
        exact e (R.apart i j c cj a hi hj hm hmj hv h1)
  · have old : ∀ (m : Nat) (cm : C), (δ.set i (some c'))[m]? = some (some cm) → cm.mine = true → ∃ cm', δ[m]? = some (some cm') ∧ cm'.mine = true := fun m cm h hmm => by
      by_cases e : i = m
      · subst e; exact ⟨c, hi, hm⟩
      · rw [List.getElem?_set_ne e] at h; exact ⟨cm, h, hmm⟩
    obtain ⟨c1, h1, m1⟩ := old j cj hj mj
    obtain ⟨c2, h2, m2⟩ := old k ck hk mk
    exact R.apart j k c1 c2 b h1 h2 m1 m2 sj sk
  · rw [upd_ne (fr b u e n)]; exact R.frame b u e n
theorem Go.put {i : Nat} {c c' : C} {a : Addr} {o : HO} (hi : δ[i]? = some (some c)) (hm : c.mine = true) (hv : σ[i]? = some (some (.ref a))) : Go σ δ H (δ.set i (some c')) (upd H a o) := by
  have own : Own σ δ a := ⟨i, c, hi, hm, hv⟩
  refine ⟨fun b u e n => ?_, trk_upd, fun b z => ?_⟩
  · rw [upd_ne (fun z => n (by rw [z]; exact own))]; exact e
  · obtain ⟨j, cj, h1, h2, h3⟩ := z
    by_cases e : i = j
    · subst e
      rw [hv] at h3; cases h3
      exact own
    · rw [List.getElem?_set_ne e] at h1
      exact ⟨j, cj, h1, h2, h3⟩
/-- a new list that no name has is laid to rest -/
theorem Rel.rest (R : Rel B σ H δ) {a : Addr} {xs : List V} {o : HO} (ha : H a = some (.lst xs)) (n : ¬ Own σ δ a) (h0 : B.H0 a = none) : Rel B σ (upd H a o) δ := by
  have s := stb_upd (o := o) ha
  refine ⟨R.len, fun j cj hj => ?_, R.apart, fun b u e nn => ?_, fun b hb => trk_upd b (R.trk b hb)⟩
  · obtain ⟨w, h1, h2⟩ := R.slot j cj hj
    refine ⟨w, h1, ?_⟩
    cases hmj : cj.mine with
    | false =>
      cases cj with
      | val d => exact Rep.mono s h2
      | own ds => cases hmj
      | io j ds => cases hmj
    | true => exact own_ne h2 hmj (fun z => n ⟨j, cj, hj, hmj, by rw [← z]; exact h1⟩) o s
  · rw [upd_ne (fun z => by rw [z, h0] at e; cases e)]; exact R.frame b u e nn
theorem Rel.fresh0 (R : Rel B σ H δ) {a : Addr} (h : H a = none) : B.H0 a = none := by
  cases e : B.H0 a with
  | none => rfl
  | some o => exact absurd h (R.trk a (by rw [e]; intro z; cases z))
theorem Rel.notOwn (R : Rel B σ H δ) {a : Addr} (h : H a = none) : ¬ Own σ δ a := fun z => by
  obtain ⟨xs, e⟩ := R.live z
  rw [h] at e; cases e
theorem rep_frz {K : PySem.W.Frag} {a : Addr} {xs : List V} {ds : List D} {o : Obj} (h : H a = some (.lst xs)) (r : RepAll K H xs ds) : Rep K (upd H a (.frz o (.lst xs))) (.ref a) (.lst ds) :=
  .lst (.inl ⟨o, upd_same⟩) (r.mono (stb_upd h))
/-- a result made data -/
def valC : C → D := C.toD
theorem CRes.toVal {H1 : Hp} {v : V} {c : C} (R : Rel B σ H δ) (R1 : Rel B σ H1 δ') (G : Go σ δ H δ' H1) (h : CRes B.K H H1 v c) {Q : Hp → Prop}
    (k : ∀ H', Go σ δ H δ' H' → Rel B σ H' δ' → Stb H1 H' → Rep B.K H' v c.toD → Q H') : Gh Q H1 := by
  cases c with
  | val d => exact .done (k H1 G R1 (Stb.refl _) h)
  | own ds =>
    obtain ⟨a, xs, rfl, h0, h1, h2⟩ := h
    refine .frz h1 fun o => .done (k _ ⟨fun b u e n => ?_, fun b hb => trk_upd b (G.trk b hb), G.sub⟩ (R1.rest h1 (fun z => R.notOwn h0 (G.sub a z)) (R.fresh0 h0)) (stb_upd h1) (rep_frz h1 h2))
    rw [upd_ne (fun z => by rw [z, h0] at e; cases e)]
    exact G.keep b u e n
  | io j ds => exact h.elim
end

/-! ### names, constants -/
def fName (i : Nat) : M C := fun δ => match δ[i]? with
  | some (some (.val d)) => some (.val d, δ)
  | some (some (.own ds)) => some (.val (.lst ds), δ.set i (some (.val (.lst ds))))
  | _ => none
def oName (i : Nat) : M O := fun δ => match δ[i]? with
  | some (some _) => some (.sl i, δ)
  | _ => none
def fC (d : D) : M C := fun δ => some (.val d, δ)
def fO (f : M C) : M O := fun δ => (f δ).bind fun r => some (.r r.1, r.2)
def fV (f : M C) : M D := fun δ => (f δ).bind fun r => some (r.1.toD, r.2)
theorem bind_some {α β : Type} {x : Option α} {f : α → Option β} {b : β} (h : x.bind f = some b) : ∃ a, x = some a ∧ f a = some b := by
  cases x with
  | none => cases h
  | some a => exact ⟨a, rfl, h⟩
section
variable {X : Cx} {B : Bx} {e a b : Expr} {pos : Pos}
theorem de_name {i : Nat} {x : Str} (hN : X.N[i]? = some x := by rfl) (hv : Vis X.env.scope x := by first | exact Or.inl rfl | exact Or.inr (Or.inl rfl) | exact Or.inr (Or.inr rfl)) (hd : (x == ("__debug__" : Str)) = false := by decide)
    (hcd : (x == ("__classdict__" : Str)) = false := by decide) : DE X B (.Name x pos) (fName i) := by
  refine pe_weak (pe_gh (pe_var hN hv hd hcd)) fun σ H Q ⟨δ, c, δ', R, e, k⟩ => ?_
  unfold fName at e
  cases hc : δ[i]? with
  | none => rw [hc] at e; cases e
  | some oc =>
    cases oc with
    | none => rw [hc] at e; cases e
    | some c =>
      obtain ⟨v, hs, ok⟩ := R.slot i c hc
      rw [hc] at e
      cases c with
      | val d =>
        cases e
        exact ⟨v, hs, .done (k v H (Go.refl _ _ _) R ok)⟩
      | own ds =>
        cases e
        obtain ⟨a, xs, rfl, h1, h2, h3⟩ := id ok
        exact ⟨_, hs, .frz h1 fun o => .done (k _ _ (Go.put hc rfl hs) (R.put hc rfl hs (rep_frz h1 h2)) (rep_frz h1 h2))⟩
      | io j ds => cases e
theorem do_name {i : Nat} {x : Str} (hN : X.N[i]? = some x := by rfl) (hv : Vis X.env.scope x := by first | exact Or.inl rfl | exact Or.inr (Or.inl rfl) | exact Or.inr (Or.inr rfl)) (hd : (x == ("__debug__" : Str)) = false := by decide)
    (hcd : (x == ("__classdict__" : Str)) = false := by decide) : DO X B (.Name x pos) (oName i) := by
  refine pe_weak (pe_var hN hv hd hcd) fun σ H Q ⟨δ, c, δ', R, e, k⟩ => ?_
  unfold oName at e
  cases hc : δ[i]? with
  | none => rw [hc] at e; cases e
  | some oc =>
    cases oc with
    | none => rw [hc] at e; cases e
    | some c =>
      obtain ⟨v, hs, ok⟩ := R.slot i c hc
      rw [hc] at e
      cases e
      exact ⟨v, hs, k v H (Go.refl _ _ _) R hs⟩
theorem de_const {v : V} {d : D} (h : PE X e (tC v)) (r : ∀ (K : PySem.W.Frag) (H : Hp), Rep K H v d) : DE X B e (fC d) :=
  pe_weak h fun σ H Q ⟨δ, c, δ', R, e, k⟩ => by
    cases e
    exact k v H (Go.refl _ _ _) R (r _ _)
theorem de_int {i : Int} {j} : DE X B (.Constant (.int i) j pos) (fC (.int i)) := de_const pe_int fun _ _ => .int i
theorem de_bl {b : Bool} {j} : DE X B (.Constant (.bool b) j pos) (fC (.bl b)) := de_const pe_bl fun _ _ => .bl b
theorem de_non {j} : DE X B (.Constant .none j pos) (fC .non) := de_const pe_non fun _ _ => .non
theorem de_str {x : Str} {j} : DE X B (.Constant (.str x) j pos) (fC (.str x)) := de_const pe_str fun _ _ => .str x
/-- a constant of the module -/
theorem de_glob {x : Str} {v : V} {d : D} {u : Value} (hm : X.mg x = some u) (r : RelV v u) (rd : ∀ (K : PySem.W.Frag) (H : Hp), Rep K H v d) (hg : Gl X x := by rfl) (hd : (x == ("__debug__" : Str)) = false := by decide) : DE X B (.Name x pos) (fC d) := de_const (pe_glob hg hm r hd) rd
theorem DO.of {f : M C} (h : DE X B e f) : DO X B e (fO f) := pe_weak h fun σ H Q ⟨δ, o, δ', R, e, k⟩ => by
  obtain ⟨⟨c, δ1⟩, h1, h2⟩ := bind_some e
  cases h2
  exact ⟨δ, c, δ1, R, h1, fun v H' G R' r => k v H' G R' r⟩
theorem DV.of {f : M C} (h : DE X B e f) : DV X B e (fV f) := pe_weak (pe_gh h) fun σ H Q ⟨δ, o, δ', R, e, k⟩ => by
  obtain ⟨⟨c, δ1⟩, h1, h2⟩ := bind_some e
  cases h2
  exact ⟨δ, c, δ1, R, h1, fun v H' G R' r => CRes.toVal R R' G r fun H2 G2 R2 _ r2 => k v H2 G2 R2 r2⟩

/-! ### operators -/
def OpD (X : Cx) (fv : Value → Value → Sem Value) (g : D → D → Option C) : Prop := OpR X fv fun x y H Q => ∃ d e c, Pk X.K H x d ∧ Pk X.K H y e ∧ g d e = some c ∧ ∀ v H', Same H H' → CRes X.K H H' v c → Q v H'
def fBin (g : D → D → Option C) (fa fb : M O) : M C := fun δ => (fa δ).bind fun r => (fb r.2).bind fun q => (r.1.toD q.2).bind fun d => (q.1.toD q.2).bind fun e => (g d e).bind fun c => some (c, q.2)
theorem bin_weak {r : R2} {g : D → D → Option C} {fa fb : M O} (hr : ∀ x y H Q, (∃ d e c, Pk B.K H x d ∧ Pk B.K H y e ∧ g d e = some c ∧ ∀ v H', Same H H' → CRes B.K H H' v c → Q v H') → r x y H Q) : ∀ σ H Q, tD B (fBin g fa fb) σ H Q → tOp r (tO B fa) (tO B fb) σ H Q := by
  rintro σ H Q ⟨δ, c, δ', R, e, k⟩
  obtain ⟨⟨oa, δ1⟩, ea, e⟩ := bind_some e
  obtain ⟨⟨ob, δ2⟩, eb, e⟩ := bind_some e
  obtain ⟨da, e1, e⟩ := bind_some e
  obtain ⟨db, e2, e⟩ := bind_some e
  obtain ⟨c', e3, e⟩ := bind_some e
  cases e
  refine ⟨δ, oa, δ1, R, ea, fun x H1 G1 R1 r1 => ⟨δ1, ob, δ2, R1, eb, fun y H2 G2 R2 r2 => hr _ _ _ _ ⟨da, db, c, ORes.pk (H1 := H) R2 (ORes.later R R1 G1 G2 r1) e1, ORes.pk (H1 := H) R2 r2 e2, e3, fun v H' s cr => ?_⟩⟩⟩
  exact k v H' (G1.trans (G2.trans (Go.of s))) (R2.same s) (cr.back fun b hb => G2.trk b (G1.trk b hb))
theorem de_bin {op : Operator} {g : D → D → Option C} {fa fb : M O} (ho : OpD X (binaryOp op) g) (ha : DO X B a fa) (hb : DO X B b fb) (hK : B.K = X.K := by rfl) : DE X B (.BinOp a op b pos) (fBin g fa fb) :=
  pe_weak (pe_op ho ha hb) (bin_weak fun x y H Q h => by rw [hK] at h; exact h)
theorem de_cmp {op : CmpOp} {g : D → D → Option C} {fa fb : M O} (ho : OpD X (compareOp op) g) (ha : DO X B a fa) (hb : DO X B b fb) (hm : behindInMarks op b = false := by first | exact nomark _ | rfl) (hK : B.K = X.K := by rfl) : DE X B (.Compare a [op] [b] pos) (fBin g fa fb) :=
  pe_weak (pe_cmpR ho ha hb hm) (bin_weak fun x y H Q h => by rw [hK] at h; exact h)
def fTest (f : M C) : M Bool := fun δ => (f δ).bind fun r => match r.1 with
  | .val (.bl b) => some (b, r.2)
  | _ => none
theorem test_weak {f : M C} {t : TE} (h : ∀ σ H Q, tD B f σ H Q → t σ H Q) : ∀ σ H Q, tT B (fTest f) σ H Q → (fun σ H (Q : Bool → Hp → Prop) => t σ H fun x H' => ∃ k, x = .bl k ∧ Q k H') σ H Q := by
  rintro σ H Q ⟨δ, b, δ', R, e, k⟩
  obtain ⟨⟨c, δ1⟩, e1, e⟩ := bind_some e
  refine h σ H _ ⟨δ, c, δ1, R, e1, fun v H' G R' r => ?_⟩
  cases c with
  | val d =>
    cases d with
    | bl b' => cases e; cases r; exact ⟨_, rfl, k H' G R'⟩
    | _ => cases e
  | _ => cases e
theorem dt_cmp {op : CmpOp} {g : D → D → Option C} {fa fb : M O} (ho : OpD X (compareOp op) g) (ha : DO X B a fa) (hb : DO X B b fb) (hm : behindInMarks op b = false := by first | exact nomark _ | rfl) (hK : B.K = X.K := by rfl) : DT X B (.Compare a [op] [b] pos) (fTest (fBin g fa fb)) :=
  pt_weak (pt_cmpR ho ha hb hm) (test_weak (bin_weak fun x y H Q h => by rw [hK] at h; exact h))
theorem dt_val {f : M C} (h : DE X B e f) (he : ∀ whole, isTrue e X.env whole = (do let v ← whole; standAt e.pos; holding [v] (truthy v)) := by intro _; rfl) : DT X B e (fTest f) :=
  pt_weak (pt_val h he) (test_weak fun _ _ _ h => h)
def fChain (g g' : D → D → Option C) (fa fb fc : M O) : M C := fun δ => (fa δ).bind fun r => (fb r.2).bind fun q => (r.1.toD q.2).bind fun d => (q.1.toD q.2).bind fun e => (g d e).bind fun c => match c with
  | .val (.bl true) => (fc q.2).bind fun w => (q.1.toD w.2).bind fun e' => (w.1.toD w.2).bind fun m => (g' e' m).bind fun c' => some (c', w.2)
  | .val (.bl false) => some (.val (.bl false), q.2)
  | _ => none
theorem chain_weak {r r' : R2} {g g' : D → D → Option C} {fa fb fc : M O} (hr : ∀ x y H Q, (∃ d e c, Pk B.K H x d ∧ Pk B.K H y e ∧ g d e = some c ∧ ∀ v H', Same H H' → CRes B.K H H' v c → Q v H') → r x y H Q)
    (hr' : ∀ x y H Q, (∃ d e c, Pk B.K H x d ∧ Pk B.K H y e ∧ g' d e = some c ∧ ∀ v H', Same H H' → CRes B.K H H' v c → Q v H') → r' x y H Q) : ∀ σ H Q, tD B (fChain g g' fa fb fc) σ H Q → tChain r r' (tO B fa) (tO B fb) (tO B fc) σ H Q := by
  rintro σ H Q ⟨δ, c, δ', R, e, k⟩
  obtain ⟨⟨oa, δ1⟩, ea, e⟩ := bind_some e
  obtain ⟨⟨ob, δ2⟩, eb, e⟩ := bind_some e
  obtain ⟨da, e1, e⟩ := bind_some e
  obtain ⟨db, e2, e⟩ := bind_some e
  obtain ⟨c', e3, e⟩ := bind_some e
  refine ⟨δ, oa, δ1, R, ea, fun x H1 G1 R1 r1 => ⟨δ1, ob, δ2, R1, eb, fun y H2 G2 R2 r2 => hr _ _ _ _ ⟨da, db, c', ORes.pk (H1 := H) R2 (ORes.later R R1 G1 G2 r1) e1, ORes.pk (H1 := H) R2 r2 e2, e3, fun v H3 s cr => ?_⟩⟩⟩
  cases c' with
  | val d =>
    cases d with
    | bl b' =>
      cases cr
      refine ⟨_, rfl, ?_⟩
      have G12 := G1.trans G2
      cases b' with
      | true =>
        obtain ⟨⟨oc, δ3⟩, ec, e⟩ := bind_some e
        obtain ⟨de, e4, e⟩ := bind_some e
        obtain ⟨dm, e5, e⟩ := bind_some e
        obtain ⟨c2, e6, e⟩ := bind_some e
        cases e
        refine iteT ⟨δ2, oc, δ3, R2.same s, ec, fun z H4 G4 R4 r4 => hr' _ _ _ _ ⟨de, dm, c, ORes.pk (H1 := H1) R4 (ORes.later R1 R2 G2 ((Go.of s).trans G4) r2) e4, ORes.pk (H1 := H) R4 r4 e5, e6, fun v H' s' cr => ?_⟩⟩
        exact k v H' ((G12.trans (Go.of s)).trans (G4.trans (Go.of s'))) (R4.same s') (cr.back fun b hb => G4.trk b ((Go.of (σ := σ) (δ := δ2) s).trk b (G12.trk b hb)))
      | false =>
        cases e
        exact iteF (k _ H3 (G12.trans (Go.of s)) (R2.same s) (.bl false))
    | _ => cases e
  | _ => cases e
theorem de_chain {c : Expr} {op op' : CmpOp} {g g' : D → D → Option C} {fa fb fc : M O} (ho : OpD X (compareOp op) g) (ho' : OpD X (compareOp op') g') (ha : DO X B a fa) (hb : DO X B b fb) (hc : DO X B c fc) (hm : lastMarks [op, op'] [b, c] = false := by with_unfolding_all rfl) (hK : B.K = X.K := by rfl) :
    DE X B (.Compare a [op, op'] [b, c] pos) (fChain g g' fa fb fc) := pe_weak (pe_chain ho ho' ha hb hc hm) (chain_weak (fun x y H Q h => by rw [hK] at h; exact h) fun x y H Q h => by rw [hK] at h; exact h)
theorem dt_chain {c : Expr} {op op' : CmpOp} {g g' : D → D → Option C} {fa fb fc : M O} (ho : OpD X (compareOp op) g) (ho' : OpD X (compareOp op') g') (ha : DO X B a fa) (hb : DO X B b fb) (hc : DO X B c fc) (hm : lastMarks [op, op'] [b, c] = false := by with_unfolding_all rfl) (hK : B.K = X.K := by rfl) :
    DT X B (.Compare a [op, op'] [b, c] pos) (fTest (fChain g g' fa fb fc)) := pt_weak (pt_chain ho ho' ha hb hc hm) (test_weak (chain_weak (fun x y H Q h => by rw [hK] at h; exact h) fun x y H Q h => by rw [hK] at h; exact h))

/-! ### and, or, not, a if t else b -/
abbrev DW (X : Cx) (B : Bx) (e : Expr) (f : M Bool) : Prop := PW X e (tT B f)
def mAnd (t u : M Bool) : M Bool := fun δ => (t δ).bind fun r => if r.1 = true then u r.2 else some (false, r.2)
def mOr (t u : M Bool) : M Bool := fun δ => (t δ).bind fun r => if r.1 = true then some (true, r.2) else u r.2
def mNot (t : M Bool) : M Bool := fun δ => (t δ).bind fun r => some (!r.1, r.2)
variable {t u : M Bool} {rest : List Expr}
theorem dw_and1 (h : DT X B a t) : DW X B (.BoolOp .And [a] pos) t := pw_and1 h
theorem dw_or1 (h : DT X B a t) : DW X B (.BoolOp .Or [a] pos) t := pw_or1 h
theorem dw_and (h : DT X B a t) (h2 : DW X B (.BoolOp .And (b :: rest) pos) u) : DW X B (.BoolOp .And (a :: b :: rest) pos) (mAnd t u) := pw_weak (pw_and h h2) fun σ H Q ⟨δ, c, δ', R, e, k⟩ => by
  obtain ⟨⟨c1, δ1⟩, e1, e⟩ := bind_some e
  refine ⟨δ, c1, δ1, R, e1, fun H1 G1 R1 => ?_⟩
  cases c1 with
  | true => exact iteT ⟨δ1, c, δ', R1, e, fun H2 G2 R2 => k H2 (G1.trans G2) R2⟩
  | false => cases e; exact iteF (k H1 G1 R1)
theorem dw_or (h : DT X B a t) (h2 : DW X B (.BoolOp .Or (b :: rest) pos) u) : DW X B (.BoolOp .Or (a :: b :: rest) pos) (mOr t u) := pw_weak (pw_or h h2) fun σ H Q ⟨δ, c, δ', R, e, k⟩ => by
  obtain ⟨⟨c1, δ1⟩, e1, e⟩ := bind_some e
  refine ⟨δ, c1, δ1, R, e1, fun H1 G1 R1 => ?_⟩
  cases c1 with
  | true => cases e; exact iteT (k H1 G1 R1)
  | false => exact iteF ⟨δ1, c, δ', R1, e, fun H2 G2 R2 => k H2 (G1.trans G2) R2⟩
theorem DW.dt {e : Expr} {f : M Bool} (h : DW X B e f) : DT X B e f := h.pt
theorem dt_not (h : DT X B a t) : DT X B (.UnaryOp .Not a pos) (mNot t) := pt_weak (pt_not h) fun σ H Q ⟨δ, c, δ', R, e, k⟩ => by
  obtain ⟨⟨c1, δ1⟩, e1, e⟩ := bind_some e
  cases e
  exact ⟨δ, c1, _, R, e1, fun H1 G1 R1 => k H1 G1 R1⟩
/-- .. as values -/
def fAndV (f g : M C) : M C := fun δ => (f δ).bind fun r => match r.1 with
  | .val (.bl true) => g r.2
  | .val (.bl false) => some (.val (.bl false), r.2)
  | _ => none
def fOrV (f g : M C) : M C := fun δ => (f δ).bind fun r => match r.1 with
  | .val (.bl true) => some (.val (.bl true), r.2)
  | .val (.bl false) => g r.2
  | _ => none
def fNotV (f : M C) : M C := fun δ => (f δ).bind fun r => match r.1 with
  | .val (.bl b) => some (.val (.bl (!b)), r.2)
  | _ => none
variable {f g : M C}
theorem de_one {op} (h : DE X B a f) : DE X B (.BoolOp op [a] pos) f := pe_one h
theorem de_and (h : DE X B a f) (h2 : DE X B (.BoolOp .And (b :: rest) pos) g) : DE X B (.BoolOp .And (a :: b :: rest) pos) (fAndV f g) := pe_weak (pe_and h h2) fun σ H Q ⟨δ, c, δ', R, e, k⟩ => by
  obtain ⟨⟨c1, δ1⟩, e1, e⟩ := bind_some e
  refine ⟨δ, c1, δ1, R, e1, fun v H1 G1 R1 r => ?_⟩
  cases c1 with
  | val d =>
    cases d with
    | bl b' =>
      cases r
      refine ⟨b', rfl, ?_⟩
      cases b' with
      | true => exact iteT ⟨δ1, c, δ', R1, e, fun w H2 G2 R2 r2 => k w H2 (G1.trans G2) R2 (r2.back G1.trk)⟩
      | false => cases e; exact iteF (k _ H1 G1 R1 (.bl false))
    | _ => cases e
  | _ => cases e
theorem de_or (h : DE X B a f) (h2 : DE X B (.BoolOp .Or (b :: rest) pos) g) : DE X B (.BoolOp .Or (a :: b :: rest) pos) (fOrV f g) := pe_weak (pe_or h h2) fun σ H Q ⟨δ, c, δ', R, e, k⟩ => by
  obtain ⟨⟨c1, δ1⟩, e1, e⟩ := bind_some e
  refine ⟨δ, c1, δ1, R, e1, fun v H1 G1 R1 r => ?_⟩
  cases c1 with
  | val d =>
    cases d with
    | bl b' =>
      cases r
      refine ⟨b', rfl, ?_⟩
      cases b' with
      | true => cases e; exact iteT (k _ H1 G1 R1 (.bl true))
      | false => exact iteF ⟨δ1, c, δ', R1, e, fun w H2 G2 R2 r2 => k w H2 (G1.trans G2) R2 (r2.back G1.trk)⟩
    | _ => cases e
  | _ => cases e
theorem de_not (h : DE X B a f) : DE X B (.UnaryOp .Not a pos) (fNotV f) := pe_weak (pe_not h) fun σ H Q ⟨δ, c, δ', R, e, k⟩ => by
  obtain ⟨⟨c1, δ1⟩, e1, e⟩ := bind_some e
  refine ⟨δ, c1, δ1, R, e1, fun v H1 G1 R1 r => ?_⟩
  cases c1 with
  | val d =>
    cases d with
    | bl b' => cases r; cases e; exact ⟨b', rfl, k _ H1 G1 R1 (.bl _)⟩
    | _ => cases e
  | _ => cases e
def fIf (t : M Bool) (f g : M C) : M C := fun δ => (t δ).bind fun r => if r.1 = true then f r.2 else g r.2
theorem de_if {c : Expr} (ht : DT X B c t) (h : DE X B a f) (h2 : DE X B b g) : DE X B (.IfExp c a b pos) (fIf t f g) := pe_weak (pe_ifExp ht h h2) fun σ H Q ⟨δ, c, δ', R, e, k⟩ => by
  obtain ⟨⟨c1, δ1⟩, e1, e⟩ := bind_some e
  refine ⟨δ, c1, δ1, R, e1, fun H1 G1 R1 => ?_⟩
  cases c1 with
  | true => exact iteT ⟨δ1, c, δ', R1, e, fun w H2 G2 R2 r2 => k w H2 (G1.trans G2) R2 (r2.back G1.trk)⟩
  | false => exact iteF ⟨δ1, c, δ', R1, e, fun w H2 G2 R2 r2 => k w H2 (G1.trans G2) R2 (r2.back G1.trk)⟩

/-! ### argument lists, calls of built-ins, methods of built-in types, items, slices, displays -/
def aNil : M (List O) := fun δ => some ([], δ)
def aCons (f : M O) (r : M (List O)) : M (List O) := fun δ => (f δ).bind fun p => (r p.2).bind fun q => some (p.1 :: q.1, q.2)
variable {es : List Expr} {fo : M O} {fr : M (List O)}
theorem da_nil : DA X B [] aNil := pa_weak pa_nil fun σ H Q ⟨δ, c, δ', R, e, k⟩ => by cases e; exact k [] H (Go.refl _ _ _) R .nil
theorem OAll.later {σ : St} {H H1 H2 : Hp} {δ δ1 δ2 : DS} (R : Rel B σ H δ) (R1 : Rel B σ H1 δ1) (G : Go σ δ H δ1 H1) (G2 : Go σ δ1 H1 δ2 H2) : ∀ {vs : List V} {os : List O}, OAll B.K σ H H1 vs os → OAll B.K σ H H2 vs os
  | _, _, .nil => .nil
  | _, _, .cons a b n => .cons (ORes.later R R1 G G2 a) (OAll.later R R1 G G2 b) n
theorem da_cons (h : DO X B e fo) (h2 : DA X B es fr) (hs : starEach (e :: es) X.env = (false, eval e X.env) :: starEach es X.env := by rfl) : DA X B (e :: es) (aCons fo fr) := pa_weak (pa_cons h h2 hs) fun σ H Q ⟨δ, os, δ', R, e, k⟩ => by
  obtain ⟨⟨o, δ1⟩, e1, e⟩ := bind_some e
  obtain ⟨⟨or, δ2⟩, e2, e⟩ := bind_some e
  cases e
  exact ⟨δ, o, δ1, R, e1, fun v H1 G1 R1 r1 => ⟨δ1, or, _, R1, e2, fun vs H2 G2 R2 r2 => k (v :: vs) H2 (G1.trans G2) R2 (.cons (ORes.later R R1 G1 G2 r1) (r2.back G1.trk) fun i ds ds' z1 z2 z3 => by
    subst z1
    obtain ⟨a, xs, rfl, _, h1, _⟩ := r1
    obtain ⟨v', h3, b, ys, rfl, h4, _⟩ := r2.get z2
    rw [z3] at h3; cases h3
    rw [h1] at h4; cases h4)⟩⟩
def CallD (X : Cx) (fv : Value) (g : List D → Option C) : Prop := CallR X fv fun xs H Q => ∃ ds c, PkAll X.K H xs ds ∧ g ds = some c ∧ ∀ v H', Same H H' → CRes X.K H H' v c → Q v H'
def fCB (g : List D → Option C) (fa : M (List O)) : M C := fun δ => (fa δ).bind fun r => (toDs r.2 r.1).bind fun ds => (g ds).bind fun c => some (c, r.2)
theorem cb_weak {g : List D → Option C} (hK : B.K = X.K) : ∀ σ H Q, tD B (fCB g fr) σ H Q → tCB (fun xs H Q => ∃ ds c, PkAll X.K H xs ds ∧ g ds = some c ∧ ∀ v H', Same H H' → CRes X.K H H' v c → Q v H') (tA B fr) σ H Q := by
  rintro σ H Q ⟨δ, c, δ', R, e, k⟩
  obtain ⟨⟨os, δ1⟩, e1, e⟩ := bind_some e
  obtain ⟨ds, e2, e⟩ := bind_some e
  obtain ⟨c', e3, e⟩ := bind_some e
  cases e
  refine ⟨δ, os, _, R, e1, fun vs H1 G1 R1 r1 => ⟨ds, c, ?_, e3, fun v H' s cr => ?_⟩⟩
  · rw [← hK]; exact r1.pk R1 e2
  · rw [← hK] at cr
    exact k v H' (G1.trans (Go.of s)) (R1.same s) (cr.back G1.trk)
theorem de_callB {id : String} {x : Str} {p : Pos} {g : List D → Option C} (hc : CallD X (.builtin id) g) (hm : X.mg x = none) (hv : bootBuiltins x = some (.builtin id)) (ha : DA X B (e :: es) fr) (hg : Gl X x := by rfl) (hn : x ≠ "__name__" := by decide) (hdb : (x == ("__debug__" : Str)) = false := by decide)
    (he : starEach (e :: es) X.env = (false, eval e X.env) :: starEach es X.env := by rfl) (hpl : (backTo pos (starEach es X.env)).any (·.1) = false := by rfl) (hK : B.K = X.K := by rfl) : DE X B (.Call (.Name x p) (e :: es) [] pos) (fCB g fr) :=
  pe_weak (pe_callB hc hg hm hv ha hn hdb he hpl) (cb_weak hK)
theorem de_callTy {T : String} {x : Str} {p : Pos} {g : List D → Option C} (hc : CallD X (.type T) g) (hm : X.mg x = none) (hv : bootBuiltins x = some (.type T)) (ha : DA X B (e :: es) fr) (hg : Gl X x := by rfl) (hn : x ≠ "__name__" := by decide) (hdb : (x == ("__debug__" : Str)) = false := by decide)
    (he : starEach (e :: es) X.env = (false, eval e X.env) :: starEach es X.env := by rfl) (hpl : (backTo pos (starEach es X.env)).any (·.1) = false := by rfl) (hK : B.K = X.K := by rfl) : DE X B (.Call (.Name x p) (e :: es) [] pos) (fCB g fr) :=
  pe_weak (pe_callTy hc hg hm hv ha hn hdb he hpl) (cb_weak hK)
/-- a method of a text -/
def MtD (X : Cx) (id : String) (g : D → List D → Option C) : Prop := MtR X id fun x xs H Q => ∃ d ds c, Pk X.K H x d ∧ PkAll X.K H xs ds ∧ g d ds = some c ∧ ∀ v H', Same H H' → CRes X.K H H' v c → Q v H'
def fMt (g : D → List D → Option C) (fo : M O) (fa : M (List O)) : M C := fun δ => (fo δ).bind fun p => (p.1.toD p.2).bind fun d => match d with
  | .str z => (fa p.2).bind fun r => (toDs r.2 r.1).bind fun ds => (g (.str z) ds).bind fun c => some (c, r.2)
  | _ => none
theorem de_mtS {o : Expr} {name : Str} {apos cpos : Pos} {id : String} {g : D → List D → Option C} (slot : Slot "str" name id) (hty : typeOf (.builtin id) = pure (.type "method_descriptor")) (hm : MtD X id g) (ho : DO X B o fo) (ha : DA X B (e :: es) fr)
    (hbase : attributeBase o name X.env (eval o X.env) = eval o X.env := by rfl)
    (hfew : ((backTo cpos (starEach (e :: es) X.env)).all (fun x => !x.1) && (backToKw cpos (keywordEach [] X.env)).all (fun x => x.1.isSome)
      && decide ((e :: es).length + ([] : List Keyword).length + (if ([] : List Keyword).isEmpty then 0 else 1) < 30)) = true := by rfl)
    (hline : (apos.endLine == cpos.line) = true := by rfl) (hs : starEach (e :: es) X.env = (false, eval e X.env) :: starEach es X.env := by rfl) (hplain : (backTo cpos (starEach es X.env)).any (·.1) = false := by rfl) (hK : B.K = X.K := by rfl) :
    DE X B (.Call (.Attribute o name apos) (e :: es) [] cpos) (fMt g fo fr) := pe_weak (pe_bm PySem.F.plainAttrs_str slot hty hm ho ha hbase hfew hline hs hplain) fun σ H Q ⟨δ, c, δ', R, e, k⟩ => by
  obtain ⟨⟨oo, δ1⟩, e0, e⟩ := bind_some e
  obtain ⟨d, e1, e⟩ := bind_some e
  cases d with
  | str z =>
    obtain ⟨⟨os, δ2⟩, e2, e⟩ := bind_some e
    obtain ⟨ds, e3, e⟩ := bind_some e
    obtain ⟨c', e4, e⟩ := bind_some e
    cases e
    refine ⟨δ, oo, δ1, R, e0, fun x H1 G1 R1 r1 => ?_⟩
    obtain rfl : x = .str z := (ORes.pk (H1 := H) R1 r1 e1).str
    refine ⟨rfl, δ1, os, _, R1, e2, fun vs H2 G2 R2 r2 => ⟨.str z, ds, c, .rep (.str z), ?_, e4, fun v H' s cr => ?_⟩⟩
    · rw [← hK]; exact r2.pk R2 e3
    · rw [← hK] at cr
      exact k v H' (G1.trans (G2.trans (Go.of s))) (R2.same s) (cr.back fun b hb => G2.trk b (G1.trk b hb))
  | _ => cases e
def fMt0 (g : D → List D → Option C) (fo : M O) : M C := fun δ => (fo δ).bind fun p => (p.1.toD p.2).bind fun d => match d with
  | .str z => (g (.str z) []).bind fun c => some (c, p.2)
  | _ => none
theorem de_mtS0 {o : Expr} {name : Str} {apos cpos : Pos} {id : String} {g : D → List D → Option C} (slot : Slot "str" name id) (hty : typeOf (.builtin id) = pure (.type "method_descriptor")) (hm : MtD X id g) (ho : DO X B o fo)
    (hbase : attributeBase o name X.env (eval o X.env) = eval o X.env := by rfl) (hline : (apos.endLine == cpos.line) = true := by rfl) (hK : B.K = X.K := by rfl) : DE X B (.Call (.Attribute o name apos) [] [] cpos) (fMt0 g fo) := pe_weak (pe_bm0 PySem.F.plainAttrs_str slot hty hm ho hbase hline) fun σ H Q ⟨δ, c, δ', R, e, k⟩ => by
  obtain ⟨⟨oo, δ1⟩, e0, e⟩ := bind_some e
  obtain ⟨d, e1, e⟩ := bind_some e
  cases d with
  | str z =>
    obtain ⟨c', e4, e⟩ := bind_some e
    cases e
    refine ⟨δ, oo, _, R, e0, fun x H1 G1 R1 r1 => ?_⟩
    obtain rfl : x = .str z := (ORes.pk (H1 := H) R1 r1 e1).str
    refine ⟨rfl, .str z, [], c, .rep (.str z), .nil, e4, fun v H' s cr => ?_⟩
    rw [← hK] at cr
    exact k v H' (G1.trans (Go.of s)) (R1.same s) (cr.back G1.trk)
  | _ => cases e
/-- items -/
def IxD (X : Cx) (g : D → D → Option C) : Prop := IxR X fun x y H Q => ∃ d e c, Pk X.K H x d ∧ Pk X.K H y e ∧ g d e = some c ∧ ∀ v H', Same H H' → CRes X.K H H' v c → Q v H'
theorem de_ix {fa fb : M O} {g : D → D → Option C} (hg : IxD X g) (ha : DO X B a fa) (hb : DO X B b fb) (hs : PlainIx b := by intro _ _; rfl) (hK : B.K = X.K := by rfl) : DE X B (.Subscript a b pos) (fBin g fa fb) :=
  pe_weak (pe_ix hg ha hb hs) (bin_weak fun x y H Q h => by rw [hK] at h; exact h)
/-- slices -/
def pNone : M (Option Int) := fun δ => some (none, δ)
def pSome (f : M C) : M (Option Int) := fun δ => (f δ).bind fun r => match r.1 with
  | .val (.int i) => some (some i, r.2)
  | _ => none
def tP (B : Bx) (f : M (Option Int)) : TO := fun σ H Q => ∃ δ o δ', Rel B σ H δ ∧ f δ = some (o, δ') ∧ ∀ H', Go σ δ H δ' H' → Rel B σ H' δ' → Q o H'
abbrev DP (X : Cx) (B : Bx) (e : Option Expr) (f : M (Option Int)) : Prop := PO X e (tP B f)
theorem dp_none : DP X B none pNone := ⟨fun pins s σ H Q I ⟨δ, o, δ', R, e, k⟩ => po_none.run pins s σ H Q I (by cases e; exact k H (Go.refl _ _ _) R)⟩
theorem dp_some (h : DE X B e f) : DP X B (some e) (pSome f) := ⟨fun pins s σ H Q I ⟨δ, o, δ', R, e, k⟩ => (po_some h).run pins s σ H Q I (by
  obtain ⟨⟨c, δ1⟩, e1, e⟩ := bind_some e
  refine ⟨δ, c, δ1, R, e1, fun v H1 G1 R1 r => ?_⟩
  cases c with
  | val d =>
    cases d with
    | int i => cases e; cases r; exact ⟨i, rfl, k H1 G1 R1⟩
    | _ => cases e
  | _ => cases e)⟩
def SlD (X : Cx) (g : D → Option Int → Option Int → Option C) : Prop := SlR X fun x lo hi H Q => ∃ d c, Pk X.K H x d ∧ g d lo hi = some c ∧ ∀ v H', Same H H' → CRes X.K H H' v c → Q v H'
def fSl (g : D → Option Int → Option Int → Option C) (fa : M O) (fl fh : M (Option Int)) : M C := fun δ => (fa δ).bind fun p => (fl p.2).bind fun l => (fh l.2).bind fun h => (p.1.toD h.2).bind fun d => (g d l.1 h.1).bind fun c => some (c, h.2)
theorem de_slice {lo hi : Option Expr} {p2 : Pos} {fl fh : M (Option Int)} {g : D → Option Int → Option Int → Option C} (hg : SlD X g) (ha : DO X B a fo) (hl : DP X B lo fl) (hh : DP X B hi fh) (hK : B.K = X.K := by rfl) : DE X B (.Subscript a (.Slice lo hi none p2) pos) (fSl g fo fl fh) :=
  pe_weak (pe_slice hg ha hl hh) fun σ H Q ⟨δ, c, δ', R, e, k⟩ => by
  obtain ⟨⟨oo, δ1⟩, e0, e⟩ := bind_some e
  obtain ⟨⟨l, δ2⟩, e1, e⟩ := bind_some e
  obtain ⟨⟨h, δ3⟩, e2, e⟩ := bind_some e
  obtain ⟨d, e3, e⟩ := bind_some e
  obtain ⟨c', e4, e⟩ := bind_some e
  cases e
  refine ⟨δ, oo, δ1, R, e0, fun x H1 G1 R1 r1 => ⟨δ1, l, δ2, R1, e1, fun H2 G2 R2 => ⟨δ2, h, _, R2, e2, fun H3 G3 R3 => ⟨d, c, ?_, e4, fun v H' s cr => ?_⟩⟩⟩⟩
  · rw [← hK]; exact ORes.pk (H1 := H) R3 (ORes.later R R1 G1 (G2.trans G3) r1) e3
  · rw [← hK] at cr
    exact k v H' ((G1.trans (G2.trans G3)).trans (Go.of s)) (R3.same s) (cr.back (G1.trans (G2.trans G3)).trk)
end
end DL

set_option Elab.async false
set_option linter.all false
set_option maxRecDepth 100000
set_option maxHeartbeats 2000000
/-! DL3: operands made data, displays, calls of the text's own defs. -/
namespace DL
open PySem PySem.Spec PyProof.Rows L2

def frzO (o : O) : M D := fun δ => match o with
  | .r c => some (c.toD, δ)
  | .sl i => match δ[i]? with
    | some (some (.val d)) => some (d, δ)
    | some (some (.own ds)) => some (.lst ds, δ.set i (some (.val (.lst ds))))
    | _ => none
def frzL : List O → M (List D)
  | [] => fun δ => some ([], δ)
  | o :: os => fun δ => (frzO o δ).bind fun r => (frzL os r.2).bind fun q => some (r.1 :: q.1, q.2)
section
variable {B : Bx} {σ : St} {H H1 : Hp} {δ δ1 : DS}
/-- a list laid to rest at a: what the other operands are stands -/
theorem ORes.upd {v : V} {o : O} {a : Addr} {xs : List V} {u : HO} (ha : H1 a = some (.lst xs)) (h : ORes B.K σ H H1 v o) (n : ∀ ds, o = .r (.own ds) → v ≠ .ref a) : ORes B.K σ H (upd H1 a u) v o := by
  cases o with
  | sl i => exact h
  | r c =>
    cases c with
    | val d => exact Rep.mono (stb_upd ha) h
    | own ds =>
      obtain ⟨b, ys, rfl, h0, h1, h2⟩ := h
      exact ⟨b, ys, rfl, h0, by rw [upd_ne (fun z => n ds rfl (by rw [z]))]; exact h1, h2.mono (stb_upd ha)⟩
    | io j ds => exact h.elim
theorem OAll.upd {a : Addr} {xs : List V} {u : HO} (ha : H1 a = some (.lst xs)) : ∀ {vs : List V} {os : List O}, OAll B.K σ H H1 vs os → (∀ (i : Nat) ds, os[i]? = some (.r (.own ds)) → vs[i]? ≠ some (.ref a)) → OAll B.K σ H (upd H1 a u) vs os
  | _, _, .nil, _ => .nil
  | _, _, .cons h t n, m => .cons (h.upd ha fun ds e => by
      have := m 0 ds (by rw [e]; rfl)
      simpa using this) (OAll.upd ha t fun i ds e => by
      have := m (i + 1) ds (by simpa using e)
      simpa using this) n
theorem frz_one {v : V} {o : O} {d : D} {δ2 : DS} (R : Rel B σ H δ) (R1 : Rel B σ H1 δ1) (G : Go σ δ H δ1 H1) (h : ORes B.K σ H H1 v o) (e : frzO o δ1 = some (d, δ2)) {Q : Hp → Prop}
    (k : ∀ H', Go σ δ H δ2 H' → Rel B σ H' δ2 → Stb H1 H' → Rep B.K H' v d → (H' = H1 ∨ ∃ a xs u, v = .ref a ∧ H1 a = some (.lst xs) ∧ H' = L2.upd H1 a u ∧ (H a = none → ∃ ds, o = .r (.own ds))) → Q H') : Gh Q H1 := by
  cases o with
  | r c =>
    cases e
    cases c with
    | val d => exact .done (k H1 G R1 (Stb.refl _) h (.inl rfl))
    | own ds =>
      obtain ⟨a, xs, rfl, h0, h1, h2⟩ := h
      refine .frz h1 fun o => .done (k _ ⟨fun b u e n => ?_, fun b hb => trk_upd b (G.trk b hb), G.sub⟩ (R1.rest h1 (fun z => R.notOwn h0 (G.sub a z)) (R.fresh0 h0)) (stb_upd h1) (rep_frz h1 h2) (.inr ⟨a, xs, _, rfl, h1, rfl, fun _ => ⟨ds, rfl⟩⟩))
      rw [upd_ne (fun z => by rw [z, h0] at e; cases e)]
      exact G.keep b u e n
    | io j ds => exact h.elim
  | sl i =>
    have h : σ[i]? = some (some v) := h
    have e : (match δ1[i]? with
      | some (some (.val d)) => some (d, δ1)
      | some (some (.own ds)) => some (D.lst ds, δ1.set i (some (C.val (.lst ds))))
      | _ => none) = some (d, δ2) := e
    cases hc : δ1[i]? with
    | none => rw [hc] at e; cases e
    | some oc =>
      cases oc with
      | none => rw [hc] at e; cases e
      | some c =>
        obtain ⟨v', hs, ok⟩ := R1.slot i c hc
        rw [h] at hs; cases hs
        rw [hc] at e
        cases c with
        | val d => cases e; exact .done (k H1 G R1 (Stb.refl _) ok (.inl rfl))
        | own ds =>
          cases e
          obtain ⟨a, xs, rfl, h1, h2, h3⟩ := id ok
          refine .frz h1 fun o => .done (k _ (G.trans (Go.put hc rfl h)) (R1.put hc rfl h (rep_frz h1 h2)) (stb_upd h1) (rep_frz h1 h2) (.inr ⟨a, xs, _, rfl, h1, rfl, fun z => ?_⟩))
          obtain ⟨ys, q⟩ := R.live (G.sub a ⟨i, _, hc, rfl, h⟩)
          rw [z] at q; cases q
        | io j ds => cases e
theorem Gh.mono {Q Q' : Hp → Prop} {H : Hp} (h : Gh Q H) (k : ∀ H, Q H → Q' H) : Gh Q' H := by
  induction h with
  | done q => exact .done (k _ q)
  | frz e _ ih => exact .frz e ih
theorem Gh.bind {Q Q' : Hp → Prop} {H : Hp} (h : Gh Q H) (k : ∀ H, Q H → Gh Q' H) : Gh Q' H := by
  induction h with
  | done q => exact k _ q
  | frz e _ ih => exact .frz e ih
theorem frz_all (R : Rel B σ H δ) {Q : Hp → Prop} : ∀ {os : List O} {vs : List V} {H1 : Hp} {δ1 δ2 : DS} {ds : List D}, Rel B σ H1 δ1 → Go σ δ H δ1 H1 → OAll B.K σ H H1 vs os → frzL os δ1 = some (ds, δ2) →
    (∀ H', Go σ δ H δ2 H' → Rel B σ H' δ2 → Stb H1 H' → RepAll B.K H' vs ds → (∀ b xs, H1 b = some (.lst xs) → H b = none → (∀ (i : Nat) es, os[i]? = some (.r (.own es)) → vs[i]? ≠ some (.ref b)) → H' b = some (.lst xs)) → Q H') → Gh Q H1
  | [], _, H1, δ1, δ2, ds, R1, G, h, e, k => by
    cases e
    cases h
    exact .done (k H1 G R1 (Stb.refl _) .nil fun _ _ h _ _ => h)
  | o :: os, _, H1, δ1, δ2, ds, R1, G, h, e, k => by
    obtain ⟨⟨d, δ3⟩, e1, e⟩ := bind_some e
    obtain ⟨⟨dr, δ4⟩, e2, e⟩ := bind_some e
    cases e
    cases h with
    | cons h1 h2 h3 =>
      rename_i v vs
      refine (frz_one (Q := fun H' => Gh Q H') R R1 G h1 e1 fun H' G' R' s' r' hh => ?_).bind fun _ q => q
      have h2' : OAll B.K σ H H' vs os := by
        rcases hh with rfl | ⟨a, xs, u, rfl, ha, rfl, hf⟩
        · exact h2
        · refine h2.upd ha fun i es he => ?_
          cases hHa : H a with
          | none =>
            obtain ⟨ds', hd⟩ := hf hHa
            exact h3 i _ _ hd he
          | some w =>
            intro hv
            obtain ⟨v', q1, b, ys, rfl, q2, _⟩ := h2.get he
            rw [hv] at q1; cases q1
            rw [hHa] at q2; cases q2
      refine frz_all R R' G' h2' e2 fun H2 G2 R2 s2 r2 hk => k H2 G2 R2 (s'.trans s2) (.cons (r'.mono s2) r2) fun b xs hb hn hne => ?_
      refine hk b xs ?_ hn fun i es he => by simpa using hne (i + 1) es (by simpa using he)
      rcases hh with rfl | ⟨a, ys, u, rfl, ha, rfl, hf⟩
      · exact hb
      · rw [upd_ne (fun z => ?_)]
        · exact hb
        · subst z
          obtain ⟨ds', hd⟩ := hf hn
          exact hne 0 ds' (by rw [hd]; rfl) rfl
end

section
variable {X : Cx} {B : Bx} {e : Expr} {es : List Expr} {pos : Pos} {fr : M (List O)} {fv : M (List D)}
def fFrz (f : M (List O)) : M (List D) := fun δ => (f δ).bind fun r => frzL r.1 r.2
theorem dvs_of (h : DA X B es fr) : DVs X B es (fFrz fr) := pa_weak (pa_gh h) fun σ H Q ⟨δ, ds, δ', R, e, k⟩ => by
  obtain ⟨⟨os, δ1⟩, e1, e⟩ := bind_some e
  exact ⟨δ, os, δ1, R, e1, fun vs H1 G1 R1 r1 => frz_all R R1 G1 r1 e fun H' G' R' _ r' _ => k vs H' G' R' r'⟩
theorem sz5 {n : Nat} (h : n ≤ 100000) : n ≤ sizeLine := Nat.le_trans h (by decide)
def fTup (f : M (List D)) : M C := fun δ => (f δ).bind fun r => if r.1.length ≤ 100000 then some (.val (.tup r.1), r.2) else none
def fLst (f : M (List D)) : M C := fun δ => (f δ).bind fun r => if r.1.length ≤ 100000 then some (.own r.1, r.2) else none
theorem same_new {H : Hp} {p : Addr} {o : HO} (h : H p = none) : Same H (upd H p o) := fun b u e => by rw [upd_ne (ne_of_none e h)]; exact e
theorem de_tup {x1} (h : DVs X B es fv) : DE X B (.Tuple es x1 pos) (fTup fv) := pe_weak (pe_tup h) fun σ H Q ⟨δ, c, δ', R, e, k⟩ => by
  obtain ⟨⟨ds, δ1⟩, e1, e⟩ := bind_some e
  split at e
  · rename_i hz
    cases e
    refine ⟨δ, ds, _, R, e1, fun vs H1 G1 R1 r1 => ⟨by rw [r1.len]; exact sz5 hz, fun p hp => ?_⟩⟩
    have s := same_new (o := HO.tup vs) hp
    exact k _ _ (G1.trans (Go.of s)) (R1.same s) (.tup (.of upd_same) (r1.mono (Stb.of s)))
  · cases e
theorem de_lst (h : DVs X B es fv) : DE X B (.List es pos) (fLst fv) := pe_weak (pe_lst h) fun σ H Q ⟨δ, c, δ', R, e, k⟩ => by
  obtain ⟨⟨ds, δ1⟩, e1, e⟩ := bind_some e
  split at e
  · rename_i hz
    cases e
    refine ⟨δ, ds, _, R, e1, fun vs H1 G1 R1 r1 => ⟨by rw [r1.len]; exact sz5 hz, fun p hp => ?_⟩⟩
    have s := same_new (o := HO.lst vs) hp
    refine k _ _ (G1.trans (Go.of s)) (R1.same s) ⟨p, vs, rfl, ?_, upd_same, r1.mono (Stb.of s)⟩
    cases q : H p with
    | none => rfl
    | some w => exact absurd hp (G1.trk p (by rw [q]; intro z; cases z))
  · cases e

/-! ### what a def promises: F, its answer from its arguments; the second kind: its first argument is a list that it changes -/
def spF (K : PySem.W.Frag) (n : Nat) (F : List D → Option C) : Sp := fun vs H Q _ => vs.length = n ∧ ∃ ds c, RepAll K H vs ds ∧ F ds = some c ∧ ∀ v H', Same H H' → CRes K H H' v c → Q v H'
def spIo (K : PySem.W.Frag) (n : Nat) (F : List D → Option (C × List D)) : Sp := fun vs H Q _ => vs.length = n ∧ ∃ a xs vr es ds c es', vs = .ref a :: vr ∧ H a = some (.lst xs) ∧ RepAll K H xs es ∧ RepAll K H vr ds ∧ F (.lst es :: ds) = some (c, es') ∧
  ∀ v H' xs', (∀ b o, H b = some o → b ≠ a → H' b = some o) → H' a = some (.lst xs') → RepAll K H' xs' es' → CRes K H H' v c → Q v H'
structure GFn (P : Program) (w : World) (K : PySem.W.Frag) (mg : Str → Option Value) (base : Heap) (k : Nat) (x : Str) (n : Nat) (F : List D → Option C) : Prop where
  ex : ∃ (f : Addr) (fd : FuncData) (ps : List Str), FnOk P w K mg base CX0 k f fd ps (spF K n F) ∧ mg x = some (.ref f) ∧ PySem.W.keepIn K (.ref f) = true ∧ Binds K fd ps []
structure GIo (P : Program) (w : World) (K : PySem.W.Frag) (mg : Str → Option Value) (base : Heap) (k : Nat) (x : Str) (n : Nat) (F : List D → Option (C × List D)) : Prop where
  ex : ∃ (f : Addr) (fd : FuncData) (ps : List Str), FnOk P w K mg base CX0 k f fd ps (spIo K n F) ∧ mg x = some (.ref f) ∧ PySem.W.keepIn K (.ref f) = true ∧ Binds K fd ps []
def fCall (F : List D → Option C) (n : Nat) (f : M (List D)) : M C := fun δ => (f δ).bind fun r => if r.1.length = n then (F r.1).bind fun c => some (c, r.2) else none
theorem de_call {k n : Nat} {x : Str} {p : Pos} {F : List D → Option C} (Gf : GFn X.prog X.w X.K X.mg X.base k x n F) (hr : Room k X.A) (ha : DVs X B (e :: es) fv) (hg : Gl X x := by rfl) (hdb : (x == ("__debug__" : Str)) = false := by decide)
    (he : starEach (e :: es) X.env = (false, eval e X.env) :: starEach es X.env := by rfl) (hpl : (backTo pos (starEach es X.env)).any (·.1) = false := by rfl) (hK : B.K = X.K := by rfl) : DE X B (.Call (.Name x p) (e :: es) [] pos) (fCall F n fv) := by
  obtain ⟨f, fd, ps, ok, hm, kp, hb⟩ := Gf.ex
  refine pe_weak (pe_call ok hr hg hm kp hb .nil pass0 ha hdb he hpl) fun σ H Q ⟨δ, c, δ', R, e, k⟩ => ?_
  obtain ⟨⟨ds, δ1⟩, e1, e⟩ := bind_some e
  split at e
  · rename_i hl
    obtain ⟨c', e2, e⟩ := bind_some e
    cases e
    refine ⟨δ, ds, _, R, e1, fun vs H1 G1 R1 r1 => ?_⟩
    show spF X.K n F (vs ++ []) H1 Q E0
    rw [List.append_nil]
    refine ⟨by rw [r1.len]; exact hl, ds, c, by rw [← hK]; exact r1, e2, fun v H' s cr => ?_⟩
    rw [← hK] at cr
    exact k v H' (G1.trans (Go.of s)) (R1.same s) (cr.back G1.trk)
  · cases e
theorem de_call0 {k : Nat} {x : Str} {p : Pos} {F : List D → Option C} (Gf : GFn X.prog X.w X.K X.mg X.base k x 0 F) (hr : Room k X.A) (hg : Gl X x := by rfl) (hdb : (x == ("__debug__" : Str)) = false := by decide) (hK : B.K = X.K := by rfl) :
    DE X B (.Call (.Name x p) [] [] pos) (fCall F 0 fun δ => some ([], δ)) := by
  obtain ⟨f, fd, ps, ok, hm, kp, hb⟩ := Gf.ex
  refine pe_weak (pe_call0 ok hr hg hm kp hb .nil pass0 hdb) fun σ H Q ⟨δ, c, δ', R, e, k⟩ => ?_
  obtain ⟨⟨ds, δ1⟩, e1, e⟩ := bind_some e
  cases e1
  split at e
  · obtain ⟨c', e2, e⟩ := bind_some e
    cases e
    refine ⟨rfl, [], c, .nil, e2, fun v H' s cr => ?_⟩
    rw [← hK] at cr
    exact k v H' (Go.of s) (R.same s) cr
  · cases e
/-- the first argument is changed: a name's list, or a new one (then alone) -/
def fCallIo (F : List D → Option (C × List D)) (n : Nat) (f : M (List O)) : M C := fun δ => (f δ).bind fun r => if r.1.length = n then match r.1 with
    | .sl k :: os => (frzL os r.2).bind fun q => match q.2[k]? with
      | some (some (.own es)) => (F (.lst es :: q.1)).bind fun p => some (p.1, q.2.set k (some (.own p.2)))
      | some (some (.io j es)) => (F (.lst es :: q.1)).bind fun p => some (p.1, q.2.set k (some (.io j p.2)))
      | _ => none
    | [.r (.own es)] => (F [.lst es]).bind fun p => some (p.1, r.2)
    | _ => none
  else none
theorem io_end {σ : St} {H H2 : Hp} {δ δ2 : DS} {k : Nat} {c c' : C} {a : Addr} {v : V} {H' : Hp} {xs' : List V} {cr : C} (R : Rel B σ H δ) (R2 : Rel B σ H2 δ2) (G2 : Go σ δ H δ2 H2) (hc : δ2[k]? = some (some c)) (hm : c.mine = true) (hv : σ[k]? = some (some (.ref a)))
    (keep : ∀ b o, H2 b = some o → b ≠ a → H' b = some o) (ha : H' a = some (.lst xs')) (ok : CellOk B H' (.ref a) c') (hm' : c'.mine = true) (r : CRes B.K H2 H' v cr) : Go σ δ H (δ2.set k (some c')) H' ∧ Rel B σ H' (δ2.set k (some c')) ∧ CRes B.K H H' v cr := by
  have own : Own σ δ2 a := ⟨k, c, hc, hm, hv⟩
  have same : Same (upd H2 a (.lst xs')) H' := fun b o e => by
    by_cases hb : b = a
    · subst hb; rw [upd_same] at e; cases e; exact ha
    · rw [upd_ne hb] at e; exact keep b o e hb
  -- the store, then the rest
  have trk : ∀ b, H2 b ≠ none → H' b ≠ none := fun b hb z => by
    by_cases e : b = a
    · subst e; rw [ha] at z; cases z
    · cases q : H2 b with
      | none => exact hb q
      | some o => rw [keep b o q e] at z; cases z
  refine ⟨G2.trans ⟨fun b o e n => keep b o e fun z => n (by rw [z]; exact own), trk, fun b z => ?_⟩, ?_, r.back fun b hb => G2.trk b hb⟩
  · obtain ⟨j, cj, h1, h2, h3⟩ := z
    by_cases e : k = j
    · subst e; rw [hv] at h3; cases h3; exact own
    · rw [List.getElem?_set_ne e] at h1; exact ⟨j, cj, h1, h2, h3⟩
  · obtain ⟨v', e, okc⟩ := R2.slot k c hc
    rw [hv] at e; cases e
    obtain ⟨⟨xs, hx⟩, fr⟩ := okc.at0 hm
    have hlt : k < δ2.length := (List.getElem?_eq_some_iff.mp hc).1
    have s : Stb H2 H' := ⟨fun b ys e => keep b _ e (fun z => by rw [z, hx] at e; cases e), fun b ys u e => keep b _ e (fun z => by rw [z, hx] at e; cases e), fun b c dx fs e => keep b _ e (fun z => by rw [z, hx] at e; cases e)⟩
    refine ⟨by rw [List.length_set]; exact R2.len, fun j cj hj => ?_, fun i j ci cj b hi hj mi mj si sj => ?_, fun b u e n => keep b u (R2.frame b u e n) (fr b u e n), fun b hb => trk b (R2.trk b hb)⟩
    · by_cases e : k = j
      · subst e
        rw [List.getElem?_set_self hlt] at hj; cases hj
        exact ⟨_, hv, ok⟩
      · rw [List.getElem?_set_ne e] at hj
        obtain ⟨w, h1, h2⟩ := R2.slot j cj hj
        refine ⟨w, h1, ?_⟩
        have ne : cj.mine = true → w ≠ .ref a := fun hmj z => by rw [z] at h1; exact e (R2.apart k j c cj a hc hj hm hmj hv h1)
        cases cj with
        | val d => exact Rep.mono s h2
        | own ds => obtain ⟨b, ys, rfl, q1, q2, q3⟩ := h2; exact ⟨b, ys, rfl, keep b _ q1 (fun z => ne rfl (by rw [z])), q2.mono s, q3⟩
        | io j' ds => obtain ⟨b, ys, rfl, q1, q2, q3⟩ := h2; exact ⟨b, ys, rfl, keep b _ q1 (fun z => ne rfl (by rw [z])), q2.mono s, q3⟩
    · have old : ∀ (m : Nat) (cm : C), (δ2.set k (some c'))[m]? = some (some cm) → cm.mine = true → ∃ cm', δ2[m]? = some (some cm') ∧ cm'.mine = true := fun m cm h hmm => by
        by_cases e : k = m
        · subst e; exact ⟨c, hc, hm⟩
        · rw [List.getElem?_set_ne e] at h; exact ⟨cm, h, hmm⟩
      obtain ⟨c1, h1, m1⟩ := old i ci hi mi
      obtain ⟨c2, h2, m2⟩ := old j cj hj mj
      exact R2.apart i j c1 c2 b h1 h2 m1 m2 si sj
theorem de_callIo {k n : Nat} {x : Str} {p : Pos} {F : List D → Option (C × List D)} (Gf : GIo X.prog X.w X.K X.mg X.base k x n F) (hr : Room k X.A) (ha : DA X B (e :: es) fr) (hg : Gl X x := by rfl) (hdb : (x == ("__debug__" : Str)) = false := by decide)
    (he : starEach (e :: es) X.env = (false, eval e X.env) :: starEach es X.env := by rfl) (hpl : (backTo pos (starEach es X.env)).any (·.1) = false := by rfl) (hK : B.K = X.K := by rfl) : DE X B (.Call (.Name x p) (e :: es) [] pos) (fCallIo F n fr) := by
  obtain ⟨f, fd, ps, ok, hm, kp, hb⟩ := Gf.ex
  refine pe_weak (pe_call ok hr hg hm kp hb .nil pass0 (pa_gh ha) hdb he hpl) fun σ H Q ⟨δ, c, δ', R, e, k⟩ => ?_
  obtain ⟨⟨os, δ1⟩, e1, e⟩ := bind_some e
  simp only at e
  split at e
  case isFalse => cases e
  rename_i hl
  refine ⟨δ, os, δ1, R, e1, fun vs H1 G1 R1 r1 => ?_⟩
  split at e
  · -- a name's list
    rename_i kk os'
    obtain ⟨⟨ds, δ2⟩, e2, e⟩ := bind_some e
    cases r1 with
    | cons ro rr rn =>
      rename_i v0 vr
      have hv0 : σ[kk]? = some (some v0) := ro
      refine frz_all R R1 G1 rr e2 fun H2 G2 R2 s2 r2 _ => ?_
      have hlen : (v0 :: vr).length = n := by
        rw [← hl, List.length_cons, List.length_cons, r2.len]
        have q : ∀ {os : List O} {ds : List D} {δ δ' : DS}, frzL os δ = some (ds, δ') → ds.length = os.length := by
          intro os
          induction os with
          | nil => intro ds δ δ' h; cases h; rfl
          | cons o os ih =>
            intro ds δ δ' h
            obtain ⟨⟨d, δ3⟩, h1, h⟩ := bind_some h
            obtain ⟨⟨dr, δ4⟩, h2, h⟩ := bind_some h
            cases h
            rw [List.length_cons, List.length_cons, ih h2]
        rw [q e2]
      simp only at e
      cases hc : δ2[kk]? with
      | none => rw [hc] at e; cases e
      | some oc =>
        cases oc with
        | none => rw [hc] at e; cases e
        | some cc =>
          rw [hc] at e
          obtain ⟨v', hs, okc⟩ := R2.slot kk cc hc
          rw [hv0] at hs; cases hs
          show spIo X.K n F ((v0 :: vr) ++ []) H2 Q E0
          rw [List.append_nil]
          cases cc with
          | val d => cases e
          | own es =>
            obtain ⟨⟨cr, es'⟩, e3, e⟩ := bind_some e
            cases e
            obtain ⟨a, xs, rfl, q1, q2, q3⟩ := okc
            refine ⟨hlen, a, xs, vr, es, ds, _, es', rfl, q1, by rw [← hK]; exact q2, by rw [← hK]; exact r2, e3, fun v H' xs' keep hx rx cr => ?_⟩
            rw [← hK] at rx cr
            obtain ⟨g1, g2, g3⟩ := io_end (c' := .own es') R R2 G2 hc rfl hv0 keep hx ⟨a, xs', rfl, hx, rx, q3⟩ rfl cr
            exact k v H' g1 g2 g3
          | io j es =>
            obtain ⟨⟨cr, es'⟩, e3, e⟩ := bind_some e
            cases e
            obtain ⟨a, xs, rfl, q1, q2, q3⟩ := okc
            refine ⟨hlen, a, xs, vr, es, ds, _, es', rfl, q1, by rw [← hK]; exact q2, by rw [← hK]; exact r2, e3, fun v H' xs' keep hx rx cr => ?_⟩
            rw [← hK] at rx cr
            obtain ⟨g1, g2, g3⟩ := io_end (c' := .io j es') R R2 G2 hc rfl hv0 keep hx ⟨a, xs', rfl, hx, rx, q3⟩ rfl cr
            exact k v H' g1 g2 g3
  · -- a new list alone
    rename_i es
    obtain ⟨⟨cr, es'⟩, e3, e⟩ := bind_some e
    cases e
    cases r1 with
    | cons ro rr rn =>
      cases rr
      obtain ⟨a, xs, rfl, q0, q1, q2⟩ := ro
      refine .done ?_
      show spIo X.K n F ([V.ref a] ++ []) H1 Q E0
      rw [List.append_nil]
      refine ⟨hl, a, xs, [], es, [], _, es', rfl, q1, by rw [← hK]; exact q2, .nil, e3, fun v H' xs' keep hx rx cr => ?_⟩
      rw [← hK] at rx cr
      have trk : ∀ b, H1 b ≠ none → H' b ≠ none := fun b hb z => by
        by_cases e : b = a
        · subst e; rw [hx] at z; cases z
        · cases q : H1 b with
          | none => exact hb q
          | some o => rw [keep b o q e] at z; cases z
      have nOwn : ¬ Own σ _ a := fun z => R.notOwn q0 (G1.sub a z)
      have s : Stb H1 H' := ⟨fun b ys e => keep b _ e (fun z => by rw [z, q1] at e; cases e), fun b ys u e => keep b _ e (fun z => by rw [z, q1] at e; cases e), fun b c dx fs e => keep b _ e (fun z => by rw [z, q1] at e; cases e)⟩
      refine k v H' ⟨fun b o e nn => keep b o (G1.keep b o e nn) (fun z => by rw [z, q0] at e; cases e), fun b hb => trk b (G1.trk b hb), G1.sub⟩ ⟨R1.len, fun j cj hj => ?_, R1.apart, fun b u e nn => keep b u (R1.frame b u e nn) (fun z => by rw [z, R.fresh0 q0] at e; cases e), fun b hb => trk b (R1.trk b hb)⟩ (cr.back G1.trk)
      obtain ⟨w, h1, h2⟩ := R1.slot j cj hj
      refine ⟨w, h1, ?_⟩
      have ne : cj.mine = true → w ≠ .ref a := fun hmj z => nOwn ⟨j, cj, hj, hmj, by rw [← z]; exact h1⟩
      cases cj with
      | val d => exact Rep.mono s h2
      | own ds => obtain ⟨b, ys, rfl, q1, q2, q3⟩ := h2; exact ⟨b, ys, rfl, keep b _ q1 (fun z => ne rfl (by rw [z])), q2.mono s, q3⟩
      | io j' ds => obtain ⟨b, ys, rfl, q1, q2, q3⟩ := h2; exact ⟨b, ys, rfl, keep b _ q1 (fun z => ne rfl (by rw [z])), q2.mono s, q3⟩
  · cases e
end
end DL

set_option Elab.async false
set_option linter.all false
set_option maxRecDepth 100000
set_option maxHeartbeats 2000000
/-! DL4: statements, targets, loops, comprehensions, a def by its body. -/
namespace DL
open PySem PySem.Spec PyProof.Rows L2

/-! ### statements -/
section
variable {X : Cx} {B : Bx} {st : Stmt} {sts : List Stmt} {e : Expr} {pos : Pos} {f g : M Fl} {fe : M C} {t : M Bool}
theorem endOf.mono {D : Ends} {H H' : Hp} {δ : DS} {r : Fl} (s : Stb H H') (h : endOf B D H δ r) : endOf B D H' δ r := by
  cases r with
  | nx => exact fun σ' H2 s' R => h σ' H2 (s.trans s') R
  | bk => exact fun σ' H2 s' R => h σ' H2 (s.trans s') R
  | ct => exact fun σ' H2 s' R => h σ' H2 (s.trans s') R
  | rt c => exact fun v σ' H2 s' R => h v σ' H2 (s.trans s') R
def fNx : M Fl := fun δ => some (.nx, δ)
def fBk : M Fl := fun δ => some (.bk, δ)
def fCt : M Fl := fun δ => some (.ct, δ)
def fSeq (f g : M Fl) : M Fl := fun δ => (f δ).bind fun r => match r.1 with
  | .nx => g r.2
  | q => some (q, r.2)
theorem dss_nil : DSs X B [] fNx := pss_weak pss_nil fun D σ H ⟨δ, r, δ', R, e, k⟩ => by cases e; exact k σ H (Stb.refl _) R
theorem dss_cons (h : DS1 X B st f) (h2 : DSs X B sts g) : DSs X B (st :: sts) (fSeq f g) := pss_weak (pss_cons h h2) fun D σ H ⟨δ, r, δ', R, e, k⟩ => by
  obtain ⟨⟨r1, δ1⟩, e1, e⟩ := bind_some e
  refine ⟨δ, r1, δ1, R, e1, ?_⟩
  cases r1 with
  | nx => exact fun σ' H' s R' => ⟨δ1, r, δ', R', e, k.mono s⟩
  | bk => cases e; exact k
  | ct => cases e; exact k
  | rt c => cases e; exact k
theorem dss_one (h : DS1 X B st f) : DSs X B [st] f := pss_one h
theorem ds_pass : DS1 X B (.Pass pos) fNx := ps_weak ps_pass fun D σ H ⟨δ, r, δ', R, e, k⟩ => by cases e; exact k σ H (Stb.refl _) R
theorem ds_break : DS1 X B (.Break pos) fBk := ps_weak ps_break fun D σ H ⟨δ, r, δ', R, e, k⟩ => by cases e; exact k σ H (Stb.refl _) R
theorem ds_continue : DS1 X B (.Continue pos) fCt := ps_weak ps_continue fun D σ H ⟨δ, r, δ', R, e, k⟩ => by cases e; exact k σ H (Stb.refl _) R
def fNo : M Fl := fun _ => none
theorem ds_no : DS1 X B st fNo := ps_weak ps_never fun D σ H ⟨δ, r, δ', R, e, k⟩ => by cases e
theorem dss_no : DSs X B sts fNo := pss_weak pss_never fun D σ H ⟨δ, r, δ', R, e, k⟩ => by cases e
def fDrop (f : M C) : M Fl := fun δ => (f δ).bind fun r => some (.nx, r.2)
theorem ds_expr (h : DE X B e fe) (hs : swapsWith e none pos.line X.env = pure false := by rfl) : DS1 X B (.Expr e pos) (fDrop fe) := ps_weak (ps_expr h hs) fun D σ H ⟨δ, r, δ', R, e, k⟩ => by
  obtain ⟨⟨c, δ1⟩, e1, e⟩ := bind_some e
  cases e
  exact ⟨δ, c, _, R, e1, fun v H1 G1 R1 _ => k σ H1 (R.stb G1) R1⟩
def fRet (f : M C) : M Fl := fun δ => (f δ).bind fun r => some (.rt r.1, r.2)
theorem ds_ret (h : DE X B e fe) : DS1 X B (.Return (some e) pos) (fRet fe) := ps_weak (ps_ret h) fun D σ H ⟨δ, r, δ', R, e, k⟩ => by
  obtain ⟨⟨c, δ1⟩, e1, e⟩ := bind_some e
  cases e
  exact ⟨δ, c, _, R, e1, fun v H1 G1 R1 r1 => k v σ H1 (R.stb G1) R1 (r1.back R.trk)⟩
def fRetN : M Fl := fun δ => some (.rt (.val .non), δ)
theorem ds_retN : DS1 X B (.Return none pos) fRetN := ps_weak ps_retN fun D σ H ⟨δ, r, δ', R, e, k⟩ => by cases e; exact k .non σ H (Stb.refl _) R .non
theorem Rel.drop {σ : St} {H : Hp} {δ : DS} (R : Rel B σ H δ) (i : Nat) : Rel B σ H (δ.set i none) := by
  have old : ∀ (m : Nat) (cm : C), (δ.set i none)[m]? = some (some cm) → δ[m]? = some (some cm) := fun m cm h => by
    by_cases e : i = m
    · subst e
      by_cases hl : i < δ.length
      · rw [List.getElem?_set_self hl] at h; cases h
      · rw [List.getElem?_eq_none (by simpa using hl)] at h; cases h
    · rw [List.getElem?_set_ne e] at h; exact h
  exact ⟨by rw [List.length_set]; exact R.len, fun j c h => R.slot j c (old j c h), fun j k c c' a h1 h2 => R.apart j k c c' a (old j c h1) (old k c' h2), R.frame, R.trk⟩
/-- return x: a list of one's own is handed out -/
def fRetX (i : Nat) : M Fl := fun δ => match δ[i]? with
  | some (some (.val d)) => some (.rt (.val d), δ)
  | some (some (.own ds)) => some (.rt (.own ds), δ.set i none)
  | _ => none
theorem ds_retX {i : Nat} {x : Str} {p : Pos} (hN : X.N[i]? = some x := by rfl) (hv : Vis X.env.scope x := by first | exact Or.inl rfl | exact Or.inr (Or.inl rfl) | exact Or.inr (Or.inr rfl)) (hd : (x == ("__debug__" : Str)) = false := by decide)
    (hcd : (x == ("__classdict__" : Str)) = false := by decide) : DS1 X B (.Return (some (.Name x p)) pos) (fRetX i) := ps_weak (ps_ret (pe_var hN hv hd hcd)) fun D σ H ⟨δ, r, δ', R, e, k⟩ => by
  unfold fRetX at e
  cases hc : δ[i]? with
  | none => rw [hc] at e; cases e
  | some oc =>
    cases oc with
    | none => rw [hc] at e; cases e
    | some c =>
      obtain ⟨v, hs, ok⟩ := R.slot i c hc
      rw [hc] at e
      cases c with
      | val d => cases e; exact ⟨v, hs, k v σ H (Stb.refl _) R ok⟩
      | own ds =>
        cases e
        obtain ⟨a, xs, rfl, h1, h2, h3⟩ := ok
        exact ⟨_, hs, k _ σ H (Stb.refl _) (R.drop i) ⟨a, xs, rfl, h3, h1, h2⟩⟩
      | io j ds => cases e
def fIfS (t : M Bool) (f g : M Fl) : M Fl := fun δ => (t δ).bind fun r => if r.1 = true then f r.2 else g r.2
theorem ds_if {c : Expr} {a b : List Stmt} (ht : DT X B c t) (h : DSs X B a f) (h2 : DSs X B b g) : DS1 X B (.If c a b pos) (fIfS t f g) := ps_weak (ps_if ht h h2) fun D σ H ⟨δ, r, δ', R, e, k⟩ => by
  obtain ⟨⟨c1, δ1⟩, e1, e⟩ := bind_some e
  refine ⟨δ, c1, δ1, R, e1, fun H1 G1 R1 => ?_⟩
  cases c1 with
  | true => exact iteT ⟨δ1, r, δ', R1, e, k.mono (R.stb G1)⟩
  | false => exact iteF ⟨δ1, r, δ', R1, e, k.mono (R.stb G1)⟩

/-! ### names get values -/
theorem Rel.assign {σ : St} {H H1 : Hp} {δ δ1 : DS} {i : Nat} {v : V} {c : C} (R : Rel B σ H δ) (R1 : Rel B σ H1 δ1) (G : Go σ δ H δ1 H1) (h : CRes B.K H H1 v c) (hi : i < δ1.length) : Rel B (σ.set i (some v)) H1 (δ1.set i (some c)) := by
  have hiσ : i < σ.length := by rw [R1.len]; exact hi
  refine ⟨by rw [List.length_set, List.length_set]; exact R1.len, fun j cj hj => ?_, fun j k cj ck a hj hk mj mk sj sk => ?_, R1.frame, R1.trk⟩
  · by_cases e : i = j
    · subst e
      rw [List.getElem?_set_self hi] at hj; cases hj
      refine ⟨v, List.getElem?_set_self hiσ, ?_⟩
      cases c with
      | val d => exact h
      | own ds => obtain ⟨a, xs, rfl, h0, h1, h2⟩ := h; exact ⟨a, xs, rfl, h1, h2, R.fresh0 h0⟩
      | io j ds => exact h.elim
    · rw [List.getElem?_set_ne e] at hj
      obtain ⟨w, h1, h2⟩ := R1.slot j cj hj
      exact ⟨w, by rw [List.getElem?_set_ne e]; exact h1, h2⟩
  · have key : ∀ (m : Nat) (cm : C), i ≠ m → (δ1.set i (some c))[m]? = some (some cm) → cm.mine = true → (σ.set i (some v))[m]? = some (some (.ref a)) → v ≠ .ref a ∨ c.mine = false := fun m cm e h1 h2 h3 => by
      rw [List.getElem?_set_ne e] at h1 h3
      cases c with
      | val d => exact .inr rfl
      | own ds =>
        obtain ⟨b, xs, rfl, h0, _, _⟩ := h
        refine .inl fun z => ?_
        cases z
        exact R.notOwn h0 (G.sub a ⟨m, cm, h1, h2, h3⟩)
      | io j ds => exact h.elim
    by_cases e : i = j
    · by_cases e2 : i = k
      · rw [← e, ← e2]
      · subst e
        rw [List.getElem?_set_self hi] at hj; cases hj
        rw [List.getElem?_set_self hiσ] at sj; cases sj
        rcases key k ck e2 hk mk sk with z | z
        · exact absurd rfl z
        · rw [z] at mj; cases mj
    · by_cases e2 : i = k
      · subst e2
        rw [List.getElem?_set_self hi] at hk; cases hk
        rw [List.getElem?_set_self hiσ] at sk; cases sk
        rcases key j cj e hj mj sj with z | z
        · exact absurd rfl z
        · rw [z] at mk; cases mk
      · rw [List.getElem?_set_ne e] at hj sj
        rw [List.getElem?_set_ne e2] at hk sk
        exact R1.apart j k cj ck a hj hk mj mk sj sk
def fSet (i : Nat) (f : M C) : M Fl := fun δ => (f δ).bind fun r => if i < r.2.length then some (.nx, r.2.set i (some r.1)) else none
theorem set_weak {i : Nat} {te : TE} (h : ∀ σ H Q, tD B fe σ H Q → te σ H Q) : ∀ D σ H, tDS B (fSet i fe) D σ H → tAsg te (gName i) D σ H := by
  rintro D σ H ⟨δ, r, δ', R, e, k⟩
  obtain ⟨⟨c, δ1⟩, e1, e⟩ := bind_some e
  split at e
  · rename_i hi
    cases e
    exact h σ H _ ⟨δ, c, δ1, R, e1, fun v H1 G1 R1 r1 => k _ H1 (R.stb G1) (R.assign R1 G1 r1 hi)⟩
  · cases e
theorem ds_set {i : Nat} {x : Str} {pos' : Pos} (hN : X.N.Nodup) (he : DE X B e fe) (hi : X.N[i]? = some x := by rfl) (hx : Loc X.env.scope x := by first | exact Or.inl rfl | exact Or.inr rfl) (hs : swapsWith e (some (.Name x pos')) pos.line X.env = pure false := by rfl)
    (hf : X.fn x = true ∨ X.env.scope.names.lookup x = some .local := by first | exact .inl rfl | exact .inr rfl | assumption) : DS1 X B (.Assign [.Name x pos'] e pos) (fSet i fe) := ps_weak (ps_set hN hi hx he hs hf) (set_weak fun _ _ _ h => h)

/-! ### a list of one's own is changed -/
/-- x.append(e) -/
def fApp (i : Nat) (fv : M D) : M Fl := fun δ => match δ[i]? with
  | some (some (.val _)) => none
  | some (some _) => (fv δ).bind fun r => match r.2[i]? with
    | some (some (.own ds)) => if ds.length < 100000 then some (.nx, r.2.set i (some (.own (ds ++ [r.1])))) else none
    | some (some (.io j ds)) => if ds.length < 100000 then some (.nx, r.2.set i (some (.io j (ds ++ [r.1])))) else none
    | _ => none
  | _ => none
theorem sz5' {n : Nat} (h : n < 100000) : n < sizeLine := Nat.lt_of_lt_of_le h (by decide)
theorem ds_append {i : Nat} {x : Str} {p apos cpos : Pos} {fv : M D} (he : DV X B e fv) (hN : X.N[i]? = some x := by rfl) (hv : Vis X.env.scope x := by first | exact Or.inl rfl | exact Or.inr (Or.inl rfl) | exact Or.inr (Or.inr rfl)) (hd : (x == ("__debug__" : Str)) = false := by decide)
    (hcd : (x == ("__classdict__" : Str)) = false := by decide) (hbase : attributeBase (.Name x p) "append" X.env (eval (.Name x p) X.env) = eval (.Name x p) X.env := by rfl)
    (hfew : ((backTo cpos (starEach [e] X.env)).all (fun x => !x.1) && (backToKw cpos (keywordEach [] X.env)).all (fun x => x.1.isSome)
      && decide ([e].length + ([] : List Keyword).length + (if ([] : List Keyword).isEmpty then 0 else 1) < 30)) = true := by rfl)
    (hline : (apos.endLine == cpos.line) = true := by rfl) (hs : starEach [e] X.env = (false, eval e X.env) :: starEach [] X.env := by rfl) (hplain : (backTo cpos (starEach [] X.env)).any (·.1) = false := by rfl)
    (hsw : swapsWith (.Call (.Attribute (.Name x p) "append" apos) [e] [] cpos) none pos.line X.env = pure false := by rfl) :
    DS1 X B (.Expr (.Call (.Attribute (.Name x p) "append" apos) [e] [] cpos) pos) (fApp i fv) :=
  ps_weak (ps_expr (pe_bm PySem.F.plainAttrs_list PySem.F.slot_list_append PySem.F.type_list_append mt_append (pe_var hN hv hd hcd) (pa_cons he pa_nil hs) hbase hfew hline hs hplain) hsw) fun D σ H ⟨δ, r, δ', R, e, k⟩ => by
  unfold fApp at e
  have go : ∀ (c : C), δ[i]? = some (some c) → c.mine = true → (fv δ).bind (fun r => match r.2[i]? with
      | some (some (.own ds)) => if ds.length < 100000 then some (Fl.nx, r.2.set i (some (C.own (ds ++ [r.1])))) else none
      | some (some (.io j ds)) => if ds.length < 100000 then some (.nx, r.2.set i (some (.io j (ds ++ [r.1])))) else none
      | _ => none) = some (r, δ') → tDrop (tBM X.K "list" rAppend (tVar i) (tCons (tV B fv) tNil)) D σ H := by
    intro c hc hm e
    obtain ⟨v, hs, ok⟩ := R.slot i c hc
    obtain ⟨⟨d, δ1⟩, e1, e⟩ := bind_some e
    have live : ∃ a xs, v = .ref a ∧ H a = some (.lst xs) := by
      cases c with
      | val d => cases hm
      | own ds => obtain ⟨a, xs, z, h, _⟩ := ok; exact ⟨a, xs, z, h⟩
      | io j ds => obtain ⟨a, xs, z, h, _⟩ := ok; exact ⟨a, xs, z, h⟩
    obtain ⟨a, xs, rfl, ha⟩ := live
    refine ⟨_, hs, .inl ⟨rfl, xs, .of ha⟩, δ, d, δ1, R, e1, fun y H1 G1 R1 r1 => ?_⟩
    simp only at e
    cases hc1 : δ1[i]? with
    | none => rw [hc1] at e; cases e
    | some oc =>
      cases oc with
      | none => rw [hc1] at e; cases e
      | some c1 =>
        obtain ⟨v1, hs1, ok1⟩ := R1.slot i c1 hc1
        rw [hs] at hs1; cases hs1
        rw [hc1] at e
        cases c1 with
        | val d => cases e
        | own ds =>
          simp only at e
          split at e
          · rename_i hz
            cases e
            obtain ⟨b, ys, eb, h1, h2, h3⟩ := id ok1
            cases eb
            refine ⟨a, ys, y, rfl, rfl, h1, by rw [h2.len]; exact sz5' hz, ?_⟩
            have s := stb_upd (o := HO.lst (ys ++ [y])) h1
            exact k σ _ ((R.stb G1).trans s) (R1.put hc1 rfl hs ⟨a, _, rfl, upd_same, (h2.mono s).app (.cons (r1.mono s) .nil), h3⟩)
          · cases e
        | io j ds =>
          simp only at e
          split at e
          · rename_i hz
            cases e
            obtain ⟨b, ys, eb, h1, h2, h3⟩ := id ok1
            cases eb
            refine ⟨a, ys, y, rfl, rfl, h1, by rw [h2.len]; exact sz5' hz, ?_⟩
            have s := stb_upd (o := HO.lst (ys ++ [y])) h1
            exact k σ _ ((R.stb G1).trans s) (R1.put hc1 rfl hs ⟨a, _, rfl, upd_same, (h2.mono s).app (.cons (r1.mono s) .nil), h3⟩)
          · cases e
  cases hc : δ[i]? with
  | none => rw [hc] at e; cases e
  | some oc =>
    cases oc with
    | none => rw [hc] at e; cases e
    | some c =>
      rw [hc] at e
      cases c with
      | val d => cases e
      | own ds => exact go _ hc rfl e
      | io j ds => exact go _ hc rfl e
end

/-! ### targets -/
/-- a step that may turn slots -/
structure GoS (σ : St) (δ : DS) (H : Hp) (σ' : St) (δ' : DS) (H' : Hp) : Prop where
  keep : ∀ b o, H b = some o → ¬ Own σ δ b → H' b = some o
  trk : ∀ b, H b ≠ none → H' b ≠ none
  sub : ∀ a, Own σ' δ' a → Own σ δ a
theorem GoS.refl (σ : St) (δ : DS) (H : Hp) : GoS σ δ H σ δ H := ⟨fun _ _ h _ => h, fun _ h => h, fun _ h => h⟩
theorem GoS.trans {σ σ1 σ2 : St} {δ δ1 δ2 : DS} {H H1 H2 : Hp} (a : GoS σ δ H σ1 δ1 H1) (b : GoS σ1 δ1 H1 σ2 δ2 H2) : GoS σ δ H σ2 δ2 H2 :=
  ⟨fun c o h n => b.keep c o (a.keep c o h n) fun z => n (a.sub c z), fun c h => b.trk c (a.trk c h), fun c h => a.sub c (b.sub c h)⟩
theorem Go.s {σ : St} {δ δ' : DS} {H H' : Hp} (G : Go σ δ H δ' H') : GoS σ δ H σ δ' H' := ⟨G.keep, G.trk, G.sub⟩
theorem GoS.of {σ : St} {δ : DS} {H H' : Hp} (s : Same H H') : GoS σ δ H σ δ H' := (Go.of s).s
theorem Rel.stbS {B : Bx} {σ σ' : St} {δ δ' : DS} {H H' : Hp} (R : Rel B σ H δ) (G : GoS σ δ H σ' δ' H') : Stb H H' :=
  R.stb (δ' := δ) ⟨G.keep, G.trk, fun _ h => h⟩
/-- the slots outside vs are as they were -/
def Out (vs : List Nat) (σ σ' : St) : Prop := σ'.length = σ.length ∧ ∀ j, j ∉ vs → σ'[j]? = σ[j]?
def tG (B : Bx) (vs : List Nat) (ga : D → M Unit) : TG := fun v σ H Q => ∃ d δ δ', Rel B σ H δ ∧ Rep B.K H v d ∧ ga d δ = some ((), δ') ∧ ∀ σ' H', Out vs σ σ' → GoS σ δ H σ' δ' H' → Rel B σ' H' δ' → Q σ' H'
abbrev DG (X : Cx) (B : Bx) (tg : Expr) (vs : List Nat) (ga : D → M Unit) : Prop := PG X tg (tG B vs ga)
def tGs (B : Bx) (vs : List Nat) (ga : List D → M Unit) : TGs := fun vl σ H Q => ∃ ds δ δ', Rel B σ H δ ∧ RepAll B.K H vl ds ∧ ga ds δ = some ((), δ') ∧ ∀ σ' H', Out vs σ σ' → GoS σ δ H σ' δ' H' → Rel B σ' H' δ' → Q σ' H'
abbrev DGs (X : Cx) (B : Bx) (tgs : List Expr) (vs : List Nat) (ga : List D → M Unit) : Prop := PGs X tgs (tGs B vs ga)
section
variable {X : Cx} {B : Bx} {e : Expr} {es : List Expr} {pos : Pos}
def gaName (i : Nat) : D → M Unit := fun d δ => if i < δ.length then some ((), δ.set i (some (.val d))) else none
theorem own_set {σ : St} {δ : DS} {i : Nat} {v : V} {d : D} {a : Addr} (h : Own (σ.set i (some v)) (δ.set i (some (.val d))) a) : Own σ δ a := by
  obtain ⟨j, c, h1, h2, h3⟩ := h
  by_cases e : i = j
  · subst e
    by_cases hl : i < δ.length
    · rw [List.getElem?_set_self hl] at h1; cases h1; cases h2
    · rw [List.getElem?_eq_none (by simpa using hl)] at h1; cases h1
  · rw [List.getElem?_set_ne e] at h1 h3
    exact ⟨j, c, h1, h2, h3⟩
theorem dg_name {i : Nat} {x : Str} {vs : List Nat} (hN : X.N.Nodup) (hvs : i ∈ vs := by simp) (hi : X.N[i]? = some x := by rfl) (hx : Loc X.env.scope x := by first | exact Or.inl rfl | exact Or.inr rfl)
    (hf : X.fn x = true ∨ X.env.scope.names.lookup x = some .local := by first | exact .inl rfl | exact .inr rfl | assumption) : DG X B (.Name x pos) vs (gaName i) := ⟨fun pins s σ H v u Q I r ⟨d, δ, δ', R, rd, e, k⟩ => by
  refine (pg_name hN hi hx hf).run pins s σ H v u Q I r ?_
  unfold gaName at e
  split at e
  · rename_i hl
    cases e
    refine k _ H ⟨by rw [List.length_set], fun j hj => List.getElem?_set_ne (fun z => hj (by rw [← z]; exact hvs))⟩ ⟨fun _ _ h _ => h, fun _ h => h, fun a h => own_set h⟩ (R.assign R (Go.refl _ _ _) (c := .val d) rd hl)
  · cases e⟩
def gsNil : List D → M Unit := fun ds δ => match ds with
  | [] => some ((), δ)
  | _ => none
def gsCons (ga : D → M Unit) (gs : List D → M Unit) : List D → M Unit := fun ds δ => match ds with
  | d :: r => (ga d δ).bind fun q => gs r q.2
  | [] => none
variable {vs : List Nat} {ga : D → M Unit} {gs : List D → M Unit}
theorem Out.refl {vs : List Nat} {σ : St} : Out vs σ σ := ⟨rfl, fun _ _ => rfl⟩
theorem Out.trans {vs : List Nat} {σ σ1 σ2 : St} (a : Out vs σ σ1) (b : Out vs σ1 σ2) : Out vs σ σ2 := ⟨b.1.trans a.1, fun j h => (b.2 j h).trans (a.2 j h)⟩
theorem dgs_nil : DGs X B [] vs gsNil := ⟨fun pins s σ H vl us Q I r ⟨ds, δ, δ', R, rd, e, k⟩ => by
  refine pgs_nil.run pins s σ H vl us Q I r ?_
  cases rd with
  | nil => cases e; exact ⟨rfl, k σ H .refl (GoS.refl _ _ _) R⟩
  | cons a b => cases e⟩
theorem dgs_cons (h : DG X B e vs ga) (h2 : DGs X B es vs gs) (hs : (assignEach (e :: es) X.env).map (·.2) = assign e X.env :: (assignEach es X.env).map (·.2) := by rfl) : DGs X B (e :: es) vs (gsCons ga gs) := ⟨fun pins s σ H vl us Q I r ⟨ds, δ, δ', R, rd, e, k⟩ => by
  refine (pgs_cons h h2 hs).run pins s σ H vl us Q I r ?_
  cases rd with
  | nil => cases e
  | cons a b =>
    obtain ⟨⟨_, δ1⟩, e1, e⟩ := bind_some e
    exact ⟨_, _, rfl, _, δ, δ1, R, a, e1, fun σ1 H1 o1 G1 R1 => ⟨_, δ1, δ', R1, b.mono (R.stbS G1), e, fun σ2 H2 o2 G2 R2 => k σ2 H2 (o1.trans o2) (G1.trans G2) R2⟩⟩⟩
def gaTup (n : Nat) (gs : List D → M Unit) : D → M Unit := fun d δ => match d with
  | .tup ds => if ds.length = n then gs ds δ else none
  | _ => none
theorem dg_tup {k n : Nat} (hc : X.calm = true) (h : DGs X B es vs gs) (hn : (assignEach es X.env).length = n := by rfl) (hst : (assignEach es X.env).findIdx? (·.1) = none := by rfl) (hK : B.K = X.K := by rfl) : DG X B (.Tuple es k pos) vs (gaTup n gs) := ⟨fun pins s σ H v u Q I r ⟨d, δ, δ', R, rd, e, k⟩ => by
  refine (pg_tup hc h hn hst).run pins s σ H v u Q I r ?_
  cases d with
  | tup ds =>
    unfold gaTup at e
    simp only at e
    split at e
    · rename_i hl
      cases rd with
      | tup hq ha => exact ⟨_, _, rfl, by rw [← hK]; exact hq, by rw [ha.len]; exact hl, ds, δ, δ', R, ha, e, k⟩
    · cases e
  | _ => cases e⟩
/-- x[i] = .. , x a list of one's own -/
def gaSub (k : Nat) (fi : M C) : D → M Unit := fun d δ => match δ[k]? with
  | some (some _) => (fi δ).bind fun r => match r.1 with
    | .val (.int n) => match r.2[k]? with
      | some (some (.own ds)) => (ixN ds.length n).bind fun j => some ((), r.2.set k (some (.own (ds.set j d))))
      | some (some (.io j ds)) => (ixN ds.length n).bind fun m => some ((), r.2.set k (some (.io j (ds.set m d))))
      | _ => none
    | _ => none
  | _ => none
theorem dg_sub {k : Nat} {x : Str} {p : Pos} {i : Expr} {fi : M C} (hi : DE X B i fi) (hN : X.N[k]? = some x := by rfl) (hv : Vis X.env.scope x := by first | exact Or.inl rfl | exact Or.inr (Or.inl rfl) | exact Or.inr (Or.inr rfl)) (hd : (x == ("__debug__" : Str)) = false := by decide)
    (hcd : (x == ("__classdict__" : Str)) = false := by decide)
    (ha : ∀ v, assign (.Subscript (.Name x p) i pos) X.env v = (do
      let ov ← holding [v] (eval (.Name x p) X.env)
      let iv ← holding [v, ov] (eval i X.env)
      standAt pos
      holding [v, ov, iv] (setItem ov iv v)
      release [v, ov, iv] []) := by intro _; rfl) : DG X B (.Subscript (.Name x p) i pos) vs (gaSub k fi) := ⟨fun pins s σ H v u Q I r ⟨d, δ, δ', R, rd, e, kk⟩ => by
  refine (pg_sub (pe_var hN hv hd hcd) hi set_list ha).run pins s σ H v u Q I r ?_
  unfold gaSub at e
  cases hc0 : δ[k]? with
  | none => rw [hc0] at e; cases e
  | some oc =>
  cases oc with
  | none => rw [hc0] at e; cases e
  | some c0 =>
  obtain ⟨w, hw, _⟩ := R.slot k c0 hc0
  rw [hc0] at e
  obtain ⟨⟨ci, δ1⟩, e1, e⟩ := bind_some e
  refine ⟨w, hw, δ, ci, δ1, R, e1, fun y H1 G1 R1 r1 => ?_⟩
  cases ci with
  | val di =>
    cases di with
    | int n =>
      cases r1
      simp only at e
      cases hc1 : δ1[k]? with
      | none => rw [hc1] at e; cases e
      | some oc =>
        cases oc with
        | none => rw [hc1] at e; cases e
        | some c1 =>
          obtain ⟨v1, hs1, ok1⟩ := R1.slot k c1 hc1
          rw [hw] at hs1; cases hs1
          rw [hc1] at e
          cases c1 with
          | val d => cases e
          | own ds =>
            obtain ⟨j, hj, e⟩ := bind_some e
            cases e
            obtain ⟨b, ys, rfl, h1, h2, h3⟩ := id ok1
            refine ⟨b, ys, n, j, rfl, rfl, h1, by rw [h2.len]; exact hj, ?_⟩
            have s := stb_upd (o := HO.lst (ys.set j v)) h1
            exact kk σ _ .refl (G1.trans (Go.put hc1 rfl hw)).s (R1.put hc1 rfl hw ⟨b, _, rfl, upd_same, (h2.mono s).set ((rd.mono (R.stb G1)).mono s) j, h3⟩)
          | io jj ds =>
            obtain ⟨j, hj, e⟩ := bind_some e
            cases e
            obtain ⟨b, ys, rfl, h1, h2, h3⟩ := id ok1
            refine ⟨b, ys, n, j, rfl, rfl, h1, by rw [h2.len]; exact hj, ?_⟩
            have s := stb_upd (o := HO.lst (ys.set j v)) h1
            exact kk σ _ .refl (G1.trans (Go.put hc1 rfl hw)).s (R1.put hc1 rfl hw ⟨b, _, rfl, upd_same, (h2.mono s).set ((rd.mono (R.stb G1)).mono s) j, h3⟩)
    | _ => cases e
  | _ => cases e⟩
end
end DL

set_option Elab.async false
set_option linter.all false
set_option maxRecDepth 100000
set_option maxHeartbeats 2000000
/-! DL5: what is walked, for, while, list comprehensions. -/
namespace DL
open PySem PySem.Spec PyProof.Rows L2

/-! ### what is walked -/
structure IterOk (K : PySem.W.Frag) (J : It) (ds : List D) (H1 : Hp) : Prop where
  ex : ∃ inv : Hp → Prop, inv H1 ∧ (∀ H H', Stb H H' → inv H → inv H') ∧ (∀ i H, i < ds.length → inv H → J.go i H) ∧ (∀ H, inv H → J.stop ds.length H) ∧
    ∀ i H x H', i < ds.length → inv H → J.yld i H x H' → Same H H' ∧ ∃ d, ds[i]? = some d ∧ Rep K H' x d
def tI (B : Bx) (f : M (List D)) : TI := fun σ H R => ∃ δ ds δ', Rel B σ H δ ∧ f δ = some (ds, δ') ∧ ∀ J H', Go σ δ H δ' H' → Rel B σ H' δ' → IterOk B.K J ds H' → R J H'
abbrev DI (X : Cx) (B : Bx) (tg iter : Expr) (f : M (List D)) : Prop := PI X tg iter (tI B f)
def signs (z : Str) : List D := z.cps.toList.map fun c => .str ⟨#[c]⟩
def fItems (f : M D) : M (List D) := fun δ => (f δ).bind fun r => match r.1 with
  | .lst ds => some (ds, r.2)
  | .tup ds => some (ds, r.2)
  | .str z => some (signs z, r.2)
  | _ => none
section
variable {X : Cx} {B : Bx} {tg e : Expr} {es : List Expr} {pos : Pos} {fv : M D} {fr : M (List O)}
theorem di_val (h : DV X B e fv) (hK : B.K = X.K := by rfl) : DI X B tg e (fItems fv) := ⟨fun pins s σ H R I ⟨δ, ds, δ', Rr, e, k⟩ => by
  obtain ⟨⟨d, δ1⟩, e1, e⟩ := bind_some e
  cases d with
  | lst ds' =>
    cases e
    refine (pi_list h).run pins s σ H R I ⟨δ, _, _, Rr, e1, fun v H1 G1 R1 r1 => ?_⟩
    cases r1 with
    | lst hq ha =>
      rename_i a xs
      have w := walk_list (K := X.K) (a := a) (xs := xs)
      have hl := ha.len
      refine ⟨a, rfl, ⟨xs, by rw [← hK]; exact hq.sq⟩, k _ H1 G1 R1 ⟨fun H => SqF B.K H a xs ∧ RepAll B.K H xs ds, ⟨hq, ha⟩, fun H H' s q => ⟨q.1.mono s, q.2.mono s⟩, fun i H hi q => w.goes i H (by rw [hl]; exact hi) (by rw [← hK]; exact q.1.sq), fun H q => by rw [← hl]; exact w.stops H (by rw [← hK]; exact q.1.sq), fun i H x H' hi q y => ?_⟩⟩
      obtain ⟨e1, e2⟩ := w.yields i H x H' (by rw [hl]; exact hi) (by rw [← hK]; exact q.1.sq) y
      subst e1
      exact ⟨Same.refl _, q.2.getV e2⟩
  | tup ds' =>
    cases e
    refine (pi_tup h).run pins s σ H R I ⟨δ, _, _, Rr, e1, fun v H1 G1 R1 r1 => ?_⟩
    cases r1 with
    | tup hq ha =>
      rename_i a xs
      have w := walk_tup (K := X.K) (a := a) (xs := xs)
      have hl := ha.len
      refine ⟨a, rfl, ⟨xs, by rw [← hK]; exact hq⟩, k _ H1 G1 R1 ⟨fun H => SqT B.K H a xs ∧ RepAll B.K H xs ds, ⟨hq, ha⟩, fun H H' s q => ⟨sqT_mono s q.1, q.2.mono s⟩, fun i H hi q => w.goes i H (by rw [hl]; exact hi) (by rw [← hK]; exact q.1), fun H q => by rw [← hl]; exact w.stops H (by rw [← hK]; exact q.1), fun i H x H' hi q y => ?_⟩⟩
      obtain ⟨e1, e2⟩ := w.yields i H x H' (by rw [hl]; exact hi) (by rw [← hK]; exact q.1) y
      subst e1
      exact ⟨Same.refl _, q.2.getV e2⟩
  | str z =>
    cases e
    refine (pi_str h).run pins s σ H R I ⟨δ, _, _, Rr, e1, fun v H1 G1 R1 r1 => ?_⟩
    cases r1
    have w := walk_str (z := z)
    have hl : (signs z).length = z.cps.size := by simp [signs]
    refine ⟨z, rfl, k _ H1 G1 R1 ⟨fun _ => True, trivial, fun _ _ _ _ => trivial, fun i H hi q => w.goes i H (by rw [← hl]; exact hi) q, fun H q => by rw [hl]; exact w.stops H q, fun i H x H' hi q y => ?_⟩⟩
    obtain ⟨e1, c, e2, e3⟩ := w.yields i H x H' (by rw [← hl]; exact hi) q y
    subst e1; subst e3
    exact ⟨Same.refl _, .str ⟨#[c]⟩, by simp [signs, e2], .str _⟩
  | _ => cases e⟩
def fRange1 (f : M (List O)) : M (List D) := fun δ => (f δ).bind fun r => (toDs r.2 r.1).bind fun ds => match ds with
  | [.int j] => if -100000 ≤ j ∧ j ≤ 100000 then some ((List.range j.toNat).map fun (i : Nat) => D.int i, r.2) else none
  | _ => none
theorem di_range1 {a : Expr} {p : Pos} (hm : X.mg "range" = none) (ha : DA X B [a] fr) (hg : Gl X "range" := by rfl) (hs : starEach [a] X.env = [(false, eval a X.env)] := by rfl) : DI X B tg (.Call (.Name "range" p) [a] [] pos) (fRange1 fr) := ⟨fun pins s σ H R I ⟨δ, ds, δ', Rr, e, k⟩ => by
  obtain ⟨⟨os, δ1⟩, e1, e⟩ := bind_some e
  obtain ⟨ds', e2, e⟩ := bind_some e
  split at e
  · rename_i j
    split at e
    · rename_i hj
      cases e
      refine (pi_range1 hg hm ha hs).run pins s σ H R I ⟨δ, os, _, Rr, e1, fun vs H1 G1 R1 r1 => ?_⟩
      have pk := r1.pk R1 e2
      cases pk with
      | cons p1 p2 =>
        cases p2
        refine ⟨j, by rw [p1.int], by omega, by omega, k _ H1 G1 R1 ⟨fun _ => True, trivial, fun _ _ _ _ => trivial, ?_, ?_, ?_⟩⟩
        · intro i H hi _
          have w := walk_range (lo := 0) (n := j.toNat)
          exact w.goes i H (by simpa using hi) trivial
        · intro H _
          have w := walk_range (lo := 0) (n := j.toNat)
          simpa using w.stops H trivial
        · intro i H x H' hi _ y
          have w := walk_range (lo := 0) (n := j.toNat)
          have hi' : i < j.toNat := by simpa using hi
          obtain ⟨h1, h2⟩ := w.yields i H x H' hi' trivial y
          subst h1; subst h2
          refine ⟨Same.refl _, .int i, by simp [hi'], ?_⟩
          show Rep B.K H' (V.int (0 + (i : Int))) (D.int i)
          rw [Int.zero_add]
          exact .int _
    · cases e
  · cases e⟩
def fRange2 (f : M (List O)) : M (List D) := fun δ => (f δ).bind fun r => (toDs r.2 r.1).bind fun ds => match ds with
  | [.int i, .int j] => if -100000 ≤ i ∧ i ≤ 100000 ∧ -100000 ≤ j ∧ j ≤ 100000 then some ((List.range (j - i).toNat).map fun (m : Nat) => D.int (i + m), r.2) else none
  | _ => none
theorem di_range2 {a b : Expr} {p : Pos} (hm : X.mg "range" = none) (ha : DA X B [a, b] fr) (hg : Gl X "range" := by rfl) (hs : starEach [a, b] X.env = [(false, eval a X.env), (false, eval b X.env)] := by rfl) (hs2 : starEach [b] X.env = [(false, eval b X.env)] := by rfl) : DI X B tg (.Call (.Name "range" p) [a, b] [] pos) (fRange2 fr) := ⟨fun pins s σ H R I ⟨δ, ds, δ', Rr, e, k⟩ => by
  obtain ⟨⟨os, δ1⟩, e1, e⟩ := bind_some e
  obtain ⟨ds', e2, e⟩ := bind_some e
  split at e
  · rename_i i j
    split at e
    · rename_i hj
      cases e
      refine (pi_range2 hg hm ha hs hs2).run pins s σ H R I ⟨δ, os, _, Rr, e1, fun vs H1 G1 R1 r1 => ?_⟩
      have pk := r1.pk R1 e2
      cases pk with
      | cons p1 p2 =>
        cases p2 with
        | cons p2 p3 =>
          cases p3
          refine ⟨i, j, by rw [p1.int, p2.int], ⟨by omega, by omega, by omega, by omega⟩, k _ H1 G1 R1 ⟨fun _ => True, trivial, fun _ _ _ _ => trivial, ?_, ?_, ?_⟩⟩
          · intro m H hi _
            have w := walk_range (lo := i) (n := (j - i).toNat)
            exact w.goes m H (by simpa using hi) trivial
          · intro H _
            have w := walk_range (lo := i) (n := (j - i).toNat)
            simpa using w.stops H trivial
          · intro m H x H' hi _ y
            have w := walk_range (lo := i) (n := (j - i).toNat)
            have hi' : m < (j - i).toNat := by simpa using hi
            obtain ⟨h1, h2⟩ := w.yields m H x H' hi' trivial y
            subst h1; subst h2
            exact ⟨Same.refl _, .int (i + m), by simp [hi'], .int _⟩
    · cases e
  · cases e⟩
end

/-! ### for -/
/-- behind a turn -/
def turnEnd (k : M Fl) (r : Fl × DS) : Option (Fl × DS) := match r.1 with
  | .nx => k r.2
  | .ct => k r.2
  | .bk => some (.nx, r.2)
  | .rt c => some (.rt c, r.2)
def fLoop (ga : D → M Unit) (fb : M Fl) : List D → M Fl
  | [] => fun δ => some (.nx, δ)
  | d :: ds => fun δ => (ga d δ).bind fun q => (fb q.2).bind (turnEnd (fLoop ga fb ds))
def fFor (fi : M (List D)) (ga : D → M Unit) (fb : M Fl) : M Fl := fun δ => (fi δ).bind fun r => fLoop ga fb r.1 r.2
section
variable {X : Cx} {B : Bx} {tg iter e : Expr} {pos : Pos} {fi : M (List D)} {ga : D → M Unit} {fb : M Fl} {vs : List Nat}
theorem ds_for {body : List Stmt} (hp : PassesOwn (model X.prog X.w) X.A X.env X.xe) (hc : X.calm = true) (hi : DI X B tg iter fi) (hg : DG X B tg vs ga) (hb : DSs X B body fb) (hs : ∀ x, foldedSetIterable iter X.env x = pure x := by intro _; rfl) :
    DS1 X B (.For tg iter body [] pos) (fFor fi ga fb) := ps_weak (ps_for hp hc hi hg hb hs) fun D σ H ⟨δ, r, δ', R, e, k⟩ => by
  obtain ⟨⟨ds, δ1⟩, e1, e⟩ := bind_some e
  refine ⟨δ, ds, δ1, R, e1, fun J H1 G1 R1 ok => ?_⟩
  obtain ⟨inv, i0, iS, iG, iE, iY⟩ := ok.ex
  have k1 : endOf B D H1 δ' r := k.mono (R.stb G1)
  refine ⟨fun i m σ H => m = ds.length - i ∧ i ≤ ds.length ∧ inv H ∧ Stb H1 H ∧ ∃ δ, Rel B σ H δ ∧ fLoop ga fb (ds.drop i) δ = some (r, δ'), ⟨_, rfl, Nat.zero_le _, i0, Stb.refl _, δ1, R1, e⟩, ?_⟩
  rintro i m σ2 H2 ⟨rfl, hi2, v2, s2, δ2, R2, e2⟩
  by_cases hlt : i < ds.length
  · rw [List.drop_eq_getElem_cons hlt] at e2
    obtain ⟨⟨_, δ3⟩, e3, e2⟩ := bind_some e2
    obtain ⟨⟨r4, δ4⟩, e4, e2⟩ := bind_some e2
    refine .inr ⟨iG i H2 hlt v2, fun σ' H' => inv H' ∧ Stb H1 H' ∧ ∃ δ, Rel B σ' H' δ ∧ fLoop ga fb (ds.drop (i + 1)) δ = some (r, δ'), fun σ' H' ⟨a, b, c⟩ => ⟨_, by omega, rfl, hlt, a, b, c⟩, fun x H3 y => ?_⟩
    obtain ⟨sm, d, hd, rd⟩ := iY i H2 x H3 hlt v2 y
    rw [List.getElem?_eq_getElem hlt] at hd; cases hd
    have s3 : Stb H2 H3 := Stb.of sm
    refine ⟨_, δ2, δ3, R2.same sm, rd, e3, fun σ4 H4 _ G4 R4 => ⟨δ3, r4, δ4, R4, e4, ?_⟩⟩
    have s4 : Stb H3 H4 := (R2.same sm).stbS G4
    have s14 := (s2.trans s3).trans s4
    have v4 : inv H4 := iS _ _ s4 (iS _ _ s3 v2)
    cases r4 with
    | nx => exact fun σ5 H5 s5 R5 => ⟨iS _ _ s5 v4, s14.trans s5, δ4, R5, e2⟩
    | ct => exact fun σ5 H5 s5 R5 => ⟨iS _ _ s5 v4, s14.trans s5, δ4, R5, e2⟩
    | bk => cases e2; exact fun σ5 H5 s5 R5 => k1 σ5 H5 (s14.trans s5) R5
    | rt c => cases e2; exact fun v σ5 H5 s5 R5 => k1 v σ5 H5 (s14.trans s5) R5
  · have hi3 : i = ds.length := by omega
    subst hi3
    rw [List.drop_length] at e2
    cases e2
    exact .inl ⟨iE H2 v2, k1 σ2 H2 s2 R2⟩

/-! ### while -/
def fTurns (t : M Bool) (fb : M Fl) : Nat → M Fl
  | 0 => fun _ => none
  | n + 1 => fun δ => (t δ).bind fun c => if c.1 = true then (fb c.2).bind (turnEnd (fTurns t fb n)) else some (.nx, c.2)
open Classical in
noncomputable def fWhile (t : M Bool) (fb : M Fl) : M Fl := fun δ => if h : ∃ n r, fTurns t fb n δ = some r then some (Classical.choose (Classical.choose_spec h)) else none
theorem turns_mono {t : M Bool} {fb : M Fl} : ∀ {n m : Nat} {δ : DS} {r : Fl × DS}, n ≤ m → fTurns t fb n δ = some r → fTurns t fb m δ = some r
  | 0, _, _, _, _, h => by cases h
  | n + 1, 0, _, _, h, _ => by omega
  | n + 1, m + 1, δ, r, hm, h => by
    obtain ⟨⟨c, δ1⟩, e1, h⟩ := bind_some h
    show (t δ).bind _ = some r
    rw [e1]
    simp only [Option.bind_some] at h ⊢
    cases c with
    | false => exact h
    | true =>
      simp only [if_true] at h ⊢
      obtain ⟨⟨q, δ2⟩, e2, h⟩ := bind_some h
      rw [e2]
      simp only [Option.bind_some] at h ⊢
      cases q with
      | nx => exact turns_mono (n := n) (m := m) (by omega) h
      | ct => exact turns_mono (n := n) (m := m) (by omega) h
      | bk => exact h
      | rt c => exact h
theorem fWhile_of {t : M Bool} {fb : M Fl} {n : Nat} {δ : DS} {r : Fl × DS} (h : fTurns t fb n δ = some r) : fWhile t fb δ = some r := by
  have hx : ∃ n r, fTurns t fb n δ = some r := ⟨n, r, h⟩
  unfold fWhile
  rw [dif_pos hx]
  have h2 := Classical.choose_spec (Classical.choose_spec hx)
  have a := turns_mono (Nat.le_max_left n (Classical.choose hx)) h
  have b := turns_mono (Nat.le_max_right n (Classical.choose hx)) h2
  rw [a] at b
  exact b.symm
theorem of_fWhile {t : M Bool} {fb : M Fl} {δ : DS} {r : Fl × DS} (h : fWhile t fb δ = some r) : ∃ n, fTurns t fb n δ = some r := by
  unfold fWhile at h
  by_cases hx : ∃ n r, fTurns t fb n δ = some r
  · rw [dif_pos hx] at h
    have h2 := Classical.choose_spec (Classical.choose_spec hx)
    rw [Option.some.inj h] at h2
    exact ⟨_, h2⟩
  · rw [dif_neg hx] at h; cases h
/-- one turn -/
theorem fWhile_eq (t : M Bool) (fb : M Fl) (δ : DS) : fWhile t fb δ = (t δ).bind fun c => if c.1 = true then (fb c.2).bind (turnEnd (fWhile t fb)) else some (.nx, c.2) := by
  have up : ∀ r, (t δ).bind (fun c => if c.1 = true then (fb c.2).bind (turnEnd (fWhile t fb)) else some (.nx, c.2)) = some r → fWhile t fb δ = some r := fun r h => by
    obtain ⟨⟨c, δ1⟩, e1, h⟩ := bind_some h
    cases c with
    | false => exact fWhile_of (n := 1) (by show (t δ).bind _ = some r; rw [e1]; exact h)
    | true =>
      simp only [if_true] at h
      obtain ⟨⟨q, δ2⟩, e2, h⟩ := bind_some h
      have go : ∀ n, fTurns t fb (n + 1) δ = turnEnd (fTurns t fb n) (q, δ2) := fun n => by
        show (t δ).bind _ = _
        rw [e1]
        simp only [Option.bind_some, if_true]
        rw [e2]
        rfl
      cases q with
      | nx => obtain ⟨n, hn⟩ := of_fWhile h; exact fWhile_of (n := n + 1) (by rw [go]; exact hn)
      | ct => obtain ⟨n, hn⟩ := of_fWhile h; exact fWhile_of (n := n + 1) (by rw [go]; exact hn)
      | bk => exact fWhile_of (n := 1) (by rw [go]; exact h)
      | rt c => exact fWhile_of (n := 1) (by rw [go]; exact h)
  have dn : ∀ r, fWhile t fb δ = some r → (t δ).bind (fun c => if c.1 = true then (fb c.2).bind (turnEnd (fWhile t fb)) else some (.nx, c.2)) = some r := fun r h => by
    obtain ⟨n, hn⟩ := of_fWhile h
    cases n with
    | zero => cases hn
    | succ n =>
      obtain ⟨⟨c, δ1⟩, e1, h⟩ := bind_some hn
      rw [e1]
      cases c with
      | false => exact h
      | true =>
        simp only [if_true, Option.bind_some] at h ⊢
        obtain ⟨⟨q, δ2⟩, e2, h⟩ := bind_some h
        rw [e2]
        cases q with
        | nx => exact fWhile_of h
        | ct => exact fWhile_of h
        | bk => exact h
        | rt c => exact h
  cases h : fWhile t fb δ with
  | some r => exact (dn r h).symm
  | none =>
    cases h2 : (t δ).bind (fun c => if c.1 = true then (fb c.2).bind (turnEnd (fWhile t fb)) else some (.nx, c.2)) with
    | none => rfl
    | some r => rw [up r h2] at h; cases h
theorem ds_while {c : Expr} {body : List Stmt} {t : M Bool} (hp : PassesOwn (model X.prog X.w) X.A X.env X.xe) (ht : DT X B c t) (hb : DSs X B body fb) : DS1 X B (.While c body [] pos) (fWhile t fb) := ps_weak (ps_while hp ht hb) fun D σ H ⟨δ, r, δ', R, e, k⟩ => by
  obtain ⟨n, hn⟩ := of_fWhile e
  refine ⟨fun m σ H2 => Stb H H2 ∧ ∃ δ, Rel B σ H2 δ ∧ fTurns t fb m δ = some (r, δ'), ⟨n, Stb.refl _, δ, R, hn⟩, ?_⟩
  rintro m σ2 H2 ⟨s2, δ2, R2, e2⟩
  cases m with
  | zero => cases e2
  | succ m =>
    obtain ⟨⟨c1, δ3⟩, e3, e2⟩ := bind_some e2
    refine ⟨δ2, c1, δ3, R2, e3, fun H3 G3 R3 => ?_⟩
    have s3 := s2.trans (R2.stb G3)
    cases c1 with
    | false => cases e2; exact iteF (k σ2 H3 s3 R3)
    | true =>
      simp only [if_true] at e2
      obtain ⟨⟨r4, δ4⟩, e4, e2⟩ := bind_some e2
      refine iteT ⟨fun σ' H' => Stb H H' ∧ ∃ δ, Rel B σ' H' δ ∧ fTurns t fb m δ = some (r, δ'), fun σ' H' q => ⟨m, by omega, q⟩, δ3, r4, δ4, R3, e4, ?_⟩
      cases r4 with
      | nx => exact fun σ5 H5 s5 R5 => ⟨s3.trans s5, δ4, R5, e2⟩
      | ct => exact fun σ5 H5 s5 R5 => ⟨s3.trans s5, δ4, R5, e2⟩
      | bk => cases e2; exact fun σ5 H5 s5 R5 => k σ5 H5 (s3.trans s5) R5
      | rt c => cases e2; exact fun v σ5 H5 s5 R5 => k v σ5 H5 (s3.trans s5) R5
end

/-! ### list comprehensions -/
@[simp] def wipeL {α : Type} (l : List (Option α)) : List Nat → List (Option α)
  | [] => l
  | v :: vs => (wipeL l vs).set v none
theorem wipe_eq (σ : St) : ∀ vs, wipe σ vs = wipeL σ vs
  | [] => rfl
  | v :: vs => by show (wipe σ vs).set v none = (wipeL σ vs).set v none; rw [wipe_eq σ vs]
section
variable {α : Type} {l l' : List (Option α)} {vs : List Nat} {j : Nat}
theorem wipeL_length : ∀ {vs : List Nat}, (wipeL l vs).length = l.length
  | [] => rfl
  | v :: vs => by unfold wipeL; rw [List.length_set, wipeL_length]
theorem wipeL_out : ∀ {vs : List Nat}, j ∉ vs → (wipeL l vs)[j]? = l[j]?
  | [], _ => rfl
  | v :: vs, h => by
    unfold wipeL
    rw [List.getElem?_set_ne (fun z => h (by rw [z]; exact List.mem_cons_self))]
    exact wipeL_out fun z => h (List.mem_cons_of_mem _ z)
theorem wipeL_in : ∀ {vs : List Nat}, j ∈ vs → (wipeL l vs)[j]? = if j < l.length then some none else none
  | [], h => by cases h
  | v :: vs, h => by
    unfold wipeL
    by_cases e : v = j
    · subst e
      by_cases hl : v < l.length
      · rw [List.getElem?_set_self (by rw [wipeL_length]; exact hl), if_pos hl]
      · rw [if_neg hl, List.getElem?_eq_none (by rw [List.length_set, wipeL_length]; omega)]
    · rw [List.getElem?_set_ne e]
      exact wipeL_in ((List.mem_cons.mp h).resolve_left fun z => e z.symm)
theorem wipeL_some {x : α} (h : (wipeL l vs)[j]? = some (some x)) : l[j]? = some (some x) ∧ j ∉ vs := by
  by_cases e : j ∈ vs
  · rw [wipeL_in e] at h
    split at h <;> cases h
  · rw [wipeL_out e] at h
    exact ⟨h, e⟩
theorem wipeL_wipeL (hl : l'.length = l.length) (h : ∀ j, j ∉ vs → l'[j]? = (wipeL l vs)[j]?) : wipeL l' vs = wipeL l vs := by
  refine List.ext_getElem? fun j => ?_
  by_cases e : j ∈ vs
  · rw [wipeL_in e, wipeL_in e, hl]
  · rw [wipeL_out e, h j e]
end
@[simp] def putBack (δ1 : DS) (δ : DS) : List Nat → DS
  | [] => δ
  | v :: vs => (putBack δ1 δ vs).set v (δ1[v]?.getD none)
theorem putBack_length {δ1 δ : DS} : ∀ {vs : List Nat}, (putBack δ1 δ vs).length = δ.length
  | [] => rfl
  | v :: vs => by unfold putBack; rw [List.length_set, putBack_length]
theorem putBack_out {δ1 δ : DS} {j : Nat} : ∀ {vs : List Nat}, j ∉ vs → (putBack δ1 δ vs)[j]? = δ[j]?
  | [], _ => rfl
  | v :: vs, h => by
    unfold putBack
    rw [List.getElem?_set_ne (fun z => h (by rw [z]; exact List.mem_cons_self))]
    exact putBack_out fun z => h (List.mem_cons_of_mem _ z)
theorem putBack_in {δ1 δ : DS} {j : Nat} (hl : δ1.length = δ.length) : ∀ {vs : List Nat}, j ∈ vs → (putBack δ1 δ vs)[j]? = δ1[j]?
  | [], h => by cases h
  | v :: vs, h => by
    unfold putBack
    by_cases e : v = j
    · subst e
      by_cases hv : v < δ1.length
      · rw [List.getElem?_set_self (by rw [putBack_length, ← hl]; exact hv), List.getElem?_eq_getElem hv]; rfl
      · rw [List.getElem?_eq_none (by rw [List.length_set, putBack_length]; omega), List.getElem?_eq_none (by omega)]
    · rw [List.getElem?_set_ne e]
      exact putBack_in hl ((List.mem_cons.mp h).resolve_left fun z => e z.symm)
section
variable {B : Bx} {σ : St} {H H' H1 : Hp} {δ δ' δ1 : DS} {vs : List Nat}
theorem own_wipe {a : Addr} (h : Own (wipeL σ vs) (wipeL δ vs) a) : Own σ δ a := by
  obtain ⟨j, c, h1, h2, h3⟩ := h
  exact ⟨j, c, (wipeL_some h1).1, h2, (wipeL_some h3).1⟩
theorem Rel.wipe (R : Rel B σ H δ) : Rel B (wipeL σ vs) H (wipeL δ vs) := by
  refine ⟨by rw [wipeL_length, wipeL_length]; exact R.len, fun j c h => ?_, fun i j c c' a h1 h2 m1 m2 s1 s2 => R.apart i j c c' a (wipeL_some h1).1 (wipeL_some h2).1 m1 m2 (wipeL_some s1).1 (wipeL_some s2).1, R.frame, R.trk⟩
  obtain ⟨h1, h2⟩ := wipeL_some h
  obtain ⟨v, e, ok⟩ := R.slot j c h1
  exact ⟨v, by rw [wipeL_out h2]; exact e, ok⟩
/-- behind a block: the names that it hid stand as they stood -/
theorem Rel.unwipe (R1 : Rel B σ H1 δ1) (Rc : Rel B (wipeL σ vs) H δ) (G : GoS (wipeL σ vs) (wipeL δ1 vs) H1 (wipeL σ vs) δ H) : Rel B σ H (putBack δ1 δ vs) := by
  have hl : δ1.length = δ.length := by rw [← R1.len, ← Rc.len, wipeL_length]
  have s : Stb H1 H := R1.wipe.stbS G
  have hid : ∀ j c a, j ∈ vs → δ1[j]? = some (some c) → c.mine = true → σ[j]? = some (some (.ref a)) → ¬ Own (wipeL σ vs) (wipeL δ1 vs) a := fun j c a hj h1 h2 h3 z => by
    obtain ⟨k, ck, q1, q2, q3⟩ := z
    have := R1.apart j k c ck a h1 (wipeL_some q1).1 h2 q2 h3 (wipeL_some q3).1
    exact (wipeL_some q1).2 (this ▸ hj)
  refine ⟨by rw [putBack_length, ← hl]; exact R1.len, fun j c h => ?_, fun i j c c' a h1 h2 m1 m2 s1 s2 => ?_, Rc.frame, Rc.trk⟩
  · by_cases e : j ∈ vs
    · rw [putBack_in hl e] at h
      obtain ⟨v, hv, ok⟩ := R1.slot j c h
      refine ⟨v, hv, ?_⟩
      cases c with
      | val d => exact Rep.mono s ok
      | own ds => obtain ⟨a, xs, rfl, q1, q2, q3⟩ := ok; exact ⟨a, xs, rfl, G.keep a _ q1 (hid j _ a e h rfl hv), q2.mono s, q3⟩
      | io k ds => obtain ⟨a, xs, rfl, q1, q2, q3⟩ := ok; exact ⟨a, xs, rfl, G.keep a _ q1 (hid j _ a e h rfl hv), q2.mono s, q3⟩
    · rw [putBack_out e] at h
      obtain ⟨v, hv, ok⟩ := Rc.slot j c h
      exact ⟨v, (wipeL_some hv).1, ok⟩
  · have mixed : ∀ i j c c', i ∈ vs → j ∉ vs → (putBack δ1 δ vs)[i]? = some (some c) → (putBack δ1 δ vs)[j]? = some (some c') → c.mine = true → c'.mine = true → σ[i]? = some (some (.ref a)) → σ[j]? = some (some (.ref a)) → False := fun i j c c' hi hj h1 h2 m1 m2 s1 s2 => by
      rw [putBack_in hl hi] at h1
      rw [putBack_out hj] at h2
      exact hid i c a hi h1 m1 s1 (G.sub a ⟨j, c', h2, m2, by rw [wipeL_out hj]; exact s2⟩)
    by_cases ei : i ∈ vs <;> by_cases ej : j ∈ vs
    · rw [putBack_in hl ei] at h1
      rw [putBack_in hl ej] at h2
      exact R1.apart i j c c' a h1 h2 m1 m2 s1 s2
    · exact (mixed i j c c' ei ej h1 h2 m1 m2 s1 s2).elim
    · exact (mixed j i c' c ej ei h2 h1 m2 m1 s2 s1).elim
    · rw [putBack_out ei] at h1
      rw [putBack_out ej] at h2
      exact Rc.apart i j c c' a h1 h2 m1 m2 (by rw [wipeL_out ei]; exact s1) (by rw [wipeL_out ej]; exact s2)
theorem go_unwipe (R1 : Rel B σ H1 δ1) (Rc : Rel B (wipeL σ vs) H δ) (G : GoS (wipeL σ vs) (wipeL δ1 vs) H1 (wipeL σ vs) δ H) : Go σ δ1 H1 (putBack δ1 δ vs) H := by
  have hl : δ1.length = δ.length := by rw [← R1.len, ← Rc.len, wipeL_length]
  refine ⟨fun b o e n => G.keep b o e fun z => n (own_wipe z), G.trk, fun a z => ?_⟩
  obtain ⟨j, c, h1, h2, h3⟩ := z
  by_cases e : j ∈ vs
  · rw [putBack_in hl e] at h1
    exact ⟨j, c, h1, h2, h3⟩
  · rw [putBack_out e] at h1
    exact own_wipe (G.sub a ⟨j, c, h1, h2, by rw [wipeL_out e]; exact h3⟩)
end
def lcLoop (ga : D → M Unit) (ft : M Bool) (fe : M D) (vs : List Nat) : List D → List D → M (List D)
  | [], acc => fun δ => some (acc, δ)
  | d :: ds, acc => fun δ => (ga d δ).bind fun q => (ft q.2).bind fun b => if b.1 = true then (fe b.2).bind fun y => if acc.length < 100000 then lcLoop ga ft fe vs ds (acc ++ [y.1]) (wipeL y.2 vs) else none
    else lcLoop ga ft fe vs ds acc (wipeL b.2 vs)
def fLc (fi : M (List D)) (ga : D → M Unit) (ft : M Bool) (fe : M D) (vs : List Nat) : M C := fun δ => (fi δ).bind fun r => (lcLoop ga ft fe vs r.1 [] (wipeL r.2 vs)).bind fun q => some (.own q.1, putBack r.2 q.2 vs)
def mYes : M Bool := fun δ => some (true, δ)
section
variable {X : Cx} {B : Bx} {tg iter elt : Expr} {ifs : List Expr} {scope : Scope} {own : List (Str × Nat)} {pos : Pos} {fi : M (List D)} {ga : D → M Unit} {ft : M Bool} {fe : M D}
theorem dts_nil : PTs X [] (tT B mYes) := ⟨fun pins s σ H Q I ⟨δ, b, δ', R, e, k⟩ => pts_nil.run pins s σ H Q I (by cases e; exact k H (Go.refl _ _ _) R)⟩
theorem dts_one {c : Expr} {f : M Bool} (h : DT X B c f) : PTs X [c] (tT B f) := pts_one h
theorem lc_weak {vs : List Nat} : ∀ σ H Q, tD B (fLc fi ga ft fe vs) σ H Q → tLc (tI B fi) (tG B vs ga) (tT B ft) (tV B fe) vs σ H Q := by
  rintro σ H Q ⟨δ, c, δ', R, e, k⟩
  obtain ⟨⟨ds, δ1⟩, e1, e⟩ := bind_some e
  obtain ⟨⟨fin, δe⟩, e2, e⟩ := bind_some e
  cases e
  refine ⟨δ, ds, δ1, R, e1, fun J H1 G1 R1 ok L hL => ?_⟩
  obtain ⟨inv, i0, iS, iG, iE, iY⟩ := ok.ex
  have hL0 : H L = none := by
    cases q : H L with
    | none => rfl
    | some w => exact absurd hL (G1.trk L (by rw [q]; intro z; cases z))
  have hB0 : B.H0 L = none := R.fresh0 hL0
  have nW : ¬ Own (wipeL σ vs) (wipeL δ1 vs) L := fun z => by
    obtain ⟨xs, q⟩ := R1.wipe.live z
    rw [hL] at q; cases q
  have sm0 : Same H1 (upd H1 L (.lst [])) := same_new hL
  refine ⟨fun i m H => m = ds.length - i ∧ i ≤ ds.length ∧ inv H ∧ ∃ accV accD δc, H L = some (.lst accV) ∧ RepAll B.K H accV accD ∧ Rel B (wipeL σ vs) H δc ∧ GoS (wipeL σ vs) (wipeL δ1 vs) H1 (wipeL σ vs) δc H ∧ lcLoop ga ft fe vs (ds.drop i) accD δc = some (fin, δe),
    ⟨_, rfl, Nat.zero_le _, iS _ _ (Stb.of sm0) i0, [], [], _, upd_same, .nil, R1.wipe.same sm0, GoS.of sm0, e2⟩, ?_⟩
  rintro i m H2 ⟨rfl, hi2, v2, accV, accD, δ2, hA, rA, R2, G2, e2⟩
  by_cases hlt : i < ds.length
  · rw [List.drop_eq_getElem_cons hlt] at e2
    obtain ⟨⟨_, δ3⟩, e3, e2⟩ := bind_some e2
    obtain ⟨⟨b, δ4⟩, e4, e2⟩ := bind_some e2
    refine .inr ⟨iG i H2 hlt v2, fun H => inv H ∧ ∃ accV accD δc, H L = some (.lst accV) ∧ RepAll B.K H accV accD ∧ Rel B (wipeL σ vs) H δc ∧ GoS (wipeL σ vs) (wipeL δ1 vs) H1 (wipeL σ vs) δc H ∧ lcLoop ga ft fe vs (ds.drop (i + 1)) accD δc = some (fin, δe),
      fun H' q => ⟨_, by omega, rfl, hlt, q⟩, fun x H3 y => ?_⟩
    obtain ⟨sm, d, hd, rd⟩ := iY i H2 x H3 hlt v2 y
    rw [List.getElem?_eq_getElem hlt] at hd; cases hd
    have R3 := R2.same sm
    have v3 := iS _ _ (Stb.of sm) v2
    rw [wipe_eq]
    refine ⟨_, δ2, δ3, R3, rd, e3, fun σ4 H4 out G4 R4 => ?_⟩
    have hw : wipeL σ4 vs = wipeL σ vs := wipeL_wipeL (by rw [out.1, wipeL_length]) out.2
    have GA : GoS (wipeL σ vs) (wipeL δ1 vs) H1 σ4 δ3 H4 := (G2.trans (GoS.of sm)).trans G4
    refine ⟨by rw [wipe_eq]; exact hw, δ3, b, δ4, R4, e4, fun H5 G5 R5 => ?_⟩
    have GB := GA.trans G5.s
    have v5 : inv H5 := iS _ _ (R4.stb G5) (iS _ _ (R3.stbS G4) v3)
    have kL : ∀ {σ' δ' H'}, GoS (wipeL σ vs) (wipeL δ1 vs) H1 σ' δ' H' → ¬ Own σ' δ' L := fun G z => nW (G.sub L z)
    have hA5 : H5 L = some (.lst accV) := G5.keep L _ (G4.keep L _ (sm L _ hA) (kL G2)) (kL GA)
    have st25 : Stb H2 H5 := ((Stb.of sm).trans (R3.stbS G4)).trans (R4.stb G5)
    cases b with
    | false =>
      refine iteF ⟨v5, accV, accD, wipeL δ4 vs, hA5, rA.mono st25, by rw [← hw]; exact R5.wipe, ?_, e2⟩
      rw [← hw]
      rw [← hw] at GB
      exact ⟨GB.keep, GB.trk, fun a z => GB.sub a (own_wipe z)⟩
    | true =>
      simp only [if_true] at e2
      obtain ⟨⟨yd, δ5⟩, e5, e2⟩ := bind_some e2
      simp only at e2
      split at e2
      · rename_i hz
        refine iteT ⟨δ4, yd, δ5, R5, e5, fun yv H6 G6 R6 r6 => ?_⟩
        have GC := GB.trans G6.s
        have hA6 : H6 L = some (.lst accV) := G6.keep L _ hA5 (kL GB)
        have st56 := R5.stb G6
        have st := stb_upd (o := HO.lst (accV ++ [yv])) hA6
        refine ⟨accV, hA6, by rw [rA.len]; exact sz5' hz, iS _ _ (st56.trans st) v5, accV ++ [yv], accD ++ [yd], wipeL δ5 vs, upd_same, (rA.mono ((st25.trans st56).trans st)).app (.cons (r6.mono st) .nil), ?_, ?_, e2⟩
        · rw [← hw]
          exact (R6.rest hA6 (kL GC) hB0).wipe
        · rw [← hw]
          rw [← hw] at GC
          exact ⟨fun b o e n => by rw [upd_ne (fun z => by rw [z, hL] at e; cases e)]; exact GC.keep b o e n, fun b hb => trk_upd b (GC.trk b hb), fun a z => GC.sub a (own_wipe z)⟩
      · cases e2
  · have hi3 : i = ds.length := by omega
    subst hi3
    rw [List.drop_length] at e2
    cases e2
    refine .inl ⟨iE H2 v2, k _ H2 (G1.trans (go_unwipe R1 R2 G2)) (R1.unwipe R2 G2) ⟨L, accV, rfl, hL0, hA, rA⟩⟩
theorem de_lc (hc : X.calm = true) (hN : X.N.Nodup) (hi : DI X B tg iter fi) (ok : BlkOk X.N X.env.scope scope own)
    (hg : ∀ (s : Shared) (H : Hp) (C : Addr) (cl : List (Str × Addr)) (fp : List Addr), DG (X.blk s H scope (compEnvC scope cl C X.env) fp) B tg (own.map (·.2)) ga) (ht : ∀ (s : Shared) (H : Hp) (C : Addr) (cl : List (Str × Addr)) (fp : List Addr), PTs (X.blk s H scope (compEnvC scope cl C X.env) fp) ifs (tT B ft))
    (he : ∀ (s : Shared) (H : Hp) (C : Addr) (cl : List (Str × Addr)) (fp : List Addr), DV (X.blk s H scope (compEnvC scope cl C X.env) fp) B elt fe) (hs : ∀ x, foldedSetIterable iter X.env x = pure x := by intro _; rfl) :
    DE X B (.ListComp elt [⟨tg, iter, ifs, 0⟩] scope pos) (fLc fi ga ft fe (own.map (·.2))) := pe_weak (pe_lc hc hN hi ok hg ht he hs) lc_weak
theorem ds_setLc {i : Nat} {y : Str} {py spos : Pos} (hc : X.calm = true) (hN : X.N.Nodup) (hi : DI X B tg iter fi) (ok : BlkOk X.N X.env.scope scope own)
    (hg : ∀ (s : Shared) (H : Hp) (C : Addr) (cl : List (Str × Addr)) (fp : List Addr), DG (X.blk s H scope (compEnvC scope cl C X.env) fp) B tg (own.map (·.2)) ga) (ht : ∀ (s : Shared) (H : Hp) (C : Addr) (cl : List (Str × Addr)) (fp : List Addr), PTs (X.blk s H scope (compEnvC scope cl C X.env) fp) ifs (tT B ft))
    (he : ∀ (s : Shared) (H : Hp) (C : Addr) (cl : List (Str × Addr)) (fp : List Addr), DV (X.blk s H scope (compEnvC scope cl C X.env) fp) B elt fe)
    (hsw : swapsWith (.ListComp elt [⟨tg, iter, ifs, 0⟩] scope pos) (some (.Name y py)) spos.line X.env = pure true) (hy : X.N[i]? = some y := by rfl) (hyl : X.env.scope.names.lookup y = some .local := by rfl) (hs : ∀ x, foldedSetIterable iter X.env x = pure x := by intro _; rfl) :
    DS1 X B (.Assign [.Name y py] (.ListComp elt [⟨tg, iter, ifs, 0⟩] scope pos) spos) (fSet i (fLc fi ga ft fe (own.map (·.2)))) := ps_weak (ps_setLc hc hN hy hyl hsw hi ok hg ht he hs) (set_weak lc_weak)
end
end DL

set_option Elab.async false
set_option linter.all false
set_option maxRecDepth 100000
set_option maxHeartbeats 4000000
/-! DL6: the operators and built-ins on data. -/
namespace DL
open PySem PySem.Spec PyProof.Rows L2

section
variable {X : Cx}
theorem PkAll.one {K : PySem.W.Frag} {H : Hp} {xs : List V} {d : D} (h : PkAll K H xs [d]) : ∃ x, xs = [x] ∧ Pk K H x d := by
  cases h with | cons a b => cases b; exact ⟨_, rfl, a⟩
theorem PkAll.two {K : PySem.W.Frag} {H : Hp} {xs : List V} {d e : D} (h : PkAll K H xs [d, e]) : ∃ x y, xs = [x, y] ∧ Pk K H x d ∧ Pk K H y e := by
  cases h with | cons a b => cases b with | cons b c => cases c; exact ⟨_, _, rfl, a, b⟩

/-! ### + -/
/-- list + list, whatever the lists are -/
theorem op_catL : OpR X (binaryOp .Add) (fun x y H Q => ∃ l b xs zs, x = .ref l ∧ y = .ref b ∧ SqL X.K H l xs ∧ SqL X.K H b zs ∧ xs.length + zs.length ≤ sizeLine ∧ ∀ p, H p = none → Q (.ref p) (upd H p (.lst (xs ++ zs)))) := by
  intro pins s σ H x y v u Q I rx ry h
  obtain ⟨l, b, xs, zs, rfl, rfl, hH, hB, hz, q⟩ := h
  cases rx
  cases ry
  obtain ⟨its, r, p1, z1⟩ := I.list hH
  obtain ⟨its2, r2, p2, z2⟩ := I.list hB
  have l1 := r.length
  have l2 := r2.length
  obtain ⟨⟨cls, dd, data, sl⟩, ho, hc, n, hd⟩ := p1.isList
  obtain ⟨⟨cls2, dd2, data2, sl2⟩, ho2, hc2, n2, hd2⟩ := p2.isList
  simp only at hc hd hc2 hd2
  subst hc hd hc2 hd2
  have e : its.toArray ++ its2.toArray = (its ++ its2).toArray := by simp
  refine concat_meets ⟨_, ho, rfl⟩ ⟨_, ho2, rfl⟩ noFill_list_add seq_list_add PySem.F.slot_list_add PySem.F.entry_list_add (PySem.F.args_list_add_2 _ _) (list_addW l b its.toArray its2.toArray n n2 dd dd2 sl sl2 (by rw [List.size_toArray, List.size_toArray]; omega)) ⟨ho, ho2, ?_⟩
  rw [e]
  exact ⟨.ref _, _, I.lnew (t' := s.toks) (r.append r2) (by rw [List.length_append]; omega), rfl, q _ I.fresh⟩
def gAdd : D → D → Option C
  | .int a, .int b => some (.val (.int (a + b)))
  | .str a, .str b => if a.length + b.length ≤ 100000 then some (.val (.str (a ++ b))) else none
  | .lst a, .lst b => if a.length + b.length ≤ 100000 then some (.own (a ++ b)) else none
  | .tup a, .tup b => if a.length + b.length ≤ 100000 ∧ a ≠ [] ∧ b ≠ [] then some (.val (.tup (a ++ b))) else none
  | _, _ => none
theorem opd_add : OpD X (binaryOp .Add) gAdd := by
  rintro pins s σ H x y v u Q I rx ry ⟨d, e, c, p1, p2, hg, k⟩
  cases d <;> cases e <;> try (cases hg; done)
  case int.int a b =>
    cases p1.int; cases p2.int; cases hg
    exact op_add pins s σ H _ _ v u Q I rx ry ⟨a, b, rfl, rfl, k _ H (Same.refl _) (.int _)⟩
  case str.str a b =>
    cases p1.str; cases p2.str
    simp only [gAdd] at hg
    split at hg
    · rename_i hz
      cases hg
      exact op_add_str pins s σ H _ _ v u Q I rx ry ⟨a, b, rfl, rfl, sz5 hz, k _ H (Same.refl _) (.str _)⟩
    · cases hg
  case lst.lst a b =>
    obtain ⟨l, xs, rfl, h1, r1⟩ := p1.list
    obtain ⟨m, ys, rfl, h2, r2⟩ := p2.list
    simp only [gAdd] at hg
    split at hg
    · rename_i hz
      cases hg
      refine op_catL pins s σ H _ _ v u Q I rx ry ⟨l, m, xs, ys, rfl, rfl, h1, h2, by rw [r1.len, r2.len]; exact sz5 hz, fun p hp => ?_⟩
      have sm := same_new (o := HO.lst (xs ++ ys)) hp
      exact k _ _ sm ⟨p, _, rfl, hp, upd_same, (r1.mono (Stb.of sm)).app (r2.mono (Stb.of sm))⟩
    · cases hg
  case tup.tup a b =>
    obtain ⟨l, xs, rfl, h1, r1⟩ := p1.tuple
    obtain ⟨m, ys, rfl, h2, r2⟩ := p2.tuple
    simp only [gAdd] at hg
    split at hg
    · rename_i hz
      cases hg
      have nil : ∀ {vs : List V} {ds : List D}, RepAll X.K H vs ds → vs = [] → ds = [] := fun {vs ds} r e => by subst e; cases r; rfl
      refine op_catT pins s σ H _ _ v u Q I rx ry ⟨l, m, xs, ys, rfl, rfl, h1, h2, fun z => hz.2.1 (nil r1 z), by rw [r1.len, r2.len]; exact sz5 hz.1, fun z => absurd (nil r2 z) hz.2.2, fun _ p hp => ?_⟩
      have sm := same_new (o := HO.tup (xs ++ ys)) hp
      exact k _ _ sm (.tup (.of upd_same) ((r1.mono (Stb.of sm)).app (r2.mono (Stb.of sm))))
    · cases hg
/-! ### -, *, //, %, ** -/
def gSub : D → D → Option C
  | .int a, .int b => some (.val (.int (a - b)))
  | _, _ => none
theorem opd_sub : OpD X (binaryOp .Sub) gSub := by
  rintro pins s σ H x y v u Q I rx ry ⟨d, e, c, p1, p2, hg, k⟩
  cases d <;> cases e <;> try (cases hg; done)
  case int.int a b =>
    cases p1.int; cases p2.int; cases hg
    exact op_sub pins s σ H _ _ v u Q I rx ry ⟨a, b, rfl, rfl, k _ H (Same.refl _) (.int _)⟩
/-- a text so many times -/
def repS (x : Str) (n : Int) : Str := ⟨(List.replicate n.toNat x.cps.toList).flatten.toArray⟩
theorem foldl_arr (xs : List Nat) : ∀ (n : Nat) (acc : Array Nat), (List.replicate n xs.toArray).foldl (· ++ ·) acc = acc ++ (List.replicate n xs).flatten.toArray
  | 0, acc => by simp
  | n + 1, acc => by
    rw [List.replicate_succ, List.replicate_succ, List.foldl_cons, foldl_arr xs n]
    simp
theorem repS_len (x : Str) (n : Int) : (repS x n).length = n.toNat * x.length := by
  unfold repS Str.length
  simp
theorem op_mulS : OpR X (binaryOp .Mult) (fun x y H Q => ∃ a i, x = .str a ∧ y = .int i ∧ i ≤ 100000 ∧ -100000 ≤ i ∧ a.length * i.toNat ≤ 100000 ∧ Q (.str (repS a i)) H) := by
  intro pins s σ H x y v u Q I rx ry h
  obtain ⟨a, i, rfl, rfl, h1, h2, h3, q⟩ := h
  obtain ⟨t, rfl⟩ := rx
  obtain ⟨t', rfl⟩ := ry
  have hz : ∀ m : Nat, m ≤ 100000 → m ≤ sizeLine := fun m h => sz5 h
  refine PySem.P.mul_str (by rw [decide_eq_false (by omega), decide_eq_false (by omega)]; rfl) (fun g1 _ => ?_) (fun g1 _ => ?_) ?_
  · have e1 : (a.length : Int) * i ≤ 2 ^ 63 - 1 := by
      have e2 : (i.toNat : Int) = i := Int.toNat_of_nonneg (by omega)
      have e3 : ((a.length * i.toNat : Nat) : Int) ≤ 100000 := by omega
      rw [Int.natCast_mul, e2] at e3
      omega
    have := Int.le_ediv_of_mul_le (c := i) (by omega) e1
    omega
  · unfold Builtin.Str.tooLong
    exact decide_eq_false (by have := hz _ h3; omega)
  · split
    · rename_i hn
      refine ⟨by decide, .str (repS a i), H, I.tok _, ⟨s.toks, ?_⟩, q⟩
      have e : i.toNat = 0 := by omega
      unfold repS
      rw [e]
      rfl
    · split
      · rename_i h0 hn
        simp only [Bool.or_eq_true, beq_iff_eq] at hn
        refine ⟨.str (repS a i), H, I, ⟨t, ?_⟩, q⟩
        rcases hn with e | e
        · have : repS a i = a := by subst e; unfold repS; exact Str.ext' (by simp)
          rw [this]
        · have hc : a.cps = #[] := by unfold Str.length at e; exact Array.eq_empty_of_size_eq_zero e
          have : repS a i = a := by
            unfold repS
            refine Str.ext' ?_
            rw [hc]
            simp
          rw [this]
      · have e : (⟨(List.replicate i.toNat a.cps).foldl (· ++ ·) #[]⟩ : Str) = repS a i := by
          unfold repS
          refine Str.ext' ?_
          have := foldl_arr a.cps.toList i.toNat #[]
          simpa using this
        refine ⟨?_, .str (repS a i), H, I.tok _, ⟨_, by rw [e]⟩, q⟩
        rw [e, repS_len]
        exact hz _ (by rw [Nat.mul_comm]; exact h3)
theorem tuple_mul1W (l : Addr) (items : Array Value) (n : Nat) (dd : Option Addr) (sl : Array (Option Value)) (u : Tok) :
    Meets (Builtin.«tuple.__mul__» ⟨[.ref l, .int 1 u], []⟩) (fun _ R s => s.heap.get? l = some { cls := .type "tuple", dict := dd, data := .seq items n, slots := sl } ∧ R (.ok (.ret (Value.ref l))) s) :=
  .of_wp fun prog w A R s h => by
    obtain ⟨hp, g, d, tk, os⟩ := s
    obtain ⟨hl, h⟩ := h
    have f1 := AutoSeq1.idx_int
    wp_walk using wpAny_loadPart' hl
    repeat (first
      | (refine wpAny_ite_true (decide_eq_true (by simp)) ?_; wp_walk using wpAny_loadPart' hl)
      | (refine wpAny_ite_false (decide_eq_false (by simp)) ?_; wp_walk using wpAny_loadPart' hl))
    exact ⟨_, rfl, h⟩
theorem op_rep1T : OpR X (binaryOp .Mult) (fun x y H Q => ∃ l xs, x = .ref l ∧ y = .int 1 ∧ SqT X.K H l xs ∧ Q (.ref l) H) := by
  intro pins s σ H x y v u Q I rx ry h
  obtain ⟨l, xs, rfl, rfl, hT, q⟩ := h
  cases rx
  obtain ⟨t, rfl⟩ := ry
  obtain ⟨its, r, ⟨⟨cls, dd, data, sl⟩, ho, hc, n, hd⟩, hs⟩ := I.tuple hT
  simp only at hc hd
  subst hc hd
  exact wpAny_binaryOp_repeat_ref (T := "tuple") (U := "int") (by decide) ⟨_, ho, rfl⟩ (fun s' => typeIs_int s' 1 t) noFill_tuple_mul F.fills_int_mul F.slot_int_rmul repeat_tuple F.slot_int_index.lookup
    (call_meets F.slot_int_rmul (typeIs_int s 1 t) F.entry_int_rmul (F.args_int_rmul_2 _ _) (int_rmul_tuple 1 t l its.toArray n dd sl)
      ⟨ho, rfl, ⟨_, ho, rfl⟩, call_meets F.slot_tuple_mul ⟨_, ho, rfl⟩ F.entry_tuple_mul (F.args_tuple_mul_2 _ _) (tuple_mul1W l its.toArray n dd sl t) ⟨ho, .ref l, H, I, rfl, q⟩⟩)
def gMul : D → D → Option C
  | .int a, .int b => if (-(2 ^ 64) < a ∧ a < 2 ^ 64) ∨ (-(2 ^ 64) < b ∧ b < 2 ^ 64) then some (.val (.int (a * b))) else none
  | .str a, .int n => if n ≤ 100000 ∧ -100000 ≤ n ∧ a.length * n.toNat ≤ 100000 then some (.val (.str (repS a n))) else none
  | .tup a, .int n => if a ≠ [] ∧ 1 ≤ n ∧ n ≤ 1000 ∧ a.length ≤ 1000 then some (.val (.tup (List.replicate n.toNat a).flatten)) else none
  | _, _ => none
theorem opd_mul : OpD X (binaryOp .Mult) gMul := by
  rintro pins s σ H x y v u Q I rx ry ⟨d, e, c, p1, p2, hg, k⟩
  cases d <;> cases e <;> try (cases hg; done)
  case int.int a b =>
    cases p1.int; cases p2.int
    simp only [gMul] at hg
    split at hg
    · rename_i hz
      cases hg
      exact op_mul pins s σ H _ _ v u Q I rx ry ⟨a, b, rfl, rfl, hz, k _ H (Same.refl _) (.int _)⟩
    · cases hg
  case str.int a n =>
    cases p1.str; cases p2.int
    simp only [gMul] at hg
    split at hg
    · rename_i hz
      cases hg
      exact op_mulS pins s σ H _ _ v u Q I rx ry ⟨a, n, rfl, rfl, hz.1, hz.2.1, hz.2.2, k _ H (Same.refl _) (.str _)⟩
    · cases hg
  case tup.int a n =>
    obtain ⟨l, xs, rfl, h1, r1⟩ := p1.tuple
    cases p2.int
    simp only [gMul] at hg
    split at hg
    · rename_i hz
      cases hg
      by_cases h1' : n = 1
      · subst h1'
        refine op_rep1T pins s σ H _ _ v u Q I rx ry ⟨l, xs, rfl, rfl, h1, k _ H (Same.refl _) ?_⟩
        have e : (List.replicate (Int.toNat 1) a).flatten = a := by simp
        rw [e]
        exact .tup h1 r1
      · refine op_repT pins s σ H _ _ v u Q I rx ry ⟨l, n, xs, rfl, rfl, h1, fun z => ?_, by omega, hz.2.2.1, by rw [r1.len]; exact hz.2.2.2, fun p hp => ?_⟩
        · subst z; cases r1; exact hz.1 rfl
        · have sm := same_new (o := HO.tup (List.replicate n.toNat xs).flatten) hp
          exact k _ _ sm (.tup (.of upd_same) ((r1.mono (Stb.of sm)).rep n.toNat))
    · cases hg
def gDiv : D → D → Option C
  | .int a, .int b => if 0 < b ∧ b < 1073741824 then some (.val (.int (a / b))) else none
  | _, _ => none
theorem opd_div : OpD X (binaryOp .FloorDiv) gDiv := by
  rintro pins s σ H x y v u Q I rx ry ⟨d, e, c, p1, p2, hg, k⟩
  cases d <;> cases e <;> try (cases hg; done)
  case int.int a b =>
    cases p1.int; cases p2.int
    simp only [gDiv] at hg
    split at hg
    · rename_i hz
      cases hg
      exact op_fdiv pins s σ H _ _ v u Q I rx ry ⟨a, b, rfl, rfl, hz, k _ H (Same.refl _) (.int _)⟩
    · cases hg
def gMod : D → D → Option C
  | .int a, .int b => if 0 < b then some (.val (.int (a % b))) else none
  | _, _ => none
theorem opd_mod : OpD X (binaryOp .Mod) gMod := by
  rintro pins s σ H x y v u Q I rx ry ⟨d, e, c, p1, p2, hg, k⟩
  cases d <;> cases e <;> try (cases hg; done)
  case int.int a b =>
    cases p1.int; cases p2.int
    simp only [gMod] at hg
    split at hg
    · rename_i hz
      cases hg
      exact op_mod pins s σ H _ _ v u Q I rx ry ⟨a, b, rfl, rfl, hz, k _ H (Same.refl _) (.int _)⟩
    · cases hg
def gPow : D → D → Option C
  | .int a, .int b => if 0 ≤ b ∧ b ≤ 1000 ∧ a.natAbs < 2 ^ 64 then some (.val (.int (a ^ b.toNat))) else none
  | _, _ => none
theorem opd_pow : OpD X (binaryOp .Pow) gPow := by
  rintro pins s σ H x y v u Q I rx ry ⟨d, e, c, p1, p2, hg, k⟩
  cases d <;> cases e <;> try (cases hg; done)
  case int.int a b =>
    cases p1.int; cases p2.int
    simp only [gPow] at hg
    split at hg
    · rename_i hz
      cases hg
      exact op_pow pins s σ H _ _ v u Q I rx ry ⟨a, b, rfl, rfl, ⟨hz.1, by omega, hz.2.2⟩, k _ H (Same.refl _) (.int _)⟩
    · cases hg
/-! ### a unary minus -/
def fNeg (fo : M O) : M C := fun δ => (fo δ).bind fun r => (r.1.toD r.2).bind fun d => match d with
  | .int i => some (.val (.int (-i)), r.2)
  | _ => none
theorem de_neg {B : Bx} {a : Expr} {fo : M O} {pos : Pos} (h : DO X B a fo) : DE X B (.UnaryOp .USub a pos) (fNeg fo) := pe_weak (pe_un un_neg h) fun σ H Q ⟨δ, c, δ', R, e, k⟩ => by
  obtain ⟨⟨o, δ1⟩, e1, e⟩ := bind_some e
  obtain ⟨d, e2, e⟩ := bind_some e
  cases d with
  | int i =>
    cases e
    exact ⟨δ, o, _, R, e1, fun v H1 G1 R1 r1 => ⟨i, (ORes.pk (H1 := H) R1 r1 e2).int, k _ H1 G1 R1 (.int _)⟩⟩
  | _ => cases e

/-! ### == and != -/
mutual
def D.py : D → PyData
  | .non => .none
  | .bl b => .bool b
  | .int i => .int i
  | .str x => .str x
  | .tup ds => .tuple (pys ds)
  | .lst ds => .list (pys ds)
  | .obj _ _ => .none
def pys : List D → List PyData
  | [] => []
  | d :: ds => d.py :: pys ds
end
mutual
def D.plain : D → Bool
  | .tup ds => plains ds
  | .lst ds => plains ds
  | .obj _ _ => false
  | _ => true
def plains : List D → Bool
  | [] => true
  | d :: ds => d.plain && plains ds
end
section
variable {K : PySem.W.Frag} {H : Hp}
mutual
theorem Rep.dp : ∀ {d : D} {v : V}, Rep K H v d → d.plain = true → Dp K H v d.py
  | _, _, .non, _ => by unfold D.py; exact .non
  | _, _, .bl b, _ => by unfold D.py; exact .bl b
  | _, _, .int i, _ => by unfold D.py; exact .int i
  | _, _, .str x, _ => by unfold D.py; exact .str x
  | _, _, .lst h a, p => by unfold D.py; exact .lst h.sq (RepAll.dp a (by unfold D.plain at p; exact p))
  | _, _, .tup h a, p => by unfold D.py; exact .tup h (RepAll.dp a (by unfold D.plain at p; exact p))
theorem RepAll.dp : ∀ {ds : List D} {vs : List V}, RepAll K H vs ds → plains ds = true → DpAll K H vs (pys ds)
  | _, _, .nil, _ => by unfold pys; exact .nil
  | _, _, .cons a b, p => by
    unfold plains at p
    rw [Bool.and_eq_true] at p
    unfold pys
    exact .cons (Rep.dp a p.1) (RepAll.dp b p.2)
end
theorem Pk.dp {d : D} {v : V} (h : Pk K H v d) (p : d.plain = true) : Dp K H v d.py := by
  cases h with
  | rep h => exact h.dp p
  | live h a => unfold D.py; exact .lst (.of h) (a.dp (by unfold D.plain at p; exact p))
end
/-- what == compares -/
def D.eqOk (d : D) : Bool := d.plain && SeqAt.shaped d.py
def gEq (d e : D) : Option C := if d.eqOk = true ∧ e.eqOk = true then some (.val (.bl (PyData.eqv d.py e.py))) else none
def gNe (d e : D) : Option C := if d.eqOk = true ∧ e.eqOk = true then some (.val (.bl (!PyData.eqv d.py e.py))) else none
theorem opd_eq (hu : X.A.units + 64 < cLine) : OpD X (compareOp .Eq) gEq := by
  rintro pins s σ H x y v u Q I rx ry ⟨d, e, c, p1, p2, hg, k⟩
  unfold gEq at hg
  split at hg
  · rename_i hz
    cases hg
    obtain ⟨h1, h2⟩ := hz
    unfold D.eqOk at h1 h2
    rw [Bool.and_eq_true] at h1 h2
    exact op_eqD hu pins s σ H _ _ v u Q I rx ry ⟨_, _, p1.dp h1.1, p2.dp h2.1, h1.2, h2.2, k _ H (Same.refl _) (.bl _)⟩
  · cases hg
theorem opd_ne (hu : X.A.units + 64 < cLine) : OpD X (compareOp .NotEq) gNe := by
  rintro pins s σ H x y v u Q I rx ry ⟨d, e, c, p1, p2, hg, k⟩
  unfold gNe at hg
  split at hg
  · rename_i hz
    cases hg
    obtain ⟨h1, h2⟩ := hz
    unfold D.eqOk at h1 h2
    rw [Bool.and_eq_true] at h1 h2
    exact op_neD hu pins s σ H _ _ v u Q I rx ry ⟨_, _, p1.dp h1.1, p2.dp h2.1, h1.2, h2.2, k _ H (Same.refl _) (.bl _)⟩
  · cases hg
/-! ### order of ints -/
def gCmp (p : Int → Int → Bool) : D → D → Option C
  | .int a, .int b => some (.val (.bl (p a b)))
  | _, _ => none
theorem opd_cmp {op : CmpOp} {p : Int → Int → Bool} (ho : OpR X (compareOp op) (rI0 fun i j => .bl (p i j))) : OpD X (compareOp op) (gCmp p) := by
  rintro pins s σ H x y v u Q I rx ry ⟨d, e, c, p1, p2, hg, k⟩
  cases d <;> cases e <;> try (cases hg; done)
  case int.int a b =>
    cases p1.int; cases p2.int; cases hg
    exact ho pins s σ H _ _ v u Q I rx ry ⟨a, b, rfl, rfl, k _ H (Same.refl _) (.bl _)⟩
abbrev gLt := gCmp fun i j => decide (i < j)
abbrev gLe := gCmp fun i j => decide (i ≤ j)
abbrev gGt := gCmp fun i j => decide (j < i)
abbrev gGe := gCmp fun i j => decide (j ≤ i)
theorem opd_lt : OpD X (compareOp .Lt) gLt := opd_cmp op_lt
theorem opd_le : OpD X (compareOp .LtE) gLe := opd_cmp op_le
theorem opd_gt : OpD X (compareOp .Gt) gGt := opd_cmp op_gt
theorem opd_ge : OpD X (compareOp .GtE) gGe := opd_cmp op_ge
/-! ### is None -/
def D.isNon : D → Bool
  | .non => true
  | _ => false
theorem Pk.isNon {K : PySem.W.Frag} {H : Hp} {v : V} {d : D} (h : Pk K H v d) : decide (v = .non) = d.isNon := by
  cases h with
  | rep h => cases h <;> first | rfl | (unfold D.isNon; exact decide_eq_false (fun z => nomatch z))
  | live h a => unfold D.isNon; exact decide_eq_false (fun z => nomatch z)
def gIs (d e : D) : Option C := match e with
  | .non => some (.val (.bl d.isNon))
  | _ => none
def gIsNot (d e : D) : Option C := match e with
  | .non => some (.val (.bl (!d.isNon)))
  | _ => none
theorem opd_is : OpD X (compareOp .Is) gIs := by
  rintro pins s σ H x y v u Q I rx ry ⟨d, e, c, p1, p2, hg, k⟩
  cases e <;> try (cases hg; done)
  cases p2.non; cases hg
  exact op_isN pins s σ H _ _ v u Q I rx ry ⟨rfl, by rw [p1.isNon]; exact k _ H (Same.refl _) (.bl _)⟩
theorem opd_isNot : OpD X (compareOp .IsNot) gIsNot := by
  rintro pins s σ H x y v u Q I rx ry ⟨d, e, c, p1, p2, hg, k⟩
  cases e <;> try (cases hg; done)
  cases p2.non; cases hg
  exact op_notN pins s σ H _ _ v u Q I rx ry ⟨rfl, by rw [p1.isNon]; exact k _ H (Same.refl _) (.bl _)⟩
/-! ### in -/
def D.flat : D → Bool
  | .non => true
  | .bl _ => true
  | .int _ => true
  | .str _ => true
  | _ => false
def eqF : D → D → Bool
  | .non, .non => true
  | .bl a, .bl b => a == b
  | .bl a, .int b => (if a then 1 else 0) == b
  | .int a, .bl b => a == (if b then 1 else 0)
  | .int a, .int b => a == b
  | .str a, .str b => a == b
  | _, _ => false
theorem Rep.flat {K : PySem.W.Frag} {H : Hp} {v : V} {d : D} (h : Rep K H v d) (f : d.flat = true) : flatV v = true := by
  cases h <;> first | rfl | cases f
theorem Pk.flat {K : PySem.W.Frag} {H : Hp} {v : V} {d : D} (h : Pk K H v d) (f : d.flat = true) : Rep K H v d ∧ flatV v = true := by
  cases h with
  | rep h => exact ⟨h, h.flat f⟩
  | live h a => cases f
theorem RepAll.flat {K : PySem.W.Frag} {H : Hp} : ∀ {vs : List V} {ds : List D}, RepAll K H vs ds → ds.all D.flat = true → vs.all flatV = true
  | _, _, .nil, _ => rfl
  | _, _, .cons a b, f => by
    rw [List.all_cons, Bool.and_eq_true] at f ⊢
    exact ⟨a.flat f.1, RepAll.flat b f.2⟩
theorem eqF_of {K : PySem.W.Frag} {H : Hp} {v w : V} {d e : D} (h : Rep K H v d) (h2 : Rep K H w e) (f : d.flat = true) (f2 : e.flat = true) : eqV v w = eqF d e := by
  cases h <;> try (cases f; done)
  all_goals (cases h2 <;> first | rfl | cases f2)
theorem inV_of {K : PySem.W.Frag} {H : Hp} {x : V} {d : D} (h : Rep K H x d) (f : d.flat = true) : ∀ {vs : List V} {ds : List D}, RepAll K H vs ds → ds.all D.flat = true → inV x vs = ds.any fun e => eqF e d
  | _, _, .nil, _ => rfl
  | _, _, .cons a b, g => by
    rw [List.all_cons, Bool.and_eq_true] at g
    unfold inV
    rw [List.any_cons, List.any_cons, eqF_of a h g.1 f]
    congr 1
    exact inV_of h f b g.2
/-- one sign in a text, a flat thing in a list or a tuple -/
def inD (d e : D) : Option Bool := match d, e with
  | .str a, .str z => match a.cps.toList with
    | [c] => some (decide (c ∈ z.cps.toList))
    | _ => none
  | d, .lst ds => if d.flat = true ∧ ds.all D.flat = true then some (ds.any fun e => eqF e d) else none
  | d, .tup ds => if d.flat = true ∧ ds.all D.flat = true then some (ds.any fun e => eqF e d) else none
  | _, _ => none
def gIn (d e : D) : Option C := (inD d e).map fun b => .val (.bl b)
def gNotIn (d e : D) : Option C := (inD d e).map fun b => .val (.bl (!b))
theorem in_any {op : CmpOp} {neg : Bool} (h1 : OpR X (compareOp op) (rIn X.K neg)) (h2 : OpR X (compareOp op) (fun x y H Q => ∃ (c : Nat) (z : Str), x = .str ⟨#[c]⟩ ∧ y = .str z ∧ Q (.bl (if neg then !decide (c ∈ z.cps.toList) else decide (c ∈ z.cps.toList))) H)) :
    OpD X (compareOp op) (fun d e => (inD d e).map fun b => .val (.bl (if neg then !b else b))) := by
  rintro pins s σ H x y v u Q I rx ry ⟨d, e, c, p1, p2, hg, k⟩
  have hg : (inD d e).map (fun b => C.val (.bl (if neg = true then !b else b))) = some c := hg
  cases hi : inD d e with
  | none => rw [hi] at hg; cases hg
  | some b =>
    rw [hi] at hg
    cases hg
    have seq : ∀ ds : List D, (if d.flat = true ∧ ds.all D.flat = true then some (ds.any fun e => eqF e d) else none) = some b → (∃ p xs, y = .ref p ∧ (SqL X.K H p xs ∨ SqT X.K H p xs) ∧ RepAll X.K H xs ds) → wpAny (model X.prog X.w) X.A (compareOp op v u) (EP X pins σ Q) X.xe s := fun ds e1 ⟨p, xs, ey, hq, ha⟩ => by
      split at e1
      · rename_i hz
        cases e1
        obtain ⟨r1, f1⟩ := p1.flat hz.1
        refine h1 pins s σ H _ _ v u Q I rx ry ⟨p, xs, ey, hq, f1, ha.flat hz.2, ?_⟩
        rw [inV_of r1 hz.1 ha hz.2]
        exact k _ H (Same.refl _) (.bl _)
      · cases e1
    cases e with
    | lst ds =>
      obtain ⟨l, xs, rfl, q1, q2⟩ := p2.list
      exact seq ds (by cases d <;> exact hi) ⟨l, xs, rfl, .inl q1, q2⟩
    | tup ds =>
      obtain ⟨l, xs, rfl, q1, q2⟩ := p2.tuple
      exact seq ds (by cases d <;> exact hi) ⟨l, xs, rfl, .inr q1, q2⟩
    | str z =>
      cases d with
      | str a =>
        cases p1.str; cases p2.str
        have hi' : (match a.cps.toList with
          | [c] => some (decide (c ∈ z.cps.toList))
          | _ => none) = some b := hi
        cases hl : a.cps.toList with
        | nil => rw [hl] at hi'; cases hi'
        | cons c r =>
          cases r with
          | cons _ _ => rw [hl] at hi'; cases hi'
          | nil =>
            rw [hl] at hi'
            cases hi'
            have ea : a = ⟨#[c]⟩ := Str.ext' (by rw [← Array.toList_inj]; exact hl)
            exact h2 pins s σ H _ _ v u Q I rx ry ⟨c, z, by rw [ea], rfl, k _ H (Same.refl _) (.bl _)⟩
      | _ => cases hi
    | _ => cases d <;> cases hi
theorem opd_in : OpD X (compareOp .In) gIn := in_any (neg := false) op_in_seq op_in_sign
theorem opd_notIn : OpD X (compareOp .NotIn) gNotIn := in_any (neg := true) op_notIn_seq op_notIn_sign

/-! ### items and slices -/
def gIx : D → D → Option C
  | .lst ds, .int i => (atI ds i).map .val
  | .tup ds, .int i => (atI ds i).map .val
  | .str z, .int i => if z.length ≤ 100000 then (atI z.cps.toList i).map fun c => .val (.str ⟨#[c]⟩) else none
  | _, _ => none
theorem atI_rep {K : PySem.W.Frag} {H : Hp} {vs : List V} {ds : List D} {i : Int} {d : D} (r : RepAll K H vs ds) (h : atI ds i = some d) : ∃ v, atI vs i = some v ∧ Rep K H v d := by
  unfold atI at h ⊢
  rw [r.len]
  obtain ⟨j, h1, h2⟩ := bind_some h
  obtain ⟨v, h3, h4⟩ := r.get h2
  exact ⟨v, by rw [h1]; exact h3, h4⟩
theorem ixd : IxD X gIx := by
  rintro value slice pins s σ H x y v u Q I rx ry ⟨d, e, c, p1, p2, hg, k⟩ hs
  cases e <;> try (cases d <;> cases hg; done)
  rename_i i
  cases p2.int
  cases d <;> try (cases hg; done)
  case lst ds =>
    obtain ⟨l, xs, rfl, q1, q2⟩ := p1.list
    simp only [gIx, Option.map_eq_some_iff] at hg
    obtain ⟨d', h1, rfl⟩ := hg
    obtain ⟨w, h2, h3⟩ := atI_rep q2 h1
    exact ix_list value slice pins s σ H _ _ v u Q I rx ry ⟨l, xs, i, w, rfl, rfl, q1, h2, k _ H (Same.refl _) h3⟩ hs
  case tup ds =>
    obtain ⟨l, xs, rfl, q1, q2⟩ := p1.tuple
    simp only [gIx, Option.map_eq_some_iff] at hg
    obtain ⟨d', h1, rfl⟩ := hg
    obtain ⟨w, h2, h3⟩ := atI_rep q2 h1
    exact ix_tup value slice pins s σ H _ _ v u Q I rx ry ⟨l, xs, i, w, rfl, rfl, q1, h2, k _ H (Same.refl _) h3⟩ hs
  case str z =>
    cases p1.str
    simp only [gIx] at hg
    split at hg
    · rename_i hz
      simp only [Option.map_eq_some_iff] at hg
      obtain ⟨cc, h1, rfl⟩ := hg
      exact ix_str value slice pins s σ H _ _ v u Q I rx ry ⟨z, i, cc, rfl, rfl, sz5 hz, h1, k _ H (Same.refl _) (.str _)⟩ hs
    · cases hg
def cutD {α : Type} (xs : List α) (lo hi : Option Int) : List α := (xs.drop (HT.sIx xs.length 0 lo)).take (HT.sIx xs.length xs.length hi - HT.sIx xs.length 0 lo)
def gSl (d : D) (lo hi : Option Int) : Option C := match d with
  | .lst ds => some (.own (cutD ds lo hi))
  | .str z => if z.length ≤ 100000 then some (.val (.str (cutS z lo hi))) else none
  | .tup ds => if HT.sIx ds.length 0 lo = 0 ∧ HT.sIx ds.length ds.length hi = ds.length then none else some (.val (.tup (cutD ds lo hi)))
  | _ => none
theorem sld : SlD X gSl := by
  rintro pins s σ H x v vl vu lo hi sl Q I rx hs pl pu ⟨d, c, p1, hg, k⟩
  cases d <;> try (cases hg; done)
  case lst ds =>
    obtain ⟨l, xs, rfl, q1, q2⟩ := p1.list
    cases hg
    refine sl_list pins s σ H _ v vl vu lo hi sl Q I rx hs pl pu ⟨l, xs, rfl, q1, fun p hp => ?_⟩
    have sm := same_new (o := HO.lst (cutV xs lo hi)) hp
    refine k _ _ sm ⟨p, _, rfl, hp, upd_same, ?_⟩
    unfold cutV cutD
    rw [← q2.len]
    exact ((q2.mono (Stb.of sm)).drop _).take _
  case str z =>
    cases p1.str
    simp only [gSl] at hg
    split at hg
    · rename_i hz
      cases hg
      exact sl_str pins s σ H _ v vl vu lo hi sl Q I rx hs pl pu ⟨z, rfl, sz5 hz, k _ H (Same.refl _) (.str _)⟩
    · cases hg
  case tup ds =>
    obtain ⟨l, xs, rfl, q1, q2⟩ := p1.tuple
    simp only [gSl] at hg
    split at hg
    · cases hg
    · rename_i hz
      cases hg
      refine sl_tup pins s σ H _ v vl vu lo hi sl Q I rx hs pl pu ⟨l, xs, rfl, q1, by rw [q2.len]; exact hz, fun p hp => ?_⟩
      have sm := same_new (o := HO.tup (cutV xs lo hi)) hp
      refine k _ _ sm (.tup (.of upd_same) ?_)
      unfold cutV cutD
      rw [← q2.len]
      exact ((q2.mono (Stb.of sm)).drop _).take _

/-! ### built-in functions -/
def gLen : List D → Option C
  | [.lst ds] => some (.val (.int ds.length))
  | [.tup ds] => some (.val (.int ds.length))
  | [.str z] => if z.length ≤ 100000 then some (.val (.int z.length)) else none
  | _ => none
theorem cd_len : CallD X (.builtin "len") gLen := by
  rintro pins s σ H xs us Q I rs ⟨ds, c, ps, hg, k⟩
  unfold gLen at hg
  split at hg
  · obtain ⟨x, rfl, p⟩ := ps.one
    obtain ⟨l, ys, rfl, q1, q2⟩ := p.list
    cases hg
    exact call_len_seq pins s σ H _ us Q I rs ⟨l, ys, rfl, .inl q1, by rw [q2.len]; exact k _ H (Same.refl _) (.int _)⟩
  · obtain ⟨x, rfl, p⟩ := ps.one
    obtain ⟨l, ys, rfl, q1, q2⟩ := p.tuple
    cases hg
    exact call_len_seq pins s σ H _ us Q I rs ⟨l, ys, rfl, .inr q1, by rw [q2.len]; exact k _ H (Same.refl _) (.int _)⟩
  · obtain ⟨x, rfl, p⟩ := ps.one
    cases p.str
    split at hg
    · rename_i hz
      cases hg
      exact call_len_str pins s σ H _ us Q I rs ⟨_, rfl, sz5 hz, k _ H (Same.refl _) (.int _)⟩
    · cases hg
  · cases hg
def gInt : List D → Option C
  | [.int i] => some (.val (.int i))
  | [.bl b] => some (.val (.int (if b then 1 else 0)))
  | _ => none
theorem cd_int : CallD X (.type "int") gInt := by
  rintro pins s σ H xs us Q I rs ⟨ds, c, ps, hg, k⟩
  unfold gInt at hg
  split at hg
  · obtain ⟨x, rfl, p⟩ := ps.one
    cases p.int; cases hg
    exact call_int1 pins s σ H _ us Q I rs (.inl ⟨_, rfl, k _ H (Same.refl _) (.int _)⟩)
  · obtain ⟨x, rfl, p⟩ := ps.one
    cases p.bl; cases hg
    exact call_int1 pins s σ H _ us Q I rs (.inr ⟨_, rfl, k _ H (Same.refl _) (.int _)⟩)
  · cases hg
def gAbs : List D → Option C
  | [.int i] => some (.val (.int (if i < 0 then -i else i)))
  | _ => none
theorem cd_abs : CallD X (.builtin "abs") gAbs := by
  rintro pins s σ H xs us Q I rs ⟨ds, c, ps, hg, k⟩
  unfold gAbs at hg
  split at hg
  · obtain ⟨x, rfl, p⟩ := ps.one
    cases p.int; cases hg
    exact call_abs pins s σ H _ us Q I rs ⟨_, rfl, k _ H (Same.refl _) (.int _)⟩
  · cases hg
theorem repAll_ints {K : PySem.W.Frag} {H : Hp} : ∀ {vs : List V} {ns : List Int}, RepAll K H vs (ns.map .int) → vs = ns.map V.int
  | _, [], .nil => rfl
  | _, n :: ns, .cons a b => by cases a; rw [repAll_ints b]; rfl
theorem repAll_bls {K : PySem.W.Frag} {H : Hp} : ∀ {vs : List V} {ns : List Bool}, RepAll K H vs (ns.map .bl) → vs = ns.map V.bl
  | _, [], .nil => rfl
  | _, n :: ns, .cons a b => by cases a; rw [repAll_bls b]; rfl
theorem repAll_strs {K : PySem.W.Frag} {H : Hp} : ∀ {vs : List V} {ns : List Str}, RepAll K H vs (ns.map .str) → vs = ns.map V.str
  | _, [], .nil => rfl
  | _, n :: ns, .cons a b => by cases a; rw [repAll_strs b]; rfl
@[simp] def D.toInts : List D → Option (List Int)
  | [] => some []
  | .int i :: r => (D.toInts r).map (i :: ·)
  | _ => none
@[simp] def D.toBls : List D → Option (List Bool)
  | [] => some []
  | .bl i :: r => (D.toBls r).map (i :: ·)
  | _ => none
@[simp] def D.toStrs : List D → Option (List Str)
  | [] => some []
  | .str i :: r => (D.toStrs r).map (i :: ·)
  | _ => none
theorem toInts_eq : ∀ {ds : List D} {ns : List Int}, D.toInts ds = some ns → ds = ns.map .int
  | [], ns, h => by cases h; rfl
  | d :: r, ns, h => by
    cases d <;> try (cases h; done)
    simp only [D.toInts, Option.map_eq_some_iff] at h
    obtain ⟨m, h1, rfl⟩ := h
    rw [toInts_eq h1]; rfl
theorem toBls_eq : ∀ {ds : List D} {ns : List Bool}, D.toBls ds = some ns → ds = ns.map .bl
  | [], ns, h => by cases h; rfl
  | d :: r, ns, h => by
    cases d <;> try (cases h; done)
    simp only [D.toBls, Option.map_eq_some_iff] at h
    obtain ⟨m, h1, rfl⟩ := h
    rw [toBls_eq h1]; rfl
theorem toStrs_eq : ∀ {ds : List D} {ns : List Str}, D.toStrs ds = some ns → ds = ns.map .str
  | [], ns, h => by cases h; rfl
  | d :: r, ns, h => by
    cases d <;> try (cases h; done)
    simp only [D.toStrs, Option.map_eq_some_iff] at h
    obtain ⟨m, h1, rfl⟩ := h
    rw [toStrs_eq h1]; rfl
@[simp] theorem toInts_map : ∀ ns : List Int, D.toInts (ns.map .int) = some ns
  | [] => rfl
  | n :: ns => by simp [D.toInts, toInts_map ns]
@[simp] theorem toBls_map : ∀ ns : List Bool, D.toBls (ns.map .bl) = some ns
  | [] => rfl
  | n :: ns => by simp [D.toBls, toBls_map ns]
@[simp] theorem toStrs_map : ∀ ns : List Str, D.toStrs (ns.map .str) = some ns
  | [] => rfl
  | n :: ns => by simp [D.toStrs, toStrs_map ns]
def gSum : List D → Option C
  | [.lst ds] => (D.toInts ds).map fun ns => .val (.int ns.sum)
  | _ => none
theorem cd_sum (hc : X.calm = true) : CallD X (.builtin "sum") gSum := by
  rintro pins s σ H xs us Q I rs ⟨ds, c, ps, hg, k⟩
  unfold gSum at hg
  split at hg
  · obtain ⟨x, rfl, p⟩ := ps.one
    simp only [Option.map_eq_some_iff] at hg
    obtain ⟨ns, h1, rfl⟩ := hg
    cases toInts_eq h1
    obtain ⟨l, ys, rfl, q1, q2⟩ := p.list
    cases repAll_ints q2
    exact cr_sum hc pins s σ H _ us Q I rs ⟨l, ns, rfl, q1, k _ H (Same.refl _) (.int _)⟩
  · cases hg
def gAll : List D → Option C
  | [.lst ds] => (D.toBls ds).map fun ns => .val (.bl (ns.all id))
  | _ => none
def gAny : List D → Option C
  | [.lst ds] => (D.toBls ds).map fun ns => .val (.bl (ns.any id))
  | _ => none
theorem cd_all (hc : X.calm = true) : CallD X (.builtin "all") gAll := by
  rintro pins s σ H xs us Q I rs ⟨ds, c, ps, hg, k⟩
  unfold gAll at hg
  split at hg
  · obtain ⟨x, rfl, p⟩ := ps.one
    simp only [Option.map_eq_some_iff] at hg
    obtain ⟨ns, h1, rfl⟩ := hg
    cases toBls_eq h1
    obtain ⟨l, ys, rfl, q1, q2⟩ := p.list
    cases repAll_bls q2
    exact cr_all hc pins s σ H _ us Q I rs ⟨l, ns, rfl, q1, k _ H (Same.refl _) (.bl _)⟩
  · cases hg
theorem cd_any (hc : X.calm = true) : CallD X (.builtin "any") gAny := by
  rintro pins s σ H xs us Q I rs ⟨ds, c, ps, hg, k⟩
  unfold gAny at hg
  split at hg
  · obtain ⟨x, rfl, p⟩ := ps.one
    simp only [Option.map_eq_some_iff] at hg
    obtain ⟨ns, h1, rfl⟩ := hg
    cases toBls_eq h1
    obtain ⟨l, ys, rfl, q1, q2⟩ := p.list
    cases repAll_bls q2
    exact cr_any hc pins s σ H _ us Q I rs ⟨l, ns, rfl, q1, k _ H (Same.refl _) (.bl _)⟩
  · cases hg
/-- the greatest of some ints -/
def maxL : List Int → Int
  | [] => 0
  | [n] => n
  | n :: r => max n (maxL r)
theorem maxL_mem : ∀ {ns : List Int}, ns ≠ [] → maxL ns ∈ ns ∧ ∀ y ∈ ns, y ≤ maxL ns
  | [n], _ => by simp [maxL]
  | n :: m :: r, _ => by
    have ih := maxL_mem (ns := m :: r) (by simp)
    show max n (maxL (m :: r)) ∈ _ ∧ ∀ y ∈ n :: m :: r, y ≤ max n (maxL (m :: r))
    refine ⟨?_, fun y hy => ?_⟩
    · by_cases h : n ≤ maxL (m :: r)
      · rw [Int.max_eq_right h]; exact List.mem_cons_of_mem _ ih.1
      · rw [Int.max_eq_left (by omega)]; exact List.mem_cons_self
    · rcases List.mem_cons.mp hy with rfl | hy
      · omega
      · have := ih.2 y hy; omega
def gMax : List D → Option C
  | [.lst ds] => (D.toInts ds).bind fun ns => if ns = [] then none else some (.val (.int (maxL ns)))
  | [.int i, .int j] => some (.val (.int (if j > i then j else i)))
  | _ => none
theorem cd_max (hc : X.calm = true) : CallD X (.builtin "max") gMax := by
  rintro pins s σ H xs us Q I rs ⟨ds, c, ps, hg, k⟩
  unfold gMax at hg
  split at hg
  · obtain ⟨x, rfl, p⟩ := ps.one
    obtain ⟨ns, h1, hg⟩ := bind_some hg
    split at hg
    · cases hg
    · rename_i hne
      cases hg
      cases toInts_eq h1
      obtain ⟨l, ys, rfl, q1, q2⟩ := p.list
      cases repAll_ints q2
      obtain ⟨m1, m2⟩ := maxL_mem hne
      refine cr_max hc pins s σ H _ us Q I rs ⟨l, ns, rfl, q1, by cases ns with | nil => exact absurd rfl hne | cons _ _ => simp, fun m hm hle => ?_⟩
      have e : m = maxL ns := by have := hle _ m1; have := m2 _ hm; omega
      rw [e]
      exact k _ H (Same.refl _) (.int _)
  · obtain ⟨x, y, rfl, p, q⟩ := ps.two
    cases p.int; cases q.int; cases hg
    exact call_max2 hc pins s σ H _ us Q I rs ⟨_, _, rfl, k _ H (Same.refl _) (.int _)⟩
  · cases hg
def gMin : List D → Option C
  | [.int i, .int j] => some (.val (.int (if j < i then j else i)))
  | _ => none
theorem cd_min (hc : X.calm = true) : CallD X (.builtin "min") gMin := by
  rintro pins s σ H xs us Q I rs ⟨ds, c, ps, hg, k⟩
  unfold gMin at hg
  split at hg
  · obtain ⟨x, y, rfl, p, q⟩ := ps.two
    cases p.int; cases q.int; cases hg
    exact call_min2 hc pins s σ H _ us Q I rs ⟨_, _, rfl, k _ H (Same.refl _) (.int _)⟩
  · cases hg
def gTuple : List D → Option C
  | [.lst ds] => some (.val (.tup ds))
  | [.tup ds] => some (.val (.tup ds))
  | _ => none
theorem cd_tuple : CallD X (.type "tuple") gTuple := by
  rintro pins s σ H xs us Q I rs ⟨ds, c, ps, hg, k⟩
  unfold gTuple at hg
  split at hg
  · obtain ⟨x, rfl, p⟩ := ps.one
    obtain ⟨l, ys, rfl, q1, q2⟩ := p.list
    cases hg
    refine call_tuple_of pins s σ H _ us Q I rs ⟨l, ys, rfl, .inl ⟨q1, fun p hp => ?_⟩⟩
    have sm := same_new (o := HO.tup ys) hp
    exact k _ _ sm (.tup (.of upd_same) (q2.mono (Stb.of sm)))
  · obtain ⟨x, rfl, p⟩ := ps.one
    obtain ⟨l, ys, rfl, q1, q2⟩ := p.tuple
    cases hg
    exact call_tuple_of pins s σ H _ us Q I rs ⟨l, ys, rfl, .inr ⟨q1, k _ H (Same.refl _) (.tup q1 q2)⟩⟩
  · cases hg
def gList : List D → Option C
  | [.lst ds] => some (.own ds)
  | [.tup ds] => some (.own ds)
  | _ => none
theorem cd_list : CallD X (.type "list") gList := by
  rintro pins s σ H xs us Q I rs ⟨ds, c, ps, hg, k⟩
  unfold gList at hg
  split at hg
  · obtain ⟨x, rfl, p⟩ := ps.one
    obtain ⟨l, ys, rfl, q1, q2⟩ := p.list
    cases hg
    refine call_list_of pins s σ H _ us Q I rs ⟨l, ys, rfl, .inl q1, fun p hp => ?_⟩
    have sm := same_new (o := HO.lst ys) hp
    exact k _ _ sm ⟨p, _, rfl, hp, upd_same, q2.mono (Stb.of sm)⟩
  · obtain ⟨x, rfl, p⟩ := ps.one
    obtain ⟨l, ys, rfl, q1, q2⟩ := p.tuple
    cases hg
    refine call_list_of pins s σ H _ us Q I rs ⟨l, ys, rfl, .inr q1, fun p hp => ?_⟩
    have sm := same_new (o := HO.lst ys) hp
    exact k _ _ sm ⟨p, _, rfl, hp, upd_same, q2.mono (Stb.of sm)⟩
  · cases hg
def gDivmod : List D → Option C
  | [.int i, .int j] => if 0 < j ∧ j < 1073741824 then some (.val (.tup [.int (i / j), .int (i % j)])) else none
  | _ => none
theorem cd_divmod : CallD X (.builtin "divmod") gDivmod := by
  rintro pins s σ H xs us Q I rs ⟨ds, c, ps, hg, k⟩
  unfold gDivmod at hg
  split at hg
  · obtain ⟨x, y, rfl, p, q⟩ := ps.two
    cases p.int; cases q.int
    split at hg
    · rename_i hz
      cases hg
      refine call_divmod pins s σ H _ us Q I rs ⟨_, _, rfl, hz, fun p hp => ?_⟩
      exact k _ _ (same_new hp) (.tup (.of upd_same) (.cons (.int _) (.cons (.int _) .nil)))
    · cases hg
  · cases hg
/-! ### isinstance(x, T), T a built-in type -/
def isTy (T : String) : D → Option Bool
  | .int _ => if T = "int" then some true else if T = "bool" ∨ T = "str" ∨ T = "tuple" ∨ T = "list" then some false else none
  | .bl _ => if T = "int" ∨ T = "bool" then some true else if T = "str" ∨ T = "tuple" ∨ T = "list" then some false else none
  | .str _ => if T = "str" then some true else if T = "bool" ∨ T = "int" ∨ T = "tuple" ∨ T = "list" then some false else none
  | .non => if T = "bool" ∨ T = "int" ∨ T = "tuple" ∨ T = "list" ∨ T = "str" then some false else none
  | .tup _ => if T = "tuple" then some true else if T = "bool" ∨ T = "int" ∨ T = "str" ∨ T = "list" then some false else none
  | .lst _ => if T = "list" then some true else if T = "bool" ∨ T = "int" ∨ T = "str" ∨ T = "tuple" then some false else none
  | .obj _ _ => none
def fIsi (T : String) (fo : M O) : M C := fun δ => (fo δ).bind fun r => (r.1.toD r.2).bind fun d => (isTy T d).bind fun b => some (.val (.bl b), r.2)
theorem Pk.ty {H : Hp} {x : V} {d : D} {T : String} {b : Bool} (h : Pk X.K H x d) (e : isTy T d = some b) : ∃ t, TyX X.K H x t ∧ PySem.W.kitOne X.K t (.type T) = some b := by
  have tl : ∀ {a xs}, SqL X.K H a xs → TyX X.K H (.ref a) (.type "list") := fun {a xs} q => by
    rcases q with (q | ⟨o, q⟩) | ⟨o, its, n, q, c, _⟩
    · exact .base (.lst q)
    · exact .base (.frz q)
    · exact .kList q c
  have tt : ∀ {a xs}, SqT X.K H a xs → TyX X.K H (.ref a) (.type "tuple") := fun {a xs} q => by
    rcases q with (q | ⟨o, q⟩) | ⟨o, its, n, q, c, _⟩
    · exact .base (.tup q)
    · exact .fTuple q
    · exact .kTuple q c
  cases d with
  | int i =>
    cases h.int
    refine ⟨_, .base (.int i), ?_⟩
    simp only [isTy] at e
    split at e
    · subst_vars; cases e; exact kit_ty (by decide +kernel)
    · split at e
      · rename_i h1 h2; cases e; rcases h2 with rfl | rfl | rfl | rfl <;> exact kit_ty (by decide +kernel)
      · cases e
  | bl i =>
    cases h.bl
    refine ⟨_, .base (.bl i), ?_⟩
    simp only [isTy] at e
    split at e
    · rename_i h2; cases e; rcases h2 with rfl | rfl <;> exact kit_ty (by decide +kernel)
    · split at e
      · rename_i h1 h2; cases e; rcases h2 with rfl | rfl | rfl <;> exact kit_ty (by decide +kernel)
      · cases e
  | str i =>
    cases h.str
    refine ⟨_, .base (.str i), ?_⟩
    simp only [isTy] at e
    split at e
    · subst_vars; cases e; exact kit_ty (by decide +kernel)
    · split at e
      · rename_i h1 h2; cases e; rcases h2 with rfl | rfl | rfl | rfl <;> exact kit_ty (by decide +kernel)
      · cases e
  | non =>
    cases h.non
    refine ⟨_, .base .non, ?_⟩
    simp only [isTy] at e
    split at e
    · rename_i h2; cases e; rcases h2 with rfl | rfl | rfl | rfl | rfl <;> exact kit_ty (by decide +kernel)
    · cases e
  | tup ds =>
    obtain ⟨l, ys, rfl, q1, q2⟩ := h.tuple
    refine ⟨_, tt q1, ?_⟩
    simp only [isTy] at e
    split at e
    · subst_vars; cases e; exact kit_ty (by decide +kernel)
    · split at e
      · rename_i h1 h2; cases e; rcases h2 with rfl | rfl | rfl | rfl <;> exact kit_ty (by decide +kernel)
      · cases e
  | lst ds =>
    obtain ⟨l, ys, rfl, q1, q2⟩ := h.list
    refine ⟨_, tl q1, ?_⟩
    simp only [isTy] at e
    split at e
    · subst_vars; cases e; exact kit_ty (by decide +kernel)
    · split at e
      · rename_i h1 h2; cases e; rcases h2 with rfl | rfl | rfl | rfl <;> exact kit_ty (by decide +kernel)
      · cases e
  | obj _ _ => cases e
theorem de_isi {B : Bx} {T : String} {y : Str} {p p2 pos : Pos} {e : Expr} {fo : M O} (h : DO X B e fo) (hm : X.mg "isinstance" = none) (hmT : X.mg y = none) (hvT : bootBuiltins y = some (.type T)) (hg : Gl X "isinstance" := by rfl) (hgT : Gl X y := by rfl)
    (hn : y ≠ "__name__" := by decide) (hd : (y == ("__debug__" : Str)) = false := by decide)
    (hs1 : starEach [e, .Name y p2] X.env = (false, eval e X.env) :: starEach [.Name y p2] X.env := by rfl) (hs2 : starEach [.Name y p2] X.env = (false, eval (.Name y p2) X.env) :: starEach [] X.env := by rfl)
    (hpl : (backTo pos (starEach [.Name y p2] X.env)).any (·.1) = false := by rfl) (hK : B.K = X.K := by rfl) : DE X B (.Call (.Name "isinstance" p) [e, .Name y p2] [] pos) (fIsi T fo) :=
  pe_weak (pe_callB call_isi hg hm boot_isinstance (pa_cons h (pa_cons (pe_bltn (v := .ty T) hgT hmT hvT rfl hn hd) pa_nil hs2) hs1) (by decide) (by decide) hs1 hpl) fun σ H Q ⟨δ, c, δ', R, e, k⟩ => by
  obtain ⟨⟨o, δ1⟩, e1, e⟩ := bind_some e
  obtain ⟨d, e2, e⟩ := bind_some e
  obtain ⟨b, e3, e⟩ := bind_some e
  cases e
  refine ⟨δ, o, _, R, e1, fun v H1 G1 R1 r1 => ?_⟩
  have pk := ORes.pk (H1 := H) R1 r1 e2
  rw [hK] at pk
  obtain ⟨t, ty, kt⟩ := pk.ty e3
  exact ⟨v, .ty T, t, _, b, rfl, .ty T, ty, kt, k _ H1 G1 R1 (.bl b)⟩
/-! ### methods of texts -/
def gIndex : D → List D → Option C
  | .str a, [.str b] => (Txt.index0 a b).map fun k => .val (.int (k : Nat))
  | _, _ => none
theorem mtd_index : MtD X "str.index" gIndex := by
  rintro pins s σ H x xs v us Q I rx rs ⟨d, ds, c, p, ps, hg, k⟩
  unfold gIndex at hg
  split at hg
  · rename_i a b
    cases p.str
    obtain ⟨y, rfl, p2⟩ := ps.one
    cases p2.str
    obtain ⟨t, rfl⟩ := rx
    cases rs with
    | cons r1 rs =>
      cases rs
      obtain ⟨u, rfl⟩ := r1
      simp only [Option.map_eq_some_iff] at hg
      obtain ⟨m, h1, rfl⟩ := hg
      unfold Txt.index0 at h1
      cases q : Builtin.Str.occurrences a b 0 a.length 1 with
      | nil => rw [q] at h1; cases h1
      | cons k' rest =>
        rw [q] at h1
        cases h1
        exact PySem.SC.index q ⟨.int (m : Nat), H, I.tok _, ⟨_, rfl⟩, k _ H (Same.refl _) (.int _)⟩
  · cases hg
def gJoin : D → List D → Option C
  | .str a, [.lst ds] => (D.toStrs ds).bind fun ys => if (ys.map (·.length)).sum + ys.length * a.length ≤ 100000 then some (.val (.str (Txt.join a ys))) else none
  | _, _ => none
theorem mtd_join : MtD X "str.join" gJoin := by
  rintro pins s σ H x xs v us Q I rx rs ⟨d, ds, c, p, ps, hg, k⟩
  unfold gJoin at hg
  split at hg
  · cases p.str
    obtain ⟨y, rfl, p2⟩ := ps.one
    obtain ⟨ys, h1, hg⟩ := bind_some hg
    split at hg
    · rename_i hz
      cases hg
      cases toStrs_eq h1
      obtain ⟨l, vs, rfl, q1, q2⟩ := p2.list
      cases repAll_strs q2
      exact mt_join pins s σ H _ _ v us Q I rx rs ⟨_, l, ys, rfl, rfl, .inl q1, by omega, k _ H (Same.refl _) (.str _)⟩
    · cases hg
  · cases hg
def gRstrip : D → List D → Option C
  | .str a, [.str b] => if a.length ≤ 100000 then some (.val (.str (Txt.rstripChars a b))) else none
  | _, _ => none
theorem mtd_rstrip : MtD X "str.rstrip" gRstrip := by
  rintro pins s σ H x xs v us Q I rx rs ⟨d, ds, c, p, ps, hg, k⟩
  unfold gRstrip at hg
  split at hg
  · cases p.str
    obtain ⟨y, rfl, p2⟩ := ps.one
    cases p2.str
    split at hg
    · rename_i hz
      cases hg
      exact mt_rstripChars pins s σ H _ _ v us Q I rx rs ⟨_, _, rfl, rfl, sz5 hz, k _ H (Same.refl _) (.str _)⟩
    · cases hg
  · cases hg
end
end DL

set_option Elab.async false
set_option linter.all false
set_option maxRecDepth 100000
set_option maxHeartbeats 4000000
/-! DL7: two names at once, keywords, a def by its body, the law's end. -/
namespace DL
open PySem PySem.Spec PyProof.Rows L2

section
variable {X : Cx} {B : Bx}
/-! ### a, b = e1, e2 (two different local names) -/
theorem Rel.assign1 {σ : St} {H1 : Hp} {δ1 : DS} {i : Nat} {v : V} {c : C} (R1 : Rel B σ H1 δ1) (ok : CellOk B H1 v c) (hno : c.mine = true → ∀ a, v = .ref a → ¬ Own σ δ1 a) (hi : i < δ1.length) : Rel B (σ.set i (some v)) H1 (δ1.set i (some c)) := by
  have hiσ : i < σ.length := by rw [R1.len]; exact hi
  refine ⟨by rw [List.length_set, List.length_set]; exact R1.len, fun j cj hj => ?_, fun j k cj ck a hj hk mj mk sj sk => ?_, R1.frame, R1.trk⟩
  · by_cases e : i = j
    · subst e
      rw [List.getElem?_set_self hi] at hj; cases hj
      exact ⟨v, List.getElem?_set_self hiσ, ok⟩
    · rw [List.getElem?_set_ne e] at hj
      obtain ⟨w, h1, h2⟩ := R1.slot j cj hj
      exact ⟨w, by rw [List.getElem?_set_ne e]; exact h1, h2⟩
  · by_cases e : i = j
    · by_cases e2 : i = k
      · rw [← e, ← e2]
      · subst e
        rw [List.getElem?_set_self hi] at hj; cases hj
        rw [List.getElem?_set_self hiσ] at sj; cases sj
        rw [List.getElem?_set_ne e2] at hk sk
        exact (hno mj a rfl ⟨k, ck, hk, mk, sk⟩).elim
    · by_cases e2 : i = k
      · subst e2
        rw [List.getElem?_set_self hi] at hk; cases hk
        rw [List.getElem?_set_self hiσ] at sk; cases sk
        rw [List.getElem?_set_ne e] at hj sj
        exact (hno mk a rfl ⟨j, cj, hj, mj, sj⟩).elim
      · rw [List.getElem?_set_ne e] at hj sj
        rw [List.getElem?_set_ne e2] at hk sk
        exact R1.apart j k cj ck a hj hk mj mk sj sk
theorem CRes.cell {H H1 : Hp} {v : V} {c : C} (h0 : ∀ a, H a = none → B.H0 a = none) (h : CRes B.K H H1 v c) : CellOk B H1 v c := by
  cases c with
  | val d => exact h
  | own ds => obtain ⟨a, xs, rfl, q0, q1, q2⟩ := h; exact ⟨a, xs, rfl, q1, q2, h0 a q0⟩
  | io j ds => exact h.elim
def fPar (i j : Nat) (f : M (List O)) : M Fl := fun δ => (f δ).bind fun r => match r.1 with
  | [.r c1, .r c2] => if i < r.2.length ∧ j < r.2.length then some (.nx, (r.2.set i (some c1)).set j (some c2)) else none
  | _ => none
theorem ds_par {i j : Nat} {x y : Str} {a b : Expr} {fa : M (List O)} {px py pt pos : Pos} {kt k2 pt2} (hc : X.calm = true) (hN : X.N.Nodup) (ha : DA X B [a, b] fa) (hij : i ≠ j := by decide) (hi : X.N[i]? = some x := by rfl) (hj : X.N[j]? = some y := by rfl)
    (hx : X.env.scope.names.lookup x = some .local := by rfl) (hy : X.env.scope.names.lookup y = some .local := by rfl)
    (hw : swappedStores [.Tuple [.Name x px, .Name y py] kt pt] (.Tuple [a, b] k2 pt2) X.env = pure (some [x, y]) := by rfl)
    (hs : swapsWithSole [.Tuple [.Name x px, .Name y py] kt pt] (.Tuple [a, b] k2 pt2) pos.line X.env = pure false := by rfl) :
    DS1 X B (.Assign [.Tuple [.Name x px, .Name y py] kt pt] (.Tuple [a, b] k2 pt2) pos) (fPar i j fa) := ps_weak (ps_par hc hN hi hj hij hx hy ha hw hs) fun D σ H ⟨δ, r, δ', R, e, k⟩ => by
  obtain ⟨⟨os, δ1⟩, e1, e⟩ := bind_some e
  simp only at e
  split at e
  · rename_i zz c1 c2
    split at e
    · rename_i hl
      cases e
      refine ⟨δ, _, δ1, R, e1, fun vs H1 G1 R1 r1 => ?_⟩
      cases r1 with
      | cons ra rr rn =>
        cases rr with
        | cons rb rr2 rn2 =>
          cases rr2
          rename_i v w
          have ra : CRes B.K H H1 v c1 := ra
          have rb : CRes B.K H H1 w c2 := rb
          have f0 : ∀ a, H a = none → B.H0 a = none := fun a h => R.fresh0 h
          have no1 : ∀ {v : V} {c : C}, CRes B.K H H1 v c → c.mine = true → ∀ a, v = .ref a → ¬ Own σ δ1 a := fun {v c} h hm a ev z => by
            cases c with
            | val d => cases hm
            | own ds => obtain ⟨b, xs, rfl, q0, _⟩ := h; cases ev; exact R.notOwn q0 (G1.sub _ z)
            | io j ds => exact h.elim
          refine ⟨v, w, rfl, k _ H1 (R.stb G1) ((R1.assign1 (ra.cell f0) (no1 ra) hl.1).assign1 (rb.cell f0) (fun hm a ew z => ?_) (by rw [List.length_set]; exact hl.2))⟩
          obtain ⟨m, cm, z1, z2, z3⟩ := z
          by_cases em : i = m
          · subst em
            rw [List.getElem?_set_self hl.1] at z1; cases z1
            rw [List.getElem?_set_self (by rw [R1.len]; exact hl.1)] at z3; cases z3
            cases c1 with
            | val d => cases z2
            | own ds1 =>
              cases c2 with
              | val d => cases hm
              | own ds2 => exact rn 0 ds1 ds2 rfl rfl (by rw [ew]; rfl)
              | io _ _ => exact rb.elim
            | io _ _ => exact ra.elim
          · rw [List.getElem?_set_ne em] at z1 z3
            exact no1 rb hm a ew ⟨m, cm, z1, z2, z3⟩
    · cases e
  · cases e
/-- target = value, any target -/
def fAsg (ga : D → M Unit) (fv : M D) : M Fl := fun δ => (fv δ).bind fun r => (ga r.1 r.2).bind fun q => some (.nx, q.2)
theorem ds_asg {tg e : Expr} {ga : D → M Unit} {vs : List Nat} {fv : M D} {pos : Pos} (he : DV X B e fv) (hg : DG X B tg vs ga) (hs : swapsWithSole [tg] e pos.line X.env = pure false := by rfl) (hw : swappedStores [tg] e X.env = pure none := by rfl)
    (h1 : (assignEach [tg] X.env).map (·.2) = [assign tg X.env] := by rfl) : DS1 X B (.Assign [tg] e pos) (fAsg ga fv) := ps_weak (ps_asg he hg hs hw h1) fun D σ H ⟨δ, r, δ', R, e, k⟩ => by
  obtain ⟨⟨d, δ1⟩, e1, e⟩ := bind_some e
  obtain ⟨⟨_, δ2⟩, e2, e⟩ := bind_some e
  cases e
  exact ⟨δ, d, δ1, R, e1, fun v H1 G1 R1 r1 => ⟨d, δ1, _, R1, r1, e2, fun σ2 H2 _ G2 R2 => k σ2 H2 ((R.stb G1).trans (R1.stbS G2)) R2⟩⟩
/-! ### [..] * n -/
def fRepL (fa : M C) (fb : M O) : M C := fun δ => (fa δ).bind fun r => (fb r.2).bind fun q => match r.1 with
  | .own ds => (q.1.toD q.2).bind fun e => match e with
    | .int n => if -100000 ≤ n ∧ n ≤ 100000 ∧ ds.length * n.toNat ≤ 100000 then some (.own (List.replicate n.toNat ds).flatten, q.2) else none
    | _ => none
  | _ => none
theorem de_repL {a b : Expr} {fa : M C} {fb : M O} {pos : Pos} (ha : DE X B a fa) (hb : DO X B b fb) (hK : B.K = X.K := by rfl) : DE X B (.BinOp a .Mult b pos) (fRepL fa fb) := pe_weak (pe_op op_rep ha hb) fun σ H Q ⟨δ, c, δ', R, e, k⟩ => by
  obtain ⟨⟨ca, δ1⟩, e1, e⟩ := bind_some e
  obtain ⟨⟨ob, δ2⟩, e2, e⟩ := bind_some e
  cases ca with
  | own ds =>
    obtain ⟨d, e3, e⟩ := bind_some e
    cases d <;> try (cases e; done)
    rename_i n
    simp only at e
    split at e
    · rename_i hz
      cases e
      refine ⟨δ, _, δ1, R, e1, fun x H1 G1 R1 r1 => ⟨δ1, ob, _, R1, e2, fun y H2 G2 R2 r2 => ?_⟩⟩
      obtain ⟨p, xs, rfl, q0, q1, q2⟩ := CRes.later R R1 G1 G2 r1
      have pk := ORes.pk (H1 := H) R2 r2 e3
      refine ⟨p, n, xs, rfl, pk.int, q1, by omega, by omega, by rw [q2.len]; exact sz5 hz.2.2, fun l hl => ?_⟩
      have sm := same_new (o := HO.lst (List.replicate n.toNat xs).flatten) hl
      refine k _ _ ((G1.trans G2).trans (Go.of sm)) (R2.same sm) ⟨l, _, rfl, ?_, upd_same, (q2.mono (Stb.of sm)).rep _⟩
      cases q : H l with
      | none => rfl
      | some w => exact absurd hl ((G1.trans G2).trk l (by rw [q]; intro z; cases z))
    · cases e
  | _ => cases e
/-! ### keywords -/
abbrev DK (X : Cx) (B : Bx) (kws : List Keyword) (f : M (List O)) : Prop := PK X kws (tA B f)
theorem pk_weak {kws : List Keyword} {t t' : TA} (h : PK X kws t) (w : ∀ σ H Q, t' σ H Q → t σ H Q) : PK X kws t' := ⟨fun pos pins s σ H Q I hw => h.run pos pins s σ H Q I (w _ _ _ hw)⟩
theorem pk_gh {kws : List Keyword} {t : TA} (h : PK X kws t) : PK X kws (fun σ H Q => t σ H fun v H1 => Gh (Q v) H1) := ⟨fun pos pins s σ H Q I hw =>
  thn (h.run pos pins s σ H _ I hw) fun us s1 ⟨vs, H1, I1, r, q⟩ => let ⟨H', I', q'⟩ := q.run I1; ⟨vs, H', I', r, q'⟩⟩
theorem dk_nil : DK X B [] aNil := pk_weak pk_nil fun σ H Q ⟨δ, c, δ', R, e, k⟩ => by cases e; exact k [] H (Go.refl _ _ _) R .nil
theorem dk_cons {e : Expr} {kws : List Keyword} {nm : Option Str} {kpos : Pos} {fo : M O} {fr : M (List O)} (h : DO X B e fo) (h2 : DK X B kws fr) : DK X B (⟨nm, e, kpos⟩ :: kws) (aCons fo fr) := pk_weak (pk_cons h h2) fun σ H Q ⟨δ, os, δ', R, e, k⟩ => by
  obtain ⟨⟨o, δ1⟩, e1, e⟩ := bind_some e
  obtain ⟨⟨or, δ2⟩, e2, e⟩ := bind_some e
  cases e
  exact ⟨δ, o, δ1, R, e1, fun v H1 G1 R1 r1 => ⟨δ1, or, _, R1, e2, fun vs H2 G2 R2 r2 => k (v :: vs) H2 (G1.trans G2) R2 (.cons (ORes.later R R1 G1 G2 r1) (r2.back G1.trk) fun i ds ds' z1 z2 z3 => by
    subst z1
    obtain ⟨a, xs, rfl, _, h1, _⟩ := r1
    obtain ⟨v', h3, b, ys, rfl, h4, _⟩ := r2.get z2
    rw [z3] at h3; cases h3
    rw [h1] at h4; cases h4)⟩⟩
abbrev DKs (X : Cx) (B : Bx) (kws : List Keyword) (f : M (List D)) : Prop := PK X kws (tVs B f)
theorem dks_of {kws : List Keyword} {fr : M (List O)} (h : DK X B kws fr) : DKs X B kws (fFrz fr) := pk_weak (pk_gh h) fun σ H Q ⟨δ, ds, δ', R, e, k⟩ => by
  obtain ⟨⟨os, δ1⟩, e1, e⟩ := bind_some e
  exact ⟨δ, os, δ1, R, e1, fun vs H1 G1 R1 r1 => frz_all R R1 G1 r1 e fun H' G' R' _ r' _ => k vs H' G' R' r'⟩
/-- the places in another order -/
def pick {α : Type} (perm : List Nat) (l : List α) : List α := perm.filterMap fun i => l[i]?
theorem pick_rep {K : PySem.W.Frag} {H : Hp} {vs : List V} {ds : List D} (r : RepAll K H vs ds) : ∀ perm, RepAll K H (pick perm vs) (pick perm ds)
  | [] => .nil
  | i :: perm => by
    have ih := pick_rep r perm
    cases h : ds[i]? with
    | none =>
      have h2 : vs[i]? = none := by rw [List.getElem?_eq_none_iff] at h ⊢; rw [r.len]; exact h
      show RepAll K H ((i :: perm).filterMap _) ((i :: perm).filterMap _)
      rw [List.filterMap_cons_none h, List.filterMap_cons_none h2]
      exact ih
    | some d =>
      obtain ⟨v, h2, h3⟩ := r.get h
      show RepAll K H ((i :: perm).filterMap _) ((i :: perm).filterMap _)
      rw [List.filterMap_cons_some h, List.filterMap_cons_some h2]
      exact .cons h3 ih
theorem pick_vals {vs : List V} {us : List Value} (r : Vals vs us) : ∀ perm, Vals (pick perm vs) (pick perm us)
  | [] => .nil
  | i :: perm => by
    have ih := pick_vals r perm
    cases h : vs[i]? with
    | none =>
      have h2 : us[i]? = none := r.none_of h
      show Vals ((i :: perm).filterMap _) ((i :: perm).filterMap _)
      rw [List.filterMap_cons_none h, List.filterMap_cons_none h2]
      exact ih
    | some d =>
      obtain ⟨v, h2, h3⟩ := r.get h
      show Vals ((i :: perm).filterMap _) ((i :: perm).filterMap _)
      rw [List.filterMap_cons_some h, List.filterMap_cons_some h2]
      exact .cons h3 ih
/-- a def called by keywords alone, names ks -/
structure GKw (P : Program) (w : World) (K : PySem.W.Frag) (mg : Str → Option Value) (base : Heap) (k : Nat) (x : Str) (n : Nat) (F : List D → Option C) (ks : List Str) (perm : List Nat) : Prop where
  ex : ∃ (f : Addr) (fd : FuncData) (ps : List Str), FnOk P w K mg base CX0 k f fd ps (spF K n F) ∧ mg x = some (.ref f) ∧ PySem.W.keepIn K (.ref f) = true ∧
    ∀ (s : Shared) (ws : List Value), K.In s.heap → ws.length = ks.length → BindsTo s fd ⟨[], ks.zip ws⟩ (ps.zip (pick perm ws))
def fCallK (F : List D → Option C) (n m : Nat) (perm : List Nat) (f : M (List D)) : M C := fun δ => (f δ).bind fun r => if r.1.length = m ∧ (pick perm r.1).length = n then (F (pick perm r.1)).bind fun c => some (c, r.2) else none
theorem de_callK {k n m : Nat} {x : Str} {p pos : Pos} {kws : List Keyword} {F : List D → Option C} {ks : List Str} {perm : List Nat} {fk : M (List D)} (Gf : GKw X.prog X.w X.K X.mg X.base k x n F ks perm) (hr : Room k X.A) (ha : DKs X B kws fk) (hg : Gl X x := by rfl) (hdb : (x == ("__debug__" : Str)) = false := by decide)
    (hall : (backToKw pos (keywordEach kws X.env)).all (·.1.isSome) = true := by rfl) (hks : (backToKw pos (keywordEach kws X.env)).filterMap (·.1) = ks := by rfl)
    (hpl : ((backTo pos (starEach [] X.env)).any (·.1) || (backToKw pos (keywordEach kws X.env)).any (·.1.isNone)) = false := by rfl) (hK : B.K = X.K := by rfl) (hm' : ks.length = m := by rfl) :
    DE X B (.Call (.Name x p) [] kws pos) (fCallK F n m perm fk) := by
  subst hm'
  obtain ⟨f, fd, ps, ok, hm, kp, hb⟩ := Gf.ex
  refine ⟨fun pins s σ H Q I ⟨δ, c, δ', R, e, k⟩ => ?_⟩
  obtain ⟨⟨ds, δ1⟩, e1, e⟩ := bind_some e
  simp only at e
  split at e
  · rename_i hl
    obtain ⟨c', e2, e⟩ := bind_some e
    cases e
    refine wpAny_Call_Name_kw (ld_glob I hg hm ?_ hdb)
    refine PySem.W.callWith_KW0 (h₀ := X.base) I.ok.mod.kin kp hall (thn (ha.run pos pins s σ H (fun vs H1 => spF X.K n F (pick perm vs) H1 Q E0 ∧ vs.length = ks.length) I ⟨δ, ds, _, R, e1, fun vs H1 G1 R1 r1 => ?_⟩) fun ws s2 ⟨zs, H2, I2, rz, q2, l2⟩ => ⟨I2.kIn, ?_⟩) hpl
    · refine ⟨⟨?_, pick perm ds, c, ?_, e2, fun v H' s cr => ?_⟩, by rw [r1.len]; exact hl.1⟩
      · rw [(pick_rep r1 perm).len]; exact hl.2
      · rw [← hK]; exact pick_rep r1 perm
      · rw [← hK] at cr
        exact k v H' (G1.trans (Go.of s)) (R1.same s) (cr.back G1.trk)
    · rw [hks]
      refine wpAny_call (codeAny_mono (ok.run X.A X.stack s2 H2 ⟨[], ks.zip ws⟩ (pick perm ws) (pick perm zs) Q E0 hr I2.env0 (hb s2 ws I2.kIn (by rw [← rz.length]; exact l2)) (pick_vals rz perm) q2) fun r s' hq => ?_)
      cases r with
      | error e => exact hq.elim
      | ok fl =>
        cases fl with
        | ret u => exact I2.after hq
        | next => exact False.elim hq
        | brk => exact False.elim hq
        | cont => exact False.elim hq
  · cases e
end

/-! ### a def by its body -/
@[simp] def startD (N : List Str) (ds : List D) : DS := ds.map (fun d => some (C.val d)) ++ List.replicate (N.length - ds.length) none
@[simp] def startIo (N : List Str) (es : List D) (ds : List D) : DS := some (C.io 0 es) :: (ds.map (fun d => some (C.val d)) ++ List.replicate (N.length - (ds.length + 1)) none)
def outOf : Fl → Option C
  | .rt c => some c
  | .nx => some (.val .non)
  | _ => none
section
variable {P : Program} {w : World} {K : PySem.W.Frag} {mg : Str → Option Value} {base : Heap}
theorem start_get {N : List Str} {vs : List V} {i : Nat} {v : V} (h : vs[i]? = some v) : (L2.start N vs)[i]? = some (some v) := by
  unfold L2.start
  have hl := (List.getElem?_eq_some_iff.mp h).1
  rw [List.getElem?_append_left (by simpa using hl), List.getElem?_map, h]
  rfl
theorem fnok_of {x : Str} {st : Stmt} {f : Addr} {fd : FuncData} {N ps : List Str} {k n : Nat} {F : List D → Option C} {fm : M Fl} (Fn : L2.Fun K x x st f fd) (S : FnScope N ps (defScope st)) (hn : ps.length = n)
    (body : ∀ (cdv : Value) (A : Around) (outer : List Env) (s : Shared) (H : Hp) (E : XK) (B : Bx), B.K = K → Room k (A.deeper (envOfC x (defScope st) s.heap.objs.size f cdv)) → DSs (cxOf CX0 P w K mg base N x (defScope st) f cdv A outer s H E).nox B (defBody st) fm)
    (hF : ∀ ds c, ds.length = n → F ds = some c → ∃ r δ', fm (startD N ds) = some (r, δ') ∧ outOf r = some c) : FnOk P w K mg base CX0 (k + 1) f fd ps (spF K n F) := by
  have hpl : ps.length ≤ N.length := by have := congrArg List.length S.pre; rw [List.length_take] at this; omega
  refine Fn.ok S (fun vs H Q E h => by rw [h.1, hn]) fun cdv A outer s H vs Q E hr ⟨hl, ds, c, r, hf, kk⟩ => ?_
  refine ⟨tDS ⟨K, H, fun _ => none⟩ fm, body cdv A outer s H E ⟨K, H, fun _ => none⟩ rfl hr, ?_⟩
  have ld : ds.length = n := by rw [← r.len]; exact hl
  obtain ⟨fl, δ', e1, e2⟩ := hF ds c ld hf
  refine ⟨startD N ds, fl, δ', ⟨?_, fun i ci hi => ?_, fun i j ci cj a hi _ mi => ?_, fun b o e _ => e, fun b h => h⟩, e1, ?_⟩
  · unfold L2.start startD
    simp only [List.length_append, List.length_map, List.length_replicate]
    rw [r.len]
  · have hlt : i < ds.length := by
      by_cases h : i < ds.length
      · exact h
      · unfold startD at hi
        rw [List.getElem?_append_right (by simpa using h), List.getElem?_replicate] at hi
        split at hi <;> cases hi
    unfold startD at hi
    rw [List.getElem?_append_left (by simpa using hlt), List.getElem?_map, List.getElem?_eq_getElem hlt] at hi
    cases hi
    obtain ⟨v, h1, h2⟩ := r.get (List.getElem?_eq_getElem hlt)
    exact ⟨v, start_get h1, h2⟩
  · have hlt : i < ds.length := by
      by_cases h : i < ds.length
      · exact h
      · unfold startD at hi
        rw [List.getElem?_append_right (by simpa using h), List.getElem?_replicate] at hi
        split at hi <;> cases hi
    unfold startD at hi
    rw [List.getElem?_append_left (by simpa using hlt), List.getElem?_map, List.getElem?_eq_getElem hlt] at hi
    cases hi
    cases mi
  · cases fl with
    | nx => cases e2; exact fun σ' H' _ R' => kk .non H' (fun b o e => R'.frame b o e fun _ z => nomatch z) .non
    | rt c' => cases e2; exact fun v σ' H' _ R' cr => kk v H' (fun b o e => R'.frame b o e fun _ z => nomatch z) cr
    | bk => cases e2
    | ct => cases e2
theorem fnok_io {x : Str} {st : Stmt} {f : Addr} {fd : FuncData} {N ps : List Str} {k n : Nat} {F : List D → Option (C × List D)} {fm : M Fl} (Fn : L2.Fun K x x st f fd) (S : FnScope N ps (defScope st)) (hn : ps.length = n)
    (body : ∀ (cdv : Value) (A : Around) (outer : List Env) (s : Shared) (H : Hp) (E : XK) (B : Bx), B.K = K → Room k (A.deeper (envOfC x (defScope st) s.heap.objs.size f cdv)) → DSs (cxOf CX0 P w K mg base N x (defScope st) f cdv A outer s H E).nox B (defBody st) fm)
    (hF : ∀ es ds c es', ds.length + 1 = n → F (.lst es :: ds) = some (c, es') → ∃ r δ', fm (startIo N es ds) = some (r, δ') ∧ outOf r = some c ∧ δ'[0]? = some (some (.io 0 es'))) : FnOk P w K mg base CX0 (k + 1) f fd ps (spIo K n F) := by
  have hpl : ps.length ≤ N.length := by have := congrArg List.length S.pre; rw [List.length_take] at this; omega
  refine Fn.ok S (fun vs H Q E h => by rw [h.1, hn]) fun cdv A outer s H vs Q E hr ⟨hl, a, xs, vr, es, ds, c, es', ev, ha, r0, r, hf, kk⟩ => ?_
  subst ev
  refine ⟨tDS ⟨K, H, fun j => if j = 0 then some a else none⟩ fm, body cdv A outer s H E ⟨K, H, _⟩ rfl hr, ?_⟩
  have ld : ds.length + 1 = n := by rw [← r.len, ← hl]; rfl
  obtain ⟨fl, δ', e1, e2, e3⟩ := hF es ds c es' ld hf
  have inner : ∀ (i : Nat) (ci : C), (startIo N es ds)[i + 1]? = some (some ci) → ∃ d, ds[i]? = some d ∧ ci = .val d := fun i ci hi => by
    unfold startIo at hi
    rw [List.getElem?_cons_succ] at hi
    by_cases h : i < ds.length
    · rw [List.getElem?_append_left (by simpa using h), List.getElem?_map, List.getElem?_eq_getElem h] at hi
      cases hi
      exact ⟨_, List.getElem?_eq_getElem h, rfl⟩
    · rw [List.getElem?_append_right (by simpa using h), List.getElem?_replicate] at hi
      split at hi <;> cases hi
  have fin : ∀ {σ' : St} {H' : Hp}, Rel ⟨K, H, fun j => if j = 0 then some a else none⟩ σ' H' δ' → (∀ b o, H b = some o → b ≠ a → H' b = some o) ∧ ∃ xs', H' a = some (.lst xs') ∧ RepAll K H' xs' es' := fun {σ' H'} R' => by
    refine ⟨fun b o e hb => R'.frame b o e fun j z => ?_, ?_⟩
    · have z : (if j = 0 then some a else none) = some b := z
      split at z
      · cases z; exact hb rfl
      · cases z
    · obtain ⟨v, _, b, xs', rfl, q1, q2, q3⟩ := R'.slot 0 _ e3
      have q3 : (if (0 : Nat) = 0 then some a else none) = some b := q3
      rw [if_pos rfl] at q3
      cases q3
      exact ⟨xs', q1, q2⟩
  refine ⟨startIo N es ds, fl, δ', ⟨?_, fun i ci hi => ?_, fun i j ci cj b hi hj mi mj _ _ => ?_, fun b o e _ => e, fun b h => h⟩, e1, ?_⟩
  · unfold L2.start startIo
    simp only [List.length_append, List.length_map, List.length_replicate, List.length_cons]
    rw [r.len]
    omega
  · cases i with
    | zero =>
      cases hi
      exact ⟨.ref a, start_get rfl, a, xs, rfl, ha, r0, rfl⟩
    | succ i =>
      obtain ⟨d, h1, rfl⟩ := inner i ci hi
      obtain ⟨v, h2, h3⟩ := r.get h1
      exact ⟨v, start_get (by rw [List.getElem?_cons_succ]; exact h2), h3⟩
  · cases i with
    | zero =>
      cases j with
      | zero => rfl
      | succ j => obtain ⟨d, _, rfl⟩ := inner j cj hj; cases mj
    | succ i => obtain ⟨d, _, rfl⟩ := inner i ci hi; cases mi
  · cases fl with
    | nx => cases e2; exact fun σ' H' _ R' => let ⟨f1, xs', f2, f3⟩ := fin R'; kk .non H' xs' f1 f2 f3 .non
    | rt c' => cases e2; exact fun v σ' H' _ R' cr => let ⟨f1, xs', f2, f3⟩ := fin R'; kk v H' xs' f1 f2 f3 cr
    | bk => cases e2
    | ct => cases e2
/-- the law's end: F is told of every script -/
theorem walk_D {l : PySem.W.OpenLaw} {n k : Nat} {q : Program} {loose : List Str} {XP : (Str → Option Value) → Heap → Prop} {YP : World → Heap → Prop} {d : DefRec} {K : Params → PySem.W.Frag} {x : Str} {F : List D → Option C}
    (hn : l.most = some n) (hn2 : n ≤ sizeLine) (hdf : d.params.defaults = []) (hr : Room k callerA)
    (hY : ∀ (w : World) (h : Heap), YP w h → (K w.params).In h)
    (hF : ∀ ns : List Int, ns.length ≤ n → F [.lst (ns.map .int)] = some (.val (.bl true)))
    (G : ∀ (w : World) (mg : Str → Option Value) (fa : Addr) (h : Heap), (K w.params).In h → h.Ns mainGlobals mg → mg d.name = some (.ref fa) →
      ∃ fd : FuncData, (∀ (s : Shared) (u : Value), BindsTo s fd ⟨[u], []⟩ [(x, u)]) ∧
        ∀ base : Heap, (K w.params).In base → base.Ns mainGlobals mg → FnOk l.prog w (K w.params) mg base CX0 k fa fd [x] (spF (K w.params) 1 F)) :
    PySem.W.WalkO q loose XP YP l.row.toRowW d [] (fun f vs => PySem.call f vs) :=
  L2.walk_of (n := n) (k := k) (x := x) (CX := fun _ => CX0) (sp := fun w => spF (K w.params) 1 F) hn hn2 hdf hr hY G (fun w H a ns hl hO hS => by
    refine ⟨rfl, [.lst (ns.map .int)], .val (.bl true), .cons (.lst (xs := ns.map V.int) ?_ ?_) .nil, hF ns hl, fun v H' _ cr => by cases cr; rfl⟩
    · rcases hS with (h | h) | h
      · rcases hO a with z | ⟨o, xs, z⟩
        · rw [h] at z; cases z
        · rw [h] at z; cases z
      · exact .inl h
      · exact .inr h
    · have : ∀ ns : List Int, RepAll (K w.params) H (ns.map V.int) (ns.map D.int) := fun ns => by
        induction ns with
        | nil => exact .nil
        | cons n ns ih => exact .cons (.int n) ih
      exact this ns) fun _ _ _ _ _ z => z
end
end DL

set_option Elab.async false
set_option linter.all false
set_option maxRecDepth 100000
set_option maxHeartbeats 4000000
/-! DL8: constants of the module, xs[::-1], a def's answer as its own state function tells it. -/
namespace DL
open PySem PySem.Spec PyProof.Rows L2

section
variable {X : Cx} {B : Bx}
theorem de_gint {x : Str} {i : Int} {pos : Pos} (h : ∃ t, X.mg x = some (.int i t)) (hg : Gl X x := by rfl) (hd : (x == ("__debug__" : Str)) = false := by decide) : DE X B (.Name x pos) (fC (.int i)) := by
  obtain ⟨t, h⟩ := h
  exact de_glob (v := .int i) h ⟨t, rfl⟩ (fun _ _ => .int i) hg hd
theorem de_gstr {x z : Str} {pos : Pos} (h : ∃ t, X.mg x = some (.str z t)) (hg : Gl X x := by rfl) (hd : (x == ("__debug__" : Str)) = false := by decide) : DE X B (.Name x pos) (fC (.str z)) := by
  obtain ⟨t, h⟩ := h
  exact de_glob (v := .str z) h ⟨t, rfl⟩ (fun _ _ => .str z) hg hd
theorem RepAll.rev {K : PySem.W.Frag} {H : Hp} : ∀ {vs : List V} {ds : List D}, RepAll K H vs ds → RepAll K H vs.reverse ds.reverse
  | _, _, .nil => .nil
  | _, _, .cons a b => by rw [List.reverse_cons, List.reverse_cons]; exact (RepAll.rev b).app (.cons a .nil)
/-- xs[::-1] of a list -/
def fBack (f : M O) : M C := fun δ => (f δ).bind fun r => (r.1.toD r.2).bind fun d => match d with
  | .lst ds => some (.own ds.reverse, r.2)
  | _ => none
theorem de_back {e : Expr} {fo : M O} {k : Nat} {p1 p2 p3 pos : Pos} (h : DO X B e fo) (hK : B.K = X.K := by rfl) : DE X B (.Subscript e (.Slice none none (some (.UnaryOp .USub (.Constant (.int 1) k p1) p2)) p3) pos) (fBack fo) := pe_weak (pe_revL h) fun σ H Q ⟨δ, c, δ', R, e, k⟩ => by
  obtain ⟨⟨o, δ1⟩, e1, e⟩ := bind_some e
  obtain ⟨d, e2, e⟩ := bind_some e
  cases d with
  | lst ds =>
    cases e
    refine ⟨δ, o, _, R, e1, fun v H1 G1 R1 r1 => ?_⟩
    obtain ⟨a, xs, rfl, q1, q2⟩ := (ORes.pk (H1 := H) R1 r1 e2).list
    refine ⟨a, xs, rfl, by rw [← hK]; exact q1, fun p hp => ?_⟩
    have sm := same_new (o := HO.lst xs.reverse) hp
    refine k _ _ (G1.trans (Go.of sm)) (R1.same sm) ⟨p, _, rfl, ?_, upd_same, (q2.mono (Stb.of sm)).rev⟩
    cases q : H p with
    | none => rfl
    | some w => exact absurd hp (G1.trk p (by rw [q]; intro z; cases z))
  | _ => cases e
end
/-- the answer that a state function gives -/
def runF (N : List Str) (n : Nat) (m : M Fl) (ds : List D) : Option C := if ds.length = n then (m (startD N ds)).bind fun r => outOf r.1 else none
theorem runF_spec {N : List Str} {n : Nat} {m : M Fl} {ds : List D} {c : C} (h : runF N n m ds = some c) : ∃ r δ', m (startD N ds) = some (r, δ') ∧ outOf r = some c := by
  unfold runF at h
  split at h
  · obtain ⟨⟨r, δ'⟩, h1, h2⟩ := bind_some h
    exact ⟨r, δ', h1, h2⟩
  · cases h
def ioOut (c : Option C) (x : Option (Option C)) : Option (C × List D) := match c, x with
  | some c, some (some (.io 0 es)) => some (c, es)
  | _, _ => none
def runIo (N : List Str) (n : Nat) (m : M Fl) (ds : List D) : Option (C × List D) := match ds with
  | .lst es :: r => if r.length + 1 = n then (m (startIo N es r)).bind fun q => ioOut (outOf q.1) q.2[0]? else none
  | _ => none
theorem runIo_spec {N : List Str} {n : Nat} {m : M Fl} {es ds : List D} {c : C} {es' : List D} (h : runIo N n m (.lst es :: ds) = some (c, es')) : ∃ r δ', m (startIo N es ds) = some (r, δ') ∧ outOf r = some c ∧ δ'[0]? = some (some (.io 0 es')) := by
  unfold runIo at h
  simp only at h
  split at h
  · obtain ⟨⟨r, δ'⟩, h1, h2⟩ := bind_some h
    simp only at h2
    unfold ioOut at h2
    split at h2
    · rename_i c' es2 q1 q2
      cases h2
      exact ⟨r, δ', h1, q1, q2⟩
    · cases h2
  · cases h
section
variable {K : PySem.W.Frag}
theorem Fun_kw {x qual : Str} {st : Stmt} {f : Addr} {fd : FuncData} {ps ks : List Str} {perm : List Nat} (F : L2.Fun K x qual st f fd)
    (h : ∀ (kV doc pm : Value) (an : Option Addr) (cdv ct : Value) (ws : List Value), ws.length = ks.length → bindArgs (PySem.W.fnOf x qual (defArgs st) (defBody st) (defScope st) .none kV doc pm an cdv ct) ⟨[], ks.zip ws⟩ = pure (ps.zip (pick perm ws))) :
    ∀ (s : Shared) (ws : List Value), K.In s.heap → ws.length = ks.length → BindsTo s fd ⟨[], ks.zip ws⟩ (ps.zip (pick perm ws)) := fun s ws _ hl => by
  obtain ⟨oc, od, kV, doc, pm, an, cdv, ct, osl, rfl, lk, hcd⟩ := F.ex
  exact .of_eq (h kV doc pm an cdv ct ws hl)
theorem Fun_all {x qual : Str} {st : Stmt} {f : Addr} {fd : FuncData} {p : Str} (F : L2.Fun K x qual st f fd)
    (h : ∀ (kV doc pm : Value) (an : Option Addr) (cdv ct : Value) (u : Value), bindArgs (PySem.W.fnOf x qual (defArgs st) (defBody st) (defScope st) .none kV doc pm an cdv ct) ⟨[u], []⟩ = pure [(p, u)]) :
    ∀ (s : Shared) (u : Value), BindsTo s fd ⟨[u], []⟩ [(p, u)] := fun s u => by
  obtain ⟨oc, od, kV, doc, pm, an, cdv, ct, osl, rfl, lk, hcd⟩ := F.ex
  exact .of_eq (h kV doc pm an cdv ct u)
end
end DL

set_option Elab.async false
set_option linter.all false
/-! the combinators at a state, one step each; the continuations bear names, so that nothing is looked at before its turn -/
namespace DL
open PySem PySem.Spec PyProof.Rows L2
section
variable {δ : DS} {o : O} {os : List O} {c : C} {d e : D} {ds : List D} {b : Bool} {z : Str} {n : Int}
/-! names -/
def nameAt (x : Option (Option C)) (i : Nat) (δ : DS) : Option (C × DS) := match x with
  | some (some (.val d)) => some (.val d, δ)
  | some (some (.own ds)) => some (.val (.lst ds), δ.set i (some (.val (.lst ds))))
  | _ => none
@[simp] theorem nameAt_val {i : Nat} : nameAt (some (some (.val d))) i δ = some (.val d, δ) := rfl
@[simp] theorem nameAt_own {i : Nat} : nameAt (some (some (.own ds))) i δ = some (.val (.lst ds), δ.set i (some (.val (.lst ds)))) := rfl
@[simp] theorem fName_ap (i : Nat) (δ : DS) : fName i δ = nameAt (δ[i]?) i δ := rfl
def onameAt (x : Option (Option C)) (i : Nat) (δ : DS) : Option (O × DS) := match x with
  | some (some _) => some (.sl i, δ)
  | _ => none
@[simp] theorem onameAt_c {i : Nat} : onameAt (some (some c)) i δ = some (.sl i, δ) := rfl
@[simp] theorem oName_ap (i : Nat) (δ : DS) : oName i δ = onameAt (δ[i]?) i δ := rfl
def slotD (x : Option (Option C)) : Option D := match x with
  | some (some c) => some c.toD
  | _ => none
@[simp] theorem slotD_c : slotD (some (some c)) = some c.toD := rfl
@[simp] theorem toD_r {δ : DS} {c : C} : O.toD δ (.r c) = some c.toD := rfl
@[simp] theorem toD_sl {δ : DS} {i : Nat} : O.toD δ (.sl i) = slotD δ[i]? := rfl
@[simp] theorem fC_ap (d : D) (δ : DS) : fC d δ = some (.val d, δ) := rfl
def kO : C × DS → Option (O × DS) := fun r => some (.r r.1, r.2)
@[simp] theorem kO_ap : kO (c, δ) = some (.r c, δ) := rfl
@[simp] theorem fO_ap {f : M C} : fO f δ = (f δ).bind kO := rfl
def kV : C × DS → Option (D × DS) := fun r => some (r.1.toD, r.2)
@[simp] theorem kV_ap : kV (c, δ) = some (c.toD, δ) := rfl
@[simp] theorem fV_ap {f : M C} : fV f δ = (f δ).bind kV := rfl
/-! operators -/
def kPut (δ : DS) : C → Option (C × DS) := fun c => some (c, δ)
@[simp] theorem kPut_ap : kPut δ c = some (c, δ) := rfl
def kB4 (g : D → D → Option C) (d : D) (δ : DS) : D → Option (C × DS) := fun e => (g d e).bind (kPut δ)
@[simp] theorem kB4_ap {g} : kB4 g d δ e = (g d e).bind (kPut δ) := rfl
def kB3 (g : D → D → Option C) (o : O) (δ : DS) : D → Option (C × DS) := fun d => (o.toD δ).bind (kB4 g d δ)
@[simp] theorem kB3_ap {g} : kB3 g o δ d = (o.toD δ).bind (kB4 g d δ) := rfl
def kB2 (g : D → D → Option C) (o : O) : O × DS → Option (C × DS) := fun q => (o.toD q.2).bind (kB3 g q.1 q.2)
@[simp] theorem kB2_ap {g} {o' : O} : kB2 g o (o', δ) = (o.toD δ).bind (kB3 g o' δ) := rfl
def kB1 (g : D → D → Option C) (fb : M O) : O × DS → Option (C × DS) := fun r => (fb r.2).bind (kB2 g r.1)
@[simp] theorem kB1_ap {g} {fb : M O} : kB1 g fb (o, δ) = (fb δ).bind (kB2 g o) := rfl
@[simp] theorem fBin_ap {g} {fa fb : M O} : fBin g fa fb δ = (fa δ).bind (kB1 g fb) := rfl
def kT : C × DS → Option (Bool × DS) := fun r => match r.1 with
  | .val (.bl b) => some (b, r.2)
  | _ => none
@[simp] theorem kT_ap : kT (.val (.bl b), δ) = some (b, δ) := rfl
@[simp] theorem fTest_ap {f : M C} : fTest f δ = (f δ).bind kT := rfl
/-! a chain of two comparisons -/
def kCh7 (g' : D → D → Option C) (e' : D) (δ : DS) : D → Option (C × DS) := fun m => (g' e' m).bind (kPut δ)
@[simp] theorem kCh7_ap {g'} {e' m : D} : kCh7 g' e' δ m = (g' e' m).bind (kPut δ) := rfl
def kCh6 (g' : D → D → Option C) (o3 : O) (δ : DS) : D → Option (C × DS) := fun e' => (o3.toD δ).bind (kCh7 g' e' δ)
@[simp] theorem kCh6_ap {g'} {o3 : O} : kCh6 g' o3 δ e = (o3.toD δ).bind (kCh7 g' e δ) := rfl
def kCh5 (g' : D → D → Option C) (o2 : O) : O × DS → Option (C × DS) := fun w => (o2.toD w.2).bind (kCh6 g' w.1 w.2)
@[simp] theorem kCh5_ap {g'} {o2 : O} : kCh5 g' o2 (o, δ) = (o2.toD δ).bind (kCh6 g' o δ) := rfl
def kCh4 (g' : D → D → Option C) (fc : M O) (o2 : O) (δ : DS) : C → Option (C × DS) := fun c => match c with
  | .val (.bl true) => (fc δ).bind (kCh5 g' o2)
  | .val (.bl false) => some (.val (.bl false), δ)
  | _ => none
@[simp] theorem kCh4_t {g'} {fc : M O} {o2 : O} : kCh4 g' fc o2 δ (.val (.bl true)) = (fc δ).bind (kCh5 g' o2) := rfl
@[simp] theorem kCh4_f {g'} {fc : M O} {o2 : O} : kCh4 g' fc o2 δ (.val (.bl false)) = some (.val (.bl false), δ) := rfl
def kCh3 (g g' : D → D → Option C) (fc : M O) (o2 : O) (d : D) (δ : DS) : D → Option (C × DS) := fun e => (g d e).bind (kCh4 g' fc o2 δ)
@[simp] theorem kCh3_ap {g g'} {fc : M O} {o2 : O} : kCh3 g g' fc o2 d δ e = (g d e).bind (kCh4 g' fc o2 δ) := rfl
def kCh2b (g g' : D → D → Option C) (fc : M O) (o2 : O) (δ : DS) : D → Option (C × DS) := fun d => (o2.toD δ).bind (kCh3 g g' fc o2 d δ)
@[simp] theorem kCh2b_ap {g g'} {fc : M O} {o2 : O} : kCh2b g g' fc o2 δ d = (o2.toD δ).bind (kCh3 g g' fc o2 d δ) := rfl
def kCh2 (g g' : D → D → Option C) (fc : M O) (o1 : O) : O × DS → Option (C × DS) := fun q => (o1.toD q.2).bind (kCh2b g g' fc q.1 q.2)
@[simp] theorem kCh2_ap {g g'} {fc : M O} {o1 : O} : kCh2 g g' fc o1 (o, δ) = (o1.toD δ).bind (kCh2b g g' fc o δ) := rfl
def kCh1 (g g' : D → D → Option C) (fb fc : M O) : O × DS → Option (C × DS) := fun r => (fb r.2).bind (kCh2 g g' fc r.1)
@[simp] theorem kCh1_ap {g g'} {fb fc : M O} : kCh1 g g' fb fc (o, δ) = (fb δ).bind (kCh2 g g' fc o) := rfl
theorem fChain_eq (g g' : D → D → Option C) (fa fb fc : M O) (δ : DS) : fChain g g' fa fb fc δ = (fa δ).bind (kCh1 g g' fb fc) := by
  unfold fChain
  congr 1
@[simp] theorem fChain_ap {g g'} {fa fb fc : M O} : fChain g g' fa fb fc δ = (fa δ).bind (kCh1 g g' fb fc) := fChain_eq _ _ _ _ _ _
/-! and, or, not, if -/
def kAnd (u : M Bool) : Bool × DS → Option (Bool × DS) := fun r => if r.1 = true then u r.2 else some (false, r.2)
@[simp] theorem kAnd_t {u : M Bool} : kAnd u (true, δ) = u δ := rfl
@[simp] theorem kAnd_f {u : M Bool} : kAnd u (false, δ) = some (false, δ) := rfl
@[simp] theorem mAnd_ap {t u : M Bool} : mAnd t u δ = (t δ).bind (kAnd u) := rfl
def kOr (u : M Bool) : Bool × DS → Option (Bool × DS) := fun r => if r.1 = true then some (true, r.2) else u r.2
@[simp] theorem kOr_t {u : M Bool} : kOr u (true, δ) = some (true, δ) := rfl
@[simp] theorem kOr_f {u : M Bool} : kOr u (false, δ) = u δ := rfl
@[simp] theorem mOr_ap {t u : M Bool} : mOr t u δ = (t δ).bind (kOr u) := rfl
def kNot : Bool × DS → Option (Bool × DS) := fun r => some (!r.1, r.2)
@[simp] theorem kNot_ap : kNot (b, δ) = some (!b, δ) := rfl
@[simp] theorem mNot_ap {t : M Bool} : mNot t δ = (t δ).bind kNot := rfl
@[simp] theorem mYes_ap : mYes δ = some (true, δ) := rfl
def kAndV (g : M C) : C × DS → Option (C × DS) := fun r => match r.1 with
  | .val (.bl true) => g r.2
  | .val (.bl false) => some (.val (.bl false), r.2)
  | _ => none
@[simp] theorem kAndV_t {g : M C} : kAndV g (.val (.bl true), δ) = g δ := rfl
@[simp] theorem kAndV_f {g : M C} : kAndV g (.val (.bl false), δ) = some (.val (.bl false), δ) := rfl
@[simp] theorem fAndV_ap {f g : M C} : fAndV f g δ = (f δ).bind (kAndV g) := rfl
def kOrV (g : M C) : C × DS → Option (C × DS) := fun r => match r.1 with
  | .val (.bl true) => some (.val (.bl true), r.2)
  | .val (.bl false) => g r.2
  | _ => none
@[simp] theorem kOrV_t {g : M C} : kOrV g (.val (.bl true), δ) = some (.val (.bl true), δ) := rfl
@[simp] theorem kOrV_f {g : M C} : kOrV g (.val (.bl false), δ) = g δ := rfl
@[simp] theorem fOrV_ap {f g : M C} : fOrV f g δ = (f δ).bind (kOrV g) := rfl
def kNotV : C × DS → Option (C × DS) := fun r => match r.1 with
  | .val (.bl b) => some (.val (.bl (!b)), r.2)
  | _ => none
@[simp] theorem kNotV_ap : kNotV (.val (.bl b), δ) = some (.val (.bl (!b)), δ) := rfl
@[simp] theorem fNotV_ap {f : M C} : fNotV f δ = (f δ).bind kNotV := rfl
def kIf (f g : M C) : Bool × DS → Option (C × DS) := fun r => if r.1 = true then f r.2 else g r.2
@[simp] theorem kIf_t {f g : M C} : kIf f g (true, δ) = f δ := rfl
@[simp] theorem kIf_f {f g : M C} : kIf f g (false, δ) = g δ := rfl
@[simp] theorem fIf_ap {t : M Bool} {f g : M C} : fIf t f g δ = (t δ).bind (kIf f g) := rfl
/-! arguments, calls -/
@[simp] theorem aNil_ap : aNil δ = some ([], δ) := rfl
def kC2 (o : O) : List O × DS → Option (List O × DS) := fun q => some (o :: q.1, q.2)
@[simp] theorem kC2_ap : kC2 o (os, δ) = some (o :: os, δ) := rfl
def kC1 (r : M (List O)) : O × DS → Option (List O × DS) := fun p => (r p.2).bind (kC2 p.1)
@[simp] theorem kC1_ap {r : M (List O)} : kC1 r (o, δ) = (r δ).bind (kC2 o) := rfl
@[simp] theorem aCons_ap {f : M O} {r : M (List O)} : aCons f r δ = (f δ).bind (kC1 r) := rfl
def kG (g : List D → Option C) (δ : DS) : List D → Option (C × DS) := fun ds => (g ds).bind (kPut δ)
@[simp] theorem kG_ap {g} : kG g δ ds = (g ds).bind (kPut δ) := rfl
def kCB (g : List D → Option C) : List O × DS → Option (C × DS) := fun r => (toDs r.2 r.1).bind (kG g r.2)
@[simp] theorem kCB_ap {g} : kCB g (os, δ) = (toDs δ os).bind (kG g δ) := rfl
@[simp] theorem fCB_ap {g} {fa : M (List O)} : fCB g fa δ = (fa δ).bind (kCB g) := rfl
def kMt2 (g : D → List D → Option C) (fa : M (List O)) (δ : DS) : D → Option (C × DS) := fun d => match d with
  | .str z => (fa δ).bind (kCB (g (.str z)))
  | _ => none
@[simp] theorem kMt2_ap {g} {fa : M (List O)} : kMt2 g fa δ (.str z) = (fa δ).bind (kCB (g (.str z))) := rfl
def kMt1 (g : D → List D → Option C) (fa : M (List O)) : O × DS → Option (C × DS) := fun p => (p.1.toD p.2).bind (kMt2 g fa p.2)
@[simp] theorem kMt1_ap {g} {fa : M (List O)} : kMt1 g fa (o, δ) = (o.toD δ).bind (kMt2 g fa δ) := rfl
@[simp] theorem fMt_ap {g} {fo : M O} {fa : M (List O)} : fMt g fo fa δ = (fo δ).bind (kMt1 g fa) := by
  unfold fMt
  congr 1
def kMz2 (g : D → List D → Option C) (δ : DS) : D → Option (C × DS) := fun d => match d with
  | .str z => (g (.str z) []).bind (kPut δ)
  | _ => none
@[simp] theorem kMz2_ap {g} : kMz2 g δ (.str z) = (g (.str z) []).bind (kPut δ) := rfl
def kMz1 (g : D → List D → Option C) : O × DS → Option (C × DS) := fun p => (p.1.toD p.2).bind (kMz2 g p.2)
@[simp] theorem kMz1_ap {g} : kMz1 g (o, δ) = (o.toD δ).bind (kMz2 g δ) := rfl
@[simp] theorem fMt0_ap {g} {fo : M O} : fMt0 g fo δ = (fo δ).bind (kMz1 g) := by
  unfold fMt0
  congr 1
@[simp] theorem pNone_ap : pNone δ = some (none, δ) := rfl
def kPs : C × DS → Option (Option Int × DS) := fun r => match r.1 with
  | .val (.int i) => some (some i, r.2)
  | _ => none
@[simp] theorem kPs_ap : kPs (.val (.int n), δ) = some (some n, δ) := rfl
@[simp] theorem pSome_ap {f : M C} : pSome f δ = (f δ).bind kPs := rfl
def kS4 (g : D → Option Int → Option Int → Option C) (l h : Option Int) (δ : DS) : D → Option (C × DS) := fun d => (g d l h).bind (kPut δ)
@[simp] theorem kS4_ap {g} {l h : Option Int} : kS4 g l h δ d = (g d l h).bind (kPut δ) := rfl
def kS3 (g : D → Option Int → Option Int → Option C) (o : O) (l : Option Int) : Option Int × DS → Option (C × DS) := fun h => (o.toD h.2).bind (kS4 g l h.1 h.2)
@[simp] theorem kS3_ap {g} {l h : Option Int} : kS3 g o l (h, δ) = (o.toD δ).bind (kS4 g l h δ) := rfl
def kS2 (g : D → Option Int → Option Int → Option C) (o : O) (fh : M (Option Int)) : Option Int × DS → Option (C × DS) := fun l => (fh l.2).bind (kS3 g o l.1)
@[simp] theorem kS2_ap {g} {fh : M (Option Int)} {l : Option Int} : kS2 g o fh (l, δ) = (fh δ).bind (kS3 g o l) := rfl
def kS1 (g : D → Option Int → Option Int → Option C) (fl fh : M (Option Int)) : O × DS → Option (C × DS) := fun p => (fl p.2).bind (kS2 g p.1 fh)
@[simp] theorem kS1_ap {g} {fl fh : M (Option Int)} : kS1 g fl fh (o, δ) = (fl δ).bind (kS2 g o fh) := rfl
@[simp] theorem fSl_ap {g} {fa : M O} {fl fh : M (Option Int)} : fSl g fa fl fh δ = (fa δ).bind (kS1 g fl fh) := rfl
def frzAt (x : Option (Option C)) (i : Nat) (δ : DS) : Option (D × DS) := match x with
  | some (some (.val d)) => some (d, δ)
  | some (some (.own ds)) => some (.lst ds, δ.set i (some (.val (.lst ds))))
  | _ => none
@[simp] theorem frzAt_val {i : Nat} : frzAt (some (some (.val d))) i δ = some (d, δ) := rfl
@[simp] theorem frzAt_own {i : Nat} : frzAt (some (some (.own ds))) i δ = some (.lst ds, δ.set i (some (.val (.lst ds)))) := rfl
@[simp] theorem frzO_r : frzO (.r c) δ = some (c.toD, δ) := rfl
@[simp] theorem frzO_sl {i : Nat} : frzO (.sl i) δ = frzAt δ[i]? i δ := rfl
def kF2 (d : D) : List D × DS → Option (List D × DS) := fun q => some (d :: q.1, q.2)
@[simp] theorem kF2_ap : kF2 d (ds, δ) = some (d :: ds, δ) := rfl
def kF1 (os : List O) : D × DS → Option (List D × DS) := fun r => (frzL os r.2).bind (kF2 r.1)
@[simp] theorem kF1_ap : kF1 os (d, δ) = (frzL os δ).bind (kF2 d) := rfl
@[simp] theorem frzL_nil : frzL [] δ = some ([], δ) := rfl
@[simp] theorem frzL_cons : frzL (o :: os) δ = (frzO o δ).bind (kF1 os) := rfl
def kFz : List O × DS → Option (List D × DS) := fun r => frzL r.1 r.2
@[simp] theorem kFz_ap : kFz (os, δ) = frzL os δ := rfl
@[simp] theorem fFrz_ap {f : M (List O)} : fFrz f δ = (f δ).bind kFz := rfl
def kTup : List D × DS → Option (C × DS) := fun r => if r.1.length ≤ 100000 then some (.val (.tup r.1), r.2) else none
@[simp] theorem kTup_ap (h : ds.length ≤ 100000) : kTup (ds, δ) = some (.val (.tup ds), δ) := by unfold kTup; rw [if_pos h]
@[simp] theorem fTup_ap {f : M (List D)} : fTup f δ = (f δ).bind kTup := rfl
def kLst : List D × DS → Option (C × DS) := fun r => if r.1.length ≤ 100000 then some (.own r.1, r.2) else none
@[simp] theorem kLst_ap (h : ds.length ≤ 100000) : kLst (ds, δ) = some (.own ds, δ) := by unfold kLst; rw [if_pos h]
@[simp] theorem fLst_ap {f : M (List D)} : fLst f δ = (f δ).bind kLst := rfl
def kCall (F : List D → Option C) (n : Nat) : List D × DS → Option (C × DS) := fun r => if r.1.length = n then (F r.1).bind (kPut r.2) else none
@[simp] theorem kCall_ap {F} {n : Nat} (h : ds.length = n) : kCall F n (ds, δ) = (F ds).bind (kPut δ) := by unfold kCall; rw [if_pos h]
@[simp] theorem fCall_ap {F} {n : Nat} {f : M (List D)} : fCall F n f δ = (f δ).bind (kCall F n) := rfl
def kPick (F : List D → Option C) (n m : Nat) (perm : List Nat) : List D × DS → Option (C × DS) := fun r => if r.1.length = m ∧ (pick perm r.1).length = n then (F (pick perm r.1)).bind (kPut r.2) else none
@[simp] theorem kPick_ap {F} {n m : Nat} {perm : List Nat} (h : ds.length = m ∧ (pick perm ds).length = n) : kPick F n m perm (ds, δ) = (F (pick perm ds)).bind (kPut δ) := by unfold kPick; rw [if_pos h]
@[simp] theorem fCallK_ap {F} {n m : Nat} {perm : List Nat} {f : M (List D)} : fCallK F n m perm f δ = (f δ).bind (kPick F n m perm) := rfl
def kIo4 (w : List D → C) (k : Nat) (δ : DS) : C × List D → Option (C × DS) := fun p => some (p.1, δ.set k (some (w p.2)))
@[simp] theorem kIo4_ap {w : List D → C} {k : Nat} : kIo4 w k δ (c, ds) = some (c, δ.set k (some (w ds))) := rfl
def ioAt (F : List D → Option (C × List D)) (x : Option (Option C)) (ds : List D) (k : Nat) (δ : DS) : Option (C × DS) := match x with
  | some (some (.own es)) => (F (.lst es :: ds)).bind (kIo4 .own k δ)
  | some (some (.io j es)) => (F (.lst es :: ds)).bind (kIo4 (.io j) k δ)
  | _ => none
@[simp] theorem ioAt_own {F} {es : List D} {k : Nat} : ioAt F (some (some (.own es))) ds k δ = (F (.lst es :: ds)).bind (kIo4 .own k δ) := rfl
@[simp] theorem ioAt_io {F} {es : List D} {k j : Nat} : ioAt F (some (some (.io j es))) ds k δ = (F (.lst es :: ds)).bind (kIo4 (.io j) k δ) := rfl
def kIo2 (F : List D → Option (C × List D)) (k : Nat) : List D × DS → Option (C × DS) := fun q => ioAt F (q.2[k]?) q.1 k q.2
@[simp] theorem kIo2_ap {F} {k : Nat} : kIo2 F k (ds, δ) = ioAt F (δ[k]?) ds k δ := rfl
def kIo3 (δ : DS) : C × List D → Option (C × DS) := fun p => some (p.1, δ)
@[simp] theorem kIo3_ap : kIo3 δ (c, ds) = some (c, δ) := rfl
def kIo (F : List D → Option (C × List D)) (n : Nat) : List O × DS → Option (C × DS) := fun r => if r.1.length = n then match r.1 with
    | .sl k :: os => (frzL os r.2).bind (kIo2 F k)
    | [.r (.own es)] => (F [.lst es]).bind (kIo3 r.2)
    | _ => none
  else none
@[simp] theorem kIo_sl {F} {n k : Nat} (h : os.length + 1 = n) : kIo F n (.sl k :: os, δ) = (frzL os δ).bind (kIo2 F k) := by unfold kIo; rw [if_pos (by simpa using h)]
@[simp] theorem kIo_own {F} {n : Nat} {es : List D} (h : 1 = n) : kIo F n ([.r (.own es)], δ) = (F [.lst es]).bind (kIo3 δ) := by unfold kIo; rw [if_pos (by simpa using h)]
theorem fCallIo_eq (F : List D → Option (C × List D)) (n : Nat) (f : M (List O)) (δ : DS) : fCallIo F n f δ = (f δ).bind (kIo F n) := by
  unfold fCallIo
  congr 1
@[simp] theorem fCallIo_ap {F} {n : Nat} {f : M (List O)} : fCallIo F n f δ = (f δ).bind (kIo F n) := fCallIo_eq _ _ _ _
/-! statements -/
@[simp] theorem fNx_ap : fNx δ = some (.nx, δ) := rfl
@[simp] theorem fBk_ap : fBk δ = some (.bk, δ) := rfl
@[simp] theorem fCt_ap : fCt δ = some (.ct, δ) := rfl
def kSeq (g : M Fl) : Fl × DS → Option (Fl × DS) := fun r => match r.1 with
  | .nx => g r.2
  | q => some (q, r.2)
@[simp] theorem kSeq_nx {g : M Fl} : kSeq g (.nx, δ) = g δ := rfl
@[simp] theorem kSeq_rt {g : M Fl} : kSeq g (.rt c, δ) = some (.rt c, δ) := rfl
@[simp] theorem kSeq_bk {g : M Fl} : kSeq g (.bk, δ) = some (.bk, δ) := rfl
@[simp] theorem kSeq_ct {g : M Fl} : kSeq g (.ct, δ) = some (.ct, δ) := rfl
@[simp] theorem fSeq_ap {f g : M Fl} : fSeq f g δ = (f δ).bind (kSeq g) := rfl
@[simp] theorem fNo_ap : fNo δ = none := rfl
def kDrop : C × DS → Option (Fl × DS) := fun r => some (.nx, r.2)
@[simp] theorem kDrop_ap : kDrop (c, δ) = some (.nx, δ) := rfl
@[simp] theorem fDrop_ap {f : M C} : fDrop f δ = (f δ).bind kDrop := rfl
def kRet : C × DS → Option (Fl × DS) := fun r => some (.rt r.1, r.2)
@[simp] theorem kRet_ap : kRet (c, δ) = some (.rt c, δ) := rfl
@[simp] theorem fRet_ap {f : M C} : fRet f δ = (f δ).bind kRet := rfl
@[simp] theorem fRetN_ap : fRetN δ = some (.rt (.val .non), δ) := rfl
def retAt (x : Option (Option C)) (i : Nat) (δ : DS) : Option (Fl × DS) := match x with
  | some (some (.val d)) => some (.rt (.val d), δ)
  | some (some (.own ds)) => some (.rt (.own ds), δ.set i none)
  | _ => none
@[simp] theorem retAt_val {i : Nat} : retAt (some (some (.val d))) i δ = some (.rt (.val d), δ) := rfl
@[simp] theorem retAt_own {i : Nat} : retAt (some (some (.own ds))) i δ = some (.rt (.own ds), δ.set i none) := rfl
@[simp] theorem fRetX_ap {i : Nat} : fRetX i δ = retAt δ[i]? i δ := rfl
def kIfS (f g : M Fl) : Bool × DS → Option (Fl × DS) := fun r => if r.1 = true then f r.2 else g r.2
@[simp] theorem kIfS_t {f g : M Fl} : kIfS f g (true, δ) = f δ := rfl
@[simp] theorem kIfS_f {f g : M Fl} : kIfS f g (false, δ) = g δ := rfl
@[simp] theorem fIfS_ap {t : M Bool} {f g : M Fl} : fIfS t f g δ = (t δ).bind (kIfS f g) := rfl
def kSet (i : Nat) : C × DS → Option (Fl × DS) := fun r => if i < r.2.length then some (.nx, r.2.set i (some r.1)) else none
@[simp] theorem kSet_ap {i : Nat} (h : i < δ.length) : kSet i (c, δ) = some (.nx, δ.set i (some c)) := by unfold kSet; rw [if_pos h]
@[simp] theorem fSet_ap {i : Nat} {f : M C} : fSet i f δ = (f δ).bind (kSet i) := rfl
@[simp] theorem gaName_ap {i : Nat} (h : i < δ.length) : gaName i d δ = some ((), δ.set i (some (.val d))) := by unfold gaName; rw [if_pos h]
@[simp] theorem gsNil_ap : gsNil [] δ = some ((), δ) := rfl
def kGs (gs : List D → M Unit) (ds : List D) : Unit × DS → Option (Unit × DS) := fun q => gs ds q.2
@[simp] theorem kGs_ap {gs : List D → M Unit} {u : Unit} : kGs gs ds (u, δ) = gs ds δ := rfl
@[simp] theorem gsCons_ap {ga : D → M Unit} {gs : List D → M Unit} : gsCons ga gs (d :: ds) δ = (ga d δ).bind (kGs gs ds) := rfl
@[simp] theorem gaTup_ap {n : Nat} {gs : List D → M Unit} (h : ds.length = n) : gaTup n gs (.tup ds) δ = gs ds δ := by show (if ds.length = n then gs ds δ else none) = _; rw [if_pos h]
def kSub3 (w : List D → C) (k : Nat) (ds : List D) (d : D) (δ : DS) : Nat → Option (Unit × DS) := fun j => some ((), δ.set k (some (w (ds.set j d))))
@[simp] theorem kSub3_ap {w : List D → C} {k j : Nat} : kSub3 w k ds d δ j = some ((), δ.set k (some (w (ds.set j d)))) := rfl
def subAtD (x : Option (Option C)) (n : Int) (k : Nat) (d : D) (δ : DS) : Option (Unit × DS) := match x with
  | some (some (.own ds)) => (ixN ds.length n).bind (kSub3 .own k ds d δ)
  | some (some (.io j ds)) => (ixN ds.length n).bind (kSub3 (.io j) k ds d δ)
  | _ => none
@[simp] theorem subAtD_own {k : Nat} : subAtD (some (some (.own ds))) n k d δ = (ixN ds.length n).bind (kSub3 .own k ds d δ) := rfl
@[simp] theorem subAtD_io {k j : Nat} : subAtD (some (some (.io j ds))) n k d δ = (ixN ds.length n).bind (kSub3 (.io j) k ds d δ) := rfl
def kSub (k : Nat) (d : D) : C × DS → Option (Unit × DS) := fun r => match r.1 with
  | .val (.int n) => subAtD (r.2[k]?) n k d r.2
  | _ => none
@[simp] theorem kSub_ap {k : Nat} : kSub k d (.val (.int n), δ) = subAtD (δ[k]?) n k d δ := rfl
def has (x : Option (Option C)) : Bool := match x with
  | some (some _) => true
  | _ => false
@[simp] theorem has_c : has (some (some c)) = true := rfl
@[simp] theorem gaSub_ap {k : Nat} {fi : M C} (h : has δ[k]? = true) : gaSub k fi d δ = (fi δ).bind (kSub k d) := by
  unfold gaSub
  rcases e : δ[k]? with _ | _ | c
  · rw [e] at h; cases h
  · rw [e] at h; cases h
  · simp only
    congr 1
def kIt : D × DS → Option (List D × DS) := fun r => match r.1 with
  | .lst ds => some (ds, r.2)
  | .tup ds => some (ds, r.2)
  | .str z => some (signs z, r.2)
  | _ => none
@[simp] theorem kIt_lst : kIt (.lst ds, δ) = some (ds, δ) := rfl
@[simp] theorem kIt_tup : kIt (.tup ds, δ) = some (ds, δ) := rfl
@[simp] theorem kIt_str : kIt (.str z, δ) = some (signs z, δ) := rfl
@[simp] theorem fItems_ap {f : M D} : fItems f δ = (f δ).bind kIt := rfl
def kFor (ga : D → M Unit) (fb : M Fl) : List D × DS → Option (Fl × DS) := fun r => fLoop ga fb r.1 r.2
@[simp] theorem kFor_ap {ga : D → M Unit} {fb : M Fl} : kFor ga fb (ds, δ) = fLoop ga fb ds δ := rfl
@[simp] theorem fFor_ap {fi : M (List D)} {ga : D → M Unit} {fb : M Fl} : fFor fi ga fb δ = (fi δ).bind (kFor ga fb) := rfl
def kTurn (ga : D → M Unit) (fb : M Fl) (ds : List D) : Fl × DS → Option (Fl × DS) := fun r => turnEnd (fLoop ga fb ds) r
@[simp] theorem kTurn_nx {ga : D → M Unit} {fb : M Fl} : kTurn ga fb ds (.nx, δ) = fLoop ga fb ds δ := rfl
@[simp] theorem kTurn_ct {ga : D → M Unit} {fb : M Fl} : kTurn ga fb ds (.ct, δ) = fLoop ga fb ds δ := rfl
@[simp] theorem kTurn_bk {ga : D → M Unit} {fb : M Fl} : kTurn ga fb ds (.bk, δ) = some (.nx, δ) := rfl
@[simp] theorem kTurn_rt {ga : D → M Unit} {fb : M Fl} : kTurn ga fb ds (.rt c, δ) = some (.rt c, δ) := rfl
def kBody (ga : D → M Unit) (fb : M Fl) (ds : List D) : Unit × DS → Option (Fl × DS) := fun q => (fb q.2).bind (kTurn ga fb ds)
@[simp] theorem kBody_ap {ga : D → M Unit} {fb : M Fl} {u : Unit} : kBody ga fb ds (u, δ) = (fb δ).bind (kTurn ga fb ds) := rfl
@[simp] theorem fLoop_nil {ga : D → M Unit} {fb : M Fl} : fLoop ga fb [] δ = some (.nx, δ) := rfl
@[simp] theorem fLoop_cons {ga : D → M Unit} {fb : M Fl} : fLoop ga fb (d :: ds) δ = (ga d δ).bind (kBody ga fb ds) := rfl
def kLcEnd (vs : List Nat) (δ : DS) : List D × DS → Option (C × DS) := fun q => some (.own q.1, putBack δ q.2 vs)
@[simp] theorem kLcEnd_ap {vs : List Nat} {δ' : DS} : kLcEnd vs δ (ds, δ') = some (.own ds, putBack δ δ' vs) := rfl
def kLc (ga : D → M Unit) (ft : M Bool) (fe : M D) (vs : List Nat) : List D × DS → Option (C × DS) := fun r => (lcLoop ga ft fe vs r.1 [] (wipeL r.2 vs)).bind (kLcEnd vs r.2)
@[simp] theorem kLc_ap {ga : D → M Unit} {ft : M Bool} {fe : M D} {vs : List Nat} : kLc ga ft fe vs (ds, δ) = (lcLoop ga ft fe vs ds [] (wipeL δ vs)).bind (kLcEnd vs δ) := rfl
@[simp] theorem fLc_ap {fi : M (List D)} {ga : D → M Unit} {ft : M Bool} {fe : M D} {vs : List Nat} : fLc fi ga ft fe vs δ = (fi δ).bind (kLc ga ft fe vs) := rfl
def kL3 (ga : D → M Unit) (ft : M Bool) (fe : M D) (vs : List Nat) (ds acc : List D) : D × DS → Option (List D × DS) := fun y => if acc.length < 100000 then lcLoop ga ft fe vs ds (acc ++ [y.1]) (wipeL y.2 vs) else none
@[simp] theorem kL3_ap {ga : D → M Unit} {ft : M Bool} {fe : M D} {vs : List Nat} {acc : List D} (h : acc.length < 100000) : kL3 ga ft fe vs ds acc (d, δ) = lcLoop ga ft fe vs ds (acc ++ [d]) (wipeL δ vs) := by unfold kL3; rw [if_pos h]
def kL2 (ga : D → M Unit) (ft : M Bool) (fe : M D) (vs : List Nat) (ds acc : List D) : Bool × DS → Option (List D × DS) := fun b => if b.1 = true then (fe b.2).bind (kL3 ga ft fe vs ds acc) else lcLoop ga ft fe vs ds acc (wipeL b.2 vs)
@[simp] theorem kL2_t {ga : D → M Unit} {ft : M Bool} {fe : M D} {vs : List Nat} {acc : List D} : kL2 ga ft fe vs ds acc (true, δ) = (fe δ).bind (kL3 ga ft fe vs ds acc) := rfl
@[simp] theorem kL2_f {ga : D → M Unit} {ft : M Bool} {fe : M D} {vs : List Nat} {acc : List D} : kL2 ga ft fe vs ds acc (false, δ) = lcLoop ga ft fe vs ds acc (wipeL δ vs) := rfl
def kL1 (ga : D → M Unit) (ft : M Bool) (fe : M D) (vs : List Nat) (ds acc : List D) : Unit × DS → Option (List D × DS) := fun q => (ft q.2).bind (kL2 ga ft fe vs ds acc)
@[simp] theorem kL1_ap {ga : D → M Unit} {ft : M Bool} {fe : M D} {vs : List Nat} {acc : List D} {u : Unit} : kL1 ga ft fe vs ds acc (u, δ) = (ft δ).bind (kL2 ga ft fe vs ds acc) := rfl
@[simp] theorem lcLoop_nil {ga : D → M Unit} {ft : M Bool} {fe : M D} {vs : List Nat} {acc : List D} : lcLoop ga ft fe vs [] acc δ = some (acc, δ) := rfl
@[simp] theorem lcLoop_cons {ga : D → M Unit} {ft : M Bool} {fe : M D} {vs : List Nat} {acc : List D} : lcLoop ga ft fe vs (d :: ds) acc δ = (ga d δ).bind (kL1 ga ft fe vs ds acc) := rfl
def kNeg2 (δ : DS) : D → Option (C × DS) := fun d => match d with
  | .int i => some (.val (.int (-i)), δ)
  | _ => none
@[simp] theorem kNeg2_ap : kNeg2 δ (.int n) = some (.val (.int (-n)), δ) := rfl
def kNeg : O × DS → Option (C × DS) := fun r => (r.1.toD r.2).bind (kNeg2 r.2)
@[simp] theorem kNeg_ap : kNeg (o, δ) = (o.toD δ).bind (kNeg2 δ) := rfl
@[simp] theorem fNeg_ap {fo : M O} : fNeg fo δ = (fo δ).bind kNeg := by
  unfold fNeg
  congr 1
def kIs2 (δ : DS) : Bool → Option (C × DS) := fun b => some (.val (.bl b), δ)
@[simp] theorem kIs2_ap : kIs2 δ b = some (.val (.bl b), δ) := rfl
def kIs1 (T : String) (δ : DS) : D → Option (C × DS) := fun d => (isTy T d).bind (kIs2 δ)
@[simp] theorem kIs1_ap {T : String} : kIs1 T δ d = (isTy T d).bind (kIs2 δ) := rfl
def kIsi (T : String) : O × DS → Option (C × DS) := fun r => (r.1.toD r.2).bind (kIs1 T r.2)
@[simp] theorem kIsi_ap {T : String} : kIsi T (o, δ) = (o.toD δ).bind (kIs1 T δ) := rfl
@[simp] theorem fIsi_ap {T : String} {fo : M O} : fIsi T fo δ = (fo δ).bind (kIsi T) := rfl
def kPar (i j : Nat) : List O × DS → Option (Fl × DS) := fun r => match r.1 with
  | [.r c1, .r c2] => if i < r.2.length ∧ j < r.2.length then some (.nx, (r.2.set i (some c1)).set j (some c2)) else none
  | _ => none
@[simp] theorem kPar_ap {i j : Nat} {c1 c2 : C} (h : i < δ.length ∧ j < δ.length) : kPar i j ([.r c1, .r c2], δ) = some (.nx, (δ.set i (some c1)).set j (some c2)) := by
  show (if i < δ.length ∧ j < δ.length then some (Fl.nx, (δ.set i (some c1)).set j (some c2)) else none) = _
  rw [if_pos h]
@[simp] theorem fPar_ap {i j : Nat} {f : M (List O)} : fPar i j f δ = (f δ).bind (kPar i j) := by
  unfold fPar
  congr 1
def kAsg2 : Unit × DS → Option (Fl × DS) := fun q => some (.nx, q.2)
@[simp] theorem kAsg2_ap {u : Unit} : kAsg2 (u, δ) = some (.nx, δ) := rfl
def kAsg (ga : D → M Unit) : D × DS → Option (Fl × DS) := fun r => (ga r.1 r.2).bind kAsg2
@[simp] theorem kAsg_ap {ga : D → M Unit} : kAsg ga (d, δ) = (ga d δ).bind kAsg2 := rfl
@[simp] theorem fAsg_ap {ga : D → M Unit} {fv : M D} : fAsg ga fv δ = (fv δ).bind (kAsg ga) := rfl
def kRp3 (ds : List D) (δ : DS) : D → Option (C × DS) := fun e => match e with
  | .int n => if -100000 ≤ n ∧ n ≤ 100000 ∧ ds.length * n.toNat ≤ 100000 then some (.own (List.replicate n.toNat ds).flatten, δ) else none
  | _ => none
@[simp] theorem kRp3_ap (h : -100000 ≤ n ∧ n ≤ 100000 ∧ ds.length * n.toNat ≤ 100000) : kRp3 ds δ (.int n) = some (.own (List.replicate n.toNat ds).flatten, δ) := by
  show (if -100000 ≤ n ∧ n ≤ 100000 ∧ ds.length * n.toNat ≤ 100000 then some (C.own (List.replicate n.toNat ds).flatten, δ) else none) = _
  rw [if_pos h]
def kRp2 (c : C) : O × DS → Option (C × DS) := fun q => match c with
  | .own ds => (q.1.toD q.2).bind (kRp3 ds q.2)
  | _ => none
@[simp] theorem kRp2_ap : kRp2 (.own ds) (o, δ) = (o.toD δ).bind (kRp3 ds δ) := rfl
def kRp1 (fb : M O) : C × DS → Option (C × DS) := fun r => (fb r.2).bind (kRp2 r.1)
@[simp] theorem kRp1_ap {fb : M O} : kRp1 fb (c, δ) = (fb δ).bind (kRp2 c) := rfl
@[simp] theorem fRepL_ap {fa : M C} {fb : M O} : fRepL fa fb δ = (fa δ).bind (kRp1 fb) := by
  unfold fRepL
  congr 1
def kBk2 (δ : DS) : D → Option (C × DS) := fun d => match d with
  | .lst ds => some (.own ds.reverse, δ)
  | _ => none
@[simp] theorem kBk2_ap : kBk2 δ (.lst ds) = some (.own ds.reverse, δ) := rfl
def kBk : O × DS → Option (C × DS) := fun r => (r.1.toD r.2).bind (kBk2 r.2)
@[simp] theorem kBk_ap : kBk (o, δ) = (o.toD δ).bind (kBk2 δ) := rfl
@[simp] theorem fBack_ap {f : M O} : fBack f δ = (f δ).bind kBk := by
  unfold fBack
  congr 1
def pickAt (x : Option D) (ds : List D) : List D := match x with
  | some d => d :: ds
  | none => ds
@[simp] theorem pickAt_some : pickAt (some d) ds = d :: ds := rfl
@[simp] theorem pick_nil : pick [] ds = [] := rfl
@[simp] theorem pick_cons {i : Nat} {p : List Nat} : pick (i :: p) ds = pickAt ds[i]? (pick p ds) := by
  unfold pick pickAt
  rw [List.filterMap_cons]
  cases ds[i]? <;> rfl
/-! ranges, appending -/
def rng1 (ds : List D) : Option (List D) := match ds with
  | [.int j] => if -100000 ≤ j ∧ j ≤ 100000 then some ((List.range j.toNat).map fun (i : Nat) => D.int i) else none
  | _ => none
def rng2 (ds : List D) : Option (List D) := match ds with
  | [.int i, .int j] => if -100000 ≤ i ∧ i ≤ 100000 ∧ -100000 ≤ j ∧ j ≤ 100000 then some ((List.range (j - i).toNat).map fun (m : Nat) => D.int (i + m)) else none
  | _ => none
@[simp] theorem rng1_ok {j : Int} (h : -100000 ≤ j ∧ j ≤ 100000) : rng1 [.int j] = some ((List.range j.toNat).map fun (i : Nat) => D.int i) := by unfold rng1; simp only [h]; rfl
@[simp] theorem rng2_ok {i j : Int} (h : -100000 ≤ i ∧ i ≤ 100000 ∧ -100000 ≤ j ∧ j ≤ 100000) : rng2 [.int i, .int j] = some ((List.range (j - i).toNat).map fun (m : Nat) => D.int (i + m)) := by unfold rng2; simp only [h]; rfl
def kRg2 (δ : DS) : List D → Option (List D × DS) := fun x => some (x, δ)
@[simp] theorem kRg2_ap : kRg2 δ ds = some (ds, δ) := rfl
def kRg1 (g : List D → Option (List D)) (δ : DS) : List D → Option (List D × DS) := fun ds => (g ds).bind (kRg2 δ)
@[simp] theorem kRg1_ap {g} : kRg1 g δ ds = (g ds).bind (kRg2 δ) := rfl
def kRg (g : List D → Option (List D)) : List O × DS → Option (List D × DS) := fun r => (toDs r.2 r.1).bind (kRg1 g r.2)
@[simp] theorem kRg_ap {g} : kRg g (os, δ) = (toDs δ os).bind (kRg1 g δ) := rfl
@[simp] theorem fRange1_ap {f : M (List O)} : fRange1 f δ = (f δ).bind (kRg rng1) := by
  unfold fRange1 kRg
  congr 1; funext r; congr 1; funext ds
  unfold kRg1 rng1
  rcases ds with _ | ⟨d, _ | ⟨e, q⟩⟩ <;> try rfl
  · cases d <;> try rfl
    simp only
    split <;> rfl
  · cases d <;> rfl
@[simp] theorem fRange2_ap {f : M (List O)} : fRange2 f δ = (f δ).bind (kRg rng2) := by
  unfold fRange2 kRg
  congr 1; funext r; congr 1; funext ds
  unfold kRg1 rng2
  rcases ds with _ | ⟨d, _ | ⟨e, _ | ⟨u, q⟩⟩⟩ <;> try rfl
  · cases d <;> rfl
  · cases d <;> cases e <;> try rfl
    simp only
    split <;> rfl
  · cases d <;> cases e <;> rfl
def app1 (ds : List D) (d : D) : Option (List D) := if ds.length < 100000 then some (ds ++ [d]) else none
@[simp] theorem app1_ok (h : ds.length < 100000) : app1 ds d = some (ds ++ [d]) := by unfold app1; rw [if_pos h]
def kApp3 (w : List D → C) (i : Nat) (δ : DS) : List D → Option (Fl × DS) := fun x => some (.nx, δ.set i (some (w x)))
@[simp] theorem kApp3_ap {w : List D → C} {i : Nat} : kApp3 w i δ ds = some (.nx, δ.set i (some (w ds))) := rfl
def appAt (x : Option (Option C)) (i : Nat) (d : D) (δ : DS) : Option (Fl × DS) := match x with
  | some (some (.own ds)) => (app1 ds d).bind (kApp3 .own i δ)
  | some (some (.io j ds)) => (app1 ds d).bind (kApp3 (.io j) i δ)
  | _ => none
@[simp] theorem appAt_own {i : Nat} : appAt (some (some (.own ds))) i d δ = (app1 ds d).bind (kApp3 .own i δ) := rfl
@[simp] theorem appAt_io {i j : Nat} : appAt (some (some (.io j ds))) i d δ = (app1 ds d).bind (kApp3 (.io j) i δ) := rfl
def kApp (i : Nat) : D × DS → Option (Fl × DS) := fun r => appAt r.2[i]? i r.1 r.2
@[simp] theorem kApp_ap {i : Nat} : kApp i (d, δ) = appAt δ[i]? i d δ := rfl
def live (x : Option (Option C)) : Bool := match x with
  | some (some (.val _)) => false
  | some (some _) => true
  | _ => false
@[simp] theorem live_own : live (some (some (.own ds))) = true := rfl
@[simp] theorem live_io {j : Nat} : live (some (some (.io j ds))) = true := rfl
@[simp] theorem fApp_ap {i : Nat} {fv : M D} (h : live δ[i]? = true) : fApp i fv δ = (fv δ).bind (kApp i) := by
  unfold fApp
  rcases e : δ[i]? with _ | _ | c
  · rw [e] at h; cases h
  · rw [e] at h; cases h
  · cases c with
    | val d => rw [e] at h; cases h
    | _ =>
      simp only
      congr 1; funext r
      unfold kApp appAt app1
      rcases r.2[i]? with _ | _ | c <;> try rfl
      cases c <;> try rfl
      all_goals (simp only; split <;> rfl)
/-! functions -/
def kOut : Fl × DS → Option C := fun r => outOf r.1
@[simp] theorem kOut_rt : kOut (.rt c, δ) = some c := rfl
@[simp] theorem kOut_nx : kOut (.nx, δ) = some (.val .non) := rfl
@[simp] theorem runF_eq {N : List Str} {n : Nat} {m : M Fl} {ds : List D} (h : ds.length = n) : runF N n m ds = (m (startD N ds)).bind kOut := by unfold runF; rw [if_pos h]; rfl
def kOutIo : Fl × DS → Option (C × List D) := fun q => ioOut (outOf q.1) q.2[0]?
@[simp] theorem kOutIo_rt : kOutIo (.rt c, δ) = ioOut (some c) δ[0]? := rfl
@[simp] theorem kOutIo_nx : kOutIo (.nx, δ) = ioOut (some (.val .non)) δ[0]? := rfl
@[simp] theorem runIo_eq {N : List Str} {n : Nat} {m : M Fl} {es : List D} (h : ds.length + 1 = n) : runIo N n m (.lst es :: ds) = (m (startIo N es ds)).bind kOutIo := by
  show (if ds.length + 1 = n then (m (startIo N es ds)).bind fun q => ioOut (outOf q.1) q.2[0]? else none) = _
  rw [if_pos h]; rfl
def kD2 (d : D) : List D → Option (List D) := fun ds => some (d :: ds)
@[simp] theorem kD2_ap : kD2 d ds = some (d :: ds) := rfl
def kD1 (δ : DS) (os : List O) : D → Option (List D) := fun d => (toDs δ os).bind (kD2 d)
@[simp] theorem kD1_ap : kD1 δ os d = (toDs δ os).bind (kD2 d) := rfl
@[simp] theorem toDs_nil : toDs δ [] = some [] := rfl
@[simp] theorem toDs_cons : toDs δ (o :: os) = (o.toD δ).bind (kD1 δ os) := by
  show (match o.toD δ, toDs δ os with
    | some d, some ds => some (d :: ds)
    | _, _ => none) = _
  cases o.toD δ <;> cases e : toDs δ os <;> simp [kD1, e, kD2]
end

@[simp] theorem C_toD_e1 {d} : C.toD (.val d) = (d) := rfl
@[simp] theorem C_toD_e2 {ds} : C.toD (.own ds) = (.lst ds) := rfl
@[simp] theorem C_toD_e3 {ds} {u1} : C.toD (.io u1 ds) = (.lst ds) := rfl
@[simp] theorem gAdd_e1 {a} {b} : gAdd (.int a) (.int b) = (some (.val (.int (a + b)))) := rfl
@[simp] theorem gAdd_e2 {a} {b} (h : a.length + b.length ≤ 100000) : gAdd (.str a) (.str b) = (some (.val (.str (a ++ b)))) := by show ((if a.length + b.length ≤ 100000 then some (.val (.str (a ++ b))) else none : Option C)) = _; rw [if_pos h]
@[simp] theorem gAdd_e3 {a} {b} (h : a.length + b.length ≤ 100000) : gAdd (.lst a) (.lst b) = (some (.own (a ++ b))) := by show ((if a.length + b.length ≤ 100000 then some (.own (a ++ b)) else none : Option C)) = _; rw [if_pos h]
@[simp] theorem gAdd_e4 {a} {b} (h : a.length + b.length ≤ 100000 ∧ a ≠ [] ∧ b ≠ []) : gAdd (.tup a) (.tup b) = (some (.val (.tup (a ++ b)))) := by show ((if a.length + b.length ≤ 100000 ∧ a ≠ [] ∧ b ≠ [] then some (.val (.tup (a ++ b))) else none : Option C)) = _; rw [if_pos h]
@[simp] theorem gSub_e1 {a} {b} : gSub (.int a) (.int b) = (some (.val (.int (a - b)))) := rfl
@[simp] theorem gMul_e1 {a} {b} (h : (-(2 ^ 64) < a ∧ a < 2 ^ 64) ∨ (-(2 ^ 64) < b ∧ b < 2 ^ 64)) : gMul (.int a) (.int b) = (some (.val (.int (a * b)))) := by show ((if (-(2 ^ 64) < a ∧ a < 2 ^ 64) ∨ (-(2 ^ 64) < b ∧ b < 2 ^ 64) then some (.val (.int (a * b))) else none : Option C)) = _; rw [if_pos h]
@[simp] theorem gMul_e2 {a} {n} (h : n ≤ 100000 ∧ -100000 ≤ n ∧ a.length * n.toNat ≤ 100000) : gMul (.str a) (.int n) = (some (.val (.str (repS a n)))) := by show ((if n ≤ 100000 ∧ -100000 ≤ n ∧ a.length * n.toNat ≤ 100000 then some (.val (.str (repS a n))) else none : Option C)) = _; rw [if_pos h]
@[simp] theorem gMul_e3 {a} {n} (h : a ≠ [] ∧ 1 ≤ n ∧ n ≤ 1000 ∧ a.length ≤ 1000) : gMul (.tup a) (.int n) = (some (.val (.tup (List.replicate n.toNat a).flatten))) := by show ((if a ≠ [] ∧ 1 ≤ n ∧ n ≤ 1000 ∧ a.length ≤ 1000 then some (.val (.tup (List.replicate n.toNat a).flatten)) else none : Option C)) = _; rw [if_pos h]
@[simp] theorem gDiv_e1 {a} {b} (h : 0 < b ∧ b < 1073741824) : gDiv (.int a) (.int b) = (some (.val (.int (a / b)))) := by show ((if 0 < b ∧ b < 1073741824 then some (.val (.int (a / b))) else none : Option C)) = _; rw [if_pos h]
@[simp] theorem gMod_e1 {a} {b} (h : 0 < b) : gMod (.int a) (.int b) = (some (.val (.int (a % b)))) := by show ((if 0 < b then some (.val (.int (a % b))) else none : Option C)) = _; rw [if_pos h]
@[simp] theorem gPow_e1 {a} {b} (h : 0 ≤ b ∧ b ≤ 1000 ∧ a.natAbs < 2 ^ 64) : gPow (.int a) (.int b) = (some (.val (.int (a ^ b.toNat)))) := by show ((if 0 ≤ b ∧ b ≤ 1000 ∧ a.natAbs < 2 ^ 64 then some (.val (.int (a ^ b.toNat))) else none : Option C)) = _; rw [if_pos h]
@[simp] theorem gCmp_e1 {p} {a} {b} : gCmp p (.int a) (.int b) = (some (.val (.bl (p a b)))) := rfl
@[simp] theorem D_isNon_e1  : D.isNon (.non) = (true) := rfl
@[simp] theorem D_flat_e1  : D.flat (.non) = (true) := rfl
@[simp] theorem D_flat_e2 {u1} : D.flat (.bl u1) = (true) := rfl
@[simp] theorem D_flat_e3 {u1} : D.flat (.int u1) = (true) := rfl
@[simp] theorem D_flat_e4 {u1} : D.flat (.str u1) = (true) := rfl
@[simp] theorem eqF_e1  : eqF (.non) (.non) = (true) := rfl
@[simp] theorem eqF_e2 {a} {b} : eqF (.bl a) (.bl b) = (a == b) := rfl
@[simp] theorem eqF_e3 {a} {b} : eqF (.bl a) (.int b) = ((if a then 1 else 0) == b) := rfl
@[simp] theorem eqF_e4 {a} {b} : eqF (.int a) (.bl b) = (a == (if b then 1 else 0)) := rfl
@[simp] theorem eqF_e5 {a} {b} : eqF (.int a) (.int b) = (a == b) := rfl
@[simp] theorem eqF_e6 {a} {b} : eqF (.str a) (.str b) = (a == b) := rfl
@[simp] theorem gIx_e1 {ds} {i} : gIx (.lst ds) (.int i) = ((atI ds i).map .val) := rfl
@[simp] theorem gIx_e2 {ds} {i} : gIx (.tup ds) (.int i) = ((atI ds i).map .val) := rfl
@[simp] theorem gIx_e3 {i} {z} : gIx (.str z) (.int i) = (if z.length ≤ 100000 then (atI z.cps.toList i).map fun c => .val (.str ⟨#[c]⟩) else none) := rfl
@[simp] theorem gLen_e1 {ds} : gLen [.lst ds] = (some (.val (.int ds.length))) := rfl
@[simp] theorem gLen_e2 {ds} : gLen [.tup ds] = (some (.val (.int ds.length))) := rfl
@[simp] theorem gLen_e3 {z} (h : z.length ≤ 100000) : gLen [.str z] = (some (.val (.int z.length))) := by show ((if z.length ≤ 100000 then some (.val (.int z.length)) else none : Option C)) = _; rw [if_pos h]
@[simp] theorem gInt_e1 {i} : gInt [.int i] = (some (.val (.int i))) := rfl
@[simp] theorem gInt_e2 {b} : gInt [.bl b] = (some (.val (.int (if b then 1 else 0)))) := rfl
@[simp] theorem gAbs_e1 {i} : gAbs [.int i] = (some (.val (.int (if i < 0 then -i else i)))) := rfl
@[simp] theorem gSum_e1 {ds} : gSum [.lst ds] = ((D.toInts ds).map fun ns => .val (.int ns.sum)) := rfl
@[simp] theorem gAll_e1 {ds} : gAll [.lst ds] = ((D.toBls ds).map fun ns => .val (.bl (ns.all id))) := rfl
@[simp] theorem gAny_e1 {ds} : gAny [.lst ds] = ((D.toBls ds).map fun ns => .val (.bl (ns.any id))) := rfl
@[simp] theorem gMin_e1 {i} {j} : gMin [.int i, .int j] = (some (.val (.int (if j < i then j else i)))) := rfl
@[simp] theorem gTuple_e1 {ds} : gTuple [.lst ds] = (some (.val (.tup ds))) := rfl
@[simp] theorem gTuple_e2 {ds} : gTuple [.tup ds] = (some (.val (.tup ds))) := rfl
@[simp] theorem gList_e1 {ds} : gList [.lst ds] = (some (.own ds)) := rfl
@[simp] theorem gList_e2 {ds} : gList [.tup ds] = (some (.own ds)) := rfl
@[simp] theorem gDivmod_e1 {i} {j} (h : 0 < j ∧ j < 1073741824) : gDivmod [.int i, .int j] = (some (.val (.tup [.int (i / j), .int (i % j)]))) := by show ((if 0 < j ∧ j < 1073741824 then some (.val (.tup [.int (i / j), .int (i % j)])) else none : Option C)) = _; rw [if_pos h]
@[simp] theorem isTy_e1 {T} {u1} : isTy T (.int u1) = (if T = "int" then some true else if T = "bool" ∨ T = "str" ∨ T = "tuple" ∨ T = "list" then some false else none) := rfl
@[simp] theorem isTy_e2 {T} {u1} : isTy T (.bl u1) = (if T = "int" ∨ T = "bool" then some true else if T = "str" ∨ T = "tuple" ∨ T = "list" then some false else none) := rfl
@[simp] theorem isTy_e3 {T} {u1} : isTy T (.str u1) = (if T = "str" then some true else if T = "bool" ∨ T = "int" ∨ T = "tuple" ∨ T = "list" then some false else none) := rfl
@[simp] theorem isTy_e4 {T} : isTy T (.non) = (if T = "bool" ∨ T = "int" ∨ T = "tuple" ∨ T = "list" ∨ T = "str" then some false else none) := rfl
@[simp] theorem isTy_e5 {T} {u1} : isTy T (.tup u1) = (if T = "tuple" then some true else if T = "bool" ∨ T = "int" ∨ T = "str" ∨ T = "list" then some false else none) := rfl
@[simp] theorem isTy_e6 {T} {u1} : isTy T (.lst u1) = (if T = "list" then some true else if T = "bool" ∨ T = "int" ∨ T = "str" ∨ T = "tuple" then some false else none) := rfl
@[simp] theorem isTy_e7 {T} {u1} {u2} : isTy T (.obj u2 u1) = (none) := rfl
@[simp] theorem ioOut_e1 {c} {es} : ioOut (some c) (some (some (.io 0 es))) = (some (c, es)) := rfl
end DL

set_option Elab.async false
set_option linter.all false
set_option maxRecDepth 100000
set_option maxHeartbeats 2000000
/-! DMb: reading state functions: data operations at shaped data, loops with an invariant -/
namespace DL
open PySem PySem.Spec PyProof.Rows L2
@[simp] theorem mine_val {d : D} : C.mine (.val d) = false := rfl
@[simp] theorem mine_own {ds : List D} : C.mine (.own ds) = true := rfl
@[simp] theorem mine_io {j : Nat} {ds : List D} : C.mine (.io j ds) = true := rfl
@[simp] theorem gIs_non {d : D} : gIs d .non = some (.val (.bl d.isNon)) := rfl
@[simp] theorem gIsNot_non {d : D} : gIsNot d .non = some (.val (.bl (!d.isNon))) := rfl
@[simp] theorem isNon_int {i : Int} : D.isNon (.int i) = false := rfl
@[simp] theorem isNon_str {i : Str} : D.isNon (.str i) = false := rfl
@[simp] theorem isNon_bl {i : Bool} : D.isNon (.bl i) = false := rfl
@[simp] theorem isNon_tup {i : List D} : D.isNon (.tup i) = false := rfl
@[simp] theorem isNon_lst {i : List D} : D.isNon (.lst i) = false := rfl
@[simp] theorem gSl_lst {ds : List D} {lo hi : Option Int} : gSl (.lst ds) lo hi = some (.own (cutD ds lo hi)) := rfl
@[simp] theorem gSl_str {z : Str} {lo hi : Option Int} (h : z.length ≤ 100000) : gSl (.str z) lo hi = some (.val (.str (cutS z lo hi))) := by show (if z.length ≤ 100000 then some (C.val (.str (cutS z lo hi))) else none) = _; rw [if_pos h]
@[simp] theorem gIn_any {d e : D} : gIn d e = (inD d e).map fun b => .val (.bl b) := rfl
@[simp] theorem gNotIn_any {d e : D} : gNotIn d e = (inD d e).map fun b => .val (.bl (!b)) := rfl
@[simp] theorem gRstrip_s {a b : Str} (h : a.length ≤ 100000) : gRstrip (.str a) [.str b] = some (.val (.str (Txt.rstripChars a b))) := by show (if a.length ≤ 100000 then some (C.val (.str (Txt.rstripChars a b))) else none) = _; rw [if_pos h]
@[simp] theorem gIndex_s {a b : Str} : gIndex (.str a) [.str b] = (Txt.index0 a b).map fun k => .val (.int (k : Nat)) := rfl
/-! ### slices -/
@[simp] theorem cutD_to {α : Type} {xs : List α} {n : Int} (h : 0 ≤ n) : cutD xs none (some n) = xs.take n.toNat := by
  obtain ⟨k, rfl⟩ := Int.eq_ofNat_of_zero_le h
  unfold cutD
  rw [HT.sIx_nat, HT.sIx_none]
  simp only [List.drop_zero, Nat.sub_zero, Int.toNat_natCast]
  by_cases hk : k ≤ xs.length
  · rw [Nat.min_eq_left hk]
  · rw [Nat.min_eq_right (by omega), List.take_of_length_le (by omega), List.take_of_length_le (by omega)]
@[simp] theorem cutD_from {α : Type} {xs : List α} {n : Int} (h : 0 ≤ n) : cutD xs (some n) none = xs.drop n.toNat := by
  obtain ⟨k, rfl⟩ := Int.eq_ofNat_of_zero_le h
  unfold cutD
  rw [HT.sIx_nat, HT.sIx_none, Int.toNat_natCast]
  by_cases hk : k ≤ xs.length
  · rw [Nat.min_eq_left hk, List.take_of_length_le (by simp)]
  · rw [Nat.min_eq_right (by omega), List.drop_of_length_le (Nat.le_refl _), List.drop_of_length_le (by omega)]; simp
@[simp] theorem cutD_back {α : Type} {xs : List α} {n : Int} (h : n < 0) : cutD xs (some n) none = xs.drop (n + xs.length).toNat := by
  unfold cutD
  rw [HT.sIx_none]
  show (xs.drop (if n < 0 then (n + (xs.length : Int)).toNat else min n.toNat xs.length)).take _ = _
  rw [if_pos h, List.take_of_length_le]
  simp [HT.sIx, h]
@[simp] theorem cutD_upto {α : Type} {xs : List α} {n : Int} (h : n < 0) : cutD xs none (some n) = xs.take (n + xs.length).toNat := by
  unfold cutD
  rw [HT.sIx_none]
  simp [HT.sIx, h]
@[simp] theorem cutD_mid {α : Type} {xs : List α} {m n : Int} (h : 0 ≤ m ∧ 0 ≤ n) : cutD xs (some m) (some n) = (xs.drop m.toNat).take (n.toNat - m.toNat) := by
  obtain ⟨k, rfl⟩ := Int.eq_ofNat_of_zero_le h.1
  obtain ⟨j, rfl⟩ := Int.eq_ofNat_of_zero_le h.2
  unfold cutD
  rw [HT.sIx_nat, HT.sIx_nat, Int.toNat_natCast, Int.toNat_natCast]
  apply List.ext_getElem?
  intro i
  simp only [List.getElem?_take, List.getElem?_drop]
  by_cases h1 : i < j - k
  · by_cases h2 : k + i < xs.length
    · have e1 : min k xs.length = k := by omega
      rw [if_pos (by omega), if_pos h1, e1]
    · rw [if_pos h1, List.getElem?_eq_none (by omega : xs.length ≤ k + i)]
      split
      · rw [List.getElem?_eq_none (by omega)]
      · rfl
  · rw [if_neg (by omega), if_neg h1]
/-! ### texts -/
def tx (cs : List Nat) : Str := ⟨cs.toArray⟩
theorem tx_inj {a b : List Nat} (h : tx a = tx b) : a = b := by
  unfold tx at h
  injection h with h
  simpa using congrArg Array.toList h
theorem tx_eq {a b : List Nat} : tx a = tx b ↔ a = b := ⟨tx_inj, fun h => by rw [h]⟩
@[simp] theorem tx_beq {a b : List Nat} : (tx a == tx b) = decide (a = b) := by
  by_cases h : a = b
  · subst h; simp
  · have : ¬ tx a = tx b := fun z => h (tx_inj z)
    simp [h, this]
@[simp] theorem tx_len {a : List Nat} : (tx a).length = a.length := by simp [tx, Str.length]
@[simp] theorem tx_list {a : List Nat} : (tx a).cps.toList = a := by simp [tx]
@[simp] theorem tx_app {a b : List Nat} : tx a ++ tx b = tx (a ++ b) := by
  show (⟨a.toArray ++ b.toArray⟩ : Str) = _
  simp [tx]
@[simp] theorem tx_one {c : Nat} : (⟨#[c]⟩ : Str) = tx [c] := rfl
@[simp] theorem signs_tx {a : List Nat} : signs (tx a) = a.map fun c => .str (tx [c]) := by simp [signs]
@[simp] theorem repS_tx {a : List Nat} {n : Int} : repS (tx a) n = tx (List.replicate n.toNat a).flatten := by simp [repS, tx]
@[simp] theorem cutS_tx {a : List Nat} {lo hi : Option Int} : cutS (tx a) lo hi = tx (cutD a lo hi) := by simp [cutS, tx, cutD, Str.length]
theorem rstrip_tx {a b : List Nat} : Txt.rstripChars (tx a) (tx b) = tx (a.take (a.length - (a.reverse.takeWhile b.contains).length)) := by
  unfold Txt.rstripChars
  rw [PyProof.Rows.stripBy_eq]
  have h1 : (tx b).cps.contains = b.contains := by funext c; simp [tx]
  rw [h1]
  show (⟨(tx a).cps.extract 0 _⟩ : Str) = _
  simp only [stripLo, stripHi, Bool.false_eq_true, if_false, if_true, List.drop_zero, tx_list, tx_len]
  simp [tx]
theorem join_tx : ∀ ys : List (List Nat), Txt.join (tx []) (ys.map tx) = tx ys.flatten := by
  intro ys
  show PySem.Builtin.Str.glued _ _ = _
  rw [StrLaws.glued_eq_join]
  induction ys with
  | nil => rfl
  | cons y r ih =>
    cases r with
    | nil => simp [Str.join]
    | cons z r =>
      simp only [List.map_cons, Str.join, List.flatten_cons] at ih ⊢
      rw [ih]
      simp
@[simp] theorem gJoin_tx {ys : List (List Nat)} (h : (ys.map List.length).sum ≤ 100000) : gJoin (.str (tx [])) [.lst (ys.map fun y => .str (tx y))] = some (.val (.str (tx ys.flatten))) := by
  have e : ys.map (fun y => D.str (tx y)) = (ys.map tx).map .str := by simp
  rw [e]
  show (D.toStrs ((ys.map tx).map .str)).bind _ = _
  rw [toStrs_map]
  simp only [Option.bind_some]
  rw [if_pos (by simpa [Function.comp_def] using h), join_tx]
@[simp] theorem gMax_ints {ns : List Int} (h : ns ≠ []) : gMax [.lst (ns.map .int)] = some (.val (.int (maxL ns))) := by
  show (D.toInts (ns.map .int)).bind _ = _
  rw [toInts_map]
  simp [h]
@[simp] theorem gMax_two {i j : Int} : gMax [.int i, .int j] = some (.val (.int (if j > i then j else i))) := rfl
@[simp] theorem toInts_mapf {α : Type} {f : α → Int} {xs : List α} : D.toInts (xs.map fun x => .int (f x)) = some (xs.map f) := by
  have := toInts_map (xs.map f)
  rwa [List.map_map] at this
@[simp] theorem toBls_mapf {α : Type} {f : α → Bool} {xs : List α} : D.toBls (xs.map fun x => .bl (f x)) = some (xs.map f) := by
  have := toBls_map (xs.map f)
  rwa [List.map_map] at this
@[simp] theorem toStrs_mapf {α : Type} {f : α → Str} {xs : List α} : D.toStrs (xs.map fun x => .str (f x)) = some (xs.map f) := by
  have := toStrs_map (xs.map f)
  rwa [List.map_map] at this
/-! ### == -/
@[simp] theorem eqOk_int {i : Int} : (D.int i).eqOk = true := rfl
@[simp] theorem eqOk_bl {i : Bool} : (D.bl i).eqOk = true := rfl
@[simp] theorem eqOk_non : (D.non).eqOk = true := rfl
/-- what == compares, n deep -/
def EqD : Nat → D → Prop
  | 0, d => match d with
    | .str x => PyData.strOk x = true
    | .int _ => True
    | .bl _ => True
    | .non => True
    | _ => False
  | n + 1, d => match d with
    | .tup ds => ∀ e ∈ ds, EqD n e
    | .lst ds => ∀ e ∈ ds, EqD n e
    | .str x => PyData.strOk x = true
    | .int _ => True
    | .bl _ => True
    | .non => True
    | .obj _ _ => False
theorem EqD.parts : ∀ {n : Nat} {d : D}, EqD n d → d.plain = true ∧ d.py.canLay0 = true ∧ d.py.depth ≤ n := by
  have all : ∀ {n : Nat}, (∀ {d : D}, EqD n d → d.plain = true ∧ d.py.canLay0 = true ∧ d.py.depth ≤ n) → ∀ {ds : List D}, (∀ e ∈ ds, EqD n e) → plains ds = true ∧ PyData.canLayAll0 (pys ds) = true ∧ PyData.depthAll (pys ds) ≤ n := by
    intro n hn ds
    induction ds with
    | nil => intro _; simp [plains, pys, PyData.canLayAll0, PyData.depthAll]
    | cons e r ih =>
      intro h
      have h1 := hn (h e (by simp))
      have h2 := ih fun x hx => h x (by simp [hx])
      simp only [plains, pys, PyData.canLayAll0, PyData.depthAll, Bool.and_eq_true]
      refine ⟨⟨h1.1, h2.1⟩, ⟨h1.2.1, h2.2.1⟩, ?_⟩
      have := h1.2.2
      have := h2.2.2
      omega
  intro n
  induction n with
  | zero =>
    intro d h
    cases d <;> simp_all [EqD, D.plain, D.py, PyData.canLay0, PyData.depth]
  | succ n ih =>
    intro d h
    cases d with
    | tup ds => simpa [D.plain, D.py, PyData.canLay0, PyData.depth] using all (fun {d} => ih (d := d)) h
    | lst ds => simpa [D.plain, D.py, PyData.canLay0, PyData.depth] using all (fun {d} => ih (d := d)) h
    | _ => simp_all [EqD, D.plain, D.py, PyData.canLay0, PyData.depth]
theorem EqD.ok {n : Nat} {d : D} (h : EqD n d) (hn : n ≤ 60) : d.eqOk = true := by
  have := h.parts
  unfold D.eqOk SeqAt.shaped
  simp only [this.1, this.2.1, Bool.true_and, Bool.and_true, decide_eq_true_eq]
  omega
@[simp] theorem eqOk_ints {ns : List Int} : (D.tup (ns.map .int)).eqOk = true := EqD.ok (n := 1) (by simp [EqD]) (by omega)
@[simp] theorem eqOk_intl {ns : List Int} : (D.lst (ns.map .int)).eqOk = true := EqD.ok (n := 1) (by simp [EqD]) (by omega)
@[simp] theorem eqOk_intsf {α : Type} {f : α → Int} {xs : List α} : (D.tup (xs.map fun x => .int (f x))).eqOk = true := EqD.ok (n := 1) (by simp [EqD]) (by omega)
@[simp] theorem eqOk_nill : (D.lst []).eqOk = true := EqD.ok (n := 1) (by simp [EqD]) (by omega)
@[simp] theorem eqOk_nilt : (D.tup []).eqOk = true := EqD.ok (n := 1) (by simp [EqD]) (by omega)
theorem strOk_tx {a : List Nat} (h : ∀ c ∈ a, c < 200) : PyData.strOk (tx a) = true := by
  simp [PyData.strOk, tx]
  intro c hc
  have := h c hc
  omega
theorem eqOk_tx {a : List Nat} (h : ∀ c ∈ a, c < 200) : (D.str (tx a)).eqOk = true := EqD.ok (n := 0) (strOk_tx h) (by omega)
theorem eqv_refl {d : D} (h : d.eqOk = true) : PyData.eqv d.py d.py = true := by
  unfold D.eqOk SeqAt.shaped at h
  simp only [Bool.and_eq_true] at h
  exact SeqAt.eqv_refl d.py h.2.1
theorem gEq_refl {d : D} (h : d.eqOk = true) : gEq d d = some (.val (.bl true)) := by simp [gEq, h, eqv_refl h]
theorem gNe_refl {d : D} (h : d.eqOk = true) : gNe d d = some (.val (.bl false)) := by simp [gNe, h, eqv_refl h]
@[simp] theorem gEq_ii {i j : Int} : gEq (.int i) (.int j) = some (.val (.bl (i == j))) := by simp [gEq, D.py, PyData.eqv]
@[simp] theorem gNe_ii {i j : Int} : gNe (.int i) (.int j) = some (.val (.bl (!(i == j)))) := by simp [gNe, D.py, PyData.eqv]
theorem gEq_tx {a b : List Nat} (h : ∀ c ∈ a, c < 200) (h2 : ∀ c ∈ b, c < 200) : gEq (.str (tx a)) (.str (tx b)) = some (.val (.bl (decide (a = b)))) := by simp [gEq, D.py, PyData.eqv, eqOk_tx h, eqOk_tx h2]
theorem gNe_tx {a b : List Nat} (h : ∀ c ∈ a, c < 200) (h2 : ∀ c ∈ b, c < 200) : gNe (.str (tx a)) (.str (tx b)) = some (.val (.bl (!decide (a = b)))) := by simp [gNe, D.py, PyData.eqv, eqOk_tx h, eqOk_tx h2]
@[simp] theorem all_true {α : Type} {xs : List α} : (xs.all fun _ => true) = true := by simp
/-! ### items -/
theorem atI_nat {α : Type} {xs : List α} {k : Nat} : atI xs (k : Int) = xs[k]? := by
  unfold atI ixN
  by_cases h : k < xs.length
  · simp [h]
  · simp [h]
theorem atI_of {α : Type} {xs : List α} {i : Int} (h : 0 ≤ i) : atI xs i = xs[i.toNat]? := by
  obtain ⟨k, rfl⟩ := Int.eq_ofNat_of_zero_le h
  rw [atI_nat]; simp
/-! ### loops -/
theorem loop_inv {ga : D → M Unit} {fb : M Fl} {P : List D → DS → Prop} (st : ∀ d rest δ, P (d :: rest) δ → ∃ δ1 δ2, ga d δ = some ((), δ1) ∧ fb δ1 = some (.nx, δ2) ∧ P rest δ2) :
    ∀ ds δ, P ds δ → ∃ δ', fLoop ga fb ds δ = some (.nx, δ') ∧ P [] δ'
  | [], δ, h => ⟨δ, rfl, h⟩
  | d :: rest, δ, h => by
    obtain ⟨δ1, δ2, h1, h2, h3⟩ := st d rest δ h
    obtain ⟨δ', h4, h5⟩ := loop_inv st rest δ2 h3
    exact ⟨δ', by simp [h1, h2, h4], h5⟩
/-- the same, with the items as what is looked at -/
theorem loop_all {ga : D → M Unit} {fb : M Fl} {P : DS → Prop} {ds : List D} (st : ∀ d ∈ ds, ∀ δ, P δ → ∃ δ1 δ2, ga d δ = some ((), δ1) ∧ fb δ1 = some (.nx, δ2) ∧ P δ2) :
    ∀ δ, P δ → ∃ δ', fLoop ga fb ds δ = some (.nx, δ') ∧ P δ' := by
  intro δ h
  obtain ⟨δ', h1, h2⟩ := loop_inv (ga := ga) (fb := fb) (P := fun r δ => (∀ d ∈ r, d ∈ ds) ∧ P δ) (fun d rest δ h => by
    obtain ⟨δ1, δ2, h1, h2, h3⟩ := st d (h.1 d (by simp)) δ h.2
    exact ⟨δ1, δ2, h1, h2, fun x hx => h.1 x (by simp [hx]), h3⟩) ds δ ⟨fun _ h => h, h⟩
  exact ⟨δ', h1, h2.2⟩
theorem lc_inv {ga : D → M Unit} {ft : M Bool} {fe : M D} {vs : List Nat} {P : List D → List D → DS → Prop}
    (st : ∀ d rest acc δ, P (d :: rest) acc δ → ∃ δ1 b δ2, ga d δ = some ((), δ1) ∧ ft δ1 = some (b, δ2) ∧ (b = false → P rest acc (wipeL δ2 vs)) ∧ (b = true → acc.length < 100000 ∧ ∃ e δ3, fe δ2 = some (e, δ3) ∧ P rest (acc ++ [e]) (wipeL δ3 vs))) :
    ∀ ds acc δ, P ds acc δ → ∃ es δ', lcLoop ga ft fe vs ds acc δ = some (es, δ') ∧ P [] es δ'
  | [], acc, δ, h => ⟨acc, δ, rfl, h⟩
  | d :: rest, acc, δ, h => by
    obtain ⟨δ1, b, δ2, h1, h2, h3, h4⟩ := st d rest acc δ h
    cases b with
    | false =>
      obtain ⟨es, δ', h5, h6⟩ := lc_inv st rest acc _ (h3 rfl)
      exact ⟨es, δ', by simp [h1, h2, h5], h6⟩
    | true =>
      obtain ⟨h0, e, δ3, h5, h6⟩ := h4 rfl
      obtain ⟨es, δ', h7, h8⟩ := lc_inv st rest _ _ h6
      exact ⟨es, δ', by simp [h1, h2, h5, h0, h7], h8⟩
/-- a comprehension that changes nothing -/
theorem lc_map {ga : D → M Unit} {fe : M D} {vs : List Nat} {y : D → D} {δ : DS} : ∀ (ds acc : List D), (∀ d ∈ ds, ∃ δ1 δ2, ga d δ = some ((), δ1) ∧ fe δ1 = some (y d, δ2) ∧ wipeL δ2 vs = δ) → acc.length + ds.length ≤ 100000 →
    lcLoop ga mYes fe vs ds acc δ = some (acc ++ ds.map y, δ)
  | [], acc, _, _ => by simp
  | d :: rest, acc, h, hl => by
    obtain ⟨δ1, δ2, h1, h2, h3⟩ := h d (by simp)
    simp only [List.length_cons] at hl
    have := lc_map rest (acc ++ [y d]) (fun x hx => h x (by simp [hx])) (by simp; omega)
    have hlt : acc.length < 100000 := by omega
    simp [h1, h2, h3, this, hlt]
/-- a comprehension with a test that changes nothing -/
theorem lc_filter {ga : D → M Unit} {ft : M Bool} {fe : M D} {vs : List Nat} {p : D → Bool} {y : D → D} {δ : DS} : ∀ (ds acc : List D), (∀ d ∈ ds, ∃ δ1 δ2 δ3, ga d δ = some ((), δ1) ∧ ft δ1 = some (p d, δ2) ∧ wipeL δ2 vs = δ ∧ (p d = true → fe δ2 = some (y d, δ3) ∧ wipeL δ3 vs = δ)) → acc.length + ds.length ≤ 100000 →
    lcLoop ga ft fe vs ds acc δ = some (acc ++ (ds.filter p).map y, δ)
  | [], acc, _, _ => by simp
  | d :: rest, acc, h, hl => by
    obtain ⟨δ1, δ2, δ3, h1, h2, h3, h4⟩ := h d (by simp)
    simp only [List.length_cons] at hl
    have hlt : acc.length < 100000 := by omega
    cases e : p d with
    | true =>
      have := lc_filter rest (acc ++ [y d]) (fun x hx => h x (by simp [hx])) (by simp; omega)
      simp [h1, h2, (h4 e).1, (h4 e).2, this, e, hlt]
    | false =>
      have := lc_filter rest acc (fun x hx => h x (by simp [hx])) (by omega)
      simp [h1, h2, h3, this, e]
theorem lc_mapA {α : Type} {ga : D → M Unit} {fe : M D} {vs : List Nat} {f y : α → D} {δ : DS} : ∀ (xs : List α) (acc : List D), (∀ x ∈ xs, ∃ δ1 δ2, ga (f x) δ = some ((), δ1) ∧ fe δ1 = some (y x, δ2) ∧ wipeL δ2 vs = δ) → acc.length + xs.length ≤ 100000 →
    lcLoop ga mYes fe vs (xs.map f) acc δ = some (acc ++ xs.map y, δ)
  | [], acc, _, _ => by simp
  | d :: rest, acc, h, hl => by
    obtain ⟨δ1, δ2, h1, h2, h3⟩ := h d (by simp)
    simp only [List.length_cons] at hl
    have := lc_mapA rest (acc ++ [y d]) (fun x hx => h x (by simp [hx])) (by simp; omega)
    have hlt : acc.length < 100000 := by omega
    simp [h1, h2, h3, this, hlt]
/-- a comprehension over items that are made of xs -/
theorem lc_of {α : Type} {ga : D → M Unit} {fe : M D} {vs : List Nat} {δ : DS} (xs : List α) (f y : α → D) (h : ∀ x ∈ xs, ∃ δ1 δ2, ga (f x) δ = some ((), δ1) ∧ fe δ1 = some (y x, δ2) ∧ wipeL δ2 vs = δ) (hl : xs.length ≤ 100000) :
    lcLoop ga mYes fe vs (xs.map f) [] δ = some (xs.map y, δ) := lc_mapA xs [] h (by simpa using hl)
/-- .. whose first turn lays a list to rest -/
theorem lc_of2 {α : Type} {ga : D → M Unit} {fe : M D} {vs : List Nat} {δ0 δ : DS} (xs : List α) (f y : α → D) (h0 : ∀ x ∈ xs, ∃ δ1 δ2, ga (f x) δ0 = some ((), δ1) ∧ fe δ1 = some (y x, δ2) ∧ wipeL δ2 vs = δ) (h : ∀ x ∈ xs, ∃ δ1 δ2, ga (f x) δ = some ((), δ1) ∧ fe δ1 = some (y x, δ2) ∧ wipeL δ2 vs = δ) (hl : xs.length ≤ 100000) (hne : xs ≠ []) :
    lcLoop ga mYes fe vs (xs.map f) [] δ0 = some (xs.map y, δ) := by
  cases xs with
  | nil => exact absurd rfl hne
  | cons d rest =>
    obtain ⟨δ1, δ2, h1, h2, h3⟩ := h0 d (by simp)
    simp only [List.length_cons] at hl
    have := lc_mapA (ga := ga) (fe := fe) (vs := vs) (f := f) (y := y) (δ := δ) rest [y d] (fun x hx => h x (by simp [hx])) (by simp; omega)
    simp [h1, h2, h3, this]
theorem lc_filterA {α : Type} {ga : D → M Unit} {ft : M Bool} {fe : M D} {vs : List Nat} {p : α → Bool} {f y : α → D} {δ : DS} : ∀ (xs : List α) (acc : List D), (∀ x ∈ xs, ∃ δ1 δ2, ga (f x) δ = some ((), δ1) ∧ ft δ1 = some (p x, δ2) ∧ wipeL δ2 vs = δ ∧ (p x = true → ∃ δ3, fe δ2 = some (y x, δ3) ∧ wipeL δ3 vs = δ)) → acc.length + xs.length ≤ 100000 →
    lcLoop ga ft fe vs (xs.map f) acc δ = some (acc ++ (xs.filter p).map y, δ)
  | [], acc, _, _ => by simp
  | d :: rest, acc, h, hl => by
    obtain ⟨δ1, δ2, h1, h2, h3, h4⟩ := h d (by simp)
    simp only [List.length_cons] at hl
    have hlt : acc.length < 100000 := by omega
    cases e : p d with
    | true =>
      obtain ⟨δ3, h5, h6⟩ := h4 e
      have := lc_filterA rest (acc ++ [y d]) (fun x hx => h x (by simp [hx])) (by simp; omega)
      simp [h1, h2, h5, h6, this, e, hlt]
    | false =>
      have := lc_filterA rest acc (fun x hx => h x (by simp [hx])) (by omega)
      simp [h1, h2, h3, this, e]
theorem lc_if {α : Type} {ga : D → M Unit} {ft : M Bool} {fe : M D} {vs : List Nat} {δ : DS} (xs : List α) (f y : α → D) (p : α → Bool) (h : ∀ x ∈ xs, ∃ δ1 δ2, ga (f x) δ = some ((), δ1) ∧ ft δ1 = some (p x, δ2) ∧ wipeL δ2 vs = δ ∧ (p x = true → ∃ δ3, fe δ2 = some (y x, δ3) ∧ wipeL δ3 vs = δ)) (hl : xs.length ≤ 100000) :
    lcLoop ga ft fe vs (xs.map f) [] δ = some ((xs.filter p).map y, δ) := lc_filterA xs [] h (by simpa using hl)
/-- a comprehension that changes a list on its way -/
theorem lc_run {α : Type} {ga : D → M Unit} {fe : M D} {vs : List Nat} {P : DS → Prop} {E : D → Prop} (f : α → D) : ∀ (xs : List α) (acc : List D), (∀ x ∈ xs, ∀ δ, P δ → ∃ δ1 e δ2, ga (f x) δ = some ((), δ1) ∧ fe δ1 = some (e, δ2) ∧ E e ∧ P (wipeL δ2 vs)) → acc.length + xs.length ≤ 100000 →
    ∀ δ, P δ → ∃ es δ', lcLoop ga mYes fe vs (xs.map f) acc δ = some (acc ++ es, δ') ∧ es.length = xs.length ∧ (∀ e ∈ es, E e) ∧ P δ'
  | [], acc, _, _, δ, hp => ⟨[], δ, by simp, rfl, by simp, hp⟩
  | d :: rest, acc, h, hl, δ, hp => by
    simp only [List.length_cons] at hl
    have hlt : acc.length < 100000 := by omega
    obtain ⟨δ1, e, δ2, h1, h2, h3, h4⟩ := h d (by simp) δ hp
    obtain ⟨es, δ', h5, h6, h7, h8⟩ := lc_run f rest (acc ++ [e]) (fun x hx => h x (by simp [hx])) (by simp; omega) _ h4
    exact ⟨e :: es, δ', by simp [h1, h2, hlt, h5], by simp [h6], by simpa [h3] using h7, h8⟩
theorem all_of {α : Type} {g : α → D} {S : α → Prop} : ∀ {es : List D}, (∀ e ∈ es, ∃ c, S c ∧ e = g c) → ∃ cs : List α, es = cs.map g ∧ (∀ c ∈ cs, S c)
  | [], _ => ⟨[], rfl, by simp⟩
  | e :: r, h => by
    obtain ⟨c, h1, rfl⟩ := h e (by simp)
    obtain ⟨cs, rfl, h2⟩ := all_of (es := r) fun x hx => h x (by simp [hx])
    exact ⟨c :: cs, rfl, by simpa [h1] using h2⟩
theorem while_inv {t : M Bool} {fb : M Fl} {P : Nat → DS → Prop} {Q : DS → Prop} (st : ∀ n δ, P n δ → ∃ c δ1, t δ = some (c, δ1) ∧ (c = false → Q δ1) ∧ (c = true → ∃ δ2 m, fb δ1 = some (.nx, δ2) ∧ m < n ∧ P m δ2)) :
    ∀ n δ, P n δ → ∃ δ', fWhile t fb δ = some (.nx, δ') ∧ Q δ' := by
  have go : ∀ k n δ, n ≤ k → P n δ → ∃ δ', fTurns t fb (k + 1) δ = some (.nx, δ') ∧ Q δ' := by
    intro k
    induction k with
    | zero =>
      intro n δ hn h
      obtain ⟨c, δ1, h1, h2, h3⟩ := st n δ h
      cases c with
      | false => exact ⟨δ1, by simp [fTurns, h1], h2 rfl⟩
      | true => obtain ⟨_, m, _, hm, _⟩ := h3 rfl; omega
    | succ k ih =>
      intro n δ hn h
      obtain ⟨c, δ1, h1, h2, h3⟩ := st n δ h
      cases c with
      | false => exact ⟨δ1, by simp [fTurns, h1], h2 rfl⟩
      | true =>
        obtain ⟨δ2, m, h4, hm, h5⟩ := h3 rfl
        obtain ⟨δ', h6, h7⟩ := ih m δ2 (by omega) h5
        refine ⟨δ', ?_, h7⟩
        show (t δ).bind _ = _
        rw [h1]
        simp only [Option.bind_some, if_true, h4, turnEnd]
        exact h6
  intro n δ h
  obtain ⟨δ', h1, h2⟩ := go n n δ (by omega) h
  exact ⟨δ', fWhile_of h1, h2⟩
end DL

set_option Elab.async false
set_option linter.all false
set_option maxRecDepth 100000
set_option maxHeartbeats 8000000

/-! the state functions of the text, printed by gen_k.py -/
namespace K62
open PySem PySem.Spec PyProof.Rows L2 DL

noncomputable section
def N_is_number : List Str := ["value", "low", "high"]
def m_is_number : M Fl := fRet (fAndV (fIsi "int" (oName 0)) (fAndV (fNotV (fIsi "bool" (oName 0))) (fChain gLe gLe (oName 1) (oName 0) (oName 2))))
def F_is_number : List D → Option C := runF N_is_number 3 m_is_number
def N_check_numbers : List Str := ["numbers", "fewest", "number"]
def e1_check_numbers : M D := fV (fCall F_is_number 3 (fFrz (aCons (oName 2) (aCons (fO (fC (.int 0))) (aCons (fO (fC (.int 9999999999999999999999999999999999999999))) (aNil))))))
def x1_check_numbers : M C := fLc (fItems (fV (fName 0))) (gaName 2) (mYes) (e1_check_numbers) [2]
def m_check_numbers : M Fl := fSeq (fIfS (mOr (mNot (fTest (fIsi "tuple" (oName 0)))) (mNot (fTest (fChain gLe gLe (oName 1) (fO (fCB gLen (aCons (oName 0) (aNil)))) (fO (fC (.int 3))))))) (fNo) (fNx))
  (fIfS (mNot (fTest (fCB gAll (aCons (fO (x1_check_numbers)) (aNil))))) (fNo) (fNx))
def F_check_numbers : List D → Option C := runF N_check_numbers 2 m_check_numbers
def N_number_by : List Str := ["figures", "found", "figure"]
def b1_number_by : M Fl := fSet 1 (fBin gAdd (fO (fBin gMul (fO (fC (.int 2))) (oName 1))) (oName 2))
def l1_number_by : M Fl := fFor (fItems (fV (fBack (oName 0)))) (gaName 2) (b1_number_by)
def m_number_by : M Fl := fSeq (fSet 1 (fC (.int 0)))
  (fSeq (l1_number_by)
  (fRetX 1))
def F_number_by : List D → Option C := runF N_number_by 1 m_number_by
def N_shortest_row : List Str := ["numbers", "row", "left", "number"]
def e1_shortest_row : M D := fV (fBin gGt (oName 3) (fO (fC (.int 0))))
def x1_shortest_row : M C := fLc (fItems (fV (fName 2))) (gaName 3) (mYes) (e1_shortest_row) [3]
def e2_shortest_row : M D := fV (fBin gDiv (oName 3) (fO (fC (.int 2))))
def x2_shortest_row : M C := fLc (fItems (fV (fName 2))) (gaName 3) (mYes) (e2_shortest_row) [3]
def e3_shortest_row : M D := fV (fBin gMod (oName 3) (fO (fC (.int 2))))
def x3_shortest_row : M C := fLc (fItems (fV (fName 2))) (gaName 3) (mYes) (e3_shortest_row) [3]
def t1_shortest_row : M Bool := fTest (fCB gAny (aCons (fO (x1_shortest_row)) (aNil)))
def b1_shortest_row : M Fl := fSeq (fSet 1 (fBin gAdd (oName 1) (fO (fBin gIx (fO (fC (.str "abcdefgh"))) (fO (fCall F_number_by 1 (fFrz (aCons (fO (x3_shortest_row)) (aNil)))))))))
  (fSet 2 (x2_shortest_row))
def l1_shortest_row : M Fl := fWhile (t1_shortest_row) (b1_shortest_row)
def m_shortest_row : M Fl := fSeq (fPar 1 2 (aCons (fO (fC (.str ""))) (aCons (fO (fCB gList (aCons (oName 0) (aNil)))) (aNil))))
  (fSeq (l1_shortest_row)
  (fRetX 1))
def F_shortest_row : List D → Option C := runF N_shortest_row 1 m_shortest_row
def N_row_for : List Str := ["numbers"]
def m_row_for : M Fl := fSeq (fDrop (fCall F_check_numbers 2 (fFrz (aCons (oName 0) (aCons (fO (fC (.int 1))) (aNil))))))
  (fRet (fCall F_shortest_row 1 (fFrz (aCons (oName 0) (aNil)))))
def F_row_for : List D → Option C := runF N_row_for 1 m_row_for
def N__law_figures : List Str := ["lanes", "rowlet", "found", "track", "number", "worth", "sign"]
def b1__law_figures : M Fl := fSeq (fSet 4 (fBin gAdd (oName 4) (fO (fBin gMul (oName 5) (fO (fBin gMod (fO (fBin gDiv (fO (fCB gInt (aCons (fO (fMt gIndex (fO (fC (.str "abcdefgh"))) (aCons (oName 6) (aNil)))) (aNil)))) (fO (fBin gIx (fO (fLst (fFrz (aCons (fO (fC (.int 1))) (aCons (fO (fC (.int 2))) (aCons (fO (fC (.int 4))) (aNil))))))) (oName 3))))) (fO (fC (.int 2)))))))))
  (fSet 5 (fBin gMul (fO (fC (.int 2))) (oName 5)))
def l1__law_figures : M Fl := fFor (fItems (fV (fName 1))) (gaName 6) (b1__law_figures)
def b2__law_figures : M Fl := fSeq (fAsg (gaTup 2 (gsCons (gaName 4) (gsCons (gaName 5) (gsNil)))) (fV (fTup (fFrz (aCons (fO (fC (.int 0))) (aCons (fO (fC (.int 1))) (aNil)))))))
  (fSeq (l1__law_figures)
  (fApp 2 (fV (fName 4))))
def l2__law_figures : M Fl := fFor (fRange1 (aCons (oName 0) (aNil))) (gaName 3) (b2__law_figures)
def m__law_figures : M Fl := fSeq (fSet 2 (fLst (fFrz (aNil))))
  (fSeq (l2__law_figures)
  (fRet (fCB gTuple (aCons (oName 2) (aNil)))))
def F__law_figures : List D → Option C := runF N__law_figures 2 m__law_figures
def N__law_scoop : List Str := ["brook", "many", "digit", "kept"]
def m__law_scoop : M Fl := fSeq (fIfS (fTest (fBin gGt (fO (fBin gIx (oName 0) (fO (fC (.int 0))))) (fO (fC (.int 0))))) (fSeq (fAsg (gaTup 2 (gsCons (gaSub 0 (fC (.int 0))) (gsCons (gaName 2) (gsNil)))) (fV (fCB gDivmod (aCons (fO (fBin gIx (oName 0) (fO (fC (.int 0))))) (aCons (oName 1) (aNil))))))
  (fRetX 2)) (fNx))
  (fSeq (fAsg (gaSub 0 (fC (.int 2))) (fV (fBin gAdd (fO (fBin gIx (oName 0) (fO (fC (.int 2))))) (fO (fC (.int 1))))))
  (fSeq (fSet 3 (fBin gMod (fO (fCB gInt (aCons (fO (fBin gAdd (fO (fBin gIx (oName 0) (fO (fC (.int 1))))) (fO (fBin gMul (fO (fC (.int 60119))) (fO (fBin gIx (oName 0) (fO (fC (.int 2))))))))) (aNil)))) (fO (fC (.int 2147483269)))))
  (fSeq (fAsg (gaSub 0 (fC (.int 1))) (fV (fBin gMod (fO (fCB gInt (aCons (fO (fBin gAdd (fO (fBin gAdd (fO (fBin gMul (oName 3) (fO (fBin gAdd (fO (fBin gMod (fO (fCB gInt (aCons (oName 3) (aNil)))) (fO (fC (.int 30011))))) (fO (fC (.int 41011))))))) (fO (fBin gMul (fO (fC (.int 71))) (fO (fBin gIx (oName 0) (fO (fC (.int 2))))))))) (fO (fC (.int 3))))) (aNil)))) (fO (fC (.int 2147483269))))))
  (fRet (fBin gMod (fO (fBin gDiv (fO (fCB gInt (aCons (fO (fBin gIx (oName 0) (fO (fC (.int 1))))) (aNil)))) (fO (fC (.int 331))))) (oName 1))))))
def F__law_scoop : List D → Option (C × List D) := runIo N__law_scoop 2 m__law_scoop
def N__law_choose : List Str := ["brook", "some"]
def m__law_choose : M Fl := fRet (fBin gIx (oName 1) (fO (fCallIo F__law_scoop 2 (aCons (oName 0) (aCons (fO (fCB gLen (aCons (oName 1) (aNil)))) (aNil))))))
def F__law_choose : List D → Option (C × List D) := runIo N__law_choose 2 m__law_choose
def N_check_tracks : List Str := ["tracks"]
def m_check_tracks : M Fl := fIfS (mNot (fTest (fCall F_is_number 3 (fFrz (aCons (oName 0) (aCons (fO (fC (.int 1))) (aCons (fO (fC (.int 3))) (aNil)))))))) (fNo) (fNx)
def F_check_tracks : List D → Option C := runF N_check_tracks 1 m_check_tracks
def N_figures_of : List Str := ["place", "many", "found", "track"]
def b1_figures_of : M Fl := fSeq (fApp 2 (fV (fBin gMod (oName 0) (fO (fC (.int 2))))))
  (fSet 0 (fBin gDiv (oName 0) (fO (fC (.int 2)))))
def l1_figures_of : M Fl := fFor (fRange1 (aCons (oName 1) (aNil))) (gaName 3) (b1_figures_of)
def m_figures_of : M Fl := fSeq (fSet 2 (fLst (fFrz (aNil))))
  (fSeq (l1_figures_of)
  (fRetX 2))
def F_figures_of : List D → Option C := runF N_figures_of 2 m_figures_of
def N_figures_by : List Str := ["row", "sign"]
def e1_figures_by : M D := fV (fMt gIndex (fO (fC (.str "abcdefgh"))) (aCons (oName 1) (aNil)))
def x1_figures_by : M C := fLc (fItems (fV (fName 0))) (gaName 1) (mYes) (e1_figures_by) [1]
def m_figures_by : M Fl := fRet (x1_figures_by)
def F_figures_by : List D → Option C := runF N_figures_by 1 m_figures_by
def N_numbers_of : List Str := ["tracks", "row", "signs", "place", "figures", "track"]
def e1_numbers_of : M D := fV (fBin gIx (oName 4) (oName 5))
def x1_numbers_of : M C := fLc (fItems (fV (fName 2))) (gaName 4) (mYes) (e1_numbers_of) [4]
def e2_numbers_of : M D := fV (fCall F_number_by 1 (fFrz (aCons (fO (x1_numbers_of)) (aNil))))
def x2_numbers_of : M C := fLc (fRange1 (aCons (oName 0) (aNil))) (gaName 5) (mYes) (e2_numbers_of) [5]
def e3_numbers_of : M D := fV (fCall F_figures_of 2 (fFrz (aCons (oName 3) (aCons (oName 0) (aNil)))))
def x3_numbers_of : M C := fLc (fItems (fV (fCall F_figures_by 1 (fFrz (aCons (oName 1) (aNil)))))) (gaName 3) (mYes) (e3_numbers_of) [3]
def m_numbers_of : M Fl := fSeq (fSet 2 (x3_numbers_of))
  (fRet (fCB gTuple (aCons (fO (x2_numbers_of)) (aNil))))
def F_numbers_of : List D → Option C := runF N_numbers_of 2 m_numbers_of
def N_is_row : List Str := ["value", "signs", "most", "sign"]
def e1_is_row : M D := fV (fBin gIn (oName 3) (fO (fSl gSl (fO (fC (.str "abcdefgh"))) (pNone) (pSome (fName 1)))))
def x1_is_row : M C := fLc (fItems (fV (fName 0))) (gaName 3) (mYes) (e1_is_row) [3]
def m_is_row : M Fl := fSeq (fIfS (mOr (mNot (fTest (fIsi "str" (oName 0)))) (mNot (fTest (fCB gAll (aCons (fO (x1_is_row)) (aNil)))))) (fRet (fC (.bl false))) (fNx))
  (fRet (fOrV (fBin gIs (oName 2) (fO (fC .non))) (fBin gLe (fO (fCB gLen (aCons (oName 0) (aNil)))) (oName 2))))
def F_is_row : List D → Option C := runF N_is_row 3 m_is_row
def N_power_of : List Str := ["number", "found", "lap"]
def b1_power_of : M Fl := fSet 1 (fBin gMul (oName 1) (fO (fC (.int 2))))
def l1_power_of : M Fl := fFor (fRange1 (aCons (oName 0) (aNil))) (gaName 2) (b1_power_of)
def m_power_of : M Fl := fSeq (fSet 1 (fC (.int 1)))
  (fSeq (l1_power_of)
  (fRetX 1))
def F_power_of : List D → Option C := runF N_power_of 1 m_power_of
def N_numbers_by : List Str := ["tracks", "row"]
def m_numbers_by : M Fl := fSeq (fDrop (fCall F_check_tracks 1 (fFrz (aCons (oName 0) (aNil)))))
  (fSeq (fIfS (mNot (fTest (fCall F_is_row 3 (fFrz (aCons (oName 1) (aCons (fO (fCall F_power_of 1 (fFrz (aCons (oName 0) (aNil))))) (aCons (fO (fC (.int 200))) (aNil)))))))) (fNo) (fNx))
  (fRet (fCall F_numbers_of 2 (fFrz (aCons (oName 0) (aCons (oName 1) (aNil)))))))
def F_numbers_by : List D → Option C := runF N_numbers_by 2 m_numbers_by
def N__law_row_right : List Str := ["brook", "lanes", "signs", "size", "rowlet", "k", "told", "number"]
def t1__law_row_right : M Bool := mNot (fTest (fIsi "int" (oName 7)))
def e1__law_row_right : M D := fV (fName 7)
def x1__law_row_right : M C := fLc (fItems (fV (fCall F_numbers_by 2 (fFrz (aCons (oName 1) (aCons (oName 4) (aNil))))))) (gaName 7) (t1__law_row_right) (e1__law_row_right) [7]
def e2__law_row_right : M D := fV (fCallIo F__law_choose 2 (aCons (oName 0) (aCons (oName 2) (aNil))))
def x2__law_row_right : M C := fLc (fRange1 (aCons (oName 3) (aNil))) (gaName 5) (mYes) (e2__law_row_right) [5]
def m__law_row_right : M Fl := fSeq (fSet 1 (fBin gAdd (fO (fC (.int 1))) (fO (fCallIo F__law_scoop 2 (aCons (oName 0) (aCons (fO (fC (.int 3))) (aNil)))))))
  (fSeq (fAsg (gaTup 2 (gsCons (gaName 2) (gsCons (gaName 3) (gsNil)))) (fV (fTup (fFrz (aCons (fO (fSl gSl (fO (fC (.str "abcdefgh"))) (pNone) (pSome (fBin gIx (fO (fLst (fFrz (aCons (fO (fC (.int 2))) (aCons (fO (fC (.int 4))) (aCons (fO (fC (.int 8))) (aNil))))))) (fO (fBin gSub (oName 1) (fO (fC (.int 1))))))))) (aCons (fO (fCallIo F__law_choose 2 (aCons (oName 0) (aCons (fO (fLst (fFrz (aCons (fO (fC (.int 0))) (aCons (fO (fC (.int 1))) (aCons (fO (fC (.int 2))) (aCons (fO (fC (.int 3))) (aCons (fO (fC (.int 6))) (aCons (fO (fC (.int 40))) (aCons (fO (fC (.int 130))) (aNil))))))))))) (aNil))))) (aNil)))))))
  (fSeq (fSet 4 (fBin gAdd (fO (fMt gJoin (fO (fC (.str ""))) (aCons (fO (x2__law_row_right)) (aNil)))) (fO (fBin gMul (fO (fC (.str "a"))) (fO (fCallIo F__law_choose 2 (aCons (oName 0) (aCons (fO (fLst (fFrz (aCons (fO (fC (.int 0))) (aCons (fO (fC (.int 0))) (aCons (fO (fC (.int 1))) (aCons (fO (fC (.int 60))) (aNil)))))))) (aNil)))))))))
  (fSeq (fSet 6 (fCall F__law_figures 2 (fFrz (aCons (oName 1) (aCons (oName 4) (aNil))))))
  (fSeq (fIfS (mOr (fTest (fBin gNe (fO (fCall F_numbers_by 2 (fFrz (aCons (oName 1) (aCons (oName 4) (aNil)))))) (oName 6))) (fTest (fBin gNe (fO (fCallK F_numbers_by 2 2 [1, 0] (fFrz (aCons (oName 4) (aCons (oName 1) (aNil)))))) (oName 6)))) (fRet (fC (.bl false))) (fNx))
  (fSeq (fIfS (mOr (fTest (fBin gNe (fO (fCall F_row_for 1 (fFrz (aCons (oName 6) (aNil))))) (fO (fMt gRstrip (oName 4) (aCons (fO (fC (.str "a"))) (aNil)))))) (fTest (fBin gNe (fO (fCall F_numbers_by 2 (fFrz (aCons (oName 1) (aCons (fO (fBin gAdd (fO (fMt gRstrip (oName 4) (aCons (fO (fC (.str "a"))) (aNil)))) (fO (fC (.str "aaa"))))) (aNil)))))) (oName 6)))) (fRet (fC (.bl false))) (fNx))
  (fRet (fBin gEq (fO (x1__law_row_right)) (fO (fLst (fFrz (aNil)))))))))))
def F__law_row_right : List D → Option (C × List D) := runIo N__law_row_right 1 m__law_row_right
def N__law_shortest : List Str := ["nums", "rowlet", "left", "turn", "k", "number"]
def e1__law_shortest : M D := fV (fBin gDiv (fO (fCB gInt (aCons (oName 5) (aNil)))) (fO (fC (.int 2))))
def x1__law_shortest : M C := fLc (fItems (fV (fName 2))) (gaName 5) (mYes) (e1__law_shortest) [5]
def e2__law_shortest : M D := fV (fBin gMul (fO (fBin gMod (fO (fCB gInt (aCons (fO (fBin gIx (oName 2) (oName 4))) (aNil)))) (fO (fC (.int 2))))) (fO (fBin gIx (fO (fLst (fFrz (aCons (fO (fC (.int 1))) (aCons (fO (fC (.int 2))) (aCons (fO (fC (.int 4))) (aNil))))))) (oName 4))))
def x2__law_shortest : M C := fLc (fRange1 (aCons (fO (fCB gLen (aCons (oName 2) (aNil)))) (aNil))) (gaName 4) (mYes) (e2__law_shortest) [4]
def b1__law_shortest : M Fl := fIfS (fTest (fBin gGt (fO (fCB gMax (aCons (fO (fBin gAdd (oName 2) (fO (fLst (fFrz (aCons (fO (fC (.int 0))) (aNil))))))) (aNil)))) (fO (fC (.int 0))))) (fSeq (fSet 1 (fBin gAdd (oName 1) (fO (fBin gIx (fO (fC (.str "abcdefgh"))) (fO (fCB gSum (aCons (fO (x2__law_shortest)) (aNil))))))))
  (fSet 2 (x1__law_shortest))) (fNx)
def l1__law_shortest : M Fl := fFor (fRange1 (aCons (fO (fC (.int 200))) (aNil))) (gaName 3) (b1__law_shortest)
def m__law_shortest : M Fl := fSeq (fAsg (gaTup 2 (gsCons (gaName 1) (gsCons (gaName 2) (gsNil)))) (fV (fTup (fFrz (aCons (fO (fC (.str ""))) (aCons (fO (fCB gList (aCons (oName 0) (aNil)))) (aNil)))))))
  (fSeq (l1__law_shortest)
  (fRetX 1))
def F__law_shortest : List D → Option C := runF N__law_shortest 1 m__law_shortest
def N__law_numbers_right : List Str := ["brook", "many", "found", "k", "some", "nums", "rowlet"]
def b1__law_numbers_right : M Fl := fSeq (fSet 4 (fLst (fFrz (aCons (fO (fCallIo F__law_scoop 2 (aCons (oName 0) (aCons (fO (fC (.int 5))) (aNil))))) (aCons (fO (fCallIo F__law_scoop 2 (aCons (oName 0) (aCons (fO (fC (.int 1000))) (aNil))))) (aCons (fO (fBin gSub (fO (fBin gSub (fO (fBin gPow (fO (fC (.int 10))) (fO (fC (.int 40))))) (fO (fC (.int 1))))) (fO (fCallIo F__law_scoop 2 (aCons (oName 0) (aCons (fO (fC (.int 9))) (aNil))))))) (aCons (fO (fBin gPow (fO (fC (.int 16))) (fO (fC (.int 33))))) (aNil))))))))
  (fApp 2 (fV (fCallIo F__law_choose 2 (aCons (oName 0) (aCons (oName 4) (aNil))))))
def l1__law_numbers_right : M Fl := fFor (fRange1 (aCons (oName 1) (aNil))) (gaName 3) (b1__law_numbers_right)
def m__law_numbers_right : M Fl := fSeq (fPar 1 2 (aCons (fO (fBin gAdd (fO (fC (.int 1))) (fO (fCallIo F__law_scoop 2 (aCons (oName 0) (aCons (fO (fC (.int 3))) (aNil))))))) (aCons (fO (fLst (fFrz (aNil)))) (aNil))))
  (fSeq (l1__law_numbers_right)
  (fSeq (fSet 5 (fCB gTuple (aCons (oName 2) (aNil))))
  (fSeq (fSet 6 (fCall F_row_for 1 (fFrz (aCons (oName 5) (aNil)))))
  (fSeq (fIfS (mOr (fTest (fBin gNe (oName 6) (fO (fCall F__law_shortest 1 (fFrz (aCons (oName 5) (aNil))))))) (mOr (fTest (fBin gNe (fO (fCallK F_row_for 1 1 [0] (fFrz (aCons (oName 5) (aNil))))) (oName 6))) (fTest (fBin gEq (fO (fSl gSl (oName 6) (pSome (fNeg (fO (fC (.int 1))))) (pNone))) (fO (fC (.str "a"))))))) (fRet (fC (.bl false))) (fNx))
  (fRet (fAndV (fBin gEq (fO (fCall F_numbers_by 2 (fFrz (aCons (oName 1) (aCons (oName 6) (aNil)))))) (oName 5)) (fBin gEq (fO (fCall F_numbers_by 2 (fFrz (aCons (oName 1) (aCons (fO (fBin gAdd (oName 6) (fO (fBin gMul (fO (fC (.str "a"))) (fO (fBin gSub (fO (fC (.int 200))) (fO (fCB gLen (aCons (oName 6) (aNil)))))))))) (aNil)))))) (oName 5))))))))
def F__law_numbers_right : List D → Option (C × List D) := runIo N__law_numbers_right 1 m__law_numbers_right
def N__law_right : List Str := ["brook", "turn", "k"]
def e1__law_right : M D := fV (fCall F_row_for 1 (fFrz (aCons (fO (fBin gMul (fO (fTup (fFrz (aCons (fO (fC (.int 0))) (aNil))))) (oName 2))) (aNil))))
def x1__law_right : M C := fLc (fItems (fV (fLst (fFrz (aCons (fO (fC (.int 1))) (aCons (fO (fC (.int 2))) (aCons (fO (fC (.int 3))) (aNil)))))))) (gaName 2) (mYes) (e1__law_right) [2]
def b1__law_right : M Fl := fIfS (mOr (mNot (fTest (fCallIo F__law_row_right 1 (aCons (oName 0) (aNil))))) (mNot (fTest (fCallIo F__law_numbers_right 1 (aCons (oName 0) (aNil)))))) (fRet (fC (.bl false))) (fNx)
def l1__law_right : M Fl := fFor (fRange1 (aCons (fO (fC (.int 4))) (aNil))) (gaName 1) (b1__law_right)
def m__law_right : M Fl := fSeq (l1__law_right)
  (fRet (fBin gEq (fO (x1__law_right)) (fO (fLst (fFrz (aCons (fO (fC (.str ""))) (aCons (fO (fC (.str ""))) (aCons (fO (fC (.str ""))) (aNil)))))))))
def F__law_right : List D → Option (C × List D) := runIo N__law_right 1 m__law_right
def N__law_brook : List Str := ["script", "spot", "own", "mixed", "each"]
def b1__law_brook : M Fl := fSet 3 (fBin gMod (fO (fCB gInt (aCons (fO (fBin gAdd (fO (fBin gAdd (fO (fBin gMul (oName 3) (fO (fC (.int 39119))))) (fO (fBin gMod (fO (fCB gInt (aCons (oName 4) (aNil)))) (fO (fC (.int 1000159))))))) (fO (fBin gMul (fO (fC (.int 13))) (oName 1))))) (aNil)))) (fO (fC (.int 2147483269))))
def l1__law_brook : M Fl := fFor (fItems (fV (fBin gAdd (fO (fSl gSl (oName 0) (pNone) (pSome (fC (.int 6))))) (fO (fLst (fFrz (aCons (oName 2) (aNil)))))))) (gaName 4) (b1__law_brook)
def m__law_brook : M Fl := fSeq (fSet 2 (fIf (fTest (fBin gLt (oName 1) (fO (fCB gLen (aCons (oName 0) (aNil)))))) (fBin gIx (oName 0) (oName 1)) (fBin gAdd (fO (fBin gMul (fO (fC (.int 59))) (oName 1))) (fO (fC (.int 23))))))
  (fSeq (fSet 3 (fBin gAdd (fO (fC (.int 700001))) (fO (fBin gMul (fO (fC (.int 5081))) (oName 1)))))
  (fSeq (l1__law_brook)
  (fRet (fLst (fFrz (aCons (fO (fIf (mOr (fTest (fBin gLt (oName 2) (fO (fC (.int 0))))) (fTest (fBin gGe (oName 2) (fO (fBin gPow (fO (fC (.int 10))) (fO (fC (.int 17)))))))) (fCB gAbs (aCons (oName 2) (aNil))) (fC (.int 0)))) (aCons (oName 3) (aCons (fO (fC (.int 0))) (aNil)))))))))
def F__law_brook : List D → Option C := runF N__law_brook 2 m__law_brook
def N_law : List Str := ["script", "spot"]
def e1_law : M D := fV (fCallIo F__law_right 1 (aCons (fO (fCall F__law_brook 2 (fFrz (aCons (oName 0) (aCons (oName 1) (aNil)))))) (aNil)))
def x1_law : M C := fLc (fRange1 (aCons (fO (fCB gMax (aCons (fO (fC (.int 2))) (aCons (fO (fCB gMin (aCons (fO (fCB gLen (aCons (oName 0) (aNil)))) (aCons (fO (fC (.int 5))) (aNil))))) (aNil))))) (aNil))) (gaName 1) (mYes) (e1_law) [1]
def m_law : M Fl := fRet (fCB gAll (aCons (fO (x1_law)) (aNil)))
def F_law : List D → Option C := runF N_law 1 m_law
end
end K62

set_option Elab.async false
set_option linter.all false
set_option maxRecDepth 100000
set_option maxHeartbeats 8000000
namespace K62
open PySem DL
theorem abc : (Str.ofString "abcdefgh") = tx [97, 98, 99, 100, 101, 102, 103, 104] := by decide +kernel
/-! ### the drawn numbers -/
/-- a brook: three numbers -/
def Bk (l : List D) : Prop := ∃ a b c : Int, l = [.int a, .int b, .int c]
theorem scoop {l : List D} {m : Int} (hb : Bk l) (h : 0 < m) (h2 : m < 1000000) : ∃ (d : Int) (l' : List D), F__law_scoop [.lst l, .int m] = some (.val (.int d), l') ∧ Bk l' ∧ 0 ≤ d ∧ d < m := by
  obtain ⟨a, b, c, rfl⟩ := hb
  have hm := fun x => Int.emod_nonneg (a := x) (b := m) (by omega)
  have hm2 := fun x => Int.emod_lt_of_pos x h
  have : m < 1073741824 := by omega
  by_cases ha : 0 < a
  · simp (disch := first | omega | (simp; done) | (simp; omega)) [F__law_scoop, m__law_scoop, N__law_scoop, ha, L2.atI, L2.ixN, h, this, hm, hm2]
    exact ⟨_, _, ⟨rfl, rfl⟩, ⟨_, _, _, rfl⟩, hm _, hm2 _⟩
  · simp (disch := first | omega | (simp; done) | (simp; omega)) [F__law_scoop, m__law_scoop, N__law_scoop, ha, L2.atI, L2.ixN, h, hm, hm2]
    exact ⟨_, _, ⟨rfl, rfl⟩, ⟨_, _, _, rfl⟩, hm _, hm2 _⟩
theorem choose {l : List D} {xs : List D} (hb : Bk l) (h : xs ≠ []) (h2 : xs.length < 1000000) : ∃ (x : D) (l' : List D), F__law_choose [.lst l, .lst xs] = some (.val x, l') ∧ Bk l' ∧ x ∈ xs := by
  have hl : 0 < xs.length := List.length_pos_iff.mpr h
  obtain ⟨d, l', h3, h4, h5, h6⟩ := scoop (m := (xs.length : Int)) hb (by omega) (by omega)
  have hd : d.toNat < xs.length := by omega
  refine ⟨xs[d.toNat], l', ?_, h4, List.getElem_mem _⟩
  simp (disch := first | omega | (simp; done) | (simp; omega)) [F__law_choose, m__law_choose, N__law_choose, h3, atI_of h5, hd]
theorem chooseS {l : List D} {xs : List Nat} (hb : Bk l) (h : xs ≠ []) (h2 : xs.length < 100000) : ∃ (x : Nat) (l' : List D), F__law_choose [.lst l, .str (tx xs)] = some (.val (.str (tx [x])), l') ∧ Bk l' ∧ x ∈ xs := by
  have hl : 0 < xs.length := List.length_pos_iff.mpr h
  obtain ⟨d, l', h3, h4, h5, h6⟩ := scoop (m := (xs.length : Int)) hb (by omega) (by omega)
  have hd : d.toNat < xs.length := by omega
  refine ⟨xs[d.toNat], l', ?_, h4, List.getElem_mem _⟩
  have : xs.length ≤ 100000 := by omega
  simp (disch := first | omega | (simp; done) | (simp; omega)) [F__law_choose, m__law_choose, N__law_choose, h3, atI_of h5, hd, this]
/-- the brook at its start -/
theorem brook {ns : List Int} {k : Int} (hk : 0 ≤ k) (h2 : k < 1000000) (hn : ns.length ≤ 63) : ∃ l, F__law_brook [.lst (ns.map .int), .int k] = some (.own l) ∧ Bk l := by
  have lp : ∀ (own : Int) (ds : List D), (∀ d ∈ ds, ∃ i : Int, d = .int i) → ∀ (x : Int) e, ∃ x' e', fLoop (gaName 4) b1__law_brook ds [some (.val (.lst (ns.map .int))), some (.val (.int k)), some (.val (.int own)), some (.val (.int x)), e] = some (.nx, [some (.val (.lst (ns.map .int))), some (.val (.int k)), some (.val (.int own)), some (.val (.int x')), e']) := by
    intro own ds
    induction ds with
    | nil => intro _ x e; exact ⟨_, _, rfl⟩
    | cons m r ih =>
      intro hd x e
      obtain ⟨i, rfl⟩ := hd m (by simp)
      simp (disch := first | omega | (simp; done) | (simp; omega)) [b1__law_brook]
      exact ih (fun d h => hd d (by simp [h])) _ _
  have al : ∀ v : Int, ∀ d ∈ (ns.map D.int).take 6 ++ [D.int v], ∃ i : Int, d = .int i := by
    intro v d hd
    rcases List.mem_append.mp hd with h | h
    · obtain ⟨i, _, rfl⟩ := List.mem_map.mp (List.mem_of_mem_take h)
      exact ⟨i, rfl⟩
    · simp at h; exact ⟨v, h⟩
  by_cases hl : k < ns.length
  · have hl2 : k.toNat < ns.length := by omega
    obtain ⟨x, e, h1⟩ := lp ns[k.toNat] _ (al ns[k.toNat]) (700001 + 5081 * k) none
    by_cases c : ns[k.toNat] < 0 ∨ 100000000000000000 ≤ ns[k.toNat]
    · rcases c with c | c
      · simp (disch := first | omega | (simp; done) | (simp; omega)) [F__law_brook, m__law_brook, N__law_brook, l1__law_brook, hl, atI_of hk, hl2, h1, c]
        exact ⟨_, _, _, rfl⟩
      · have c2 : ¬ ns[k.toNat] < 0 := by omega
        simp (disch := first | omega | (simp; done) | (simp; omega)) [F__law_brook, m__law_brook, N__law_brook, l1__law_brook, hl, atI_of hk, hl2, h1, c, c2]
        exact ⟨_, _, _, rfl⟩
    · have c2 : ¬ ns[k.toNat] < 0 := by omega
      have c3 : ¬ 100000000000000000 ≤ ns[k.toNat] := by omega
      simp (disch := first | omega | (simp; done) | (simp; omega)) [F__law_brook, m__law_brook, N__law_brook, l1__law_brook, hl, atI_of hk, hl2, h1, c2, c3]
      exact ⟨_, _, _, rfl⟩
  · obtain ⟨x, e, h1⟩ := lp (59 * k + 23) _ (al (59 * k + 23)) (700001 + 5081 * k) none
    have c2 : ¬ 59 * k + 23 < 0 := by omega
    have c3 : ¬ 100000000000000000 ≤ 59 * k + 23 := by omega
    simp (disch := first | omega | (simp; done) | (simp; omega)) [F__law_brook, m__law_brook, N__law_brook, l1__law_brook, hl, h1, c2, c3]
    exact ⟨_, _, _, rfl⟩
/-! ### numbers and figures -/
/-- the number of one lane's figures -/
def numB : List Int → Int
  | [] => 0
  | m :: r => m + 2 * numB r
def bit (p k : Nat) : Int := ((k / p % 2 : Nat) : Int)
def numL (p : Nat) : List Nat → Int
  | [] => 0
  | k :: ks => bit p k + 2 * numL p ks
theorem bit_le (p k : Nat) : 0 ≤ bit p k ∧ bit p k ≤ 1 := by unfold bit; omega
theorem numL_nn (p : Nat) : ∀ ks, 0 ≤ numL p ks
  | [] => by simp [numL]
  | k :: ks => by have := bit_le p k; have := numL_nn p ks; simp only [numL]; omega
theorem numB_map (p : Nat) : ∀ ks : List Nat, numB (ks.map fun k => bit p k) = numL p ks
  | [] => rfl
  | k :: ks => by simp [numB, numL, numB_map p ks]
theorem numB_app : ∀ (a : List Int) (m : Int), numB (a ++ [m]) = numB a + 2 ^ a.length * m
  | [], m => by simp [numB]
  | x :: r, m => by
    simp only [List.cons_append, numB, numB_app r m, List.length_cons, Int.pow_succ]
    grind
theorem e_number_by (ms : List Int) : F_number_by [.lst (ms.map .int)] = some (.val (.int (numB ms))) := by
  have lp : ∀ (a : Option C) (ms : List Int) (f : Int) e, ∃ e', fLoop (gaName 2) b1_number_by (ms.map .int) [a, some (.val (.int f)), e] = some (.nx, [a, some (.val (.int (ms.foldl (fun f m => 2 * f + m) f))), e']) := by
    intro a ms
    induction ms with
    | nil => intro f e; exact ⟨_, rfl⟩
    | cons m r ih =>
      intro f e
      simp (disch := first | omega | (simp; done) | (simp; omega)) [b1_number_by]
      exact ih _ _
  obtain ⟨e, h⟩ := lp (some (.val (.lst (ms.map .int)))) ms.reverse 0 none
  have hm : ms.foldr (fun m f => 2 * f + m) 0 = numB ms := by
    clear h lp
    induction ms with
    | nil => rfl
    | cons m r ih => simp only [List.foldr_cons, numB, ih]; omega
  simp only [List.map_reverse, List.foldl_reverse, hm] at h
  simp (disch := first | omega | (simp; done) | (simp; omega)) [F_number_by, m_number_by, N_number_by, l1_number_by, h]
theorem e_number_byf {α : Type} {f : α → Int} {xs : List α} : F_number_by [.lst (xs.map fun x => .int (f x))] = some (.val (.int (numB (xs.map f)))) := by
  have := e_number_by (xs.map f)
  rwa [List.map_map] at this
theorem e_is_number (v lo hi : Int) : F_is_number [.int v, .int lo, .int hi] = some (.val (.bl (decide (lo ≤ v) && decide (v ≤ hi)))) := by
  by_cases h : lo ≤ v <;> simp (disch := first | omega | (simp; done) | (simp; omega)) [F_is_number, m_is_number, N_is_number, h]
/-- a row of signs -/
def row (ks : List Nat) : Str := tx (ks.map (97 + ·))
/-- a number of lanes -/
def Lanes (n : Nat) : Prop := n = 1 ∨ n = 2 ∨ n = 3
theorem ix_abc {k : Nat} (h : k < 8) : Txt.index0 (tx [97, 98, 99, 100, 101, 102, 103, 104]) (tx [97 + k]) = some k := by
  have : ∀ k : Fin 8, Txt.index0 (tx [97, 98, 99, 100, 101, 102, 103, 104]) (tx [97 + k.val]) = some k.val := by decide +kernel
  exact this ⟨k, h⟩
theorem at_abc {k : Nat} (h : k < 8) : L2.atI [97, 98, 99, 100, 101, 102, 103, 104] (k : Int) = some (97 + k) := by
  have : ∀ k : Fin 8, L2.atI [97, 98, 99, 100, 101, 102, 103, 104] (k.val : Int) = some (97 + k.val) := by decide +kernel
  exact this ⟨k, h⟩
theorem e_figures_by {ks : List Nat} (h : ∀ k ∈ ks, k < 8) (hl : ks.length ≤ 1000) : F_figures_by [.str (row ks)] = some (.own (ks.map fun (k : Nat) => D.int k)) := by
  have h' := fun (a : Option C) => lc_of (ga := gaName 1) (fe := e1_figures_by) (vs := [1]) (δ := [a, none]) ks (fun k => D.str (tx [97 + k])) (fun (k : Nat) => D.int k) (fun k hk => by
    have := h k hk
    simp (disch := first | omega | (simp; done) | (simp; omega)) [e1_figures_by, abc, ix_abc this]) (by omega)
  simp (disch := first | omega | (simp; done) | (simp; omega)) [F_figures_by, m_figures_by, N_figures_by, x1_figures_by, Function.comp_def, row, h']
/-- one sign's figures -/
def figs (n k : Nat) : List D := (List.range n).map fun t => .int (bit (2 ^ t) k)
theorem e_figures_of {n k : Nat} (hn : Lanes n) : F_figures_of [.int k, .int n] = some (.own (figs n k)) := by
  rcases hn with rfl | rfl | rfl
  · simp (disch := first | omega | (simp; done) | (simp; omega)) [F_figures_of, m_figures_of, N_figures_of, l1_figures_of, b1_figures_of, figs, bit, List.range_succ]
  · simp (disch := first | omega | (simp; done) | (simp; omega)) [F_figures_of, m_figures_of, N_figures_of, l1_figures_of, b1_figures_of, figs, bit, List.range_succ]
  · simp (disch := first | omega | (simp; done) | (simp; omega)) [F_figures_of, m_figures_of, N_figures_of, l1_figures_of, b1_figures_of, figs, bit, List.range_succ]
    omega
theorem e_power_of {n : Nat} (hn : Lanes n) : F_power_of [.int n] = some (.val (.int (2 ^ n))) := by
  rcases hn with rfl | rfl | rfl <;> simp (disch := first | omega | (simp; done) | (simp; omega)) [F_power_of, m_power_of, N_power_of, l1_power_of, b1_power_of, List.range_succ]
theorem e_check_tracks {n : Nat} (hn : Lanes n) : F_check_tracks [.int n] = some (.val .non) := by
  rcases hn with rfl | rfl | rfl <;> simp (disch := first | omega | (simp; done) | (simp; omega)) [F_check_tracks, m_check_tracks, N_check_tracks, e_is_number]
theorem e_is_row {n : Nat} {ks : List Nat} (hn : Lanes n) (h : ∀ k ∈ ks, k < 2 ^ n) (hl : ks.length ≤ 200) : F_is_row [.str (row ks), .int (2 ^ n), .int 200] = some (.val (.bl true)) := by
  have h' := fun (a c : Option C) => lc_of (ga := gaName 3) (fe := e1_is_row) (vs := [3]) (δ := [a, some (.val (.int (2 ^ n))), c, none]) ks (fun k => D.str (tx [97 + k])) (fun _ => .bl true) (fun k hk => by
    have hk := h k hk
    rcases hn with rfl | rfl | rfl
    all_goals
      simp (disch := first | omega | (simp; done) | (simp; omega)) [e1_is_row, abc, inD]
      exact ⟨_, ⟨by omega, rfl⟩, rfl⟩) (by omega)
  have hl' : (ks.length : Int) ≤ 200 := by omega
  simp (disch := first | omega | (simp; done) | (simp; omega)) [F_is_row, m_is_row, N_is_row, x1_is_row, Function.comp_def, row, h', hl']
theorem e_numbers_of {n : Nat} {ks : List Nat} (hn : Lanes n) (h : ∀ k ∈ ks, k < 8) (hl : ks.length ≤ 1000) : F_numbers_of [.int n, .str (row ks)] = some (.val (.tup ((List.range n).map fun t => .int (numL (2 ^ t) ks)))) := by
  have h1 := fun (b c e f : Option C) => lc_of (ga := gaName 3) (fe := e3_numbers_of) (vs := [3]) (δ := [some (.val (.int n)), b, c, none, e, f]) ks (fun (k : Nat) => D.int k) (fun k => .lst (figs n k)) (fun k hk => by
    simp (disch := first | omega | (simp; done) | (simp; omega)) [e3_numbers_of, e_figures_of hn]) (by omega)
  have h2 := fun (a b : Option C) (t : Nat) (ht : t < n) => lc_of (ga := gaName 4) (fe := e1_numbers_of) (vs := [4]) (δ := [a, b, some (.val (.lst (ks.map fun k => .lst (figs n k)))), none, none, some (.val (.int t))]) ks (fun k => .lst (figs n k)) (fun k => .int (bit (2 ^ t) k)) (fun k hk => by
    simp (disch := first | omega | (simp; done) | (simp; omega)) [e1_numbers_of, figs, atI_nat, ht]) (by omega)
  have hn3 : n ≤ 3 := by rcases hn with rfl | rfl | rfl <;> omega
  have el : ∀ a b s, s = C.own (ks.map fun k => .lst (figs n k)) ∨ s = C.val (.lst (ks.map fun k => .lst (figs n k))) → ∀ x ∈ List.range n, ∃ δ1 δ2, gaName 5 (.int (x : Nat)) [a, b, some s, none, none, none] = some ((), δ1) ∧ e2_numbers_of δ1 = some (.int (numL (2 ^ x) ks), δ2) ∧ wipeL δ2 [5] = [a, b, some (.val (.lst (ks.map fun k => .lst (figs n k)))), none, none, none] := by
    intro a b s hs t ht
    have ht := List.mem_range.mp ht
    rcases hs with rfl | rfl <;> simp (disch := first | omega | (simp; done) | (simp; omega)) [e2_numbers_of, x1_numbers_of, h2 _ _ _ ht, e_number_byf, numB_map]
  have h3 := fun (a b : Option C) => lc_of2 (ga := gaName 5) (fe := e2_numbers_of) (vs := [5]) (List.range n) (fun (t : Nat) => D.int t) (fun t => .int (numL (2 ^ t) ks)) (el a b _ (.inl rfl)) (el a b _ (.inr rfl)) (by rw [List.length_range]; omega) (by rcases hn with rfl | rfl | rfl <;> simp)
  simp (disch := first | omega | (simp; done) | (simp; omega)) [F_numbers_of, m_numbers_of, N_numbers_of, x3_numbers_of, e_figures_by h hl, h1, x2_numbers_of, h3]
theorem told_eqOk {n : Nat} {ks : List Nat} : (D.tup ((List.range n).map fun t => .int (numL (2 ^ t) ks))).eqOk = true := eqOk_intsf
theorem lt8 {n : Nat} {ks : List Nat} (hn : Lanes n) (h : ∀ k ∈ ks, k < 2 ^ n) : ∀ k ∈ ks, k < 8 := fun k hk => by
  have := h k hk
  rcases hn with rfl | rfl | rfl <;> omega
theorem e_numbers_by {n : Nat} {ks : List Nat} (hn : Lanes n) (h : ∀ k ∈ ks, k < 2 ^ n) (hl : ks.length ≤ 200) : F_numbers_by [.int n, .str (row ks)] = some (.val (.tup ((List.range n).map fun t => .int (numL (2 ^ t) ks)))) := by
  simp (disch := first | omega | (simp; done) | (simp; omega)) [F_numbers_by, m_numbers_by, N_numbers_by, e_check_tracks hn, e_power_of hn, e_is_row hn h hl, e_numbers_of hn (lt8 hn h) (by omega)]
/-! ### the shortest row -/
def idx (ns : List Int) : Nat := (numB (ns.map (· % 2))).toNat
def sh : Nat → List Int → List Nat
  | 0, _ => []
  | f + 1, ns => if ns.any (fun n => decide (0 < n)) then idx ns :: sh f (ns.map (· / 2)) else []
theorem idx_lt {ns : List Int} : idx ns < 2 ^ ns.length ∧ (idx ns : Int) = numB (ns.map (· % 2)) := by
  have : 0 ≤ numB (ns.map (· % 2)) ∧ numB (ns.map (· % 2)) < 2 ^ ns.length := by
    induction ns with
    | nil => simp [numB]
    | cons m r ih =>
      simp only [List.map_cons, numB, List.length_cons, Int.pow_succ]
      omega
  unfold idx
  refine ⟨?_, by omega⟩
  have h2 : ((2 ^ ns.length : Nat) : Int) = 2 ^ ns.length := by simp
  omega
theorem sh_lt : ∀ {f : Nat} {ns : List Int}, ∀ k ∈ sh f ns, k < 2 ^ ns.length
  | 0, _, k, h => by simp [sh] at h
  | f + 1, ns, k, h => by
    unfold sh at h
    split at h
    · rcases List.mem_cons.mp h with rfl | h
      · exact idx_lt.1
      · have := sh_lt (f := f) (ns := ns.map (· / 2)) k h
        simpa using this
    · simp at h
theorem row_app (a : List Nat) (k : Nat) : row a ++ tx [97 + k] = row (a ++ [k]) := by simp [row]
@[simp] theorem row_len (a : List Nat) : (row a).length = a.length := by simp [row]
theorem e_shortest_row {f0 : Nat} {ns : List Int} (hl : ns.length ≤ 3) (h0 : ∀ n ∈ ns, 0 ≤ n) (hf : ∀ n ∈ ns, n < 2 ^ f0) (hf2 : f0 ≤ 1000) : F_shortest_row [.tup (ns.map .int)] = some (.val (.str (row (sh f0 ns)))) := by
  have t1 : ∀ (a b : Option C) (ns : List Int) (s : C), ns.length ≤ 3 → s = C.own (ns.map .int) ∨ s = C.val (.lst (ns.map .int)) → t1_shortest_row [a, b, some s, none] = some (ns.any fun n => decide (0 < n), [a, b, some (.val (.lst (ns.map .int))), none]) := by
    intro a b ns s hl hs
    have h1 := lc_of (ga := gaName 3) (fe := e1_shortest_row) (vs := [3]) (δ := [a, b, some (.val (.lst (ns.map .int))), none]) ns .int (fun n => .bl (decide (0 < n))) (fun n hn => by simp (disch := first | omega | (simp; done) | (simp; omega)) [e1_shortest_row]) (by omega)
    rcases hs with rfl | rfl <;> simp (disch := first | omega | (simp; done) | (simp; omega)) [t1_shortest_row, x1_shortest_row, h1, Function.comp_def]
  have b1 : ∀ (a : Option C) (acc : List Nat) (ns : List Int), ns.length ≤ 3 → acc.length ≤ 1000 → b1_shortest_row [a, some (.val (.str (row acc))), some (.val (.lst (ns.map .int))), none] = some (.nx, [a, some (.val (.str (row (acc ++ [idx ns])))), some (.own ((ns.map (· / 2)).map .int)), none]) := by
    intro a acc ns hl ha
    have h2 := fun b => lc_of (ga := gaName 3) (fe := e2_shortest_row) (vs := [3]) (δ := [a, b, some (.val (.lst (ns.map .int))), none]) ns .int (fun n => .int (n / 2)) (fun n hn => by simp (disch := first | omega | (simp; done) | (simp; omega)) [e2_shortest_row]) (by omega)
    have h3 := fun b => lc_of (ga := gaName 3) (fe := e3_shortest_row) (vs := [3]) (δ := [a, b, some (.val (.lst (ns.map .int))), none]) ns .int (fun n => .int (n % 2)) (fun n hn => by simp (disch := first | omega | (simp; done) | (simp; omega)) [e3_shortest_row]) (by omega)
    have h4 := idx_lt (ns := ns)
    have h5 : idx ns < 8 := Nat.lt_of_lt_of_le h4.1 (Nat.pow_le_pow_right (by omega) hl)
    simp (disch := first | omega | (simp; done) | (simp; omega)) [b1_shortest_row, x3_shortest_row, h3, x2_shortest_row, h2, e_number_byf, abc, ← h4.2, at_abc h5, row_app, row_len, Function.comp_def]
  have lp := while_inv (t := t1_shortest_row) (fb := b1_shortest_row) (P := fun f δ => ∃ acc ms s, ms.length ≤ 3 ∧ (∀ n ∈ ms, 0 ≤ n) ∧ (∀ n ∈ ms, n < 2 ^ f) ∧ acc.length + f ≤ 1000 ∧ (s = C.own (ms.map .int) ∨ s = C.val (.lst (ms.map .int))) ∧ acc ++ sh f ms = sh f0 ns ∧ δ = [some (.val (.tup (ns.map .int))), some (.val (.str (row acc))), some s, none])
    (Q := fun δ => ∃ x, δ = [some (.val (.tup (ns.map .int))), some (.val (.str (row (sh f0 ns)))), x, none]) (by
      rintro f δ ⟨acc, ms, s, m1, m2, m3, m4, m5, m6, rfl⟩
      refine ⟨_, _, t1 _ _ ms s m1 m5, fun hc => ?_, fun hc => ?_⟩
      · cases f with
        | zero => simp [sh] at m6; exact ⟨_, by rw [← m6]⟩
        | succ f => simp only [sh, hc] at m6; simp at m6; exact ⟨_, by rw [← m6]⟩
      · cases f with
        | zero =>
          simp only [List.any_eq_true, decide_eq_true_eq] at hc
          obtain ⟨n, hn, hc⟩ := hc
          have := m3 n hn
          omega
        | succ f =>
          refine ⟨_, f, b1 _ acc ms m1 (by omega), by omega, acc ++ [idx ms], ms.map (· / 2), _, by simpa using m1, ?_, ?_, by simp; omega, .inl rfl, ?_, rfl⟩
          · intro n hn
            obtain ⟨m, hm, rfl⟩ := List.mem_map.mp hn
            have := m2 m hm
            omega
          · intro n hn
            obtain ⟨m, hm, rfl⟩ := List.mem_map.mp hn
            have := m3 m hm
            rw [Int.pow_succ] at this
            omega
          · simp only [sh, hc, if_true] at m6
            simpa using m6)
  obtain ⟨δ', h1, x, rfl⟩ := lp f0 _ ⟨[], ns, _, hl, h0, hf, by simpa using hf2, .inl rfl, rfl, rfl⟩
  have e0 : Str.ofString "" = row [] := by decide +kernel
  simp (disch := first | omega | (simp; done) | (simp; omega)) [F_shortest_row, m_shortest_row, N_shortest_row, l1_shortest_row, e0, h1]
theorem sh_num : ∀ {f : Nat} {ns : List Int} {t : Nat} {n : Int}, ns.length ≤ 3 → (∀ n ∈ ns, 0 ≤ n) → (∀ n ∈ ns, n < 2 ^ f) → ns[t]? = some n → numL (2 ^ t) (sh f ns) = n
  | 0, ns, t, n, hl, h0, hf, ht => by
    have h1 := h0 n (List.mem_of_getElem? ht)
    have h2 := hf n (List.mem_of_getElem? ht)
    simp only [sh, numL]
    omega
  | f + 1, ns, t, n, hl, h0, hf, ht => by
    have ih := sh_num (f := f) (ns := ns.map (· / 2)) (t := t) (n := n / 2) (by simpa using hl)
      (fun m hm => by
        obtain ⟨x, hx, rfl⟩ := List.mem_map.mp hm
        have := h0 x hx
        omega)
      (fun m hm => by
        obtain ⟨x, hx, rfl⟩ := List.mem_map.mp hm
        have := hf x hx
        rw [Int.pow_succ] at this
        omega) (by simp [ht])
    by_cases c : ns.any (fun n => decide (0 < n))
    · simp only [sh, c, if_true, numL, ih]
      have : bit (2 ^ t) (idx ns) = n % 2 := by
        have hi := idx_lt (ns := ns)
        have hx : numB (ns.map (· % 2)) = (idx ns : Int) := hi.2.symm
        unfold bit
        rcases ns with _ | ⟨a, _ | ⟨b, _ | ⟨c', _ | ⟨_, _⟩⟩⟩⟩
        · simp at ht
        · rcases t with _ | t
          · simp [numB] at hx ht ⊢; omega
          · simp at ht
        · rcases t with _ | _ | t
          · simp [numB] at hx ht ⊢; omega
          · simp [numB] at hx ht ⊢; omega
          · simp at ht
        · rcases t with _ | _ | _ | t
          · simp [numB] at hx ht ⊢; omega
          · simp [numB] at hx ht ⊢; omega
          · simp [numB] at hx ht ⊢; omega
          · simp at ht
        · simp at hl
      omega
    · have h1 := h0 n (List.mem_of_getElem? ht)
      simp only [sh, c, numL]
      have h2 : ¬ 0 < n := fun z => c (by simp only [List.any_eq_true, decide_eq_true_eq]; exact ⟨n, List.mem_of_getElem? ht, z⟩)
      simp only [Bool.false_eq_true, if_false, numL]
      omega
theorem sh_len : ∀ {f j : Nat} {ns : List Int}, (∀ n ∈ ns, 0 ≤ n) → (∀ n ∈ ns, n < 2 ^ j) → (sh f ns).length ≤ j
  | 0, _, _, _, _ => by simp [sh]
  | f + 1, j, ns, h0, hj => by
    unfold sh
    by_cases c : ns.any (fun n => decide (0 < n))
    · cases j with
      | zero =>
        simp only [List.any_eq_true, decide_eq_true_eq] at c
        obtain ⟨n, hn, c⟩ := c
        have := hj n hn
        omega
      | succ j =>
        have ih := sh_len (f := f) (j := j) (ns := ns.map (· / 2))
          (fun m hm => by
            obtain ⟨x, hx, rfl⟩ := List.mem_map.mp hm
            have := h0 x hx
            omega)
          (fun m hm => by
            obtain ⟨x, hx, rfl⟩ := List.mem_map.mp hm
            have := hj x hx
            rw [Int.pow_succ] at this
            omega)
        simp only [c, if_true, List.length_cons]
        omega
    · simp [c]
/-- its last sign is no a -/
theorem sh_last : ∀ {f : Nat} {ns : List Int}, ns.length ≤ 3 → (∀ n ∈ ns, 0 ≤ n) → (∀ n ∈ ns, n < 2 ^ f) → ∀ k, (sh f ns).getLast? = some k → k ≠ 0
  | 0, ns, _, _, _, k, h => by simp [sh] at h
  | f + 1, ns, hl, h0, hf, k, h => by
    by_cases c : ns.any (fun n => decide (0 < n))
    · simp only [sh, c, if_true] at h
      have hl' : (ns.map (· / 2)).length ≤ 3 := by simpa using hl
      have h0' : ∀ m ∈ ns.map (· / 2), 0 ≤ m := fun m hm => by
        obtain ⟨x, hx, rfl⟩ := List.mem_map.mp hm
        have := h0 x hx
        omega
      have hf' : ∀ m ∈ ns.map (· / 2), m < 2 ^ f := fun m hm => by
        obtain ⟨x, hx, rfl⟩ := List.mem_map.mp hm
        have := hf x hx
        rw [Int.pow_succ] at this
        omega
      cases e : sh f (ns.map (· / 2)) with
      | nil =>
        rw [e] at h
        simp at h
        subst h
        intro hz
        simp only [List.any_eq_true, decide_eq_true_eq] at c
        obtain ⟨n, hn, c⟩ := c
        obtain ⟨t, ht, rfl⟩ := List.getElem_of_mem hn
        have h1 := sh_num (f := f) (ns := ns.map (· / 2)) (t := t) (n := ns[t] / 2) hl' h0' hf' (by simp [ht])
        rw [e] at h1
        simp only [numL] at h1
        have h2 := sh_num (f := f + 1) (ns := ns) (t := t) (n := ns[t]) hl h0 hf (by simp [ht])
        have c' : (ns.any fun n => decide (0 < n)) = true := by
          simp only [List.any_eq_true, decide_eq_true_eq]
          exact ⟨_, hn, c⟩
        simp only [sh, c', if_true, e, numL, hz, bit] at h2
        simp at h2
        omega
      | cons x r =>
        rw [e, List.getLast?_cons_cons, ← e] at h
        exact sh_last hl' h0' hf' k h
    · simp [sh, c] at h
/-- a row without the a's at its end -/
def strip : List Nat → List Nat
  | [] => []
  | k :: ks => if k = 0 ∧ strip ks = [] then [] else k :: strip ks
theorem strip_nil : ∀ {ks : List Nat}, strip ks = [] ↔ ∀ k ∈ ks, k = 0
  | [] => by simp [strip]
  | k :: ks => by
    have ih := strip_nil (ks := ks)
    unfold strip
    by_cases c : k = 0 ∧ strip ks = []
    · simp [c, ih.mp c.2]
      exact fun a ha => ih.mp c.2 a ha
    · simp only [c, if_false]
      constructor
      · intro h; cases h
      · intro h
        exact absurd ⟨h k (by simp), ih.mpr fun a ha => h a (by simp [ha])⟩ c
theorem numL_zero {p : Nat} : ∀ {ks : List Nat}, (∀ k ∈ ks, k = 0) → numL p ks = 0
  | [], _ => rfl
  | k :: ks, h => by
    have := h k (by simp)
    subst this
    have ih := numL_zero (p := p) (ks := ks) fun k hk => h k (by simp [hk])
    simp [numL, bit, ih]
theorem numL_lt {p : Nat} : ∀ {ks : List Nat}, numL p ks < 2 ^ ks.length
  | [] => by simp [numL]
  | k :: ks => by
    have := bit_le p k
    have := numL_lt (p := p) (ks := ks)
    simp only [numL, List.length_cons, Int.pow_succ]
    omega
theorem numL_app {p : Nat} : ∀ {a b : List Nat}, numL p (a ++ b) = numL p a + 2 ^ a.length * numL p b
  | [], b => by simp [numL]
  | k :: ks, b => by
    simp only [List.cons_append, numL, numL_app (a := ks), List.length_cons, Int.pow_succ]
    grind
theorem numL_strip {p : Nat} : ∀ {ks : List Nat}, numL p (strip ks) = numL p ks
  | [] => rfl
  | k :: ks => by
    have ih := numL_strip (p := p) (ks := ks)
    unfold strip
    by_cases c : k = 0 ∧ strip ks = []
    · simp only [c, and_self, if_true]
      rw [numL_zero (ks := 0 :: ks)]
      · rfl
      · intro a ha
        rcases List.mem_cons.mp ha with rfl | ha
        · rfl
        · exact strip_nil.mp c.2 a ha
    · simp only [c, if_false, numL, ih]
theorem strip_le : ∀ {ks : List Nat}, (strip ks).length ≤ ks.length ∧ ∀ k ∈ strip ks, k ∈ ks
  | [] => by simp [strip]
  | k :: ks => by
    have ih := strip_le (ks := ks)
    unfold strip
    by_cases c : k = 0 ∧ strip ks = []
    · simp [c]
    · simp only [c, if_false, List.length_cons]
      refine ⟨by omega, fun x hx => ?_⟩
      rcases List.mem_cons.mp hx with rfl | hx
      · simp
      · simp [ih.2 x hx]
theorem zero_of_bits {n k : Nat} (hn : Lanes n) (hk : k < 2 ^ n) (h : ∀ t, t < n → bit (2 ^ t) k = 0) : k = 0 := by
  unfold bit at h
  rcases hn with rfl | rfl | rfl
  · have := h 0 (by omega); simp at this; omega
  · have := h 0 (by omega); have := h 1 (by omega); simp at *; omega
  · have := h 0 (by omega); have := h 1 (by omega); have := h 2 (by omega); simp at *; omega
theorem numL_none {n : Nat} (hn : Lanes n) : ∀ {ks : List Nat}, (∀ k ∈ ks, k < 2 ^ n) → (∀ t, t < n → numL (2 ^ t) ks = 0) → ∀ k ∈ ks, k = 0
  | [], _, _, k, hk => by simp at hk
  | x :: r, h, hz, k, hk => by
    have hx : ∀ t, t < n → bit (2 ^ t) x = 0 ∧ numL (2 ^ t) r = 0 := fun t ht => by
      have := hz t ht
      have := bit_le (2 ^ t) x
      have := numL_nn (2 ^ t) r
      simp only [numL] at *
      omega
    rcases List.mem_cons.mp hk with rfl | hk
    · exact zero_of_bits hn (h _ (by simp)) fun t ht => (hx t ht).1
    · exact numL_none hn (fun k hk => h k (by simp [hk])) (fun t ht => (hx t ht).2) k hk
/-- the numbers of a row -/
def told (n : Nat) (ks : List Nat) : List Int := (List.range n).map fun t => numL (2 ^ t) ks
theorem idx_told {n k : Nat} {ks : List Nat} (hn : Lanes n) (hk : k < 2 ^ n) : idx (told n (k :: ks)) = k := by
  have e : ∀ b m : Int, (b + 2 * m) % 2 = b % 2 := fun b m => by omega
  unfold idx told
  rcases hn with rfl | rfl | rfl
  · simp [List.range_succ, numL, numB, bit]; omega
  · simp [List.range_succ, numL, numB, bit]; omega
  · simp [List.range_succ, numL, numB, bit]; omega
theorem told_half {n k : Nat} {ks : List Nat} : (told n (k :: ks)).map (· / 2) = told n ks := by
  unfold told
  rw [List.map_map]
  apply List.map_congr_left
  intro t _
  have := bit_le (2 ^ t) k
  simp only [Function.comp, numL]
  omega
theorem sh_told {n : Nat} (hn : Lanes n) : ∀ {f : Nat} {ks : List Nat}, ks.length ≤ f → (∀ k ∈ ks, k < 2 ^ n) → sh f (told n ks) = strip ks
  | f, [], _, _ => by
    cases f with
    | zero => rfl
    | succ f => simp [sh, told, strip, numL]
  | 0, k :: ks, h, _ => by simp at h
  | f + 1, k :: ks, hl, h => by
    simp only [List.length_cons] at hl
    have ih := sh_told hn (f := f) (ks := ks) (by omega) fun x hx => h x (by simp [hx])
    unfold sh strip
    rw [told_half, ih, idx_told hn (h k (by simp))]
    by_cases c : k = 0 ∧ strip ks = []
    · rw [if_pos c, if_neg]
      simp only [List.any_eq_true, decide_eq_true_eq, not_exists, not_and, told, List.mem_map]
      rintro x ⟨t, _, rfl⟩
      rw [numL_zero]
      · omega
      · intro a ha
        rcases List.mem_cons.mp ha with rfl | ha
        · exact c.1
        · exact strip_nil.mp c.2 a ha
    · rw [if_neg c, if_pos]
      rcases Classical.em (((told n (k :: ks)).any fun n => decide (0 < n)) = true) with d | d
      · exact d
      · exfalso
        apply c
        have hz := numL_none hn (ks := k :: ks) h fun t ht => by
          have := numL_nn (2 ^ t) (k :: ks)
          rcases Int.lt_or_le 0 (numL (2 ^ t) (k :: ks)) with q | q
          · exact absurd (by simp only [List.any_eq_true, decide_eq_true_eq, told, List.mem_map, List.mem_range]; exact ⟨_, ⟨t, ht, rfl⟩, q⟩) d
          · omega
        exact ⟨hz k (by simp), strip_nil.mpr fun a ha => hz a (by simp [ha])⟩
theorem told_len {n : Nat} {ks : List Nat} : (told n ks).length = n := by simp [told]
theorem told_nn {n : Nat} {ks : List Nat} : ∀ m ∈ told n ks, 0 ≤ m := fun m hm => by
  obtain ⟨t, _, rfl⟩ := List.mem_map.mp hm
  exact numL_nn _ _
theorem told_lt {n j : Nat} {ks : List Nat} (h : ks.length ≤ j) : ∀ m ∈ told n ks, m < 2 ^ j := fun m hm => by
  obtain ⟨t, _, rfl⟩ := List.mem_map.mp hm
  have h1 := numL_lt (p := 2 ^ t) (ks := ks)
  have h2 : (2 : Int) ^ ks.length ≤ 2 ^ j := by exact_mod_cast Nat.pow_le_pow_right (by omega) h
  omega
/-! ### row_for -/
theorem e_check_numbers {ns : List Int} (h1 : 1 ≤ ns.length) (hl : ns.length ≤ 3) (h0 : ∀ n ∈ ns, 0 ≤ n) (hf : ∀ n ∈ ns, n < 10 ^ 40) : F_check_numbers [.tup (ns.map .int), .int 1] = some (.val .non) := by
  have h := fun (a b : Option C) => lc_of (ga := gaName 2) (fe := e1_check_numbers) (vs := [2]) (δ := [a, b, none]) ns .int (fun _ => .bl true) (fun n hn => by
    have := h0 n hn
    have := hf n hn
    have h2 : n ≤ 9999999999999999999999999999999999999999 := by omega
    simp (disch := first | omega | (simp; done) | (simp; omega)) [e1_check_numbers, e_is_number, h2, h0 n hn]) (by omega)
  have a1 : (1 : Int) ≤ ns.length := by omega
  have a2 : (ns.length : Int) ≤ 3 := by omega
  simp (disch := first | omega | (simp; done) | (simp; omega)) [F_check_numbers, m_check_numbers, N_check_numbers, x1_check_numbers, h, a1, a2]
theorem e_row_for {ns : List Int} (h1 : 1 ≤ ns.length) (hl : ns.length ≤ 3) (h0 : ∀ n ∈ ns, 0 ≤ n) (hf : ∀ n ∈ ns, n < 10 ^ 40) : F_row_for [.tup (ns.map .int)] = some (.val (.str (row (sh 200 ns)))) := by
  have h2 : ∀ n ∈ ns, n < 2 ^ 200 := fun n hn => by
    have := hf n hn
    omega
  simp (disch := first | omega | (simp; done) | (simp; omega)) [F_row_for, m_row_for, N_row_for, e_check_numbers h1 hl h0 hf, e_shortest_row hl h0 h2]
theorem eqOk_row {ks : List Nat} (h : ∀ k ∈ ks, k < 8) : (D.str (row ks)).eqOk = true := eqOk_tx fun c hc => by
  obtain ⟨k, hk, rfl⟩ := List.mem_map.mp hc
  have := h k hk
  omega
theorem e_numbers_byT {n : Nat} {ks : List Nat} (hn : Lanes n) (h : ∀ k ∈ ks, k < 2 ^ n) (hl : ks.length ≤ 200) : F_numbers_by [.int n, .str (row ks)] = some (.val (.tup ((told n ks).map .int))) := by
  rw [e_numbers_by hn h hl]
  simp [told, Function.comp_def]
/-! ### the law's own reckoning -/
theorem e_figures {n : Nat} {ks : List Nat} (hn : Lanes n) (h : ∀ k ∈ ks, k < 8) (hl : ks.length ≤ 1000) : F__law_figures [.int n, .str (row ks)] = some (.val (.tup ((told n ks).map .int))) := by
  have in1 : ∀ (a b c : Option C) (t : Int) (p : Nat), L2.atI [D.int 1, .int 2, .int 4] t = some (.int p) → 0 < p → p ≤ 4 → ∀ ks : List Nat, (∀ k ∈ ks, k < 8) → ∀ (num w : Int) e, ∃ w' e', fLoop (gaName 6) b1__law_figures (ks.map fun k => D.str (tx [97 + k])) [a, b, c, some (.val (.int t)), some (.val (.int num)), some (.val (.int w)), e] = some (.nx, [a, b, c, some (.val (.int t)), some (.val (.int (num + w * numL p ks))), some (.val w'), e']) := by
    intro a b c t p ht hp hp2 ks
    induction ks with
    | nil => intro _ num w e; simp [numL]
    | cons k r ih =>
      intro hk num w e
      have k8 := hk k (by simp)
      obtain ⟨w', e', h'⟩ := ih (fun k h => hk k (by simp [h])) (num + w * bit p k) (2 * w) (some (.val (.str (tx [97 + k]))))
      refine ⟨w', e', ?_⟩
      have hp' : (0 : Int) < p := by omega
      have hp3 : (p : Int) < 1073741824 := by omega
      have hb : b1__law_figures [a, b, c, some (.val (.int t)), some (.val (.int num)), some (.val (.int w)), some (.val (.str (tx [97 + k])))] = some (.nx, [a, b, c, some (.val (.int t)), some (.val (.int (num + w * bit p k))), some (.val (.int (2 * w))), some (.val (.str (tx [97 + k])))]) := by
        simp (disch := first | omega | (simp; done) | (simp; omega)) [b1__law_figures, abc, ix_abc k8, ht, hp', hp3, bit]
      simp (disch := first | omega | (simp; done) | (simp; omega)) [hb, h', numL]
      grind
  have b2 : ∀ (a : Option C) (acc : List D) (t : Nat), t < 3 → acc.length ≤ 10 → ∀ x y z, ∃ x' y' z', b2__law_figures [a, some (.val (.str (row ks))), some (.own acc), some (.val (.int t)), x, y, z] = some (.nx, [a, some (.val (.str (row ks))), some (.own (acc ++ [.int (numL (2 ^ t) ks)])), some (.val (.int t)), x', y', z']) := by
    intro a acc t ht ha x y z
    have hp : L2.atI [D.int 1, .int 2, .int 4] (t : Int) = some (.int ((2 ^ t : Nat) : Int)) := by
      rcases t with _ | _ | _ | t
      · rfl
      · rfl
      · rfl
      · omega
    have h2 : 0 < 2 ^ t ∧ 2 ^ t ≤ 4 := ⟨Nat.pow_pos (by omega), Nat.le_trans (Nat.pow_le_pow_right (by omega) (by omega : t ≤ 2)) (by omega)⟩
    obtain ⟨w', e', h'⟩ := in1 a (some (.val (.str (row ks)))) (some (.own acc)) t (2 ^ t) hp h2.1 h2.2 ks h 0 1 z
    unfold row at h' ⊢
    simp (disch := first | omega | (simp; done) | (simp; omega)) [b2__law_figures, l1__law_figures, Function.comp_def, h']
  have l2 : ∀ (a : Option C) (ts : List Nat), (∀ t ∈ ts, t < 3) → ∀ (acc : List D), acc.length + ts.length ≤ 10 → ∀ u x y z, ∃ u' x' y' z', fLoop (gaName 3) b2__law_figures (ts.map fun t => D.int (t : Nat)) [a, some (.val (.str (row ks))), some (.own acc), u, x, y, z] = some (.nx, [a, some (.val (.str (row ks))), some (.own (acc ++ ts.map fun t => .int (numL (2 ^ t) ks))), u', x', y', z']) := by
    intro a ts
    induction ts with
    | nil => intro _ acc _ u x y z; simp
    | cons t r ih =>
      intro ht acc ha u x y z
      simp only [List.length_cons] at ha
      obtain ⟨x', y', z', h1⟩ := b2 a acc t (ht t (by simp)) (by omega) x y z
      obtain ⟨u2, x2, y2, z2, h2⟩ := ih (fun t h => ht t (by simp [h])) (acc ++ [.int (numL (2 ^ t) ks)]) (by simp; omega) (some (.val (.int t))) x' y' z'
      refine ⟨u2, x2, y2, z2, ?_⟩
      simp (disch := first | omega | (simp; done) | (simp; omega)) [h1, h2]
  have hn3 : n ≤ 3 := by rcases hn with rfl | rfl | rfl <;> omega
  obtain ⟨u, x, y, z, h3⟩ := l2 (some (.val (.int n))) (List.range n) (fun t ht => by have := List.mem_range.mp ht; omega) [] (by simp; omega) none none none none
  simp only [List.nil_append] at h3
  simp (disch := first | omega | (simp; done) | (simp; omega)) [F__law_figures, m__law_figures, N__law_figures, l2__law_figures, h3, told, Function.comp_def]
theorem e_shortest {ns : List Int} (h1 : 1 ≤ ns.length) (hl : ns.length ≤ 3) (h0 : ∀ n ∈ ns, 0 ≤ n) : F__law_shortest [.tup (ns.map .int)] = some (.val (.str (row (sh 200 ns)))) := by
  have mx : ∀ ns : List Int, (0 < maxL (ns ++ [0])) ↔ (ns.any fun n => decide (0 < n)) = true := by
    intro ns
    have := maxL_mem (ns := ns ++ [0]) (by simp)
    simp only [List.any_eq_true, decide_eq_true_eq]
    constructor
    · intro h
      rcases List.mem_append.mp this.1 with q | q
      · exact ⟨_, q, h⟩
      · simp at q; omega
    · rintro ⟨n, hn, h⟩
      have := this.2 n (by simp [hn])
      omega
  have gm : ∀ ns : List Int, gMax [.lst (ns.map .int ++ [.int 0])] = some (.val (.int (maxL (ns ++ [0])))) := by
    intro ns
    have := gMax_ints (ns := ns ++ [0]) (by simp)
    simpa using this
  have x2 : ∀ (a b c : Option C) (s : C) (ns : List Int), s = .own (ns.map .int) ∨ s = .val (.lst (ns.map .int)) → ns.length ≤ 3 → x2__law_shortest [a, b, some s, c, none, none] = some (.own ((List.range ns.length).map fun t => .int (ns.getD t 0 % 2 * 2 ^ t)), [a, b, some s, c, none, none]) := by
    intro a b c s ns hs g2
    have h := lc_of (ga := gaName 4) (fe := e2__law_shortest) (vs := [4]) (δ := [a, b, some s, c, none, none]) (List.range ns.length) (fun (t : Nat) => D.int t) (fun t => .int (ns.getD t 0 % 2 * 2 ^ t)) (fun t ht => by
      have ht := List.mem_range.mp ht
      have ht3 : t = 0 ∨ t = 1 ∨ t = 2 := by omega
      have e : L2.atI [D.int 1, .int 2, .int 4] (t : Int) = some (.int (2 ^ t)) := by rcases ht3 with rfl | rfl | rfl <;> rfl
      have e2 : (2 : Int) ^ t ≤ 4 ∧ 0 < (2 : Int) ^ t := by rcases ht3 with rfl | rfl | rfl <;> simp
      rcases hs with rfl | rfl <;> simp (disch := first | omega | (simp; done) | (simp; omega)) [e2__law_shortest, atI_nat, ht, e]) (by rw [List.length_range]; omega)
    rcases hs with rfl | rfl <;> simp (disch := first | omega | (simp; done) | (simp; omega)) [x2__law_shortest, h]
  have sm : ∀ ns : List Int, ns.length ≤ 3 → ((List.range ns.length).map fun t => ns[t]?.getD 0 % 2 * 2 ^ t).sum = numB (ns.map (· % 2)) := by
    intro ns g
    rcases ns with _ | ⟨a, _ | ⟨b, _ | ⟨c, _ | ⟨d, r⟩⟩⟩⟩
    · rfl
    · simp [List.range_succ, numB]
    · simp [List.range_succ, numB]; omega
    · simp [List.range_succ, numB]; omega
    · simp at g
  have x1 : ∀ (a b c : Option C) (s : C) (ns : List Int), s = .own (ns.map .int) ∨ s = .val (.lst (ns.map .int)) → ns.length ≤ 3 → x1__law_shortest [a, b, some s, c, none, none] = some (.own ((ns.map (· / 2)).map .int), [a, b, some (.val (.lst (ns.map .int))), c, none, none]) := by
    intro a b c s ns hs g
    have h := lc_of (ga := gaName 5) (fe := e1__law_shortest) (vs := [5]) (δ := [a, b, some (.val (.lst (ns.map .int))), c, none, none]) ns .int (fun n => .int (n / 2)) (fun n hn => by simp (disch := first | omega | (simp; done) | (simp; omega)) [e1__law_shortest]) (by omega)
    rcases hs with rfl | rfl <;> simp (disch := first | omega | (simp; done) | (simp; omega)) [x1__law_shortest, h, Function.comp_def]
  have b1 : ∀ (a c : Option C) (acc : List Nat) (s : C) (ns : List Int), s = .own (ns.map .int) ∨ s = .val (.lst (ns.map .int)) → ns.length ≤ 3 → acc.length ≤ 1000 → b1__law_shortest [a, some (.val (.str (row acc))), some s, c, none, none] = some (.nx, if (ns.any fun n => decide (0 < n)) = true then [a, some (.val (.str (row (acc ++ [idx ns])))), some (.own ((ns.map (· / 2)).map .int)), c, none, none] else [a, some (.val (.str (row acc))), some s, c, none, none]) := by
    intro a c acc s ns hs g2 ha
    have h4 := idx_lt (ns := ns)
    have h5 : idx ns < 8 := Nat.lt_of_lt_of_le h4.1 (Nat.pow_le_pow_right (by omega) g2)
    by_cases q : (ns.any fun n => decide (0 < n)) = true
    · have q2 := (mx ns).mpr q
      rw [if_pos q]
      rcases hs with rfl | rfl
      · simp (disch := first | omega | (simp; done) | (simp; omega)) [b1__law_shortest, gm, q2, x2 _ _ _ _ ns (.inl rfl) g2, sm ns g2, abc, ← h4.2, at_abc h5, row_app, x1 _ _ _ _ ns (.inl rfl) g2]
      · simp (disch := first | omega | (simp; done) | (simp; omega)) [b1__law_shortest, gm, q2, x2 _ _ _ _ ns (.inr rfl) g2, sm ns g2, abc, ← h4.2, at_abc h5, row_app, x1 _ _ _ _ ns (.inr rfl) g2]
    · have q2 : ¬ 0 < maxL (ns ++ [0]) := fun z => q ((mx ns).mp z)
      rw [if_neg q]
      rcases hs with rfl | rfl <;> simp (disch := first | omega | (simp; done) | (simp; omega)) [b1__law_shortest, gm, q2]
  have lp : ∀ (a : Option C) (items : List D) (acc : List Nat) (ms : List Int) (s : C) (c : Option C), s = .own (ms.map .int) ∨ s = .val (.lst (ms.map .int)) → ms.length ≤ 3 → acc.length + items.length ≤ 1000 → ∃ s' c', fLoop (gaName 3) b1__law_shortest items [a, some (.val (.str (row acc))), some s, c, none, none] = some (.nx, [a, some (.val (.str (row (acc ++ sh items.length ms)))), s', c', none, none]) := by
    intro a items
    induction items with
    | nil => intro acc ms s c _ _ _; simp [sh]
    | cons i r ih =>
      intro acc ms s c hs g2 ha
      simp only [List.length_cons] at ha
      by_cases q : (ms.any fun n => decide (0 < n)) = true
      · have hb := b1 a (some (.val i)) acc s ms hs g2 (by omega)
        rw [if_pos q] at hb
        obtain ⟨s', c', h'⟩ := ih (acc ++ [idx ms]) (ms.map (· / 2)) _ (some (.val i)) (.inl rfl) (by simpa using g2) (by simp; omega)
        refine ⟨s', c', ?_⟩
        simp (disch := first | omega | (simp; done) | (simp; omega)) [hb, h', sh, q, -List.map_map, -List.any_eq_true]
      · have hb := b1 a (some (.val i)) acc s ms hs g2 (by omega)
        rw [if_neg q] at hb
        obtain ⟨s', c', h'⟩ := ih acc ms s (some (.val i)) hs g2 (by omega)
        refine ⟨s', c', ?_⟩
        simp (disch := first | omega | (simp; done) | (simp; omega)) [hb, h']
        have e : ∀ f, sh f ms = [] := fun f => by
          cases f with
          | zero => rfl
          | succ f => simp only [sh, q, if_false]; simp
        simp [e]
  have e0 : Str.ofString "" = row [] := by decide +kernel
  obtain ⟨s', c', h'⟩ := lp (some (.val (.tup (ns.map .int)))) ((List.range 200).map fun (i : Nat) => D.int i) [] ns _ none (.inr rfl) hl (by simp)
  simp only [List.length_map, List.length_range, List.nil_append] at h'
  have r200 : rng1 [D.int 200] = some ((List.range 200).map fun (i : Nat) => D.int i) := rng1_ok (by omega)
  simp (disch := first | omega | (simp; done) | (simp; omega)) [F__law_shortest, m__law_shortest, N__law_shortest, l1__law_shortest, e0, h', r200, -rng1_ok, -List.map_map]
theorem strip_pad : ∀ ks : List Nat, ∃ m, ks = strip ks ++ List.replicate m 0
  | [] => ⟨0, rfl⟩
  | k :: ks => by
    obtain ⟨m, h⟩ := strip_pad ks
    unfold strip
    by_cases c : k = 0 ∧ strip ks = []
    · rw [if_pos c]
      rw [c.2] at h
      exact ⟨m + 1, by rw [c.1, List.replicate_succ]; simpa using h⟩
    · rw [if_neg c]
      exact ⟨m, by rw [List.cons_append, ← h]⟩
theorem strip_last : ∀ {ks : List Nat} {k : Nat}, (strip ks).getLast? = some k → k ≠ 0
  | [], k, h => by simp [strip] at h
  | x :: ks, k, h => by
    unfold strip at h
    by_cases c : x = 0 ∧ strip ks = []
    · rw [if_pos c] at h; simp at h
    · rw [if_neg c] at h
      cases e : strip ks with
      | nil =>
        rw [e] at h
        simp at h
        subst h
        intro z
        exact c ⟨z, e⟩
      | cons y r =>
        rw [e, List.getLast?_cons_cons, ← e] at h
        exact strip_last h
theorem rstrip_row (ks : List Nat) : Txt.rstripChars (row ks) (tx [97]) = row (strip ks) := by
  obtain ⟨m, h⟩ := strip_pad ks
  have e : (((ks.map (97 + ·)).reverse).takeWhile [97].contains).length = m := by
    rw [h]
    simp only [List.map_append, List.map_replicate, List.reverse_append, List.reverse_replicate]
    rw [List.takeWhile_append_of_pos (by intro a ha; rw [List.eq_of_mem_replicate ha]; decide)]
    rw [List.length_append, List.length_replicate]
    have : (List.takeWhile [97].contains (List.map (97 + ·) (strip ks)).reverse) = [] := by
      rw [← List.map_reverse]
      cases q : (strip ks).reverse with
      | nil => rfl
      | cons y r =>
        have : (strip ks).getLast? = some y := by rw [← List.head?_reverse, q]; rfl
        have := strip_last this
        simp [List.takeWhile_cons]
        omega
    rw [this]; rfl
  unfold row
  rw [rstrip_tx, e]
  congr 1
  rw [List.length_map]
  have hl : ks.length = (strip ks).length + m := by
    have := congrArg List.length h
    simpa using this
  rw [hl, Nat.add_sub_cancel]
  have e2 : ks.map (97 + ·) = (strip ks).map (97 + ·) ++ (List.replicate m 0).map (97 + ·) := by rw [← List.map_append, ← h]
  rw [e2, List.take_left' (by simp)]
theorem e_row_right {l : List D} (hb : Bk l) : ∃ l', F__law_row_right [.lst l] = some (.val (.bl true), l') ∧ Bk l' := by
  obtain ⟨d, l1, s1, b1, d0, d3⟩ := scoop (m := 3) hb (by omega) (by omega)
  obtain ⟨n, hn, e⟩ : ∃ n : Nat, Lanes n ∧ 1 + d = (n : Int) := by
    refine ⟨(1 + d).toNat, ?_, by omega⟩
    unfold Lanes; omega
  obtain ⟨x, l2, s2, b2, hx⟩ := choose (xs := [.int 0, .int 1, .int 2, .int 3, .int 6, .int 40, .int 130]) b1 (by simp) (by simp)
  obtain ⟨size, rfl, hsz⟩ : ∃ size : Nat, x = .int size ∧ size ≤ 130 := by
    simp only [List.mem_cons, List.not_mem_nil, or_false] at hx
    rcases hx with rfl | rfl | rfl | rfl | rfl | rfl | rfl
    · exact ⟨0, rfl, by omega⟩
    · exact ⟨1, rfl, by omega⟩
    · exact ⟨2, rfl, by omega⟩
    · exact ⟨3, rfl, by omega⟩
    · exact ⟨6, rfl, by omega⟩
    · exact ⟨40, rfl, by omega⟩
    · exact ⟨130, rfl, by omega⟩
  have hi : L2.atI [D.int 2, .int 4, .int 8] ((n : Int) - 1) = some (.int (2 ^ n)) := by rcases hn with rfl | rfl | rfl <;> rfl
  have h2n : (0 : Int) ≤ 2 ^ n := by rcases hn with rfl | rfl | rfl <;> decide
  have hk : ((2 : Int) ^ n).toNat = 2 ^ n := by rcases hn with rfl | rfl | rfl <;> rfl
  obtain ⟨S, hSd⟩ : ∃ S, [97, 98, 99, 100, 101, 102, 103, 104].take (2 ^ n) = S := ⟨_, rfl⟩
  have hS : S ≠ [] ∧ S.length < 100000 ∧ ∀ c ∈ S, ∃ k, k < 2 ^ n ∧ c = 97 + k := by
    rcases hn with rfl | rfl | rfl
    all_goals
      subst hSd
      refine ⟨by decide, by decide, fun c hc => ?_⟩
      simp at hc
      exact ⟨c - 97, by omega, by omega⟩
  obtain ⟨es, δ', hes, hel, hee, l3, b3, rfl⟩ := lc_run (ga := gaName 5) (fe := e2__law_row_right) (vs := [5]) (P := fun δ => ∃ l, Bk l ∧ δ = [some (.io 0 l), some (.val (.int n)), some (.val (.str (tx S))), some (.val (.int size)), none, none, none, none]) (E := fun e => ∃ k, k < 2 ^ n ∧ e = .str (tx [97 + k])) (fun (t : Nat) => D.int t) (List.range size) [] (by
    rintro t _ δ ⟨l, hb, rfl⟩
    obtain ⟨c, l', h1, h2, h3⟩ := chooseS hb hS.1 hS.2.1
    obtain ⟨k, h4, rfl⟩ := hS.2.2 c h3
    simp (disch := first | omega | (simp; done) | (simp; omega)) [e2__law_row_right, h1]
    exact ⟨_, _, ⟨rfl, rfl⟩, ⟨_, h4, rfl⟩, _, h2, rfl⟩) (by simp; omega) _ ⟨l2, b2, rfl⟩
  obtain ⟨cs, rfl, hcs⟩ := all_of (g := fun k => D.str (tx [97 + k])) (S := fun k => k < 2 ^ n) hee
  simp only [List.nil_append, List.length_map, List.length_range] at hes hel
  obtain ⟨y, l4, s4, b4, hy⟩ := choose (xs := [.int 0, .int 0, .int 1, .int 60]) b3 (by simp) (by simp)
  obtain ⟨pad, rfl, hpad⟩ : ∃ pad : Nat, y = .int pad ∧ pad ≤ 60 := by
    simp only [List.mem_cons, List.not_mem_nil, or_false] at hy
    rcases hy with rfl | rfl | rfl | rfl
    · exact ⟨0, rfl, by omega⟩
    · exact ⟨0, rfl, by omega⟩
    · exact ⟨1, rfl, by omega⟩
    · exact ⟨60, rfl, by omega⟩
  refine ⟨l4, ?_, b4⟩
  have ea : Str.ofString "a" = tx [97] := by decide +kernel
  have eaaa : Str.ofString "aaa" = row [0, 0, 0] := by decide +kernel
  have e0 : Str.ofString "" = tx [] := by decide +kernel
  have jn : gJoin (.str (tx [])) [.lst (cs.map fun k => .str (tx [97 + k]))] = some (.val (.str (row cs))) := by
    have h1 : ∀ cs : List Nat, (cs.map fun _ => 1).sum = cs.length := fun cs => by
      induction cs with
      | nil => rfl
      | cons c r ih => simp only [List.map_cons, List.sum_cons, List.length_cons, ih]; omega
    have h2 : ∀ cs : List Nat, (cs.map fun k => [97 + k]).flatten = cs.map (97 + ·) := fun cs => by
      induction cs with
      | nil => rfl
      | cons c r ih => simp [ih]
    have := gJoin_tx (ys := cs.map fun k => [97 + k]) (by rw [List.map_map]; show (cs.map fun _ => 1).sum ≤ _; rw [h1]; omega)
    simp only [List.map_map, Function.comp_def, h2] at this
    exact this
  obtain ⟨ks, hks⟩ : ∃ ks, cs ++ List.replicate pad 0 = ks := ⟨_, rfl⟩
  have hadd : row cs ++ tx (List.replicate pad 97) = row ks := by
    rw [← hks]
    simp [row]
  have hlen : ks.length ≤ 190 := by rw [← hks]; simp; omega
  have hlt : ∀ k ∈ ks, k < 2 ^ n := by
    rw [← hks]
    intro k hk
    rcases List.mem_append.mp hk with q | q
    · exact hcs k q
    · rw [List.eq_of_mem_replicate q]; exact Nat.pow_pos (by omega)
  have h40 : ∀ m ∈ told n ks, m < 10 ^ 40 := by
    intro m hm
    have e : told n ks = told n cs := by
      unfold told
      apply List.map_congr_left
      intro t _
      rw [← hks, numL_app, numL_zero (ks := List.replicate pad 0) fun k hk => List.eq_of_mem_replicate hk]
      omega
    rw [e] at hm
    have := told_lt (j := 130) (by omega) m hm
    omega
  have hst : ∀ k ∈ strip ks ++ [0, 0, 0], k < 2 ^ n := by
    intro k hk
    rcases List.mem_append.mp hk with q | q
    · exact hlt k (strip_le.2 k q)
    · simp at q; rw [q]; exact Nat.pow_pos (by omega)
  have hst2 : told n (strip ks ++ [0, 0, 0]) = told n ks := by
    unfold told
    apply List.map_congr_left
    intro t _
    rw [numL_app, numL_zero (ks := [0, 0, 0]) (by simp), numL_strip]
    omega
  have n1 : 1 ≤ (told n ks).length ∧ (told n ks).length ≤ 3 := by rw [told_len]; rcases hn with rfl | rfl | rfl <;> omega
  have f1 := e_figures hn (lt8 hn hlt) (by omega)
  have f2 := e_numbers_byT hn hlt (by omega)
  have f3 := e_row_for n1.1 n1.2 told_nn h40
  rw [sh_told hn (by omega) hlt] at f3
  have f4 := e_numbers_byT hn hst (by have := (strip_le (ks := ks)).1; simp; omega)
  rw [hst2] at f4
  have r1 : row (strip ks) ++ row [0, 0, 0] = row (strip ks ++ [0, 0, 0]) := by simp [row]
  have o1 : (D.str (row (strip ks))).eqOk = true := eqOk_row fun k hk => lt8 hn hlt k (strip_le.2 k hk)
  have x1 : ∀ a b c d e f : Option C, x1__law_row_right [a, some (.val (.int n)), b, c, some (.val (.str (row ks))), d, e, f] = some (.own [], [a, some (.val (.int n)), b, c, some (.val (.str (row ks))), d, e, f]) := by
    intro a b c d e f
    have := lc_if (ga := gaName 7) (ft := t1__law_row_right) (fe := e1__law_row_right) (vs := [7]) (δ := [a, some (.val (.int n)), b, c, some (.val (.str (row ks))), d, e, none]) (told n ks) .int (fun _ => .non) (fun _ => false) (fun m hm => by
      simp (disch := first | omega | (simp; done) | (simp; omega)) [t1__law_row_right]) (by omega)
    simp (disch := first | omega | (simp; done) | (simp; omega)) [x1__law_row_right, f2, this]
  have l1 := (strip_le (ks := ks)).1
  simp (disch := first | omega | (simp; done) | (simp; omega)) [F__law_row_right, m__law_row_right, N__law_row_right, s1, e, s2, hi, abc, hk, hSd, x2__law_row_right, hes, e0, ea, eaaa, jn, s4, hadd, f1, f2, f3, f4, gNe_refl eqOk_ints, gNe_refl o1, rstrip_row, r1, x1, gEq_refl eqOk_nill]
theorem e_numbers_right {l : List D} (hb : Bk l) : ∃ l', F__law_numbers_right [.lst l] = some (.val (.bl true), l') ∧ Bk l' := by
  obtain ⟨d, l1, s1, b1, d0, d3⟩ := scoop (m := 3) hb (by omega) (by omega)
  obtain ⟨n, hn, e⟩ : ∃ n : Nat, Lanes n ∧ 1 + d = (n : Int) := by
    refine ⟨(1 + d).toNat, ?_, by omega⟩
    unfold Lanes; omega
  have hn3 : 1 ≤ n ∧ n ≤ 3 := by rcases hn with rfl | rfl | rfl <;> omega
  obtain ⟨δ', h1, l2, acc, x, y, b2, hacc, hlen, rfl⟩ := loop_inv (ga := gaName 3) (fb := b1__law_numbers_right) (P := fun rest δ => ∃ (l : List D) (acc : List Int) (x y : Option C), Bk l ∧ (∀ m ∈ acc, 0 ≤ m ∧ m < 10 ^ 40) ∧ acc.length + rest.length = n ∧ δ = [some (.io 0 l), some (.val (.int n)), some (.own (acc.map .int)), x, y, none, none]) (by
    rintro t rest δ ⟨l, acc, x, y, hb, ha, hl, rfl⟩
    simp only [List.length_cons] at hl
    obtain ⟨d1, l1, s1, b1, d10, d11⟩ := scoop (m := 5) hb (by omega) (by omega)
    obtain ⟨d2, l2, s2, b2, d20, d21⟩ := scoop (m := 1000) b1 (by omega) (by omega)
    obtain ⟨d3, l3, s3, b3, d30, d31⟩ := scoop (m := 9) b2 (by omega) (by omega)
    obtain ⟨v, l4, s4, b4, hv⟩ := choose (xs := [.int d1, .int d2, .int (9999999999999999999999999999999999999999 - d3), .int 5444517870735015415413993718908291383296]) b3 (by simp) (by simp)
    obtain ⟨m, rfl, hm⟩ : ∃ m : Int, v = .int m ∧ 0 ≤ m ∧ m < 10 ^ 40 := by
      simp only [List.mem_cons, List.not_mem_nil, or_false] at hv
      rcases hv with rfl | rfl | rfl | rfl
      · exact ⟨_, rfl, by omega⟩
      · exact ⟨_, rfl, by omega⟩
      · exact ⟨_, rfl, by omega⟩
      · exact ⟨_, rfl, by omega⟩
    simp (disch := first | omega | (simp; done) | (simp; omega)) [b1__law_numbers_right, s1, s2, s3, s4]
    exact ⟨l4, b4, acc ++ [m], by
      intro q hq
      rcases List.mem_append.mp hq with hq | hq
      · exact ha q hq
      · simp at hq; subst hq; exact hm, by simp; omega, by simp⟩) ((List.range n).map fun (i : Nat) => D.int i) [some (.io 0 l1), some (.val (.int n)), some (.own []), none, none, none, none] ⟨l1, [], none, none, b1, by simp, by simp, rfl⟩
  simp only [List.length_nil, Nat.add_zero] at hlen
  refine ⟨l2, ?_, b2⟩
  have h0 : ∀ m ∈ acc, 0 ≤ m := fun m hm => (hacc m hm).1
  have h40 : ∀ m ∈ acc, m < 10 ^ 40 := fun m hm => (hacc m hm).2
  have h200 : ∀ m ∈ acc, m < 2 ^ 200 := fun m hm => by have := h40 m hm; omega
  have h133 : ∀ m ∈ acc, m < 2 ^ 133 := fun m hm => by have := h40 m hm; omega
  obtain ⟨ks, hks⟩ : ∃ ks, sh 200 acc = ks := ⟨_, rfl⟩
  have f1 := e_row_for (by omega) (by omega) h0 h40
  have f2 := e_shortest (by omega) (by omega) h0
  have hkl := sh_len (f := 200) h0 h133
  have hlt : ∀ k ∈ ks, k < 2 ^ n := by rw [← hks, ← hlen]; exact sh_lt
  rw [hks] at f1 f2 hkl
  have ht : told n ks = acc := by
    apply List.ext_getElem?
    intro t
    by_cases c : t < acc.length
    · rw [List.getElem?_eq_getElem c]
      have := sh_num (f := 200) (by omega) h0 h200 (List.getElem?_eq_getElem c)
      rw [hks] at this
      have c2 : t < n := by omega
      simp [told, c2, this]
    · rw [List.getElem?_eq_none (by rw [told_len]; omega), List.getElem?_eq_none (by omega)]
  have hp : ∀ k ∈ ks ++ List.replicate (200 - ks.length) 0, k < 2 ^ n := by
    intro k hk
    rcases List.mem_append.mp hk with q | q
    · exact hlt k q
    · rw [List.eq_of_mem_replicate q]; exact Nat.pow_pos (by omega)
  have ht2 : told n (ks ++ List.replicate (200 - ks.length) 0) = acc := by
    rw [← ht]
    unfold told
    apply List.map_congr_left
    intro t _
    rw [numL_app, numL_zero (ks := List.replicate _ 0) fun k hk => List.eq_of_mem_replicate hk]
    omega
  have f3 := e_numbers_byT hn hlt (by omega)
  have f4 := e_numbers_byT hn hp (by simp; omega)
  rw [ht] at f3
  rw [ht2] at f4
  have o1 : (D.str (row ks)).eqOk = true := eqOk_row (lt8 hn hlt)
  have ea : Str.ofString "a" = tx [97] := by decide +kernel
  have hlast : gEq (.str (tx ((ks.map (97 + ·)).drop (-1 + (ks.length : Int)).toNat))) (.str (tx [97])) = some (.val (.bl false)) := by
    rw [gEq_tx]
    · cases q : ks.getLast? with
      | none =>
        have : ks = [] := by simpa using q
        subst this
        rfl
      | some k =>
        have hk := sh_last (f := 200) (by omega) h0 h200 k (by rw [hks]; exact q)
        have e1 : ks = ks.dropLast ++ [k] := by
          rw [List.getLast?_eq_some_iff] at q
          obtain ⟨ys, rfl⟩ := q
          simp
        have e2 : (-1 + (ks.length : Int)).toNat = ks.dropLast.length := by
          have := congrArg List.length e1
          simp only [List.length_append, List.length_cons, List.length_nil] at this
          omega
        have e3 : ks.map (97 + ·) = ks.dropLast.map (97 + ·) ++ [97 + k] := by
          have := congrArg (List.map (97 + ·)) e1
          rw [List.map_append] at this
          exact this
        rw [e2, e3, List.drop_left' (by simp)]
        simp
        omega
    · intro c hc
      obtain ⟨k, hk, rfl⟩ := List.mem_map.mp (List.mem_of_mem_drop hc)
      have := lt8 hn hlt k hk
      omega
    · simp
  have hadd : row ks ++ tx (List.replicate (200 - ks.length) 97) = row (ks ++ List.replicate (200 - ks.length) 0) := by simp [row]
  have hcut : gSl (.str (row ks)) (some (-1)) none = some (.val (.str (tx ((ks.map (97 + ·)).drop (-1 + (ks.length : Int)).toNat)))) := by
    unfold row
    simp (disch := first | omega | (simp; done) | (simp; omega)) []
  simp (disch := first | omega | (simp; done) | (simp; omega)) [F__law_numbers_right, m__law_numbers_right, N__law_numbers_right, s1, e, l1__law_numbers_right, h1, f1, f2, gNe_refl o1, hcut, hlast, ea, f3, gEq_refl eqOk_ints, hadd, f4]
theorem e_right {l : List D} (hb : Bk l) : ∃ l', F__law_right [.lst l] = some (.val (.bl true), l') ∧ Bk l' := by
  obtain ⟨δ', h1, l2, x, b2, rfl⟩ := loop_inv (ga := gaName 1) (fb := b1__law_right) (P := fun _ δ => ∃ l x, Bk l ∧ δ = [some (.io 0 l), x, none]) (by
    rintro t rest δ ⟨l, x, hb, rfl⟩
    obtain ⟨l1, h1, b1⟩ := e_row_right hb
    obtain ⟨l2, h2, b2⟩ := e_numbers_right b1
    simp (disch := first | omega | (simp; done) | (simp; omega)) [b1__law_right, h1, h2]
    exact b2) ((List.range 4).map fun (i : Nat) => D.int i) [some (.io 0 l), none, none] ⟨l, none, hb, rfl⟩
  refine ⟨l2, ?_, b2⟩
  have z : ∀ k : Nat, 1 ≤ k → k ≤ 3 → F_row_for [.tup (List.replicate k (.int 0))] = some (.val (.str (row []))) := by
    intro k k1 k3
    have := e_row_for (ns := List.replicate k 0) (by simpa using k1) (by simpa using k3) (fun m hm => by rw [List.eq_of_mem_replicate hm]; omega) (fun m hm => by rw [List.eq_of_mem_replicate hm]; omega)
    rw [List.map_replicate] at this
    rw [this]
    simp [sh]
  have e0 : Str.ofString "" = row [] := by decide +kernel
  have z1 := z 1 (by omega) (by omega)
  have z2 := z 2 (by omega) (by omega)
  have z3 := z 3 (by omega) (by omega)
  simp only [List.replicate] at z1 z2 z3
  have r4 : rng1 [D.int 4] = some ((List.range 4).map fun (i : Nat) => D.int i) := rng1_ok (by omega)
  have oe : (D.lst [.str (row []), .str (row []), .str (row [])]).eqOk = true := by decide +kernel
  simp (disch := first | omega | (simp; done) | (simp; omega)) [F__law_right, m__law_right, N__law_right, l1__law_right, r4, h1, x1__law_right, e1__law_right, e0, z1, z2, z3, gEq_refl oe, -rng1_ok, List.replicate]
theorem law_true : ∀ ns : List Int, ns.length ≤ 63 → F_law [.lst (ns.map .int)] = some (.val (.bl true)) := by
  intro ns hn
  have h := lc_of (ga := gaName 1) (fe := e1_law) (vs := [1]) (δ := [some (.val (.lst (ns.map .int))), none]) (List.range (max 2 (min ns.length 5))) (fun (t : Nat) => D.int t) (fun _ => .bl true) (fun t ht => by
    have ht := List.mem_range.mp ht
    obtain ⟨l, h1, hb⟩ := brook (k := t) (ns := ns) (by omega) (by omega) hn
    obtain ⟨l', h2, _⟩ := e_right hb
    simp (disch := first | omega | (simp; done) | (simp; omega)) [e1_law, h1, h2]) (by rw [List.length_range]; omega)
  have hr : rng1 [D.int (if (if (5 : Int) < ns.length then 5 else (ns.length : Int)) > 2 then (if (5 : Int) < ns.length then 5 else (ns.length : Int)) else 2)] = some ((List.range (max 2 (min ns.length 5))).map fun (i : Nat) => D.int i) := by
    rw [rng1_ok (by split <;> split <;> omega)]
    congr 2
    split <;> split <;> congr 1 <;> omega
  simp (disch := first | omega | (simp; done) | (simp; omega)) [F_law, m_law, N_law, x1_law, hr, h, -rng1_ok]
end K62

set_option Elab.async false
set_option linter.all false
set_option maxRecDepth 100000
set_option maxHeartbeats 8000000

/-! the derivations: each body evaluates its state function; printed by gen_k.py -/
namespace K62
open PySem PySem.Spec PyProof.Rows L2 DL

def topS (i : Nat) : Stmt := PySem.Challenge.pw_standreaders_k62_numbers_and_their_rows.main.body.getD i (.Pass ⟨0, 0, 0, 0⟩)
abbrev s_is_number : Stmt := topS 8
abbrev s_check_numbers : Stmt := topS 21
abbrev s_number_by : Stmt := topS 16
abbrev s_shortest_row : Stmt := topS 20
abbrev s_row_for : Stmt := topS 22
abbrev s__law_figures : Stmt := topS 27
abbrev s__law_scoop : Stmt := topS 25
abbrev s__law_choose : Stmt := topS 26
abbrev s_check_tracks : Stmt := topS 13
abbrev s_figures_of : Stmt := topS 15
abbrev s_figures_by : Stmt := topS 17
abbrev s_numbers_of : Stmt := topS 18
abbrev s_is_row : Stmt := topS 9
abbrev s_power_of : Stmt := topS 14
abbrev s_numbers_by : Stmt := topS 19
abbrev s__law_row_right : Stmt := topS 29
abbrev s__law_shortest : Stmt := topS 28
abbrev s__law_numbers_right : Stmt := topS 30
abbrev s__law_right : Stmt := topS 31
abbrev s__law_brook : Stmt := topS 24
abbrev s_law : Stmt := topS 32
/-- what the walk asks of the module -/
structure Txt (K : PySem.W.Frag) (mg : Str → Option Value) : Prop where
  b_abs : mg "abs" = none
  b_all : mg "all" = none
  b_any : mg "any" = none
  b_bool : mg "bool" = none
  b_divmod : mg "divmod" = none
  b_int : mg "int" = none
  b_isinstance : mg "isinstance" = none
  b_len : mg "len" = none
  b_list : mg "list" = none
  b_max : mg "max" = none
  b_min : mg "min" = none
  b_range : mg "range" = none
  b_str : mg "str" = none
  b_sum : mg "sum" = none
  b_tuple : mg "tuple" = none
  c_ALPHABET : ∃ t, mg "ALPHABET" = some (.str "abcdefgh" t)
  c_GREATEST : ∃ t, mg "GREATEST" = some (.int 9999999999999999999999999999999999999999 t)
  c_MOST_ROW : ∃ t, mg "MOST_ROW" = some (.int 200 t)
  c_MOST_TRACKS : ∃ t, mg "MOST_TRACKS" = some (.int 3 t)
section
variable {P : Program} {w : World} {K : PySem.W.Frag} {mg : Str → Option Value} {base : Heap}
theorem sc_is_number : FnScope N_is_number ["value", "low", "high"] (defScope s_is_number) := ⟨rfl, rfl, rfl, by decide +kernel, rfl, by decide +kernel, by decide +kernel⟩
theorem body_is_number (T : Txt K mg)  (f : Addr) : ∀ (cdv : Value) (A : Around) (outer : List Env) (s : Shared) (H : Hp) (E : XK) (B : Bx), B.K = K → Room 0 (A.deeper (envOfC "is_number" (defScope s_is_number) s.heap.objs.size f cdv)) →
    DSs (cxOf CX0 P w K mg base N_is_number "is_number" (defScope s_is_number) f cdv A outer s H E).nox B (defBody s_is_number) m_is_number := by
  intro cdv A outer s H E B hK hr
  obtain ⟨K2, H0, io⟩ := B
  obtain rfl : K2 = K := hK
  have nd : (cxOf CX0 P w K2 mg base N_is_number "is_number" (defScope s_is_number) f cdv A outer s H E).N.Nodup := sc_is_number.nd
  exact dss_one (ds_ret (de_and (de_isi (T := "int") (do_name (i := 0)) T.b_isinstance T.b_int PyProof.Rows.boot_int) (de_and (de_not (de_isi (T := "bool") (do_name (i := 0)) T.b_isinstance T.b_bool PyProof.Rows.boot_bool)) (de_one (de_chain opd_le opd_le (do_name (i := 1)) (do_name (i := 0)) (do_name (i := 2)))))))
theorem ok_is_number (T : Txt K mg)  {f : Addr} {fd : FuncData} (Fn : L2.Fun K "is_number" "is_number" s_is_number f fd) : FnOk P w K mg base CX0 1 f fd ["value", "low", "high"] (spF K 3 F_is_number) :=
  fnok_of Fn sc_is_number rfl (body_is_number T  f) (fun ds c _ h => runF_spec h)
theorem sc_check_numbers : FnScope N_check_numbers ["numbers", "fewest"] (defScope s_check_numbers) := ⟨rfl, rfl, rfl, by decide +kernel, rfl, by decide +kernel, by decide +kernel⟩
theorem body_check_numbers (T : Txt K mg) (G_is_number : GFn P w K mg base 1 "is_number" 3 F_is_number) (f : Addr) : ∀ (cdv : Value) (A : Around) (outer : List Env) (s : Shared) (H : Hp) (E : XK) (B : Bx), B.K = K → Room 1 (A.deeper (envOfC "check_numbers" (defScope s_check_numbers) s.heap.objs.size f cdv)) →
    DSs (cxOf CX0 P w K mg base N_check_numbers "check_numbers" (defScope s_check_numbers) f cdv A outer s H E).nox B (defBody s_check_numbers) m_check_numbers := by
  intro cdv A outer s H E B hK hr
  obtain ⟨K2, H0, io⟩ := B
  obtain rfl : K2 = K := hK
  have nd : (cxOf CX0 P w K2 mg base N_check_numbers "check_numbers" (defScope s_check_numbers) f cdv A outer s H E).N.Nodup := sc_check_numbers.nd
  exact dss_cons (ds_if (DW.dt (dw_or (dt_not (dt_val (de_isi (T := "tuple") (do_name (i := 0)) T.b_isinstance T.b_tuple PyProof.Rows.boot_tuple))) (dw_or1 (dt_not (dt_chain opd_le opd_le (do_name (i := 1)) (DO.of (de_callB (cd_len) T.b_len PySem.boot_len (da_cons (do_name (i := 0)) (da_nil)))) (DO.of (de_gint T.c_MOST_TRACKS)))))))
      (dss_one (ds_no))
      (dss_nil))
      (dss_one (ds_if (dt_not (dt_val (de_callB (cd_all rfl) T.b_all PyProof.Rows.boot_all (da_cons (DO.of (de_lc (own := [("number", 2)]) rfl nd (di_val (DV.of (de_name (i := 0)))) (blkOk_by (N := N_check_numbers) (sc := (defScope s_check_numbers)) (own := [("number", 2)]) (by decide +kernel)) (fun _ _ _ _ _ => dg_name (i := 2) nd) (fun _ _ _ _ _ => dts_nil) (fun _ _ _ _ _ => DV.of (de_call G_is_number hr (dvs_of (da_cons (do_name (i := 2)) (da_cons (DO.of (de_int)) (da_cons (DO.of (de_gint T.c_GREATEST)) (da_nil))))))))) (da_nil)))))
      (dss_one (ds_no))
      (dss_nil)))
theorem ok_check_numbers (T : Txt K mg) (G_is_number : GFn P w K mg base 1 "is_number" 3 F_is_number) {f : Addr} {fd : FuncData} (Fn : L2.Fun K "check_numbers" "check_numbers" s_check_numbers f fd) : FnOk P w K mg base CX0 2 f fd ["numbers", "fewest"] (spF K 2 F_check_numbers) :=
  fnok_of Fn sc_check_numbers rfl (body_check_numbers T G_is_number f) (fun ds c _ h => runF_spec h)
theorem sc_number_by : FnScope N_number_by ["figures"] (defScope s_number_by) := ⟨rfl, rfl, rfl, by decide +kernel, rfl, by decide +kernel, by decide +kernel⟩
theorem body_number_by (T : Txt K mg)  (f : Addr) : ∀ (cdv : Value) (A : Around) (outer : List Env) (s : Shared) (H : Hp) (E : XK) (B : Bx), B.K = K → Room 0 (A.deeper (envOfC "number_by" (defScope s_number_by) s.heap.objs.size f cdv)) →
    DSs (cxOf CX0 P w K mg base N_number_by "number_by" (defScope s_number_by) f cdv A outer s H E).nox B (defBody s_number_by) m_number_by := by
  intro cdv A outer s H E B hK hr
  obtain ⟨K2, H0, io⟩ := B
  obtain rfl : K2 = K := hK
  have nd : (cxOf CX0 P w K2 mg base N_number_by "number_by" (defScope s_number_by) f cdv A outer s H E).N.Nodup := sc_number_by.nd
  exact dss_cons (ds_set (i := 1) nd (de_int))
      (dss_cons (ds_for (vs := [2]) PassesOwn.never rfl (di_val (DV.of (de_back (do_name (i := 0))))) (dg_name (i := 2) nd)
      (dss_one (ds_set (i := 1) nd (de_bin opd_add (DO.of (de_bin opd_mul (DO.of (de_int)) (do_name (i := 1)))) (do_name (i := 2))))))
      (dss_one (ds_retX (i := 1))))
theorem ok_number_by (T : Txt K mg)  {f : Addr} {fd : FuncData} (Fn : L2.Fun K "number_by" "number_by" s_number_by f fd) : FnOk P w K mg base CX0 1 f fd ["figures"] (spF K 1 F_number_by) :=
  fnok_of Fn sc_number_by rfl (body_number_by T  f) (fun ds c _ h => runF_spec h)
theorem sc_shortest_row : FnScope N_shortest_row ["numbers"] (defScope s_shortest_row) := ⟨rfl, rfl, rfl, by decide +kernel, rfl, by decide +kernel, by decide +kernel⟩
theorem body_shortest_row (T : Txt K mg) (G_number_by : GFn P w K mg base 1 "number_by" 1 F_number_by) (f : Addr) : ∀ (cdv : Value) (A : Around) (outer : List Env) (s : Shared) (H : Hp) (E : XK) (B : Bx), B.K = K → Room 1 (A.deeper (envOfC "shortest_row" (defScope s_shortest_row) s.heap.objs.size f cdv)) →
    DSs (cxOf CX0 P w K mg base N_shortest_row "shortest_row" (defScope s_shortest_row) f cdv A outer s H E).nox B (defBody s_shortest_row) m_shortest_row := by
  intro cdv A outer s H E B hK hr
  obtain ⟨K2, H0, io⟩ := B
  obtain rfl : K2 = K := hK
  have nd : (cxOf CX0 P w K2 mg base N_shortest_row "shortest_row" (defScope s_shortest_row) f cdv A outer s H E).N.Nodup := sc_shortest_row.nd
  exact dss_cons (ds_par (i := 1) (j := 2) rfl nd (da_cons (DO.of (de_str)) (da_cons (DO.of (de_callTy cd_list T.b_list PyProof.Rows.boot_list (da_cons (do_name (i := 0)) (da_nil)))) (da_nil))))
      (dss_cons (ds_while PassesOwn.never (dt_val (de_callB (cd_any rfl) T.b_any PyProof.Rows.boot_any (da_cons (DO.of (de_lc (own := [("number", 3)]) rfl nd (di_val (DV.of (de_name (i := 2)))) (blkOk_by (N := N_shortest_row) (sc := (defScope s_shortest_row)) (own := [("number", 3)]) (by decide +kernel)) (fun _ _ _ _ _ => dg_name (i := 3) nd) (fun _ _ _ _ _ => dts_nil) (fun _ _ _ _ _ => DV.of (de_cmp opd_gt (do_name (i := 3)) (DO.of (de_int)))))) (da_nil))))
      (dss_cons (ds_set (i := 1) nd (de_bin opd_add (do_name (i := 1)) (DO.of (de_ix ixd (DO.of (de_gstr T.c_ALPHABET)) (DO.of (de_call G_number_by hr (dvs_of (da_cons (DO.of (de_lc (own := [("number", 3)]) rfl nd (di_val (DV.of (de_name (i := 2)))) (blkOk_by (N := N_shortest_row) (sc := (defScope s_shortest_row)) (own := [("number", 3)]) (by decide +kernel)) (fun _ _ _ _ _ => dg_name (i := 3) nd) (fun _ _ _ _ _ => dts_nil) (fun _ _ _ _ _ => DV.of (de_bin opd_mod (do_name (i := 3)) (DO.of (de_int)))))) (da_nil)))))))))
      (dss_one (ds_setLc (i := 2) (hsw := sw_true rfl rfl rfl (by decide +kernel)) (own := [("number", 3)]) rfl nd (di_val (DV.of (de_name (i := 2)))) (blkOk_by (N := N_shortest_row) (sc := (defScope s_shortest_row)) (own := [("number", 3)]) (by decide +kernel)) (fun _ _ _ _ _ => dg_name (i := 3) nd) (fun _ _ _ _ _ => dts_nil) (fun _ _ _ _ _ => DV.of (de_bin opd_div (do_name (i := 3)) (DO.of (de_int))))))))
      (dss_one (ds_retX (i := 1))))
theorem ok_shortest_row (T : Txt K mg) (G_number_by : GFn P w K mg base 1 "number_by" 1 F_number_by) {f : Addr} {fd : FuncData} (Fn : L2.Fun K "shortest_row" "shortest_row" s_shortest_row f fd) : FnOk P w K mg base CX0 2 f fd ["numbers"] (spF K 1 F_shortest_row) :=
  fnok_of Fn sc_shortest_row rfl (body_shortest_row T G_number_by f) (fun ds c _ h => runF_spec h)
theorem sc_row_for : FnScope N_row_for ["numbers"] (defScope s_row_for) := ⟨rfl, rfl, rfl, by decide +kernel, rfl, by decide +kernel, by decide +kernel⟩
theorem body_row_for (T : Txt K mg) (G_check_numbers : GFn P w K mg base 2 "check_numbers" 2 F_check_numbers) (G_shortest_row : GFn P w K mg base 2 "shortest_row" 1 F_shortest_row) (f : Addr) : ∀ (cdv : Value) (A : Around) (outer : List Env) (s : Shared) (H : Hp) (E : XK) (B : Bx), B.K = K → Room 2 (A.deeper (envOfC "row_for" (defScope s_row_for) s.heap.objs.size f cdv)) →
    DSs (cxOf CX0 P w K mg base N_row_for "row_for" (defScope s_row_for) f cdv A outer s H E).nox B (defBody s_row_for) m_row_for := by
  intro cdv A outer s H E B hK hr
  obtain ⟨K2, H0, io⟩ := B
  obtain rfl : K2 = K := hK
  have nd : (cxOf CX0 P w K2 mg base N_row_for "row_for" (defScope s_row_for) f cdv A outer s H E).N.Nodup := sc_row_for.nd
  exact dss_cons (ds_expr (de_call G_check_numbers hr (dvs_of (da_cons (do_name (i := 0)) (da_cons (DO.of (de_int)) (da_nil))))))
      (dss_one (ds_ret (de_call G_shortest_row hr (dvs_of (da_cons (do_name (i := 0)) (da_nil))))))
theorem ok_row_for (T : Txt K mg) (G_check_numbers : GFn P w K mg base 2 "check_numbers" 2 F_check_numbers) (G_shortest_row : GFn P w K mg base 2 "shortest_row" 1 F_shortest_row) {f : Addr} {fd : FuncData} (Fn : L2.Fun K "row_for" "row_for" s_row_for f fd) : FnOk P w K mg base CX0 3 f fd ["numbers"] (spF K 1 F_row_for) :=
  fnok_of Fn sc_row_for rfl (body_row_for T G_check_numbers G_shortest_row f) (fun ds c _ h => runF_spec h)
theorem sc__law_figures : FnScope N__law_figures ["lanes", "rowlet"] (defScope s__law_figures) := ⟨rfl, rfl, rfl, by decide +kernel, rfl, by decide +kernel, by decide +kernel⟩
theorem body__law_figures (T : Txt K mg)  (f : Addr) : ∀ (cdv : Value) (A : Around) (outer : List Env) (s : Shared) (H : Hp) (E : XK) (B : Bx), B.K = K → Room 0 (A.deeper (envOfC "_law_figures" (defScope s__law_figures) s.heap.objs.size f cdv)) →
    DSs (cxOf CX0 P w K mg base N__law_figures "_law_figures" (defScope s__law_figures) f cdv A outer s H E).nox B (defBody s__law_figures) m__law_figures := by
  intro cdv A outer s H E B hK hr
  obtain ⟨K2, H0, io⟩ := B
  obtain rfl : K2 = K := hK
  have nd : (cxOf CX0 P w K2 mg base N__law_figures "_law_figures" (defScope s__law_figures) f cdv A outer s H E).N.Nodup := sc__law_figures.nd
  exact dss_cons (ds_set (i := 2) nd (de_lst (dvs_of (da_nil))))
      (dss_cons (ds_for (vs := [3]) PassesOwn.never rfl (di_range1 T.b_range (da_cons (do_name (i := 0)) (da_nil))) (dg_name (i := 3) nd)
      (dss_cons (ds_asg (vs := [4, 5]) (DV.of (de_tup (dvs_of (da_cons (DO.of (de_int)) (da_cons (DO.of (de_int)) (da_nil)))))) (dg_tup rfl (dgs_cons (dg_name (i := 4) nd) (dgs_cons (dg_name (i := 5) nd) (dgs_nil)))))
      (dss_cons (ds_for (vs := [6]) PassesOwn.never rfl (di_val (DV.of (de_name (i := 1)))) (dg_name (i := 6) nd)
      (dss_cons (ds_set (i := 4) nd (de_bin opd_add (do_name (i := 4)) (DO.of (de_bin opd_mul (do_name (i := 5)) (DO.of (de_bin opd_mod (DO.of (de_bin opd_div (DO.of (de_callTy cd_int T.b_int PyProof.Rows.boot_int (da_cons (DO.of (de_mtS PySem.F.slot_str_index PySem.F.type_str_index mtd_index (DO.of (de_str)) (da_cons (do_name (i := 6)) (da_nil)))) (da_nil)))) (DO.of (de_ix ixd (DO.of (de_lst (dvs_of (da_cons (DO.of (de_int)) (da_cons (DO.of (de_int)) (da_cons (DO.of (de_int)) (da_nil))))))) (do_name (i := 3)))))) (DO.of (de_int))))))))
      (dss_one (ds_set (i := 5) nd (de_bin opd_mul (DO.of (de_int)) (do_name (i := 5)))))))
      (dss_one (ds_append (i := 2) (DV.of (de_name (i := 4))))))))
      (dss_one (ds_ret (de_callTy cd_tuple T.b_tuple PyProof.Rows.boot_tuple (da_cons (do_name (i := 2)) (da_nil))))))
theorem ok__law_figures (T : Txt K mg)  {f : Addr} {fd : FuncData} (Fn : L2.Fun K "_law_figures" "_law_figures" s__law_figures f fd) : FnOk P w K mg base CX0 1 f fd ["lanes", "rowlet"] (spF K 2 F__law_figures) :=
  fnok_of Fn sc__law_figures rfl (body__law_figures T  f) (fun ds c _ h => runF_spec h)
theorem sc__law_scoop : FnScope N__law_scoop ["brook", "many"] (defScope s__law_scoop) := ⟨rfl, rfl, rfl, by decide +kernel, rfl, by decide +kernel, by decide +kernel⟩
theorem body__law_scoop (T : Txt K mg)  (f : Addr) : ∀ (cdv : Value) (A : Around) (outer : List Env) (s : Shared) (H : Hp) (E : XK) (B : Bx), B.K = K → Room 0 (A.deeper (envOfC "_law_scoop" (defScope s__law_scoop) s.heap.objs.size f cdv)) →
    DSs (cxOf CX0 P w K mg base N__law_scoop "_law_scoop" (defScope s__law_scoop) f cdv A outer s H E).nox B (defBody s__law_scoop) m__law_scoop := by
  intro cdv A outer s H E B hK hr
  obtain ⟨K2, H0, io⟩ := B
  obtain rfl : K2 = K := hK
  have nd : (cxOf CX0 P w K2 mg base N__law_scoop "_law_scoop" (defScope s__law_scoop) f cdv A outer s H E).N.Nodup := sc__law_scoop.nd
  exact dss_cons (ds_if (dt_cmp opd_gt (DO.of (de_ix ixd (do_name (i := 0)) (DO.of (de_int)))) (DO.of (de_int)))
      (dss_cons (ds_asg (vs := [2]) (DV.of (de_callB (cd_divmod) T.b_divmod PyProof.Rows.boot_divmod (da_cons (DO.of (de_ix ixd (do_name (i := 0)) (DO.of (de_int)))) (da_cons (do_name (i := 1)) (da_nil))))) (dg_tup rfl (dgs_cons (dg_sub (k := 0) (de_int)) (dgs_cons (dg_name (i := 2) nd) (dgs_nil)))))
      (dss_one (ds_retX (i := 2))))
      (dss_nil))
      (dss_cons (ds_asg (vs := []) (DV.of (de_bin opd_add (DO.of (de_ix ixd (do_name (i := 0)) (DO.of (de_int)))) (DO.of (de_int)))) (dg_sub (k := 0) (de_int)))
      (dss_cons (ds_set (i := 3) nd (de_bin opd_mod (DO.of (de_callTy cd_int T.b_int PyProof.Rows.boot_int (da_cons (DO.of (de_bin opd_add (DO.of (de_ix ixd (do_name (i := 0)) (DO.of (de_int)))) (DO.of (de_bin opd_mul (DO.of (de_int)) (DO.of (de_ix ixd (do_name (i := 0)) (DO.of (de_int)))))))) (da_nil)))) (DO.of (de_int))))
      (dss_cons (ds_asg (vs := []) (DV.of (de_bin opd_mod (DO.of (de_callTy cd_int T.b_int PyProof.Rows.boot_int (da_cons (DO.of (de_bin opd_add (DO.of (de_bin opd_add (DO.of (de_bin opd_mul (do_name (i := 3)) (DO.of (de_bin opd_add (DO.of (de_bin opd_mod (DO.of (de_callTy cd_int T.b_int PyProof.Rows.boot_int (da_cons (do_name (i := 3)) (da_nil)))) (DO.of (de_int)))) (DO.of (de_int)))))) (DO.of (de_bin opd_mul (DO.of (de_int)) (DO.of (de_ix ixd (do_name (i := 0)) (DO.of (de_int)))))))) (DO.of (de_int)))) (da_nil)))) (DO.of (de_int)))) (dg_sub (k := 0) (de_int)))
      (dss_one (ds_ret (de_bin opd_mod (DO.of (de_bin opd_div (DO.of (de_callTy cd_int T.b_int PyProof.Rows.boot_int (da_cons (DO.of (de_ix ixd (do_name (i := 0)) (DO.of (de_int)))) (da_nil)))) (DO.of (de_int)))) (do_name (i := 1))))))))
theorem ok__law_scoop (T : Txt K mg)  {f : Addr} {fd : FuncData} (Fn : L2.Fun K "_law_scoop" "_law_scoop" s__law_scoop f fd) : FnOk P w K mg base CX0 1 f fd ["brook", "many"] (spIo K 2 F__law_scoop) :=
  fnok_io Fn sc__law_scoop rfl (body__law_scoop T  f) (fun es ds c es' _ h => runIo_spec h)
theorem sc__law_choose : FnScope N__law_choose ["brook", "some"] (defScope s__law_choose) := ⟨rfl, rfl, rfl, by decide +kernel, rfl, by decide +kernel, by decide +kernel⟩
theorem body__law_choose (T : Txt K mg) (G__law_scoop : GIo P w K mg base 1 "_law_scoop" 2 F__law_scoop) (f : Addr) : ∀ (cdv : Value) (A : Around) (outer : List Env) (s : Shared) (H : Hp) (E : XK) (B : Bx), B.K = K → Room 1 (A.deeper (envOfC "_law_choose" (defScope s__law_choose) s.heap.objs.size f cdv)) →
    DSs (cxOf CX0 P w K mg base N__law_choose "_law_choose" (defScope s__law_choose) f cdv A outer s H E).nox B (defBody s__law_choose) m__law_choose := by
  intro cdv A outer s H E B hK hr
  obtain ⟨K2, H0, io⟩ := B
  obtain rfl : K2 = K := hK
  have nd : (cxOf CX0 P w K2 mg base N__law_choose "_law_choose" (defScope s__law_choose) f cdv A outer s H E).N.Nodup := sc__law_choose.nd
  exact dss_one (ds_ret (de_ix ixd (do_name (i := 1)) (DO.of (de_callIo G__law_scoop hr (da_cons (do_name (i := 0)) (da_cons (DO.of (de_callB (cd_len) T.b_len PySem.boot_len (da_cons (do_name (i := 1)) (da_nil)))) (da_nil)))))))
theorem ok__law_choose (T : Txt K mg) (G__law_scoop : GIo P w K mg base 1 "_law_scoop" 2 F__law_scoop) {f : Addr} {fd : FuncData} (Fn : L2.Fun K "_law_choose" "_law_choose" s__law_choose f fd) : FnOk P w K mg base CX0 2 f fd ["brook", "some"] (spIo K 2 F__law_choose) :=
  fnok_io Fn sc__law_choose rfl (body__law_choose T G__law_scoop f) (fun es ds c es' _ h => runIo_spec h)
theorem sc_check_tracks : FnScope N_check_tracks ["tracks"] (defScope s_check_tracks) := ⟨rfl, rfl, rfl, by decide +kernel, rfl, by decide +kernel, by decide +kernel⟩
theorem body_check_tracks (T : Txt K mg) (G_is_number : GFn P w K mg base 1 "is_number" 3 F_is_number) (f : Addr) : ∀ (cdv : Value) (A : Around) (outer : List Env) (s : Shared) (H : Hp) (E : XK) (B : Bx), B.K = K → Room 1 (A.deeper (envOfC "check_tracks" (defScope s_check_tracks) s.heap.objs.size f cdv)) →
    DSs (cxOf CX0 P w K mg base N_check_tracks "check_tracks" (defScope s_check_tracks) f cdv A outer s H E).nox B (defBody s_check_tracks) m_check_tracks := by
  intro cdv A outer s H E B hK hr
  obtain ⟨K2, H0, io⟩ := B
  obtain rfl : K2 = K := hK
  have nd : (cxOf CX0 P w K2 mg base N_check_tracks "check_tracks" (defScope s_check_tracks) f cdv A outer s H E).N.Nodup := sc_check_tracks.nd
  exact dss_one (ds_if (dt_not (dt_val (de_call G_is_number hr (dvs_of (da_cons (do_name (i := 0)) (da_cons (DO.of (de_int)) (da_cons (DO.of (de_gint T.c_MOST_TRACKS)) (da_nil))))))))
      (dss_one (ds_no))
      (dss_nil))
theorem ok_check_tracks (T : Txt K mg) (G_is_number : GFn P w K mg base 1 "is_number" 3 F_is_number) {f : Addr} {fd : FuncData} (Fn : L2.Fun K "check_tracks" "check_tracks" s_check_tracks f fd) : FnOk P w K mg base CX0 2 f fd ["tracks"] (spF K 1 F_check_tracks) :=
  fnok_of Fn sc_check_tracks rfl (body_check_tracks T G_is_number f) (fun ds c _ h => runF_spec h)
theorem sc_figures_of : FnScope N_figures_of ["place", "many"] (defScope s_figures_of) := ⟨rfl, rfl, rfl, by decide +kernel, rfl, by decide +kernel, by decide +kernel⟩
theorem body_figures_of (T : Txt K mg)  (f : Addr) : ∀ (cdv : Value) (A : Around) (outer : List Env) (s : Shared) (H : Hp) (E : XK) (B : Bx), B.K = K → Room 0 (A.deeper (envOfC "figures_of" (defScope s_figures_of) s.heap.objs.size f cdv)) →
    DSs (cxOf CX0 P w K mg base N_figures_of "figures_of" (defScope s_figures_of) f cdv A outer s H E).nox B (defBody s_figures_of) m_figures_of := by
  intro cdv A outer s H E B hK hr
  obtain ⟨K2, H0, io⟩ := B
  obtain rfl : K2 = K := hK
  have nd : (cxOf CX0 P w K2 mg base N_figures_of "figures_of" (defScope s_figures_of) f cdv A outer s H E).N.Nodup := sc_figures_of.nd
  exact dss_cons (ds_set (i := 2) nd (de_lst (dvs_of (da_nil))))
      (dss_cons (ds_for (vs := [3]) PassesOwn.never rfl (di_range1 T.b_range (da_cons (do_name (i := 1)) (da_nil))) (dg_name (i := 3) nd)
      (dss_cons (ds_append (i := 2) (DV.of (de_bin opd_mod (do_name (i := 0)) (DO.of (de_int)))))
      (dss_one (ds_set (i := 0) nd (de_bin opd_div (do_name (i := 0)) (DO.of (de_int)))))))
      (dss_one (ds_retX (i := 2))))
theorem ok_figures_of (T : Txt K mg)  {f : Addr} {fd : FuncData} (Fn : L2.Fun K "figures_of" "figures_of" s_figures_of f fd) : FnOk P w K mg base CX0 1 f fd ["place", "many"] (spF K 2 F_figures_of) :=
  fnok_of Fn sc_figures_of rfl (body_figures_of T  f) (fun ds c _ h => runF_spec h)
theorem sc_figures_by : FnScope N_figures_by ["row"] (defScope s_figures_by) := ⟨rfl, rfl, rfl, by decide +kernel, rfl, by decide +kernel, by decide +kernel⟩
theorem body_figures_by (T : Txt K mg)  (f : Addr) : ∀ (cdv : Value) (A : Around) (outer : List Env) (s : Shared) (H : Hp) (E : XK) (B : Bx), B.K = K → Room 0 (A.deeper (envOfC "figures_by" (defScope s_figures_by) s.heap.objs.size f cdv)) →
    DSs (cxOf CX0 P w K mg base N_figures_by "figures_by" (defScope s_figures_by) f cdv A outer s H E).nox B (defBody s_figures_by) m_figures_by := by
  intro cdv A outer s H E B hK hr
  obtain ⟨K2, H0, io⟩ := B
  obtain rfl : K2 = K := hK
  have nd : (cxOf CX0 P w K2 mg base N_figures_by "figures_by" (defScope s_figures_by) f cdv A outer s H E).N.Nodup := sc_figures_by.nd
  exact dss_one (ds_ret (de_lc (own := [("sign", 1)]) rfl nd (di_val (DV.of (de_name (i := 0)))) (blkOk_by (N := N_figures_by) (sc := (defScope s_figures_by)) (own := [("sign", 1)]) (by decide +kernel)) (fun _ _ _ _ _ => dg_name (i := 1) nd) (fun _ _ _ _ _ => dts_nil) (fun _ _ _ _ _ => DV.of (de_mtS PySem.F.slot_str_index PySem.F.type_str_index mtd_index (DO.of (de_gstr T.c_ALPHABET)) (da_cons (do_name (i := 1)) (da_nil))))))
theorem ok_figures_by (T : Txt K mg)  {f : Addr} {fd : FuncData} (Fn : L2.Fun K "figures_by" "figures_by" s_figures_by f fd) : FnOk P w K mg base CX0 1 f fd ["row"] (spF K 1 F_figures_by) :=
  fnok_of Fn sc_figures_by rfl (body_figures_by T  f) (fun ds c _ h => runF_spec h)
theorem sc_numbers_of : FnScope N_numbers_of ["tracks", "row"] (defScope s_numbers_of) := ⟨rfl, rfl, rfl, by decide +kernel, rfl, by decide +kernel, by decide +kernel⟩
theorem body_numbers_of (T : Txt K mg) (G_figures_of : GFn P w K mg base 1 "figures_of" 2 F_figures_of) (G_figures_by : GFn P w K mg base 1 "figures_by" 1 F_figures_by) (G_number_by : GFn P w K mg base 1 "number_by" 1 F_number_by) (f : Addr) : ∀ (cdv : Value) (A : Around) (outer : List Env) (s : Shared) (H : Hp) (E : XK) (B : Bx), B.K = K → Room 1 (A.deeper (envOfC "numbers_of" (defScope s_numbers_of) s.heap.objs.size f cdv)) →
    DSs (cxOf CX0 P w K mg base N_numbers_of "numbers_of" (defScope s_numbers_of) f cdv A outer s H E).nox B (defBody s_numbers_of) m_numbers_of := by
  intro cdv A outer s H E B hK hr
  obtain ⟨K2, H0, io⟩ := B
  obtain rfl : K2 = K := hK
  have nd : (cxOf CX0 P w K2 mg base N_numbers_of "numbers_of" (defScope s_numbers_of) f cdv A outer s H E).N.Nodup := sc_numbers_of.nd
  exact dss_cons (ds_set (i := 2) nd (de_lc (own := [("place", 3)]) rfl nd (di_val (DV.of (de_call G_figures_by hr (dvs_of (da_cons (do_name (i := 1)) (da_nil)))))) (blkOk_by (N := N_numbers_of) (sc := (defScope s_numbers_of)) (own := [("place", 3)]) (by decide +kernel)) (fun _ _ _ _ _ => dg_name (i := 3) nd) (fun _ _ _ _ _ => dts_nil) (fun _ _ _ _ _ => DV.of (de_call G_figures_of hr (dvs_of (da_cons (do_name (i := 3)) (da_cons (do_name (i := 0)) (da_nil))))))))
      (dss_one (ds_ret (de_callTy cd_tuple T.b_tuple PyProof.Rows.boot_tuple (da_cons (DO.of (de_lc (own := [("track", 5)]) rfl nd (di_range1 T.b_range (da_cons (do_name (i := 0)) (da_nil))) (blkOk_by (N := N_numbers_of) (sc := (defScope s_numbers_of)) (own := [("track", 5)]) (by decide +kernel)) (fun _ _ _ _ _ => dg_name (i := 5) nd) (fun _ _ _ _ _ => dts_nil) (fun _ _ _ _ _ => DV.of (de_call G_number_by hr (dvs_of (da_cons (DO.of (de_lc (own := [("figures", 4)]) rfl nd (di_val (DV.of (de_name (i := 2)))) (blkOk_by (N := N_numbers_of) (sc := relS _ ((defScope s_numbers_of))) (own := [("figures", 4)]) (by decide +kernel)) (fun _ _ _ _ _ => dg_name (i := 4) nd) (fun _ _ _ _ _ => dts_nil) (fun _ _ _ _ _ => DV.of (de_ix ixd (do_name (i := 4)) (do_name (i := 5)))))) (da_nil))))))) (da_nil)))))
theorem ok_numbers_of (T : Txt K mg) (G_figures_of : GFn P w K mg base 1 "figures_of" 2 F_figures_of) (G_figures_by : GFn P w K mg base 1 "figures_by" 1 F_figures_by) (G_number_by : GFn P w K mg base 1 "number_by" 1 F_number_by) {f : Addr} {fd : FuncData} (Fn : L2.Fun K "numbers_of" "numbers_of" s_numbers_of f fd) : FnOk P w K mg base CX0 2 f fd ["tracks", "row"] (spF K 2 F_numbers_of) :=
  fnok_of Fn sc_numbers_of rfl (body_numbers_of T G_figures_of G_figures_by G_number_by f) (fun ds c _ h => runF_spec h)
theorem sc_is_row : FnScope N_is_row ["value", "signs", "most"] (defScope s_is_row) := ⟨rfl, rfl, rfl, by decide +kernel, rfl, by decide +kernel, by decide +kernel⟩
theorem body_is_row (T : Txt K mg)  (f : Addr) : ∀ (cdv : Value) (A : Around) (outer : List Env) (s : Shared) (H : Hp) (E : XK) (B : Bx), B.K = K → Room 0 (A.deeper (envOfC "is_row" (defScope s_is_row) s.heap.objs.size f cdv)) →
    DSs (cxOf CX0 P w K mg base N_is_row "is_row" (defScope s_is_row) f cdv A outer s H E).nox B (defBody s_is_row) m_is_row := by
  intro cdv A outer s H E B hK hr
  obtain ⟨K2, H0, io⟩ := B
  obtain rfl : K2 = K := hK
  have nd : (cxOf CX0 P w K2 mg base N_is_row "is_row" (defScope s_is_row) f cdv A outer s H E).N.Nodup := sc_is_row.nd
  exact dss_cons (ds_if (DW.dt (dw_or (dt_not (dt_val (de_isi (T := "str") (do_name (i := 0)) T.b_isinstance T.b_str PyProof.Rows.boot_str))) (dw_or1 (dt_not (dt_val (de_callB (cd_all rfl) T.b_all PyProof.Rows.boot_all (da_cons (DO.of (de_lc (own := [("sign", 3)]) rfl nd (di_val (DV.of (de_name (i := 0)))) (blkOk_by (N := N_is_row) (sc := (defScope s_is_row)) (own := [("sign", 3)]) (by decide +kernel)) (fun _ _ _ _ _ => dg_name (i := 3) nd) (fun _ _ _ _ _ => dts_nil) (fun _ _ _ _ _ => DV.of (de_cmp opd_in (do_name (i := 3)) (DO.of (de_slice sld (DO.of (de_gstr T.c_ALPHABET)) (dp_none) (dp_some (de_name (i := 1))))))))) (da_nil))))))))
      (dss_one (ds_ret (de_bl)))
      (dss_nil))
      (dss_one (ds_ret (de_or (de_cmp opd_is (do_name (i := 2)) (DO.of (de_non))) (de_one (de_cmp opd_le (DO.of (de_callB (cd_len) T.b_len PySem.boot_len (da_cons (do_name (i := 0)) (da_nil)))) (do_name (i := 2)))))))
theorem ok_is_row (T : Txt K mg)  {f : Addr} {fd : FuncData} (Fn : L2.Fun K "is_row" "is_row" s_is_row f fd) : FnOk P w K mg base CX0 1 f fd ["value", "signs", "most"] (spF K 3 F_is_row) :=
  fnok_of Fn sc_is_row rfl (body_is_row T  f) (fun ds c _ h => runF_spec h)
theorem sc_power_of : FnScope N_power_of ["number"] (defScope s_power_of) := ⟨rfl, rfl, rfl, by decide +kernel, rfl, by decide +kernel, by decide +kernel⟩
theorem body_power_of (T : Txt K mg)  (f : Addr) : ∀ (cdv : Value) (A : Around) (outer : List Env) (s : Shared) (H : Hp) (E : XK) (B : Bx), B.K = K → Room 0 (A.deeper (envOfC "power_of" (defScope s_power_of) s.heap.objs.size f cdv)) →
    DSs (cxOf CX0 P w K mg base N_power_of "power_of" (defScope s_power_of) f cdv A outer s H E).nox B (defBody s_power_of) m_power_of := by
  intro cdv A outer s H E B hK hr
  obtain ⟨K2, H0, io⟩ := B
  obtain rfl : K2 = K := hK
  have nd : (cxOf CX0 P w K2 mg base N_power_of "power_of" (defScope s_power_of) f cdv A outer s H E).N.Nodup := sc_power_of.nd
  exact dss_cons (ds_set (i := 1) nd (de_int))
      (dss_cons (ds_for (vs := [2]) PassesOwn.never rfl (di_range1 T.b_range (da_cons (do_name (i := 0)) (da_nil))) (dg_name (i := 2) nd)
      (dss_one (ds_set (i := 1) nd (de_bin opd_mul (do_name (i := 1)) (DO.of (de_int))))))
      (dss_one (ds_retX (i := 1))))
theorem ok_power_of (T : Txt K mg)  {f : Addr} {fd : FuncData} (Fn : L2.Fun K "power_of" "power_of" s_power_of f fd) : FnOk P w K mg base CX0 1 f fd ["number"] (spF K 1 F_power_of) :=
  fnok_of Fn sc_power_of rfl (body_power_of T  f) (fun ds c _ h => runF_spec h)
theorem sc_numbers_by : FnScope N_numbers_by ["tracks", "row"] (defScope s_numbers_by) := ⟨rfl, rfl, rfl, by decide +kernel, rfl, by decide +kernel, by decide +kernel⟩
theorem body_numbers_by (T : Txt K mg) (G_check_tracks : GFn P w K mg base 2 "check_tracks" 1 F_check_tracks) (G_numbers_of : GFn P w K mg base 2 "numbers_of" 2 F_numbers_of) (G_is_row : GFn P w K mg base 1 "is_row" 3 F_is_row) (G_power_of : GFn P w K mg base 1 "power_of" 1 F_power_of) (f : Addr) : ∀ (cdv : Value) (A : Around) (outer : List Env) (s : Shared) (H : Hp) (E : XK) (B : Bx), B.K = K → Room 2 (A.deeper (envOfC "numbers_by" (defScope s_numbers_by) s.heap.objs.size f cdv)) →
    DSs (cxOf CX0 P w K mg base N_numbers_by "numbers_by" (defScope s_numbers_by) f cdv A outer s H E).nox B (defBody s_numbers_by) m_numbers_by := by
  intro cdv A outer s H E B hK hr
  obtain ⟨K2, H0, io⟩ := B
  obtain rfl : K2 = K := hK
  have nd : (cxOf CX0 P w K2 mg base N_numbers_by "numbers_by" (defScope s_numbers_by) f cdv A outer s H E).N.Nodup := sc_numbers_by.nd
  exact dss_cons (ds_expr (de_call G_check_tracks hr (dvs_of (da_cons (do_name (i := 0)) (da_nil)))))
      (dss_cons (ds_if (dt_not (dt_val (de_call G_is_row (hr.mono (by decide)) (dvs_of (da_cons (do_name (i := 1)) (da_cons (DO.of (de_call G_power_of (hr.mono (by decide)) (dvs_of (da_cons (do_name (i := 0)) (da_nil))))) (da_cons (DO.of (de_gint T.c_MOST_ROW)) (da_nil))))))))
      (dss_one (ds_no))
      (dss_nil))
      (dss_one (ds_ret (de_call G_numbers_of hr (dvs_of (da_cons (do_name (i := 0)) (da_cons (do_name (i := 1)) (da_nil))))))))
theorem ok_numbers_by (T : Txt K mg) (G_check_tracks : GFn P w K mg base 2 "check_tracks" 1 F_check_tracks) (G_numbers_of : GFn P w K mg base 2 "numbers_of" 2 F_numbers_of) (G_is_row : GFn P w K mg base 1 "is_row" 3 F_is_row) (G_power_of : GFn P w K mg base 1 "power_of" 1 F_power_of) {f : Addr} {fd : FuncData} (Fn : L2.Fun K "numbers_by" "numbers_by" s_numbers_by f fd) : FnOk P w K mg base CX0 3 f fd ["tracks", "row"] (spF K 2 F_numbers_by) :=
  fnok_of Fn sc_numbers_by rfl (body_numbers_by T G_check_tracks G_numbers_of G_is_row G_power_of f) (fun ds c _ h => runF_spec h)
theorem sc__law_row_right : FnScope N__law_row_right ["brook"] (defScope s__law_row_right) := ⟨rfl, rfl, rfl, by decide +kernel, rfl, by decide +kernel, by decide +kernel⟩
theorem body__law_row_right (T : Txt K mg) (G__law_figures : GFn P w K mg base 1 "_law_figures" 2 F__law_figures) (G__law_scoop : GIo P w K mg base 1 "_law_scoop" 2 F__law_scoop) (G__law_choose : GIo P w K mg base 2 "_law_choose" 2 F__law_choose) (G_numbers_by : GFn P w K mg base 3 "numbers_by" 2 F_numbers_by) (K_numbers_by_row_tracks : GKw P w K mg base 3 "numbers_by" 2 F_numbers_by ["row", "tracks"] [1, 0]) (G_row_for : GFn P w K mg base 3 "row_for" 1 F_row_for) (f : Addr) : ∀ (cdv : Value) (A : Around) (outer : List Env) (s : Shared) (H : Hp) (E : XK) (B : Bx), B.K = K → Room 3 (A.deeper (envOfC "_law_row_right" (defScope s__law_row_right) s.heap.objs.size f cdv)) →
    DSs (cxOf CX0 P w K mg base N__law_row_right "_law_row_right" (defScope s__law_row_right) f cdv A outer s H E).nox B (defBody s__law_row_right) m__law_row_right := by
  intro cdv A outer s H E B hK hr
  obtain ⟨K2, H0, io⟩ := B
  obtain rfl : K2 = K := hK
  have nd : (cxOf CX0 P w K2 mg base N__law_row_right "_law_row_right" (defScope s__law_row_right) f cdv A outer s H E).N.Nodup := sc__law_row_right.nd
  exact dss_cons (ds_set (i := 1) nd (de_bin opd_add (DO.of (de_int)) (DO.of (de_callIo G__law_scoop (hr.mono (by decide)) (da_cons (do_name (i := 0)) (da_cons (DO.of (de_int)) (da_nil)))))))
      (dss_cons (ds_asg (vs := [2, 3]) (DV.of (de_tup (dvs_of (da_cons (DO.of (de_slice sld (DO.of (de_str)) (dp_none) (dp_some (de_ix ixd (DO.of (de_lst (dvs_of (da_cons (DO.of (de_int)) (da_cons (DO.of (de_int)) (da_cons (DO.of (de_int)) (da_nil))))))) (DO.of (de_bin opd_sub (do_name (i := 1)) (DO.of (de_int)))))))) (da_cons (DO.of (de_callIo G__law_choose (hr.mono (by decide)) (da_cons (do_name (i := 0)) (da_cons (DO.of (de_lst (dvs_of (da_cons (DO.of (de_int)) (da_cons (DO.of (de_int)) (da_cons (DO.of (de_int)) (da_cons (DO.of (de_int)) (da_cons (DO.of (de_int)) (da_cons (DO.of (de_int)) (da_cons (DO.of (de_int)) (da_nil))))))))))) (da_nil))))) (da_nil)))))) (dg_tup rfl (dgs_cons (dg_name (i := 2) nd) (dgs_cons (dg_name (i := 3) nd) (dgs_nil)))))
      (dss_cons (ds_set (i := 4) nd (de_bin opd_add (DO.of (de_mtS PySem.F.slot_str_join PySem.F.type_str_join mtd_join (DO.of (de_str)) (da_cons (DO.of (de_lc (own := [("k", 5)]) rfl nd (di_range1 T.b_range (da_cons (do_name (i := 3)) (da_nil))) (blkOk_by (N := N__law_row_right) (sc := (defScope s__law_row_right)) (own := [("k", 5)]) (by decide +kernel)) (fun _ _ _ _ _ => dg_name (i := 5) nd) (fun _ _ _ _ _ => dts_nil) (fun _ _ _ _ _ => DV.of (de_callIo G__law_choose (hr.mono (by decide)) (da_cons (do_name (i := 0)) (da_cons (do_name (i := 2)) (da_nil))))))) (da_nil)))) (DO.of (de_bin opd_mul (DO.of (de_str)) (DO.of (de_callIo G__law_choose (hr.mono (by decide)) (da_cons (do_name (i := 0)) (da_cons (DO.of (de_lst (dvs_of (da_cons (DO.of (de_int)) (da_cons (DO.of (de_int)) (da_cons (DO.of (de_int)) (da_cons (DO.of (de_int)) (da_nil)))))))) (da_nil)))))))))
      (dss_cons (ds_set (i := 6) nd (de_call G__law_figures (hr.mono (by decide)) (dvs_of (da_cons (do_name (i := 1)) (da_cons (do_name (i := 4)) (da_nil))))))
      (dss_cons (ds_if (DW.dt (dw_or (dt_cmp (opd_ne hr.units) (DO.of (de_call G_numbers_by hr (dvs_of (da_cons (do_name (i := 1)) (da_cons (do_name (i := 4)) (da_nil)))))) (do_name (i := 6))) (dw_or1 (dt_cmp (opd_ne hr.units) (DO.of (de_callK K_numbers_by_row_tracks hr (dks_of (dk_cons (do_name (i := 4)) (dk_cons (do_name (i := 1)) (dk_nil)))))) (do_name (i := 6))))))
      (dss_one (ds_ret (de_bl)))
      (dss_nil))
      (dss_cons (ds_if (DW.dt (dw_or (dt_cmp (opd_ne hr.units) (DO.of (de_call G_row_for hr (dvs_of (da_cons (do_name (i := 6)) (da_nil))))) (DO.of (de_mtS PySem.F.slot_str_rstrip PySem.F.type_str_rstrip mtd_rstrip (do_name (i := 4)) (da_cons (DO.of (de_str)) (da_nil))))) (dw_or1 (dt_cmp (opd_ne hr.units) (DO.of (de_call G_numbers_by hr (dvs_of (da_cons (do_name (i := 1)) (da_cons (DO.of (de_bin opd_add (DO.of (de_mtS PySem.F.slot_str_rstrip PySem.F.type_str_rstrip mtd_rstrip (do_name (i := 4)) (da_cons (DO.of (de_str)) (da_nil)))) (DO.of (de_str)))) (da_nil)))))) (do_name (i := 6))))))
      (dss_one (ds_ret (de_bl)))
      (dss_nil))
      (dss_one (ds_ret (de_cmp (opd_eq hr.units) (DO.of (de_lc (own := [("number", 7)]) rfl nd (di_val (DV.of (de_call G_numbers_by hr (dvs_of (da_cons (do_name (i := 1)) (da_cons (do_name (i := 4)) (da_nil))))))) (blkOk_by (N := N__law_row_right) (sc := (defScope s__law_row_right)) (own := [("number", 7)]) (by decide +kernel)) (fun _ _ _ _ _ => dg_name (i := 7) nd) (fun _ _ _ _ _ => dts_one (dt_not (dt_val (de_isi (T := "int") (do_name (i := 7)) T.b_isinstance T.b_int PyProof.Rows.boot_int)))) (fun _ _ _ _ _ => DV.of (de_name (i := 7))))) (DO.of (de_lst (dvs_of (da_nil))))))))))))
theorem ok__law_row_right (T : Txt K mg) (G__law_figures : GFn P w K mg base 1 "_law_figures" 2 F__law_figures) (G__law_scoop : GIo P w K mg base 1 "_law_scoop" 2 F__law_scoop) (G__law_choose : GIo P w K mg base 2 "_law_choose" 2 F__law_choose) (G_numbers_by : GFn P w K mg base 3 "numbers_by" 2 F_numbers_by) (K_numbers_by_row_tracks : GKw P w K mg base 3 "numbers_by" 2 F_numbers_by ["row", "tracks"] [1, 0]) (G_row_for : GFn P w K mg base 3 "row_for" 1 F_row_for) {f : Addr} {fd : FuncData} (Fn : L2.Fun K "_law_row_right" "_law_row_right" s__law_row_right f fd) : FnOk P w K mg base CX0 4 f fd ["brook"] (spIo K 1 F__law_row_right) :=
  fnok_io Fn sc__law_row_right rfl (body__law_row_right T G__law_figures G__law_scoop G__law_choose G_numbers_by K_numbers_by_row_tracks G_row_for f) (fun es ds c es' _ h => runIo_spec h)
theorem sc__law_shortest : FnScope N__law_shortest ["nums"] (defScope s__law_shortest) := ⟨rfl, rfl, rfl, by decide +kernel, rfl, by decide +kernel, by decide +kernel⟩
theorem body__law_shortest (T : Txt K mg)  (f : Addr) : ∀ (cdv : Value) (A : Around) (outer : List Env) (s : Shared) (H : Hp) (E : XK) (B : Bx), B.K = K → Room 0 (A.deeper (envOfC "_law_shortest" (defScope s__law_shortest) s.heap.objs.size f cdv)) →
    DSs (cxOf CX0 P w K mg base N__law_shortest "_law_shortest" (defScope s__law_shortest) f cdv A outer s H E).nox B (defBody s__law_shortest) m__law_shortest := by
  intro cdv A outer s H E B hK hr
  obtain ⟨K2, H0, io⟩ := B
  obtain rfl : K2 = K := hK
  have nd : (cxOf CX0 P w K2 mg base N__law_shortest "_law_shortest" (defScope s__law_shortest) f cdv A outer s H E).N.Nodup := sc__law_shortest.nd
  exact dss_cons (ds_asg (vs := [1, 2]) (DV.of (de_tup (dvs_of (da_cons (DO.of (de_str)) (da_cons (DO.of (de_callTy cd_list T.b_list PyProof.Rows.boot_list (da_cons (do_name (i := 0)) (da_nil)))) (da_nil)))))) (dg_tup rfl (dgs_cons (dg_name (i := 1) nd) (dgs_cons (dg_name (i := 2) nd) (dgs_nil)))))
      (dss_cons (ds_for (vs := [3]) PassesOwn.never rfl (di_range1 T.b_range (da_cons (DO.of (de_int)) (da_nil))) (dg_name (i := 3) nd)
      (dss_one (ds_if (dt_cmp opd_gt (DO.of (de_callB (cd_max rfl) T.b_max PyProof.Rows.boot_max (da_cons (DO.of (de_bin opd_add (do_name (i := 2)) (DO.of (de_lst (dvs_of (da_cons (DO.of (de_int)) (da_nil))))))) (da_nil)))) (DO.of (de_int)))
      (dss_cons (ds_set (i := 1) nd (de_bin opd_add (do_name (i := 1)) (DO.of (de_ix ixd (DO.of (de_str)) (DO.of (de_callB (cd_sum rfl) T.b_sum PyProof.Rows.boot_sum (da_cons (DO.of (de_lc (own := [("k", 4)]) rfl nd (di_range1 T.b_range (da_cons (DO.of (de_callB (cd_len) T.b_len PySem.boot_len (da_cons (do_name (i := 2)) (da_nil)))) (da_nil))) (blkOk_by (N := N__law_shortest) (sc := (defScope s__law_shortest)) (own := [("k", 4)]) (by decide +kernel)) (fun _ _ _ _ _ => dg_name (i := 4) nd) (fun _ _ _ _ _ => dts_nil) (fun _ _ _ _ _ => DV.of (de_bin opd_mul (DO.of (de_bin opd_mod (DO.of (de_callTy cd_int T.b_int PyProof.Rows.boot_int (da_cons (DO.of (de_ix ixd (do_name (i := 2)) (do_name (i := 4)))) (da_nil)))) (DO.of (de_int)))) (DO.of (de_ix ixd (DO.of (de_lst (dvs_of (da_cons (DO.of (de_int)) (da_cons (DO.of (de_int)) (da_cons (DO.of (de_int)) (da_nil))))))) (do_name (i := 4)))))))) (da_nil))))))))
      (dss_one (ds_set (i := 2) nd (de_lc (own := [("number", 5)]) rfl nd (di_val (DV.of (de_name (i := 2)))) (blkOk_by (N := N__law_shortest) (sc := (defScope s__law_shortest)) (own := [("number", 5)]) (by decide +kernel)) (fun _ _ _ _ _ => dg_name (i := 5) nd) (fun _ _ _ _ _ => dts_nil) (fun _ _ _ _ _ => DV.of (de_bin opd_div (DO.of (de_callTy cd_int T.b_int PyProof.Rows.boot_int (da_cons (do_name (i := 5)) (da_nil)))) (DO.of (de_int))))))))
      (dss_nil))))
      (dss_one (ds_retX (i := 1))))
theorem ok__law_shortest (T : Txt K mg)  {f : Addr} {fd : FuncData} (Fn : L2.Fun K "_law_shortest" "_law_shortest" s__law_shortest f fd) : FnOk P w K mg base CX0 1 f fd ["nums"] (spF K 1 F__law_shortest) :=
  fnok_of Fn sc__law_shortest rfl (body__law_shortest T  f) (fun ds c _ h => runF_spec h)
theorem sc__law_numbers_right : FnScope N__law_numbers_right ["brook"] (defScope s__law_numbers_right) := ⟨rfl, rfl, rfl, by decide +kernel, rfl, by decide +kernel, by decide +kernel⟩
theorem body__law_numbers_right (T : Txt K mg) (G_row_for : GFn P w K mg base 3 "row_for" 1 F_row_for) (G__law_scoop : GIo P w K mg base 1 "_law_scoop" 2 F__law_scoop) (G__law_choose : GIo P w K mg base 2 "_law_choose" 2 F__law_choose) (G__law_shortest : GFn P w K mg base 1 "_law_shortest" 1 F__law_shortest) (K_row_for_numbers : GKw P w K mg base 3 "row_for" 1 F_row_for ["numbers"] [0]) (G_numbers_by : GFn P w K mg base 3 "numbers_by" 2 F_numbers_by) (f : Addr) : ∀ (cdv : Value) (A : Around) (outer : List Env) (s : Shared) (H : Hp) (E : XK) (B : Bx), B.K = K → Room 3 (A.deeper (envOfC "_law_numbers_right" (defScope s__law_numbers_right) s.heap.objs.size f cdv)) →
    DSs (cxOf CX0 P w K mg base N__law_numbers_right "_law_numbers_right" (defScope s__law_numbers_right) f cdv A outer s H E).nox B (defBody s__law_numbers_right) m__law_numbers_right := by
  intro cdv A outer s H E B hK hr
  obtain ⟨K2, H0, io⟩ := B
  obtain rfl : K2 = K := hK
  have nd : (cxOf CX0 P w K2 mg base N__law_numbers_right "_law_numbers_right" (defScope s__law_numbers_right) f cdv A outer s H E).N.Nodup := sc__law_numbers_right.nd
  exact dss_cons (ds_par (i := 1) (j := 2) rfl nd (da_cons (DO.of (de_bin opd_add (DO.of (de_int)) (DO.of (de_callIo G__law_scoop (hr.mono (by decide)) (da_cons (do_name (i := 0)) (da_cons (DO.of (de_int)) (da_nil))))))) (da_cons (DO.of (de_lst (dvs_of (da_nil)))) (da_nil))))
      (dss_cons (ds_for (vs := [3]) PassesOwn.never rfl (di_range1 T.b_range (da_cons (do_name (i := 1)) (da_nil))) (dg_name (i := 3) nd)
      (dss_cons (ds_set (i := 4) nd (de_lst (dvs_of (da_cons (DO.of (de_callIo G__law_scoop (hr.mono (by decide)) (da_cons (do_name (i := 0)) (da_cons (DO.of (de_int)) (da_nil))))) (da_cons (DO.of (de_callIo G__law_scoop (hr.mono (by decide)) (da_cons (do_name (i := 0)) (da_cons (DO.of (de_int)) (da_nil))))) (da_cons (DO.of (de_bin opd_sub (DO.of (de_bin opd_sub (DO.of (de_bin opd_pow (DO.of (de_int)) (DO.of (de_int)))) (DO.of (de_int)))) (DO.of (de_callIo G__law_scoop (hr.mono (by decide)) (da_cons (do_name (i := 0)) (da_cons (DO.of (de_int)) (da_nil))))))) (da_cons (DO.of (de_bin opd_pow (DO.of (de_int)) (DO.of (de_int)))) (da_nil))))))))
      (dss_one (ds_append (i := 2) (DV.of (de_callIo G__law_choose (hr.mono (by decide)) (da_cons (do_name (i := 0)) (da_cons (do_name (i := 4)) (da_nil)))))))))
      (dss_cons (ds_set (i := 5) nd (de_callTy cd_tuple T.b_tuple PyProof.Rows.boot_tuple (da_cons (do_name (i := 2)) (da_nil))))
      (dss_cons (ds_set (i := 6) nd (de_call G_row_for hr (dvs_of (da_cons (do_name (i := 5)) (da_nil)))))
      (dss_cons (ds_if (DW.dt (dw_or (dt_cmp (opd_ne hr.units) (do_name (i := 6)) (DO.of (de_call G__law_shortest (hr.mono (by decide)) (dvs_of (da_cons (do_name (i := 5)) (da_nil)))))) (dw_or (dt_cmp (opd_ne hr.units) (DO.of (de_callK K_row_for_numbers hr (dks_of (dk_cons (do_name (i := 5)) (dk_nil))))) (do_name (i := 6))) (dw_or1 (dt_cmp (opd_eq hr.units) (DO.of (de_slice sld (do_name (i := 6)) (dp_some (de_neg (DO.of (de_int)))) (dp_none))) (DO.of (de_str)))))))
      (dss_one (ds_ret (de_bl)))
      (dss_nil))
      (dss_one (ds_ret (de_and (de_cmp (opd_eq hr.units) (DO.of (de_call G_numbers_by hr (dvs_of (da_cons (do_name (i := 1)) (da_cons (do_name (i := 6)) (da_nil)))))) (do_name (i := 5))) (de_one (de_cmp (opd_eq hr.units) (DO.of (de_call G_numbers_by hr (dvs_of (da_cons (do_name (i := 1)) (da_cons (DO.of (de_bin opd_add (do_name (i := 6)) (DO.of (de_bin opd_mul (DO.of (de_str)) (DO.of (de_bin opd_sub (DO.of (de_int)) (DO.of (de_callB (cd_len) T.b_len PySem.boot_len (da_cons (do_name (i := 6)) (da_nil)))))))))) (da_nil)))))) (do_name (i := 5)))))))))))
theorem ok__law_numbers_right (T : Txt K mg) (G_row_for : GFn P w K mg base 3 "row_for" 1 F_row_for) (G__law_scoop : GIo P w K mg base 1 "_law_scoop" 2 F__law_scoop) (G__law_choose : GIo P w K mg base 2 "_law_choose" 2 F__law_choose) (G__law_shortest : GFn P w K mg base 1 "_law_shortest" 1 F__law_shortest) (K_row_for_numbers : GKw P w K mg base 3 "row_for" 1 F_row_for ["numbers"] [0]) (G_numbers_by : GFn P w K mg base 3 "numbers_by" 2 F_numbers_by) {f : Addr} {fd : FuncData} (Fn : L2.Fun K "_law_numbers_right" "_law_numbers_right" s__law_numbers_right f fd) : FnOk P w K mg base CX0 4 f fd ["brook"] (spIo K 1 F__law_numbers_right) :=
  fnok_io Fn sc__law_numbers_right rfl (body__law_numbers_right T G_row_for G__law_scoop G__law_choose G__law_shortest K_row_for_numbers G_numbers_by f) (fun es ds c es' _ h => runIo_spec h)
theorem sc__law_right : FnScope N__law_right ["brook"] (defScope s__law_right) := ⟨rfl, rfl, rfl, by decide +kernel, rfl, by decide +kernel, by decide +kernel⟩
theorem body__law_right (T : Txt K mg) (G_row_for : GFn P w K mg base 3 "row_for" 1 F_row_for) (G__law_row_right : GIo P w K mg base 4 "_law_row_right" 1 F__law_row_right) (G__law_numbers_right : GIo P w K mg base 4 "_law_numbers_right" 1 F__law_numbers_right) (f : Addr) : ∀ (cdv : Value) (A : Around) (outer : List Env) (s : Shared) (H : Hp) (E : XK) (B : Bx), B.K = K → Room 4 (A.deeper (envOfC "_law_right" (defScope s__law_right) s.heap.objs.size f cdv)) →
    DSs (cxOf CX0 P w K mg base N__law_right "_law_right" (defScope s__law_right) f cdv A outer s H E).nox B (defBody s__law_right) m__law_right := by
  intro cdv A outer s H E B hK hr
  obtain ⟨K2, H0, io⟩ := B
  obtain rfl : K2 = K := hK
  have nd : (cxOf CX0 P w K2 mg base N__law_right "_law_right" (defScope s__law_right) f cdv A outer s H E).N.Nodup := sc__law_right.nd
  exact dss_cons (ds_for (vs := [1]) PassesOwn.never rfl (di_range1 T.b_range (da_cons (DO.of (de_int)) (da_nil))) (dg_name (i := 1) nd)
      (dss_one (ds_if (DW.dt (dw_or (dt_not (dt_val (de_callIo G__law_row_right hr (da_cons (do_name (i := 0)) (da_nil))))) (dw_or1 (dt_not (dt_val (de_callIo G__law_numbers_right hr (da_cons (do_name (i := 0)) (da_nil))))))))
      (dss_one (ds_ret (de_bl)))
      (dss_nil))))
      (dss_one (ds_ret (de_cmp (opd_eq hr.units) (DO.of (de_lc (own := [("k", 2)]) rfl nd (di_val (DV.of (de_lst (dvs_of (da_cons (DO.of (de_int)) (da_cons (DO.of (de_int)) (da_cons (DO.of (de_int)) (da_nil)))))))) (blkOk_by (N := N__law_right) (sc := (defScope s__law_right)) (own := [("k", 2)]) (by decide +kernel)) (fun _ _ _ _ _ => dg_name (i := 2) nd) (fun _ _ _ _ _ => dts_nil) (fun _ _ _ _ _ => DV.of (de_call G_row_for (hr.mono (by decide)) (dvs_of (da_cons (DO.of (de_bin opd_mul (DO.of (de_tup (dvs_of (da_cons (DO.of (de_int)) (da_nil))))) (do_name (i := 2)))) (da_nil))))))) (DO.of (de_lst (dvs_of (da_cons (DO.of (de_str)) (da_cons (DO.of (de_str)) (da_cons (DO.of (de_str)) (da_nil))))))))))
theorem ok__law_right (T : Txt K mg) (G_row_for : GFn P w K mg base 3 "row_for" 1 F_row_for) (G__law_row_right : GIo P w K mg base 4 "_law_row_right" 1 F__law_row_right) (G__law_numbers_right : GIo P w K mg base 4 "_law_numbers_right" 1 F__law_numbers_right) {f : Addr} {fd : FuncData} (Fn : L2.Fun K "_law_right" "_law_right" s__law_right f fd) : FnOk P w K mg base CX0 5 f fd ["brook"] (spIo K 1 F__law_right) :=
  fnok_io Fn sc__law_right rfl (body__law_right T G_row_for G__law_row_right G__law_numbers_right f) (fun es ds c es' _ h => runIo_spec h)
theorem sc__law_brook : FnScope N__law_brook ["script", "spot"] (defScope s__law_brook) := ⟨rfl, rfl, rfl, by decide +kernel, rfl, by decide +kernel, by decide +kernel⟩
theorem body__law_brook (T : Txt K mg)  (f : Addr) : ∀ (cdv : Value) (A : Around) (outer : List Env) (s : Shared) (H : Hp) (E : XK) (B : Bx), B.K = K → Room 0 (A.deeper (envOfC "_law_brook" (defScope s__law_brook) s.heap.objs.size f cdv)) →
    DSs (cxOf CX0 P w K mg base N__law_brook "_law_brook" (defScope s__law_brook) f cdv A outer s H E).nox B (defBody s__law_brook) m__law_brook := by
  intro cdv A outer s H E B hK hr
  obtain ⟨K2, H0, io⟩ := B
  obtain rfl : K2 = K := hK
  have nd : (cxOf CX0 P w K2 mg base N__law_brook "_law_brook" (defScope s__law_brook) f cdv A outer s H E).N.Nodup := sc__law_brook.nd
  exact dss_cons (ds_set (i := 2) nd (de_if (dt_cmp opd_lt (do_name (i := 1)) (DO.of (de_callB (cd_len) T.b_len PySem.boot_len (da_cons (do_name (i := 0)) (da_nil))))) (de_ix ixd (do_name (i := 0)) (do_name (i := 1))) (de_bin opd_add (DO.of (de_bin opd_mul (DO.of (de_int)) (do_name (i := 1)))) (DO.of (de_int)))))
      (dss_cons (ds_set (i := 3) nd (de_bin opd_add (DO.of (de_int)) (DO.of (de_bin opd_mul (DO.of (de_int)) (do_name (i := 1))))))
      (dss_cons (ds_for (vs := [4]) PassesOwn.never rfl (di_val (DV.of (de_bin opd_add (DO.of (de_slice sld (do_name (i := 0)) (dp_none) (dp_some (de_int)))) (DO.of (de_lst (dvs_of (da_cons (do_name (i := 2)) (da_nil)))))))) (dg_name (i := 4) nd)
      (dss_one (ds_set (i := 3) nd (de_bin opd_mod (DO.of (de_callTy cd_int T.b_int PyProof.Rows.boot_int (da_cons (DO.of (de_bin opd_add (DO.of (de_bin opd_add (DO.of (de_bin opd_mul (do_name (i := 3)) (DO.of (de_int)))) (DO.of (de_bin opd_mod (DO.of (de_callTy cd_int T.b_int PyProof.Rows.boot_int (da_cons (do_name (i := 4)) (da_nil)))) (DO.of (de_int)))))) (DO.of (de_bin opd_mul (DO.of (de_int)) (do_name (i := 1)))))) (da_nil)))) (DO.of (de_int))))))
      (dss_one (ds_ret (de_lst (dvs_of (da_cons (DO.of (de_if (DW.dt (dw_or (dt_cmp opd_lt (do_name (i := 2)) (DO.of (de_int))) (dw_or1 (dt_cmp opd_ge (do_name (i := 2)) (DO.of (de_bin opd_pow (DO.of (de_int)) (DO.of (de_int)))))))) (de_callB (cd_abs) T.b_abs (by decide +kernel) (da_cons (do_name (i := 2)) (da_nil))) (de_int))) (da_cons (do_name (i := 3)) (da_cons (DO.of (de_int)) (da_nil))))))))))
theorem ok__law_brook (T : Txt K mg)  {f : Addr} {fd : FuncData} (Fn : L2.Fun K "_law_brook" "_law_brook" s__law_brook f fd) : FnOk P w K mg base CX0 1 f fd ["script", "spot"] (spF K 2 F__law_brook) :=
  fnok_of Fn sc__law_brook rfl (body__law_brook T  f) (fun ds c _ h => runF_spec h)
theorem sc_law : FnScope N_law ["script"] (defScope s_law) := ⟨rfl, rfl, rfl, by decide +kernel, rfl, by decide +kernel, by decide +kernel⟩
theorem body_law (T : Txt K mg) (G__law_right : GIo P w K mg base 5 "_law_right" 1 F__law_right) (G__law_brook : GFn P w K mg base 1 "_law_brook" 2 F__law_brook) (f : Addr) : ∀ (cdv : Value) (A : Around) (outer : List Env) (s : Shared) (H : Hp) (E : XK) (B : Bx), B.K = K → Room 5 (A.deeper (envOfC "law" (defScope s_law) s.heap.objs.size f cdv)) →
    DSs (cxOf CX0 P w K mg base N_law "law" (defScope s_law) f cdv A outer s H E).nox B (defBody s_law) m_law := by
  intro cdv A outer s H E B hK hr
  obtain ⟨K2, H0, io⟩ := B
  obtain rfl : K2 = K := hK
  have nd : (cxOf CX0 P w K2 mg base N_law "law" (defScope s_law) f cdv A outer s H E).N.Nodup := sc_law.nd
  exact dss_one (ds_ret (de_callB (cd_all rfl) T.b_all PyProof.Rows.boot_all (da_cons (DO.of (de_lc (own := [("spot", 1)]) rfl nd (di_range1 T.b_range (da_cons (DO.of (de_callB (cd_max rfl) T.b_max PyProof.Rows.boot_max (da_cons (DO.of (de_int)) (da_cons (DO.of (de_callB (cd_min rfl) T.b_min PyProof.Rows.boot_min (da_cons (DO.of (de_callB (cd_len) T.b_len PySem.boot_len (da_cons (do_name (i := 0)) (da_nil)))) (da_cons (DO.of (de_int)) (da_nil))))) (da_nil))))) (da_nil))) (blkOk_by (N := N_law) (sc := (defScope s_law)) (own := [("spot", 1)]) (by decide +kernel)) (fun _ _ _ _ _ => dg_name (i := 1) nd) (fun _ _ _ _ _ => dts_nil) (fun _ _ _ _ _ => DV.of (de_callIo G__law_right hr (da_cons (DO.of (de_call G__law_brook (hr.mono (by decide)) (dvs_of (da_cons (do_name (i := 0)) (da_cons (do_name (i := 1)) (da_nil)))))) (da_nil)))))) (da_nil))))
theorem ok_law (T : Txt K mg) (G__law_right : GIo P w K mg base 5 "_law_right" 1 F__law_right) (G__law_brook : GFn P w K mg base 1 "_law_brook" 2 F__law_brook) {f : Addr} {fd : FuncData} (Fn : L2.Fun K "law" "law" s_law f fd) : FnOk P w K mg base CX0 6 f fd ["script"] (spF K 1 F_law) :=
  fnok_of Fn sc_law rfl (body_law T G__law_right G__law_brook f) (fun ds c _ h => runF_spec h)
end
end K62

set_option Elab.async false
set_option linter.all false
set_option maxRecDepth 100000
set_option maxHeartbeats 8000000

/-! the end: what the top has left; printed by gen_k.py -/
namespace K62
open PySem PySem.Spec PyProof.Rows L2 DL

theorem all_mk {l : PySem.W.OpenLaw} {w : World} {K : PySem.W.Frag} {h : Heap} {mg : Str → Option Value} {fa f0 f1 f2 f3 f4 f5 f6 f7 f8 f9 f10 f11 f12 f13 f14 f15 f16 f17 f18 f19 f20 : Addr} (X : K.In h) (G : h.Ns mainGlobals mg) (hfa : mg "law" = some (.ref fa))
    {od0 an0 od1 an1 od2 an2 od3 an3 od4 an4 od5 an5 od6 an6 od7 an7 od8 an8 od9 an9 od10 an10 od11 an11 od12 an12 od13 an13 od14 an14 od15 an15 od16 an16 od17 an17 od18 an18 od19 an19 od20 an20 : Option Addr} {sl0 sl1 sl2 sl3 sl4 sl5 sl6 sl7 sl8 sl9 sl10 sl11 sl12 sl13 sl14 sl15 sl16 sl17 sl18 sl19 sl20 : Array (Option Value)} {oc0 kV0 dc0 pm0 cd0 ct0 oc1 kV1 dc1 pm1 cd1 ct1 oc2 kV2 dc2 pm2 cd2 ct2 oc3 kV3 dc3 pm3 cd3 ct3 oc4 kV4 dc4 pm4 cd4 ct4 oc5 kV5 dc5 pm5 cd5 ct5 oc6 kV6 dc6 pm6 cd6 ct6 oc7 kV7 dc7 pm7 cd7 ct7 oc8 kV8 dc8 pm8 cd8 ct8 oc9 kV9 dc9 pm9 cd9 ct9 oc10 kV10 dc10 pm10 cd10 ct10 oc11 kV11 dc11 pm11 cd11 ct11 oc12 kV12 dc12 pm12 cd12 ct12 oc13 kV13 dc13 pm13 cd13 ct13 oc14 kV14 dc14 pm14 cd14 ct14 oc15 kV15 dc15 pm15 cd15 ct15 oc16 kV16 dc16 pm16 cd16 ct16 oc17 kV17 dc17 pm17 cd17 ct17 oc18 kV18 dc18 pm18 cd18 ct18 oc19 kV19 dc19 pm19 cd19 ct19 oc20 kV20 dc20 pm20 cd20 ct20 : Value} {t_ALPHABET t_GREATEST t_MOST_ROW t_MOST_TRACKS : Tok}
    (a0 : PySem.W.nsIn K mainGlobals "is_number" = some (some (.ref f0))) (l0 : K.lookup f0 = some ⟨oc0, od0, .func (PySem.W.fnOf "is_number" "is_number" (defArgs s_is_number) (defBody s_is_number) (defScope s_is_number) .none kV0 dc0 pm0 an0 cd0 ct0), sl0⟩) (c0 : PySem.W.codeIn K cd0 "is_number" = true) (k0 : PySem.W.keepIn K (.ref f0) = true)
    (a1 : PySem.W.nsIn K mainGlobals "check_numbers" = some (some (.ref f1))) (l1 : K.lookup f1 = some ⟨oc1, od1, .func (PySem.W.fnOf "check_numbers" "check_numbers" (defArgs s_check_numbers) (defBody s_check_numbers) (defScope s_check_numbers) .none kV1 dc1 pm1 an1 cd1 ct1), sl1⟩) (c1 : PySem.W.codeIn K cd1 "check_numbers" = true) (k1 : PySem.W.keepIn K (.ref f1) = true)
    (a2 : PySem.W.nsIn K mainGlobals "number_by" = some (some (.ref f2))) (l2 : K.lookup f2 = some ⟨oc2, od2, .func (PySem.W.fnOf "number_by" "number_by" (defArgs s_number_by) (defBody s_number_by) (defScope s_number_by) .none kV2 dc2 pm2 an2 cd2 ct2), sl2⟩) (c2 : PySem.W.codeIn K cd2 "number_by" = true) (k2 : PySem.W.keepIn K (.ref f2) = true)
    (a3 : PySem.W.nsIn K mainGlobals "shortest_row" = some (some (.ref f3))) (l3 : K.lookup f3 = some ⟨oc3, od3, .func (PySem.W.fnOf "shortest_row" "shortest_row" (defArgs s_shortest_row) (defBody s_shortest_row) (defScope s_shortest_row) .none kV3 dc3 pm3 an3 cd3 ct3), sl3⟩) (c3 : PySem.W.codeIn K cd3 "shortest_row" = true) (k3 : PySem.W.keepIn K (.ref f3) = true)
    (a4 : PySem.W.nsIn K mainGlobals "row_for" = some (some (.ref f4))) (l4 : K.lookup f4 = some ⟨oc4, od4, .func (PySem.W.fnOf "row_for" "row_for" (defArgs s_row_for) (defBody s_row_for) (defScope s_row_for) .none kV4 dc4 pm4 an4 cd4 ct4), sl4⟩) (c4 : PySem.W.codeIn K cd4 "row_for" = true) (k4 : PySem.W.keepIn K (.ref f4) = true)
    (a5 : PySem.W.nsIn K mainGlobals "_law_figures" = some (some (.ref f5))) (l5 : K.lookup f5 = some ⟨oc5, od5, .func (PySem.W.fnOf "_law_figures" "_law_figures" (defArgs s__law_figures) (defBody s__law_figures) (defScope s__law_figures) .none kV5 dc5 pm5 an5 cd5 ct5), sl5⟩) (c5 : PySem.W.codeIn K cd5 "_law_figures" = true) (k5 : PySem.W.keepIn K (.ref f5) = true)
    (a6 : PySem.W.nsIn K mainGlobals "_law_scoop" = some (some (.ref f6))) (l6 : K.lookup f6 = some ⟨oc6, od6, .func (PySem.W.fnOf "_law_scoop" "_law_scoop" (defArgs s__law_scoop) (defBody s__law_scoop) (defScope s__law_scoop) .none kV6 dc6 pm6 an6 cd6 ct6), sl6⟩) (c6 : PySem.W.codeIn K cd6 "_law_scoop" = true) (k6 : PySem.W.keepIn K (.ref f6) = true)
    (a7 : PySem.W.nsIn K mainGlobals "_law_choose" = some (some (.ref f7))) (l7 : K.lookup f7 = some ⟨oc7, od7, .func (PySem.W.fnOf "_law_choose" "_law_choose" (defArgs s__law_choose) (defBody s__law_choose) (defScope s__law_choose) .none kV7 dc7 pm7 an7 cd7 ct7), sl7⟩) (c7 : PySem.W.codeIn K cd7 "_law_choose" = true) (k7 : PySem.W.keepIn K (.ref f7) = true)
    (a8 : PySem.W.nsIn K mainGlobals "check_tracks" = some (some (.ref f8))) (l8 : K.lookup f8 = some ⟨oc8, od8, .func (PySem.W.fnOf "check_tracks" "check_tracks" (defArgs s_check_tracks) (defBody s_check_tracks) (defScope s_check_tracks) .none kV8 dc8 pm8 an8 cd8 ct8), sl8⟩) (c8 : PySem.W.codeIn K cd8 "check_tracks" = true) (k8 : PySem.W.keepIn K (.ref f8) = true)
    (a9 : PySem.W.nsIn K mainGlobals "figures_of" = some (some (.ref f9))) (l9 : K.lookup f9 = some ⟨oc9, od9, .func (PySem.W.fnOf "figures_of" "figures_of" (defArgs s_figures_of) (defBody s_figures_of) (defScope s_figures_of) .none kV9 dc9 pm9 an9 cd9 ct9), sl9⟩) (c9 : PySem.W.codeIn K cd9 "figures_of" = true) (k9 : PySem.W.keepIn K (.ref f9) = true)
    (a10 : PySem.W.nsIn K mainGlobals "figures_by" = some (some (.ref f10))) (l10 : K.lookup f10 = some ⟨oc10, od10, .func (PySem.W.fnOf "figures_by" "figures_by" (defArgs s_figures_by) (defBody s_figures_by) (defScope s_figures_by) .none kV10 dc10 pm10 an10 cd10 ct10), sl10⟩) (c10 : PySem.W.codeIn K cd10 "figures_by" = true) (k10 : PySem.W.keepIn K (.ref f10) = true)
    (a11 : PySem.W.nsIn K mainGlobals "numbers_of" = some (some (.ref f11))) (l11 : K.lookup f11 = some ⟨oc11, od11, .func (PySem.W.fnOf "numbers_of" "numbers_of" (defArgs s_numbers_of) (defBody s_numbers_of) (defScope s_numbers_of) .none kV11 dc11 pm11 an11 cd11 ct11), sl11⟩) (c11 : PySem.W.codeIn K cd11 "numbers_of" = true) (k11 : PySem.W.keepIn K (.ref f11) = true)
    (a12 : PySem.W.nsIn K mainGlobals "is_row" = some (some (.ref f12))) (l12 : K.lookup f12 = some ⟨oc12, od12, .func (PySem.W.fnOf "is_row" "is_row" (defArgs s_is_row) (defBody s_is_row) (defScope s_is_row) .none kV12 dc12 pm12 an12 cd12 ct12), sl12⟩) (c12 : PySem.W.codeIn K cd12 "is_row" = true) (k12 : PySem.W.keepIn K (.ref f12) = true)
    (a13 : PySem.W.nsIn K mainGlobals "power_of" = some (some (.ref f13))) (l13 : K.lookup f13 = some ⟨oc13, od13, .func (PySem.W.fnOf "power_of" "power_of" (defArgs s_power_of) (defBody s_power_of) (defScope s_power_of) .none kV13 dc13 pm13 an13 cd13 ct13), sl13⟩) (c13 : PySem.W.codeIn K cd13 "power_of" = true) (k13 : PySem.W.keepIn K (.ref f13) = true)
    (a14 : PySem.W.nsIn K mainGlobals "numbers_by" = some (some (.ref f14))) (l14 : K.lookup f14 = some ⟨oc14, od14, .func (PySem.W.fnOf "numbers_by" "numbers_by" (defArgs s_numbers_by) (defBody s_numbers_by) (defScope s_numbers_by) .none kV14 dc14 pm14 an14 cd14 ct14), sl14⟩) (c14 : PySem.W.codeIn K cd14 "numbers_by" = true) (k14 : PySem.W.keepIn K (.ref f14) = true)
    (a15 : PySem.W.nsIn K mainGlobals "_law_row_right" = some (some (.ref f15))) (l15 : K.lookup f15 = some ⟨oc15, od15, .func (PySem.W.fnOf "_law_row_right" "_law_row_right" (defArgs s__law_row_right) (defBody s__law_row_right) (defScope s__law_row_right) .none kV15 dc15 pm15 an15 cd15 ct15), sl15⟩) (c15 : PySem.W.codeIn K cd15 "_law_row_right" = true) (k15 : PySem.W.keepIn K (.ref f15) = true)
    (a16 : PySem.W.nsIn K mainGlobals "_law_shortest" = some (some (.ref f16))) (l16 : K.lookup f16 = some ⟨oc16, od16, .func (PySem.W.fnOf "_law_shortest" "_law_shortest" (defArgs s__law_shortest) (defBody s__law_shortest) (defScope s__law_shortest) .none kV16 dc16 pm16 an16 cd16 ct16), sl16⟩) (c16 : PySem.W.codeIn K cd16 "_law_shortest" = true) (k16 : PySem.W.keepIn K (.ref f16) = true)
    (a17 : PySem.W.nsIn K mainGlobals "_law_numbers_right" = some (some (.ref f17))) (l17 : K.lookup f17 = some ⟨oc17, od17, .func (PySem.W.fnOf "_law_numbers_right" "_law_numbers_right" (defArgs s__law_numbers_right) (defBody s__law_numbers_right) (defScope s__law_numbers_right) .none kV17 dc17 pm17 an17 cd17 ct17), sl17⟩) (c17 : PySem.W.codeIn K cd17 "_law_numbers_right" = true) (k17 : PySem.W.keepIn K (.ref f17) = true)
    (a18 : PySem.W.nsIn K mainGlobals "_law_right" = some (some (.ref f18))) (l18 : K.lookup f18 = some ⟨oc18, od18, .func (PySem.W.fnOf "_law_right" "_law_right" (defArgs s__law_right) (defBody s__law_right) (defScope s__law_right) .none kV18 dc18 pm18 an18 cd18 ct18), sl18⟩) (c18 : PySem.W.codeIn K cd18 "_law_right" = true) (k18 : PySem.W.keepIn K (.ref f18) = true)
    (a19 : PySem.W.nsIn K mainGlobals "_law_brook" = some (some (.ref f19))) (l19 : K.lookup f19 = some ⟨oc19, od19, .func (PySem.W.fnOf "_law_brook" "_law_brook" (defArgs s__law_brook) (defBody s__law_brook) (defScope s__law_brook) .none kV19 dc19 pm19 an19 cd19 ct19), sl19⟩) (c19 : PySem.W.codeIn K cd19 "_law_brook" = true) (k19 : PySem.W.keepIn K (.ref f19) = true)
    (a20 : PySem.W.nsIn K mainGlobals "law" = some (some (.ref f20))) (l20 : K.lookup f20 = some ⟨oc20, od20, .func (PySem.W.fnOf "law" "law" (defArgs s_law) (defBody s_law) (defScope s_law) .none kV20 dc20 pm20 an20 cd20 ct20), sl20⟩) (c20 : PySem.W.codeIn K cd20 "law" = true) (k20 : PySem.W.keepIn K (.ref f20) = true)
    (zb_abs : PySem.W.nsIn K mainGlobals "abs" = some none)
    (zb_all : PySem.W.nsIn K mainGlobals "all" = some none)
    (zb_any : PySem.W.nsIn K mainGlobals "any" = some none)
    (zb_bool : PySem.W.nsIn K mainGlobals "bool" = some none)
    (zb_divmod : PySem.W.nsIn K mainGlobals "divmod" = some none)
    (zb_int : PySem.W.nsIn K mainGlobals "int" = some none)
    (zb_isinstance : PySem.W.nsIn K mainGlobals "isinstance" = some none)
    (zb_len : PySem.W.nsIn K mainGlobals "len" = some none)
    (zb_list : PySem.W.nsIn K mainGlobals "list" = some none)
    (zb_max : PySem.W.nsIn K mainGlobals "max" = some none)
    (zb_min : PySem.W.nsIn K mainGlobals "min" = some none)
    (zb_range : PySem.W.nsIn K mainGlobals "range" = some none)
    (zb_str : PySem.W.nsIn K mainGlobals "str" = some none)
    (zb_sum : PySem.W.nsIn K mainGlobals "sum" = some none)
    (zb_tuple : PySem.W.nsIn K mainGlobals "tuple" = some none)
    (zc_ALPHABET : PySem.W.nsIn K mainGlobals "ALPHABET" = some (some (.str "abcdefgh" t_ALPHABET)))
    (zc_GREATEST : PySem.W.nsIn K mainGlobals "GREATEST" = some (some (.int 9999999999999999999999999999999999999999 t_GREATEST)))
    (zc_MOST_ROW : PySem.W.nsIn K mainGlobals "MOST_ROW" = some (some (.int 200 t_MOST_ROW)))
    (zc_MOST_TRACKS : PySem.W.nsIn K mainGlobals "MOST_TRACKS" = some (some (.int 3 t_MOST_TRACKS))) :
    ∃ fd : FuncData, (∀ (s : Shared) (v : Value), BindsTo s fd ⟨[v], []⟩ [("script", v)]) ∧ ∀ base : Heap, K.In base → base.Ns mainGlobals mg → FnOk l.prog w K mg base CX0 6 fa fd ["script"] (spF K 1 F_law) := by
  have e := hfa.symm.trans (PySem.W.mg_of X G a20)
  cases e
  have T : Txt K mg := ⟨PySem.W.mg_none_of X G zb_abs, PySem.W.mg_none_of X G zb_all, PySem.W.mg_none_of X G zb_any, PySem.W.mg_none_of X G zb_bool, PySem.W.mg_none_of X G zb_divmod, PySem.W.mg_none_of X G zb_int, PySem.W.mg_none_of X G zb_isinstance, PySem.W.mg_none_of X G zb_len, PySem.W.mg_none_of X G zb_list, PySem.W.mg_none_of X G zb_max, PySem.W.mg_none_of X G zb_min, PySem.W.mg_none_of X G zb_range, PySem.W.mg_none_of X G zb_str, PySem.W.mg_none_of X G zb_sum, PySem.W.mg_none_of X G zb_tuple, ⟨_, PySem.W.mg_of X G zc_ALPHABET⟩, ⟨_, PySem.W.mg_of X G zc_GREATEST⟩, ⟨_, PySem.W.mg_of X G zc_MOST_ROW⟩, ⟨_, PySem.W.mg_of X G zc_MOST_TRACKS⟩⟩
  have F0 := L2.fun_mk (st := s_is_number) l0 c0 k0
  have F1 := L2.fun_mk (st := s_check_numbers) l1 c1 k1
  have F2 := L2.fun_mk (st := s_number_by) l2 c2 k2
  have F3 := L2.fun_mk (st := s_shortest_row) l3 c3 k3
  have F4 := L2.fun_mk (st := s_row_for) l4 c4 k4
  have F5 := L2.fun_mk (st := s__law_figures) l5 c5 k5
  have F6 := L2.fun_mk (st := s__law_scoop) l6 c6 k6
  have F7 := L2.fun_mk (st := s__law_choose) l7 c7 k7
  have F8 := L2.fun_mk (st := s_check_tracks) l8 c8 k8
  have F9 := L2.fun_mk (st := s_figures_of) l9 c9 k9
  have F10 := L2.fun_mk (st := s_figures_by) l10 c10 k10
  have F11 := L2.fun_mk (st := s_numbers_of) l11 c11 k11
  have F12 := L2.fun_mk (st := s_is_row) l12 c12 k12
  have F13 := L2.fun_mk (st := s_power_of) l13 c13 k13
  have F14 := L2.fun_mk (st := s_numbers_by) l14 c14 k14
  have F15 := L2.fun_mk (st := s__law_row_right) l15 c15 k15
  have F16 := L2.fun_mk (st := s__law_shortest) l16 c16 k16
  have F17 := L2.fun_mk (st := s__law_numbers_right) l17 c17 k17
  have F18 := L2.fun_mk (st := s__law_right) l18 c18 k18
  have F19 := L2.fun_mk (st := s__law_brook) l19 c19 k19
  have F20 := L2.fun_mk (st := s_law) l20 c20 k20
  refine ⟨_, Fun_all F20 fun _ _ _ _ _ _ _ => rfl, fun base _ _ => ?_⟩
  have O0 := ok_is_number (P := l.prog) (w := w) (base := base) T  F0
  have G_is_number : GFn l.prog w K mg base 1 "is_number" 3 F_is_number := ⟨_, _, _, O0, PySem.W.mg_of X G a0, k0, F0.binds fun _ _ _ _ _ _ us hl => match us, hl with | [_, _, _], _ => rfl⟩
  have O1 := ok_check_numbers (P := l.prog) (w := w) (base := base) T G_is_number F1
  have G_check_numbers : GFn l.prog w K mg base 2 "check_numbers" 2 F_check_numbers := ⟨_, _, _, O1, PySem.W.mg_of X G a1, k1, F1.binds fun _ _ _ _ _ _ us hl => match us, hl with | [_, _], _ => rfl⟩
  have O2 := ok_number_by (P := l.prog) (w := w) (base := base) T  F2
  have G_number_by : GFn l.prog w K mg base 1 "number_by" 1 F_number_by := ⟨_, _, _, O2, PySem.W.mg_of X G a2, k2, F2.binds fun _ _ _ _ _ _ us hl => match us, hl with | [_], _ => rfl⟩
  have O3 := ok_shortest_row (P := l.prog) (w := w) (base := base) T G_number_by F3
  have G_shortest_row : GFn l.prog w K mg base 2 "shortest_row" 1 F_shortest_row := ⟨_, _, _, O3, PySem.W.mg_of X G a3, k3, F3.binds fun _ _ _ _ _ _ us hl => match us, hl with | [_], _ => rfl⟩
  have O4 := ok_row_for (P := l.prog) (w := w) (base := base) T G_check_numbers G_shortest_row F4
  have G_row_for : GFn l.prog w K mg base 3 "row_for" 1 F_row_for := ⟨_, _, _, O4, PySem.W.mg_of X G a4, k4, F4.binds fun _ _ _ _ _ _ us hl => match us, hl with | [_], _ => rfl⟩
  have K_row_for_numbers : GKw l.prog w K mg base 3 "row_for" 1 F_row_for ["numbers"] [0] := ⟨_, _, _, O4, PySem.W.mg_of X G a4, k4, Fun_kw F4 fun _ _ _ _ _ _ ws hl => match ws, hl with | [_], _ => rfl⟩
  have O5 := ok__law_figures (P := l.prog) (w := w) (base := base) T  F5
  have G__law_figures : GFn l.prog w K mg base 1 "_law_figures" 2 F__law_figures := ⟨_, _, _, O5, PySem.W.mg_of X G a5, k5, F5.binds fun _ _ _ _ _ _ us hl => match us, hl with | [_, _], _ => rfl⟩
  have O6 := ok__law_scoop (P := l.prog) (w := w) (base := base) T  F6
  have G__law_scoop : GIo l.prog w K mg base 1 "_law_scoop" 2 F__law_scoop := ⟨_, _, _, O6, PySem.W.mg_of X G a6, k6, F6.binds fun _ _ _ _ _ _ us hl => match us, hl with | [_, _], _ => rfl⟩
  have O7 := ok__law_choose (P := l.prog) (w := w) (base := base) T G__law_scoop F7
  have G__law_choose : GIo l.prog w K mg base 2 "_law_choose" 2 F__law_choose := ⟨_, _, _, O7, PySem.W.mg_of X G a7, k7, F7.binds fun _ _ _ _ _ _ us hl => match us, hl with | [_, _], _ => rfl⟩
  have O8 := ok_check_tracks (P := l.prog) (w := w) (base := base) T G_is_number F8
  have G_check_tracks : GFn l.prog w K mg base 2 "check_tracks" 1 F_check_tracks := ⟨_, _, _, O8, PySem.W.mg_of X G a8, k8, F8.binds fun _ _ _ _ _ _ us hl => match us, hl with | [_], _ => rfl⟩
  have O9 := ok_figures_of (P := l.prog) (w := w) (base := base) T  F9
  have G_figures_of : GFn l.prog w K mg base 1 "figures_of" 2 F_figures_of := ⟨_, _, _, O9, PySem.W.mg_of X G a9, k9, F9.binds fun _ _ _ _ _ _ us hl => match us, hl with | [_, _], _ => rfl⟩
  have O10 := ok_figures_by (P := l.prog) (w := w) (base := base) T  F10
  have G_figures_by : GFn l.prog w K mg base 1 "figures_by" 1 F_figures_by := ⟨_, _, _, O10, PySem.W.mg_of X G a10, k10, F10.binds fun _ _ _ _ _ _ us hl => match us, hl with | [_], _ => rfl⟩
  have O11 := ok_numbers_of (P := l.prog) (w := w) (base := base) T G_figures_of G_figures_by G_number_by F11
  have G_numbers_of : GFn l.prog w K mg base 2 "numbers_of" 2 F_numbers_of := ⟨_, _, _, O11, PySem.W.mg_of X G a11, k11, F11.binds fun _ _ _ _ _ _ us hl => match us, hl with | [_, _], _ => rfl⟩
  have O12 := ok_is_row (P := l.prog) (w := w) (base := base) T  F12
  have G_is_row : GFn l.prog w K mg base 1 "is_row" 3 F_is_row := ⟨_, _, _, O12, PySem.W.mg_of X G a12, k12, F12.binds fun _ _ _ _ _ _ us hl => match us, hl with | [_, _, _], _ => rfl⟩
  have O13 := ok_power_of (P := l.prog) (w := w) (base := base) T  F13
  have G_power_of : GFn l.prog w K mg base 1 "power_of" 1 F_power_of := ⟨_, _, _, O13, PySem.W.mg_of X G a13, k13, F13.binds fun _ _ _ _ _ _ us hl => match us, hl with | [_], _ => rfl⟩
  have O14 := ok_numbers_by (P := l.prog) (w := w) (base := base) T G_check_tracks G_numbers_of G_is_row G_power_of F14
  have G_numbers_by : GFn l.prog w K mg base 3 "numbers_by" 2 F_numbers_by := ⟨_, _, _, O14, PySem.W.mg_of X G a14, k14, F14.binds fun _ _ _ _ _ _ us hl => match us, hl with | [_, _], _ => rfl⟩
  have K_numbers_by_row_tracks : GKw l.prog w K mg base 3 "numbers_by" 2 F_numbers_by ["row", "tracks"] [1, 0] := ⟨_, _, _, O14, PySem.W.mg_of X G a14, k14, Fun_kw F14 fun _ _ _ _ _ _ ws hl => match ws, hl with | [_, _], _ => rfl⟩
  have O15 := ok__law_row_right (P := l.prog) (w := w) (base := base) T G__law_figures G__law_scoop G__law_choose G_numbers_by K_numbers_by_row_tracks G_row_for F15
  have G__law_row_right : GIo l.prog w K mg base 4 "_law_row_right" 1 F__law_row_right := ⟨_, _, _, O15, PySem.W.mg_of X G a15, k15, F15.binds fun _ _ _ _ _ _ us hl => match us, hl with | [_], _ => rfl⟩
  have O16 := ok__law_shortest (P := l.prog) (w := w) (base := base) T  F16
  have G__law_shortest : GFn l.prog w K mg base 1 "_law_shortest" 1 F__law_shortest := ⟨_, _, _, O16, PySem.W.mg_of X G a16, k16, F16.binds fun _ _ _ _ _ _ us hl => match us, hl with | [_], _ => rfl⟩
  have O17 := ok__law_numbers_right (P := l.prog) (w := w) (base := base) T G_row_for G__law_scoop G__law_choose G__law_shortest K_row_for_numbers G_numbers_by F17
  have G__law_numbers_right : GIo l.prog w K mg base 4 "_law_numbers_right" 1 F__law_numbers_right := ⟨_, _, _, O17, PySem.W.mg_of X G a17, k17, F17.binds fun _ _ _ _ _ _ us hl => match us, hl with | [_], _ => rfl⟩
  have O18 := ok__law_right (P := l.prog) (w := w) (base := base) T G_row_for G__law_row_right G__law_numbers_right F18
  have G__law_right : GIo l.prog w K mg base 5 "_law_right" 1 F__law_right := ⟨_, _, _, O18, PySem.W.mg_of X G a18, k18, F18.binds fun _ _ _ _ _ _ us hl => match us, hl with | [_], _ => rfl⟩
  have O19 := ok__law_brook (P := l.prog) (w := w) (base := base) T  F19
  have G__law_brook : GFn l.prog w K mg base 1 "_law_brook" 2 F__law_brook := ⟨_, _, _, O19, PySem.W.mg_of X G a19, k19, F19.binds fun _ _ _ _ _ _ us hl => match us, hl with | [_, _], _ => rfl⟩
  have O20 := ok_law (P := l.prog) (w := w) (base := base) T G__law_right G__law_brook F20
  exact O20
end K62
open PySem PySem.W PyProof.Rows
set_option maxRecDepth 100000 in
set_option maxHeartbeats 0 in
theorem K62.holds_all : PySem.Challenge.rw_standreaders_k62_numbers_and_their_rows.Holds := by
  w_on; o_law; k_head; (case hw => w_witness2)
  k_fill
  refine DL.walk_D (n := 63) (k := 6) (x := "script") (F := K62.F_law) (l := PySem.Challenge.rw_standreaders_k62_numbers_and_their_rows) rfl (by decide) rfl ⟨rfl, by decide, by decide⟩ (fun w h Y => PySem.W.kIn_of Y) K62.law_true ?F
  case F =>
    intro w mg fa h KX G hmg
    refine' K62.all_mk KX G hmg ?a0 ?l0 ?c0 ?k0 ?a1 ?l1 ?c1 ?k1 ?a2 ?l2 ?c2 ?k2 ?a3 ?l3 ?c3 ?k3 ?a4 ?l4 ?c4 ?k4 ?a5 ?l5 ?c5 ?k5 ?a6 ?l6 ?c6 ?k6 ?a7 ?l7 ?c7 ?k7 ?a8 ?l8 ?c8 ?k8 ?a9 ?l9 ?c9 ?k9 ?a10 ?l10 ?c10 ?k10 ?a11 ?l11 ?c11 ?k11 ?a12 ?l12 ?c12 ?k12 ?a13 ?l13 ?c13 ?k13 ?a14 ?l14 ?c14 ?k14 ?a15 ?l15 ?c15 ?k15 ?a16 ?l16 ?c16 ?k16 ?a17 ?l17 ?c17 ?k17 ?a18 ?l18 ?c18 ?k18 ?a19 ?l19 ?c19 ?k19 ?a20 ?l20 ?c20 ?k20 ?zb_abs ?zb_all ?zb_any ?zb_bool ?zb_divmod ?zb_int ?zb_isinstance ?zb_len ?zb_list ?zb_max ?zb_min ?zb_range ?zb_str ?zb_sum ?zb_tuple ?zc_ALPHABET ?zc_GREATEST ?zc_MOST_ROW ?zc_MOST_TRACKS
    (case a0 => k_is)
    (case l0 => k_is)
    (case c0 => k_is)
    (case k0 => k_is)
    (case a1 => k_is)
    (case l1 => k_is)
    (case c1 => k_is)
    (case k1 => k_is)
    (case a2 => k_is)
    (case l2 => k_is)
    (case c2 => k_is)
    (case k2 => k_is)
    (case a3 => k_is)
    (case l3 => k_is)
    (case c3 => k_is)
    (case k3 => k_is)
    (case a4 => k_is)
    (case l4 => k_is)
    (case c4 => k_is)
    (case k4 => k_is)
    (case a5 => k_is)
    (case l5 => k_is)
    (case c5 => k_is)
    (case k5 => k_is)
    (case a6 => k_is)
    (case l6 => k_is)
    (case c6 => k_is)
    (case k6 => k_is)
    (case a7 => k_is)
    (case l7 => k_is)
    (case c7 => k_is)
    (case k7 => k_is)
    (case a8 => k_is)
    (case l8 => k_is)
    (case c8 => k_is)
    (case k8 => k_is)
    (case a9 => k_is)
    (case l9 => k_is)
    (case c9 => k_is)
    (case k9 => k_is)
    (case a10 => k_is)
    (case l10 => k_is)
    (case c10 => k_is)
    (case k10 => k_is)
    (case a11 => k_is)
    (case l11 => k_is)
    (case c11 => k_is)
    (case k11 => k_is)
    (case a12 => k_is)
    (case l12 => k_is)
    (case c12 => k_is)
    (case k12 => k_is)
    (case a13 => k_is)
    (case l13 => k_is)
    (case c13 => k_is)
    (case k13 => k_is)
    (case a14 => k_is)
    (case l14 => k_is)
    (case c14 => k_is)
    (case k14 => k_is)
    (case a15 => k_is)
    (case l15 => k_is)
    (case c15 => k_is)
    (case k15 => k_is)
    (case a16 => k_is)
    (case l16 => k_is)
    (case c16 => k_is)
    (case k16 => k_is)
    (case a17 => k_is)
    (case l17 => k_is)
    (case c17 => k_is)
    (case k17 => k_is)
    (case a18 => k_is)
    (case l18 => k_is)
    (case c18 => k_is)
    (case k18 => k_is)
    (case a19 => k_is)
    (case l19 => k_is)
    (case c19 => k_is)
    (case k19 => k_is)
    (case a20 => k_is)
    (case l20 => k_is)
    (case c20 => k_is)
    (case k20 => k_is)
    (case zb_abs => k_is)
    (case zb_all => k_is)
    (case zb_any => k_is)
    (case zb_bool => k_is)
    (case zb_divmod => k_is)
    (case zb_int => k_is)
    (case zb_isinstance => k_is)
    (case zb_len => k_is)
    (case zb_list => k_is)
    (case zb_max => k_is)
    (case zb_min => k_is)
    (case zb_range => k_is)
    (case zb_str => k_is)
    (case zb_sum => k_is)
    (case zb_tuple => k_is)
    (case zc_ALPHABET => k_is)
    (case zc_GREATEST => k_is)
    (case zc_MOST_ROW => k_is)
    (case zc_MOST_TRACKS => k_is)

theorem PySem.Challenge.cw_standreaders_k62_numbers_and_their_rows_holds : PySem.Challenge.rw_standreaders_k62_numbers_and_their_rows.Holds := by
  exact K62.holds_all
