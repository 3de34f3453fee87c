import PyProof.Rows.All
import Wide.All
import OpenK.AllK
import Wide.FinOn
import HandS.Base
import HandS.Call
import HandS.List
import HandS.Comp
import HandS.Ends
import HandS.Dict
import HandS.Iter
import HandS.Text
import HandS.More
import HandS.Exc
import HandS.TryOnly
import HandS.Words
import HandS.WordsList
import HandS.WordsExc
import HandS.Defaults
import HandS.IsInst
import HandS.ExcInit
import HandS.HeadHook1
import HandS.HeadHook2
import HandS.ExcOwn
import HandS.ExcCtx
import HandS.HotCalls
import HandS.ExcInitHot
import HandS.ExcIs
import HandS.ExcField
import HandS.ClsMeth
import KE.KExcIs
import HandS.Head0
import HandS.Head1
import HandS.Head2
import HandS.HeadEnd
import PySem.Challenge.RW_spoolhall_k66_no_way
import Lean
set_option Elab.async false
set_option linter.all false
set_option maxRecDepth 100000
set_option maxHeartbeats 1000000
/-! Wk: a typed layer over the hand layer: what is told of a def is a function on plain data. -/
namespace Wk
open PySem PySem.Spec PyProof.Rows L2

/-! ### results -/
/-- the refusals of the program's hall -/
inductive Exn where
  | badLine (i : Int) | unknown (x : Str) | twice (x : Str) | notNow (x : Str) | tooMuch (x : Str) | dry (x : Str) | over (x : Str) | nowhere (x : Str) | busy (x : Str)
  | noHeap (i : Int) | noPrinter (x : Str) (l : List (Str × List Str)) | goesRound (l : List Str) | noWay (i : Int)
/-- done with a value | refused | not covered -/
inductive Rs (α : Type) where
  | ok (a : α) | er (x : Exn) | no
def Rs.bind {α β : Type} : Rs α → (α → Rs β) → Rs β
  | .ok a, k => k a
  | .er x, _ => .er x
  | .no, _ => .no
instance : Monad Rs where
  pure := .ok
  bind := Rs.bind
@[simp] theorem bind_ok {α β : Type} (a : α) (k : α → Rs β) : (Rs.ok a).bind k = k a := rfl
@[simp] theorem bind_er {α β : Type} (x : Exn) (k : α → Rs β) : (Rs.er x : Rs α).bind k = .er x := rfl
@[simp] theorem bind_no {α β : Type} (k : α → Rs β) : (Rs.no : Rs α).bind k = .no := rfl
def Rs.guard {α : Type} (c : Prop) [Decidable c] (a : α) : Rs α := if c then .ok a else .no
def Rs.ofOption {α : Type} : Option α → Rs α
  | some a => .ok a
  | none => .no

/-! ### worlds: H is the heap, G the part of it that stays as it is -/
structure Wd where
  G : Hp
  H : Hp
  ex : Same G H
structure Le (W W' : Wd) : Prop where
  g : Same W.G W'.G
  h : Same W.H W'.H
  n : ∀ a o, W.H a = some o → W.G a = none → W'.G a = none
theorem Le.refl (W : Wd) : Le W W := ⟨Same.refl _, Same.refl _, fun _ _ _ h => h⟩
theorem Le.trans {A B C : Wd} (a : Le A B) (b : Le B C) : Le A C := ⟨a.g.trans b.g, a.h.trans b.h, fun x o h1 h2 => b.n x o (a.h x o h1) (a.n x o h1 h2)⟩
theorem same_new {H : Hp} {p : Addr} {o : HO} (h : H p = none) : Same H (upd H p o) := fun a u e => by
  rw [upd_ne (ne_of_none e h)]
  exact e
/-- a new object, of the part that stays -/
def Wd.new (W : Wd) (p : Addr) (o : HO) : Wd := ⟨upd W.G p o, upd W.H p o, fun a u e => by
  by_cases hp : a = p
  · subst hp
    rw [upd_same] at e ⊢
    exact e
  · rw [upd_ne hp] at e ⊢
    exact W.ex a u e⟩
theorem Wd.gn {W : Wd} {p : Addr} (h : W.H p = none) : W.G p = none := W.ex.free h
theorem Wd.le_new {W : Wd} {p : Addr} {o : HO} (h : W.H p = none) : Le W (W.new p o) := ⟨same_new (W.gn h), same_new h, fun a u h1 h2 => by
  show upd W.G p o a = none
  rw [upd_ne (ne_of_none h1 h)]
  exact h2⟩
/-- a new object that may change -/
def Wd.own (W : Wd) (p : Addr) (o : HO) (h : W.H p = none) : Wd := ⟨W.G, upd W.H p o, fun a u e => by
  rw [upd_ne (ne_of_none (W.ex a u e) h)]
  exact W.ex a u e⟩
theorem Wd.le_own {W : Wd} {p : Addr} {o : HO} (h : W.H p = none) : Le W (W.own p o h) := ⟨Same.refl _, same_new h, fun _ _ _ h2 => h2⟩

/-- at p, of the frame's own since W0, an object that may change -/
structure Own (W0 W : Wd) (p : Addr) (o : HO) : Prop where
  z : W0.H p = none
  g : W.G p = none
  h : W.H p = some o
theorem Own.mono {W0 W W' : Wd} {p : Addr} {o : HO} (a : Own W0 W p o) (l : Le W W') : Own W0 W' p o := ⟨a.z, l.n p o a.h a.g, l.h p o a.h⟩
/-- it is changed -/
def Wd.put (W : Wd) (p : Addr) (o : HO) (h : W.G p = none) : Wd := ⟨W.G, upd W.H p o, fun a u e => by
  rw [upd_ne (ne_of_none e h)]
  exact W.ex a u e⟩
theorem Own.le {W0 W : Wd} {p : Addr} {o o' : HO} (a : Own W0 W p o) (l : Le W0 W) : Le W0 (W.put p o' a.g) := ⟨l.g, fun b u e => by
  show upd W.H p o' b = some u
  rw [upd_ne (ne_of_none e a.z)]
  exact l.h b u e, l.n⟩
theorem Own.put {W0 W : Wd} {p : Addr} {o o' : HO} (a : Own W0 W p o) : Own W0 (W.put p o' a.g) p o' := ⟨a.z, a.g, upd_same⟩
theorem Own.other {W0 W : Wd} {p q : Addr} {o o' u : HO} (a : Own W0 W p o) (b : Own W0 W q u) (n : q ≠ p) : Own W0 (W.put p o' a.g) q u := ⟨b.z, b.g, by
  show upd W.H p o' q = some u
  rw [upd_ne n]
  exact b.h⟩
/-- from now on it stays -/
def Wd.frz (W : Wd) (p : Addr) (o : HO) (h : W.H p = some o) : Wd := ⟨upd W.G p o, W.H, fun a u e => by
  by_cases hp : a = p
  · subst hp
    rw [upd_same] at e
    rw [h]
    exact e
  · rw [upd_ne hp] at e
    exact W.ex a u e⟩
theorem Own.le_frz {W0 W : Wd} {p : Addr} {o : HO} (a : Own W0 W p o) (l : Le W0 W) : Le W0 (W.frz p o a.h) := ⟨fun b u e => by
  have q := l.g b u e
  show upd W.G p o b = some u
  rw [upd_ne (ne_of_none q a.g)]
  exact q, l.h, fun b u h1 h2 => by
  show upd W.G p o b = none
  rw [upd_ne (ne_of_none h1 a.z)]
  exact l.n b u h1 h2⟩
theorem Own.same_frz {W0 W : Wd} {p : Addr} {o : HO} (a : Own W0 W p o) : Same W.G (W.frz p o a.h).G := same_new a.g
theorem Own.other_frz {W0 W : Wd} {p q : Addr} {o u : HO} (a : Own W0 W p o) (b : Own W0 W q u) (n : q ≠ p) : Own W0 (W.frz p o a.h) q u := ⟨b.z, by
  show upd W.G p o q = none
  rw [upd_ne n]
  exact b.g, b.h⟩

/-! ### data in the part that stays -/
class Rep (α : Type) where
  is : PySem.W.Frag → Hp → V → α → Prop
  mono : ∀ {K : PySem.W.Frag} {H H' : Hp} {v : V} {d : α}, Same H H' → is K H v d → is K H' v d
abbrev Is {α : Type} [Rep α] (K : PySem.W.Frag) (H : Hp) (v : V) (d : α) : Prop := Rep.is K H v d
theorem Same.tup {K : PySem.W.Frag} {H H' : Hp} {a : Addr} {xs : List V} (e : Same H H') (h : SqT K H a xs) : SqT K H' a xs := by
  rcases h with (h | ⟨o, h⟩) | h
  · exact .inl (.inl (e _ _ h))
  · exact .inl (.inr ⟨o, e _ _ h⟩)
  · exact .inr h
theorem paired_imp {α β : Type} {F G : α → β → Prop} (f : ∀ a b, F a b → G a b) : ∀ {l : List α} {m : List β}, Paired F l m → Paired G l m
  | _, _, .nil => .nil
  | _, _, .cons h t => .cons (f _ _ h) (paired_imp f t)
theorem paired_get {α β : Type} {F : α → β → Prop} : ∀ {l : List α} {m : List β} {i : Nat} {b : β}, Paired F l m → m[i]? = some b → ∃ a, l[i]? = some a ∧ F a b
  | _, _, i, b, .nil, h => by simp at h
  | _, _, 0, b, .cons h t, e => by
    simp at e
    subst e
    exact ⟨_, rfl, h⟩
  | _, _, i + 1, b, .cons h t, e => by
    simp at e
    obtain ⟨a, h1, h2⟩ := paired_get t e
    exact ⟨a, by simpa using h1, h2⟩
theorem paired_app {α β : Type} {F : α → β → Prop} : ∀ {l l' : List α} {m m' : List β}, Paired F l m → Paired F l' m' → Paired F (l ++ l') (m ++ m')
  | _, _, _, _, .nil, h => h
  | _, _, _, _, .cons h t, h' => .cons h (paired_app t h')
theorem paired_len {α β : Type} {F : α → β → Prop} {l : List α} {m : List β} (h : Paired F l m) : l.length = m.length := Paired.length h
theorem paired_take {α β : Type} {F : α → β → Prop} : ∀ {l : List α} {m : List β} (n : Nat), Paired F l m → Paired F (l.take n) (m.take n)
  | _, _, 0, _ => .nil
  | _, _, _ + 1, .nil => .nil
  | _, _, n + 1, .cons h t => .cons h (paired_take n t)
theorem paired_drop {α β : Type} {F : α → β → Prop} : ∀ {l : List α} {m : List β} (n : Nat), Paired F l m → Paired F (l.drop n) (m.drop n)
  | _, _, 0, h => h
  | _, _, _ + 1, .nil => .nil
  | _, _, n + 1, .cons h t => paired_drop n t
theorem paired_set {α β : Type} {F : α → β → Prop} {x : α} {y : β} (r : F x y) : ∀ {l : List α} {m : List β} (n : Nat), Paired F l m → Paired F (l.set n x) (m.set n y)
  | _, _, _, .nil => .nil
  | _, _, 0, .cons h t => .cons r t
  | _, _, n + 1, .cons h t => .cons h (paired_set r n t)
instance : Rep Int := ⟨fun _ _ v d => v = .int d, fun _ h => h⟩
instance : Rep Bool := ⟨fun _ _ v d => v = .bl d, fun _ h => h⟩
instance : Rep Str := ⟨fun _ _ v d => v = .str d, fun _ h => h⟩
instance : Rep Unit := ⟨fun _ _ v _ => v = .non, fun _ h => h⟩
instance {α : Type} [Rep α] : Rep (Option α) := ⟨fun K H v d => match d with
  | none => v = .non
  | some a => Rep.is K H v a ∧ v ≠ .non, fun {K H H' v d} e h => by
    cases d with
    | none => exact h
    | some a => exact ⟨Rep.mono e h.1, h.2⟩⟩
abbrev AllIs {α : Type} [Rep α] (K : PySem.W.Frag) (H : Hp) (vs : List V) (ds : List α) : Prop := Paired (fun v d => Rep.is K H v d) vs ds
theorem AllIs.mono {α : Type} [Rep α] {K : PySem.W.Frag} {H H' : Hp} {vs : List V} {ds : List α} (e : Same H H') (h : AllIs K H vs ds) : AllIs K H' vs ds := paired_imp (fun _ _ => Rep.mono e) h
instance {α : Type} [Rep α] : Rep (List α) := ⟨fun K H v d => ∃ p vs, v = .ref p ∧ H p = some (.lst vs) ∧ AllIs K H vs d, fun e ⟨p, vs, h1, h2, h3⟩ => ⟨p, vs, h1, e _ _ h2, h3.mono e⟩⟩
/-- the script's ints -/
structure Scr where
  l : List Int
instance : Rep Scr := ⟨fun K H v d => ∃ p, v = .ref p ∧ SqL K H p (d.l.map V.int), fun e ⟨p, h1, h2⟩ => ⟨p, h1, e.seq h2⟩⟩
/-- a tuple of any length, of things of one kind -/
structure Tp (α : Type) where
  l : List α
instance {α : Type} [Rep α] : Rep (Tp α) := ⟨fun K H v d => ∃ p vs, v = .ref p ∧ SqT K H p vs ∧ AllIs K H vs d.l, fun e ⟨p, vs, h1, h2, h3⟩ => ⟨p, vs, h1, Same.tup e h2, h3.mono e⟩⟩
instance {α β : Type} [Rep α] [Rep β] : Rep (α × β) := ⟨fun K H v d => ∃ p x y, v = .ref p ∧ SqT K H p [x, y] ∧ Rep.is K H x d.1 ∧ Rep.is K H y d.2,
  fun e ⟨p, x, y, h1, h2, h3, h4⟩ => ⟨p, x, y, h1, Same.tup e h2, Rep.mono e h3, Rep.mono e h4⟩⟩
/-- a tuple of three -/
structure T3 (α β γ : Type) where
  a : α
  b : β
  c : γ
instance {α β γ : Type} [Rep α] [Rep β] [Rep γ] : Rep (T3 α β γ) := ⟨fun K H v d => ∃ p x y z, v = .ref p ∧ SqT K H p [x, y, z] ∧ Rep.is K H x d.a ∧ Rep.is K H y d.b ∧ Rep.is K H z d.c,
  fun e ⟨p, x, y, z, h1, h2, h3, h4, h5⟩ => ⟨p, x, y, z, h1, Same.tup e h2, Rep.mono e h3, Rep.mono e h4, Rep.mono e h5⟩⟩

/-- argument lists -/
class RepA (τ : Type) where
  is : PySem.W.Frag → Hp → List V → τ → Prop
  mono : ∀ {K : PySem.W.Frag} {H H' : Hp} {vs : List V} {d : τ}, Same H H' → is K H vs d → is K H' vs d
instance : RepA Unit := ⟨fun _ _ vs _ => vs = [], fun _ h => h⟩
/-- one more argument, ahead -/
structure Ar (α τ : Type) where
  a : α
  t : τ
instance {α τ : Type} [Rep α] [RepA τ] : RepA (Ar α τ) := ⟨fun K H vs d => ∃ v r, vs = v :: r ∧ Rep.is K H v d.a ∧ RepA.is K H r d.t, fun e ⟨v, r, h1, h2, h3⟩ => ⟨v, r, h1, Rep.mono e h2, RepA.mono e h3⟩⟩
instance {α : Type} [Rep α] : RepA (List α) := ⟨fun K H vs d => AllIs K H vs d, fun e h => h.mono e⟩
end Wk

set_option maxHeartbeats 1000000
namespace Wk
open PySem PySem.Spec PyProof.Rows L2

/-! ### refusals -/
def Exn.nm : Exn → Str
  | .badLine _ => "BadLine" | .unknown _ => "Unknown" | .twice _ => "Twice" | .notNow _ => "NotNow" | .tooMuch _ => "TooMuch" | .dry _ => "Dry" | .over _ => "Over" | .nowhere _ => "Nowhere" | .busy _ => "Busy"
  | .noHeap _ => "NoHeap" | .noPrinter _ _ => "NoPrinter" | .goesRound _ => "GoesRound" | .noWay _ => "NoWay"
def Exn.IsFs (K : PySem.W.Frag) (G : Hp) (fs : List (Str × V)) : Exn → Prop
  | .badLine i => fs = [(("place" : Str), .int i)] | .noHeap i => fs = [(("place" : Str), .int i)] | .noWay i => fs = [(("place" : Str), .int i)]
  | .unknown x => fs = [(("name" : Str), .str x)] | .twice x => fs = [(("name" : Str), .str x)] | .tooMuch x => fs = [(("name" : Str), .str x)] | .dry x => fs = [(("name" : Str), .str x)]
  | .notNow x => fs = [(("found" : Str), .str x)]
  | .over x => fs = [(("job" : Str), .str x)] | .nowhere x => fs = [(("job" : Str), .str x)] | .busy x => fs = [(("job" : Str), .str x)]
  | .noPrinter x l => ∃ v, Is K G v l ∧ fs = [(("lacks" : Str), v), (("job" : Str), .str x)]
  | .goesRound l => ∃ v, Is K G v l ∧ fs = [(("ring" : Str), v)]
/-- the wish E takes the refusal x at W -/
def Acc (K : PySem.W.Frag) (E : XK) (x : Exn) (W : Wd) : Prop := ∀ d fs, W.H d = some (.xd fs) → x.IsFs K W.G fs → E (.ref (He.ga K x.nm)) (some d) W.H
/-- what a call's end wants -/
def Post {ρ : Type} [Rep ρ] (K : PySem.W.Frag) (E : XK) (m : Rs ρ) (W : Wd) (Q : VK) : Prop := match m with
  | .ok d => ∀ v W2, Le W W2 → Is K W2.G v d → Q v W2.H
  | .er x => ∀ W2, Le W W2 → Acc K E x W2
  | .no => False
def PostA {τ : Type} [RepA τ] (K : PySem.W.Frag) (E : XK) (m : Rs τ) (W : Wd) (Q : List V → Hp → Prop) : Prop := match m with
  | .ok d => ∀ vs W2, Le W W2 → RepA.is K W2.G vs d → Q vs W2.H
  | .er x => ∀ W2, Le W W2 → Acc K E x W2
  | .no => False
def PostT (K : PySem.W.Frag) (E : XK) (m : Rs Bool) (W : Wd) (Q : Bool → Hp → Prop) : Prop := match m with
  | .ok b => ∀ W2, Le W W2 → Q b W2.H
  | .er x => ∀ W2, Le W W2 → Acc K E x W2
  | .no => False
/-- a list: the list itself may be one that changes -/
def PostL {α : Type} [Rep α] (K : PySem.W.Frag) (E : XK) (m : Rs (List α)) (W : Wd) (Q : VK) : Prop := match m with
  | .ok ds => ∀ p vs W2, Le W W2 → W2.H p = some (.lst vs) → AllIs K W2.G vs ds → Q (.ref p) W2.H
  | .er x => ∀ W2, Le W W2 → Acc K E x W2
  | .no => False
/-- THE PROMISE of a def that keeps all that it is given: it answers as m does -/
def spOf {τ ρ : Type} [RepA τ] [Rep ρ] (K : PySem.W.Frag) (m : τ → Rs ρ) : Sp := fun vs H Q E => ∃ (W : Wd) (a : τ), W.H = H ∧ RepA.is K W.G vs a ∧ Post K E (m a) W Q

/-! ### what runs from a state -/
def SemE (X : Cx) (e : Expr) : TE := fun σ H Q => ∀ pins s, Inv X pins σ H s → wpAny (model X.prog X.w) X.A (eval e X.env) (EP X pins σ Q) X.xe s
def SemT (X : Cx) (e : Expr) : TT := fun σ H Q => ∀ pins s, Inv X pins σ H s → wpAny (model X.prog X.w) X.A (isTrue e X.env (eval e X.env)) (TP X pins σ Q) X.xe s
def SemA (X : Cx) (es : List Expr) : TA := fun σ H Q => ∀ (pos : Pos) pins s, Inv X pins σ H s → wpAny (model X.prog X.w) X.A (spliced (backTo pos (starEach es X.env))) (AP X pins σ Q) X.xe s
def SemS (X : Cx) (st : List Stmt) : TS := fun D σ H => ∀ pins s, Inv X pins σ H s → wpAny (model X.prog X.w) X.A (execs st X.env) (SP X pins D) X.xe s
section
variable {X : Cx}
theorem pe_sem {e : Expr} : PE X e (SemE X e) := ⟨fun pins s σ H Q I h => h pins s I⟩
theorem pt_sem {e : Expr} : PT X e (SemT X e) := ⟨fun pins s σ H Q I h => h pins s I⟩
theorem pa_sem {es : List Expr} : PA X es (SemA X es) := ⟨fun pos pins s σ H Q I h => h pos pins s I⟩
theorem pss_sem {st : List Stmt} : PSs X st (SemS X st) := ⟨fun pins s σ H D I h => h pins s I⟩
theorem sem_pe {e : Expr} {t : TE} {σ : L2.St} {H : Hp} {Q : VK} (p : PE X e t) (h : t σ H Q) : SemE X e σ H Q := fun pins s I => p.run pins s σ H Q I h
theorem sem_pt {e : Expr} {t : TT} {σ : L2.St} {H : Hp} {Q : Bool → Hp → Prop} (p : PT X e t) (h : t σ H Q) : SemT X e σ H Q := fun pins s I => p.run pins s σ H Q I h
theorem sem_pa {es : List Expr} {t : TA} {σ : L2.St} {H : Hp} {Q : List V → Hp → Prop} (p : PA X es t) (h : t σ H Q) : SemA X es σ H Q := fun pos pins s I => p.run pos pins s σ H Q I h
theorem sem_ps {st : Stmt} {rest : List Stmt} {t : TS} {D : Ends} {σ : L2.St} {H : Hp} (p : PS X st t) (h : t { D with nx := fun σ' H' => SemS X rest D σ' H' } σ H) : SemS X (st :: rest) D σ H :=
  fun pins s I => (pss_cons p pss_sem).run pins s σ H D I h
theorem SemE.imp {e : Expr} {σ : L2.St} {H : Hp} {Q Q' : VK} (h : SemE X e σ H Q) (k : ∀ v H', Q v H' → Q' v H') : SemE X e σ H Q' := fun pins s I => thn (h pins s I) fun u s' ⟨v, H', I', r, q⟩ => ⟨v, H', I', r, k v H' q⟩
end

/-! ### expressions -/
/-- e tells what m tells, and keeps the world -/
def EvR {α : Type} [Rep α] (X : Cx) (E : XK) (σ : L2.St) (W : Wd) (e : Expr) (m : Rs α) : Prop := ∀ W1, Le W W1 → ∀ Q : VK, Post X.K E m W1 Q → SemE X e σ W1.H Q
def EvT (X : Cx) (E : XK) (σ : L2.St) (W : Wd) (e : Expr) (m : Rs Bool) : Prop := ∀ W1, Le W W1 → ∀ Q : Bool → Hp → Prop, PostT X.K E m W1 Q → SemT X e σ W1.H Q
def EvA {τ : Type} [RepA τ] (X : Cx) (E : XK) (σ : L2.St) (W : Wd) (es : List Expr) (m : Rs τ) : Prop := ∀ W1, Le W W1 → ∀ Q : List V → Hp → Prop, PostA X.K E m W1 Q → SemA X es σ W1.H Q
/-- a list whose items stay (the list itself may be one that changes) -/
def EvL {α : Type} [Rep α] (X : Cx) (E : XK) (σ : L2.St) (W : Wd) (e : Expr) (m : Rs (List α)) : Prop := ∀ W1, Le W W1 → ∀ Q : VK, PostL X.K E m W1 Q → SemE X e σ W1.H Q
section
variable {X : Cx} {E : XK} {σ : L2.St} {W W' : Wd} {e a b c : Expr} {pos p : Pos} {α β γ : Type} [Rep α] [Rep β] [Rep γ]
theorem EvR.mono {m : Rs α} (h : EvR X E σ W e m) (l : Le W W') : EvR X E σ W' e m := fun W1 l1 => h W1 (l.trans l1)
theorem EvA.mono {τ : Type} [RepA τ] {es : List Expr} {m : Rs τ} (h : EvA X E σ W es m) (l : Le W W') : EvA X E σ W' es m := fun W1 l1 => h W1 (l.trans l1)
theorem EvR.cast {m m' : Rs α} (h : EvR X E σ W e m) (q : m = m') : EvR X E σ W e m' := q ▸ h
/-- the way in: from m's value -/
theorem EvR.use {m : Rs α} {k : α → Rs β} (h : EvR X E σ W e m) {Q Q' : VK} (hp : Post X.K E (m.bind k) W Q') (f : ∀ d v W2, m = .ok d → Le W W2 → Is X.K W2.G v d → Post X.K E (k d) W2 Q' → Q v W2.H) : SemE X e σ W.H Q := by
  refine h W (Le.refl W) Q ?_
  cases m with
  | ok d =>
    refine fun v W2 l i => f d v W2 rfl l i ?_
    have hp' : Post X.K E (k d) W Q' := hp
    cases hk : k d with
    | ok r =>
      rw [hk] at hp'
      exact fun v3 W3 l3 => hp' v3 W3 (l.trans l3)
    | er x =>
      rw [hk] at hp'
      exact fun W3 l3 => hp' W3 (l.trans l3)
    | no =>
      rw [hk] at hp'
      exact hp'.elim
  | er x => exact hp
  | no => exact hp
theorem Post.mono {m : Rs α} {Q : VK} (h : Post X.K E m W Q) (l : Le W W') : Post X.K E m W' Q := by
  cases m with
  | ok d => exact fun v W2 l2 => h v W2 (l.trans l2)
  | er x => exact fun W2 l2 => h W2 (l.trans l2)
  | no => exact h
/-! two parts in a row, then an operation on values -/
theorem op2_run {ma : Rs α} {mb : Rs β} {k : α → β → Rs γ} {r : R2} (ha : EvR X E σ W a ma) (hb : EvR X E σ W b mb)
    (hr : ∀ x y W2 vx vy (Q : VK), Le W W2 → Is X.K W2.G vx x → Is X.K W2.G vy y → Post X.K E (k x y) W2 Q → r vx vy W2.H Q) {W1 : Wd} (l1 : Le W W1) {Q : VK} (hq : Post X.K E (ma.bind fun x => mb.bind fun y => k x y) W1 Q) :
    tOp r (SemE X a) (SemE X b) σ W1.H Q := by
  show SemE X a σ W1.H _
  refine (ha.mono l1).use hq fun x vx W2 e2 l2 ix hq2 => ?_
  refine ((hb.mono l1).mono l2).use hq2 fun y vy W3 e3 l3 iy hq3 => ?_
  exact hr x y W3 vx vy Q ((l1.trans l2).trans l3) (Rep.mono l3.g ix) iy hq3
theorem evr_pe2 {ma : Rs α} {mb : Rs β} {k : α → β → Rs γ} {r : R2} (hp : PE X e (tOp r (SemE X a) (SemE X b))) (ha : EvR X E σ W a ma) (hb : EvR X E σ W b mb)
    (hr : ∀ x y W2 vx vy (Q : VK), Le W W2 → Is X.K W2.G vx x → Is X.K W2.G vy y → Post X.K E (k x y) W2 Q → r vx vy W2.H Q) : EvR X E σ W e (ma.bind fun x => mb.bind fun y => k x y) :=
  fun W1 l1 Q hq => sem_pe hp (op2_run ha hb hr l1 hq)
theorem postT_R {m : Rs Bool} {Q : Bool → Hp → Prop} (hq : PostT X.K E m W Q) : Post X.K E m W fun x H1 => ∃ c, x = .bl c ∧ Q c H1 := by
  cases m with
  | ok b => exact fun v W2 l2 i => ⟨b, i, hq W2 l2⟩
  | er x => exact hq
  | no => exact hq
theorem evt_pe2 {ma : Rs α} {mb : Rs β} {k : α → β → Rs Bool} {r : R2} (hp : PT X e (tTest (tOp r (SemE X a) (SemE X b)))) (ha : EvR X E σ W a ma) (hb : EvR X E σ W b mb)
    (hr : ∀ x y W2 vx vy (Q : VK), Le W W2 → Is X.K W2.G vx x → Is X.K W2.G vy y → Post X.K E (k x y) W2 Q → r vx vy W2.H Q) : EvT X E σ W e (ma.bind fun x => mb.bind fun y => k x y) :=
  fun W1 l1 Q hq => sem_pt hp (op2_run ha hb hr l1 (postT_R hq))
theorem evr_pe1 {ma : Rs α} {k : α → Rs β} {r : V → Hp → VK → Prop} (hp : PE X e (tUn r (SemE X a))) (ha : EvR X E σ W a ma)
    (hr : ∀ x W2 vx (Q : VK), Le W W2 → Is X.K W2.G vx x → Post X.K E (k x) W2 Q → r vx W2.H Q) : EvR X E σ W e (ma.bind k) := by
  intro W1 l1 Q hq
  refine sem_pe hp ?_
  show SemE X a σ W1.H _
  exact (ha.mono l1).use hq fun x vx W2 e2 l2 ix hq2 => hr x W2 vx Q (l1.trans l2) ix hq2
/-! names, constants -/
theorem evr_var (i : Nat) {x : Str} {d : α} {v : V} {W0 : Wd} (h : Is X.K W0.G v d) (l : Le W0 W) (hs : σ[i]? = some (some v) := by rfl) (hN : X.N[i]? = some x := by rfl)
    (hv : Vis X.env.scope x := by first | exact Or.inl rfl | exact Or.inr (Or.inl rfl) | exact Or.inr (Or.inr rfl)) (hd : (x == ("__debug__" : Str)) = false := by decide)
    (hcd : (x == ("__classdict__" : Str)) = false := by decide) : EvR X E σ W (.Name x p) (.ok d) := fun W1 l1 Q hq =>
  sem_pe (pe_var hN hv hd hcd) ⟨v, hs, hq v W1 (Le.refl W1) (Rep.mono (l.trans l1).g h)⟩
theorem evr_v (i : Nat) {x : Str} {d : α} {v : V} (h : Is X.K W.G v d) (hs : σ[i]? = some (some v) := by rfl) (hN : X.N[i]? = some x := by rfl)
    (hv : Vis X.env.scope x := by first | exact Or.inl rfl | exact Or.inr (Or.inl rfl) | exact Or.inr (Or.inr rfl)) (hd : (x == ("__debug__" : Str)) = false := by decide)
    (hcd : (x == ("__classdict__" : Str)) = false := by decide) : EvR X E σ W (.Name x p) (.ok d) := evr_var i h (Le.refl W) hs hN hv hd hcd
theorem evr_int {i : Int} {j : Nat} : EvR X E σ W (.Constant (.int i) j p) (.ok i) := fun W1 l1 Q hq => sem_pe pe_int (hq (.int i) W1 (Le.refl W1) rfl)
theorem evr_bl {i : Bool} {j : Nat} : EvR X E σ W (.Constant (.bool i) j p) (.ok i) := fun W1 l1 Q hq => sem_pe pe_bl (hq (.bl i) W1 (Le.refl W1) rfl)
theorem evr_str {i : Str} {j : Nat} : EvR X E σ W (.Constant (.str i) j p) (.ok i) := fun W1 l1 Q hq => sem_pe pe_str (hq (.str i) W1 (Le.refl W1) rfl)
theorem evr_non {j : Nat} : EvR X E σ W (.Constant .none j p) (.ok ()) := fun W1 l1 Q hq => sem_pe pe_non (hq .non W1 (Le.refl W1) rfl)
theorem evr_none {j : Nat} : EvR X E σ W (.Constant .none j p) (.ok (none : Option α)) := fun W1 l1 Q hq => sem_pe pe_non (hq .non W1 (Le.refl W1) rfl)
/-! ints -/
instance (i j : Int) : Decidable (CMul i j) := by unfold CMul; exact inferInstance
instance (i j : Int) : Decidable (CDiv i j) := by unfold CDiv; exact inferInstance
instance (i j : Int) : Decidable (CPow i j) := by unfold CPow; exact inferInstance

def mulR (i j : Int) : Rs Int := if CMul i j then .ok (i * j) else .no
def divR (i j : Int) : Rs Int := if CDiv i j then .ok (i / j) else .no
def modR (i j : Int) : Rs Int := if 0 < j then .ok (i % j) else .no
def powR (i j : Int) : Rs Int := if CPow i j then .ok (i ^ j.toNat) else .no
end
end Wk

set_option maxHeartbeats 1000000
namespace Wk
open PySem PySem.Spec PyProof.Rows L2
section
variable {X : Cx} {E : XK} {σ : L2.St} {W W' : Wd} {e a b c : Expr} {pos p : Pos} {α β γ : Type} [Rep α] [Rep β] [Rep γ]
theorem post_ok {d : α} {Q : VK} {v : V} {W2 : Wd} {K : PySem.W.Frag} (h : Post K E (.ok d) W Q) (l : Le W W2) (i : Is K W2.G v d) : Q v W2.H := h v W2 l i
theorem post_if {cnd : Prop} [Decidable cnd] {d : α} {Q : VK} {K : PySem.W.Frag} (h : Post K E (if cnd then Rs.ok d else .no) W Q) : cnd ∧ Post K E (.ok d) W Q := by
  by_cases q : cnd
  · rw [if_pos q] at h
    exact ⟨q, h⟩
  · rw [if_neg q] at h
    exact h.elim
/-! ints -/
theorem evr_add {ma mb : Rs Int} (ha : EvR X E σ W a ma) (hb : EvR X E σ W b mb) : EvR X E σ W (.BinOp a .Add b pos) (ma.bind fun x => mb.bind fun y => .ok (x + y)) :=
  evr_pe2 (pe_op op_add pe_sem pe_sem) ha hb fun x y W2 vx vy Q l hx hy hq => ⟨x, y, hx, hy, hq _ W2 (Le.refl _) rfl⟩
theorem evr_sub {ma mb : Rs Int} (ha : EvR X E σ W a ma) (hb : EvR X E σ W b mb) : EvR X E σ W (.BinOp a .Sub b pos) (ma.bind fun x => mb.bind fun y => .ok (x - y)) :=
  evr_pe2 (pe_op op_sub pe_sem pe_sem) ha hb fun x y W2 vx vy Q l hx hy hq => ⟨x, y, hx, hy, hq _ W2 (Le.refl _) rfl⟩
theorem evr_mul {ma mb : Rs Int} (ha : EvR X E σ W a ma) (hb : EvR X E σ W b mb) : EvR X E σ W (.BinOp a .Mult b pos) (ma.bind fun x => mb.bind fun y => mulR x y) :=
  evr_pe2 (pe_op op_mul pe_sem pe_sem) ha hb fun x y W2 vx vy Q l hx hy hq => ⟨x, y, hx, hy, (post_if hq).1, (post_if hq).2 _ W2 (Le.refl _) rfl⟩
theorem evr_div {ma mb : Rs Int} (ha : EvR X E σ W a ma) (hb : EvR X E σ W b mb) : EvR X E σ W (.BinOp a .FloorDiv b pos) (ma.bind fun x => mb.bind fun y => divR x y) :=
  evr_pe2 (pe_op op_fdiv pe_sem pe_sem) ha hb fun x y W2 vx vy Q l hx hy hq => ⟨x, y, hx, hy, (post_if hq).1, (post_if hq).2 _ W2 (Le.refl _) rfl⟩
theorem evr_mod {ma mb : Rs Int} (ha : EvR X E σ W a ma) (hb : EvR X E σ W b mb) : EvR X E σ W (.BinOp a .Mod b pos) (ma.bind fun x => mb.bind fun y => modR x y) :=
  evr_pe2 (pe_op op_mod pe_sem pe_sem) ha hb fun x y W2 vx vy Q l hx hy hq => ⟨x, y, hx, hy, (post_if hq).1, (post_if hq).2 _ W2 (Le.refl _) rfl⟩
theorem evr_pow {ma mb : Rs Int} (ha : EvR X E σ W a ma) (hb : EvR X E σ W b mb) : EvR X E σ W (.BinOp a .Pow b pos) (ma.bind fun x => mb.bind fun y => powR x y) :=
  evr_pe2 (pe_op op_pow pe_sem pe_sem) ha hb fun x y W2 vx vy Q l hx hy hq => ⟨x, y, hx, hy, (post_if hq).1, (post_if hq).2 _ W2 (Le.refl _) rfl⟩
theorem evr_neg {ma : Rs Int} (ha : EvR X E σ W a ma) : EvR X E σ W (.UnaryOp .USub a pos) (ma.bind fun x => .ok (-x)) :=
  evr_pe1 (pe_un un_neg pe_sem) ha fun x W2 vx Q l hx hq => ⟨x, hx, hq _ W2 (Le.refl _) rfl⟩
/-! comparisons as values -/
theorem evr_lt {ma mb : Rs Int} (ha : EvR X E σ W a ma) (hb : EvR X E σ W b mb) : EvR X E σ W (.Compare a [.Lt] [b] pos) (ma.bind fun x => mb.bind fun y => .ok (decide (x < y))) :=
  evr_pe2 (pe_cmpR op_lt pe_sem pe_sem (nomark _)) ha hb fun x y W2 vx vy Q l hx hy hq => ⟨x, y, hx, hy, hq _ W2 (Le.refl _) rfl⟩
theorem evr_le {ma mb : Rs Int} (ha : EvR X E σ W a ma) (hb : EvR X E σ W b mb) : EvR X E σ W (.Compare a [.LtE] [b] pos) (ma.bind fun x => mb.bind fun y => .ok (decide (x ≤ y))) :=
  evr_pe2 (pe_cmpR op_le pe_sem pe_sem (nomark _)) ha hb fun x y W2 vx vy Q l hx hy hq => ⟨x, y, hx, hy, hq _ W2 (Le.refl _) rfl⟩
theorem evr_gt {ma mb : Rs Int} (ha : EvR X E σ W a ma) (hb : EvR X E σ W b mb) : EvR X E σ W (.Compare a [.Gt] [b] pos) (ma.bind fun x => mb.bind fun y => .ok (decide (y < x))) :=
  evr_pe2 (pe_cmpR op_gt pe_sem pe_sem (nomark _)) ha hb fun x y W2 vx vy Q l hx hy hq => ⟨x, y, hx, hy, hq _ W2 (Le.refl _) rfl⟩
theorem evr_ge {ma mb : Rs Int} (ha : EvR X E σ W a ma) (hb : EvR X E σ W b mb) : EvR X E σ W (.Compare a [.GtE] [b] pos) (ma.bind fun x => mb.bind fun y => .ok (decide (y ≤ x))) :=
  evr_pe2 (pe_cmpR op_ge pe_sem pe_sem (nomark _)) ha hb fun x y W2 vx vy Q l hx hy hq => ⟨x, y, hx, hy, hq _ W2 (Le.refl _) rfl⟩
/-- plain values -/
class Pl (α : Type) [Rep α] where
  v : α → V
  is : ∀ {K : PySem.W.Frag} {H : Hp} {x : V} {d : α}, Rep.is K H x d → x = v d
  inj : ∀ {a b : α}, v a = v b → a = b
instance : Pl Int := ⟨V.int, fun h => h, fun h => V.int.inj h⟩
instance : Pl Bool := ⟨V.bl, fun h => h, fun h => V.bl.inj h⟩
instance : Pl Str := ⟨V.str, fun h => h, fun h => V.str.inj h⟩
instance : Pl Unit := ⟨fun _ => V.non, fun h => h, fun _ => rfl⟩
/-- values that are not None -/
class NN (α : Type) [Rep α] where
  nn : ∀ {K : PySem.W.Frag} {H : Hp} {x : V} {d : α}, Rep.is K H x d → x ≠ .non
instance : NN Int := ⟨fun h => by cases h; intro z; cases z⟩
instance : NN Bool := ⟨fun h => by cases h; intro z; cases z⟩
instance : NN Str := ⟨fun h => by cases h; intro z; cases z⟩
instance : NN (List α) := ⟨fun ⟨p, vs, h, _⟩ => by rw [h]; intro z; cases z⟩
instance : NN (α × β) := ⟨fun ⟨p, x, y, h, _⟩ => by rw [h]; intro z; cases z⟩
theorem evr_some [NN α] {m : Rs α} (h : EvR X E σ W e m) : EvR X E σ W e (m.bind fun d => .ok (some d)) := fun W1 l1 Q hq => h W1 l1 Q (by
  cases m with
  | ok d => exact fun v W2 l2 i => hq v W2 l2 ⟨i, NN.nn i⟩
  | er x => exact hq
  | no => exact hq)
class PlN (α : Type) [Rep α] [Pl α] : Prop where
  nn : ∀ a : α, Pl.v a ≠ .non
instance : PlN Int := ⟨fun _ z => by cases z⟩
instance : PlN Bool := ⟨fun _ z => by cases z⟩
instance : PlN Str := ⟨fun _ z => by cases z⟩
instance [Pl α] [PlN α] : Pl (Option α) := ⟨fun d => match d with | none => .non | some a => Pl.v a, fun {K H x d} h => by
  cases d with
  | none => exact h
  | some a => exact Pl.is h.1, fun {a b} h => by
  cases a with
  | none =>
    cases b with
    | none => rfl
    | some b => exact absurd h.symm (PlN.nn b)
  | some a =>
    cases b with
    | none => exact absurd h (PlN.nn a)
    | some b => rw [Pl.inj h]⟩
/-- == of plain values -/
theorem evr_eq [Pl α] [DecidableEq α] {ma mb : Rs α} (ha : EvR X E σ W a ma) (hb : EvR X E σ W b mb) (hs : ∀ x y : α, scal (Pl.v x) (Pl.v y) = true := by intro x y; first | rfl | (cases x <;> cases y <;> rfl)) :
    EvR X E σ W (.Compare a [.Eq] [b] pos) (ma.bind fun x => mb.bind fun y => .ok (decide (x = y))) :=
  evr_pe2 (pe_cmpR op_eq pe_sem pe_sem (nomark _)) ha hb fun x y W2 vx vy Q l hx hy hq => ⟨by rw [Pl.is hx, Pl.is hy]; exact hs x y, hq _ W2 (Le.refl _) (by
    rw [Pl.is hx, Pl.is hy]
    show V.bl _ = V.bl _
    congr 1
    exact decide_eq_decide.mpr ⟨fun h => Pl.inj h, fun h => by rw [h]⟩)⟩
theorem evr_ne [Pl α] [DecidableEq α] {ma mb : Rs α} (ha : EvR X E σ W a ma) (hb : EvR X E σ W b mb) (hs : ∀ x y : α, scal (Pl.v x) (Pl.v y) = true := by intro x y; first | rfl | (cases x <;> cases y <;> rfl)) :
    EvR X E σ W (.Compare a [.NotEq] [b] pos) (ma.bind fun x => mb.bind fun y => .ok (!decide (x = y))) :=
  evr_pe2 (pe_cmpR op_ne pe_sem pe_sem (nomark _)) ha hb fun x y W2 vx vy Q l hx hy hq => ⟨by rw [Pl.is hx, Pl.is hy]; exact hs x y, hq _ W2 (Le.refl _) (by
    rw [Pl.is hx, Pl.is hy]
    show V.bl _ = V.bl _
    congr 2
    exact decide_eq_decide.mpr ⟨fun h => Pl.inj h, fun h => by rw [h]⟩)⟩
theorem is_non {K : PySem.W.Frag} {H : Hp} {v : V} {d : Option α} (h : Is K H v d) : decide (v = .non) = d.isNone := by
  cases d with
  | none =>
    cases h
    rfl
  | some a => exact decide_eq_false h.2
theorem evr_isN {j : Nat} {ma : Rs (Option α)} (ha : EvR X E σ W a ma) : EvR X E σ W (.Compare a [.Is] [.Constant .none j p] pos) (ma.bind fun x => .ok x.isNone) :=
  fun W1 l1 Q hq => sem_pe (pe_cmp (pc_isN pe_sem)) (show SemE X a σ W1.H _ from (ha.mono l1).use hq fun d v W2 e l2 i hq2 => by
    show Q (.bl (decide (v = .non))) W2.H
    rw [is_non i]
    exact hq2 _ W2 (Le.refl _) rfl)
theorem evr_notN {j : Nat} {ma : Rs (Option α)} (ha : EvR X E σ W a ma) : EvR X E σ W (.Compare a [.IsNot] [.Constant .none j p] pos) (ma.bind fun x => .ok x.isSome) :=
  fun W1 l1 Q hq => sem_pe (pe_cmp (pc_notN pe_sem)) (show SemE X a σ W1.H _ from (ha.mono l1).use hq fun d v W2 e l2 i hq2 => by
    show Q (.bl (!decide (v = .non))) W2.H
    rw [is_non i]
    have q : (!d.isNone) = d.isSome := by cases d <;> rfl
    rw [q]
    exact hq2 _ W2 (Le.refl _) rfl)
/-! and, or, not -/
theorem evr_one {m : Rs α} {op : BoolOp} (h : EvR X E σ W a m) : EvR X E σ W (.BoolOp op [a] pos) m := fun W1 l1 Q hq => sem_pe (pe_one pe_sem) (h W1 l1 Q hq)
theorem evr_and {rest : List Expr} {ma mb : Rs Bool} (ha : EvR X E σ W a ma) (hb : ma = .ok true → EvR X E σ W (.BoolOp .And (b :: rest) pos) mb) :
    EvR X E σ W (.BoolOp .And (a :: b :: rest) pos) (ma.bind fun x => if x = true then mb else .ok false) := fun W1 l1 Q hq => sem_pe (pe_and pe_sem pe_sem)
  (show SemE X a σ W1.H _ from (ha.mono l1).use hq fun d v W2 e l2 i hq2 => ⟨d, i, by
    cases d with
    | true => exact iteT ((hb e) W2 (l1.trans l2) Q hq2)
    | false => exact iteF (hq2 _ W2 (Le.refl _) rfl)⟩)
theorem evr_or {rest : List Expr} {ma mb : Rs Bool} (ha : EvR X E σ W a ma) (hb : ma = .ok false → EvR X E σ W (.BoolOp .Or (b :: rest) pos) mb) :
    EvR X E σ W (.BoolOp .Or (a :: b :: rest) pos) (ma.bind fun x => if x = true then .ok true else mb) := fun W1 l1 Q hq => sem_pe (pe_or pe_sem pe_sem)
  (show SemE X a σ W1.H _ from (ha.mono l1).use hq fun d v W2 e l2 i hq2 => ⟨d, i, by
    cases d with
    | true => exact iteT (hq2 _ W2 (Le.refl _) rfl)
    | false => exact iteF ((hb e) W2 (l1.trans l2) Q hq2)⟩)
theorem evr_not {ma : Rs Bool} (ha : EvR X E σ W a ma) : EvR X E σ W (.UnaryOp .Not a pos) (ma.bind fun x => .ok (!x)) := fun W1 l1 Q hq => sem_pe (pe_not pe_sem)
  (show SemE X a σ W1.H _ from (ha.mono l1).use hq fun d v W2 e l2 i hq2 => ⟨d, i, hq2 _ W2 (Le.refl _) rfl⟩)
/-! tests -/
theorem EvT.mono {m : Rs Bool} (h : EvT X E σ W e m) (l : Le W W') : EvT X E σ W' e m := fun W1 l1 => h W1 (l.trans l1)
theorem evt_val {m : Rs Bool} (h : EvR X E σ W e m) (he : ∀ whole, isTrue e X.env whole = (do let v ← whole; standAt e.pos; holding [v] (truthy v)) := by intro _; rfl) : EvT X E σ W e m := fun W1 l1 Q hq =>
  sem_pt (pt_val pe_sem he) (h W1 l1 _ (postT_R hq))
theorem evt_lt {ma mb : Rs Int} (ha : EvR X E σ W a ma) (hb : EvR X E σ W b mb) : EvT X E σ W (.Compare a [.Lt] [b] pos) (ma.bind fun x => mb.bind fun y => .ok (decide (x < y))) :=
  evt_pe2 (pt_cmpR op_lt pe_sem pe_sem (nomark _)) ha hb fun x y W2 vx vy Q l hx hy hq => ⟨x, y, hx, hy, hq _ W2 (Le.refl _) rfl⟩
theorem evt_le {ma mb : Rs Int} (ha : EvR X E σ W a ma) (hb : EvR X E σ W b mb) : EvT X E σ W (.Compare a [.LtE] [b] pos) (ma.bind fun x => mb.bind fun y => .ok (decide (x ≤ y))) :=
  evt_pe2 (pt_cmpR op_le pe_sem pe_sem (nomark _)) ha hb fun x y W2 vx vy Q l hx hy hq => ⟨x, y, hx, hy, hq _ W2 (Le.refl _) rfl⟩
theorem evt_gt {ma mb : Rs Int} (ha : EvR X E σ W a ma) (hb : EvR X E σ W b mb) : EvT X E σ W (.Compare a [.Gt] [b] pos) (ma.bind fun x => mb.bind fun y => .ok (decide (y < x))) :=
  evt_pe2 (pt_cmpR op_gt pe_sem pe_sem (nomark _)) ha hb fun x y W2 vx vy Q l hx hy hq => ⟨x, y, hx, hy, hq _ W2 (Le.refl _) rfl⟩
theorem evt_ge {ma mb : Rs Int} (ha : EvR X E σ W a ma) (hb : EvR X E σ W b mb) : EvT X E σ W (.Compare a [.GtE] [b] pos) (ma.bind fun x => mb.bind fun y => .ok (decide (y ≤ x))) :=
  evt_pe2 (pt_cmpR op_ge pe_sem pe_sem (nomark _)) ha hb fun x y W2 vx vy Q l hx hy hq => ⟨x, y, hx, hy, hq _ W2 (Le.refl _) rfl⟩
theorem evt_eq [Pl α] [DecidableEq α] {ma mb : Rs α} (ha : EvR X E σ W a ma) (hb : EvR X E σ W b mb) (hs : ∀ x y : α, scal (Pl.v x) (Pl.v y) = true := by intro x y; first | rfl | (cases x <;> cases y <;> rfl)) :
    EvT X E σ W (.Compare a [.Eq] [b] pos) (ma.bind fun x => mb.bind fun y => .ok (decide (x = y))) :=
  evt_pe2 (pt_cmpR op_eq pe_sem pe_sem (nomark _)) ha hb fun x y W2 vx vy Q l hx hy hq => ⟨by rw [Pl.is hx, Pl.is hy]; exact hs x y, hq _ W2 (Le.refl _) (by
    rw [Pl.is hx, Pl.is hy]
    show V.bl _ = V.bl _
    congr 1
    exact decide_eq_decide.mpr ⟨fun h => Pl.inj h, fun h => by rw [h]⟩)⟩
theorem evt_ne [Pl α] [DecidableEq α] {ma mb : Rs α} (ha : EvR X E σ W a ma) (hb : EvR X E σ W b mb) (hs : ∀ x y : α, scal (Pl.v x) (Pl.v y) = true := by intro x y; first | rfl | (cases x <;> cases y <;> rfl)) :
    EvT X E σ W (.Compare a [.NotEq] [b] pos) (ma.bind fun x => mb.bind fun y => .ok (!decide (x = y))) :=
  evt_pe2 (pt_cmpR op_ne pe_sem pe_sem (nomark _)) ha hb fun x y W2 vx vy Q l hx hy hq => ⟨by rw [Pl.is hx, Pl.is hy]; exact hs x y, hq _ W2 (Le.refl _) (by
    rw [Pl.is hx, Pl.is hy]
    show V.bl _ = V.bl _
    congr 2
    exact decide_eq_decide.mpr ⟨fun h => Pl.inj h, fun h => by rw [h]⟩)⟩
theorem evt_isN {j : Nat} {ma : Rs (Option α)} (ha : EvR X E σ W a ma) : EvT X E σ W (.Compare a [.Is] [.Constant .none j p] pos) (ma.bind fun x => .ok x.isNone) :=
  fun W1 l1 Q hq => sem_pt (pt_cmp (pc_isN pe_sem)) (show SemE X a σ W1.H _ from (ha.mono l1).use (postT_R hq) fun d v W2 e l2 i hq2 => by
    show ∃ c, V.bl (decide (v = .non)) = .bl c ∧ Q c W2.H
    rw [is_non i]
    exact hq2 _ W2 (Le.refl _) rfl)
theorem evt_notN {j : Nat} {ma : Rs (Option α)} (ha : EvR X E σ W a ma) : EvT X E σ W (.Compare a [.IsNot] [.Constant .none j p] pos) (ma.bind fun x => .ok x.isSome) :=
  fun W1 l1 Q hq => sem_pt (pt_cmp (pc_notN pe_sem)) (show SemE X a σ W1.H _ from (ha.mono l1).use (postT_R hq) fun d v W2 e l2 i hq2 => by
    have q : (!d.isNone) = d.isSome := by cases d <;> rfl
    show ∃ c, V.bl (!decide (v = .non)) = .bl c ∧ Q c W2.H
    rw [is_non i, q]
    exact hq2 _ W2 (Le.refl _) rfl)
theorem EvT.use {m : Rs Bool} {k : Bool → Rs Bool} (h : EvT X E σ W e m) {Q Q' : Bool → Hp → Prop} (hp : PostT X.K E (m.bind k) W Q') (f : ∀ d W2, m = .ok d → Le W W2 → PostT X.K E (k d) W2 Q' → Q d W2.H) : SemT X e σ W.H Q := by
  refine h W (Le.refl W) Q ?_
  cases m with
  | ok d =>
    refine fun W2 l => f d W2 rfl l ?_
    have hp' : PostT X.K E (k d) W Q' := hp
    cases hk : k d with
    | ok r =>
      rw [hk] at hp'
      exact fun W3 l3 => hp' W3 (l.trans l3)
    | er x =>
      rw [hk] at hp'
      exact fun W3 l3 => hp' W3 (l.trans l3)
    | no =>
      rw [hk] at hp'
      exact hp'.elim
  | er x => exact hp
  | no => exact hp
theorem evt_not {ma : Rs Bool} (ha : EvT X E σ W a ma) : EvT X E σ W (.UnaryOp .Not a pos) (ma.bind fun x => .ok (!x)) := fun W1 l1 Q hq => sem_pt (pt_not pt_sem)
  (show SemT X a σ W1.H _ from (ha.mono l1).use hq fun d W2 e l2 hq2 => hq2 W2 (Le.refl _))
/-- a chain of ands, of ors: as a test -/
def EvW (X : Cx) (E : XK) (σ : L2.St) (W : Wd) (e : Expr) (m : Rs Bool) : Prop := ∀ W1, Le W W1 → ∀ Q : Bool → Hp → Prop, PostT X.K E m W1 Q → ∀ whole pins s, Inv X pins σ W1.H s → wpAny (model X.prog X.w) X.A (isTrue e X.env whole) (TP X pins σ Q) X.xe s
def SemW (X : Cx) (e : Expr) : TT := fun σ H Q => ∀ (whole : Sem Value) pins s, Inv X pins σ H s → wpAny (model X.prog X.w) X.A (isTrue e X.env whole) (TP X pins σ Q) X.xe s
theorem pw_sem : PW X e (SemW X e) := ⟨fun wh pins s σ H Q I h => h wh pins s I⟩
theorem evt_w {m : Rs Bool} (h : EvW X E σ W e m) : EvT X E σ W e m := fun W1 l1 Q hq pins s I => h W1 l1 Q hq _ pins s I
theorem evw_and1 {m : Rs Bool} (h : EvT X E σ W a m) : EvW X E σ W (.BoolOp .And [a] pos) m := fun W1 l1 Q hq wh pins s I => (pw_and1 pt_sem).run wh pins s σ W1.H Q I (h W1 l1 Q hq)
theorem evw_or1 {m : Rs Bool} (h : EvT X E σ W a m) : EvW X E σ W (.BoolOp .Or [a] pos) m := fun W1 l1 Q hq wh pins s I => (pw_or1 pt_sem).run wh pins s σ W1.H Q I (h W1 l1 Q hq)
theorem evw_and {rest : List Expr} {ma mb : Rs Bool} (ha : EvT X E σ W a ma) (hb : ma = .ok true → EvW X E σ W (.BoolOp .And (b :: rest) pos) mb) :
    EvW X E σ W (.BoolOp .And (a :: b :: rest) pos) (ma.bind fun x => if x = true then mb else .ok false) := fun W1 l1 Q hq wh pins s I => (pw_and pt_sem pw_sem).run wh pins s σ W1.H Q I
  (show SemT X a σ W1.H _ from (ha.mono l1).use hq fun d W2 e l2 hq2 => by
    cases d with
    | true => exact iteT fun wh pins s I => (hb e) W2 (l1.trans l2) Q hq2 wh pins s I
    | false => exact iteF (hq2 W2 (Le.refl _)))
theorem evw_or {rest : List Expr} {ma mb : Rs Bool} (ha : EvT X E σ W a ma) (hb : ma = .ok false → EvW X E σ W (.BoolOp .Or (b :: rest) pos) mb) :
    EvW X E σ W (.BoolOp .Or (a :: b :: rest) pos) (ma.bind fun x => if x = true then .ok true else mb) := fun W1 l1 Q hq wh pins s I => (pw_or pt_sem pw_sem).run wh pins s σ W1.H Q I
  (show SemT X a σ W1.H _ from (ha.mono l1).use hq fun d W2 e l2 hq2 => by
    cases d with
    | true => exact iteT (hq2 W2 (Le.refl _))
    | false => exact iteF fun wh pins s I => (hb e) W2 (l1.trans l2) Q hq2 wh pins s I)
theorem evr_if {mc : Rs Bool} {ma mb : Rs α} (hc : EvT X E σ W c mc) (ha : mc = .ok true → EvR X E σ W a ma) (hb : mc = .ok false → EvR X E σ W b mb) : EvR X E σ W (.IfExp c a b pos) (mc.bind fun x => if x = true then ma else mb) :=
  fun W1 l1 Q hq => sem_pe (pe_ifExp pt_sem pe_sem pe_sem) (show SemT X c σ W1.H _ from by
    refine hc W1 l1 _ ?_
    cases mc with
    | ok d =>
      intro W2 l2
      cases d with
      | true => exact iteT ((ha rfl) W2 (l1.trans l2) Q (Post.mono hq l2))
      | false => exact iteF ((hb rfl) W2 (l1.trans l2) Q (Post.mono hq l2))
    | er x => exact hq
    | no => exact hq)
end
end Wk

set_option maxHeartbeats 1000000
namespace Wk
open PySem PySem.Spec PyProof.Rows L2
section
variable {X : Cx} {E : XK} {σ : L2.St} {W W' : Wd} {e a b c : Expr} {es : List Expr} {pos p p' : Pos} {α β γ τ : Type} [Rep α] [Rep β] [Rep γ] [RepA τ]
/-! argument lists -/
theorem EvA.use {τ' : Type} [RepA τ'] {m : Rs τ} {k : τ → Rs τ'} (h : EvA X E σ W es m) {Q Q' : List V → Hp → Prop} (hp : PostA X.K E (m.bind k) W Q') (f : ∀ d vs W2, m = .ok d → Le W W2 → RepA.is X.K W2.G vs d → PostA X.K E (k d) W2 Q' → Q vs W2.H) : SemA X es σ W.H Q := by
  refine h W (Le.refl W) Q ?_
  cases m with
  | ok d =>
    refine fun v W2 l i => f d v W2 rfl l i ?_
    have hp' : PostA X.K E (k d) W Q' := hp
    cases hk : k d with
    | ok r =>
      rw [hk] at hp'
      exact fun v3 W3 l3 => hp' v3 W3 (l.trans l3)
    | er x =>
      rw [hk] at hp'
      exact fun W3 l3 => hp' W3 (l.trans l3)
    | no =>
      rw [hk] at hp'
      exact hp'.elim
  | er x => exact hp
  | no => exact hp
/-- a part's value, the end being any -/
theorem EvR.useA {m : Rs α} {k : α → Rs τ} (h : EvR X E σ W e m) {Q : VK} {Q' : List V → Hp → Prop} (hp : PostA X.K E (m.bind k) W Q') (f : ∀ d v W2, m = .ok d → Le W W2 → Is X.K W2.G v d → PostA X.K E (k d) W2 Q' → Q v W2.H) : SemE X e σ W.H Q := by
  refine h W (Le.refl W) Q ?_
  cases m with
  | ok d =>
    refine fun v W2 l i => f d v W2 rfl l i ?_
    have hp' : PostA X.K E (k d) W Q' := hp
    cases hk : k d with
    | ok r =>
      rw [hk] at hp'
      exact fun v3 W3 l3 => hp' v3 W3 (l.trans l3)
    | er x =>
      rw [hk] at hp'
      exact fun W3 l3 => hp' W3 (l.trans l3)
    | no =>
      rw [hk] at hp'
      exact hp'.elim
  | er x => exact hp
  | no => exact hp
theorem EvA.useR {m : Rs τ} {k : τ → Rs α} (h : EvA X E σ W es m) {Q : List V → Hp → Prop} {Q' : VK} (hp : Post X.K E (m.bind k) W Q') (f : ∀ d vs W2, m = .ok d → Le W W2 → RepA.is X.K W2.G vs d → Post X.K E (k d) W2 Q' → Q vs W2.H) : SemA X es σ W.H Q := by
  refine h W (Le.refl W) Q ?_
  cases m with
  | ok d =>
    refine fun v W2 l i => f d v W2 rfl l i ?_
    have hp' : Post X.K E (k d) W Q' := hp
    exact Post.mono hp' l
  | er x => exact hp
  | no => exact hp
theorem eva_nil : EvA X E σ W [] (.ok ()) := fun W1 l1 Q hq => sem_pa pa_nil (hq [] W1 (Le.refl _) rfl)
theorem eva_cons {m : Rs α} {mt : Rs τ} (h : EvR X E σ W e m) (ht : EvA X E σ W es mt) (hs : starEach (e :: es) X.env = (false, eval e X.env) :: starEach es X.env := by rfl) : EvA X E σ W (e :: es) (m.bind fun x => mt.bind fun y => .ok (Ar.mk x y)) := fun W1 l1 Q hq =>
  sem_pa (pa_cons pe_sem pa_sem hs) (show SemE X e σ W1.H _ from (h.mono l1).useA hq fun d v W2 e2 l2 i hq2 => (ht.mono (l1.trans l2)).use hq2 fun d3 vs W3 e3 l3 i3 hq3 =>
    hq3 (v :: vs) W3 (Le.refl _) ⟨v, vs, rfl, Rep.mono l3.g i, i3⟩)
/-- the items of a display -/
structure EvLs (X : Cx) (E : XK) (σ : L2.St) (W : Wd) (es : List Expr) (m : Rs (List α)) : Prop where
  ev : EvA X E σ W es m
  len : ∀ ds, m = .ok ds → ds.length = es.length
theorem evls_nil : EvLs X E σ W [] (.ok ([] : List α)) := ⟨fun W1 l1 Q hq => sem_pa pa_nil (hq [] W1 (Le.refl _) .nil), fun ds h => by cases h; rfl⟩
theorem evls_cons {m : Rs α} {mt : Rs (List α)} (h : EvR X E σ W e m) (ht : EvLs X E σ W es mt) (hs : starEach (e :: es) X.env = (false, eval e X.env) :: starEach es X.env := by rfl) : EvLs X E σ W (e :: es) (m.bind fun x => mt.bind fun y => .ok (x :: y)) := ⟨fun W1 l1 Q hq =>
  sem_pa (pa_cons pe_sem pa_sem hs) (show SemE X e σ W1.H _ from (h.mono l1).useA hq fun d v W2 e2 l2 i hq2 => (ht.ev.mono (l1.trans l2)).use hq2 fun d3 vs W3 e3 l3 i3 hq3 =>
    hq3 (v :: vs) W3 (Le.refl _) (.cons (Rep.mono l3.g i) i3)), fun ds h => by
    cases m with
    | ok x =>
      cases mt with
      | ok y =>
        cases h
        simp [ht.len y rfl]
      | er x => cases h
      | no => cases h
    | er x => cases h
    | no => cases h⟩
/-! displays -/
theorem evr_tup2 {ma : Rs α} {mb : Rs β} {k : Nat} (ha : EvR X E σ W a ma) (hb : EvR X E σ W b mb) (hs : starEach [a, b] X.env = (false, eval a X.env) :: starEach [b] X.env := by rfl) (hs2 : starEach [b] X.env = (false, eval b X.env) :: starEach [] X.env := by rfl) :
    EvR X E σ W (.Tuple [a, b] k pos) (ma.bind fun x => mb.bind fun y => .ok (x, y)) := fun W1 l1 Q hq =>
  sem_pe (pe_tup (pa_cons pe_sem (pa_cons pe_sem pa_nil hs2) hs)) (show SemE X a σ W1.H _ from (ha.mono l1).use hq fun x vx W2 e2 l2 ix hq2 => (hb.mono (l1.trans l2)).use hq2 fun y vy W3 e3 l3 iy hq3 =>
    ⟨by show 2 ≤ sizeLine; decide, fun q hn => hq3 (.ref q) (W3.new q (.tup [vx, vy])) (Wd.le_new hn) ⟨q, vx, vy, rfl, .inl (.inl upd_same), Rep.mono (l3.g.trans (Wd.le_new hn).g) ix, Rep.mono (Wd.le_new hn).g iy⟩⟩)
theorem evr_tup3 {ma : Rs α} {mb : Rs β} {mc : Rs γ} {k : Nat} (ha : EvR X E σ W a ma) (hb : EvR X E σ W b mb) (hc : EvR X E σ W c mc) (hs : starEach [a, b, c] X.env = (false, eval a X.env) :: starEach [b, c] X.env := by rfl) (hs2 : starEach [b, c] X.env = (false, eval b X.env) :: starEach [c] X.env := by rfl)
    (hs3 : starEach [c] X.env = (false, eval c X.env) :: starEach [] X.env := by rfl) :
    EvR X E σ W (.Tuple [a, b, c] k pos) (ma.bind fun x => mb.bind fun y => mc.bind fun z => .ok (T3.mk x y z)) := fun W1 l1 Q hq =>
  sem_pe (pe_tup (pa_cons pe_sem (pa_cons pe_sem (pa_cons pe_sem pa_nil hs3) hs2) hs)) (show SemE X a σ W1.H _ from (ha.mono l1).use hq fun x vx W2 e2 l2 ix hq2 => (hb.mono (l1.trans l2)).use hq2 fun y vy W3 e3 l3 iy hq3 =>
    (hc.mono ((l1.trans l2).trans l3)).use hq3 fun z vz W4 e4 l4 iz hq4 =>
    ⟨by show 3 ≤ sizeLine; decide, fun q hn => hq4 (.ref q) (W4.new q (.tup [vx, vy, vz])) (Wd.le_new hn) ⟨q, vx, vy, vz, rfl, .inl (.inl upd_same), Rep.mono ((l3.g.trans l4.g).trans (Wd.le_new hn).g) ix, Rep.mono (l4.g.trans (Wd.le_new hn).g) iy, Rep.mono (Wd.le_new hn).g iz⟩⟩)
theorem small_line {n : Nat} (h : n ≤ 100000) : n ≤ sizeLine := Nat.le_trans h (by decide)
theorem evr_lst {m : Rs (List α)} (h : EvLs X E σ W es m) (hz : Nat.ble es.length 100000 = true := by rfl) : EvR X E σ W (.List es pos) m := fun W1 l1 Q hq =>
  sem_pe (pe_lst pa_sem) (show SemA X es σ W1.H _ from by
    refine (h.ev.mono l1) W1 (Le.refl _) _ ?_
    cases hm : m with
    | ok ds =>
      rw [hm] at hq
      intro vs W2 l2 i
      have hl : vs.length = ds.length := paired_len i
      refine ⟨small_line (by rw [hl, h.len ds hm]; exact Nat.le_of_ble_eq_true hz), fun q hn => hq (.ref q) (W2.new q (.lst vs)) (l2.trans (Wd.le_new hn)) ⟨q, vs, rfl, upd_same, AllIs.mono (Wd.le_new hn).g i⟩⟩
    | er x =>
      rw [hm] at hq
      exact hq
    | no =>
      rw [hm] at hq
      exact hq)
/-- a display into a place of one's own: the list itself stays out of what stays -/
theorem sem_lst {m : Rs (List α)} {k : List α → Rs β} {Q : VK} {Q' : VK} (h : EvLs X E σ W es m) (hp : Post X.K E (m.bind k) W Q') (f : ∀ ds vs q W2, m = .ok ds → Le W W2 → (hn : W2.H q = none) → AllIs X.K W2.G vs ds → Q (.ref q) (W2.own q (.lst vs) hn).H)
    (hz : Nat.ble es.length 100000 = true := by rfl) : SemE X (.List es pos) σ W.H Q :=
  sem_pe (pe_lst pa_sem) (show SemA X es σ W.H _ from h.ev.useR hp fun ds vs W2 e2 l2 i _ => ⟨small_line (by rw [paired_len i, h.len ds e2]; exact Nat.le_of_ble_eq_true hz), fun q hn => f ds vs q W2 e2 l2 hn i⟩)
/-! lists read -/
theorem EvL.mono {m : Rs (List α)} (h : EvL X E σ W e m) (l : Le W W') : EvL X E σ W' e m := fun W1 l1 => h W1 (l.trans l1)
theorem EvL.use {m : Rs (List α)} {k : List α → Rs β} (h : EvL X E σ W e m) {Q Q' : VK} (hp : Post X.K E (m.bind k) W Q') (f : ∀ ds q vs W2, m = .ok ds → Le W W2 → W2.H q = some (.lst vs) → AllIs X.K W2.G vs ds → Post X.K E (k ds) W2 Q' → Q (.ref q) W2.H) : SemE X e σ W.H Q := by
  refine h W (Le.refl W) Q ?_
  cases m with
  | ok d =>
    refine fun q vs W2 l hH i => f d q vs W2 rfl l hH i ?_
    have hp' : Post X.K E (k d) W Q' := hp
    exact Post.mono hp' l
  | er x => exact hp
  | no => exact hp
/-- a list that stays -/
theorem evl_r {m : Rs (List α)} (h : EvR X E σ W e m) : EvL X E σ W e m := fun W1 l1 Q hq => h W1 l1 Q (by
  cases m with
  | ok ds =>
    intro v W2 l2 ⟨q, vs, ev, hG, i⟩
    rw [ev]
    exact hq q vs W2 l2 (W2.ex _ _ hG) i
  | er x => exact hq
  | no => exact hq)
/-- a list of one's own, in slot i -/
theorem evl_own (i : Nat) {x : Str} {ds : List α} {q : Addr} {vs : List V} {W0 : Wd} (h : Own W0 W q (.lst vs)) (hi : AllIs X.K W.G vs ds) (hs : σ[i]? = some (some (.ref q)) := by rfl) (hN : X.N[i]? = some x := by rfl)
    (hv : Vis X.env.scope x := by first | exact Or.inl rfl | exact Or.inr (Or.inl rfl) | exact Or.inr (Or.inr rfl)) (hd : (x == ("__debug__" : Str)) = false := by decide)
    (hcd : (x == ("__classdict__" : Str)) = false := by decide) : EvL X E σ W (.Name x p) (.ok ds) := fun W1 l1 Q hq =>
  sem_pe (pe_var hN hv hd hcd) ⟨.ref q, hs, hq q vs W1 (Le.refl W1) ((h.mono l1).h) (hi.mono l1.g)⟩
theorem evr_len {m : Rs (List α)} (h : EvL X E σ W a m) (hm : X.mg "len" = none) (hg : Gl X "len" := by rfl) (hs : starEach [a] X.env = (false, eval a X.env) :: starEach [] X.env := by rfl) : EvR X E σ W (.Call (.Name "len" p) [a] [] pos) (m.bind fun ds => .ok (ds.length : Int)) := fun W1 l1 Q hq =>
  sem_pe (pe_callB call_len_seq hg hm boot_len (pa_cons pe_sem pa_nil hs) (he := hs)) (show SemE X a σ W1.H _ from (h.mono l1).use hq fun ds q vs W2 e2 l2 hH i hq2 => ⟨q, vs, rfl, .inl (.inl (.inl hH)), hq2 _ W2 (Le.refl _) (by rw [paired_len i]; rfl)⟩)
def idx {δ : Type} (ds : List δ) (i : Int) : Rs δ := match atI ds i with
  | some d => .ok d
  | none => .no
theorem atI_paired {F : V → α → Prop} {vs : List V} {ds : List α} {i : Int} {d : α} (h : Paired F vs ds) (e : atI ds i = some d) : ∃ v, atI vs i = some v ∧ F v d := by
  unfold atI at e ⊢
  rw [paired_len h]
  cases q : ixN ds.length i with
  | none =>
    rw [q] at e
    cases e
  | some j =>
    rw [q] at e
    exact paired_get h e
theorem evr_ix {m : Rs (List α)} {mb : Rs Int} (h : EvL X E σ W a m) (hb : EvR X E σ W b mb) (hs : PlainIx b := by exact fun _ _ => rfl) : EvR X E σ W (.Subscript a b pos) (m.bind fun ds => mb.bind fun i => idx ds i) := fun W1 l1 Q hq =>
  sem_pe (pe_ix ix_list pe_sem pe_sem hs) (show SemE X a σ W1.H _ from (h.mono l1).use hq fun ds q vs W2 e2 l2 hH i hq2 => (hb.mono (l1.trans l2)).use hq2 fun j vj W3 e3 l3 ij hq3 => by
    cases ij
    unfold idx at hq3
    cases hx : atI ds j with
    | none =>
      rw [hx] at hq3
      exact hq3.elim
    | some d =>
      rw [hx] at hq3
      obtain ⟨v, hv, iv⟩ := atI_paired (AllIs.mono l3.g i) hx
      exact ⟨q, vs, j, v, rfl, rfl, .inl (.inl (l3.h _ _ hH)), hv, hq3 v W3 (Le.refl _) iv⟩)
/-- the script's items -/
theorem evr_ixS {m : Rs Scr} {mb : Rs Int} (h : EvR X E σ W a m) (hb : EvR X E σ W b mb) (hs : PlainIx b := by exact fun _ _ => rfl) : EvR X E σ W (.Subscript a b pos) (m.bind fun ds => mb.bind fun i => idx ds.l i) := fun W1 l1 Q hq =>
  sem_pe (pe_ix ix_list pe_sem pe_sem hs) (show SemE X a σ W1.H _ from (h.mono l1).use hq fun ds vd W2 e2 l2 i hq2 => (hb.mono (l1.trans l2)).use hq2 fun j vj W3 e3 l3 ij hq3 => by
    cases ij
    obtain ⟨q, rfl, hS⟩ := i
    unfold idx at hq3
    cases hx : atI ds.l j with
    | none =>
      rw [hx] at hq3
      exact hq3.elim
    | some d =>
      rw [hx] at hq3
      have hS3 := (l3.g.trans W3.ex).seq hS
      refine ⟨q, _, j, .int d, rfl, rfl, hS3, ?_, hq3 _ W3 (Le.refl _) rfl⟩
      unfold atI at hx ⊢
      rw [List.length_map]
      cases hj : ixN ds.l.length j with
      | none =>
        rw [hj] at hx
        cases hx
      | some n =>
        rw [hj] at hx
        show (List.map V.int ds.l)[n]? = some (V.int d)
        have hx' : ds.l[n]? = some d := hx
        rw [List.getElem?_map, hx']
        rfl)
theorem evr_lenS {m : Rs Scr} (h : EvR X E σ W a m) (hm : X.mg "len" = none) (hg : Gl X "len" := by rfl) (hs : starEach [a] X.env = (false, eval a X.env) :: starEach [] X.env := by rfl) : EvR X E σ W (.Call (.Name "len" p) [a] [] pos) (m.bind fun ds => .ok (ds.l.length : Int)) := fun W1 l1 Q hq =>
  sem_pe (pe_callB call_len_seq hg hm boot_len (pa_cons pe_sem pa_nil hs) (he := hs)) (show SemE X a σ W1.H _ from (h.mono l1).use hq fun ds vd W2 e2 l2 i hq2 => by
    obtain ⟨q, rfl, hS⟩ := i
    exact ⟨q, _, rfl, .inl (W2.ex.seq hS), hq2 _ W2 (Le.refl _) (by rw [List.length_map]; rfl)⟩)
/-- a pair's items -/
theorem evr_fst {m : Rs (α × β)} {j : Nat} (h : EvR X E σ W a m) : EvR X E σ W (.Subscript a (.Constant (.int 0) j p) pos) (m.bind fun d => .ok d.1) := fun W1 l1 Q hq =>
  sem_pe (pe_ix ix_tup pe_sem pe_int (fun _ _ => rfl)) (show SemE X a σ W1.H _ from (h.mono l1).use hq fun d vd W2 e2 l2 i hq2 => by
    obtain ⟨q, x, y, rfl, hT, ix, iy⟩ := i
    exact ⟨q, _, 0, x, rfl, rfl, Same.tup W2.ex hT, rfl, hq2 x W2 (Le.refl _) ix⟩)
theorem evr_snd {m : Rs (α × β)} {j : Nat} (h : EvR X E σ W a m) : EvR X E σ W (.Subscript a (.Constant (.int 1) j p) pos) (m.bind fun d => .ok d.2) := fun W1 l1 Q hq =>
  sem_pe (pe_ix ix_tup pe_sem pe_int (fun _ _ => rfl)) (show SemE X a σ W1.H _ from (h.mono l1).use hq fun d vd W2 e2 l2 i hq2 => by
    obtain ⟨q, x, y, rfl, hT, ix, iy⟩ := i
    exact ⟨q, _, 1, y, rfl, rfl, Same.tup W2.ex hT, rfl, hq2 y W2 (Le.refl _) iy⟩)
/-- a new list of such values -/
theorem new_list {vs : List V} {ds : List α} {W2 : Wd} {q : Addr} (hn : W2.H q = none) (i : AllIs X.K W2.G vs ds) : Is X.K (W2.new q (.lst vs)).G (.ref q) ds := ⟨q, vs, rfl, upd_same, AllIs.mono (Wd.le_new hn).g i⟩
def cut {δ : Type} (xs : List δ) (lo hi : Option Int) : List δ := (xs.drop (HT.sIx xs.length 0 lo)).take (HT.sIx xs.length xs.length hi - HT.sIx xs.length 0 lo)
theorem cut_paired {F : V → α → Prop} {vs : List V} {ds : List α} {lo hi : Option Int} (h : Paired F vs ds) : Paired F (cutV vs lo hi) (cut ds lo hi) := by
  unfold cutV cut
  rw [paired_len h]
  exact paired_take _ (paired_drop _ h)
theorem evr_slLo {m : Rs (List α)} {mb : Rs Int} (h : EvL X E σ W a m) (hb : EvR X E σ W b mb) : EvR X E σ W (.Subscript a (.Slice (some b) none none p) pos) (m.bind fun ds => mb.bind fun i => .ok (cut ds (some i) none)) := fun W1 l1 Q hq =>
  sem_pe (pe_slice sl_list pe_sem (po_some pe_sem) po_none) (show SemE X a σ W1.H _ from (h.mono l1).use hq fun ds q vs W2 e2 l2 hH i hq2 => show SemE X b σ W2.H _ from (hb.mono (l1.trans l2)).use hq2 fun j vj W3 e3 l3 ij hq3 => by
    cases ij
    exact ⟨j, rfl, q, vs, rfl, .inl (.inl (l3.h _ _ hH)), fun r hr => hq3 _ (W3.new r _) (Wd.le_new hr) (new_list hr (cut_paired (AllIs.mono l3.g i)))⟩)
theorem evr_slHi {m : Rs (List α)} {mb : Rs Int} (h : EvL X E σ W a m) (hb : EvR X E σ W b mb) : EvR X E σ W (.Subscript a (.Slice none (some b) none p) pos) (m.bind fun ds => mb.bind fun i => .ok (cut ds none (some i))) := fun W1 l1 Q hq =>
  sem_pe (pe_slice sl_list pe_sem po_none (po_some pe_sem)) (show SemE X a σ W1.H _ from (h.mono l1).use hq fun ds q vs W2 e2 l2 hH i hq2 => show SemE X b σ W2.H _ from (hb.mono (l1.trans l2)).use hq2 fun j vj W3 e3 l3 ij hq3 => by
    cases ij
    exact ⟨j, rfl, q, vs, rfl, .inl (.inl (l3.h _ _ hH)), fun r hr => hq3 _ (W3.new r _) (Wd.le_new hr) (new_list hr (cut_paired (AllIs.mono l3.g i)))⟩)
def catR {δ : Type} (x y : List δ) : Rs (List δ) := if x.length + y.length ≤ 100000 then .ok (x ++ y) else .no
theorem evr_cat {ma mb : Rs (List α)} (ha : EvR X E σ W a ma) (hb : EvR X E σ W b mb) : EvR X E σ W (.BinOp a .Add b pos) (ma.bind fun x => mb.bind fun y => catR x y) :=
  evr_pe2 (pe_op op_cat pe_sem pe_sem) ha hb fun x y W2 vx vy Q l hx hy hq => by
    obtain ⟨q, vs, rfl, hG, i⟩ := hx
    obtain ⟨r, ws, rfl, hG2, i2⟩ := hy
    have hq' := post_if hq
    refine ⟨q, r, vs, ws, rfl, rfl, W2.ex _ _ hG, W2.ex _ _ hG2, small_line (by rw [paired_len i, paired_len i2]; exact hq'.1), fun z hz => hq'.2 _ (W2.new z _) (Wd.le_new hz) (new_list hz (paired_app i i2))⟩
/-- list(xs) -/
theorem evr_list {m : Rs (List α)} (h : EvL X E σ W a m) (hm : X.mg "list" = none) (hg : Gl X "list" := by rfl) (hs : starEach [a] X.env = (false, eval a X.env) :: starEach [] X.env := by rfl) : EvR X E σ W (.Call (.Name "list" p) [a] [] pos) m := EvR.cast (m := m.bind fun ds => .ok ds) (fun W1 l1 Q hq =>
  sem_pe (pe_callTy call_list_of hg hm (by decide +kernel) (pa_cons pe_sem pa_nil hs) (he := hs)) (show SemE X a σ W1.H _ from (h.mono l1).use hq fun ds q vs W2 e2 l2 hH i hq2 => ⟨q, vs, rfl, .inl (.inl (.inl hH)), fun r hr => hq2 _ (W2.new r _) (Wd.le_new hr) (new_list hr i)⟩)) (by cases m <;> rfl)
/-- list(xs) into a place of one's own -/
theorem sem_list {m : Rs (List α)} {k : List α → Rs β} {Q Q' : VK} (h : EvL X E σ W a m) (hp : Post X.K E (m.bind k) W Q') (f : ∀ ds vs q W2, m = .ok ds → Le W W2 → (hn : W2.H q = none) → AllIs X.K W2.G vs ds → Q (.ref q) (W2.own q (.lst vs) hn).H)
    (hm : X.mg "list" = none) (hg : Gl X "list" := by rfl) (hs : starEach [a] X.env = (false, eval a X.env) :: starEach [] X.env := by rfl) : SemE X (.Call (.Name "list" p) [a] [] pos) σ W.H Q :=
  sem_pe (pe_callTy call_list_of hg hm (by decide +kernel) (pa_cons pe_sem pa_nil hs) (he := hs)) (show SemE X a σ W.H _ from h.use hp fun ds q vs W2 e2 l2 hH i hq2 => ⟨q, vs, rfl, .inl (.inl (.inl hH)), fun r hr => f ds vs r W2 e2 l2 hr i⟩)
/-! calls -/
theorem PostA_of {m : Rs τ} {k : τ → Rs α} {Q : VK} {Q2 : List V → Hp → Prop} (h : Post X.K E (m.bind k) W Q) (f : ∀ d vs W2, m = .ok d → Le W W2 → RepA.is X.K W2.G vs d → Post X.K E (k d) W2 Q → Q2 vs W2.H) : PostA X.K E m W Q2 := by
  cases m with
  | ok d =>
    have h' : Post X.K E (k d) W Q := h
    exact fun vs W2 l i => f d vs W2 rfl l i (Post.mono h' l)
  | er x => exact h
  | no => exact h
theorem evr_call {k : Nat} {f : Addr} {fd : FuncData} {ps : List Str} {m : τ → Rs α} {ma : Rs τ} {x : Str} {EE : L2.St → XK} (F : FnOk X.prog X.w X.K X.mg X.base (L2N.CX X.prog X.w) k f fd ps (spOf X.K m)) (hr : Room k X.A) (hm : X.mg x = some (.ref f)) (hk : PySem.W.keepIn X.K (.ref f) = true) (hb : Binds X.K fd ps [])
    (hx : ∀ σ, PassesAt (L2N.CX X.prog X.w) X σ (EE σ)) (ha : EvA X (EE σ) σ W (e :: es) ma) (hg : Gl X x := by rfl) (hdb : (x == ("__debug__" : Str)) = false := by decide)
    (he : starEach (e :: es) X.env = (false, eval e X.env) :: starEach es X.env := by rfl) (hpl : (backTo pos (starEach es X.env)).any (·.1) = false := by rfl) :
    EvR X (EE σ) σ W (.Call (.Name x p) (e :: es) [] pos) (ma.bind m) := fun W1 l1 Q hq =>
  sem_pe (pe_callS (E := EE) F hr hg hm hk hb hx pa_sem hdb he hpl) (show SemA X (e :: es) σ W1.H _ from (ha.mono l1).useR hq fun d vs W2 e2 l2 i hq2 => ⟨W2, d, rfl, i, hq2⟩)
theorem passN0 {X : Cx} (σ : L2.St) : PassesAt (L2N.CX X.prog X.w) X σ E0 := fun _ _ _ _ _ _ h => by
  obtain ⟨_, _, _, _, _, _, _, _, _, _, _, _, z⟩ := h
  exact z.elim
end
end Wk

set_option maxHeartbeats 1000000
namespace Wk
open PySem PySem.Spec PyProof.Rows L2
/-! ### comprehensions -/
def Rs.noer {α : Type} : Rs α → Rs α
  | .ok a => .ok a
  | _ => .no
def filtR {α β : Type} (t : α → Rs Bool) (f : α → Rs β) : List α → Rs (List β)
  | [] => .ok []
  | x :: xs => (t x).bind fun b => if b = true then (f x).bind fun y => (filtR t f xs).bind fun ys => .ok (y :: ys) else filtR t f xs
def lcR {α β : Type} (t : α → Rs Bool) (f : α → Rs β) (xs : List α) : Rs (List β) := if xs.length ≤ 100000 then (filtR t f xs).noer else .no
def mapL {α β : Type} (f : α → Rs β) : List α → Rs (List β)
  | [] => .ok []
  | x :: xs => (f x).bind fun y => (mapL f xs).bind fun ys => .ok (y :: ys)
def mapR {α β : Type} (f : α → Rs β) (xs : List α) : Rs (List β) := if xs.length ≤ 100000 then (mapL f xs).noer else .no
theorem mapL_eq {α β : Type} (f : α → Rs β) (xs : List α) : mapL f xs = filtR (fun _ => .ok true) f xs := by
  induction xs with
  | nil => rfl
  | cons x xs ih =>
    show (f x).bind _ = (f x).bind _
    rw [ih]
theorem mapR_eq {α β : Type} (f : α → Rs β) (xs : List α) : mapR f xs = lcR (fun _ => .ok true) f xs := by
  unfold mapR lcR
  rw [mapL_eq]
/-- what a range tells -/
def rng (a b : Int) : List Int := (List.range (b - a).toNat).map fun (k : Nat) => a + (k : Int)
theorem rng_get {a b : Int} {i : Nat} (h : i < (b - a).toNat) : (rng a b)[i]? = some (a + (i : Int)) := by
  unfold rng
  rw [List.getElem?_map, List.getElem?_range h]
  rfl
theorem rng_len (a b : Int) : (rng a b).length = (b - a).toNat := by
  unfold rng
  rw [List.length_map, List.length_range]
def bndR {α : Type} (n : Int) (m : Rs α) : Rs α := if -(100000 : Int) ≤ n ∧ n ≤ 100000 then m else .no
section
variable {X : Cx} {E : XK} {σ : L2.St} {W W' : Wd} {e a b c : Expr} {es : List Expr} {pos p p' : Pos} {α β γ τ : Type} [Rep α] [Rep β] [Rep γ] [RepA τ]
theorem wipe1 {j : Nat} {x : Option V} : wipe ((wipe σ [j]).set j x) [j] = wipe σ [j] := by
  show ((σ.set j none).set j x).set j none = σ.set j none
  rw [List.set_set, List.set_set]
/-- one turn of a comprehension, and its end: D is the new list, ds the things walked -/
def LcP (K : PySem.W.Frag) (W2 : Wd) (D : Addr) (t : α → Rs Bool) (f : α → Rs β) (ds : List α) (res : List β) (i : Nat) (H' : Hp) : Prop :=
  ∃ (W' : Wd) (acc : List V) (ys : List β), W'.H = H' ∧ Le W2 W' ∧ Own W2 W' D (.lst acc) ∧ AllIs K W'.G acc ys ∧ acc.length ≤ i ∧ (filtR t f (ds.drop i)).bind (fun zs => .ok (ys ++ zs)) = .ok res
theorem lcp_start {K : PySem.W.Frag} {W2 : Wd} {D : Addr} {t : α → Rs Bool} {f : α → Rs β} {ds : List α} {res : List β} (hD : W2.H D = none) (h : filtR t f ds = .ok res) : LcP K W2 D t f ds res 0 (upd W2.H D (.lst [])) :=
  ⟨W2.own D (.lst []) hD, [], [], rfl, Wd.le_own hD, ⟨hD, W2.gn hD, upd_same⟩, .nil, Nat.le_refl _, by rw [List.drop_zero, h]; rfl⟩
theorem lcp_end {K : PySem.W.Frag} {W2 : Wd} {D : Addr} {t : α → Rs Bool} {f : α → Rs β} {ds : List α} {res : List β} {H' : Hp} {Q : VK} (h : LcP K W2 D t f ds res ds.length H') (hq : Post K E (.ok res) W2 Q) : Q (.ref D) H' := by
  obtain ⟨W', acc, ys, rfl, l, o, i, _, hr⟩ := h
  rw [List.drop_length] at hr
  have e : ys = res := by
    have hr' : Rs.ok (ys ++ []) = Rs.ok res := hr
    rw [List.append_nil] at hr'
    cases hr'
    rfl
  subst e
  exact hq (.ref D) (W'.frz D (.lst acc) o.h) (o.le_frz l) ⟨D, acc, rfl, upd_same, AllIs.mono o.same_frz i⟩
/-- .. the new list not yet one that stays -/
def PostN (K : PySem.W.Frag) (E : XK) (m : Rs (List β)) (W : Wd) (Q : VK) : Prop := match m with
  | .ok ds => ∀ p vs W2, Le W W2 → W.H p = none → W2.G p = none → W2.H p = some (.lst vs) → AllIs K W2.G vs ds → Q (.ref p) W2.H
  | .er x => ∀ W2, Le W W2 → Acc K E x W2
  | .no => False
theorem postN_of {K : PySem.W.Frag} {m : Rs (List β)} {W : Wd} {Q : VK} (h : Post K E m W Q) : PostN K E m W Q := by
  cases m with
  | ok ds =>
    intro q vs W2 l hn hg hh i
    have o : Own W W2 q (.lst vs) := ⟨hn, hg, hh⟩
    exact h (.ref q) (W2.frz q (.lst vs) hh) (o.le_frz l) ⟨q, vs, rfl, upd_same, AllIs.mono o.same_frz i⟩
  | er x => exact h
  | no => exact h
theorem lcp_endN {K : PySem.W.Frag} {W2 : Wd} {D : Addr} {t : α → Rs Bool} {f : α → Rs β} {ds : List α} {res : List β} {H' : Hp} {Q : VK} (h : LcP K W2 D t f ds res ds.length H') (hq : PostN K E (.ok res) W2 Q) : Q (.ref D) H' := by
  obtain ⟨W', acc, ys, rfl, l, o, i, _, hr⟩ := h
  rw [List.drop_length] at hr
  have e : ys = res := by
    have hr' : Rs.ok (ys ++ []) = Rs.ok res := hr
    rw [List.append_nil] at hr'
    cases hr'
    rfl
  subst e
  exact hq D acc W' l o.z o.g o.h i
theorem lcp_turn {K : PySem.W.Frag} {W2 : Wd} {D : Addr} {t : α → Rs Bool} {f : α → Rs β} {ds : List α} {res : List β} {i : Nat} {H' : Hp} {d : α} {tt : TT} {te : TE} {σ2 : L2.St} (hd : ds[i]? = some d) (hi : i < 100000) (h : LcP K W2 D t f ds res i H')
    (ht : ∀ W' b (Q : Bool → Hp → Prop), Le W2 W' → t d = .ok b → (∀ W3, Le W' W3 → Q b W3.H) → tt σ2 W'.H Q)
    (he : ∀ W' y (Q : VK), Le W2 W' → f d = .ok y → (∀ v W3, Le W' W3 → Is K W3.G v y → Q v W3.H) → te σ2 W'.H Q) :
    tt σ2 H' fun b H3 => if b = true then te σ2 H3 fun y H4 => ∃ acc, H4 D = some (.lst acc) ∧ acc.length < sizeLine ∧ LcP K W2 D t f ds res (i + 1) (upd H4 D (.lst (acc ++ [y]))) else LcP K W2 D t f ds res (i + 1) H3 := by
  obtain ⟨W', acc, ys, rfl, l, o, hi2, hl, hr⟩ := h
  have hlt : i < ds.length := (List.getElem?_eq_some_iff.mp hd).1
  have hdd : ds.drop i = d :: ds.drop (i + 1) := by
    rw [List.drop_eq_getElem_cons hlt]
    congr 1
    exact (List.getElem?_eq_some_iff.mp hd).2
  rw [hdd] at hr
  unfold filtR at hr
  cases htd : t d with
  | er x =>
    rw [htd] at hr
    cases hr
  | no =>
    rw [htd] at hr
    cases hr
  | ok b =>
    rw [htd] at hr
    refine ht W' b _ l htd fun W3 l3 => ?_
    cases b with
    | false =>
      refine iteF ⟨W3, acc, ys, rfl, l.trans l3, o.mono l3, AllIs.mono l3.g hi2, by omega, ?_⟩
      simpa using hr
    | true =>
      refine iteT ?_
      cases hfd : f d with
      | er x =>
        rw [hfd] at hr
        cases hr
      | no =>
        rw [hfd] at hr
        cases hr
      | ok y =>
        rw [hfd] at hr
        refine he W3 y _ (l.trans l3) hfd fun v W4 l4 iv => ?_
        have o4 := (o.mono l3).mono l4
        refine ⟨acc, o4.h, Nat.lt_of_lt_of_le (show acc.length < 100000 by omega) (by decide), W4.put D (.lst (acc ++ [v])) o4.g, acc ++ [v], ys ++ [y], rfl, o4.le ((l.trans l3).trans l4), o4.put, paired_app (AllIs.mono (l3.g.trans l4.g) hi2) (.cons iv .nil), by simp; omega, ?_⟩
        cases hrest : filtR t f (ds.drop (i + 1)) with
        | er x =>
          simp [hrest] at hr
        | no =>
          simp [hrest] at hr
        | ok zs =>
          simp [hrest] at hr
          simp [hr]
/-- the block's own reading of an expression, a test -/
def BlkE (X : Cx) (scope : Scope) (elt : Expr) : TE := fun σ H Q => ∀ (s : Shared) (H0 : Hp) (C : Addr) (cl : List (Str × Addr)) (fp : List Addr), SemE (X.blk s H0 scope (compEnvC scope cl C X.env) fp) elt σ H Q
def BlkT (X : Cx) (scope : Scope) (elt : Expr) : TT := fun σ H Q => ∀ (s : Shared) (H0 : Hp) (C : Addr) (cl : List (Str × Addr)) (fp : List Addr), SemT (X.blk s H0 scope (compEnvC scope cl C X.env) fp) elt σ H Q
theorem pe_blk {scope : Scope} {elt : Expr} (s : Shared) (H0 : Hp) (C : Addr) (cl : List (Str × Addr)) (fp : List Addr) : PE (X.blk s H0 scope (compEnvC scope cl C X.env) fp) elt (BlkE X scope elt) := ⟨fun pins s1 σ H Q I h => h s H0 C cl fp pins s1 I⟩
theorem pt_blk {scope : Scope} {elt : Expr} (s : Shared) (H0 : Hp) (C : Addr) (cl : List (Str × Addr)) (fp : List Addr) : PT (X.blk s H0 scope (compEnvC scope cl C X.env) fp) elt (BlkT X scope elt) := ⟨fun pins s1 σ H Q I h => h s H0 C cl fp pins s1 I⟩
theorem PostN.mono {K : PySem.W.Frag} {m : Rs (List β)} {Q : VK} (h : PostN K E m W Q) (l : Le W W') : PostN K E m W' Q := by
  cases m with
  | ok ds => exact fun q vs W2 l2 hn hg hh i => h q vs W2 (l.trans l2) (l.h.free hn) hg hh i
  | er x => exact fun W2 l2 => h W2 (l.trans l2)
  | no => exact h
theorem EvL.useN {m : Rs (List α)} {k : List α → Rs (List β)} {a : Expr} (h : EvL X E σ W a m) {Q Q' : VK} (hp : PostN X.K E (m.bind k) W Q') (f : ∀ ds q vs W2, m = .ok ds → Le W W2 → W2.H q = some (.lst vs) → AllIs X.K W2.G vs ds → PostN X.K E (k ds) W2 Q' → Q (.ref q) W2.H) : SemE X a σ W.H Q := by
  refine h W (Le.refl W) Q ?_
  cases m with
  | ok d =>
    refine fun q vs W2 l hH i => f d q vs W2 rfl l hH i ?_
    have hp' : PostN X.K E (k d) W Q' := hp
    exact PostN.mono hp' l
  | er x => exact hp
  | no => exact hp
theorem EvR.useN {m : Rs α} {k : α → Rs (List β)} {a : Expr} (h : EvR X E σ W a m) {Q Q' : VK} (hp : PostN X.K E (m.bind k) W Q') (f : ∀ ds v W2, m = .ok ds → Le W W2 → Is X.K W2.G v ds → PostN X.K E (k ds) W2 Q' → Q v W2.H) : SemE X a σ W.H Q := by
  refine h W (Le.refl W) Q ?_
  cases m with
  | ok d =>
    refine fun v W2 l i => f d v W2 rfl l i ?_
    have hp' : PostN X.K E (k d) W Q' := hp
    exact PostN.mono hp' l
  | er x => exact hp
  | no => exact hp
theorem lcR_ok {t : α → Rs Bool} {f : α → Rs β} {ds : List α} {Q : VK} {K : PySem.W.Frag} (h : PostN K E (lcR t f ds) W Q) : ds.length ≤ 100000 ∧ ∃ res, filtR t f ds = .ok res ∧ PostN K E (.ok res) W Q := by
  unfold lcR at h
  by_cases hz : ds.length ≤ 100000
  · rw [if_pos hz] at h
    cases hr : filtR t f ds with
    | ok res =>
      rw [hr] at h
      exact ⟨hz, res, rfl, h⟩
    | er x =>
      rw [hr] at h
      exact h.elim
    | no =>
      rw [hr] at h
      exact h.elim
  · rw [if_neg hz] at h
    exact h.elim
theorem bndR_ok {n : Int} {m : Rs (List β)} {Q : VK} {K : PySem.W.Frag} (h : PostN K E (bndR n m) W Q) : (-(100000 : Int) ≤ n ∧ n ≤ 100000) ∧ PostN K E m W Q := by
  unfold bndR at h
  by_cases hz : -(100000 : Int) ≤ n ∧ n ≤ 100000
  · rw [if_pos hz] at h
    exact ⟨hz, h⟩
  · rw [if_neg hz] at h
    exact h.elim
section
variable {elt iter : Expr} {nm : Str} {tp : Pos} {j : Nat} {scope : Scope} {mx : Rs (List α)} {t : α → Rs Bool} {f : α → Rs β}
/-- what the reading of a comprehension over a list asks -/
theorem lc_read {tt : TT} (hl : EvL X E σ W iter mx)
    (ht : ∀ W' v x b (Q : Bool → Hp → Prop), Le W W' → Is X.K W'.G v x → t x = .ok b → (∀ W3, Le W' W3 → Q b W3.H) → tt ((wipe σ [j]).set j (some v)) W'.H Q)
    (he : ∀ W' v x, Le W W' → Is X.K W'.G v x → ∀ s H0 C cl fp, EvR (X.blk s H0 scope (compEnvC scope cl C X.env) fp) E0 ((wipe σ [j]).set j (some v)) W' elt (f x))
    {W1 : Wd} (l1 : Le W W1) {Q : VK} (hq : PostN X.K E (mx.bind fun xs => lcR t f xs) W1 Q) : tLc (iList X.K (SemE X iter)) (gName j) tt (BlkE X scope elt) [j] σ W1.H Q :=
  show SemE X iter σ W1.H _ from (hl.mono l1).useN hq fun ds q vs W2 e2 l2 hH i hq2 => by
    obtain ⟨hz, res, hr, hq3⟩ := lcR_ok hq2
    refine ⟨q, rfl, ⟨vs, .inl (.inl hH)⟩, fun D hD => lc_list (xs := vs) (LcP X.K W2 D t f ds res) (lcp_start hD hr) (fun k H' hk ⟨W', _, _, e, l, _⟩ => by rw [← e]; exact .inl (.inl (l.h _ _ hH))) (fun k x H' hx hP => ?_) (fun H' hP => by
      rw [paired_len i] at hP
      exact lcp_endN hP hq3)⟩
    have hk : k < vs.length := (List.getElem?_eq_some_iff.mp hx).1
    have hk2 : k < ds.length := by rw [← paired_len i]; exact hk
    obtain ⟨x', hx', ix⟩ := paired_get i (List.getElem?_eq_getElem hk2)
    rw [hx] at hx'
    cases hx'
    refine ⟨wipe1, lcp_turn (List.getElem?_eq_getElem hk2) (by omega) hP (fun W' b Q' l' hb hQ => ht W' x _ b Q' ((l1.trans l2).trans l') (Rep.mono l'.g ix) hb hQ) (fun W' y Q' l' hy hQ s H0 C cl fp => he W' x _ ((l1.trans l2).trans l') (Rep.mono l'.g ix) s H0 C cl fp W' (Le.refl _) Q' ?_)⟩
    rw [hy]
    exact hQ
/-- over a range -/
theorem lc_readR {tt : TT} {t : Int → Rs Bool} {f : Int → Rs β} {mn : Rs Int} {a : Expr} (hn : EvR X E σ W a mn)
    (ht : ∀ W' (x : Int) b (Q : Bool → Hp → Prop), Le W W' → t x = .ok b → (∀ W3, Le W' W3 → Q b W3.H) → tt ((wipe σ [j]).set j (some (.int x))) W'.H Q)
    (he : ∀ W' (x : Int), Le W W' → ∀ s H0 C cl fp, EvR (X.blk s H0 scope (compEnvC scope cl C X.env) fp) E0 ((wipe σ [j]).set j (some (.int x))) W' elt (f x))
    (hs : starEach [a] X.env = (false, eval a X.env) :: starEach [] X.env)
    {W1 : Wd} (l1 : Le W W1) {Q : VK} (hq : PostN X.K E (mn.bind fun n => bndR n (lcR t f (rng 0 n))) W1 Q) : tLc (iRng1 (tCons (SemE X a) tNil)) (gName j) tt (BlkE X scope elt) [j] σ W1.H Q :=
  show SemE X a σ W1.H _ from (hn.mono l1).useN hq fun n vn W2 e2 l2 i hq2 => by
    cases i
    obtain ⟨hb, hq2⟩ := bndR_ok hq2
    obtain ⟨hz, res, hr, hq3⟩ := lcR_ok hq2
    rw [rng_len] at hz
    have hz' : n.toNat ≤ 100000 := by simpa using hz
    refine ⟨n, rfl, ?_, ?_, fun D hD => lc_range (lo := 0) (n := n.toNat) (LcP X.K W2 D t f (rng 0 n) res) (lcp_start hD hr) (fun k H' hk hP => ?_) (fun H' hP => lcp_endN (t := t) (f := f) (ds := rng 0 n) (res := res) (by rw [rng_len, Int.sub_zero]; exact hP) hq3)⟩
    · omega
    · omega
    · refine ⟨wipe1, lcp_turn (rng_get (by simpa using hk)) (by omega) hP (fun W' b Q' l' hb hQ => ht W' _ b Q' ((l1.trans l2).trans l') hb hQ) (fun W' y Q' l' hy hQ s H0 C cl fp => he W' _ ((l1.trans l2).trans l') s H0 C cl fp W' (Le.refl _) Q' ?_)⟩
      rw [hy]
      exact hQ
end
end
end Wk

set_option maxHeartbeats 1000000
namespace Wk
open PySem PySem.Spec PyProof.Rows L2
section
variable {X : Cx} {E : XK} {σ : L2.St} {W W' : Wd} {e a b c : Expr} {es : List Expr} {pos p p' : Pos} {α β γ τ : Type} [Rep α] [Rep β] [Rep γ] [RepA τ]
/-! a reading that tells m -/
def RfN (X : Cx) (E : XK) (σ : L2.St) (W : Wd) (t : TE) (m : Rs (List α)) : Prop := ∀ W1, Le W W1 → ∀ Q : VK, PostN X.K E m W1 Q → t σ W1.H Q
def Rf (X : Cx) (E : XK) (σ : L2.St) (W : Wd) (t : TE) (m : Rs α) : Prop := ∀ W1, Le W W1 → ∀ Q : VK, Post X.K E m W1 Q → t σ W1.H Q
theorem RfN.rf {t : TE} {m : Rs (List α)} (h : RfN X E σ W t m) : Rf X E σ W t m := fun W1 l1 Q hq => h W1 l1 Q (postN_of hq)
theorem evr_rf {t : TE} {m : Rs α} (p : PE X e t) (h : Rf X E σ W t m) : EvR X E σ W e m := fun W1 l1 Q hq => sem_pe p (h W1 l1 Q hq)
section
variable {elt iter cnd : Expr} {nm : Str} {tp sp : Pos} {j : Nat} {scope : Scope}
theorem pts_yes {X : Cx} : PTs X [] tYes := pts_nil
/-- [elt for nm in iter] -/
theorem rf_lc {mx : Rs (List α)} {f : α → Rs β} (hl : EvL X E σ W iter mx)
    (he : ∀ W' v x, Le W W' → Is X.K W'.G v x → ∀ s H0 C cl fp, EvR (X.blk s H0 scope (compEnvC scope cl C X.env) fp) E0 ((wipe σ [j]).set j (some v)) W' elt (f x)) :
    RfN X E σ W (tLc (iList X.K (SemE X iter)) (gName j) tYes (BlkE X scope elt) [j]) (mx.bind fun xs => mapR f xs) := fun W1 l1 Q hq =>
  lc_read (t := fun _ => .ok true) hl (fun W' v x b Q' _ _ hb hQ => by cases hb; exact hQ W' (Le.refl _)) he l1 (by simpa only [mapR_eq] using hq)
theorem evr_lc {mx : Rs (List α)} {f : α → Rs β} (hc : X.calm = true) (hN : X.N.Nodup) (ok : BlkOk X.N X.env.scope scope [(nm, j)]) (hl : EvL X E σ W iter mx)
    (hj : ∀ (s : Shared) (H0 : Hp) (C : Addr) (cl : List (Str × Addr)) (fp : List Addr), PG (X.blk s H0 scope (compEnvC scope cl C X.env) fp) (.Name nm tp) (gName j))
    (he : ∀ W' v x, Le W W' → Is X.K W'.G v x → ∀ s H0 C cl fp, EvR (X.blk s H0 scope (compEnvC scope cl C X.env) fp) E0 ((wipe σ [j]).set j (some v)) W' elt (f x))
    (hs : ∀ x, foldedSetIterable iter X.env x = pure x := by intro _; rfl) :
    EvR X E σ W (.ListComp elt [⟨.Name nm tp, iter, [], 0⟩] scope pos) (mx.bind fun xs => mapR f xs) :=
  evr_rf (pe_lc (own := [(nm, j)]) (g := gName j) (tt := tYes) hc hN (pi_list pe_sem) ok hj (fun _ _ _ _ _ => pts_nil) (fun s H0 C cl fp => pe_blk s H0 C cl fp) hs) (rf_lc hl he).rf
/-- .. with an if -/
theorem rf_lcT {mx : Rs (List α)} {t : α → Rs Bool} {f : α → Rs β} (hl : EvL X E σ W iter mx)
    (ht : ∀ W' v x, Le W W' → Is X.K W'.G v x → ∀ s H0 C cl fp, EvT (X.blk s H0 scope (compEnvC scope cl C X.env) fp) E0 ((wipe σ [j]).set j (some v)) W' cnd (t x))
    (he : ∀ W' v x, Le W W' → Is X.K W'.G v x → ∀ s H0 C cl fp, EvR (X.blk s H0 scope (compEnvC scope cl C X.env) fp) E0 ((wipe σ [j]).set j (some v)) W' elt (f x)) :
    RfN X E σ W (tLc (iList X.K (SemE X iter)) (gName j) (BlkT X scope cnd) (BlkE X scope elt) [j]) (mx.bind fun xs => lcR t f xs) := fun W1 l1 Q hq =>
  lc_read (t := t) hl (fun W' v x b Q' l' i hb hQ s H0 C cl fp => ht W' v x l' i s H0 C cl fp W' (Le.refl _) Q' (by rw [hb]; exact hQ)) he l1 hq
theorem evr_lcT {mx : Rs (List α)} {t : α → Rs Bool} {f : α → Rs β} (hc : X.calm = true) (hN : X.N.Nodup) (ok : BlkOk X.N X.env.scope scope [(nm, j)]) (hl : EvL X E σ W iter mx)
    (hj : ∀ (s : Shared) (H0 : Hp) (C : Addr) (cl : List (Str × Addr)) (fp : List Addr), PG (X.blk s H0 scope (compEnvC scope cl C X.env) fp) (.Name nm tp) (gName j))
    (ht : ∀ W' v x, Le W W' → Is X.K W'.G v x → ∀ s H0 C cl fp, EvT (X.blk s H0 scope (compEnvC scope cl C X.env) fp) E0 ((wipe σ [j]).set j (some v)) W' cnd (t x))
    (he : ∀ W' v x, Le W W' → Is X.K W'.G v x → ∀ s H0 C cl fp, EvR (X.blk s H0 scope (compEnvC scope cl C X.env) fp) E0 ((wipe σ [j]).set j (some v)) W' elt (f x))
    (hs : ∀ x, foldedSetIterable iter X.env x = pure x := by intro _; rfl) :
    EvR X E σ W (.ListComp elt [⟨.Name nm tp, iter, [cnd], 0⟩] scope pos) (mx.bind fun xs => lcR t f xs) :=
  evr_rf (pe_lc (own := [(nm, j)]) (g := gName j) (tt := BlkT X scope cnd) hc hN (pi_list pe_sem) ok hj (fun s H0 C cl fp => pts_one (pt_blk s H0 C cl fp)) (fun s H0 C cl fp => pe_blk s H0 C cl fp) hs) (rf_lcT hl ht he).rf
/-- [elt for nm in range(a)] -/
theorem rf_lcG {mn : Rs Int} {f : Int → Rs β} (hn : EvR X E σ W a mn)
    (he : ∀ W' (x : Int), Le W W' → ∀ s H0 C cl fp, EvR (X.blk s H0 scope (compEnvC scope cl C X.env) fp) E0 ((wipe σ [j]).set j (some (.int x))) W' elt (f x))
    (hs : starEach [a] X.env = (false, eval a X.env) :: starEach [] X.env := by rfl) :
    RfN X E σ W (tLc (iRng1 (tCons (SemE X a) tNil)) (gName j) tYes (BlkE X scope elt) [j]) (mn.bind fun n => bndR n (mapR f (rng 0 n))) := fun W1 l1 Q hq =>
  lc_readR (t := fun _ => .ok true) hn (fun W' x b Q' _ hb hQ => by cases hb; exact hQ W' (Le.refl _)) he hs l1 (by simpa only [mapR_eq] using hq)
theorem evr_lcG {mn : Rs Int} {f : Int → Rs β} (hc : X.calm = true) (hN : X.N.Nodup) (ok : BlkOk X.N X.env.scope scope [(nm, j)]) (hm : X.mg "range" = none) (hn : EvR X E σ W a mn)
    (hj : ∀ (s : Shared) (H0 : Hp) (C : Addr) (cl : List (Str × Addr)) (fp : List Addr), PG (X.blk s H0 scope (compEnvC scope cl C X.env) fp) (.Name nm tp) (gName j))
    (he : ∀ W' (x : Int), Le W W' → ∀ s H0 C cl fp, EvR (X.blk s H0 scope (compEnvC scope cl C X.env) fp) E0 ((wipe σ [j]).set j (some (.int x))) W' elt (f x))
    (hg : Gl X "range" := by rfl) (hs : starEach [a] X.env = (false, eval a X.env) :: starEach [] X.env := by rfl) (hs1 : starEach [a] X.env = [(false, eval a X.env)] := by rfl)
    (hfs : ∀ x, foldedSetIterable (.Call (.Name "range" p) [a] [] p') X.env x = pure x := by intro _; rfl) :
    EvR X E σ W (.ListComp elt [⟨.Name nm tp, .Call (.Name "range" p) [a] [] p', [], 0⟩] scope pos) (mn.bind fun n => bndR n (mapR f (rng 0 n))) :=
  evr_rf (pe_lc (own := [(nm, j)]) (g := gName j) (tt := tYes) hc hN (pi_range1 hg hm (pa_cons pe_sem pa_nil hs) hs1) ok hj (fun _ _ _ _ _ => pts_nil) (fun s H0 C cl fp => pe_blk s H0 C cl fp) hfs) (rf_lcG hn he hs).rf
end
/-! isinstance -/
class TyN (α : Type) [Rep α] where
  nm : α → String
  ty : ∀ {K : PySem.W.Frag} {H : Hp} {v : V} {d : α}, Rep.is K H v d → TyX K H v (.type (nm d))
instance : TyN Int := ⟨fun _ => "int", fun h => by cases h; exact .base (.int _)⟩
instance : TyN Bool := ⟨fun _ => "bool", fun h => by cases h; exact .base (.bl _)⟩
instance : TyN Str := ⟨fun _ => "str", fun h => by cases h; exact .base (.str _)⟩
instance : TyN Unit := ⟨fun _ => "NoneType", fun h => by cases h; exact .base .non⟩
instance : TyN (List α) := ⟨fun _ => "list", fun ⟨q, vs, h, hG, _⟩ => by rw [h]; exact .base (.lst hG)⟩
theorem ty_tup {K : PySem.W.Frag} {H : Hp} {q : Addr} {vs : List V} (h : SqT K H q vs) : TyX K H (.ref q) (.type "tuple") := by
  rcases h with (h | ⟨o, h⟩) | ⟨o, its, n, h, hc, _⟩
  · exact .base (.tup h)
  · exact .fTuple h
  · exact .kTuple h hc
instance : TyN (α × β) := ⟨fun _ => "tuple", fun ⟨q, x, y, h, hG, _⟩ => by rw [h]; exact ty_tup hG⟩
instance : TyN (T3 α β γ) := ⟨fun _ => "tuple", fun ⟨q, x, y, z, h, hG, _⟩ => by rw [h]; exact ty_tup hG⟩
instance [TyN α] : TyN (Option α) := ⟨fun d => match d with | none => "NoneType" | some a => TyN.nm a, fun {K H v d} h => by
  cases d with
  | none =>
    cases h
    exact .base .non
  | some a => exact TyN.ty h.1⟩
theorem evr_isi [TyN α] {m : Rs α} {T : String} {x : Str} {g : α → Bool} (h : EvR X E σ W a m) (hx : X.mg x = none) (hv : bootBuiltins x = some (.type T)) (hi : X.mg "isinstance" = none) (hb : ∀ d : α, kitB (TyN.nm d) T = some (g d)) (hgx : Gl X x := by rfl) (hg : Gl X "isinstance" := by rfl) (hn : x ≠ "__name__" := by decide)
    (hd : (x == ("__debug__" : Str)) = false := by decide) (hs : starEach [a, .Name x p'] X.env = (false, eval a X.env) :: starEach [.Name x p'] X.env := by rfl) (hs2 : starEach [.Name x p'] X.env = (false, eval (.Name x p') X.env) :: starEach [] X.env := by rfl)
    (hpl : (backTo pos (starEach [.Name x p'] X.env)).any (·.1) = false := by rfl) :
    EvR X E σ W (.Call (.Name "isinstance" p) [a, .Name x p'] [] pos) (m.bind fun d => .ok (g d)) := fun W1 l1 Q hq =>
  sem_pe (pe_callB call_isi hg hi boot_isinstance (pa_cons pe_sem (pa_cons (pe_bltn (v := .ty T) hgx hx hv rfl hn hd) pa_nil hs2) hs) (he := hs) (hpl := hpl)) (show SemE X a σ W1.H _ from (h.mono l1).use hq fun d v W2 e2 l2 i hq2 =>
    ⟨v, .ty T, _, _, g d, rfl, .ty T, TyN.ty (Rep.mono W2.ex i), kit_ty (hb d), hq2 _ W2 (Le.refl _) rfl⟩)
/-! sums, int(..), in -/
theorem ints_eq {K : PySem.W.Frag} {G : Hp} : ∀ {vs : List V} {ds : List Int}, AllIs K G vs ds → vs = ds.map V.int
  | _, _, .nil => rfl
  | _, _, .cons h t => by
    cases h
    rw [ints_eq t]
    rfl
theorem evr_sum {m : Rs (List Int)} (h : EvL X E σ W a m) (hm : X.mg "sum" = none) (hcalm : X.calm = true) (hg : Gl X "sum" := by rfl) (hs : starEach [a] X.env = (false, eval a X.env) :: starEach [] X.env := by rfl) : EvR X E σ W (.Call (.Name "sum" p) [a] [] pos) (m.bind fun ds => .ok ds.sum) := fun W1 l1 Q hq =>
  sem_pe (pe_callB (cr_sum hcalm) hg hm boot_sum (pa_cons pe_sem pa_nil hs) (he := hs)) (show SemE X a σ W1.H _ from (h.mono l1).use hq fun ds q vs W2 e2 l2 hH i hq2 => ⟨q, ds, rfl, by rw [← ints_eq i]; exact .inl (.inl hH), hq2 _ W2 (Le.refl _) rfl⟩)
theorem evr_intB {m : Rs Bool} (h : EvR X E σ W a m) (hm : X.mg "int" = none) (hg : Gl X "int" := by rfl) (hs : starEach [a] X.env = (false, eval a X.env) :: starEach [] X.env := by rfl) : EvR X E σ W (.Call (.Name "int" p) [a] [] pos) (m.bind fun d => .ok (if d then 1 else 0 : Int)) := fun W1 l1 Q hq =>
  sem_pe (pe_callTy call_int1 hg hm (by decide +kernel) (pa_cons pe_sem pa_nil hs) (he := hs)) (show SemE X a σ W1.H _ from (h.mono l1).use hq fun d v W2 e2 l2 i hq2 => .inr ⟨d, by rw [show v = V.bl d from i], hq2 _ W2 (Le.refl _) rfl⟩)
/-- plain values in a list -/
theorem inV_eq [Pl α] [DecidableEq α] (hf : ∀ x y : α, eqV (Pl.v y) (Pl.v x) = decide (y = x)) {K : PySem.W.Frag} {G : Hp} {x : α} : ∀ {vs : List V} {ds : List α}, AllIs K G vs ds → inV (Pl.v x) vs = decide (x ∈ ds)
  | _, _, .nil => rfl
  | _, _, @Paired.cons _ _ _ v y vs ds h t => by
    have ih := inV_eq hf (x := x) t
    unfold inV at ih ⊢
    rw [List.any_cons, ih, Pl.is h, hf]
    by_cases q : y = x
    · subst q
      simp
    · have q' : ¬ x = y := fun z => q z.symm
      simp [q, q']
theorem evr_in [Pl α] [DecidableEq α] {ma : Rs α} {mb : Rs (List α)} (ha : EvR X E σ W a ma) (hb : EvL X E σ W b mb) (hf : ∀ x y : α, eqV (Pl.v y) (Pl.v x) = decide (y = x)) (hfl : ∀ x : α, flatV (Pl.v x) = true) (hm : behindInMarks .In b = false := by with_unfolding_all rfl) :
    EvR X E σ W (.Compare a [.In] [b] pos) (ma.bind fun x => mb.bind fun y => .ok (decide (x ∈ y))) := fun W1 l1 Q hq =>
  sem_pe (pe_cmpR op_in_seq pe_sem pe_sem hm) (show SemE X a σ W1.H _ from (ha.mono l1).use hq fun x vx W2 e2 l2 i hq2 => show SemE X b σ W2.H _ from (hb.mono (l1.trans l2)).use hq2 fun ds q vs W3 e3 l3 hH i3 hq3 =>
    ⟨q, vs, rfl, .inl (.inl (.inl hH)), by rw [Pl.is i]; exact hfl x, by
      rw [List.all_eq_true]
      intro v hv
      obtain ⟨k, hk, rfl⟩ := List.mem_iff_getElem.mp hv
      have hk2 : k < ds.length := by rw [← paired_len i3]; exact hk
      obtain ⟨v', hv', iv⟩ := paired_get i3 (List.getElem?_eq_getElem hk2)
      rw [List.getElem?_eq_getElem hk] at hv'
      cases hv'
      rw [Pl.is iv]
      exact hfl _, hq3 _ W3 (Le.refl _) (by
      show V.bl (inV vx vs) = V.bl _
      rw [Pl.is i, inV_eq hf i3])⟩)
theorem evt_in [Pl α] [DecidableEq α] {ma : Rs α} {mb : Rs (List α)} (ha : EvR X E σ W a ma) (hb : EvL X E σ W b mb) (hf : ∀ x y : α, eqV (Pl.v y) (Pl.v x) = decide (y = x)) (hfl : ∀ x : α, flatV (Pl.v x) = true) (hm : behindInMarks .In b = false := by with_unfolding_all rfl) :
    EvT X E σ W (.Compare a [.In] [b] pos) (ma.bind fun x => mb.bind fun y => .ok (decide (x ∈ y))) := fun W1 l1 Q hq =>
  sem_pt (pt_cmpR op_in_seq pe_sem pe_sem hm) (show SemE X a σ W1.H _ from (ha.mono l1).use (postT_R hq) fun x vx W2 e2 l2 i hq2 => show SemE X b σ W2.H _ from (hb.mono (l1.trans l2)).use hq2 fun ds q vs W3 e3 l3 hH i3 hq3 =>
    ⟨q, vs, rfl, .inl (.inl (.inl hH)), by rw [Pl.is i]; exact hfl x, by
      rw [List.all_eq_true]
      intro v hv
      obtain ⟨k, hk, rfl⟩ := List.mem_iff_getElem.mp hv
      have hk2 : k < ds.length := by rw [← paired_len i3]; exact hk
      obtain ⟨v', hv', iv⟩ := paired_get i3 (List.getElem?_eq_getElem hk2)
      rw [List.getElem?_eq_getElem hk] at hv'
      cases hv'
      rw [Pl.is iv]
      exact hfl _, hq3 _ W3 (Le.refl _) (by
      show V.bl (inV vx vs) = V.bl _
      rw [Pl.is i, inV_eq hf i3])⟩)
theorem eqV_int (x y : Int) : eqV (Pl.v y) (Pl.v x) = decide (y = x) := rfl
theorem eqV_str (x y : Str) : eqV (Pl.v y) (Pl.v x) = decide (y = x) := by
  show (y == x) = decide (y = x)
  rw [Bool.eq_iff_iff]
  simp
/-! == of data -/
class RepD (α : Type) [Rep α] where
  dat : α → PyData
  dp : ∀ {K : PySem.W.Frag} {H : Hp} {v : V} {d : α}, Rep.is K H v d → Dp K H v (dat d)
instance : RepD Int := ⟨.int, fun h => by cases h; exact .int _⟩
instance : RepD Bool := ⟨.bool, fun h => by cases h; exact .bl _⟩
instance : RepD Str := ⟨.str, fun h => by cases h; exact .str _⟩
instance : RepD Unit := ⟨fun _ => .none, fun h => by cases h; exact .non⟩
instance [RepD α] : RepD (Option α) := ⟨fun d => match d with | none => .none | some a => RepD.dat a, fun {K H v d} h => by
  cases d with
  | none =>
    cases h
    exact .non
  | some a => exact RepD.dp h.1⟩
theorem dp_all [RepD α] {K : PySem.W.Frag} {H : Hp} : ∀ {vs : List V} {ds : List α}, AllIs K H vs ds → DpAll K H vs (ds.map RepD.dat)
  | _, _, .nil => .nil
  | _, _, .cons h t => .cons (RepD.dp h) (dp_all t)
instance [RepD α] : RepD (List α) := ⟨fun ds => .list (ds.map RepD.dat), fun ⟨q, vs, h, hG, i⟩ => by rw [h]; exact .lst (.inl (.inl hG)) (dp_all i)⟩
instance [RepD α] [RepD β] : RepD (α × β) := ⟨fun d => .tuple [RepD.dat d.1, RepD.dat d.2], fun ⟨q, x, y, h, hG, i, i2⟩ => by rw [h]; exact .tup hG (.cons (RepD.dp i) (.cons (RepD.dp i2) .nil))⟩
instance [RepD α] [RepD β] [RepD γ] : RepD (T3 α β γ) := ⟨fun d => .tuple [RepD.dat d.a, RepD.dat d.b, RepD.dat d.c], fun ⟨q, x, y, z, h, hG, i, i2, i3⟩ => by rw [h]; exact .tup hG (.cons (RepD.dp i) (.cons (RepD.dp i2) (.cons (RepD.dp i3) .nil)))⟩
/-- a list of three things of different kinds -/
structure L3 (α β γ : Type) where
  a : α
  b : β
  c : γ
instance : Rep (L3 α β γ) := ⟨fun K H v d => ∃ p x y z, v = .ref p ∧ H p = some (.lst [x, y, z]) ∧ Rep.is K H x d.a ∧ Rep.is K H y d.b ∧ Rep.is K H z d.c,
  fun e ⟨p, x, y, z, h1, h2, h3, h4, h5⟩ => ⟨p, x, y, z, h1, e _ _ h2, Rep.mono e h3, Rep.mono e h4, Rep.mono e h5⟩⟩
instance [RepD α] [RepD β] [RepD γ] : RepD (L3 α β γ) := ⟨fun d => .list [RepD.dat d.a, RepD.dat d.b, RepD.dat d.c], fun ⟨q, x, y, z, h, hG, i, i2, i3⟩ => by rw [h]; exact .lst (.inl (.inl hG)) (.cons (RepD.dp i) (.cons (RepD.dp i2) (.cons (RepD.dp i3) .nil)))⟩
theorem evr_l3 {ma : Rs α} {mb : Rs β} {mc : Rs γ} (ha : EvR X E σ W a ma) (hb : EvR X E σ W b mb) (hc : EvR X E σ W c mc) (hs : starEach [a, b, c] X.env = (false, eval a X.env) :: starEach [b, c] X.env := by rfl) (hs2 : starEach [b, c] X.env = (false, eval b X.env) :: starEach [c] X.env := by rfl)
    (hs3 : starEach [c] X.env = (false, eval c X.env) :: starEach [] X.env := by rfl) :
    EvR X E σ W (.List [a, b, c] pos) (ma.bind fun x => mb.bind fun y => mc.bind fun z => .ok (L3.mk x y z)) := fun W1 l1 Q hq =>
  sem_pe (pe_lst (pa_cons pe_sem (pa_cons pe_sem (pa_cons pe_sem pa_nil hs3) hs2) hs)) (show SemE X a σ W1.H _ from (ha.mono l1).use hq fun x vx W2 e2 l2 ix hq2 => (hb.mono (l1.trans l2)).use hq2 fun y vy W3 e3 l3 iy hq3 =>
    (hc.mono ((l1.trans l2).trans l3)).use hq3 fun z vz W4 e4 l4 iz hq4 =>
    ⟨by show 3 ≤ sizeLine; decide, fun q hn => hq4 (.ref q) (W4.new q (.lst [vx, vy, vz])) (Wd.le_new hn) ⟨q, vx, vy, vz, rfl, upd_same, Rep.mono ((l3.g.trans l4.g).trans (Wd.le_new hn).g) ix, Rep.mono (l4.g.trans (Wd.le_new hn).g) iy, Rep.mono (Wd.le_new hn).g iz⟩⟩)
theorem evr_l3_0 {m : Rs (L3 α β γ)} {j : Nat} (h : EvR X E σ W a m) : EvR X E σ W (.Subscript a (.Constant (.int 0) j p) pos) (m.bind fun d => .ok d.a) := fun W1 l1 Q hq =>
  sem_pe (pe_ix ix_list pe_sem pe_int (fun _ _ => rfl)) (show SemE X a σ W1.H _ from (h.mono l1).use hq fun d vd W2 e2 l2 i hq2 => by
    obtain ⟨q, x, y, z, rfl, hT, ix, iy, iz⟩ := i
    exact ⟨q, _, 0, x, rfl, rfl, .inl (.inl (W2.ex _ _ hT)), rfl, hq2 x W2 (Le.refl _) ix⟩)
theorem evr_l3_1 {m : Rs (L3 α β γ)} {j : Nat} (h : EvR X E σ W a m) : EvR X E σ W (.Subscript a (.Constant (.int 1) j p) pos) (m.bind fun d => .ok d.b) := fun W1 l1 Q hq =>
  sem_pe (pe_ix ix_list pe_sem pe_int (fun _ _ => rfl)) (show SemE X a σ W1.H _ from (h.mono l1).use hq fun d vd W2 e2 l2 i hq2 => by
    obtain ⟨q, x, y, z, rfl, hT, ix, iy, iz⟩ := i
    exact ⟨q, _, 1, y, rfl, rfl, .inl (.inl (W2.ex _ _ hT)), rfl, hq2 y W2 (Le.refl _) iy⟩)
theorem evr_l3_2 {m : Rs (L3 α β γ)} {j : Nat} (h : EvR X E σ W a m) : EvR X E σ W (.Subscript a (.Constant (.int 2) j p) pos) (m.bind fun d => .ok d.c) := fun W1 l1 Q hq =>
  sem_pe (pe_ix ix_list pe_sem pe_int (fun _ _ => rfl)) (show SemE X a σ W1.H _ from (h.mono l1).use hq fun d vd W2 e2 l2 i hq2 => by
    obtain ⟨q, x, y, z, rfl, hT, ix, iy, iz⟩ := i
    exact ⟨q, _, 2, z, rfl, rfl, .inl (.inl (W2.ex _ _ hT)), rfl, hq2 z W2 (Le.refl _) iz⟩)
/-- == of data of two kinds (each of a shape that the machine compares) -/
def eqD [RepD α] [RepD β] (x : α) (y : β) : Rs Bool := if SeqAt.shaped (RepD.dat x) = true ∧ SeqAt.shaped (RepD.dat y) = true then .ok (PyData.eqv (RepD.dat x) (RepD.dat y)) else .no
def neD [RepD α] [RepD β] (x : α) (y : β) : Rs Bool := if SeqAt.shaped (RepD.dat x) = true ∧ SeqAt.shaped (RepD.dat y) = true then .ok (!PyData.eqv (RepD.dat x) (RepD.dat y)) else .no
theorem evr_eqD [RepD α] [RepD β] {ma : Rs α} {mb : Rs β} (hu : X.A.units + 64 < cLine) (ha : EvR X E σ W a ma) (hb : EvR X E σ W b mb) : EvR X E σ W (.Compare a [.Eq] [b] pos) (ma.bind fun x => mb.bind fun y => eqD x y) :=
  evr_pe2 (pe_cmpR (op_eqD hu) pe_sem pe_sem (nomark _)) ha hb fun x y W2 vx vy Q l hx hy hq => ⟨_, _, RepD.dp (Rep.mono W2.ex hx), RepD.dp (Rep.mono W2.ex hy), (post_if hq).1.1, (post_if hq).1.2, (post_if hq).2 _ W2 (Le.refl _) rfl⟩
theorem evr_neD [RepD α] [RepD β] {ma : Rs α} {mb : Rs β} (hu : X.A.units + 64 < cLine) (ha : EvR X E σ W a ma) (hb : EvR X E σ W b mb) : EvR X E σ W (.Compare a [.NotEq] [b] pos) (ma.bind fun x => mb.bind fun y => neD x y) :=
  evr_pe2 (pe_cmpR (op_neD hu) pe_sem pe_sem (nomark _)) ha hb fun x y W2 vx vy Q l hx hy hq => ⟨_, _, RepD.dp (Rep.mono W2.ex hx), RepD.dp (Rep.mono W2.ex hy), (post_if hq).1.1, (post_if hq).1.2, (post_if hq).2 _ W2 (Le.refl _) rfl⟩
theorem evt_eqD [RepD α] [RepD β] {ma : Rs α} {mb : Rs β} (hu : X.A.units + 64 < cLine) (ha : EvR X E σ W a ma) (hb : EvR X E σ W b mb) : EvT X E σ W (.Compare a [.Eq] [b] pos) (ma.bind fun x => mb.bind fun y => eqD x y) :=
  evt_pe2 (pt_cmpR (op_eqD hu) pe_sem pe_sem (nomark _)) ha hb fun x y W2 vx vy Q l hx hy hq => ⟨_, _, RepD.dp (Rep.mono W2.ex hx), RepD.dp (Rep.mono W2.ex hy), (post_if hq).1.1, (post_if hq).1.2, (post_if hq).2 _ W2 (Le.refl _) rfl⟩
theorem evt_neD [RepD α] [RepD β] {ma : Rs α} {mb : Rs β} (hu : X.A.units + 64 < cLine) (ha : EvR X E σ W a ma) (hb : EvR X E σ W b mb) : EvT X E σ W (.Compare a [.NotEq] [b] pos) (ma.bind fun x => mb.bind fun y => neD x y) :=
  evt_pe2 (pt_cmpR (op_neD hu) pe_sem pe_sem (nomark _)) ha hb fun x y W2 vx vy Q l hx hy hq => ⟨_, _, RepD.dp (Rep.mono W2.ex hx), RepD.dp (Rep.mono W2.ex hy), (post_if hq).1.1, (post_if hq).1.2, (post_if hq).2 _ W2 (Le.refl _) rfl⟩
end
end Wk

set_option maxHeartbeats 1000000
namespace Wk
open PySem PySem.Spec PyProof.Rows L2
/-! ### statements -/
def PB {φ : Type} (P : φ → Prop) (EP : Exn → Prop) (m : Rs φ) : Prop := match m with
  | .ok f => P f
  | .er x => EP x
  | .no => False
def EPx (K : PySem.W.Frag) (W0 : Wd) (E : XK) (x : Exn) : Prop := ∀ W2, Le W0 W2 → Acc K E x W2
/-- from σ at W the block st does what m tells: P f is what D wants of the end f -/
def Blk {φ : Type} (X : Cx) (W0 : Wd) (E : XK) (P : φ → Prop) (D : Ends) (σ : L2.St) (W : Wd) (st : List Stmt) (m : Rs φ) : Prop := PB P (EPx X.K W0 E) m → SemS X st D σ W.H
/-- the same block with what stands behind it -/
abbrev Thn (X : Cx) (D : Ends) (rest : List Stmt) : Ends := { D with nx := fun σ' H' => SemS X rest D σ' H' }
section
variable {φ S ρ : Type} {X : Cx} {E : XK} {σ : L2.St} {W W' W0 : Wd} {P : φ → Prop} {D : Ends} {e a b c : Expr} {es : List Expr} {rest : List Stmt} {pos p p' : Pos} {α β γ τ : Type} [Rep α] [Rep β] [Rep γ] [RepA τ] [Rep ρ]
/-- an expression, then what is made of its value -/
theorem ev_blk {m : Rs α} {k : α → Rs φ} {Q : VK} (l0 : Le W0 W) (h : EvR X E σ W e m) (hp : PB P (EPx X.K W0 E) (m.bind k)) (f : ∀ d v W1, m = .ok d → Le W W1 → Is X.K W1.G v d → PB P (EPx X.K W0 E) (k d) → Q v W1.H) : SemE X e σ W.H Q := by
  refine h W (Le.refl W) Q ?_
  cases m with
  | ok d => exact fun v W2 l i => f d v W2 rfl l i hp
  | er x => exact fun W2 l => hp W2 (l0.trans l)
  | no => exact hp
theorem evt_blk {m : Rs Bool} {k : Bool → Rs φ} {Q : Bool → Hp → Prop} (l0 : Le W0 W) (h : EvT X E σ W e m) (hp : PB P (EPx X.K W0 E) (m.bind k)) (f : ∀ d W1, m = .ok d → Le W W1 → PB P (EPx X.K W0 E) (k d) → Q d W1.H) : SemT X e σ W.H Q := by
  refine h W (Le.refl W) Q ?_
  cases m with
  | ok d => exact fun W2 l => f d W2 rfl l hp
  | er x => exact fun W2 l => hp W2 (l0.trans l)
  | no => exact hp
theorem rf_blk {t : TE} {m : Rs α} {k : α → Rs φ} {Q : VK} (l0 : Le W0 W) (h : Rf X E σ W t m) (hp : PB P (EPx X.K W0 E) (m.bind k)) (f : ∀ d v W1, m = .ok d → Le W W1 → Is X.K W1.G v d → PB P (EPx X.K W0 E) (k d) → Q v W1.H) : t σ W.H Q := by
  refine h W (Le.refl W) Q ?_
  cases m with
  | ok d => exact fun v W2 l i => f d v W2 rfl l i hp
  | er x => exact fun W2 l => hp W2 (l0.trans l)
  | no => exact hp
theorem evl_blk {m : Rs (List α)} {k : List α → Rs φ} {Q : VK} (l0 : Le W0 W) (h : EvL X E σ W e m) (hp : PB P (EPx X.K W0 E) (m.bind k)) (f : ∀ d q vs W1, m = .ok d → Le W W1 → W1.H q = some (.lst vs) → AllIs X.K W1.G vs d → PB P (EPx X.K W0 E) (k d) → Q (.ref q) W1.H) : SemE X e σ W.H Q := by
  refine h W (Le.refl W) Q ?_
  cases m with
  | ok d => exact fun q vs W2 l hH i => f d q vs W2 rfl l hH i hp
  | er x => exact fun W2 l => hp W2 (l0.trans l)
  | no => exact hp
theorem eva_blk {m : Rs τ} {k : τ → Rs φ} {Q : List V → Hp → Prop} (l0 : Le W0 W) (h : EvA X E σ W es m) (hp : PB P (EPx X.K W0 E) (m.bind k)) (f : ∀ d vs W1, m = .ok d → Le W W1 → RepA.is X.K W1.G vs d → PB P (EPx X.K W0 E) (k d) → Q vs W1.H) : SemA X es σ W.H Q := by
  refine h W (Le.refl W) Q ?_
  cases m with
  | ok d => exact fun v W2 l i => f d v W2 rfl l i hp
  | er x => exact fun W2 l => hp W2 (l0.trans l)
  | no => exact hp
theorem sem_nil (h : D.nx σ W.H) : SemS X [] D σ W.H := fun pins s I => pss_nil.run pins s σ W.H D I h
/-- the end of a block: what stands behind goes on -/
theorem s_end {m : Rs φ} (h : Blk X W0 E P D σ W rest m) : Blk X W0 E P (Thn X D rest) σ W [] m := fun hp => sem_nil (h hp)
theorem s_nil {f : φ} (h : P f → D.nx σ W.H) : Blk X W0 E P D σ W [] (.ok f) := fun hp => sem_nil (h hp)
/-- x = e -/
theorem s_asg (i : Nat) {x : Str} {m : Rs α} {k : α → Rs φ} (l0 : Le W0 W) (h : EvR X E σ W e m) (hk : ∀ d v W1, m = .ok d → Le W W1 → Is X.K W1.G v d → Blk X W0 E P D (σ.set i (some v)) W1 rest (k d)) (hN : X.N.Nodup) (hi : X.N[i]? = some x := by rfl)
    (hx : Loc X.env.scope x := by first | exact Or.inl rfl | exact Or.inr rfl) (hs : swapsWith e (some (.Name x p)) pos.line X.env = pure false := by rfl) (hf : X.fn x = true ∨ X.env.scope.names.lookup x = some .local := by first | exact .inl rfl | exact .inr rfl) :
    Blk X W0 E P D σ W (.Assign [.Name x p] e pos :: rest) (m.bind k) := fun hp =>
  sem_ps (ps_set hN hi hx pe_sem hs hf) (show SemE X e σ W.H _ from ev_blk l0 h hp fun d v W1 e1 l1 i1 hp1 => hk d v W1 e1 l1 i1 hp1)
/-- x = [.. for .. in ..] -/
theorem s_asgLc (i : Nat) {x : Str} {t : TE} {m : Rs α} {k : α → Rs φ} (hps : PS X (.Assign [.Name x p] e pos) (tAsg t (gName i))) (l0 : Le W0 W) (h : Rf X E σ W t m) (hk : ∀ d v W1, m = .ok d → Le W W1 → Is X.K W1.G v d → Blk X W0 E P D (σ.set i (some v)) W1 rest (k d)) :
    Blk X W0 E P D σ W (.Assign [.Name x p] e pos :: rest) (m.bind k) := fun hp =>
  sem_ps hps (show t σ W.H _ from rf_blk l0 h hp fun d v W1 e1 l1 i1 hp1 => hk d v W1 e1 l1 i1 hp1)
/-- .., the list one's own -/
theorem s_asgLcO (i : Nat) {x : Str} {t : TE} {m : Rs (List α)} {k : List α → Rs φ} (hps : PS X (.Assign [.Name x p] e pos) (tAsg t (gName i))) (l0 : Le W0 W) (h : RfN X E σ W t m)
    (hk : ∀ ds vs q W1, m = .ok ds → Le W W1 → W.H q = none → Own W0 W1 q (.lst vs) → Le W0 W1 → AllIs X.K W1.G vs ds → Blk X W0 E P D (σ.set i (some (.ref q))) W1 rest (k ds)) :
    Blk X W0 E P D σ W (.Assign [.Name x p] e pos :: rest) (m.bind k) := fun hp =>
  sem_ps hps (show t σ W.H _ from h W (Le.refl W) _ (by
    cases m with
    | ok ds => exact fun q vs W2 l hn hg hh i => hk ds vs q W2 rfl l hn ⟨l0.h.free hn, hg, hh⟩ (l0.trans l) i hp
    | er x => exact fun W2 l => hp W2 (l0.trans l)
    | no => exact hp))
/-- x = [..], the list one's own -/
theorem s_asgO (i : Nat) {x : Str} {m : Rs (List α)} {k : List α → Rs φ} (l0 : Le W0 W) (h : EvLs X E σ W es m)
    (hk : ∀ ds vs q W1, m = .ok ds → Le W W1 → W.H q = none → Own W0 W1 q (.lst vs) → Le W0 W1 → AllIs X.K W1.G vs ds → Blk X W0 E P D (σ.set i (some (.ref q))) W1 rest (k ds)) (hN : X.N.Nodup) (hi : X.N[i]? = some x := by rfl)
    (hx : Loc X.env.scope x := by first | exact Or.inl rfl | exact Or.inr rfl) (hz : Nat.ble es.length 100000 = true := by rfl) (hs : swapsWith (.List es p') (some (.Name x p)) pos.line X.env = pure false := by rfl) (hf : X.fn x = true ∨ X.env.scope.names.lookup x = some .local := by first | exact .inl rfl | exact .inr rfl) :
    Blk X W0 E P D σ W (.Assign [.Name x p] (.List es p') pos :: rest) (m.bind k) := fun hp =>
  sem_ps (ps_set hN hi hx (pe_lst pa_sem) hs hf) (show SemA X es σ W.H _ from eva_blk l0 h.ev hp fun ds vs W1 e1 l1 i1 hp1 => ⟨small_line (by rw [paired_len i1, h.len ds e1]; exact Nat.le_of_ble_eq_true hz), fun q hn =>
    hk ds vs q (W1.own q (.lst vs) hn) e1 (l1.trans (Wd.le_own hn)) (l1.h.free hn) ⟨(l0.trans l1).h.free hn, W1.gn hn, upd_same⟩ ((l0.trans l1).trans (Wd.le_own hn)) i1 hp1⟩)
/-- x = list(e), the list one's own -/
theorem s_asgOl (i : Nat) {x : Str} {m : Rs (List α)} {k : List α → Rs φ} (l0 : Le W0 W) (h : EvL X E σ W a m)
    (hk : ∀ ds vs q W1, m = .ok ds → Le W W1 → W.H q = none → Own W0 W1 q (.lst vs) → Le W0 W1 → AllIs X.K W1.G vs ds → Blk X W0 E P D (σ.set i (some (.ref q))) W1 rest (k ds)) (hm : X.mg "list" = none) (hN : X.N.Nodup) (hi : X.N[i]? = some x := by rfl)
    (hx : Loc X.env.scope x := by first | exact Or.inl rfl | exact Or.inr rfl) (hg : Gl X "list" := by rfl) (hst : starEach [a] X.env = (false, eval a X.env) :: starEach [] X.env := by rfl) (hs : swapsWith (.Call (.Name "list" p') [a] [] pos1) (some (.Name x p)) pos.line X.env = pure false := by rfl)
    (hf : X.fn x = true ∨ X.env.scope.names.lookup x = some .local := by first | exact .inl rfl | exact .inr rfl) :
    Blk X W0 E P D σ W (.Assign [.Name x p] (.Call (.Name "list" p') [a] [] pos1) pos :: rest) (m.bind k) := fun hp =>
  sem_ps (ps_set hN hi hx (pe_callTy call_list_of hg hm (by decide +kernel) (pa_cons pe_sem pa_nil hst) (he := hst)) hs hf) (show SemE X a σ W.H _ from evl_blk l0 h hp fun ds q0 vs W1 e1 l1 hH i1 hp1 => ⟨q0, vs, rfl, .inl (.inl (.inl hH)), fun q hn =>
    hk ds vs q (W1.own q (.lst vs) hn) e1 (l1.trans (Wd.le_own hn)) (l1.h.free hn) ⟨(l0.trans l1).h.free hn, W1.gn hn, upd_same⟩ ((l0.trans l1).trans (Wd.le_own hn)) i1 hp1⟩)
/-- e; -/
theorem s_exp {m : Rs α} {k : α → Rs φ} (l0 : Le W0 W) (h : EvR X E σ W e m) (hk : ∀ d W1, m = .ok d → Le W W1 → Blk X W0 E P D σ W1 rest (k d)) (hs : swapsWith e none pos.line X.env = pure false := by rfl) : Blk X W0 E P D σ W (.Expr e pos :: rest) (m.bind k) := fun hp =>
  sem_ps (ps_expr pe_sem hs) (show SemE X e σ W.H _ from ev_blk l0 h hp fun d v W1 e1 l1 i1 hp1 => hk d W1 e1 l1 hp1)
/-- return e -/
theorem s_ret {m : Rs α} {k : α → φ} (l0 : Le W0 W) (h : EvR X E σ W e m) (hr : ∀ d, P (k d) → ∀ v W2, Le W0 W2 → Is X.K W2.G v d → D.rt v W2.H) : Blk X W0 E P D σ W (.Return (some e) pos :: rest) (m.bind fun d => .ok (k d)) := fun hp =>
  sem_ps (ps_ret pe_sem) (show SemE X e σ W.H _ from ev_blk l0 h hp fun d v W1 e1 l1 i1 hp1 => hr d hp1 v W1 (l0.trans l1) i1)
/-- return x, x a list of one's own -/
theorem s_retO (i : Nat) {x : Str} {ds : List α} {q : Addr} {vs : List V} {k : List α → φ} (l0 : Le W0 W) (o : Own W0 W q (.lst vs)) (hi : AllIs X.K W.G vs ds) (hr : ∀ d, P (k d) → ∀ v W2, Le W0 W2 → Is X.K W2.G v d → D.rt v W2.H) (hs : σ[i]? = some (some (.ref q)) := by rfl) (hN : X.N[i]? = some x := by rfl)
    (hv : Vis X.env.scope x := by first | exact Or.inl rfl | exact Or.inr (Or.inl rfl) | exact Or.inr (Or.inr rfl)) (hd : (x == ("__debug__" : Str)) = false := by decide)
    (hcd : (x == ("__classdict__" : Str)) = false := by decide) : Blk X W0 E P D σ W (.Return (some (.Name x p)) pos :: rest) (.ok (k ds)) := fun hp =>
  sem_ps (ps_ret (pe_var hN hv hd hcd)) ⟨.ref q, hs, hr ds hp (.ref q) (W.frz q (.lst vs) o.h) (o.le_frz l0) ⟨q, vs, rfl, upd_same, AllIs.mono o.same_frz hi⟩⟩
/-- one statement -/
def Sem1 (X : Cx) (st : Stmt) : TS := fun D σ H => ∀ pins s, Inv X pins σ H s → wpAny (model X.prog X.w) X.A (exec st X.env) (SP X pins D) X.xe s
theorem ps_sem1 {st : Stmt} : PS X st (Sem1 X st) := ⟨fun pins s σ H D I h => h pins s I⟩
def Blk1 {φ : Type} (X : Cx) (W0 : Wd) (E : XK) (P : φ → Prop) (D : Ends) (σ : L2.St) (W : Wd) (st : Stmt) (m : Rs φ) : Prop := PB P (EPx X.K W0 E) m → Sem1 X st D σ W.H
theorem s_of1 {st : Stmt} {m : Rs φ} (h : Blk1 X W0 E P (Thn X D rest) σ W st m) : Blk X W0 E P D σ W (st :: rest) m := fun hp => sem_ps ps_sem1 (h hp)
/-- if c: a else: b -/
theorem s_if1 {sa sb : List Stmt} {mc : Rs Bool} {ma mb : Rs φ} (l0 : Le W0 W) (hc : EvT X E σ W c mc) (ha : ∀ W1, mc = .ok true → Le W W1 → Blk X W0 E P D σ W1 sa ma) (hb : ∀ W1, mc = .ok false → Le W W1 → Blk X W0 E P D σ W1 sb mb) :
    Blk1 X W0 E P D σ W (.If c sa sb pos) (mc.bind fun x => if x = true then ma else mb) := fun hp pins s I =>
  (ps_if pt_sem pss_sem pss_sem).run pins s σ W.H D I (show SemT X c σ W.H _ from evt_blk l0 hc hp fun d W1 e1 l1 hp1 => by
    cases d with
    | true => exact iteT (ha W1 e1 l1 hp1)
    | false => exact iteF (hb W1 e1 l1 hp1))
/-- .., what stands behind told in both ways -/
theorem s_if {sa sb : List Stmt} {mc : Rs Bool} {ma mb : Rs φ} (l0 : Le W0 W) (hc : EvT X E σ W c mc) (ha : ∀ W1, mc = .ok true → Le W W1 → Blk X W0 E P (Thn X D rest) σ W1 sa ma) (hb : ∀ W1, mc = .ok false → Le W W1 → Blk X W0 E P (Thn X D rest) σ W1 sb mb) :
    Blk X W0 E P D σ W (.If c sa sb pos :: rest) (mc.bind fun x => if x = true then ma else mb) := s_of1 (s_if1 l0 hc ha hb)
/-- a statement whose ways meet: J is what holds where they meet -/
theorem s_cut {st : Stmt} (J : S → L2.St → Wd → Prop) {m : Rs S} {k : S → Rs φ} (h1 : Blk1 X W0 E (fun s => ∀ σ' W', Le W0 W' → Same W.G W'.G → J s σ' W' → (Thn X D rest).nx σ' W'.H) (Thn X D rest) σ W st m)
    (hk : ∀ s σ' W', m = .ok s → Le W0 W' → Same W.G W'.G → J s σ' W' → Blk X W0 E P D σ' W' rest (k s)) : Blk X W0 E P D σ W (st :: rest) (m.bind k) := fun hp => by
  refine sem_ps ps_sem1 (h1 ?_)
  cases m with
  | ok s => exact fun σ' W' l g j => hk s σ' W' rfl l g j hp
  | er x => exact hp
  | no => exact hp
/-! a list of one's own is changed -/
/-- x.append(e), x in slot i -/
theorem s_app (i : Nat) {c : Expr} {m : Rs α} {k : α → Rs φ} {ds : List α} {q : Addr} {vs : List V} (hpe : PE X c (tBM X.K "list" rAppend (tVar i) (tCons (SemE X e) tNil))) (l0 : Le W0 W) (o : Own W0 W q (.lst vs)) (hi : AllIs X.K W.G vs ds) (h : EvR X E σ W e m) (hz : vs.length < 100000)
    (hk : ∀ d v W1, m = .ok d → Le W W1 → (o1 : Own W0 W1 q (.lst vs)) → Is X.K W1.G v d → Own W0 (W1.put q (.lst (vs ++ [v])) o1.g) q (.lst (vs ++ [v])) → Le W0 (W1.put q (.lst (vs ++ [v])) o1.g) → AllIs X.K W1.G (vs ++ [v]) (ds ++ [d]) → Blk X W0 E P D σ (W1.put q (.lst (vs ++ [v])) o1.g) rest (k d))
    (hs : σ[i]? = some (some (.ref q)) := by rfl) (hsw : swapsWith c none pos.line X.env = pure false := by rfl) :
    Blk X W0 E P D σ W (.Expr c pos :: rest) (m.bind k) := fun hp =>
  sem_ps (ps_expr hpe hsw) ⟨.ref q, hs, .inl ⟨rfl, vs, .inl (.inl o.h)⟩, show SemE X e σ W.H _ from ev_blk l0 h hp fun d v W1 e1 l1 i1 hp1 => by
    have o1 := o.mono l1
    refine ⟨q, vs, v, rfl, rfl, o1.h, Nat.lt_of_lt_of_le hz (by decide), ?_⟩
    exact hk d v W1 e1 l1 o1 i1 o1.put (o1.le (l0.trans l1)) (paired_app (AllIs.mono l1.g hi) (.cons i1 .nil)) hp1⟩
/-- x[a] = e, x in slot i -/
def setR {δ : Type} (ds : List δ) (i : Int) (d : δ) : Rs (List δ) := match ixN ds.length i with
  | some j => .ok (ds.set j d)
  | none => .no
theorem s_setI (i : Nat) {tg : Expr} {m : Rs α} {mi : Rs Int} {k : List α → Rs φ} {ds : List α} {q : Addr} {vs : List V} (l0 : Le W0 W) (o : Own W0 W q (.lst vs)) (hi : AllIs X.K W.G vs ds) (h : EvR X E σ W e m) (ha : ∀ W1, Le W W1 → EvR X E σ W1 a mi)
    (hk : ∀ d' W1 ws, Le W W1 → (o1 : Own W0 W1 q (.lst vs)) → Own W0 (W1.put q (.lst ws) o1.g) q (.lst ws) → Le W0 (W1.put q (.lst ws) o1.g) → AllIs X.K W1.G ws d' → Blk X W0 E P D σ (W1.put q (.lst ws) o1.g) rest (k d'))
    (hps : PS X (.Assign [tg] e pos) (tAsg (SemE X e) (gSub (tVar i) (SemE X a) rSetL))) (hs : σ[i]? = some (some (.ref q)) := by rfl) :
    Blk X W0 E P D σ W (.Assign [tg] e pos :: rest) (m.bind fun d => mi.bind fun j => (setR ds j d).bind k) := fun hp =>
  sem_ps hps (show SemE X e σ W.H _ from ev_blk l0 h hp fun d v W1 e1 l1 i1 hp1 => ⟨.ref q, hs, show SemE X a σ W1.H _ from ev_blk (l0.trans l1) (ha W1 l1) hp1 fun j vj W2 e2 l2 i2 hp2 => by
    cases i2
    unfold setR at hp2
    cases hj : ixN ds.length j with
    | none =>
      rw [hj] at hp2
      exact hp2.elim
    | some n =>
      rw [hj] at hp2
      have o2 := (o.mono l1).mono l2
      refine ⟨q, vs, j, n, rfl, rfl, o2.h, by rw [paired_len hi]; exact hj, ?_⟩
      exact hk (ds.set n d) W2 (vs.set n v) (l1.trans l2) o2 o2.put (o2.le ((l0.trans l1).trans l2)) (paired_set (Rep.mono l2.g i1) n (AllIs.mono (l1.g.trans l2.g) hi)) hp2⟩)
/-! loops -/
inductive Fl (S ρ : Type) where
  | nx (s : S) | bk (s : S) | ct (s : S) | rt (r : ρ)
def foldR {α S : Type} (step : S → α → Rs S) : S → List α → Rs S
  | s, [] => .ok s
  | s, x :: xs => (step s x).bind fun s' => foldR step s' xs
def loopR {α S ρ : Type} (step : S → α → Rs (Fl S ρ)) : S → List α → Rs (Fl S ρ)
  | s, [] => .ok (.nx s)
  | s, x :: xs => (step s x).bind fun f => match f with
    | .nx s' => loopR step s' xs
    | .ct s' => loopR step s' xs
    | .bk s' => .ok (.nx s')
    | .rt r => .ok (.rt r)
theorem fold_loop {α S ρ : Type} (step : S → α → Rs S) : ∀ (xs : List α) (s : S), loopR (ρ := ρ) (fun s x => (step s x).bind fun s' => .ok (.nx s')) s xs = (foldR step s xs).bind fun s' => .ok (.nx s')
  | [], s => rfl
  | x :: xs, s => by
    unfold loopR foldR
    cases h : step s x with
    | ok s' => exact fold_loop step xs s'
    | er x => rfl
    | no => rfl
/-- the things ds, walked by J while Z holds -/
structure ItOk (K : PySem.W.Frag) (J : It) (Z : Wd → Prop) (ds : List α) : Prop where
  go : ∀ i W', Z W' → i < ds.length → J.go i W'.H
  stop : ∀ W', Z W' → J.stop ds.length W'.H
  yld : ∀ i (W' : Wd) x H' d, Z W' → ds[i]? = some d → J.yld i W'.H x H' → ∃ W'', W''.H = H' ∧ Le W' W'' ∧ Is K W''.G x d
theorem it_list {K : PySem.W.Frag} {q : Addr} {vs : List V} {ds : List α} {G : Hp} {Z : Wd → Prop} (hq : ∀ W', Z W' → W'.H q = some (.lst vs)) (hg : ∀ W', Z W' → Same G W'.G) (i : AllIs K G vs ds) : ItOk K (Itl K q) Z ds where
  go := fun k W' z hk => ⟨vs, vs[k]'(by rw [paired_len i]; exact hk), .inl (.inl (hq W' z)), List.getElem?_eq_getElem _⟩
  stop := fun W' z => ⟨vs, .inl (.inl (hq W' z)), Nat.le_of_eq (paired_len i)⟩
  yld := fun k W' x H' d z hd ⟨e, hx⟩ => by
    obtain ⟨v, hv, iv⟩ := paired_get i hd
    have e2 := hx vs (.inl (.inl (hq W' z)))
    rw [hv] at e2
    cases e2
    exact ⟨W', e.symm, Le.refl _, Rep.mono (hg W' z) iv⟩
theorem it_rng {K : PySem.W.Frag} {a b : Int} {Z : Wd → Prop} : ItOk K (Itr a (b - a).toNat) Z (rng a b) where
  go := fun k W' z hk => by rw [rng_len] at hk; exact hk
  stop := fun W' z => by rw [rng_len]; exact Nat.le_refl _
  yld := fun k W' x H' d z hd ⟨e, hx⟩ => by
    have hk : k < (b - a).toNat := by
      have := (List.getElem?_eq_some_iff.mp hd).1
      rw [rng_len] at this
      exact this
    rw [rng_get hk] at hd
    cases hd
    exact ⟨W', e.symm, Le.refl _, hx⟩
theorem it_enum {K : PySem.W.Frag} {q : Addr} {vs : List V} {ds : List α} {G : Hp} {Z : Wd → Prop} (hq : ∀ W', Z W' → W'.H q = some (.lst vs)) (hg : ∀ W', Z W' → Same G W'.G) (i : AllIs K G vs ds) : ItOk K (Ite K q) Z ((rng 0 ds.length).zip ds) where
  go := fun k W' z hk => by
    have hk' : k < vs.length := by
      rw [paired_len i]
      simp [rng_len] at hk
      omega
    exact ⟨vs, vs[k], .inl (.inl (hq W' z)), List.getElem?_eq_getElem _⟩
  stop := fun W' z => ⟨vs, .inl (.inl (hq W' z)), by rw [paired_len i]; simp [rng_len]⟩
  yld := fun k W' x H' d z hd ⟨T, y, e1, e2, e3, hx⟩ => by
    have hk : k < ds.length := by
      have h := (List.getElem?_eq_some_iff.mp hd).1
      simp [rng_len] at h
      omega
    have hz : ((rng 0 ds.length).zip ds)[k]? = some (((k : Nat) : Int), ds[k]) := by
      rw [List.getElem?_zip_eq_some]
      refine ⟨?_, List.getElem?_eq_getElem hk⟩
      rw [rng_get (by omega)]
      simp
    rw [hz] at hd
    cases hd
    obtain ⟨v, hv, iv⟩ := paired_get i (List.getElem?_eq_getElem hk)
    have e4 := hx vs (.inl (.inl (hq W' z)))
    rw [hv] at e4
    have e5 : v = y := Option.some.inj e4
    rw [e5] at iv
    exact ⟨W'.new T (.tup [.int (k : Nat), y]), e3.symm, Wd.le_new e2, T, .int (k : Nat), y, e1, .inl (.inl upd_same), rfl, Rep.mono ((hg W' z).trans (Wd.le_new e2).g) iv⟩
/-- what a loop asks, whatever is walked -/
theorem for_core {J : It} {Z : Wd → Prop} {ds : List α} {g : TG} {tb : TS} {W1 : Wd} (ok : ItOk X.K J Z ds) (Jn : S → L2.St → Wd → Prop) {step : S → α → Rs (Fl S ρ)} {s0 : S} {k : Fl S ρ → Rs φ} (l1 : Le W0 W1) (z1 : Z W1) (j1 : Jn s0 σ W1) (hz : ∀ W' W'', Z W' → Le W' W'' → Z W'') (hj : ∀ s σ' W' W'', Jn s σ' W' → Le W' W'' → Jn s σ' W'')
    (hp : PB P (EPx X.K W0 E) ((loopR step s0 ds).bind k)) (hrt : ∀ r, PB P (EPx X.K W0 E) (k (.rt r)) → ∀ v W2, Le W0 W2 → Is X.K W2.G v r → D.rt v W2.H)
    (turn : ∀ s σ' W' x d (N B : L2.St → Hp → Prop), Le W0 W' → Z W' → Jn s σ' W' → Is X.K W'.G x d →
      PB (fun f => match f with
        | .nx s' => ∀ σ2 W2, Le W0 W2 → Z W2 → Jn s' σ2 W2 → N σ2 W2.H
        | .ct s' => ∀ σ2 W2, Le W0 W2 → Z W2 → Jn s' σ2 W2 → N σ2 W2.H
        | .bk s' => ∀ σ2 W2, Le W0 W2 → Z W2 → Jn s' σ2 W2 → B σ2 W2.H
        | .rt r => ∀ v W2, Le W0 W2 → Is X.K W2.G v r → D.rt v W2.H) (EPx X.K W0 E) (step s d) →
      g x σ' W'.H fun σ2 H2 => tb { D with nx := N, ct := N, bk := B } σ2 H2)
    (hk : ∀ s σ' W', Le W0 W' → Z W' → Jn s σ' W' → PB P (EPx X.K W0 E) (k (.nx s)) → D.nx σ' W'.H) :
    ∃ W : Nat → Nat → L2.St → Hp → Prop, (∃ m, W 0 m σ W1.H) ∧ ∀ i m σ H, W i m σ H →
      (J.stop i H ∧ D.nx σ H) ∨ (J.go i H ∧ ∃ N : L2.St → Hp → Prop, (∀ σ' H', N σ' H' → ∃ m', m' < m ∧ W (i + 1) m' σ' H') ∧ ∀ x H', J.yld i H x H' → g x σ H' fun σ2 H2 => tb { D with nx := N, ct := N, bk := D.nx } σ2 H2) := by
  let Pv : Nat → L2.St → Hp → Prop := fun i σ H => ∃ W' s, W'.H = H ∧ Le W0 W' ∧ Z W' ∧ Jn s σ W' ∧ PB P (EPx X.K W0 E) ((loopR step s (ds.drop i)).bind k)
  refine ⟨fun i m σ H => m = ds.length - i ∧ i ≤ ds.length ∧ Pv i σ H, ⟨ds.length, by simp, Nat.zero_le _, W1, s0, rfl, l1, z1, j1, by rw [List.drop_zero]; exact hp⟩, ?_⟩
  rintro i m σ H ⟨rfl, hi, W', s, rfl, l, z, j, hb⟩
  by_cases hlt : i < ds.length
  · refine .inr ⟨ok.go i W' z hlt, Pv (i + 1), fun σ' H' p' => ⟨ds.length - (i + 1), by omega, rfl, hlt, p'⟩, fun x H' y => ?_⟩
    obtain ⟨W2, e2, l2, i2⟩ := ok.yld i W' x H' ds[i] z (List.getElem?_eq_getElem hlt) y
    subst e2
    have hdd : ds.drop i = ds[i] :: ds.drop (i + 1) := List.drop_eq_getElem_cons hlt
    rw [hdd] at hb
    refine turn s σ W2 x ds[i] (Pv (i + 1)) D.nx (l.trans l2) (hz _ _ z l2) (hj _ _ _ _ j l2) i2 ?_
    unfold loopR at hb
    cases hs : step s ds[i] with
    | ok f =>
      rw [hs] at hb
      cases f with
      | nx s' => exact fun σ2 W3 l3 z3 j3 => ⟨W3, s', rfl, l3, z3, j3, hb⟩
      | ct s' => exact fun σ2 W3 l3 z3 j3 => ⟨W3, s', rfl, l3, z3, j3, hb⟩
      | bk s' => exact fun σ2 W3 l3 z3 j3 => hk s' σ2 W3 l3 z3 j3 hb
      | rt r => exact hrt r hb
    | er x =>
      rw [hs] at hb
      exact hb
    | no =>
      rw [hs] at hb
      exact hb
  · have e : i = ds.length := by omega
    subst e
    refine .inl ⟨ok.stop W' z, ?_⟩
    rw [List.drop_length] at hb
    exact hk s σ W' l z j hb
end
end Wk

set_option maxHeartbeats 1000000
namespace Wk
open PySem PySem.Spec PyProof.Rows L2
section
variable {φ S ρ : Type} {X : Cx} {E : XK} {σ : L2.St} {W W' W0 : Wd} {P : φ → Prop} {D : Ends} {e a b c iter tg : Expr} {es : List Expr} {body rest : List Stmt} {pos p p' : Pos} {α β γ τ : Type} [Rep α] [Rep β] [Rep γ] [RepA τ] [Rep ρ]
/-- a target that is stored: R tells the slots behind it -/
structure TgR (K : PySem.W.Frag) (g : TG) (R : Wd → α → L2.St → L2.St → Prop) : Prop where
  run : ∀ (W' : Wd) v d σ' (Q : L2.St → Hp → Prop), Is K W'.G v d → (∀ σ2, R W' d σ' σ2 → Q σ2 W'.H) → g v σ' W'.H Q
def RName (K : PySem.W.Frag) (α : Type) [Rep α] (j : Nat) : Wd → α → L2.St → L2.St → Prop := fun W' d σ' σ2 => ∃ v, Is K W'.G v d ∧ σ2 = σ'.set j (some v)
theorem tg_name {K : PySem.W.Frag} (j : Nat) : TgR K (gName j) (RName K α j) := ⟨fun W' v d σ' Q i h => h _ ⟨v, i, rfl⟩⟩
def RPair (K : PySem.W.Frag) (α β : Type) [Rep α] [Rep β] (j1 j2 : Nat) : Wd → α × β → L2.St → L2.St → Prop := fun W' d σ' σ2 => ∃ v w, Is K W'.G v d.1 ∧ Is K W'.G w d.2 ∧ σ2 = (σ'.set j1 (some v)).set j2 (some w)
theorem tg_pair {K : PySem.W.Frag} (j1 j2 : Nat) : TgR K (gTup K 2 (gCons (gName j1) (gCons (gName j2) gNil))) (RPair K α β j1 j2) := ⟨fun W' v d σ' Q i h => by
  obtain ⟨q, x, y, rfl, hT, ix, iy⟩ := i
  exact ⟨q, [x, y], rfl, Same.tup W'.ex hT, rfl, x, [y], rfl, y, [], rfl, rfl, h _ ⟨x, y, ix, iy, rfl⟩⟩⟩
/-- what the end of a turn must give -/
def PL (K : PySem.W.Frag) (W0 W : Wd) (Jn : S → L2.St → Wd → Prop) (D : Ends) (N B : L2.St → Hp → Prop) : Fl S ρ → Prop
  | .nx s' => ∀ σ2 W2, Le W0 W2 → Same W.G W2.G → Jn s' σ2 W2 → N σ2 W2.H
  | .ct s' => ∀ σ2 W2, Le W0 W2 → Same W.G W2.G → Jn s' σ2 W2 → N σ2 W2.H
  | .bk s' => ∀ σ2 W2, Le W0 W2 → Same W.G W2.G → Jn s' σ2 W2 → B σ2 W2.H
  | .rt r => ∀ v W2, Le W0 W2 → Is K W2.G v r → D.rt v W2.H
abbrev Trn (D : Ends) (N B : L2.St → Hp → Prop) : Ends := { D with nx := N, ct := N, bk := B }
/-- the common part: the things ds are walked from W1 on -/
theorem for_use {J : It} {ds : List α} {g : TG} {R : Wd → α → L2.St → L2.St → Prop} {W1 : Wd} (tgr : TgR X.K g R) (Jn : S → L2.St → Wd → Prop) {step : S → α → Rs (Fl S ρ)} {s0 : S} {k : Fl S ρ → Rs φ} (ok : ItOk X.K J (fun W' => Same W1.G W'.G) ds) (l1 : Le W0 W1) (g1 : Same W.G W1.G) (j1 : Jn s0 σ W1)
    (hj : ∀ s σ' W' W'', Jn s σ' W' → Le W' W'' → Jn s σ' W'') (hp : PB P (EPx X.K W0 E) ((loopR step s0 ds).bind k)) (hrt : ∀ r, PB P (EPx X.K W0 E) (k (.rt r)) → ∀ v W2, Le W0 W2 → Is X.K W2.G v r → D.rt v W2.H)
    (turn : ∀ s σ' W' d σ2 N B, Le W0 W' → Same W.G W'.G → Jn s σ' W' → R W' d σ' σ2 → (∀ s' σ3 W3, Le W0 W3 → Same W'.G W3.G → Jn s' σ3 W3 → True) → Blk X W0 E (PL X.K W0 W' Jn D N B) (Trn D N B) σ2 W' body (step s d))
    (hk : ∀ s σ' W', Le W0 W' → Same W.G W'.G → Jn s σ' W' → Blk X W0 E P D σ' W' rest (k (.nx s))) :
    ∃ Wf : Nat → Nat → L2.St → Hp → Prop, (∃ m, Wf 0 m σ W1.H) ∧ ∀ i m σ H, Wf i m σ H →
      (J.stop i H ∧ (Thn X D rest).nx σ H) ∨ (J.go i H ∧ ∃ N : L2.St → Hp → Prop, (∀ σ' H', N σ' H' → ∃ m', m' < m ∧ Wf (i + 1) m' σ' H') ∧ ∀ x H', J.yld i H x H' → g x σ H' fun σ2 H2 => SemS X body { Thn X D rest with nx := N, ct := N, bk := (Thn X D rest).nx } σ2 H2) :=
  for_core (D := Thn X D rest) ok Jn l1 (Same.refl _) j1 (fun _ _ z l => z.trans l.g) hj hp hrt
    (fun s σ' W' x d N B l z j i hb => tgr.run W' x d σ' _ i fun σ2 r => turn s σ' W' d σ2 N B l (g1.trans z) j r (fun _ _ _ _ _ _ => trivial) (by
      cases hs : step s d with
      | ok f =>
        rw [hs] at hb
        cases f with
        | nx s' => exact fun σ3 W3 l3 z3 j3 => hb σ3 W3 l3 (z.trans z3) j3
        | ct s' => exact fun σ3 W3 l3 z3 j3 => hb σ3 W3 l3 (z.trans z3) j3
        | bk s' => exact fun σ3 W3 l3 z3 j3 => hb σ3 W3 l3 (z.trans z3) j3
        | rt r => exact hb
      | er x =>
        rw [hs] at hb
        exact hb
      | no =>
        rw [hs] at hb
        exact hb))
    (fun s σ' W' l z j hb => hk s σ' W' l (g1.trans z) j hb)
/-- for .. in iter, iter a list that stays -/
theorem s_forL {g : TG} {R : Wd → α → L2.St → L2.St → Prop} (tgr : TgR X.K g R) {step : S → α → Rs (Fl S ρ)} {s0 : S} {k : Fl S ρ → Rs φ} {mx : Rs (List α)} (Jn : S → L2.St → Wd → Prop) (hps : PS X (.For tg iter body [] pos) (tFor (iList X.K (SemE X iter)) g (SemS X body))) (l0 : Le W0 W) (hl : EvR X E σ W iter mx)
    (hj : ∀ s σ' W' W'', Jn s σ' W' → Le W' W'' → Jn s σ' W'') (j0 : Jn s0 σ W) (hrt : ∀ r, PB P (EPx X.K W0 E) (k (.rt r)) → ∀ v W2, Le W0 W2 → Is X.K W2.G v r → D.rt v W2.H)
    (turn : ∀ s σ' W' d σ2 N B, Le W0 W' → Same W.G W'.G → Jn s σ' W' → R W' d σ' σ2 → Blk X W0 E (PL X.K W0 W' Jn D N B) (Trn D N B) σ2 W' body (step s d))
    (hk : ∀ s σ' W', Le W0 W' → Same W.G W'.G → Jn s σ' W' → Blk X W0 E P D σ' W' rest (k (.nx s))) :
    Blk X W0 E P D σ W (.For tg iter body [] pos :: rest) (mx.bind fun ds => (loopR step s0 ds).bind k) := fun hp =>
  sem_ps hps (show SemE X iter σ W.H _ from ev_blk l0 hl hp fun ds v W1 e1 l1 i1 hp1 => by
    obtain ⟨q, vs, rfl, hG, i⟩ := i1
    exact ⟨q, rfl, ⟨vs, .inl (.inl (W1.ex _ _ hG))⟩, for_use (W := W) (W1 := W1) tgr Jn (it_list (G := W1.G) (fun W' z => W'.ex _ _ (z _ _ hG)) (fun W' z => z) i) (l0.trans l1) l1.g (hj _ _ _ _ j0 l1) hj hp1 hrt (fun s σ' W' d σ2 N B l z j r _ => turn s σ' W' d σ2 N B l z j r) hk⟩)
/-- for .. in range(a) -/
theorem s_forG {g : TG} {R : Wd → Int → L2.St → L2.St → Prop} (tgr : TgR X.K g R) {step : S → Int → Rs (Fl S ρ)} {s0 : S} {k : Fl S ρ → Rs φ} {mn : Rs Int} (Jn : S → L2.St → Wd → Prop) (hps : PS X (.For tg iter body [] pos) (tFor (iRng1 (tCons (SemE X a) tNil)) g (SemS X body))) (l0 : Le W0 W) (hl : EvR X E σ W a mn)
    (hj : ∀ s σ' W' W'', Jn s σ' W' → Le W' W'' → Jn s σ' W'') (j0 : Jn s0 σ W) (hrt : ∀ r, PB P (EPx X.K W0 E) (k (.rt r)) → ∀ v W2, Le W0 W2 → Is X.K W2.G v r → D.rt v W2.H)
    (turn : ∀ s σ' W' d σ2 N B, Le W0 W' → Same W.G W'.G → Jn s σ' W' → R W' d σ' σ2 → Blk X W0 E (PL X.K W0 W' Jn D N B) (Trn D N B) σ2 W' body (step s d))
    (hk : ∀ s σ' W', Le W0 W' → Same W.G W'.G → Jn s σ' W' → Blk X W0 E P D σ' W' rest (k (.nx s))) :
    Blk X W0 E P D σ W (.For tg iter body [] pos :: rest) (mn.bind fun n => bndR n ((loopR step s0 (rng 0 n)).bind k)) := fun hp =>
  sem_ps hps (show SemE X a σ W.H _ from ev_blk l0 hl hp fun n v W1 e1 l1 i1 hp1 => by
    cases i1
    unfold bndR at hp1
    by_cases hz : -(100000 : Int) ≤ n ∧ n ≤ 100000
    · rw [if_pos hz] at hp1
      refine ⟨n, rfl, by omega, by omega, ?_⟩
      have h := for_use (W := W) (W1 := W1) tgr Jn (it_rng (a := 0) (b := n)) (l0.trans l1) l1.g (hj _ _ _ _ j0 l1) hj hp1 hrt (fun s σ' W' d σ2 N B l z j r _ => turn s σ' W' d σ2 N B l z j r) hk
      rw [Int.sub_zero] at h
      exact h
    · rw [if_neg hz] at hp1
      exact hp1.elim)
/-- for (i, x) in enumerate(iter) -/
theorem s_forE {g : TG} {R : Wd → Int × α → L2.St → L2.St → Prop} (tgr : TgR X.K g R) {step : S → Int × α → Rs (Fl S ρ)} {s0 : S} {k : Fl S ρ → Rs φ} {mx : Rs (List α)} (Jn : S → L2.St → Wd → Prop) (hps : PS X (.For tg iter body [] pos) (tFor (iEnum X.K (tCons (SemE X a) tNil)) g (SemS X body))) (l0 : Le W0 W) (hl : EvR X E σ W a mx)
    (hj : ∀ s σ' W' W'', Jn s σ' W' → Le W' W'' → Jn s σ' W'') (j0 : Jn s0 σ W) (hrt : ∀ r, PB P (EPx X.K W0 E) (k (.rt r)) → ∀ v W2, Le W0 W2 → Is X.K W2.G v r → D.rt v W2.H)
    (turn : ∀ s σ' W' d σ2 N B, Le W0 W' → Same W.G W'.G → Jn s σ' W' → R W' d σ' σ2 → Blk X W0 E (PL X.K W0 W' Jn D N B) (Trn D N B) σ2 W' body (step s d))
    (hk : ∀ s σ' W', Le W0 W' → Same W.G W'.G → Jn s σ' W' → Blk X W0 E P D σ' W' rest (k (.nx s))) :
    Blk X W0 E P D σ W (.For tg iter body [] pos :: rest) (mx.bind fun ds => (loopR step s0 ((rng 0 ds.length).zip ds)).bind k) := fun hp =>
  sem_ps hps (show SemE X a σ W.H _ from ev_blk l0 hl hp fun ds v W1 e1 l1 i1 hp1 => by
    obtain ⟨q, vs, rfl, hG, i⟩ := i1
    exact ⟨q, vs, rfl, .inl (.inl (W1.ex _ _ hG)), for_use (W := W) (W1 := W1) tgr Jn (it_enum (G := W1.G) (fun W' z => W'.ex _ _ (z _ _ hG)) (fun W' z => z) i) (l0.trans l1) l1.g (hj _ _ _ _ j0 l1) hj hp1 hrt (fun s σ' W' d σ2 N B l z j r _ => turn s σ' W' d σ2 N B l z j r) hk⟩)
/-! the end of a turn -/
theorem s_nx {Jn : S → L2.St → Wd → Prop} {N B : L2.St → Hp → Prop} {s' : S} {W1 : Wd} (l : Le W0 W) (g : Same W1.G W.G) (j : Jn s' σ W) : Blk X W0 E (PL (ρ := ρ) X.K W0 W1 Jn D N B) (Trn D N B) σ W [] (.ok (.nx s')) := s_nil fun h => h σ W l g j
theorem s_brk {Jn : S → L2.St → Wd → Prop} {N B : L2.St → Hp → Prop} {s' : S} {W1 : Wd} {D' : Ends} (hB : D'.bk = B) (l : Le W0 W) (g : Same W1.G W.G) (j : Jn s' σ W) (hps : PS X (.Break pos) tBreak) : Blk X W0 E (PL (ρ := ρ) X.K W0 W1 Jn D N B) D' σ W (.Break pos :: rest) (.ok (.bk s')) := fun h => sem_ps hps (show D'.bk σ W.H by rw [hB]; exact h σ W l g j)
/-- simple loops -/
theorem blk_cast {st : List Stmt} {m m' : Rs φ} (h : Blk X W0 E P D σ W st m) (q : m = m') : Blk X W0 E P D σ W st m' := q ▸ h
def nxR {S ρ : Type} (m : Rs S) : Rs (Fl S ρ) := m.bind fun s => .ok (.nx s)
def nxK {S ρ φ : Type} (k : S → Rs φ) : Fl S ρ → Rs φ
  | .nx s => k s
  | _ => .no
theorem foldR_loop {α S φ : Type} (step : S → α → Rs S) (xs : List α) (s : S) (k : S → Rs φ) : (loopR (ρ := Unit) (fun s x => nxR (step s x)) s xs).bind (nxK k) = (foldR step s xs).bind k := by
  have h : loopR (ρ := Unit) (fun s x => nxR (step s x)) s xs = (foldR step s xs).bind fun s' => .ok (.nx s') := fold_loop step xs s
  rw [h]
  cases foldR step s xs <;> rfl
end
end Wk

set_option maxHeartbeats 1000000
namespace Wk
open PySem PySem.Spec PyProof.Rows L2
section
variable {φ S ρ : Type} {X : Cx} {E : XK} {σ : L2.St} {W W' W0 : Wd} {P : φ → Prop} {D : Ends} {e a b c iter tg : Expr} {es : List Expr} {body rest : List Stmt} {pos p p' : Pos} {α β γ τ : Type} [Rep α] [Rep β] [Rep γ] [RepA τ] [Rep ρ]
def appR {δ : Type} (ds : List δ) (d : δ) : Rs (List δ) := if ds.length < 100000 then .ok (ds ++ [d]) else .no
/-- x.append(e) -/
theorem s_ap (i : Nat) {c : Expr} {m : Rs α} {k : List α → Rs φ} {ds : List α} {q : Addr} {vs : List V} (hpe : PE X c (tBM X.K "list" rAppend (tVar i) (tCons (SemE X e) tNil))) (l0 : Le W0 W) (o : Own W0 W q (.lst vs)) (hi : AllIs X.K W.G vs ds) (h : EvR X E σ W e m)
    (hk : ∀ d' ws W1, Same W.G W1.G → (∀ r u, r ≠ q → Own W0 W r u → Own W0 W1 r u) → Own W0 W1 q (.lst ws) → Le W0 W1 → AllIs X.K W1.G ws d' → Blk X W0 E P D σ W1 rest (k d'))
    (hs : σ[i]? = some (some (.ref q)) := by rfl) (hsw : swapsWith c none pos.line X.env = pure false := by rfl) :
    Blk X W0 E P D σ W (.Expr c pos :: rest) (m.bind fun d => (appR ds d).bind k) := fun hp => by
  have hz : (∃ d, m = .ok d) → ds.length < 100000 := fun ⟨d, hd⟩ => by
    rw [hd] at hp
    by_cases z : ds.length < 100000
    · exact z
    · have h2 : PB P (EPx X.K W0 E) ((appR ds d).bind k) := hp
      unfold appR at h2
      rw [if_neg z] at h2
      exact h2.elim
  refine sem_ps (ps_expr hpe hsw) ⟨.ref q, hs, .inl ⟨rfl, vs, .inl (.inl o.h)⟩, show SemE X e σ W.H _ from ev_blk l0 h hp fun d v W1 e1 l1 i1 hp1 => ?_⟩
  have z := hz ⟨d, e1⟩
  have o1 := o.mono l1
  have h2 : PB P (EPx X.K W0 E) (k (ds ++ [d])) := by
    unfold appR at hp1
    rw [if_pos z] at hp1
    exact hp1
  exact ⟨q, vs, v, rfl, rfl, o1.h, Nat.lt_of_lt_of_le (show vs.length < 100000 by rw [paired_len hi]; exact z) (by decide), hk (ds ++ [d]) (vs ++ [v]) (W1.put q (.lst (vs ++ [v])) o1.g) l1.g (fun r u n ou => o1.other (ou.mono l1) n) o1.put (o1.le (l0.trans l1)) (paired_app (AllIs.mono l1.g hi) (.cons i1 .nil)) h2⟩
/-- x[a] = e -/
theorem s_st (i : Nat) {m : Rs α} {mi : Rs Int} {k : List α → Rs φ} {ds : List α} {q : Addr} {vs : List V} (hps : PS X (.Assign [tg] e pos) (tAsg (SemE X e) (gSub (tVar i) (SemE X a) rSetL))) (l0 : Le W0 W) (o : Own W0 W q (.lst vs)) (hi : AllIs X.K W.G vs ds) (h : EvR X E σ W e m) (ha : EvR X E σ W a mi)
    (hk : ∀ d' ws W1, Same W.G W1.G → (∀ r u, r ≠ q → Own W0 W r u → Own W0 W1 r u) → Own W0 W1 q (.lst ws) → Le W0 W1 → AllIs X.K W1.G ws d' → Blk X W0 E P D σ W1 rest (k d'))
    (hs : σ[i]? = some (some (.ref q)) := by rfl) : Blk X W0 E P D σ W (.Assign [tg] e pos :: rest) (m.bind fun d => mi.bind fun j => (setR ds j d).bind k) :=
  s_setI i l0 o hi h (fun W1 l1 => ha.mono l1) (fun d' W1 ws l1 o1 o2 l2 i2 => hk d' ws _ l1.g (fun r u n ou => o1.other (ou.mono l1) n) o2 l2 i2) hps hs
/-- a list of one's own stays from now on -/
theorem s_frz {st : List Stmt} {m : Rs φ} {ds : List α} {q : Addr} {vs : List V} (l0 : Le W0 W) (o : Own W0 W q (.lst vs)) (hi : AllIs X.K W.G vs ds)
    (hk : ∀ W1, Same W.G W1.G → (∀ r u, r ≠ q → Own W0 W r u → Own W0 W1 r u) → Le W0 W1 → Is X.K W1.G (.ref q) ds → Blk X W0 E P D σ W1 st m) : Blk X W0 E P D σ W st m :=
  hk (W.frz q (.lst vs) o.h) o.same_frz (fun r u n ou => o.other_frz ou n) (o.le_frz l0) ⟨q, vs, rfl, upd_same, AllIs.mono o.same_frz hi⟩
def optR {δ ε : Type} (o : Option δ) (f : δ → Rs ε) (z : Rs ε) : Rs ε := match o with
  | some t => f t
  | none => z
/-- if x is not None: a else: b -/
theorem s_ifN1 {sa sb : List Stmt} {o : Option α} {ma : α → Rs φ} {mb : Rs φ} {j : Nat} (l0 : Le W0 W) (hc : EvR X E σ W c (.ok o)) (ha : ∀ t W1, o = some t → Le W W1 → Blk X W0 E P D σ W1 sa (ma t)) (hb : ∀ W1, o = none → Le W W1 → Blk X W0 E P D σ W1 sb mb) :
    Blk1 X W0 E P D σ W (.If (.Compare c [.IsNot] [.Constant .none j p] p') sa sb pos) (optR o ma mb) := fun hp pins s I =>
  (ps_if pt_sem pss_sem pss_sem).run pins s σ W.H D I (show SemT X _ σ W.H _ from by
    refine (evt_notN hc) W (Le.refl _) _ ?_
    show PostT X.K E (.ok o.isSome) W _
    intro W1 l1
    cases o with
    | some t => exact iteT (ha t W1 rfl l1 hp)
    | none => exact iteF (hb W1 rfl l1 hp))
theorem s_ifN {sa sb : List Stmt} {o : Option α} {ma : α → Rs φ} {mb : Rs φ} {j : Nat} (l0 : Le W0 W) (hc : EvR X E σ W c (.ok o)) (ha : ∀ t W1, o = some t → Le W W1 → Blk X W0 E P (Thn X D rest) σ W1 sa (ma t)) (hb : ∀ W1, o = none → Le W W1 → Blk X W0 E P (Thn X D rest) σ W1 sb mb) :
    Blk X W0 E P D σ W (.If (.Compare c [.IsNot] [.Constant .none j p] p') sa sb pos :: rest) (optR o ma mb) := s_of1 (s_ifN1 l0 hc ha hb)
theorem s_ifZ1 {sa sb : List Stmt} {o : Option α} {ma : Rs φ} {mb : α → Rs φ} {j : Nat} (l0 : Le W0 W) (hc : EvR X E σ W c (.ok o)) (ha : ∀ W1, o = none → Le W W1 → Blk X W0 E P D σ W1 sa ma) (hb : ∀ t W1, o = some t → Le W W1 → Blk X W0 E P D σ W1 sb (mb t)) :
    Blk1 X W0 E P D σ W (.If (.Compare c [.Is] [.Constant .none j p] p') sa sb pos) (optR o mb ma) := fun hp pins s I =>
  (ps_if pt_sem pss_sem pss_sem).run pins s σ W.H D I (show SemT X _ σ W.H _ from by
    refine (evt_isN hc) W (Le.refl _) _ ?_
    show PostT X.K E (.ok o.isNone) W _
    intro W1 l1
    cases o with
    | some t => exact iteF (hb t W1 rfl l1 hp)
    | none => exact iteT (ha W1 rfl l1 hp))
theorem s_ifZ {sa sb : List Stmt} {o : Option α} {ma : Rs φ} {mb : α → Rs φ} {j : Nat} (l0 : Le W0 W) (hc : EvR X E σ W c (.ok o)) (ha : ∀ W1, o = none → Le W W1 → Blk X W0 E P (Thn X D rest) σ W1 sa ma) (hb : ∀ t W1, o = some t → Le W W1 → Blk X W0 E P (Thn X D rest) σ W1 sb (mb t)) :
    Blk X W0 E P D σ W (.If (.Compare c [.Is] [.Constant .none j p] p') sa sb pos :: rest) (optR o mb ma) := s_of1 (s_ifZ1 l0 hc ha hb)
/-! loops that are left at their end alone -/
def PN (W0 W : Wd) (Jn : S → L2.St → Wd → Prop) (N : L2.St → Hp → Prop) : S → Prop := fun s' => ∀ σ2 W2, Le W0 W2 → Same W.G W2.G → Jn s' σ2 W2 → N σ2 W2.H
theorem blk_nx {Jn : S → L2.St → Wd → Prop} {N B : L2.St → Hp → Prop} {D' : Ends} {st : List Stmt} {m : Rs S} {W1 : Wd} (h : Blk X W0 E (PN W0 W1 Jn N) D' σ W st m) : Blk X W0 E (PL (ρ := Unit) X.K W0 W1 Jn D N B) D' σ W st (nxR m) := fun hp => h (by
  cases m with
  | ok s => exact hp
  | er x => exact hp
  | no => exact hp)
theorem s_nn {Jn : S → L2.St → Wd → Prop} {N B : L2.St → Hp → Prop} {s' : S} {W1 : Wd} (l : Le W0 W) (g : Same W1.G W.G) (j : Jn s' σ W) : Blk X W0 E (PN W0 W1 Jn N) (Trn D N B) σ W [] (.ok s') := s_nil fun h => h σ W l g j
theorem s_forLf {g : TG} {R : Wd → α → L2.St → L2.St → Prop} (tgr : TgR X.K g R) {step : S → α → Rs S} {s0 : S} {k : S → Rs φ} {mx : Rs (List α)} (Jn : S → L2.St → Wd → Prop) (hps : PS X (.For tg iter body [] pos) (tFor (iList X.K (SemE X iter)) g (SemS X body))) (l0 : Le W0 W) (hl : EvR X E σ W iter mx)
    (hj : ∀ s σ' W' W'', Jn s σ' W' → Le W' W'' → Jn s σ' W'') (j0 : Jn s0 σ W)
    (turn : ∀ s σ' W' d σ2 N B, Le W0 W' → Same W.G W'.G → Jn s σ' W' → R W' d σ' σ2 → Blk X W0 E (PN W0 W' Jn N) (Trn D N B) σ2 W' body (step s d))
    (hk : ∀ s σ' W', Le W0 W' → Same W.G W'.G → Jn s σ' W' → Blk X W0 E P D σ' W' rest (k s)) :
    Blk X W0 E P D σ W (.For tg iter body [] pos :: rest) (mx.bind fun ds => (foldR step s0 ds).bind k) :=
  blk_cast (s_forL (ρ := Unit) (k := nxK k) (step := fun s x => nxR (step s x)) tgr Jn hps l0 hl hj j0 (fun r h => h.elim) (fun s σ' W' d σ2 N B l z j r => blk_nx (turn s σ' W' d σ2 N B l z j r)) hk) (by
    congr 1
    funext ds
    exact foldR_loop step ds s0 k)
theorem s_forGf {g : TG} {R : Wd → Int → L2.St → L2.St → Prop} (tgr : TgR X.K g R) {step : S → Int → Rs S} {s0 : S} {k : S → Rs φ} {mn : Rs Int} (Jn : S → L2.St → Wd → Prop) (hps : PS X (.For tg iter body [] pos) (tFor (iRng1 (tCons (SemE X a) tNil)) g (SemS X body))) (l0 : Le W0 W) (hl : EvR X E σ W a mn)
    (hj : ∀ s σ' W' W'', Jn s σ' W' → Le W' W'' → Jn s σ' W'') (j0 : Jn s0 σ W)
    (turn : ∀ s σ' W' d σ2 N B, Le W0 W' → Same W.G W'.G → Jn s σ' W' → R W' d σ' σ2 → Blk X W0 E (PN W0 W' Jn N) (Trn D N B) σ2 W' body (step s d))
    (hk : ∀ s σ' W', Le W0 W' → Same W.G W'.G → Jn s σ' W' → Blk X W0 E P D σ' W' rest (k s)) :
    Blk X W0 E P D σ W (.For tg iter body [] pos :: rest) (mn.bind fun n => bndR n ((foldR step s0 (rng 0 n)).bind k)) :=
  blk_cast (s_forG (ρ := Unit) (k := nxK k) (step := fun s x => nxR (step s x)) tgr Jn hps l0 hl hj j0 (fun r h => h.elim) (fun s σ' W' d σ2 N B l z j r => blk_nx (turn s σ' W' d σ2 N B l z j r)) hk) (by
    congr 1
    funext ds
    rw [foldR_loop])
theorem s_forEf {g : TG} {R : Wd → Int × α → L2.St → L2.St → Prop} (tgr : TgR X.K g R) {step : S → Int × α → Rs S} {s0 : S} {k : S → Rs φ} {mx : Rs (List α)} (Jn : S → L2.St → Wd → Prop) (hps : PS X (.For tg iter body [] pos) (tFor (iEnum X.K (tCons (SemE X a) tNil)) g (SemS X body))) (l0 : Le W0 W) (hl : EvR X E σ W a mx)
    (hj : ∀ s σ' W' W'', Jn s σ' W' → Le W' W'' → Jn s σ' W'') (j0 : Jn s0 σ W)
    (turn : ∀ s σ' W' d σ2 N B, Le W0 W' → Same W.G W'.G → Jn s σ' W' → R W' d σ' σ2 → Blk X W0 E (PN W0 W' Jn N) (Trn D N B) σ2 W' body (step s d))
    (hk : ∀ s σ' W', Le W0 W' → Same W.G W'.G → Jn s σ' W' → Blk X W0 E P D σ' W' rest (k s)) :
    Blk X W0 E P D σ W (.For tg iter body [] pos :: rest) (mx.bind fun ds => (foldR step s0 ((rng 0 ds.length).zip ds)).bind k) :=
  blk_cast (s_forE (ρ := Unit) (k := nxK k) (step := fun s x => nxR (step s x)) tgr Jn hps l0 hl hj j0 (fun r h => h.elim) (fun s σ' W' d σ2 N B l z j r => blk_nx (turn s σ' W' d σ2 N B l z j r)) hk) (by
    congr 1
    funext ds
    exact foldR_loop step _ s0 k)
end
/-! ### defs -/
section
variable {P : Program} {w : World} {K : PySem.W.Frag} {mg : Str → Option Value} {base : Heap} {τ ρ : Type} [RepA τ] [Rep ρ]
/-- what a return wants -/
abbrev PR (K : PySem.W.Frag) (W0 : Wd) (Q : VK) : ρ → Prop := fun r => ∀ v W2, Le W0 W2 → Is K W2.G v r → Q v W2.H
abbrev DF (Q : VK) : Ends := { nx := fun _ H' => Q .non H', rt := Q }
/-- the context of a def's body -/
abbrev cxN (P : Program) (w : World) (K : PySem.W.Frag) (mg : Str → Option Value) (base : Heap) (N : List Str) (qual : Str) (scope : Scope) (f : Addr) (cd : Value) (A : Around) (outer : List Env) (s : Shared) (H : Hp) (E : XK) : Cx := cxOf (L2N.CX P w) P w K mg base N qual scope f cd A outer s H E
theorem pass_fn {N : List Str} {qual : Str} {scope : Scope} {f : Addr} {cd : Value} {A : Around} {outer : List Env} {s : Shared} {H : Hp} {E : XK} (σ : L2.St) : PassesAt (L2N.CX P w) (cxN P w K mg base N qual scope f cd A outer s H E) σ E := fun pins H' s' e s'' I c =>
  L2N.passes_call (X := cxN P w K mg base N qual scope f cd A outer s H E) (W := fun cls d _ H => E cls d H) (E := E) (L2N.takes_of rfl rfl rfl rfl) (fun _ _ _ _ h => h) pins σ H' s' e s'' I c
/-- a def that keeps the promise m: at x of the module -/
structure Fn (P : Program) (w : World) (K : PySem.W.Frag) (mg : Str → Option Value) (base : Heap) (k : Nat) (x : Str) (ps : List Str) (m : τ → Rs ρ) : Prop where
  ex : ∃ fd, FnOk P w K mg base (L2N.CX P w) k (He.ga K x) fd ps (spOf K m) ∧ Binds K fd ps []
  kp : PySem.W.keepIn K (.ref (He.ga K x)) = true
  mg : mg x = some (.ref (He.ga K x))
theorem fn_ok {qual x : Str} {params : Arguments} {body : List Stmt} {scope : Scope} {f : Addr} {fd : FuncData} {N ps : List Str} {k : Nat} {m : τ → Rs ρ} (F : FunD K x qual params body scope [] [] f fd) (S : FnScope N ps scope) (hlen : ∀ (G : Hp) vs (a : τ), RepA.is K G vs a → vs.length = ps.length)
    (hbody : ∀ (cdv : Value) (A : Around) (outer : List Env) (s : Shared) (Q : VK) (E : XK) (W0 : Wd) (a : τ) (vs : List V), Room k (A.deeper (envOfC qual scope s.heap.objs.size f cdv)) → RepA.is K W0.G vs a →
      Blk (cxN P w K mg base N qual scope f cdv A outer s W0.H E) W0 E (PR K W0 Q) (DF Q) (L2.start N vs) W0 body (m a)) : FnOk P w K mg base (L2N.CX P w) (k + 1) f fd ps (spOf K m) :=
  F.ok S (fun vs H Q E ⟨W0, a, e, i, _⟩ => hlen W0.G vs a i) fun cdv A outer s H vs Q E hr ⟨W0, a, e, i, hP⟩ => ⟨SemS _ body, pss_sem, by
    subst e
    refine hbody cdv A outer s Q E W0 a vs hr i ?_
    cases hm : m a with
    | ok r =>
      rw [hm] at hP
      exact hP
    | er x =>
      rw [hm] at hP
      exact hP
    | no =>
      rw [hm] at hP
      exact hP⟩
end
section
variable {X : Cx} {E : XK} {σ : L2.St} {W : Wd} {e : Expr} {es : List Expr} {pos p : Pos} {α τ : Type} [Rep α] [RepA τ]
theorem evr_callF {k : Nat} {ps : List Str} {m : τ → Rs α} {ma : Rs τ} {x : Str} {EE : L2.St → XK} (F : Fn X.prog X.w X.K X.mg X.base k x ps m) (hr : Room k X.A) (hx : ∀ σ, PassesAt (L2N.CX X.prog X.w) X σ (EE σ)) (ha : EvA X (EE σ) σ W (e :: es) ma) (hg : Gl X x := by rfl) (hdb : (x == ("__debug__" : Str)) = false := by decide)
    (he : starEach (e :: es) X.env = (false, eval e X.env) :: starEach es X.env := by rfl) (hpl : (backTo pos (starEach es X.env)).any (·.1) = false := by rfl) :
    EvR X (EE σ) σ W (.Call (.Name x p) (e :: es) [] pos) (ma.bind m) := by
  obtain ⟨fd, F1, hb⟩ := F.ex
  exact evr_call F1 hr F.mg F.kp hb hx ha hg hdb he hpl
end
section
variable {X : Cx} {E : XK} {σ : L2.St} {W : Wd} {a b : Expr} {rest : List Expr} {pos p : Pos}
theorem evr_andP {x y : Bool} (ha : EvR X E σ W a (.ok x)) (hb : x = true → EvR X E σ W (.BoolOp .And (b :: rest) pos) (.ok y)) : EvR X E σ W (.BoolOp .And (a :: b :: rest) pos) (.ok (x && y)) :=
  EvR.cast (evr_and ha fun h => hb (by injection h)) (by show (if x = true then Rs.ok y else Rs.ok false) = _; cases x <;> rfl)
theorem evr_orP {x y : Bool} (ha : EvR X E σ W a (.ok x)) (hb : x = false → EvR X E σ W (.BoolOp .Or (b :: rest) pos) (.ok y)) : EvR X E σ W (.BoolOp .Or (a :: b :: rest) pos) (.ok (x || y)) :=
  EvR.cast (evr_or ha fun h => hb (by injection h)) (by show (if x = true then Rs.ok true else Rs.ok y) = _; cases x <;> rfl)
theorem EvW.cast {e : Expr} {m m' : Rs Bool} (h : EvW X E σ W e m) (q : m = m') : EvW X E σ W e m' := q ▸ h
theorem evw_andP {x y : Bool} (ha : EvT X E σ W a (.ok x)) (hb : x = true → EvW X E σ W (.BoolOp .And (b :: rest) pos) (.ok y)) : EvW X E σ W (.BoolOp .And (a :: b :: rest) pos) (.ok (x && y)) :=
  EvW.cast (evw_and ha fun h => hb (by injection h)) (by show (if x = true then Rs.ok y else Rs.ok false) = _; cases x <;> rfl)
theorem evw_orP {x y : Bool} (ha : EvT X E σ W a (.ok x)) (hb : x = false → EvW X E σ W (.BoolOp .Or (b :: rest) pos) (.ok y)) : EvW X E σ W (.BoolOp .Or (a :: b :: rest) pos) (.ok (x || y)) :=
  EvW.cast (evw_or ha fun h => hb (by injection h)) (by show (if x = true then Rs.ok true else Rs.ok y) = _; cases x <;> rfl)
end
end Wk

set_option maxHeartbeats 2000000
/-! Wk10: lists walked while an exception is handled. -/
namespace Wk
open PySem PySem.Spec PyProof.Rows L2 L2H HotX
section
variable {prog : Program} {w : World} {A : Around} {E : Value → Shared → Prop} {s : Shared}
/-- the end of a list's walk, an exception being handled -/
theorem list_end_hot {it l x1 : Addr} {i : Nat} {items : Array Value} {Q : Option Value → Shared → Prop} (hot : HotAt A x1 s.heap) (hne : x1 ≠ it) (hit : s.heap.IsListIter it l i) (hl : s.heap.IsList l items) (hx : items[i]? = none)
    (hQ : ∀ h', (∀ b o, b ≠ it → s.heap.get? b = some o → h'.get? b = some o) → Q none { s with heap := h' }) : wpAny (model prog w) A (pyNext (.ref it)) Q E s := by
  obtain ⟨hh, o1, vs1, h1, d1, c1⟩ := hot
  obtain ⟨oi, hoi, _, hdi⟩ := id hit
  obtain ⟨ol, hol, _, nl, hdl⟩ := hl
  unfold pyNext
  refine wpAny_bind (wpAny_attempt (wpAny_callSpecial?_slot (name := Str.ofString "__next__") hit.typeIs slot_listiter_next (wpAny_call_entry slot_listiter_next hit.typeIs entry_listiter_next ?_ (args_listiter_next _))))
  show wpAny _ _ (field (.ref it) 0 >>= _) _ _ s
  refine wpAny_bind (wpAny_field hoi hdi (x := .ref l) rfl ?_)
  show wpAny _ _ (if (Value.ref l == Value.none) = true then _ else _) _ _ s
  rw [if_neg (by exact Bool.false_ne_true)]
  show wpAny _ _ (field (.ref it) 1 >>= _) _ _ s
  refine wpAny_bind (wpAny_field hoi hdi (x := .int i 0) rfl ?_)
  show wpAny _ _ (seqItems? (.ref l) >>= _) _ _ s
  refine wpAny_bind (wpAny_seqItems hol hdl ?_)
  simp only [Int.toNat_natCast, hx]
  refine wpAny_bind (wpAny_rule (wpAny_bind (wpAny_setField hoi hdi (by simp) ?_)))
  show wpAny _ _ (newExc (.type "StopIteration") [] >>= _) _ _ _
  refine wpAny_bind ?_
  simp only [newExc, newTuple]
  refine wpAny_bind (wpAny_newObj_type ?_ (by size_fits))
  refine wpAny_bind (m := firstArgMember _ _) (wpAny_of_eq (a := Value.none) (by first | rfl | (simp only [firstArgMember]; rfl)) ?_)
  refine wpAny_newObj_type ?_ (by size_fits)
  have k0 : ∀ b o, b ≠ it → s.heap.get? b = some o → (s.heap.update it (Obj.mapFields (·.setIfInBounds 0 Value.none))).get? b = some o := fun b o hb e => (Heap.get?_update_other _ _ (Ne.symm hb)).trans e
  have h1' := Heap.get?_push_of_some ({ cls := .type "StopIteration", data := .fields #[] } : Obj) (k0 x1 o1 hne h1)
  refine raiseNew_hot ⟨hh, o1, vs1, Heap.get?_push_of_some _ (Heap.get?_push_of_some _ (k0 x1 o1 hne h1)), d1, c1⟩ (Nat.ne_of_lt (Heap.lt_size (Heap.get?_push_of_some _ (k0 x1 o1 hne h1)))) (Heap.get?_push_size _ rfl) rfl (by first | (simp; done) | (simp; omega) | (simp only [Array.size_append]; simp; omega)) ?_
  refine wpAny_bind (wpAny_isInstance (T := "StopIteration") (b := true) ⟨_, Heap.get?_update_self _ (Heap.get?_push_size _ rfl) rfl, rfl⟩ isSubtype_stop ?_)
  refine wpAny_pure (hQ _ fun b o hb e => ?_)
  rw [Heap.get?_update_other _ _ (Nat.ne_of_gt (Heap.lt_size (Heap.get?_push_of_some _ (k0 b o hb e))))]
  exact Heap.get?_push_of_some _ (Heap.get?_push_of_some _ (k0 b o hb e))
/-- the walk of a list of ints by sum -/
theorem walks_hot (hh : A.handled = some (.ref x1)) (o1 : Obj) (vs1 : Array Value) (d1 : o1.data = .fields vs1) (c1 : vs1[2]? = some .none) (I ax : Addr) (hne : ax ≠ I) (hx : x1 ≠ I) (items : Array Value) :
    Walks prog w A I [I, ax, x1] [I] items.size (fun i v => items[i]? = some v) (fun i h => h.IsListIter I ax i ∧ h.IsList ax items ∧ h.get? x1 = some o1) where
  sub := fun b hb => by simp at hb; simp [hb]
  frame := fun _ _ _ st hk => ⟨st.1.at fun o e => hk I (by simp) o e, st.2.1.at fun o e => hk ax (by simp) o e, hk x1 (by simp) o1 st.2.2⟩
  item := fun i s Q E hi st hQ => by
    refine wpAny_pyNext_list_item st.1 st.2.1 (x := items[i]) (by simp [hi]) fun h' z zs => ?_
    exact hQ _ h' s.toks (by simp [hi]) ⟨z, st.2.1.extBut zs.extBut hne, zs.extBut x1 o1 hx st.2.2⟩ fun b o hb e => zs.extBut b o (fun h => hb (by simp [h])) e
  done := fun s Q E st hQ => list_end_hot ⟨hh, o1, vs1, st.2.2, d1, c1⟩ hx st.1 st.2.1 (by simp) fun h' z => hQ h' s.toks fun b o hb e => z b o (fun h => hb (by simp [h])) e
  self := fun _ _ _ _ st hQ => wpAny_pyIter_listiter st.1 hQ
theorem sum_hot {x1 : Addr} {l : Addr} {xs : Array (Int × Tok)} {Q : Value → Shared → Prop} (hot : HotAt A x1 s.heap) (hl : s.heap.IsList l (intItems xs))
    (h : ∀ h' tk t', (∀ b o, s.heap.get? b = some o → h'.get? b = some o) → Q (.int (preSum (numAt xs) xs.size) t') { s with heap := h', toks := tk }) : wpAny (model prog w) A (call (.builtin "sum") [.ref l]) Q E s := by
  obtain ⟨hh, o1, vs1, h1, d1, c1⟩ := hot
  have hlt1 := Heap.lt_size h1
  refine call_sum_walkG (iter_intList hl fun s₂ e st hfp hlI => ?_)
  subst e
  have hne1 : x1 ≠ s.heap.objs.size := Nat.ne_of_lt hlt1
  have hg : (s.heap.push { cls := .type "list_iterator", data := .fields #[.ref l, .int 0 0] }).get? x1 = some o1 := Heap.get?_push_of_some _ h1
  refine ⟨_, _, _, _, _, _, numAt xs, rfl, walks_hot (A := A.in1) hh o1 vs1 d1 c1 _ l hlI hne1 (intItems xs), ⟨st.1, st.2, hg⟩, fun b hb => ?_, (fun _ _ => intItems_at), fun h' tk t' hk => ?_⟩
  · rcases List.mem_cons.mp hb with e | hb
    · exact hfp b (by simp [e])
    · rcases List.mem_cons.mp hb with e | hb
      · exact hfp b (by simp [e])
      · obtain rfl : b = x1 := by simpa using hb
        exact Heap.lt_size hg
  · have := h h' tk t' (old_kept hk)
    simpa [intItems] using this
end
end Wk

set_option maxHeartbeats 4000000
/-! Wk11: comprehensions and sums while an exception is handled. -/
namespace Wk
open PySem PySem.Spec PyProof.Rows L2 L2H HotX
section
variable {X : Cx}
/-- [elt for tg in l if ..] there: as pe_lc, the pinned exception carried through the block -/
theorem pe_lcH {elt tg l : Expr} {ifs : List Expr} {scope : Scope} {own : List (Str × Nat)} {pos : Pos} {tl te : TE} {g : TG} {tt : TT} (hc : HotC X) (hN : X.N.Nodup) (hl : PE X l tl) (ok : BlkOk X.N X.env.scope scope own)
    (hg : ∀ (s : Shared) (H : Hp) (C : Addr) (cl : List (Str × Addr)) (fp : List Addr), PG (X.blk s H scope (compEnvC scope cl C X.env) fp) tg g) (ht : ∀ (s : Shared) (H : Hp) (C : Addr) (cl : List (Str × Addr)) (fp : List Addr), PTs (X.blk s H scope (compEnvC scope cl C X.env) fp) ifs tt)
    (he : ∀ (s : Shared) (H : Hp) (C : Addr) (cl : List (Str × Addr)) (fp : List Addr), PE (X.blk s H scope (compEnvC scope cl C X.env) fp) elt te) (hs : ∀ x, foldedSetIterable l X.env x = pure x := by intro _; rfl) :
    PE X (.ListComp elt [⟨tg, l, ifs, 0⟩] scope pos) (tLc (iList X.K tl) g tt te (own.map (·.2))) := by
  refine ⟨fun pins s σ H Q I h => ?_⟩
  rw [eval_ListComp]
  obtain ⟨p, ⟨hh, vp, ep, cp⟩, hpn⟩ := hc
  have clo : ∀ y ∈ scope.names, y.2 = .free → ∃ c, X.env.cells.lookup y.1 = some c := fun y hy e => (ok.free y hy e).elim (fun k => I.ok.has _ (.inl k)) fun k => I.ok.has _ (.inr k)
  refine wpAny_comprehension_free (use := none) rfl hs (closure_ok clo) ok.kind (fun y hy e => by rw [ok.uniq y hy, e]) (thn (hl.run pins s σ H _ I h) fun xv s1 ⟨x, H1, I1, r1, a, ex, ⟨xs0, hq0⟩, q1⟩ => ?_)
  subst ex
  obtain rfl : xv = Value.ref a := r1
  obtain ⟨its0, rv0, p0, hz0⟩ := I1.list hq0
  refine wpAny_pyIter_list p0.isList ?_
  generalize hit : s1.heap.objs.size = it
  generalize hs2 : ({ s1 with heap := s1.heap.push { cls := .type "list_iterator", data := .fields #[.ref a, .int 0 0] } } : Shared) = s2
  have k12 : ∀ b o, s1.heap.get? b = some o → s2.heap.get? b = some o := fun b o e => by
    rw [← hs2]
    exact Heap.get?_push_of_some _ e
  have I2 : Inv X pins σ H1 s2 := by
    rw [← hs2]
    exact I1.kept (t' := s1.toks) fun b o e => Heap.get?_push_of_some _ e
  have li2 : s2.heap.IsListIter it a 0 := by
    rw [← hs2, ← hit]
    exact ⟨_, Heap.get?_push_size _ rfl, rfl, rfl⟩
  have fit : FpOk X pins H1 it := by
    rw [← hit]
    exact I1.fpOk (Nat.le_refl _) (I1.hok.fresh (Nat.le_refl _))
  have P1 := I1.pin p (List.mem_append_left _ hpn)
  have pit : p.1 ≠ it := fit.2.2.2.2.2 p (List.mem_append_left _ hpn)
  refine wpAny_newObj_type (newEnv_comp ?_) (by show 0 ≤ sizeLine; decide)
  generalize hD : s2.heap.objs.size = D
  have hDn : H1 D = none := I2.hok.fresh (Nat.le_of_eq hD)
  obtain ⟨Wt, ⟨m0, w0⟩, turn⟩ := q1 D hDn
  generalize hs3 : ({ s2 with heap := s2.heap.push { cls := .type "list", data := .seq ([] : List Value).toArray } } : Shared) = s3
  have h3 : s3.heap = s2.heap.push { cls := .type "list", data := .seq ([] : List Value).toArray } := by rw [← hs3]
  have I3 : Inv X pins σ (upd H1 D (.lst [])) s3 := by
    rw [← hs3]
    refine I2.laid (t' := s2.toks) (fun b o e => Heap.get?_push_of_some _ e) (Nat.le_of_eq hD) ⟨Nat.zero_le _, [], 0, .nil, ?_⟩
    rw [← hD]
    exact Heap.get?_push_size _ rfl
  have itlt : it < s2.heap.objs.size := by
    obtain ⟨o, e, _⟩ := id li2
    exact Heap.lt_size e
  have itD : it ≠ D := by
    rw [← hD]
    exact Nat.ne_of_lt itlt
  have f3 : ∀ b ∈ [it], FpOk X pins (upd H1 D (.lst [])) b ∧ b < s3.heap.objs.size := fun b hb => by
    obtain rfl : b = it := by simpa using hb
    exact ⟨⟨by rw [upd_ne itD]; exact fit.1, fit.2⟩, by rw [h3, Heap.size_push]; exact Nat.lt_succ_of_lt itlt⟩
  have li3 : s3.heap.IsListIter it a 0 := by
    rw [h3]
    exact li2.at fun o e => Heap.get?_push_of_some _ e
  have I4 := block_start I3 ok hN f3
  have P3 := I3.pin p (List.mem_append_left _ hpn)
  have pg := hg s3 (upd H1 D (.lst [])) s3.heap.objs.size (cellsFrom (s3.heap.objs.size + 1) scope.names (cloFrom X.env.cells scope.names [])) [it]
  have pt := ht s3 (upd H1 D (.lst [])) s3.heap.objs.size (cellsFrom (s3.heap.objs.size + 1) scope.names (cloFrom X.env.cells scope.names [])) [it]
  have pe := he s3 (upd H1 D (.lst [])) s3.heap.objs.size (cellsFrom (s3.heap.objs.size + 1) scope.names (cloFrom X.env.cells scope.names [])) [it]
  show codeAny _ _ (.compStart (.ListComp elt [⟨tg, l, ifs, 0⟩] scope pos) 0 (.ref it) (.ref D) (compEnvC scope (cellsFrom (s3.heap.objs.size + 1) scope.names (cloFrom X.env.cells scope.names [])) s3.heap.objs.size X.env)) (compPost (model X.prog X.w) X.A X.xe none _ (.ref D) s3.heap.objs.size) { s3 with heap := pushCells (s3.heap.push { cls := .type "dict", data := .dict #[] }) scope.names }
  generalize hce : compEnvC scope (cellsFrom (s3.heap.objs.size + 1) scope.names (cloFrom X.env.cells scope.names [])) s3.heap.objs.size X.env = ce at I4 pg pt pe ⊢
  have cL : ce.locals = s3.heap.objs.size := by
    subst hce
    rfl
  have nit : (upd H1 D (.lst [])) it = none := (f3 it (by simp)).1.1
  generalize hH3 : upd H1 D (.lst []) = H3 at I3 I4 pg pt pe w0 f3 P3 nit
  generalize hs4 : ({ s3 with heap := pushCells (s3.heap.push { cls := .type "dict", data := .dict #[] }) scope.names } : Shared) = s4 at I4 ⊢
  have k34 : ∀ b o, s3.heap.get? b = some o → s4.heap.get? b = some o := fun b o e => by
    rw [← hs4]
    exact pushCells_keeps _ _ _ _ (Heap.get?_push_of_some _ e)
  have li4 : s4.heap.IsListIter it a 0 := li3.at fun o e => k34 it o e
  -- the pinned exception stays in the block
  have I4p : Inv (X.blk s3 H3 scope ce [it]) [p] (wipe σ (own.map (·.2))) H3 s4 := I4.pins_of fun q hq => by
    obtain rfl : q = p := by simpa using hq
    exact ⟨k34 _ _ P3.1, P3.2.1, by rw [cL]; exact Nat.ne_of_lt (Heap.lt_size P3.1), fun hm => (List.mem_cons.mp (I3.stkSub q.1 hm)).elim P3.2.2.1 P3.2.2.2.1, P3.2.2.2.2⟩
  have fok : ∀ {σ' : L2.St} {H' : Hp} {s' : Shared}, Inv (X.blk s3 H3 scope ce [it]) [p] σ' H' s' → H' it = none → FpOk (X.blk s3 H3 scope ce [it]) [p] H' it := fun {σ' H' s'} J n =>
    ⟨n, (J.ok.exf it (by simp)).1, J.ok.exfs it (by simp), .inl (by simp), fun x c e => (J.ok.exf it (by simp)).2 x c e, fun q hq => by
      obtain rfl : q = p := by simpa using hq
      exact pit⟩
  have loop : codeAny (model X.prog X.w) X.A (.compLoop (.ListComp elt [⟨tg, l, ifs, 0⟩] scope pos) 0 (.ref it) (.ref D) ce) (compPost (model X.prog X.w) X.A X.xe none (fun v s' => ∃ x H', Inv X pins σ H' s' ∧ RelV x v ∧ Q x H') (.ref D) s3.heap.objs.size) s4 := by
    refine compLoop_any (fun n s' => ∃ i H', Inv (X.blk s3 H3 scope ce [it]) [p] (wipe σ (own.map (·.2))) H' s' ∧ s'.heap.IsListIter it a i ∧ H' it = none ∧ Wt i n H') ?_ m0 ⟨0, H3, I4p, li4, nit, w0⟩
    rintro n s5 ⟨i, H5, I5, li5, n5, w5⟩
    obtain ⟨g0, g1, g2, g3, g4, g5⟩ := fok I5 n5
    have Pp := I5.pin p (List.mem_append_right _ (by simp))
    rcases turn i n H5 w5 with ⟨⟨ys, hys, hle⟩, qq⟩ | ⟨⟨ys, y, hys, hy⟩, Nx, hNx, step⟩
    · obtain ⟨its, rv, pl, hz⟩ := I5.list hys
      have ll := rv.length
      refine list_end_hot ⟨hh, p.2, vp, Pp.1, ep, cp⟩ pit li5 pl.isList (by simp; omega) fun h' eb => ?_
      have I6 := I5.turned (t' := s5.toks) (fun b o hb e => eb b o hb e) g0 g1 g3 g4 g5
      have I7 : Inv X pins σ H5 { s5 with heap := h' } := I3.call' (ch := [it]) I6.os I6.base I6.hok I6.bare fun b hb => ⟨(f3 b hb).1.2.2.2.1, (f3 b hb).1.2.1, (f3 b hb).1.2.2.2.2.1, (f3 b hb).1.2.2.2.2.2⟩
      have nC : H5 s3.heap.objs.size = none := by
        have z : H5 ce.locals = none := I6.free
        rw [cL] at z
        exact z
      obtain ⟨m, hn, _⟩ := I6.loc
      have hn : h'.Ns ce.locals m := hn
      rw [cL] at hn
      refine ⟨m, hn, fun h'' sb => ?_⟩
      obtain ⟨f0, f1, f2, f3', f4, f5⟩ := I3.fpOk (H' := H5) (Nat.le_refl _) nC
      exact ⟨.ref D, H5, I7.turned (t' := s5.toks) (fun b o hb e => (sb.2 b hb).trans e) f0 f1 f3' f4 f5, rfl, qq⟩
    · obtain ⟨its, rv, pl, hz⟩ := I5.list hys
      obtain ⟨u, hu, ru⟩ := rv.get hy
      refine wpAny_pyNext_list_item li5 pl.isList (x := u) (by simpa using hu) fun h' li6 sb => ?_
      have I6 : Inv (X.blk s3 H3 scope ce [it]) [p] (wipe σ (own.map (·.2))) H5 { s5 with heap := h' } := I5.turned (t' := s5.toks) (fun b o hb e => (sb.2 b hb).trans e) g0 g1 g3 g4 g5
      obtain ⟨oi, ei, ci, di⟩ := id li6
      refine go_of (s := { s5 with heap := h' }) ei ci di (by decide) ?_
      have I7 : Inv (X.blk s3 H3 scope ce [it]) ([p] ++ pinsAt [it] h') (wipe σ (own.map (·.2))) H5 { s5 with heap := h' } := I6.pinned (fun b hb => by
        obtain rfl : b = it := by simpa using hb
        exact fok I6 n5) fun b hb => by
        obtain rfl : b = it := by simpa using hb
        exact ⟨oi, ei, fun v z => by rw [di] at z; cases z⟩
      refine thnF (pg.run _ _ _ H5 y u _ I7 ru (step y H5 ⟨rfl, fun zs hzs => by rw [I5.list_inj hzs hys]; exact hy⟩)) fun _ s8 ⟨σ8, H8, I8, hw8, q8⟩ => ?_
      refine thnF (pt.run _ s8 σ8 H8 _ I8 q8) fun b s9 ⟨H9, I9, q9⟩ => ?_
      have fin : ∀ {s' : Shared} {H' : Hp}, Inv (X.blk s3 H3 scope ce [it]) ([p] ++ pinsAt [it] h') σ8 H' s' → Nx H' → ∃ m, m < n ∧ ∃ i H', Inv (X.blk s3 H3 scope ce [it]) [p] (wipe σ (own.map (·.2))) H' s' ∧ s'.heap.IsListIter it a i ∧ H' it = none ∧ Wt i m H' := fun {s' H'} J nx => by
        obtain ⟨m', hm, w'⟩ := hNx H' nx
        have pz := J.pin (it, oi) (List.mem_append_right _ (List.mem_append_right _ (mem_pinsAt (by simp) ei)))
        have hlen : (wipe σ (own.map (·.2))).length = σ8.length := by rw [← hw8, wipe_length]
        refine ⟨m', hm, i + 1, H', (J.unpinned (pins := [p])).weak hlen (fun j v e => ?_), ⟨oi, pz.1, ci, di⟩, pz.2.1, w'⟩
        rw [← hw8] at e
        exact (wipe_some e).1
      cases b with
      | false =>
        simp only [Bool.false_eq_true, if_false] at q9 ⊢
        exact fin I9 q9
      | true =>
        simp only [if_true] at q9 ⊢
        refine thnF (pe.run _ s9 σ8 H9 _ I9 q9) fun z s10 ⟨yv, HA, IA, rA, acc, hDA, hzA, nx⟩ => ?_
        exact app_ok (X := X.blk s3 H3 scope ce [it]) IA hDA hzA rA fun sB IB => fin IB nx
  exact codeAny_compStart_list loop (wpAny_pyIter_listiter li4 loop)
/-- sum(xs) of a list of ints there -/
theorem cr_sumH (hc : HotC X) : CallR X (.builtin "sum") (rSum X.K) := by
  intro pins s σ H vs us Q I r h
  obtain ⟨a, ns, rfl, hs, q⟩ := h
  obtain ⟨its, rv, hl, _⟩ := I.list hs
  rw [Vals.ref1 r]
  obtain ⟨x1, hot⟩ := hc.at I
  have hi := rv.ints
  obtain ⟨xs, e⟩ := hi.allInts.items
  have hn : numsOf (intItems xs).toList = ns := by
    rw [← e]
    exact hi.numsOf
  rw [nums_intItems] at hn
  have hl' : s.heap.IsList a (intItems xs) := by
    rw [← e]
    exact hl.isList
  refine sum_hot hot hl' fun h' tk t' hk => ⟨.int _, H, I.kept hk, ⟨t', ?_⟩, q⟩
  rw [preSum_eq, List.take_of_length_le (by simp), hn]
end
section
variable {X : Cx} {E : XK} {σ : L2.St} {W W' : Wd} {e a b c : Expr} {es : List Expr} {pos p p' : Pos} {α β γ τ : Type} [Rep α] [Rep β] [Rep γ] [RepA τ]
theorem evr_lcH {elt iter : Expr} {nm : Str} {tp : Pos} {j : Nat} {scope : Scope} {mx : Rs (List α)} {f : α → Rs β} (hc : HotC X) (hN : X.N.Nodup) (ok : BlkOk X.N X.env.scope scope [(nm, j)]) (hl : EvL X E σ W iter mx)
    (hj : ∀ (s : Shared) (H0 : Hp) (C : Addr) (cl : List (Str × Addr)) (fp : List Addr), PG (X.blk s H0 scope (compEnvC scope cl C X.env) fp) (.Name nm tp) (gName j))
    (he : ∀ W' v x, Le W W' → Is X.K W'.G v x → ∀ s H0 C cl fp, EvR (X.blk s H0 scope (compEnvC scope cl C X.env) fp) E0 ((wipe σ [j]).set j (some v)) W' elt (f x))
    (hs : ∀ x, foldedSetIterable iter X.env x = pure x := by intro _; rfl) :
    EvR X E σ W (.ListComp elt [⟨.Name nm tp, iter, [], 0⟩] scope pos) (mx.bind fun xs => mapR f xs) :=
  evr_rf (pe_lcH (own := [(nm, j)]) (g := gName j) (tt := tYes) hc hN pe_sem ok hj (fun _ _ _ _ _ => pts_nil) (fun s H0 C cl fp => pe_blk s H0 C cl fp) hs) (rf_lc hl he).rf
theorem evr_sumH {m : Rs (List Int)} (h : EvL X E σ W a m) (hm : X.mg "sum" = none) (hc : HotC X) (hg : Gl X "sum" := by rfl) (hs : starEach [a] X.env = (false, eval a X.env) :: starEach [] X.env := by rfl) : EvR X E σ W (.Call (.Name "sum" p) [a] [] pos) (m.bind fun ds => .ok ds.sum) := fun W1 l1 Q hq =>
  sem_pe (pe_callB (cr_sumH hc) hg hm boot_sum (pa_cons pe_sem pa_nil hs) (he := hs)) (show SemE X a σ W1.H _ from (h.mono l1).use hq fun ds q vs W2 e2 l2 hH i hq2 => ⟨q, ds, rfl, by rw [← ints_eq i]; exact .inl (.inl hH), hq2 _ W2 (Le.refl _) rfl⟩)
end
end Wk

set_option maxHeartbeats 4000000
/-! Wk12: refusals raised, caught, asked. -/
namespace Wk
open PySem PySem.Spec PyProof.Rows L2
/-! ### an own class over ValueError -/
def oexB (K : PySem.W.Frag) (C : Addr) : Bool := match K.lookup C with
  | some ⟨.type t, _, .cls cd, sl⟩ => (match cd.mro, sl.toList with
    | .ref C' :: bm, [_, _, _, _, some (.builtin n), _] => t == "type" && (C' == C && (n == "ValueError.__new__" && (!cd.hasDel && (cd.hasDict && PySem.HandSPX.refsVE bm))))
    | _, _ => false)
  | _ => false
theorem oexB_ok {K : PySem.W.Frag} {C : Addr} (h : oexB K C = true) : ∃ nm q N bs bm sn sub ab col dd k0 k1 k2 k3 k5, K.lookup C = some (excClassObj nm q C N bs bm true sn sub ab col dd k0 k1 k2 k3 k5 "ValueError.__new__") ∧ PySem.HandSPX.refsVE bm = true := by
  unfold oexB at h
  split at h
  · rename_i t dd cd sl ho
    split at h
    · rename_i C' bm k0 k1 k2 k3 n k5 hm hsl
      simp only [Bool.and_eq_true, beq_iff_eq, Bool.not_eq_true'] at h
      obtain ⟨rfl, rfl, rfl, hdel, hdict, hv⟩ := h
      obtain ⟨nm, bs, mro, ns, qn, hd, sn, sub, ab, col, del⟩ := cd
      dsimp only at hm hdel hdict
      subst hm hdel hdict
      have e : sl = #[k0, k1, k2, k3, some (.builtin "ValueError.__new__"), k5] := by
        obtain ⟨l⟩ := sl
        simp only at hsl
        rw [hsl]
      subst e
      exact ⟨nm, qn, ns, bs, bm, sn, sub, ab, col, dd, k0, k1, k2, k3, k5, ho, hv⟩
    · cases h
  · cases h
/-- all that is asked of the class n, fl its fields -/
def xcB (K : PySem.W.Frag) (n : Str) (fl : List Str) : Bool :=
  oexB K (He.ga K n) && (decide (PySem.W.findIn K (.ref (He.ga K n)) "__setattr__" = some (some (.builtin "object.__setattr__"))) && (decide (PySem.W.subIn K (.ref (He.ga K n)) (.type "BaseException") = some true) &&
    (decide (PySem.W.typeIn K (.ref (He.ga K n)) = some (.type "type")) && (PySem.W.keepIn K (.ref (He.ga K n)) && (decide (PySem.W.findIn K (.ref (He.ga K n)) "__getattribute__" = some (some (.builtin "BaseException.__getattribute__"))) &&
      (decide (PySem.W.findIn K (.ref (He.ga K n)) "__getattr__" = some none) && (PySem.W.hasDictIn K (He.ga K n) && (decide (PySem.W.findIn K (.ref (He.ga K n)) "__class__" = some (some (.builtin "object.__class__"))) &&
        (decide (PySem.W.specialIn K (.builtin "object.__class__") "__get__" = some (some (.builtin "getset_descriptor.__get__"))) && (decide (PySem.W.takesIn K (.builtin "object.__class__") = some true) && (decide (PySem.W.mroIn K (He.ga K n) (.type "object") = some true) &&
          (decide (PySem.W.findIn K (.ref (He.ga K n)) "__init__" = some (some (.ref (He.ma K (He.ga K n) "__init__")))) && (decide (PySem.W.typeIn K (.ref (He.ma K (He.ga K n) "__init__")) = some (.type "function")) &&
            fl.all fun f => decide (PySem.W.findIn K (.ref (He.ga K n)) f = some none))))))))))))))
structure Xc (K : PySem.W.Frag) (n : Str) (fl : List Str) : Prop where
  ox : OexC K (He.ga K n)
  xf : XfC K (He.ga K n)
  ec : ExcC K (He.ga K n)
  ini : PySem.W.findIn K (.ref (He.ga K n)) "__init__" = some (some (.ref (He.ma K (He.ga K n) "__init__")))
  ity : PySem.W.typeIn K (.ref (He.ma K (He.ga K n) "__init__")) = some (.type "function")
  no : ∀ f ∈ fl, PySem.W.findIn K (.ref (He.ga K n)) f = some none
theorem xcB_ok {K : PySem.W.Frag} {n : Str} {fl : List Str} (h : xcB K n fl = true) : Xc K n fl := by
  unfold xcB at h
  simp only [Bool.and_eq_true, decide_eq_true_eq, List.all_eq_true] at h
  obtain ⟨h1, h2, h3, h4, h5, h6, h7, h8, h9, h10, h11, h12, h13, h14, h15⟩ := h
  exact ⟨⟨oexB_ok h1, h2, h3, h4, h5⟩, ⟨h6, h7, h3, h8⟩, ⟨h6, h7, h3, h8, h9, h10, h11, h12⟩, h13, h14, h15⟩
/-- the base class of all, whose __init__ is ValueError's -/
def xhB (K : PySem.W.Frag) (n : Str) : Bool := PySem.W.readsIn K (He.ga K n) (.type "type") && (decide (PySem.W.specialIn K (.ref (He.ga K n)) "__getattribute__" = some (some (.builtin "type.__getattribute__"))) &&
  (match PySem.W.findCls K (.ref (He.ga K n)) (.type "type") "__init__" with
    | some (.val (.builtin b)) => b == "ValueError.__init__"
    | _ => false))
structure Xh (K : PySem.W.Frag) (n : Str) : Prop where
  rd : PySem.W.readsIn K (He.ga K n) (.type "type") = true
  ga : PySem.W.specialIn K (.ref (He.ga K n)) "__getattribute__" = some (some (.builtin "type.__getattribute__"))
  at_ : PySem.W.findCls K (.ref (He.ga K n)) (.type "type") "__init__" = some (.val (.builtin "ValueError.__init__"))
theorem xhB_ok {K : PySem.W.Frag} {n : Str} (h : xhB K n = true) : Xh K n := by
  unfold xhB at h
  obtain ⟨h1, h⟩ := Bool.and_eq_true_iff.mp h
  obtain ⟨h2, h3⟩ := Bool.and_eq_true_iff.mp h
  refine ⟨h1, of_decide_eq_true h2, ?_⟩
  split at h3
  · rename_i b hb
    rw [hb, beq_iff_eq.mp h3]
  · cases h3

/-! ### its __init__ -/
section
variable {X : Cx} {o e : Expr} {es : List Expr} {to te : TE} {ta : TA} {f : Str} {p p' p1 p2 pos : Pos}
theorem pe_xinit {b : Str} {pl : Sem Bool} (hg : Gl X b) (hm : X.mg b = some (.ref (He.ga X.K b))) (hh : Xh X.K b) (ha : PA X (e :: es) ta) (hd : (b == ("__debug__" : Str)) = false := by decide)
    (hc : eval (.Call (.Attribute (.Name b p1) "__init__" p2) (e :: es) [] pos) X.env = (do
      let ov ← eval (.Name b p1) X.env
      standAt p2.atName
      let (f, first) ← holding [ov] (getMethod ov "__init__" pl)
      callWith pos f first (backTo pos (starEach (e :: es) X.env)) (backToKw pos (keywordEach [] X.env))) := by rfl)
    (he : starEach (e :: es) X.env = (false, eval e X.env) :: starEach es X.env := by rfl) (hpl : (backTo pos (starEach es X.env)).any (·.1) = false := by rfl) :
    PE X (.Call (.Attribute (.Name b p1) "__init__" p2) (e :: es) [] pos) (tVeI X.K ta) := by
  refine ⟨fun pins s σ H Q I h => ?_⟩
  refine PySem.W.methodCall_KW (ld_glob I hg hm ?_ hd) hc
  refine PySem.W.method_cls I.kIn hh.ga (PySem.W.cls_value I.kIn hh.rd hh.at_ rfl ?_)
  show wpAny _ _ (callWith pos (Value.builtin "ValueError.__init__") [] (backTo pos (starEach (e :: es) X.env)) []) _ _ _
  refine callWith_method1 (thn (ha.run pos pins _ σ H _ (I.tok _) h) fun us s1 ⟨vs, H1, I1, r1, a, C, ws, ev, hl, T, ea, q⟩ => ?_) he hpl
  subst ev
  cases r1 with
  | @cons _ u0 _ ur ra rw' =>
    obtain rfl : u0 = Value.ref a := ra
    exact oinit_ok T I1 ea (by rw [← Paired.length rw', sizeLine_eq]; omega) fun s' J => ⟨.non, H1, J, rfl, q⟩
end
/-- what an own __init__ promises: the fields fl are set -/
def spX (K : PySem.W.Frag) (fl : List Str) : Sp := fun vs H Q E => ∃ (a C : Addr) (ws : List V), vs = .ref a :: ws ∧ ws.length = fl.length ∧ OexC K C ∧ (∀ f ∈ fl, PySem.W.findIn K (.ref C) f = some none) ∧ H a = some (exo a C none) ∧
  ∀ dx, H dx = none → dx ≠ a → Q .non (upd (upd H dx (exd dx (fl.zip ws).reverse)) a (exo a C (some dx)))

/-! ### raise -/
section
variable {X : Cx} {es : List Expr} {e : Expr} {ta : TA} {p pos : Pos}
theorem pmk_x {x : Str} {C fI : Addr} {k : Nat} {fd : FuncData} {ps : List Str} {sp : Sp} (T : OexC X.K C) (iC : PySem.W.findIn X.K (.ref C) "__init__" = some (some (.ref fI))) (tI : PySem.W.typeIn X.K (.ref fI) = some (.type "function"))
    (F1 : FnOk X.prog X.w X.K X.mg X.base (L2N.CX X.prog X.w) k fI fd ps sp) (hr : Room (k + 1) X.A) (hb : Binds X.K fd ps []) (hx : Passes (L2N.CX X.prog X.w) X (fun _ _ _ => False)) (hg : Gl X x) (hm : X.mg x = some (.ref C)) (ha : PA X (e :: es) ta)
    (hdb : (x == ("__debug__" : Str)) = false := by decide) (he : starEach (e :: es) X.env = (false, eval e X.env) :: starEach es X.env := by rfl) (hpl : (backTo pos (starEach es X.env)).any (·.1) = false := by rfl) :
    L2N.PMk X (.Call (.Name x p) (e :: es) [] pos) (tMkO C sp [] ta) := by
  intro pins s σ H Q I h
  obtain ⟨nm, q, N, bs, bm, sn, sub, ab, col, dd, k0, k1, k2, k3, k5, hC, hbm⟩ := id T.cls
  refine wpAny_Call_Name_kw (ld_glob I hg hm ?_ hdb)
  refine PySem.W.callWith_K (h₀ := X.base) I.ok.mod.kin T.kC (thn (ha.run pos pins s σ H _ I h) fun us s1 ⟨vs, H1, I1, r1, hz, q1⟩ => ⟨I1.kIn, ?_⟩) he hpl
  show wpAny _ _ (call (.ref C) us) _ _ _
  obtain ⟨hp, g, dr, tk, os⟩ := s1
  generalize ha0 : hp.objs.size + 1 = a
  have asz : hp.objs.size ≤ a := by omega
  have hn : H1 a = none := I1.hok.fresh asz
  have hq := q1 a hn
  rw [List.append_nil] at hq
  generalize hh2 : (hp.push (PySem.W.kdv_tup us)).push (PySem.HandSPX.excO C hp.objs.size) = hp2
  have kk : ∀ b o, hp.get? b = some o → hp2.get? b = some o := fun b o e => by
    rw [← hh2]
    exact Heap.get?_push_of_some _ (Heap.get?_push_of_some _ e)
  have hget : hp2.get? a = some (PySem.HandSPX.excO C hp.objs.size) := by
    rw [← hh2, ← ha0]
    heap_get
  have I2 : Inv X pins σ (upd H1 a (exo a C none)) ⟨hp2, g, dr, tk, os⟩ := I1.laid (t' := tk) (a := a) (o := exo a C none) (h' := hp2) kk asz (exo_ok hget)
  have r2 : Vals (V.ref a :: vs) (Value.ref a :: us) := .cons rfl r1
  have hl : (Value.ref a :: us).length = ps.length := by rw [← r2.length]; exact F1.len _ _ _ _ hq
  have hus : us.length ≤ sizeLine := by
    rw [← Paired.length r1, sizeLine_eq]
    omega
  have hb' := hb _ (Value.ref a :: us) I2.kIn (by rw [List.append_nil]; exact hl)
  rw [List.append_nil] at hb'
  refine wpAny_call (PySem.HandSPX.call_own F.excBase_ValueError (fun Y => PySem.HandSPX.refsVE_contains Y bm hbm) (I1.kIn _ _ hC) (PySem.W.looks_findIn I1.kIn iC) (fun self => PySem.W.bind_fn I1.kIn self tI) hus ?_)
  rw [hh2, ha0]
  refine codeAny_mono (F1.run _ X.stack _ _ ⟨Value.ref a :: us, []⟩ _ _ _ (fun _ _ _ => False) (hr.make C us []) (I2.env0.make C us []) hb' r2 hq) fun r s' hq' => ?_
  cases r with
  | error er => exact hx pins σ _ _ er s' I2 hq'
  | ok fl =>
    cases fl with
    | ret u =>
      obtain ⟨v, H2, os2, bare2, un2, hok2, rv, ev, d, fs, ea, ed, hd1, q2⟩ := hq'
      subst ev
      obtain ⟨h2, g2, d2, t2, os'⟩ := s'
      refine ⟨rv, ?_⟩
      obtain ⟨t0, G, J, kG, ge, hoe, na⟩ := mk_end0 (d2 := d2) (t2 := t2) I1 asz kk un2 hok2 os2 bare2 ea ed hd1
      exact ⟨a, _, _, ⟨G, g2, d2, t2, os'⟩, _, .ref C, some d, rfl, J, kG, ge, hoe, ⟨rfl, rfl, fun vs z => by cases z; rfl⟩, rfl, rfl, na, rfl, bare2, raises_own T.exC T.tyC, q2⟩
    | next => exact hq'.elim
    | brk => exact hq'.elim
    | cont => exact hq'.elim
end
section
variable {P : Program} {w : World} {K : PySem.W.Frag} {mg : Str → Option Value} {base : Heap}
/-- a class whose refusals can be made -/
structure Xm (P : Program) (w : World) (K : PySem.W.Frag) (mg : Str → Option Value) (base : Heap) (k : Nat) (x : Str) (fl : List Str) : Prop where
  xc : Xc K x fl
  g_ : mg x = some (.ref (He.ga K x))
  ex : ∃ fd ps, FnOk P w K mg base (L2N.CX P w) k (He.ma K (He.ga K x) "__init__") fd ps (spX K fl) ∧ Binds K fd ps []
end
section
variable {φ S ρ : Type} {X : Cx} {E : XK} {σ : L2.St} {W W' W0 : Wd} {P : φ → Prop} {D : Ends} {e a b c : Expr} {es : List Expr} {rest : List Stmt} {pos p p' : Pos} {α β γ τ : Type} [Rep α] [Rep β] [Rep γ] [RepA τ] [Rep ρ]
theorem upd_del {H : Hp} {a dx : Addr} {C : Addr} {fs fs2 : List (Str × V)} {u : HO} (ha : H a = none) (hn : dx ≠ a) : upd (del (upd (upd (upd H a u) dx (exd dx fs2)) a (exo a C (some dx))) a) dx (.xd fs) = upd H dx (.xd fs) := by
  funext b
  by_cases h1 : b = dx
  · subst h1
    rw [upd_same, upd_same]
  · rw [upd_ne h1, upd_ne h1]
    by_cases h2 : b = a
    · subst h2
      rw [del_same, ha]
    · rw [del_ne h2, upd_ne h2, upd_ne h1, upd_ne h2]
/-- raise x(e), one field -/
theorem s_raise1 {k : Nat} {x f : Str} {m : Rs α} {mk : α → Exn} (M : Xm X.prog X.w X.K X.mg X.base k x [f]) (hr : Room (k + 1) X.A) (hc : X.calm = true) (tk : L2N.Takes X (fun cls d _ H => E cls d H)) (hx : Passes (L2N.CX X.prog X.w) X (fun _ _ _ => False))
    (hmk : ∀ d : α, (mk d).nm = x) (hfs : ∀ (G : Hp) v (d : α), Is X.K G v d → (mk d).IsFs X.K G [(f, v)]) (l0 : Le W0 W) (h : EvR X E σ W e m) (hg : Gl X x := by rfl) (hdb : (x == ("__debug__" : Str)) = false := by decide)
    (he : starEach [e] X.env = (false, eval e X.env) :: starEach [] X.env := by rfl) : Blk X W0 E P D σ W (.Raise (some (.Call (.Name x p) [e] [] pos)) none p' :: rest) (m.bind fun d => .er (mk d)) := fun hp => by
  obtain ⟨fd, ps, F1, hb⟩ := M.ex
  refine sem_ps (L2N.ps_raise hc tk (pmk_x M.xc.ox M.xc.ini M.xc.ity F1 hr hb hx hg M.g_ (pa_cons pe_sem pa_nil he) hdb he)) ?_
  show SemE X e σ W.H _
  refine ev_blk l0 h hp fun d v W1 e1 l1 i1 hp1 => ⟨by simp, fun a ha => ⟨a, He.ga X.K x, [v], rfl, rfl, M.xc.ox, M.xc.no, upd_same, fun dx hdx hne => ?_⟩⟩
  rw [upd_ne hne] at hdx
  refine ⟨rfl, dx, [(f, v)], upd_same, ?_, hdx, ?_⟩
  · rw [upd_ne hne, upd_same]
    rfl
  · rw [upd_del ha hne]
    have l2 : Le W0 (W1.new dx (.xd [(f, v)])) := (l0.trans l1).trans (Wd.le_new hdx)
    have z : EPx X.K W0 E (mk d) := hp1
    have q := z _ l2 dx [(f, v)] upd_same (hfs _ v d (Rep.mono (Wd.le_new hdx).g i1))
    rw [hmk d] at q
    exact q
/-! ### try -/
def tryR {S : Type} (m : Rs α) (s0 : S) (ms : Exn → Rs S) : Rs S := match m with
  | .ok _ => .ok s0
  | .er y => (ms y).noer
  | .no => .no
/-- what the suite's end wants -/
def PSu (W0 W : Wd) (i : Nat) (J : S → L2.St → Wd → Prop) (N : L2.St → Hp → Prop) : S → Prop := fun s => ∀ σ' W', Le W0 W' → Same W.G W'.G → J s (σ'.set i none) W' → N σ' W'.H
/-- the exception y at a, d its dict -/
structure ExA (K : PySem.W.Frag) (W : Wd) (y : Exn) (a : Addr) (oe : Obj) : Prop where
  ex : ∃ d fs, L2N.Zn (.ref (He.ga K y.nm)) (some d) oe ∧ W.H d = some (.xd fs) ∧ y.IsFs K W.G fs
  fv : ∃ vs, oe.data = .fields vs
theorem Exn.IsFs.mono {K : PySem.W.Frag} {G G' : Hp} {fs : List (Str × V)} {y : Exn} (h : y.IsFs K G fs) (g : Same G G') : y.IsFs K G' fs := by
  cases y with
  | noPrinter x l =>
    obtain ⟨v, h1, h2⟩ := h
    exact ⟨v, Rep.mono g h1, h2⟩
  | goesRound l =>
    obtain ⟨v, h1, h2⟩ := h
    exact ⟨v, Rep.mono g h1, h2⟩
  | _ => exact h
theorem ExA.mono {K : PySem.W.Frag} {y : Exn} {a : Addr} {oe : Obj} (h : ExA K W y a oe) (l : Le W W') : ExA K W' y a oe := by
  obtain ⟨d, fs, hz, hd, hf⟩ := h.ex
  exact ⟨⟨d, fs, hz, l.h d _ hd, hf.mono l.g⟩, h.fv⟩
/-- try: e, except x as n: suite -/
theorem s_tryE {x n : Str} {cv : Value} {np p1 pos' : Pos} {b₀ : Stmt} {suite : List Stmt} (i : Nat) {m : Rs α} {s0 : S} {ms : Exn → Rs S} {k : S → Rs φ} (J : S → L2.St → Wd → Prop) (hcx : Names X x cv) (tk : L2N.Takes X (fun cls d _ H => E cls d H)) (hy : ∀ y : Exn, PySem.W.exmOne X.K (.ref (He.ga X.K y.nm)) cv = some true)
    (l0 : Le W0 W) (h : ∀ (Wt : WX) pn xe, L2N.Takes (X.tr pn xe) Wt → EvR (X.tr pn xe) (WE Wt σ) σ W e m) (j0 : ∀ W1, Le W W1 → J s0 σ W1)
    (hsu : ∀ y a oe pn W1 N rt bk ct, Le W W1 → ExA X.K W1 y a oe → Blk (X.suite a ((a, oe) :: pn)) W0 E0 (PSu W0 W i J N) { nx := N, rt := rt, bk := bk, ct := ct } (σ.set i (some (.ref a))) W1 (b₀ :: suite) (ms y))
    (hk : ∀ s σ' W', Le W0 W' → Same W.G W'.G → J s σ' W' → Blk X W0 E P D σ' W' rest (k s)) (hN : X.N.Nodup) (hs : X.stack = X.env :: X.outer := by rfl) (hf : X.env.frame = some X.env.locals := by rfl) (hi : X.N[i]? = some n := by rfl) (hln : X.env.kindOf n = some .local := by rfl)
    (hsw : ∀ pn xe, swapsWith e none p1.line (X.tr pn xe).env = pure false := by exact fun _ _ => rfl) :
    Blk X W0 E P D σ W (.Try [.Expr e p1] [.ExceptHandler (some (.Name x np)) (some n) (b₀ :: suite) pos'] [] [] pos :: rest) ((tryR m s0 ms).bind k) := fun hp => by
  refine sem_ps (L2N.ps_try_as (tb := fun Wt D σ H => ∀ pn xe, L2N.Takes (X.tr pn xe) Wt → SemS (X.tr pn xe) [.Expr e p1] D σ H)
    (ts := fun a cls d D σ H => ∀ oe pn, L2N.Zn cls d oe → (∃ vs, oe.data = .fields vs) → SemS (X.suite a ((a, oe) :: pn)) (b₀ :: suite) D σ H) hs hf hN hi hln hcx tk
    (fun Wt pn xe tk' po => ⟨fun pins s σ H D I q => q pn xe tk' pins s I⟩) (fun a oe cls d pn hz hd => ⟨fun pins s σ H D I q => q oe pn hz hd pins s I⟩)) ?_
  intro pn xe tk'
  refine sem_ps (ps_expr pe_sem (hsw pn xe)) (show SemE (X.tr pn xe) e σ W.H _ from ?_)
  refine h _ pn xe tk' W (Le.refl W) _ ?_
  cases m with
  | ok d => exact fun v W1 l1 i1 => sem_nil (hk s0 σ W1 (l0.trans l1) l1.g (j0 W1 l1) hp)
  | no => exact hp
  | er y =>
    intro W1 l1 d fs hd hfs
    refine ⟨true, hy y, fun _ a ha oe pn2 hz hv => ?_, fun z => nomatch z⟩
    refine hsu y a oe pn2 W1 _ _ _ _ l1 ⟨⟨d, fs, hz, hd, hfs⟩, hv⟩ ?_
    have hp' : PB P (EPx X.K W0 E) ((ms y).noer.bind k) := hp
    cases hms : ms y with
    | ok s =>
      rw [hms] at hp'
      exact fun σ' W' l2 g j => hk s _ W' l2 g j hp'
    | er z =>
      rw [hms] at hp'
      exact hp'.elim
    | no =>
      rw [hms] at hp'
      exact hp'
/-! ### what a suite asks -/
theorem evr_isE {y : Exn} {ad : Addr} {oe : Obj} {x n : Str} {i : Nat} {b : Bool} {cv : V} {cu : Value} {q1 q2 : Pos} (hp : (ad, oe) ∈ X.pn) (ea : ExA X.K W y ad oe) (ec : ExcC X.K (He.ga X.K y.nm)) (hs : σ[i]? = some (some (.ref ad))) (hcv : PE X (.Name x q2) (tC cv)) (hu : ∀ u, RelV cv u → u = cu)
    (hk : PySem.W.kitOne X.K (.ref (He.ga X.K y.nm)) cu = some b) (hmi : X.mg "isinstance" = none) (hN : X.N[i]? = some n := by rfl) (hv : Vis X.env.scope n := by first | exact Or.inl rfl | exact Or.inr (Or.inl rfl) | exact Or.inr (Or.inr rfl)) (hd : (n == ("__debug__" : Str)) = false := by decide)
    (hcd : (n == ("__classdict__" : Str)) = false := by decide) (hg : Gl X "isinstance" := by rfl) (h1 : starEach [.Name n q1, .Name x q2] X.env = (false, eval (.Name n q1) X.env) :: starEach [.Name x q2] X.env := by rfl)
    (h2 : starEach [.Name x q2] X.env = (false, eval (.Name x q2) X.env) :: starEach [] X.env := by rfl) (hpl : (backTo pos (starEach [.Name x q2] X.env)).any (·.1) = false := by rfl) :
    EvR X E σ W (.Call (.Name "isinstance" p) [.Name n q1, .Name x q2] [] pos) (.ok b) := fun W1 l1 Q hq => by
  have call : CallR X (.builtin "isinstance") (fun xs H Q => xs = [.ref ad, cv] ∧ (∃ d fs, L2N.Zn (.ref (He.ga X.K y.nm)) (some d) oe ∧ H d = some (.xd fs)) ∧ Q (.bl b) H) := by
    intro pins s σ H xs us Q I r h
    obtain ⟨rfl, ⟨d, fs, hz, hdd⟩, q⟩ := h
    cases r with
    | cons rx rr =>
      cases rr with
      | cons rt rr =>
        cases rr
        cases rx
        have e := hu _ rt
        subst e
        obtain ⟨hget, _⟩ := I.pin (ad, oe) (List.mem_append_left _ hp)
        obtain ⟨vs, hvs⟩ := ea.fv
        have hx : ObjOk X.prog X.w H s.heap d (.xd fs) := I.hok d _ hdd
        obtain ⟨mA, hns, hr⟩ := hx
        obtain ⟨od, ho, hl⟩ := lookIn_ns hns
        have J : PySem.W.InstAt s.heap ad oe (He.ga X.K y.nm) (some od) := ⟨hget, hz.1, by unfold PySem.W.notCls; rw [hvs] <;> rfl, by rw [hz.2.1]; exact ho⟩
        obtain ⟨cd, hcd, _⟩ := PySem.W.any_some ec.hd
        have kx : PySem.W.KitX X.K (.ref ad) (.ref (He.ga X.K y.nm)) (fun h => PySem.W.InstAt h ad oe (He.ga X.K y.nm) (some od)) := PySem.W.kitx_exc (by rw [hcd]; rfl) ec.hg ec.hk ec.hs ec.ha ec.hn ec.ht ec.hm
        exact PySem.W.kia_one kx I.kIn J hk (fun z => nomatch z) fun tk => ⟨.bl b, H, I.kept (t' := tk) fun _ _ z => z, rfl, q⟩
  obtain ⟨d, fs, hz, hdd, hfs⟩ := ea.ex
  exact sem_pe (pe_callB call hg hmi boot_isinstance (pa_cons (pe_var hN hv hd hcd) (pa_cons hcv pa_nil h2) h1) (he := h1) (hpl := hpl)) ⟨.ref ad, hs, ⟨rfl, ⟨d, fs, hz, l1.h _ _ hdd⟩, hq (.bl b) W1 (Le.refl _) rfl⟩⟩
end
end Wk

set_option maxHeartbeats 4000000
/-! Wk13: what a suite reads of its refusal; defs called there. -/
namespace Wk
open PySem PySem.Spec PyProof.Rows L2 L2H
def Exn.fl : Exn → List Str
  | .badLine _ => ["place"] | .noHeap _ => ["place"] | .noWay _ => ["place"] | .unknown _ => ["name"] | .twice _ => ["name"] | .tooMuch _ => ["name"] | .dry _ => ["name"] | .notNow _ => ["found"]
  | .over _ => ["job"] | .nowhere _ => ["job"] | .busy _ => ["job"] | .noPrinter _ _ => ["job", "lacks"] | .goesRound _ => ["ring"]
def exnAll : List (Str × List Str) := [("BadLine", ["place"]), ("Unknown", ["name"]), ("Twice", ["name"]), ("NotNow", ["found"]), ("TooMuch", ["name"]), ("Dry", ["name"]), ("Over", ["job"]), ("Nowhere", ["job"]), ("Busy", ["job"]), ("NoHeap", ["place"]),
  ("NoPrinter", ["job", "lacks"]), ("GoesRound", ["ring"]), ("NoWay", ["place"])]
theorem Exn.mem (y : Exn) : (y.nm, y.fl) ∈ exnAll := by
  cases y <;> (unfold exnAll Exn.nm Exn.fl; simp)
/-- all that is asked of the refusals' classes -/
def xaB (K : PySem.W.Frag) : Bool := xhB K "HallError" && exnAll.all fun p => xcB K p.1 p.2 && (decide (PySem.W.kitOne K (.ref (He.ga K p.1)) (.ref (He.ga K "HallError")) = some true) && (decide (PySem.W.exmOne K (.ref (He.ga K p.1)) (.ref (He.ga K "HallError")) = some true) &&
  (decide (PySem.W.kitOne K (.ref (He.ga K p.1)) (.type "ValueError") = some true) && exnAll.all fun q => decide (PySem.W.kitOne K (.ref (He.ga K p.1)) (.ref (He.ga K q.1)) = some (p.1 == q.1)) && decide (PySem.W.exmOne K (.ref (He.ga K p.1)) (.ref (He.ga K q.1)) = some (p.1 == q.1)))))
structure Xa (K : PySem.W.Frag) : Prop where
  xh : Xh K "HallError"
  xc : ∀ y : Exn, Xc K y.nm y.fl
  kh : ∀ y : Exn, PySem.W.kitOne K (.ref (He.ga K y.nm)) (.ref (He.ga K "HallError")) = some true
  eh : ∀ y : Exn, PySem.W.exmOne K (.ref (He.ga K y.nm)) (.ref (He.ga K "HallError")) = some true
  kv : ∀ y : Exn, PySem.W.kitOne K (.ref (He.ga K y.nm)) (.type "ValueError") = some true
  kk : ∀ (y : Exn) (q : Str × List Str), q ∈ exnAll → PySem.W.kitOne K (.ref (He.ga K y.nm)) (.ref (He.ga K q.1)) = some (y.nm == q.1)
  ek : ∀ (y : Exn) (q : Str × List Str), q ∈ exnAll → PySem.W.exmOne K (.ref (He.ga K y.nm)) (.ref (He.ga K q.1)) = some (y.nm == q.1)
theorem xaB_ok {K : PySem.W.Frag} (h : xaB K = true) : Xa K := by
  obtain ⟨h0, h⟩ := Bool.and_eq_true_iff.mp h
  have key : ∀ y : Exn, _ := fun y => List.all_eq_true.mp h _ y.mem
  refine ⟨xhB_ok h0, fun y => ?_, fun y => ?_, fun y => ?_, fun y => ?_, fun y q hq => ?_, fun y q hq => ?_⟩ <;>
    obtain ⟨c1, c⟩ := Bool.and_eq_true_iff.mp (key y) <;> obtain ⟨c2, c⟩ := Bool.and_eq_true_iff.mp c <;> obtain ⟨c3, c⟩ := Bool.and_eq_true_iff.mp c <;> obtain ⟨c4, c⟩ := Bool.and_eq_true_iff.mp c
  · exact xcB_ok c1
  · exact of_decide_eq_true c2
  · exact of_decide_eq_true c3
  · exact of_decide_eq_true c4
  · exact of_decide_eq_true (Bool.and_eq_true_iff.mp (List.all_eq_true.mp c q hq)).1
  · exact of_decide_eq_true (Bool.and_eq_true_iff.mp (List.all_eq_true.mp c q hq)).2
/-! fields -/
def Exn.place : Exn → Rs Int
  | .badLine i => .ok i | .noHeap i => .ok i | .noWay i => .ok i | _ => .no
def Exn.name : Exn → Rs Str
  | .unknown x => .ok x | .twice x => .ok x | .tooMuch x => .ok x | .dry x => .ok x | _ => .no
def Exn.found : Exn → Rs Str
  | .notNow x => .ok x | _ => .no
def Exn.job : Exn → Rs Str
  | .over x => .ok x | .nowhere x => .ok x | .busy x => .ok x | .noPrinter x _ => .ok x | _ => .no
section
variable {X : Cx} {E : XK} {σ : L2.St} {W W' : Wd} {pos p : Pos} {α β γ τ : Type} [Rep α] [Rep β] [Rep γ] [RepA τ]
theorem evr_xf {y : Exn} {ad : Addr} {oe : Obj} {n f : Str} {i : Nat} {m : Rs α} {q1 : Pos} (hp : (ad, oe) ∈ X.pn) (ea : ExA X.K W y ad oe) (xf : XfC X.K (He.ga X.K y.nm)) (hm : ∀ x, m ≠ .er x) (hf : ∀ (G : Hp) fs d, y.IsFs X.K G fs → m = .ok d → (∃ v, fs.lookup f = some v ∧ Is X.K G v d) ∧ PySem.W.findIn X.K (.ref (He.ga X.K y.nm)) f = some none)
    (hs : σ[i]? = some (some (.ref ad))) (hN : X.N[i]? = some n := by rfl) (hv : Vis X.env.scope n := by first | exact Or.inl rfl | exact Or.inr (Or.inl rfl) | exact Or.inr (Or.inr rfl)) (hd : (n == ("__debug__" : Str)) = false := by decide)
    (hcd : (n == ("__classdict__" : Str)) = false := by decide) (hb : attributeBase (.Name n q1) f X.env (eval (.Name n q1) X.env) = eval (.Name n q1) X.env := by rfl) : EvR X E σ W (.Attribute (.Name n q1) f pos) m := fun W1 l1 Q hq pins s I => by
  cases m with
  | er x => exact absurd rfl (hm x)
  | no => exact hq.elim
  | ok r =>
    refine attr_of hb (thn ((pe_var (pos := q1) hN hv hd hcd).run pins s σ W1.H (fun x H1 => x = .ref ad ∧ H1 = W1.H) I ⟨_, hs, rfl, rfl⟩) fun u s1 ⟨x, H1, I1, rx, ex, eH⟩ => ?_)
    subst ex eH
    obtain rfl : u = Value.ref ad := rx
    obtain ⟨d, fs, hz, hdd, hfs⟩ := ea.ex
    obtain ⟨vs, hvs⟩ := ea.fv
    obtain ⟨⟨v, hl, iv⟩, hno⟩ := hf W.G fs r hfs rfl
    obtain ⟨ha, _⟩ := I1.pin (ad, oe) (List.mem_append_left _ hp)
    have hx : ObjOk X.prog X.w W1.H s1.heap d (.xd fs) := I1.hok d _ (l1.h _ _ hdd)
    obtain ⟨mA, hns, hr⟩ := hx
    obtain ⟨od, ho, hlk⟩ := lookIn_ns hns
    obtain ⟨u, hu, ru⟩ := RelO.some_of (v := v) (o := mA f) (by rw [← hl]; exact hr f)
    have J : PySem.W.InstAt s1.heap ad oe (He.ga X.K y.nm) (some od) := ⟨ha, hz.1, by unfold PySem.W.notCls; rw [hvs] <;> rfl, by rw [hz.2.1]; exact ho⟩
    exact HandSPX.exc_get I1.kIn J xf.ga xf.gg xf.exC (PySem.W.findObj_own xf.hdC hno rfl (by rw [hlk, hu])) (handed_of ru) ⟨v, W1.H, I1.tok _, ru, hq v W1 (Le.refl _) (Rep.mono l1.g iv)⟩
theorem evr_xplace (i : Nat) {y : Exn} {ad : Addr} {oe : Obj} {n : Str} {q1 : Pos} (A : Xa X.K) (hp : (ad, oe) ∈ X.pn) (ea : ExA X.K W y ad oe) (hs : σ[i]? = some (some (.ref ad))) (hN : X.N[i]? = some n := by rfl) (hv : Vis X.env.scope n := by first | exact Or.inl rfl | exact Or.inr (Or.inl rfl) | exact Or.inr (Or.inr rfl))
    (hd : (n == ("__debug__" : Str)) = false := by decide) (hcd : (n == ("__classdict__" : Str)) = false := by decide) (hb : attributeBase (.Name n q1) "place" X.env (eval (.Name n q1) X.env) = eval (.Name n q1) X.env := by rfl) : EvR X E σ W (.Attribute (.Name n q1) "place" pos) y.place := by
  refine evr_xf hp ea (A.xc y).xf (fun x => by cases y <;> (unfold Exn.place; intro h; cases h)) (fun G fs d h1 h2 => ?_) hs hN hv hd hcd hb
  have no := (A.xc y).no
  cases y <;> first
    | (cases h2; cases h1; exact ⟨⟨_, rfl, rfl⟩, no _ (by unfold Exn.fl; simp)⟩)
    | (cases h2)
theorem evr_xname (i : Nat) {y : Exn} {ad : Addr} {oe : Obj} {n : Str} {q1 : Pos} (A : Xa X.K) (hp : (ad, oe) ∈ X.pn) (ea : ExA X.K W y ad oe) (hs : σ[i]? = some (some (.ref ad))) (hN : X.N[i]? = some n := by rfl) (hv : Vis X.env.scope n := by first | exact Or.inl rfl | exact Or.inr (Or.inl rfl) | exact Or.inr (Or.inr rfl))
    (hd : (n == ("__debug__" : Str)) = false := by decide) (hcd : (n == ("__classdict__" : Str)) = false := by decide) (hb : attributeBase (.Name n q1) "name" X.env (eval (.Name n q1) X.env) = eval (.Name n q1) X.env := by rfl) : EvR X E σ W (.Attribute (.Name n q1) "name" pos) y.name := by
  refine evr_xf hp ea (A.xc y).xf (fun x => by cases y <;> (unfold Exn.name; intro h; cases h)) (fun G fs d h1 h2 => ?_) hs hN hv hd hcd hb
  have no := (A.xc y).no
  cases y <;> first
    | (cases h2; cases h1; exact ⟨⟨_, rfl, rfl⟩, no _ (by unfold Exn.fl; simp)⟩)
    | (cases h2)
end
/-! ### defs that are called while an exception p is handled -/
structure FnX (P : Program) (w : World) (K : PySem.W.Frag) (mg : Str → Option Value) (base : Heap) (CX : CXT) (k : Nat) (f : Addr) (fd : FuncData) (ps : List Str) (sp : Addr × Obj → Sp) : Prop where
  len : ∀ p vs H Q E, sp p vs H Q E → vs.length = ps.length
  run : ∀ (A : Around) (outer : List Env) (s : Shared) (H : Hp) (args : Args) (us : List Value) (vs : List V) (Q : VK) (E : XK) (p : Addr × Obj), RoomH k A → Hot1 A p → PinOk outer H s p → Env0 P w K mg base A outer s H → BindsTo s fd args (ps.zip us) → Vals vs us → sp p vs H Q E →
    codeAny (model P w) A (.call (.ref f) args) (CR CX outer P w H s Q E) s
theorem fnx_of {CX : CXT} {P : Program} {w : World} {K : PySem.W.Frag} {mg : Str → Option Value} {base : Heap} {k : Nat} {f : Addr} {fd : FuncData} {x qual : Str} {params : Arguments} {body : List Stmt} {scope : Scope} {N ps : List Str} {sp : Addr × Obj → Sp}
    (F : FunD K x qual params body scope [] [] f fd) (S : FnScope N ps scope) (len : ∀ p vs H Q E, sp p vs H Q E → vs.length = ps.length)
    (hbody : ∀ (cdv : Value) (A : Around) (outer : List Env) (s : Shared) (H : Hp) (vs : List V) (Q : VK) (E : XK) (p : Addr × Obj), Hot1 A p → RoomH k (A.deeper (envOfC qual scope s.heap.objs.size f cdv)) → sp p vs H Q E →
      SemS (cxH CX P w K mg base N qual scope f cdv A outer s H E p) body { nx := fun _ H' => Q .non H', rt := Q } (L2.start N vs) H) : FnX P w K mg base CX (k + 1) f fd ps sp := by
  obtain ⟨oc, od, dV, kV, doc, pm, an, cdv, ct, osl, rfl, lk, hcd, _, _⟩ := F.ex
  refine ⟨len, fun A outer s H args us vs Q E p hr hot hpin e0 hb r hsp => ?_⟩
  have KX : K.In s.heap := e0.mod.kin.keeps fun b o e => (e0.bs b o e).1
  refine codeAny_call_function hr.depth (KX _ _ lk) rfl S.co S.gen rfl (PySem.W.codeRec_of KX hcd) (hb _ _ _ _ (wpAny_newFunctionEnv_cells S.kind (fun ⟨n, v⟩ hy => ?_) fun env he s1 x => ?_))
  · exact (S.par n (List.of_mem_zip hy).1).elim .inl fun q => .inr ⟨q, PySem.W.cellsFrom_some _ _ _ (.inl q)⟩
  · subst he
    refine ⟨(e0.mod.nolimit.keeps fun b o e => (e0.bs b o e).1).keeps x.toInCall.keep, codeAny_func ?_⟩
    have I : Inv (cxH CX P w K mg base N qual scope f cdv A outer s H E p) [] (L2.start N vs) H s1 := inv_startH S hpin e0 (len _ _ _ _ _ hsp) r x
    refine wpAny_mono (hbody cdv A outer s H vs Q E p hot (hr.deeper _) hsp [] s1 I) (fun fl s' hs => ?_) fun e s' hs => hs
    cases fl with
    | ret u =>
      obtain ⟨v, σ', H', J, rv, q⟩ := hs
      exact ⟨v, H', J.os, J.bare, J.base, J.hok, rv, q⟩
    | next =>
      obtain ⟨σ', H', J, q⟩ := hs
      exact ⟨.non, H', J.os, J.bare, J.base, J.hok, rfl, q⟩
    | brk => exact hs.elim fun _ z => z.elim fun _ z => z.2.elim
    | cont => exact hs.elim fun _ z => z.elim fun _ z => z.2.elim
/-- what such a def promises of the exception ahead of its other arguments | of its arguments -/
def spE {τ ρ : Type} [RepA τ] [Rep ρ] (K : PySem.W.Frag) (m : Exn → τ → Rs ρ) (p : Addr × Obj) : Sp := fun vs H Q E => ∃ (W : Wd) (y : Exn) (r : List V) (a : τ), W.H = H ∧ vs = .ref p.1 :: r ∧ ExA K W y p.1 p.2 ∧ RepA.is K W.G r a ∧ Post K E (m y a) W Q
section
variable {P : Program} {w : World} {K : PySem.W.Frag} {mg : Str → Option Value} {base : Heap} {τ ρ : Type} [RepA τ] [Rep ρ]
/-- a def of the module, called there with the exception | without -/
structure FnE (P : Program) (w : World) (K : PySem.W.Frag) (mg : Str → Option Value) (base : Heap) (k : Nat) (x : Str) (ps : List Str) (m : Exn → τ → Rs ρ) : Prop where
  ex : ∃ fd, FnX P w K mg base (L2N.CX P w) k (He.ga K x) fd ps (spE K m) ∧ Binds K fd ps []
  kp : PySem.W.keepIn K (.ref (He.ga K x)) = true
  g_ : mg x = some (.ref (He.ga K x))
structure FnHt (P : Program) (w : World) (K : PySem.W.Frag) (mg : Str → Option Value) (base : Heap) (k : Nat) (x : Str) (ps : List Str) (m : τ → Rs ρ) : Prop where
  ex : ∃ fd, FnX P w K mg base (L2N.CX P w) k (He.ga K x) fd ps (fun _ => spOf K m) ∧ Binds K fd ps []
  kp : PySem.W.keepIn K (.ref (He.ga K x)) = true
  g_ : mg x = some (.ref (He.ga K x))
abbrev cxX (P : Program) (w : World) (K : PySem.W.Frag) (mg : Str → Option Value) (base : Heap) (N : List Str) (qual : Str) (scope : Scope) (f : Addr) (cd : Value) (A : Around) (outer : List Env) (s : Shared) (H : Hp) (E : XK) (p : Addr × Obj) : Cx := cxH (L2N.CX P w) P w K mg base N qual scope f cd A outer s H E p
theorem fnE_ok {qual x : Str} {params : Arguments} {body : List Stmt} {scope : Scope} {f : Addr} {fd : FuncData} {N ps : List Str} {k : Nat} {m : Exn → τ → Rs ρ} (F : FunD K x qual params body scope [] [] f fd) (S : FnScope N ps scope) (hlen : ∀ (G : Hp) v vs (a : τ), RepA.is K G vs a → (v :: vs).length = ps.length)
    (hbody : ∀ (cdv : Value) (A : Around) (outer : List Env) (s : Shared) (Q : VK) (E : XK) (W0 : Wd) (y : Exn) (ad : Addr) (oe : Obj) (a : τ) (vs : List V), Hot1 A (ad, oe) → RoomH k (A.deeper (envOfC qual scope s.heap.objs.size f cdv)) → ExA K W0 y ad oe → RepA.is K W0.G vs a →
      Blk (cxX P w K mg base N qual scope f cdv A outer s W0.H E (ad, oe)) W0 E (PR K W0 Q) (DF Q) (L2.start N (.ref ad :: vs)) W0 body (m y a)) : FnX P w K mg base (L2N.CX P w) (k + 1) f fd ps (spE K m) :=
  fnx_of F S (fun p vs H Q E ⟨W0, y, r, a, e, ev, _, i, _⟩ => by rw [ev]; exact hlen W0.G _ r a i) fun cdv A outer s H vs Q E p hot hr ⟨W0, y, r, a, e, ev, ea, i, hP⟩ => by
    subst e ev
    refine hbody cdv A outer s Q E W0 y p.1 p.2 a r hot hr ea i ?_
    cases hm : m y a with
    | ok r =>
      rw [hm] at hP
      exact hP
    | er x =>
      rw [hm] at hP
      exact hP
    | no =>
      rw [hm] at hP
      exact hP
theorem fnH_ok {qual x : Str} {params : Arguments} {body : List Stmt} {scope : Scope} {f : Addr} {fd : FuncData} {N ps : List Str} {k : Nat} {m : τ → Rs ρ} (F : FunD K x qual params body scope [] [] f fd) (S : FnScope N ps scope) (hlen : ∀ (G : Hp) vs (a : τ), RepA.is K G vs a → vs.length = ps.length)
    (hbody : ∀ (cdv : Value) (A : Around) (outer : List Env) (s : Shared) (Q : VK) (E : XK) (W0 : Wd) (p : Addr × Obj) (a : τ) (vs : List V), Hot1 A p → RoomH k (A.deeper (envOfC qual scope s.heap.objs.size f cdv)) → RepA.is K W0.G vs a →
      Blk (cxX P w K mg base N qual scope f cdv A outer s W0.H E p) W0 E (PR K W0 Q) (DF Q) (L2.start N vs) W0 body (m a)) : FnX P w K mg base (L2N.CX P w) (k + 1) f fd ps (fun _ => spOf K m) :=
  fnx_of F S (fun p vs H Q E ⟨W0, a, e, i, _⟩ => hlen W0.G vs a i) fun cdv A outer s H vs Q E p hot hr ⟨W0, a, e, i, hP⟩ => by
    subst e
    refine hbody cdv A outer s Q E W0 p a vs hot hr i ?_
    cases hm : m a with
    | ok r =>
      rw [hm] at hP
      exact hP
    | er x =>
      rw [hm] at hP
      exact hP
    | no =>
      rw [hm] at hP
      exact hP
end
section
variable {X : Cx} {E : XK} {σ : L2.St} {W : Wd} {e : Expr} {es : List Expr} {pos q : Pos} {α τ : Type} [Rep α] [RepA τ]
theorem run_fnX {k : Nat} {f : Addr} {fd : FuncData} {ps : List Str} {sp : Addr × Obj → Sp} {EE : L2.St → XK} {p : Addr × Obj} {pins : List (Addr × Obj)} {H : Hp} {s : Shared} {Q : VK} {us : List Value} {vs : List V} (F : FnX X.prog X.w X.K X.mg X.base (L2N.CX X.prog X.w) k f fd ps sp) (hr : RoomH k X.A) (hot : Hot1 X.A p) (hp : p ∈ X.pn)
    (hb : Binds X.K fd ps []) (hx : PassesAt (L2N.CX X.prog X.w) X σ (EE σ)) (I : Inv X pins σ H s) (r : Vals vs us) (h : sp p vs H Q (EE σ)) : wpAny (model X.prog X.w) X.A (call (.ref f) us) (EP X pins σ Q) X.xe s := by
  have hl : us.length = ps.length := by rw [← r.length]; exact F.len _ _ _ _ _ h
  have b := hb s us I.kIn (by rw [List.append_nil]; exact hl)
  rw [List.append_nil] at b
  have P1 := I.pin p (List.mem_append_left _ hp)
  refine wpAny_call (codeAny_mono (F.run X.A X.stack s H ⟨us, []⟩ us vs Q (EE σ) p hr hot ⟨P1.1, P1.2.1, fun hm => (List.mem_cons.mp (I.stkSub p.1 hm)).elim P1.2.2.1 P1.2.2.2.1, P1.2.2.2.2⟩ I.env0 b r h) fun r s' hq => ?_)
  cases r with
  | error e => exact hx pins H s e s' I hq
  | ok fl =>
    cases fl with
    | ret u => exact I.after hq
    | next => exact hq.elim
    | brk => exact hq.elim
    | cont => exact hq.elim
/-- x(e, ..) of a def that keeps m, called there -/
theorem evr_callH {k : Nat} {ps : List Str} {m : τ → Rs α} {ma : Rs τ} {x : Str} {p : Addr × Obj} {EE : L2.St → XK} (hx : PassesAt (L2N.CX X.prog X.w) X σ (EE σ)) (F : FnHt X.prog X.w X.K X.mg X.base k x ps m) (hr : RoomH k X.A) (hot : Hot1 X.A p) (hp : p ∈ X.pn) (ha : EvA X (EE σ) σ W (e :: es) ma) (hg : Gl X x := by rfl)
    (hdb : (x == ("__debug__" : Str)) = false := by decide) (he : starEach (e :: es) X.env = (false, eval e X.env) :: starEach es X.env := by rfl) (hpl : (backTo pos (starEach es X.env)).any (·.1) = false := by rfl) :
    EvR X (EE σ) σ W (.Call (.Name x q) (e :: es) [] pos) (ma.bind m) := fun W1 l1 Q hq pins s I => by
  obtain ⟨fd, F1, hb⟩ := F.ex
  refine wpAny_Call_Name_kw (ld_glob I hg F.g_ ?_ hdb)
  refine PySem.W.callWith_K (h₀ := X.base) I.ok.mod.kin F.kp (thn (ha W1 l1 (fun vs H1 => spOf X.K m vs H1 Q (EE σ)) ?_ pos pins s I) fun us s1 ⟨vs, H1, I1, r, q⟩ => ⟨I1.kIn, run_fnX (EE := EE) F1 hr hot hp hb hx I1 r q⟩) he hpl
  cases ma with
  | ok a => exact fun vs W2 l2 i2 => ⟨W2, a, rfl, i2, Post.mono hq l2⟩
  | er x => exact hq
  | no => exact hq
/-- .., the exception ahead, nothing behind it -/
theorem evr_callX (i : Nat) {k : Nat} {ps : List Str} {m : Exn → Unit → Rs α} {y : Exn} {x n : Str} {ad : Addr} {oe : Obj} {q1 : Pos} {EE : L2.St → XK} (hx : PassesAt (L2N.CX X.prog X.w) X σ (EE σ)) (F : FnE X.prog X.w X.K X.mg X.base k x ps m) (hr : RoomH k X.A) (hot : Hot1 X.A (ad, oe)) (hp : (ad, oe) ∈ X.pn) (ea : ExA X.K W y ad oe)
    (hs : σ[i]? = some (some (.ref ad))) (hN : X.N[i]? = some n := by rfl) (hv : Vis X.env.scope n := by first | exact Or.inl rfl | exact Or.inr (Or.inl rfl) | exact Or.inr (Or.inr rfl)) (hd : (n == ("__debug__" : Str)) = false := by decide) (hcd : (n == ("__classdict__" : Str)) = false := by decide) (hg : Gl X x := by rfl)
    (hdb : (x == ("__debug__" : Str)) = false := by decide) (he : starEach [.Name n q1] X.env = (false, eval (.Name n q1) X.env) :: starEach [] X.env := by rfl) :
    EvR X (EE σ) σ W (.Call (.Name x q) [.Name n q1] [] pos) (m y ()) := fun W1 l1 Q hq pins s I => by
  obtain ⟨fd, F1, hb⟩ := F.ex
  refine wpAny_Call_Name_kw (ld_glob I hg F.g_ ?_ hdb)
  exact PySem.W.callWith_K (h₀ := X.base) I.ok.mod.kin F.kp (thn ((pa_cons (pe_var hN hv hd hcd) pa_nil he).run pos pins s σ W1.H (fun vs H1 => spE X.K m (ad, oe) vs H1 Q (EE σ)) I ⟨.ref ad, hs, W1, y, [], (), rfl, rfl, ea.mono l1, rfl, hq⟩) fun us s1 ⟨vs, H1, I1, r, q⟩ => ⟨I1.kIn, run_fnX (EE := EE) F1 hr hot hp hb hx I1 r q⟩) he rfl
end
section
theorem roomH_mark {k : Nat} {A : Around} {v : Option Value} (r : Room k A) : RoomH k (A.mark v) := ⟨r.dp, r.un⟩
theorem hot_suite {K : PySem.W.Frag} {W : Wd} {y : Exn} {ad : Addr} {oe : Obj} {A : Around} (ea : ExA K W y ad oe) : Hot1 (A.mark (some (.ref ad))) (ad, oe) := by
  obtain ⟨d, fs, hz, _⟩ := ea.ex
  obtain ⟨vs, hv⟩ := ea.fv
  exact ⟨rfl, vs, hv, hz.2.2 vs hv⟩
variable {P : Program} {w : World} {K : PySem.W.Frag} {mg : Str → Option Value} {base : Heap}
theorem takes_fn {N : List Str} {qual : Str} {scope : Scope} {f : Addr} {cd : Value} {A : Around} {outer : List Env} {s : Shared} {H : Hp} {E : XK} : L2N.Takes (cxN P w K mg base N qual scope f cd A outer s H E) (fun cls d _ H => E cls d H) := L2N.takes_of rfl rfl rfl rfl
theorem passF_fn {N : List Str} {qual : Str} {scope : Scope} {f : Addr} {cd : Value} {A : Around} {outer : List Env} {s : Shared} {H : Hp} {E : XK} : Passes (L2N.CX P w) (cxN P w K mg base N qual scope f cd A outer s H E) (fun _ _ _ => False) := fun pins σ H' s' e s'' I c =>
  L2N.passes_call (X := cxN P w K mg base N qual scope f cd A outer s H E) (W := fun cls d _ H => E cls d H) (E := fun _ _ _ => False) (takes_fn) (fun _ _ _ _ h => h.elim) pins σ H' s' e s'' I c
end
end Wk

set_option maxHeartbeats 1000000
/-! Wk14: a list of one's own is handed to a def that tells a plain value. -/
namespace Wk
open PySem PySem.Spec PyProof.Rows L2
class Fx (α : Type) [Rep α] : Prop where
  fx : ∀ {K : PySem.W.Frag} {H H' : Hp} {x : V} {d : α}, Rep.is K H x d → Rep.is K H' x d
instance : Fx Int := ⟨fun h => h⟩
instance : Fx Bool := ⟨fun h => h⟩
instance : Fx Str := ⟨fun h => h⟩
instance : Fx Unit := ⟨fun h => h⟩
instance {α : Type} [Rep α] [Fx α] : Fx (Option α) := ⟨fun {K H H' x d} h => by
  cases d with
  | none => exact h
  | some a => exact ⟨Fx.fx h.1, h.2⟩⟩
/-- p may change again -/
def Wd.thaw (W : Wd) (p : Addr) : Wd := ⟨del W.G p, W.H, fun a u e => by
  by_cases hp : a = p
  · subst hp
    rw [del_same] at e
    cases e
  · rw [del_ne hp] at e
    exact W.ex a u e⟩
theorem Le.thaw {W W2 : Wd} {p : Addr} {o : HO} (h : W.H p = some o) (g : W.G p = none) (l : Le (W.frz p o h) W2) : Le W (W2.thaw p) := ⟨fun a u e => by
  have ha : a ≠ p := fun z => by
    rw [z, g] at e
    cases e
  show del W2.G p a = some u
  rw [del_ne ha]
  refine l.g a u ?_
  show upd W.G p o a = some u
  rw [upd_ne ha]
  exact e, l.h, fun a u e1 e2 => by
  show del W2.G p a = none
  by_cases ha : a = p
  · rw [ha, del_same]
  · rw [del_ne ha]
    refine l.n a u e1 ?_
    show upd W.G p o a = none
    rw [upd_ne ha]
    exact e2⟩
section
variable {X : Cx} {E : XK} {σ : L2.St} {W W0 : Wd} {e : Expr} {α β : Type} [Rep α] [Rep β]
theorem evr_thaw [Fx α] {m : Rs α} {ds : List β} {q : Addr} {vs : List V} (o : Own W0 W q (.lst vs)) (hi : AllIs X.K W.G vs ds) (h : ∀ W1, Same W.G W1.G → (∀ r u, r ≠ q → Own W0 W r u → Own W0 W1 r u) → Is X.K W1.G (.ref q) ds → EvR X E σ W1 e m) : EvR X E σ W e m.noer := fun W1 l1 Q hq => by
  have o1 := o.mono l1
  have i1 := AllIs.mono l1.g hi
  refine h (W1.frz q (.lst vs) o1.h) (l1.g.trans o1.same_frz) (fun r u n ou => o1.other_frz (ou.mono l1) n) ⟨q, vs, rfl, upd_same, AllIs.mono o1.same_frz i1⟩ _ (Le.refl _) Q ?_
  cases m with
  | ok d => exact fun v W2 l2 i2 => hq v (W2.thaw q) (Le.thaw o1.h o1.g l2) (Fx.fx i2)
  | er x => exact hq.elim
  | no => exact hq
end
section
variable {X : Cx} {E : XK} {σ : L2.St} {W : Wd} {pos p : Pos} {α : Type} [Rep α]
theorem evr_isG (i : Nat) {y : Exn} {ad : Addr} {oe : Obj} {x n : Str} {c : Addr} {b : Bool} {q1 q2 : Pos} (hp : (ad, oe) ∈ X.pn) (ea : ExA X.K W y ad oe) (ec : ExcC X.K (He.ga X.K y.nm)) (hs : σ[i]? = some (some (.ref ad))) (hm : X.mg x = some (.ref c)) (hk : PySem.W.kitOne X.K (.ref (He.ga X.K y.nm)) (.ref c) = some b) (hmi : X.mg "isinstance" = none)
    (hgx : Gl X x := by rfl) (hdx : (x == ("__debug__" : Str)) = false := by decide) (hN : X.N[i]? = some n := by rfl) (hv : Vis X.env.scope n := by first | exact Or.inl rfl | exact Or.inr (Or.inl rfl) | exact Or.inr (Or.inr rfl)) (hd : (n == ("__debug__" : Str)) = false := by decide)
    (hcd : (n == ("__classdict__" : Str)) = false := by decide) (hg : Gl X "isinstance" := by rfl) (h1 : starEach [.Name n q1, .Name x q2] X.env = (false, eval (.Name n q1) X.env) :: starEach [.Name x q2] X.env := by rfl)
    (h2 : starEach [.Name x q2] X.env = (false, eval (.Name x q2) X.env) :: starEach [] X.env := by rfl) (hpl : (backTo pos (starEach [.Name x q2] X.env)).any (·.1) = false := by rfl) : EvR X E σ W (.Call (.Name "isinstance" p) [.Name n q1, .Name x q2] [] pos) (.ok b) :=
  evr_isE (i := i) (cv := .ref c) hp ea ec hs (pe_glob hgx hm rfl hdx) (fun _ h => h) hk hmi hN hv hd hcd hg h1 h2 hpl
theorem evr_isV (i : Nat) {y : Exn} {ad : Addr} {oe : Obj} {x n : Str} {T : String} {b : Bool} {q1 q2 : Pos} (hp : (ad, oe) ∈ X.pn) (ea : ExA X.K W y ad oe) (ec : ExcC X.K (He.ga X.K y.nm)) (hs : σ[i]? = some (some (.ref ad))) (hm : X.mg x = none) (hb : bootBuiltins x = some (.type T)) (hk : PySem.W.kitOne X.K (.ref (He.ga X.K y.nm)) (.type T) = some b) (hmi : X.mg "isinstance" = none)
    (hgx : Gl X x := by rfl) (hnx : x ≠ "__name__" := by decide) (hdx : (x == ("__debug__" : Str)) = false := by decide) (hN : X.N[i]? = some n := by rfl) (hv : Vis X.env.scope n := by first | exact Or.inl rfl | exact Or.inr (Or.inl rfl) | exact Or.inr (Or.inr rfl)) (hd : (n == ("__debug__" : Str)) = false := by decide)
    (hcd : (n == ("__classdict__" : Str)) = false := by decide) (hg : Gl X "isinstance" := by rfl) (h1 : starEach [.Name n q1, .Name x q2] X.env = (false, eval (.Name n q1) X.env) :: starEach [.Name x q2] X.env := by rfl)
    (h2 : starEach [.Name x q2] X.env = (false, eval (.Name x q2) X.env) :: starEach [] X.env := by rfl) (hpl : (backTo pos (starEach [.Name x q2] X.env)).any (·.1) = false := by rfl) : EvR X E σ W (.Call (.Name "isinstance" p) [.Name n q1, .Name x q2] [] pos) (.ok b) :=
  evr_isE (i := i) (cv := .ty T) hp ea ec hs (pe_bltn hgx hm hb rfl hnx hdx) (fun _ h => h) hk hmi hN hv hd hcd hg h1 h2 hpl
end
theorem blk_suite {φ : Type} {X : Cx} {W0 W : Wd} {P : φ → Prop} {D : Ends} {σ : L2.St} {st : List Stmt} {m : Rs φ} (h : (∀ σ, PassesAt (L2N.CX X.prog X.w) X σ E0) → Blk X W0 E0 P D σ W st m) : Blk X W0 E0 P D σ W st m := h passN0
section
variable {X : Cx} {σ : L2.St} {W : Wd} {e : Expr} {α : Type} [Rep α]
/-- the context told -/
theorem evrX {m : Rs α} (po : ∀ σ, PassesAt (L2N.CX X.prog X.w) X σ E0) (h : EvR X E0 σ W e m) : EvR X E0 σ W e m := h
theorem evtX {m : Rs Bool} (po : ∀ σ, PassesAt (L2N.CX X.prog X.w) X σ E0) (h : EvT X E0 σ W e m) : EvT X E0 σ W e m := h
end
end Wk

set_option maxHeartbeats 2000000
/-! Wk15: the head's hook with facts of one's own. -/
namespace Wk
open PySem PySem.Spec PyProof.Rows L2
def obsX (fc : PySem.W.Frag → Bool) (fn : List He.DefD) (K : PySem.W.Frag) : He.AlD := (fc K && fn.all fun d => d.ok K, fn.map fun d => He.fnW K d.at_)
def SaysX (fc : PySem.W.Frag → Bool) (fn : List He.DefD) (K : PySem.W.Frag) : Prop := obsX fc fn K = He.valD fn
def asX (g : Addr → Option Obj) : Nat → List Addr
  | 0 => [mainGlobals, cStatics]
  | n + 1 => He.growD g (asX g n)
def obsXG (n : Nat) (fc : PySem.W.Frag → Bool) (fn : List He.DefD) (g : Addr → Option Obj) : He.AlD := obsX fc fn (He.frG g (asX g n))
def hookX (n : Nat) (fc : PySem.W.Frag → Bool) (fn : List He.DefD) : PySem.W.Hook where
  α := He.AlD
  obs := fun s => obsXG n fc fn s.heap.get?
  val := fun _ => He.valD fn
  says := fun _ h => ∃ K : PySem.W.Frag, K.In h ∧ SaysX fc fn K
  of := fun _ _ e => ⟨_, He.frG_in, e⟩
  keeps := fun _ _ _ ⟨K, hK, c⟩ k => ⟨K, PySem.W.Frag.In.keeps hK k, c⟩
theorem obsXG_eq {n : Nat} {fc : PySem.W.Frag → Bool} {fn : List He.DefD} {g : Addr → Option Obj} {s : Shared} (h : ∀ a, g a = s.heap.get? a) : obsXG n fc fn g = (hookX n fc fn).obs s := by
  rw [show g = s.heap.get? from funext h] <;> rfl
theorem SaysX.facts {fc : PySem.W.Frag → Bool} {fn : List He.DefD} {K : PySem.W.Frag} (c : SaysX fc fn K) : fc K = true := (He.ba (show (fc K && fn.all fun d => d.ok K) = true from congrArg (fun z : He.AlD => z.1) c)).1
theorem SaysX.def_ {fc : PySem.W.Frag → Bool} {fn : List He.DefD} {K : PySem.W.Frag} (c : SaysX fc fn K) (i : Nat) {d : He.DefD} (h : fn[i]? = some d := by rfl) : ∃ fd, FunD K d.name d.qual d.params d.body d.scope (d.dvs K) (d.kws K) (He.fAd K d.at_) fd := by
  have c2 := (He.ba (show (fc K && fn.all fun d => d.ok K) = true from congrArg (fun z : He.AlD => z.1) c)).2
  have e : fn.map (fun d => He.fnW K d.at_) = fn.map He.DefD.val := congrArg (fun z : He.AlD => z.2) c
  have e2 : (fn.map fun d => He.fnW K d.at_)[i]? = (fn.map He.DefD.val)[i]? := by rw [e]
  rw [List.getElem?_map, List.getElem?_map, h] at e2
  exact He.DefD.funD (Option.some.inj e2) (List.all_eq_true.mp c2 d (List.mem_of_getElem? h))
/-- globals, free names -/
def glB (l : List Str) (K : PySem.W.Frag) : Bool := l.all fun x => (He.Fa.glo x).ok K
def frB (l : List Str) (K : PySem.W.Frag) : Bool := l.all fun x => (He.Fa.free x).ok K
theorem glB_ok {l : List Str} {K : PySem.W.Frag} {h : Heap} {mg : Str → Option Value} (X : K.In h) (G : h.Ns mainGlobals mg) (c : glB l K = true) {x : Str} (hx : x ∈ l := by decide +kernel) : mg x = some (.ref (He.ga K x)) := He.glo_ok X G (List.all_eq_true.mp c x hx)
theorem frB_ok {l : List Str} {K : PySem.W.Frag} {h : Heap} {mg : Str → Option Value} (X : K.In h) (G : h.Ns mainGlobals mg) (c : frB l K = true) {x : Str} (hx : x ∈ l := by decide +kernel) : mg x = none := He.free_ok X G (List.all_eq_true.mp c x hx)
/-- the law's call -/
theorem sp_law {K : PySem.W.Frag} {m : Ar Scr Unit → Rs Bool} {H : Hp} {a : Addr} {ns : List Int} (hS : SqL K H a (ns.map V.int)) (hm : m ⟨⟨ns⟩, ()⟩ = .ok true) : spOf K m [.ref a] H (fun v _ => v = .bl true) fun _ _ _ => False :=
  ⟨⟨H, H, Same.refl _⟩, ⟨⟨ns⟩, ()⟩, rfl, ⟨.ref a, [], rfl, ⟨a, rfl, hS⟩, rfl⟩, by
    rw [hm]
    exact fun v W2 _ i => i⟩
theorem cx_none {P : Program} {w : World} (H : Hp) (s : Shared) (e : Value) (s' : Shared) (h : L2N.CX P w [] H s (fun _ _ _ => False) e s') : False := by
  obtain ⟨a, B, H', cls, d, _, _, _, _, _, _, _, h⟩ := h
  exact h
/-- as walk_ofE, what a call may let out told for each world -/
theorem walk_ofW {l : PySem.W.OpenLaw} {n k : Nat} {q : Program} {loose : List Str} {XP : (Str → Option Value) → Heap → Prop} {YP : World → Heap → Prop} {d : DefRec} {CX : World → CXT} {x : Str} (hn : l.most = some n) (hn2 : n ≤ sizeLine) (hdf : d.params.defaults = []) (hr : Room k callerA)
    (F : ∀ (w : World) (mg : Str → Option Value) (fa : Addr) (h : Heap), YP w h → h.Ns mainGlobals mg → mg d.name = some (.ref fa) → ∃ (K : PySem.W.Frag) (fd : FuncData) (sp : Sp), K.In h ∧ (∀ (s : Shared) (u : Value), BindsTo s fd ⟨[u], []⟩ [(x, u)]) ∧
      (∀ (H : Hp) (a : Addr) (ns : List Int), ns.length ≤ n → Only H → SqL K H a (ns.map V.int) → sp [.ref a] H (fun v _ => v = .bl true) fun _ _ _ => False) ∧ ∀ base : Heap, K.In base → base.Ns mainGlobals mg → FnOk l.prog w K mg base (CX w) k fa fd [x] sp)
    (hCX : ∀ (w : World) (H : Hp) (s : Shared) (e : Value) (s' : Shared), CX w [] H s (fun _ _ _ => False) e s' → False) : PySem.W.WalkO q loose XP YP l.row.toRowW d [] (fun f vs => PySem.call f vs) := by
  refine Att.attach_call hn hdf fun w s₀ s₁ mg mb fa o pm cd doc a vs ns G Y ho hd hcd hmg hobj hints hlen hg => ?_
  obtain ⟨K, fd, sp, KX, hb, hsp, hF⟩ := F w mg fa _ Y G.T.g hmg
  exact law_call KX G.T.g G.T.b G.T.builtins G.T.nolimit hg hobj hints (Nat.le_trans hlen hn2) hr hF hb (fun H hO hS => hsp H a ns hlen hO hS) fun H e s' => hCX w H s₁ e s'
end Wk

set_option maxHeartbeats 1000000
/-! Wk16: plain mathematics of results. -/
namespace Wk
open PySem PySem.Spec PyProof.Rows L2
/-- m is done, and its value is as P says -/
def OkP {α : Type} (m : Rs α) (P : α → Prop) : Prop := ∃ a, m = .ok a ∧ P a
theorem OkP.pure {α : Type} {a : α} {P : α → Prop} (h : P a) : OkP (.ok a) P := ⟨a, rfl, h⟩
theorem OkP.bind {α β : Type} {m : Rs α} {k : α → Rs β} {P : α → Prop} {Q : β → Prop} (h : OkP m P) (hk : ∀ a, P a → OkP (k a) Q) : OkP (m.bind k) Q := by
  obtain ⟨a, rfl, p⟩ := h
  exact hk a p
theorem OkP.imp {α : Type} {m : Rs α} {P Q : α → Prop} (h : OkP m P) (hq : ∀ a, P a → Q a) : OkP m Q := by
  obtain ⟨a, e, p⟩ := h
  exact ⟨a, e, hq a p⟩
theorem OkP.eq {α : Type} {m : Rs α} {a : α} (h : OkP m fun x => x = a) : m = .ok a := by
  obtain ⟨b, e, rfl⟩ := h
  exact e
theorem OkP.of_eq {α : Type} {m : Rs α} {a : α} {P : α → Prop} (e : m = .ok a) (h : P a) : OkP m P := ⟨a, e, h⟩
theorem bnd {α β : Type} (a : α) (k : α → Rs β) : (Rs.ok a).bind k = k a := Eq.trans (Eq.symm (Eq.refl (k a))) (Eq.refl (k a))
/-! ints -/
theorem mulR_l {i j : Int} (h1 : -1000000000 ≤ i) (h2 : i ≤ 1000000000) : mulR i j = .ok (i * j) := by
  unfold mulR
  rw [if_pos]
  exact .inl ⟨by omega, by omega⟩
theorem mulR_r {i j : Int} (h1 : -1000000000 ≤ j) (h2 : j ≤ 1000000000) : mulR i j = .ok (i * j) := by
  unfold mulR
  rw [if_pos]
  exact .inr ⟨by omega, by omega⟩
theorem modR_ok {i j : Int} (h : 0 < j) : modR i j = .ok (i % j) := by
  unfold modR
  rw [if_pos h]
theorem divR_ok {i j : Int} (h : 0 < j) (h2 : j < 1000000000) : divR i j = .ok (i / j) := by
  unfold divR
  rw [if_pos]
  exact ⟨h, by omega⟩
theorem powR_ok {i : Int} {j : Nat} (h : j ≤ 1000000) (h2 : -1000000000 ≤ i) (h3 : i ≤ 1000000000) : powR i (j : Int) = .ok (i ^ j) := by
  unfold powR
  rw [if_pos]
  · rfl
  · exact ⟨by omega, by omega, by omega⟩
theorem mod_rng {i j : Int} (h : 0 < j) : 0 ≤ i % j ∧ i % j < j := ⟨Int.emod_nonneg _ (by omega), Int.emod_lt_of_pos _ h⟩
/-! lists -/
theorem idx_ok {α : Type} {l : List α} {i : Int} (h0 : 0 ≤ i) (h : i < l.length) : idx l i = .ok (l[i.toNat]'(by omega)) := by
  unfold idx atI ixN
  rw [if_pos h0, if_pos h]
  show (match l[i.toNat]? with | some d => Rs.ok d | none => .no) = _
  rw [List.getElem?_eq_getElem (by omega)]
theorem idx_mem {α : Type} {l : List α} {i : Int} {P : α → Prop} (h0 : 0 ≤ i) (h : i < l.length) (hp : ∀ x ∈ l, P x) : OkP (idx l i) P := ⟨_, idx_ok h0 h, hp _ (List.getElem_mem _)⟩
theorem setR_ok {α : Type} {l : List α} {i : Int} {d : α} (h0 : 0 ≤ i) (h : i < l.length) : setR l i d = .ok (l.set i.toNat d) := by
  unfold setR ixN
  rw [if_pos h0, if_pos h]
theorem appR_ok {α : Type} {l : List α} {d : α} (h : l.length < 100000) : appR l d = .ok (l ++ [d]) := by
  unfold appR
  rw [if_pos h]
theorem catR_ok {α : Type} {x y : List α} (h : x.length + y.length ≤ 100000) : catR x y = .ok (x ++ y) := by
  unfold catR
  rw [if_pos h]
theorem bndR_in {α : Type} {n : Int} {m : Rs α} (h : 0 ≤ n) (h2 : n ≤ 100000) : bndR n m = m := by
  unfold bndR
  rw [if_pos ⟨by omega, h2⟩]
theorem cut_mem {α : Type} {x : List α} {a b : Option Int} {e : α} (h : e ∈ cut x a b) : e ∈ x := List.mem_of_mem_drop (List.mem_of_mem_take h)
theorem cut_len {α : Type} {x : List α} {a b : Option Int} : (cut x a b).length ≤ x.length := by
  unfold cut
  rw [List.length_take, List.length_drop]
  omega
theorem rng_mem {a b i : Int} (h : i ∈ rng a b) : a ≤ i ∧ i < b := by
  unfold rng at h
  obtain ⟨k, hk, rfl⟩ := List.mem_map.mp h
  rw [List.mem_range] at hk
  omega
theorem rng_at {n : Nat} {i : Nat} {x : Int} (h : (rng 0 (n : Int))[i]? = some x) : x = (i : Int) ∧ i < n := by
  have hi : i < (rng 0 (n : Int)).length := (List.getElem?_eq_some_iff.mp h).1
  rw [rng_len] at hi
  rw [rng_get hi] at h
  cases h
  omega
theorem mapL_ok {α β : Type} {f : α → Rs β} {P : α → β → Prop} : ∀ {xs : List α}, (∀ x ∈ xs, OkP (f x) (P x)) → OkP (mapL f xs) fun ys => Paired P xs ys
  | [], _ => ⟨[], rfl, .nil⟩
  | x :: xs, h => (h x (by simp)).bind fun y py => (mapL_ok fun z hz => h z (by simp [hz])).bind fun ys pys => .pure (.cons py pys)
theorem mapR_ok {α β : Type} {f : α → Rs β} {P : α → β → Prop} {xs : List α} (hz : xs.length ≤ 100000) (h : ∀ x ∈ xs, OkP (f x) (P x)) : OkP (mapR f xs) fun ys => Paired P xs ys := by
  unfold mapR
  rw [if_pos hz]
  obtain ⟨ys, e, p⟩ := mapL_ok h
  rw [e]
  exact ⟨ys, rfl, p⟩
theorem mapR_id {α : Type} {xs : List α} (hz : xs.length ≤ 100000) : mapR (fun d : α => Rs.ok d) xs = .ok xs := by
  obtain ⟨ys, e, p⟩ := mapR_ok (f := fun d : α => Rs.ok d) (P := fun x y => y = x) hz fun x _ => .pure rfl
  rw [e]
  congr 1
  clear e hz
  induction p with
  | nil => rfl
  | cons h t ih => rw [h, ih]
theorem filtR_ok {α β : Type} {t : α → Bool} {f : α → β} {xs : List α} : filtR (fun x => Rs.ok (t x)) (fun x => Rs.ok (f x)) xs = .ok ((xs.filter t).map f) := by
  induction xs with
  | nil => rfl
  | cons x xs ih =>
    unfold filtR
    rw [ih]
    cases h : t x <;> simp [List.filter, h]
theorem lcR_ok' {α β : Type} {t : α → Bool} {f : α → β} {xs : List α} (hz : xs.length ≤ 100000) : lcR (fun x => Rs.ok (t x)) (fun x => Rs.ok (f x)) xs = .ok ((xs.filter t).map f) := by
  unfold lcR
  rw [if_pos hz, filtR_ok]
  rfl
theorem paired_all {α β : Type} {P : α → β → Prop} {Q : β → Prop} (h : ∀ a b, P a b → Q b) : ∀ {xs : List α} {ys : List β}, Paired P xs ys → ∀ y ∈ ys, Q y
  | _, _, .nil, y, hy => by simp at hy
  | _, _, .cons p t, y, hy => by
    rcases List.mem_cons.mp hy with rfl | hy
    · exact h _ _ p
    · exact paired_all h t y hy
theorem paired_at {α β : Type} {P : α → β → Prop} : ∀ {xs : List α} {ys : List β} {i : Nat} {y : β}, Paired P xs ys → ys[i]? = some y → ∃ x, xs[i]? = some x ∧ P x y := fun p h => paired_get p h
/-! loops -/
theorem foldR_ok {α S : Type} {step : S → α → Rs S} {I : Nat → S → Prop} : ∀ {xs : List α} {k : Nat} {s : S}, I k s → (∀ i s x, xs[i]? = some x → I (k + i) s → OkP (step s x) (I (k + i + 1))) → OkP (foldR step s xs) (I (k + xs.length))
  | [], k, s, h, _ => ⟨s, rfl, h⟩
  | x :: xs, k, s, h, hs => (hs 0 s x rfl h).bind fun s' h' => by
    have r := foldR_ok (xs := xs) (k := k + 1) (I := I) h' fun i s y hy hi => by
      have := hs (i + 1) s y hy (by rw [show k + (i + 1) = k + 1 + i from by omega]; exact hi)
      rw [show k + (i + 1) + 1 = k + 1 + i + 1 from by omega] at this
      exact this
    rw [show k + (x :: xs).length = k + 1 + xs.length from by simp; omega]
    exact r
theorem foldR_ok0 {α S : Type} {step : S → α → Rs S} (I : Nat → S → Prop) {xs : List α} {s : S} (h : I 0 s) (hs : ∀ i s x, xs[i]? = some x → I i s → OkP (step s x) (I (i + 1))) : OkP (foldR step s xs) (I xs.length) := by
  have := foldR_ok (I := I) (k := 0) h fun i s x hx hi => by
    rw [Nat.zero_add] at hi ⊢
    exact hs i s x hx hi
  rw [Nat.zero_add] at this
  exact this
theorem loop_find {α ρ : Type} {b : α → Bool} {f : α → ρ} {step : Unit → α → Rs (Fl Unit ρ)} : ∀ {xs : List α}, (∀ x ∈ xs, step () x = if b x = true then .ok (.rt (f x)) else .ok (.nx ())) → loopR step () xs = match xs.find? b with
    | some x => .ok (.rt (f x))
    | none => .ok (.nx ())
  | [], _ => rfl
  | x :: xs, h => by
    unfold loopR
    rw [h x (by simp)]
    cases hb : b x with
    | true =>
      rw [if_pos rfl, List.find?_cons_of_pos (by exact hb)]
      rfl
    | false =>
      rw [if_neg (by simp), List.find?_cons_of_neg (by simp [hb])]
      exact loop_find fun y hy => h y (by simp [hy])
theorem fold_find {α : Type} {b : α → Bool} {f : α → Exn} {step : Unit → α → Rs Unit} : ∀ {xs : List α}, (∀ x ∈ xs, step () x = if b x = true then .er (f x) else .ok ()) → foldR step () xs = match xs.find? b with
    | some x => .er (f x)
    | none => .ok ()
  | [], _ => rfl
  | x :: xs, h => by
    unfold foldR
    rw [h x (by simp)]
    cases hb : b x with
    | true =>
      rw [if_pos rfl, List.find?_cons_of_pos (by exact hb)]
      rfl
    | false =>
      rw [if_neg (by simp), List.find?_cons_of_neg (by simp [hb])]
      exact fold_find fun y hy => h y (by simp [hy])
/-! data that are compared -/
class DatOk (α : Type) [Rep α] [RepD α] where
  dep : Nat
  lay : ∀ d : α, (RepD.dat d).canLay0 = true
  dpt : ∀ d : α, PyData.depth (RepD.dat d) ≤ dep
instance : DatOk Int := ⟨0, fun _ => rfl, fun _ => by show PyData.depth (.int _) ≤ 0; simp [PyData.depth]⟩
instance : DatOk Bool := ⟨0, fun _ => rfl, fun _ => by show PyData.depth (.bool _) ≤ 0; simp [PyData.depth]⟩
theorem lay_all {α : Type} [Rep α] [RepD α] [DatOk α] : ∀ l : List α, PyData.canLayAll0 (l.map RepD.dat) = true
  | [] => by simp [PyData.canLayAll0]
  | x :: l => by simp [PyData.canLayAll0, DatOk.lay x, lay_all l]
theorem dep_all {α : Type} [Rep α] [RepD α] [DatOk α] : ∀ l : List α, PyData.depthAll (l.map RepD.dat) ≤ DatOk.dep α
  | [] => by simp [PyData.depthAll]
  | x :: l => by
    have h1 := DatOk.dpt x
    have h2 := dep_all l
    simp only [List.map_cons, PyData.depthAll]
    omega
instance {α : Type} [Rep α] [RepD α] [DatOk α] : DatOk (List α) := ⟨DatOk.dep α + 1, fun l => by
  show PyData.canLay0 (.list _) = true
  rw [PyData.canLay0]
  exact lay_all l, fun l => by
  show PyData.depth (.list _) ≤ _
  rw [PyData.depth]
  have := dep_all l
  omega⟩
instance {α β : Type} [Rep α] [RepD α] [DatOk α] [Rep β] [RepD β] [DatOk β] : DatOk (α × β) := ⟨DatOk.dep α + DatOk.dep β + 1, fun d => by
  show PyData.canLay0 (.tuple _) = true
  rw [PyData.canLay0]
  simp [PyData.canLayAll0, DatOk.lay d.1, DatOk.lay d.2], fun d => by
  show PyData.depth (.tuple _) ≤ _
  rw [PyData.depth]
  have h1 := DatOk.dpt d.1
  have h2 := DatOk.dpt d.2
  simp only [PyData.depthAll]
  omega⟩
instance {α β γ : Type} [Rep α] [RepD α] [DatOk α] [Rep β] [RepD β] [DatOk β] [Rep γ] [RepD γ] [DatOk γ] : DatOk (L3 α β γ) := ⟨DatOk.dep α + DatOk.dep β + DatOk.dep γ + 1, fun d => by
  show PyData.canLay0 (.list _) = true
  rw [PyData.canLay0]
  simp [PyData.canLayAll0, DatOk.lay d.a, DatOk.lay d.b, DatOk.lay d.c], fun d => by
  show PyData.depth (.list _) ≤ _
  rw [PyData.depth]
  have h1 := DatOk.dpt d.a
  have h2 := DatOk.dpt d.b
  have h3 := DatOk.dpt d.c
  simp only [PyData.depthAll]
  omega⟩
theorem eqD_refl {α : Type} [Rep α] [RepD α] [DatOk α] (d : α) (h : DatOk.dep α ≤ 64 := by decide) : eqD d d = .ok true := by
  unfold eqD
  have hs : SeqAt.shaped (RepD.dat d) = true := by
    unfold SeqAt.shaped
    rw [DatOk.lay d, Bool.true_and]
    exact decide_eq_true (Nat.le_trans (DatOk.dpt d) h)
  rw [if_pos ⟨hs, hs⟩, SeqAt.eqv_refl _ (DatOk.lay d)]
end Wk

set_option maxHeartbeats 2000000
namespace K66
open PySem PySem.Spec PyProof.Rows L2 Wk
def top (i : Nat) : Stmt := PySem.Challenge.pw_spoolhall_k66_no_way.main.body.getD i (.Pass ⟨0, 0, 0, 0⟩)

abbrev s__law_draw : Stmt := top 20
abbrev s__law_great : Stmt := top 21
abbrev s__law_whole : Stmt := top 22
abbrev s__law_room : Stmt := top 23
abbrev s__law_part : Stmt := top 24
abbrev s__law_need : Stmt := top 25
abbrev s__law_needs : Stmt := top 26
abbrev s__law_spoilt : Stmt := top 27
abbrev s__law_first_bad : Stmt := top 28
abbrev s__law_rising : Stmt := top 31
abbrev s__law_never_dry : Stmt := top 32
abbrev s_short_tray : Stmt := top 17
abbrev s_look_at_needs : Stmt := top 16
abbrev s_walks : Stmt := top 18
abbrev s__law_others : Stmt := top 29
abbrev s__law_refused : Stmt := top 30
abbrev s_law : Stmt := top 33
/-- what the head tells -/
structure Tx (K : PySem.W.Frag) (mg : Str → Option Value) : Prop where
  d__law_draw : ∃ fd, FunD K "_law_draw" "_law_draw" (defArgs s__law_draw) (defBody s__law_draw) (defScope s__law_draw) [] [] (He.ga K "_law_draw") fd
  g__law_draw : mg "_law_draw" = some (.ref (He.ga K "_law_draw"))
  d__law_great : ∃ fd, FunD K "_law_great" "_law_great" (defArgs s__law_great) (defBody s__law_great) (defScope s__law_great) [] [] (He.ga K "_law_great") fd
  g__law_great : mg "_law_great" = some (.ref (He.ga K "_law_great"))
  d__law_whole : ∃ fd, FunD K "_law_whole" "_law_whole" (defArgs s__law_whole) (defBody s__law_whole) (defScope s__law_whole) [] [] (He.ga K "_law_whole") fd
  g__law_whole : mg "_law_whole" = some (.ref (He.ga K "_law_whole"))
  d__law_room : ∃ fd, FunD K "_law_room" "_law_room" (defArgs s__law_room) (defBody s__law_room) (defScope s__law_room) [] [] (He.ga K "_law_room") fd
  g__law_room : mg "_law_room" = some (.ref (He.ga K "_law_room"))
  d__law_part : ∃ fd, FunD K "_law_part" "_law_part" (defArgs s__law_part) (defBody s__law_part) (defScope s__law_part) [] [] (He.ga K "_law_part") fd
  g__law_part : mg "_law_part" = some (.ref (He.ga K "_law_part"))
  d__law_need : ∃ fd, FunD K "_law_need" "_law_need" (defArgs s__law_need) (defBody s__law_need) (defScope s__law_need) [] [] (He.ga K "_law_need") fd
  g__law_need : mg "_law_need" = some (.ref (He.ga K "_law_need"))
  d__law_needs : ∃ fd, FunD K "_law_needs" "_law_needs" (defArgs s__law_needs) (defBody s__law_needs) (defScope s__law_needs) [] [] (He.ga K "_law_needs") fd
  g__law_needs : mg "_law_needs" = some (.ref (He.ga K "_law_needs"))
  d__law_spoilt : ∃ fd, FunD K "_law_spoilt" "_law_spoilt" (defArgs s__law_spoilt) (defBody s__law_spoilt) (defScope s__law_spoilt) [] [] (He.ga K "_law_spoilt") fd
  g__law_spoilt : mg "_law_spoilt" = some (.ref (He.ga K "_law_spoilt"))
  d__law_first_bad : ∃ fd, FunD K "_law_first_bad" "_law_first_bad" (defArgs s__law_first_bad) (defBody s__law_first_bad) (defScope s__law_first_bad) [] [] (He.ga K "_law_first_bad") fd
  g__law_first_bad : mg "_law_first_bad" = some (.ref (He.ga K "_law_first_bad"))
  d__law_rising : ∃ fd, FunD K "_law_rising" "_law_rising" (defArgs s__law_rising) (defBody s__law_rising) (defScope s__law_rising) [] [] (He.ga K "_law_rising") fd
  g__law_rising : mg "_law_rising" = some (.ref (He.ga K "_law_rising"))
  d__law_never_dry : ∃ fd, FunD K "_law_never_dry" "_law_never_dry" (defArgs s__law_never_dry) (defBody s__law_never_dry) (defScope s__law_never_dry) [] [] (He.ga K "_law_never_dry") fd
  g__law_never_dry : mg "_law_never_dry" = some (.ref (He.ga K "_law_never_dry"))
  d_short_tray : ∃ fd, FunD K "short_tray" "short_tray" (defArgs s_short_tray) (defBody s_short_tray) (defScope s_short_tray) [] [] (He.ga K "short_tray") fd
  g_short_tray : mg "short_tray" = some (.ref (He.ga K "short_tray"))
  d_look_at_needs : ∃ fd, FunD K "look_at_needs" "look_at_needs" (defArgs s_look_at_needs) (defBody s_look_at_needs) (defScope s_look_at_needs) [] [] (He.ga K "look_at_needs") fd
  g_look_at_needs : mg "look_at_needs" = some (.ref (He.ga K "look_at_needs"))
  d_walks : ∃ fd, FunD K "walks" "walks" (defArgs s_walks) (defBody s_walks) (defScope s_walks) [] [] (He.ga K "walks") fd
  g_walks : mg "walks" = some (.ref (He.ga K "walks"))
  d__law_others : ∃ fd, FunD K "_law_others" "_law_others" (defArgs s__law_others) (defBody s__law_others) (defScope s__law_others) [] [] (He.ga K "_law_others") fd
  g__law_others : mg "_law_others" = some (.ref (He.ga K "_law_others"))
  d__law_refused : ∃ fd, FunD K "_law_refused" "_law_refused" (defArgs s__law_refused) (defBody s__law_refused) (defScope s__law_refused) [] [] (He.ga K "_law_refused") fd
  g__law_refused : mg "_law_refused" = some (.ref (He.ga K "_law_refused"))
  d_law : ∃ fd, FunD K "law" "law" (defArgs s_law) (defBody s_law) (defScope s_law) [] [] (He.ga K "law") fd
  g_law : mg "law" = some (.ref (He.ga K "law"))
  g_HallError : mg "HallError" = some (.ref (He.ga K "HallError"))
  g_BadLine : mg "BadLine" = some (.ref (He.ga K "BadLine"))
  g_Unknown : mg "Unknown" = some (.ref (He.ga K "Unknown"))
  g_Twice : mg "Twice" = some (.ref (He.ga K "Twice"))
  g_NotNow : mg "NotNow" = some (.ref (He.ga K "NotNow"))
  g_TooMuch : mg "TooMuch" = some (.ref (He.ga K "TooMuch"))
  g_Dry : mg "Dry" = some (.ref (He.ga K "Dry"))
  g_Over : mg "Over" = some (.ref (He.ga K "Over"))
  g_Nowhere : mg "Nowhere" = some (.ref (He.ga K "Nowhere"))
  g_Busy : mg "Busy" = some (.ref (He.ga K "Busy"))
  g_NoHeap : mg "NoHeap" = some (.ref (He.ga K "NoHeap"))
  g_NoPrinter : mg "NoPrinter" = some (.ref (He.ga K "NoPrinter"))
  g_GoesRound : mg "GoesRound" = some (.ref (He.ga K "GoesRound"))
  g_NoWay : mg "NoWay" = some (.ref (He.ga K "NoWay"))
  i_NoWay : ∃ fd, FunD K "__init__" "NoWay.__init__" (defArgs (inClass (top 14) 0)) (defBody (inClass (top 14) 0)) (defScope (inClass (top 14) 0)) [] [] (He.ma K (He.ga K "NoWay") "__init__") fd
  x_a : Xa K
  z_len : mg "len" = none
  z_list : mg "list" = none
  z_range : mg "range" = none
  z_isinstance : mg "isinstance" = none
  z_int : mg "int" = none
  z_bool : mg "bool" = none
  z_enumerate : mg "enumerate" = none
  z_sum : mg "sum" = none
  z_tuple : mg "tuple" = none
  z_ValueError : mg "ValueError" = none
section
variable {P : Program} {w : World} {K : PySem.W.Frag} {mg : Str → Option Value} {base : Heap}
/-! _law_draw -/
abbrev N__law_draw : List Str := ["_law_script", "_law_k", "_law_many", "_law_cell"]
theorem sc__law_draw : FnScope N__law_draw ["_law_script", "_law_k", "_law_many"] (defScope s__law_draw) := ⟨rfl, rfl, rfl, by decide +kernel, rfl, by decide +kernel, by decide +kernel⟩
def m__law_draw' (law_script : Scr) (law_k : Int) (law_many : Int) : Rs Int :=
(Rs.ok (0 : Int)).bind fun (x5 : Int) =>
((Rs.ok (decide ((0 : Int) < (law_script.l.length : Int)))).bind fun c14 => if c14 = true then (((modR law_k (law_script.l.length : Int)).bind fun t13 => (idx law_script.l t13)).bind fun (x12 : Int) =>
.ok x12) else (.ok x5) : Rs Int).bind fun (s16 : Int) =>
(((((((modR s16 (1000003 : Int)).bind fun t21 => (((mulR (31 : Int) law_k).bind fun t20 => (mulR t20 law_k)).bind fun t22 => (Rs.ok (t21 + t22)))).bind fun t23 => ((mulR (7 : Int) law_k).bind fun t24 => (Rs.ok (t23 + t24)))).bind fun t25 => (Rs.ok (t25 + (1 : Int)))).bind fun t26 => (mulR t26 (48271 : Int))).bind fun t27 => (modR t27 (999983 : Int))).bind fun t28 => (modR t28 law_many)).bind fun d => .ok d
@[irreducible] def m__law_draw (a : (Ar Scr (Ar Int (Ar Int Unit)))) : Rs Int := m__law_draw' (a.a) (a.t.a) (a.t.t.a)
theorem ok__law_draw (T : Tx K mg) : Fn P w K mg base 1 "_law_draw" ["_law_script", "_law_k", "_law_many"] m__law_draw := by
  obtain ⟨fd, F⟩ := T.d__law_draw
  refine ⟨⟨fd, fn_ok (qual := "_law_draw") (x := "_law_draw") F sc__law_draw (fun G vs a i => ?_) (fun cdv A outer s Q E W0 a vs hr i => ?_), FunD.bindsN F fun _ _ _ _ _ _ us hl => match us, hl with | [_, _, _], _ => rfl⟩, F.kp, T.g__law_draw⟩
  · obtain ⟨v_0, _, rfl, h_0, ⟨v_1, _, rfl, h_1, ⟨v_2, _, rfl, h_2, rfl⟩⟩⟩ := i
    rfl
  · obtain ⟨law_script, ⟨law_k, ⟨law_many, ⟨⟩⟩⟩⟩ := a
    obtain ⟨v_0, _, rfl, h_0, ⟨v_1, _, rfl, h_1, ⟨v_2, _, rfl, h_2, rfl⟩⟩⟩ := i
    have l0 := Le.refl W0
    unfold m__law_draw
    dsimp only
    unfold m__law_draw'
    conv => arg 8; whnf
    refine s_asg 3 l0 evr_int (fun x5 v4 W1 _ l2 h3 => ?_) sc__law_draw.nd
    have h3 : Is K W1.G v4 (x5 : Int) := h3
    have h_0 := Rep.mono l2.g h_0
    have h_1 := Rep.mono l2.g h_1
    have h_2 := Rep.mono l2.g h_2
    have l0 := l0.trans l2
    refine s_cut (fun (s : Int) (σ : L2.St) (W : Wd) => ∃ (a_3 : V), σ = [some v_0, some v_1, some v_2, some a_3] ∧ Is K W.G a_3 (s : Int)) (s_if1 l0 (evt_gt (evr_lenS (evr_v 0 h_0) T.z_len) evr_int) (fun W6 e15 l7 => ?_) (fun W6 e15 l7 => ?_)) (fun s16 σ1 W19 _ l0 g29 jj => ?_)
    · have gg := Same.refl W1.G
      have gg := gg.trans l7.g
      have h_0 := Rep.mono l7.g h_0
      have h_1 := Rep.mono l7.g h_1
      have h_2 := Rep.mono l7.g h_2
      have h3 := Rep.mono l7.g h3
      have l0 := l0.trans l7
      refine s_asg 3 l0 (evr_ixS (evr_v 0 h_0) (evr_mod (evr_v 1 h_1) (evr_lenS (evr_v 0 h_0) T.z_len))) (fun x12 v11 W8 _ l9 h10 => ?_) sc__law_draw.nd
      have h10 : Is K W8.G v11 (x12 : Int) := h10
      have gg := gg.trans l9.g
      have h_0 := Rep.mono l9.g h_0
      have h_1 := Rep.mono l9.g h_1
      have h_2 := Rep.mono l9.g h_2
      have h3 := Rep.mono l9.g h3
      have l0 := l0.trans l9
      exact s_nil (fun h => h _ _ l0 gg ⟨_, rfl, h10⟩)
    · have gg := Same.refl W1.G
      have gg := gg.trans l7.g
      have h_0 := Rep.mono l7.g h_0
      have h_1 := Rep.mono l7.g h_1
      have h_2 := Rep.mono l7.g h_2
      have h3 := Rep.mono l7.g h3
      have l0 := l0.trans l7
      exact s_nil (fun h => h _ _ l0 gg ⟨_, rfl, h3⟩)
    · obtain ⟨a18_3, rfl, h18_3⟩ := jj
      have h_0 := Rep.mono g29 h_0
      have h_1 := Rep.mono g29 h_1
      have h_2 := Rep.mono g29 h_2
      exact s_ret (k := fun d => d) l0 (evr_mod (evr_mod (evr_mul (evr_add (evr_add (evr_add (evr_mod (evr_v 3 h18_3) evr_int) (evr_mul (evr_mul evr_int (evr_v 1 h_1)) (evr_v 1 h_1))) (evr_mul evr_int (evr_v 1 h_1))) evr_int) evr_int) evr_int) (evr_v 2 h_2)) (fun _ h => h)
/-! _law_great -/
abbrev N__law_great : List Str := ["_law_script", "_law_k"]
theorem sc__law_great : FnScope N__law_great ["_law_script", "_law_k"] (defScope s__law_great) := ⟨rfl, rfl, rfl, by decide +kernel, rfl, by decide +kernel, by decide +kernel⟩
def m__law_great' (law_script : Scr) (law_k : Int) : Rs Int :=
(Rs.ok (decide ((law_script.l.length : Int) = (0 : Int)))).bind fun c35 => if c35 = true then ((Rs.ok (0 : Int)).bind fun d => .ok d) else ((((modR law_k (law_script.l.length : Int)).bind fun t32 => (idx law_script.l t32)).bind fun t33 => ((powR (10 : Int) (58 : Int)).bind fun t34 => (modR t33 t34))).bind fun d => .ok d)
@[irreducible] def m__law_great (a : (Ar Scr (Ar Int Unit))) : Rs Int := m__law_great' (a.a) (a.t.a)
theorem ok__law_great (T : Tx K mg) : Fn P w K mg base 1 "_law_great" ["_law_script", "_law_k"] m__law_great := by
  obtain ⟨fd, F⟩ := T.d__law_great
  refine ⟨⟨fd, fn_ok (qual := "_law_great") (x := "_law_great") F sc__law_great (fun G vs a i => ?_) (fun cdv A outer s Q E W0 a vs hr i => ?_), FunD.bindsN F fun _ _ _ _ _ _ us hl => match us, hl with | [_, _], _ => rfl⟩, F.kp, T.g__law_great⟩
  · obtain ⟨v_0, _, rfl, h_0, ⟨v_1, _, rfl, h_1, rfl⟩⟩ := i
    rfl
  · obtain ⟨law_script, ⟨law_k, ⟨⟩⟩⟩ := a
    obtain ⟨v_0, _, rfl, h_0, ⟨v_1, _, rfl, h_1, rfl⟩⟩ := i
    have l0 := Le.refl W0
    unfold m__law_great
    dsimp only
    unfold m__law_great'
    conv => arg 8; whnf
    refine s_if l0 (evt_eq (evr_lenS (evr_v 0 h_0) T.z_len) evr_int) (fun W30 e36 l31 => ?_) (fun W30 e36 l31 => ?_)
    · have h_0 := Rep.mono l31.g h_0
      have h_1 := Rep.mono l31.g h_1
      have l0 := l0.trans l31
      exact s_ret (k := fun d => d) l0 evr_int (fun _ h => h)
    · have h_0 := Rep.mono l31.g h_0
      have h_1 := Rep.mono l31.g h_1
      have l0 := l0.trans l31
      refine s_end ?_
      exact s_ret (k := fun d => d) l0 (evr_mod (evr_ixS (evr_v 0 h_0) (evr_mod (evr_v 1 h_1) (evr_lenS (evr_v 0 h_0) T.z_len))) (evr_pow evr_int evr_int)) (fun _ h => h)
/-! _law_whole -/
abbrev N__law_whole : List Str := ["_law_found"]
theorem sc__law_whole : FnScope N__law_whole ["_law_found"] (defScope s__law_whole) := ⟨rfl, rfl, rfl, by decide +kernel, rfl, by decide +kernel, by decide +kernel⟩
def m__law_whole' (law_found : Int) : Rs Bool :=
(Rs.ok (true && (!false))).bind fun d => .ok d
@[irreducible] def m__law_whole (a : (Ar Int Unit)) : Rs Bool := m__law_whole' (a.a)
theorem ok__law_whole (T : Tx K mg) : Fn P w K mg base 1 "_law_whole" ["_law_found"] m__law_whole := by
  obtain ⟨fd, F⟩ := T.d__law_whole
  refine ⟨⟨fd, fn_ok (qual := "_law_whole") (x := "_law_whole") F sc__law_whole (fun G vs a i => ?_) (fun cdv A outer s Q E W0 a vs hr i => ?_), FunD.bindsN F fun _ _ _ _ _ _ us hl => match us, hl with | [_], _ => rfl⟩, F.kp, T.g__law_whole⟩
  · obtain ⟨v_0, _, rfl, h_0, rfl⟩ := i
    rfl
  · obtain ⟨law_found, ⟨⟩⟩ := a
    obtain ⟨v_0, _, rfl, h_0, rfl⟩ := i
    have l0 := Le.refl W0
    unfold m__law_whole
    dsimp only
    unfold m__law_whole'
    conv => arg 8; whnf
    exact s_ret (k := fun d => d) l0 (evr_andP (evr_isi (g := fun _ => true) (evr_v 0 h_0) T.z_int PyProof.Rows.boot_int T.z_isinstance (fun _ => by show kitB "int" "int" = _; decide +kernel)) (fun _ => (evr_one (evr_not (evr_isi (g := fun _ => false) (evr_v 0 h_0) T.z_bool PyProof.Rows.boot_bool T.z_isinstance (fun _ => by show kitB "int" "bool" = _; decide +kernel)))))) (fun _ h => h)
theorem okH__law_whole (T : Tx K mg) : FnHt P w K mg base 1 "_law_whole" ["_law_found"] m__law_whole := by
  obtain ⟨fd, F⟩ := T.d__law_whole
  refine ⟨⟨fd, fnH_ok (qual := "_law_whole") (x := "_law_whole") F sc__law_whole (fun G vs a i => ?_) (fun cdv A outer s Q E W0 px a vs hot hr i => ?_), FunD.bindsN F fun _ _ _ _ _ _ us hl => match us, hl with | [_], _ => rfl⟩, F.kp, T.g__law_whole⟩
  · obtain ⟨v_0, _, rfl, h_0, rfl⟩ := i
    rfl
  · obtain ⟨law_found, ⟨⟩⟩ := a
    obtain ⟨v_0, _, rfl, h_0, rfl⟩ := i
    have hp : px ∈ [px] := List.mem_singleton.mpr rfl
    have l0 := Le.refl W0
    unfold m__law_whole
    dsimp only
    unfold m__law_whole'
    conv => arg 8; whnf
    exact s_ret (k := fun d => d) l0 (evr_andP (evr_isi (g := fun _ => true) (evr_v 0 h_0) T.z_int PyProof.Rows.boot_int T.z_isinstance (fun _ => by show kitB "int" "int" = _; decide +kernel)) (fun _ => (evr_one (evr_not (evr_isi (g := fun _ => false) (evr_v 0 h_0) T.z_bool PyProof.Rows.boot_bool T.z_isinstance (fun _ => by show kitB "int" "bool" = _; decide +kernel)))))) (fun _ h => h)
/-! _law_room -/
abbrev N__law_room : List Str := ["_law_script", "_law_k"]
theorem sc__law_room : FnScope N__law_room ["_law_script", "_law_k"] (defScope s__law_room) := ⟨rfl, rfl, rfl, by decide +kernel, rfl, by decide +kernel, by decide +kernel⟩
def m__law_room' (law_script : Scr) (law_k : Int) : Rs Int :=
((m__law_draw (Ar.mk law_script (Ar.mk law_k (Ar.mk (3 : Int) ())))).bind fun t39 => (Rs.ok (decide (t39 = (0 : Int))))).bind fun c42 => if c42 = true then (((m__law_great (Ar.mk law_script (Ar.mk (law_k + (1 : Int)) ()))).bind fun t40 => (Rs.ok ((1 : Int) + t40))).bind fun d => .ok d) else (((m__law_draw (Ar.mk law_script (Ar.mk (law_k + (1 : Int)) (Ar.mk (12 : Int) ())))).bind fun t41 => (Rs.ok ((1 : Int) + t41))).bind fun d => .ok d)
@[irreducible] def m__law_room (a : (Ar Scr (Ar Int Unit))) : Rs Int := m__law_room' (a.a) (a.t.a)
theorem ok__law_room (T : Tx K mg) : Fn P w K mg base 2 "_law_room" ["_law_script", "_law_k"] m__law_room := by
  obtain ⟨fd, F⟩ := T.d__law_room
  refine ⟨⟨fd, fn_ok (qual := "_law_room") (x := "_law_room") F sc__law_room (fun G vs a i => ?_) (fun cdv A outer s Q E W0 a vs hr i => ?_), FunD.bindsN F fun _ _ _ _ _ _ us hl => match us, hl with | [_, _], _ => rfl⟩, F.kp, T.g__law_room⟩
  · obtain ⟨v_0, _, rfl, h_0, ⟨v_1, _, rfl, h_1, rfl⟩⟩ := i
    rfl
  · obtain ⟨law_script, ⟨law_k, ⟨⟩⟩⟩ := a
    obtain ⟨v_0, _, rfl, h_0, ⟨v_1, _, rfl, h_1, rfl⟩⟩ := i
    have l0 := Le.refl W0
    unfold m__law_room
    dsimp only
    unfold m__law_room'
    conv => arg 8; whnf
    refine s_if l0 (evt_eq (evr_callF (EE := fun _ => E) (ok__law_draw T) (hr.mono (by decide)) pass_fn (eva_cons (evr_v 0 h_0) (eva_cons (evr_v 1 h_1) (eva_cons evr_int eva_nil)))) evr_int) (fun W37 e43 l38 => ?_) (fun W37 e43 l38 => ?_)
    · have h_0 := Rep.mono l38.g h_0
      have h_1 := Rep.mono l38.g h_1
      have l0 := l0.trans l38
      exact s_ret (k := fun d => d) l0 (evr_add evr_int (evr_callF (EE := fun _ => E) (ok__law_great T) (hr.mono (by decide)) pass_fn (eva_cons (evr_v 0 h_0) (eva_cons (evr_add (evr_v 1 h_1) evr_int) eva_nil)))) (fun _ h => h)
    · have h_0 := Rep.mono l38.g h_0
      have h_1 := Rep.mono l38.g h_1
      have l0 := l0.trans l38
      refine s_end ?_
      exact s_ret (k := fun d => d) l0 (evr_add evr_int (evr_callF (EE := fun _ => E) (ok__law_draw T) (hr.mono (by decide)) pass_fn (eva_cons (evr_v 0 h_0) (eva_cons (evr_add (evr_v 1 h_1) evr_int) (eva_cons evr_int eva_nil))))) (fun _ h => h)
/-! _law_part -/
abbrev N__law_part : List Str := ["_law_script", "_law_k", "_law_room_here", "_law_small"]
theorem sc__law_part : FnScope N__law_part ["_law_script", "_law_k", "_law_room_here"] (defScope s__law_part) := ⟨rfl, rfl, rfl, by decide +kernel, rfl, by decide +kernel, by decide +kernel⟩
def m__law_part' (law_script : Scr) (law_k : Int) (law_room_here : Int) : Rs Int :=
((m__law_draw (Ar.mk law_script (Ar.mk (law_k + (1 : Int)) (Ar.mk (14 : Int) ())))).bind fun t49 => (modR t49 (law_room_here + (1 : Int)))).bind fun (x48 : Int) =>
(((((divR law_room_here (2 : Int)).bind fun t60 => (((((m__law_great (Ar.mk law_script (Ar.mk (law_k + (2 : Int)) ()))).bind fun t57 => (modR t57 (law_room_here + (1 : Int)))).bind fun t58 => (Rs.ok (t58 :: (x48 :: ([] : List Int))))).bind fun t59 => (Rs.ok (x48 :: t59))).bind fun t61 => (Rs.ok (t60 :: t61)))).bind fun t62 => (Rs.ok (law_room_here :: t62))).bind fun t63 => (Rs.ok ((0 : Int) :: t63))).bind fun t64 => ((m__law_draw (Ar.mk law_script (Ar.mk law_k (Ar.mk (6 : Int) ())))).bind fun t65 => (idx t64 t65))).bind fun d => .ok d
@[irreducible] def m__law_part (a : (Ar Scr (Ar Int (Ar Int Unit)))) : Rs Int := m__law_part' (a.a) (a.t.a) (a.t.t.a)
theorem ok__law_part (T : Tx K mg) : Fn P w K mg base 2 "_law_part" ["_law_script", "_law_k", "_law_room_here"] m__law_part := by
  obtain ⟨fd, F⟩ := T.d__law_part
  refine ⟨⟨fd, fn_ok (qual := "_law_part") (x := "_law_part") F sc__law_part (fun G vs a i => ?_) (fun cdv A outer s Q E W0 a vs hr i => ?_), FunD.bindsN F fun _ _ _ _ _ _ us hl => match us, hl with | [_, _, _], _ => rfl⟩, F.kp, T.g__law_part⟩
  · obtain ⟨v_0, _, rfl, h_0, ⟨v_1, _, rfl, h_1, ⟨v_2, _, rfl, h_2, rfl⟩⟩⟩ := i
    rfl
  · obtain ⟨law_script, ⟨law_k, ⟨law_room_here, ⟨⟩⟩⟩⟩ := a
    obtain ⟨v_0, _, rfl, h_0, ⟨v_1, _, rfl, h_1, ⟨v_2, _, rfl, h_2, rfl⟩⟩⟩ := i
    have l0 := Le.refl W0
    unfold m__law_part
    dsimp only
    unfold m__law_part'
    conv => arg 8; whnf
    refine s_asg 3 l0 (evr_mod (evr_callF (EE := fun _ => E) (ok__law_draw T) (hr.mono (by decide)) pass_fn (eva_cons (evr_v 0 h_0) (eva_cons (evr_add (evr_v 1 h_1) evr_int) (eva_cons evr_int eva_nil)))) (evr_add (evr_v 2 h_2) evr_int)) (fun x48 v47 W44 _ l45 h46 => ?_) sc__law_part.nd
    have h46 : Is K W44.G v47 (x48 : Int) := h46
    have h_0 := Rep.mono l45.g h_0
    have h_1 := Rep.mono l45.g h_1
    have h_2 := Rep.mono l45.g h_2
    have l0 := l0.trans l45
    exact s_ret (k := fun d => d) l0 (evr_ix (evl_r (evr_lst (evls_cons evr_int (evls_cons (evr_v 2 h_2) (evls_cons (evr_div (evr_v 2 h_2) evr_int) (evls_cons (evr_v 3 h46) (evls_cons (evr_mod (evr_callF (EE := fun _ => E) (ok__law_great T) (hr.mono (by decide)) pass_fn (eva_cons (evr_v 0 h_0) (eva_cons (evr_add (evr_v 1 h_1) evr_int) eva_nil))) (evr_add (evr_v 2 h_2) evr_int)) (evls_cons (evr_v 3 h46) (evls_nil (α := Int)))))))))) (evr_callF (EE := fun _ => E) (ok__law_draw T) (hr.mono (by decide)) pass_fn (eva_cons (evr_v 0 h_0) (eva_cons (evr_v 1 h_1) (eva_cons evr_int eva_nil))))) (fun _ h => h)
/-! _law_need -/
abbrev N__law_need : List Str := ["_law_script", "_law_k", "_law_rooms", "_law_need_here", "_law_turn", "_law_j", "_law_tray"]
theorem sc__law_need : FnScope N__law_need ["_law_script", "_law_k", "_law_rooms"] (defScope s__law_need) := ⟨rfl, rfl, rfl, by decide +kernel, rfl, by decide +kernel, by decide +kernel⟩
def m__law_need' (law_script : Scr) (law_k : Int) (law_rooms : (List Int)) : Rs (List (Int × Int)) :=
(Rs.ok ([] : List (Int × Int))).bind fun (x71 : (List (Int × Int))) =>
(m__law_draw (Ar.mk law_script (Ar.mk law_k (Ar.mk (law_rooms.length : Int) ())))).bind fun (x83 : Int) =>
(Rs.ok (law_rooms.length : Int)).bind fun xs121 => bndR xs121 ((foldR (fun (s84 : (List (Int × Int))) (d85 : Int) => (modR (x83 + d85) (law_rooms.length : Int)).bind fun (x97 : Int) =>
((m__law_draw (Ar.mk law_script (Ar.mk ((law_k + (1 : Int)) + d85) (Ar.mk (3 : Int) ())))).bind fun t100 => (Rs.ok (decide ((0 : Int) < t100)))).bind fun c115 => if c115 = true then (((((((mulR (7 : Int) d85).bind fun t101 => (Rs.ok ((law_k + (5 : Int)) + t101))).bind fun t103 => (((idx law_rooms x97).bind fun t102 => (Rs.ok (Ar.mk t102 ()))).bind fun t104 => (Rs.ok (Ar.mk t103 t104)))).bind fun t105 => (Rs.ok (Ar.mk law_script t105))).bind fun t106 => (m__law_part t106)).bind fun t107 => (Rs.ok (x97, t107))).bind fun d => (appR s84 d).bind fun (x108 : (List (Int × Int))) =>
.ok x108) else (.ok s84)) x71 (rng 0 xs121)).bind fun (s117 : (List (Int × Int))) =>
.ok s117)
@[irreducible] def m__law_need (a : (Ar Scr (Ar Int (Ar (List Int) Unit)))) : Rs (List (Int × Int)) := m__law_need' (a.a) (a.t.a) (a.t.t.a)
theorem ok__law_need (T : Tx K mg) : Fn P w K mg base 3 "_law_need" ["_law_script", "_law_k", "_law_rooms"] m__law_need := by
  obtain ⟨fd, F⟩ := T.d__law_need
  refine ⟨⟨fd, fn_ok (qual := "_law_need") (x := "_law_need") F sc__law_need (fun G vs a i => ?_) (fun cdv A outer s Q E W0 a vs hr i => ?_), FunD.bindsN F fun _ _ _ _ _ _ us hl => match us, hl with | [_, _, _], _ => rfl⟩, F.kp, T.g__law_need⟩
  · obtain ⟨v_0, _, rfl, h_0, ⟨v_1, _, rfl, h_1, ⟨v_2, _, rfl, h_2, rfl⟩⟩⟩ := i
    rfl
  · obtain ⟨law_script, ⟨law_k, ⟨law_rooms, ⟨⟩⟩⟩⟩ := a
    obtain ⟨v_0, _, rfl, h_0, ⟨v_1, _, rfl, h_1, ⟨v_2, _, rfl, h_2, rfl⟩⟩⟩ := i
    have l0 := Le.refl W0
    unfold m__law_need
    dsimp only
    unfold m__law_need'
    conv => arg 8; whnf
    refine s_asgO 3 l0 (evls_nil (α := (Int × Int))) (fun x71 vs72 q73 W74 _ l75 hn76 o77 l0 i78 => ?_) sc__law_need.nd
    have h_0 := Rep.mono l75.g h_0
    have h_1 := Rep.mono l75.g h_1
    have h_2 := Rep.mono l75.g h_2
    have i78 : AllIs K W74.G vs72 (x71 : (List (Int × Int))) := i78
    refine s_asg 4 l0 (evr_callF (EE := fun _ => E) (ok__law_draw T) (hr.mono (by decide)) pass_fn (eva_cons (evr_v 0 h_0) (eva_cons (evr_v 1 h_1) (eva_cons (evr_len (evl_r (evr_v 2 h_2)) T.z_len) eva_nil)))) (fun x83 v82 W79 _ l80 h81 => ?_) sc__law_need.nd
    have h81 : Is K W79.G v82 (x83 : Int) := h81
    have h_0 := Rep.mono l80.g h_0
    have h_1 := Rep.mono l80.g h_1
    have h_2 := Rep.mono l80.g h_2
    have o77 := o77.mono l80
    have i78 := AllIs.mono l80.g i78
    have l0 := l0.trans l80
    refine s_forGf (tg_name 5) (fun (s : (List (Int × Int))) (σ : L2.St) (W : Wd) => ∃ (q_3 : Addr) (w_3 : List V) (z_5 : Option V) (z_6 : Option V), σ = [some v_0, some v_1, some v_2, some (.ref q_3), some v82, z_5, z_6] ∧ Own W0 W q_3 (.lst w_3) ∧ AllIs K W.G w_3 (s : (List (Int × Int)))) (ps_for PassesOwn.leaving rfl (pi_range1 rfl T.z_range (pa_cons pe_sem pa_nil)) (pg_name (i := 5) sc__law_need.nd rfl (Or.inl rfl)) pss_sem) l0 (evr_len (evl_r (evr_v 2 h_2)) T.z_len) (fun s σ1 W1 W2 ⟨qm_3, wm_3, zm_5, zm_6, em, om_3, im_3⟩ lm => ⟨qm_3, wm_3, zm_5, zm_6, em, om_3.mono lm, AllIs.mono lm.g im_3⟩) ⟨_, _, _, _, rfl, o77, i78⟩ (fun s84 σ1 W87 d85 σ86 N89 B90 l0 sg88 jj rr => ?_) (fun s117 σ1 W120 l0 sg119 jj => ?_)
    · obtain ⟨q86_3, w86_3, z86_5, z86_6, rfl, o86_3, i86_3⟩ := jj
      obtain ⟨v91, h92, rfl⟩ := rr
      have gg := Same.refl W87.G
      have h92 : Is K W87.G v91 (d85 : Int) := h92
      have h_0 := Rep.mono sg88 h_0
      have h_1 := Rep.mono sg88 h_1
      have h_2 := Rep.mono sg88 h_2
      have h81 := Rep.mono sg88 h81
      refine s_asg 6 l0 (evr_mod (evr_add (evr_v 4 h81) (evr_v 5 h92)) (evr_len (evl_r (evr_v 2 h_2)) T.z_len)) (fun x97 v96 W93 _ l94 h95 => ?_) sc__law_need.nd
      have h95 : Is K W93.G v96 (x97 : Int) := h95
      have gg := gg.trans l94.g
      have h_0 := Rep.mono l94.g h_0
      have h_1 := Rep.mono l94.g h_1
      have h_2 := Rep.mono l94.g h_2
      have o86_3 := o86_3.mono l94
      have i86_3 := AllIs.mono l94.g i86_3
      have h81 := Rep.mono l94.g h81
      have h92 := Rep.mono l94.g h92
      have l0 := l0.trans l94
      refine s_if l0 (evt_gt (evr_callF (EE := fun _ => E) (ok__law_draw T) (hr.mono (by decide)) pass_fn (eva_cons (evr_v 0 h_0) (eva_cons (evr_add (evr_add (evr_v 1 h_1) evr_int) (evr_v 5 h92)) (eva_cons evr_int eva_nil)))) evr_int) (fun W98 e116 l99 => ?_) (fun W98 e116 l99 => ?_)
      · have gg := gg.trans l99.g
        have h_0 := Rep.mono l99.g h_0
        have h_1 := Rep.mono l99.g h_1
        have h_2 := Rep.mono l99.g h_2
        have o86_3 := o86_3.mono l99
        have i86_3 := AllIs.mono l99.g i86_3
        have h81 := Rep.mono l99.g h81
        have h92 := Rep.mono l99.g h92
        have h95 := Rep.mono l99.g h95
        have l0 := l0.trans l99
        refine s_ap 3 (pe_bm PySem.F.plainAttrs_list PySem.F.slot_list_append PySem.F.type_list_append mt_append (pv 3) (pa_cons pe_sem pa_nil)) l0 o86_3 i86_3 (evr_tup2 (evr_v 6 h95) (evr_callF (EE := fun _ => E) (ok__law_part T) (hr.mono (by decide)) pass_fn (eva_cons (evr_v 0 h_0) (eva_cons (evr_add (evr_add (evr_v 1 h_1) evr_int) (evr_mul evr_int (evr_v 5 h92))) (eva_cons (evr_ix (evl_r (evr_v 2 h_2)) (evr_v 6 h95)) eva_nil))))) (fun x108 ws109 W110 sg111 oth112 o113 l0 i114 => ?_)
        have gg := gg.trans sg111
        have h_0 := Rep.mono sg111 h_0
        have h_1 := Rep.mono sg111 h_1
        have h_2 := Rep.mono sg111 h_2
        have h81 := Rep.mono sg111 h81
        have h92 := Rep.mono sg111 h92
        have h95 := Rep.mono sg111 h95
        have i114 : AllIs K W110.G ws109 (x108 : (List (Int × Int))) := i114
        refine s_end ?_
        exact s_nn l0 gg ⟨_, _, _, _, rfl, o113, i114⟩
      · have gg := gg.trans l99.g
        have h_0 := Rep.mono l99.g h_0
        have h_1 := Rep.mono l99.g h_1
        have h_2 := Rep.mono l99.g h_2
        have o86_3 := o86_3.mono l99
        have i86_3 := AllIs.mono l99.g i86_3
        have h81 := Rep.mono l99.g h81
        have h92 := Rep.mono l99.g h92
        have h95 := Rep.mono l99.g h95
        have l0 := l0.trans l99
        refine s_end ?_
        exact s_nn l0 gg ⟨_, _, _, _, rfl, o86_3, i86_3⟩
    · obtain ⟨q118_3, w118_3, z118_5, z118_6, rfl, o118_3, i118_3⟩ := jj
      have h_0 := Rep.mono sg119 h_0
      have h_1 := Rep.mono sg119 h_1
      have h_2 := Rep.mono sg119 h_2
      have h81 := Rep.mono sg119 h81
      exact s_retO (k := fun d => d) 3 l0 o118_3 i118_3 (fun _ h => h)
/-! _law_needs -/
abbrev N__law_needs : List Str := ["_law_script", "_law_rooms", "_law_many", "_law_i"]
theorem sc__law_needs : FnScope N__law_needs ["_law_script", "_law_rooms"] (defScope s__law_needs) := ⟨rfl, rfl, rfl, by decide +kernel, rfl, by decide +kernel, by decide +kernel⟩
def m__law_needs' (law_script : Scr) (law_rooms : (List Int)) : Rs (List (List (Int × Int))) :=
((m__law_draw (Ar.mk law_script (Ar.mk (1 : Int) (Ar.mk (21 : Int) ())))).bind fun t127 => (Rs.ok ((1 : Int) + t127))).bind fun (x126 : Int) =>
(((m__law_draw (Ar.mk law_script (Ar.mk (2 : Int) (Ar.mk (8 : Int) ())))).bind fun t130 => (Rs.ok (decide (t130 = (1 : Int))))).bind fun c137 => if c137 = true then (((m__law_draw (Ar.mk law_script (Ar.mk (3 : Int) (Ar.mk (40 : Int) ())))).bind fun t136 => (Rs.ok ((22 : Int) + t136))).bind fun (x135 : Int) =>
.ok x135) else (.ok x126) : Rs Int).bind fun (s139 : Int) =>
(bndR s139 (mapR (fun (d147 : Int) => (((((mulR (40 : Int) d147).bind fun t148 => (Rs.ok ((100 : Int) + t148))).bind fun t149 => (Rs.ok (Ar.mk t149 (Ar.mk law_rooms ())))).bind fun t150 => (Rs.ok (Ar.mk law_script t150))).bind fun t151 => (m__law_need t151))) (rng 0 s139))).bind fun d => .ok d
@[irreducible] def m__law_needs (a : (Ar Scr (Ar (List Int) Unit))) : Rs (List (List (Int × Int))) := m__law_needs' (a.a) (a.t.a)
theorem ok__law_needs (T : Tx K mg) : Fn P w K mg base 4 "_law_needs" ["_law_script", "_law_rooms"] m__law_needs := by
  obtain ⟨fd, F⟩ := T.d__law_needs
  refine ⟨⟨fd, fn_ok (qual := "_law_needs") (x := "_law_needs") F sc__law_needs (fun G vs a i => ?_) (fun cdv A outer s Q E W0 a vs hr i => ?_), FunD.bindsN F fun _ _ _ _ _ _ us hl => match us, hl with | [_, _], _ => rfl⟩, F.kp, T.g__law_needs⟩
  · obtain ⟨v_0, _, rfl, h_0, ⟨v_1, _, rfl, h_1, rfl⟩⟩ := i
    rfl
  · obtain ⟨law_script, ⟨law_rooms, ⟨⟩⟩⟩ := a
    obtain ⟨v_0, _, rfl, h_0, ⟨v_1, _, rfl, h_1, rfl⟩⟩ := i
    have l0 := Le.refl W0
    unfold m__law_needs
    dsimp only
    unfold m__law_needs'
    conv => arg 8; whnf
    refine s_asg 2 l0 (evr_add evr_int (evr_callF (EE := fun _ => E) (ok__law_draw T) (hr.mono (by decide)) pass_fn (eva_cons (evr_v 0 h_0) (eva_cons evr_int (eva_cons evr_int eva_nil))))) (fun x126 v125 W122 _ l123 h124 => ?_) sc__law_needs.nd
    have h124 : Is K W122.G v125 (x126 : Int) := h124
    have h_0 := Rep.mono l123.g h_0
    have h_1 := Rep.mono l123.g h_1
    have l0 := l0.trans l123
    refine s_cut (fun (s : Int) (σ : L2.St) (W : Wd) => ∃ (a_2 : V) (z_3 : Option V), σ = [some v_0, some v_1, some a_2, z_3] ∧ Is K W.G a_2 (s : Int)) (s_if1 l0 (evt_eq (evr_callF (EE := fun _ => E) (ok__law_draw T) (hr.mono (by decide)) pass_fn (eva_cons (evr_v 0 h_0) (eva_cons evr_int (eva_cons evr_int eva_nil)))) evr_int) (fun W128 e138 l129 => ?_) (fun W128 e138 l129 => ?_)) (fun s139 σ1 W142 _ l0 g152 jj => ?_)
    · have gg := Same.refl W122.G
      have gg := gg.trans l129.g
      have h_0 := Rep.mono l129.g h_0
      have h_1 := Rep.mono l129.g h_1
      have h124 := Rep.mono l129.g h124
      have l0 := l0.trans l129
      refine s_asg 2 l0 (evr_add evr_int (evr_callF (EE := fun _ => E) (ok__law_draw T) (hr.mono (by decide)) pass_fn (eva_cons (evr_v 0 h_0) (eva_cons evr_int (eva_cons evr_int eva_nil))))) (fun x135 v134 W131 _ l132 h133 => ?_) sc__law_needs.nd
      have h133 : Is K W131.G v134 (x135 : Int) := h133
      have gg := gg.trans l132.g
      have h_0 := Rep.mono l132.g h_0
      have h_1 := Rep.mono l132.g h_1
      have h124 := Rep.mono l132.g h124
      have l0 := l0.trans l132
      exact s_nil (fun h => h _ _ l0 gg ⟨_, _, rfl, h133⟩)
    · have gg := Same.refl W122.G
      have gg := gg.trans l129.g
      have h_0 := Rep.mono l129.g h_0
      have h_1 := Rep.mono l129.g h_1
      have h124 := Rep.mono l129.g h124
      have l0 := l0.trans l129
      exact s_nil (fun h => h _ _ l0 gg ⟨_, _, rfl, h124⟩)
    · obtain ⟨a141_2, z141_3, rfl, h141_2⟩ := jj
      have h_0 := Rep.mono g152 h_0
      have h_1 := Rep.mono g152 h_1
      exact s_ret (k := fun d => d) l0 (evr_lcG (nm := "_law_i") (j := 3) (f := (fun (d147 : Int) => (((((mulR (40 : Int) d147).bind fun t148 => (Rs.ok ((100 : Int) + t148))).bind fun t149 => (Rs.ok (Ar.mk t149 (Ar.mk law_rooms ())))).bind fun t150 => (Rs.ok (Ar.mk law_script t150))).bind fun t151 => (m__law_need t151)))) rfl sc__law_needs.nd (blkOk_by (own := [("_law_i", 3)]) (N := N__law_needs) (sc := defScope s__law_needs) (by decide +kernel)) T.z_range (evr_v 2 h141_2) (fun _ _ _ _ _ => pg_name (i := 3) sc__law_needs.nd rfl (Or.inl rfl)) (fun W143 d147 l144 _ _ _ _ _ => (evr_callF (EE := fun _ => E0) (ok__law_need T) (hr.mono (by decide)) passN0 (eva_cons (evr_v 0 (Rep.mono l144.g h_0)) (eva_cons (evr_add evr_int (evr_mul evr_int (evr_v 3 (show Is K W143.G (.int d147) d147 from rfl)))) (eva_cons (evr_v 1 (Rep.mono l144.g h_1)) eva_nil)))))) (fun _ h => h)
/-! _law_spoilt -/
abbrev N__law_spoilt : List Str := ["_law_script", "_law_rooms", "_law_wants", "_law_bad", "_law_k", "_law_place", "_law_tray", "_law_more", "_law_others_here", "_law_at", "_law_need_here", "_law_one"]
theorem sc__law_spoilt : FnScope N__law_spoilt ["_law_script", "_law_rooms", "_law_wants"] (defScope s__law_spoilt) := ⟨rfl, rfl, rfl, by decide +kernel, rfl, by decide +kernel, by decide +kernel⟩
def m__law_spoilt' (law_script : Scr) (law_rooms : (List Int)) (law_wants : (List (List (Int × Int)))) : Rs (List (List (Int × Int))) :=
(mapR (fun (d170 : (List (Int × Int))) => (Rs.ok d170)) law_wants).bind fun (x158 : (List (List (Int × Int)))) =>
((m__law_draw (Ar.mk law_script (Ar.mk (5 : Int) (Ar.mk (3 : Int) ())))).bind fun t171 => (Rs.ok ((1 : Int) + t171))).bind fun xs259 => bndR xs259 ((foldR (fun (s172 : (List (List (Int × Int)))) (d173 : Int) => (((((mulR (5 : Int) d173).bind fun t186 => (Rs.ok ((60 : Int) + t186))).bind fun t187 => (Rs.ok (Ar.mk t187 (Ar.mk (law_wants.length : Int) ())))).bind fun t188 => (Rs.ok (Ar.mk law_script t188))).bind fun t189 => (m__law_draw t189)).bind fun (x185 : Int) =>
(((((mulR (5 : Int) d173).bind fun t195 => (Rs.ok ((61 : Int) + t195))).bind fun t196 => (Rs.ok (Ar.mk t196 (Ar.mk (law_rooms.length : Int) ())))).bind fun t197 => (Rs.ok (Ar.mk law_script t197))).bind fun t198 => (m__law_draw t198)).bind fun (x194 : Int) =>
(((((((((mulR (5 : Int) d173).bind fun t210 => (Rs.ok ((62 : Int) + t210))).bind fun t211 => (Rs.ok (Ar.mk t211 ()))).bind fun t212 => (Rs.ok (Ar.mk law_script t212))).bind fun t213 => (m__law_great t213)).bind fun t214 => (Rs.ok (t214 :: ([] : List Int)))).bind fun t215 => (Rs.ok ((0 : Int) :: t215))).bind fun t220 => ((((((mulR (5 : Int) d173).bind fun t216 => (Rs.ok ((63 : Int) + t216))).bind fun t217 => (Rs.ok (Ar.mk t217 (Ar.mk (2 : Int) ())))).bind fun t218 => (Rs.ok (Ar.mk law_script t218))).bind fun t219 => (m__law_draw t219)).bind fun t221 => (idx t220 t221))).bind fun t222 => (Rs.ok ((1 : Int) + t222))).bind fun (x203 : Int) =>
((idx s172 x185).bind fun t233 => (lcR (fun (d232 : (Int × Int)) => (Rs.ok (!decide (d232.1 = x194)))) (fun (d232 : (Int × Int)) => (Rs.ok d232)) t233)).bind fun (x227 : (List (Int × Int))) =>
(((((mulR (5 : Int) d173).bind fun t239 => (Rs.ok ((64 : Int) + t239))).bind fun t240 => (Rs.ok (Ar.mk t240 (Ar.mk ((x227.length : Int) + (1 : Int)) ())))).bind fun t241 => (Rs.ok (Ar.mk law_script t241))).bind fun t242 => (m__law_draw t242)).bind fun (x238 : Int) =>
((((((idx law_rooms x194).bind fun t243 => (Rs.ok (t243 + x203))).bind fun t244 => (Rs.ok (x194, t244))).bind fun t245 => (Rs.ok (t245 :: ([] : List (Int × Int))))).bind fun t246 => (catR (cut x227 none (some x238)) t246)).bind fun t247 => (catR t247 (cut x227 (some x238) none))).bind fun d => (Rs.ok x185).bind fun j => (setR s172 j d).bind fun (x248 : (List (List (Int × Int)))) =>
.ok x248) x158 (rng 0 xs259)).bind fun (s255 : (List (List (Int × Int)))) =>
.ok s255)
@[irreducible] def m__law_spoilt (a : (Ar Scr (Ar (List Int) (Ar (List (List (Int × Int))) Unit)))) : Rs (List (List (Int × Int))) := m__law_spoilt' (a.a) (a.t.a) (a.t.t.a)
theorem ok__law_spoilt (T : Tx K mg) : Fn P w K mg base 2 "_law_spoilt" ["_law_script", "_law_rooms", "_law_wants"] m__law_spoilt := by
  obtain ⟨fd, F⟩ := T.d__law_spoilt
  refine ⟨⟨fd, fn_ok (qual := "_law_spoilt") (x := "_law_spoilt") F sc__law_spoilt (fun G vs a i => ?_) (fun cdv A outer s Q E W0 a vs hr i => ?_), FunD.bindsN F fun _ _ _ _ _ _ us hl => match us, hl with | [_, _, _], _ => rfl⟩, F.kp, T.g__law_spoilt⟩
  · obtain ⟨v_0, _, rfl, h_0, ⟨v_1, _, rfl, h_1, ⟨v_2, _, rfl, h_2, rfl⟩⟩⟩ := i
    rfl
  · obtain ⟨law_script, ⟨law_rooms, ⟨law_wants, ⟨⟩⟩⟩⟩ := a
    obtain ⟨v_0, _, rfl, h_0, ⟨v_1, _, rfl, h_1, ⟨v_2, _, rfl, h_2, rfl⟩⟩⟩ := i
    have l0 := Le.refl W0
    unfold m__law_spoilt
    dsimp only
    unfold m__law_spoilt'
    conv => arg 8; whnf
    refine s_asgLcO 3 (ps_setLc (i := 3) (own := [("_law_need_here", 10)]) (g := gName 10) rfl sc__law_spoilt.nd rfl rfl (sw_true rfl rfl rfl (by decide +kernel)) (pi_list pe_sem) (blkOk_by (own := [("_law_need_here", 10)]) (N := N__law_spoilt) (sc := defScope s__law_spoilt) (by decide +kernel)) (fun _ _ _ _ _ => pg_name (i := 10) sc__law_spoilt.nd rfl (Or.inl rfl)) (fun _ _ _ _ _ => pts_nil) (fun s H0 C cl fp => pe_blk s H0 C cl fp)) l0 ?rf (fun x158 vs159 q160 W161 _ l162 hn163 o164 l0 i165 => ?_)
    case rf => exact (rf_lc (f := (fun (d170 : (List (Int × Int))) => (Rs.ok d170))) (evl_r (evr_v 2 h_2)) (fun W166 v169 (d170 : (List (Int × Int))) l167 (i168 : Is K W166.G v169 d170) _ _ _ _ _ => (evr_list (evl_r (evr_v 10 i168)) T.z_list)))
    have h_0 := Rep.mono l162.g h_0
    have h_1 := Rep.mono l162.g h_1
    have h_2 := Rep.mono l162.g h_2
    have i165 : AllIs K W161.G vs159 (x158 : (List (List (Int × Int)))) := i165
    refine s_forGf (tg_name 4) (fun (s : (List (List (Int × Int)))) (σ : L2.St) (W : Wd) => ∃ (q_3 : Addr) (w_3 : List V) (z_4 : Option V) (z_5 : Option V) (z_6 : Option V) (z_7 : Option V) (z_8 : Option V) (z_9 : Option V) (z_10 : Option V) (z_11 : Option V), σ = [some v_0, some v_1, some v_2, some (.ref q_3), z_4, z_5, z_6, z_7, z_8, z_9, z_10, z_11] ∧ Own W0 W q_3 (.lst w_3) ∧ AllIs K W.G w_3 (s : (List (List (Int × Int))))) (ps_for PassesOwn.leaving rfl (pi_range1 rfl T.z_range (pa_cons pe_sem pa_nil)) (pg_name (i := 4) sc__law_spoilt.nd rfl (Or.inl rfl)) pss_sem) l0 (evr_add evr_int (evr_callF (EE := fun _ => E) (ok__law_draw T) (hr.mono (by decide)) pass_fn (eva_cons (evr_v 0 h_0) (eva_cons evr_int (eva_cons evr_int eva_nil))))) (fun s σ1 W1 W2 ⟨qm_3, wm_3, zm_4, zm_5, zm_6, zm_7, zm_8, zm_9, zm_10, zm_11, em, om_3, im_3⟩ lm => ⟨qm_3, wm_3, zm_4, zm_5, zm_6, zm_7, zm_8, zm_9, zm_10, zm_11, em, om_3.mono lm, AllIs.mono lm.g im_3⟩) ⟨_, _, _, _, _, _, _, _, _, _, rfl, o164, i165⟩ (fun s172 σ1 W175 d173 σ174 N177 B178 l0 sg176 jj rr => ?_) (fun s255 σ1 W258 l0 sg257 jj => ?_)
    · obtain ⟨q174_3, w174_3, z174_4, z174_5, z174_6, z174_7, z174_8, z174_9, z174_10, z174_11, rfl, o174_3, i174_3⟩ := jj
      obtain ⟨v179, h180, rfl⟩ := rr
      have gg := Same.refl W175.G
      have h180 : Is K W175.G v179 (d173 : Int) := h180
      have h_0 := Rep.mono sg176 h_0
      have h_1 := Rep.mono sg176 h_1
      have h_2 := Rep.mono sg176 h_2
      refine s_asg 5 l0 (evr_callF (EE := fun _ => E) (ok__law_draw T) (hr.mono (by decide)) pass_fn (eva_cons (evr_v 0 h_0) (eva_cons (evr_add evr_int (evr_mul evr_int (evr_v 4 h180))) (eva_cons (evr_len (evl_r (evr_v 2 h_2)) T.z_len) eva_nil)))) (fun x185 v184 W181 _ l182 h183 => ?_) sc__law_spoilt.nd
      have h183 : Is K W181.G v184 (x185 : Int) := h183
      have gg := gg.trans l182.g
      have h_0 := Rep.mono l182.g h_0
      have h_1 := Rep.mono l182.g h_1
      have h_2 := Rep.mono l182.g h_2
      have o174_3 := o174_3.mono l182
      have i174_3 := AllIs.mono l182.g i174_3
      have h180 := Rep.mono l182.g h180
      have l0 := l0.trans l182
      refine s_asg 6 l0 (evr_callF (EE := fun _ => E) (ok__law_draw T) (hr.mono (by decide)) pass_fn (eva_cons (evr_v 0 h_0) (eva_cons (evr_add evr_int (evr_mul evr_int (evr_v 4 h180))) (eva_cons (evr_len (evl_r (evr_v 1 h_1)) T.z_len) eva_nil)))) (fun x194 v193 W190 _ l191 h192 => ?_) sc__law_spoilt.nd
      have h192 : Is K W190.G v193 (x194 : Int) := h192
      have gg := gg.trans l191.g
      have h_0 := Rep.mono l191.g h_0
      have h_1 := Rep.mono l191.g h_1
      have h_2 := Rep.mono l191.g h_2
      have o174_3 := o174_3.mono l191
      have i174_3 := AllIs.mono l191.g i174_3
      have h180 := Rep.mono l191.g h180
      have h183 := Rep.mono l191.g h183
      have l0 := l0.trans l191
      refine s_asg 7 l0 (evr_add evr_int (evr_ix (evl_r (evr_lst (evls_cons evr_int (evls_cons (evr_callF (EE := fun _ => E) (ok__law_great T) (hr.mono (by decide)) pass_fn (eva_cons (evr_v 0 h_0) (eva_cons (evr_add evr_int (evr_mul evr_int (evr_v 4 h180))) eva_nil))) (evls_nil (α := Int)))))) (evr_callF (EE := fun _ => E) (ok__law_draw T) (hr.mono (by decide)) pass_fn (eva_cons (evr_v 0 h_0) (eva_cons (evr_add evr_int (evr_mul evr_int (evr_v 4 h180))) (eva_cons evr_int eva_nil)))))) (fun x203 v202 W199 _ l200 h201 => ?_) sc__law_spoilt.nd
      have h201 : Is K W199.G v202 (x203 : Int) := h201
      have gg := gg.trans l200.g
      have h_0 := Rep.mono l200.g h_0
      have h_1 := Rep.mono l200.g h_1
      have h_2 := Rep.mono l200.g h_2
      have o174_3 := o174_3.mono l200
      have i174_3 := AllIs.mono l200.g i174_3
      have h180 := Rep.mono l200.g h180
      have h183 := Rep.mono l200.g h183
      have h192 := Rep.mono l200.g h192
      have l0 := l0.trans l200
      refine s_asgLc 8 (ps_setLc (i := 8) (own := [("_law_one", 11)]) (g := gName 11) rfl sc__law_spoilt.nd rfl rfl (sw_true rfl rfl rfl (by decide +kernel)) (pi_list pe_sem) (blkOk_by (own := [("_law_one", 11)]) (N := N__law_spoilt) (sc := defScope s__law_spoilt) (by decide +kernel)) (fun _ _ _ _ _ => pg_name (i := 11) sc__law_spoilt.nd rfl (Or.inl rfl)) (fun s H0 C cl fp => pts_one (pt_blk s H0 C cl fp)) (fun s H0 C cl fp => pe_blk s H0 C cl fp)) l0 ?rf (fun x227 v226 W223 _ l224 h225 => ?_)
      case rf => exact RfN.rf (rf_lcT (t := (fun (d232 : (Int × Int)) => (Rs.ok (!decide (d232.1 = x194))))) (f := (fun (d232 : (Int × Int)) => (Rs.ok d232))) (evl_r (evr_ix (evl_own 3 o174_3 i174_3) (evr_v 5 h183))) (fun W228 v231 (d232 : (Int × Int)) l229 (i230 : Is K W228.G v231 d232) _ _ _ _ _ => (evt_ne (evr_fst (evr_v 11 i230)) (evr_v 6 (Rep.mono l229.g h192)))) (fun W228 v231 (d232 : (Int × Int)) l229 (i230 : Is K W228.G v231 d232) _ _ _ _ _ => (evr_v 11 i230)))
      have h225 : Is K W223.G v226 (x227 : (List (Int × Int))) := h225
      have gg := gg.trans l224.g
      have h_0 := Rep.mono l224.g h_0
      have h_1 := Rep.mono l224.g h_1
      have h_2 := Rep.mono l224.g h_2
      have o174_3 := o174_3.mono l224
      have i174_3 := AllIs.mono l224.g i174_3
      have h180 := Rep.mono l224.g h180
      have h183 := Rep.mono l224.g h183
      have h192 := Rep.mono l224.g h192
      have h201 := Rep.mono l224.g h201
      have l0 := l0.trans l224
      refine s_asg 9 l0 (evr_callF (EE := fun _ => E) (ok__law_draw T) (hr.mono (by decide)) pass_fn (eva_cons (evr_v 0 h_0) (eva_cons (evr_add evr_int (evr_mul evr_int (evr_v 4 h180))) (eva_cons (evr_add (evr_len (evl_r (evr_v 8 h225)) T.z_len) evr_int) eva_nil)))) (fun x238 v237 W234 _ l235 h236 => ?_) sc__law_spoilt.nd
      have h236 : Is K W234.G v237 (x238 : Int) := h236
      have gg := gg.trans l235.g
      have h_0 := Rep.mono l235.g h_0
      have h_1 := Rep.mono l235.g h_1
      have h_2 := Rep.mono l235.g h_2
      have o174_3 := o174_3.mono l235
      have i174_3 := AllIs.mono l235.g i174_3
      have h180 := Rep.mono l235.g h180
      have h183 := Rep.mono l235.g h183
      have h192 := Rep.mono l235.g h192
      have h201 := Rep.mono l235.g h201
      have h225 := Rep.mono l235.g h225
      have l0 := l0.trans l235
      refine s_st 3 (ps_asg pe_sem (pg_sub (pv 3) pe_sem set_list)) l0 o174_3 i174_3 (evr_cat (evr_cat (evr_slHi (evl_r (evr_v 8 h225)) (evr_v 9 h236)) (evr_lst (evls_cons (evr_tup2 (evr_v 6 h192) (evr_add (evr_ix (evl_r (evr_v 1 h_1)) (evr_v 6 h192)) (evr_v 7 h201))) (evls_nil (α := (Int × Int)))))) (evr_slLo (evl_r (evr_v 8 h225)) (evr_v 9 h236))) (evr_v 5 h183) (fun x248 ws249 W250 sg251 oth252 o253 l0 i254 => ?_)
      have gg := gg.trans sg251
      have h_0 := Rep.mono sg251 h_0
      have h_1 := Rep.mono sg251 h_1
      have h_2 := Rep.mono sg251 h_2
      have h180 := Rep.mono sg251 h180
      have h183 := Rep.mono sg251 h183
      have h192 := Rep.mono sg251 h192
      have h201 := Rep.mono sg251 h201
      have h225 := Rep.mono sg251 h225
      have h236 := Rep.mono sg251 h236
      have i254 : AllIs K W250.G ws249 (x248 : (List (List (Int × Int)))) := i254
      exact s_nn l0 gg ⟨_, _, _, _, _, _, _, _, _, _, rfl, o253, i254⟩
    · obtain ⟨q256_3, w256_3, z256_4, z256_5, z256_6, z256_7, z256_8, z256_9, z256_10, z256_11, rfl, o256_3, i256_3⟩ := jj
      have h_0 := Rep.mono sg257 h_0
      have h_1 := Rep.mono sg257 h_1
      have h_2 := Rep.mono sg257 h_2
      exact s_retO (k := fun d => d) 3 l0 o256_3 i256_3 (fun _ h => h)
/-! _law_first_bad -/
abbrev N__law_first_bad : List Str := ["_law_rooms", "_law_wants", "_law_place", "_law_tray", "_law_many"]
theorem sc__law_first_bad : FnScope N__law_first_bad ["_law_rooms", "_law_wants"] (defScope s__law_first_bad) := ⟨rfl, rfl, rfl, by decide +kernel, rfl, by decide +kernel, by decide +kernel⟩
def m__law_first_bad' (law_rooms : (List Int)) (law_wants : (List (List (Int × Int)))) : Rs (Option Int) :=
(Rs.ok (law_wants.length : Int)).bind fun xs294 => bndR xs294 ((loopR (fun (s260 : Unit) (d261 : Int) => (idx law_wants d261).bind fun xs289 => (loopR (fun (s269 : Unit) (d270 : (Int × Int)) => ((idx law_rooms d270.1).bind fun t282 => (Rs.ok (decide (t282 < d270.2)))).bind fun c283 => if c283 = true then ((Rs.ok (some d261)).bind fun d => .ok (.rt d)) else (.ok (.nx ()))) () xs289).bind (fun fl => match fl with
  | .nx s285 => .ok (.nx ())
  | .rt r => .ok (.rt r)
  | _ => .no)) () (rng 0 xs294)).bind (fun fl => match fl with
  | .nx s290 => (Rs.ok (none : (Option Int))).bind fun d => .ok d
  | .rt r => .ok r
  | _ => .no))
@[irreducible] def m__law_first_bad (a : (Ar (List Int) (Ar (List (List (Int × Int))) Unit))) : Rs (Option Int) := m__law_first_bad' (a.a) (a.t.a)
theorem ok__law_first_bad (T : Tx K mg) : Fn P w K mg base 1 "_law_first_bad" ["_law_rooms", "_law_wants"] m__law_first_bad := by
  obtain ⟨fd, F⟩ := T.d__law_first_bad
  refine ⟨⟨fd, fn_ok (qual := "_law_first_bad") (x := "_law_first_bad") F sc__law_first_bad (fun G vs a i => ?_) (fun cdv A outer s Q E W0 a vs hr i => ?_), FunD.bindsN F fun _ _ _ _ _ _ us hl => match us, hl with | [_, _], _ => rfl⟩, F.kp, T.g__law_first_bad⟩
  · obtain ⟨v_0, _, rfl, h_0, ⟨v_1, _, rfl, h_1, rfl⟩⟩ := i
    rfl
  · obtain ⟨law_rooms, ⟨law_wants, ⟨⟩⟩⟩ := a
    obtain ⟨v_0, _, rfl, h_0, ⟨v_1, _, rfl, h_1, rfl⟩⟩ := i
    have l0 := Le.refl W0
    unfold m__law_first_bad
    dsimp only
    unfold m__law_first_bad'
    conv => arg 8; whnf
    refine s_forG (tg_name 2) (fun (s : Unit) (σ : L2.St) (W : Wd) => ∃ (z_2 : Option V) (z_3 : Option V) (z_4 : Option V), σ = [some v_0, some v_1, z_2, z_3, z_4]) (ps_for PassesOwn.leaving rfl (pi_range1 rfl T.z_range (pa_cons pe_sem pa_nil)) (pg_name (i := 2) sc__law_first_bad.nd rfl (Or.inl rfl)) pss_sem) l0 (evr_len (evl_r (evr_v 1 h_1)) T.z_len) (fun s σ1 W1 W2 ⟨zm_2, zm_3, zm_4, em⟩ lm => ⟨zm_2, zm_3, zm_4, em⟩) ⟨_, _, _, rfl⟩ (fun _ h => h) (fun s260 σ1 W263 d261 σ262 N265 B266 l0 sg264 jj rr => ?_) (fun s290 σ1 W293 l0 sg292 jj => ?_)
    · obtain ⟨z262_2, z262_3, z262_4, rfl⟩ := jj
      obtain ⟨v267, h268, rfl⟩ := rr
      have gg := Same.refl W263.G
      have h268 : Is K W263.G v267 (d261 : Int) := h268
      have h_0 := Rep.mono sg264 h_0
      have h_1 := Rep.mono sg264 h_1
      refine s_forL (tg_pair 3 4) (fun (s : Unit) (σ : L2.St) (W : Wd) => ∃ (z_3 : Option V) (z_4 : Option V), σ = [some v_0, some v_1, some v267, z_3, z_4]) (ps_for PassesOwn.leaving rfl (pi_list pe_sem) (pg_tup rfl (pgs_cons (pg_name (i := 3) sc__law_first_bad.nd rfl (Or.inl rfl)) (pgs_cons (pg_name (i := 4) sc__law_first_bad.nd rfl (Or.inl rfl)) pgs_nil))) pss_sem) l0 (evr_ix (evl_r (evr_v 1 h_1)) (evr_v 2 h268)) (fun s σ1 W1 W2 ⟨zm_3, zm_4, em⟩ lm => ⟨zm_3, zm_4, em⟩) ⟨_, _, rfl⟩ (fun _ h => h) (fun s269 σ1 W272 d270 σ271 N274 B275 l0 sg273 jj rr => ?_) (fun s285 σ1 W288 l0 sg287 jj => ?_)
      · obtain ⟨z271_3, z271_4, rfl⟩ := jj
        obtain ⟨v276, v278, h277, h279, rfl⟩ := rr
        have gg := Same.refl W272.G
        have h277 : Is K W272.G v276 (d270.1 : Int) := h277
        have h279 : Is K W272.G v278 (d270.2 : Int) := h279
        have h_0 := Rep.mono sg273 h_0
        have h_1 := Rep.mono sg273 h_1
        have h268 := Rep.mono sg273 h268
        refine s_if l0 (evt_gt (evr_v 4 h279) (evr_ix (evl_r (evr_v 0 h_0)) (evr_v 3 h277))) (fun W280 e284 l281 => ?_) (fun W280 e284 l281 => ?_)
        · have gg := gg.trans l281.g
          have h_0 := Rep.mono l281.g h_0
          have h_1 := Rep.mono l281.g h_1
          have h268 := Rep.mono l281.g h268
          have h277 := Rep.mono l281.g h277
          have h279 := Rep.mono l281.g h279
          have l0 := l0.trans l281
          exact s_ret (k := Fl.rt) l0 (evr_some (evr_v 2 h268)) (fun _ h => h)
        · have gg := gg.trans l281.g
          have h_0 := Rep.mono l281.g h_0
          have h_1 := Rep.mono l281.g h_1
          have h268 := Rep.mono l281.g h268
          have h277 := Rep.mono l281.g h277
          have h279 := Rep.mono l281.g h279
          have l0 := l0.trans l281
          refine s_end ?_
          exact s_nx l0 gg ⟨_, _, rfl⟩
      · obtain ⟨z286_3, z286_4, rfl⟩ := jj
        have gg := gg.trans sg287
        have h_0 := Rep.mono sg287 h_0
        have h_1 := Rep.mono sg287 h_1
        have h268 := Rep.mono sg287 h268
        exact s_nx l0 gg ⟨_, _, _, rfl⟩
    · obtain ⟨z291_2, z291_3, z291_4, rfl⟩ := jj
      have h_0 := Rep.mono sg292 h_0
      have h_1 := Rep.mono sg292 h_1
      exact s_ret (k := fun d => d) l0 (evr_none (α := Int)) (fun _ h => h)
/-! _law_rising -/
abbrev N__law_rising : List Str := ["_law_ways", "_law_most", "_law_ahead", "_law_place"]
theorem sc__law_rising : FnScope N__law_rising ["_law_ways", "_law_most"] (defScope s__law_rising) := ⟨rfl, rfl, rfl, by decide +kernel, rfl, by decide +kernel, by decide +kernel⟩
def m__law_rising' (law_ways : (List Int)) (law_most : Int) : Rs Bool :=
(Rs.ok (!true)).bind fun c327 => if c327 = true then ((Rs.ok false).bind fun d => .ok d) else ((Rs.ok (-(1 : Int))).bind fun (x301 : Int) =>
(Rs.ok law_ways).bind fun xs326 => (loopR (fun (s302 : Int) (d303 : Int) => (((m__law_whole (Ar.mk d303 ())).bind fun t313 => (Rs.ok (!t313))).bind fun t314 => (if t314 = true then .ok true else (Rs.ok ((decide (d303 ≤ s302)) || (decide (law_most ≤ d303)))))).bind fun c320 => if c320 = true then ((Rs.ok false).bind fun d => .ok (.rt d)) else ((Rs.ok d303).bind fun (x319 : Int) =>
.ok (.nx x319))) x301 xs326).bind (fun fl => match fl with
  | .nx s322 => (Rs.ok true).bind fun d => .ok d
  | .rt r => .ok r
  | _ => .no))
@[irreducible] def m__law_rising (a : (Ar (List Int) (Ar Int Unit))) : Rs Bool := m__law_rising' (a.a) (a.t.a)
theorem ok__law_rising (T : Tx K mg) : Fn P w K mg base 2 "_law_rising" ["_law_ways", "_law_most"] m__law_rising := by
  obtain ⟨fd, F⟩ := T.d__law_rising
  refine ⟨⟨fd, fn_ok (qual := "_law_rising") (x := "_law_rising") F sc__law_rising (fun G vs a i => ?_) (fun cdv A outer s Q E W0 a vs hr i => ?_), FunD.bindsN F fun _ _ _ _ _ _ us hl => match us, hl with | [_, _], _ => rfl⟩, F.kp, T.g__law_rising⟩
  · obtain ⟨v_0, _, rfl, h_0, ⟨v_1, _, rfl, h_1, rfl⟩⟩ := i
    rfl
  · obtain ⟨law_ways, ⟨law_most, ⟨⟩⟩⟩ := a
    obtain ⟨v_0, _, rfl, h_0, ⟨v_1, _, rfl, h_1, rfl⟩⟩ := i
    have l0 := Le.refl W0
    unfold m__law_rising
    dsimp only
    unfold m__law_rising'
    conv => arg 8; whnf
    refine s_if l0 (evt_not (evt_val (evr_isi (g := fun _ => true) (evr_v 0 h_0) T.z_list PyProof.Rows.boot_list T.z_isinstance (fun _ => by show kitB "list" "list" = _; decide +kernel)))) (fun W295 e328 l296 => ?_) (fun W295 e328 l296 => ?_)
    · have h_0 := Rep.mono l296.g h_0
      have h_1 := Rep.mono l296.g h_1
      have l0 := l0.trans l296
      exact s_ret (k := fun d => d) l0 evr_bl (fun _ h => h)
    · have h_0 := Rep.mono l296.g h_0
      have h_1 := Rep.mono l296.g h_1
      have l0 := l0.trans l296
      refine s_end ?_
      refine s_asg 2 l0 (evr_neg evr_int) (fun x301 v300 W297 _ l298 h299 => ?_) sc__law_rising.nd
      have h299 : Is K W297.G v300 (x301 : Int) := h299
      have h_0 := Rep.mono l298.g h_0
      have h_1 := Rep.mono l298.g h_1
      have l0 := l0.trans l298
      refine s_forL (tg_name 3) (fun (s : Int) (σ : L2.St) (W : Wd) => ∃ (a_2 : V) (z_3 : Option V), σ = [some v_0, some v_1, some a_2, z_3] ∧ Is K W.G a_2 (s : Int)) (ps_for PassesOwn.leaving rfl (pi_list pe_sem) (pg_name (i := 3) sc__law_rising.nd rfl (Or.inl rfl)) pss_sem) l0 (evr_v 0 h_0) (fun s σ1 W1 W2 ⟨am_2, zm_3, em, hm_2⟩ lm => ⟨am_2, zm_3, em, Rep.mono lm.g hm_2⟩) ⟨_, _, rfl, h299⟩ (fun _ h => h) (fun s302 σ1 W305 d303 σ304 N307 B308 l0 sg306 jj rr => ?_) (fun s322 σ1 W325 l0 sg324 jj => ?_)
      · obtain ⟨a304_2, z304_3, rfl, h304_2⟩ := jj
        obtain ⟨v309, h310, rfl⟩ := rr
        have gg := Same.refl W305.G
        have h310 : Is K W305.G v309 (d303 : Int) := h310
        have h_0 := Rep.mono sg306 h_0
        have h_1 := Rep.mono sg306 h_1
        refine s_if l0 (evt_w (evw_or (evt_not (evt_val (evr_callF (EE := fun _ => E) (ok__law_whole T) (hr.mono (by decide)) pass_fn (eva_cons (evr_v 3 h310) eva_nil)))) (fun _ => (evw_orP (evt_le (evr_v 3 h310) (evr_v 2 h304_2)) (fun _ => (evw_or1 (evt_ge (evr_v 3 h310) (evr_v 1 h_1)))))))) (fun W311 e321 l312 => ?_) (fun W311 e321 l312 => ?_)
        · have gg := gg.trans l312.g
          have h_0 := Rep.mono l312.g h_0
          have h_1 := Rep.mono l312.g h_1
          have h304_2 := Rep.mono l312.g h304_2
          have h310 := Rep.mono l312.g h310
          have l0 := l0.trans l312
          exact s_ret (k := Fl.rt) l0 evr_bl (fun _ h => h)
        · have gg := gg.trans l312.g
          have h_0 := Rep.mono l312.g h_0
          have h_1 := Rep.mono l312.g h_1
          have h304_2 := Rep.mono l312.g h304_2
          have h310 := Rep.mono l312.g h310
          have l0 := l0.trans l312
          refine s_end ?_
          refine s_asg 2 l0 (evr_v 3 h310) (fun x319 v318 W315 _ l316 h317 => ?_) sc__law_rising.nd
          have h317 : Is K W315.G v318 (x319 : Int) := h317
          have gg := gg.trans l316.g
          have h_0 := Rep.mono l316.g h_0
          have h_1 := Rep.mono l316.g h_1
          have h304_2 := Rep.mono l316.g h304_2
          have h310 := Rep.mono l316.g h310
          have l0 := l0.trans l316
          exact s_nx l0 gg ⟨_, _, rfl, h317⟩
      · obtain ⟨a323_2, z323_3, rfl, h323_2⟩ := jj
        have h_0 := Rep.mono sg324 h_0
        have h_1 := Rep.mono sg324 h_1
        exact s_ret (k := fun d => d) l0 evr_bl (fun _ h => h)
/-! _law_never_dry -/
abbrev N__law_never_dry : List Str := ["_law_rooms", "_law_held", "_law_wants", "_law_ways", "_law_left", "_law_place", "_law_tray", "_law_many"]
theorem sc__law_never_dry : FnScope N__law_never_dry ["_law_rooms", "_law_held", "_law_wants", "_law_ways"] (defScope s__law_never_dry) := ⟨rfl, rfl, rfl, by decide +kernel, rfl, by decide +kernel, by decide +kernel⟩
def m__law_never_dry' (law_rooms : (List Int)) (law_held : (List Int)) (law_wants : (List (List (Int × Int)))) (law_ways : (List Int)) : Rs Bool :=
(Rs.ok law_held).bind fun (x334 : (List Int)) =>
(Rs.ok (law_wants.length : Int)).bind fun xs406 => bndR xs406 ((loopR (fun (s342 : (List Int)) (d343 : Int) => ((Rs.ok (decide (d343 ∈ law_ways))).bind fun c366 => if c366 = true then ((Rs.ok law_rooms).bind fun (x358 : (List Int)) =>
.ok x358) else (.ok s342) : Rs (List Int)).bind fun (s368 : (List Int)) =>
(idx law_wants d343).bind fun xs400 => (loopR (fun (s372 : (List Int)) (d373 : (Int × Int)) => ((idx s372 d373.1).bind fun t385 => (Rs.ok (decide (t385 < d373.2)))).bind fun c394 => if c394 = true then ((Rs.ok false).bind fun d => .ok (.rt d)) else (((idx s372 d373.1).bind fun t386 => (Rs.ok (t386 - d373.2))).bind fun d => (Rs.ok d373.1).bind fun j => (setR s372 j d).bind fun (x387 : (List Int)) =>
.ok (.nx x387))) s368 xs400).bind (fun fl => match fl with
  | .nx s396 => .ok (.nx s396)
  | .rt r => .ok (.rt r)
  | _ => .no)) x334 (rng 0 xs406)).bind (fun fl => match fl with
  | .nx s402 => (Rs.ok true).bind fun d => .ok d
  | .rt r => .ok r
  | _ => .no))
@[irreducible] def m__law_never_dry (a : (Ar (List Int) (Ar (List Int) (Ar (List (List (Int × Int))) (Ar (List Int) Unit))))) : Rs Bool := m__law_never_dry' (a.a) (a.t.a) (a.t.t.a) (a.t.t.t.a)
theorem ok__law_never_dry (T : Tx K mg) : Fn P w K mg base 1 "_law_never_dry" ["_law_rooms", "_law_held", "_law_wants", "_law_ways"] m__law_never_dry := by
  obtain ⟨fd, F⟩ := T.d__law_never_dry
  refine ⟨⟨fd, fn_ok (qual := "_law_never_dry") (x := "_law_never_dry") F sc__law_never_dry (fun G vs a i => ?_) (fun cdv A outer s Q E W0 a vs hr i => ?_), FunD.bindsN F fun _ _ _ _ _ _ us hl => match us, hl with | [_, _, _, _], _ => rfl⟩, F.kp, T.g__law_never_dry⟩
  · obtain ⟨v_0, _, rfl, h_0, ⟨v_1, _, rfl, h_1, ⟨v_2, _, rfl, h_2, ⟨v_3, _, rfl, h_3, rfl⟩⟩⟩⟩ := i
    rfl
  · obtain ⟨law_rooms, ⟨law_held, ⟨law_wants, ⟨law_ways, ⟨⟩⟩⟩⟩⟩ := a
    obtain ⟨v_0, _, rfl, h_0, ⟨v_1, _, rfl, h_1, ⟨v_2, _, rfl, h_2, ⟨v_3, _, rfl, h_3, rfl⟩⟩⟩⟩ := i
    have l0 := Le.refl W0
    unfold m__law_never_dry
    dsimp only
    unfold m__law_never_dry'
    conv => arg 8; whnf
    refine s_asgOl 4 l0 (evl_r (evr_v 1 h_1)) (fun x334 vs335 q336 W337 _ l338 hn339 o340 l0 i341 => ?_) T.z_list sc__law_never_dry.nd
    have h_0 := Rep.mono l338.g h_0
    have h_1 := Rep.mono l338.g h_1
    have h_2 := Rep.mono l338.g h_2
    have h_3 := Rep.mono l338.g h_3
    have i341 : AllIs K W337.G vs335 (x334 : (List Int)) := i341
    refine s_forG (tg_name 5) (fun (s : (List Int)) (σ : L2.St) (W : Wd) => ∃ (q_4 : Addr) (w_4 : List V) (z_5 : Option V) (z_6 : Option V) (z_7 : Option V), σ = [some v_0, some v_1, some v_2, some v_3, some (.ref q_4), z_5, z_6, z_7] ∧ Own W0 W q_4 (.lst w_4) ∧ AllIs K W.G w_4 (s : (List Int))) (ps_for PassesOwn.leaving rfl (pi_range1 rfl T.z_range (pa_cons pe_sem pa_nil)) (pg_name (i := 5) sc__law_never_dry.nd rfl (Or.inl rfl)) pss_sem) l0 (evr_len (evl_r (evr_v 2 h_2)) T.z_len) (fun s σ1 W1 W2 ⟨qm_4, wm_4, zm_5, zm_6, zm_7, em, om_4, im_4⟩ lm => ⟨qm_4, wm_4, zm_5, zm_6, zm_7, em, om_4.mono lm, AllIs.mono lm.g im_4⟩) ⟨_, _, _, _, _, rfl, o340, i341⟩ (fun _ h => h) (fun s342 σ1 W345 d343 σ344 N347 B348 l0 sg346 jj rr => ?_) (fun s402 σ1 W405 l0 sg404 jj => ?_)
    · obtain ⟨q344_4, w344_4, z344_5, z344_6, z344_7, rfl, o344_4, i344_4⟩ := jj
      obtain ⟨v349, h350, rfl⟩ := rr
      have gg := Same.refl W345.G
      have h350 : Is K W345.G v349 (d343 : Int) := h350
      have h_0 := Rep.mono sg346 h_0
      have h_1 := Rep.mono sg346 h_1
      have h_2 := Rep.mono sg346 h_2
      have h_3 := Rep.mono sg346 h_3
      refine s_cut (fun (s : (List Int)) (σ : L2.St) (W : Wd) => ∃ (q_4 : Addr) (w_4 : List V) (z_6 : Option V) (z_7 : Option V), σ = [some v_0, some v_1, some v_2, some v_3, some (.ref q_4), some v349, z_6, z_7] ∧ Own W0 W q_4 (.lst w_4) ∧ AllIs K W.G w_4 (s : (List Int))) (s_if1 l0 (evt_in (evr_v 5 h350) (evl_r (evr_v 3 h_3)) eqV_int (fun _ => rfl)) (fun W351 e367 l352 => ?_) (fun W351 e367 l352 => ?_)) (fun s368 σ1 W371 _ l0 g401 jj => ?_)
      · have gg := Same.refl W345.G
        have gg := gg.trans l352.g
        have h_0 := Rep.mono l352.g h_0
        have h_1 := Rep.mono l352.g h_1
        have h_2 := Rep.mono l352.g h_2
        have h_3 := Rep.mono l352.g h_3
        have o344_4 := o344_4.mono l352
        have i344_4 := AllIs.mono l352.g i344_4
        have h350 := Rep.mono l352.g h350
        have l0 := l0.trans l352
        refine s_asgOl 4 l0 (evl_r (evr_v 0 h_0)) (fun x358 vs359 q360 W361 _ l362 hn363 o364 l0 i365 => ?_) T.z_list sc__law_never_dry.nd
        have gg := gg.trans l362.g
        have h_0 := Rep.mono l362.g h_0
        have h_1 := Rep.mono l362.g h_1
        have h_2 := Rep.mono l362.g h_2
        have h_3 := Rep.mono l362.g h_3
        have h350 := Rep.mono l362.g h350
        have i365 : AllIs K W361.G vs359 (x358 : (List Int)) := i365
        exact s_nil (fun h => h _ _ l0 gg ⟨_, _, _, _, rfl, o364, i365⟩)
      · have gg := Same.refl W345.G
        have gg := gg.trans l352.g
        have h_0 := Rep.mono l352.g h_0
        have h_1 := Rep.mono l352.g h_1
        have h_2 := Rep.mono l352.g h_2
        have h_3 := Rep.mono l352.g h_3
        have o344_4 := o344_4.mono l352
        have i344_4 := AllIs.mono l352.g i344_4
        have h350 := Rep.mono l352.g h350
        have l0 := l0.trans l352
        exact s_nil (fun h => h _ _ l0 gg ⟨_, _, _, _, rfl, o344_4, i344_4⟩)
      · obtain ⟨q370_4, w370_4, z370_6, z370_7, rfl, o370_4, i370_4⟩ := jj
        have gg := gg.trans g401
        have h_0 := Rep.mono g401 h_0
        have h_1 := Rep.mono g401 h_1
        have h_2 := Rep.mono g401 h_2
        have h_3 := Rep.mono g401 h_3
        have h350 := Rep.mono g401 h350
        refine s_forL (tg_pair 6 7) (fun (s : (List Int)) (σ : L2.St) (W : Wd) => ∃ (q_4 : Addr) (w_4 : List V) (z_6 : Option V) (z_7 : Option V), σ = [some v_0, some v_1, some v_2, some v_3, some (.ref q_4), some v349, z_6, z_7] ∧ Own W0 W q_4 (.lst w_4) ∧ AllIs K W.G w_4 (s : (List Int))) (ps_for PassesOwn.leaving rfl (pi_list pe_sem) (pg_tup rfl (pgs_cons (pg_name (i := 6) sc__law_never_dry.nd rfl (Or.inl rfl)) (pgs_cons (pg_name (i := 7) sc__law_never_dry.nd rfl (Or.inl rfl)) pgs_nil))) pss_sem) l0 (evr_ix (evl_r (evr_v 2 h_2)) (evr_v 5 h350)) (fun s σ1 W1 W2 ⟨qm_4, wm_4, zm_6, zm_7, em, om_4, im_4⟩ lm => ⟨qm_4, wm_4, zm_6, zm_7, em, om_4.mono lm, AllIs.mono lm.g im_4⟩) ⟨_, _, _, _, rfl, o370_4, i370_4⟩ (fun _ h => h) (fun s372 σ1 W375 d373 σ374 N377 B378 l0 sg376 jj rr => ?_) (fun s396 σ1 W399 l0 sg398 jj => ?_)
        · obtain ⟨q374_4, w374_4, z374_6, z374_7, rfl, o374_4, i374_4⟩ := jj
          obtain ⟨v379, v381, h380, h382, rfl⟩ := rr
          have gg := Same.refl W375.G
          have h380 : Is K W375.G v379 (d373.1 : Int) := h380
          have h382 : Is K W375.G v381 (d373.2 : Int) := h382
          have h_0 := Rep.mono sg376 h_0
          have h_1 := Rep.mono sg376 h_1
          have h_2 := Rep.mono sg376 h_2
          have h_3 := Rep.mono sg376 h_3
          have h350 := Rep.mono sg376 h350
          refine s_if l0 (evt_lt (evr_ix (evl_own 4 o374_4 i374_4) (evr_v 6 h380)) (evr_v 7 h382)) (fun W383 e395 l384 => ?_) (fun W383 e395 l384 => ?_)
          · have gg := gg.trans l384.g
            have h_0 := Rep.mono l384.g h_0
            have h_1 := Rep.mono l384.g h_1
            have h_2 := Rep.mono l384.g h_2
            have h_3 := Rep.mono l384.g h_3
            have o374_4 := o374_4.mono l384
            have i374_4 := AllIs.mono l384.g i374_4
            have h350 := Rep.mono l384.g h350
            have h380 := Rep.mono l384.g h380
            have h382 := Rep.mono l384.g h382
            have l0 := l0.trans l384
            exact s_ret (k := Fl.rt) l0 evr_bl (fun _ h => h)
          · have gg := gg.trans l384.g
            have h_0 := Rep.mono l384.g h_0
            have h_1 := Rep.mono l384.g h_1
            have h_2 := Rep.mono l384.g h_2
            have h_3 := Rep.mono l384.g h_3
            have o374_4 := o374_4.mono l384
            have i374_4 := AllIs.mono l384.g i374_4
            have h350 := Rep.mono l384.g h350
            have h380 := Rep.mono l384.g h380
            have h382 := Rep.mono l384.g h382
            have l0 := l0.trans l384
            refine s_end ?_
            refine s_st 4 (ps_asg pe_sem (pg_sub (pv 4) pe_sem set_list)) l0 o374_4 i374_4 (evr_sub (evr_ix (evl_own 4 o374_4 i374_4) (evr_v 6 h380)) (evr_v 7 h382)) (evr_v 6 h380) (fun x387 ws388 W389 sg390 oth391 o392 l0 i393 => ?_)
            have gg := gg.trans sg390
            have h_0 := Rep.mono sg390 h_0
            have h_1 := Rep.mono sg390 h_1
            have h_2 := Rep.mono sg390 h_2
            have h_3 := Rep.mono sg390 h_3
            have h350 := Rep.mono sg390 h350
            have h380 := Rep.mono sg390 h380
            have h382 := Rep.mono sg390 h382
            have i393 : AllIs K W389.G ws388 (x387 : (List Int)) := i393
            exact s_nx l0 gg ⟨_, _, _, _, rfl, o392, i393⟩
        · obtain ⟨q397_4, w397_4, z397_6, z397_7, rfl, o397_4, i397_4⟩ := jj
          have gg := gg.trans sg398
          have h_0 := Rep.mono sg398 h_0
          have h_1 := Rep.mono sg398 h_1
          have h_2 := Rep.mono sg398 h_2
          have h_3 := Rep.mono sg398 h_3
          have h350 := Rep.mono sg398 h350
          exact s_nx l0 gg ⟨_, _, _, _, _, rfl, o397_4, i397_4⟩
    · obtain ⟨q403_4, w403_4, z403_5, z403_6, z403_7, rfl, o403_4, i403_4⟩ := jj
      have h_0 := Rep.mono sg404 h_0
      have h_1 := Rep.mono sg404 h_1
      have h_2 := Rep.mono sg404 h_2
      have h_3 := Rep.mono sg404 h_3
      exact s_ret (k := fun d => d) l0 evr_bl (fun _ h => h)
/-! short_tray -/
abbrev N_short_tray : List Str := ["left", "job", "tray", "many"]
theorem sc_short_tray : FnScope N_short_tray ["left", "job"] (defScope s_short_tray) := ⟨rfl, rfl, rfl, by decide +kernel, rfl, by decide +kernel, by decide +kernel⟩
def m_short_tray' (left : (List Int)) (job : (List (Int × Int))) : Rs (Option Int) :=
(Rs.ok job).bind fun xs427 => (loopR (fun (s407 : Unit) (d408 : (Int × Int)) => ((idx left d408.1).bind fun t420 => (Rs.ok (decide (t420 < d408.2)))).bind fun c421 => if c421 = true then ((Rs.ok (some d408.1)).bind fun d => .ok (.rt d)) else (.ok (.nx ()))) () xs427).bind (fun fl => match fl with
  | .nx s423 => (Rs.ok (none : (Option Int))).bind fun d => .ok d
  | .rt r => .ok r
  | _ => .no)
@[irreducible] def m_short_tray (a : (Ar (List Int) (Ar (List (Int × Int)) Unit))) : Rs (Option Int) := m_short_tray' (a.a) (a.t.a)
theorem ok_short_tray (T : Tx K mg) : Fn P w K mg base 1 "short_tray" ["left", "job"] m_short_tray := by
  obtain ⟨fd, F⟩ := T.d_short_tray
  refine ⟨⟨fd, fn_ok (qual := "short_tray") (x := "short_tray") F sc_short_tray (fun G vs a i => ?_) (fun cdv A outer s Q E W0 a vs hr i => ?_), FunD.bindsN F fun _ _ _ _ _ _ us hl => match us, hl with | [_, _], _ => rfl⟩, F.kp, T.g_short_tray⟩
  · obtain ⟨v_0, _, rfl, h_0, ⟨v_1, _, rfl, h_1, rfl⟩⟩ := i
    rfl
  · obtain ⟨left, ⟨job, ⟨⟩⟩⟩ := a
    obtain ⟨v_0, _, rfl, h_0, ⟨v_1, _, rfl, h_1, rfl⟩⟩ := i
    have l0 := Le.refl W0
    unfold m_short_tray
    dsimp only
    unfold m_short_tray'
    conv => arg 8; whnf
    refine s_forL (tg_pair 2 3) (fun (s : Unit) (σ : L2.St) (W : Wd) => ∃ (z_2 : Option V) (z_3 : Option V), σ = [some v_0, some v_1, z_2, z_3]) (ps_for PassesOwn.leaving rfl (pi_list pe_sem) (pg_tup rfl (pgs_cons (pg_name (i := 2) sc_short_tray.nd rfl (Or.inl rfl)) (pgs_cons (pg_name (i := 3) sc_short_tray.nd rfl (Or.inl rfl)) pgs_nil))) pss_sem) l0 (evr_v 1 h_1) (fun s σ1 W1 W2 ⟨zm_2, zm_3, em⟩ lm => ⟨zm_2, zm_3, em⟩) ⟨_, _, rfl⟩ (fun _ h => h) (fun s407 σ1 W410 d408 σ409 N412 B413 l0 sg411 jj rr => ?_) (fun s423 σ1 W426 l0 sg425 jj => ?_)
    · obtain ⟨z409_2, z409_3, rfl⟩ := jj
      obtain ⟨v414, v416, h415, h417, rfl⟩ := rr
      have gg := Same.refl W410.G
      have h415 : Is K W410.G v414 (d408.1 : Int) := h415
      have h417 : Is K W410.G v416 (d408.2 : Int) := h417
      have h_0 := Rep.mono sg411 h_0
      have h_1 := Rep.mono sg411 h_1
      refine s_if l0 (evt_lt (evr_ix (evl_r (evr_v 0 h_0)) (evr_v 2 h415)) (evr_v 3 h417)) (fun W418 e422 l419 => ?_) (fun W418 e422 l419 => ?_)
      · have gg := gg.trans l419.g
        have h_0 := Rep.mono l419.g h_0
        have h_1 := Rep.mono l419.g h_1
        have h415 := Rep.mono l419.g h415
        have h417 := Rep.mono l419.g h417
        have l0 := l0.trans l419
        exact s_ret (k := Fl.rt) l0 (evr_some (evr_v 2 h415)) (fun _ h => h)
      · have gg := gg.trans l419.g
        have h_0 := Rep.mono l419.g h_0
        have h_1 := Rep.mono l419.g h_1
        have h415 := Rep.mono l419.g h415
        have h417 := Rep.mono l419.g h417
        have l0 := l0.trans l419
        refine s_end ?_
        exact s_nx l0 gg ⟨_, _, rfl⟩
    · obtain ⟨z424_2, z424_3, rfl⟩ := jj
      have h_0 := Rep.mono sg425 h_0
      have h_1 := Rep.mono sg425 h_1
      exact s_ret (k := fun d => d) l0 (evr_none (α := Int)) (fun _ h => h)
abbrev s_i_NoWay : Stmt := inClass (top 14) 0
theorem sc_i_NoWay : FnScope ["self", "place"] ["self", "place"] (defScope s_i_NoWay) := ⟨rfl, rfl, rfl, by decide +kernel, rfl, by decide +kernel, by decide +kernel⟩
theorem ok_init_NoWay (T : Tx K mg) : Xm P w K mg base 1 "NoWay" ["place"] := by
  obtain ⟨fd, F⟩ := T.i_NoWay
  refine ⟨T.x_a.xc (.noWay (0 : Int)), T.g_NoWay, fd, ["self", "place"], F.ok (CX := L2N.CX P w) (sp := spX K ["place"]) sc_i_NoWay (fun vs H Q E ⟨a, C, ws, e, hl, _⟩ => by rw [e, List.length_cons, hl]; rfl) (fun cdv A outer s H vs Q E hr h => ?_), FunD.bindsN F fun _ _ _ _ _ _ us hl => match us, hl with | [_, _], _ => rfl⟩
  obtain ⟨a, C, ws, rfl, hl, ox, no, ea, hQ⟩ := h
  match ws, hl with
  | [y], _ =>
    exact ⟨_, pss_cons (ps_expr (pe_xinit rfl T.g_HallError T.x_a.xh (pa_cons (pv 0) (pa_cons pe_str pa_nil)))) (pss_cons (ps_ost (pv 0) (pv 1)) pss_nil),
      ⟨.ref a, rfl, a, C, _, rfl, by simp, ox, ea, y, rfl, .ref a, rfl, a, C, rfl, ox, no _ (by simp), .inl ⟨ea, fun dx n ne => hQ dx n ne⟩⟩⟩
/-! look_at_needs -/
abbrev N_look_at_needs : List Str := ["rooms", "needs", "place", "job", "tray", "many"]
theorem sc_look_at_needs : FnScope N_look_at_needs ["rooms", "needs"] (defScope s_look_at_needs) := ⟨rfl, rfl, rfl, by decide +kernel, rfl, by decide +kernel, by decide +kernel⟩
def m_look_at_needs' (rooms : (List Int)) (needs : (List (List (Int × Int)))) : Rs Unit :=
(Rs.ok needs).bind fun xs464 => (foldR (fun (s428 : Unit) (d429 : (Int × (List (Int × Int)))) => (Rs.ok d429.2).bind fun xs459 => (foldR (fun (s439 : Unit) (d440 : (Int × Int)) => ((idx rooms d440.1).bind fun t452 => (Rs.ok (decide (t452 < d440.2)))).bind fun c453 => if c453 = true then ((Rs.ok d429.1).bind fun d => .er (.noWay d)) else (.ok ())) () xs459).bind fun (s455 : Unit) =>
.ok ()) () ((rng 0 xs464.length).zip xs464)).bind fun (s460 : Unit) =>
.ok ()
@[irreducible] def m_look_at_needs (a : (Ar (List Int) (Ar (List (List (Int × Int))) Unit))) : Rs Unit := m_look_at_needs' (a.a) (a.t.a)
theorem ok_look_at_needs (T : Tx K mg) : Fn P w K mg base 3 "look_at_needs" ["rooms", "needs"] m_look_at_needs := by
  obtain ⟨fd, F⟩ := T.d_look_at_needs
  refine ⟨⟨fd, fn_ok (qual := "look_at_needs") (x := "look_at_needs") F sc_look_at_needs (fun G vs a i => ?_) (fun cdv A outer s Q E W0 a vs hr i => ?_), FunD.bindsN F fun _ _ _ _ _ _ us hl => match us, hl with | [_, _], _ => rfl⟩, F.kp, T.g_look_at_needs⟩
  · obtain ⟨v_0, _, rfl, h_0, ⟨v_1, _, rfl, h_1, rfl⟩⟩ := i
    rfl
  · obtain ⟨rooms, ⟨needs, ⟨⟩⟩⟩ := a
    obtain ⟨v_0, _, rfl, h_0, ⟨v_1, _, rfl, h_1, rfl⟩⟩ := i
    have l0 := Le.refl W0
    unfold m_look_at_needs
    dsimp only
    unfold m_look_at_needs'
    conv => arg 8; whnf
    refine s_forEf (tg_pair 2 3) (fun (s : Unit) (σ : L2.St) (W : Wd) => ∃ (z_2 : Option V) (z_3 : Option V) (z_4 : Option V) (z_5 : Option V), σ = [some v_0, some v_1, z_2, z_3, z_4, z_5]) (ps_for PassesOwn.leaving rfl (pi_enum rfl T.z_enumerate (pa_cons pe_sem pa_nil)) (pg_tup rfl (pgs_cons (pg_name (i := 2) sc_look_at_needs.nd rfl (Or.inl rfl)) (pgs_cons (pg_name (i := 3) sc_look_at_needs.nd rfl (Or.inl rfl)) pgs_nil))) pss_sem) l0 (evr_v 1 h_1) (fun s σ1 W1 W2 ⟨zm_2, zm_3, zm_4, zm_5, em⟩ lm => ⟨zm_2, zm_3, zm_4, zm_5, em⟩) ⟨_, _, _, _, rfl⟩ (fun s428 σ1 W431 d429 σ430 N433 B434 l0 sg432 jj rr => ?_) (fun s460 σ1 W463 l0 sg462 jj => ?_)
    · obtain ⟨z430_2, z430_3, z430_4, z430_5, rfl⟩ := jj
      obtain ⟨v435, v437, h436, h438, rfl⟩ := rr
      have gg := Same.refl W431.G
      have h436 : Is K W431.G v435 (d429.1 : Int) := h436
      have h438 : Is K W431.G v437 (d429.2 : (List (Int × Int))) := h438
      have h_0 := Rep.mono sg432 h_0
      have h_1 := Rep.mono sg432 h_1
      refine s_forLf (tg_pair 4 5) (fun (s : Unit) (σ : L2.St) (W : Wd) => ∃ (z_4 : Option V) (z_5 : Option V), σ = [some v_0, some v_1, some v435, some v437, z_4, z_5]) (ps_for PassesOwn.leaving rfl (pi_list pe_sem) (pg_tup rfl (pgs_cons (pg_name (i := 4) sc_look_at_needs.nd rfl (Or.inl rfl)) (pgs_cons (pg_name (i := 5) sc_look_at_needs.nd rfl (Or.inl rfl)) pgs_nil))) pss_sem) l0 (evr_v 3 h438) (fun s σ1 W1 W2 ⟨zm_4, zm_5, em⟩ lm => ⟨zm_4, zm_5, em⟩) ⟨_, _, rfl⟩ (fun s439 σ1 W442 d440 σ441 N444 B445 l0 sg443 jj rr => ?_) (fun s455 σ1 W458 l0 sg457 jj => ?_)
      · obtain ⟨z441_4, z441_5, rfl⟩ := jj
        obtain ⟨v446, v448, h447, h449, rfl⟩ := rr
        have gg := Same.refl W442.G
        have h447 : Is K W442.G v446 (d440.1 : Int) := h447
        have h449 : Is K W442.G v448 (d440.2 : Int) := h449
        have h_0 := Rep.mono sg443 h_0
        have h_1 := Rep.mono sg443 h_1
        have h436 := Rep.mono sg443 h436
        have h438 := Rep.mono sg443 h438
        refine s_if l0 (evt_gt (evr_v 5 h449) (evr_ix (evl_r (evr_v 0 h_0)) (evr_v 4 h447))) (fun W450 e454 l451 => ?_) (fun W450 e454 l451 => ?_)
        · have gg := gg.trans l451.g
          have h_0 := Rep.mono l451.g h_0
          have h_1 := Rep.mono l451.g h_1
          have h436 := Rep.mono l451.g h436
          have h438 := Rep.mono l451.g h438
          have h447 := Rep.mono l451.g h447
          have h449 := Rep.mono l451.g h449
          have l0 := l0.trans l451
          exact s_raise1 (mk := Exn.noWay) (ok_init_NoWay T) (hr.mono (by decide)) rfl takes_fn passF_fn (fun _ => rfl) (fun G v d h => by cases h; rfl) l0 (evr_v 2 h436)
        · have gg := gg.trans l451.g
          have h_0 := Rep.mono l451.g h_0
          have h_1 := Rep.mono l451.g h_1
          have h436 := Rep.mono l451.g h436
          have h438 := Rep.mono l451.g h438
          have h447 := Rep.mono l451.g h447
          have h449 := Rep.mono l451.g h449
          have l0 := l0.trans l451
          refine s_end ?_
          exact s_nn l0 gg ⟨_, _, rfl⟩
      · obtain ⟨z456_4, z456_5, rfl⟩ := jj
        have gg := gg.trans sg457
        have h_0 := Rep.mono sg457 h_0
        have h_1 := Rep.mono sg457 h_1
        have h436 := Rep.mono sg457 h436
        have h438 := Rep.mono sg457 h438
        exact s_nn l0 gg ⟨_, _, _, _, rfl⟩
    · obtain ⟨z461_2, z461_3, z461_4, z461_5, rfl⟩ := jj
      have h_0 := Rep.mono sg462 h_0
      have h_1 := Rep.mono sg462 h_1
      exact s_nil (fun h => h .non _ l0 rfl)
/-! walks -/
abbrev N_walks : List Str := ["rooms", "held", "needs", "left", "ways", "windows", "since", "place", "job", "tray", "other", "many"]
theorem sc_walks : FnScope N_walks ["rooms", "held", "needs"] (defScope s_walks) := ⟨rfl, rfl, rfl, by decide +kernel, rfl, by decide +kernel, by decide +kernel⟩
def m_walks' (rooms : (List Int)) (held : (List Int)) (needs : (List (List (Int × Int)))) : Rs ((List Int) × (List (T3 Int Int Int))) :=
(m_look_at_needs (Ar.mk rooms (Ar.mk needs ()))).bind fun (x467 : Unit) =>
(Rs.ok held).bind fun (x473 : (List Int)) =>
(Rs.ok ([] : List Int)).bind fun (x486 : (List Int)) =>
(Rs.ok ([] : List (T3 Int Int Int))).bind fun (x500 : (List (T3 Int Int Int))) =>
(Rs.ok (0 : Int)).bind fun (x514 : Int) =>
(Rs.ok needs).bind fun xs613 => (foldR (fun (s515 : ((List Int) × (List (T3 Int Int Int)) × Int × (List Int))) (d516 : (Int × (List (Int × Int)))) => (Rs.noer (m_short_tray (Ar.mk s515.2.2.2 (Ar.mk d516.2 ())))).bind fun (x530 : (Option Int)) =>
(optR x530 (fun (t537 : Int) => (Rs.ok d516.1).bind fun d => (appR s515.1 d).bind fun (x539 : (List Int)) =>
(Rs.ok (T3.mk t537 s515.2.2.1 d516.1)).bind fun d => (appR s515.2.1 d).bind fun (x546 : (List (T3 Int Int Int))) =>
(Rs.ok (d516.1 + (1 : Int))).bind fun (x557 : Int) =>
(Rs.ok rooms).bind fun (x563 : (List Int)) =>
.ok (x539, x546, x557, x563)) (.ok (s515.1, s515.2.1, s515.2.2.1, s515.2.2.2)) : Rs ((List Int) × (List (T3 Int Int Int)) × Int × (List Int))).bind fun (s573 : ((List Int) × (List (T3 Int Int Int)) × Int × (List Int))) =>
(Rs.ok d516.2).bind fun xs599 => (foldR (fun (s576 : (List Int)) (d577 : (Int × Int)) => ((idx s576 d577.1).bind fun t587 => (Rs.ok (t587 - d577.2))).bind fun d => (Rs.ok d577.1).bind fun j => (setR s576 j d).bind fun (x588 : (List Int)) =>
.ok x588) s573.2.2.2 xs599).bind fun (s595 : (List Int)) =>
.ok (s573.1, s573.2.1, s573.2.2.1, s595)) (x486, x500, x514, x473) ((rng 0 xs613.length).zip xs613)).bind fun (s601 : ((List Int) × (List (T3 Int Int Int)) × Int × (List Int))) =>
(Rs.ok (s601.1, s601.2.1)).bind fun d => .ok d
@[irreducible] def m_walks (a : (Ar (List Int) (Ar (List Int) (Ar (List (List (Int × Int))) Unit)))) : Rs ((List Int) × (List (T3 Int Int Int))) := m_walks' (a.a) (a.t.a) (a.t.t.a)
theorem ok_walks (T : Tx K mg) : Fn P w K mg base 4 "walks" ["rooms", "held", "needs"] m_walks := by
  obtain ⟨fd, F⟩ := T.d_walks
  refine ⟨⟨fd, fn_ok (qual := "walks") (x := "walks") F sc_walks (fun G vs a i => ?_) (fun cdv A outer s Q E W0 a vs hr i => ?_), FunD.bindsN F fun _ _ _ _ _ _ us hl => match us, hl with | [_, _, _], _ => rfl⟩, F.kp, T.g_walks⟩
  · obtain ⟨v_0, _, rfl, h_0, ⟨v_1, _, rfl, h_1, ⟨v_2, _, rfl, h_2, rfl⟩⟩⟩ := i
    rfl
  · obtain ⟨rooms, ⟨held, ⟨needs, ⟨⟩⟩⟩⟩ := a
    obtain ⟨v_0, _, rfl, h_0, ⟨v_1, _, rfl, h_1, ⟨v_2, _, rfl, h_2, rfl⟩⟩⟩ := i
    have l0 := Le.refl W0
    unfold m_walks
    dsimp only
    unfold m_walks'
    conv => arg 8; whnf
    refine s_exp l0 (evr_callF (EE := fun _ => E) (ok_look_at_needs T) (hr.mono (by decide)) pass_fn (eva_cons (evr_v 0 h_0) (eva_cons (evr_v 2 h_2) eva_nil))) (fun x467 W465 _ l466 => ?_)
    have h_0 := Rep.mono l466.g h_0
    have h_1 := Rep.mono l466.g h_1
    have h_2 := Rep.mono l466.g h_2
    have l0 := l0.trans l466
    refine s_asgOl 3 l0 (evl_r (evr_v 1 h_1)) (fun x473 vs474 q475 W476 _ l477 hn478 o479 l0 i480 => ?_) T.z_list sc_walks.nd
    have h_0 := Rep.mono l477.g h_0
    have h_1 := Rep.mono l477.g h_1
    have h_2 := Rep.mono l477.g h_2
    have i480 : AllIs K W476.G vs474 (x473 : (List Int)) := i480
    refine s_asgO 4 l0 (evls_nil (α := Int)) (fun x486 vs487 q488 W489 _ l490 hn491 o492 l0 i493 => ?_) sc_walks.nd
    have ne494 := ne_of_none o479.h hn491
    have h_0 := Rep.mono l490.g h_0
    have h_1 := Rep.mono l490.g h_1
    have h_2 := Rep.mono l490.g h_2
    have o479 := o479.mono l490
    have i480 := AllIs.mono l490.g i480
    have i493 : AllIs K W489.G vs487 (x486 : (List Int)) := i493
    refine s_asgO 5 l0 (evls_nil (α := (T3 Int Int Int))) (fun x500 vs501 q502 W503 _ l504 hn505 o506 l0 i507 => ?_) sc_walks.nd
    have ne508 := ne_of_none o479.h hn505
    have ne509 := ne_of_none o492.h hn505
    have h_0 := Rep.mono l504.g h_0
    have h_1 := Rep.mono l504.g h_1
    have h_2 := Rep.mono l504.g h_2
    have o479 := o479.mono l504
    have i480 := AllIs.mono l504.g i480
    have o492 := o492.mono l504
    have i493 := AllIs.mono l504.g i493
    have i507 : AllIs K W503.G vs501 (x500 : (List (T3 Int Int Int))) := i507
    refine s_asg 6 l0 evr_int (fun x514 v513 W510 _ l511 h512 => ?_) sc_walks.nd
    have h512 : Is K W510.G v513 (x514 : Int) := h512
    have h_0 := Rep.mono l511.g h_0
    have h_1 := Rep.mono l511.g h_1
    have h_2 := Rep.mono l511.g h_2
    have o479 := o479.mono l511
    have i480 := AllIs.mono l511.g i480
    have o492 := o492.mono l511
    have i493 := AllIs.mono l511.g i493
    have o506 := o506.mono l511
    have i507 := AllIs.mono l511.g i507
    have l0 := l0.trans l511
    refine s_forEf (tg_pair 7 8) (fun (s : ((List Int) × (List (T3 Int Int Int)) × Int × (List Int))) (σ : L2.St) (W : Wd) => ∃ (q_3 : Addr) (w_3 : List V) (q_4 : Addr) (w_4 : List V) (q_5 : Addr) (w_5 : List V) (a_6 : V) (z_7 : Option V) (z_8 : Option V) (z_9 : Option V) (z_10 : Option V) (z_11 : Option V), σ = [some v_0, some v_1, some v_2, some (.ref q_3), some (.ref q_4), some (.ref q_5), some a_6, z_7, z_8, z_9, z_10, z_11] ∧ Own W0 W q_3 (.lst w_3) ∧ AllIs K W.G w_3 (s.2.2.2 : (List Int)) ∧ Own W0 W q_4 (.lst w_4) ∧ AllIs K W.G w_4 (s.1 : (List Int)) ∧ Own W0 W q_5 (.lst w_5) ∧ AllIs K W.G w_5 (s.2.1 : (List (T3 Int Int Int))) ∧ Is K W.G a_6 (s.2.2.1 : Int) ∧ q_3 ≠ q_4 ∧ q_3 ≠ q_5 ∧ q_4 ≠ q_5) (ps_for PassesOwn.leaving rfl (pi_enum rfl T.z_enumerate (pa_cons pe_sem pa_nil)) (pg_tup rfl (pgs_cons (pg_name (i := 7) sc_walks.nd rfl (Or.inl rfl)) (pgs_cons (pg_name (i := 8) sc_walks.nd rfl (Or.inl rfl)) pgs_nil))) pss_sem) l0 (evr_v 2 h_2) (fun s σ1 W1 W2 ⟨qm_3, wm_3, qm_4, wm_4, qm_5, wm_5, am_6, zm_7, zm_8, zm_9, zm_10, zm_11, em, om_3, im_3, om_4, im_4, om_5, im_5, hm_6, nm_3_4, nm_3_5, nm_4_5⟩ lm => ⟨qm_3, wm_3, qm_4, wm_4, qm_5, wm_5, am_6, zm_7, zm_8, zm_9, zm_10, zm_11, em, om_3.mono lm, AllIs.mono lm.g im_3, om_4.mono lm, AllIs.mono lm.g im_4, om_5.mono lm, AllIs.mono lm.g im_5, Rep.mono lm.g hm_6, nm_3_4, nm_3_5, nm_4_5⟩) ⟨_, _, _, _, _, _, _, _, _, _, _, _, rfl, o479, i480, o492, i493, o506, i507, h512, ne494, ne508, ne509⟩ (fun s515 σ1 W518 d516 σ517 N520 B521 l0 sg519 jj rr => ?_) (fun s601 σ1 W604 l0 sg603 jj => ?_)
    · obtain ⟨q517_3, w517_3, q517_4, w517_4, q517_5, w517_5, a517_6, z517_7, z517_8, z517_9, z517_10, z517_11, rfl, o517_3, i517_3, o517_4, i517_4, o517_5, i517_5, h517_6, n517_3_4, n517_3_5, n517_4_5⟩ := jj
      obtain ⟨v522, v524, h523, h525, rfl⟩ := rr
      have gg := Same.refl W518.G
      have h523 : Is K W518.G v522 (d516.1 : Int) := h523
      have h525 : Is K W518.G v524 (d516.2 : (List (Int × Int))) := h525
      have h_0 := Rep.mono sg519 h_0
      have h_1 := Rep.mono sg519 h_1
      have h_2 := Rep.mono sg519 h_2
      refine s_asg 9 l0 (evr_thaw o517_3 i517_3 (fun W531 sg532 oth533 h534 => (evr_callF (EE := fun _ => E) (ok_short_tray T) (hr.mono (by decide)) pass_fn (eva_cons (evr_v 3 (show Is K W531.G (.ref q517_3) (s515.2.2.2 : (List Int)) from h534)) (eva_cons (evr_v 8 (Rep.mono sg532 h525)) eva_nil))))) (fun x530 v529 W526 _ l527 h528 => ?_) sc_walks.nd
      have h528 : Is K W526.G v529 (x530 : (Option Int)) := h528
      have gg := gg.trans l527.g
      have h_0 := Rep.mono l527.g h_0
      have h_1 := Rep.mono l527.g h_1
      have h_2 := Rep.mono l527.g h_2
      have o517_3 := o517_3.mono l527
      have i517_3 := AllIs.mono l527.g i517_3
      have o517_4 := o517_4.mono l527
      have i517_4 := AllIs.mono l527.g i517_4
      have o517_5 := o517_5.mono l527
      have i517_5 := AllIs.mono l527.g i517_5
      have h517_6 := Rep.mono l527.g h517_6
      have h523 := Rep.mono l527.g h523
      have h525 := Rep.mono l527.g h525
      have l0 := l0.trans l527
      refine s_cut (fun (s : ((List Int) × (List (T3 Int Int Int)) × Int × (List Int))) (σ : L2.St) (W : Wd) => ∃ (q_3 : Addr) (w_3 : List V) (q_4 : Addr) (w_4 : List V) (q_5 : Addr) (w_5 : List V) (a_6 : V) (z_10 : Option V) (z_11 : Option V), σ = [some v_0, some v_1, some v_2, some (.ref q_3), some (.ref q_4), some (.ref q_5), some a_6, some v522, some v524, some v529, z_10, z_11] ∧ Own W0 W q_3 (.lst w_3) ∧ AllIs K W.G w_3 (s.2.2.2 : (List Int)) ∧ Own W0 W q_4 (.lst w_4) ∧ AllIs K W.G w_4 (s.1 : (List Int)) ∧ Own W0 W q_5 (.lst w_5) ∧ AllIs K W.G w_5 (s.2.1 : (List (T3 Int Int Int))) ∧ Is K W.G a_6 (s.2.2.1 : Int) ∧ q_3 ≠ q_4 ∧ q_3 ≠ q_5 ∧ q_4 ≠ q_5) (s_ifN1 l0 (evr_v 9 h528) (fun t537 W535 e538 l536 => ?_) (fun W535 e538 l536 => ?_)) (fun s573 σ1 W575 _ l0 g600 jj => ?_)
      · have gg := Same.refl W526.G
        have gg := gg.trans l536.g
        have h_0 := Rep.mono l536.g h_0
        have h_1 := Rep.mono l536.g h_1
        have h_2 := Rep.mono l536.g h_2
        have o517_3 := o517_3.mono l536
        have i517_3 := AllIs.mono l536.g i517_3
        have o517_4 := o517_4.mono l536
        have i517_4 := AllIs.mono l536.g i517_4
        have o517_5 := o517_5.mono l536
        have i517_5 := AllIs.mono l536.g i517_5
        have h517_6 := Rep.mono l536.g h517_6
        have h523 := Rep.mono l536.g h523
        have h525 := Rep.mono l536.g h525
        have h528 := Rep.mono l536.g h528
        have l0 := l0.trans l536
        have h528 := (show Is K _ _ (some t537) from e538 ▸ h528).1
        refine s_ap 4 (pe_bm PySem.F.plainAttrs_list PySem.F.slot_list_append PySem.F.type_list_append mt_append (pv 4) (pa_cons pe_sem pa_nil)) l0 o517_4 i517_4 (evr_v 7 h523) (fun x539 ws540 W541 sg542 oth543 o544 l0 i545 => ?_)
        have gg := gg.trans sg542
        have h_0 := Rep.mono sg542 h_0
        have h_1 := Rep.mono sg542 h_1
        have h_2 := Rep.mono sg542 h_2
        have o517_3 := oth543 _ _ n517_3_4 o517_3
        have i517_3 := AllIs.mono sg542 i517_3
        have o517_5 := oth543 _ _ (Ne.symm n517_4_5) o517_5
        have i517_5 := AllIs.mono sg542 i517_5
        have h517_6 := Rep.mono sg542 h517_6
        have h523 := Rep.mono sg542 h523
        have h525 := Rep.mono sg542 h525
        have h528 := Rep.mono sg542 h528
        have i545 : AllIs K W541.G ws540 (x539 : (List Int)) := i545
        refine s_ap 5 (pe_bm PySem.F.plainAttrs_list PySem.F.slot_list_append PySem.F.type_list_append mt_append (pv 5) (pa_cons pe_sem pa_nil)) l0 o517_5 i517_5 (evr_tup3 (evr_v 9 h528) (evr_v 6 h517_6) (evr_v 7 h523)) (fun x546 ws547 W548 sg549 oth550 o551 l0 i552 => ?_)
        have gg := gg.trans sg549
        have h_0 := Rep.mono sg549 h_0
        have h_1 := Rep.mono sg549 h_1
        have h_2 := Rep.mono sg549 h_2
        have o517_3 := oth550 _ _ n517_3_5 o517_3
        have i517_3 := AllIs.mono sg549 i517_3
        have o544 := oth550 _ _ n517_4_5 o544
        have i545 := AllIs.mono sg549 i545
        have h517_6 := Rep.mono sg549 h517_6
        have h523 := Rep.mono sg549 h523
        have h525 := Rep.mono sg549 h525
        have h528 := Rep.mono sg549 h528
        have i552 : AllIs K W548.G ws547 (x546 : (List (T3 Int Int Int))) := i552
        refine s_asg 6 l0 (evr_add (evr_v 7 h523) evr_int) (fun x557 v556 W553 _ l554 h555 => ?_) sc_walks.nd
        have h555 : Is K W553.G v556 (x557 : Int) := h555
        have gg := gg.trans l554.g
        have h_0 := Rep.mono l554.g h_0
        have h_1 := Rep.mono l554.g h_1
        have h_2 := Rep.mono l554.g h_2
        have o517_3 := o517_3.mono l554
        have i517_3 := AllIs.mono l554.g i517_3
        have o544 := o544.mono l554
        have i545 := AllIs.mono l554.g i545
        have o551 := o551.mono l554
        have i552 := AllIs.mono l554.g i552
        have h517_6 := Rep.mono l554.g h517_6
        have h523 := Rep.mono l554.g h523
        have h525 := Rep.mono l554.g h525
        have h528 := Rep.mono l554.g h528
        have l0 := l0.trans l554
        refine s_asgOl 3 l0 (evl_r (evr_v 0 h_0)) (fun x563 vs564 q565 W566 _ l567 hn568 o569 l0 i570 => ?_) T.z_list sc_walks.nd
        have ne571 := ne_of_none o544.h hn568
        have ne572 := ne_of_none o551.h hn568
        have gg := gg.trans l567.g
        have h_0 := Rep.mono l567.g h_0
        have h_1 := Rep.mono l567.g h_1
        have h_2 := Rep.mono l567.g h_2
        have o544 := o544.mono l567
        have i545 := AllIs.mono l567.g i545
        have o551 := o551.mono l567
        have i552 := AllIs.mono l567.g i552
        have h555 := Rep.mono l567.g h555
        have h523 := Rep.mono l567.g h523
        have h525 := Rep.mono l567.g h525
        have h528 := Rep.mono l567.g h528
        have i570 : AllIs K W566.G vs564 (x563 : (List Int)) := i570
        exact s_nil (fun h => h _ _ l0 gg ⟨_, _, _, _, _, _, _, _, _, rfl, o569, i570, o544, i545, o551, i552, h555, (Ne.symm ne571), (Ne.symm ne572), n517_4_5⟩)
      · have gg := Same.refl W526.G
        have gg := gg.trans l536.g
        have h_0 := Rep.mono l536.g h_0
        have h_1 := Rep.mono l536.g h_1
        have h_2 := Rep.mono l536.g h_2
        have o517_3 := o517_3.mono l536
        have i517_3 := AllIs.mono l536.g i517_3
        have o517_4 := o517_4.mono l536
        have i517_4 := AllIs.mono l536.g i517_4
        have o517_5 := o517_5.mono l536
        have i517_5 := AllIs.mono l536.g i517_5
        have h517_6 := Rep.mono l536.g h517_6
        have h523 := Rep.mono l536.g h523
        have h525 := Rep.mono l536.g h525
        have h528 := Rep.mono l536.g h528
        have l0 := l0.trans l536
        exact s_nil (fun h => h _ _ l0 gg ⟨_, _, _, _, _, _, _, _, _, rfl, o517_3, i517_3, o517_4, i517_4, o517_5, i517_5, h517_6, n517_3_4, n517_3_5, n517_4_5⟩)
      · obtain ⟨q574_3, w574_3, q574_4, w574_4, q574_5, w574_5, a574_6, z574_10, z574_11, rfl, o574_3, i574_3, o574_4, i574_4, o574_5, i574_5, h574_6, n574_3_4, n574_3_5, n574_4_5⟩ := jj
        have gg := gg.trans g600
        have h_0 := Rep.mono g600 h_0
        have h_1 := Rep.mono g600 h_1
        have h_2 := Rep.mono g600 h_2
        have h523 := Rep.mono g600 h523
        have h525 := Rep.mono g600 h525
        have h528 := Rep.mono g600 h528
        refine s_forLf (tg_pair 10 11) (fun (s : (List Int)) (σ : L2.St) (W : Wd) => ∃ (q_3 : Addr) (w_3 : List V) (q_4 : Addr) (w_4 : List V) (q_5 : Addr) (w_5 : List V) (z_10 : Option V) (z_11 : Option V), σ = [some v_0, some v_1, some v_2, some (.ref q_3), some (.ref q_4), some (.ref q_5), some a574_6, some v522, some v524, some v529, z_10, z_11] ∧ Own W0 W q_3 (.lst w_3) ∧ AllIs K W.G w_3 (s : (List Int)) ∧ Own W0 W q_4 (.lst w_4) ∧ AllIs K W.G w_4 (s573.1 : (List Int)) ∧ Own W0 W q_5 (.lst w_5) ∧ AllIs K W.G w_5 (s573.2.1 : (List (T3 Int Int Int))) ∧ q_3 ≠ q_4 ∧ q_3 ≠ q_5 ∧ q_4 ≠ q_5) (ps_for PassesOwn.leaving rfl (pi_list pe_sem) (pg_tup rfl (pgs_cons (pg_name (i := 10) sc_walks.nd rfl (Or.inl rfl)) (pgs_cons (pg_name (i := 11) sc_walks.nd rfl (Or.inl rfl)) pgs_nil))) pss_sem) l0 (evr_v 8 h525) (fun s σ1 W1 W2 ⟨qm_3, wm_3, qm_4, wm_4, qm_5, wm_5, zm_10, zm_11, em, om_3, im_3, om_4, im_4, om_5, im_5, nm_3_4, nm_3_5, nm_4_5⟩ lm => ⟨qm_3, wm_3, qm_4, wm_4, qm_5, wm_5, zm_10, zm_11, em, om_3.mono lm, AllIs.mono lm.g im_3, om_4.mono lm, AllIs.mono lm.g im_4, om_5.mono lm, AllIs.mono lm.g im_5, nm_3_4, nm_3_5, nm_4_5⟩) ⟨_, _, _, _, _, _, _, _, rfl, o574_3, i574_3, o574_4, i574_4, o574_5, i574_5, n574_3_4, n574_3_5, n574_4_5⟩ (fun s576 σ1 W579 d577 σ578 N581 B582 l0 sg580 jj rr => ?_) (fun s595 σ1 W598 l0 sg597 jj => ?_)
        · obtain ⟨q578_3, w578_3, q578_4, w578_4, q578_5, w578_5, z578_10, z578_11, rfl, o578_3, i578_3, o578_4, i578_4, o578_5, i578_5, n578_3_4, n578_3_5, n578_4_5⟩ := jj
          obtain ⟨v583, v585, h584, h586, rfl⟩ := rr
          have gg := Same.refl W579.G
          have h584 : Is K W579.G v583 (d577.1 : Int) := h584
          have h586 : Is K W579.G v585 (d577.2 : Int) := h586
          have h_0 := Rep.mono sg580 h_0
          have h_1 := Rep.mono sg580 h_1
          have h_2 := Rep.mono sg580 h_2
          have h574_6 := Rep.mono sg580 h574_6
          have h523 := Rep.mono sg580 h523
          have h525 := Rep.mono sg580 h525
          have h528 := Rep.mono sg580 h528
          refine s_st 3 (ps_asg pe_sem (pg_sub (pv 3) pe_sem set_list)) l0 o578_3 i578_3 (evr_sub (evr_ix (evl_own 3 o578_3 i578_3) (evr_v 10 h584)) (evr_v 11 h586)) (evr_v 10 h584) (fun x588 ws589 W590 sg591 oth592 o593 l0 i594 => ?_)
          have gg := gg.trans sg591
          have h_0 := Rep.mono sg591 h_0
          have h_1 := Rep.mono sg591 h_1
          have h_2 := Rep.mono sg591 h_2
          have o578_4 := oth592 _ _ (Ne.symm n578_3_4) o578_4
          have i578_4 := AllIs.mono sg591 i578_4
          have o578_5 := oth592 _ _ (Ne.symm n578_3_5) o578_5
          have i578_5 := AllIs.mono sg591 i578_5
          have h574_6 := Rep.mono sg591 h574_6
          have h523 := Rep.mono sg591 h523
          have h525 := Rep.mono sg591 h525
          have h528 := Rep.mono sg591 h528
          have h584 := Rep.mono sg591 h584
          have h586 := Rep.mono sg591 h586
          have i594 : AllIs K W590.G ws589 (x588 : (List Int)) := i594
          exact s_nn l0 gg ⟨_, _, _, _, _, _, _, _, rfl, o593, i594, o578_4, i578_4, o578_5, i578_5, n578_3_4, n578_3_5, n578_4_5⟩
        · obtain ⟨q596_3, w596_3, q596_4, w596_4, q596_5, w596_5, z596_10, z596_11, rfl, o596_3, i596_3, o596_4, i596_4, o596_5, i596_5, n596_3_4, n596_3_5, n596_4_5⟩ := jj
          have gg := gg.trans sg597
          have h_0 := Rep.mono sg597 h_0
          have h_1 := Rep.mono sg597 h_1
          have h_2 := Rep.mono sg597 h_2
          have h574_6 := Rep.mono sg597 h574_6
          have h523 := Rep.mono sg597 h523
          have h525 := Rep.mono sg597 h525
          have h528 := Rep.mono sg597 h528
          exact s_nn l0 gg ⟨_, _, _, _, _, _, _, _, _, _, _, _, rfl, o596_3, i596_3, o596_4, i596_4, o596_5, i596_5, h574_6, n596_3_4, n596_3_5, n596_4_5⟩
    · obtain ⟨q602_3, w602_3, q602_4, w602_4, q602_5, w602_5, a602_6, z602_7, z602_8, z602_9, z602_10, z602_11, rfl, o602_3, i602_3, o602_4, i602_4, o602_5, i602_5, h602_6, n602_3_4, n602_3_5, n602_4_5⟩ := jj
      have h_0 := Rep.mono sg603 h_0
      have h_1 := Rep.mono sg603 h_1
      have h_2 := Rep.mono sg603 h_2
      refine s_frz l0 o602_4 i602_4 (fun W605 sg606 oth607 l0 h608 => ?_)
      have h_0 := Rep.mono sg606 h_0
      have h_1 := Rep.mono sg606 h_1
      have h_2 := Rep.mono sg606 h_2
      have o602_3 := oth607 _ _ n602_3_4 o602_3
      have i602_3 := AllIs.mono sg606 i602_3
      have o602_5 := oth607 _ _ (Ne.symm n602_4_5) o602_5
      have i602_5 := AllIs.mono sg606 i602_5
      have h602_6 := Rep.mono sg606 h602_6
      have h608 : Is K W605.G (.ref q602_4) (s601.1 : (List Int)) := h608
      refine s_frz l0 o602_5 i602_5 (fun W609 sg610 oth611 l0 h612 => ?_)
      have h_0 := Rep.mono sg610 h_0
      have h_1 := Rep.mono sg610 h_1
      have h_2 := Rep.mono sg610 h_2
      have o602_3 := oth611 _ _ n602_3_5 o602_3
      have i602_3 := AllIs.mono sg610 i602_3
      have h608 := Rep.mono sg610 h608
      have h602_6 := Rep.mono sg610 h602_6
      have h612 : Is K W609.G (.ref q602_5) (s601.2.1 : (List (T3 Int Int Int))) := h612
      exact s_ret (k := fun d => d) l0 (evr_tup2 (evr_v 4 h608) (evr_v 5 h612)) (fun _ h => h)
/-! _law_others -/
abbrev N__law_others : List Str := ["_law_e", "_law_some", "_law_one"]
theorem sc__law_others : FnScope N__law_others ["_law_e"] (defScope s__law_others) := ⟨rfl, rfl, rfl, by decide +kernel, rfl, by decide +kernel, by decide +kernel⟩
def m__law_others' (y : Exn) : Rs Int :=
(Rs.ok ((y.nm == ("BadLine" : Str)) :: ((y.nm == ("Unknown" : Str)) :: ((y.nm == ("Twice" : Str)) :: ((y.nm == ("NotNow" : Str)) :: ([] : List Bool)))))).bind fun (x618 : (List Bool)) =>
(catR x618 ((y.nm == ("TooMuch" : Str)) :: ((y.nm == ("Dry" : Str)) :: ((y.nm == ("Over" : Str)) :: ((y.nm == ("Nowhere" : Str)) :: ([] : List Bool)))))).bind fun (x623 : (List Bool)) =>
(catR x623 ((y.nm == ("Busy" : Str)) :: ((y.nm == ("NoHeap" : Str)) :: ((y.nm == ("NoPrinter" : Str)) :: ((y.nm == ("GoesRound" : Str)) :: ([] : List Bool)))))).bind fun (x628 : (List Bool)) =>
(((catR x628 ((y.nm == ("NoWay" : Str)) :: ([] : List Bool))).bind fun t634 => (mapR (fun (d633 : Bool) => (Rs.ok (if d633 then 1 else 0 : Int))) t634)).bind fun t635 => (Rs.ok (List.sum t635))).bind fun d => .ok d
@[irreducible] def m__law_others (y : Exn) (_ : Unit) : Rs Int := m__law_others' y
theorem okE__law_others (T : Tx K mg) : FnE P w K mg base 1 "_law_others" ["_law_e"] m__law_others := by
  obtain ⟨fd, F⟩ := T.d__law_others
  refine ⟨⟨fd, fnE_ok (qual := "_law_others") (x := "_law_others") F sc__law_others (fun G v vs a i => ?_) (fun cdv A outer s Q E W0 y ad oe a vs hot hr ea i => ?_), FunD.bindsN F fun _ _ _ _ _ _ us hl => match us, hl with | [_], _ => rfl⟩, F.kp, T.g__law_others⟩
  · cases i
    rfl
  · cases i
    have hp : (ad, oe) ∈ [(ad, oe)] := List.mem_singleton.mpr rfl
    have l0 := Le.refl W0
    unfold m__law_others
    unfold m__law_others'
    conv => arg 8; whnf
    refine s_asg 1 l0 (evr_lst (evls_cons (evr_isG 0 hp (ea.mono l0) (T.x_a.xc y).ec rfl T.g_BadLine (T.x_a.kk y ("BadLine", ["place"]) (by decide +kernel)) T.z_isinstance) (evls_cons (evr_isG 0 hp (ea.mono l0) (T.x_a.xc y).ec rfl T.g_Unknown (T.x_a.kk y ("Unknown", ["name"]) (by decide +kernel)) T.z_isinstance) (evls_cons (evr_isG 0 hp (ea.mono l0) (T.x_a.xc y).ec rfl T.g_Twice (T.x_a.kk y ("Twice", ["name"]) (by decide +kernel)) T.z_isinstance) (evls_cons (evr_isG 0 hp (ea.mono l0) (T.x_a.xc y).ec rfl T.g_NotNow (T.x_a.kk y ("NotNow", ["found"]) (by decide +kernel)) T.z_isinstance) (evls_nil (α := Bool))))))) (fun x618 v617 W614 _ l615 h616 => ?_) sc__law_others.nd
    have h616 : Is K W614.G v617 (x618 : (List Bool)) := h616
    have l0 := l0.trans l615
    refine s_asg 1 l0 (evr_cat (evr_v 1 h616) (evr_lst (evls_cons (evr_isG 0 hp (ea.mono l0) (T.x_a.xc y).ec rfl T.g_TooMuch (T.x_a.kk y ("TooMuch", ["name"]) (by decide +kernel)) T.z_isinstance) (evls_cons (evr_isG 0 hp (ea.mono l0) (T.x_a.xc y).ec rfl T.g_Dry (T.x_a.kk y ("Dry", ["name"]) (by decide +kernel)) T.z_isinstance) (evls_cons (evr_isG 0 hp (ea.mono l0) (T.x_a.xc y).ec rfl T.g_Over (T.x_a.kk y ("Over", ["job"]) (by decide +kernel)) T.z_isinstance) (evls_cons (evr_isG 0 hp (ea.mono l0) (T.x_a.xc y).ec rfl T.g_Nowhere (T.x_a.kk y ("Nowhere", ["job"]) (by decide +kernel)) T.z_isinstance) (evls_nil (α := Bool)))))))) (fun x623 v622 W619 _ l620 h621 => ?_) sc__law_others.nd
    have h621 : Is K W619.G v622 (x623 : (List Bool)) := h621
    have h616 := Rep.mono l620.g h616
    have l0 := l0.trans l620
    refine s_asg 1 l0 (evr_cat (evr_v 1 h621) (evr_lst (evls_cons (evr_isG 0 hp (ea.mono l0) (T.x_a.xc y).ec rfl T.g_Busy (T.x_a.kk y ("Busy", ["job"]) (by decide +kernel)) T.z_isinstance) (evls_cons (evr_isG 0 hp (ea.mono l0) (T.x_a.xc y).ec rfl T.g_NoHeap (T.x_a.kk y ("NoHeap", ["place"]) (by decide +kernel)) T.z_isinstance) (evls_cons (evr_isG 0 hp (ea.mono l0) (T.x_a.xc y).ec rfl T.g_NoPrinter (T.x_a.kk y ("NoPrinter", ["job", "lacks"]) (by decide +kernel)) T.z_isinstance) (evls_cons (evr_isG 0 hp (ea.mono l0) (T.x_a.xc y).ec rfl T.g_GoesRound (T.x_a.kk y ("GoesRound", ["ring"]) (by decide +kernel)) T.z_isinstance) (evls_nil (α := Bool)))))))) (fun x628 v627 W624 _ l625 h626 => ?_) sc__law_others.nd
    have h626 : Is K W624.G v627 (x628 : (List Bool)) := h626
    have h621 := Rep.mono l625.g h621
    have l0 := l0.trans l625
    exact s_ret (k := fun d => d) l0 (evr_sumH (evl_r (evr_lcH (nm := "_law_one") (j := 2) (f := (fun (d633 : Bool) => (Rs.ok (if d633 then 1 else 0 : Int)))) ⟨_, hot, hp⟩ sc__law_others.nd (blkOk_by (own := [("_law_one", 2)]) (N := N__law_others) (sc := defScope s__law_others) (by decide +kernel)) (evl_r (evr_cat (evr_v 1 h626) (evr_lst (evls_cons (evr_isG 0 hp (ea.mono l0) (T.x_a.xc y).ec rfl T.g_NoWay (T.x_a.kk y ("NoWay", ["place"]) (by decide +kernel)) T.z_isinstance) (evls_nil (α := Bool)))))) (fun _ _ _ _ _ => pg_name (i := 2) sc__law_others.nd rfl (Or.inl rfl)) (fun W629 v632 (d633 : Bool) l630 (i631 : Is K W629.G v632 d633) _ _ _ _ _ => (evr_intB (evr_v 2 i631) T.z_int)))) T.z_sum ⟨_, hot, hp⟩) (fun _ h => h)
/-! _law_refused -/
abbrev N__law_refused : List Str := ["_law_rooms", "_law_held", "_law_wants", "_law_due", "_law_handed", "_law_good", "_law_e", "_law_need_here"]
theorem sc__law_refused : FnScope N__law_refused ["_law_rooms", "_law_held", "_law_wants", "_law_due"] (defScope s__law_refused) := ⟨rfl, rfl, rfl, by decide +kernel, rfl, by decide +kernel, by decide +kernel⟩
def m__law_refused' (law_rooms : (List Int)) (law_held : (List Int)) (law_wants : (List (List (Int × Int)))) (law_due : (Option Int)) : Rs Bool :=
((mapR (fun (d645 : (List (Int × Int))) => (Rs.ok d645)) law_wants).bind fun t646 => (Rs.ok (L3.mk law_rooms law_held t646))).bind fun (x640 : (L3 (List Int) (List Int) (List (List (Int × Int))))) =>
(Rs.ok false).bind fun (x651 : Bool) =>
(tryR ((m_walks (Ar.mk x640.a (Ar.mk x640.b (Ar.mk x640.c ()))))) x651 (fun y652 => ((if (y652.nm == ("NoWay" : Str)) = true then (if true = true then ((m__law_others y652 ()).bind fun t665 => (Rs.ok (decide (t665 = (1 : Int))))) else .ok false) else .ok false).bind fun (x664 : Bool) =>
(if x664 = true then ((((Exn.place y652).bind fun t671 => (Rs.ok (Ar.mk t671 ()))).bind fun t672 => (m__law_whole t672)).bind fun t675 => (if t675 = true then (((Exn.place y652).bind fun t673 => (Rs.ok (some t673))).bind fun t674 => (Rs.ok (decide (t674 = law_due)))) else .ok false)) else .ok false).bind fun (x670 : Bool) =>
.ok x670 : Rs Bool))).bind fun (s676 : Bool) =>
(if s676 = true then (eqD x640 (L3.mk law_rooms law_held law_wants)) else .ok false).bind fun d => .ok d
@[irreducible] def m__law_refused (a : (Ar (List Int) (Ar (List Int) (Ar (List (List (Int × Int))) (Ar (Option Int) Unit))))) : Rs Bool := m__law_refused' (a.a) (a.t.a) (a.t.t.a) (a.t.t.t.a)
theorem ok__law_refused (T : Tx K mg) : Fn P w K mg base 5 "_law_refused" ["_law_rooms", "_law_held", "_law_wants", "_law_due"] m__law_refused := by
  obtain ⟨fd, F⟩ := T.d__law_refused
  refine ⟨⟨fd, fn_ok (qual := "_law_refused") (x := "_law_refused") F sc__law_refused (fun G vs a i => ?_) (fun cdv A outer s Q E W0 a vs hr i => ?_), FunD.bindsN F fun _ _ _ _ _ _ us hl => match us, hl with | [_, _, _, _], _ => rfl⟩, F.kp, T.g__law_refused⟩
  · obtain ⟨v_0, _, rfl, h_0, ⟨v_1, _, rfl, h_1, ⟨v_2, _, rfl, h_2, ⟨v_3, _, rfl, h_3, rfl⟩⟩⟩⟩ := i
    rfl
  · obtain ⟨law_rooms, ⟨law_held, ⟨law_wants, ⟨law_due, ⟨⟩⟩⟩⟩⟩ := a
    obtain ⟨v_0, _, rfl, h_0, ⟨v_1, _, rfl, h_1, ⟨v_2, _, rfl, h_2, ⟨v_3, _, rfl, h_3, rfl⟩⟩⟩⟩ := i
    have l0 := Le.refl W0
    unfold m__law_refused
    dsimp only
    unfold m__law_refused'
    conv => arg 8; whnf
    refine s_asg 4 l0 (evr_l3 (evr_list (evl_r (evr_v 0 h_0)) T.z_list) (evr_list (evl_r (evr_v 1 h_1)) T.z_list) (evr_lc (nm := "_law_need_here") (j := 7) (f := (fun (d645 : (List (Int × Int))) => (Rs.ok d645))) rfl sc__law_refused.nd (blkOk_by (own := [("_law_need_here", 7)]) (N := N__law_refused) (sc := defScope s__law_refused) (by decide +kernel)) (evl_r (evr_v 2 h_2)) (fun _ _ _ _ _ => pg_name (i := 7) sc__law_refused.nd rfl (Or.inl rfl)) (fun W641 v644 (d645 : (List (Int × Int))) l642 (i643 : Is K W641.G v644 d645) _ _ _ _ _ => (evr_list (evl_r (evr_v 7 i643)) T.z_list)))) (fun x640 v639 W636 _ l637 h638 => ?_) sc__law_refused.nd
    have h638 : Is K W636.G v639 (x640 : (L3 (List Int) (List Int) (List (List (Int × Int))))) := h638
    have h_0 := Rep.mono l637.g h_0
    have h_1 := Rep.mono l637.g h_1
    have h_2 := Rep.mono l637.g h_2
    have h_3 := Rep.mono l637.g h_3
    have l0 := l0.trans l637
    refine s_asg 5 l0 evr_bl (fun x651 v650 W647 _ l648 h649 => ?_) sc__law_refused.nd
    have h649 : Is K W647.G v650 (x651 : Bool) := h649
    have h_0 := Rep.mono l648.g h_0
    have h_1 := Rep.mono l648.g h_1
    have h_2 := Rep.mono l648.g h_2
    have h_3 := Rep.mono l648.g h_3
    have h638 := Rep.mono l648.g h638
    have l0 := l0.trans l648
    refine s_tryE 6 (fun (s : Bool) (σ : L2.St) (W : Wd) => ∃ (a_5 : V) (z_6 : Option V) (z_7 : Option V), σ = [some v_0, some v_1, some v_2, some v_3, some v639, some a_5, z_6, z_7] ∧ Is K W.G a_5 (s : Bool)) ⟨rfl, by decide, .inl T.g_HallError⟩ takes_fn T.x_a.eh l0 (fun Wt pn xe tk => (evr_callF (EE := WE Wt) (ok_walks T) (hr.mono (by decide)) (fun σ => L2N.passAt tk σ) (eva_cons (evr_l3_0 (evr_v 4 h638)) (eva_cons (evr_l3_1 (evr_v 4 h638)) (eva_cons (evr_l3_2 (evr_v 4 h638)) eva_nil))))) (fun W681 l680 => ?_) (fun y652 ad653 oe654 pn655 W656 N659 _ _ _ l657 ea658 => ?_) (fun s676 σ1 W678 l0 g679 jj => ?_) sc__law_refused.nd
    · have h_0 := Rep.mono l680.g h_0
      have h_1 := Rep.mono l680.g h_1
      have h_2 := Rep.mono l680.g h_2
      have h_3 := Rep.mono l680.g h_3
      have h638 := Rep.mono l680.g h638
      have h649 := Rep.mono l680.g h649
      exact ⟨_, _, _, rfl, h649⟩
    · have h_0 := Rep.mono l657.g h_0
      have h_1 := Rep.mono l657.g h_1
      have h_2 := Rep.mono l657.g h_2
      have h_3 := Rep.mono l657.g h_3
      have h638 := Rep.mono l657.g h638
      have h649 := Rep.mono l657.g h649
      have gg := l657.g
      have l0 := l0.trans l657
      have ea658 : ExA K W656 y652 ad653 oe654 := ea658
      refine blk_suite fun po => ?_
      refine s_asg 5 l0 (evrX po (evr_and (evrX po (evr_isG 6 List.mem_cons_self ea658 (T.x_a.xc y652).ec rfl T.g_NoWay (T.x_a.kk y652 ("NoWay", ["place"]) (by decide +kernel)) T.z_isinstance)) (fun _ => (evrX po (evr_and (evrX po (evr_isV 6 List.mem_cons_self ea658 (T.x_a.xc y652).ec rfl T.z_ValueError PyProof.Rows.Boot.«ValueError» (T.x_a.kv y652) T.z_isinstance)) (fun _ => (evrX po (evr_one (evrX po (evr_eq (evrX po (evr_callX (EE := fun _ => E0) (m := m__law_others) (y := y652) 6 (po _) (okE__law_others T) (L2H.RoomH.mono (roomH_mark hr) (by decide)) (hot_suite ea658) List.mem_cons_self ea658 rfl)) evr_int)))))))))) (fun x664 v663 W660 _ l661 h662 => ?_) sc__law_refused.nd
      have h662 : Is K W660.G v663 (x664 : Bool) := h662
      have gg := gg.trans l661.g
      have h_0 := Rep.mono l661.g h_0
      have h_1 := Rep.mono l661.g h_1
      have h_2 := Rep.mono l661.g h_2
      have h_3 := Rep.mono l661.g h_3
      have h638 := Rep.mono l661.g h638
      have h649 := Rep.mono l661.g h649
      have ea658 := ea658.mono l661
      have l0 := l0.trans l661
      refine s_asg 5 l0 (evrX po (evr_and (evr_v 5 h662) (fun _ => (evrX po (evr_and (evrX po (evr_callH (EE := fun _ => E0) (po _) (okH__law_whole T) (L2H.RoomH.mono (roomH_mark hr) (by decide)) (hot_suite ea658) List.mem_cons_self (eva_cons (evr_xplace 6 T.x_a List.mem_cons_self ea658 rfl) eva_nil))) (fun _ => (evrX po (evr_one (evrX po (evr_eq (evr_some (evr_xplace 6 T.x_a List.mem_cons_self ea658 rfl)) (evr_v 3 h_3))))))))))) (fun x670 v669 W666 _ l667 h668 => ?_) sc__law_refused.nd
      have h668 : Is K W666.G v669 (x670 : Bool) := h668
      have gg := gg.trans l667.g
      have h_0 := Rep.mono l667.g h_0
      have h_1 := Rep.mono l667.g h_1
      have h_2 := Rep.mono l667.g h_2
      have h_3 := Rep.mono l667.g h_3
      have h638 := Rep.mono l667.g h638
      have h662 := Rep.mono l667.g h662
      have ea658 := ea658.mono l667
      have l0 := l0.trans l667
      exact s_nil (fun h => h _ _ l0 gg ⟨_, _, _, rfl, h668⟩)
    · obtain ⟨a677_5, z677_6, z677_7, rfl, h677_5⟩ := jj
      have h_0 := Rep.mono g679 h_0
      have h_1 := Rep.mono g679 h_1
      have h_2 := Rep.mono g679 h_2
      have h_3 := Rep.mono g679 h_3
      have h638 := Rep.mono g679 h638
      exact s_ret (k := fun d => d) l0 (evr_and (evr_v 5 h677_5) (fun _ => (evr_one (evr_eqD (by have := hr.units; exact this) (evr_v 4 h638) (evr_l3 (evr_v 0 h_0) (evr_v 1 h_1) (evr_v 2 h_2)))))) (fun _ h => h)
/-! law -/
abbrev N_law : List Str := ["_law_script", "_law_rooms", "_law_held", "_law_wants", "_law_bad", "_law_due", "_law_found", "_law_k", "_law_need_here"]
theorem sc_law : FnScope N_law ["_law_script"] (defScope s_law) := ⟨rfl, rfl, rfl, by decide +kernel, rfl, by decide +kernel, by decide +kernel⟩
def m_law' (law_script : Scr) : Rs Bool :=
(((m__law_draw (Ar.mk law_script (Ar.mk (0 : Int) (Ar.mk (4 : Int) ())))).bind fun t687 => (Rs.ok ((1 : Int) + t687))).bind fun t697 => (bndR t697 (mapR (fun (d692 : Int) => (((((mulR (3 : Int) d692).bind fun t693 => (Rs.ok ((10 : Int) + t693))).bind fun t694 => (Rs.ok (Ar.mk t694 ()))).bind fun t695 => (Rs.ok (Ar.mk law_script t695))).bind fun t696 => (m__law_room t696))) (rng 0 t697)))).bind fun (x686 : (List Int)) =>
(bndR (x686.length : Int) (mapR (fun (d707 : Int) => (((((mulR (4 : Int) d707).bind fun t708 => (Rs.ok ((30 : Int) + t708))).bind fun t710 => (((idx x686 d707).bind fun t709 => (Rs.ok (Ar.mk t709 ()))).bind fun t711 => (Rs.ok (Ar.mk t710 t711)))).bind fun t712 => (Rs.ok (Ar.mk law_script t712))).bind fun t713 => (m__law_part t713))) (rng 0 (x686.length : Int)))).bind fun (x702 : (List Int)) =>
(m__law_needs (Ar.mk law_script (Ar.mk x686 ()))).bind fun (x718 : (List (List (Int × Int)))) =>
(m__law_spoilt (Ar.mk law_script (Ar.mk x686 (Ar.mk x718 ())))).bind fun (x723 : (List (List (Int × Int)))) =>
(m__law_first_bad (Ar.mk x686 (Ar.mk x723 ()))).bind fun (x728 : (Option Int)) =>
((m__law_refused (Ar.mk x686 (Ar.mk x702 (Ar.mk x723 (Ar.mk x728 ()))))).bind fun t731 => (Rs.ok (!t731))).bind fun c752 => if c752 = true then ((Rs.ok false).bind fun d => .ok d) else ((((((mapR (fun (d741 : (List (Int × Int))) => (Rs.ok d741)) x718).bind fun t742 => (Rs.ok (Ar.mk t742 ()))).bind fun t743 => (Rs.ok (Ar.mk x702 t743))).bind fun t744 => (Rs.ok (Ar.mk x686 t744))).bind fun t745 => (m_walks t745)).bind fun (x736 : ((List Int) × (List (T3 Int Int Int)))) =>
(if (!true) = true then .ok true else ((m__law_rising (Ar.mk x736.1 (Ar.mk (x718.length : Int) ()))).bind fun t748 => (Rs.ok (!t748)))).bind fun c750 => if c750 = true then ((Rs.ok false).bind fun d => .ok d) else (((m__law_never_dry (Ar.mk x686 (Ar.mk x702 (Ar.mk x718 (Ar.mk x736.1 ()))))).bind fun t749 => (if t749 = true then (m__law_refused (Ar.mk x686 (Ar.mk x702 (Ar.mk x723 (Ar.mk x728 ()))))) else .ok false)).bind fun d => .ok d))
@[irreducible] def m_law (a : (Ar Scr Unit)) : Rs Bool := m_law' (a.a)
theorem ok_law_fd (T : Tx K mg) {fd : FuncData} (F : FunD K "law" "law" (defArgs s_law) (defBody s_law) (defScope s_law) [] [] (He.ga K "law") fd) : FnOk P w K mg base (L2N.CX P w) 6 (He.ga K "law") fd ["_law_script"] (spOf K m_law) := by
  refine fn_ok (qual := "law") (x := "law") F sc_law (fun G vs a i => ?_) (fun cdv A outer s Q E W0 a vs hr i => ?_)
  · obtain ⟨v_0, _, rfl, h_0, rfl⟩ := i
    rfl
  · obtain ⟨law_script, ⟨⟩⟩ := a
    obtain ⟨v_0, _, rfl, h_0, rfl⟩ := i
    have l0 := Le.refl W0
    unfold m_law
    dsimp only
    unfold m_law'
    conv => arg 8; whnf
    refine s_asg 1 l0 (evr_lcG (nm := "_law_k") (j := 7) (f := (fun (d692 : Int) => (((((mulR (3 : Int) d692).bind fun t693 => (Rs.ok ((10 : Int) + t693))).bind fun t694 => (Rs.ok (Ar.mk t694 ()))).bind fun t695 => (Rs.ok (Ar.mk law_script t695))).bind fun t696 => (m__law_room t696)))) rfl sc_law.nd (blkOk_by (own := [("_law_k", 7)]) (N := N_law) (sc := defScope s_law) (by decide +kernel)) T.z_range (evr_add evr_int (evr_callF (EE := fun _ => E) (ok__law_draw T) (hr.mono (by decide)) pass_fn (eva_cons (evr_v 0 h_0) (eva_cons evr_int (eva_cons evr_int eva_nil))))) (fun _ _ _ _ _ => pg_name (i := 7) sc_law.nd rfl (Or.inl rfl)) (fun W688 d692 l689 _ _ _ _ _ => (evr_callF (EE := fun _ => E0) (ok__law_room T) (hr.mono (by decide)) passN0 (eva_cons (evr_v 0 (Rep.mono l689.g h_0)) (eva_cons (evr_add evr_int (evr_mul evr_int (evr_v 7 (show Is K W688.G (.int d692) d692 from rfl)))) eva_nil))))) (fun x686 v685 W682 _ l683 h684 => ?_) sc_law.nd
    have h684 : Is K W682.G v685 (x686 : (List Int)) := h684
    have h_0 := Rep.mono l683.g h_0
    have l0 := l0.trans l683
    refine s_asgLc 2 (ps_setLc (i := 2) (own := [("_law_k", 7)]) (g := gName 7) rfl sc_law.nd rfl rfl (sw_true rfl rfl rfl (by decide +kernel)) (pi_range1 rfl T.z_range (pa_cons pe_sem pa_nil)) (blkOk_by (own := [("_law_k", 7)]) (N := N_law) (sc := defScope s_law) (by decide +kernel)) (fun _ _ _ _ _ => pg_name (i := 7) sc_law.nd rfl (Or.inl rfl)) (fun _ _ _ _ _ => pts_nil) (fun s H0 C cl fp => pe_blk s H0 C cl fp)) l0 ?rf (fun x702 v701 W698 _ l699 h700 => ?_)
    case rf => exact RfN.rf (rf_lcG (f := (fun (d707 : Int) => (((((mulR (4 : Int) d707).bind fun t708 => (Rs.ok ((30 : Int) + t708))).bind fun t710 => (((idx x686 d707).bind fun t709 => (Rs.ok (Ar.mk t709 ()))).bind fun t711 => (Rs.ok (Ar.mk t710 t711)))).bind fun t712 => (Rs.ok (Ar.mk law_script t712))).bind fun t713 => (m__law_part t713)))) (evr_len (evl_r (evr_v 1 h684)) T.z_len) (fun W703 d707 l704 _ _ _ _ _ => (evr_callF (EE := fun _ => E0) (ok__law_part T) (hr.mono (by decide)) passN0 (eva_cons (evr_v 0 (Rep.mono l704.g h_0)) (eva_cons (evr_add evr_int (evr_mul evr_int (evr_v 7 (show Is K W703.G (.int d707) d707 from rfl)))) (eva_cons (evr_ix (evl_r (evr_v 1 (Rep.mono l704.g h684))) (evr_v 7 (show Is K W703.G (.int d707) d707 from rfl))) eva_nil))))))
    have h700 : Is K W698.G v701 (x702 : (List Int)) := h700
    have h_0 := Rep.mono l699.g h_0
    have h684 := Rep.mono l699.g h684
    have l0 := l0.trans l699
    refine s_asg 3 l0 (evr_callF (EE := fun _ => E) (ok__law_needs T) (hr.mono (by decide)) pass_fn (eva_cons (evr_v 0 h_0) (eva_cons (evr_v 1 h684) eva_nil))) (fun x718 v717 W714 _ l715 h716 => ?_) sc_law.nd
    have h716 : Is K W714.G v717 (x718 : (List (List (Int × Int)))) := h716
    have h_0 := Rep.mono l715.g h_0
    have h684 := Rep.mono l715.g h684
    have h700 := Rep.mono l715.g h700
    have l0 := l0.trans l715
    refine s_asg 4 l0 (evr_callF (EE := fun _ => E) (ok__law_spoilt T) (hr.mono (by decide)) pass_fn (eva_cons (evr_v 0 h_0) (eva_cons (evr_v 1 h684) (eva_cons (evr_v 3 h716) eva_nil)))) (fun x723 v722 W719 _ l720 h721 => ?_) sc_law.nd
    have h721 : Is K W719.G v722 (x723 : (List (List (Int × Int)))) := h721
    have h_0 := Rep.mono l720.g h_0
    have h684 := Rep.mono l720.g h684
    have h700 := Rep.mono l720.g h700
    have h716 := Rep.mono l720.g h716
    have l0 := l0.trans l720
    refine s_asg 5 l0 (evr_callF (EE := fun _ => E) (ok__law_first_bad T) (hr.mono (by decide)) pass_fn (eva_cons (evr_v 1 h684) (eva_cons (evr_v 4 h721) eva_nil))) (fun x728 v727 W724 _ l725 h726 => ?_) sc_law.nd
    have h726 : Is K W724.G v727 (x728 : (Option Int)) := h726
    have h_0 := Rep.mono l725.g h_0
    have h684 := Rep.mono l725.g h684
    have h700 := Rep.mono l725.g h700
    have h716 := Rep.mono l725.g h716
    have h721 := Rep.mono l725.g h721
    have l0 := l0.trans l725
    refine s_if l0 (evt_not (evt_val (evr_callF (EE := fun _ => E) (ok__law_refused T) (hr.mono (by decide)) pass_fn (eva_cons (evr_v 1 h684) (eva_cons (evr_v 2 h700) (eva_cons (evr_v 4 h721) (eva_cons (evr_v 5 h726) eva_nil))))))) (fun W729 e753 l730 => ?_) (fun W729 e753 l730 => ?_)
    · have h_0 := Rep.mono l730.g h_0
      have h684 := Rep.mono l730.g h684
      have h700 := Rep.mono l730.g h700
      have h716 := Rep.mono l730.g h716
      have h721 := Rep.mono l730.g h721
      have h726 := Rep.mono l730.g h726
      have l0 := l0.trans l730
      exact s_ret (k := fun d => d) l0 evr_bl (fun _ h => h)
    · have h_0 := Rep.mono l730.g h_0
      have h684 := Rep.mono l730.g h684
      have h700 := Rep.mono l730.g h700
      have h716 := Rep.mono l730.g h716
      have h721 := Rep.mono l730.g h721
      have h726 := Rep.mono l730.g h726
      have l0 := l0.trans l730
      refine s_end ?_
      refine s_asg 6 l0 (evr_callF (EE := fun _ => E) (ok_walks T) (hr.mono (by decide)) pass_fn (eva_cons (evr_list (evl_r (evr_v 1 h684)) T.z_list) (eva_cons (evr_list (evl_r (evr_v 2 h700)) T.z_list) (eva_cons (evr_lc (nm := "_law_need_here") (j := 8) (f := (fun (d741 : (List (Int × Int))) => (Rs.ok d741))) rfl sc_law.nd (blkOk_by (own := [("_law_need_here", 8)]) (N := N_law) (sc := defScope s_law) (by decide +kernel)) (evl_r (evr_v 3 h716)) (fun _ _ _ _ _ => pg_name (i := 8) sc_law.nd rfl (Or.inl rfl)) (fun W737 v740 (d741 : (List (Int × Int))) l738 (i739 : Is K W737.G v740 d741) _ _ _ _ _ => (evr_list (evl_r (evr_v 8 i739)) T.z_list))) eva_nil)))) (fun x736 v735 W732 _ l733 h734 => ?_) sc_law.nd
      have h734 : Is K W732.G v735 (x736 : ((List Int) × (List (T3 Int Int Int)))) := h734
      have h_0 := Rep.mono l733.g h_0
      have h684 := Rep.mono l733.g h684
      have h700 := Rep.mono l733.g h700
      have h716 := Rep.mono l733.g h716
      have h721 := Rep.mono l733.g h721
      have h726 := Rep.mono l733.g h726
      have l0 := l0.trans l733
      refine s_if l0 (evt_w (evw_or (evt_not (evt_val (evr_isi (g := fun _ => true) (evr_v 6 h734) T.z_tuple PyProof.Rows.boot_tuple T.z_isinstance (fun _ => by show kitB "tuple" "tuple" = _; decide +kernel)))) (fun _ => (evw_or1 (evt_not (evt_val (evr_callF (EE := fun _ => E) (ok__law_rising T) (hr.mono (by decide)) pass_fn (eva_cons (evr_fst (evr_v 6 h734)) (eva_cons (evr_len (evl_r (evr_v 3 h716)) T.z_len) eva_nil))))))))) (fun W746 e751 l747 => ?_) (fun W746 e751 l747 => ?_)
      · have h_0 := Rep.mono l747.g h_0
        have h684 := Rep.mono l747.g h684
        have h700 := Rep.mono l747.g h700
        have h716 := Rep.mono l747.g h716
        have h721 := Rep.mono l747.g h721
        have h726 := Rep.mono l747.g h726
        have h734 := Rep.mono l747.g h734
        have l0 := l0.trans l747
        exact s_ret (k := fun d => d) l0 evr_bl (fun _ h => h)
      · have h_0 := Rep.mono l747.g h_0
        have h684 := Rep.mono l747.g h684
        have h700 := Rep.mono l747.g h700
        have h716 := Rep.mono l747.g h716
        have h721 := Rep.mono l747.g h721
        have h726 := Rep.mono l747.g h726
        have h734 := Rep.mono l747.g h734
        have l0 := l0.trans l747
        refine s_end ?_
        exact s_ret (k := fun d => d) l0 (evr_and (evr_callF (EE := fun _ => E) (ok__law_never_dry T) (hr.mono (by decide)) pass_fn (eva_cons (evr_v 1 h684) (eva_cons (evr_v 2 h700) (eva_cons (evr_v 3 h716) (eva_cons (evr_fst (evr_v 6 h734)) eva_nil))))) (fun _ => (evr_one (evr_callF (EE := fun _ => E) (ok__law_refused T) (hr.mono (by decide)) pass_fn (eva_cons (evr_v 1 h684) (eva_cons (evr_v 2 h700) (eva_cons (evr_v 4 h721) (eva_cons (evr_v 5 h726) eva_nil)))))))) (fun _ h => h)
end
end K66

set_option maxHeartbeats 1000000
namespace K66
open PySem PySem.Spec PyProof.Rows L2 Wk
/-! ### the draws -/
theorem draw_ok (s : Scr) {k many : Int} (h : 0 < many) (k1 : -1000000 ≤ k) (k2 : k ≤ 1000000) : OkP (m__law_draw (Ar.mk s (Ar.mk k (Ar.mk many ())))) fun d => 0 ≤ d ∧ d < many := by
  unfold m__law_draw m__law_draw'
  dsimp only
  refine OkP.bind (P := fun _ => True) (.pure trivial) fun x _ => OkP.bind (P := fun _ => True) ?_ fun c _ => ?_
  · rw [bind_ok]
    by_cases hl : (0 : Int) < (s.l.length : Int)
    · rw [if_pos (by simpa using hl), modR_ok hl, bind_ok]
      have hm := mod_rng (i := k) hl
      exact OkP.bind (idx_mem (P := fun _ => True) hm.1 hm.2 fun _ _ => trivial) fun _ _ => .pure trivial
    · rw [if_neg (by simpa using hl)]
      exact .pure trivial
  · rw [modR_ok (by omega), bind_ok, mulR_l (by omega) (by omega), bind_ok, mulR_r (by omega) (by omega), bind_ok, bind_ok, mulR_l (by omega) (by omega), bind_ok, bind_ok, bind_ok, mulR_r (by omega) (by omega), bind_ok, modR_ok (by omega), bind_ok, modR_ok h, bind_ok]
    exact .pure (mod_rng h)
theorem great_ok (s : Scr) {k : Int} : OkP (m__law_great (Ar.mk s (Ar.mk k ()))) fun d => 0 ≤ d := by
  unfold m__law_great m__law_great'
  dsimp only
  rw [bind_ok]
  by_cases hl : (s.l.length : Int) = 0
  · rw [if_pos (by simpa using hl)]
    exact .pure (Int.le_refl _)
  · rw [if_neg (by simpa using hl), modR_ok (by omega), bind_ok]
    have hm := mod_rng (i := k) (j := (s.l.length : Int)) (by omega)
    refine OkP.bind (P := fun d => 0 ≤ d) (OkP.bind (idx_mem (P := fun _ => True) hm.1 hm.2 fun _ _ => trivial) fun x _ => ?_) fun d h => .pure h
    rw [show ((58 : Int)) = ((58 : Nat) : Int) from rfl, powR_ok (by omega) (by omega) (by omega), bind_ok, modR_ok (by decide)]
    exact .pure (mod_rng (by decide)).1
theorem room_ok (s : Scr) {k : Int} (k1 : 0 ≤ k) (k2 : k ≤ 100000) : OkP (m__law_room (Ar.mk s (Ar.mk k ()))) fun d => 1 ≤ d := by
  unfold m__law_room m__law_room'
  dsimp only
  refine OkP.bind (P := fun _ => True) (OkP.bind (draw_ok s (by omega) (by omega) (by omega)) fun d _ => .pure trivial) fun c _ => ?_
  cases c with
  | true =>
    rw [if_pos rfl]
    exact OkP.bind (P := fun d => 1 ≤ d) (OkP.bind (great_ok s) fun d h => .pure (by omega)) fun d h => .pure h
  | false =>
    rw [if_neg (by simp)]
    exact OkP.bind (P := fun d => 1 ≤ d) (OkP.bind (draw_ok s (by omega) (by omega) (by omega)) fun d h => .pure (by omega)) fun d h => .pure h
theorem part_ok (s : Scr) {k room : Int} (hr : 1 ≤ room) (k1 : 0 ≤ k) (k2 : k ≤ 100000) : OkP (m__law_part (Ar.mk s (Ar.mk k (Ar.mk room ())))) fun d => 0 ≤ d ∧ d ≤ room := by
  unfold m__law_part m__law_part'
  dsimp only
  refine OkP.bind (P := fun d => 0 ≤ d ∧ d ≤ room) (OkP.bind (draw_ok s (by omega) (by omega) (by omega)) fun d _ => ?_) fun x hx => ?_
  · rw [modR_ok (by omega)]
    have := mod_rng (i := d) (j := room + 1) (by omega)
    exact .pure (by omega)
  · rw [divR_ok (by omega) (by omega), bind_ok]
    obtain ⟨g, eg, hg⟩ := great_ok s (k := k + 2)
    rw [eg, bind_ok, modR_ok (by omega)]
    simp only [bnd]
    refine OkP.bind (P := fun d => 0 ≤ d ∧ d ≤ room) (OkP.bind (draw_ok s (by omega) (by omega) (by omega)) fun d hd => ?_) fun d h => .pure h
    refine idx_mem hd.1 (by simpa using hd.2) fun y hy => ?_
    have hm := mod_rng (i := g) (j := room + 1) (by omega)
    simp only [List.mem_cons, List.not_mem_nil, or_false] at hy
    rcases hy with rfl | rfl | rfl | rfl | rfl | rfl <;> omega
/-! ### rooms, needs -/
/-- a job's needs fit the rooms: trays there are, each at most once, no more than the room -/
structure Fits (R : List Int) (job : List (Int × Int)) : Prop where
  tr : ∀ e ∈ job, 0 ≤ e.1 ∧ e.1 < R.length
  le : ∀ e ∈ job, e.2 ≤ R.getD e.1.toNat 0
  nd : (job.map (·.1)).Nodup
  sz : job.length ≤ 4
theorem getD_of {R : List Int} {t : Int} (h0 : 0 ≤ t) (h : t < R.length) : idx R t = .ok (R.getD t.toNat 0) := by
  rw [idx_ok h0 h]
  congr 1
  rw [List.getD_eq_getElem?_getD, List.getElem?_eq_getElem (by omega)]
  rfl
theorem need_ok (s : Scr) {k : Int} {R : List Int} (hR : ∀ r ∈ R, 1 ≤ r) (h1 : 1 ≤ R.length) (h4 : R.length ≤ 4) (k1 : 0 ≤ k) (k2 : k ≤ 10000) : OkP (m__law_need (Ar.mk s (Ar.mk k (Ar.mk R ())))) (Fits R) := by
  unfold m__law_need m__law_need'
  dsimp only
  rw [bind_ok]
  refine OkP.bind (draw_ok s (by omega) (by omega) (by omega)) fun turn ht => ?_
  rw [bind_ok, bndR_in (by omega) (by omega)]
  refine OkP.bind (P := Fits R) ?_ fun d h => .pure h
  have key := foldR_ok (xs := rng 0 (R.length : Int)) (k := 0) (s := ([] : List (Int × Int)))
    (I := fun n s => s.length ≤ n ∧ (∀ e ∈ s, (0 ≤ e.1 ∧ e.1 < R.length) ∧ e.2 ≤ R.getD e.1.toNat 0 ∧ ∃ j : Int, 0 ≤ j ∧ j < n ∧ e.1 = (turn + j) % (R.length : Int)) ∧ (s.map (·.1)).Nodup)
    (step := fun (s84 : (List (Int × Int))) (d85 : Int) => (modR (turn + d85) (R.length : Int)).bind fun (x97 : Int) =>
((m__law_draw (Ar.mk s (Ar.mk ((k + (1 : Int)) + d85) (Ar.mk (3 : Int) ())))).bind fun t100 => (Rs.ok (decide ((0 : Int) < t100)))).bind fun c115 => if c115 = true then (((((((mulR (7 : Int) d85).bind fun t101 => (Rs.ok ((k + (5 : Int)) + t101))).bind fun t103 => (((idx R x97).bind fun t102 => (Rs.ok (Ar.mk t102 ()))).bind fun t104 => (Rs.ok (Ar.mk t103 t104)))).bind fun t105 => (Rs.ok (Ar.mk s t105))).bind fun t106 => (m__law_part t106)).bind fun t107 => (Rs.ok (x97, t107))).bind fun d => (appR s84 d).bind fun (x108 : (List (Int × Int))) =>
.ok x108) else (.ok s84))
    ⟨Nat.le_refl _, fun e he => absurd he (by simp), by simp⟩ fun i st j hj ⟨hl, hm, hn⟩ => ?_
  · refine key.imp fun st ⟨hl, hm, hn⟩ => ⟨fun e he => (hm e he).1, fun e he => (hm e he).2.1, hn, ?_⟩
    rw [rng_len] at hl
    omega
  · obtain ⟨rfl, hi⟩ := rng_at hj
    have hm2 := mod_rng (i := turn + (i : Int)) (j := (R.length : Int)) (by omega)
    rw [modR_ok (by omega), bind_ok]
    refine OkP.bind (P := fun _ => True) (OkP.bind (draw_ok s (by omega) (by omega) (by omega)) fun d _ => .pure trivial) fun c _ => ?_
    cases c with
    | false =>
      rw [if_neg (by simp)]
      exact .pure ⟨by omega, fun e he => ⟨(hm e he).1, (hm e he).2.1, let ⟨j, a, b, c⟩ := (hm e he).2.2; ⟨j, a, by omega, c⟩⟩, hn⟩
    | true =>
      rw [if_pos rfl, mulR_l (by omega) (by omega), bind_ok, bind_ok, getD_of hm2.1 hm2.2]
      simp only [bnd]
      have hroom : 1 ≤ R.getD ((turn + (i : Int)) % (R.length : Int)).toNat 0 := by
        rw [List.getD_eq_getElem?_getD, List.getElem?_eq_getElem (by omega)]
        exact hR _ (List.getElem_mem _)
      obtain ⟨p, ep, hp⟩ := part_ok s hroom (k := k + 5 + 7 * (i : Int)) (by omega) (by omega)
      rw [ep]
      simp only [bnd]
      rw [appR_ok (by omega)]
      refine .pure ⟨by simp; omega, fun e he => ?_, ?_⟩
      · rcases List.mem_append.mp he with he | he
        · exact ⟨(hm e he).1, (hm e he).2.1, let ⟨j, a, b, c⟩ := (hm e he).2.2; ⟨j, a, by omega, c⟩⟩
        · obtain rfl : e = ((turn + (i : Int)) % (R.length : Int), p) := by simpa using he
          exact ⟨hm2, hp.2, (i : Int), by omega, by omega, rfl⟩
      · rw [List.map_append, List.nodup_append]
        refine ⟨hn, by simp, fun a ha b hb => ?_⟩
        obtain rfl : b = (turn + (i : Int)) % (R.length : Int) := by simpa using hb
        obtain ⟨e, he, rfl⟩ := List.mem_map.mp ha
        obtain ⟨j, j1, j2, ej⟩ := (hm e he).2.2
        rw [ej]
        have hc : R.length = 1 ∨ R.length = 2 ∨ R.length = 3 ∨ R.length = 4 := by omega
        rcases hc with hc | hc | hc | hc <;> rw [hc] <;> rw [hc] at hi ht <;> omega
theorem needs_ok (s : Scr) {R : List Int} (hR : ∀ r ∈ R, 1 ≤ r) (h1 : 1 ≤ R.length) (h4 : R.length ≤ 4) : OkP (m__law_needs (Ar.mk s (Ar.mk R ()))) fun ws => 1 ≤ ws.length ∧ ws.length ≤ 100 ∧ ∀ job ∈ ws, Fits R job := by
  unfold m__law_needs m__law_needs'
  dsimp only
  refine OkP.bind (P := fun x => 1 ≤ x ∧ x ≤ 100) (OkP.bind (draw_ok s (by omega) (by omega) (by omega)) fun d h => .pure (by omega)) fun x hx => ?_
  refine OkP.bind (P := fun x => 1 ≤ x ∧ x ≤ 100) (OkP.bind (P := fun _ => True) (OkP.bind (draw_ok s (by omega) (by omega) (by omega)) fun d _ => .pure trivial) fun c _ => ?_) fun n hn => ?_
  · cases c with
    | false =>
      rw [if_neg (by simp)]
      exact .pure hx
    | true =>
      rw [if_pos rfl]
      exact OkP.bind (P := fun x => 1 ≤ x ∧ x ≤ 100) (OkP.bind (draw_ok s (by omega) (by omega) (by omega)) fun d h => .pure (by omega)) fun y hy => .pure hy
  · rw [bndR_in (by omega) (by omega)]
    have hlen : (rng 0 n).length = n.toNat := by rw [rng_len, Int.sub_zero]
    refine OkP.bind (mapR_ok (P := fun _ job => Fits R job) (by rw [hlen]; omega) fun j hj => ?_) fun ws hw => .pure ⟨?_, ?_, fun y hy => paired_all (P := fun _ job => Fits R job) (Q := Fits R) (fun _ _ h => h) hw y hy⟩
    · have := rng_mem hj
      rw [mulR_l (by omega) (by omega)]
      simp only [bnd]
      exact need_ok s hR h1 h4 (by omega) (by omega)
    · have := paired_len hw
      omega
    · have := paired_len hw
      omega
/-! ### jobs that need more than a room -/
def badE (R : List Int) (e : Int × Int) : Bool := decide (R.getD e.1.toNat 0 < e.2)
def badJ (R : List Int) (job : List (Int × Int)) : Bool := job.any (badE R)
/-- the trays are there -/
def Trays (R : List Int) (job : List (Int × Int)) : Prop := ∀ e ∈ job, 0 ≤ e.1 ∧ e.1 < R.length
theorem fits_good {R : List Int} {job : List (Int × Int)} (h : Fits R job) : badJ R job = false := by
  unfold badJ
  rw [List.any_eq_false]
  intro e he
  have := h.le e he
  intro hb
  have := of_decide_eq_true hb
  omega
theorem find_badE {R : List Int} {job : List (Int × Int)} : (∃ e, job.find? (badE R) = some e) ↔ badJ R job = true := by
  unfold badJ
  rw [List.any_eq_true]
  constructor
  · rintro ⟨e, he⟩
    exact ⟨e, List.mem_of_find?_eq_some he, List.find?_some he⟩
  · rintro ⟨e, h1, h2⟩
    cases hf : job.find? (badE R) with
    | some x => exact ⟨x, rfl⟩
    | none =>
      have := List.find?_eq_none.mp hf e h1
      exact absurd h2 this
theorem look_ok {R : List Int} {ws : List (List (Int × Int))} (ht : ∀ job ∈ ws, Trays R job) : m_look_at_needs (Ar.mk R (Ar.mk ws ())) = match ((rng 0 (ws.length : Int)).zip ws).find? (fun p => badJ R p.2) with
    | some p => .er (.noWay p.1)
    | none => .ok () := by
  unfold m_look_at_needs m_look_at_needs'
  dsimp only
  rw [bind_ok, fold_find (b := fun p : Int × List (Int × Int) => badJ R p.2) (f := fun p => Exn.noWay p.1)]
  · cases ((rng 0 (ws.length : Int)).zip ws).find? (fun p => badJ R p.2) <;> rfl
  · rintro ⟨p, job⟩ hp
    have hj : job ∈ ws := (List.of_mem_zip hp).2
    rw [bind_ok]
    dsimp only
    rw [fold_find (b := badE R) (f := fun _ => Exn.noWay p)]
    · cases hb : badJ R job with
      | true =>
        obtain ⟨e, he⟩ := find_badE.mpr hb
        rw [he]
        rfl
      | false =>
        cases hf : job.find? (badE R) with
        | some e =>
          have := find_badE.mp ⟨e, hf⟩
          rw [hb] at this
          cases this
        | none => rfl
    · intro e he
      have := ht job hj e he
      rw [getD_of this.1 this.2, bind_ok, bind_ok]
      rfl
theorem find_congr {α : Type} {p q : α → Bool} : ∀ {l : List α}, (∀ x ∈ l, p x = q x) → l.find? p = l.find? q
  | [], _ => rfl
  | x :: l, h => by
    rw [List.find?_cons, List.find?_cons, h x (by simp), find_congr fun y hy => h y (by simp [hy])]
theorem first_bad_ok {R : List Int} {ws : List (List (Int × Int))} (hz : ws.length ≤ 1000) (ht : ∀ job ∈ ws, Trays R job) : m__law_first_bad (Ar.mk R (Ar.mk ws ())) = .ok ((((rng 0 (ws.length : Int)).zip ws).find? (fun p => badJ R p.2)).map (·.1)) := by
  unfold m__law_first_bad m__law_first_bad'
  dsimp only
  rw [bind_ok, bndR_in (by omega) (by omega)]
  have hfst : ((rng 0 (ws.length : Int)).zip ws).map (·.1) = rng 0 (ws.length : Int) := List.map_fst_zip (by rw [rng_len]; omega)
  have hat : ∀ i ∈ rng 0 (ws.length : Int), ∃ job, (i, job) ∈ (rng 0 (ws.length : Int)).zip ws ∧ idx ws i = .ok job := fun i hi => by
    have hb := rng_mem hi
    refine ⟨ws[i.toNat]'(by omega), ?_, idx_ok hb.1 hb.2⟩
    rw [List.mem_iff_getElem?]
    refine ⟨i.toNat, ?_⟩
    rw [List.getElem?_zip_eq_some]
    refine ⟨?_, List.getElem?_eq_getElem (by omega)⟩
    rw [rng_get (by omega)]
    congr 1
    omega
  have pair : ∀ p ∈ (rng 0 (ws.length : Int)).zip ws, idx ws p.1 = .ok p.2 := fun p hp => by
    obtain ⟨k, hk⟩ := List.mem_iff_getElem?.mp hp
    rw [List.getElem?_zip_eq_some] at hk
    obtain ⟨h1, h2⟩ := hk
    have := rng_at h1
    have hk2 := (List.getElem?_eq_some_iff.mp h2)
    rw [this.1, idx_ok (by omega) (by omega)]
    congr 1
    obtain ⟨hk3, e⟩ := hk2
    rw [← e]
    congr 1
  rw [loop_find (b := fun i : Int => match idx ws i with | .ok job => badJ R job | _ => false) (f := fun i => some i)]
  · have e : (rng 0 (ws.length : Int)).find? (fun i => match idx ws i with | .ok job => badJ R job | _ => false) = (((rng 0 (ws.length : Int)).zip ws).find? (fun p => badJ R p.2)).map (·.1) := by
      conv => lhs; rw [← hfst]
      rw [List.find?_map]
      congr 1
      refine find_congr fun p hp => ?_
      show (match idx ws p.1 with | .ok job => badJ R job | _ => false) = _
      rw [pair p hp]
    rw [← e]
    cases (rng 0 (ws.length : Int)).find? (fun i => match idx ws i with | .ok job => badJ R job | _ => false) <;> rfl
  · intro i hi
    obtain ⟨job, hp, ej⟩ := hat i hi
    have hj : job ∈ ws := (List.of_mem_zip hp).2
    rw [ej, bind_ok, loop_find (b := badE R) (f := fun _ => some i)]
    · show _ = if badJ R job = true then _ else _
      cases hb : badJ R job with
      | true =>
        obtain ⟨e, he⟩ := find_badE.mpr hb
        rw [he]
        rfl
      | false =>
        cases hf : job.find? (badE R) with
        | some e =>
          have := find_badE.mp ⟨e, hf⟩
          rw [hb] at this
          cases this
        | none => rfl
    · intro e he
      have := ht job hj e he
      rw [getD_of this.1 this.2, bind_ok, bind_ok]
      rfl
/-! ### spoilt jobs -/
theorem mem_set_of {α : Type} {l : List α} {n : Nat} {x y : α} (h : y ∈ l.set n x) : y = x ∨ y ∈ l := by
  obtain ⟨k, hk⟩ := List.mem_iff_getElem?.mp h
  by_cases e : n = k
  · subst e
    rw [List.getElem?_set_self'] at hk
    cases hl : l[n]? with
    | none =>
      rw [hl] at hk
      cases hk
    | some z =>
      rw [hl] at hk
      cases hk
      exact .inl rfl
  · rw [List.getElem?_set_ne e] at hk
    exact .inr (List.mem_of_getElem? hk)
theorem spoilt_ok (s : Scr) {R : List Int} {ws : List (List (Int × Int))} (h1 : 1 ≤ R.length) (h4 : R.length ≤ 4) (hw1 : 1 ≤ ws.length) (hw2 : ws.length ≤ 100) (hf : ∀ job ∈ ws, Fits R job) :
    OkP (m__law_spoilt (Ar.mk s (Ar.mk R (Ar.mk ws ())))) fun bs => bs.length = ws.length ∧ (∀ job ∈ bs, Trays R job) ∧ ∃ job ∈ bs, badJ R job = true := by
  unfold m__law_spoilt m__law_spoilt'
  dsimp only
  rw [mapR_id (by omega), bind_ok]
  obtain ⟨d, ed, hd⟩ := draw_ok s (k := 5) (many := 3) (by omega) (by omega) (by omega)
  rw [ed, bind_ok, bind_ok, bndR_in (by omega) (by omega)]
  refine OkP.bind (foldR_ok0 (fun n s => s.length = ws.length ∧ (∀ job ∈ s, Trays R job ∧ job.length ≤ 4 + n) ∧ (0 < n → ∃ job ∈ s, badJ R job = true)) ⟨rfl, fun job hj => ⟨(hf job hj).tr, by have := (hf job hj).sz; omega⟩, fun z => absurd z (Nat.lt_irrefl 0)⟩ fun i st j hj ⟨hl, hm, _⟩ => ?_) fun bs ⟨a, b, c⟩ => .pure ⟨a, fun job hj => (b job hj).1, c (by rw [rng_len]; omega)⟩
  · have hi : i < (1 + d - 0).toNat := by
      have := (List.getElem?_eq_some_iff.mp hj).1
      rw [rng_len] at this
      exact this
    rw [rng_get hi] at hj
    obtain rfl : 0 + (i : Int) = j := Option.some.inj hj
    rw [mulR_l (by omega) (by omega)]
    simp only [bnd]
    refine OkP.bind (draw_ok s (by omega) (by omega) (by omega)) fun place hp => OkP.bind (draw_ok s (by omega) (by omega) (by omega)) fun tray ht => ?_
    refine OkP.bind (P := fun m => 1 ≤ m) (OkP.bind (P := fun x => 0 ≤ x) (OkP.bind (P := fun l => l.length = 2 ∧ ∀ x ∈ l, 0 ≤ x) (OkP.bind (P := fun l => l.length = 1 ∧ ∀ x ∈ l, (0 : Int) ≤ x) (OkP.bind (great_ok s) fun g hg => .pure ⟨rfl, fun x hx => by
      obtain rfl : x = g := by simpa using hx
      exact hg⟩) fun l hl => .pure ⟨by simp [hl.1], fun x hx => by
      rcases List.mem_cons.mp hx with rfl | hx
      · exact Int.le_refl _
      · exact hl.2 x hx⟩) fun l hl => OkP.bind (draw_ok s (by omega) (by omega) (by omega)) fun w hw => idx_mem hw.1 (by rw [hl.1]; exact hw.2) hl.2) fun x hx => .pure (by omega)) fun more hmore => ?_
    rw [idx_ok hp.1 (by rw [hl]; exact hp.2), bind_ok]
    generalize hold : st[place.toNat]'(by omega) = old
    have hmo : old ∈ st := by rw [← hold]; exact List.getElem_mem _
    have hold2 := hm old hmo
    rw [lcR_ok' (t := fun d232 : Int × Int => !decide (d232.1 = tray)) (f := fun d => d) (by omega), bind_ok]
    generalize hoth : ((old.filter fun d232 : Int × Int => !decide (d232.1 = tray)).map fun d => d) = oth
    have ho1 : oth.length ≤ old.length := by
      rw [← hoth, List.length_map]
      exact List.length_filter_le _ _
    have ho2 : ∀ e ∈ oth, e ∈ old := fun e he => by
      rw [← hoth, List.map_id'] at he
      exact (List.mem_filter.mp he).1
    refine OkP.bind (draw_ok s (by omega) (by omega) (by omega)) fun at_ hat => ?_
    rw [getD_of ht.1 ht.2]
    simp only [bnd]
    have c1 := cut_len (x := oth) (a := none) (b := some at_)
    have c2 := cut_len (x := oth) (a := some at_) (b := none)
    have c3 : (cut oth none (some at_)).length + (cut oth (some at_) none).length ≤ oth.length := by
      unfold cut
      rw [List.length_take, List.length_take, List.length_drop, List.length_drop]
      have e1 : HT.sIx oth.length 0 none = 0 := rfl
      have e2 : HT.sIx oth.length oth.length none = oth.length := rfl
      have e3 : HT.sIx oth.length oth.length (some at_) = HT.sIx oth.length 0 (some at_) := rfl
      rw [e1, e2, e3]
      omega
    have z1 : (cut oth none (some at_)).length + [(tray, R.getD tray.toNat 0 + more)].length ≤ 100000 := by
      rw [List.length_singleton]
      omega
    have z2 : (cut oth none (some at_) ++ [(tray, R.getD tray.toNat 0 + more)]).length + (cut oth (some at_) none).length ≤ 100000 := by
      rw [List.length_append, List.length_singleton]
      omega
    rw [catR_ok z1, bind_ok, catR_ok z2, bind_ok, setR_ok hp.1 (by rw [hl]; exact hp.2), bind_ok]
    refine .pure ⟨by rw [List.length_set]; exact hl, fun job hjob => ?_, fun _ => ⟨_, List.mem_set (by omega) _, ?_⟩⟩
    · rcases mem_set_of hjob with rfl | hjob
      · refine ⟨fun e he => ?_, ?_⟩
        · rcases List.mem_append.mp he with he | he
          · rcases List.mem_append.mp he with he | he
            · exact hold2.1 e (ho2 e (cut_mem he))
            · obtain rfl : e = (tray, R.getD tray.toNat 0 + more) := by simpa using he
              exact ht
          · exact hold2.1 e (ho2 e (cut_mem he))
        · have := hold2.2
          simp only [List.length_append, List.length_cons, List.length_nil]
          omega
      · exact ⟨(hm job hjob).1, by have := (hm job hjob).2; omega⟩
    · unfold badJ
      rw [List.any_eq_true]
      refine ⟨(tray, R.getD tray.toNat 0 + more), by simp, ?_⟩
      unfold badE
      exact decide_eq_true (show R.getD tray.toNat 0 < R.getD tray.toNat 0 + more by omega)
/-! ### the hand's ways -/
def shE (left : List Int) (e : Int × Int) : Bool := decide (left.getD e.1.toNat 0 < e.2)
def shJ (left : List Int) (job : List (Int × Int)) : Bool := job.any (shE left)
def sub1 (left : List Int) (e : Int × Int) : List Int := left.set e.1.toNat (left.getD e.1.toNat 0 - e.2)
def subJ (left : List Int) (job : List (Int × Int)) : List Int := job.foldl sub1 left
theorem subJ_len (left : List Int) (job : List (Int × Int)) : (subJ left job).length = left.length := by
  unfold subJ
  induction job generalizing left with
  | nil => rfl
  | cons e job ih =>
    rw [List.foldl_cons, ih]
    unfold sub1
    rw [List.length_set]
def ways (R : List Int) : Int → List Int → List (List (Int × Int)) → List Int
  | _, _, [] => []
  | i, left, job :: r => (if shJ left job = true then [i] else []) ++ ways R (i + 1) (subJ (if shJ left job = true then R else left) job) r
theorem ways_rng {R : List Int} : ∀ {ws : List (List (Int × Int))} {i : Int} {left : List Int}, ∀ x ∈ ways R i left ws, i ≤ x ∧ x < i + ws.length
  | [], _, _, x, h => by simp [ways] at h
  | job :: r, i, left, x, h => by
    unfold ways at h
    rcases List.mem_append.mp h with h | h
    · have : x = i := by
        by_cases hs : shJ left job = true
        · rw [if_pos hs] at h
          simpa using h
        · rw [if_neg hs] at h
          simp at h
      rw [this, List.length_cons]
      omega
    · have := ways_rng x h
      rw [List.length_cons]
      omega
theorem short_ok {left : List Int} {job : List (Int × Int)} (ht : Trays left job) : m_short_tray (Ar.mk left (Ar.mk job ())) = .ok ((job.find? (shE left)).map (·.1)) := by
  unfold m_short_tray m_short_tray'
  dsimp only
  rw [bind_ok, loop_find (b := shE left) (f := fun e => some e.1)]
  · cases job.find? (shE left) <;> rfl
  · intro e he
    have := ht e he
    rw [getD_of this.1 this.2, bind_ok, bind_ok]
    rfl
theorem find_shE {left : List Int} {job : List (Int × Int)} : (job.find? (shE left)).isSome = shJ left job := by
  unfold shJ
  induction job with
  | nil => rfl
  | cons e job ih =>
    cases h : shE left e <;> simp [h, ih]
def sstep (s : List Int) (d : Int × Int) : Rs (List Int) := ((idx s d.1).bind fun t => (Rs.ok (t - d.2))).bind fun x => (Rs.ok d.1).bind fun j => (setR s j x).bind fun (y : List Int) => .ok y
theorem sstep_ok {left : List Int} {e : Int × Int} (h : 0 ≤ e.1 ∧ e.1 < left.length) : sstep left e = .ok (sub1 left e) := by
  unfold sstep
  rw [getD_of h.1 h.2, bind_ok, bind_ok, bind_ok, setR_ok h.1 h.2, bind_ok]
  rfl
theorem sub_fold {job : List (Int × Int)} {left : List Int} (ht : Trays left job) : foldR sstep left job = .ok (subJ left job) := by
  induction job generalizing left with
  | nil => rfl
  | cons e job ih =>
    unfold foldR
    rw [sstep_ok (ht e (by simp)), bind_ok]
    exact ih (left := sub1 left e) fun e' he' => by
      have := ht e' (by simp [he'])
      unfold sub1
      rw [List.length_set]
      exact this
theorem rng_nil {a b : Int} (h : b ≤ a) : rng a b = [] := by
  unfold rng
  rw [show (b - a).toNat = 0 from by omega]
  rfl
theorem rng_cons {a b : Int} (h : a < b) : rng a b = a :: rng (a + 1) b := by
  unfold rng
  rw [show (b - a).toNat = (b - (a + 1)).toNat + 1 from by omega, List.range_succ_eq_map, List.map_cons, List.map_map]
  congr 1
  · simp
  · apply List.map_congr_left
    intro k _
    show a + ((k + 1 : Nat) : Int) = a + 1 + (k : Int)
    omega
abbrev WS : Type := (List Int) × (List (T3 Int Int Int)) × Int × (List Int)
def wstep (R : List Int) (s515 : WS) (d516 : Int × List (Int × Int)) : Rs WS := (Rs.noer (m_short_tray (Ar.mk s515.2.2.2 (Ar.mk d516.2 ())))).bind fun (x530 : (Option Int)) =>
(optR x530 (fun (t537 : Int) => (Rs.ok d516.1).bind fun d => (appR s515.1 d).bind fun (x539 : (List Int)) =>
(Rs.ok (T3.mk t537 s515.2.2.1 d516.1)).bind fun d => (appR s515.2.1 d).bind fun (x546 : (List (T3 Int Int Int))) =>
(Rs.ok (d516.1 + (1 : Int))).bind fun (x557 : Int) =>
(Rs.ok R).bind fun (x563 : (List Int)) =>
.ok (x539, x546, x557, x563)) (.ok (s515.1, s515.2.1, s515.2.2.1, s515.2.2.2)) : Rs WS).bind fun (s573 : WS) =>
(Rs.ok d516.2).bind fun xs599 => (foldR sstep s573.2.2.2 xs599).bind fun (s595 : (List Int)) =>
.ok (s573.1, s573.2.1, s573.2.2.1, s595)
theorem wstep_no {R left : List Int} {wy : List Int} {wn : List (T3 Int Int Int)} {sn i : Int} {job : List (Int × Int)} (ht : Trays left job) (hs : shJ left job = false) : wstep R (wy, wn, sn, left) (i, job) = .ok (wy, wn, sn, subJ left job) := by
  unfold wstep
  dsimp only
  rw [short_ok ht]
  have hf := find_shE (left := left) (job := job)
  cases hq : job.find? (shE left) with
  | some e =>
    rw [hq, hs] at hf
    cases hf
  | none =>
    show (foldR sstep left job).bind _ = _
    rw [sub_fold ht]
    rfl
theorem wstep_yes {R left : List Int} {wy : List Int} {wn : List (T3 Int Int Int)} {sn i : Int} {job : List (Int × Int)} (ht : Trays left job) (htR : Trays R job) (hs : shJ left job = true) (h1 : wy.length < 1000) (h2 : wn.length < 1000) : ∃ t, wstep R (wy, wn, sn, left) (i, job) = .ok (wy ++ [i], wn ++ [⟨t, sn, i⟩], i + 1, subJ R job) := by
  unfold wstep
  dsimp only
  rw [short_ok ht]
  have hf := find_shE (left := left) (job := job)
  cases hq : job.find? (shE left) with
  | none =>
    rw [hq, hs] at hf
    cases hf
  | some e =>
    refine ⟨e.1, ?_⟩
    show ((appR wy i).bind fun x539 => (appR wn ⟨e.1, sn, i⟩).bind fun x546 => Rs.ok (x539, x546, i + 1, R)).bind (fun s573 : WS => (foldR sstep s573.2.2.2 job).bind fun s595 => Rs.ok (s573.1, s573.2.1, s573.2.2.1, s595)) = _
    rw [appR_ok (by omega), bind_ok, appR_ok (by omega), bind_ok, bind_ok]
    show (foldR sstep R job).bind _ = _
    rw [sub_fold htR]
    rfl
theorem walk_fold {R : List Int} : ∀ {ws : List (List (Int × Int))} {i : Int} {wy : List Int} {wn : List (T3 Int Int Int)} {sn : Int} {left : List Int}, left.length = R.length → (∀ job ∈ ws, Trays R job) → wy.length + ws.length < 1000 → wn.length + ws.length < 1000 →
    OkP (foldR (wstep R) (wy, wn, sn, left) ((rng i (i + ws.length)).zip ws)) fun s => s.1 = wy ++ ways R i left ws
  | [], i, wy, wn, sn, left, hl, _, _, _ => by
    rw [rng_nil (by simp)]
    exact ⟨_, rfl, by simp [ways]⟩
  | job :: r, i, wy, wn, sn, left, hl, ht, h1, h2 => by
    rw [List.length_cons] at h1 h2
    rw [rng_cons (by rw [List.length_cons]; omega), List.zip_cons_cons]
    unfold foldR
    have htj : Trays left job := fun e he => by
      rw [hl]
      exact ht job (by simp) e he
    have hr : ∀ wy' wn' sn' left', left'.length = R.length → wy'.length ≤ wy.length + 1 → wn'.length ≤ wn.length + 1 → OkP (foldR (wstep R) (wy', wn', sn', left') ((rng (i + 1) (i + (job :: r).length)).zip r)) fun s => s.1 = wy' ++ ways R (i + 1) left' r := fun wy' wn' sn' left' e1 e2 e3 => by
      rw [show i + ((job :: r).length : Int) = i + 1 + (r.length : Int) from by rw [List.length_cons]; omega]
      exact walk_fold e1 (fun job hj => ht job (by simp [hj])) (by omega) (by omega)
    unfold ways
    by_cases hs : shJ left job = true
    · obtain ⟨t, e⟩ := wstep_yes (R := R) (wy := wy) (wn := wn) (sn := sn) (i := i) htj (ht job (by simp)) hs (by omega) (by omega)
      rw [e, bind_ok, if_pos hs, if_pos hs, ← List.append_assoc]
      exact hr (wy ++ [i]) _ (i + 1) (subJ R job) (by rw [subJ_len]) (by simp) (by simp)
    · rw [wstep_no htj (by simpa using hs), bind_ok, if_neg hs, if_neg hs, List.nil_append]
      exact hr wy wn sn (subJ left job) (by rw [subJ_len, hl]) (by omega) (by omega)
theorem walks_ok {R held : List Int} {ws : List (List (Int × Int))} (hl : held.length = R.length) (hw : ws.length ≤ 100) (hf : ∀ job ∈ ws, Fits R job) : OkP (m_walks (Ar.mk R (Ar.mk held (Ar.mk ws ())))) fun s => s.1 = ways R 0 held ws := by
  unfold m_walks m_walks'
  dsimp only
  rw [look_ok fun job hj => (hf job hj).tr]
  have hn : ((rng 0 (ws.length : Int)).zip ws).find? (fun p => badJ R p.2) = none := by
    rw [List.find?_eq_none]
    intro p hp
    rw [fits_good (hf p.2 (List.of_mem_zip hp).2)]
    simp
  rw [hn]
  simp only [bnd]
  have := walk_fold (R := R) (ws := ws) (i := 0) (wy := []) (wn := []) (sn := 0) hl (fun job hj => (hf job hj).tr) (by simp; omega) (by simp; omega)
  rw [Int.zero_add] at this
  obtain ⟨s, es, hs⟩ := this
  have es' : foldR (wstep R) ([], [], 0, held) ((rng 0 (ws.length : Int)).zip ws) = .ok s := es
  exact OkP.bind (P := fun s => s.1 = ways R 0 held ws) ⟨s, es', by simpa using hs⟩ fun s hs => .pure hs
/-! ### what the law makes of it -/
def rstep (most : Int) (s302 : Int) (d303 : Int) : Rs (Fl Int Bool) := (((m__law_whole (Ar.mk d303 ())).bind fun t313 => (Rs.ok (!t313))).bind fun t314 => (if t314 = true then .ok true else (Rs.ok ((decide (d303 ≤ s302)) || (decide (most ≤ d303)))))).bind fun c320 => if c320 = true then ((Rs.ok false).bind fun d => .ok (.rt d)) else ((Rs.ok d303).bind fun (x319 : Int) =>
.ok (.nx x319))
theorem rstep_ok {most a x : Int} (h1 : a < x) (h2 : x < most) : rstep most a x = .ok (.nx x) := by
  unfold rstep
  have hw : m__law_whole (Ar.mk x ()) = .ok true := by
    unfold m__law_whole m__law_whole'
    rfl
  rw [hw, bind_ok, bind_ok, if_neg (by simp), bind_ok, decide_eq_false (by omega), decide_eq_false (by omega)]
  rfl
theorem rising_ok {most : Int} : ∀ {wy : List Int} {a : Int}, (∀ x ∈ wy, a < x ∧ x < most) → wy.Pairwise (· < ·) → ∃ l, loopR (ρ := Bool) (rstep most) a wy = .ok (.nx l)
  | [], a, _, _ => ⟨a, rfl⟩
  | x :: wy, a, h, hp => by
    have hx := h x (by simp)
    rw [List.pairwise_cons] at hp
    unfold loopR
    rw [rstep_ok hx.1 hx.2, bind_ok]
    exact rising_ok (fun y hy => ⟨hp.1 y hy, (h y (by simp [hy])).2⟩) hp.2
theorem ways_up {R : List Int} : ∀ {ws : List (List (Int × Int))} {i : Int} {left : List Int}, (ways R i left ws).Pairwise (· < ·)
  | [], _, _ => .nil
  | job :: r, i, left => by
    unfold ways
    rw [List.pairwise_append]
    refine ⟨?_, ways_up, fun a ha b hb => ?_⟩
    · split <;> simp
    · have hb' := ways_rng b hb
      split at ha
      · obtain rfl : a = i := by simpa using ha
        omega
      · simp at ha
def istep (s372 : List Int) (d373 : Int × Int) : Rs (Fl (List Int) Bool) := ((idx s372 d373.1).bind fun t385 => (Rs.ok (decide (t385 < d373.2)))).bind fun c394 => if c394 = true then ((Rs.ok false).bind fun d => .ok (.rt d)) else (((idx s372 d373.1).bind fun t386 => (Rs.ok (t386 - d373.2))).bind fun d => (Rs.ok d373.1).bind fun j => (setR s372 j d).bind fun (x387 : (List Int)) =>
.ok (.nx x387))
theorem istep_ok {left : List Int} {e : Int × Int} (h : 0 ≤ e.1 ∧ e.1 < left.length) (he : e.2 ≤ left.getD e.1.toNat 0) : istep left e = .ok (.nx (sub1 left e)) := by
  unfold istep
  rw [getD_of h.1 h.2, bind_ok, bind_ok, decide_eq_false (by omega), if_neg (by simp), bind_ok, bind_ok, bind_ok, setR_ok h.1 h.2, bind_ok]
  rfl
theorem sub_loop {job : List (Int × Int)} {left : List Int} (ht : Trays left job) (hn : (job.map (·.1)).Nodup) (hs : ∀ e ∈ job, e.2 ≤ left.getD e.1.toNat 0) : loopR (ρ := Bool) istep left job = .ok (.nx (subJ left job)) := by
  induction job generalizing left with
  | nil => rfl
  | cons e job ih =>
    have h := ht e (by simp)
    unfold loopR
    rw [istep_ok h (hs e (by simp)), bind_ok]
    rw [List.map_cons, List.nodup_cons] at hn
    refine ih (left := sub1 left e) (fun e' he' => ?_) hn.2 fun e' he' => ?_
    · have := ht e' (by simp [he'])
      unfold sub1
      rw [List.length_set]
      exact this
    · have h1 := hs e' (by simp [he'])
      have h2 := ht e' (by simp [he'])
      have hne : e.1 ≠ e'.1 := fun z => hn.1 (List.mem_map.mpr ⟨e', he', z.symm⟩)
      unfold sub1
      rw [List.getD_eq_getElem?_getD, List.getElem?_set_ne (by omega), ← List.getD_eq_getElem?_getD]
      exact h1
def dstep (R : List Int) (W : List (List (Int × Int))) (wy : List Int) (s342 : List Int) (d343 : Int) : Rs (Fl (List Int) Bool) := ((Rs.ok (decide (d343 ∈ wy))).bind fun c366 => if c366 = true then ((Rs.ok R).bind fun (x358 : (List Int)) =>
.ok x358) else (.ok s342) : Rs (List Int)).bind fun (s368 : (List Int)) =>
(idx W d343).bind fun xs400 => (loopR istep s368 xs400).bind (fun fl => match fl with
  | .nx s396 => .ok (.nx s396)
  | .rt r => .ok (.rt r)
  | _ => .no)
theorem dstep_ok {R : List Int} {W : List (List (Int × Int))} {wy left : List Int} {i : Int} {job : List (Int × Int)} (hix : idx W i = .ok job) (ht : Trays (if i ∈ wy then R else left) job) (hn : (job.map (·.1)).Nodup) (hs : ∀ e ∈ job, e.2 ≤ (if i ∈ wy then R else left).getD e.1.toNat 0) :
    dstep R W wy left i = .ok (.nx (subJ (if i ∈ wy then R else left) job)) := by
  unfold dstep
  rw [bind_ok, hix]
  by_cases h : i ∈ wy
  · rw [if_pos h] at ht hs ⊢
    rw [if_pos (by simpa using h), bind_ok, bind_ok, bind_ok, sub_loop ht hn hs]
    rfl
  · rw [if_neg h] at ht hs ⊢
    rw [if_neg (by simpa using h), bind_ok, bind_ok, sub_loop ht hn hs]
    rfl
theorem dry_loop {R : List Int} {W : List (List (Int × Int))} {wy : List Int} (hf : ∀ job ∈ W, Fits R job) : ∀ {ws : List (List (Int × Int))} {i : Nat} {left : List Int}, left.length = R.length → (∀ k : Nat, W[i + k]? = ws[k]?) → (∀ j : Int, (i : Int) ≤ j → (j ∈ wy ↔ j ∈ ways R i left ws)) → ∃ l, loopR (dstep R W wy) left (rng (i : Int) ((i : Int) + ws.length)) = .ok (.nx l)
  | [], i, left, _, _, _ => by
    rw [rng_nil (by simp)]
    exact ⟨_, rfl⟩
  | job :: r, i, left, hl, hw, hm => by
    rw [rng_cons (by rw [List.length_cons]; omega)]
    unfold loopR
    have hj0 := hw 0
    rw [Nat.add_zero, List.getElem?_cons_zero] at hj0
    have hlt := (List.getElem?_eq_some_iff.mp hj0).1
    have hjob : job ∈ W := List.mem_of_getElem? hj0
    have hix : idx W (i : Int) = .ok job := by
      rw [idx_ok (by omega) (by omega)]
      congr 1
      have := (List.getElem?_eq_some_iff.mp hj0).2
      simpa using this
    have hF := hf job hjob
    have hin : (i : Int) ∈ wy ↔ shJ left job = true := by
      rw [hm i (Int.le_refl _)]
      unfold ways
      by_cases hs : shJ left job = true
      · rw [if_pos hs]
        simp [hs]
      · rw [if_neg hs, List.nil_append]
        refine ⟨fun h => ?_, fun h => absurd h hs⟩
        have := ways_rng _ h
        omega
    have rest : ∀ left', left' = subJ (if shJ left job = true then R else left) job → ∃ l, loopR (dstep R W wy) left' (rng ((i : Int) + 1) ((i : Int) + (job :: r).length)) = .ok (.nx l) := fun left' e => by
      have := dry_loop (W := W) (wy := wy) hf (ws := r) (i := i + 1) (left := left') (by rw [e, subJ_len]; split <;> simp [hl]) (fun k => by
        have := hw (k + 1)
        rw [List.getElem?_cons_succ] at this
        rw [← this]
        congr 1
        omega) (fun j hj => by
        rw [hm j (by omega)]
        conv => lhs; unfold ways
        rw [← e, List.mem_append]
        constructor
        · rintro (h | h)
          · exfalso
            split at h
            · have : j = (i : Int) := by simpa using h
              omega
            · simp at h
          · exact h
        · exact fun h => .inr h)
      rw [show ((i : Int) + ((job :: r).length : Int)) = ((i + 1 : Nat) : Int) + (r.length : Int) from by rw [List.length_cons]; omega]
      exact this
    have e1 : (if (i : Int) ∈ wy then R else left) = if shJ left job = true then R else left := by
      by_cases hs : shJ left job = true
      · rw [if_pos hs, if_pos (hin.mpr hs)]
      · rw [if_neg hs, if_neg fun h => hs (hin.mp h)]
    rw [dstep_ok hix (by
      rw [e1]
      split
      · exact hF.tr
      · exact fun e he => by rw [hl]; exact hF.tr e he) hF.nd (by
      rw [e1]
      split
      · exact hF.le
      · rename_i hs
        intro e he
        have hs' : shJ left job = false := by simpa using hs
        have := List.any_eq_false.mp hs' e he
        have h2 : ¬ left.getD e.1.toNat 0 < e.2 := fun z => this (decide_eq_true z)
        omega), bind_ok, e1]
    exact rest _ rfl
theorem dry_ok {R held : List Int} {ws : List (List (Int × Int))} (hl : held.length = R.length) (hw : ws.length ≤ 100) (hf : ∀ job ∈ ws, Fits R job) : m__law_never_dry (Ar.mk R (Ar.mk held (Ar.mk ws (Ar.mk (ways R 0 held ws) ())))) = .ok true := by
  unfold m__law_never_dry m__law_never_dry'
  dsimp only
  rw [bind_ok, bind_ok, bndR_in (by omega) (by omega)]
  obtain ⟨l, e⟩ := dry_loop (W := ws) (wy := ways R 0 held ws) hf (ws := ws) (i := 0) (left := held) hl (fun k => by rw [Nat.zero_add]) (fun j _ => Iff.rfl)
  have e' : loopR (dstep R ws (ways R 0 held ws)) held (rng 0 (ws.length : Int)) = .ok (.nx l) := by
    have e2 := e
    rw [show (((0 : Nat) : Int) + (ws.length : Int)) = (ws.length : Int) from by omega] at e2
    exact e2
  show (loopR (dstep R ws (ways R 0 held ws)) held (rng 0 (ws.length : Int))).bind _ = _
  rw [e']
  rfl
theorem others_ok {i : Int} : m__law_others (.noWay i) () = .ok 1 := by
  unfold m__law_others m__law_others'
  rfl
theorem refused_ok {R held : List Int} {bs : List (List (Int × Int))} {p : Int × List (Int × Int)} (hz : bs.length ≤ 1000) (ht : ∀ job ∈ bs, Trays R job) (hp : ((rng 0 (bs.length : Int)).zip bs).find? (fun p => badJ R p.2) = some p) :
    m__law_refused (Ar.mk R (Ar.mk held (Ar.mk bs (Ar.mk (some p.1) ())))) = .ok true := by
  unfold m__law_refused m__law_refused'
  dsimp only
  rw [mapR_id (by omega)]
  simp only [bnd]
  have hw : m_walks (Ar.mk R (Ar.mk held (Ar.mk bs ()))) = .er (.noWay p.1) := by
    unfold m_walks m_walks'
    dsimp only
    rw [look_ok ht, hp]
    rfl
  rw [hw]
  have hwh : m__law_whole (Ar.mk p.1 ()) = .ok true := by
    unfold m__law_whole m__law_whole'
    rfl
  unfold tryR
  dsimp only
  rw [others_ok]
  simp only [Exn.nm, Exn.place, bnd, hwh]
  simp only [beq_self_eq_true, if_true, bnd, decide_true, Rs.noer]
  rw [eqD_refl (L3.mk R held bs) (by decide)]
  rfl
theorem plain (ns : List Int) (hl : ns.length ≤ 63) : m_law ⟨⟨ns⟩, ()⟩ = .ok true := by
  unfold m_law m_law'
  dsimp only
  generalize (⟨ns⟩ : Scr) = s
  obtain ⟨R, eR, hR⟩ : OkP (((m__law_draw (Ar.mk s (Ar.mk (0 : Int) (Ar.mk (4 : Int) ())))).bind fun t687 => (Rs.ok ((1 : Int) + t687))).bind fun t697 => (bndR t697 (mapR (fun (d692 : Int) => (((((mulR (3 : Int) d692).bind fun t693 => (Rs.ok ((10 : Int) + t693))).bind fun t694 => (Rs.ok (Ar.mk t694 ()))).bind fun t695 => (Rs.ok (Ar.mk s t695))).bind fun t696 => (m__law_room t696))) (rng 0 t697)))) (fun R => (∀ r ∈ R, 1 ≤ r) ∧ 1 ≤ R.length ∧ R.length ≤ 4) := by
    refine OkP.bind (P := fun n => 1 ≤ n ∧ n ≤ 4) (OkP.bind (draw_ok s (by omega) (by omega) (by omega)) fun d h => .pure (by omega)) fun n hn => ?_
    rw [bndR_in (by omega) (by omega)]
    have hlen : (rng 0 n).length = n.toNat := by rw [rng_len, Int.sub_zero]
    refine (mapR_ok (P := fun _ r => 1 ≤ r) (by rw [hlen]; omega) fun j hj => ?_).imp fun R p => ⟨fun y hy => paired_all (P := fun _ r => (1 : Int) ≤ r) (Q := fun r => 1 ≤ r) (fun _ _ h => h) p y hy, by have := paired_len p; omega, by have := paired_len p; omega⟩
    have := rng_mem hj
    rw [mulR_l (by omega) (by omega)]
    simp only [bnd]
    exact room_ok s (by omega) (by omega)
  rw [eR, bind_ok]
  obtain ⟨hR1, hR2, hR3⟩ := hR
  obtain ⟨held, eh, hh⟩ : OkP (bndR (R.length : Int) (mapR (fun (d707 : Int) => (((((mulR (4 : Int) d707).bind fun t708 => (Rs.ok ((30 : Int) + t708))).bind fun t710 => (((idx R d707).bind fun t709 => (Rs.ok (Ar.mk t709 ()))).bind fun t711 => (Rs.ok (Ar.mk t710 t711)))).bind fun t712 => (Rs.ok (Ar.mk s t712))).bind fun t713 => (m__law_part t713))) (rng 0 (R.length : Int)))) (fun held => held.length = R.length) := by
    rw [bndR_in (by omega) (by omega)]
    have hlen : (rng 0 (R.length : Int)).length = R.length := by rw [rng_len]; omega
    refine (mapR_ok (P := fun _ _ => True) (by rw [hlen]; omega) fun j hj => ?_).imp fun R p => by have := paired_len p; omega
    have := rng_mem hj
    rw [mulR_l (by omega) (by omega), idx_ok (by omega) (by omega)]
    simp only [bnd]
    exact (part_ok s (hR1 _ (List.getElem_mem _)) (by omega) (by omega)).imp fun _ _ => trivial
  rw [eh, bind_ok]
  obtain ⟨ws, ew, hw1, hw2, hw3⟩ := needs_ok s hR1 hR2 hR3
  rw [ew, bind_ok]
  obtain ⟨bs, eb, hb1, hb2, hb3⟩ := spoilt_ok s hR2 hR3 hw1 hw2 hw3
  rw [eb, bind_ok, first_bad_ok (by omega) hb2, bind_ok]
  obtain ⟨p, hp⟩ : ∃ p, ((rng 0 (bs.length : Int)).zip bs).find? (fun p => badJ R p.2) = some p := by
    obtain ⟨job, hj, hbj⟩ := hb3
    cases hf : ((rng 0 (bs.length : Int)).zip bs).find? (fun p => badJ R p.2) with
    | some p => exact ⟨p, rfl⟩
    | none =>
      exfalso
      obtain ⟨k, hk⟩ := List.mem_iff_getElem?.mp hj
      have hlt := (List.getElem?_eq_some_iff.mp hk).1
      have hz : ((k : Int), job) ∈ (rng 0 (bs.length : Int)).zip bs := by
        rw [List.mem_iff_getElem?]
        refine ⟨k, ?_⟩
        rw [List.getElem?_zip_eq_some]
        refine ⟨?_, hk⟩
        rw [rng_get (by omega)]
        congr 1
        omega
      exact absurd hbj (by simpa using List.find?_eq_none.mp hf _ hz)
  rw [hp]
  rw [show (some p : Option (Int × List (Int × Int))).map (·.1) = some p.1 from rfl, refused_ok (by omega) hb2 hp, bind_ok, bind_ok, if_neg (by simp), mapR_id (by omega)]
  simp only [bnd]
  obtain ⟨fw, ef, hfw⟩ := walks_ok hh hw2 hw3
  rw [ef, bind_ok, if_neg (by simp), hfw]
  have hris : m__law_rising (Ar.mk (ways R 0 held ws) (Ar.mk (ws.length : Int) ())) = .ok true := by
    unfold m__law_rising m__law_rising'
    dsimp only
    rw [bind_ok, if_neg (by simp), bind_ok, bind_ok]
    obtain ⟨l, e⟩ := rising_ok (most := (ws.length : Int)) (wy := ways R 0 held ws) (a := -1) (fun x hx => by have := ways_rng x hx; omega) ways_up
    have e' : loopR (rstep (ws.length : Int)) (-(1 : Int)) (ways R 0 held ws) = .ok (.nx l) := e
    show (loopR (rstep (ws.length : Int)) (-(1 : Int)) (ways R 0 held ws)).bind _ = _
    rw [e']
    rfl
  rw [hris]
  simp only [bnd]
  rw [show (!true) = false from rfl, if_neg (by simp), dry_ok hh hw2 hw3]
  simp only [bnd, if_true]
end K66

set_option maxHeartbeats 0
namespace K66
open PySem PySem.Spec PyProof.Rows L2 Wk
/-! ### the head -/
def hd_fn : List He.DefD := [⟨("_law_draw", none), "_law_draw", "_law_draw", defArgs s__law_draw, defBody s__law_draw, defScope s__law_draw, [], []⟩,
  ⟨("_law_great", none), "_law_great", "_law_great", defArgs s__law_great, defBody s__law_great, defScope s__law_great, [], []⟩,
  ⟨("_law_whole", none), "_law_whole", "_law_whole", defArgs s__law_whole, defBody s__law_whole, defScope s__law_whole, [], []⟩,
  ⟨("_law_room", none), "_law_room", "_law_room", defArgs s__law_room, defBody s__law_room, defScope s__law_room, [], []⟩,
  ⟨("_law_part", none), "_law_part", "_law_part", defArgs s__law_part, defBody s__law_part, defScope s__law_part, [], []⟩,
  ⟨("_law_need", none), "_law_need", "_law_need", defArgs s__law_need, defBody s__law_need, defScope s__law_need, [], []⟩,
  ⟨("_law_needs", none), "_law_needs", "_law_needs", defArgs s__law_needs, defBody s__law_needs, defScope s__law_needs, [], []⟩,
  ⟨("_law_spoilt", none), "_law_spoilt", "_law_spoilt", defArgs s__law_spoilt, defBody s__law_spoilt, defScope s__law_spoilt, [], []⟩,
  ⟨("_law_first_bad", none), "_law_first_bad", "_law_first_bad", defArgs s__law_first_bad, defBody s__law_first_bad, defScope s__law_first_bad, [], []⟩,
  ⟨("_law_rising", none), "_law_rising", "_law_rising", defArgs s__law_rising, defBody s__law_rising, defScope s__law_rising, [], []⟩,
  ⟨("_law_never_dry", none), "_law_never_dry", "_law_never_dry", defArgs s__law_never_dry, defBody s__law_never_dry, defScope s__law_never_dry, [], []⟩,
  ⟨("short_tray", none), "short_tray", "short_tray", defArgs s_short_tray, defBody s_short_tray, defScope s_short_tray, [], []⟩,
  ⟨("look_at_needs", none), "look_at_needs", "look_at_needs", defArgs s_look_at_needs, defBody s_look_at_needs, defScope s_look_at_needs, [], []⟩,
  ⟨("walks", none), "walks", "walks", defArgs s_walks, defBody s_walks, defScope s_walks, [], []⟩,
  ⟨("_law_others", none), "_law_others", "_law_others", defArgs s__law_others, defBody s__law_others, defScope s__law_others, [], []⟩,
  ⟨("_law_refused", none), "_law_refused", "_law_refused", defArgs s__law_refused, defBody s__law_refused, defScope s__law_refused, [], []⟩,
  ⟨("law", none), "law", "law", defArgs s_law, defBody s_law, defScope s_law, [], []⟩,
  ⟨("NoWay", some "__init__"), "__init__", "NoWay.__init__", defArgs (inClass (top 14) 0), defBody (inClass (top 14) 0), defScope (inClass (top 14) 0), [], []⟩]
def hd_gl : List Str := ["_law_draw", "_law_great", "_law_whole", "_law_room", "_law_part", "_law_need", "_law_needs", "_law_spoilt", "_law_first_bad", "_law_rising", "_law_never_dry", "short_tray", "look_at_needs", "walks", "_law_others", "_law_refused", "law", "HallError", "BadLine", "Unknown", "Twice", "NotNow", "TooMuch", "Dry", "Over", "Nowhere", "Busy", "NoHeap", "NoPrinter", "GoesRound", "NoWay"]
def hd_fr : List Str := ["len", "list", "range", "isinstance", "int", "bool", "enumerate", "sum", "tuple", "ValueError"]
def hd_fc (K : PySem.W.Frag) : Bool := glB hd_gl K && (frB hd_fr K && xaB K)
abbrev R : PySem.W.OpenRow := PySem.W.OpenLaw.row PySem.Challenge.rw_spoolhall_k66_no_way
abbrev hk : PySem.W.Hook := hookX 4 hd_fc hd_fn
def ob (s : PySem.W.SharedT) : He.AlD := obsXG 4 hd_fc hd_fn (HandSHeadRun.getT s)
theorem ob_eq (s : PySem.W.SharedT) : ob s = hk.obs s.abs := obsXG_eq (HandSHeadRun.getT_eq s)
def loose : List PySem.Str := ["HallError", "BadLine", "Unknown", "Twice", "NotNow", "TooMuch", "Dry", "Over", "Nowhere", "Busy", "NoHeap", "NoPrinter", "GoesRound", "NoWay", "look_at_needs", "short_tray", "walks", "_law_draw", "_law_great", "_law_whole", "_law_room", "_law_part", "_law_need", "_law_needs", "_law_spoilt", "_law_first_bad", "_law_others", "_law_refused", "_law_rising", "_law_never_dry"]
theorem run (w : World) : HandSHeadRun.RunEq R (PySem.W.view R.prog [33]) hk ob 6000 loose w := by
  intro os
  kernel_rfl
theorem tx_ok {K : PySem.W.Frag} {h : Heap} {mg : Str → Option Value} (X : K.In h) (G : h.Ns mainGlobals mg) (c : SaysX hd_fc hd_fn K) : Tx K mg := by
  have f := c.facts
  obtain ⟨c1, f⟩ := He.ba f
  obtain ⟨c2, c3⟩ := He.ba f
  exact {
    d__law_draw := c.def_ 0
    g__law_draw := glB_ok X G c1
    d__law_great := c.def_ 1
    g__law_great := glB_ok X G c1
    d__law_whole := c.def_ 2
    g__law_whole := glB_ok X G c1
    d__law_room := c.def_ 3
    g__law_room := glB_ok X G c1
    d__law_part := c.def_ 4
    g__law_part := glB_ok X G c1
    d__law_need := c.def_ 5
    g__law_need := glB_ok X G c1
    d__law_needs := c.def_ 6
    g__law_needs := glB_ok X G c1
    d__law_spoilt := c.def_ 7
    g__law_spoilt := glB_ok X G c1
    d__law_first_bad := c.def_ 8
    g__law_first_bad := glB_ok X G c1
    d__law_rising := c.def_ 9
    g__law_rising := glB_ok X G c1
    d__law_never_dry := c.def_ 10
    g__law_never_dry := glB_ok X G c1
    d_short_tray := c.def_ 11
    g_short_tray := glB_ok X G c1
    d_look_at_needs := c.def_ 12
    g_look_at_needs := glB_ok X G c1
    d_walks := c.def_ 13
    g_walks := glB_ok X G c1
    d__law_others := c.def_ 14
    g__law_others := glB_ok X G c1
    d__law_refused := c.def_ 15
    g__law_refused := glB_ok X G c1
    d_law := c.def_ 16
    g_law := glB_ok X G c1
    g_HallError := glB_ok X G c1
    g_BadLine := glB_ok X G c1
    g_Unknown := glB_ok X G c1
    g_Twice := glB_ok X G c1
    g_NotNow := glB_ok X G c1
    g_TooMuch := glB_ok X G c1
    g_Dry := glB_ok X G c1
    g_Over := glB_ok X G c1
    g_Nowhere := glB_ok X G c1
    g_Busy := glB_ok X G c1
    g_NoHeap := glB_ok X G c1
    g_NoPrinter := glB_ok X G c1
    g_GoesRound := glB_ok X G c1
    g_NoWay := glB_ok X G c1
    i_NoWay := c.def_ 17
    x_a := xaB_ok c3
    z_len := frB_ok X G c2
    z_list := frB_ok X G c2
    z_range := frB_ok X G c2
    z_isinstance := frB_ok X G c2
    z_int := frB_ok X G c2
    z_bool := frB_ok X G c2
    z_enumerate := frB_ok X G c2
    z_sum := frB_ok X G c2
    z_tuple := frB_ok X G c2
    z_ValueError := frB_ok X G c2 }
end K66
open PySem PySem.W PySem.Calls PyProof.Rows
theorem PySem.Challenge.cw_spoolhall_k66_no_way_holds : PySem.Challenge.rw_spoolhall_k66_no_way.Holds := by
  w_on; o_law
  refine HandSHeadRun.head_any (r := OpenLaw.row PySem.Challenge.rw_spoolhall_k66_no_way) (q := view (OpenLaw.row PySem.Challenge.rw_spoolhall_k66_no_way).prog [33]) (H := K66.hk) (ob := K66.ob) (M := 6000) (loose := K66.loose) (d := HandSHeadRun.topDef (OpenLaw.row PySem.Challenge.rw_spoolhall_k66_no_way).prog 33) (kwd := []) K66.ob_eq (by kernel_rfl) (fun s => by kernel_rfl) K66.run
    (by kernel_rfl) (by kernel_rfl) (by kernel_rfl) (by rfl) (by first | assumption | decide +kernel) (by decide +kernel) ⟨rfl, rfl, rfl, rfl, rfl, by decide +kernel⟩ ?hw ?hc
  case hw => w_witness2
  case hc =>
    refine Wk.walk_ofW (l := PySem.Challenge.rw_spoolhall_k66_no_way) (n := 63) (k := 6) (x := "_law_script") (CX := L2N.CX (PySem.Challenge.rw_spoolhall_k66_no_way).prog) rfl (by decide) (by kernel_rfl) ⟨rfl, by decide, by decide⟩ ?F fun _ => Wk.cx_none
    intro w mg fa h Y G hmg0
    obtain ⟨K, KX, c⟩ := Y
    have T : K66.Tx K mg := K66.tx_ok KX G c
    have hmg : mg ("law" : PySem.Str) = some (.ref fa) := by
      rw [← show (HandSHeadRun.topDef (OpenLaw.row PySem.Challenge.rw_spoolhall_k66_no_way).prog 33).name = ("law" : PySem.Str) from by kernel_rfl]
      exact hmg0
    have e := hmg.symm.trans T.g_law
    cases e
    obtain ⟨fd, Fd⟩ := T.d_law
    exact ⟨K, fd, Wk.spOf K K66.m_law, KX, fun s v => L2.FunD.bindsA (ps := ["_law_script"]) Fd (fun _ _ _ _ _ _ us hl => match us, hl with | [_], _ => rfl) s [v] rfl, fun H a ns hl _ hS => Wk.sp_law hS (K66.plain ns hl), fun base _ _ => K66.ok_law_fd (P := (PySem.Challenge.rw_spoolhall_k66_no_way).prog) (w := w) (base := base) T Fd⟩

