import PyProof.Rows.All
import Wide.All
import OpenK.AllK
import Wide.FinOn
import HandS.ForMost
import HandS.Exc
import HandS.ExcOwn
import HandS.CallSlots
import HandS.HeadHook2
import HandS.WideBits
import HandS.IsInst
import HandS.Style
import HandS.Text
import HandS.More
import HandS.RevRange
import HandS.Defaults
import HandS.Star
import HandS.ExcInit
import HandS.Ends
import KE.KExcSuper
import HandS.ExcField
import HandS.ExcIs
import HandS.Comp
import HandS.IterVal
import PyProof.InstNe
import KE.KOpsOwn
import KE.KOwnIter
import HandS.OwnEq
import HandS.HotCalls
import KE.KExcIs
import HandS.ReplaceLit
import HandS.SetFor
import HandS.ClsMeth
import HandS.NoneIn
import HandS.Head0
import HandS.Head1
import HandS.Head2
import HandS.HeadEnd
import HandS.EndBits
import HandS.Words
import HandS.Codes
import KE.KStateDown
import PySem.Challenge.RW_lostinrows_k88_circuits_refused
set_option Elab.async false
set_option linter.all false
set_option maxRecDepth 100000
set_option maxHeartbeats 2000000
/-! DL: a data layer over the hand layer: expressions and statements are told as functions over plain data (M), the heap is told once. -/
namespace DL
open PySem PySem.Spec PyProof.Rows L2
/-- plain data -/
inductive D where
  | non | bl (b : Bool) | int (i : Int) | str (x : Str) | cls (c : Str)
  | lst (xs : List D) | tup (xs : List D) | obj (c : Str) (fs : List (Str × D))
  /-- the script: a list that is locked -/
  | scr (ns : List Int)
/-- an address of a class or a def of the module -/
abbrev ga (K : PySem.W.Frag) (x : Str) : Addr := He.ga K x
mutual
inductive Rep (K : PySem.W.Frag) (I : Hp) : D → V → Prop
  | non : Rep K I .non .non
  | bl (b : Bool) : Rep K I (.bl b) (.bl b)
  | int (i : Int) : Rep K I (.int i) (.int i)
  | str (x : Str) : Rep K I (.str x) (.str x)
  | cls (c : Str) : Rep K I (.cls c) (.ref (ga K c))
  | lst {ds : List D} {a : Addr} {vs : List V} (h : I a = some (.lst vs)) (r : Reps K I ds vs) : Rep K I (.lst ds) (.ref a)
  | scr {ns : List Int} {a : Addr} (h : SqL K I a (ns.map V.int)) : Rep K I (.scr ns) (.ref a)
  | tup {ds : List D} {a : Addr} {vs : List V} (h : SqT K I a vs) (r : Reps K I ds vs) : Rep K I (.tup ds) (.ref a)
  | obj {c : Str} {fs : List (Str × D)} {a dx : Addr} {gs : List (Str × V)} (h : I a = some (.ins (ga K c) dx gs)) (r : RepF K I fs gs) : Rep K I (.obj c fs) (.ref a)
inductive Reps (K : PySem.W.Frag) (I : Hp) : List D → List V → Prop
  | nil : Reps K I [] []
  | cons {d : D} {v : V} {ds : List D} {vs : List V} (h : Rep K I d v) (r : Reps K I ds vs) : Reps K I (d :: ds) (v :: vs)
inductive RepF (K : PySem.W.Frag) (I : Hp) : List (Str × D) → List (Str × V) → Prop
  | nil : RepF K I [] []
  | cons {f : Str} {d : D} {v : V} {fs : List (Str × D)} {gs : List (Str × V)} (h : Rep K I d v) (r : RepF K I fs gs) : RepF K I ((f, d) :: fs) ((f, v) :: gs)
end
/-- a heap's part -/
abbrev Ext (H H' : Hp) : Prop := ∀ a o, H a = some o → H' a = some o
theorem Ext.rfl' {H : Hp} : Ext H H := fun _ _ h => h
theorem Ext.trans' {H H1 H2 : Hp} (a : Ext H H1) (b : Ext H1 H2) : Ext H H2 := fun c o h => b c o (a c o h)
theorem Ext.back {H H' : Hp} (e : Ext H H') {a : Addr} (h : H' a = none) : H a = none := by
  cases q : H a with
  | none => rfl
  | some o => rw [e a o q] at h; cases h
theorem Ext.upd' {H : Hp} {p : Addr} {o : HO} (h : H p = none) : Ext H (upd H p o) := fun a u e => by rw [upd_ne (ne_of_none e h)]; exact e
theorem sqL_ext {K : PySem.W.Frag} {H H' : Hp} {a : Addr} {xs : List V} (e : Ext H H') (h : SqL K H a xs) : SqL K H' a xs := by
  rcases h with (h | ⟨o, h⟩) | h
  · exact .inl (.inl (e _ _ h))
  · exact .inl (.inr ⟨o, e _ _ h⟩)
  · exact .inr h
theorem sqT_ext {K : PySem.W.Frag} {H H' : Hp} {a : Addr} {xs : List V} (e : Ext H H') (h : SqT K H a xs) : SqT K H' a xs := by
  rcases h with (h | ⟨o, h⟩) | h
  · exact .inl (.inl (e _ _ h))
  · exact .inl (.inr ⟨o, e _ _ h⟩)
  · exact .inr h
mutual
theorem Rep.mono {K : PySem.W.Frag} {I I' : Hp} (e : Ext I I') : ∀ {d : D} {v : V}, Rep K I d v → Rep K I' d v
  | _, _, .non => .non
  | _, _, .bl b => .bl b
  | _, _, .int i => .int i
  | _, _, .str x => .str x
  | _, _, .cls c => .cls c
  | _, _, .lst h r => .lst (e _ _ h) (Reps.mono e r)
  | _, _, .scr h => .scr (sqL_ext e h)
  | _, _, .tup h r => .tup (sqT_ext e h) (Reps.mono e r)
  | _, _, .obj h r => .obj (e _ _ h) (RepF.mono e r)
theorem Reps.mono {K : PySem.W.Frag} {I I' : Hp} (e : Ext I I') : ∀ {ds : List D} {vs : List V}, Reps K I ds vs → Reps K I' ds vs
  | _, _, .nil => .nil
  | _, _, .cons h r => .cons (Rep.mono e h) (Reps.mono e r)
theorem RepF.mono {K : PySem.W.Frag} {I I' : Hp} (e : Ext I I') : ∀ {fs : List (Str × D)} {gs : List (Str × V)}, RepF K I fs gs → RepF K I' fs gs
  | _, _, .nil => .nil
  | _, _, .cons h r => .cons (Rep.mono e h) (RepF.mono e r)
end
section
variable {K : PySem.W.Frag} {I : Hp}
theorem Reps.length : ∀ {ds : List D} {vs : List V}, Reps K I ds vs → ds.length = vs.length
  | _, _, .nil => rfl
  | _, _, .cons _ r => by rw [List.length_cons, List.length_cons, r.length]
theorem Reps.get : ∀ {ds : List D} {vs : List V} {i : Nat} {d : D}, Reps K I ds vs → ds[i]? = some d → ∃ v, vs[i]? = some v ∧ Rep K I d v
  | _, _, _, _, .nil, e => by simp at e
  | _, _, 0, _, .cons h _, e => by simp at e; subst e; exact ⟨_, rfl, h⟩
  | _, _, i + 1, d, .cons _ r, e => by
    obtain ⟨v, h1, h2⟩ := Reps.get (i := i) (d := d) r (by simpa using e)
    exact ⟨v, by simpa using h1, h2⟩
theorem Reps.getV : ∀ {ds : List D} {vs : List V} {i : Nat} {v : V}, Reps K I ds vs → vs[i]? = some v → ∃ d, ds[i]? = some d ∧ Rep K I d v
  | _, _, _, _, .nil, e => by simp at e
  | _, _, 0, _, .cons h _, e => by simp at e; subst e; exact ⟨_, rfl, h⟩
  | _, _, i + 1, v, .cons _ r, e => by
    obtain ⟨d, h1, h2⟩ := Reps.getV (i := i) (v := v) r (by simpa using e)
    exact ⟨d, by simpa using h1, h2⟩
theorem Reps.append : ∀ {ds es : List D} {vs us : List V}, Reps K I ds vs → Reps K I es us → Reps K I (ds ++ es) (vs ++ us)
  | _, _, _, _, .nil, s => s
  | _, _, _, _, .cons h r, s => .cons h (Reps.append r s)
theorem Reps.take : ∀ {ds : List D} {vs : List V} (n : Nat), Reps K I ds vs → Reps K I (ds.take n) (vs.take n)
  | _, _, 0, _ => by simp; exact .nil
  | _, _, _ + 1, .nil => by simp; exact .nil
  | _, _, n + 1, .cons h r => .cons h (Reps.take n r)
theorem Reps.drop : ∀ {ds : List D} {vs : List V} (n : Nat), Reps K I ds vs → Reps K I (ds.drop n) (vs.drop n)
  | _, _, 0, r => r
  | _, _, _ + 1, .nil => by simp; exact .nil
  | _, _, n + 1, .cons _ r => Reps.drop n r
theorem Reps.set {d : D} {v : V} (h : Rep K I d v) : ∀ {ds : List D} {vs : List V} (n : Nat), Reps K I ds vs → Reps K I (ds.set n d) (vs.set n v)
  | _, _, _, .nil => .nil
  | _, _, 0, .cons _ r => .cons h r
  | _, _, n + 1, .cons q r => .cons q (Reps.set h n r)
theorem Reps.reverse : ∀ {ds : List D} {vs : List V}, Reps K I ds vs → Reps K I ds.reverse vs.reverse
  | _, _, .nil => .nil
  | _, _, .cons h r => by rw [List.reverse_cons, List.reverse_cons]; exact r.reverse.append (.cons h .nil)
theorem RepF.lookup : ∀ {fs : List (Str × D)} {gs : List (Str × V)} {f : Str} {d : D}, RepF K I fs gs → fs.lookup f = some d → ∃ v, gs.lookup f = some v ∧ Rep K I d v
  | _, _, _, _, .nil, e => by simp at e
  | _, _, f, d, .cons (f := g) h r, e => by
    rw [List.lookup_cons] at e ⊢
    cases q : f == g with
    | true => rw [q] at e; cases e; exact ⟨_, rfl, h⟩
    | false => rw [q] at e; exact RepF.lookup r e
theorem RepF.lookup_none : ∀ {fs : List (Str × D)} {gs : List (Str × V)} {f : Str}, RepF K I fs gs → fs.lookup f = none → gs.lookup f = none
  | _, _, _, .nil, _ => rfl
  | _, _, f, .cons (f := g) h r, e => by
    rw [List.lookup_cons] at e ⊢
    cases q : f == g with
    | true => rw [q] at e; cases e
    | false => rw [q] at e; exact RepF.lookup_none r e
theorem RepF.length : ∀ {fs : List (Str × D)} {gs : List (Str × V)}, RepF K I fs gs → fs.length = gs.length
  | _, _, .nil => rfl
  | _, _, .cons _ r => by rw [List.length_cons, List.length_cons, r.length]
/-- an attribute stored -/
def putD (f : Str) (d : D) : List (Str × D) → List (Str × D)
  | [] => [(f, d)]
  | (g, x) :: r => if g = f then (g, d) :: r else (g, x) :: putD f d r
theorem RepF.put {f : Str} {d : D} {v : V} (h : Rep K I d v) : ∀ {fs : List (Str × D)} {gs : List (Str × V)}, RepF K I fs gs → RepF K I (putD f d fs) (putF f v gs)
  | _, _, .nil => .cons h .nil
  | _, _, .cons (f := g) q r => by
    unfold putD putF
    by_cases e : g = f
    · rw [if_pos e, if_pos e]; exact .cons h r
    · rw [if_neg e, if_neg e]; exact .cons q (RepF.put h r)
end
/-! ### slots -/
/-- a raised exception: its class, its fields -/
structure Xc where
  cls : Str
  fs : List (Str × D)
inductive Sl where
  | un | va (d : D) | ow (ds : List D) | ob (c : Str) (fs : List (Str × D))
  /-- a caught exception: its address, its dict's -/
  | xc (a : Addr) (dd : Option Addr) (x : Xc)
def Sl.own : Sl → Prop
  | .ow _ => True
  | .ob _ _ => True
  | _ => False
abbrev En := List Sl
/-- the exception's dict -/
def XcDict (K : PySem.W.Frag) (I : Hp) (dd : Option Addr) (x : Xc) : Prop := (x.fs = [] ∧ dd = none) ∨ ∃ d gs, dd = some d ∧ I d = some (.xd gs) ∧ RepF K I x.fs gs
theorem XcDict.mono {K : PySem.W.Frag} {I I' : Hp} {dd : Option Addr} {x : Xc} (e : Ext I I') (h : XcDict K I dd x) : XcDict K I' dd x :=
  h.imp id fun ⟨d, gs, h1, h2, h3⟩ => ⟨d, gs, h1, e _ _ h2, h3.mono e⟩
def SlRep (K : PySem.W.Frag) (I H : Hp) : Sl → Option V → Prop
  | .un, _ => True
  | .va d, o => ∃ v, o = some v ∧ Rep K I d v
  | .ow ds, o => ∃ a vs, o = some (.ref a) ∧ I a = none ∧ H a = some (.lst vs) ∧ Reps K I ds vs
  | .ob c fs, o => ∃ a dx gs, o = some (.ref a) ∧ I a = none ∧ H a = some (.ins (ga K c) dx gs) ∧ RepF K I fs gs
  | .xc a dd x, o => o = some (.ref a) ∧ XcDict K I dd x
def OwnAt (δ : En) (σ : L2.St) (i : Nat) (a : Addr) : Prop := (∃ s, δ[i]? = some s ∧ s.own) ∧ σ[i]? = some (some (.ref a))
def Own (δ : En) (σ : L2.St) (a : Addr) : Prop := ∃ i, OwnAt δ σ i a
structure Env (K : PySem.W.Frag) (I H : Hp) (σ : L2.St) (δ : En) : Prop where
  ext : Ext I H
  len : σ.length = δ.length
  at_ : ∀ (i : Nat) (s : Sl) (o : Option V), δ[i]? = some s → σ[i]? = some o → SlRep K I H s o
  one : ∀ i j a, OwnAt δ σ i a → OwnAt δ σ j a → i = j
/-- what changes from one state to the next -/
structure Post (I H I' H' : Hp) (O : Addr → Prop) : Prop where
  ext : Ext I I'
  fresh : ∀ a o, I' a = some o → I a = none → H a = none ∨ O a
  keep : ∀ a o, H a = some o → ¬ O a → H' a = some o
  dom : ∀ a, H' a = none → H a = none
structure Nxt (K : PySem.W.Frag) (σ : L2.St) (I H : Hp) (δ : En) (I' H' : Hp) (δ' : En) : Prop where
  env : Env K I' H' σ δ'
  post : Post I H I' H' (Own δ σ)
  own : ∀ a, Own δ' σ a → Own δ σ a
structure NxtS (K : PySem.W.Frag) (P : Nat) (σ : L2.St) (I H : Hp) (δ : En) (σ' : L2.St) (I' H' : Hp) (δ' : En) : Prop where
  env : Env K I' H' σ' δ'
  post : Post I H I' H' (Own δ σ)
  own : ∀ a, Own δ' σ' a → Own δ σ a ∨ H a = none
  stay : ∀ i, i < P → σ'[i]? = σ[i]?
section
variable {K : PySem.W.Frag} {σ σ1 σ2 : L2.St} {I H I1 H1 I2 H2 : Hp} {δ δ1 δ2 : En} {P : Nat}
theorem Env.ownI (e : Env K I H σ δ) {a : Addr} (h : Own δ σ a) : I a = none := by
  obtain ⟨i, ⟨s, hs, ho⟩, hv⟩ := h
  have r := e.at_ i s _ hs hv
  cases s with
  | un => exact ho.elim
  | va d => exact ho.elim
  | ow ds => obtain ⟨b, vs, q, n, _⟩ := r; cases q; exact n
  | ob c fs => obtain ⟨b, dx, gs, q, n, _⟩ := r; cases q; exact n
  | xc a' dd x => exact ho.elim
theorem Env.ownH (e : Env K I H σ δ) {a : Addr} (h : Own δ σ a) : H a ≠ none := by
  obtain ⟨i, ⟨s, hs, ho⟩, hv⟩ := h
  have r := e.at_ i s _ hs hv
  cases s with
  | un => exact ho.elim
  | va d => exact ho.elim
  | ow ds => obtain ⟨b, vs, q, n, z, _⟩ := r; cases q; rw [z]; intro w; cases w
  | ob c fs => obtain ⟨b, dx, gs, q, n, z, _⟩ := r; cases q; rw [z]; intro w; cases w
  | xc a' dd x => exact ho.elim
theorem Post.refl {O : Addr → Prop} : Post I H I H O := ⟨fun _ _ h => h, fun _ _ h n => (by rw [h] at n; cases n), fun _ _ h _ => h, fun _ h => h⟩
theorem Nxt.refl (e : Env K I H σ δ) : Nxt K σ I H δ I H δ := ⟨e, .refl, fun _ h => h⟩
theorem NxtS.refl (e : Env K I H σ δ) : NxtS K P σ I H δ σ I H δ := ⟨e, .refl, fun _ h => .inl h, fun _ _ => rfl⟩
theorem Post.trans {O O' : Addr → Prop} (a : Post I H I1 H1 O) (b : Post I1 H1 I2 H2 O') (h : ∀ x, O' x → O x ∨ H x = none) : Post I H I2 H2 O where
  ext := fun x o e => b.ext x o (a.ext x o e)
  fresh := fun x o e n => by
    cases q : I1 x with
    | some u => exact a.fresh x u q n
    | none =>
      rcases b.fresh x o e q with z | z
      · cases w : H x with
        | none => exact .inl rfl
        | some u =>
          refine .inr (Classical.byContradiction fun no => ?_)
          rw [a.keep x u w no] at z
          cases z
      · rcases h x z with z | z
        · exact .inr z
        · exact .inl z
  keep := fun x o e no => b.keep x o (a.keep x o e no) fun z => by
    rcases h x z with z | z
    · exact no z
    · rw [z] at e; cases e
  dom := fun x n => a.dom x (b.dom x n)
theorem Nxt.trans (a : Nxt K σ I H δ I1 H1 δ1) (b : Nxt K σ I1 H1 δ1 I2 H2 δ2) : Nxt K σ I H δ I2 H2 δ2 :=
  ⟨b.env, a.post.trans b.post fun x h => .inl (a.own x h), fun x h => a.own x (b.own x h)⟩
theorem Nxt.toS (a : Nxt K σ I H δ I1 H1 δ1) : NxtS K P σ I H δ σ I1 H1 δ1 := ⟨a.env, a.post, fun x h => .inl (a.own x h), fun _ _ => rfl⟩
theorem NxtS.none_back (a : NxtS K P σ I H δ σ1 I1 H1 δ1) {x : Addr} (n : H1 x = none) : Own δ σ x ∨ H x = none := .inr (a.post.dom x n)
theorem NxtS.trans (a : NxtS K P σ I H δ σ1 I1 H1 δ1) (b : NxtS K P σ1 I1 H1 δ1 σ2 I2 H2 δ2) : NxtS K P σ I H δ σ2 I2 H2 δ2 :=
  ⟨b.env, a.post.trans b.post a.own, fun x h => (b.own x h).elim (a.own x) fun n => a.none_back n, fun i hi => (b.stay i hi).trans (a.stay i hi)⟩
/-- a new object is laid into the known part -/
theorem Env.alloc (e : Env K I H σ δ) {p : Addr} {o : HO} (hp : H p = none) : Env K (upd I p o) (upd H p o) σ δ where
  ext := fun a u h => by
    by_cases q : a = p
    · subst q; rw [upd_same] at h ⊢; exact h
    · rw [upd_ne q] at h ⊢; exact e.ext a u h
  len := e.len
  at_ := fun i s v h1 h2 => by
    have r := e.at_ i s v h1 h2
    have ei : Ext I (upd I p o) := Ext.upd' (e.ext.back hp)
    cases s with
    | un => exact r
    | xc a' dd x => exact ⟨r.1, r.2.mono ei⟩
    | va d => obtain ⟨v, q, r⟩ := r; exact ⟨v, q, r.mono ei⟩
    | ow ds =>
      obtain ⟨a, vs, q, n, z, r⟩ := r
      have ne := ne_of_none z hp
      exact ⟨a, vs, q, by rw [upd_ne ne]; exact n, by rw [upd_ne ne]; exact z, r.mono ei⟩
    | ob c fs =>
      obtain ⟨a, dx, gs, q, n, z, r⟩ := r
      have ne := ne_of_none z hp
      exact ⟨a, dx, gs, q, by rw [upd_ne ne]; exact n, by rw [upd_ne ne]; exact z, r.mono ei⟩
  one := e.one
theorem Nxt.alloc (e : Env K I H σ δ) {p : Addr} {o : HO} (hp : H p = none) : Nxt K σ I H δ (upd I p o) (upd H p o) δ where
  env := e.alloc hp
  post := ⟨Ext.upd' (e.ext.back hp), fun a u h n => (by
      by_cases q : a = p
      · subst q; exact .inl hp
      · rw [upd_ne q, n] at h; cases h), fun a u h _ => (by rw [upd_ne (ne_of_none h hp)]; exact h), fun a n => (by
      by_cases q : a = p
      · subst q; exact hp
      · rw [upd_ne q] at n; exact n)⟩
  own := fun _ h => h
/-- a new object beside what is known (an owned list, an exception's dict) -/
theorem Env.beside (e : Env K I H σ δ) {p : Addr} {o : HO} (hp : H p = none) : Env K I (upd H p o) σ δ where
  ext := fun a u h => by
    rw [upd_ne (ne_of_none (e.ext a u h) hp)]; exact e.ext a u h
  len := e.len
  at_ := fun i s v h1 h2 => by
    have r := e.at_ i s v h1 h2
    cases s with
    | un => exact r
    | xc a' dd x => exact r
    | va d => exact r
    | ow ds =>
      obtain ⟨a, vs, q, n, z, r⟩ := r
      exact ⟨a, vs, q, n, by rw [upd_ne (ne_of_none z hp)]; exact z, r⟩
    | ob c fs =>
      obtain ⟨a, dx, gs, q, n, z, r⟩ := r
      exact ⟨a, dx, gs, q, n, by rw [upd_ne (ne_of_none z hp)]; exact z, r⟩
  one := e.one
theorem Nxt.beside (e : Env K I H σ δ) {p : Addr} {o : HO} (hp : H p = none) : Nxt K σ I H δ I (upd H p o) δ where
  env := e.beside hp
  post := ⟨fun _ _ h => h, fun a u h n => (by rw [n] at h; cases h), fun a u h _ => (by rw [upd_ne (ne_of_none h hp)]; exact h), fun a n => (by
      by_cases q : a = p
      · subst q; exact hp
      · rw [upd_ne q] at n; exact n)⟩
  own := fun _ h => h
end
/-! ### results -/
inductive Rs (α : Type) where
  | ok (a : α) (δ : En) | er (x : Xc) (δ : En) | st
abbrev M (α : Type) := En → Rs α
def M.pure {α : Type} (a : α) : M α := fun δ => .ok a δ
def M.bind {α β : Type} (m : M α) (f : α → M β) : M β := fun δ => match m δ with
  | .ok a δ' => f a δ'
  | .er x δ' => .er x δ'
  | .st => .st
instance : Monad M where
  pure := M.pure
  bind := M.bind
def stuck {α : Type} : M α := fun _ => .st
theorem bind_eq {α β : Type} (m : M α) (f : α → M β) (δ : En) : (m >>= f) δ = (match m δ with
  | .ok a δ' => f a δ'
  | .er x δ' => .er x δ'
  | .st => .st) := rfl
/-- an exception's object: its class, its own dict -/
def ExR (K : PySem.W.Frag) (I H : Hp) (x : Xc) (cls : Value) (dd : Option Addr) : Prop :=
  cls = .ref (ga K x.cls) ∧ ((x.fs = [] ∧ dd = none) ∨ ∃ d gs, dd = some d ∧ H d = some (.xd gs) ∧ RepF K I x.fs gs)
section
variable (K : PySem.W.Frag) (W : WX)
/-- the reading of an expression that m tells -/
def Go (m : M D) (σ : L2.St) (I H : Hp) (δ : En) (Q : VK) : Prop := match m δ with
  | .ok d δ' => ∀ v I' H', Nxt K σ I H δ I' H' δ' → Rep K I' d v → Q v H'
  | .er x δ' => ∀ cls dd I' H', Nxt K σ I H δ I' H' δ' → ExR K I' H' x cls dd → W cls dd σ H'
  | .st => False
def GoA (m : M (List D)) (σ : L2.St) (I H : Hp) (δ : En) (Q : List V → Hp → Prop) : Prop := match m δ with
  | .ok ds δ' => ∀ vs I' H', Nxt K σ I H δ I' H' δ' → Reps K I' ds vs → Q vs H'
  | .er x δ' => ∀ cls dd I' H', Nxt K σ I H δ I' H' δ' → ExR K I' H' x cls dd → W cls dd σ H'
  | .st => False
def GoT {α : Type} (m : M α) (σ : L2.St) (I H : Hp) (δ : En) (Q : α → Hp → Prop) : Prop := match m δ with
  | .ok b δ' => ∀ I' H', Nxt K σ I H δ I' H' δ' → Q b H'
  | .er x δ' => ∀ cls dd I' H', Nxt K σ I H δ I' H' δ' → ExR K I' H' x cls dd → W cls dd σ H'
  | .st => False
def tD (m : M D) : TE := fun σ H Q => ∃ I δ, Env K I H σ δ ∧ Go K W m σ I H δ Q
def tDA (m : M (List D)) : TA := fun σ H Q => ∃ I δ, Env K I H σ δ ∧ GoA K W m σ I H δ Q
def tDT (m : M Bool) : TT := fun σ H Q => ∃ I δ, Env K I H σ δ ∧ GoT K W m σ I H δ Q
end
/-- how a block goes on -/
inductive Fl where
  | nx | bk | ct | rt (d : D)
section
variable (K : PySem.W.Frag) (W : WX) (P : Nat)
def EndsAt (I' : Hp) (σ' : L2.St) (H' : Hp) (Dn : Ends) : Fl → Prop
  | .nx => Dn.nx σ' H'
  | .bk => Dn.bk σ' H'
  | .ct => Dn.ct σ' H'
  | .rt d => ∀ v, Rep K I' d v → Dn.rt v H'
def GoS (m : M Fl) (σ : L2.St) (I H : Hp) (δ : En) (Dn : Ends) : Prop := match m δ with
  | .ok fl δ' => ∀ σ' I' H', NxtS K P σ I H δ σ' I' H' δ' → EndsAt K I' σ' H' Dn fl
  | .er x δ' => ∀ cls dd σ' I' H', NxtS K P σ I H δ σ' I' H' δ' → ExR K I' H' x cls dd → W cls dd σ' H'
  | .st => False
def tDS (m : M Fl) : TS := fun Dn σ H => ∃ I δ, Env K I H σ δ ∧ GoS K W P m σ I H δ Dn
end
/-! ### the judgements -/
abbrev DE (X : Cx) (W : WX) (e : Expr) (m : M D) : Prop := PE X e (tD X.K W m)
abbrev DA (X : Cx) (W : WX) (es : List Expr) (m : M (List D)) : Prop := PA X es (tDA X.K W m)
abbrev DT (X : Cx) (W : WX) (e : Expr) (m : M Bool) : Prop := PT X e (tDT X.K W m)
abbrev DS (X : Cx) (W : WX) (P : Nat) (st : Stmt) (m : M Fl) : Prop := PS X st (tDS X.K W P m)
abbrev DSs (X : Cx) (W : WX) (P : Nat) (st : List Stmt) (m : M Fl) : Prop := PSs X st (tDS X.K W P m)
theorem PE.weak {X : Cx} {e : Expr} {t t' : TE} (h : PE X e t) (w : ∀ σ H Q, t' σ H Q → t σ H Q) : PE X e t' := ⟨fun pins s σ H Q I q => h.run pins s σ H Q I (w σ H Q q)⟩
theorem PA.weak {X : Cx} {e : List Expr} {t t' : TA} (h : PA X e t) (w : ∀ σ H Q, t' σ H Q → t σ H Q) : PA X e t' := ⟨fun pos pins s σ H Q I q => h.run pos pins s σ H Q I (w σ H Q q)⟩
theorem PT.weak {X : Cx} {e : Expr} {t t' : TT} (h : PT X e t) (w : ∀ σ H Q, t' σ H Q → t σ H Q) : PT X e t' := ⟨fun pins s σ H Q I q => h.run pins s σ H Q I (w σ H Q q)⟩
theorem PW.weak {X : Cx} {e : Expr} {t t' : TT} (h : PW X e t) (w : ∀ σ H Q, t' σ H Q → t σ H Q) : PW X e t' := ⟨fun wh pins s σ H Q I q => h.run wh pins s σ H Q I (w σ H Q q)⟩
theorem PS.weak {X : Cx} {e : Stmt} {t t' : TS} (h : PS X e t) (w : ∀ D σ H, t' D σ H → t D σ H) : PS X e t' := ⟨fun pins s σ H D I q => h.run pins s σ H D I (w D σ H q)⟩
theorem PSs.weak {X : Cx} {e : List Stmt} {t t' : TS} (h : PSs X e t) (w : ∀ D σ H, t' D σ H → t D σ H) : PSs X e t' := ⟨fun pins s σ H D I q => h.run pins s σ H D I (w D σ H q)⟩
/-! ### the bind rules -/
section
variable {K : PySem.W.Frag} {W : WX} {P : Nat} {σ : L2.St} {I H I1 H1 : Hp} {δ δ1 : En}
/-- what stands behind a bind, from the state behind the first part -/
theorem Go.after {α : Type} {m : M α} {f : α → M D} {a : α} {Q : VK} (g : Go K W (m >>= f) σ I H δ Q) (n : Nxt K σ I H δ I1 H1 δ1) (e : m δ = .ok a δ1) : Go K W (f a) σ I1 H1 δ1 Q := by
  unfold Go at g ⊢
  rw [bind_eq, e] at g
  dsimp only at g
  cases q : f a δ1 with
  | ok d δ2 => rw [q] at g; exact fun v I' H' n' r => g v I' H' (n.trans n') r
  | er x δ2 => rw [q] at g; exact fun c dd I' H' n' r => g c dd I' H' (n.trans n') r
  | st => rw [q] at g; exact g
theorem GoA.after {α : Type} {m : M α} {f : α → M (List D)} {a : α} {Q : List V → Hp → Prop} (g : GoA K W (m >>= f) σ I H δ Q) (n : Nxt K σ I H δ I1 H1 δ1) (e : m δ = .ok a δ1) : GoA K W (f a) σ I1 H1 δ1 Q := by
  unfold GoA at g ⊢
  rw [bind_eq, e] at g
  dsimp only at g
  cases q : f a δ1 with
  | ok d δ2 => rw [q] at g; exact fun v I' H' n' r => g v I' H' (n.trans n') r
  | er x δ2 => rw [q] at g; exact fun c dd I' H' n' r => g c dd I' H' (n.trans n') r
  | st => rw [q] at g; exact g
theorem GoT.after {α β : Type} {m : M α} {f : α → M β} {a : α} {Q : β → Hp → Prop} (g : GoT K W (m >>= f) σ I H δ Q) (n : Nxt K σ I H δ I1 H1 δ1) (e : m δ = .ok a δ1) : GoT K W (f a) σ I1 H1 δ1 Q := by
  unfold GoT at g ⊢
  rw [bind_eq, e] at g
  dsimp only at g
  cases q : f a δ1 with
  | ok d δ2 => rw [q] at g; exact fun I' H' n' => g I' H' (n.trans n')
  | er x δ2 => rw [q] at g; exact fun c dd I' H' n' r => g c dd I' H' (n.trans n') r
  | st => rw [q] at g; exact g
theorem GoS.after {α : Type} {m : M α} {f : α → M Fl} {a : α} {Dn : Ends} {σ1 : L2.St} (g : GoS K W P (m >>= f) σ I H δ Dn) (n : NxtS K P σ I H δ σ1 I1 H1 δ1) (e : m δ = .ok a δ1) : GoS K W P (f a) σ1 I1 H1 δ1 Dn := by
  unfold GoS at g ⊢
  rw [bind_eq, e] at g
  dsimp only at g
  cases q : f a δ1 with
  | ok d δ2 => rw [q] at g; exact fun σ' I' H' n' => g σ' I' H' (n.trans n')
  | er x δ2 => rw [q] at g; exact fun c dd σ' I' H' n' r => g c dd σ' I' H' (n.trans n') r
  | st => rw [q] at g; exact g
/-- an expression within an expression -/
theorem go_bind {m : M D} {f : D → M D} {Q R : VK} (en : Env K I H σ δ) (g : Go K W (m >>= f) σ I H δ Q)
    (k : ∀ d v I1 H1 δ1, Nxt K σ I H δ I1 H1 δ1 → Rep K I1 d v → Go K W (f d) σ I1 H1 δ1 Q → R v H1) : tD K W m σ H R := by
  refine ⟨I, δ, en, ?_⟩
  have g0 := g
  unfold Go at g ⊢
  rw [bind_eq] at g
  cases q : m δ with
  | ok d δ1 => exact fun v I' H' n r => k d v I' H' δ1 n r (g0.after n q)
  | er x δ1 => rw [q] at g; exact g
  | st => rw [q] at g; exact g
theorem go_bindA {m : M (List D)} {f : List D → M D} {Q : VK} {R : List V → Hp → Prop} (en : Env K I H σ δ) (g : Go K W (m >>= f) σ I H δ Q)
    (k : ∀ ds vs I1 H1 δ1, Nxt K σ I H δ I1 H1 δ1 → Reps K I1 ds vs → Go K W (f ds) σ I1 H1 δ1 Q → R vs H1) : tDA K W m σ H R := by
  refine ⟨I, δ, en, ?_⟩
  have g0 := g
  unfold Go at g
  unfold GoA
  rw [bind_eq] at g
  cases q : m δ with
  | ok d δ1 => exact fun v I' H' n r => k d v I' H' δ1 n r (g0.after n q)
  | er x δ1 => rw [q] at g; exact g
  | st => rw [q] at g; exact g
theorem go_bindX {β : Type} {m : M β} {f : β → M D} {Q : VK} {R : β → Hp → Prop} (en : Env K I H σ δ) (g : Go K W (m >>= f) σ I H δ Q)
    (k : ∀ b I1 H1 δ1, Nxt K σ I H δ I1 H1 δ1 → Go K W (f b) σ I1 H1 δ1 Q → R b H1) : GoT K W m σ I H δ R := by
  have g0 := g
  unfold Go at g
  unfold GoT
  rw [bind_eq] at g
  cases q : m δ with
  | ok d δ1 => exact fun I' H' n => k d I' H' δ1 n (g0.after n q)
  | er x δ1 => rw [q] at g; exact g
  | st => rw [q] at g; exact g
theorem go_bindT {m : M Bool} {f : Bool → M D} {Q : VK} {R : Bool → Hp → Prop} (en : Env K I H σ δ) (g : Go K W (m >>= f) σ I H δ Q)
    (k : ∀ b I1 H1 δ1, Nxt K σ I H δ I1 H1 δ1 → Go K W (f b) σ I1 H1 δ1 Q → R b H1) : tDT K W m σ H R := ⟨I, δ, en, go_bindX en g k⟩
theorem goA_bind {m : M D} {f : D → M (List D)} {Q : List V → Hp → Prop} {R : VK} (en : Env K I H σ δ) (g : GoA K W (m >>= f) σ I H δ Q)
    (k : ∀ d v I1 H1 δ1, Nxt K σ I H δ I1 H1 δ1 → Rep K I1 d v → GoA K W (f d) σ I1 H1 δ1 Q → R v H1) : tD K W m σ H R := by
  refine ⟨I, δ, en, ?_⟩
  have g0 := g
  unfold GoA at g
  unfold Go
  rw [bind_eq] at g
  cases q : m δ with
  | ok d δ1 => exact fun v I' H' n r => k d v I' H' δ1 n r (g0.after n q)
  | er x δ1 => rw [q] at g; exact g
  | st => rw [q] at g; exact g
theorem goA_bindA {m : M (List D)} {f : List D → M (List D)} {Q R : List V → Hp → Prop} (en : Env K I H σ δ) (g : GoA K W (m >>= f) σ I H δ Q)
    (k : ∀ ds vs I1 H1 δ1, Nxt K σ I H δ I1 H1 δ1 → Reps K I1 ds vs → GoA K W (f ds) σ I1 H1 δ1 Q → R vs H1) : tDA K W m σ H R := by
  refine ⟨I, δ, en, ?_⟩
  have g0 := g
  unfold GoA at g ⊢
  rw [bind_eq] at g
  cases q : m δ with
  | ok d δ1 => exact fun v I' H' n r => k d v I' H' δ1 n r (g0.after n q)
  | er x δ1 => rw [q] at g; exact g
  | st => rw [q] at g; exact g
theorem goT_bind {β : Type} {m : M D} {f : D → M β} {Q : β → Hp → Prop} {R : VK} (en : Env K I H σ δ) (g : GoT K W (m >>= f) σ I H δ Q)
    (k : ∀ d v I1 H1 δ1, Nxt K σ I H δ I1 H1 δ1 → Rep K I1 d v → GoT K W (f d) σ I1 H1 δ1 Q → R v H1) : tD K W m σ H R := by
  refine ⟨I, δ, en, ?_⟩
  have g0 := g
  unfold GoT at g
  unfold Go
  rw [bind_eq] at g
  cases q : m δ with
  | ok d δ1 => exact fun v I' H' n r => k d v I' H' δ1 n r (g0.after n q)
  | er x δ1 => rw [q] at g; exact g
  | st => rw [q] at g; exact g
theorem goT_bindT {m : M Bool} {f : Bool → M Bool} {Q R : Bool → Hp → Prop} (en : Env K I H σ δ) (g : GoT K W (m >>= f) σ I H δ Q)
    (k : ∀ b I1 H1 δ1, Nxt K σ I H δ I1 H1 δ1 → GoT K W (f b) σ I1 H1 δ1 Q → R b H1) : tDT K W m σ H R := by
  refine ⟨I, δ, en, ?_⟩
  have g0 := g
  unfold GoT at g ⊢
  rw [bind_eq] at g
  cases q : m δ with
  | ok d δ1 => exact fun I' H' n => k d I' H' δ1 n (g0.after n q)
  | er x δ1 => rw [q] at g; exact g
  | st => rw [q] at g; exact g
theorem goS_bind {m : M D} {f : D → M Fl} {Dn : Ends} {R : VK} (en : Env K I H σ δ) (g : GoS K W P (m >>= f) σ I H δ Dn)
    (k : ∀ d v I1 H1 δ1, Nxt K σ I H δ I1 H1 δ1 → Rep K I1 d v → GoS K W P (f d) σ I1 H1 δ1 Dn → R v H1) : tD K W m σ H R := by
  refine ⟨I, δ, en, ?_⟩
  have g0 := g
  unfold GoS at g
  unfold Go
  rw [bind_eq] at g
  cases q : m δ with
  | ok d δ1 => exact fun v I' H' n r => k d v I' H' δ1 n r (g0.after n.toS q)
  | er x δ1 => rw [q] at g; exact fun c dd I' H' n r => g c dd σ I' H' n.toS r
  | st => rw [q] at g; exact g
theorem goS_bindA {m : M (List D)} {f : List D → M Fl} {Dn : Ends} {R : List V → Hp → Prop} (en : Env K I H σ δ) (g : GoS K W P (m >>= f) σ I H δ Dn)
    (k : ∀ ds vs I1 H1 δ1, Nxt K σ I H δ I1 H1 δ1 → Reps K I1 ds vs → GoS K W P (f ds) σ I1 H1 δ1 Dn → R vs H1) : tDA K W m σ H R := by
  refine ⟨I, δ, en, ?_⟩
  have g0 := g
  unfold GoS at g
  unfold GoA
  rw [bind_eq] at g
  cases q : m δ with
  | ok d δ1 => exact fun v I' H' n r => k d v I' H' δ1 n r (g0.after n.toS q)
  | er x δ1 => rw [q] at g; exact fun c dd I' H' n r => g c dd σ I' H' n.toS r
  | st => rw [q] at g; exact g
theorem goS_bindT {m : M Bool} {f : Bool → M Fl} {Dn : Ends} {R : Bool → Hp → Prop} (en : Env K I H σ δ) (g : GoS K W P (m >>= f) σ I H δ Dn)
    (k : ∀ b I1 H1 δ1, Nxt K σ I H δ I1 H1 δ1 → GoS K W P (f b) σ I1 H1 δ1 Dn → R b H1) : tDT K W m σ H R := by
  refine ⟨I, δ, en, ?_⟩
  have g0 := g
  unfold GoS at g
  unfold GoT
  rw [bind_eq] at g
  cases q : m δ with
  | ok d δ1 => exact fun I' H' n => k d I' H' δ1 n (g0.after n.toS q)
  | er x δ1 => rw [q] at g; exact fun c dd I' H' n r => g c dd σ I' H' n.toS r
  | st => rw [q] at g; exact g
/-- values -/
theorem Go.val {d : D} {Q : VK} {v : V} (g : Go K W (pure d) σ I H δ Q) (n : Nxt K σ I H δ I1 H1 δ) (r : Rep K I1 d v) : Q v H1 := g v I1 H1 n r
theorem Go.val0 {d : D} {Q : VK} {v : V} (g : Go K W (pure d) σ I H δ Q) (en : Env K I H σ δ) (r : Rep K I d v) : Q v H := g v I H (.refl en) r
theorem GoT.val0 {β : Type} {b : β} {Q : β → Hp → Prop} (g : GoT K W (pure b) σ I H δ Q) (en : Env K I H σ δ) : Q b H := g I H (.refl en)
theorem GoA.val0 {ds : List D} {vs : List V} {Q : List V → Hp → Prop} (g : GoA K W (pure ds) σ I H δ Q) (en : Env K I H σ δ) (r : Reps K I ds vs) : Q vs H := g vs I H (.refl en) r
theorem go_st {Q : VK} {C : Prop} (g : Go K W (stuck) σ I H δ Q) : C := False.elim g
theorem goT_st {β : Type} {Q : β → Hp → Prop} {C : Prop} (g : GoT K W (stuck) σ I H δ Q) : C := False.elim g
theorem goS_st {Dn : Ends} {C : Prop} (g : GoS K W P (stuck) σ I H δ Dn) : C := False.elim g
end
end DL
set_option maxHeartbeats 2000000
/-! DL2: expressions. -/
namespace DL
open PySem PySem.Spec PyProof.Rows L2
/-! ### names -/
def getV (i : Nat) : M D := fun δ => match δ[i]? with
  | some (.va d) => .ok d δ
  | some (.ow ds) => .ok (.lst ds) (δ.set i (.va (.lst ds)))
  | some (.ob c fs) => .ok (.obj c fs) (δ.set i (.va (.obj c fs)))
  | _ => .st
section
variable {K : PySem.W.Frag} {W : WX} {P : Nat} {σ σ1 : L2.St} {I H I1 H1 : Hp} {δ δ1 : En}
theorem set_at {α : Type} {l : List α} {i j : Nat} {x y : α} (h : (l.set i x)[j]? = some y) : (j = i ∧ y = x) ∨ (j ≠ i ∧ l[j]? = some y) := by
  by_cases e : j = i
  · subst e
    rw [List.getElem?_set] at h
    split at h
    · split at h
      · cases h; exact .inl ⟨rfl, rfl⟩
      · cases h
    · exact absurd rfl ‹_›
  · rw [List.getElem?_set_ne (Ne.symm e)] at h
    exact .inr ⟨e, h⟩
/-- an owned slot is handed over to what is known -/
theorem Env.freeze (en : Env K I H σ δ) {i : Nat} {s : Sl} {a : Addr} {o : HO} {d : D} (hs : δ[i]? = some s) (ho : s.own) (hv : σ[i]? = some (some (.ref a))) (hH : H a = some o) (hI : I a = none) (r : Rep K (upd I a o) d (.ref a)) :
    Nxt K σ I H δ (upd I a o) H (δ.set i (.va d)) := by
  have ei : Ext I (upd I a o) := Ext.upd' hI
  have oa : OwnAt δ σ i a := ⟨⟨s, hs, ho⟩, hv⟩
  have back : ∀ j b, OwnAt (δ.set i (.va d)) σ j b → OwnAt δ σ j b ∧ b ≠ a := fun j b ⟨⟨t, ht, hto⟩, hb⟩ => by
    rcases set_at ht with ⟨e, q⟩ | ⟨ne, q⟩
    · subst q; exact hto.elim
    · have z : OwnAt δ σ j b := ⟨⟨t, q, hto⟩, hb⟩
      refine ⟨z, fun e => ?_⟩
      subst e
      exact ne (en.one _ _ _ z oa)
  refine ⟨⟨fun b u h => ?_, by rw [List.length_set]; exact en.len, fun j t o' h1 h2 => ?_, fun j k b h1 h2 => en.one j k b (back _ _ h1).1 (back _ _ h2).1⟩,
    ⟨ei, fun b u h n => ?_, fun b u h _ => h, fun b n => n⟩, fun b ⟨j, h⟩ => ⟨j, (back j b h).1⟩⟩
  · by_cases q : b = a
    · subst q; rw [upd_same] at h; rw [hH]; exact h
    · rw [upd_ne q] at h; exact en.ext b u h
  · rcases set_at h1 with ⟨e, q⟩ | ⟨ne, q⟩
    · subst e; subst q
      rw [hv] at h2; cases h2
      exact ⟨_, rfl, r⟩
    · have z := en.at_ j t o' q h2
      cases t with
      | un => exact z
      | xc a' dd x => exact ⟨z.1, z.2.mono ei⟩
      | va d' => obtain ⟨v, e, z⟩ := z; exact ⟨v, e, z.mono ei⟩
      | ow ds =>
        obtain ⟨b, vs, e, n, zz, z⟩ := z
        subst e
        have nb : b ≠ a := (back j b ⟨⟨_, h1, trivial⟩, h2⟩).2
        exact ⟨b, vs, rfl, by rw [upd_ne nb]; exact n, zz, z.mono ei⟩
      | ob c fs =>
        obtain ⟨b, dx, gs, e, n, zz, z⟩ := z
        subst e
        have nb : b ≠ a := (back j b ⟨⟨_, h1, trivial⟩, h2⟩).2
        exact ⟨b, dx, gs, rfl, by rw [upd_ne nb]; exact n, zz, z.mono ei⟩
  · by_cases q : b = a
    · subst q; exact .inr ⟨i, oa⟩
    · rw [upd_ne q, n] at h; cases h
theorem Env.slot (en : Env K I H σ δ) {i : Nat} {s : Sl} (hs : δ[i]? = some s) : ∃ o, σ[i]? = some o ∧ SlRep K I H s o := by
  have h1 : i < σ.length := by rw [en.len]; exact (List.getElem?_eq_some_iff.mp hs).1
  refine ⟨σ[i], List.getElem?_eq_some_iff.mpr ⟨h1, rfl⟩, en.at_ i s _ hs (List.getElem?_eq_some_iff.mpr ⟨h1, rfl⟩)⟩
theorem go_var {i : Nat} {Q : VK} (en : Env K I H σ δ) (g : Go K W (getV i) σ I H δ Q) : tVar i σ H Q := by
  unfold Go getV at g
  cases q : δ[i]? with
  | none => rw [q] at g; exact g.elim
  | some s =>
    rw [q] at g
    obtain ⟨o, ho, r⟩ := en.slot q
    cases s with
    | un => exact g.elim
    | xc a' dd x => exact g.elim
    | va d => obtain ⟨v, e, r⟩ := r; subst e; exact ⟨v, ho, g v I H (.refl en) r⟩
    | ow ds =>
      obtain ⟨a, vs, e, n, z, r⟩ := r
      subst e
      have rr : Rep K (upd I a (.lst vs)) (.lst ds) (.ref a) := .lst upd_same (r.mono (Ext.upd' n))
      exact ⟨_, ho, g _ _ H (en.freeze q trivial ho z n rr) rr⟩
    | ob c fs =>
      obtain ⟨a, dx, gs, e, n, z, r⟩ := r
      subst e
      have rr : Rep K (upd I a (.ins (ga K c) dx gs)) (.obj c fs) (.ref a) := .obj upd_same (r.mono (Ext.upd' n))
      exact ⟨_, ho, g _ _ H (en.freeze q trivial ho z n rr) rr⟩
end
section
variable {X : Cx} {W : WX} {pos : Pos}
theorem d_v (i : Nat) {x : Str} (hN : X.N[i]? = some x := by rfl) (hv : Vis X.env.scope x := by first | exact Or.inl rfl | exact Or.inr (Or.inl rfl) | exact Or.inr (Or.inr rfl)) (hd : (x == ("__debug__" : Str)) = false := by decide)
    (hcd : (x == ("__classdict__" : Str)) = false := by decide) : DE X W (.Name x pos) (getV i) := PE.weak (pv i hN hv hd hcd) fun σ H Q ⟨I, δ, en, g⟩ => go_var en g
/-- a constant -/
theorem pe_c {e : Expr} {v : V} {d : D} (h : PE X e (tC v)) (r : ∀ I, Rep X.K I d v) : DE X W e (pure d) := PE.weak h fun σ H Q ⟨I, δ, en, g⟩ => g.val0 en (r I)
theorem d_int {i : Int} {j pos} : DE X W (.Constant (.int i) j pos) (pure (.int i)) := pe_c pe_int fun _ => .int i
theorem d_bl {b : Bool} {j pos} : DE X W (.Constant (.bool b) j pos) (pure (.bl b)) := pe_c pe_bl fun _ => .bl b
theorem d_non {j pos} : DE X W (.Constant .none j pos) (pure .non) := pe_c pe_non fun _ => .non
theorem d_str {x : Str} {j pos} : DE X W (.Constant (.str x) j pos) (pure (.str x)) := pe_c pe_str fun _ => .str x
/-- a constant of the module -/
structure GlobD (K : PySem.W.Frag) (mg : Str → Option Value) (x : Str) (d : D) : Prop where
  at_ : ∃ u v, mg x = some u ∧ RelV v u ∧ ∀ I, Rep K I d v
theorem d_glo {x : Str} {d : D} (h : GlobD X.K X.mg x d) (hg : Gl X x := by rfl) (hd : (x == ("__debug__" : Str)) = false := by decide) : DE X W (.Name x pos) (pure d) := by
  obtain ⟨u, v, hm, r, rr⟩ := h.at_
  exact pe_c (pe_glob hg hm r hd) rr
/-! ### operators -/
structure OpL (X : Cx) (W : WX) (g : Value → Value → Sem Value) (f : D → D → M D) : Prop where
  run : ∃ r : R2, OpR X g r ∧ ∀ σ I H δ d1 d2 v1 v2 Q, Env X.K I H σ δ → Rep X.K I d1 v1 → Rep X.K I d2 v2 → Go X.K W (f d1 d2) σ I H δ Q → r v1 v2 H Q
structure UnL (X : Cx) (W : WX) (g : Value → Sem Value) (f : D → M D) : Prop where
  run : ∃ r, UnR X g r ∧ ∀ σ I H δ d v Q, Env X.K I H σ δ → Rep X.K I d v → Go X.K W (f d) σ I H δ Q → r v H Q
structure CallL (X : Cx) (W : WX) (g : Value) (f : List D → M D) : Prop where
  run : ∃ r, CallR X g r ∧ ∀ σ I H δ ds vs Q, Env X.K I H σ δ → Reps X.K I ds vs → Go X.K W (f ds) σ I H δ Q → r vs H Q
def bin (f : D → D → M D) (a b : M D) : M D := a >>= fun x => b >>= fun y => f x y
def una (f : D → M D) (a : M D) : M D := a >>= f
variable {a b c : Expr} {ma mb mc : M D}
theorem d_bin {op : Operator} {f : D → D → M D} (ho : OpL X W (binaryOp op) f) (ha : DE X W a ma) (hb : DE X W b mb) : DE X W (.BinOp a op b pos) (bin f ma mb) := by
  obtain ⟨r, hr, k⟩ := ho.run
  refine PE.weak (pe_op hr ha hb) fun σ H Q ⟨I, δ, en, g⟩ => ?_
  exact go_bind en g fun d1 v1 I1 H1 δ1 n1 r1 g1 => go_bind n1.env g1 fun d2 v2 I2 H2 δ2 n2 r2 g2 => k σ I2 H2 δ2 d1 d2 v1 v2 Q n2.env (r1.mono n2.post.ext) r2 g2
theorem d_un {op : UnaryOp} {f : D → M D} (ho : UnL X W (unaryOp op) f) (ha : DE X W a ma) : DE X W (.UnaryOp op a pos) (una f ma) := by
  obtain ⟨r, hr, k⟩ := ho.run
  refine PE.weak (pe_un hr ha) fun σ H Q ⟨I, δ, en, g⟩ => ?_
  exact go_bind en g fun d1 v1 I1 H1 δ1 n1 r1 g1 => k σ I1 H1 δ1 d1 v1 Q n1.env r1 g1
theorem d_cmp {op : CmpOp} {f : D → D → M D} (ho : OpL X W (compareOp op) f) (ha : DE X W a ma) (hb : DE X W b mb) (hm : behindInMarks op b = false := by first | exact nobehind _ (by decide) (by decide) | rfl) : DE X W (.Compare a [op] [b] pos) (bin f ma mb) := by
  obtain ⟨r, hr, k⟩ := ho.run
  refine PE.weak (pe_cmpR hr ha hb hm) fun σ H Q ⟨I, δ, en, g⟩ => ?_
  exact go_bind en g fun d1 v1 I1 H1 δ1 n1 r1 g1 => go_bind n1.env g1 fun d2 v2 I2 H2 δ2 n2 r2 g2 => k σ I2 H2 δ2 d1 d2 v1 v2 Q n2.env (r1.mono n2.post.ext) r2 g2
/-- the truth of a bool -/
def blD : D → M Bool
  | .bl b => pure b
  | _ => stuck
def tst (m : M D) : M Bool := m >>= blD
theorem blD_ok {K : PySem.W.Frag} {σ : L2.St} {I H : Hp} {δ : En} {d : D} {v : V} {Q : Bool → Hp → Prop} (en : Env K I H σ δ) (r : Rep K I d v) (g : GoT K W (blD d) σ I H δ Q) : ∃ k, v = .bl k ∧ Q k H := by
  cases r with
  | bl b => exact ⟨b, rfl, g.val0 en⟩
  | _ => exact g.elim
theorem goT_opl {K : PySem.W.Frag} {σ : L2.St} {I H : Hp} {δ : En} {m : M D} {f : D → M Bool} {Q : Bool → Hp → Prop} (g : GoT K W (m >>= f) σ I H δ Q) :
    Go K W m σ I H δ (fun v H' => ∃ d I' δ', Nxt K σ I H δ I' H' δ' ∧ Rep K I' d v ∧ GoT K W (f d) σ I' H' δ' Q) := by
  have g0 := g
  unfold GoT at g
  unfold Go
  rw [bind_eq] at g
  cases q : m δ with
  | ok d δ1 => exact fun v I' H' n r => ⟨d, I', δ1, n, r, g0.after n q⟩
  | er x δ1 => rw [q] at g; exact g
  | st => rw [q] at g; exact g
theorem bind_assoc' {α β γ : Type} (m : M α) (f : α → M β) (g : β → M γ) : ((m >>= f) >>= g) = (m >>= fun x => f x >>= g) := by
  funext δ
  show M.bind (M.bind m f) g δ = M.bind m (fun x => M.bind (f x) g) δ
  unfold M.bind
  cases m δ <;> rfl
theorem pure_bind' {α β : Type} (a : α) (f : α → M β) : ((pure a : M α) >>= f) = f a := rfl
theorem d_tcmp {op : CmpOp} {f : D → D → M D} (ho : OpL X W (compareOp op) f) (ha : DE X W a ma) (hb : DE X W b mb) (hm : behindInMarks op b = false := by first | exact nobehind _ (by decide) (by decide) | rfl) : DT X W (.Compare a [op] [b] pos) (tst (bin f ma mb)) := by
  obtain ⟨r, hr, k⟩ := ho.run
  refine PT.weak (pt_cmpR hr ha hb hm) fun σ H Q ⟨I, δ, en, g⟩ => ?_
  unfold tst bin at g
  rw [bind_assoc'] at g
  refine goT_bind en g fun d1 v1 I1 H1 δ1 n1 r1 g1 => ?_
  rw [bind_assoc'] at g1
  refine goT_bind n1.env g1 fun d2 v2 I2 H2 δ2 n2 r2 g2 => k σ I2 H2 δ2 d1 d2 v1 v2 _ n2.env (r1.mono n2.post.ext) r2 ?_
  have g3 := goT_opl g2
  unfold Go at g3 ⊢
  cases q : f d1 d2 δ2 with
  | ok d δ3 =>
    rw [q] at g3
    intro v I' H' n r
    obtain ⟨d', I'', δ'', n', r', z⟩ := g3 v I' H' n r
    exact blD_ok n'.env r' z
  | er x δ3 => rw [q] at g3; exact g3
  | st => rw [q] at g3; exact g3
/-- any expression whose value is a bool, as a test -/
theorem d_tval (ha : DE X W a ma) (he : ∀ whole, isTrue a X.env whole = (do let v ← whole; standAt a.pos; holding [v] (truthy v)) := by intro _; rfl) : DT X W a (tst ma) := by
  refine PT.weak (pt_val ha he) fun σ H Q ⟨I, δ, en, g⟩ => ?_
  exact goT_bind en g fun d1 v1 I1 H1 δ1 n1 r1 g1 => blD_ok n1.env r1 g1
/-! ### a op b op c -/
def chainD (f f' : D → D → M D) (a b c : M D) : M D := a >>= fun x => b >>= fun y => f x y >>= fun z => blD z >>= fun k => if k then (c >>= fun w => f' y w) else pure (.bl false)
theorem go_opl {K : PySem.W.Frag} {σ : L2.St} {I H : Hp} {δ : En} {m : M D} {f : D → M D} {Q : VK} (g : Go K W (m >>= f) σ I H δ Q) :
    Go K W m σ I H δ (fun v H' => ∃ d I' δ', Nxt K σ I H δ I' H' δ' ∧ Rep K I' d v ∧ Go K W (f d) σ I' H' δ' Q) := by
  have g0 := g
  unfold Go at g ⊢
  rw [bind_eq] at g
  cases q : m δ with
  | ok d δ1 => exact fun v I' H' n r => ⟨d, I', δ1, n, r, g0.after n q⟩
  | er x δ1 => rw [q] at g; exact g
  | st => rw [q] at g; exact g
theorem Go.imp {K : PySem.W.Frag} {σ : L2.St} {I H : Hp} {δ : En} {m : M D} {Q Q' : VK} (g : Go K W m σ I H δ Q) (h : ∀ v H', Q v H' → Q' v H') : Go K W m σ I H δ Q' := by
  unfold Go at g ⊢
  cases q : m δ with
  | ok d δ1 => rw [q] at g; exact fun v I' H' n r => h _ _ (g v I' H' n r)
  | er x δ1 => rw [q] at g; exact g
  | st => rw [q] at g; exact g
theorem blD_go {K : PySem.W.Frag} {σ : L2.St} {I H : Hp} {δ : En} {d : D} {v : V} {Q : VK} {f : Bool → M D} (en : Env K I H σ δ) (r : Rep K I d v) (g : Go K W (blD d >>= f) σ I H δ Q) : ∃ k, v = .bl k ∧ Go K W (f k) σ I H δ Q := by
  cases r with
  | bl b => exact ⟨b, rfl, g⟩
  | _ => exact g.elim
theorem d_chain {op op' : CmpOp} {f f' : D → D → M D} (ho : OpL X W (compareOp op) f) (ho' : OpL X W (compareOp op') f') (ha : DE X W a ma) (hb : DE X W b mb) (hc : DE X W c mc)
    (hm : lastMarks [op, op'] [b, c] = false := by with_unfolding_all rfl) : DE X W (.Compare a [op, op'] [b, c] pos) (chainD f f' ma mb mc) := by
  obtain ⟨r, hr, k⟩ := ho.run
  obtain ⟨r', hr', k'⟩ := ho'.run
  refine PE.weak (pe_chain hr hr' ha hb hc hm) fun σ H Q ⟨I, δ, en, g⟩ => ?_
  refine go_bind en g fun d1 v1 I1 H1 δ1 n1 r1 g1 => go_bind n1.env g1 fun d2 v2 I2 H2 δ2 n2 r2 g2 => k σ I2 H2 δ2 d1 d2 v1 v2 _ n2.env (r1.mono n2.post.ext) r2 ?_
  refine (go_opl g2).imp fun v H' ⟨d, I', δ', n', r', g3⟩ => ?_
  obtain ⟨kk, e, g4⟩ := blD_go n'.env r' g3
  refine ⟨kk, e, ?_⟩
  cases kk with
  | true =>
    rw [if_pos rfl]
    exact go_bind n'.env g4 fun d4 v4 I4 H4 δ4 n4 r4 g5 => k' σ I4 H4 δ4 d2 d4 v2 v4 Q n4.env ((r2.mono n'.post.ext).mono n4.post.ext) r4 g5
  | false => rw [if_neg Bool.false_ne_true]; exact Go.val0 g4 n'.env (.bl false)
theorem d_tchain {op op' : CmpOp} {f f' : D → D → M D} (ho : OpL X W (compareOp op) f) (ho' : OpL X W (compareOp op') f') (ha : DE X W a ma) (hb : DE X W b mb) (hc : DE X W c mc)
    (hm : lastMarks [op, op'] [b, c] = false := by with_unfolding_all rfl) : DT X W (.Compare a [op, op'] [b, c] pos) (tst (chainD f f' ma mb mc)) := by
  obtain ⟨r, hr, k⟩ := ho.run
  obtain ⟨r', hr', k'⟩ := ho'.run
  refine PT.weak (pt_chain hr hr' ha hb hc hm) fun σ H Q ⟨I, δ, en, g⟩ => ?_
  have g0 : Go X.K W (chainD f f' ma mb mc) σ I H δ (fun v H' => ∃ k, v = .bl k ∧ Q k H') := (goT_opl g).imp fun v H' ⟨d, I', δ', n', r', g3⟩ => blD_ok n'.env r' g3
  refine go_bind en g0 fun d1 v1 I1 H1 δ1 n1 r1 g1 => go_bind n1.env g1 fun d2 v2 I2 H2 δ2 n2 r2 g2 => k σ I2 H2 δ2 d1 d2 v1 v2 _ n2.env (r1.mono n2.post.ext) r2 ?_
  refine (go_opl g2).imp fun v H' ⟨d, I', δ', n', r', g3⟩ => ?_
  obtain ⟨kk, e, g4⟩ := blD_go n'.env r' g3
  refine ⟨kk, e, ?_⟩
  cases kk with
  | true =>
    rw [if_pos rfl]
    exact go_bind n'.env g4 fun d4 v4 I4 H4 δ4 n4 r4 g5 => k' σ I4 H4 δ4 d2 d4 v2 v4 _ n4.env ((r2.mono n'.post.ext).mono n4.post.ext) r4 g5
  | false => rw [if_neg Bool.false_ne_true]; exact Go.val0 g4 n'.env (.bl false)
/-! ### and, or, not, if else -/
def andT (a b : M Bool) : M Bool := a >>= fun x => if x then b else pure false
def orT (a b : M Bool) : M Bool := a >>= fun x => if x then pure true else b
def notT (a : M Bool) : M Bool := a >>= fun x => pure (!x)
def andV (a b : M D) : M D := tst a >>= fun x => if x then b else pure (.bl false)
def orV (a b : M D) : M D := tst a >>= fun x => if x then pure (.bl true) else b
def notV (a : M D) : M D := tst a >>= fun x => pure (.bl (!x))
def ifE (t : M Bool) (a b : M D) : M D := t >>= fun x => if x then a else b
variable {ta tb : M Bool} {rest : List Expr}
abbrev DW (X : Cx) (W : WX) (e : Expr) (m : M Bool) : Prop := PW X e (tDT X.K W m)
theorem dw_and1 (ha : DT X W a ta) : DW X W (.BoolOp .And [a] pos) ta := pw_and1 ha
theorem dw_or1 (ha : DT X W a ta) : DW X W (.BoolOp .Or [a] pos) ta := pw_or1 ha
theorem dw_and (ha : DT X W a ta) (hb : DW X W (.BoolOp .And (b :: rest) pos) tb) : DW X W (.BoolOp .And (a :: b :: rest) pos) (andT ta tb) := by
  refine PW.weak (pw_and ha hb) fun σ H Q ⟨I, δ, en, g⟩ => ?_
  refine goT_bindT en g fun k I1 H1 δ1 n1 g1 => ?_
  cases k with
  | true => rw [if_pos rfl]; exact ⟨I1, δ1, n1.env, g1⟩
  | false => rw [if_neg Bool.false_ne_true]; exact g1.val0 n1.env
theorem dw_or (ha : DT X W a ta) (hb : DW X W (.BoolOp .Or (b :: rest) pos) tb) : DW X W (.BoolOp .Or (a :: b :: rest) pos) (orT ta tb) := by
  refine PW.weak (pw_or ha hb) fun σ H Q ⟨I, δ, en, g⟩ => ?_
  refine goT_bindT en g fun k I1 H1 δ1 n1 g1 => ?_
  cases k with
  | true => rw [if_pos rfl]; exact g1.val0 n1.env
  | false => rw [if_neg Bool.false_ne_true]; exact ⟨I1, δ1, n1.env, g1⟩
theorem d_tnot (ha : DT X W a ta) : DT X W (.UnaryOp .Not a pos) (notT ta) := by
  refine PT.weak (pt_not ha) fun σ H Q ⟨I, δ, en, g⟩ => ?_
  exact goT_bindT en g fun k I1 H1 δ1 n1 g1 => g1.val0 n1.env
theorem go_tst {K : PySem.W.Frag} {σ : L2.St} {I H : Hp} {δ : En} {m : M D} {f : Bool → M D} {Q R : VK} (en : Env K I H σ δ) (g : Go K W (tst m >>= f) σ I H δ Q)
    (k : ∀ b I1 H1 δ1, Nxt K σ I H δ I1 H1 δ1 → Go K W (f b) σ I1 H1 δ1 Q → R (.bl b) H1) : tD K W m σ H R := by
  unfold tst at g
  rw [bind_assoc'] at g
  refine go_bind en g fun d v I1 H1 δ1 n1 r1 g1 => ?_
  obtain ⟨kk, e, g2⟩ := blD_go n1.env r1 g1
  subst e
  exact k kk I1 H1 δ1 n1 g2
theorem d_one {op} (h : DE X W a ma) : DE X W (.BoolOp op [a] pos) ma := pe_one h
theorem d_and (ha : DE X W a ma) (hb : DE X W (.BoolOp .And (b :: rest) pos) mb) : DE X W (.BoolOp .And (a :: b :: rest) pos) (andV ma mb) := by
  refine PE.weak (pe_and ha hb) fun σ H Q ⟨I, δ, en, g⟩ => ?_
  refine go_tst en g fun k I1 H1 δ1 n1 g1 => ⟨k, rfl, ?_⟩
  cases k with
  | true => rw [if_pos rfl]; exact ⟨I1, δ1, n1.env, g1⟩
  | false => rw [if_neg Bool.false_ne_true]; exact Go.val0 g1 n1.env (.bl _)
theorem d_or (ha : DE X W a ma) (hb : DE X W (.BoolOp .Or (b :: rest) pos) mb) : DE X W (.BoolOp .Or (a :: b :: rest) pos) (orV ma mb) := by
  refine PE.weak (pe_or ha hb) fun σ H Q ⟨I, δ, en, g⟩ => ?_
  refine go_tst en g fun k I1 H1 δ1 n1 g1 => ⟨k, rfl, ?_⟩
  cases k with
  | true => rw [if_pos rfl]; exact Go.val0 g1 n1.env (.bl _)
  | false => rw [if_neg Bool.false_ne_true]; exact ⟨I1, δ1, n1.env, g1⟩
theorem d_not (ha : DE X W a ma) : DE X W (.UnaryOp .Not a pos) (notV ma) := by
  refine PE.weak (pe_not ha) fun σ H Q ⟨I, δ, en, g⟩ => ?_
  exact go_tst en g fun k I1 H1 δ1 n1 g1 => ⟨k, rfl, Go.val0 g1 n1.env (.bl _)⟩
theorem d_ifE (hc : DT X W c ta) (ha : DE X W a ma) (hb : DE X W b mb) : DE X W (.IfExp c a b pos) (ifE ta ma mb) := by
  refine PE.weak (pe_ifExp hc ha hb) fun σ H Q ⟨I, δ, en, g⟩ => ?_
  refine go_bindT en g fun k I1 H1 δ1 n1 g1 => ?_
  cases k with
  | true => rw [if_pos rfl]; exact ⟨I1, δ1, n1.env, g1⟩
  | false => rw [if_neg Bool.false_ne_true]; exact ⟨I1, δ1, n1.env, g1⟩
/-! ### argument lists, displays -/
def nilA : M (List D) := pure []
def consA (a : M D) (r : M (List D)) : M (List D) := a >>= fun x => r >>= fun xs => pure (x :: xs)
variable {es : List Expr} {mr : M (List D)}
theorem da_nil : DA X W [] nilA := PA.weak pa_nil fun σ H Q ⟨I, δ, en, g⟩ => g.val0 en .nil
theorem da_cons (ha : DE X W a ma) (hr : DA X W es mr) (hs : starEach (a :: es) X.env = (false, eval a X.env) :: starEach es X.env := by rfl) : DA X W (a :: es) (consA ma mr) := by
  refine PA.weak (pa_cons ha hr hs) fun σ H Q ⟨I, δ, en, g⟩ => ?_
  exact goA_bind en g fun d v I1 H1 δ1 n1 r1 g1 => goA_bindA n1.env g1 fun ds vs I2 H2 δ2 n2 r2 g2 => g2.val0 n2.env (.cons (r1.mono n2.post.ext) r2)
def szOk (n : Nat) : Bool := decide (n ≤ 1000000)
theorem szOk_le {n : Nat} (h : szOk n = true) : n ≤ sizeLine := Nat.le_trans (of_decide_eq_true h) (by rw [sizeLine_eq]; decide)
theorem szOk_lt {n : Nat} (h : szOk n = true) : n < sizeLine := Nat.lt_of_le_of_lt (of_decide_eq_true h) (by rw [sizeLine_eq]; decide)
def guardM {α : Type} (b : Bool) (m : M α) : M α := if b then m else stuck
theorem Go.guard {K : PySem.W.Frag} {σ : L2.St} {I H : Hp} {δ : En} {b : Bool} {m : M D} {Q : VK} (g : Go K W (guardM b m) σ I H δ Q) : b = true ∧ Go K W m σ I H δ Q := by
  cases b with
  | true => exact ⟨rfl, g⟩
  | false => exact g.elim
def tupD (a : M (List D)) : M D := a >>= fun ds => guardM (szOk ds.length) (pure (.tup ds))
def lstD (a : M (List D)) : M D := a >>= fun ds => guardM (szOk ds.length) (pure (.lst ds))
theorem rep_newL {K : PySem.W.Frag} {I H : Hp} {σ : L2.St} {δ : En} (en : Env K I H σ δ) {p : Addr} {ds : List D} {vs : List V} (hp : H p = none) (r : Reps K I ds vs) : Rep K (upd I p (.lst vs)) (.lst ds) (.ref p) :=
  .lst upd_same (r.mono (Ext.upd' (en.ext.back hp)))
theorem rep_newT {K : PySem.W.Frag} {I H : Hp} {σ : L2.St} {δ : En} (en : Env K I H σ δ) {p : Addr} {ds : List D} {vs : List V} (hp : H p = none) (r : Reps K I ds vs) : Rep K (upd I p (.tup vs)) (.tup ds) (.ref p) :=
  .tup (SqT.of upd_same) (r.mono (Ext.upd' (en.ext.back hp)))
theorem d_tup {x1} (h : DA X W es mr) : DE X W (.Tuple es x1 pos) (tupD mr) := by
  refine PE.weak (pe_tup h) fun σ H Q ⟨I, δ, en, g⟩ => ?_
  refine go_bindA en g fun ds vs I1 H1 δ1 n1 r1 g1 => ?_
  obtain ⟨hz, g2⟩ := g1.guard
  exact ⟨by rw [← r1.length]; exact szOk_le hz, fun p hp => Go.val g2 (Nxt.alloc n1.env hp) (rep_newT n1.env hp r1)⟩
theorem d_lst (h : DA X W es mr) : DE X W (.List es pos) (lstD mr) := by
  refine PE.weak (pe_lst h) fun σ H Q ⟨I, δ, en, g⟩ => ?_
  refine go_bindA en g fun ds vs I1 H1 δ1 n1 r1 g1 => ?_
  obtain ⟨hz, g2⟩ := g1.guard
  exact ⟨by rw [← r1.length]; exact szOk_le hz, fun p hp => Go.val g2 (Nxt.alloc n1.env hp) (rep_newL n1.env hp r1)⟩
end
end DL
set_option maxHeartbeats 2000000
/-! DL3: operators on data. -/
namespace DL
open PySem PySem.Spec PyProof.Rows L2
/-! ### ints -/
def intsD (g : Int → Int → M D) : D → D → M D
  | .int i, .int j => g i j
  | _, _ => stuck
def subD : D → D → M D := intsD fun i j => pure (.int (i - j))
def mulD : D → D → M D := intsD fun i j => guardM (decide ((Builtin.Int.intBits i : Int) + (Builtin.Int.intBits j : Int) ≤ 134217728)) (pure (.int (i * j)))
def fdivD : D → D → M D := intsD fun i j => guardM (decide (0 < j) && decide (j.natAbs.log2 < 9000)) (pure (.int (i / j)))
def modD : D → D → M D := intsD fun i j => guardM (decide (0 < j)) (pure (.int (i % j)))
def powD : D → D → M D := intsD fun i j => guardM (decide (0 ≤ j) && decide (j ≤ 1000000) && decide (i.natAbs < 2 ^ 64)) (pure (.int (i ^ j.toNat)))
def addD : D → D → M D
  | .int i, .int j => pure (.int (i + j))
  | .str x, .str y => guardM (szOk (x.length + y.length)) (pure (.str (x ++ y)))
  | .lst xs, .lst ys => guardM (szOk (xs.length + ys.length)) (pure (.lst (xs ++ ys)))
  | _, _ => stuck
def negD : D → M D
  | .int i => pure (.int (-i))
  | _ => stuck
def cmpD (p : Int → Int → Bool) : D → D → M D := intsD fun i j => pure (.bl (p i j))
abbrev ltD : D → D → M D := cmpD fun i j => decide (i < j)
abbrev leD : D → D → M D := cmpD fun i j => decide (i ≤ j)
abbrev gtD : D → D → M D := cmpD fun i j => decide (j < i)
abbrev geD : D → D → M D := cmpD fun i j => decide (j ≤ i)
def isNonD : D → D → M D
  | .non, .non => pure (.bl true)
  | _, .non => pure (.bl false)
  | _, _ => stuck
def notNonD : D → D → M D
  | .non, .non => pure (.bl false)
  | _, .non => pure (.bl true)
  | _, _ => stuck
/-! nested data as the library has it -/
mutual
def pyD : D → Option PyData
  | .non => some .none
  | .bl b => some (.bool b)
  | .int i => some (.int i)
  | .str x => some (.str x)
  | .lst xs => (pyDs xs).map .list
  | .tup xs => (pyDs xs).map .tuple
  | .obj _ _ => none
  | .cls _ => none
  | .scr _ => none
def pyDs : List D → Option (List PyData)
  | [] => some []
  | d :: ds => match pyD d, pyDs ds with
    | some p, some ps => some (p :: ps)
    | _, _ => none
end
def eqvD (neg : Bool) (d e : D) : M D := match pyD d, pyD e with
  | some p, some q => guardM (SeqAt.shaped p && SeqAt.shaped q) (pure (.bl (if neg then !PyData.eqv p q else PyData.eqv p q)))
  | _, _ => stuck
def scalD (neg : Bool) (b : Bool) : M D := pure (.bl (if neg then !b else b))
/-- == of data without own objects -/
def eqG (neg : Bool) : D → D → M D
  | .int i, .int j => scalD neg (i == j)
  | .str x, .str y => scalD neg (decide (x = y))
  | .bl a, .bl b => scalD neg (a == b)
  | .non, .non => scalD neg true
  | .non, .int _ => scalD neg false
  | .int _, .non => scalD neg false
  | .non, .str _ => scalD neg false
  | .str _, .non => scalD neg false
  | .non, .bl _ => scalD neg false
  | .bl _, .non => scalD neg false
  | .int _, .str _ => scalD neg false
  | .str _, .int _ => scalD neg false
  | .bl _, .str _ => scalD neg false
  | .str _, .bl _ => scalD neg false
  | .lst xs, .lst ys => eqvD neg (.lst xs) (.lst ys)
  | .tup xs, .tup ys => eqvD neg (.tup xs) (.tup ys)
  | _, _ => stuck
abbrev eqD := eqG false
abbrev neD := eqG true
/-- flat data -/
def flatD : D → Bool
  | .non => true
  | .bl _ => true
  | .int _ => true
  | .str _ => true
  | _ => false
def eqF : D → D → Bool
  | .non, .non => true
  | .bl a, .bl b => a == b
  | .bl a, .int b => (if a then 1 else 0) == b
  | .int a, .bl b => a == (if b then 1 else 0)
  | .int a, .int b => a == b
  | .str a, .str b => a == b
  | _, _ => false
def itemsD : D → Option (List D)
  | .lst xs => some xs
  | .tup xs => some xs
  | _ => none
def inG (neg : Bool) (x y : D) : M D := match itemsD y with
  | some ds => guardM (flatD x && ds.all flatD) (pure (.bl (if neg then !(ds.any fun d => eqF d x) else ds.any fun d => eqF d x)))
  | none => stuck
abbrev inD := inG false
abbrev notInD := inG true
section
variable {X : Cx} {W : WX}
theorem rep_flat {K : PySem.W.Frag} {I : Hp} {d : D} {v : V} (r : Rep K I d v) (f : flatD d = true) : flatV v = true := by
  cases r <;> first | rfl | cases f
theorem rep_flats {K : PySem.W.Frag} {I : Hp} : ∀ {ds : List D} {vs : List V}, Reps K I ds vs → ds.all flatD = true → vs.all flatV = true
  | _, _, .nil, _ => rfl
  | _, _, .cons h r, f => by
    rw [List.all_cons, Bool.and_eq_true] at f ⊢
    exact ⟨rep_flat h f.1, rep_flats r f.2⟩
theorem rep_eqF {K : PySem.W.Frag} {I : Hp} {d e : D} {v w : V} (r : Rep K I d v) (q : Rep K I e w) (f : flatD d = true) (g : flatD e = true) : eqF d e = eqV v w := by
  cases r <;> first | (cases f; done) | (cases q <;> first | rfl | (cases g; done))
theorem rep_any {K : PySem.W.Frag} {I : Hp} {e : D} {w : V} (q : Rep K I e w) (g : flatD e = true) : ∀ {ds : List D} {vs : List V}, Reps K I ds vs → ds.all flatD = true → (ds.any fun d => eqF d e) = inV w vs
  | _, _, .nil, _ => rfl
  | _, _, .cons h r, f => by
    rw [List.all_cons, Bool.and_eq_true] at f
    have ih := rep_any q g r f.2
    unfold inV at ih ⊢
    rw [List.any_cons, List.any_cons, ih, rep_eqF h q f.1 g]
mutual
theorem rep_py {K : PySem.W.Frag} {I H : Hp} (e : Ext I H) : ∀ {d : D} {v : V} {p : PyData}, Rep K I d v → pyD d = some p → Dp K H v p
  | _, _, _, .non, h => by cases h; exact .non
  | _, _, _, .bl b, h => by cases h; exact .bl b
  | _, _, _, .int i, h => by cases h; exact .int i
  | _, _, _, .str x, h => by cases h; exact .str x
  | _, _, _, .cls c, h => by cases h
  | _, _, _, .scr z, h => by cases h
  | _, _, _, .obj z r, h => by cases h
  | _, _, _, .lst (ds := ds) z r, h => by
    have h' : (pyDs ds).map PyData.list = some _ := h
    cases q : pyDs ds with
    | none => rw [q] at h'; cases h'
    | some ps => rw [q] at h'; cases h'; exact .lst (SqL.of (e _ _ z)) (rep_pys e r q)
  | _, _, _, .tup (ds := ds) z r, h => by
    have h' : (pyDs ds).map PyData.tuple = some _ := h
    cases q : pyDs ds with
    | none => rw [q] at h'; cases h'
    | some ps => rw [q] at h'; cases h'; exact .tup (sqT_ext e z) (rep_pys e r q)
theorem rep_pys {K : PySem.W.Frag} {I H : Hp} (e : Ext I H) : ∀ {ds : List D} {vs : List V} {ps : List PyData}, Reps K I ds vs → pyDs ds = some ps → DpAll K H vs ps
  | _, _, _, .nil, h => by cases h; exact .nil
  | _, _, _, .cons (d := d) (ds := ds) h1 r, h => by
    have h' : (match pyD d, pyDs ds with
      | some p, some ps => some (p :: ps)
      | _, _ => none) = some _ := h
    cases q : pyD d with
    | none => rw [q] at h'; cases h'
    | some p =>
      cases q2 : pyDs ds with
      | none => rw [q, q2] at h'; cases h'
      | some ps => rw [q, q2] at h'; cases h'; exact .cons (rep_py e h1 q) (rep_pys e r q2)
end
theorem Go.guardP {K : PySem.W.Frag} {σ : L2.St} {I H : Hp} {δ : En} {p : Prop} [Decidable p] {m : M D} {Q : VK} (g : Go K W (guardM (decide p) m) σ I H δ Q) : p ∧ Go K W m σ I H δ Q := ⟨of_decide_eq_true g.guard.1, g.guard.2⟩
/-- an operation of two ints -/
theorem opl_int {g : Value → Value → Sem Value} {f : Int → Int → M D} {r : R2} (hr : OpR X g r)
    (h : ∀ σ I H δ i j Q, Env X.K I H σ δ → Go X.K W (f i j) σ I H δ Q → r (.int i) (.int j) H Q) : OpL X W g (intsD f) := by
  refine ⟨r, hr, fun σ I H δ d1 d2 v1 v2 Q en r1 r2 g => ?_⟩
  cases r1 with
  | int i =>
    cases r2 with
    | int j => exact h σ I H δ i j Q en g
    | _ => exact g.elim
  | _ => exact g.elim
theorem ol_sub : OpL X W (binaryOp .Sub) subD := opl_int op_sub fun σ I H δ i j Q en g => ⟨i, j, rfl, rfl, g.val0 en (.int _)⟩
theorem ol_mul : OpL X W (binaryOp .Mult) mulD := opl_int op_mulX fun σ I H δ i j Q en g => by
  obtain ⟨c, g⟩ := Go.guardP g
  exact ⟨i, j, rfl, rfl, c, g.val0 en (.int _)⟩
theorem ol_fdiv : OpL X W (binaryOp .FloorDiv) fdivD := opl_int op_fdivW fun σ I H δ i j Q en g => by
  obtain ⟨c, g⟩ := Go.guard g
  rw [Bool.and_eq_true] at c
  exact ⟨i, j, rfl, rfl, ⟨of_decide_eq_true c.1, of_decide_eq_true c.2⟩, g.val0 en (.int _)⟩
theorem ol_mod : OpL X W (binaryOp .Mod) modD := opl_int op_mod fun σ I H δ i j Q en g => by
  obtain ⟨c, g⟩ := Go.guardP g
  exact ⟨i, j, rfl, rfl, c, g.val0 en (.int _)⟩
theorem ol_pow : OpL X W (binaryOp .Pow) powD := opl_int op_pow fun σ I H δ i j Q en g => by
  obtain ⟨c, g⟩ := Go.guard g
  rw [Bool.and_eq_true, Bool.and_eq_true] at c
  exact ⟨i, j, rfl, rfl, ⟨of_decide_eq_true c.1.1, of_decide_eq_true c.1.2, of_decide_eq_true c.2⟩, g.val0 en (.int _)⟩
theorem ol_cmp {g : Value → Value → Sem Value} {p : Int → Int → Bool} (hr : OpR X g (rI0 fun i j => .bl (p i j))) : OpL X W g (cmpD p) := opl_int hr fun σ I H δ i j Q en g => ⟨i, j, rfl, rfl, g.val0 en (.bl _)⟩
theorem ol_lt : OpL X W (compareOp .Lt) ltD := ol_cmp op_lt
theorem ol_le : OpL X W (compareOp .LtE) leD := ol_cmp op_le
theorem ol_gt : OpL X W (compareOp .Gt) gtD := ol_cmp op_gt
theorem ol_ge : OpL X W (compareOp .GtE) geD := ol_cmp op_ge
theorem ol_add : OpL X W (binaryOp .Add) addD := by
  refine ⟨_, (op_add.or op_add_str).or op_cat, fun σ I H δ d1 d2 v1 v2 Q en r1 r2 g => ?_⟩
  cases r1 with
  | int i =>
    cases r2 with
    | int j => exact .inl (.inl ⟨i, j, rfl, rfl, g.val0 en (.int _)⟩)
    | _ => exact g.elim
  | str x =>
    cases r2 with
    | str y =>
      obtain ⟨c, g⟩ := Go.guard g
      exact .inl (.inr ⟨x, y, rfl, rfl, szOk_le c, g.val0 en (.str _)⟩)
    | _ => exact g.elim
  | lst h r =>
    cases r2 with
    | lst h2 r2 =>
      obtain ⟨c, g⟩ := Go.guard g
      exact .inr ⟨_, _, _, _, rfl, rfl, en.ext _ _ h, en.ext _ _ h2, by rw [← r.length, ← r2.length]; exact szOk_le c, fun p hp => Go.val g (Nxt.alloc en hp) (rep_newL en hp (r.append r2))⟩
    | _ => exact g.elim
  | _ => exact g.elim
theorem ul_neg : UnL X W (unaryOp .USub) negD := by
  refine ⟨_, un_neg, fun σ I H δ d v Q en r g => ?_⟩
  cases r with
  | int i => exact ⟨i, rfl, g.val0 en (.int _)⟩
  | _ => exact g.elim
theorem ol_isN : OpL X W (compareOp .Is) isNonD := by
  refine ⟨_, op_isN, fun σ I H δ d1 d2 v1 v2 Q en r1 r2 g => ?_⟩
  cases r2 with
  | non => refine ⟨rfl, ?_⟩; cases r1 <;> exact g _ I H (.refl en) (.bl _)
  | _ => cases d1 <;> exact g.elim
theorem ol_notN : OpL X W (compareOp .IsNot) notNonD := by
  refine ⟨_, op_notN, fun σ I H δ d1 d2 v1 v2 Q en r1 r2 g => ?_⟩
  cases r2 with
  | non => refine ⟨rfl, ?_⟩; cases r1 <;> exact g _ I H (.refl en) (.bl _)
  | _ => cases d1 <;> exact g.elim
theorem go_scal {K : PySem.W.Frag} {σ : L2.St} {I H : Hp} {δ : En} {b c : Bool} {Q : VK} (en : Env K I H σ δ) (g : Go K W (scalD false b) σ I H δ Q) (e : b = c) : Q (.bl c) H := by subst e; exact g.val0 en (.bl _)
theorem go_scalN {K : PySem.W.Frag} {σ : L2.St} {I H : Hp} {δ : En} {b c : Bool} {Q : VK} (en : Env K I H σ δ) (g : Go K W (scalD true b) σ I H δ Q) (e : b = c) : Q (.bl (!c)) H := by subst e; exact g.val0 en (.bl _)
theorem dec_i {i j : Int} : (i == j) = decide (V.int i = V.int j) := dec_int.symm
theorem dec_b {i j : Bool} : (i == j) = decide (V.bl i = V.bl j) := dec_bl.symm
theorem dec_s {i j : Str} : decide (i = j) = decide (V.str i = V.str j) := by simp
theorem go_eqv {K : PySem.W.Frag} {neg : Bool} {σ : L2.St} {I H : Hp} {δ : En} {d1 d2 : D} {v1 v2 : V} {Q : VK} (en : Env K I H σ δ) (r1 : Rep K I d1 v1) (r2 : Rep K I d2 v2) (g : Go K W (eqvD neg d1 d2) σ I H δ Q) :
    ∃ d e, Dp K H v1 d ∧ Dp K H v2 e ∧ SeqAt.shaped d = true ∧ SeqAt.shaped e = true ∧ Q (.bl (if neg then !PyData.eqv d e else PyData.eqv d e)) H := by
  unfold eqvD at g
  cases q1 : pyD d1 with
  | none => rw [q1] at g; exact g.elim
  | some p1 =>
    cases q2 : pyD d2 with
    | none => rw [q1, q2] at g; exact g.elim
    | some p2 =>
      rw [q1, q2] at g
      obtain ⟨c, g⟩ := Go.guard g
      rw [Bool.and_eq_true] at c
      exact ⟨p1, p2, rep_py en.ext r1 q1, rep_py en.ext r2 q2, c.1, c.2, g.val0 en (.bl _)⟩
theorem ol_eq (hu : X.A.units + 64 < cLine) : OpL X W (compareOp .Eq) eqD := by
  refine ⟨_, op_eq.or (op_eqD hu), fun σ I H δ d1 d2 v1 v2 Q en r1 r2 g => ?_⟩
  cases r1 with
  | int i => cases r2 <;> first | exact .inl ⟨rfl, go_scal en g (by first | exact dec_i | simp)⟩ | exact g.elim
  | str i => cases r2 <;> first | exact .inl ⟨rfl, go_scal en g (by first | exact dec_s | simp)⟩ | exact g.elim
  | bl i => cases r2 <;> first | exact .inl ⟨rfl, go_scal en g (by first | exact dec_b | simp)⟩ | exact g.elim
  | non => cases r2 <;> first | exact .inl ⟨rfl, go_scal en g (by simp)⟩ | exact g.elim
  | lst h r => cases r2 <;> first | exact .inr (go_eqv en (.lst h r) (.lst ‹_› ‹_›) g) | exact g.elim
  | tup h r => cases r2 <;> first | exact .inr (go_eqv en (.tup h r) (.tup ‹_› ‹_›) g) | exact g.elim
  | _ => cases r2 <;> exact g.elim
theorem ol_ne (hu : X.A.units + 64 < cLine) : OpL X W (compareOp .NotEq) neD := by
  refine ⟨_, op_ne.or (op_neD hu), fun σ I H δ d1 d2 v1 v2 Q en r1 r2 g => ?_⟩
  cases r1 with
  | int i => cases r2 <;> first | exact .inl ⟨rfl, go_scalN en g (by first | exact dec_i | simp)⟩ | exact g.elim
  | str i => cases r2 <;> first | exact .inl ⟨rfl, go_scalN en g (by first | exact dec_s | simp)⟩ | exact g.elim
  | bl i => cases r2 <;> first | exact .inl ⟨rfl, go_scalN en g (by first | exact dec_b | simp)⟩ | exact g.elim
  | non => cases r2 <;> first | exact .inl ⟨rfl, go_scalN en g (by simp)⟩ | exact g.elim
  | lst h r => cases r2 <;> first | exact .inr (go_eqv en (.lst h r) (.lst ‹_› ‹_›) g) | exact g.elim
  | tup h r => cases r2 <;> first | exact .inr (go_eqv en (.tup h r) (.tup ‹_› ‹_›) g) | exact g.elim
  | _ => cases r2 <;> exact g.elim
theorem go_in {K : PySem.W.Frag} {neg : Bool} {σ : L2.St} {I H : Hp} {δ : En} {d1 d2 : D} {v1 v2 : V} {Q : VK} (en : Env K I H σ δ) (r1 : Rep K I d1 v1) (r2 : Rep K I d2 v2) (g : Go K W (inG neg d1 d2) σ I H δ Q) : rIn K neg v1 v2 H Q := by
  unfold inG at g
  cases r2 with
  | lst h r =>
    obtain ⟨c, g⟩ := Go.guard g
    rw [Bool.and_eq_true] at c
    refine ⟨_, _, rfl, .inl (SqL.of (en.ext _ _ h)), rep_flat r1 c.1, rep_flats r c.2, ?_⟩
    rw [← rep_any r1 c.1 r c.2]
    exact g.val0 en (.bl _)
  | tup h r =>
    obtain ⟨c, g⟩ := Go.guard g
    rw [Bool.and_eq_true] at c
    refine ⟨_, _, rfl, .inr (sqT_ext en.ext h), rep_flat r1 c.1, rep_flats r c.2, ?_⟩
    rw [← rep_any r1 c.1 r c.2]
    exact g.val0 en (.bl _)
  | _ => exact g.elim
theorem ol_in : OpL X W (compareOp .In) inD := ⟨_, op_in_seq, fun σ I H δ d1 d2 v1 v2 Q en r1 r2 g => go_in en r1 r2 g⟩
theorem ol_notIn : OpL X W (compareOp .NotIn) notInD := ⟨_, op_notIn_seq, fun σ I H δ d1 d2 v1 v2 Q en r1 r2 g => go_in en r1 r2 g⟩
end
end DL
set_option maxHeartbeats 2000000
/-! DL4: peeks, attributes, subscripts, slices, built-ins, fresh lists. -/
namespace DL
open PySem PySem.Spec PyProof.Rows L2
/-! ### a value that is looked at: known, or owned -/
inductive Pk (K : PySem.W.Frag) (I H : Hp) : D → V → Prop
  | rep {d : D} {v : V} (r : Rep K I d v) : Pk K I H d v
  | lst {ds : List D} {a : Addr} {vs : List V} (h : H a = some (.lst vs)) (r : Reps K I ds vs) : Pk K I H (.lst ds) (.ref a)
  | obj {c : Str} {fs : List (Str × D)} {a dx : Addr} {gs : List (Str × V)} (h : H a = some (.ins (ga K c) dx gs)) (r : RepF K I fs gs) : Pk K I H (.obj c fs) (.ref a)
def peekSl : Sl → Option D
  | .va d => some d
  | .ow ds => some (.lst ds)
  | .ob c fs => some (.obj c fs)
  | .un => none
  | .xc _ _ _ => none
def peekV (i : Nat) : M D := fun δ => match δ[i]? with
  | some s => match peekSl s with
    | some d => .ok d δ
    | none => .st
  | none => .st
section
variable (K : PySem.W.Frag) (W : WX)
def GoP (m : M D) (σ : L2.St) (I H : Hp) (δ : En) (Q : VK) : Prop := match m δ with
  | .ok d δ' => ∀ v I' H', Nxt K σ I H δ I' H' δ' → Pk K I' H' d v → Q v H'
  | .er x δ' => ∀ cls dd I' H', Nxt K σ I H δ I' H' δ' → ExR K I' H' x cls dd → W cls dd σ H'
  | .st => False
def tP (m : M D) : TE := fun σ H Q => ∃ I δ, Env K I H σ δ ∧ GoP K W m σ I H δ Q
end
abbrev DP (X : Cx) (W : WX) (e : Expr) (m : M D) : Prop := PE X e (tP X.K W m)
section
variable {K : PySem.W.Frag} {W : WX} {P : Nat} {σ σ1 : L2.St} {I H I1 H1 : Hp} {δ δ1 : En}
theorem slRep_peek {s : Sl} {d : D} {o : Option V} (e : peekSl s = some d) (r : SlRep K I H s o) : ∃ v, o = some v ∧ Pk K I H d v := by
  cases s with
  | un => cases e
  | xc a' dd x => cases e
  | va d' => cases e; obtain ⟨v, e, r⟩ := r; exact ⟨v, e, .rep r⟩
  | ow ds => cases e; obtain ⟨a, vs, e, n, z, r⟩ := r; exact ⟨_, e, .lst z r⟩
  | ob c fs => cases e; obtain ⟨a, dx, gs, e, n, z, r⟩ := r; exact ⟨_, e, .obj z r⟩
theorem Env.peek (en : Env K I H σ δ) {i : Nat} {d : D} {δ' : En} (e : peekV i δ = .ok d δ') : δ' = δ ∧ ∃ v, σ[i]? = some (some v) ∧ Pk K I H d v := by
  unfold peekV at e
  cases q : δ[i]? with
  | none => rw [q] at e; cases e
  | some s =>
    rw [q] at e
    dsimp only at e
    cases q2 : peekSl s with
    | none => rw [q2] at e; cases e
    | some d' =>
      rw [q2] at e
      injection e with e1 e2
      subst e1
      obtain ⟨o, ho, r⟩ := en.slot q
      obtain ⟨v, e3, pk⟩ := slRep_peek q2 r
      subst e3
      exact ⟨e2.symm, v, ho, pk⟩
theorem go_peekV {i : Nat} {f : D → M D} {Q : VK} (en : Env K I H σ δ) (g : Go K W (peekV i >>= f) σ I H δ Q) : ∃ d v, σ[i]? = some (some v) ∧ Pk K I H d v ∧ Go K W (f d) σ I H δ Q := by
  have g0 := g
  unfold Go at g
  rw [bind_eq] at g
  cases q : peekV i δ with
  | ok d δ' =>
    obtain ⟨e, v, hv, pk⟩ := en.peek q
    subst e
    exact ⟨d, v, hv, pk, g0.after (.refl en) q⟩
  | er x δ' =>
    unfold peekV at q
    split at q
    · split at q <;> cases q
    · cases q
  | st => rw [q] at g; exact g.elim
theorem goS_peekV {i : Nat} {f : D → M Fl} {Dn : Ends} (en : Env K I H σ δ) (g : GoS K W P (peekV i >>= f) σ I H δ Dn) : ∃ d v, σ[i]? = some (some v) ∧ Pk K I H d v ∧ GoS K W P (f d) σ I H δ Dn := by
  have g0 := g
  unfold GoS at g
  rw [bind_eq] at g
  cases q : peekV i δ with
  | ok d δ' =>
    obtain ⟨e, v, hv, pk⟩ := en.peek q
    subst e
    exact ⟨d, v, hv, pk, g0.after (.refl en) q⟩
  | er x δ' =>
    unfold peekV at q
    split at q
    · split at q <;> cases q
    · cases q
  | st => rw [q] at g; exact g.elim
theorem go_bindP {m : M D} {f : D → M D} {Q R : VK} (en : Env K I H σ δ) (g : Go K W (m >>= f) σ I H δ Q)
    (k : ∀ d v I1 H1 δ1, Nxt K σ I H δ I1 H1 δ1 → Pk K I1 H1 d v → Go K W (f d) σ I1 H1 δ1 Q → R v H1) : tP K W m σ H R := by
  refine ⟨I, δ, en, ?_⟩
  have g0 := g
  unfold Go at g
  unfold GoP
  rw [bind_eq] at g
  cases q : m δ with
  | ok d δ1 => exact fun v I' H' n r => k d v I' H' δ1 n r (g0.after n q)
  | er x δ1 => rw [q] at g; exact g
  | st => rw [q] at g; exact g
/-! what a looked-at value is -/
theorem Pk.lst_inv {ds : List D} {v : V} (p : Pk K I H (.lst ds) v) (e : Ext I H) : ∃ a vs, v = .ref a ∧ H a = some (.lst vs) ∧ Reps K I ds vs := by
  cases p with
  | rep r => cases r with
    | lst h r => exact ⟨_, _, rfl, e _ _ h, r⟩
  | lst h r => exact ⟨_, _, rfl, h, r⟩
theorem Pk.tup_inv {ds : List D} {v : V} (p : Pk K I H (.tup ds) v) (e : Ext I H) : ∃ a vs, v = .ref a ∧ SqT K H a vs ∧ Reps K I ds vs := by
  cases p with
  | rep r => cases r with
    | tup h r => exact ⟨_, _, rfl, sqT_ext e h, r⟩
theorem Pk.obj_inv {c : Str} {fs : List (Str × D)} {v : V} (p : Pk K I H (.obj c fs) v) (e : Ext I H) : ∃ a dx gs, v = .ref a ∧ H a = some (.ins (ga K c) dx gs) ∧ RepF K I fs gs := by
  cases p with
  | rep r => cases r with
    | obj h r => exact ⟨_, _, _, rfl, e _ _ h, r⟩
  | obj h r => exact ⟨_, _, _, rfl, h, r⟩
theorem Pk.str_inv {x : Str} {v : V} (p : Pk K I H (.str x) v) : v = .str x := by
  cases p with
  | rep r => cases r; rfl
theorem Pk.int_inv {x : Int} {v : V} (p : Pk K I H (.int x) v) : v = .int x := by
  cases p with
  | rep r => cases r; rfl
theorem Pk.bl_inv {x : Bool} {v : V} (p : Pk K I H (.bl x) v) : v = .bl x := by
  cases p with
  | rep r => cases r; rfl
theorem Pk.non_inv {v : V} (p : Pk K I H .non v) : v = .non := by
  cases p with
  | rep r => cases r; rfl
theorem Pk.scr_inv {ns : List Int} {v : V} (p : Pk K I H (.scr ns) v) (e : Ext I H) : ∃ a, v = .ref a ∧ SqL K H a (ns.map V.int) := by
  cases p with
  | rep r => cases r with
    | scr h => exact ⟨_, rfl, sqL_ext e h⟩
end
section
variable {X : Cx} {W : WX} {pos p2 : Pos} {e e2 : Expr} {m mb : M D}
theorem dp_e (h : DE X W e m) : DP X W e m := PE.weak h fun σ H Q ⟨I, δ, en, g⟩ => ⟨I, δ, en, by
  unfold GoP at g
  unfold Go
  cases q : m δ with
  | ok d δ' => rw [q] at g; exact fun v I' H' n r => g v I' H' n (.rep r)
  | er x δ' => rw [q] at g; exact g
  | st => rw [q] at g; exact g⟩
theorem dp_v (i : Nat) {x : Str} (hN : X.N[i]? = some x := by rfl) (hv : Vis X.env.scope x := by first | exact Or.inl rfl | exact Or.inr (Or.inl rfl) | exact Or.inr (Or.inr rfl)) (hd : (x == ("__debug__" : Str)) = false := by decide)
    (hcd : (x == ("__classdict__" : Str)) = false := by decide) : DP X W (.Name x pos) (peekV i) := PE.weak (pv i hN hv hd hcd) fun σ H Q ⟨I, δ, en, g⟩ => by
  unfold GoP at g
  cases q : peekV i δ with
  | ok d δ' =>
    rw [q] at g
    obtain ⟨e, v, hv, pk⟩ := en.peek q
    subst e
    exact ⟨v, hv, g v I H (.refl en) pk⟩
  | er x δ' =>
    unfold peekV at q
    split at q
    · split at q <;> cases q
    · cases q
  | st => rw [q] at g; exact g.elim
/-! ### attributes -/
structure FldF (K : PySem.W.Frag) (cs : List Str) (f : Str) : Prop where
  at_ : ∀ c ∈ cs, Cls K (ga K c) ∧ NoAttr K (ga K c) f
def fldD (cs : List Str) (f : Str) : D → M D
  | .obj c fs => match cs.contains c, fs.lookup f with
    | true, some d => pure d
    | _, _ => stuck
  | _ => stuck
theorem d_fld {cs : List Str} {f : Str} (F : FldF X.K cs f) (he : DP X W e m) (hb : attributeBase e f X.env (eval e X.env) = eval e X.env := by rfl) : DE X W (.Attribute e f pos) (una (fldD cs f) m) := by
  refine PE.weak (pe_fld he hb) fun σ H Q ⟨I, δ, en, g⟩ => ?_
  refine go_bindP en g fun d v I1 H1 δ1 n1 p1 g1 => ?_
  unfold fldD at g1
  split at g1
  · rename_i c fs
    split at g1
    · rename_i d' hc hl
      obtain ⟨a, dx, gs, rfl, h, r⟩ := p1.obj_inv n1.env.ext
      obtain ⟨c1, c2⟩ := F.at_ c (by simpa using hc)
      obtain ⟨v', hv, rv⟩ := r.lookup hl
      exact ⟨a, _, dx, gs, v', rfl, h, c1, c2, hv, g1.val0 n1.env rv⟩
    · exact g1.elim
  · exact g1.elim
/-! ### subscripts -/
def ixD : D → D → M D
  | .lst ds, .int i => match atI ds i with
    | some d => pure d
    | none => stuck
  | .tup ds, .int i => match atI ds i with
    | some d => pure d
    | none => stuck
  | .str x, .int i => match atI x.cps.toList i with
    | some c => guardM (szOk x.length) (pure (.str ⟨#[c]⟩))
    | none => stuck
  | _, _ => stuck
theorem Reps.atI {K : PySem.W.Frag} {I : Hp} {ds : List D} {vs : List V} {i : Int} {d : D} (r : Reps K I ds vs) (h : L2.atI ds i = some d) : ∃ v, L2.atI vs i = some v ∧ Rep K I d v := by
  unfold L2.atI at h ⊢
  rw [← r.length]
  cases q : ixN ds.length i with
  | none => rw [q] at h; cases h
  | some j =>
    rw [q] at h
    exact r.get h
theorem go_ix {K : PySem.W.Frag} {σ : L2.St} {I H : Hp} {δ : En} {d1 d2 : D} {v1 v2 : V} {Q : VK} (en : Env K I H σ δ) (p1 : Pk K I H d1 v1) (r2 : Rep K I d2 v2) (g : Go K W (ixD d1 d2) σ I H δ Q) : rIx K v1 v2 H Q := by
  unfold ixD at g
  split at g
  · split at g
    · rename_i ds i d hd
      obtain ⟨a, vs, rfl, h, r⟩ := p1.lst_inv en.ext
      cases r2
      obtain ⟨v', hv, rv⟩ := r.atI hd
      exact .inl ⟨a, vs, _, v', rfl, rfl, SqL.of h, hv, g.val0 en rv⟩
    · exact g.elim
  · split at g
    · rename_i ds i d hd
      obtain ⟨a, vs, rfl, h, r⟩ := p1.tup_inv en.ext
      cases r2
      obtain ⟨v', hv, rv⟩ := r.atI hd
      exact .inr (.inl ⟨a, vs, _, v', rfl, rfl, h, hv, g.val0 en rv⟩)
    · exact g.elim
  · split at g
    · rename_i ds i d hd
      obtain ⟨c, g⟩ := Go.guard g
      have e := p1.str_inv
      subst e
      cases r2
      exact .inr (.inr ⟨_, _, _, rfl, rfl, szOk_le c, hd, g.val0 en (.str _)⟩)
    · exact g.elim
  · exact g.elim
/-- x[e], x a name -/
def ixN_ (i : Nat) (mb : M D) : M D := peekV i >>= fun _ => mb >>= fun k => peekV i >>= fun d => ixD d k
def ixE (ma mb : M D) : M D := bin ixD ma mb
theorem d_ixN (i : Nat) {x : Str} {px : Pos} (hb : DE X W e mb) (hs : PlainIx e := by intro _ _; rfl) (hN : X.N[i]? = some x := by rfl) (hv : Vis X.env.scope x := by first | exact Or.inl rfl | exact Or.inr (Or.inl rfl) | exact Or.inr (Or.inr rfl)) (hd : (x == ("__debug__" : Str)) = false := by decide)
    (hcd : (x == ("__classdict__" : Str)) = false := by decide) : DE X W (.Subscript (.Name x px) e pos) (ixN_ i mb) := by
  refine PE.weak (pe_ix ix_seq (pv i hN hv hd hcd) hb hs) fun σ H Q ⟨I, δ, en, g⟩ => ?_
  obtain ⟨d0, v, hv0, p0, g⟩ := go_peekV en g
  refine ⟨v, hv0, go_bind en g fun k kv I1 H1 δ1 n1 r1 g1 => ?_⟩
  obtain ⟨d, v', hv', p, g2⟩ := go_peekV n1.env g1
  rw [hv0] at hv'; cases hv'
  exact go_ix n1.env p r1 g2
theorem d_ixE (ha : DE X W e m) (hb : DE X W e2 mb) (hs : PlainIx e2 := by intro _ _; rfl) : DE X W (.Subscript e e2 pos) (ixE m mb) := by
  refine PE.weak (pe_ix ix_seq ha hb hs) fun σ H Q ⟨I, δ, en, g⟩ => ?_
  exact go_bind en g fun d1 v1 I1 H1 δ1 n1 r1 g1 => go_bind n1.env g1 fun d2 v2 I2 H2 δ2 n2 r2 g2 => go_ix n2.env (.rep (r1.mono n2.post.ext)) r2 g2
/-! ### slices -/
def partD : D → M (Option Int)
  | .int i => pure (some i)
  | _ => stuck
def somePart (m : M D) : M (Option Int) := m >>= partD
def noPart : M (Option Int) := pure none
def tDO (K : PySem.W.Frag) (W : WX) (m : M (Option Int)) : TO := fun σ H Q => ∃ I δ, Env K I H σ δ ∧ GoT K W m σ I H δ Q
abbrev DO (X : Cx) (W : WX) (e : Option Expr) (m : M (Option Int)) : Prop := PO X e (tDO X.K W m)
theorem PO.weak {e : Option Expr} {t t' : TO} (h : PO X e t) (w : ∀ σ H Q, t' σ H Q → t σ H Q) : PO X e t' := ⟨fun pins s σ H Q I q => h.run pins s σ H Q I (w σ H Q q)⟩
theorem do_none : DO X W none noPart := PO.weak po_none fun σ H Q ⟨I, δ, en, g⟩ => g.val0 en
theorem do_some (h : DE X W e m) : DO X W (some e) (somePart m) := by
  refine PO.weak (po_some h) fun σ H Q ⟨I, δ, en, g⟩ => ?_
  refine goT_bind en g fun d v I1 H1 δ1 n1 r1 g1 => ?_
  cases r1 with
  | int i => exact ⟨i, rfl, g1.val0 n1.env⟩
  | _ => exact g1.elim
def cutD (xs : List D) (lo hi : Option Int) : List D := (xs.drop (HT.sIx xs.length 0 lo)).take (HT.sIx xs.length xs.length hi - HT.sIx xs.length 0 lo)
def slD (d : D) (lo hi : Option Int) : M D := match d with
  | .lst ds => pure (.lst (cutD ds lo hi))
  | .tup ds => guardM (!(decide (HT.sIx ds.length 0 lo = 0) && decide (HT.sIx ds.length ds.length hi = ds.length))) (pure (.tup (cutD ds lo hi)))
  | .str x => guardM (szOk x.length) (pure (.str (cutS x lo hi)))
  | _ => stuck
theorem Reps.cut {K : PySem.W.Frag} {I : Hp} {ds : List D} {vs : List V} (r : Reps K I ds vs) (lo hi : Option Int) : Reps K I (cutD ds lo hi) (cutV vs lo hi) := by
  unfold cutD cutV
  rw [r.length]
  exact (r.drop _).take _
theorem go_sl {K : PySem.W.Frag} {σ : L2.St} {I H : Hp} {δ : En} {d1 : D} {lo hi : Option Int} {v1 : V} {Q : VK} (en : Env K I H σ δ) (p1 : Pk K I H d1 v1) (g : Go K W (slD d1 lo hi) σ I H δ Q) :
    (rSlL K v1 lo hi H Q ∨ rSlT K v1 lo hi H Q) ∨ rSlS v1 lo hi H Q := by
  unfold slD at g
  split at g
  · obtain ⟨a, vs, rfl, h, r⟩ := p1.lst_inv en.ext
    exact .inl (.inl ⟨a, vs, rfl, SqL.of h, fun p hp => Go.val g (Nxt.alloc en hp) (rep_newL en hp (r.cut lo hi))⟩)
  · obtain ⟨a, vs, rfl, h, r⟩ := p1.tup_inv en.ext
    obtain ⟨c, g⟩ := Go.guard g
    refine .inl (.inr ⟨a, vs, rfl, h, fun z => ?_, fun p hp => Go.val g (Nxt.alloc en hp) (rep_newT en hp (r.cut lo hi))⟩)
    rw [← r.length] at z
    rw [decide_eq_true z.1, decide_eq_true z.2] at c
    cases c
  · obtain ⟨c, g⟩ := Go.guard g
    have e := p1.str_inv
    subst e
    exact .inr ⟨_, rfl, szOk_le c, g.val0 en (.str _)⟩
  · exact g.elim
def slN (i : Nat) (lo hi : M (Option Int)) : M D := peekV i >>= fun _ => lo >>= fun l => hi >>= fun h => peekV i >>= fun d => slD d l h
variable {lo hi : Option Expr} {ml mh : M (Option Int)}
theorem d_slN (i : Nat) {x : Str} {px : Pos} (hl : DO X W lo ml) (hh : DO X W hi mh) (hN : X.N[i]? = some x := by rfl) (hv : Vis X.env.scope x := by first | exact Or.inl rfl | exact Or.inr (Or.inl rfl) | exact Or.inr (Or.inr rfl)) (hd : (x == ("__debug__" : Str)) = false := by decide)
    (hcd : (x == ("__classdict__" : Str)) = false := by decide) : DE X W (.Subscript (.Name x px) (.Slice lo hi none p2) pos) (slN i ml mh) := by
  refine PE.weak (pe_slice ((sl_list.or sl_tup).or sl_str) (pv i hN hv hd hcd) hl hh) fun σ H Q ⟨I, δ, en, g⟩ => ?_
  obtain ⟨d0, v, hv0, p0, g⟩ := go_peekV en g
  refine ⟨v, hv0, I, δ, en, go_bindX en g fun l I1 H1 δ1 n1 g1 => ⟨I1, δ1, n1.env, go_bindX n1.env g1 fun h I2 H2 δ2 n2 g2 => ?_⟩⟩
  obtain ⟨d, v', hv', p, g3⟩ := go_peekV n2.env g2
  rw [hv0] at hv'; cases hv'
  exact go_sl n2.env p g3
def slE (m : M D) (lo hi : M (Option Int)) : M D := m >>= fun d => lo >>= fun l => hi >>= fun h => slD d l h
theorem d_slE (he : DE X W e m) (hl : DO X W lo ml) (hh : DO X W hi mh) : DE X W (.Subscript e (.Slice lo hi none p2) pos) (slE m ml mh) := by
  refine PE.weak (pe_slice ((sl_list.or sl_tup).or sl_str) he hl hh) fun σ H Q ⟨I, δ, en, g⟩ => ?_
  refine go_bind en g fun d v I0 H0 δ0 n0 r0 g0 => ⟨I0, δ0, n0.env, go_bindX n0.env g0 fun l I1 H1 δ1 n1 g1 => ⟨I1, δ1, n1.env, go_bindX n1.env g1 fun h I2 H2 δ2 n2 g2 => ?_⟩⟩
  exact go_sl n2.env (.rep ((r0.mono n1.post.ext).mono n2.post.ext)) g2
/-- xs[::-1] -/
def revD : D → M D
  | .lst ds => pure (.lst ds.reverse)
  | _ => stuck
theorem d_rev {k : Nat} {p1 p2 p3 pos : Pos} (he : DP X W e m) : DE X W (.Subscript e (.Slice none none (some (.UnaryOp .USub (.Constant (.int 1) k p1) p2)) p3) pos) (una revD m) := by
  refine PE.weak (pe_revL he) fun σ H Q ⟨I, δ, en, g⟩ => ?_
  refine go_bindP en g fun d v I1 H1 δ1 n1 p1 g1 => ?_
  unfold revD at g1
  split at g1
  · obtain ⟨a, vs, rfl, h, r⟩ := p1.lst_inv n1.env.ext
    exact ⟨a, vs, rfl, SqL.of h, fun p hp => Go.val g1 (Nxt.alloc n1.env hp) (rep_newL n1.env hp r.reverse)⟩
  · exact g1.elim
/-! ### built-ins -/
def lenD : D → M D
  | .lst ds => pure (.int ds.length)
  | .tup ds => pure (.int ds.length)
  | .str x => guardM (szOk x.length) (pure (.int x.length))
  | .scr ns => pure (.int ns.length)
  | _ => stuck
theorem d_len {p : Pos} (hm : X.mg "len" = none) (he : DP X W e m) (hg : Gl X "len" := by rfl)
    (hs : starEach (e :: []) X.env = (false, eval e X.env) :: starEach [] X.env := by rfl) (hpl : (backTo pos (starEach [] X.env)).any (·.1) = false := by rfl) : DE X W (.Call (.Name "len" p) [e] [] pos) (una lenD m) := by
  refine PE.weak (pe_callB call_len hg hm boot_len (pa_cons he pa_nil hs) (he := hs) (hpl := hpl)) fun σ H Q ⟨I, δ, en, g⟩ => ?_
  refine go_bindP en g fun d v I1 H1 δ1 n1 p1 g1 => ?_
  show ∃ x n, [v] = [x] ∧ LenV X.K x H1 n ∧ Q (.int n) H1
  unfold lenD at g1
  split at g1
  · obtain ⟨a, vs, rfl, h, r⟩ := p1.lst_inv n1.env.ext
    exact ⟨_, _, rfl, .inl ⟨vs, SqL.of h, rfl⟩, by rw [← r.length]; exact g1.val0 n1.env (.int _)⟩
  · obtain ⟨a, vs, rfl, h, r⟩ := p1.tup_inv n1.env.ext
    exact ⟨_, _, rfl, .inr ⟨vs, h, rfl⟩, by rw [← r.length]; exact g1.val0 n1.env (.int _)⟩
  · obtain ⟨c, g1⟩ := Go.guard g1
    have e := p1.str_inv
    subst e
    exact ⟨_, _, rfl, ⟨szOk_le c, rfl⟩, g1.val0 n1.env (.int _)⟩
  · obtain ⟨a, rfl, h⟩ := p1.scr_inv n1.env.ext
    exact ⟨_, _, rfl, .inl ⟨_, h, rfl⟩, by rw [List.length_map]; exact g1.val0 n1.env (.int _)⟩
  · exact g1.elim
def absD : D → M D
  | .int i => pure (.int (if i < 0 then -i else i))
  | _ => stuck
def intD : D → M D
  | .int i => pure (.int i)
  | .bl k => pure (.int (if k then 1 else 0))
  | _ => stuck
def boolD : D → M D
  | .int i => pure (.bl (i != 0))
  | .bl k => pure (.bl k)
  | _ => stuck
def strD : D → M D
  | .int i => guardM (decide (i.natAbs.log2 < 1920)) (pure (.str (toString i)))
  | _ => stuck
/-- a built-in of one argument -/
theorem d_b1 {x : Str} {id : String} {p : Pos} {f : D → M D} {r : List V → Hp → VK → Prop} (hc : CallR X (.builtin id) r) (hv : bootBuiltins x = some (.builtin id)) (hm : X.mg x = none) (he : DE X W e m)
    (hk : ∀ σ I H δ d v Q, Env X.K I H σ δ → Rep X.K I d v → Go X.K W (f d) σ I H δ Q → r [v] H Q) (hg : Gl X x := by rfl) (hn : x ≠ "__name__" := by decide) (hdb : (x == ("__debug__" : Str)) = false := by decide)
    (hs : starEach (e :: []) X.env = (false, eval e X.env) :: starEach [] X.env := by rfl) (hpl : (backTo pos (starEach [] X.env)).any (·.1) = false := by rfl) : DE X W (.Call (.Name x p) [e] [] pos) (una f m) := by
  refine PE.weak (pe_callB hc hg hm hv (pa_cons he pa_nil hs) hn hdb hs hpl) fun σ H Q ⟨I, δ, en, g⟩ => ?_
  exact go_bind en g fun d v I1 H1 δ1 n1 r1 g1 => hk σ I1 H1 δ1 d v Q n1.env r1 g1
theorem d_t1 {x : Str} {id : String} {p : Pos} {f : D → M D} {r : List V → Hp → VK → Prop} (hc : CallR X (.type id) r) (hv : bootBuiltins x = some (.type id)) (hm : X.mg x = none) (he : DE X W e m)
    (hk : ∀ σ I H δ d v Q, Env X.K I H σ δ → Rep X.K I d v → Go X.K W (f d) σ I H δ Q → r [v] H Q) (hg : Gl X x := by rfl) (hn : x ≠ "__name__" := by decide) (hdb : (x == ("__debug__" : Str)) = false := by decide)
    (hs : starEach (e :: []) X.env = (false, eval e X.env) :: starEach [] X.env := by rfl) (hpl : (backTo pos (starEach [] X.env)).any (·.1) = false := by rfl) : DE X W (.Call (.Name x p) [e] [] pos) (una f m) := by
  refine PE.weak (pe_callTy hc hg hm hv (pa_cons he pa_nil hs) hn hdb hs hpl) fun σ H Q ⟨I, δ, en, g⟩ => ?_
  exact go_bind en g fun d v I1 H1 δ1 n1 r1 g1 => hk σ I1 H1 δ1 d v Q n1.env r1 g1
theorem d_abs {p : Pos} (hm : X.mg "abs" = none) (he : DE X W e m) (hg : Gl X "abs" := by rfl) (hs : starEach (e :: []) X.env = (false, eval e X.env) :: starEach [] X.env := by rfl) : DE X W (.Call (.Name "abs" p) [e] [] pos) (una absD m) :=
  d_b1 call_abs (by decide +kernel) hm he (fun σ I H δ d v Q en r g => by
    cases r with
    | int i => exact ⟨i, rfl, g.val0 en (.int _)⟩
    | _ => exact g.elim) hg (hs := hs)
theorem d_toInt {p : Pos} (hm : X.mg "int" = none) (he : DE X W e m) (hg : Gl X "int" := by rfl) (hs : starEach (e :: []) X.env = (false, eval e X.env) :: starEach [] X.env := by rfl) : DE X W (.Call (.Name "int" p) [e] [] pos) (una intD m) :=
  d_t1 call_int1 (by decide +kernel) hm he (fun σ I H δ d v Q en r g => by
    cases r with
    | int i => exact .inl ⟨i, rfl, g.val0 en (.int _)⟩
    | bl k => exact .inr ⟨k, rfl, g.val0 en (.int _)⟩
    | _ => exact g.elim) hg (hs := hs)
theorem d_toBool {p : Pos} (hm : X.mg "bool" = none) (he : DE X W e m) (hg : Gl X "bool" := by rfl) (hs : starEach (e :: []) X.env = (false, eval e X.env) :: starEach [] X.env := by rfl) : DE X W (.Call (.Name "bool" p) [e] [] pos) (una boolD m) :=
  d_t1 call_bool1 (by decide +kernel) hm he (fun σ I H δ d v Q en r g => by
    cases r with
    | int i => exact .inl ⟨i, rfl, g.val0 en (.bl _)⟩
    | bl k => exact .inr ⟨k, rfl, g.val0 en (.bl _)⟩
    | _ => exact g.elim) hg (hs := hs)
theorem d_toStr {p : Pos} (hm : X.mg "str" = none) (he : DE X W e m) (hg : Gl X "str" := by rfl) (hs : starEach (e :: []) X.env = (false, eval e X.env) :: starEach [] X.env := by rfl) : DE X W (.Call (.Name "str" p) [e] [] pos) (una strD m) :=
  d_t1 call_str_int (by decide +kernel) hm he (fun σ I H δ d v Q en r g => by
    cases r with
    | int i =>
      obtain ⟨c, g⟩ := Go.guardP g
      exact ⟨i, rfl, c, g.val0 en (.str _)⟩
    | _ => exact g.elim) hg (hs := hs)
/-- min(a, b) of ints -/
def minD : D → D → M D
  | .int i, .int j => pure (.int (if j < i then j else i))
  | _, _ => stuck
theorem d_min {p : Pos} (hc : X.calm = true) (hm : X.mg "min" = none) (he : DE X W e m) (he2 : DE X W e2 mb) (hg : Gl X "min" := by rfl) (hs : starEach (e :: [e2]) X.env = (false, eval e X.env) :: starEach [e2] X.env := by rfl) (hs2 : starEach (e2 :: []) X.env = (false, eval e2 X.env) :: starEach [] X.env := by rfl)
    (hpl : (backTo pos (starEach [e2] X.env)).any (·.1) = false := by rfl) : DE X W (.Call (.Name "min" p) [e, e2] [] pos) (bin minD m mb) := by
  refine PE.weak (pe_callB (call_min2 hc) hg hm (by decide +kernel) (pa_cons he (pa_cons he2 pa_nil hs2) hs) (he := hs) (hpl := hpl)) fun σ H Q ⟨I, δ, en, g⟩ => ?_
  refine go_bind en g fun d1 v1 I1 H1 δ1 n1 r1 g1 => go_bind n1.env g1 fun d2 v2 I2 H2 δ2 n2 r2 g2 => ?_
  show ∃ i j, [v1, v2] = [V.int i, V.int j] ∧ Q (.int (if j < i then j else i)) H2
  cases r1 with
  | int i =>
    cases r2 with
    | int j => exact ⟨i, j, rfl, g2.val0 n2.env (.int _)⟩
    | _ => exact g2.elim
  | _ => exact g2.elim
/-! ### isinstance -/
inductive Tg where
  | ty (n : String) | own (c : Str)
  deriving DecidableEq
def tgV (K : PySem.W.Frag) : Tg → Value
  | .ty n => .type n
  | .own c => .ref (ga K c)
def tgD : D → Option Tg
  | .non => some (.ty "NoneType")
  | .bl _ => some (.ty "bool")
  | .int _ => some (.ty "int")
  | .str _ => some (.ty "str")
  | .lst _ => some (.ty "list")
  | .scr _ => some (.ty "list")
  | .tup _ => some (.ty "tuple")
  | .obj c _ => some (.own c)
  | .cls _ => none
def isTg (t c : Tg) : Bool := decide (t = c) || (decide (t = .ty "bool") && decide (c = .ty "int"))
/-- an own class, as isinstance reads it -/
structure ClsF (K : PySem.W.Frag) (c : Str) : Prop where
  cl : Cls K (ga K c)
  ha : PySem.W.findIn K (.ref (ga K c)) "__class__" = some (some (.builtin "object.__class__"))
  hn : PySem.W.specialIn K (.builtin "object.__class__") "__get__" = some (some (.builtin "getset_descriptor.__get__"))
  htk : PySem.W.takesIn K (.builtin "object.__class__") = some true
  hm : PySem.W.mroIn K (ga K c) (.type "object") = some true
structure IsiF (K : PySem.W.Frag) (tags : List Tg) (c : Tg) : Prop where
  kit : ∀ t ∈ tags, PySem.W.kitOne K (tgV K t) (tgV K c) = some (isTg t c)
  own : ∀ x, Tg.own x ∈ tags → ClsF K x
def isiD (tags : List Tg) (c : Tg) (d : D) : M D := match tgD d with
  | some t => guardM (decide (t ∈ tags)) (pure (.bl (isTg t c)))
  | none => stuck
theorem tyX_of {K : PySem.W.Frag} {σ : L2.St} {I H : Hp} {δ : En} {d : D} {v : V} {t : Tg} (en : Env K I H σ δ) (p : Pk K I H d v) (e : tgD d = some t) (F : ∀ x, t = .own x → ClsF K x) : TyX K H v (tgV K t) := by
  cases d with
  | non => cases e; rw [p.non_inv]; exact .base .non
  | bl b => cases e; rw [p.bl_inv]; exact .base (.bl b)
  | int b => cases e; rw [p.int_inv]; exact .base (.int b)
  | str b => cases e; rw [p.str_inv]; exact .base (.str b)
  | cls c => cases e
  | lst ds => cases e; obtain ⟨a, vs, rfl, h, _⟩ := p.lst_inv en.ext; exact .base (.lst h)
  | scr ns =>
    cases e
    obtain ⟨a, rfl, h⟩ := p.scr_inv en.ext
    rcases h with (h | ⟨o, h⟩) | ⟨o, its, n, h, c, _⟩
    · exact .base (.lst h)
    · exact .base (.frz h)
    · exact .kList h c
  | tup ds =>
    cases e
    obtain ⟨a, vs, rfl, h, _⟩ := p.tup_inv en.ext
    rcases h with (h | ⟨o, h⟩) | ⟨o, its, n, h, c, _⟩
    · exact .base (.tup h)
    · exact .fTuple h
    · exact .kTuple h c
  | obj c fs =>
    cases e
    obtain ⟨a, dx, gs, rfl, h, _⟩ := p.obj_inv en.ext
    have C := F c rfl
    exact .base (.ins h C.cl C.ha C.hn C.htk C.hm)
/-- a class as a value -/
structure ClV (X : Cx) (e : Expr) (c : Tg) : Prop where
  at_ : ∃ cv, PE X e (tC cv) ∧ ClsV cv (tgV X.K c)
theorem cl_ty {n : String} {x : Str} {p : Pos} (hm : X.mg x = none) (hv : bootBuiltins x = some (.type n)) (hg : Gl X x := by rfl) (hn : x ≠ "__name__" := by decide) (hd : (x == ("__debug__" : Str)) = false := by decide) : ClV X (.Name x p) (.ty n) :=
  ⟨.ty n, pe_bltn hg hm hv rfl hn hd, .ty n⟩
theorem cl_own {x : Str} {p : Pos} (hm : X.mg x = some (.ref (ga X.K x))) (hg : Gl X x := by rfl) (hd : (x == ("__debug__" : Str)) = false := by decide) : ClV X (.Name x p) (.own x) :=
  ⟨.ref (ga X.K x), pe_glob hg hm rfl hd, .own _⟩
theorem d_isi {tags : List Tg} {c : Tg} {p : Pos} (hm : X.mg "isinstance" = none) (F : IsiF X.K tags c) (he : DP X W e m) (hc : ClV X e2 c) (hg : Gl X "isinstance" := by rfl) (hs : starEach (e :: [e2]) X.env = (false, eval e X.env) :: starEach [e2] X.env := by rfl) (hs2 : starEach (e2 :: []) X.env = (false, eval e2 X.env) :: starEach [] X.env := by rfl)
    (hpl : (backTo pos (starEach [e2] X.env)).any (·.1) = false := by rfl) : DE X W (.Call (.Name "isinstance" p) [e, e2] [] pos) (una (isiD tags c) m) := by
  obtain ⟨cv, hcv, k⟩ := hc.at_
  refine PE.weak (pe_callB call_isi hg hm (by decide +kernel) (pa_cons he (pa_cons hcv pa_nil hs2) hs) (he := hs) (hpl := hpl)) fun σ H Q ⟨I, δ, en, g⟩ => ?_
  refine go_bindP en g fun d v I1 H1 δ1 n1 p1 g1 => ?_
  unfold isiD at g1
  split at g1
  · rename_i t ht
    obtain ⟨hmem, g1⟩ := Go.guardP g1
    exact ⟨v, cv, _, _, _, rfl, k, tyX_of n1.env p1 ht fun x e => F.own x (e ▸ hmem), F.kit t hmem, g1.val0 n1.env (.bl _)⟩
  · exact g1.elim
/-! ### fresh lists -/
def GoF (K : PySem.W.Frag) (W : WX) (m : M (List D)) (σ : L2.St) (I H : Hp) (δ : En) (Q : VK) : Prop := match m δ with
  | .ok ds δ' => ∀ a vs I' H', Nxt K σ I H δ I' H' δ' → H a = none → I' a = none → H' a = some (.lst vs) → Reps K I' ds vs → Q (.ref a) H'
  | .er x δ' => ∀ cls dd I' H', Nxt K σ I H δ I' H' δ' → ExR K I' H' x cls dd → W cls dd σ H'
  | .st => False
def tF (K : PySem.W.Frag) (W : WX) (m : M (List D)) : TE := fun σ H Q => ∃ I δ, Env K I H σ δ ∧ GoF K W m σ I H δ Q
/-- an expression that gives a new list -/
abbrev DF (X : Cx) (W : WX) (e : Expr) (m : M (List D)) : Prop := PE X e (tF X.K W m)
theorem Env.laidIn {K : PySem.W.Frag} {σ : L2.St} {I H : Hp} {δ : En} {a : Addr} {o : HO} (en : Env K I H σ δ) (hI : I a = none) (hH : H a = some o) (ho : ¬ Own δ σ a) : Env K (upd I a o) H σ δ where
  ext := fun b u h => by
    by_cases q : b = a
    · subst q; rw [upd_same] at h; rw [hH]; exact h
    · rw [upd_ne q] at h; exact en.ext b u h
  len := en.len
  at_ := fun i s v h1 h2 => by
    have r := en.at_ i s v h1 h2
    have ei : Ext I (upd I a o) := Ext.upd' hI
    cases s with
    | un => exact r
    | xc a' dd x => exact ⟨r.1, r.2.mono ei⟩
    | va d => obtain ⟨v, q, r⟩ := r; exact ⟨v, q, r.mono ei⟩
    | ow ds =>
      obtain ⟨b, vs, q, n, z, r⟩ := r
      subst q
      have ne : b ≠ a := fun e => ho (e ▸ ⟨i, ⟨_, h1, trivial⟩, h2⟩)
      exact ⟨b, vs, rfl, by rw [upd_ne ne]; exact n, z, r.mono ei⟩
    | ob c fs =>
      obtain ⟨b, dx, gs, q, n, z, r⟩ := r
      subst q
      have ne : b ≠ a := fun e => ho (e ▸ ⟨i, ⟨_, h1, trivial⟩, h2⟩)
      exact ⟨b, dx, gs, rfl, by rw [upd_ne ne]; exact n, z, r.mono ei⟩
  one := en.one
theorem Nxt.frozen {K : PySem.W.Frag} {σ : L2.St} {I H I' H' : Hp} {δ δ' : En} {a : Addr} {o : HO} (en : Env K I H σ δ) (n : Nxt K σ I H δ I' H' δ') (h0 : H a = none) (h1 : I' a = none) (h2 : H' a = some o) : Nxt K σ I H δ (upd I' a o) H' δ' :=
  ⟨n.env.laidIn h1 h2 fun z => en.ownH (n.own a z) h0, ⟨fun b u h => by
      rw [upd_ne (ne_of_none (n.post.ext b u h) h1)]; exact n.post.ext b u h, fun b u h z => (by
      by_cases q : b = a
      · subst q; exact .inl h0
      · rw [upd_ne q] at h; exact n.post.fresh b u h z), n.post.keep, n.post.dom⟩, n.own⟩
/-- handed over at once: a value -/
def frzD (m : M (List D)) : M D := m >>= fun ds => pure (.lst ds)
theorem d_f {mf : M (List D)} (h : DF X W e mf) : DE X W e (frzD mf) := by
  refine PE.weak h fun σ H Q ⟨I, δ, en, g⟩ => ⟨I, δ, en, ?_⟩
  unfold Go frzD at g
  unfold GoF
  rw [bind_eq] at g
  cases q : mf δ with
  | ok ds δ' => rw [q] at g; exact fun a vs I' H' n h0 h1 h2 r => g _ _ H' (n.frozen en h0 h1 h2) (.lst upd_same (r.mono (Ext.upd' h1)))
  | er x δ' => rw [q] at g; exact g
  | st => rw [q] at g; exact g
theorem GoF.after {K : PySem.W.Frag} {σ : L2.St} {I H I1 H1 : Hp} {δ δ1 : En} {α : Type} {m : M α} {f : α → M (List D)} {a : α} {Q : VK} (g : GoF K W (m >>= f) σ I H δ Q) (n : Nxt K σ I H δ I1 H1 δ1) (e : m δ = .ok a δ1) : GoF K W (f a) σ I1 H1 δ1 Q := by
  unfold GoF at g ⊢
  rw [bind_eq, e] at g
  dsimp only at g
  cases q : f a δ1 with
  | ok d δ2 => rw [q] at g; exact fun b v I' H' n' h0 h1 h2 r => g b v I' H' (n.trans n') (n.post.dom b h0) h1 h2 r
  | er x δ2 => rw [q] at g; exact fun c dd I' H' n' r => g c dd I' H' (n.trans n') r
  | st => rw [q] at g; exact g
theorem goF_bindA {K : PySem.W.Frag} {σ : L2.St} {I H : Hp} {δ : En} {m : M (List D)} {f : List D → M (List D)} {Q : VK} {R : List V → Hp → Prop} (en : Env K I H σ δ) (g : GoF K W (m >>= f) σ I H δ Q)
    (k : ∀ ds vs I1 H1 δ1, Nxt K σ I H δ I1 H1 δ1 → Reps K I1 ds vs → GoF K W (f ds) σ I1 H1 δ1 Q → R vs H1) : tDA K W m σ H R := by
  refine ⟨I, δ, en, ?_⟩
  have g0 := g
  unfold GoF at g
  unfold GoA
  rw [bind_eq] at g
  cases q : m δ with
  | ok d δ1 => exact fun v I' H' n r => k d v I' H' δ1 n r (g0.after n q)
  | er x δ1 => rw [q] at g; exact g
  | st => rw [q] at g; exact g
theorem goF_bindP {K : PySem.W.Frag} {σ : L2.St} {I H : Hp} {δ : En} {m : M D} {f : D → M (List D)} {Q : VK} {R : VK} (en : Env K I H σ δ) (g : GoF K W (m >>= f) σ I H δ Q)
    (k : ∀ d v I1 H1 δ1, Nxt K σ I H δ I1 H1 δ1 → Pk K I1 H1 d v → GoF K W (f d) σ I1 H1 δ1 Q → R v H1) : tP K W m σ H R := by
  refine ⟨I, δ, en, ?_⟩
  have g0 := g
  unfold GoF at g
  unfold GoP
  rw [bind_eq] at g
  cases q : m δ with
  | ok d δ1 => exact fun v I' H' n r => k d v I' H' δ1 n r (g0.after n q)
  | er x δ1 => rw [q] at g; exact g
  | st => rw [q] at g; exact g
theorem GoF.new {K : PySem.W.Frag} {σ : L2.St} {I H : Hp} {δ : En} {ds : List D} {vs : List V} {Q : VK} (g : GoF K W (pure ds) σ I H δ Q) (en : Env K I H σ δ) (r : Reps K I ds vs) {p : Addr} (hp : H p = none) : Q (.ref p) (upd H p (.lst vs)) :=
  g p vs I _ (Nxt.beside en hp) hp (en.ext.back hp) upd_same r
theorem GoF.guard {K : PySem.W.Frag} {σ : L2.St} {I H : Hp} {δ : En} {b : Bool} {m : M (List D)} {Q : VK} (g : GoF K W (guardM b m) σ I H δ Q) : b = true ∧ GoF K W m σ I H δ Q := by
  cases b with
  | true => exact ⟨rfl, g⟩
  | false => exact g.elim
variable {es : List Expr} {mr : M (List D)}
def dispF (a : M (List D)) : M (List D) := a >>= fun ds => guardM (szOk ds.length) (pure ds)
theorem f_lst (h : DA X W es mr) : DF X W (.List es pos) (dispF mr) := by
  refine PE.weak (pe_lst h) fun σ H Q ⟨I, δ, en, g⟩ => ?_
  refine goF_bindA en g fun ds vs I1 H1 δ1 n1 r1 g1 => ?_
  obtain ⟨hz, g2⟩ := g1.guard
  exact ⟨by rw [← r1.length]; exact szOk_le hz, fun p hp => g2.new n1.env r1 hp⟩
/-- list(e) -/
def listF : D → M (List D)
  | .lst ds => pure ds
  | .tup ds => pure ds
  | _ => stuck
def listOf (m : M D) : M (List D) := m >>= listF
theorem f_list {p : Pos} (hm : X.mg "list" = none) (he : DP X W e m) (hg : Gl X "list" := by rfl) (hs : starEach (e :: []) X.env = (false, eval e X.env) :: starEach [] X.env := by rfl) (hpl : (backTo pos (starEach [] X.env)).any (·.1) = false := by rfl) :
    DF X W (.Call (.Name "list" p) [e] [] pos) (listOf m) := by
  refine PE.weak (pe_callTy call_list_of hg hm (by decide +kernel) (pa_cons he pa_nil hs) (he := hs) (hpl := hpl)) fun σ H Q ⟨I, δ, en, g⟩ => ?_
  refine goF_bindP en g fun d v I1 H1 δ1 n1 p1 g1 => ?_
  show ∃ p ys, [v] = [.ref p] ∧ (SqL X.K H1 p ys ∨ SqT X.K H1 p ys) ∧ ∀ l, H1 l = none → Q (.ref l) (upd H1 l (.lst ys))
  unfold listF at g1
  split at g1
  · obtain ⟨a, vs, rfl, h, r⟩ := p1.lst_inv n1.env.ext
    exact ⟨_, _, rfl, .inl (SqL.of h), fun l hl => g1.new n1.env r hl⟩
  · obtain ⟨a, vs, rfl, h, r⟩ := p1.tup_inv n1.env.ext
    exact ⟨_, _, rfl, .inr h, fun l hl => g1.new n1.env r hl⟩
  · exact g1.elim
end
end DL
set_option maxHeartbeats 2000000
/-! DL5: statements. -/
namespace DL
open PySem PySem.Spec PyProof.Rows L2
section
variable {K : PySem.W.Frag} {W : WX} {P : Nat} {σ σ1 : L2.St} {I H I1 H1 : Hp} {δ δ1 : En}
theorem set_atV {l : L2.St} {i j : Nat} {x : Option V} {y : Option V} (h : (l.set i x)[j]? = some y) : (j = i ∧ y = x) ∨ (j ≠ i ∧ l[j]? = some y) := set_at h
/-- a slot takes a value -/
theorem Env.setVa (en : Env K I H σ δ) {d : D} {v : V} (r : Rep K I d v) (i : Nat) (hP : P ≤ i) : NxtS K P σ I H δ (σ.set i (some v)) I H (δ.set i (.va d)) := by
  have back : ∀ j b, OwnAt (δ.set i (.va d)) (σ.set i (some v)) j b → OwnAt δ σ j b := fun j b ⟨⟨t, ht, hto⟩, hb⟩ => by
    rcases set_at ht with ⟨e, q⟩ | ⟨ne, q⟩
    · subst q; exact hto.elim
    · rw [List.getElem?_set_ne (Ne.symm ne)] at hb
      exact ⟨⟨t, q, hto⟩, hb⟩
  refine ⟨⟨en.ext, by rw [List.length_set, List.length_set]; exact en.len, fun j s o h1 h2 => ?_, fun j k b h1 h2 => en.one j k b (back _ _ h1) (back _ _ h2)⟩, .refl, fun a ⟨j, h⟩ => .inl ⟨j, back j a h⟩, fun j hj => List.getElem?_set_ne (by omega)⟩
  rcases set_at h1 with ⟨e, q⟩ | ⟨ne, q⟩
  · subst e; subst q
    rcases set_at h2 with ⟨_, q⟩ | ⟨ne, _⟩
    · subst q; exact ⟨v, rfl, r⟩
    · exact absurd rfl ne
  · rw [List.getElem?_set_ne (Ne.symm ne)] at h2
    exact en.at_ j s o q h2
/-- a slot takes a new list of its own -/
theorem Env.setOw (en : Env K I H σ δ) (n : Nxt K σ I H δ I1 H1 δ1) {a : Addr} {ds : List D} {vs : List V} (h0 : H a = none) (h1 : I1 a = none) (h2 : H1 a = some (.lst vs)) (r : Reps K I1 ds vs) (i : Nat) (hP : P ≤ i) :
    NxtS K P σ I H δ (σ.set i (some (.ref a))) I1 H1 (δ1.set i (.ow ds)) := by
  have na : ∀ j b, OwnAt δ1 σ j b → b ≠ a := fun j b h e => by subst e; exact en.ownH (n.own b ⟨j, h⟩) h0
  have back : ∀ j b, OwnAt (δ1.set i (.ow ds)) (σ.set i (some (.ref a))) j b → (j = i ∧ b = a) ∨ (j ≠ i ∧ OwnAt δ1 σ j b) := fun j b ⟨⟨t, ht, hto⟩, hb⟩ => by
    rcases set_at ht with ⟨e, q⟩ | ⟨ne, q⟩
    · subst e
      rcases set_at hb with ⟨_, q⟩ | ⟨ne, _⟩
      · cases q; exact .inl ⟨rfl, rfl⟩
      · exact absurd rfl ne
    · rw [List.getElem?_set_ne (Ne.symm ne)] at hb
      exact .inr ⟨ne, ⟨t, q, hto⟩, hb⟩
  refine ⟨⟨n.env.ext, by rw [List.length_set, List.length_set]; exact n.env.len, fun j s o h1' h2' => ?_, fun j k b h1 h2 => ?_⟩, n.post, fun b ⟨j, h⟩ => ?_, fun j hj => List.getElem?_set_ne (by omega)⟩
  · rcases set_at h1' with ⟨e, q⟩ | ⟨ne, q⟩
    · subst e; subst q
      rcases set_at h2' with ⟨_, q⟩ | ⟨ne, _⟩
      · subst q; exact ⟨a, vs, rfl, h1, h2, r⟩
      · exact absurd rfl ne
    · rw [List.getElem?_set_ne (Ne.symm ne)] at h2'
      exact n.env.at_ j s o q h2'
  · rcases back j b h1 with ⟨e1, e2⟩ | ⟨n1, o1⟩
    · rcases back k b h2 with ⟨e3, _⟩ | ⟨n2, o2⟩
      · rw [e1, e3]
      · exact absurd e2 (na k b o2)
    · rcases back k b h2 with ⟨_, e4⟩ | ⟨n2, o2⟩
      · exact absurd e4 (na j b o1)
      · exact n.env.one j k b o1 o2
  · rcases back j b h with ⟨_, e⟩ | ⟨_, o⟩
    · subst e; exact .inr h0
    · exact .inl (n.own b ⟨j, o⟩)
/-- an owned object changes -/
theorem Env.mutate (en : Env K I H σ δ) {i : Nat} {s s' : Sl} {a : Addr} {o : HO} (hs : δ[i]? = some s) (ho : s.own) (ho' : s'.own) (hv : σ[i]? = some (some (.ref a))) (r : SlRep K I (upd H a o) s' (some (.ref a))) :
    Nxt K σ I H δ I (upd H a o) (δ.set i s') := by
  have oa : OwnAt δ σ i a := ⟨⟨s, hs, ho⟩, hv⟩
  have hI := en.ownI ⟨i, oa⟩
  have back : ∀ j b, OwnAt (δ.set i s') σ j b → OwnAt δ σ j b := fun j b ⟨⟨t, ht, hto⟩, hb⟩ => by
    rcases set_at ht with ⟨e, q⟩ | ⟨ne, q⟩
    · subst e; exact ⟨⟨s, hs, ho⟩, hb⟩
    · exact ⟨⟨t, q, hto⟩, hb⟩
  refine ⟨⟨fun b u h => ?_, by rw [List.length_set]; exact en.len, fun j t o' h1 h2 => ?_, fun j k b h1 h2 => en.one j k b (back _ _ h1) (back _ _ h2)⟩,
    ⟨fun _ _ h => h, fun b u h n => (by rw [n] at h; cases h), fun b u h no => ?_, fun b h => ?_⟩, fun b ⟨j, h⟩ => ⟨j, back j b h⟩⟩
  · rw [upd_ne (ne_of_none h hI)]; exact en.ext b u h
  · rcases set_at h1 with ⟨e, q⟩ | ⟨ne, q⟩
    · subst e; subst q
      rw [hv] at h2; cases h2
      exact r
    · have z := en.at_ j t o' q h2
      have nb : ∀ b, t.own → o' = some (.ref b) → b ≠ a := fun b ht e e2 => by
        subst e; subst e2
        exact ne (en.one j i b ⟨⟨t, q, ht⟩, h2⟩ oa)
      cases t with
      | un => exact z
      | xc a' dd x => exact z
      | va d' => exact z
      | ow ds =>
        obtain ⟨b, vs, e, n, zz, z⟩ := z
        exact ⟨b, vs, e, n, by rw [upd_ne (nb b trivial e)]; exact zz, z⟩
      | ob c fs =>
        obtain ⟨b, dx, gs, e, n, zz, z⟩ := z
        exact ⟨b, dx, gs, e, n, by rw [upd_ne (nb b trivial e)]; exact zz, z⟩
  · have nb : b ≠ a := fun e => by subst e; exact no ⟨i, oa⟩
    rw [upd_ne nb]; exact h
  · by_cases q : b = a
    · subst q; rw [upd_same] at h; cases h
    · rw [upd_ne q] at h; exact h
/-! ### blocks -/
/-- a statement within a statement -/
theorem goS_seq {m : M Fl} {f : Fl → M Fl} {Dn Dn' : Ends} (g : GoS K W P (m >>= f) σ I H δ Dn)
    (k : ∀ fl σ1 I1 H1 δ1, NxtS K P σ I H δ σ1 I1 H1 δ1 → GoS K W P (f fl) σ1 I1 H1 δ1 Dn → EndsAt K I1 σ1 H1 Dn' fl) : GoS K W P m σ I H δ Dn' := by
  have g0 := g
  unfold GoS at g ⊢
  rw [bind_eq] at g
  cases q : m δ with
  | ok d δ1 => exact fun σ' I' H' n => k d σ' I' H' δ1 n (g0.after n q)
  | er x δ1 => rw [q] at g; exact g
  | st => rw [q] at g; exact g
theorem GoS.end_ {fl : Fl} {Dn : Ends} (g : GoS K W P (pure fl) σ I H δ Dn) (en : Env K I H σ δ) : EndsAt K I σ H Dn fl := g σ I H (.refl en)
theorem GoS.endN {fl : Fl} {Dn : Ends} (g : GoS K W P (pure fl) σ I H δ Dn) (n : NxtS K P σ I H δ σ1 I1 H1 δ) : EndsAt K I1 σ1 H1 Dn fl := g σ1 I1 H1 n
end
def thenS (b : M Fl) : Fl → M Fl
  | .nx => b
  | .rt d => pure (.rt d)
  | .bk => pure .bk
  | .ct => pure .ct
def seqD (a b : M Fl) : M Fl := a >>= thenS b
/-- nothing but to the next -/
def onlyS : Fl → M Fl
  | .nx => pure .nx
  | _ => stuck
def exprD (m : M D) : M Fl := m >>= fun _ => pure .nx
def retD (m : M D) : M Fl := m >>= fun d => pure (.rt d)
def ifD (t : M Bool) (a b : M Fl) : M Fl := t >>= fun c => if c then a else b
def setV (i : Nat) (d : D) : M Fl := fun δ => .ok .nx (δ.set i (.va d))
def setD (i : Nat) (m : M D) : M Fl := m >>= setV i
def setO (i : Nat) (ds : List D) : M Fl := fun δ => .ok .nx (δ.set i (.ow ds))
def setF (i : Nat) (m : M (List D)) : M Fl := m >>= setO i
section
variable {X : Cx} {W : WX} {P : Nat} {pos p2 : Pos} {e e2 c : Expr} {m mb : M D} {t : M Bool} {st : Stmt} {rest a b : List Stmt} {sa sb : M Fl}
theorem ds_nil : DSs X W P [] (pure .nx) := PSs.weak pss_nil fun D σ H ⟨I, δ, en, g⟩ => GoS.end_ g en
theorem ds_one (h : DS X W P st sa) : DSs X W P [st] sa := pss_one h
theorem ds_cons (h1 : DS X W P st sa) (h2 : DSs X W P rest sb) : DSs X W P (st :: rest) (seqD sa sb) := by
  refine PSs.weak (pss_cons h1 h2) fun D σ H ⟨I, δ, en, g⟩ => ⟨I, δ, en, ?_⟩
  refine goS_seq (Dn' := { D with nx := tDS X.K W P sb D }) g fun fl σ1 I1 H1 δ1 n1 g1 => ?_
  cases fl with
  | nx => exact ⟨I1, δ1, n1.env, g1⟩
  | rt d => exact GoS.end_ (W := W) (P := P) (Dn := D) (fl := .rt d) g1 n1.env
  | bk => exact GoS.end_ (W := W) (P := P) (Dn := D) (fl := .bk) g1 n1.env
  | ct => exact GoS.end_ (W := W) (P := P) (Dn := D) (fl := .ct) g1 n1.env
theorem ds_expr (h : DE X W e m) (hs : swapsWith e none pos.line X.env = pure false := by rfl) : DS X W P (.Expr e pos) (exprD m) := by
  refine PS.weak (ps_expr h hs) fun D σ H ⟨I, δ, en, g⟩ => ?_
  exact goS_bind en g fun d v I1 H1 δ1 n1 r1 g1 => GoS.end_ g1 n1.env
theorem ds_pass : DS X W P (.Pass pos) (pure .nx) := PS.weak ps_pass fun D σ H ⟨I, δ, en, g⟩ => GoS.end_ g en
theorem ds_break : DS X W P (.Break pos) (pure .bk) := PS.weak ps_break fun D σ H ⟨I, δ, en, g⟩ => GoS.end_ g en
theorem ds_continue : DS X W P (.Continue pos) (pure .ct) := PS.weak ps_continue fun D σ H ⟨I, δ, en, g⟩ => GoS.end_ g en
theorem ds_ret (h : DE X W e m) : DS X W P (.Return (some e) pos) (retD m) := by
  refine PS.weak (ps_ret h) fun D σ H ⟨I, δ, en, g⟩ => ?_
  exact goS_bind en g fun d v I1 H1 δ1 n1 r1 g1 => GoS.end_ g1 n1.env v r1
theorem ds_retN : DS X W P (.Return none pos) (pure (.rt .non)) := PS.weak ps_retN fun D σ H ⟨I, δ, en, g⟩ => GoS.end_ g en _ .non
theorem ds_if (hc : DT X W c t) (ha : DSs X W P a sa) (hb : DSs X W P b sb) : DS X W P (.If c a b pos) (ifD t sa sb) := by
  refine PS.weak (ps_if hc ha hb) fun D σ H ⟨I, δ, en, g⟩ => ?_
  refine goS_bindT en g fun k I1 H1 δ1 n1 g1 => ?_
  cases k with
  | true => rw [if_pos rfl]; exact ⟨I1, δ1, n1.env, g1⟩
  | false => rw [if_neg Bool.false_ne_true]; exact ⟨I1, δ1, n1.env, g1⟩
theorem goS_setV {K : PySem.W.Frag} {σ : L2.St} {I H : Hp} {δ : En} {i : Nat} {d : D} {v : V} {Dn : Ends} (en : Env K I H σ δ) (r : Rep K I d v) (hP : P ≤ i) (g : GoS K W P (setV i d) σ I H δ Dn) : Dn.nx (σ.set i (some v)) H :=
  g _ I H (en.setVa r i hP)
theorem ds_set {i : Nat} {x : Str} {pos' : Pos} (hN : X.N.Nodup) (he : DE X W e m) (hi : X.N[i]? = some x := by rfl) (hx : Loc X.env.scope x := by first | exact Or.inl rfl | exact Or.inr rfl) (hP : P ≤ i := by decide) (hs : swapsWith e (some (.Name x pos')) pos.line X.env = pure false := by rfl)
    (hf : X.fn x = true ∨ X.env.scope.names.lookup x = some .local := by first | exact .inl rfl | exact .inr rfl) : DS X W P (.Assign [.Name x pos'] e pos) (setD i m) := by
  refine PS.weak (ps_set hN hi hx he hs hf) fun D σ H ⟨I, δ, en, g⟩ => ?_
  exact goS_bind en g fun d v I1 H1 δ1 n1 r1 g1 => goS_setV n1.env r1 hP g1
theorem ds_setF {i : Nat} {x : Str} {pos' : Pos} {mf : M (List D)} (hN : X.N.Nodup) (he : DF X W e mf) (hi : X.N[i]? = some x := by rfl) (hx : Loc X.env.scope x := by first | exact Or.inl rfl | exact Or.inr rfl) (hP : P ≤ i := by decide) (hs : swapsWith e (some (.Name x pos')) pos.line X.env = pure false := by rfl)
    (hf : X.fn x = true ∨ X.env.scope.names.lookup x = some .local := by first | exact .inl rfl | exact .inr rfl) : DS X W P (.Assign [.Name x pos'] e pos) (setF i mf) := by
  refine PS.weak (ps_set hN hi hx he hs hf) fun D σ H ⟨I, δ, en, g⟩ => ⟨I, δ, en, ?_⟩
  unfold GoS setF at g
  unfold GoF
  rw [bind_eq] at g
  cases q : mf δ with
  | ok ds δ1 => rw [q] at g; exact fun a vs I' H' n h0 h1 h2 r => g _ I' H' (en.setOw n h0 h1 h2 r i hP)
  | er x δ1 => rw [q] at g; exact fun c dd I' H' n r => g c dd σ I' H' n.toS r
  | st => rw [q] at g; exact g
/-! ### targets -/
def tDG (K : PySem.W.Frag) (W : WX) (P : Nat) (st : D → M Fl) : TG := fun v σ H Q => ∃ I δ d, Env K I H σ δ ∧ Rep K I d v ∧ GoS K W P (st d) σ I H δ { nx := Q, rt := fun _ _ => False }
abbrev DG (X : Cx) (W : WX) (P : Nat) (tg : Expr) (st : D → M Fl) : Prop := PG X tg (tDG X.K W P st)
theorem PG.weak {tg : Expr} {t t' : TG} (h : PG X tg t) (w : ∀ v σ H Q, t' v σ H Q → t v σ H Q) : PG X tg t' := ⟨fun pins s σ H v u Q I r q => h.run pins s σ H v u Q I r (w v σ H Q q)⟩
theorem dg_name {i : Nat} {x : Str} (hN : X.N.Nodup) (hi : X.N[i]? = some x := by rfl) (hx : Loc X.env.scope x := by first | exact Or.inl rfl | exact Or.inr rfl) (hP : P ≤ i := by decide) (hf : X.fn x = true ∨ X.env.scope.names.lookup x = some .local := by first | exact .inl rfl | exact .inr rfl) :
    DG X W P (.Name x pos) (setV i) := PG.weak (pg_name hN hi hx hf) fun v σ H Q ⟨I, δ, d, en, r, g⟩ => goS_setV en r hP g
def setAll : List Nat → List D → M Fl
  | [], [] => pure .nx
  | i :: is, d :: ds => seqD (setV i d) (setAll is ds)
  | _, _ => stuck
def tDGs (K : PySem.W.Frag) (W : WX) (P : Nat) (st : List D → M Fl) : TGs := fun vs σ H Q => ∃ I δ ds, Env K I H σ δ ∧ Reps K I ds vs ∧ GoS K W P (st ds) σ I H δ { nx := Q, rt := fun _ _ => False }
abbrev DGs (X : Cx) (W : WX) (P : Nat) (tg : List Expr) (st : List D → M Fl) : Prop := PGs X tg (tDGs X.K W P st)
theorem PGs.weak {tg : List Expr} {t t' : TGs} (h : PGs X tg t) (w : ∀ v σ H Q, t' v σ H Q → t v σ H Q) : PGs X tg t' := ⟨fun pins s σ H v u Q I r q => h.run pins s σ H v u Q I r (w v σ H Q q)⟩
theorem dgs_nil : DGs X W P [] (setAll []) := PGs.weak pgs_nil fun vs σ H Q ⟨I, δ, ds, en, r, g⟩ => by
  cases r with
  | nil => exact ⟨rfl, GoS.end_ g en⟩
  | cons _ _ => exact g.elim
theorem dgs_cons {i : Nat} {is : List Nat} {x : Str} {es : List Expr} (hN : X.N.Nodup) (h2 : DGs X W P es (setAll is)) (hi : X.N[i]? = some x := by rfl) (hx : Loc X.env.scope x := by first | exact Or.inl rfl | exact Or.inr rfl) (hP : P ≤ i := by decide) (hf : X.fn x = true ∨ X.env.scope.names.lookup x = some .local := by first | exact .inl rfl | exact .inr rfl)
    (hs : (assignEach (.Name x pos :: es) X.env).map (·.2) = assign (.Name x pos) X.env :: (assignEach es X.env).map (·.2) := by rfl) : DGs X W P (.Name x pos :: es) (setAll (i :: is)) := PGs.weak (pgs_cons (pg_name hN hi hx hf) h2 hs) fun vs σ H Q ⟨I, δ, ds, en, r, g⟩ => by
  cases r with
  | nil => exact g.elim
  | cons h r =>
    refine ⟨_, _, rfl, ?_⟩
    have n := en.setVa h i hP
    have g2 : GoS X.K W P (setAll is _) _ I H _ { nx := Q, rt := fun _ _ => False } := GoS.after (f := thenS (setAll is _)) (a := Fl.nx) g n rfl
    exact ⟨I, _, _, n.env, r, g2⟩
def setTup (is : List Nat) (d : D) : M Fl := match d with
  | .tup ds => guardM (decide (ds.length = is.length)) (setAll is ds)
  | _ => stuck
theorem GoS.guardP {K : PySem.W.Frag} {σ : L2.St} {I H : Hp} {δ : En} {p : Prop} [Decidable p] {m : M Fl} {Dn : Ends} (g : GoS K W P (guardM (decide p) m) σ I H δ Dn) : p ∧ GoS K W P m σ I H δ Dn := by
  by_cases h : p
  · rw [decide_eq_true h] at g; exact ⟨h, g⟩
  · rw [decide_eq_false h] at g; exact g.elim
theorem dg_tup {is : List Nat} {es : List Expr} {k : Nat} (hc : X.calm = true) (h : DGs X W P es (setAll is)) (hn : (assignEach es X.env).length = is.length := by rfl) (hst : (assignEach es X.env).findIdx? (·.1) = none := by rfl) : DG X W P (.Tuple es k pos) (setTup is) :=
  PG.weak (pg_tup hc h hn hst) fun v σ H Q ⟨I, δ, d, en, r, g⟩ => by
    unfold setTup at g
    cases r with
    | tup h r =>
      obtain ⟨hl, g⟩ := GoS.guardP g
      exact ⟨_, _, rfl, sqT_ext en.ext h, by rw [← r.length]; exact hl, I, δ, _, en, r, g⟩
    | _ => exact g.elim
/-- target = e, the target a tuple of names -/
def asgD (st : D → M Fl) (m : M D) : M Fl := m >>= fun d => st d >>= onlyS
theorem goS_only {K : PySem.W.Frag} {σ : L2.St} {I H : Hp} {δ : En} {m : M Fl} {Dn : Ends} {b : M Fl} {R : L2.St → Hp → Prop} (g : GoS K W P (m >>= onlyS >>= thenS b) σ I H δ Dn)
    (k : ∀ σ1 I1 H1 δ1, NxtS K P σ I H δ σ1 I1 H1 δ1 → GoS K W P b σ1 I1 H1 δ1 Dn → R σ1 H1) : GoS K W P m σ I H δ { nx := R, rt := fun _ _ => False } := by
  rw [bind_assoc'] at g
  refine goS_seq g fun fl σ1 I1 H1 δ1 n1 g1 => ?_
  cases fl with
  | nx => exact k σ1 I1 H1 δ1 n1 g1
  | rt d => exact g1.elim
  | bk => exact g1.elim
  | ct => exact g1.elim
theorem bind_nx (m : M Fl) : (m >>= onlyS >>= thenS (pure .nx)) = (m >>= onlyS) := by
  funext δ
  show M.bind (M.bind m onlyS) (thenS (pure .nx)) δ = M.bind m onlyS δ
  unfold M.bind
  cases m δ with
  | ok a δ' => cases a <;> rfl
  | er x δ' => rfl
  | st => rfl
theorem ds_asg {tg : Expr} {st : D → M Fl} (he : DE X W e m) (hg : DG X W P tg st) (hs : swapsWithSole [tg] e pos.line X.env = pure false := by rfl) (hw : swappedStores [tg] e X.env = pure none := by rfl) (h1 : (assignEach [tg] X.env).map (·.2) = [assign tg X.env] := by rfl) : DS X W P (.Assign [tg] e pos) (asgD st m) := by
  refine PS.weak (ps_asg he hg hs hw h1) fun D σ H ⟨I, δ, en, g⟩ => ?_
  refine goS_bind en g fun d v I1 H1 δ1 n1 r1 g1 => ⟨I1, δ1, d, n1.env, r1, ?_⟩
  rw [← bind_nx] at g1
  exact goS_only g1 fun σ2 I2 H2 δ2 n2 g2 => GoS.end_ g2 n2.env
/-! ### while -/
/-! behind a turn -/
def turnS (again : M Fl) : Fl → M Fl
  | .nx => again
  | .ct => again
  | .bk => pure .nx
  | .rt d => pure (.rt d)
def whileN : Nat → M Bool → M Fl → M Fl
  | 0, _, _ => stuck
  | n + 1, t, b => t >>= fun c => if c then (b >>= turnS (whileN n t b)) else pure .nx
theorem whileN_succ (n : Nat) (t : M Bool) (b : M Fl) : whileN (n + 1) t b = (t >>= fun c => if c then (b >>= turnS (whileN n t b)) else pure .nx) := rfl
theorem bind_ne_st {α β : Type} {m : M α} {f : α → M β} {δ : En} (h : (m >>= f) δ ≠ .st) : m δ ≠ .st := fun e => h (by rw [bind_eq, e])
theorem whileN_mono (t : M Bool) (b : M Fl) : ∀ (n k : Nat) (δ : En), whileN n t b δ ≠ .st → whileN (n + k) t b δ = whileN n t b δ
  | 0, k, δ, h => absurd rfl h
  | n + 1, k, δ, h => by
    rw [show n + 1 + k = (n + k) + 1 by omega, whileN_succ, whileN_succ]
    rw [whileN_succ] at h
    rw [bind_eq, bind_eq]
    rw [bind_eq] at h
    cases q : t δ with
    | er x δ' => rfl
    | st => rfl
    | ok c δ' =>
      rw [q] at h
      dsimp only at h ⊢
      cases c with
      | false => rfl
      | true =>
        rw [if_pos rfl] at h ⊢
        rw [if_pos rfl]
        rw [bind_eq] at h ⊢
        rw [bind_eq]
        cases q2 : b δ' with
        | er x δ' => rfl
        | st => rfl
        | ok fl δ2 =>
          rw [q2] at h
          dsimp only at h ⊢
          cases fl with
          | nx => exact whileN_mono t b n k δ2 h
          | ct => exact whileN_mono t b n k δ2 h
          | bk => rfl
          | rt d => rfl
open Classical in
noncomputable def whileD (t : M Bool) (b : M Fl) : M Fl := fun δ => if h : ∃ n, whileN n t b δ ≠ .st then whileN h.choose t b δ else .st
theorem whileD_of {t : M Bool} {b : M Fl} {n : Nat} {δ : En} (h : whileN n t b δ ≠ .st) : whileD t b δ = whileN n t b δ := by
  unfold whileD
  have ex : ∃ n, whileN n t b δ ≠ .st := ⟨n, h⟩
  rw [dif_pos ex]
  rcases Nat.le_total n ex.choose with l | l
  · have z := whileN_mono t b n (ex.choose - n) δ h
    rw [show n + (ex.choose - n) = ex.choose by omega] at z
    exact z
  · have z := whileN_mono t b ex.choose (n - ex.choose) δ ex.choose_spec
    rw [show ex.choose + (n - ex.choose) = n by omega] at z
    exact z.symm
/-- one turn -/
theorem whileD_eq (t : M Bool) (b : M Fl) : whileD t b = (t >>= fun c => if c then (b >>= turnS (whileD t b)) else pure .nx) := by
  funext δ
  by_cases ex : ∃ n, whileN n t b δ ≠ .st
  · obtain ⟨n, hn⟩ := ex
    cases n with
    | zero => exact absurd rfl hn
    | succ n =>
      rw [whileD_of hn, whileN_succ]
      rw [whileN_succ] at hn
      rw [bind_eq, bind_eq]
      rw [bind_eq] at hn
      cases q : t δ with
      | er x δ' => rfl
      | st => rfl
      | ok c δ' =>
        rw [q] at hn
        dsimp only at hn ⊢
        cases c with
        | false => rfl
        | true =>
          rw [if_pos rfl] at hn
          rw [if_pos rfl, if_pos rfl]
          rw [bind_eq] at hn ⊢
          rw [bind_eq]
          cases q2 : b δ' with
          | er x δ' => rfl
          | st => rfl
          | ok fl δ2 =>
            rw [q2] at hn
            dsimp only at hn ⊢
            cases fl with
            | nx => exact (whileD_of hn).symm
            | ct => exact (whileD_of hn).symm
            | bk => rfl
            | rt d => rfl
  · have e : whileD t b δ = .st := by unfold whileD; rw [dif_neg ex]
    rw [e]
    apply Classical.byContradiction
    intro hne
    have hne' : (t >>= fun c => if c then (b >>= turnS (whileD t b)) else pure .nx) δ ≠ .st := fun z => hne z.symm
    apply ex
    rw [bind_eq] at hne'
    cases q : t δ with
    | st => rw [q] at hne'; exact absurd rfl hne'
    | er x δ' =>
      refine ⟨1, ?_⟩
      rw [whileN_succ, bind_eq, q]
      exact fun z => by cases z
    | ok c δ' =>
      rw [q] at hne'
      dsimp only at hne'
      cases c with
      | false =>
        refine ⟨1, ?_⟩
        rw [whileN_succ, bind_eq, q]
        exact fun z => by cases z
      | true =>
        rw [if_pos rfl, bind_eq] at hne'
        cases q2 : b δ' with
        | st => rw [q2] at hne'; exact absurd rfl hne'
        | er x δ2 =>
          refine ⟨1, ?_⟩
          rw [whileN_succ, bind_eq, q]
          dsimp only
          rw [if_pos rfl, bind_eq, q2]
          exact fun z => by cases z
        | ok fl δ2 =>
          rw [q2] at hne'
          dsimp only at hne'
          have step : ∀ n, whileN n t b δ2 ≠ .st → ∃ n, whileN (n + 1) t b δ = turnS (whileN n t b) fl δ2 := fun n _ => ⟨n, by
            rw [whileN_succ, bind_eq, q]
            dsimp only
            rw [if_pos rfl, bind_eq, q2]⟩
          have stepAll : ∀ n, whileN (n + 1) t b δ = turnS (whileN n t b) fl δ2 := fun n => by
            rw [whileN_succ, bind_eq, q]
            dsimp only
            rw [if_pos rfl, bind_eq, q2]
          cases fl with
          | bk => exact ⟨1, by rw [stepAll 0]; exact fun z => by cases z⟩
          | rt d => exact ⟨1, by rw [stepAll 0]; exact fun z => by cases z⟩
          | nx =>
            have h2 : whileD t b δ2 ≠ .st := hne'
            unfold whileD at h2
            split at h2
            · rename_i ex2
              obtain ⟨n, hn⟩ := ex2
              exact ⟨n + 1, by rw [stepAll n]; exact hn⟩
            · exact absurd rfl h2
          | ct =>
            have h2 : whileD t b δ2 ≠ .st := hne'
            unfold whileD at h2
            split at h2
            · rename_i ex2
              obtain ⟨n, hn⟩ := ex2
              exact ⟨n + 1, by rw [stepAll n]; exact hn⟩
            · exact absurd rfl h2
theorem ds_while (hp : PassesOwn (model X.prog X.w) X.A X.env X.xe) (hc : DT X W c t) (hb : DSs X W P a sa) : DS X W P (.While c a [] pos) (whileD t sa) := by
  refine PS.weak (ps_while hp hc hb) fun D σ H ⟨I, δ, en, g⟩ => ?_
  have ex : ∃ n, whileN n t sa δ ≠ .st := Classical.byContradiction fun no => by
    unfold GoS at g
    have e : whileD t sa δ = .st := by unfold whileD; rw [dif_neg no]
    rw [e] at g
    exact g
  obtain ⟨n, hn⟩ := ex
  have g0 : GoS X.K W P (whileN n t sa) σ I H δ D := by
    unfold GoS at g ⊢
    rw [whileD_of hn] at g
    exact g
  refine ⟨fun m σ' H' => ∃ I' δ', Env X.K I' H' σ' δ' ∧ GoS X.K W P (whileN m t sa) σ' I' H' δ' D, ⟨n, I, δ, en, g0⟩, ?_⟩
  rintro m σ1 H1 ⟨I1, δ1, en1, g1⟩
  cases m with
  | zero => exact g1.elim
  | succ m =>
    rw [whileN_succ] at g1
    refine goS_bindT en1 g1 fun k I2 H2 δ2 n2 g2 => ?_
    cases k with
    | false =>
      rw [if_neg Bool.false_ne_true]
      rw [if_neg Bool.false_ne_true] at g2
      exact GoS.end_ g2 n2.env
    | true =>
      rw [if_pos rfl]
      rw [if_pos rfl] at g2
      refine ⟨fun σ' H' => ∃ I' δ', Env X.K I' H' σ' δ' ∧ GoS X.K W P (whileN m t sa) σ' I' H' δ' D, fun σ' H' z => ⟨m, Nat.lt_succ_self m, z⟩, I2, δ2, n2.env, ?_⟩
      refine goS_seq g2 fun fl σ3 I3 H3 δ3 n3 g3 => ?_
      cases fl with
      | nx => exact ⟨I3, δ3, n3.env, g3⟩
      | ct => exact ⟨I3, δ3, n3.env, g3⟩
      | bk => exact GoS.end_ (W := W) (P := P) (Dn := D) (fl := .nx) g3 n3.env
      | rt d => exact GoS.end_ (W := W) (P := P) (Dn := D) (fl := .rt d) g3 n3.env
end
end DL
set_option maxHeartbeats 2000000
/-! DL6: for, comprehensions, lists of one's own. -/
namespace DL
open PySem PySem.Spec PyProof.Rows L2
/-! ### what a for walks -/
structure ItD (K : PySem.W.Frag) (I : Hp) (J : It) (ds : List D) : Prop where
  stop : ∀ I' H', Ext I I' → Ext I' H' → J.stop ds.length H'
  go : ∀ i I' H', i < ds.length → Ext I I' → Ext I' H' → J.go i H'
  yld : ∀ i I' H' x H'', Ext I I' → Ext I' H' → i < ds.length → J.yld i H' x H'' → ∃ d, ds[i]? = some d ∧ ((H'' = H' ∧ Rep K I' d x) ∨ ∃ T o, H' T = none ∧ H'' = upd H' T o ∧ Rep K (upd I' T o) d x)
def GoI (K : PySem.W.Frag) (W : WX) (m : M (List D)) (σ : L2.St) (I H : Hp) (δ : En) (R : It → Hp → Prop) : Prop := match m δ with
  | .ok ds δ' => ∀ J I' H', Nxt K σ I H δ I' H' δ' → ItD K I' J ds → R J H'
  | .er x δ' => ∀ cls dd I' H', Nxt K σ I H δ I' H' δ' → ExR K I' H' x cls dd → W cls dd σ H'
  | .st => False
def tI (K : PySem.W.Frag) (W : WX) (m : M (List D)) : TI := fun σ H R => ∃ I δ, Env K I H σ δ ∧ GoI K W m σ I H δ R
abbrev DI (X : Cx) (W : WX) (tg iter : Expr) (m : M (List D)) : Prop := PI X tg iter (tI X.K W m)
theorem PI.weak {X : Cx} {tg it : Expr} {t t' : TI} (h : PI X tg it t) (w : ∀ σ H Q, t' σ H Q → t σ H Q) : PI X tg it t' := ⟨fun pins s σ H Q I q => h.run pins s σ H Q I (w σ H Q q)⟩
section
variable {K : PySem.W.Frag} {W : WX} {σ : L2.St} {I H I1 H1 : Hp} {δ δ1 : En}
theorem GoI.after {α : Type} {m : M α} {f : α → M (List D)} {a : α} {R : It → Hp → Prop} (g : GoI K W (m >>= f) σ I H δ R) (n : Nxt K σ I H δ I1 H1 δ1) (e : m δ = .ok a δ1) : GoI K W (f a) σ I1 H1 δ1 R := by
  unfold GoI at g ⊢
  rw [bind_eq, e] at g
  dsimp only at g
  cases q : f a δ1 with
  | ok d δ2 => rw [q] at g; exact fun v I' H' n' r => g v I' H' (n.trans n') r
  | er x δ2 => rw [q] at g; exact fun c dd I' H' n' r => g c dd I' H' (n.trans n') r
  | st => rw [q] at g; exact g
theorem goI_bind {m : M D} {f : D → M (List D)} {R : It → Hp → Prop} {S : VK} (en : Env K I H σ δ) (g : GoI K W (m >>= f) σ I H δ R)
    (k : ∀ d v I1 H1 δ1, Nxt K σ I H δ I1 H1 δ1 → Rep K I1 d v → GoI K W (f d) σ I1 H1 δ1 R → S v H1) : tD K W m σ H S := by
  refine ⟨I, δ, en, ?_⟩
  have g0 := g
  unfold GoI at g
  unfold Go
  rw [bind_eq] at g
  cases q : m δ with
  | ok d δ1 => exact fun v I' H' n r => k d v I' H' δ1 n r (g0.after n q)
  | er x δ1 => rw [q] at g; exact g
  | st => rw [q] at g; exact g
theorem goI_bindA {m : M (List D)} {f : List D → M (List D)} {R : It → Hp → Prop} {S : List V → Hp → Prop} (en : Env K I H σ δ) (g : GoI K W (m >>= f) σ I H δ R)
    (k : ∀ d v I1 H1 δ1, Nxt K σ I H δ I1 H1 δ1 → Reps K I1 d v → GoI K W (f d) σ I1 H1 δ1 R → S v H1) : tDA K W m σ H S := by
  refine ⟨I, δ, en, ?_⟩
  have g0 := g
  unfold GoI at g
  unfold GoA
  rw [bind_eq] at g
  cases q : m δ with
  | ok d δ1 => exact fun v I' H' n r => k d v I' H' δ1 n r (g0.after n q)
  | er x δ1 => rw [q] at g; exact g
  | st => rw [q] at g; exact g
theorem GoI.guard {b : Bool} {m : M (List D)} {R : It → Hp → Prop} (g : GoI K W (guardM b m) σ I H δ R) : b = true ∧ GoI K W m σ I H δ R := by
  cases b with
  | true => exact ⟨rfl, g⟩
  | false => exact g.elim
theorem GoI.val {ds : List D} {R : It → Hp → Prop} {J : It} (g : GoI K W (pure ds) σ I H δ R) (en : Env K I H σ δ) (t : ItD K I J ds) : R J H := g J I H (.refl en) t
theorem itD_list {a : Addr} {ds : List D} {vs : List V} (h : SqL K I a vs) (r : Reps K I ds vs) : ItD K I (Itl K a) ds where
  stop := fun I' H' e1 e2 => ⟨vs, sqL_ext e2 (sqL_ext e1 h), by rw [r.length]; exact Nat.le_refl _⟩
  go := fun i I' H' hi e1 e2 => by
    rw [r.length] at hi
    exact ⟨vs, vs[i], sqL_ext e2 (sqL_ext e1 h), List.getElem?_eq_some_iff.mpr ⟨hi, rfl⟩⟩
  yld := fun i I' H' x H'' e1 e2 hi y => by
    obtain ⟨e, y⟩ := y
    obtain ⟨d, hd, rd⟩ := r.getV (y vs (sqL_ext e2 (sqL_ext e1 h)))
    exact ⟨d, hd, .inl ⟨e, rd.mono e1⟩⟩
theorem itD_tup {a : Addr} {ds : List D} {vs : List V} (h : SqT K I a vs) (r : Reps K I ds vs) : ItD K I (Itt K a) ds where
  stop := fun I' H' e1 e2 => ⟨vs, sqT_ext e2 (sqT_ext e1 h), by rw [r.length]; exact Nat.le_refl _⟩
  go := fun i I' H' hi e1 e2 => by
    rw [r.length] at hi
    exact ⟨vs, vs[i], sqT_ext e2 (sqT_ext e1 h), List.getElem?_eq_some_iff.mpr ⟨hi, rfl⟩⟩
  yld := fun i I' H' x H'' e1 e2 hi y => by
    obtain ⟨e, y⟩ := y
    obtain ⟨d, hd, rd⟩ := r.getV (y vs (sqT_ext e2 (sqT_ext e1 h)))
    exact ⟨d, hd, .inl ⟨e, rd.mono e1⟩⟩
/-- lo, lo + c, .. -/
def rngD (lo c : Int) (n : Nat) : List D := (List.range n).map fun (k : Nat) => D.int (lo + (k : Int) * c)
theorem rngD_len (lo c : Int) (n : Nat) : (rngD lo c n).length = n := by unfold rngD; simp
theorem rngD_get {lo c : Int} {n i : Nat} (h : i < n) : (rngD lo c n)[i]? = some (.int (lo + (i : Int) * c)) := by
  unfold rngD
  rw [List.getElem?_map, List.getElem?_range h]; rfl
theorem itD_rng {lo : Int} {n : Nat} : ItD K I (Itr lo n) (rngD lo 1 n) where
  stop := fun I' H' e1 e2 => by rw [rngD_len]; exact Nat.le_refl _
  go := fun i I' H' hi e1 e2 => by rw [rngD_len] at hi; exact hi
  yld := fun i I' H' x H'' e1 e2 hi y => by
    rw [rngD_len] at hi
    refine ⟨_, rngD_get hi, .inl ⟨y.1, ?_⟩⟩
    rw [y.2, Int.mul_one]
    exact .int _
theorem itD_rngC {lo c : Int} {n : Nat} : ItD K I (Itc lo c n) (rngD lo c n) where
  stop := fun I' H' e1 e2 => by rw [rngD_len]; exact Nat.le_refl _
  go := fun i I' H' hi e1 e2 => by rw [rngD_len] at hi; exact hi
  yld := fun i I' H' x H'' e1 e2 hi y => by
    rw [rngD_len] at hi
    refine ⟨_, rngD_get hi, .inl ⟨y.1, ?_⟩⟩
    rw [y.2]
    exact .int _
theorem itD_rev {a : Addr} {ds : List D} {vs : List V} (h : SqL K I a vs) (r : Reps K I ds vs) : ItD K I (Itv K a vs.length) ds.reverse where
  stop := fun I' H' e1 e2 => by rw [List.length_reverse, r.length]; exact Nat.le_refl _
  go := fun i I' H' hi e1 e2 => by
    rw [List.length_reverse, r.length] at hi
    exact ⟨hi, vs, vs[vs.length - 1 - i], sqL_ext e2 (sqL_ext e1 h), List.getElem?_eq_some_iff.mpr ⟨by omega, rfl⟩⟩
  yld := fun i I' H' x H'' e1 e2 hi y => by
    rw [List.length_reverse, r.length] at hi
    obtain ⟨e, y⟩ := y
    obtain ⟨d, hd, rd⟩ := r.getV (y vs (sqL_ext e2 (sqL_ext e1 h)))
    refine ⟨d, ?_, .inl ⟨e, rd.mono e1⟩⟩
    rw [List.getElem?_reverse (by rw [r.length]; exact hi), r.length]
    exact hd
def enumD (ds : List D) : List D := (List.range ds.length).map fun (k : Nat) => D.tup [.int (k : Int), ds.getD k .non]
theorem itD_enum {a : Addr} {ds : List D} {vs : List V} (h : SqL K I a vs) (r : Reps K I ds vs) : ItD K I (Ite K a) (enumD ds) where
  stop := fun I' H' e1 e2 => ⟨vs, sqL_ext e2 (sqL_ext e1 h), by unfold enumD; simp [r.length]⟩
  go := fun i I' H' hi e1 e2 => by
    have hi : i < vs.length := by unfold enumD at hi; simpa [r.length] using hi
    exact ⟨vs, vs[i], sqL_ext e2 (sqL_ext e1 h), List.getElem?_eq_some_iff.mpr ⟨hi, rfl⟩⟩
  yld := fun i I' H' x H'' e1 e2 hi y => by
    have hi : i < ds.length := by unfold enumD at hi; simpa using hi
    obtain ⟨T, z, ev, hT, eH, y⟩ := y
    obtain ⟨d, hd, rd⟩ := r.getV (y vs (sqL_ext e2 (sqL_ext e1 h)))
    refine ⟨.tup [.int (i : Int), d], ?_, .inr ⟨T, _, hT, eH, ?_⟩⟩
    · unfold enumD
      rw [List.getElem?_map, List.getElem?_range hi]
      show some (D.tup [.int (i : Int), ds.getD i .non]) = some _
      rw [show ds.getD i .non = d by rw [List.getD_eq_getElem?_getD, hd]; rfl]
    · rw [ev]
      have ei : Ext I' (upd I' T (.tup [.int (i : Nat), z])) := Ext.upd' (e2.back hT)
      exact .tup (SqT.of upd_same) (.cons (.int _) (.cons ((rd.mono e1).mono ei) .nil))
end
def itemsL : D → M (List D)
  | .lst ds => pure ds
  | .scr ns => pure (ns.map D.int)
  | _ => stuck
def itemsT : D → M (List D)
  | .tup ds => pure ds
  | _ => stuck
def revI : D → M (List D)
  | .lst ds => pure ds.reverse
  | _ => stuck
def enumI : D → M (List D)
  | .lst ds => pure (enumD ds)
  | _ => stuck
def overL (m : M D) : M (List D) := m >>= itemsL
def overT (m : M D) : M (List D) := m >>= itemsT
def overR (m : M D) : M (List D) := m >>= revI
def overE (m : M D) : M (List D) := m >>= enumI
def lim62 (i : Int) : Bool := decide (-(2 ^ 62) ≤ i) && decide (i < 2 ^ 62)
theorem lim62_ok {i : Int} (h : lim62 i = true) : -(2 ^ 62) ≤ i ∧ i < 2 ^ 62 := by
  unfold lim62 at h
  rw [Bool.and_eq_true] at h
  exact ⟨of_decide_eq_true h.1, of_decide_eq_true h.2⟩
def rng1 : D → M (List D)
  | .int j => guardM (lim62 j) (pure (rngD 0 1 j.toNat))
  | _ => stuck
def overN (m : M D) : M (List D) := m >>= rng1
/-- reversed(range(n)) -/
def rngR : D → M (List D)
  | .int j => guardM (lim62 j) (pure (rngD ((j.toNat : Int) - 1) (-1) j.toNat))
  | _ => stuck
def overNR (m : M D) : M (List D) := m >>= rngR
section
variable {X : Cx} {W : WX} {P : Nat} {pos p2 p : Pos} {e e2 c tg : Expr} {m mb : M D} {t : M Bool} {st : Stmt} {a b : List Stmt} {sa sb : M Fl}
theorem reps_ints {K : PySem.W.Frag} {I : Hp} : ∀ ns : List Int, Reps K I (ns.map D.int) (ns.map V.int)
  | [] => .nil
  | n :: ns => .cons (.int n) (reps_ints ns)
theorem di_lst (he : DE X W e m) : DI X W tg e (overL m) := by
  refine PI.weak (pi_list he) fun σ H R ⟨I, δ, en, g⟩ => ?_
  refine goI_bind en g fun d v I1 H1 δ1 n1 r1 g1 => ?_
  cases r1 with
  | lst h r => exact ⟨_, rfl, ⟨_, SqL.of (n1.env.ext _ _ h)⟩, g1.val n1.env (itD_list (SqL.of h) r)⟩
  | scr h => exact ⟨_, rfl, ⟨_, sqL_ext n1.env.ext h⟩, g1.val n1.env (itD_list h (reps_ints _))⟩
  | _ => exact g1.elim
theorem di_tup (he : DE X W e m) : DI X W tg e (overT m) := by
  refine PI.weak (pi_tup he) fun σ H R ⟨I, δ, en, g⟩ => ?_
  refine goI_bind en g fun d v I1 H1 δ1 n1 r1 g1 => ?_
  cases r1 with
  | tup h r => exact ⟨_, rfl, ⟨_, sqT_ext n1.env.ext h⟩, g1.val n1.env (itD_tup h r)⟩
  | _ => exact g1.elim
theorem di_rev (hm : X.mg "reversed" = none) (he : DE X W e m) (hg : Gl X "reversed" := by rfl) (hs : starEach (e :: []) X.env = (false, eval e X.env) :: starEach [] X.env := by rfl) (hs2 : starEach [e] X.env = [(false, eval e X.env)] := by rfl) : DI X W tg (.Call (.Name "reversed" p) [e] [] pos) (overR m) := by
  refine PI.weak (pi_reversed hg hm (pa_cons he pa_nil hs) hs2) fun σ H R ⟨I, δ, en, g⟩ => ?_
  refine goI_bind en g fun d v I1 H1 δ1 n1 r1 g1 => ?_
  cases r1 with
  | lst h r => exact ⟨_, _, rfl, SqL.of (n1.env.ext _ _ h), g1.val n1.env (itD_rev (SqL.of h) r)⟩
  | _ => exact g1.elim
theorem di_enum {elts : List Expr} {kk : Nat} {tpos : Pos} (hm : X.mg "enumerate" = none) (he : DE X W e m) (hg : Gl X "enumerate" := by rfl) (hs : starEach (e :: []) X.env = (false, eval e X.env) :: starEach [] X.env := by rfl) (hs2 : starEach [e] X.env = [(false, eval e X.env)] := by rfl) :
    DI X W (.Tuple elts kk tpos) (.Call (.Name "enumerate" p) [e] [] pos) (overE m) := by
  refine PI.weak (pi_enum hg hm (pa_cons he pa_nil hs) hs2) fun σ H R ⟨I, δ, en, g⟩ => ?_
  refine goI_bind en g fun d v I1 H1 δ1 n1 r1 g1 => ?_
  cases r1 with
  | lst h r => exact ⟨_, _, rfl, SqL.of (n1.env.ext _ _ h), g1.val n1.env (itD_enum (SqL.of h) r)⟩
  | _ => exact g1.elim
theorem di_range (hm : X.mg "range" = none) (he : DE X W e m) (hg : Gl X "range" := by rfl) (hs : starEach (e :: []) X.env = (false, eval e X.env) :: starEach [] X.env := by rfl) (hs2 : starEach [e] X.env = [(false, eval e X.env)] := by rfl) : DI X W tg (.Call (.Name "range" p) [e] [] pos) (overN m) := by
  refine PI.weak (pi_range1 hg hm (pa_cons he pa_nil hs) hs2) fun σ H R ⟨I, δ, en, g⟩ => ?_
  refine goI_bind en g fun d v I1 H1 δ1 n1 r1 g1 => ?_
  cases r1 with
  | int j =>
    obtain ⟨c, g1⟩ := GoI.guard g1
    exact ⟨j, rfl, (lim62_ok c).1, (lim62_ok c).2, g1.val n1.env itD_rng⟩
  | _ => exact g1.elim
/-! ### for -/
def forD (st : D → M Fl) (b : M Fl) : List D → M Fl
  | [] => pure .nx
  | d :: ds => st d >>= onlyS >>= thenS (b >>= turnS (forD st b ds))
def forM' (st : D → M Fl) (b : M Fl) (mi : M (List D)) : M Fl := mi >>= forD st b
theorem goS_bindI {K : PySem.W.Frag} {σ : L2.St} {I H : Hp} {δ : En} {mi : M (List D)} {f : List D → M Fl} {Dn : Ends} {R : It → Hp → Prop} (en : Env K I H σ δ) (g : GoS K W P (mi >>= f) σ I H δ Dn)
    (k : ∀ ds J I1 H1 δ1, Nxt K σ I H δ I1 H1 δ1 → ItD K I1 J ds → GoS K W P (f ds) σ I1 H1 δ1 Dn → R J H1) : tI K W mi σ H R := by
  refine ⟨I, δ, en, ?_⟩
  have g0 := g
  unfold GoS at g
  unfold GoI
  rw [bind_eq] at g
  cases q : mi δ with
  | ok d δ1 => exact fun v I' H' n r => k d v I' H' δ1 n r (g0.after n.toS q)
  | er x δ1 => rw [q] at g; exact fun c dd I' H' n r => g c dd σ I' H' n.toS r
  | st => rw [q] at g; exact g
theorem ds_for {mi : M (List D)} {stg : D → M Fl} (hp : PassesOwn (model X.prog X.w) X.A X.env X.xe) (hc : X.calm = true) (hi : DI X W tg e mi) (hg : DG X W P tg stg) (hb : DSs X W P a sa)
    (hs : ∀ x, foldedSetIterable e X.env x = pure x := by intro _; rfl) : DS X W P (.For tg e a [] pos) (forM' stg sa mi) := by
  refine PS.weak (ps_for hp hc hi hg hb hs) fun D σ H ⟨I, δ, en, g⟩ => ?_
  refine goS_bindI en g fun ds J I1 H1 δ1 n1 t1 g1 => ?_
  refine ⟨fun i k σ' H' => k = ds.length - i ∧ i ≤ ds.length ∧ ∃ I' δ', Ext I1 I' ∧ Env X.K I' H' σ' δ' ∧ GoS X.K W P (forD stg sa (ds.drop i)) σ' I' H' δ' D, ⟨_, rfl, Nat.zero_le _, I1, δ1, fun _ _ h => h, n1.env, g1⟩, ?_⟩
  rintro i k σ2 H2 ⟨rfl, hi2, I2, δ2, e2, en2, g2⟩
  by_cases hlt : i < ds.length
  · refine .inr ⟨t1.go i I2 H2 hlt e2 en2.ext, fun σ' H' => i + 1 ≤ ds.length ∧ ∃ I' δ', Ext I1 I' ∧ Env X.K I' H' σ' δ' ∧ GoS X.K W P (forD stg sa (ds.drop (i + 1))) σ' I' H' δ' D, fun σ' H' z => ⟨ds.length - (i + 1), by omega, rfl, z⟩, fun x H3 y => ?_⟩
    obtain ⟨d, hd, z⟩ := t1.yld i I2 H2 x H3 e2 en2.ext hlt y
    have ed : ds.drop i = d :: ds.drop (i + 1) := by
      rw [List.drop_eq_getElem_cons hlt]
      congr 1
      rw [List.getElem?_eq_getElem hlt] at hd
      exact Option.some.inj hd
    rw [ed] at g2
    obtain ⟨I3, n3, r3⟩ : ∃ I3, Nxt X.K σ2 I2 H2 δ2 I3 H3 δ2 ∧ Rep X.K I3 d x := by
      rcases z with ⟨e, r⟩ | ⟨T, o, hT, e, r⟩
      · subst e; exact ⟨I2, .refl en2, r⟩
      · subst e; exact ⟨_, Nxt.alloc en2 hT, r⟩
    have g3 : GoS X.K W P (stg d >>= onlyS >>= thenS (sa >>= turnS (forD stg sa (ds.drop (i + 1))))) σ2 I3 H3 δ2 D := by
      unfold GoS at g2 ⊢
      unfold forD at g2
      cases q : (stg d >>= onlyS >>= thenS (sa >>= turnS (forD stg sa (ds.drop (i + 1))))) δ2 with
      | ok fl δ' => rw [q] at g2; exact fun σ' I' H' n => g2 σ' I' H' (n3.toS.trans n)
      | er x δ' => rw [q] at g2; exact fun c dd σ' I' H' n r => g2 c dd σ' I' H' (n3.toS.trans n) r
      | st => rw [q] at g2; exact g2
    refine ⟨I3, δ2, d, n3.env, r3, goS_only g3 fun σ4 I4 H4 δ4 n4 g4 => ⟨I4, δ4, n4.env, ?_⟩⟩
    refine goS_seq g4 fun fl σ5 I5 H5 δ5 n5 g5 => ?_
    have ee : Ext I1 I5 := fun a o h => n5.post.ext a o (n4.post.ext a o (n3.post.ext a o (e2 a o h)))
    cases fl with
    | nx => exact ⟨hlt, I5, δ5, ee, n5.env, g5⟩
    | ct => exact ⟨hlt, I5, δ5, ee, n5.env, g5⟩
    | bk => exact GoS.end_ (W := W) (P := P) (Dn := D) (fl := .nx) g5 n5.env
    | rt d => exact GoS.end_ (W := W) (P := P) (Dn := D) (fl := .rt d) g5 n5.env
  · have ei : i = ds.length := by omega
    subst ei
    refine .inl ⟨t1.stop I2 H2 e2 en2.ext, ?_⟩
    rw [List.drop_length] at g2
    exact GoS.end_ (W := W) (P := P) (Dn := D) (fl := .nx) g2 en2
/-! ### lists of one's own -/
/-- the slot holds a list of its own -/
def onOw (i : Nat) (f : List D → M Fl) : M Fl := fun δ => match δ[i]? with
  | some (.ow ds) => f ds δ
  | _ => .st
def putO (i : Nat) (es : List D) : M Fl := fun δ => .ok .nx (δ.set i (.ow es))
def pushS (i : Nat) (d : D) : M Fl := onOw i fun ds => guardM (szOk ds.length) (putO i (ds ++ [d]))
def appN (i : Nat) (m : M D) : M Fl := peekV i >>= fun d => itemsL d >>= fun _ => m >>= pushS i
theorem goS_own {K : PySem.W.Frag} {σ : L2.St} {I H : Hp} {δ : En} {i : Nat} {f : List D → M Fl} {Dn : Ends} (en : Env K I H σ δ) (g : GoS K W P (onOw i f) σ I H δ Dn) :
    ∃ ds a vs, δ[i]? = some (.ow ds) ∧ σ[i]? = some (some (.ref a)) ∧ H a = some (.lst vs) ∧ Reps K I ds vs ∧ GoS K W P (f ds) σ I H δ Dn := by
  unfold GoS onOw at g
  cases q : δ[i]? with
  | none => rw [q] at g; exact g.elim
  | some s =>
    rw [q] at g
    cases s with
    | ow ds =>
      obtain ⟨o, ho, r⟩ := en.slot q
      obtain ⟨a, vs, e, n, z, r⟩ := r
      subst e
      exact ⟨ds, a, vs, rfl, ho, z, r, g⟩
    | _ => exact g.elim
theorem GoS.guard {K : PySem.W.Frag} {σ : L2.St} {I H : Hp} {δ : En} {b : Bool} {m : M Fl} {Dn : Ends} (g : GoS K W P (guardM b m) σ I H δ Dn) : b = true ∧ GoS K W P m σ I H δ Dn := by
  cases b with
  | true => exact ⟨rfl, g⟩
  | false => exact g.elim
theorem Env.ow_set {K : PySem.W.Frag} {σ : L2.St} {I H : Hp} {δ : En} {i : Nat} {a : Addr} {ds es : List D} {us : List V} (en : Env K I H σ δ) (hs : δ[i]? = some (.ow ds)) (hv : σ[i]? = some (some (.ref a))) (r : Reps K I es us) :
    Nxt K σ I H δ I (upd H a (.lst us)) (δ.set i (.ow es)) :=
  en.mutate hs trivial trivial hv ⟨a, us, rfl, en.ownI ⟨i, ⟨_, hs, trivial⟩, hv⟩, upd_same, r⟩
theorem lstV {K : PySem.W.Frag} {I H : Hp} {d : D} {v : V} {f : List D → M D} (p : Pk K I H d v) (e : Ext I H) (h : ∀ ds, d = .lst ds → False) : True := trivial
theorem tyV_list {K : PySem.W.Frag} {H : Hp} {a : Addr} {vs : List V} (h : SqL K H a vs) : tyV K "list" (.ref a) H := .inl ⟨rfl, _, h⟩
theorem goS_items {K : PySem.W.Frag} {σ : L2.St} {I H : Hp} {δ : En} {d : D} {v : V} {f : List D → M Fl} {Dn : Ends} (en : Env K I H σ δ) (p : Pk K I H d v) (g : GoS K W P (itemsL d >>= f) σ I H δ Dn) : ∃ ds, tyV K "list" v H ∧ GoS K W P (f ds) σ I H δ Dn := by
  unfold itemsL at g
  split at g
  · obtain ⟨a, vs, rfl, h, r⟩ := p.lst_inv en.ext
    exact ⟨_, tyV_list (SqL.of h), g⟩
  · obtain ⟨a, rfl, h⟩ := p.scr_inv en.ext
    exact ⟨_, tyV_list h, g⟩
  · exact g.elim
theorem ds_app (i : Nat) {x : Str} {px : Pos} {apos : Pos} (he : DE X W e m) (hN : X.N[i]? = some x := by rfl) (hv : Vis X.env.scope x := by first | exact Or.inl rfl | exact Or.inr (Or.inl rfl) | exact Or.inr (Or.inr rfl)) (hd : (x == ("__debug__" : Str)) = false := by decide)
    (hcd : (x == ("__classdict__" : Str)) = false := by decide) (hs : starEach (e :: []) X.env = (false, eval e X.env) :: starEach [] X.env := by rfl) (hbase : attributeBase (.Name x px) "append" X.env (eval (.Name x px) X.env) = eval (.Name x px) X.env := by rfl)
    (hfew : ((backTo p2 (starEach (e :: []) X.env)).all (fun x => !x.1) && (backToKw p2 (keywordEach [] X.env)).all (fun x => x.1.isSome)
      && decide ((e :: ([] : List Expr)).length + ([] : List Keyword).length + (if ([] : List Keyword).isEmpty then 0 else 1) < 30)) = true := by rfl)
    (hline : (apos.endLine == p2.line) = true := by rfl) (hplain : (backTo p2 (starEach [] X.env)).any (·.1) = false := by rfl)
    (hsw : swapsWith (.Call (.Attribute (.Name x px) "append" apos) [e] [] p2) none pos.line X.env = pure false := by rfl) :
    DS X W P (.Expr (.Call (.Attribute (.Name x px) "append" apos) [e] [] p2) pos) (appN i m) := by
  refine PS.weak (ps_expr (pe_bm PySem.F.plainAttrs_list PySem.F.slot_list_append PySem.F.type_list_append mt_append (pv i hN hv hd hcd) (pa_cons he pa_nil hs) hbase hfew hline hs hplain) hsw) fun D σ H ⟨I, δ, en, g⟩ => ?_
  obtain ⟨d0, v, hv0, p0, g⟩ := goS_peekV en g
  obtain ⟨ds0, ht, g⟩ := goS_items en p0 g
  refine ⟨v, hv0, ht, goS_bind en g fun d w I1 H1 δ1 n1 r1 g1 => ?_⟩
  obtain ⟨ds, a, vs, hs1, hv1, hH, r, g2⟩ := goS_own n1.env g1
  rw [hv0] at hv1; cases hv1
  obtain ⟨q, g3⟩ := GoS.guard g2
  exact ⟨a, vs, w, rfl, rfl, hH, by rw [← r.length]; exact szOk_lt q, g3 σ I1 _ (n1.env.ow_set hs1 hv0 (r.append (.cons r1 .nil))).toS⟩
/-- x[k] = e, x a name that holds a list of its own -/
def stoS (i : Nat) (d : D) : D → M Fl
  | .int k => onOw i fun ds => match ixN ds.length k with
    | some j => putO i (ds.set j d)
    | none => stuck
  | _ => stuck
def stoN (i : Nat) (m mk : M D) : M Fl := m >>= fun d => peekV i >>= fun _ => mk >>= stoS i d
theorem ds_sto (i : Nat) {x : Str} {px tp : Pos} (he : DE X W e m) (hk : DE X W e2 mb) (hN : X.N[i]? = some x := by rfl) (hv : Vis X.env.scope x := by first | exact Or.inl rfl | exact Or.inr (Or.inl rfl) | exact Or.inr (Or.inr rfl)) (hd : (x == ("__debug__" : Str)) = false := by decide)
    (hcd : (x == ("__classdict__" : Str)) = false := by decide) (hpg : ∀ {to ti : TE}, PE X (.Name x px) to → PE X e2 ti → PG X (.Subscript (.Name x px) e2 tp) (gSub to ti rSetL) := by intro _ _ h1 h2; exact pg_sub h1 h2 set_list)
    (hs : swapsWithSole [.Subscript (.Name x px) e2 tp] e pos.line X.env = pure false := by rfl) (hw : swappedStores [.Subscript (.Name x px) e2 tp] e X.env = pure none := by rfl) (h1 : (assignEach [.Subscript (.Name x px) e2 tp] X.env).map (·.2) = [assign (.Subscript (.Name x px) e2 tp) X.env] := by rfl) :
    DS X W P (.Assign [.Subscript (.Name x px) e2 tp] e pos) (stoN i m mb) := by
  refine PS.weak (ps_asg he (hpg (pv i hN hv hd hcd) hk) hs hw h1) fun D σ H ⟨I, δ, en, g⟩ => ?_
  refine goS_bind en g fun d w I1 H1 δ1 n1 r1 g1 => ?_
  obtain ⟨d0, v, hv0, p0, g1⟩ := goS_peekV n1.env g1
  refine ⟨v, hv0, goS_bind n1.env g1 fun k kv I2 H2 δ2 n2 r2 g2 => ?_⟩
  cases r2 with
  | int k =>
    obtain ⟨ds, a, vs, hs1, hv1, hH, r, g3⟩ := goS_own n2.env g2
    rw [hv0] at hv1; cases hv1
    cases q : ixN ds.length k with
    | none => rw [q] at g3; exact g3.elim
    | some j =>
      rw [q] at g3
      exact ⟨a, vs, k, j, rfl, rfl, hH, by rw [← r.length]; exact q, g3 σ I2 _ (n2.env.ow_set hs1 hv0 (r.set (r1.mono n2.post.ext) j)).toS⟩
  | _ => exact g2.elim
end
end DL
set_option maxHeartbeats 2000000
/-! DL7: functions and calls. -/
namespace DL
open PySem PySem.Spec PyProof.Rows L2
/-- a function over slots; the slots told are those of the parameters that it may change -/
abbrev MF := List Sl → Rs D
def ownB : Sl → Bool
  | .ow _ => true
  | .ob _ _ => true
  | _ => false
theorem ownB_own {s : Sl} (h : ownB s = true) : s.own := by cases s <;> first | exact trivial | cases h
def vas (ds : List D) : List Sl := ds.map Sl.va
def padS (ps : En) (n : Nat) : En := ps ++ List.replicate (n - ps.length) .un
/-- a def's body: N names, n parameters, the first P its own -/
def finB (P : Nat) : Rs Fl → Rs D
  | .ok .nx δ => .ok .non (δ.take P)
  | .ok (.rt d) δ => .ok d (δ.take P)
  | .er x δ => .er x (δ.take P)
  | _ => .st
def runB (N n P : Nat) (b : M Fl) : MF := fun ps => if decide (ps.length = n) && (decide (P ≤ n) && (ps.take P).all ownB) then finB P (b (padS ps N)) else .st
structure NxtC (K : PySem.W.Frag) (vs : List V) (I H : Hp) (ps : En) (I' H' : Hp) (ps' : En) : Prop where
  le : ps'.length ≤ vs.length
  env : Env K I' H' ((vs.map some).take ps'.length) ps'
  post : Post I H I' H' (Own ps (vs.map some))
  own : ∀ i a, OwnAt ps' ((vs.map some).take ps'.length) i a → OwnAt ps (vs.map some) i a
def GoC (K : PySem.W.Frag) (r : Rs D) (vs : List V) (I H : Hp) (ps : En) (Q : VK) (E : XK) : Prop := match r with
  | .ok d ps' => ∀ v I' H', NxtC K vs I H ps I' H' ps' → Rep K I' d v → Q v H'
  | .er x ps' => ∀ cls dd I' H', NxtC K vs I H ps I' H' ps' → ExR K I' H' x cls dd → E cls dd H'
  | .st => False
def spD (K : PySem.W.Frag) (f : MF) : Sp := fun vs H Q E => ∃ I ps, Env K I H (vs.map some) ps ∧ GoC K (f ps) vs I H ps Q E
section
variable {K : PySem.W.Frag} {I H : Hp} {vs : List V} {ps : En} {N n P : Nat} {b : M Fl} {Q : VK} {E : XK}
theorem spD_len {vs : List V} (h : spD K (runB N n P b) vs H Q E) : vs.length = n := by
  obtain ⟨I, ps, en, g⟩ := h
  unfold runB at g
  by_cases e : ps.length = n
  · rw [← e, ← en.len, List.length_map]
  · rw [decide_eq_false e, Bool.false_and, if_neg Bool.false_ne_true] at g
    exact g.elim
theorem ownAt_pad {σ : L2.St} {i : Nat} {a : Addr} {N : Nat} (hl : σ.length = ps.length) (h : OwnAt (padS ps N) (σ ++ List.replicate (N - σ.length) none) i a) : OwnAt ps σ i a := by
  obtain ⟨⟨s, hs, ho⟩, hv⟩ := h
  by_cases q : i < ps.length
  · unfold padS at hs
    rw [List.getElem?_append_left q] at hs
    rw [List.getElem?_append_left (by omega)] at hv
    exact ⟨⟨s, hs, ho⟩, hv⟩
  · rw [List.getElem?_append_right (by omega), List.getElem?_replicate] at hv
    split at hv <;> cases hv
theorem env_pad {σ : L2.St} (en : Env K I H σ ps) (N : Nat) : Env K I H (σ ++ List.replicate (N - σ.length) none) (padS ps N) where
  ext := en.ext
  len := by unfold padS; rw [List.length_append, List.length_append, List.length_replicate, List.length_replicate, en.len]
  at_ := fun i s o h1 h2 => by
    unfold padS at h1
    by_cases q : i < ps.length
    · rw [List.getElem?_append_left q] at h1
      rw [List.getElem?_append_left (by rw [en.len]; exact q)] at h2
      exact en.at_ i s o h1 h2
    · rw [List.getElem?_append_right (by omega), List.getElem?_replicate] at h1
      split at h1
      · cases h1; exact trivial
      · cases h1
  one := fun i j a h1 h2 => en.one i j a (ownAt_pad en.len h1) (ownAt_pad en.len h2)
theorem take_get {α : Type} {l : List α} {n i : Nat} {x : α} (h : (l.take n)[i]? = some x) : i < n ∧ l[i]? = some x := by
  rw [List.getElem?_take] at h
  split at h
  · exact ⟨by assumption, h⟩
  · cases h
/-- what a body's end tells the caller -/
theorem nxtC_of {σ' : L2.St} {I' H' : Hp} {δ' : En} (en : Env K I H (vs.map some) ps) (hn : ps.length = n) (hP : P ≤ n) (hN : n ≤ N) (ho : (ps.take P).all ownB = true)
    (x : NxtS K P (L2.start (List.replicate N ("" : Str)) vs) I H (padS ps N) σ' I' H' δ') : NxtC K vs I H ps I' H' (δ'.take P) := by
  have hl : vs.length = n := by rw [← hn, ← en.len, List.length_map]
  have hst : L2.start (List.replicate N ("" : Str)) vs = vs.map some ++ List.replicate (N - (vs.map some).length) none := by
    unfold L2.start; rw [List.length_replicate, List.length_map]
  have hlen : (L2.start (List.replicate N ("" : Str)) vs).length = N := by
    rw [hst, List.length_append, List.length_replicate, List.length_map]; omega
  have hσ : ∀ i, i < P → σ'[i]? = (vs.map some)[i]? := fun i hi => by
    rw [x.stay i hi, hst, List.getElem?_append_left (by rw [List.length_map]; omega)]
  have lP : P ≤ δ'.length := by
    rw [← x.env.len]
    apply Classical.byContradiction
    intro no
    have h1 := hσ σ'.length (by omega)
    rw [List.getElem?_eq_none (Nat.le_refl _)] at h1
    have h2 : (vs.map some)[σ'.length]? ≠ none := by
      rw [Ne, List.getElem?_eq_none_iff, List.length_map]; omega
    exact h2 h1.symm
  have tl : (δ'.take P).length = P := by rw [List.length_take]; omega
  have back : ∀ i a, OwnAt (δ'.take P) ((vs.map some).take P) i a → OwnAt δ' σ' i a ∧ OwnAt ps (vs.map some) i a := fun i a ⟨⟨s, hs, hso⟩, hv⟩ => by
    obtain ⟨h1, h2⟩ := take_get hs
    obtain ⟨_, h3⟩ := take_get hv
    refine ⟨⟨⟨s, h2, hso⟩, by rw [hσ i h1]; exact h3⟩, ?_, h3⟩
    have h4 : i < ps.length := by omega
    refine ⟨ps[i], List.getElem?_eq_some_iff.mpr ⟨h4, rfl⟩, ?_⟩
    refine ownB_own (List.all_eq_true.mp ho _ ?_)
    exact List.mem_of_getElem? (i := i) (by rw [List.getElem?_take, if_pos h1]; exact List.getElem?_eq_some_iff.mpr ⟨h4, rfl⟩)
  have po : ∀ a, Own (padS ps N) (L2.start (List.replicate N ("" : Str)) vs) a → Own ps (vs.map some) a := fun a ⟨i, h⟩ => ⟨i, by
    rw [hst] at h
    exact ownAt_pad en.len h⟩
  have op : ∀ a, Own ps (vs.map some) a → Own (padS ps N) (L2.start (List.replicate N ("" : Str)) vs) a := fun a ⟨i, ⟨s, hs, hso⟩, hv⟩ => ⟨i, ⟨s, by
    unfold padS
    rw [List.getElem?_append_left (List.getElem?_eq_some_iff.mp hs).1]; exact hs, hso⟩, by
    rw [hst, List.getElem?_append_left (List.getElem?_eq_some_iff.mp hv).1]; exact hv⟩
  refine ⟨by rw [tl]; omega, ?_, ⟨x.post.ext, fun a o e z => (x.post.fresh a o e z).imp id (po a), fun a o e z => x.post.keep a o e fun w => z (po a w), x.post.dom⟩, fun i a h => ?_⟩
  · rw [tl]
    refine ⟨x.env.ext, by rw [tl, List.length_take, List.length_map]; omega, fun i s o h1 h2 => ?_, fun i j a h1 h2 => x.env.one i j a (back i a h1).1 (back j a h2).1⟩
    obtain ⟨h3, h4⟩ := take_get h1
    obtain ⟨_, h5⟩ := take_get h2
    exact x.env.at_ i s o h4 (by rw [hσ i h3]; exact h5)
  · rw [tl] at h
    exact (back i a h).2
theorem tDS_body {Nm : List Str} (h : spD K (runB Nm.length n P b) vs H Q E) (hN : n ≤ Nm.length) : tDS K (fun cls dd _ H => E cls dd H) P b { nx := fun _ H' => Q .non H', rt := Q } (L2.start Nm vs) H := by
  have hl := spD_len h
  obtain ⟨I, ps, en, g⟩ := h
  unfold runB at g
  by_cases c : (decide (ps.length = n) && (decide (P ≤ n) && (ps.take P).all ownB)) = true
  · rw [if_pos c] at g
    rw [Bool.and_eq_true, Bool.and_eq_true] at c
    obtain ⟨c1, c2, c3⟩ := c
    have c1 := of_decide_eq_true c1
    have c2 := of_decide_eq_true c2
    have hs : L2.start Nm vs = L2.start (List.replicate Nm.length ("" : Str)) vs := by unfold L2.start; rw [List.length_replicate]
    rw [hs]
    refine ⟨I, padS ps Nm.length, ?_, ?_⟩
    · have z := env_pad en Nm.length
      unfold L2.start
      rw [List.length_map] at z
      rw [List.length_replicate]
      exact z
    · unfold GoS
      unfold finB at g
      cases q : b (padS ps Nm.length) with
      | st => rw [q] at g; exact g
      | er x δ' =>
        rw [q] at g
        exact fun cls dd σ' I' H' n' r => g cls dd I' H' (nxtC_of en c1 c2 hN c3 n') r
      | ok fl δ' =>
        rw [q] at g
        cases fl with
        | nx => exact fun σ' I' H' n' => g .non I' H' (nxtC_of en c1 c2 hN c3 n') .non
        | rt d => exact fun σ' I' H' n' v r => g v I' H' (nxtC_of en c1 c2 hN c3 n') r
        | bk => exact g.elim
        | ct => exact g.elim
  · rw [if_neg c] at g
    exact g.elim
end
/-- the facts of a place -/
structure Ctx (X : Cx) (W : WX) (k : Nat) : Prop where
  room : Room k X.A
  tk : L2.Takes X W
  calm : X.calm = true
  hp : PassesOwn (model X.prog X.w) X.A X.env X.xe
  nd : X.N.Nodup
/-- a def by its body -/
theorem fn_def {P : Program} {w : World} {K : PySem.W.Frag} {mg : Str → Option Value} {base : Heap} {x qual : Str} {params : Arguments} {body : List Stmt} {scope : Scope} {dvs : List V} {kws : List (Str × V)} {f : Addr} {fd : FuncData} {N ps : List Str} {k Pn : Nat} {b : M Fl}
    (F : FunD K x qual params body scope dvs kws f fd) (S : FnScope N ps scope) (hN : ps.length ≤ N.length)
    (hb : ∀ (cdv : Value) (A : Around) (outer : List PySem.Env) (s : Shared) (H : Hp) (E : XK), Ctx (cxOf (L2.CX P w) P w K mg base N qual scope f cdv A outer s H E) (fun cls dd _ H => E cls dd H) k →
      DSs (cxOf (L2.CX P w) P w K mg base N qual scope f cdv A outer s H E) (fun cls dd _ H => E cls dd H) Pn body b) :
    FnOk P w K mg base (L2.CX P w) (k + 1) f fd ps (spD K (runB N.length ps.length Pn b)) := by
  refine F.ok S (fun vs H Q E h => spD_len h) fun cdv A outer s H vs Q E hr h => ⟨_, hb cdv A outer s H E ⟨hr, takes_of rfl rfl rfl rfl, rfl, ?_, S.nd⟩, tDS_body h hN⟩
  exact passes_of (X := cxOf (L2.CX P w) P w K mg base N qual scope f cdv A outer s H E) (K := fun e s'' => L2.CX P w outer H s E e s'') (E₁ := fun e' s'' => L2.CX P w outer H s E e' s'') rfl
end DL
set_option maxHeartbeats 2000000
/-! DL8: calls. -/
namespace DL
open PySem PySem.Spec PyProof.Rows L2
abbrev FnC (X : Cx) (k : Nat) (f : Addr) (m : MF) : Prop := FnR X.prog X.w X.K X.mg X.base (L2.CX X.prog X.w) k f (spD X.K m)
/-- the same told of a program, a world, .. -/
abbrev FnG (P : Program) (w : World) (K : PySem.W.Frag) (mg : Str → Option Value) (base : Heap) (k : Nat) (f : Addr) (m : MF) : Prop := FnR P w K mg base (L2.CX P w) k f (spD K m)
section
variable {K : PySem.W.Frag} {W : WX} {P : Nat} {σ σ1 : L2.St} {I H I1 H1 I' H' : Hp} {δ δ1 : En}
theorem vas_get {ds : List D} {i : Nat} {s : Sl} (h : (vas ds)[i]? = some s) : ∃ d, ds[i]? = some d ∧ s = .va d := by
  unfold vas at h
  rw [List.getElem?_map] at h
  cases q : ds[i]? with
  | none => rw [q] at h; cases h
  | some d => rw [q] at h; cases h; exact ⟨d, rfl, rfl⟩
theorem env_vals {ds : List D} {vs : List V} (e : Ext I H) (r : Reps K I ds vs) : Env K I H (vs.map some) (vas ds) where
  ext := e
  len := by unfold vas; rw [List.length_map, List.length_map, r.length]
  at_ := fun i s o h1 h2 => by
    obtain ⟨d, hd, rfl⟩ := vas_get h1
    rw [List.getElem?_map] at h2
    obtain ⟨v, hv, rv⟩ := r.get hd
    rw [hv] at h2; cases h2
    exact ⟨v, rfl, rv⟩
  one := fun i j a ⟨⟨s, hs, ho⟩, _⟩ _ => by
    obtain ⟨d, _, rfl⟩ := vas_get hs
    exact ho.elim
theorem own_vals {ds : List D} {τ : L2.St} {a : Addr} (h : Own (vas ds) τ a) : False := by
  obtain ⟨i, ⟨s, hs, ho⟩, _⟩ := h
  obtain ⟨d, _, rfl⟩ := vas_get hs
  exact ho
/-- a slot stays -/
theorem SlRep.stay {s : Sl} {o : Option V} (r : SlRep K I H s o) (ei : Ext I I') (hk : ∀ a, s.own → o = some (.ref a) → ∀ u, H a = some u → I' a = none ∧ H' a = some u) : SlRep K I' H' s o := by
  cases s with
  | un => exact trivial
  | xc a' dd x => exact ⟨r.1, r.2.mono ei⟩
  | va d => obtain ⟨v, e, r⟩ := r; exact ⟨v, e, r.mono ei⟩
  | ow ds =>
    obtain ⟨a, vs, e, n, z, r⟩ := r
    obtain ⟨k1, k2⟩ := hk a trivial e _ z
    exact ⟨a, vs, e, k1, k2, r.mono ei⟩
  | ob c fs =>
    obtain ⟨a, dx, gs, e, n, z, r⟩ := r
    obtain ⟨k1, k2⟩ := hk a trivial e _ z
    exact ⟨a, dx, gs, e, k1, k2, r.mono ei⟩
theorem Post.kept {O : Addr → Prop} (p : Post I H I' H' O) {a : Addr} {u : HO} (hI : I a = none) (hH : H a = some u) (no : ¬ O a) : I' a = none ∧ H' a = some u := by
  refine ⟨?_, p.keep a u hH no⟩
  cases q : I' a with
  | none => rfl
  | some o =>
    rcases p.fresh a o q hI with z | z
    · rw [z] at hH; cases hH
    · exact absurd z no
theorem Nxt.ofVals (en : Env K I H σ δ) {vs : List V} {ds : List D} {ps' : En} (n : NxtC K vs I H (vas ds) I' H' ps') : Nxt K σ I H δ I' H' δ where
  env := ⟨n.env.ext, en.len, fun i s o h1 h2 => (en.at_ i s o h1 h2).stay n.post.ext fun a ho e u hu => n.post.kept (en.ownI ⟨i, ⟨s, h1, ho⟩, by rw [h2, e]⟩) hu fun z => own_vals z, en.one⟩
  post := ⟨n.post.ext, fun a o e z => (n.post.fresh a o e z).imp id fun w => (own_vals w).elim, fun a o e _ => n.post.keep a o e fun w => own_vals w, n.post.dom⟩
  own := fun _ h => h
/-- the first is its own -/
theorem env_first {s : Sl} {a : Addr} {ds : List D} {vs : List V} (e : Ext I H) (hs : SlRep K I H s (some (.ref a))) (r : Reps K I ds vs) : Env K I H ((V.ref a :: vs).map some) (s :: vas ds) where
  ext := e
  len := by unfold vas; rw [List.length_map, List.length_cons, List.length_cons, List.length_map, r.length]
  at_ := fun i t o h1 h2 => by
    cases i with
    | zero => cases h1; cases h2; exact hs
    | succ i => exact (env_vals e r).at_ i t o h1 h2
  one := fun i j b ⟨⟨s1, h1, o1⟩, _⟩ ⟨⟨s2, h2, o2⟩, _⟩ => by
    cases i with
    | zero =>
      cases j with
      | zero => rfl
      | succ j => obtain ⟨d, _, rfl⟩ := vas_get (show (vas ds)[j]? = some s2 from h2); exact o2.elim
    | succ i => obtain ⟨d, _, rfl⟩ := vas_get (show (vas ds)[i]? = some s1 from h1); exact o1.elim
theorem own_first {s : Sl} {a b : Addr} {ds : List D} {vs : List V} (h : Own (s :: vas ds) ((V.ref a :: vs).map some) b) : b = a ∧ s.own := by
  obtain ⟨i, ⟨t, ht, ho⟩, hv⟩ := h
  cases i with
  | zero => cases ht; cases hv; exact ⟨rfl, ho⟩
  | succ i => obtain ⟨d, _, rfl⟩ := vas_get (show (vas ds)[i]? = some t from ht); exact ho.elim
theorem Nxt.ofFirst (en : Env K I H σ δ) {i : Nat} {s s' : Sl} {a : Addr} {vs : List V} {ds : List D} (hs : δ[i]? = some s) (ho : s.own) (hv : σ[i]? = some (some (.ref a))) (n : NxtC K (V.ref a :: vs) I H (s :: vas ds) I' H' [s']) : Nxt K σ I H δ I' H' (δ.set i s') := by
  have oa : OwnAt δ σ i a := ⟨⟨s, hs, ho⟩, hv⟩
  have back : ∀ j b, OwnAt (δ.set i s') σ j b → OwnAt δ σ j b := fun j b ⟨⟨t, ht, hto⟩, hb⟩ => by
    rcases set_at ht with ⟨e, q⟩ | ⟨ne, q⟩
    · subst e; exact ⟨⟨s, hs, ho⟩, hb⟩
    · exact ⟨⟨t, q, hto⟩, hb⟩
  refine ⟨⟨n.env.ext, by rw [List.length_set]; exact en.len, fun j t o h1 h2 => ?_, fun j k b h1 h2 => en.one j k b (back j b h1) (back k b h2)⟩,
    ⟨n.post.ext, fun b o e z => (n.post.fresh b o e z).imp id fun w => (by rw [(own_first w).1]; exact ⟨i, oa⟩), fun b o e z => n.post.keep b o e fun w => z (by rw [(own_first w).1]; exact ⟨i, oa⟩), n.post.dom⟩,
    fun b ⟨j, h⟩ => ⟨j, back j b h⟩⟩
  rcases set_at h1 with ⟨e, q⟩ | ⟨ne, q⟩
  · subst e; subst q
    rw [hv] at h2; cases h2
    exact n.env.at_ 0 _ _ rfl rfl
  · refine (en.at_ j t o q h2).stay n.post.ext fun b hto e u hu => n.post.kept (en.ownI ⟨j, ⟨t, q, hto⟩, by rw [h2, e]⟩) hu fun w => ?_
    have eb := (own_first w).1
    subst eb
    exact ne (en.one j i b ⟨⟨t, q, hto⟩, by rw [h2, e]⟩ oa)
end
/-! ### the callee runs -/
theorem run_C {X : Cx} {W : WX} {k kf : Nat} {f : Addr} {sp : Sp} {pins : List (Addr × Obj)} {σ : L2.St} {H : Hp} {s : Shared} {Q : VK} {us : List Value} {vs : List V} (c : Ctx X W k) (F : FnR X.prog X.w X.K X.mg X.base (L2.CX X.prog X.w) kf f sp) (hk : kf ≤ k)
    (I : Inv X pins σ H s) (r : Vals vs us) (h : sp vs H Q (WE W σ)) :
    codeAny (model X.prog X.w) X.A (.call (.ref f) ⟨us, []⟩) (fun r s' => match r with | .ok (.ret v) => EP X pins σ Q v s' | .ok _ => False | .error e => X.xe e s') s := by
  refine codeAny_mono (F X.A X.stack s H us vs Q (WE W σ) (c.room.mono hk) I.env0 r h) fun r s' hq => ?_
  cases r with
  | error e => exact passAt c.tk σ pins H s e s' I hq
  | ok fl =>
    cases fl with
    | ret u => exact I.after hq
    | next => exact False.elim hq
    | brk => exact False.elim hq
    | cont => exact False.elim hq
/-- a call by values -/
def outV : Rs D → M D
  | .ok d [] => fun δ => .ok d δ
  | .er x [] => fun δ => .er x δ
  | _ => stuck
def appV (m : MF) (ds : List D) : M D := outV (m (vas ds))
def callV (m : MF) (ma : M (List D)) : M D := ma >>= appV m
def outO (i : Nat) : Rs D → M D
  | .ok d [s'] => fun δ => .ok d (δ.set i s')
  | .er x [s'] => fun δ => .er x (δ.set i s')
  | _ => stuck
/-- a call, the first argument the slot i, its own -/
def appO (m : MF) (i : Nat) (ds : List D) : M D := fun δ => match δ[i]? with
  | some s => if ownB s then outO i (m (s :: vas ds)) δ else .st
  | none => .st
def callO (m : MF) (i : Nat) (ma : M (List D)) : M D := peekV i >>= fun _ => ma >>= appO m i
section
variable {K : PySem.W.Frag} {W : WX} {σ : L2.St} {I H : Hp} {δ : En}
theorem go_appV {m : MF} {ds : List D} {vs : List V} {Q : VK} (en : Env K I H σ δ) (r : Reps K I ds vs) (g : Go K W (appV m ds) σ I H δ Q) : spD K m vs H Q (WE W σ) := by
  refine ⟨I, vas ds, env_vals en.ext r, ?_⟩
  unfold Go appV outV at g
  unfold GoC
  cases q : m (vas ds) with
  | st => rw [q] at g; exact g
  | ok d ps' =>
    rw [q] at g
    cases ps' with
    | nil => exact fun v I' H' n rv => g v I' H' (.ofVals en n) rv
    | cons _ _ => exact g.elim
  | er x ps' =>
    rw [q] at g
    cases ps' with
    | nil => exact fun cls dd I' H' n rv => g cls dd I' H' (.ofVals en n) rv
    | cons _ _ => exact g.elim
theorem go_appO {m : MF} {i : Nat} {ds : List D} {vs : List V} {v : V} {Q : VK} (en : Env K I H σ δ) (hv : σ[i]? = some (some v)) (r : Reps K I ds vs) (g : Go K W (appO m i ds) σ I H δ Q) : spD K m (v :: vs) H Q (WE W σ) := by
  unfold Go appO at g
  cases q : δ[i]? with
  | none => rw [q] at g; exact g.elim
  | some s =>
    rw [q] at g
    dsimp only at g
    cases ho : ownB s with
    | false => rw [ho, if_neg Bool.false_ne_true] at g; exact g.elim
    | true =>
      rw [ho, if_pos rfl] at g
      have hown := ownB_own ho
      have rs := en.at_ i s _ q hv
      obtain ⟨a, rfl⟩ : ∃ a, v = .ref a := by
        cases s with
        | un => exact hown.elim
        | xc _ _ _ => exact hown.elim
        | va _ => exact hown.elim
        | ow _ => obtain ⟨a, vs, e, _⟩ := rs; cases e; exact ⟨a, rfl⟩
        | ob _ _ => obtain ⟨a, dx, gs, e, _⟩ := rs; cases e; exact ⟨a, rfl⟩
      refine ⟨I, s :: vas ds, env_first en.ext rs r, ?_⟩
      unfold outO at g
      unfold GoC
      cases q2 : m (s :: vas ds) with
      | st => rw [q2] at g; exact g
      | ok d ps' =>
        rw [q2] at g
        match ps', g with
        | [s'], g => exact fun v I' H' n rv => g v I' H' (.ofFirst en q hown hv n) rv
        | [], g => exact g.elim
        | _ :: _ :: _, g => exact g.elim
      | er x ps' =>
        rw [q2] at g
        match ps', g with
        | [s'], g => exact fun cls dd I' H' n rv => g cls dd I' H' (.ofFirst en q hown hv n) rv
        | [], g => exact g.elim
        | _ :: _ :: _, g => exact g.elim
end
section
variable {X : Cx} {W : WX} {k kf : Nat} {f : Addr} {m : MF} {x : Str} {p pos apos : Pos} {e o : Expr} {es : List Expr} {ma : M (List D)} {mo : M D}
theorem d_call (c : Ctx X W k) (F : FnC X kf f m) (hm : X.mg x = some (.ref f)) (hkp : PySem.W.keepIn X.K (.ref f) = true) (ha : DA X W (e :: es) ma) (hk : kf ≤ k := by decide) (hg : Gl X x := by rfl) (hdb : (x == ("__debug__" : Str)) = false := by decide)
    (he : starEach (e :: es) X.env = (false, eval e X.env) :: starEach es X.env := by rfl) (hpl : (backTo pos (starEach es X.env)).any (·.1) = false := by rfl) :
    DE X W (.Call (.Name x p) (e :: es) [] pos) (callV m ma) := by
  refine ⟨fun pins s σ H Q I ⟨Ik, δ, en, g⟩ => ?_⟩
  refine wpAny_Call_Name_kw (ld_glob I hg hm ?_ hdb)
  refine PySem.W.callWith_K (h₀ := X.base) I.ok.mod.kin hkp (thn (ha.run pos pins s σ H _ I (go_bindA en g fun ds vs I1 H1 δ1 n1 r1 g1 => go_appV n1.env r1 g1)) fun us s1 ⟨vs, H1, I1, r, q⟩ => ⟨I1.kIn, ?_⟩) he hpl
  exact wpAny_call (run_C c F hk I1 r q)
theorem d_call0 (c : Ctx X W k) (F : FnC X kf f m) (hm : X.mg x = some (.ref f)) (hkp : PySem.W.keepIn X.K (.ref f) = true) (hk : kf ≤ k := by decide) (hg : Gl X x := by rfl) (hdb : (x == ("__debug__" : Str)) = false := by decide) :
    DE X W (.Call (.Name x p) [] [] pos) (appV m []) := by
  refine ⟨fun pins s σ H Q I ⟨Ik, δ, en, g⟩ => ?_⟩
  refine wpAny_Call_Name_kw (ld_glob I hg hm ?_ hdb)
  exact PySem.W.callWith_K0 I.kIn hkp (wpAny_call (run_C (us := []) c F hk I .nil (go_appV en .nil g)))
/-- f(x, ..), the first argument a name whose slot is its own and may change -/
theorem d_callO (i : Nat) {y : Str} {py : Pos} (c : Ctx X W k) (F : FnC X kf f m) (hm : X.mg x = some (.ref f)) (hkp : PySem.W.keepIn X.K (.ref f) = true) (ha : DA X W es ma) (hk : kf ≤ k := by decide) (hg : Gl X x := by rfl) (hdb : (x == ("__debug__" : Str)) = false := by decide)
    (hN : X.N[i]? = some y := by rfl) (hv : Vis X.env.scope y := by first | exact Or.inl rfl | exact Or.inr (Or.inl rfl) | exact Or.inr (Or.inr rfl)) (hd : (y == ("__debug__" : Str)) = false := by decide) (hcd : (y == ("__classdict__" : Str)) = false := by decide)
    (he : starEach (.Name y py :: es) X.env = (false, eval (.Name y py) X.env) :: starEach es X.env := by rfl) (hpl : (backTo pos (starEach es X.env)).any (·.1) = false := by rfl) :
    DE X W (.Call (.Name x p) (.Name y py :: es) [] pos) (callO m i ma) := by
  have hA : PA X (.Name y py :: es) (tCons (tVar i) (tDA X.K W ma)) := pa_cons (pv i hN hv hd hcd) ha he
  refine ⟨fun pins s σ H Q I ⟨Ik, δ, en, g⟩ => ?_⟩
  refine wpAny_Call_Name_kw (ld_glob I hg hm ?_ hdb)
  obtain ⟨d0, v, hv0, p0, g⟩ := go_peekV en g
  refine PySem.W.callWith_K (h₀ := X.base) I.ok.mod.kin hkp (thn (hA.run pos pins s σ H (fun vs H1 => spD X.K m vs H1 Q (WE W σ)) I ⟨v, hv0, go_bindA en g fun ds vs I1 H1 δ1 n1 r1 g1 => go_appO n1.env hv0 r1 g1⟩) fun us s1 ⟨vs, H1, I1, r, q⟩ => ⟨I1.kIn, ?_⟩) he hpl
  exact wpAny_call (run_C c F hk I1 r q)
end
/-! ### methods -/
/-- o.m(..), o an instance of C -/
def isObj (C : Str) (nm : Str) : D → Bool
  | .obj c fs => decide (c = C) && (fs.lookup nm).isNone
  | _ => false
def methV (C nm : Str) (m : MF) (mo : M D) (ma : M (List D)) : M D := mo >>= fun d => guardM (isObj C nm d) (ma >>= fun ds => appV m (d :: ds))
theorem isObj_rep {K : PySem.W.Frag} {I : Hp} {C nm : Str} {d : D} {v : V} (h : isObj C nm d = true) (r : Rep K I d v) : ∃ a dx gs, v = .ref a ∧ I a = some (.ins (ga K C) dx gs) ∧ gs.lookup nm = none := by
  cases r with
  | obj hI rf =>
    unfold isObj at h
    rw [Bool.and_eq_true] at h
    have e := of_decide_eq_true h.1
    subst e
    exact ⟨_, _, _, rfl, hI, rf.lookup_none (Option.isNone_iff_eq_none.mp h.2)⟩
  | _ => cases h
section
variable {X : Cx} {W : WX} {k kf : Nat} {f : Addr} {m : MF} {C nm : Str} {pos apos : Pos} {e o : Expr} {es : List Expr} {ma : M (List D)} {mo : M D}
theorem d_meth {pl : Sem Bool} (c : Ctx X W k) (F : FnC X kf f m) (cl : Cls X.K (ga X.K C)) (hm : Meth X.K (ga X.K C) nm f) (ho : DE X W o mo) (ha : DA X W (e :: es) ma) (hk : kf ≤ k := by decide)
    (he : starEach (e :: es) X.env = (false, eval e X.env) :: starEach es X.env := by rfl) (hpl : (backTo pos (starEach es X.env)).any (·.1) = false := by rfl)
    (ht : eval (.Call (.Attribute o nm apos) (e :: es) [] pos) X.env = (do
      let ov ← eval o X.env
      standAt apos.atName
      let (f, first) ← holding [ov] (getMethod ov nm pl)
      callWith pos f first (backTo pos (starEach (e :: es) X.env)) (backToKw pos (keywordEach [] X.env))) := by rfl) :
    DE X W (.Call (.Attribute o nm apos) (e :: es) [] pos) (methV C nm m mo ma) := by
  refine ⟨fun pins s σ H Q I ⟨Ik, δ, en, g⟩ => ?_⟩
  refine PySem.W.methodCall_KW (pl := pl) (thn (ho.run pins s σ H (fun x H1 => ∃ a dx gs, x = .ref a ∧ H1 a = some (.ins (ga X.K C) dx gs) ∧ gs.lookup nm = none ∧ tDA X.K W ma σ H1 fun vs H2 => spD X.K m (x :: vs) H2 Q (WE W σ)) I (go_bind en g fun d v I1 H1 δ1 n1 r1 g1 => ?_)) fun u s1 ⟨x, H1, I1, rx, a, dx, fs, ex, ea, l, q⟩ => ?_) ht
  · obtain ⟨hb, g2⟩ := Go.guard g1
    obtain ⟨a, dx, gs, ev, hI, hl⟩ := isObj_rep hb r1
    exact ⟨a, dx, gs, ev, n1.env.ext _ _ hI, hl, go_bindA n1.env g2 fun ds vs I2 H2 δ2 n2 r2 g3 => go_appV n2.env (.cons (r1.mono n2.post.ext) r2) g3⟩
  · subst ex
    obtain rfl : u = Value.ref a := rx
    refine getmeth_ok I1 ea cl hm l ?_
    refine PySem.W.callWith_K (first := [.ref a]) (h₀ := X.base) I.ok.mod.kin hm.kp (thn (ha.run pos pins s1 σ H1 _ I1 q) fun us s2 ⟨vs, H2, I2, r, q2⟩ => ⟨I2.kIn, ?_⟩) he hpl
    exact wpAny_call (run_C (us := .ref a :: us) (vs := .ref a :: vs) c F hk I2 (.cons rfl r) q2)
theorem d_meth0 {pl : Sem Bool} (c : Ctx X W k) (F : FnC X kf f m) (cl : Cls X.K (ga X.K C)) (hm : Meth X.K (ga X.K C) nm f) (ho : DE X W o mo) (hk : kf ≤ k := by decide)
    (ht : eval (.Call (.Attribute o nm apos) [] [] pos) X.env = (do
      let ov ← eval o X.env
      standAt apos.atName
      let (f, first) ← holding [ov] (getMethod ov nm pl)
      callWith pos f first (backTo pos (starEach [] X.env)) (backToKw pos (keywordEach [] X.env))) := by rfl) :
    DE X W (.Call (.Attribute o nm apos) [] [] pos) (methV C nm m mo (pure [])) := by
  refine ⟨fun pins s σ H Q I ⟨Ik, δ, en, g⟩ => ?_⟩
  refine PySem.W.methodCall_KW (pl := pl) (thn (ho.run pins s σ H (fun x H1 => ∃ a dx gs, x = .ref a ∧ H1 a = some (.ins (ga X.K C) dx gs) ∧ gs.lookup nm = none ∧ spD X.K m [x] H1 Q (WE W σ)) I (go_bind en g fun d v I1 H1 δ1 n1 r1 g1 => ?_)) fun u s1 ⟨x, H1, I1, rx, a, dx, fs, ex, ea, l, q⟩ => ?_) ht
  · obtain ⟨hb, g2⟩ := Go.guard g1
    obtain ⟨a, dx, gs, ev, hI, hl⟩ := isObj_rep hb r1
    exact ⟨a, dx, gs, ev, n1.env.ext _ _ hI, hl, go_appV n1.env (.cons r1 .nil) (g2.after (m := pure []) (.refl n1.env) rfl)⟩
  · subst ex
    obtain rfl : u = Value.ref a := rx
    exact getmeth_ok I1 ea cl hm l (PySem.W.callWith_K0 (first := [.ref a]) I1.kIn hm.kp (wpAny_call (run_C (us := [.ref a]) (vs := [.ref a]) c F hk I1 (.cons rfl .nil) q)))
end
end DL
set_option maxHeartbeats 2000000
/-! DL9: instances made; starred arguments; defaults; star parameters. -/
namespace DL
open PySem PySem.Spec PyProof.Rows L2
def outM : Rs D → M D
  | .ok .non [.ob c fs] => fun δ => .ok (.obj c fs) δ
  | .ok .non [.va d] => fun δ => .ok d δ
  | .er x [_] => fun δ => .er x δ
  | _ => stuck
def appM (C : Str) (m : MF) (ds : List D) : M D := outM (m (.ob C [] :: vas ds))
def makeD (C : Str) (m : MF) (ma : M (List D)) : M D := ma >>= appM C m
section
variable {K : PySem.W.Frag} {W : WX} {σ : L2.St} {I H I' H' : Hp} {δ : En}
theorem nxt_make (en : Env K I H σ δ) {x dx : Addr} {u1 u2 : HO} (hx : H x = none) (hdx : H dx = none) {vs : List V} {s : Sl} {ds : List D} {ps' : En} (n : NxtC K (V.ref x :: vs) I (upd (upd H dx u1) x u2) (s :: vas ds) I' H' ps') : Nxt K σ I H δ I' H' δ := by
  have up : ∀ a u, H a = some u → upd (upd H dx u1) x u2 a = some u := fun a u h => by rw [upd_ne (ne_of_none h hx), upd_ne (ne_of_none h hdx)]; exact h
  have dn : ∀ a, upd (upd H dx u1) x u2 a = none → H a = none := fun a h => by
    cases q : H a with
    | none => rfl
    | some u => rw [up a u q] at h; cases h
  have no : ∀ a u, H a = some u → ¬ Own (s :: vas ds) ((V.ref x :: vs).map some) a := fun a u h w => by
    rw [(own_first w).1, hx] at h; cases h
  refine ⟨⟨n.env.ext, en.len, fun i t o h1 h2 => (en.at_ i t o h1 h2).stay n.post.ext fun a ho e u hu => n.post.kept (en.ownI ⟨i, ⟨t, h1, ho⟩, by rw [h2, e]⟩) (up a u hu) (no a u hu), en.one⟩,
    ⟨n.post.ext, fun a o e z => ?_, fun a o e _ => n.post.keep a o (up a o e) (no a o e), fun a h => dn a (n.post.dom a h)⟩, fun _ h => h⟩
  rcases n.post.fresh a o e z with w | w
  · exact .inl (dn a w)
  · rw [(own_first w).1]; exact .inl hx
theorem go_appM {C : Str} {m : MF} {ds : List D} {vs : List V} {Q : VK} (en : Env K I H σ δ) (r : Reps K I ds vs) (g : Go K W (appM C m ds) σ I H δ Q) (x dx : Addr) (hx : H x = none) (hdx : H dx = none) (hne : dx ≠ x) :
    spD K m (V.ref x :: vs) (upd (upd H dx (.own x)) x (.ins (ga K C) dx [])) (fun v H2 => v = .non ∧ Q (.ref x) H2) (WE W σ) := by
  have e1 : Ext I (upd (upd H dx (.own x)) x (.ins (ga K C) dx [])) := fun a u h => by
    have h2 := en.ext a u h
    rw [upd_ne (ne_of_none h2 hx), upd_ne (ne_of_none h2 hdx)]; exact h2
  refine ⟨I, .ob C [] :: vas ds, env_first e1 ⟨x, dx, [], rfl, en.ext.back hx, upd_same .., .nil⟩ r, ?_⟩
  unfold Go appM outM at g
  unfold GoC
  cases q : m (.ob C [] :: vas ds) with
  | st => rw [q] at g; exact g
  | ok d ps' =>
    rw [q] at g
    match d, ps', g with
    | .non, [.ob c fs], g =>
      intro v I' H' n rv
      cases rv
      obtain ⟨a, dx', gs, ea, hI, hH, rf⟩ := n.env.at_ 0 (.ob c fs) _ rfl rfl
      cases ea
      have n0 := nxt_make en hx hdx n
      exact ⟨rfl, g _ _ _ (Nxt.frozen en n0 hx hI hH) (.obj (upd_same ..) (rf.mono (Ext.upd' hI)))⟩
    | .non, [.va d], g =>
      intro v I' H' n rv
      cases rv
      obtain ⟨v, ev, rv⟩ := n.env.at_ 0 (.va d) _ rfl rfl
      cases ev
      exact ⟨rfl, g _ _ _ (nxt_make en hx hdx n) rv⟩
    | .non, [.un], g => exact g.elim
    | .non, [.xc _ _ _], g => exact g.elim
    | .non, [.ow _], g => exact g.elim
    | .non, [], g => exact g.elim
    | .non, s :: _ :: _, g => cases s <;> exact g.elim
    | .bl _, _, g => exact g.elim
    | .int _, _, g => exact g.elim
    | .str _, _, g => exact g.elim
    | .cls _, _, g => exact g.elim
    | .lst _, _, g => exact g.elim
    | .tup _, _, g => exact g.elim
    | .obj _ _, _, g => exact g.elim
    | .scr _, _, g => exact g.elim
  | er y ps' =>
    rw [q] at g
    match ps', g with
    | [s'], g => exact fun cls dd I' H' n rv => g cls dd I' H' (nxt_make en hx hdx n) rv
    | [], g => exact g.elim
    | _ :: _ :: _, g => exact g.elim
end
section
variable {X : Cx} {W : WX} {k kf : Nat} {f : Addr} {m : MF} {C : Str} {p pos sp_ : Pos} {e o : Expr} {es : List Expr} {ma : M (List D)} {mo : M D}
theorem run_M {pins : List (Addr × Obj)} {σ : L2.St} {H : Hp} {s : Shared} {Q : VK} {us : List Value} {vs : List V} {C : Addr} {sp : Sp} (c : Ctx X W k) (M : Mk X.K C f) (F : FnR X.prog X.w X.K X.mg X.base (L2.CX X.prog X.w) kf f sp) (hk : kf + 1 ≤ k) (I : Inv X pins σ H s) (r : Vals vs us)
    (h : ∀ x dx, H x = Option.none → H dx = Option.none → dx ≠ x → sp (V.ref x :: vs) (upd (upd H dx (.own x)) x (.ins C dx [])) (fun v H2 => v = .non ∧ Q (.ref x) H2) (WE W σ)) :
    wpAny (model X.prog X.w) X.A (call (.ref C) us) (EP X pins σ Q) X.xe s := by
  have hq := h (s.heap.objs.size + 1) s.heap.objs.size (I.hok.fresh (Nat.le_succ _)) (I.hok.fresh (Nat.le_refl _)) (Nat.ne_of_lt (Nat.lt_succ_self _))
  have I2 := Inv.made (C := C) I
  have r2 : Vals (V.ref (s.heap.objs.size + 1) :: vs) (Value.ref (s.heap.objs.size + 1) :: us) := .cons rfl r
  refine wpAny_call (make_map (f := f) I.kIn M.makes M.init (beq_iff_eq.mp M.fn) (codeAny_mono (F _ X.stack _ _ (Value.ref (s.heap.objs.size + 1) :: us) _ _ (WE W σ) ((c.room.mono hk).make C us []) (I2.env0.make C us []) r2 hq) fun r s' hq' => ?_))
  cases r with
  | error e => exact passAt c.tk σ pins _ _ e s' I2 hq'
  | ok fl =>
    cases fl with
    | ret u =>
      obtain ⟨v, H', I3, rv, ev, q3⟩ := I2.after hq'
      subst ev
      exact ⟨rv, ⟨V.ref (s.heap.objs.size + 1), H', I3, rfl, q3⟩⟩
    | next => exact False.elim hq'
    | brk => exact False.elim hq'
    | cont => exact False.elim hq'
abbrev spM (K : PySem.W.Frag) (W : WX) (C : Str) (m : MF) (vs : List V) (σ : L2.St) (H : Hp) (Q : VK) : Prop :=
  ∀ x dx, H x = Option.none → H dx = Option.none → dx ≠ x → spD K m (V.ref x :: vs) (upd (upd H dx (.own x)) x (.ins (ga K C) dx [])) (fun v H2 => v = .non ∧ Q (.ref x) H2) (WE W σ)
theorem d_make (c : Ctx X W k) (F : FnC X kf f m) (M : Mk X.K (ga X.K C) f) (hm : X.mg C = some (.ref (ga X.K C))) (ha : DA X W (e :: es) ma) (hk : kf + 1 ≤ k := by decide) (hg : Gl X C := by rfl) (hdb : (C == ("__debug__" : Str)) = false := by decide)
    (he : starEach (e :: es) X.env = (false, eval e X.env) :: starEach es X.env := by rfl) (hpl : (backTo pos (starEach es X.env)).any (·.1) = false := by rfl) :
    DE X W (.Call (.Name C p) (e :: es) [] pos) (makeD C m ma) := by
  refine ⟨fun pins s σ H Q I ⟨Ik, δ, en, g⟩ => ?_⟩
  refine wpAny_Call_Name_kw (ld_glob I hg hm ?_ hdb)
  refine PySem.W.callWith_K (h₀ := X.base) I.ok.mod.kin M.kp (thn (ha.run pos pins s σ H (fun vs H1 => spM X.K W C m vs σ H1 Q) I (go_bindA en g fun ds vs I1 H1 δ1 n1 r1 g1 => go_appM n1.env r1 g1)) fun us s1 ⟨vs, H1, I1, r, q⟩ => ⟨I1.kIn, ?_⟩) he hpl
  exact run_M c M F hk I1 r q
theorem d_make0 (c : Ctx X W k) (F : FnC X kf f m) (M : Mk X.K (ga X.K C) f) (hm : X.mg C = some (.ref (ga X.K C))) (hk : kf + 1 ≤ k := by decide) (hg : Gl X C := by rfl) (hdb : (C == ("__debug__" : Str)) = false := by decide) :
    DE X W (.Call (.Name C p) [] [] pos) (appM C m []) := by
  refine ⟨fun pins s σ H Q I ⟨Ik, δ, en, g⟩ => ?_⟩
  refine wpAny_Call_Name_kw (ld_glob I hg hm ?_ hdb)
  exact PySem.W.callWith_K0 I.kIn M.kp (run_M (us := []) c M F hk I .nil (go_appM en .nil g))
/-! ### starred arguments -/
def starL : D → M (List D)
  | .lst ds => pure ds
  | .tup ds => pure ds
  | .scr ns => pure (ns.map .int)
  | _ => stuck
def starA (m : M D) (ma : M (List D)) : M (List D) := m >>= fun d => starL d >>= fun xs => ma >>= fun ys => pure (xs ++ ys)
theorem goA_starL {K : PySem.W.Frag} {W : WX} {σ : L2.St} {I H : Hp} {δ : En} {d : D} {v : V} {f : List D → M (List D)} {Q : List V → Hp → Prop} (en : Env K I H σ δ) (r : Rep K I d v) (g : GoA K W (starL d >>= f) σ I H δ Q) :
    ∃ a xs ds, v = .ref a ∧ (SqT K H a xs ∨ SqL K H a xs) ∧ Reps K I ds xs ∧ GoA K W (f ds) σ I H δ Q := by
  cases r with
  | lst h r => exact ⟨_, _, _, rfl, .inr (.inl (.inl (en.ext _ _ h))), r, g⟩
  | tup h r => exact ⟨_, _, _, rfl, .inl (sqT_ext en.ext h), r, g⟩
  | scr h => exact ⟨_, _, _, rfl, .inr (sqL_ext en.ext h), reps_ints _, g⟩
  | _ => exact g.elim
theorem da_star {m : M D} {p : Pos} (he : DE X W e m) (hr : DA X W es ma) (hs : starEach (.Starred e p :: es) X.env = (true, eval e X.env) :: starEach es X.env := by rfl) : DA X W (.Starred e p :: es) (starA m ma) := by
  refine PA.weak (StX.pa_star he hr hs) fun σ H Q ⟨I, δ, en, g⟩ => ?_
  refine goA_bind en g fun d v I1 H1 δ1 n1 r1 g1 => ?_
  obtain ⟨a, xs, ds, ev, hs, rs, g2⟩ := goA_starL n1.env r1 g1
  refine ⟨a, xs, ev, hs, goA_bindA n1.env g2 fun ys vs I2 H2 δ2 n2 r2 g3 => GoA.val0 g3 n2.env ((rs.mono n2.post.ext).append r2)⟩
theorem evalArgs_plain2 {M : Model} {A : Around} {E : Value → Shared → Prop} {s : Shared} {f : Value} {x y : Bool × Sem Value} {rest : List (Bool × Sem Value)} {Q : Args → Shared → Prop}
    (h : wpAny M A (spliced (x :: y :: rest)) (fun vs s' => Q ⟨vs, []⟩ s') E s) : wpAny M A (evalArgs f true (x :: y :: rest) []) Q E s := by
  unfold evalArgs
  obtain ⟨bx, x⟩ := x
  have h0 : wpAny M A (spliced ((bx, x) :: y :: rest)) (fun vs s' => Q ⟨vs, []⟩ s') E s := h
  cases bx <;>
  (show wpAny M A (spliced ((_, x) :: y :: rest) >>= _) Q E s
   refine wpAny_bind (wpAny_mono h0 (fun vs s' h' => ?_) fun _ _ x => x)
   refine wpAny_holding ?_
   exact wpAny_bind (wpAny_pure (wpAny_bind (wpAny_pure (wpAny_pure h')))))
/-- f(*e, e2, ..) -/
theorem callWith_S3 {M : Model} {A : Around} {E : Value → Shared → Prop} {s : Shared} {env : PySem.Env} {f : Value} {K : PySem.W.Frag} {first : List Value} {Q : Value → Shared → Prop} {e2 : Expr} {rest : List Expr} (hk : PySem.W.keepIn K f = true)
    (h : wpAny M A (spliced (backTo pos (starEach (.Starred e p :: e2 :: rest) env))) (fun vs s₁ => K.In s₁.heap ∧ wpAny M A (call f (first ++ vs)) Q E s₁) E s)
    (he : starEach (.Starred e p :: e2 :: rest) env = (true, eval e env) :: (false, eval e2 env) :: starEach rest env) :
    wpAny M A (callWith pos f first (backTo pos (starEach (.Starred e p :: e2 :: rest) env)) []) Q E s := by
  rw [he] at h ⊢
  exact PySem.W.ks_call rfl (PySem.W.keeps_K hk) (evalArgs_plain2 h)
section
variable {e2 : Expr}
theorem d_makeS1 (c : Ctx X W k) (F : FnC X kf f m) (M : Mk X.K (ga X.K C) f) (hm : X.mg C = some (.ref (ga X.K C))) (he : DE X W e mo) (hk : kf + 1 ≤ k := by decide) (hg : Gl X C := by rfl) (hdb : (C == ("__debug__" : Str)) = false := by decide)
    (hst : starEach [.Starred e sp_] X.env = [(true, eval e X.env)] := by rfl) :
    DE X W (.Call (.Name C p) [.Starred e sp_] [] pos) (makeD C m (starA mo (pure []))) := by
  refine ⟨fun pins s σ H Q I ⟨Ik, δ, en, g⟩ => ?_⟩
  refine wpAny_Call_Name_kw (ld_glob I hg hm ?_ hdb)
  have g' : Go X.K W (mo >>= fun d => starL d >>= fun xs => appM C m (xs ++ [])) σ Ik H δ Q := by
    have e : makeD C m (starA mo (pure [])) = (mo >>= fun d => starL d >>= fun xs => appM C m (xs ++ [])) := by
      unfold makeD starA
      rw [bind_assoc']
      congr 1
      funext d
      rw [bind_assoc']
      rfl
    rw [← e]; exact g
  refine PySem.W.callWith_S (h₀ := X.base) I.ok.mod.kin M.kp (thn (he.run pins s σ H (fun y H1 => ∃ a xs, y = V.ref a ∧ (SqT X.K H1 a xs ∨ SqL X.K H1 a xs) ∧ spM X.K W C m xs σ H1 Q) I (go_bind en g' fun d v I1 H1 δ1 n1 r1 g1 => ?_)) fun v s1 ⟨y, H1, I1, ry, a, xs, ey, hxs, q⟩ => ?_) hst
  · have g2 : Go X.K W (starL d >>= fun xs => appM C m (xs ++ [])) σ I1 H1 δ1 Q := g1
    cases r1 with
    | lst h r => exact ⟨_, _, rfl, .inr (.inl (.inl (n1.env.ext _ _ h))), go_appM n1.env r (by have z : Go X.K W (appM C m (_ ++ [])) σ I1 H1 δ1 Q := g2; rw [List.append_nil] at z; exact z)⟩
    | tup h r => exact ⟨_, _, rfl, .inl (sqT_ext n1.env.ext h), go_appM n1.env r (by have z : Go X.K W (appM C m (_ ++ [])) σ I1 H1 δ1 Q := g2; rw [List.append_nil] at z; exact z)⟩
    | scr h => exact ⟨_, _, rfl, .inr (sqL_ext n1.env.ext h), go_appM n1.env (reps_ints _) (by have z : Go X.K W (appM C m (_ ++ [])) σ I1 H1 δ1 Q := g2; rw [List.append_nil] at z; exact z)⟩
    | _ => exact g2.elim
  · subst ey
    obtain rfl : v = Value.ref a := ry
    exact StX.star_any I1 hxs fun us s2 I2 rv => ⟨I2.kIn, run_M c M F hk I2 rv q⟩
/-- C(*e, e2, ..) -/
theorem d_makeS3 (c : Ctx X W k) (F : FnC X kf f m) (M : Mk X.K (ga X.K C) f) (hm : X.mg C = some (.ref (ga X.K C))) (ha : DA X W (.Starred e sp_ :: e2 :: es) ma) (hk : kf + 1 ≤ k := by decide) (hg : Gl X C := by rfl) (hdb : (C == ("__debug__" : Str)) = false := by decide)
    (he : starEach (.Starred e sp_ :: e2 :: es) X.env = (true, eval e X.env) :: (false, eval e2 X.env) :: starEach es X.env := by rfl) :
    DE X W (.Call (.Name C p) (.Starred e sp_ :: e2 :: es) [] pos) (makeD C m ma) := by
  refine ⟨fun pins s σ H Q I ⟨Ik, δ, en, g⟩ => ?_⟩
  refine wpAny_Call_Name_kw (ld_glob I hg hm ?_ hdb)
  refine callWith_S3 M.kp (thn (ha.run pos pins s σ H (fun vs H1 => spM X.K W C m vs σ H1 Q) I (go_bindA en g fun ds vs I1 H1 δ1 n1 r1 g1 => go_appM n1.env r1 g1)) fun us s1 ⟨vs, H1, I1, r, q⟩ => ⟨I1.kIn, ?_⟩) he
  exact run_M c M F hk I1 r q
/-- f(e, .., *y) -/
theorem d_callS2 {x : Str} (c : Ctx X W k) (F : FnC X kf f m) (hm : X.mg x = some (.ref f)) (hkp : PySem.W.keepIn X.K (.ref f) = true) (ha : DA X W (e :: es) ma) (hk : kf ≤ k := by decide) (hg : Gl X x := by rfl) (hdb : (x == ("__debug__" : Str)) = false := by decide)
    (he : starEach (e :: es) X.env = (false, eval e X.env) :: starEach es X.env := by rfl) (hst : (backTo pos (starEach es X.env)).any (·.1) = true := by rfl) :
    DE X W (.Call (.Name x p) (e :: es) [] pos) (callV m ma) := by
  refine ⟨fun pins s σ H Q I ⟨Ik, δ, en, g⟩ => ?_⟩
  refine wpAny_Call_Name_kw (ld_glob I hg hm ?_ hdb)
  refine PySem.W.callWith_S2 (h₀ := X.base) I.ok.mod.kin hkp (thn (ha.run pos pins s σ H (fun vs H1 => spD X.K m vs H1 Q (WE W σ)) I (go_bindA en g fun ds vs I1 H1 δ1 n1 r1 g1 => go_appV n1.env r1 g1)) fun us s1 ⟨vs, H1, I1, r, q⟩ => ⟨I1.kIn, ?_⟩) he hst
  exact wpAny_call (run_C c F hk I1 r q)
end
end
/-! ### defaults, star parameters -/
def cutR (n : Nat) : Rs D → Rs D
  | .ok d ps => if ps.length ≤ n then .ok d ps else .st
  | .er x ps => if ps.length ≤ n then .er x ps else .st
  | .st => .st
/-- dds fill up -/
def dflM (dds : List D) (m : MF) : MF := fun ps => cutR ps.length (m (ps ++ vas dds))
/-- behind the first n parameters a tuple of what is left over -/
def unva : Sl → Option D
  | .va d => some d
  | _ => none
def unvas : List Sl → Option (List D)
  | [] => some []
  | s :: r => match unva s, unvas r with
    | some d, some ds => some (d :: ds)
    | _, _ => none
def starM (n : Nat) (m : MF) : MF := fun ps => if n ≤ ps.length then (match unvas (ps.drop n) with
  | some ds => if szOk ds.length then cutR n (m (ps.take n ++ [.va (.tup ds)])) else .st
  | none => .st) else .st
theorem unvas_eq : ∀ {ss : List Sl} {ds : List D}, unvas ss = some ds → ss = vas ds
  | [], _, h => by cases h; rfl
  | s :: r, ds, h => by
    unfold unvas at h
    cases s with
    | va d =>
      cases q : unvas r with
      | none => rw [q] at h; cases h
      | some es => rw [q] at h; cases h; rw [unvas_eq q]; rfl
    | un => cases h
    | xc _ _ _ => cases h
    | ow _ => cases h
    | ob _ _ => cases h
section
variable {K : PySem.W.Frag} {I H I' H' : Hp} {vs : List V} {ps : En} {Q : VK} {E : XK}
theorem own_app {ds : List D} {dvs : List V} {i : Nat} {a : Addr} (hl : ps.length = vs.length) (h : OwnAt (ps ++ vas ds) ((vs ++ dvs).map some) i a) : OwnAt ps (vs.map some) i a := by
  obtain ⟨⟨s, hs, ho⟩, hv⟩ := h
  by_cases q : i < ps.length
  · rw [List.getElem?_append_left q] at hs
    rw [List.map_append, List.getElem?_append_left (by rw [List.length_map]; omega)] at hv
    exact ⟨⟨s, hs, ho⟩, hv⟩
  · rw [List.getElem?_append_right (by omega)] at hs
    obtain ⟨d, _, rfl⟩ := vas_get hs
    exact ho.elim
theorem app_own {ds : List D} {dvs : List V} {i : Nat} {a : Addr} (h : OwnAt ps (vs.map some) i a) : OwnAt (ps ++ vas ds) ((vs ++ dvs).map some) i a := by
  obtain ⟨⟨s, hs, ho⟩, hv⟩ := h
  exact ⟨⟨s, by rw [List.getElem?_append_left (List.getElem?_eq_some_iff.mp hs).1]; exact hs, ho⟩, by rw [List.map_append, List.getElem?_append_left (List.getElem?_eq_some_iff.mp hv).1]; exact hv⟩
theorem env_app {ds : List D} {dvs : List V} (en : Env K I H (vs.map some) ps) (r : Reps K I ds dvs) : Env K I H ((vs ++ dvs).map some) (ps ++ vas ds) where
  ext := en.ext
  len := by
    have h1 := en.len
    have h2 := (env_vals en.ext r).len
    rw [List.map_append, List.length_append, List.length_append, h1, h2]
  at_ := fun i s o h1 h2 => by
    have hl := en.len
    rw [List.map_append] at h2
    by_cases q : i < ps.length
    · rw [List.getElem?_append_left q] at h1
      rw [List.getElem?_append_left (by omega)] at h2
      exact en.at_ i s o h1 h2
    · rw [List.getElem?_append_right (by omega)] at h1
      rw [List.getElem?_append_right (by omega), hl] at h2
      exact (env_vals en.ext r).at_ _ s o h1 h2
  one := fun i j a h1 h2 => by
    have hl : ps.length = vs.length := by have := en.len; rw [List.length_map] at this; exact this.symm
    exact en.one i j a (own_app hl h1) (own_app hl h2)
theorem take_app {α : Type} {a b : List α} {n : Nat} (h : n ≤ a.length) : (a ++ b).take n = a.take n := by
  rw [List.take_append, Nat.sub_eq_zero_of_le h, List.take_zero, List.append_nil]
theorem GoC.cut {r : Rs D} {n : Nat} (g : GoC K (cutR n r) vs I H ps Q E) {vs2 : List V} {I2 H2 : Hp} {ps2 : En}
    (h : ∀ I' H' ps', ps'.length ≤ n → NxtC K vs2 I2 H2 ps2 I' H' ps' → NxtC K vs I H ps I' H' ps') : GoC K r vs2 I2 H2 ps2 Q E := by
  unfold GoC cutR at *
  cases r with
  | st => exact g
  | ok d ps' =>
    dsimp only at g ⊢
    by_cases q : ps'.length ≤ n
    · rw [if_pos q] at g
      exact fun v I' H' nx r => g v I' H' (h _ _ _ q nx) r
    · rw [if_neg q] at g; exact g.elim
  | er x ps' =>
    dsimp only at g ⊢
    by_cases q : ps'.length ≤ n
    · rw [if_pos q] at g
      exact fun v dd I' H' nx r => g v dd I' H' (h _ _ _ q nx) r
    · rw [if_neg q] at g; exact g.elim
theorem spD_dfl {m : MF} {dds : List D} {dvs : List V} (hd : ∀ I, Reps K I dds dvs) (h : spD K (dflM dds m) vs H Q E) : spD K m (vs ++ dvs) H Q E := by
  obtain ⟨I, ps, en, g⟩ := h
  have hl : ps.length = vs.length := by have := en.len; rw [List.length_map] at this; exact this.symm
  refine ⟨I, ps ++ vas dds, env_app en (hd I), GoC.cut g fun I' H' ps' hn nx => ?_⟩
  have tk : ((vs ++ dvs).map some).take ps'.length = (vs.map some).take ps'.length := by rw [List.map_append, take_app (by rw [List.length_map]; omega)]
  have e1 : ∀ a, Own (ps ++ vas dds) ((vs ++ dvs).map some) a ↔ Own ps (vs.map some) a := fun a => ⟨fun ⟨i, h⟩ => ⟨i, own_app hl h⟩, fun ⟨i, h⟩ => ⟨i, app_own h⟩⟩
  refine ⟨by omega, tk ▸ nx.env, ⟨nx.post.ext, fun a o e z => (nx.post.fresh a o e z).imp id (e1 a).mp, fun a o e z => nx.post.keep a o e fun w => z ((e1 a).mp w), nx.post.dom⟩, fun i a h => own_app hl (nx.own i a (tk ▸ h))⟩
theorem spD_star {m : MF} {n : Nat} (h : spD K (starM n m) vs H Q E) : ∃ ws rest, vs = ws ++ rest ∧ ws.length = n ∧ rest.length ≤ sizeLine ∧ ∀ p, H p = Option.none → spD K m (ws ++ [V.ref p]) (upd H p (.tup rest)) Q E := by
  obtain ⟨I, ps, en, g⟩ := h
  have hl : ps.length = vs.length := by have := en.len; rw [List.length_map] at this; exact this.symm
  unfold starM at g
  by_cases q : n ≤ ps.length
  · rw [if_pos q] at g
    cases q2 : unvas (ps.drop n) with
    | none => rw [q2] at g; exact g.elim
    | some ds =>
      rw [q2] at g
      dsimp only at g
      cases q3 : szOk ds.length with
      | false => rw [q3, if_neg Bool.false_ne_true] at g; exact g.elim
      | true =>
        rw [q3, if_pos rfl] at g
        have hd := unvas_eq q2
        have lt : (vs.take n).length = n := by rw [List.length_take]; omega
        have hrest : Reps K I ds (vs.drop n) := by
          have key : ∀ (ds : List D) (ws : List V), (∀ (i : Nat) (s : Sl) (o : Option V), (vas ds)[i]? = some s → (ws.map some)[i]? = some o → SlRep K I H s o) → ds.length = ws.length → Reps K I ds ws := by
            intro ds
            induction ds with
            | nil => intro ws _ hl; cases ws with
              | nil => exact .nil
              | cons _ _ => cases hl
            | cons d ds ih =>
              intro ws h hl
              cases ws with
              | nil => cases hl
              | cons w ws =>
                obtain ⟨v, ev, rv⟩ := h 0 (.va d) (some w) rfl rfl
                cases ev
                exact .cons rv (ih ws (fun i s o h1 h2 => h (i + 1) s o h1 h2) (Nat.succ.inj hl))
          refine key ds (vs.drop n) (fun i s o h1 h2 => en.at_ (n + i) s o ?_ ?_) ?_
          · rw [← hd, List.getElem?_drop] at h1; exact h1
          · rw [List.getElem?_map, List.getElem?_drop] at h2; rw [List.getElem?_map]; exact h2
          · have z := congrArg List.length hd
            unfold vas at z
            rw [List.length_map, List.length_drop] at z
            rw [List.length_drop]; omega
        refine ⟨vs.take n, vs.drop n, (List.take_append_drop n vs).symm, lt, by rw [← hrest.length]; exact szOk_le q3, fun p hp => ?_⟩
        have hvs : vs.map some = (vs.take n).map some ++ (vs.drop n).map some := by rw [← List.map_append, List.take_append_drop]
        have en1 : Env K (upd I p (.tup (vs.drop n))) (upd H p (.tup (vs.drop n))) (vs.map some) ps := en.alloc hp
        have en2 : Env K (upd I p (.tup (vs.drop n))) (upd H p (.tup (vs.drop n))) ((vs.take n).map some) (ps.take n) := by
          refine ⟨en1.ext, by rw [List.length_map, List.length_take, List.length_take]; omega, fun i s o h1 h2 => ?_, fun i j a h1 h2 => ?_⟩
          · obtain ⟨_, h3⟩ := take_get h1
            rw [List.map_take] at h2
            obtain ⟨_, h4⟩ := take_get h2
            exact en1.at_ i s o h3 h4
          · have bk : ∀ i, OwnAt (ps.take n) ((vs.take n).map some) i a → OwnAt ps (vs.map some) i a := fun i ⟨⟨s, h3, h5⟩, h4⟩ => by
              rw [List.map_take] at h4
              exact ⟨⟨s, (take_get h3).2, h5⟩, (take_get h4).2⟩
            exact en1.one i j a (bk i h1) (bk j h2)
        have rt : Reps K (upd I p (.tup (vs.drop n))) [.tup ds] [V.ref p] := .cons (.tup (.inl (.inl (upd_same ..))) (hrest.mono (Ext.upd' (en.ext.back hp)))) .nil
        refine ⟨_, _, env_app en2 rt, GoC.cut g fun I' H' ps' hn nx => ?_⟩
        have hl2 : (ps.take n).length = (vs.take n).length := by rw [List.length_take, List.length_take]; omega
        have fw : ∀ i a, OwnAt (ps.take n ++ vas [.tup ds]) ((vs.take n ++ [V.ref p]).map some) i a → OwnAt ps (vs.map some) i a := fun i a h => by
          obtain ⟨⟨s, h3, h5⟩, h4⟩ := own_app hl2 h
          rw [List.map_take] at h4
          exact ⟨⟨s, (take_get h3).2, h5⟩, (take_get h4).2⟩
        have tk : ((vs.take n ++ [V.ref p]).map some).take ps'.length = (vs.map some).take ps'.length := by
          rw [List.map_append, take_app (by rw [List.length_map, lt]; exact hn), ← List.map_take, List.take_take, Nat.min_eq_left hn, List.map_take]
        have hHne : ∀ a u, H a = some u → upd H p (.tup (vs.drop n)) a = some u := fun a u h => by rw [upd_ne (ne_of_none h hp)]; exact h
        refine ⟨by omega, tk ▸ nx.env, ⟨fun a o e => nx.post.ext a o (Ext.upd' (en.ext.back hp) a o e), fun a o e z => ?_, fun a o e z => nx.post.keep a o (hHne a o e) fun ⟨i, w⟩ => z ⟨i, fw i a w⟩, fun a h => ?_⟩, fun i a h => fw i a (nx.own i a (tk ▸ h))⟩
        · by_cases ea : a = p
          · subst ea; exact .inl hp
          · rcases nx.post.fresh a o e (by rw [upd_ne ea]; exact z) with w | ⟨i, w⟩
            · rw [upd_ne ea] at w; exact .inl w
            · exact .inr ⟨i, fw i a w⟩
        · have z := nx.post.dom a h
          by_cases ea : a = p
          · subst ea; exact hp
          · rw [upd_ne ea] at z; exact z
  · rw [if_neg q] at g; exact g.elim
end
section
variable {P : Program} {w : World} {K : PySem.W.Frag} {mg : Str → Option Value} {base : Heap} {x qual : Str} {params : Arguments} {body : List Stmt} {scope : Scope} {dvs : List V} {kws : List (Str × V)} {f : Addr} {fd : FuncData} {N ps : List Str} {k Pn : Nat} {b : M Fl} {m : MF}
/-- a def without defaults, by positional values -/
theorem fn_pos (F : FnOk P w K mg base (L2.CX P w) k f fd ps (spD K m)) (hb : Binds K fd ps []) : FnG P w K mg base k f m := (FnOk.raw F hb .nil).imp fun vs H Q E h => by rw [List.append_nil]; exact h
theorem fn_dfl {ds : List Value} {dds : List D} (F : FnOk P w K mg base (L2.CX P w) k f fd ps (spD K m)) (hb : Binds K fd ps ds) (hd : Vals dvs ds) (hr : ∀ I, Reps K I dds dvs) : FnG P w K mg base k f (dflM dds m) :=
  (FnOk.raw F hb hd).imp fun vs H Q E h => spD_dfl hr h
/-- def f(a, .., *v) -/
theorem fn_starD {pv : Str} (F : FunD K x qual params body scope [] [] f fd) (S : FnScope N (ps ++ [pv]) scope) (hN : (ps ++ [pv]).length ≤ N.length)
    (hbd : ∀ (kV doc pm : Value) (an : Option Addr) (cdv ct : Value) (us rest : List Value), us.length = ps.length → bindArgs (PySem.W.fnOf x qual params body scope .none kV doc pm an cdv ct) ⟨us ++ rest, []⟩ = (newTuple rest >>= fun t => pure (ps.zip us ++ [(pv, t)])))
    (hb : ∀ (cdv : Value) (A : Around) (outer : List PySem.Env) (s : Shared) (H : Hp) (E : XK), Ctx (cxOf (L2.CX P w) P w K mg base N qual scope f cdv A outer s H E) (fun cls dd _ H => E cls dd H) k →
      DSs (cxOf (L2.CX P w) P w K mg base N qual scope f cdv A outer s H E) (fun cls dd _ H => E cls dd H) Pn body b) :
    FnG P w K mg base (k + 1) f (starM ps.length (runB N.length (ps ++ [pv]).length Pn b)) := by
  obtain ⟨oc, od, dV, kV, doc, pm, an, cdv, ct, osl, rfl, lk, hcd, hdf, _⟩ := F.ex
  obtain rfl : dV = .none := by
    rcases hdf with ⟨_, h⟩ | ⟨h, _⟩
    · exact h
    · exact absurd rfl h
  refine (StX.fn_star lk hcd S StX.cxUp (hbd kV doc pm an cdv ct) (sp := spD K (runB N.length (ps ++ [pv]).length Pn b)) fun A outer s H vs Q E hr h => ⟨_, hb cdv A outer s H E ⟨hr, takes_of rfl rfl rfl rfl, rfl, ?_, S.nd⟩, tDS_body h hN⟩).imp fun vs H Q E h => spD_star h
  exact passes_of (X := cxOf (L2.CX P w) P w K mg base N qual scope f cdv A outer s H E) (K := fun e s'' => L2.CX P w outer H s E e s'') (E₁ := fun e' s'' => L2.CX P w outer H s E e' s'') rfl
end
end DL
set_option maxHeartbeats 2000000
/-! DL10: own exceptions, each over one own class over ValueError, whose __init__ says super().__init__('m') and stores its parameters. -/
namespace PySem
namespace LostX
open PySem.W PySem.Calls PyProof.Rows PySem.HandSPX
/-! ### the text -/
abbrev supS (m : Str) (j : Nat) (a1 a2 a3 a4 a5 a6 : Pos) : Stmt := .Expr (.Call (.Attribute (.Call (.Name "super" a1) [] [] a2) "__init__" a3) [.Constant (.str m) j a4] [] a5) a6
abbrev stoS (f g : Str) (q1 q2 q3 q4 : Pos) : Stmt := .Assign [.Attribute (.Name "self" q1) f q2] (.Name g q3) q4
abbrev lsc (ns : List (Str × NameKind)) : Scope := { kind := ScopeKind.function, names := ns, isGenerator := false, isCoroutine := false, more := [] }
/-- the class -/
def lostB (K : Frag) (C : Addr) : Bool := match K.lookup C with
  | some ⟨.type "type", _, .cls cd, sl⟩ => (match cd.mro, sl.toList with
    | .ref C' :: bm, [_, _, _, _, some (.builtin n), _] => C' == C && n == "ValueError.__new__" && !cd.hasDel && cd.hasDict && refsVE bm
    | _, _ => false)
  | _ => false
theorem lostB_ok {K : Frag} {C : Addr} (q : lostB K C = true) : ∃ nm qn N bs bm sn sub ab col dd k0 k1 k2 k3 k5, K.lookup C = some (excClassObj nm qn C N bs bm true sn sub ab col dd k0 k1 k2 k3 k5 "ValueError.__new__") ∧ refsVE bm = true := by
  unfold lostB at q
  split at q
  · rename_i dd cd sl ho
    split at q
    · rename_i C' bm k0 k1 k2 k3 n k5 hm hs
      simp only [Bool.and_eq_true, beq_iff_eq, Bool.not_eq_true'] at q
      obtain ⟨⟨⟨⟨rfl, rfl⟩, hdel⟩, hdc⟩, ht⟩ := q
      obtain ⟨nm, bs, mro, ns, qn, hd, sn, sub, ab, col, del⟩ := cd
      dsimp only at hm hdel hdc
      subst hm hdel hdc
      have hsl : sl = #[k0, k1, k2, k3, some (.builtin "ValueError.__new__"), k5] := by
        obtain ⟨l⟩ := sl
        simp only at hs
        rw [hs]
      subst hsl
      exact ⟨nm, qn, ns, bs, bm, sn, sub, ab, col, dd, k0, k1, k2, k3, k5, ho, ht⟩
    · cases q
  · cases q
section
variable {prog : Program} {w : World} {M : Model} {A : Around} {E : Value → Shared → Prop} {h : Heap} {g : Array GenState} {d : Drawn} {t : Nat} {os : OsState} {K : Frag}
/-- the wrapper is called -/
theorem call_mw {nm q : Str} {C N : Addr} {bs bm : List Value} {hdct : Bool} {sn : List Str} {sub : List Value} {ab : Bool} {col : Option Bool} {dd : Option Addr} {k0 k1 k2 k3 k5 : Option Value} {u e t0 : Addr} {rest : List Value} {Q : Value → Shared → Prop}
    (hC : h.get? C = some (excClassObj nm q C N bs bm hdct sn sub ab col dd k0 k1 k2 k3 k5 "ValueError.__new__")) (he : h.get? e = some (excO C t0)) (hu : h.get? u = some (kxs_mw "ValueError.__init__" e)) (hrest : rest.length ≤ sizeLine)
    (hq : ∀ h' t1, (∀ b o, b ≠ e → h.get? b = some o → h'.get? b = some o) → h'.get? e = some (excO C t1) → Q .none ⟨h', g, d, t, os⟩) :
    wpAny (model prog w) A (call (.ref u) rest) Q E ⟨h, g, d, t, os⟩ := by
  refine wpAny_call (codeAny_of_tree ?_)
  show wpAny _ A.in1 (callAny (.ref u) ⟨rest, []⟩) _ _ _
  simp only [callAny]
  refine wpAny_bind (wpAny_load hu ?_)
  simp only [kxs_mw, show (Value.type "method-wrapper" == Value.type "method" || Value.type "method-wrapper" == Value.type "builtin_function_or_method" || Value.type "method-wrapper" == Value.type "method-wrapper") = true by decide, if_true]
  refine KFB.if_so (by decide) ?_
  refine wpAny_bind (check_bound_init F.excBase_ValueError.toExcCallFacts hC he rfl ?_)
  refine wpAny_bind (wpAny_pure (wpAny_pure ?_))
  refine ⟨Code.quiet_builtin _ (by decide +kernel), codeAny_builtin F.excBase_ValueError.initEntry ?_⟩
  rw [Around.under_plainId F.excBase_ValueError.init.plain _]
  wp_walk
  refine hq _ h.objs.size (fun b o hb ho => ?_) ?_
  · rw [Heap.get?_update_other _ _ (Ne.symm hb)]
    exact Heap.get?_push_of_some _ ho
  · rw [Heap.get?_update_self _ (Heap.get?_push_of_some _ he) rfl]
    rfl
end
/-- what K says of the class at C and of its __init__ at fI -/
structure LostC (prog : Program) (K : Frag) (C fI : Addr) (qual : Str) (params : Arguments) (body : List Stmt) (ns : List (Str × NameKind)) : Prop where
  cls : lostB K C = true
  sa : findIn K (.ref C) "__setattr__" = some (some (.builtin "object.__setattr__"))
  iC : findIn K (.ref C) "__init__" = some (some (.ref fI))
  tC : typeIn K (.ref fI) = some (.type "function")
  kC : keepIn K (.ref C) = true
  exC : subIn K (.ref C) (.type "BaseException") = some true
  veC : subIn K (.ref C) (.type "ValueError") = some true
  slC : mroIn K C (.ref C) = some true
  tyC : typeIn K (.ref C) = some (.type "type")
  sup : ks_superIn K C C "__init__" = some (some (.builtin "ValueError.__init__"))
  oth : nsIn K cStatics "thirdparty.any" = some none
  fn : ∃ (oc : Value) (od : Option Addr) (dV kV doc pm : Value) (an : Option Addr) (cda : Addr) (ct : Value) (osl : Array (Option Value)) (cc : Addr) (ccl : Value) (cdd : Option Addr) (vs : Array Value) (ccs : Array (Option Value)) (file : Str) (tf : Tok) (cl : Value) (cld : Option Addr) (csl : Array (Option Value)),
    K.lookup fI = some ⟨oc, od, .func (ksFn "__init__" qual params body (lsc ns) dV kV doc pm an (.ref cda) ct cc), osl⟩ ∧ codeIn K (.ref cda) qual = true ∧
    K.lookup cda = some ⟨ccl, cdd, .fields vs, ccs⟩ ∧ vs[2]? = some (.str file tf) ∧ ((prog.main.file : Str) == file) = true ∧ K.lookup cc = some ⟨cl, cld, .cell (some (.ref C)), csl⟩ ∧ dV = .none
/-- the text of __init__ with the parameters self, .. -/
structure LostS (ps : List Str) (params : Arguments) (ns : List (Str × NameKind)) : Prop where
  head : ∃ ar : Arg, (params.posonlyargs ++ params.args).head? = some ar ∧ ar.arg = "self"
  nocell : ∀ x ∈ ns, x.2 ≠ .cell
  loc : ∀ x ∈ ps, ns.lookup x = some .local
  sup : ns.lookup ("super" : Str) = some .globalImplicit
  cls : ns.lookup ("__class__" : Str) = some .free
/-- how the call of super().__init__ is read -/
def EvE (m : Str) (j : Nat) (a1 a2 a3 a4 a5 : Pos) (ns : List (Str × NameKind)) : Prop := ∀ (qual : Str) (L fI : Addr) (cd : Value) (cc : Addr), ∃ pl : Sem Bool,
  eval (.Call (.Attribute (.Call (.Name "super" a1) [] [] a2) "__init__" a3) [.Constant (.str m) j a4] [] a5) (ksEnv qual (lsc ns) L fI cd cc) = (do
      let ov ← attributeBase (.Call (.Name "super" a1) [] [] a2) "__init__" (ksEnv qual (lsc ns) L fI cd cc) (eval (.Call (.Name "super" a1) [] [] a2) (ksEnv qual (lsc ns) L fI cd cc))
      standAt a3.atName
      let (f, first) ← holding [ov] (getMethod ov "__init__" pl)
      callWith a5 f first (backTo a5 (starEach [.Constant (.str m) j a4] (ksEnv qual (lsc ns) L fI cd cc))) [])
/-- builtins and globals as super() reads them -/
structure SupG (prog : Program) (h : Heap) : Prop where
  g : ∃ mg, h.Ns mainGlobals mg ∧ mg "super" = none
  b : ∃ mb, h.Ns builtinsNs mb ∧ mb "super" = some (.type "super")
  top : (prog.main.scope.names.lookup ("super" : Str)).isSome = false
section
variable {prog : Program} {w : World} {A : Around} {E : Value → Shared → Prop} {R : Result → Shared → Prop} {K : Frag} {C fI : Addr} {qual : Str} {params : Arguments} {body : List Stmt} {ns : List (Str × NameKind)} {ps : List Str}
theorem super_init (T : LostC prog K C fI qual params body ns) (S : LostS ps params ns) {s : Shared} (X : K.In s.heap) (G : SupG prog s.heap) {x t0 L cda cc : Addr} {mL : Str → Option Value} {oc : Value} {od : Option Addr} {dV kV doc pm : Value} {an : Option Addr} {ct : Value} {osl : Array (Option Value)}
    {ccl : Value} {cdd : Option Addr} {vs : Array Value} {ccs : Array (Option Value)} {file : Str} {tf : Tok} {cl : Value} {cld : Option Addr} {csl : Array (Option Value)} {m : Str} {j : Nat} {a1 a2 a3 a4 a5 a6 : Pos} {bd : List Stmt} {Q : Flow → Shared → Prop}
    (hfn : K.lookup fI = some ⟨oc, od, .func (ksFn "__init__" qual params body (lsc ns) dV kV doc pm an (.ref cda) ct cc), osl⟩) (hcode : K.lookup cda = some ⟨ccl, cdd, .fields vs, ccs⟩) (hvs : vs[2]? = some (.str file tf)) (hfile : ((prog.main.file : Str) == file) = true) (hcell : K.lookup cc = some ⟨cl, cld, .cell (some (.ref C)), csl⟩)
    (hev : EvE m j a1 a2 a3 a4 a5 ns) (hself : ("self" : Str) ∈ ps) (hL : s.heap.Ns L mL) (hv : mL "self" = some (.ref x)) (hx : s.heap.get? x = some (excO C t0))
    (hq : ∀ h' t1 tk, (∀ b o, b ≠ x → s.heap.get? b = some o → h'.get? b = some o) → h'.get? x = some (excO C t1) → Q .next { s with heap := h', toks := tk }) :
    _root_.PySem.wpAt (model prog w) A (.func bd (ksEnv qual (lsc ns) L fI (.ref cda) cc)) (exec (supS m j a1 a2 a3 a4 a5 a6) (ksEnv qual (lsc ns) L fI (.ref cda) cc)) Q E s := by
  obtain ⟨nm, qn, N, bs, bm, sn, sub, ab, col, dd, k0, k1, k2, k3, k5, hC, hbm⟩ := lostB_ok T.cls
  obtain ⟨ar, hp, har⟩ := S.head
  obtain ⟨mg, hg, hgs⟩ := G.g
  obtain ⟨mb, hb, hbs⟩ := G.b
  have hxC : x ≠ C := fun z => by
    have e := X _ _ hC
    rw [← z, hx] at e
    cases e
  obtain ⟨hh, g, d, t, os⟩ := s
  obtain ⟨pl, hev⟩ := hev qual L fI (.ref cda) cc
  refine ks_wpAt_Expr_any (ks_wpAt_MethodCall ?_ hev) rfl rfl
  refine ks_wpAt_super_base (env := ksEnv qual (lsc ns) L fI (.ref cda) cc) S.sup S.cls (by decide) rfl (X _ _ hfn) rfl hp rfl (X _ _ hcode) rfl hvs hfile G.top ?_
  refine ks_loadName_global rfl S.sup (loadGlobal_builtin (env := ksEnv qual (lsc ns) L fI (.ref cda) cc) hg hgs hb hbs ⟨rfl, ?_⟩)
  refine wpAny_loadName_free rfl S.cls rfl ⟨_, X _ _ hcell, rfl⟩ ?_
  rw [har]
  refine wpAny_loadName_local rfl (S.loc _ hself) hL hv ?_
  refine ks_wpAny_isType_cls (X _ _ hC) rfl ⟨rfl, ?_⟩
  refine ks_wpAny_call_super (X _ _ hC) rfl hx rfl (fun c e => by cases e) (looks_mroIn X T.slC) (fun h1 e1 k1' => ?_)
  have X1 : K.In h1 := X.keeps k1'
  have hx1 := k1' _ _ hx
  have hcl : clsIn K C = some { name := nm, bases := bs, mro := .ref C :: bm, ns := N, qualname := qn, hasDict := true, slotNames := sn, subclasses := sub, abstract := ab, collection := col, hasDel := false } := by unfold clsIn; rw [hC] <;> rfl
  have hsup := T.sup
  unfold ks_superIn at hsup
  rw [hcl] at hsup
  have I1 : W.InstAt h1 x (excO C t0) C none := ⟨hx1, rfl, rfl, trivial⟩
  refine kxs_getMethod kxs_ValueError e1 (looks_opaque X1 T.oth) (l₀ := .ref C :: bm) (fun A Q E s k q => wpAny_bind ((looks_clsIn X1 hcl) A _ E s k (wpAny_pure q))) rfl X1 hsup (I1.type.andThen (looks_subIn X1 T.veC)) hxC (by decide) ?_
  have e2 : (h1.push (kxs_mw "ValueError.__init__" x)).get? h1.objs.size = some (kxs_mw "ValueError.__init__" x) := Heap.get?_push_at rfl rfl
  have k2' : ∀ b o, h1.get? b = some o → (h1.push (kxs_mw "ValueError.__init__" x)).get? b = some o := fun b o e => Heap.get?_push_of_some _ e
  have he : starEach [.Constant (.str m) j a4] (ksEnv qual (lsc ns) L fI (.ref cda) cc) = (false, eval (.Constant (.str m) j a4) (ksEnv qual (lsc ns) L fI (.ref cda) cc)) :: starEach [] (ksEnv qual (lsc ns) L fI (.ref cda) cc) := rfl
  rw [he]
  refine kxs_callWith (i := "ValueError.__init__") (x := x) rfl ?_
  refine evalArgs_plain (spliced_cons ?_)
  refine PySem.Calls.Constant_str (k := j) (pos := a4) ?_
  refine spliced_nil ⟨e2, ?_⟩
  refine call_mw (rest := [.str m _]) (k2' _ _ (X1 _ _ hC)) (k2' _ _ hx1) e2 (by show 1 ≤ sizeLine; rw [sizeLine_eq]; decide) fun h' t1 k3' hx' => ?_
  exact hq h' t1 _ (fun b o hb e => k3' b o hb (k2' b o (k1' b o e))) hx'
/-- the values under their names -/
def nsOf : List (Str × Value) → Str → Option Value
  | [], _ => none
  | p :: l, y => if y = p.1 then some p.2 else nsOf l y
/-- what __init__ leaves of a fresh exception at x -/
structure InitEnd (h h' : Heap) (x C : Addr) (fs : List (Str × Value)) (t1 dx : Addr) : Prop where
  keep : ∀ b o, b ≠ x → h.get? b = some o → h'.get? b = some o
  obj : h'.get? x = some { cls := .ref C, dict := some dx, data := .fields #[.ref t1, .none, .none, .none, .bool false, .none] }
  dbig : h.objs.size ≤ dx
  dne : dx ≠ x
  ns : h'.Ns1 dx (nsOf fs)
theorem ldK {M : Model} {E : Value → Shared → Prop} {s : Shared} {name : Str} {ns : List (Str × NameKind)} {L a cc : Addr} {cd : Value} {m : Str → Option Value} {x : Str} {pos : Pos} {v : Value} {Q : Value → Shared → Prop} {A : Around} (hn : s.heap.Ns L m) (hv : m x = some v) (hl : ns.lookup x = some .local) (h : Q v s)
    (hd : (x == ("__debug__" : Str)) = false) : wpAny M A (eval (.Name x pos) (ksEnv name (lsc ns) L a cd cc)) Q E s := wpAny_Name (wpAny_loadName_local rfl hl hn hv h) hd
theorem lost_init1 {m f : Str} {j : Nat} {a1 a2 a3 a4 a5 a6 q1 q2 q3 q4 : Pos} (T : LostC prog K C fI qual params [supS m j a1 a2 a3 a4 a5 a6, stoS f f q1 q2 q3 q4] ns) (S : LostS ["self", f] params ns)
    (hbd : ∀ (kV doc pm : Value) (an : Option Addr) (cdv ct : Value) (cc : Addr) (u v : Value), bindArgs (ksFn "__init__" qual params [supS m j a1 a2 a3 a4 a5 a6, stoS f f q1 q2 q3 q4] (lsc ns) .none kV doc pm an cdv ct cc) ⟨[u, v], []⟩ = pure [(("self" : Str), u), (f, v)])
    (hf : (f == ("self" : Str)) = false) (hfd : (f == ("__debug__" : Str)) = false) (hno : findIn K (.ref C) f = some none) (hev : EvE m j a1 a2 a3 a4 a5 ns)
    {s : Shared} {x t0 : Addr} {v : Value} (X : K.In s.heap) (hlim : s.heap.NoLimit) (G : SupG prog s.heap) (hx : s.heap.get? x = some (excO C t0)) (hnx : K.lookup x = none) (hroom : A.depth < recursionLimit)
    (hq : ∀ h' tk t1 dx, InitEnd s.heap h' x C [(f, v)] t1 dx → R (.ok (.ret .none)) { s with heap := h', toks := tk }) :
    codeAny (model prog w) A (.call (.ref fI) ⟨[.ref x, v], []⟩) R s := by
  obtain ⟨nm, qn, N, bs, bm, sn, sub, ab, col, dd, k0, k1, k2, k3, k5, hC, hbm⟩ := lostB_ok T.cls
  obtain ⟨oc, od, dV, kV, doc, pm, an, cda, ct, osl, cc, ccl, cdd, vs, ccs, file, tf, cl, cld, csl, hfn, hcd, hcode, hvs, hfile, hcell, rfl⟩ := T.fn
  have hcl : clsIn K C = some { name := nm, bases := bs, mro := .ref C :: bm, ns := N, qualname := qn, hasDict := true, slotNames := sn, subclasses := sub, abstract := ab, collection := col, hasDel := false } := by unfold clsIn; rw [hC] <;> rfl
  refine ks_codeAny_call_defAt (fd := ksFn "__init__" qual params _ (lsc ns) .none kV doc pm an (.ref cda) ct cc) (binds := [(("self" : Str), .ref x), (f, v)]) hroom (X _ _ hfn) rfl hlim (codeRec_of X hcd) rfl (BindsTo.of_eq (hbd ..)) S.nocell (fun y hy => ?_) (fun h₁ hn k => ?_) rfl rfl rfl
  · rcases List.mem_cons.mp hy with rfl | hy
    · exact S.loc _ (by simp)
    · rcases List.mem_cons.mp hy with rfl | hy
      · exact S.loc _ (by simp)
      · cases hy
  have hs : (fun y => ([(("self" : Str), Value.ref x), (f, v)] : List (Str × Value)).reverse.lookup y) "self" = some (.ref x) := by
    show List.lookup ("self" : Str) [(f, v), (("self" : Str), .ref x)] = _
    have e : (("self" : Str) == f) = false := by rw [beq_eq_false_iff_ne] at hf ⊢; exact fun z => hf z.symm
    simp [List.lookup, e]
  have hfv : (fun y => ([(("self" : Str), Value.ref x), (f, v)] : List (Str × Value)).reverse.lookup y) f = some v := by
    show List.lookup f [(f, v), (("self" : Str), .ref x)] = _
    simp [List.lookup]
  have kn : ∀ {a : Addr} {mm : Str → Option Value}, s.heap.Ns a mm → h₁.Ns a mm := fun h => h.keeps k
  refine ks_wpAt_execs_cons (super_init T S (s := ⟨h₁, _, _, _, _⟩) (X.keeps k) ⟨let ⟨mg, h1, h2⟩ := G.g; ⟨mg, kn h1, h2⟩, let ⟨mg, h1, h2⟩ := G.b; ⟨mg, kn h1, h2⟩, G.top⟩ hfn hcode hvs hfile hcell hev (by simp) hn hs (k _ _ hx) fun h2 t1 tk2 k2 hx2 => ?_)
  dsimp only
  have hxL : s.heap.objs.size ≠ x := Nat.ne_of_gt (Heap.lt_size hx)
  have X2 : K.In h2 := fun a o e => k2 a o (fun z => by rw [z, hnx] at e; cases e) (k _ _ (X a o e))
  have hn2 : h2.Ns s.heap.objs.size (fun y => ([(("self" : Str), Value.ref x), (f, v)] : List (Str × Value)).reverse.lookup y) := hn.at fun o q => k2 _ _ hxL q
  refine ks_wpAt_execs_cons (ks_wpAt_Assign_Attr ?_ rfl)
  refine wpAt_of_wpAny ?_
  refine ldK (s := ⟨h2, _, _, _, _⟩) (name := qual) (a := fI) (cd := .ref cda) (cc := cc) (x := f) (v := v) hn2 hfv (S.loc _ (by simp)) ?_ hfd
  refine ldK (s := ⟨h2, _, _, _, _⟩) (name := qual) (a := fI) (cd := .ref cda) (cc := cc) (x := ("self" : Str)) (v := .ref x) hn2 hs (S.loc _ (by simp)) ?_ (by decide)
  refine set_plain X2 (ox := excO C t1) (od := none) ⟨hx2, rfl, rfl, trivial⟩ T.sa ?_
  refine exc_osa X2 hx2 hcl (show refsVE (.ref C :: bm) = true from hbm) rfl hno (fun h3 tk3 dx k3' dn dne hx3 hn3 => ?_)
  have z : s.heap.objs.size < h2.objs.size := hn2.lt
  refine wpAt_of_wpAny (wpAny_execs_nil (hq h3 tk3 t1 dx ⟨fun b o hb e => k3' b o hb (k2 b o hb (k b o e)), hx3, Nat.le_of_lt (Nat.lt_of_lt_of_le z dn), dne, ?_⟩))
  have e : nsOf [(f, v)] = fun y => if y = f then some v else none := rfl
  rw [e]; exact hn3
theorem lost_init2 {m f g : Str} {j : Nat} {a1 a2 a3 a4 a5 a6 q1 q2 q3 q4 r1 r2 r3 r4 : Pos} (T : LostC prog K C fI qual params [supS m j a1 a2 a3 a4 a5 a6, stoS f f q1 q2 q3 q4, stoS g g r1 r2 r3 r4] ns) (S : LostS ["self", f, g] params ns)
    (hbd : ∀ (kV doc pm : Value) (an : Option Addr) (cdv ct : Value) (cc : Addr) (u v z : Value), bindArgs (ksFn "__init__" qual params [supS m j a1 a2 a3 a4 a5 a6, stoS f f q1 q2 q3 q4, stoS g g r1 r2 r3 r4] (lsc ns) .none kV doc pm an cdv ct cc) ⟨[u, v, z], []⟩ = pure [(("self" : Str), u), (f, v), (g, z)])
    (hf : (f == ("self" : Str)) = false) (hg : (g == ("self" : Str)) = false) (hfg : (f == g) = false) (hfd : (f == ("__debug__" : Str)) = false) (hgd : (g == ("__debug__" : Str)) = false) (hno : findIn K (.ref C) f = some none) (hno2 : findIn K (.ref C) g = some none) (hev : EvE m j a1 a2 a3 a4 a5 ns)
    {s : Shared} {x t0 : Addr} {v y0 : Value} (X : K.In s.heap) (hlim : s.heap.NoLimit) (G : SupG prog s.heap) (hx : s.heap.get? x = some (excO C t0)) (hnx : K.lookup x = none) (hroom : A.depth < recursionLimit)
    (hq : ∀ h' tk t1 dx, InitEnd s.heap h' x C [(g, y0), (f, v)] t1 dx → R (.ok (.ret .none)) { s with heap := h', toks := tk }) :
    codeAny (model prog w) A (.call (.ref fI) ⟨[.ref x, v, y0], []⟩) R s := by
  obtain ⟨nm, qn, N, bs, bm, sn, sub, ab, col, dd, k0, k1, k2, k3, k5, hC, hbm⟩ := lostB_ok T.cls
  obtain ⟨oc, od, dV, kV, doc, pm, an, cda, ct, osl, cc, ccl, cdd, vs, ccs, file, tf, cl, cld, csl, hfn, hcd, hcode, hvs, hfile, hcell, rfl⟩ := T.fn
  have hcl : clsIn K C = some { name := nm, bases := bs, mro := .ref C :: bm, ns := N, qualname := qn, hasDict := true, slotNames := sn, subclasses := sub, abstract := ab, collection := col, hasDel := false } := by unfold clsIn; rw [hC] <;> rfl
  refine ks_codeAny_call_defAt (fd := ksFn "__init__" qual params _ (lsc ns) .none kV doc pm an (.ref cda) ct cc) (binds := [(("self" : Str), .ref x), (f, v), (g, y0)]) hroom (X _ _ hfn) rfl hlim (codeRec_of X hcd) rfl (BindsTo.of_eq (hbd ..)) S.nocell (fun y hy => ?_) (fun h₁ hn k => ?_) rfl rfl rfl
  · rcases List.mem_cons.mp hy with rfl | hy
    · exact S.loc _ (by simp)
    · rcases List.mem_cons.mp hy with rfl | hy
      · exact S.loc _ (by simp)
      · rcases List.mem_cons.mp hy with rfl | hy
        · exact S.loc _ (by simp)
        · cases hy
  have e1 : (("self" : Str) == f) = false := by rw [beq_eq_false_iff_ne] at hf ⊢; exact fun z => hf z.symm
  have e2 : (("self" : Str) == g) = false := by rw [beq_eq_false_iff_ne] at hg ⊢; exact fun z => hg z.symm
  have hs : (fun y => ([(("self" : Str), Value.ref x), (f, v), (g, y0)] : List (Str × Value)).reverse.lookup y) "self" = some (.ref x) := by
    show List.lookup ("self" : Str) [(g, y0), (f, v), (("self" : Str), .ref x)] = _
    simp [List.lookup, e1, e2]
  have hfv : (fun y => ([(("self" : Str), Value.ref x), (f, v), (g, y0)] : List (Str × Value)).reverse.lookup y) f = some v := by
    show List.lookup f [(g, y0), (f, v), (("self" : Str), .ref x)] = _
    simp [List.lookup, hfg]
  have hgv : (fun y => ([(("self" : Str), Value.ref x), (f, v), (g, y0)] : List (Str × Value)).reverse.lookup y) g = some y0 := by
    show List.lookup g [(g, y0), (f, v), (("self" : Str), .ref x)] = _
    simp [List.lookup]
  have kn : ∀ {a : Addr} {mm : Str → Option Value}, s.heap.Ns a mm → h₁.Ns a mm := fun h => h.keeps k
  refine ks_wpAt_execs_cons (super_init T S (s := ⟨h₁, _, _, _, _⟩) (X.keeps k) ⟨let ⟨mg, h1, h2⟩ := G.g; ⟨mg, kn h1, h2⟩, let ⟨mg, h1, h2⟩ := G.b; ⟨mg, kn h1, h2⟩, G.top⟩ hfn hcode hvs hfile hcell hev (by simp) hn hs (k _ _ hx) fun h2 t1 tk2 k2 hx2 => ?_)
  dsimp only
  have hxL : s.heap.objs.size ≠ x := Nat.ne_of_gt (Heap.lt_size hx)
  have X2 : K.In h2 := fun a o e => k2 a o (fun z => by rw [z, hnx] at e; cases e) (k _ _ (X a o e))
  have hn2 : h2.Ns s.heap.objs.size (fun y => ([(("self" : Str), Value.ref x), (f, v), (g, y0)] : List (Str × Value)).reverse.lookup y) := hn.at fun o q => k2 _ _ hxL q
  refine ks_wpAt_execs_cons (ks_wpAt_Assign_Attr ?_ rfl)
  refine wpAt_of_wpAny ?_
  refine ldK (s := ⟨h2, _, _, _, _⟩) (name := qual) (a := fI) (cd := .ref cda) (cc := cc) (x := f) (v := v) hn2 hfv (S.loc _ (by simp)) ?_ hfd
  refine ldK (s := ⟨h2, _, _, _, _⟩) (name := qual) (a := fI) (cd := .ref cda) (cc := cc) (x := ("self" : Str)) (v := .ref x) hn2 hs (S.loc _ (by simp)) ?_ (by decide)
  refine set_plain X2 (ox := excO C t1) (od := none) ⟨hx2, rfl, rfl, trivial⟩ T.sa ?_
  refine exc_osa X2 hx2 hcl (show refsVE (.ref C :: bm) = true from hbm) rfl hno (fun h3 tk3 dx k3' dn dne hx3 hn3 => ?_)
  dsimp only
  have z : s.heap.objs.size < h2.objs.size := hn2.lt
  have X3 : K.In h3 := fun a o e => k3' a o (fun z => by rw [z, hnx] at e; cases e) (X2 a o e)
  have hn3' : h3.Ns s.heap.objs.size (fun y => ([(("self" : Str), Value.ref x), (f, v), (g, y0)] : List (Str × Value)).reverse.lookup y) := hn2.at fun o q => k3' _ _ hxL q
  refine ks_wpAt_execs_cons (ks_wpAt_Assign_Attr ?_ rfl)
  refine wpAt_of_wpAny ?_
  refine ldK (s := ⟨h3, _, _, _, _⟩) (name := qual) (a := fI) (cd := .ref cda) (cc := cc) (x := g) (v := y0) hn3' hgv (S.loc _ (by simp)) ?_ hgd
  refine ldK (s := ⟨h3, _, _, _, _⟩) (name := qual) (a := fI) (cd := .ref cda) (cc := cc) (x := ("self" : Str)) (v := .ref x) hn3' hs (S.loc _ (by simp)) ?_ (by decide)
  have hw : Within (fun y => if y = f then some v else none) [f] := fun y hy => by
    by_cases e : y = f
    · rw [e]; simp
    · exact absurd (if_neg e) hy
  obtain ⟨oD, _, _, hoD, _, _⟩ := hn3.count hw
  refine set_plain X3 (ox := { cls := .ref C, dict := some dx, data := .fields #[.ref t1, .none, .none, .none, .bool false, .none] }) (od := some oD) ⟨hx3, rfl, rfl, hoD⟩ T.sa ?_
  refine OEX.osa_old X3 hx3 hn3 hw (by show 1 ≤ 1000; omega) hcl (show refsVE (.ref C :: bm) = true from hbm) rfl hno2 (fun h4 tk4 k4' hn4 => ?_)
  dsimp only
  have old : ∀ b o, s.heap.get? b = some o → b ≠ dx := fun b o e => Nat.ne_of_lt (Nat.lt_of_lt_of_le (Nat.lt_of_lt_of_le (Heap.lt_size e) (Nat.le_of_lt z)) dn)
  refine wpAt_of_wpAny (wpAny_execs_nil (hq h4 tk4 t1 dx ⟨fun b o hb e => k4' b o (old b o e) (k3' b o hb (k2 b o hb (k b o e))), k4' _ _ (Ne.symm dne) hx3, Nat.le_of_lt (Nat.lt_of_lt_of_le z dn), dne, ?_⟩))
  have e : nsOf [(g, y0), (f, v)] = fun y => if y = g then some y0 else (fun y => if y = f then some v else none) y := rfl
  rw [e]; exact hn4
/-- a made one -/
structure Made (h h' : Heap) (e C d : Addr) (fs : List (Str × Value)) : Prop where
  keep : ∀ b o, h.get? b = some o → h'.get? b = some o
  new : h.objs.size ≤ e
  obj : ∃ oe vs, h'.get? e = some oe ∧ oe.cls = .ref C ∧ oe.dict = some d ∧ oe.data = .fields vs ∧ vs[1]? = some .none
  dbig : h.objs.size ≤ d
  dne : d ≠ e
  ns : h'.Ns1 d (nsOf fs)
/-- what an __init__ keeps -/
def InitOk (prog : Program) (w : World) (K : Frag) (C fI : Addr) (us : List Value) (fs : List (Str × Value)) : Prop :=
  ∀ (A : Around) (R : Result → Shared → Prop) (s : Shared) (x t0 : Addr), K.In s.heap → s.heap.NoLimit → SupG prog s.heap → s.heap.get? x = some (excO C t0) → K.lookup x = none → A.depth < recursionLimit →
    (∀ h' tk t1 dx, InitEnd s.heap h' x C fs t1 dx → R (.ok (.ret .none)) { s with heap := h', toks := tk }) → codeAny (model prog w) A (.call (.ref fI) ⟨.ref x :: us, []⟩) R s
theorem lost_made (T : LostC prog K C fI qual params body ns) {us : List Value} {fs : List (Str × Value)} (L : InitOk prog w K C fI us fs) (hz : us.length ≤ sizeLine) {s : Shared} (X : K.In s.heap) (hlim : s.heap.NoLimit) (G : SupG prog s.heap) (hroom : A.depth + 1 < recursionLimit)
    (hq : ∀ h' tk e d, Made s.heap h' e C d fs → R (.ok (.ret (.ref e))) { s with heap := h', toks := tk }) :
    codeAny (model prog w) A (.call (.ref C) ⟨us, []⟩) R s := by
  obtain ⟨nm, q, N, bs, bm, sn, sub, ab, col, dd, k0, k1, k2, k3, k5, hC, hbm⟩ := lostB_ok T.cls
  obtain ⟨hp, g, dr, tk, os⟩ := s
  have k : ∀ b o, hp.get? b = some o → ((hp.push (kdv_tup us)).push (excO C hp.objs.size)).get? b = some o := fun b o e => Heap.get?_push_of_some _ (Heap.get?_push_of_some _ e)
  have hget : ((hp.push (kdv_tup us)).push (excO C hp.objs.size)).get? (hp.objs.size + 1) = some (excO C hp.objs.size) := by heap_get
  have hnx : K.lookup (hp.objs.size + 1) = none := by
    cases e : K.lookup (hp.objs.size + 1) with
    | none => rfl
    | some o =>
      have z : hp.get? (hp.objs.size + 1) = some o := X _ _ e
      exact absurd (Nat.lt_of_succ_lt (Heap.lt_size z)) (Nat.lt_irrefl _)
  refine call_own F.excBase_ValueError (fun X => refsVE_contains X bm hbm) (X _ _ hC) (looks_findIn X T.iC) (fun self => bind_fn X self T.tC) hz ?_
  refine L _ _ ⟨(hp.push (kdv_tup us)).push (excO C hp.objs.size), g, dr, tk, os⟩ _ _ (X.keeps k) (hlim.keeps k) ⟨let ⟨mg, h1, h2⟩ := G.g; ⟨mg, h1.keeps k, h2⟩, let ⟨mg, h1, h2⟩ := G.b; ⟨mg, h1.keeps k, h2⟩, G.top⟩ hget hnx ?_ fun h' tk' t1 dx ⟨k', hx, dn, dne, hns⟩ => ?_
  · show A.depth + 1 < recursionLimit
    exact hroom
  · have old : ∀ b o, hp.get? b = some o → h'.get? b = some o := fun b o e => k' b o (Nat.ne_of_lt (Nat.lt_succ_of_lt (Heap.lt_size e))) (k b o e)
    have z : hp.objs.size + 1 + 1 ≤ dx := by
      first
        | (simpa only [Heap.size_push] using dn)
        | exact dn
        | (have q := dn; rw [Heap.size_push, Heap.size_push] at q; exact q)
    exact ⟨rfl, hq h' tk' (hp.objs.size + 1) dx ⟨old, Nat.le_succ _, ⟨_, _, hx, rfl, rfl, rfl, rfl⟩, Nat.le_trans (Nat.le_trans (Nat.le_succ _) (Nat.le_succ _)) z, dne, hns⟩⟩
end
end LostX
end PySem
set_option maxHeartbeats 2000000
/-! DL11: raise, try. -/
namespace DL
open PySem PySem.Spec PyProof.Rows L2
/-- an exception's values under its names -/
def xfs {α : Type} (names : List Str) (vs : List α) : List (Str × α) := (names.zip vs).reverse
theorem relO_xfs : ∀ {l : List (Str × V)} {m : List (Str × Value)}, l.length = m.length → (∀ (i : Nat) (p : Str × V) (q : Str × Value), l[i]? = some p → m[i]? = some q → p.1 = q.1 ∧ RelV p.2 q.2) → ∀ f, RelO (l.lookup f) (PySem.LostX.nsOf m f)
  | [], [], _, _, f => True.intro
  | [], _ :: _, h, _, _ => by cases h
  | _ :: _, [], h, _, _ => by cases h
  | (a, v) :: l, (b, u) :: m, h, r, f => by
    obtain ⟨e, rv⟩ := r 0 _ _ rfl rfl
    dsimp only at e rv
    subst e
    rw [List.lookup_cons]
    unfold PySem.LostX.nsOf
    by_cases q : f = a
    · subst q
      rw [if_pos rfl]
      simp only [beq_self_eq_true]
      exact rv
    · have q2 : (f == a) = false := by simpa using q
      rw [if_neg q, q2]
      exact relO_xfs (Nat.succ.inj h) (fun i p q h1 h2 => r (i + 1) p q h1 h2) f
theorem vals_zip {names : List Str} : ∀ {vs : List V} {us : List Value}, Vals vs us → ∀ (i : Nat) (p : Str × V) (q : Str × Value), (names.zip vs)[i]? = some p → (names.zip us)[i]? = some q → p.1 = q.1 ∧ RelV p.2 q.2 := by
  induction names with
  | nil => intro vs us _ i p q h; simp at h
  | cons n names ih =>
    intro vs us r i p q h1 h2
    cases r with
    | nil => simp at h1
    | cons rv r =>
      cases i with
      | zero => simp at h1 h2; subst h1 h2; exact ⟨rfl, rv⟩
      | succ i => exact ih r i p q (by simpa using h1) (by simpa using h2)
theorem relO_xf {names : List Str} {vs : List V} {us : List Value} (r : Vals vs us) : ∀ f, RelO ((xfs names vs).lookup f) (PySem.LostX.nsOf (xfs names us) f) := by
  have hl : (xfs names vs).length = (xfs names us).length := by unfold xfs; simp [r.length]
  refine relO_xfs hl fun i p q h1 h2 => ?_
  unfold xfs at h1 h2 hl
  have hi := (List.getElem?_eq_some_iff.mp h1).1
  have hi2 := (List.getElem?_eq_some_iff.mp h2).1
  rw [List.length_reverse] at hi hi2
  rw [List.getElem?_reverse hi] at h1
  rw [List.getElem?_reverse hi2] at h2
  have e : (names.zip us).length = (names.zip vs).length := by simpa using hl.symm
  rw [e] at h2
  exact vals_zip r _ p q h1 h2
/-- C(e, ..): its class's promise -/
structure LostM (prog : Program) (w : World) (K : PySem.W.Frag) (mg : Str → Option Value) (x : Str) (names : List Str) : Prop where
  ex : ∃ fI qual params body ns, PySem.LostX.LostC prog K (ga K x) fI qual params body ns ∧ ∀ us : List Value, us.length = names.length → PySem.LostX.InitOk prog w K (ga K x) fI us (xfs names us)
  gx : mg x = some (.ref (ga K x))
  sup : mg "super" = none
  top : (prog.main.scope.names.lookup ("super" : Str)).isSome = false
def tMkL (C : Addr) (names : List Str) (ta : TA) : L2.St → Hp → XK → Prop := fun σ H Q => ta σ H fun vs H1 => (vs.length = names.length ∧ names.length ≤ 1000) ∧ ∀ d, H1 d = none → Q (.ref C) (some d) (upd H1 d (.xd (xfs names vs)))
section
variable {X : Cx} {W : WX} {k : Nat} {x : Str} {names : List Str} {e : Expr} {es : List Expr} {ta : TA} {p pos pos2 : Pos}
theorem pmk_lost (T : LostM X.prog X.w X.K X.mg x names) (hr : Room k X.A) (ha : PA X (e :: es) ta) (hg : Gl X x) (hdb : (x == ("__debug__" : Str)) = false)
    (he : starEach (e :: es) X.env = (false, eval e X.env) :: starEach es X.env) (hpl : (backTo pos (starEach es X.env)).any (·.1) = false) :
    PMk X (.Call (.Name x p) (e :: es) [] pos) (tMkL (ga X.K x) names ta) := by
  intro pins s σ H Q I h
  obtain ⟨fI, qual, params, body, ns, TC, TI⟩ := T.ex
  refine wpAny_Call_Name_kw (ld_glob I hg T.gx ?_ hdb)
  refine PySem.W.callWith_K (h₀ := X.base) I.ok.mod.kin TC.kC (thn (ha.run pos pins s σ H _ I h) fun us s1 ⟨vs, H1, I1, r1, hz, q1⟩ => ⟨I1.kIn, ?_⟩) he hpl
  show wpAny _ _ (call (.ref (ga X.K x)) us) _ _ _
  have hlim := I1.nolimit
  have hb := I1.bk
  have hl : us.length = names.length := by rw [← r1.length]; exact hz.1
  obtain ⟨mb, h1, h2⟩ := I1.mod.blt
  have G : PySem.LostX.SupG X.prog s1.heap := ⟨⟨X.mg, I1.mod.glob.keeps hb, T.sup⟩, ⟨mb, h1.keeps hb, (h2 _ (by decide)).trans PyProof.Rows.Boot.«super»⟩, T.top⟩
  obtain ⟨hp, g, dr, tk, os⟩ := s1
  refine wpAny_call (PySem.LostX.lost_made TC (TI us hl) (by rw [hl, sizeLine_eq]; omega) I1.kIn hlim G (by have := hr.dp; omega) fun h' tk' ea d M => ?_)
  show MkP X pins σ Q (.ref ea) ⟨h', g, dr, tk', os⟩
  obtain ⟨oe, fv, hoe, hc, hd, hdat, h1⟩ := M.obj
  have hns := M.ns
  obtain ⟨G', g1, g2⟩ := restrict h' fun b => decide (b ≠ ea)
  have gk : ∀ b, b ≠ ea → G'.get? b = h'.get? b := fun b hb => g1 b (decide_eq_true hb)
  have ge : G'.get? ea = none := g2 ea (by simp)
  have old : ∀ b o, hp.get? b = some o → G'.get? b = some o := fun b o q => (gk b (Nat.ne_of_lt (Nat.lt_of_lt_of_le (Heap.lt_size q) M.new))).trans (M.keep b o q)
  have ob : ObjOk X.prog X.w (upd H1 d (.xd (xfs names vs))) G' d (.xd (xfs names vs)) :=
    ⟨_, hns.at (fun o q => (gk d M.dne).trans q), relO_xf r1⟩
  have J : Inv X pins σ (upd H1 d (.xd (xfs names vs))) ⟨G', g, dr, tk', os⟩ := I1.laid (t' := tk') old M.dbig ob
  refine ⟨ea, oe, fv, ⟨G', g, dr, tk', os⟩, _, .ref (ga X.K x), some d, rfl, J, fun b o q => ?_, ge, hoe, ⟨hc, hd⟩, hdat, h1, ?_, rfl, I1.bare, raises_own TC.exC TC.tyC, q1 d (I1.hok.fresh M.dbig)⟩
  · by_cases hb : b = ea
    · have q' : G'.get? b = some o := q
      rw [hb, ge] at q'; cases q'
    · exact (gk b hb).symm.trans q
  · rw [upd_ne (Ne.symm M.dne)]
    exact I1.hok.fresh M.new
end
theorem repF_zip {K : PySem.W.Frag} {I : Hp} : ∀ {names : List Str} {ds : List D} {vs : List V}, Reps K I ds vs → RepF K I (names.zip ds) (names.zip vs)
  | [], _, _, _ => by simp; exact .nil
  | _ :: _, [], [], .nil => by simp; exact .nil
  | n :: ns, _ :: _, _ :: _, .cons h r => .cons h (repF_zip r)
theorem repF_append {K : PySem.W.Frag} {I : Hp} : ∀ {a : List (Str × D)} {b : List (Str × V)} {a2 : List (Str × D)} {b2 : List (Str × V)}, RepF K I a b → RepF K I a2 b2 → RepF K I (a ++ a2) (b ++ b2)
  | _, _, _, _, .nil, s => s
  | _, _, _, _, .cons h r, s => .cons h (repF_append r s)
theorem repF_reverse {K : PySem.W.Frag} {I : Hp} : ∀ {a : List (Str × D)} {b : List (Str × V)}, RepF K I a b → RepF K I a.reverse b.reverse
  | _, _, .nil => .nil
  | _, _, .cons h r => by rw [List.reverse_cons, List.reverse_cons]; exact repF_append (repF_reverse r) (.cons h .nil)
/-- raise C(e, ..) -/
def throwD (x : Str) (names : List Str) (ds : List D) : M Fl := guardM (decide (ds.length = names.length)) fun δ => .er ⟨x, xfs names ds⟩ δ
def raiseD (x : Str) (names : List Str) (ma : M (List D)) : M Fl := ma >>= throwD x names
section
variable {X : Cx} {W : WX} {P k : Nat} {x : Str} {names : List Str} {e : Expr} {es : List Expr} {ma : M (List D)} {p pos pos2 : Pos}
theorem ds_raise (c : Ctx X W k) (T : LostM X.prog X.w X.K X.mg x names) (ha : DA X W (e :: es) ma) (hn : names.length ≤ 1000 := by decide) (hg : Gl X x := by rfl) (hdb : (x == ("__debug__" : Str)) = false := by decide)
    (he : starEach (e :: es) X.env = (false, eval e X.env) :: starEach es X.env := by rfl) (hpl : (backTo pos (starEach es X.env)).any (·.1) = false := by rfl) :
    DS X W P (.Raise (some (.Call (.Name x p) (e :: es) [] pos)) none pos2) (raiseD x names ma) := by
  refine PS.weak (ps_raise c.calm c.tk (pmk_lost T c.room ha hg hdb he hpl)) fun D σ H ⟨I, δ, en, g⟩ => ?_
  refine goS_bindA en g fun ds vs I1 H1 δ1 n1 r1 g1 => ?_
  obtain ⟨hl, g2⟩ := GoS.guardP g1
  exact ⟨⟨by rw [← r1.length]; exact hl, hn⟩, fun d hd => g2 _ _ σ I1 _ (Nxt.toS (Nxt.beside n1.env hd)) ⟨rfl, .inr ⟨d, _, rfl, upd_same .., repF_reverse (repF_zip r1)⟩⟩⟩
end
end DL
set_option maxHeartbeats 2000000
/-! DL12: [e for x in it if c]. -/
namespace DL
open PySem PySem.Spec PyProof.Rows L2
abbrev W0 : WX := fun _ _ _ _ => False
theorem Ctx.blk {X : Cx} {W : WX} {k : Nat} (c : Ctx X W k) (s : Shared) (H : Hp) (scope : Scope) (cenv : PySem.Env) (fp : List Addr) : Ctx (X.blk s H scope cenv fp) W0 k :=
  ⟨c.room, fun u s' ⟨_, _, _, _, _, _, _, _, _, _, _, _, _, _, _, _, w⟩ => w, c.calm, PassesOwn.never, c.nd⟩
/-- the turns -/
def lcLoop (j : Nat) (tt : M Bool) (me : M D) : List D → List D → M (List D)
  | [], acc => pure acc
  | d :: ds, acc => fun δ => match tt (δ.set j (.va d)) with
    | .ok true δ3 => (match me δ3 with
      | .ok y δ4 => if szOk acc.length then lcLoop j tt me ds (acc ++ [y]) (δ4.set j .un) else .st
      | _ => .st)
    | .ok false δ3 => lcLoop j tt me ds acc (δ3.set j .un)
    | _ => .st
/-- the block ends: the slot is as it was ahead of it -/
def lcEnd (j : Nat) (s : Sl) : Rs (List D) → Rs (List D)
  | .ok ys δ2 => .ok ys (δ2.set j s)
  | _ => .st
def lcRun (j : Nat) (tt : M Bool) (me : M D) (ds : List D) : M (List D) := fun δ => match δ[j]? with
  | some s => lcEnd j s (lcLoop j tt me ds [] (δ.set j .un))
  | none => .st
def lcM (j : Nat) (mi : M (List D)) (tt : M Bool) (me : M D) : M (List D) := mi >>= lcRun j tt me
section
variable {K : PySem.W.Frag} {W : WX} {σ : L2.St} {I H I1 H1 I' H' : Hp} {δ δ1 δ' : En} {j : Nat}
theorem set_get_ne {α : Type} {l : List α} {i j : Nat} {x : α} (h : j ≠ i) : (l.set i x)[j]? = l[j]? := List.getElem?_set_ne (Ne.symm h)
theorem ownAt_un {τ : L2.St} {i : Nat} {a : Addr} (h : OwnAt (δ.set j .un) τ i a) : i ≠ j ∧ OwnAt δ τ i a := by
  obtain ⟨⟨t, ht, hto⟩, hb⟩ := h
  rcases set_at ht with ⟨e, q⟩ | ⟨ne, q⟩
  · subst q; exact hto.elim
  · exact ⟨ne, ⟨t, q, hto⟩, hb⟩
theorem ownAt_st {x : Option V} {i : Nat} {a : Addr} (hi : i ≠ j) : OwnAt δ (σ.set j x) i a ↔ OwnAt δ σ i a := by
  unfold OwnAt
  rw [set_get_ne hi]
/-- the block's own name is forgotten -/
theorem env_wipe (en : Env K I H σ δ) (j : Nat) (x : Option V) : Env K I H (σ.set j x) (δ.set j .un) where
  ext := en.ext
  len := by rw [List.length_set, List.length_set]; exact en.len
  at_ := fun i s o h1 h2 => by
    rcases set_at h1 with ⟨e, q⟩ | ⟨ne, q⟩
    · subst q; exact trivial
    · rw [set_get_ne ne] at h2; exact en.at_ i s o q h2
  one := fun i k a h1 h2 => by
    obtain ⟨n1, o1⟩ := ownAt_un h1
    obtain ⟨n2, o2⟩ := ownAt_un h2
    exact en.one i k a ((ownAt_st n1).mp o1) ((ownAt_st n2).mp o2)
/-- a turn, told from ahead of its store -/
theorem Nxt.unturn {x : Option V} {d : D} (n : Nxt K (σ.set j x) I H (δ.set j (.va d)) I' H' δ') : Nxt K σ I H δ I' H' (δ'.set j .un) := by
  have dn : ∀ i a, OwnAt (δ.set j (.va d)) (σ.set j x) i a → OwnAt δ σ i a := fun i a ⟨⟨t, ht, hto⟩, hb⟩ => by
    rcases set_at ht with ⟨e, q⟩ | ⟨ne, q⟩
    · subst q; exact hto.elim
    · rw [set_get_ne ne] at hb; exact ⟨⟨t, q, hto⟩, hb⟩
  have up : ∀ i a, OwnAt (δ'.set j .un) σ i a → OwnAt δ' (σ.set j x) i a := fun i a h => by
    obtain ⟨ne, o⟩ := ownAt_un h
    exact (ownAt_st ne).mpr o
  refine ⟨⟨n.env.ext, ?_, fun i s o h1 h2 => ?_, fun i k a h1 h2 => n.env.one i k a (up i a h1) (up k a h2)⟩,
    ⟨n.post.ext, fun a o e z => (n.post.fresh a o e z).imp id fun ⟨i, w⟩ => ⟨i, dn i a w⟩, fun a o e z => n.post.keep a o e fun ⟨i, w⟩ => z ⟨i, dn i a w⟩, n.post.dom⟩, fun a ⟨i, h⟩ => ?_⟩
  · have z := n.env.len
    rw [List.length_set] at z ⊢
    exact z
  · rcases set_at h1 with ⟨e, q⟩ | ⟨ne, q⟩
    · subst q; exact trivial
    · exact n.env.at_ i s o q (by rw [set_get_ne ne]; exact h2)
  · obtain ⟨i', w⟩ := n.own a ⟨i, up i a h⟩
    exact ⟨i', dn i' a w⟩
/-- the block's end, told from ahead of it -/
theorem Nxt.unwipe (en : Env K I H σ δ) {s : Sl} (hs : δ[j]? = some s) (n : Nxt K (σ.set j none) I H (δ.set j .un) I' H' δ') : Nxt K σ I H δ I' H' (δ'.set j s) := by
  have dn : ∀ i a, OwnAt (δ.set j .un) (σ.set j none) i a → i ≠ j ∧ OwnAt δ σ i a := fun i a h => by
    obtain ⟨ne, o⟩ := ownAt_un h
    exact ⟨ne, (ownAt_st ne).mp o⟩
  have jl : j < δ'.length := by
    have z := n.env.len
    rw [List.length_set] at z
    rw [← z, en.len]
    exact (List.getElem?_eq_some_iff.mp hs).1
  have up : ∀ i a, OwnAt (δ'.set j s) σ i a → (i = j ∧ OwnAt δ σ j a) ∨ (i ≠ j ∧ OwnAt δ' (σ.set j none) i a) := fun i a ⟨⟨t, ht, hto⟩, hb⟩ => by
    rcases set_at ht with ⟨e, q⟩ | ⟨ne, q⟩
    · subst e; subst q; exact .inl ⟨rfl, ⟨_, hs, hto⟩, hb⟩
    · exact .inr ⟨ne, (ownAt_st ne).mpr ⟨⟨t, q, hto⟩, hb⟩⟩
  have old : ∀ i a, i ≠ j → OwnAt δ' (σ.set j none) i a → ∃ i', i' ≠ j ∧ OwnAt δ σ i' a := fun i a ne w => by
    obtain ⟨i', w'⟩ := n.own a ⟨i, w⟩
    exact ⟨i', dn i' a w'⟩
  refine ⟨⟨n.env.ext, ?_, fun i t o h1 h2 => ?_, fun i k a h1 h2 => ?_⟩,
    ⟨n.post.ext, fun a o e z => (n.post.fresh a o e z).imp id fun ⟨i, w⟩ => ⟨i, (dn i a w).2⟩, fun a o e z => n.post.keep a o e fun ⟨i, w⟩ => z ⟨i, (dn i a w).2⟩, n.post.dom⟩, fun a ⟨i, h⟩ => ?_⟩
  · have z := n.env.len
    rw [List.length_set] at z
    rw [List.length_set]; exact z
  · rcases set_at h1 with ⟨e, q⟩ | ⟨ne, q⟩
    · subst e; subst q
      refine (en.at_ i _ o hs h2).stay n.post.ext fun a ho e u hu => n.post.kept (en.ownI ⟨i, ⟨_, hs, ho⟩, by rw [h2, e]⟩) hu fun ⟨k, w⟩ => ?_
      obtain ⟨nk, wk⟩ := dn k a w
      exact nk (en.one k i a wk ⟨⟨_, hs, ho⟩, by rw [h2, e]⟩)
    · exact n.env.at_ i t o q (by rw [set_get_ne ne]; exact h2)
  · rcases up i a h1 with ⟨e1, o1⟩ | ⟨n1, o1⟩
    · rcases up k a h2 with ⟨e2, _⟩ | ⟨n2, o2⟩
      · rw [e1, e2]
      · obtain ⟨i', ni, wi⟩ := old k a n2 o2
        exact absurd (en.one i' j a wi o1) ni
    · rcases up k a h2 with ⟨e2, o2⟩ | ⟨n2, o2⟩
      · obtain ⟨i', ni, wi⟩ := old i a n1 o1
        exact absurd (en.one i' j a wi o2) ni
      · exact n.env.one i k a o1 o2
  · rcases up i a h with ⟨_, o⟩ | ⟨ne, o⟩
    · exact ⟨j, o⟩
    · obtain ⟨i', _, wi⟩ := old i a ne o
      exact ⟨i', wi⟩
theorem goF_bindI {m : M (List D)} {f : List D → M (List D)} {Q : VK} {S : It → Hp → Prop} (en : Env K I H σ δ) (g : GoF K W (m >>= f) σ I H δ Q)
    (k : ∀ ds J I1 H1 δ1, Nxt K σ I H δ I1 H1 δ1 → ItD K I1 J ds → GoF K W (f ds) σ I1 H1 δ1 Q → S J H1) : tI K W m σ H S := by
  refine ⟨I, δ, en, ?_⟩
  have g0 := g
  unfold GoF at g
  unfold GoI
  rw [bind_eq] at g
  cases q : m δ with
  | ok d δ1 => exact fun v I' H' n r => k d v I' H' δ1 n r (g0.after n q)
  | er x δ1 => rw [q] at g; exact g
  | st => rw [q] at g; exact g
theorem lc_reads {mi : M (List D)} {tt : M Bool} {me : M D} {Q : VK} (h : tF K W (lcM j mi tt me) σ H Q) : tLc (tI K W mi) (gName j) (tDT K W0 tt) (tD K W0 me) [j] σ H Q := by
  obtain ⟨I, δ, en, g⟩ := h
  refine goF_bindI en g fun ds J I1 H1 δ1 n1 t1 g1 => ?_
  intro Da hDa
  unfold GoF lcRun at g1
  cases hs : δ1[j]? with
  | none => rw [hs] at g1; exact g1.elim
  | some s =>
    rw [hs] at g1
    dsimp only at g1
    cases hr : lcLoop j tt me ds [] (δ1.set j .un) with
    | er x δ2 => rw [hr] at g1; exact g1.elim
    | st => rw [hr] at g1; exact g1.elim
    | ok ys δ2 =>
      rw [hr] at g1
      have ew : wipe σ [j] = σ.set j none := rfl
      refine ⟨fun i k H' => k = ds.length - i ∧ i ≤ ds.length ∧ ∃ I' δ' acc accv, Nxt K (σ.set j none) I1 H1 (δ1.set j .un) I' H' δ' ∧ I' Da = none ∧ H' Da = some (.lst accv) ∧ Reps K I' acc accv ∧ lcLoop j tt me (ds.drop i) acc δ' = .ok ys δ2,
        ⟨_, rfl, Nat.zero_le _, I1, δ1.set j .un, [], [], Nxt.beside (env_wipe n1.env j none) hDa, n1.env.ext.back hDa, upd_same .., .nil, hr⟩, ?_⟩
      rintro i k H2 ⟨rfl, hi2, I2, δ', acc, accv, n2, hI2, hH2, ra, hl⟩
      have e2 : Ext I1 I2 := n2.post.ext
      have noD : ∀ {τ : L2.St} {δx : En}, (∀ a, Own δx τ a → Own (δ1.set j .un) (σ.set j none) a) → ¬ Own δx τ Da := fun hx w => (env_wipe n1.env j none).ownH (hx Da w) hDa
      by_cases hlt : i < ds.length
      · refine .inr ⟨t1.go i I2 H2 hlt e2 n2.env.ext, fun H' => i + 1 ≤ ds.length ∧ ∃ I' δ' acc accv, Nxt K (σ.set j none) I1 H1 (δ1.set j .un) I' H' δ' ∧ I' Da = none ∧ H' Da = some (.lst accv) ∧ Reps K I' acc accv ∧ lcLoop j tt me (ds.drop (i + 1)) acc δ' = .ok ys δ2,
          fun H' z => ⟨ds.length - (i + 1), by omega, rfl, z⟩, fun x H3 y => ?_⟩
        obtain ⟨d, hd, z⟩ := t1.yld i I2 H2 x H3 e2 n2.env.ext hlt y
        have ed : ds.drop i = d :: ds.drop (i + 1) := by
          rw [List.drop_eq_getElem_cons hlt]
          congr 1
          rw [List.getElem?_eq_getElem hlt] at hd
          exact Option.some.inj hd
        rw [ed] at hl
        obtain ⟨I3, n3, r3, hI3, hH3⟩ : ∃ I3, Nxt K (σ.set j none) I2 H2 δ' I3 H3 δ' ∧ Rep K I3 d x ∧ I3 Da = none ∧ H3 Da = some (.lst accv) := by
          rcases z with ⟨e, r⟩ | ⟨T, o, hT, e, r⟩
          · subst e; exact ⟨I2, .refl n2.env, r, hI2, hH2⟩
          · subst e
            have ne : Da ≠ T := ne_of_none hH2 hT
            exact ⟨_, Nxt.alloc n2.env hT, r, by rw [upd_ne ne]; exact hI2, by rw [upd_ne ne]; exact hH2⟩
        rw [ew]
        show wipe ((σ.set j none).set j (some x)) [j] = wipe σ [j] ∧ _
        have env3 := (n3.env.setVa (P := 0) r3 j (Nat.zero_le _)).env
        refine ⟨by unfold wipe wipe; rw [List.set_set, List.set_set], I3, _, env3, ?_⟩
        unfold lcLoop at hl
        -- from the turn's start
        have own3 : ∀ a, Own (δ'.set j (.va d)) ((σ.set j none).set j (some x)) a → Own (δ1.set j .un) (σ.set j none) a := fun a ⟨i0, ⟨t, ht, hto⟩, hb⟩ => by
          rcases set_at ht with ⟨e, q⟩ | ⟨ne, q⟩
          · subst q; exact hto.elim
          · rw [set_get_ne ne] at hb
            exact n2.own a ⟨i0, ⟨t, q, hto⟩, hb⟩
        have keepD : ∀ {I4 H4 : Hp} {δ4 : En}, Nxt K ((σ.set j none).set j (some x)) I3 H3 (δ'.set j (.va d)) I4 H4 δ4 → I4 Da = none ∧ H4 Da = some (.lst accv) := fun n4 => n4.post.kept hI3 hH3 (noD own3)
        have goOn : ∀ {I4 H4 : Hp} {δ4 : En}, Nxt K ((σ.set j none).set j (some x)) I3 H3 (δ'.set j (.va d)) I4 H4 δ4 → Nxt K (σ.set j none) I1 H1 (δ1.set j .un) I4 H4 (δ4.set j .un) := fun n4 => (n2.trans n3).trans n4.unturn
        unfold GoT
        cases q1 : tt (δ'.set j (.va d)) with
        | er x' δ3 => rw [q1] at hl; cases hl
        | st => rw [q1] at hl; cases hl
        | ok b δ3 =>
          rw [q1] at hl
          intro I4 H4 n4
          cases b with
          | false =>
            rw [if_neg Bool.false_ne_true]
            obtain ⟨k1, k2⟩ := keepD n4
            exact ⟨hlt, I4, δ3.set j .un, acc, accv, goOn n4, k1, k2, ra.mono (fun a o e => n4.post.ext a o (n3.post.ext a o e)), hl⟩
          | true =>
            rw [if_pos rfl]
            refine ⟨I4, δ3, n4.env, ?_⟩
            dsimp only at hl
            unfold Go
            cases q2 : me δ3 with
            | er x' δ4 => rw [q2] at hl; cases hl
            | st => rw [q2] at hl; cases hl
            | ok yv δ4 =>
              rw [q2] at hl
              dsimp only at hl
              cases q3 : szOk acc.length with
              | false => rw [q3, if_neg Bool.false_ne_true] at hl; cases hl
              | true =>
                rw [q3, if_pos rfl] at hl
                intro v I5 H5 n5 r5
                have n45 := n4.trans n5
                obtain ⟨k1, k2⟩ := keepD n45
                have ra5 : Reps K I5 acc accv := ra.mono fun a o e => n45.post.ext a o (n3.post.ext a o e)
                refine ⟨accv, k2, by rw [← ra.length]; exact szOk_lt q3, hlt, I5, δ4.set j .un, acc ++ [yv], accv ++ [v], ?_, k1, upd_same .., ra5.append (.cons r5 .nil), hl⟩
                have nn := goOn n45
                have ne : ∀ {b : Addr} {u : HO}, H1 b = some u → b ≠ Da := fun h => ne_of_none h hDa
                refine ⟨⟨fun a u h => ?_, nn.env.len, fun i s o h1 h2 => (nn.env.at_ i s o h1 h2).stay (fun _ _ h => h) fun a ho e u hu => ⟨?_, ?_⟩, nn.env.one⟩,
                  ⟨nn.post.ext, nn.post.fresh, fun a o e z => ?_, fun a h => ?_⟩, nn.own⟩
                · have hne : a ≠ Da := fun e => by subst e; rw [k1] at h; cases h
                  rw [upd_ne hne]; exact nn.env.ext a u h
                · exact nn.env.ownI ⟨i, ⟨s, h1, ho⟩, by rw [h2, e]⟩
                · have hne : a ≠ Da := fun e2 => by
                    subst e2
                    exact noD nn.own ⟨i, ⟨s, h1, ho⟩, by rw [h2, e]⟩
                  rw [upd_ne hne]; exact hu
                · rw [upd_ne (ne e)]; exact nn.post.keep a o e z
                · by_cases e : a = Da
                  · subst e; exact hDa
                  · rw [upd_ne e] at h; exact nn.post.dom a h
      · have ei : i = ds.length := by omega
        subst ei
        refine .inl ⟨t1.stop I2 H2 e2 n2.env.ext, ?_⟩
        rw [List.drop_length] at hl
        have hl2 : (Rs.ok acc δ' : Rs (List D)) = .ok ys δ2 := hl
        injection hl2 with ea eδ
        subst ea eδ
        exact g1 Da accv I2 H2 (Nxt.unwipe n1.env hs n2) hDa hI2 hH2 ra
end
section
variable {X : Cx} {W : WX} {P k : Nat} {x : Str} {j : Nat} {elt iter cnd : Expr} {scope : Scope} {mi : M (List D)} {tt : M Bool} {me : M D} {p pos spos : Pos}
abbrev blkX (X : Cx) (s : Shared) (H : Hp) (scope : Scope) (C : Addr) (cl : List (Str × Addr)) (fp : List Addr) : Cx := X.blk s H scope (compEnvC scope cl C X.env) fp
theorem pg_blk {s : Shared} {H : Hp} {C : Addr} {cl : List (Str × Addr)} {fp : List Addr} (hN : X.N.Nodup) (hi : X.N[j]? = some x) (hx : ∀ cl C, Loc (compEnvC scope cl C X.env).scope x) (hf : scope.names.lookup x = some .cell ∨ ∀ cl C, (compEnvC scope cl C X.env).scope.names.lookup x = some .local) :
    PG (blkX X s H scope C cl fp) (.Name x p) (gName j) := by
  refine pg_name hN hi (hx cl C) ?_
  rcases hf with h | h
  · exact .inl (by show (scope.names.lookup x == some NameKind.cell) = true; rw [h]; rfl)
  · exact .inr (h cl C)
theorem PTs.weak {ifs : List Expr} {t t' : TT} (h : PTs X ifs t) (w : ∀ σ H Q, t' σ H Q → t σ H Q) : PTs X ifs t' := ⟨fun pins s σ H Q I hw => h.run pins s σ H Q I (w σ H Q hw)⟩
theorem pts_yes {W : WX} : PTs X [] (tDT X.K W (pure true)) := PTs.weak pts_nil fun σ H Q ⟨I, δ, en, g⟩ => GoT.val0 g en
theorem f_lc (c : Ctx X W k) (ok : BlkOk X.N X.env.scope scope [(x, j)]) (hi : DI X W (.Name x p) iter mi) (he : ∀ s H C cl fp, Ctx (blkX X s H scope C cl fp) W0 k → DE (blkX X s H scope C cl fp) W0 elt me)
    (hN : X.N[j]? = some x := by rfl) (hx : ∀ cl C, Loc (compEnvC scope cl C X.env).scope x := by first | exact fun _ _ => Or.inl rfl | exact fun _ _ => Or.inr rfl)
    (hf : scope.names.lookup x = some .cell ∨ ∀ cl C, (compEnvC scope cl C X.env).scope.names.lookup x = some .local := by first | exact .inr fun _ _ => rfl | exact .inl rfl) (hs : ∀ x, foldedSetIterable iter X.env x = pure x := by intro _; rfl) :
    DF X W (.ListComp elt [⟨.Name x p, iter, [], 0⟩] scope pos) (lcM j mi (pure true) me) := by
  exact PE.weak (pe_lc (own := [(x, j)]) c.calm c.nd hi ok (fun s H C cl fp => pg_blk c.nd hN hx hf) (fun s H C cl fp => pts_yes) (fun s H C cl fp => he s H C cl fp (c.blk ..)) hs) fun σ H Q h => lc_reads h
theorem f_lcIf (c : Ctx X W k) (ok : BlkOk X.N X.env.scope scope [(x, j)]) (hi : DI X W (.Name x p) iter mi) (ht : ∀ s H C cl fp, Ctx (blkX X s H scope C cl fp) W0 k → DT (blkX X s H scope C cl fp) W0 cnd tt) (he : ∀ s H C cl fp, Ctx (blkX X s H scope C cl fp) W0 k → DE (blkX X s H scope C cl fp) W0 elt me)
    (hN : X.N[j]? = some x := by rfl) (hx : ∀ cl C, Loc (compEnvC scope cl C X.env).scope x := by first | exact fun _ _ => Or.inl rfl | exact fun _ _ => Or.inr rfl)
    (hf : scope.names.lookup x = some .cell ∨ ∀ cl C, (compEnvC scope cl C X.env).scope.names.lookup x = some .local := by first | exact .inr fun _ _ => rfl | exact .inl rfl) (hs : ∀ x, foldedSetIterable iter X.env x = pure x := by intro _; rfl) :
    DF X W (.ListComp elt [⟨.Name x p, iter, [cnd], 0⟩] scope pos) (lcM j mi tt me) := by
  exact PE.weak (pe_lc (own := [(x, j)]) c.calm c.nd hi ok (fun s H C cl fp => pg_blk c.nd hN hx hf) (fun s H C cl fp => pts_one (ht s H C cl fp (c.blk ..))) (fun s H C cl fp => he s H C cl fp (c.blk ..)) hs) fun σ H Q h => lc_reads h
/-- y = [..] on one line -/
theorem ds_of_f {i : Nat} {y : Str} {st : Stmt} {t : TE} {mf : M (List D)} (hP : P ≤ i) (h : PS X st (tAsg t (gName i))) (w : ∀ σ H Q, tF X.K W mf σ H Q → t σ H Q) : DS X W P st (setF i mf) := by
  refine PS.weak h fun D σ H ⟨I, δ, en, g⟩ => w σ H _ ⟨I, δ, en, ?_⟩
  unfold GoS setF at g
  unfold GoF
  rw [bind_eq] at g
  cases q : mf δ with
  | ok ds δ1 => rw [q] at g; exact fun a vs I' H' n h0 h1 h2 r => g _ I' H' (en.setOw n h0 h1 h2 r i hP)
  | er x δ1 => rw [q] at g; exact fun c dd I' H' n r => g c dd σ I' H' n.toS r
  | st => rw [q] at g; exact g
theorem ds_of_d {i : Nat} {st : Stmt} {t : TE} {mf : M (List D)} (hP : P ≤ i) (h : PS X st (tAsg t (gName i))) (w : ∀ σ H Q, tF X.K W mf σ H Q → t σ H Q) : DS X W P st (setD i (frzD mf)) := by
  refine PS.weak h fun D σ H ⟨I, δ, en, g⟩ => w σ H _ ⟨I, δ, en, ?_⟩
  unfold GoS setD frzD at g
  rw [bind_assoc', bind_eq] at g
  unfold GoF
  cases q : mf δ with
  | ok ds δ1 =>
    rw [q] at g
    exact fun a vs I' H' n h0 h1 h2 r => by
      have nf := Nxt.frozen en n h0 h1 h2
      have r2 : Rep X.K (upd I' a (.lst vs)) (.lst ds) (.ref a) := .lst (upd_same ..) (r.mono (Ext.upd' h1))
      have n2 := nf.env.setVa (P := P) r2 i hP
      exact g _ _ _ (nf.toS.trans n2)
  | er x δ1 => rw [q] at g; exact fun c dd I' H' n r => g c dd σ I' H' n.toS r
  | st => rw [q] at g; exact g
section
variable {i : Nat} {y : Str} {py : Pos}
theorem ps_lc (c : Ctx X W k) (ok : BlkOk X.N X.env.scope scope [(x, j)]) (hi : DI X W (.Name x p) iter mi) (he : ∀ s H C cl fp, Ctx (blkX X s H scope C cl fp) W0 k → DE (blkX X s H scope C cl fp) W0 elt me)
    (hN : X.N[j]? = some x := by rfl) (hx : ∀ cl C, Loc (compEnvC scope cl C X.env).scope x := by first | exact fun _ _ => Or.inl rfl | exact fun _ _ => Or.inr rfl)
    (hf : scope.names.lookup x = some .cell ∨ ∀ cl C, (compEnvC scope cl C X.env).scope.names.lookup x = some .local := by first | exact .inr fun _ _ => rfl | exact .inl rfl) (hs : ∀ x, foldedSetIterable iter X.env x = pure x := by intro _; rfl)
    (hy : X.N[i]? = some y := by rfl) (hyl : X.env.scope.names.lookup y = some .local := by rfl) (hsw : swapsWith (.ListComp elt [⟨.Name x p, iter, [], 0⟩] scope pos) (some (.Name y py)) spos.line X.env = pure true := by rfl) :
    PS X (.Assign [.Name y py] (.ListComp elt [⟨.Name x p, iter, [], 0⟩] scope pos) spos) (tAsg (tLc (tI X.K W mi) (gName j) (tDT X.K W0 (pure true)) (tD X.K W0 me) [j]) (gName i)) :=
  ps_setLc (own := [(x, j)]) c.calm c.nd hy hyl hsw hi ok (fun s H C cl fp => pg_blk c.nd hN hx hf) (fun s H C cl fp => pts_yes) (fun s H C cl fp => he s H C cl fp (c.blk ..)) hs
theorem ps_lcIf (c : Ctx X W k) (ok : BlkOk X.N X.env.scope scope [(x, j)]) (hi : DI X W (.Name x p) iter mi) (ht : ∀ s H C cl fp, Ctx (blkX X s H scope C cl fp) W0 k → DT (blkX X s H scope C cl fp) W0 cnd tt) (he : ∀ s H C cl fp, Ctx (blkX X s H scope C cl fp) W0 k → DE (blkX X s H scope C cl fp) W0 elt me)
    (hN : X.N[j]? = some x := by rfl) (hx : ∀ cl C, Loc (compEnvC scope cl C X.env).scope x := by first | exact fun _ _ => Or.inl rfl | exact fun _ _ => Or.inr rfl)
    (hf : scope.names.lookup x = some .cell ∨ ∀ cl C, (compEnvC scope cl C X.env).scope.names.lookup x = some .local := by first | exact .inr fun _ _ => rfl | exact .inl rfl) (hs : ∀ x, foldedSetIterable iter X.env x = pure x := by intro _; rfl)
    (hy : X.N[i]? = some y := by rfl) (hyl : X.env.scope.names.lookup y = some .local := by rfl) (hsw : swapsWith (.ListComp elt [⟨.Name x p, iter, [cnd], 0⟩] scope pos) (some (.Name y py)) spos.line X.env = pure true := by rfl) :
    PS X (.Assign [.Name y py] (.ListComp elt [⟨.Name x p, iter, [cnd], 0⟩] scope pos) spos) (tAsg (tLc (tI X.K W mi) (gName j) (tDT X.K W0 tt) (tD X.K W0 me) [j]) (gName i)) :=
  ps_setLc (own := [(x, j)]) c.calm c.nd hy hyl hsw hi ok (fun s H C cl fp => pg_blk c.nd hN hx hf) (fun s H C cl fp => pts_one (ht s H C cl fp (c.blk ..))) (fun s H C cl fp => he s H C cl fp (c.blk ..)) hs
/-- y = [..], y a list of its own -/
theorem ds_lcF (hP : P ≤ i) (h : PS X (.Assign [.Name y py] elt spos) (tAsg (tLc (tI X.K W mi) (gName j) (tDT X.K W0 tt) (tD X.K W0 me) [j]) (gName i))) : DS X W P (.Assign [.Name y py] elt spos) (setF i (lcM j mi tt me)) := ds_of_f (y := y) hP h fun _ _ _ => lc_reads
theorem ds_lcD (hP : P ≤ i) (h : PS X (.Assign [.Name y py] elt spos) (tAsg (tLc (tI X.K W mi) (gName j) (tDT X.K W0 tt) (tD X.K W0 me) [j]) (gName i))) : DS X W P (.Assign [.Name y py] elt spos) (setD i (frzD (lcM j mi tt me))) := ds_of_d hP h fun _ _ _ => lc_reads
end
end
end DL
set_option maxHeartbeats 2000000
/-! DL13: operators, len, items, iteration of own classes. -/
namespace DL
open PySem PySem.Spec PyProof.Rows L2
/-! ### operators that may call, hence raise -/
structure OpS (X : Cx) (W : WX) (g : Value → Value → Sem Value) (f : D → D → M D) : Prop where
  run : ∀ (pins : List (Addr × Obj)) (s : Shared) (σ : L2.St) (I H : Hp) (δ : En) (d1 d2 : D) (v1 v2 : V) (u1 u2 : Value) (Q : VK), Inv X pins σ H s → Env X.K I H σ δ → Rep X.K I d1 v1 → Rep X.K I d2 v2 → RelV v1 u1 → RelV v2 u2 → Go X.K W (f d1 d2) σ I H δ Q →
    wpAny (model X.prog X.w) X.A (g u1 u2) (EP X pins σ Q) X.xe s
section
variable {X : Cx} {W : WX} {g : Value → Value → Sem Value} {f f2 : D → D → M D} {a b : Expr} {ma mb : M D} {pos : Pos}
theorem OpL.s (h : OpL X W g f) : OpS X W g f := by
  obtain ⟨r, hr, k⟩ := h.run
  exact ⟨fun pins s σ I H δ d1 d2 v1 v2 u1 u2 Q J en r1 r2 ru1 ru2 gg => hr pins s σ H v1 v2 u1 u2 Q J ru1 ru2 (k σ I H δ d1 d2 v1 v2 Q en r1 r2 gg)⟩
/-- by the left one's kind -/
def orO (p : D → D → Bool) (f f2 : D → D → M D) : D → D → M D := fun x y => if p x y then f x y else f2 x y
theorem OpS.or {p : D → D → Bool} (h : OpS X W g f) (h2 : OpS X W g f2) : OpS X W g (orO p f f2) := ⟨fun pins s σ I H δ d1 d2 v1 v2 u1 u2 Q J en r1 r2 ru1 ru2 gg => by
  unfold orO at gg
  cases q : p d1 d2 with
  | true => rw [q, if_pos rfl] at gg; exact h.run pins s σ I H δ d1 d2 v1 v2 u1 u2 Q J en r1 r2 ru1 ru2 gg
  | false => rw [q, if_neg Bool.false_ne_true] at gg; exact h2.run pins s σ I H δ d1 d2 v1 v2 u1 u2 Q J en r1 r2 ru1 ru2 gg⟩
theorem go_two {K : PySem.W.Frag} {W : WX} {σ : L2.St} {I H : Hp} {δ : En} {f : D → D → M D} {Q : VK} {R : V → V → Hp → Prop} (en : Env K I H σ δ) (g : Go K W (bin f ma mb) σ I H δ Q)
    (k : ∀ I2 H2 δ2 d1 d2 v1 v2, Env K I2 H2 σ δ2 → Rep K I2 d1 v1 → Rep K I2 d2 v2 → Go K W (f d1 d2) σ I2 H2 δ2 Q → R v1 v2 H2) : tD K W ma σ H fun x H1 => tD K W mb σ H1 fun y H2 => R x y H2 :=
  go_bind en g fun d1 v1 I1 H1 δ1 n1 r1 g1 => go_bind n1.env g1 fun d2 v2 I2 H2 δ2 n2 r2 g2 => k I2 H2 δ2 d1 d2 v1 v2 n2.env (r1.mono n2.post.ext) r2 g2
theorem d_binS {op : Operator} (ho : OpS X W (binaryOp op) f) (ha : DE X W a ma) (hb : DE X W b mb) : DE X W (.BinOp a op b pos) (bin f ma mb) := by
  refine ⟨fun pins s σ H Q I ⟨Ik, δ, en, g⟩ => ?_⟩
  exact wpAny_BinOp (binT ha hb I (go_two (R := fun v1 v2 H2 => ∃ I2 δ2 d1 d2, Env X.K I2 H2 σ δ2 ∧ Rep X.K I2 d1 v1 ∧ Rep X.K I2 d2 v2 ∧ Go X.K W (f d1 d2) σ I2 H2 δ2 Q) en g fun I2 H2 δ2 d1 d2 v1 v2 e r1 r2 g2 => ⟨I2, δ2, d1, d2, e, r1, r2, g2⟩)
    fun v u s2 x y H2 J2 rx ry ⟨I2, δ2, d1, d2, e, r1, r2, g2⟩ => ho.run pins s2 σ I2 H2 δ2 d1 d2 x y v u Q J2 e r1 r2 rx ry g2)
theorem d_cmpS {op : CmpOp} (ho : OpS X W (compareOp op) f) (ha : DE X W a ma) (hb : DE X W b mb) (hm : behindInMarks op b = false := by first | exact nobehind _ (by decide) (by decide) | rfl) : DE X W (.Compare a [op] [b] pos) (bin f ma mb) := by
  refine ⟨fun pins s σ H Q I ⟨Ik, δ, en, g⟩ => ?_⟩
  exact wpAny_Compare1 (binT ha hb I (go_two (R := fun v1 v2 H2 => ∃ I2 δ2 d1 d2, Env X.K I2 H2 σ δ2 ∧ Rep X.K I2 d1 v1 ∧ Rep X.K I2 d2 v2 ∧ Go X.K W (f d1 d2) σ I2 H2 δ2 Q) en g fun I2 H2 δ2 d1 d2 v1 v2 e r1 r2 g2 => ⟨I2, δ2, d1, d2, e, r1, r2, g2⟩)
    fun v u s2 x y H2 J2 rx ry ⟨I2, δ2, d1, d2, e, r1, r2, g2⟩ => ho.run pins s2 σ I2 H2 δ2 d1 d2 x y v u Q J2 e r1 r2 rx ry g2) hm
theorem d_tcmpS {op : CmpOp} (ho : OpS X W (compareOp op) f) (ha : DE X W a ma) (hb : DE X W b mb) (hm : behindInMarks op b = false := by first | exact nobehind _ (by decide) (by decide) | rfl) : DT X W (.Compare a [op] [b] pos) (tst (bin f ma mb)) := by
  refine ⟨fun pins s σ H Q I ⟨Ik, δ, en, g⟩ => ?_⟩
  unfold tst bin at g
  rw [bind_assoc'] at g
  refine wpAny_isTrue_Compare1 (thn (ha.run pins s σ H (fun v1 H1 => tD X.K W mb σ H1 fun v2 H2 => ∃ I2 δ2 d1 d2, Env X.K I2 H2 σ δ2 ∧ Rep X.K I2 d1 v1 ∧ Rep X.K I2 d2 v2 ∧ GoT X.K W (f d1 d2 >>= blD) σ I2 H2 δ2 Q) I
    (goT_bind en g fun d1 v1 I1 H1 δ1 n1 r1 g1 => ?_)) fun v s1 ⟨x, H1, I1, rx, q1⟩ => thn (hb.run pins s1 σ H1 _ I1 q1) fun u s2 ⟨y, H2, J2, ry, I2, δ2, d1, d2, e, r1, r2, g2⟩ => ?_) hm
  · rw [bind_assoc'] at g1
    exact goT_bind n1.env g1 fun d2 v2 I2 H2 δ2 n2 r2 g2 => ⟨I2, δ2, d1, d2, n2.env, r1.mono n2.post.ext, r2, g2⟩
  · -- the comparison
    have z : ∃ Q' : VK, Go X.K W (f d1 d2) σ I2 H2 δ2 Q' ∧ ∀ v' H', Q' v' H' → ∃ k, v' = .bl k ∧ Q k H' := by
      refine ⟨fun v' H' => ∃ k, v' = .bl k ∧ Q k H', ?_, fun _ _ h => h⟩
      unfold GoT at g2
      unfold Go
      rw [bind_eq] at g2
      cases q : f d1 d2 δ2 with
      | st => rw [q] at g2; exact g2
      | er x' δ3 => rw [q] at g2; exact g2
      | ok d3 δ3 =>
        rw [q] at g2
        intro v' I' H' n' r'
        cases r' with
        | bl k => exact ⟨k, rfl, g2 I' H' n'⟩
        | _ => exact g2.elim
    obtain ⟨Q', gz, hz⟩ := z
    refine thn (ho.run pins s2 σ I2 H2 δ2 d1 d2 x y v u Q' J2 e r1 r2 rx ry gz) fun c s3 ⟨v', H3, I3, r3, q3⟩ => ?_
    obtain ⟨k, rfl, q4⟩ := hz v' H3 q3
    cases r3
    exact wpAny_truthy_bool ⟨H3, I3, q4⟩
end
/-! ### an own method runs -/
theorem run_C1 {X : Cx} {W : WX} {k kf : Nat} {f : Addr} {sp : Sp} {pins : List (Addr × Obj)} {σ : L2.St} {H : Hp} {s : Shared} {Q : VK} {us : List Value} {vs : List V} (c : Ctx X W k) (F : FnR X.prog X.w X.K X.mg X.base (L2.CX X.prog X.w) kf f sp) (hk : kf + 1 ≤ k)
    (I : Inv X pins σ H s) (r : Vals vs us) (h : sp vs H Q (WE W σ)) :
    codeAny (model X.prog X.w) X.A.in1 (.call (.ref f) ⟨us, []⟩) (fun r s' => match r with | .ok (.ret v) => EP X pins σ Q v s' | .ok _ => False | .error e => X.xe e s') s := by
  refine codeAny_mono (F X.A.in1 X.stack s H us vs Q (WE W σ) (c.room.mono hk).in1 I.env0.in1 r h) fun r s' hq => ?_
  cases r with
  | error e => exact passAt c.tk σ pins H s e s' I hq
  | ok fl =>
    cases fl with
    | ret u => exact I.after hq
    | next => exact False.elim hq
    | brk => exact False.elim hq
    | cont => exact False.elim hq
theorem relV_notImpl {v : V} {u : Value} (r : RelV v u) : u ≠ .notImplemented := by
  intro h
  subst h
  cases v <;> first
    | exact nomatch r
    | (obtain ⟨t, e⟩ := r; exact nomatch e)
theorem cmpBack_of {P : Value → Shared → Prop} {u : Value} {s' : Shared} (h : u ≠ .notImplemented) (q : P u s') : PySem.W.CmpBack P u s' := by
  cases u <;> first | exact absurd rfl h | exact q
def isCls (C : Str) : D → Bool
  | .obj c _ => decide (c = C)
  | _ => false
theorem isCls_inst {X : Cx} {pins : List (Addr × Obj)} {σ : L2.St} {I H : Hp} {δ : En} {s : Shared} {C : Str} {d : D} {v : V} {u : Value} (h : isCls C d = true) (J : Inv X pins σ H s) (en : Env X.K I H σ δ) (r : Rep X.K I d v) (ru : RelV v u) :
    ∃ a ox od, u = .ref a ∧ PySem.W.InstAt s.heap a ox (ga X.K C) od := by
  cases r with
  | obj hI rf =>
    unfold isCls at h
    have e := of_decide_eq_true h
    subst e
    cases ru
    obtain ⟨mA, O, _⟩ := ins_get J.hok (en.ext _ _ hI)
    obtain ⟨od, Ia, _⟩ := O.look
    exact ⟨_, _, _, rfl, Ia⟩
  | _ => cases h
/-- a call of the method by the operator -/
def own2 (C : Str) (p : D → Bool) (m : MF) : D → D → M D := fun x y => guardM (isCls C x && p y) (appV m [x, y])
section
variable {X : Cx} {W : WX} {k kf : Nat} {f : Addr} {m : MF} {C : Str}
/-- a + b, the left one of an own class, the right one's class without such a number slot -/
theorem os_binF {op : Operator} {p : D → Bool} {nm : String} (hnm : op.info.2 = nm) (c : Ctx X W k) (F : FnC X kf f m) (M : Meth X.K (ga X.K C) (PySem.dunder nm) f) (hc : PySem.W.selfFirst X.K (ga X.K C) = true) (hk : kf ≤ k)
    (hR : ∀ (I : Hp) (d : D) (v : V) (u : Value), p d = true → Rep X.K I d v → RelV v u → ∃ tv : Value, tv ≠ .ref (ga X.K C) ∧ ∀ (M' : Model) (h : Heap) (H : Hp), X.K.In h → HOk X.prog X.w H h → DL.Ext I H → PySem.W.Looks M' h (typeOf u) tv ∧ PySem.W.Looks M' h (fillsNumberSlot tv nm) false) : OpS X W (binaryOp op) (own2 C p m) := by
  refine ⟨fun pins s σ I H δ d1 d2 v1 v2 u1 u2 Q J en r1 r2 ru1 ru2 gg => ?_⟩
  unfold own2 at gg
  obtain ⟨hb, g2⟩ := Go.guard gg
  rw [Bool.and_eq_true] at hb
  obtain ⟨a, ox, od, rfl, Ia⟩ := isCls_inst hb.1 J en r1 ru1
  obtain ⟨tv, hne, hT⟩ := hR I d2 v2 u2 hb.2 r2 ru2
  obtain ⟨L2', L4⟩ := hT (model X.prog X.w) s.heap H J.kIn J.hok en.ext
  obtain ⟨m0, fr⟩ := J.fr
  obtain ⟨cd, rest, hcd, hm⟩ := PySem.W.ksp_first hc
  have hs : PySem.W.findIn X.K (.ref (ga X.K C)) (PySem.dunder nm) = some (some (.ref f)) := M.at_
  have L3 : PySem.W.Looks (model X.prog X.w) s.heap (fillsNumberSlot (.ref (ga X.K C)) nm) true := PySem.W.fills_K J.kIn hcd hm hs
  have sp := go_appV en (.cons r1 (.cons r2 .nil)) g2
  have one : wpAny (model X.prog X.w) X.A (tryMethod (.ref a) (PySem.dunder nm) u2) (fun r s' => ∃ v, r = some v ∧ EP X pins σ Q v s') X.xe s :=
    PySem.W.ksp_try J.kIn Ia hs M.fn (wpAny_mono (wpAny_call (run_C (us := [.ref a, u2]) c F hk J (.cons ru1 (.cons ru2 .nil)) sp)) (fun u s' h => by
      obtain ⟨v, H', I', rv, q⟩ := h
      exact cmpBack_of (relV_notImpl rv) ⟨v, H', I', rv, q⟩) fun _ _ x => x)
  have L1 : PySem.W.Looks (model X.prog X.w) s.heap (typeOf (.ref a)) (.ref (ga X.K C)) := Ia.type
  have hne2 : (Value.ref (ga X.K C) == tv) = false := Bool.eq_false_iff.mpr fun q => hne (beq_iff_eq.mp q).symm
  rcases hi : op.info with ⟨sym, nm'⟩
  rw [hi] at hnm
  dsimp only at hnm
  subst hnm
  simp only [binaryOp, hi]
  refine wpAny_holding (wpAny_bind ?_)
  unfold binaryOp1
  obtain ⟨hh, g, d, tt, os⟩ := s
  refine wpAny_bind (L1.at (wpAny_bind (L2'.at (wpAny_bind (L3.at ?_)))))
  simp only [hne2, Bool.false_eq_true, if_false]
  refine wpAny_bind (L4.at ?_)
  simp only [Bool.and_false, Bool.false_and, Bool.false_eq_true, if_false]
  refine wpAny_bind (wpAny_pure ?_)
  simp only [Bool.false_eq_true, if_false, if_true]
  refine wpAny_bind (wpAny_mono one (fun r s' hr' => ?_) fun _ _ e => e)
  obtain ⟨v, rfl, hq⟩ := hr'
  exact wpAny_pure (wpAny_pure hq)
end
end DL
set_option maxHeartbeats 2000000
/-! DL14: own classes: a + b of one class, with a built-in right side; ==, !=; len, o[i], for over o. -/
namespace DL
open PySem PySem.Spec PyProof.Rows L2
/-- the value's class -/
def tvOf (K : PySem.W.Frag) (d : D) : Option Value := (tgD d).map (tgV K)
theorem looks_tv {X : Cx} {pins : List (Addr × Obj)} {σ : L2.St} {I H : Hp} {δ : En} {s : Shared} {d : D} {v : V} {u tv : Value} (J : Inv X pins σ H s) (en : Env X.K I H σ δ) (r : Rep X.K I d v) (ru : RelV v u) (h : tvOf X.K d = some tv) : PySem.W.Looks (model X.prog X.w) s.heap (typeOf u) tv := by
  unfold tvOf at h
  cases r with
  | non => cases ru; cases h; exact .of_pure rfl
  | bl b => cases ru; cases h; exact .of_pure rfl
  | int i => obtain ⟨t, rfl⟩ := ru; cases h; exact .of_pure rfl
  | str x => obtain ⟨t, rfl⟩ := ru; cases h; exact .of_pure rfl
  | cls c => cases h
  | lst hI r =>
    cases ru; cases h
    obtain ⟨z, its, k, rr, e⟩ := J.hok _ _ (en.ext _ _ hI)
    exact fun A Q E s' kp q => wpAny_typeOf_ref (kp _ _ e) q
  | scr hq =>
    cases ru; cases h
    obtain ⟨its, rv, pl, hz⟩ := J.list (sqL_ext en.ext hq)
    obtain ⟨o, ho, hc, _⟩ := pl.isList
    exact fun A Q E s' kp q => wpAny_typeOf_ref (kp _ _ ho) (by rw [hc]; exact q)
  | tup hq r =>
    cases ru; cases h
    obtain ⟨its, rr, ⟨o, ho, hc, _⟩, _⟩ := J.tuple (sqT_ext en.ext hq)
    exact fun A Q E s' kp q => wpAny_typeOf_ref (kp _ _ ho) (by rw [hc]; exact q)
  | obj hI rf =>
    cases ru; cases h
    obtain ⟨mA, O, _⟩ := ins_get J.hok (en.ext _ _ hI)
    obtain ⟨od, Ia, _⟩ := O.look
    exact Ia.type
def inTags (tags : List Tg) (d : D) : Bool := match tgD d with
  | some t => decide (t ∈ tags)
  | none => false
theorem inTags_tv {K : PySem.W.Frag} {tags : List Tg} {d : D} (h : inTags tags d = true) : ∃ t, t ∈ tags ∧ tvOf K d = some (tgV K t) := by
  unfold inTags at h
  unfold tvOf
  cases q : tgD d with
  | none => rw [q] at h; cases h
  | some t => rw [q] at h; exact ⟨t, of_decide_eq_true h, rfl⟩
section
variable {X : Cx} {W : WX} {k kf : Nat} {f : Addr} {m : MF} {C : Str}
theorem back_of {pins : List (Addr × Obj)} {σ : L2.St} {Q : VK} {u : Value} {s' : Shared} (h : EP X pins σ Q u s') : PySem.W.CmpBack (EP X pins σ Q) u s' := by
  obtain ⟨v, H', I', rv, q⟩ := h
  exact cmpBack_of (relV_notImpl rv) ⟨v, H', I', rv, q⟩
/-- both of one class -/
theorem os_binS {op : Operator} {nm : String} (hnm : op.info.2 = nm) (c : Ctx X W k) (F : FnC X kf f m) (M : Meth X.K (ga X.K C) (PySem.dunder nm) f) (hc : PySem.W.selfFirst X.K (ga X.K C) = true) (hk : kf ≤ k := by decide) : OpS X W (binaryOp op) (own2 C (isCls C) m) := by
  refine ⟨fun pins s σ I H δ d1 d2 v1 v2 u1 u2 Q J en r1 r2 ru1 ru2 gg => ?_⟩
  unfold own2 at gg
  obtain ⟨hb, g2⟩ := Go.guard gg
  rw [Bool.and_eq_true] at hb
  obtain ⟨a, ox, od, rfl, Ia⟩ := isCls_inst hb.1 J en r1 ru1
  obtain ⟨b, oy, oe, rfl, Ib⟩ := isCls_inst hb.2 J en r2 ru2
  obtain ⟨m0, fr⟩ := J.fr
  have sp := go_appV en (.cons r1 (.cons r2 .nil)) g2
  exact PySem.W.binop_K fr J.ok.mod.kin Ia Ib.type hc (by rw [hnm]; exact M.at_) M.fn (wpAny_mono (wpAny_call (run_C (us := [.ref a, .ref b]) c F hk J (.cons ru1 (.cons ru2 .nil)) sp)) (fun u s' h => back_of h) fun _ _ x => x)
/-- what a built-in class must say as a right side -/
structure RtF (K : PySem.W.Frag) (C : Addr) (nm T : String) : Prop where
  ex : ∃ rc fo ro, PySem.W.findIn K (.ref C) (dunderR nm) = some rc ∧ (rc = none ∨ ∃ g : Addr, rc = some (.ref g)) ∧ PySem.W.findIn K (.type T) (PySem.dunder nm) = some fo ∧ PySem.W.findIn K (.type T) (dunderR nm) = some ro ∧ PySem.W.subIn K (.type T) (.ref C) = some false
def isTy (T : String) (d : D) : Bool := decide (tgD d = some (.ty T))
theorem os_binT {op : Operator} {nm T : String} (hnm : op.info.2 = nm) (c : Ctx X W k) (F : FnC X kf f m) (M : Meth X.K (ga X.K C) (PySem.dunder nm) f) (hc : PySem.W.selfFirst X.K (ga X.K C) = true) (R : RtF X.K (ga X.K C) nm T) (hT : T = "int" ∨ T = "str" ∨ T = "bool" ∨ T = "NoneType") (hk : kf ≤ k := by decide) :
    OpS X W (binaryOp op) (own2 C (isTy T) m) := by
  refine ⟨fun pins s σ I H δ d1 d2 v1 v2 u1 u2 Q J en r1 r2 ru1 ru2 gg => ?_⟩
  unfold own2 at gg
  obtain ⟨hb, g2⟩ := Go.guard gg
  rw [Bool.and_eq_true] at hb
  obtain ⟨a, ox, od, rfl, Ia⟩ := isCls_inst hb.1 J en r1 ru1
  obtain ⟨rc, fo, ro, e1, e2, e3, e4, e5⟩ := R.ex
  obtain ⟨m0, fr⟩ := J.fr
  have sp := go_appV en (.cons r1 (.cons r2 .nil)) g2
  have ht : typeOf u2 = pure (.type T) := by
    have q := of_decide_eq_true hb.2
    cases r2 with
    | non => cases ru2; cases q; rfl
    | bl b => cases ru2; cases q; rfl
    | int i => obtain ⟨t, rfl⟩ := ru2; cases q; rfl
    | str x => obtain ⟨t, rfl⟩ := ru2; cases q; rfl
    | cls c => cases q
    | lst hI r => cases q; rcases hT with h | h | h | h <;> exact absurd h (by decide)
    | scr hq => cases q; rcases hT with h | h | h | h <;> exact absurd h (by decide)
    | tup hq r => cases q; rcases hT with h | h | h | h <;> exact absurd h (by decide)
    | obj hI rf => cases q
  exact PySem.W.ksp_binT fr J.ok.mod.kin Ia ht hc (by rw [hnm]; exact M.at_) M.fn (by rw [hnm]; exact e1) e2 (by rw [hnm]; exact e3) (by rw [hnm]; exact e4) e5
    (wpAny_mono (wpAny_call (run_C (us := [.ref a, u2]) c F hk J (.cons ru1 (.cons ru2 .nil)) sp)) (fun u s' h => back_of h) fun _ _ x => x)
/-- a comparison by the class's own method -/
theorem os_cmp {op : CmpOp} {nm : Str} {tags : List Tg} (hop : ∀ a b, compareOp op a b = richCompare op a b) (hnm : (cmpInfo op).2.1 = nm) (c : Ctx X W k) (F : FnC X kf f m) (M : Meth X.K (ga X.K C) nm f) (hn : ∀ t ∈ tags, PySem.W.notFirst X.K (ga X.K C) (tgV X.K t) = true) (hk : kf ≤ k := by decide) :
    OpS X W (compareOp op) (own2 C (inTags tags) m) := by
  refine ⟨fun pins s σ I H δ d1 d2 v1 v2 u1 u2 Q J en r1 r2 ru1 ru2 gg => ?_⟩
  unfold own2 at gg
  obtain ⟨hb, g2⟩ := Go.guard gg
  rw [Bool.and_eq_true] at hb
  obtain ⟨a, ox, od, rfl, Ia⟩ := isCls_inst hb.1 J en r1 ru1
  obtain ⟨t, ht, etv⟩ := inTags_tv (K := X.K) hb.2
  obtain ⟨m0, fr⟩ := J.fr
  have sp := go_appV en (.cons r1 (.cons r2 .nil)) g2
  rw [hop]
  exact PySem.W.cmp_K c.room.units0 fr J.ok.mod.kin Ia (looks_tv J en r2 ru2 etv) (hn t ht) (by rw [hnm]; exact M.at_) M.fn
    (wpAny_mono (wpAny_call (run_C (us := [.ref a, u2]) c F hk J (.cons ru1 (.cons ru2 .nil)) sp)) (fun u s' h => back_of h) fun _ _ x => x)
/-- len(o) -/
def lenO (C : Str) (m : MF) (d : D) : M D := guardM (isCls C d) (appV m [d] >>= fun r => match r with
  | .int n => guardM (decide (0 ≤ n) && decide (n < 2 ^ 63)) (pure (.int n))
  | _ => stuck)
theorem go_then {K : PySem.W.Frag} {σ : L2.St} {I H : Hp} {δ : En} {m' : M D} {h : D → M D} {Q : VK} (en : Env K I H σ δ) (g : Go K W (m' >>= h) σ I H δ Q) : Go K W m' σ I H δ fun v H1 => ∃ I1 δ1 d, Env K I1 H1 σ δ1 ∧ Rep K I1 d v ∧ Go K W (h d) σ I1 H1 δ1 Q := by
  have g0 := g
  unfold Go at g ⊢
  rw [bind_eq] at g
  cases q : m' δ with
  | ok d δ1 => exact fun v I' H' n r => ⟨I', δ1, d, n.env, r, g0.after n q⟩
  | er x δ1 => rw [q] at g; exact g
  | st => rw [q] at g; exact g
theorem d_lenO {e : Expr} {mo : M D} {p pos : Pos} (hm : X.mg "len" = none) (c : Ctx X W k) (F : FnC X kf f m) (M : Meth X.K (ga X.K C) "__len__" f) (he : DE X W e mo) (hk : kf + 1 ≤ k := by decide) (hg : Gl X "len" := by rfl)
    (hs : starEach (e :: []) X.env = (false, eval e X.env) :: starEach [] X.env := by rfl) (hpl : (backTo pos (starEach [] X.env)).any (·.1) = false := by rfl) : DE X W (.Call (.Name "len" p) [e] [] pos) (una (lenO C m) mo) := by
  refine ⟨fun pins s σ H Q I ⟨Ik, δ, en, g⟩ => ?_⟩
  refine wpAny_Call_Name_kw (ld_blt I hg hm boot_len ?_ (by decide) (by decide))
  refine PyProof.Rows.callWith_builtin1 (thn ((pa_cons he pa_nil hs).run pos pins s σ H (fun vs H1 => ∃ v, vs = [v] ∧ ∃ I1 δ1 d, Env X.K I1 H1 σ δ1 ∧ Rep X.K I1 d v ∧ Go X.K W (lenO C m d) σ I1 H1 δ1 Q) I
    (go_bind en g fun d v I1 H1 δ1 n1 r1 g1 => ⟨v, rfl, I1, δ1, d, n1.env, r1, g1⟩)) fun us s1 ⟨vs, H1, J, rv, v, ev, I1, δ1, d, en1, r1, g1⟩ => ?_) hs hpl
  subst ev
  unfold lenO at g1
  obtain ⟨hb, g2⟩ := Go.guard g1
  obtain ⟨u, rfl, ru⟩ := rv.one
  obtain ⟨a, ox, od, rfl, Ia⟩ := isCls_inst hb J en1 r1 ru
  obtain ⟨m0, fr⟩ := J.fr
  have sp := go_appV en1 (.cons r1 .nil) (go_then en1 g2)
  refine PySem.W.len_K fr J.ok.mod.kin Ia M.at_ M.fn (wpAny_mono (wpAny_call (run_C1 (us := [.ref a]) c F hk J (.cons ru .nil) sp)) (fun u s' h => ?_) fun _ _ x => x)
  obtain ⟨v', H', J', rv', I2, δ2, d2, en2, r2, g3⟩ := h
  cases r2 with
  | int n =>
    obtain ⟨t, rfl⟩ := rv'
    obtain ⟨hn, g4⟩ := Go.guard g3
    rw [Bool.and_eq_true] at hn
    exact ⟨⟨of_decide_eq_true hn.1, of_decide_eq_true hn.2⟩, .int n, H', J'.tok _, ⟨_, rfl⟩, g4.val0 en2 (.int n)⟩
  | _ => exact g3.elim
/-- o[i] -/
abbrev PlainIxT (b : Expr) : Prop := ∀ o i, subscripted b true o i = runValue (.builtin "lifetime.subscript" ⟨[o, i], []⟩)
def ixO (C : Str) (m : MF) (x y : D) : M D := guardM (isCls C x) (appV m [x, y])
theorem d_ixO {a b : Expr} {ma mb : M D} {pos : Pos} (c : Ctx X W k) (F : FnC X kf f m) (M : Meth X.K (ga X.K C) "__getitem__" f) (hf : PySem.W.fnIn X.K f = true) (ha : DE X W a ma) (hb : DE X W b mb) (hk : kf + 1 ≤ k := by decide) (hs : PlainIxT b := by intro _ _; with_unfolding_all rfl) :
    DE X W (.Subscript a b pos) (bin (ixO C m) ma mb) := by
  refine ⟨fun pins s σ H Q I ⟨Ik, δ, en, g⟩ => ?_⟩
  refine Subscript_ (binT ha hb I (go_two (R := fun v1 v2 H2 => ∃ I2 δ2 d1 d2, Env X.K I2 H2 σ δ2 ∧ Rep X.K I2 d1 v1 ∧ Rep X.K I2 d2 v2 ∧ Go X.K W (ixO C m d1 d2) σ I2 H2 δ2 Q) en g fun I2 H2 δ2 d1 d2 v1 v2 e r1 r2 g2 => ⟨I2, δ2, d1, d2, e, r1, r2, g2⟩)
    fun v u s2 x y H2 J rx ry ⟨I2, δ2, d1, d2, e, r1, r2, g2⟩ => ?_)
  unfold ixO at g2
  obtain ⟨hb2, g3⟩ := Go.guard g2
  obtain ⟨a', ox, od, rfl, Ia⟩ := isCls_inst hb2 J e r1 rx
  obtain ⟨m0, fr⟩ := J.fr
  have sp := go_appV e (.cons r1 (.cons r2 .nil)) g3
  exact PySem.W.sub_K fr J.ok.mod.kin Ia M.at_ hf M.fn (wpAny_call (run_C1 (us := [.ref a', u]) c F hk J (.cons rx (.cons ry .nil)) sp)) (hs _ _)
end
end DL
set_option maxHeartbeats 2000000
/-! DL15: == of lists of own instances; != of own instances. -/
namespace GQB
open PySem PySem.SeqAt
open AutoSeq1 (wpAny_loadPart')
open MeetsSeq MeetsSeq2 MeetsSeq3 SeqRoads2
section
variable {prog : Program} {w : World} {A : Around} {R : Result → Shared → Prop}
/-- at each turn both lists are read anew; a turn goes on, or ends the comparison -/
def ListB (prog : Program) (w : World) (A : Around) (E : Value → Shared → Prop) (l b : Addr) (N : Nat) (I : Nat → Shared → Prop) (Fin' : Shared → Prop) : Prop :=
  ∀ i s, I i s → ∃ (items items2 : Array Value) (n n2 : Nat), s.heap.get? l = some { cls := .type "list", data := .seq items n } ∧ s.heap.get? b = some { cls := .type "list", data := .seq items2 n2 } ∧ items.size = N ∧ items2.size = N ∧
    ∀ (h1 : i < items.size) (h2 : i < items2.size), wpAny (model prog w) A.in1 (eqBool items[i] items2[i]) (fun r s' => (r = true ∧ I (i + 1) s') ∨ (r = false ∧ Fin' s' ∧ ∃ (jt jt2 : Array Value) (m m2 : Nat), s'.heap.get? l = some { cls := .type "list", data := .seq jt m } ∧ s'.heap.get? b = some { cls := .type "list", data := .seq jt2 m2 } ∧ jt.size = N ∧ jt2.size = N)) E s
theorem eq_loopB (l b : Addr) (N : Nat) (I : Nat → Shared → Prop) (F' : Shared → Prop) (hl : ListB prog w A (fun e s' => R (.error e) s') l b N I F')
    (fin : ∀ s, I N s → R (.ok (.ret (.bool true))) s) (fin' : ∀ s, F' s → R (.ok (.ret (.bool false))) s) (k : Nat) :
    ∀ i : Nat, N - i = k → i ≤ N → ∀ s, I i s →
      wpAny (model prog w) A.in1 (Builtin.«list.__eq__.loop» ⟨[.ref l, .ref b, rawInt i, rawInt 2], []⟩) (GQ.FinOf prog w A R) (fun e s' => R (.error e) s') s := by
  induction k with
  | zero =>
    intro i hk hi s h
    obtain ⟨items, items2, n, n2, hl1, hb1, hs1, hs2, _⟩ := hl _ _ h
    have hi' : i = N := by omega
    have hR : R (.ok (.ret (.bool true))) s := fin s (hi' ▸ h)
    obtain ⟨hp, g, d, tk, os⟩ := s
    wp_walk using wpAny_loadPart' hl1, wpAny_loadPart' hb1
    have hi1 : items[((i : Nat) : Int).toNat]? = none := by simp; omega
    have hi2 : items2[((i : Nat) : Int).toNat]? = none := by simp; omega
    rw [hi1, hi2]
    wp_walk using wpAny_loadPart' hl1, wpAny_loadPart' hb1
    show R (.ok (.ret (.bool (items.size == items2.size)))) _
    rw [hs1, hs2]
    simpa using hR
  | succ k ih =>
    intro i hk hi s h
    obtain ⟨items, items2, n, n2, hl1, hb1, hs1, hs2, turn⟩ := hl _ _ h
    have hlt : i < items.size := by omega
    have hlt2 : i < items2.size := by omega
    have ht := turn hlt hlt2
    obtain ⟨hp, g, d, tk, os⟩ := s
    wp_walk using wpAny_loadPart' hl1, wpAny_loadPart' hb1
    have hi1 : items[((i : Nat) : Int).toNat]? = some items[i] := by simp [hlt]
    have hi2 : items2[((i : Nat) : Int).toNat]? = some items2[i] := by simp [hlt2]
    have hc : ((i : Int) + 1) = ((i + 1 : Nat) : Int) := by omega
    rw [hi1, hi2]
    refine wpAny_bind (wpAny_mono ht (fun r s2 h2 => ?_) fun _ _ x => x)
    rcases h2 with ⟨hr, h2⟩ | ⟨hr, h2, jt, jt2, m, m2, hl3, hb3, hs3, hs4⟩
    · subst hr
      have hrec := ih (i + 1) (by omega) (by omega) s2 h2
      obtain ⟨hp2, g2, d2, tk2, os2⟩ := s2
      wp_walk
      rw [hc]
      exact ⟨plainId_quiet plain_eq_loop _, codeAny_builtin entry_eq_loop (by
        rw [Around.under_plainId plain_eq_loop _]
        exact hrec)⟩
    · subst hr
      have hR := fin' s2 h2
      obtain ⟨hp2, g2, d2, tk2, os2⟩ := s2
      have hj1 : jt[((i : Nat) : Int).toNat]? = some (jt[i]'(by omega)) := by simp [show i < jt.size by omega]
      have hj2 : jt2[((i : Nat) : Int).toNat]? = some (jt2[i]'(by omega)) := by simp [show i < jt2.size by omega]
      wp_walk using wpAny_loadPart' hl3, wpAny_loadPart' hb3
      rw [hj1, hj2]
      wp_walk
      exact hR
theorem list_eqB (l b : Addr) (N : Nat) (I : Nat → Shared → Prop) (F' : Shared → Prop) (hl : ListB prog w A (fun e s' => R (.error e) s') l b N I F')
    (fin : ∀ s, I N s → R (.ok (.ret (.bool true))) s) (fin' : ∀ s, F' s → R (.ok (.ret (.bool false))) s) {s : Shared} (h : I 0 s) :
    wpAny (model prog w) A.in1 (Builtin.«list.__eq__» ⟨[.ref l, .ref b], []⟩) (GQ.FinOf prog w A R) (fun e s' => R (.error e) s') s := by
  obtain ⟨items, items2, n, n2, hl1, hb1, hs1, hs2, _⟩ := hl _ _ h
  have hrec := eq_loopB (A := A) (R := R) l b N I F' hl fin fin' _ 0 rfl (Nat.zero_le _) s h
  obtain ⟨hp, g, d, tk, os⟩ := s
  have f3 := AutoSeq1.sub_list_list
  have hne : ¬ (items.size != items2.size) = true := by simp [hs1, hs2]
  wp_walk using wpAny_loadPart' hl1, wpAny_loadPart' hb1
  exact ⟨plainId_quiet plain_eq_loop _, codeAny_builtin entry_eq_loop (by
    rw [Around.under_plainId plain_eq_loop _]
    exact hrec)⟩
theorem list_neB {l b : Addr} {items items2 : Array Value} {n n2 : Nat} {s : Shared} (hl1 : s.heap.get? l = some { cls := .type "list", data := .seq items n }) (hb1 : s.heap.get? b = some { cls := .type "list", data := .seq items2 n2 }) (hsz : items.size ≠ items2.size)
    (hR : R (.ok (.ret (.bool false))) s) :
    wpAny (model prog w) A.in1 (Builtin.«list.__eq__» ⟨[.ref l, .ref b], []⟩) (GQ.FinOf prog w A R) (fun e s' => R (.error e) s') s := by
  obtain ⟨hp, g, d, tk, os⟩ := s
  have f3 := AutoSeq1.sub_list_list
  have hne : (items.size != items2.size) = true := by simp [hsz]
  wp_walk using wpAny_loadPart' hl1, wpAny_loadPart' hb1
  exact hR
end
section
variable {prog : Program} {w : World} {A : Around} {E : Value → Shared → Prop} {s : Shared}
theorem rc_listB {l b : Addr} {N : Nat} {Q : Value → Shared → Prop} (hu : A.units < cLine) (I : Nat → Shared → Prop) (F' : Shared → Prop) (hl : ListB prog w A E l b N I F')
    (fin : ∀ s, I N s → Q (.bool true) s) (fin' : ∀ s, F' s → Q (.bool false) s) (h : I 0 s) : wpAny (model prog w) A (richCompare .Eq (.ref l) (.ref b)) Q E s := by
  obtain ⟨items, items2, n, n2, hl1, hb1, _, _, _⟩ := hl _ _ h
  refine wpAny_richCompare_same_room (op := .Eq) ⟨_, hl1, rfl⟩ ⟨_, hb1, rfl⟩ F.slot_list_eq (GQ.call_here F.slot_list_eq ⟨_, hl1, rfl⟩ F.entry_list_eq (F.args_list_eq_2 _ _) ?_) hu
  exact list_eqB (R := wants (fun v s' => v ≠ .notImplemented ∧ Q v s') E) l b N I F' hl (fun s' q => ⟨(fun x => nomatch x), fin s' q⟩) (fun s' q => ⟨(fun x => nomatch x), fin' s' q⟩) h
theorem rc_listNe {l b : Addr} {items items2 : Array Value} {n n2 : Nat} {Q : Value → Shared → Prop} (hu : A.units < cLine) (hl1 : s.heap.get? l = some { cls := .type "list", data := .seq items n }) (hb1 : s.heap.get? b = some { cls := .type "list", data := .seq items2 n2 }) (hsz : items.size ≠ items2.size)
    (h : Q (.bool false) s) : wpAny (model prog w) A (richCompare .Eq (.ref l) (.ref b)) Q E s := by
  refine wpAny_richCompare_same_room (op := .Eq) ⟨_, hl1, rfl⟩ ⟨_, hb1, rfl⟩ F.slot_list_eq (GQ.call_here F.slot_list_eq ⟨_, hl1, rfl⟩ F.entry_list_eq (F.args_list_eq_2 _ _) ?_) hu
  exact list_neB (R := wants (fun v s' => v ≠ .notImplemented ∧ Q v s') E) hl1 hb1 hsz ⟨(fun x => nomatch x), h⟩
end
end GQB
namespace DL
open PySem PySem.Spec PyProof.Rows L2
/-- plain fields -/
def flatF : List (Str × D) → Bool
  | [] => true
  | (_, d) :: r => flatD d && flatF r
def flatO : D → Bool
  | .obj _ fs => flatF fs
  | _ => false
theorem flat_fun {K : PySem.W.Frag} {I : Hp} {d e : D} {v : V} (h : flatD d = true) (h2 : flatD e = true) (r : Rep K I d v) (r2 : Rep K I e v) : d = e := by
  cases r with
  | non => cases r2 with
    | non => rfl
  | bl b => cases r2 with
    | bl b => rfl
  | int i => cases r2 with
    | int i => rfl
  | str x => cases r2 with
    | str x => rfl
  | _ => cases h
theorem flatF_fun {K : PySem.W.Frag} {I : Hp} : ∀ {fs gs : List (Str × D)} {vs : List (Str × V)}, flatF fs = true → flatF gs = true → RepF K I fs vs → RepF K I gs vs → fs = gs
  | _, _, _, _, _, .nil, .nil => rfl
  | _, _, _, h, h2, .cons a r, .cons b r2 => by
    unfold flatF at h h2
    rw [Bool.and_eq_true] at h h2
    rw [flat_fun h.1 h2.1 a b, flatF_fun h.2 h2.2 r r2]
open Classical in
/-- the own == of two instances of C with plain fields -/
noncomputable def eqO (C : Str) (m : MF) (x y : D) : Option Bool := if (isCls C x && flatO x && (isCls C y && flatO y)) then (match m (vas [x, y]) with
  | .ok (.bl true) [] => some true
  | .ok (.bl false) [] => if x = y then none else some false
  | _ => none) else none
/-- element by element -/
noncomputable def eqLs (C : Str) (m : MF) : List D → List D → Option Bool
  | [], [] => some true
  | x :: xs, y :: ys => match eqO C m x y with
    | some true => eqLs C m xs ys
    | some false => some false
    | none => none
  | _, _ => none
noncomputable def eqLsD (C : Str) (m : MF) (x y : D) : M D := match x, y with
  | .lst xs, .lst ys => if xs.length = ys.length then (match eqLs C m xs ys with
    | some b => pure (.bl b)
    | none => stuck) else pure (.bl false)
  | _, _ => stuck
section
variable {X : Cx} {W : WX} {k kf : Nat} {f : Addr} {m : MF} {C : Str}
/-- == of two such, in a list -/
theorem eqBool_own (c : Ctx X W k) (F : FnC X kf f m) (M : Meth X.K (ga X.K C) "__eq__" f) (hk : kf + 1 ≤ k) {pins : List (Addr × Obj)} {s : Shared} {σ : L2.St} {I H : Hp} {δ : En} {x y : D} {v1 v2 : V} {u1 u2 : Value} {b : Bool}
    (J : Inv X pins σ H s) (en : Env X.K I H σ δ) (r1 : Rep X.K I x v1) (r2 : Rep X.K I y v2) (ru1 : RelV v1 u1) (ru2 : RelV v2 u2) (h : eqO C m x y = some b) :
    wpAny (model X.prog X.w) X.A.in1 (eqBool u1 u2) (fun r s' => r = b ∧ ∃ I' H', Inv X pins σ H' s' ∧ Nxt X.K σ I H δ I' H' δ) X.xe s := by
  unfold eqO at h
  by_cases hg : (isCls C x && flatO x && (isCls C y && flatO y)) = true
  · rw [if_pos hg] at h
    rw [Bool.and_eq_true, Bool.and_eq_true, Bool.and_eq_true] at hg
    obtain ⟨⟨cx, fx⟩, cy, fy⟩ := hg
    obtain ⟨a, ox, od, rfl, Ia⟩ := isCls_inst cx J en r1 ru1
    obtain ⟨a2, oy, oe, rfl, Ib⟩ := isCls_inst cy J en r2 ru2
    obtain rfl : v1 = .ref a := by cases r1 <;> first | (cases ru1; rfl) | cases cx
    obtain rfl : v2 = .ref a2 := by cases r2 <;> first | (cases ru2; rfl) | cases cy
    by_cases hab : a = a2
    · subst hab
      have exy : x = y := by
        cases r1 with
        | obj h1 rf1 =>
          cases r2 with
          | obj h2 rf2 =>
            have hh := Option.some.inj (h1.symm.trans h2)
            injection hh with _ _ hgs
            subst hgs
            have e1 := of_decide_eq_true cx
            have e2 := of_decide_eq_true cy
            rw [e1, e2, flatF_fun fx fy rf1 rf2]
          | _ => cases cy
        | _ => cases cx
      have hb : b = true := by
        cases q : m (vas [x, y]) with
        | st => rw [q] at h; cases h
        | er e l => rw [q] at h; cases h
        | ok d l =>
          rw [q] at h
          match d, l, h with
          | .bl true, [], h => cases h; rfl
          | .bl false, [], h => dsimp only at h; rw [if_pos exy] at h; cases h
          | .bl true, _ :: _, h => cases h
          | .bl false, _ :: _, h => cases h
          | .non, _, h => cases h
          | .int _, _, h => cases h
          | .str _, _, h => cases h
          | .cls _, _, h => cases h
          | .lst _, _, h => cases h
          | .tup _, _, h => cases h
          | .obj _ _, _, h => cases h
          | .scr _, _, h => cases h
      subst hb
      exact SeqAt.EqAt.same (A := X.A.in1) (s := s) (.ref a) X.prog X.w X.xe _ ⟨rfl, I, H, J, .refl en⟩
    · obtain ⟨m0, fr⟩ := J.fr
      have gg : Go X.K W (appV m [x, y]) σ I H δ fun v H' => v = .bl b ∧ ∃ I', Nxt X.K σ I H δ I' H' δ := by
        unfold Go appV
        cases q : m (vas [x, y]) with
        | st => rw [q] at h; cases h
        | er e l => rw [q] at h; cases h
        | ok d l =>
          rw [q] at h
          match d, l, h with
          | .bl true, [], h => cases h; exact fun v I' H' n r => by cases r; exact ⟨rfl, I', n⟩
          | .bl false, [], h =>
            dsimp only at h
            by_cases e : x = y
            · rw [if_pos e] at h; cases h
            · rw [if_neg e] at h; cases h; exact fun v I' H' n r => by cases r; exact ⟨rfl, I', n⟩
          | .bl true, _ :: _, h => cases h
          | .bl false, _ :: _, h => cases h
          | .non, _, h => cases h
          | .int _, _, h => cases h
          | .str _, _, h => cases h
          | .cls _, _, h => cases h
          | .lst _, _, h => cases h
          | .tup _, _, h => cases h
          | .obj _ _, _, h => cases h
          | .scr _, _, h => cases h
      have sp := go_appV en (.cons r1 (.cons r2 .nil)) gg
      have hu : X.A.in1.units < cLine := (c.room.mono hk).in1.units0
      refine GQ.eqBool_refG hab (PySem.W.cmp_K (op := .Eq) (tb := .ref (ga X.K C)) hu fr J.ok.mod.kin Ia Ib.type (by simp [PySem.W.notFirst]) M.at_ M.fn
        (wpAny_mono (wpAny_call (run_C1 (us := [.ref a, .ref a2]) c F hk J (.cons ru1 (.cons ru2 .nil)) sp)) (fun u s' hz => ?_) fun _ _ z => z))
      obtain ⟨v, H', J', rv, ev, I', n⟩ := hz
      subst ev
      cases rv
      exact ⟨b, rfl, rfl, I', H', J', n⟩
  · rw [if_neg hg] at h; cases h
theorem eqLs_len : ∀ {xs ys : List D} {b : Bool}, eqLs C m xs ys = some b → xs.length = ys.length ∨ b = false
  | [], [], _, _ => .inl rfl
  | x :: xs, y :: ys, b, h => by
    unfold eqLs at h
    cases q : eqO C m x y with
    | none => rw [q] at h; cases h
    | some z =>
      rw [q] at h
      cases z with
      | true => exact (eqLs_len h).imp (fun e => by rw [List.length_cons, List.length_cons, e]) id
      | false => cases h; exact .inr rfl
  | [], _ :: _, _, h => by cases h
  | _ :: _, [], _, h => by cases h
theorem eqLs_drop : ∀ {xs ys : List D} {b : Bool} (i : Nat), xs.length = ys.length → eqLs C m (xs.drop i) (ys.drop i) = some b → i < xs.length → ∃ x y z, xs[i]? = some x ∧ ys[i]? = some y ∧ eqO C m x y = some z ∧ ((z = true ∧ eqLs C m (xs.drop (i + 1)) (ys.drop (i + 1)) = some b) ∨ (z = false ∧ b = false)) := fun {xs ys b} i hl h hi => by
  have hi2 : i < ys.length := by omega
  rw [List.drop_eq_getElem_cons hi, List.drop_eq_getElem_cons hi2] at h
  unfold eqLs at h
  cases q : eqO C m xs[i] ys[i] with
  | none => rw [q] at h; cases h
  | some z =>
    rw [q] at h
    refine ⟨xs[i], ys[i], z, List.getElem?_eq_getElem hi, List.getElem?_eq_getElem hi2, q, ?_⟩
    cases z with
    | true => exact .inl ⟨rfl, h⟩
    | false => cases h; exact .inr ⟨rfl, rfl⟩
/-- == of lists of such -/
theorem os_eqLs (c : Ctx X W k) (F : FnC X kf f m) (M : Meth X.K (ga X.K C) "__eq__" f) (hk : kf + 1 ≤ k := by decide) : OpS X W (compareOp .Eq) (eqLsD C m) := by
  refine ⟨fun pins s σ I H δ d1 d2 v1 v2 u1 u2 Q J en r1 r2 ru1 ru2 gg => ?_⟩
  show wpAny (model X.prog X.w) X.A (richCompare .Eq u1 u2) (EP X pins σ Q) X.xe s
  cases r1 with
  | @lst xs a vs ha ra =>
    cases r2 with
    | @lst ys b ws hb rb =>
      cases ru1
      cases ru2
      have hu : X.A.units < cLine := c.room.units0
      unfold eqLsD at gg
      dsimp only at gg
      by_cases hl : xs.length = ys.length
      · rw [if_pos hl] at gg
        cases q : eqLs C m xs ys with
        | none => rw [q] at gg; exact gg.elim
        | some ans =>
          rw [q] at gg
          refine GQB.rc_listB (N := xs.length) hu (fun i s' => ∃ I' H', Inv X pins σ H' s' ∧ Nxt X.K σ I H δ I' H' δ ∧ eqLs C m (xs.drop i) (ys.drop i) = some ans) (fun s' => ∃ I' H', Inv X pins σ H' s' ∧ Nxt X.K σ I H δ I' H' δ ∧ ans = false) ?_ ?_ ?_ ⟨I, H, J, .refl en, q⟩
          · rintro i s' ⟨I1, H1, J1, n1, e1⟩
            obtain ⟨z, its, k1, rr, e⟩ := J1.hok a _ (n1.env.ext _ _ (n1.post.ext _ _ ha))
            obtain ⟨z2, its2, k2, rr2, e2⟩ := J1.hok b _ (n1.env.ext _ _ (n1.post.ext _ _ hb))
            refine ⟨its.toArray, its2.toArray, k1, k2, e, e2, by rw [List.size_toArray, ← rr.length, ← ra.length], by rw [List.size_toArray, ← rr2.length, ← rb.length, hl], fun h1 h2 => ?_⟩
            have hi : i < xs.length := by rw [ra.length, rr.length]; simpa using h1
            obtain ⟨x, y, zz, hx, hy, ho, hd⟩ := eqLs_drop i hl e1 hi
            obtain ⟨v, hv, rv⟩ := (ra.mono n1.post.ext).get hx
            obtain ⟨v', hv', rv'⟩ := (rb.mono n1.post.ext).get hy
            obtain ⟨u, hu1, ru⟩ := rr.get hv
            obtain ⟨u', hu2, ru'⟩ := rr2.get hv'
            have g1 : its.toArray[i] = u := by
              have h1' : i < its.length := by simpa using h1
              rw [List.getElem?_eq_getElem h1'] at hu1
              simpa using hu1
            have g2 : its2.toArray[i] = u' := by
              have h2' : i < its2.length := by simpa using h2
              rw [List.getElem?_eq_getElem h2'] at hu2
              simpa using hu2
            rw [g1, g2]
            refine wpAny_mono (eqBool_own c F M hk J1 n1.env rv rv' ru ru' ho) (fun r s2 hz => ?_) fun _ _ x => x
            obtain ⟨hr, I2, H2, J2, n2⟩ := hz
            subst hr
            have n12 := n1.trans n2
            rcases hd with ⟨ez, e3⟩ | ⟨ez, e3⟩
            · exact .inl ⟨ez, I2, H2, J2, n12, e3⟩
            · obtain ⟨z3, its3, k3, rr3, e4⟩ := J2.hok a _ (n12.env.ext _ _ (n12.post.ext _ _ ha))
              obtain ⟨z4, its4, k4, rr4, e5⟩ := J2.hok b _ (n12.env.ext _ _ (n12.post.ext _ _ hb))
              exact .inr ⟨ez, ⟨I2, H2, J2, n12, e3⟩, its3.toArray, its4.toArray, k3, k4, e4, e5, by rw [List.size_toArray, ← rr3.length, ← ra.length], by rw [List.size_toArray, ← rr4.length, ← rb.length, hl]⟩
          · rintro s' ⟨I1, H1, J1, n1, e1⟩
            have ea : ans = true := by
              rw [List.drop_length, hl, List.drop_length] at e1
              unfold eqLs at e1
              exact (Option.some.inj e1).symm
            subst ea
            exact ⟨.bl true, H1, J1, rfl, Go.val gg n1 (.bl true)⟩
          · rintro s' ⟨I1, H1, J1, n1, rfl⟩
            exact ⟨.bl false, H1, J1, rfl, Go.val gg n1 (.bl false)⟩
      · rw [if_neg hl] at gg
        obtain ⟨z, its, k1, rr, e⟩ := J.hok a _ (en.ext _ _ ha)
        obtain ⟨z2, its2, k2, rr2, e2⟩ := J.hok b _ (en.ext _ _ hb)
        exact GQB.rc_listNe hu e e2 (by rw [List.size_toArray, List.size_toArray, ← rr.length, ← rr2.length, ← ra.length, ← rb.length]; exact hl) ⟨.bl false, H, J, rfl, gg.val0 en (.bl false)⟩
    | _ => exact gg.elim
  | _ => exact gg.elim
/-- what a class with its own == and no own != must say -/
def neB (K : PySem.W.Frag) (C f : Addr) : Bool := match K.lookup C with
  | some ⟨.type "type", _, .cls cd, sl⟩ => (match cd.mro, sl.toList with
    | [.ref C', .type o], [_, _, _, _, some (.builtin _), _] => C' == C && o == "object" && !cd.hasDel && PySem.W.nsOkIn K cd.ns && PySem.W.nsIn K cd.ns "__eq__" == some (some (.ref f)) && PySem.W.nsIn K cd.ns "__ne__" == some none
    | _, _ => false)
  | _ => false
theorem neB_ok {K : PySem.W.Frag} {C f : Addr} (q : neB K C f = true) (hf : PySem.W.typeIn K (.ref f) = some (.type "function")) {h : Heap} (X : K.In h) {x : Addr} {o : Obj} (hx : h.get? x = some o) (hc : o.cls = .ref C) : h.OwnEqNoNe x C f "object" [.type "object"] := by
  unfold neB at q
  split at q
  · rename_i dd cd sl ho
    split at q
    · rename_i C' o' k0 k1 k2 k3 n k5 hm hs
      simp only [Bool.and_eq_true, beq_iff_eq, Bool.not_eq_true'] at q
      obtain ⟨⟨⟨⟨⟨rfl, rfl⟩, hdel⟩, hok⟩, he⟩, hn⟩ := q
      obtain ⟨nm, bs, mro, ns, qn, hd, sn, sub, ab, col, del⟩ := cd
      dsimp only at hm hdel hok he hn
      subst hm hdel
      have hsl : sl = #[k0, k1, k2, k3, some (.builtin n), k5] := by
        obtain ⟨l⟩ := sl
        simp only at hs
        rw [hs]
      subst hsl
      obtain ⟨of, hof, hofc⟩ : ∃ of, h.get? f = some of ∧ of.cls = .type "function" := by
        have hf' : (K.lookup f).map (·.cls) = some (.type "function") := hf
        cases z : K.lookup f with
        | none => rw [z] at hf'; cases hf'
        | some of => rw [z] at hf'; exact ⟨of, X _ _ z, Option.some.inj hf'⟩
      have N : h.Ns ns (h.nsMap ns) := .of_isNs (PySem.W.isNs_of_in X hok)
      have eqv : h.nsMap ns "__eq__" = some (.ref f) := by
        have he2 := he
        obtain ⟨o1, es, ep, ho1, hd1, hr1, hf1⟩ := N
        unfold PySem.W.nsIn at he2
        split at he2
        · rename_i c1 d1 es' n' sl' q1
          have := X _ _ q1
          rw [ho1] at this
          cases this
          cases hd1
          split at he2
          · rename_i en hen
            have ev := Option.some.inj (Option.some.inj he2)
            rw [← hf1]
            unfold nsFind findBy
            rw [← Array.find?_toList, hen]
            exact congrArg some ev
          · split at he2 <;> cases he2
        · cases he2
      exact ⟨o, of, nm, qn, ns, bs, hd, sn, sub, ab, col, dd, k0, k1, k2, k3, k5, n, _, _, hx, hc, X _ _ ho, N, eqv, hof, hofc, rfl, rfl, PySem.W.nsMap_none_of_in X hok hn⟩
    · cases q
  · cases q
end
end DL
set_option maxHeartbeats 2000000
/-! DL16: != of own instances; for x in o, where o's class hands on the iterator of a list of its own. -/
namespace DL
open PySem PySem.Spec PyProof.Rows L2
def neO (C : Str) (m : MF) (x y : D) : M D := guardM (isCls C x && isCls C y) (appV m [x, y] >>= fun r => match r with
  | .bl b => pure (.bl (!b))
  | _ => stuck)
section
variable {X : Cx} {W : WX} {k kf : Nat} {f : Addr} {m : MF} {C : Str}
theorem os_ne (c : Ctx X W k) (F : FnC X kf f m) (M : Meth X.K (ga X.K C) "__eq__" f) (hn : neB X.K (ga X.K C) f = true) (hk : kf + 1 ≤ k := by decide) : OpS X W (compareOp .NotEq) (neO C m) := by
  refine ⟨fun pins s σ I H δ d1 d2 v1 v2 u1 u2 Q J en r1 r2 ru1 ru2 gg => ?_⟩
  unfold neO at gg
  obtain ⟨hb, g2⟩ := Go.guard gg
  rw [Bool.and_eq_true] at hb
  obtain ⟨a, ox, od, rfl, Ia⟩ := isCls_inst hb.1 J en r1 ru1
  obtain ⟨b, oy, oe, rfl, Ib⟩ := isCls_inst hb.2 J en r2 ru2
  have sp := go_appV en (.cons r1 (.cons r2 .nil)) (go_then en g2)
  have hu : X.A.units + 1 < cLine := by have := c.room.un; omega
  have hcall := wpAny_call (run_C1 (us := [.ref a, .ref b]) c F hk J (.cons ru1 (.cons ru2 .nil)) sp)
  obtain ⟨hh, g, d, t, os⟩ := s
  refine compareOp_ne_ownEq PySem.F.cmp_object (neB_ok hn (beq_iff_eq.mp M.fn) J.kIn Ia.at_ Ia.cls) Ib.at_ Ib.cls hu (wpAny_mono hcall (fun u s' h => ?_) fun _ _ x => x)
  obtain ⟨v', H', J', rv', I2, δ2, d2, en2, r2', g3⟩ := h
  cases r2' with
  | bl b => cases rv'; exact ⟨b, rfl, .bl (!b), H', J', rfl, g3.val0 en2 (.bl _)⟩
  | _ => exact g3.elim
end
/-! ### iteration -/
/-- def __iter__(self): return iter(self.fld) -/
def FnIter (P : Program) (w : World) (K : PySem.W.Frag) (mg : Str → Option Value) (base : Heap) (k : Nat) (f : Addr) (C fld : Str) : Prop :=
  ∀ (A : Around) (outer : List PySem.Env) (s : Shared) (H : Hp) (a dx : Addr) (gs : List (Str × V)) (l : Addr) (zs : List V) (Q : VK), Room k A → Env0 P w K mg base A outer s H → H a = some (.ins (ga K C) dx gs) → gs.lookup fld = some (.ref l) → SqL K H l zs →
    (∀ it, H it = none → s.heap.objs.size ≤ it → Q (.ref it) (upd H it (ItO l it 0))) → codeAny (model P w) A (.call (.ref f) ⟨[.ref a], []⟩) (CR (L2.CX P w) outer P w H s Q (fun _ _ _ => False)) s
/-- a def entered at a state that the promise may speak of -/
theorem run_def {CX : CXT} {P : Program} {w : World} {K : PySem.W.Frag} {mg : Str → Option Value} {base : Heap} {x qual : Str} {params : Arguments} {body : List Stmt} {scope : Scope} {dvs : List V} {kws : List (Str × V)} {f : Addr} {fd : FuncData} {N ps : List Str} {k : Nat}
    (F : FunD K x qual params body scope dvs kws f fd) (S : FnScope N ps scope) {A : Around} {outer : List PySem.Env} {s : Shared} {H : Hp} {us : List Value} {vs : List V} {Q : VK} {E : XK} (hl : vs.length = ps.length) (hr : Room (k + 1) A) (e0 : Env0 P w K mg base A outer s H)
    (hb : BindsTo s fd ⟨us, []⟩ (ps.zip us)) (r : Vals vs us)
    (hbody : ∀ cdv : Value, Room k (A.deeper (envOfC qual scope s.heap.objs.size f cdv)) → ∃ t, PSs (cxOf CX P w K mg base N qual scope f cdv A outer s H E) body t ∧ t { nx := fun _ H' => Q .non H', rt := Q } (L2.start N vs) H) :
    codeAny (model P w) A (.call (.ref f) ⟨us, []⟩) (CR CX outer P w H s Q E) s := by
  obtain ⟨oc, od, dV, kV, doc, pm, an, cdv, ct, osl, rfl, lk, hcd, _, _⟩ := F.ex
  have KX : K.In s.heap := e0.mod.kin.keeps fun b o e => (e0.bs b o e).1
  have lim : s.heap.NoLimit := e0.mod.nolimit.keeps fun b o e => (e0.bs b o e).1
  have hkind : ∀ y ∈ ps.zip us, scope.names.lookup y.1 = some .local ∨ (scope.names.lookup y.1 = some .cell ∧ ((cellsFrom (s.heap.objs.size + 1) scope.names []).lookup y.1).isSome = true) := fun y hy => by
    rcases S.par y.1 (List.of_mem_zip hy).1 with q | q
    · exact .inl q
    · exact .inr ⟨q, PySem.W.cellsFrom_some _ _ _ (.inl q)⟩
  refine codeAny_call_function hr.depth (KX _ _ lk) rfl S.co S.gen rfl (PySem.W.codeRec_of KX hcd) (hb _ _ _ _ ?_)
  refine wpAny_newFunctionEnv_cells S.kind hkind fun env he s1 x => ?_
  subst he
  refine ⟨lim.keeps x.toInCall.keep, codeAny_func ?_⟩
  obtain ⟨t, ht, hq⟩ := hbody cdv (hr.deeper _)
  have I : Inv (cxOf CX P w K mg base N qual scope f cdv A outer s H E) [] (L2.start N vs) H s1 := inv_start S hr.hd e0 hl r x
  refine wpAny_mono (ht.run [] s1 (L2.start N vs) H _ I hq) (fun fl s' hs => ?_) fun e s' hs => hs
  cases fl with
  | ret u =>
    obtain ⟨v, σ', H', J, rv, q⟩ := hs
    exact ⟨v, H', J.os, J.bare, J.base, J.hok, rv, q⟩
  | next =>
    obtain ⟨σ', H', J, q⟩ := hs
    exact ⟨.non, H', J.os, J.bare, J.base, J.hok, rfl, q⟩
  | brk =>
    obtain ⟨_, _, _, q⟩ := hs
    exact False.elim q
  | cont =>
    obtain ⟨_, _, _, q⟩ := hs
    exact False.elim q
/-- the reading of return iter(self.fld) -/
def tIterF (K : PySem.W.Frag) (C : Addr) (fld : Str) (n : Nat) : TE := fun σ H Q => ∃ a dx gs l zs, σ[0]? = some (some (.ref a)) ∧ H a = some (.ins C dx gs) ∧ gs.lookup fld = some (.ref l) ∧ SqL K H l zs ∧ ∀ it, H it = none → n ≤ it → Q (.ref it) (upd H it (ItO l it 0))
theorem fnIter_of {P : Program} {w : World} {K : PySem.W.Frag} {mg : Str → Option Value} {base : Heap} {x qual : Str} {params : Arguments} {body : List Stmt} {scope : Scope} {f : Addr} {fd : FuncData} {N : List Str} {k : Nat} {C fld sn : Str}
    (F : FunD K x qual params body scope [] [] f fd) (S : FnScope N [sn] scope) (hb : Binds K fd [sn] [])
    (hbody : ∀ (cdv : Value) (A : Around) (outer : List PySem.Env) (s : Shared) (H : Hp), Room k (A.deeper (envOfC qual scope s.heap.objs.size f cdv)) → PSs (cxOf (L2.CX P w) P w K mg base N qual scope f cdv A outer s H (fun _ _ _ => False)) body (tRet (tIterF K (ga K C) fld s.heap.objs.size))) : FnIter P w K mg base (k + 1) f C fld := by
  intro A outer s H a dx gs l zs Q hr e0 ha hl hq hQ
  have KX : K.In s.heap := e0.mod.kin.keeps fun b o e => (e0.bs b o e).1
  have b := hb s [.ref a] KX rfl
  rw [List.append_nil] at b
  exact run_def F S (vs := [.ref a]) rfl hr e0 b (.cons rfl .nil) fun cdv hr2 => ⟨_, hbody cdv A outer s H hr2, a, dx, gs, l, zs, rfl, ha, hl, hq, hQ⟩
/-- iter(x.fld), x the first slot -/
theorem pe_iterF {X : Cx} {C fld x : Str} {p p2 p3 pos : Pos} (hm : X.mg "iter" = none) (cl : Cls X.K (ga X.K C)) (na : NoAttr X.K (ga X.K C) fld) (hN : X.N[0]? = some x := by rfl) (hv : Vis X.env.scope x := by first | exact Or.inl rfl | exact Or.inr (Or.inl rfl) | exact Or.inr (Or.inr rfl)) (hd : (x == ("__debug__" : Str)) = false := by decide)
    (hcd : (x == ("__classdict__" : Str)) = false := by decide) (hg : Gl X "iter" := by rfl) (hb : attributeBase (.Name x p2) fld X.env (eval (.Name x p2) X.env) = eval (.Name x p2) X.env := by rfl)
    (hs : starEach (.Attribute (.Name x p2) fld p3 :: []) X.env = (false, eval (.Attribute (.Name x p2) fld p3) X.env) :: starEach [] X.env := by rfl) (hpl : (backTo pos (starEach [] X.env)).any (·.1) = false := by rfl) :
    PE X (.Call (.Name "iter" p) [.Attribute (.Name x p2) fld p3] [] pos) (tIterF X.K (ga X.K C) fld X.s_0.heap.objs.size) := by
  refine PE.weak (pe_callB ItX.call_iterN hg hm (by decide +kernel) (pa_cons (pe_fld (pv 0 hN hv hd hcd) hb) pa_nil hs) (he := hs) (hpl := hpl)) fun σ H Q ⟨a, dx, gs, l, zs, h0, ha, hl, hq, hQ⟩ => ?_
  exact ⟨.ref a, h0, a, _, dx, gs, .ref l, rfl, ha, cl, na, hl, l, zs, rfl, hq, hQ⟩
/-- what a class must say that its instances are walked so -/
structure ItrF (K : PySem.W.Frag) (C : Addr) (f : Addr) : Prop where
  at_ : PySem.W.findIn K (.ref C) "__iter__" = some (some (.ref f))
  fn : PySem.W.isFn K (.ref f) = true
def itemsO (C fld : Str) : D → M (List D)
  | .obj c fs => match decide (c = C), fs.lookup fld with
    | true, some d => itemsL d
    | _, _ => stuck
  | _ => stuck
def overO (C fld : Str) (m : M D) : M (List D) := m >>= itemsO C fld
theorem goI_itemsL {K : PySem.W.Frag} {W : WX} {σ : L2.St} {I H : Hp} {δ : En} {d : D} {v : V} {R : It → Hp → Prop} (en : Env K I H σ δ) (r : Rep K I d v) (g : GoI K W (itemsL d) σ I H δ R) :
    ∃ l zs, v = .ref l ∧ SqL K H l zs ∧ ∃ ds, ItD K I (Itl K l) ds ∧ GoI K W (pure ds) σ I H δ R := by
  unfold itemsL at g
  cases r with
  | lst h r => exact ⟨_, _, rfl, .inl (.inl (en.ext _ _ h)), _, itD_list (.inl (.inl h)) r, g⟩
  | scr h => exact ⟨_, _, rfl, sqL_ext en.ext h, _, itD_list h (reps_ints _), g⟩
  | _ => exact g.elim
theorem ItlF_zero (K : PySem.W.Frag) (l : Addr) : ItX.ItlF K l 0 = Itl K l := by
  unfold ItX.ItlF
  simp only [Nat.zero_add]
theorem di_own {X : Cx} {W : WX} {k kf : Nat} {f : Addr} {C fld : Str} {tg e : Expr} {m : M D} (c : Ctx X W k) (T : ItrF X.K (ga X.K C) f) (F : FnIter X.prog X.w X.K X.mg X.base kf f C fld) (he : DE X W e m) (hk : kf ≤ k := by decide) : DI X W tg e (overO C fld m) := by
  refine ⟨fun pins s σ H R J ⟨Ik, δ, en, g⟩ => ?_⟩
  refine thn (he.run pins s σ H (fun v H1 => ∃ I1 δ1 d, Env X.K I1 H1 σ δ1 ∧ Rep X.K I1 d v ∧ GoI X.K W (itemsO C fld d) σ I1 H1 δ1 R) J (goI_bind en g fun d v I1 H1 δ1 n1 r1 g1 => ⟨I1, δ1, d, n1.env, r1, g1⟩)) fun u s1 ⟨v, H1, J1, ru, I1, δ1, d, en1, r1, g1⟩ => ?_
  unfold itemsO at g1
  cases r1 with
  | @obj c' fs a dx gs hI rf =>
    cases ru
    dsimp only at g1
    by_cases ec : c' = C
    · subst ec
      cases q : fs.lookup fld with
      | none => rw [q, decide_eq_true rfl] at g1; exact g1.elim
      | some d =>
        rw [q, decide_eq_true rfl] at g1
        obtain ⟨v, hv, rv⟩ := rf.lookup q
        obtain ⟨l, zs, rfl, hq, ds, td, g2⟩ := goI_itemsL en1 rv g1
        have ha := en1.ext _ _ hI
        obtain ⟨mA, O, _⟩ := ins_get J1.hok ha
        obtain ⟨od, Ia, _⟩ := O.look
        obtain ⟨m0, fr⟩ := J1.fr
        refine PySem.W.owit_iter fr J1.ok.mod.kin Ia T.at_ T.fn (wpAny_call (codeAny_mono (F X.A X.stack s1 H1 a dx gs l zs (fun v' H' => ∃ it, v' = .ref it ∧ H1 it = none ∧ s1.heap.objs.size ≤ it ∧ H' = upd H1 it (ItO l it 0)) (c.room.mono hk) J1.env0 ha hv hq (fun it h1 h2 => ⟨it, rfl, h1, h2, rfl⟩)) fun r s' hq' => ?_))
        cases r with
        | error e => exact passAt (W := fun _ _ _ _ => False) (fun u s' ⟨_, _, _, _, _, _, _, _, _, _, _, _, _, _, _, _, w⟩ => w.elim) σ pins H1 s1 e s' J1 hq'
        | ok fl =>
          cases fl with
          | ret u =>
            obtain ⟨v', H', J2, rv', it, ev, hit, hsz, eH⟩ := J1.after hq'
            subst ev eH
            cases rv'
            have hi : upd H1 it (ItO l it 0) it = some (ItO l it 0) := upd_same ..
            have eo := itO_get J2 hi
            have st : s'.heap.IsListIter it l (0 + 0) := ⟨_, eo, rfl, rfl⟩
            have hi' := hi
            unfold ItO at hi'
            have drop : ItX.dropH (upd H1 it (ItO l it 0)) it = H1 := ItX.dropH_upd hit
            have J3 := ItX.inv_drop J2 hi'
            have f3 := ItX.inv_fp J2 hi (Nat.le_trans J1.sz hsz)
            rw [drop] at J3 f3
            unfold PySem.W.OwitIt
            have hT : s'.TypeIs (.ref it) "list_iterator" := ⟨_, eo, rfl⟩
            refine wpAny_specialOf hT slot_listiter_next.lookup ?_
            refine ⟨it, [it], _, _, H1, rfl, J3, (ItlF_zero X.K l ▸ ItX.turn_listF l it 0), st, fun b hb => ?_, g2.val en1 td⟩
            have e : b = it := by simpa using hb
            rw [e]
            exact f3
          | next => exact False.elim hq'
          | brk => exact False.elim hq'
          | cont => exact False.elim hq'
    · rw [decide_eq_false ec] at g1; exact g1.elim
  | _ => exact g1.elim
end DL
set_option maxHeartbeats 2000000
/-! DL17: try: .. except C as e: return f(e); f, called with the caught exception. -/
namespace DL
open PySem PySem.Spec PyProof.Rows L2
/-! ### a def that is handed the caught exception -/
def GoX (K : PySem.W.Frag) (r : Rs D) (I H : Hp) (Q : VK) : Prop := match r with
  | .ok d _ => ∀ v I' H', DL.Ext I' H' → Post I H I' H' (fun _ => False) → Rep K I' d v → Q v H'
  | _ => False
abbrev MX := Addr → Option Addr → Xc → Rs D
def FnX (P : Program) (w : World) (K : PySem.W.Frag) (mg : Str → Option Value) (base : Heap) (k : Nat) (f : Addr) (g : MX) : Prop :=
  ∀ (A : Around) (outer : List PySem.Env) (s : Shared) (H : Hp) (a : Addr) (oe : Obj) (dd : Option Addr) (x : Xc) (I : Hp) (Q : VK), L2H.RoomH k A → L2H.PinOk outer H s (a, oe) → Env0 P w K mg base A outer s H → Zc (.ref (ga K x.cls)) dd oe → (∃ vs, oe.data = .fields vs) → DL.Ext I H → XcDict K I dd x →
    GoX K (g a dd x) I H Q → codeAny (model P w) A (.call (.ref f) ⟨[.ref a], []⟩) (CR (L2.CX P w) outer P w H s Q (fun _ _ _ => False)) s
/-- the facts of its body -/
structure CtxX (X : Cx) (a : Addr) (dd : Option Addr) (x : Xc) (k : Nat) : Prop where
  room : L2H.RoomH k X.A
  nd : X.N.Nodup
  pin : ∃ oe, (a, oe) ∈ X.pn ∧ Zc (.ref (ga X.K x.cls)) dd oe ∧ ∃ vs, oe.data = .fields vs
theorem CtxX.units {X : Cx} {a : Addr} {dd : Option Addr} {x : Xc} {k : Nat} (c : CtxX X a dd x k) : X.A.units + 64 < cLine := by have := c.room.un; omega
/-- how such a body ends: the parameter is the exception -/
def runX (N : Nat) (b : Addr → Option Addr → Xc → M Fl) : MX := fun a dd x => match b a dd x (Sl.xc a dd x :: List.replicate (N - 1) .un) with
  | .ok .nx _ => .ok .non []
  | .ok (.rt d) _ => .ok d []
  | _ => .st
theorem fnX_def {P : Program} {w : World} {K : PySem.W.Frag} {mg : Str → Option Value} {base : Heap} {x0 qual : Str} {params : Arguments} {body : List Stmt} {scope : Scope} {f : Addr} {fd : FuncData} {N : List Str} {pn : Str} {k : Nat} {b : Addr → Option Addr → Xc → M Fl}
    (F : FunD K x0 qual params body scope [] [] f fd) (S : FnScope N [pn] scope) (hbd : Binds K fd [pn] [])
    (hb : ∀ (cdv : Value) (A : Around) (outer : List PySem.Env) (s : Shared) (H : Hp) (p : Addr × Obj) (dd : Option Addr) (x : Xc), CtxX (L2H.cxH (L2.CX P w) P w K mg base N qual scope f cdv A outer s H (fun _ _ _ => False) p) p.1 dd x k →
      DSs (L2H.cxH (L2.CX P w) P w K mg base N qual scope f cdv A outer s H (fun _ _ _ => False) p) W0 1 body (b p.1 dd x)) : FnX P w K mg base (k + 1) f (runX N.length b) := by
  intro A outer s H a oe dd x I Q hr hpin e0 hz hdt he hx g
  obtain ⟨oc, od, dV, kV, doc, pm, an, cdv, ct, osl, rfl, lk, hcd, _, _⟩ := F.ex
  have KX : K.In s.heap := e0.mod.kin.keeps fun b o e => (e0.bs b o e).1
  have lim : s.heap.NoLimit := e0.mod.nolimit.keeps fun b o e => (e0.bs b o e).1
  have bs := hbd s [.ref a] KX rfl
  rw [List.append_nil] at bs
  have hkind : ∀ y ∈ [pn].zip [Value.ref a], scope.names.lookup y.1 = some .local ∨ (scope.names.lookup y.1 = some .cell ∧ ((cellsFrom (s.heap.objs.size + 1) scope.names []).lookup y.1).isSome = true) := fun y hy => by
    rcases S.par y.1 (List.of_mem_zip hy).1 with q | q
    · exact .inl q
    · exact .inr ⟨q, PySem.W.cellsFrom_some _ _ _ (.inl q)⟩
  refine codeAny_call_function hr.depth (KX _ _ lk) rfl S.co S.gen rfl (PySem.W.codeRec_of KX hcd) (bs _ _ _ _ ?_)
  refine wpAny_newFunctionEnv_cells S.kind hkind fun env hen s1 xx => ?_
  subst hen
  refine ⟨lim.keeps xx.toInCall.keep, codeAny_func ?_⟩
  have c : CtxX (L2H.cxH (L2.CX P w) P w K mg base N qual scope f cdv A outer s H (fun _ _ _ => False) (a, oe)) a dd x k := ⟨hr.deeper _, S.nd, oe, by exact List.mem_singleton.mpr rfl, hz, hdt⟩
  have J : Inv (L2H.cxH (L2.CX P w) P w K mg base N qual scope f cdv A outer s H (fun _ _ _ => False) (a, oe)) [] (L2.start N [V.ref a]) H s1 := L2H.inv_startH (ps := [pn]) (vs := [V.ref a]) S hpin e0 rfl (.cons rfl .nil) xx
  have hN : 1 ≤ N.length := by
    have h1 := congrArg List.length S.pre
    rw [List.length_take] at h1
    have h2 : ([pn] : List Str).length = 1 := rfl
    omega
  have hst : L2.start N [V.ref a] = some (V.ref a) :: List.replicate (N.length - 1) none := rfl
  have en : Env K I H (L2.start N [V.ref a]) (Sl.xc a dd x :: List.replicate (N.length - 1) .un) := by
    rw [hst]
    refine ⟨he, by simp, fun i t o h1 h2 => ?_, fun i j b h1 _ => ?_⟩
    · cases i with
      | zero => cases h1; cases h2; exact ⟨rfl, hx⟩
      | succ i =>
        have h1' : (List.replicate (N.length - 1) Sl.un)[i]? = some t := h1
        rw [List.getElem?_replicate] at h1'
        split at h1'
        · cases h1'; exact trivial
        · cases h1'
    · obtain ⟨⟨t, ht, hto⟩, _⟩ := h1
      cases i with
      | zero => cases ht; exact hto.elim
      | succ i =>
        have h1' : (List.replicate (N.length - 1) Sl.un)[i]? = some t := ht
        rw [List.getElem?_replicate] at h1'
        split at h1'
        · cases h1'; exact hto.elim
        · cases h1'
  have noOwn : ∀ b, ¬ Own (Sl.xc a dd x :: List.replicate (N.length - 1) .un) (L2.start N [V.ref a]) b := fun b ⟨i, ⟨t, ht, hto⟩, _⟩ => by
    cases i with
    | zero => cases ht; exact hto.elim
    | succ i =>
      have h1' : (List.replicate (N.length - 1) Sl.un)[i]? = some t := ht
      rw [List.getElem?_replicate] at h1'
      split at h1'
      · cases h1'; exact hto.elim
      · cases h1'
  have hgo : GoS K W0 1 (b a dd x) (L2.start N [V.ref a]) I H (Sl.xc a dd x :: List.replicate (N.length - 1) .un) { nx := fun _ H' => Q .non H', rt := Q } := by
    unfold runX GoX at g
    unfold GoS
    cases q : b a dd x (Sl.xc a dd x :: List.replicate (N.length - 1) .un) with
    | st => rw [q] at g; exact g
    | er e δ' => rw [q] at g; exact g.elim
    | ok fl δ' =>
      rw [q] at g
      have po : ∀ {I' H' : Hp} {σ' : L2.St}, NxtS K 1 (L2.start N [V.ref a]) I H (Sl.xc a dd x :: List.replicate (N.length - 1) .un) σ' I' H' δ' → Post I H I' H' (fun _ => False) := fun n =>
        ⟨n.post.ext, fun a o e z => (n.post.fresh a o e z).imp id fun w => noOwn a w, fun a o e _ => n.post.keep a o e (noOwn a), n.post.dom⟩
      cases fl with
      | nx => exact fun σ' I' H' n => g .non I' H' n.env.ext (po n) .non
      | rt d => exact fun σ' I' H' n v r => g v I' H' n.env.ext (po n) r
      | bk => exact g.elim
      | ct => exact g.elim
  refine wpAny_mono ((hb cdv A outer s H (a, oe) dd x c).run [] s1 (L2.start N [V.ref a]) H _ J ⟨I, _, en, hgo⟩) (fun fl s' hs => ?_) fun e s' hs => hs
  cases fl with
  | ret u =>
    obtain ⟨v, σ', H', J', rv, q⟩ := hs
    exact ⟨v, H', J'.os, J'.bare, J'.base, J'.hok, rv, q⟩
  | next =>
    obtain ⟨σ', H', J', q⟩ := hs
    exact ⟨.non, H', J'.os, J'.bare, J'.base, J'.hok, rfl, q⟩
  | brk =>
    obtain ⟨_, _, _, q⟩ := hs
    exact False.elim q
  | cont =>
    obtain ⟨_, _, _, q⟩ := hs
    exact False.elim q
/-! ### e.f, isinstance(e, C) -/
/-- the slot holds that exception -/
def xcV (i : Nat) (a : Addr) (dd : Option Addr) : M Xc := fun δ => match δ[i]? with
  | some (.xc a' dd' x) => if a' = a ∧ dd' = dd then .ok x δ else .st
  | _ => .st
theorem xcV_ok {i : Nat} {a : Addr} {dd : Option Addr} {x : Xc} {δ δ' : En} (h : xcV i a dd δ = .ok x δ') : δ' = δ ∧ δ[i]? = some (.xc a dd x) := by
  unfold xcV at h
  cases q : δ[i]? with
  | none => rw [q] at h; cases h
  | some s =>
    rw [q] at h
    cases s with
    | xc a' dd' x' =>
      dsimp only at h
      by_cases e : a' = a ∧ dd' = dd
      · rw [if_pos e] at h
        cases h
        rw [e.1, e.2]
        exact ⟨rfl, rfl⟩
      · rw [if_neg e] at h; cases h
    | _ => cases h
theorem go_xcV {K : PySem.W.Frag} {W : WX} {σ : L2.St} {I H : Hp} {δ : En} {i : Nat} {a : Addr} {dd : Option Addr} {f : Xc → M D} {Q : VK} (en : Env K I H σ δ) (g : Go K W (xcV i a dd >>= f) σ I H δ Q) :
    ∃ x, σ[i]? = some (some (.ref a)) ∧ XcDict K I dd x ∧ Go K W (f x) σ I H δ Q := by
  have g0 := g
  unfold Go at g
  rw [bind_eq] at g
  cases q : xcV i a dd δ with
  | st => rw [q] at g; exact g.elim
  | er e δ' =>
    unfold xcV at q
    cases q2 : δ[i]? with
    | none => rw [q2] at q; cases q
    | some s =>
      rw [q2] at q
      cases s with
      | xc a' dd' x' => dsimp only at q; split at q <;> cases q
      | _ => cases q
  | ok x δ' =>
    obtain ⟨e, hs⟩ := xcV_ok q
    subst e
    obtain ⟨o, ho, e, hx⟩ := en.slot hs
    subst e
    exact ⟨x, ho, hx, g0.after (.refl en) q⟩
/-- e.f -/
def xfldD (cs : List Str) (cl f : Str) (x : Xc) : M D := match cs.contains cl, x.fs.lookup f with
  | true, some d => pure d
  | _, _ => stuck
structure XfF (K : PySem.W.Frag) (cs : List Str) (f : Str) : Prop where
  at_ : ∀ c ∈ cs, XfC K (ga K c) ∧ PySem.W.findIn K (.ref (ga K c)) f = some none
section
variable {X : Cx} {W : WX} {a : Addr} {dd : Option Addr} {x : Xc} {k : Nat} {y : Str} {p pos : Pos}
theorem d_xf (i : Nat) {cs : List Str} {f : Str} (c : CtxX X a dd x k) (F : XfF X.K cs f) (hN : X.N[i]? = some y := by rfl) (hv : Vis X.env.scope y := by first | exact Or.inl rfl | exact Or.inr (Or.inl rfl) | exact Or.inr (Or.inr rfl)) (hd : (y == ("__debug__" : Str)) = false := by decide)
    (hcd : (y == ("__classdict__" : Str)) = false := by decide) (hb : attributeBase (.Name y p) f X.env (eval (.Name y p) X.env) = eval (.Name y p) X.env := by rfl) : DE X W (.Attribute (.Name y p) f pos) (xcV i a dd >>= xfldD cs x.cls f) := by
  refine ⟨fun pins s σ H Q J ⟨I, δ, en, g⟩ => ?_⟩
  obtain ⟨x', hσ, hx, g2⟩ := go_xcV en g
  refine attr_of hb (thn ((pv i hN hv hd hcd).run pins s σ H (fun v H1 => v = .ref a ∧ H1 = H) J ⟨.ref a, hσ, rfl, rfl⟩) fun u s1 ⟨v, H1, I1, rx, ev, eH⟩ => ?_)
  subst ev eH
  obtain rfl : u = Value.ref a := rx
  obtain ⟨oe, hp, hz, hf⟩ := c.pin
  unfold xfldD at g2
  cases q1 : cs.contains x.cls with
  | false => rw [q1] at g2; exact g2.elim
  | true =>
    cases q2 : x'.fs.lookup f with
    | none => rw [q1, q2] at g2; exact g2.elim
    | some d =>
      rw [q1, q2] at g2
      rcases hx with ⟨e0, _⟩ | ⟨d0, gs, ed, hI, rf⟩
      · rw [e0] at q2; cases q2
      · subst ed
        obtain ⟨T, hno⟩ := F.at_ x.cls (by simpa using q1)
        obtain ⟨v, l, rv⟩ := rf.lookup q2
        obtain ⟨ha, _⟩ := I1.pin (a, oe) (List.mem_append_left _ hp)
        obtain ⟨vs, hdt⟩ := hf
        have hxo : ObjOk X.prog X.w H1 s1.heap d0 (.xd gs) := I1.hok d0 _ (en.ext _ _ hI)
        obtain ⟨mA, hns, hr⟩ := hxo
        obtain ⟨od, ho, hl⟩ := lookIn_ns hns
        obtain ⟨u, hu, ru⟩ := RelO.some_of (v := v) (o := mA f) (by rw [← l]; exact hr f)
        have Ji : PySem.W.InstAt s1.heap a oe (ga X.K x.cls) (some od) := ⟨ha, hz.1, by unfold PySem.W.notCls; rw [hdt] <;> rfl, by rw [hz.2]; exact ho⟩
        exact HandSPX.exc_get I1.kIn Ji T.ga T.gg T.exC (PySem.W.findObj_own T.hdC hno rfl (by rw [hl, hu])) (handed_of ru) ⟨v, H1, I1.tok _, ru, g2.val0 en rv⟩
/-- isinstance(e, C) -/
def xisD (tab : Str → Option Bool) (cl : Str) (_ : Xc) : M D := match tab cl with
  | some b => pure (.bl b)
  | none => stuck
structure XisF (K : PySem.W.Frag) (tab : Str → Option Bool) (C : Str) : Prop where
  at_ : ∀ c b, tab c = some b → ExcC K (ga K c) ∧ PySem.W.kitOne K (.ref (ga K c)) (.ref (ga K C)) = some b
theorem d_xis (i : Nat) {tab : Str → Option Bool} {C : Str} {p2 p3 : Pos} (c : CtxX X a dd x k) (F : XisF X.K tab C) (hm : X.mg "isinstance" = none) (hC : X.mg C = some (.ref (ga X.K C))) (hN : X.N[i]? = some y := by rfl)
    (hv : Vis X.env.scope y := by first | exact Or.inl rfl | exact Or.inr (Or.inl rfl) | exact Or.inr (Or.inr rfl)) (hd : (y == ("__debug__" : Str)) = false := by decide) (hcd : (y == ("__classdict__" : Str)) = false := by decide) (hg : Gl X "isinstance" := by rfl) (hgC : Gl X C := by rfl) (hdC : (C == ("__debug__" : Str)) = false := by decide)
    (hs : starEach (.Name y p2 :: [.Name C p3]) X.env = (false, eval (.Name y p2) X.env) :: starEach [.Name C p3] X.env := by rfl) (hs2 : starEach (.Name C p3 :: []) X.env = (false, eval (.Name C p3) X.env) :: starEach [] X.env := by rfl) (hpl : (backTo pos (starEach [.Name C p3] X.env)).any (·.1) = false := by rfl) :
    DE X W (.Call (.Name "isinstance" p) [.Name y p2, .Name C p3] [] pos) (xcV i a dd >>= xisD tab x.cls) := by
  refine ⟨fun pins s σ H Q J ⟨I, δ, en, g⟩ => ?_⟩
  obtain ⟨x', hσ, hx, g2⟩ := go_xcV en g
  unfold xisD at g2
  cases q : tab x.cls with
  | none => rw [q] at g2; exact g2.elim
  | some b =>
    rw [q] at g2
    obtain ⟨E, hk⟩ := F.at_ _ _ q
    refine wpAny_Call_Name_kw (ld_blt J hg hm (by decide +kernel : bootBuiltins "isinstance" = some (.builtin "isinstance")) ?_ (by decide) (by decide))
    have hA : PA X [.Name y p2, .Name C p3] (tCons (tVar i) (tCons (tC (.ref (ga X.K C))) tNil)) := pa_cons (pv i hN hv hd hcd) (pa_cons (pe_glob hgC hC rfl hdC) pa_nil hs2) hs
    refine PyProof.Rows.callWith_builtin1 (thn (hA.run pos pins s σ H (fun vs H1 => vs = [.ref a, .ref (ga X.K C)] ∧ H1 = H) J ⟨.ref a, hσ, rfl, rfl⟩) fun us s1 ⟨vs, H1, I1, rv, ev, eH⟩ => ?_) hs hpl
    subst ev eH
    cases rv with
    | cons ra rr =>
      cases rr with
      | cons rb rr =>
        cases rr
        cases ra
        cases rb
        obtain ⟨oe, hp, hz, hf⟩ := c.pin
        obtain ⟨ha, _⟩ := I1.pin (a, oe) (List.mem_append_left _ hp)
        obtain ⟨vs, hdt⟩ := hf
        have fin : ∀ od, PySem.W.InstAt s1.heap a oe (ga X.K x.cls) od → wpAny (model X.prog X.w) X.A (call (.builtin "isinstance") [.ref a, .ref (ga X.K C)]) (EP X pins σ Q) X.xe s1 := fun od Ji =>
          PySem.W.kia_one (PySem.W.kitx_exc (od := od) (by obtain ⟨cd, hc, _⟩ := PySem.W.any_some E.hd; rw [hc]; rfl) E.hg E.hk E.hs E.ha E.hn E.ht E.hm) I1.kIn Ji hk (fun z => nomatch z) fun tk => ⟨.bl b, H1, I1.kept (t' := tk) fun _ _ z => z, rfl, g2.val0 en (.bl b)⟩
        rcases hx with ⟨_, ed⟩ | ⟨d0, gs, ed, hI, _⟩
        · exact fin none ⟨ha, hz.1, by unfold PySem.W.notCls; rw [hdt] <;> rfl, by rw [hz.2, ed]; exact trivial⟩
        · subst ed
          have hxo : ObjOk X.prog X.w H1 s1.heap d0 (.xd gs) := I1.hok d0 _ (en.ext _ _ hI)
          obtain ⟨mA, hns, hr⟩ := hxo
          obtain ⟨od, ho, hl⟩ := lookIn_ns hns
          exact fin (some od) ⟨ha, hz.1, by unfold PySem.W.notCls; rw [hdt] <;> rfl, by rw [hz.2]; exact ho⟩
end
end DL
set_option maxHeartbeats 2000000
/-! DL18: try: body / except C as e: return f(e). -/
namespace DL
open PySem PySem.Spec PyProof.Rows L2
/-- one object less -/
def cut (I : Hp) (d : Addr) : Hp := fun b => if b = d then none else I b
theorem cut_ne {I : Hp} {d b : Addr} (h : b ≠ d) : cut I d b = I b := if_neg h
theorem cut_same {I : Hp} {d : Addr} : cut I d d = none := if_pos rfl
theorem cut_some {I : Hp} {d b : Addr} {o : HO} (h : cut I d b = some o) : b ≠ d ∧ I b = some o := by
  by_cases e : b = d
  · subst e; rw [cut_same] at h; cases h
  · rw [cut_ne e] at h; exact ⟨e, h⟩
section
variable {K : PySem.W.Frag} {I : Hp} {d : Addr} {gs : List (Str × V)} (hd : I d = some (.xd gs))
theorem keepC {b : Addr} {o : HO} (h : I b = some o) (ne : ∀ gs, o ≠ .xd gs) (hd : I d = some (.xd gs)) : cut I d b = some o := by
  have hb : b ≠ d := fun e => by subst e; rw [hd] at h; exact ne gs (Option.some.inj h).symm
  rw [cut_ne hb]; exact h
theorem sqL_cut {a : Addr} {xs : List V} (h : SqL K I a xs) (hd : I d = some (.xd gs)) : SqL K (cut I d) a xs := by
  rcases h with (h | ⟨o, h⟩) | h
  · exact .inl (.inl (keepC h (fun _ e => nomatch e) hd))
  · exact .inl (.inr ⟨o, keepC h (fun _ e => nomatch e) hd⟩)
  · exact .inr h
theorem sqT_cut {a : Addr} {xs : List V} (h : SqT K I a xs) (hd : I d = some (.xd gs)) : SqT K (cut I d) a xs := by
  rcases h with (h | ⟨o, h⟩) | h
  · exact .inl (.inl (keepC h (fun _ e => nomatch e) hd))
  · exact .inl (.inr ⟨o, keepC h (fun _ e => nomatch e) hd⟩)
  · exact .inr h
mutual
theorem Rep.cutX (hd : I d = some (.xd gs)) : ∀ {x : D} {v : V}, Rep K I x v → Rep K (cut I d) x v
  | _, _, .non => .non
  | _, _, .bl b => .bl b
  | _, _, .int i => .int i
  | _, _, .str x => .str x
  | _, _, .cls c => .cls c
  | _, _, .lst h r => .lst (keepC h (fun _ e => nomatch e) hd) (Reps.cutX hd r)
  | _, _, .scr h => .scr (sqL_cut h hd)
  | _, _, .tup h r => .tup (sqT_cut h hd) (Reps.cutX hd r)
  | _, _, .obj h r => .obj (keepC h (fun _ e => nomatch e) hd) (RepF.cutX hd r)
theorem Reps.cutX (hd : I d = some (.xd gs)) : ∀ {xs : List D} {vs : List V}, Reps K I xs vs → Reps K (DL.cut I d) xs vs
  | _, _, .nil => .nil
  | _, _, .cons h r => .cons (Rep.cutX hd h) (Reps.cutX hd r)
theorem RepF.cutX (hd : I d = some (.xd gs)) : ∀ {fs : List (Str × D)} {vs : List (Str × V)}, RepF K I fs vs → RepF K (DL.cut I d) fs vs
  | _, _, .nil => .nil
  | _, _, .cons h r => .cons (Rep.cutX hd h) (RepF.cutX hd r)
end
end
/-- what such a suite tells: I2 the known part with the exception's dict -/
theorem caught_end {K : PySem.W.Frag} {P i : Nat} {σ : L2.St} {I H I2 I3 H3 : Hp} {δ : En} {dv : D} {v : V} (en : Env K I H σ δ) (hP : P ≤ i) (h2 : I2 = I ∨ ∃ d gs, I d = none ∧ H d = some (.xd gs) ∧ I2 = upd I d (.xd gs))
    (e3 : DL.Ext I3 H3) (po : Post I2 H I3 H3 (fun _ => False)) (r : Rep K I3 dv v) : ∃ I4, NxtS K P σ I H δ (σ.set i none) I4 H3 (δ.set i .un) ∧ Rep K I4 dv v := by
  have fin : ∀ I4 : Hp, DL.Ext I I4 → DL.Ext I4 H3 → (∀ a o, I4 a = some o → I a = none → H a = none) → NxtS K P σ I H δ (σ.set i none) I4 H3 (δ.set i .un) := fun I4 k1 k2 k3 => by
    have back : ∀ j a, OwnAt (δ.set i .un) (σ.set i none) j a → OwnAt δ σ j a := fun j a h => by
      obtain ⟨ne, o⟩ := ownAt_un h
      exact (ownAt_st ne).mp o
    refine ⟨⟨k2, by rw [List.length_set, List.length_set]; exact en.len, fun j t o h1 h2 => ?_, fun j k a h1 h2 => en.one j k a (back j a h1) (back k a h2)⟩,
      ⟨k1, fun a o e z => .inl (k3 a o e z), fun a o e _ => po.keep a o e (fun z => z), po.dom⟩, fun a ⟨j, h⟩ => .inl ⟨j, back j a h⟩, fun j hj => List.getElem?_set_ne (by omega)⟩
    rcases set_at h1 with ⟨e, q⟩ | ⟨ne, q⟩
    · subst q; exact trivial
    · rw [set_get_ne ne] at h2
      refine (en.at_ j t o q h2).stay k1 fun a ho e u hu => ⟨?_, po.keep a u hu (fun z => z)⟩
      have hI := en.ownI ⟨j, ⟨t, q, ho⟩, by rw [h2, e]⟩
      cases z : I4 a with
      | none => rfl
      | some o4 => rw [k3 a o4 z hI] at hu; cases hu
  rcases h2 with rfl | ⟨d, gs, hI, hH, rfl⟩
  · exact ⟨I3, fin I3 po.ext e3 fun a o e z => (po.fresh a o e z).elim id fun w => w.elim, r⟩
  · have hd3 : I3 d = some (.xd gs) := po.ext _ _ (upd_same ..)
    refine ⟨cut I3 d, fin _ (fun a o h => ?_) (fun a o h => e3 a o (cut_some h).2) (fun a o e z => ?_), r.cutX hd3⟩
    · have hne : a ≠ d := fun e => by subst e; rw [hI] at h; cases h
      rw [cut_ne hne]
      exact po.ext a o (by rw [upd_ne hne]; exact h)
    · obtain ⟨hne, e⟩ := cut_some e
      exact (po.fresh a o e (by rw [upd_ne hne]; exact z)).elim id fun w => w.elim
open Classical in
/-- the def called does not look at the addresses -/
noncomputable def allX (g : Addr → Option Addr → Rs D) : Rs D := if h : ∃ r, ∀ a dd, g a dd = r then h.choose else .st
theorem allX_at {g : Addr → Option Addr → Rs D} (h : allX g ≠ .st) (a : Addr) (dd : Option Addr) : g a dd = allX g := by
  unfold allX at *
  by_cases e : ∃ r, ∀ a dd, g a dd = r
  · rw [dif_pos e]
    exact e.choose_spec a dd
  · rw [dif_neg e] at h; exact absurd rfl h
theorem allX_of {g : Addr → Option Addr → Rs D} {r : Rs D} (h : ∀ a dd, g a dd = r) : allX g = r := by
  unfold allX
  have e : ∃ r, ∀ a dd, g a dd = r := ⟨r, h⟩
  rw [dif_pos e]
  exact (e.choose_spec 0 none).symm.trans (h 0 none)
noncomputable def catchX (i : Nat) (tab : Str → Option Bool) (g : MX) (x : Xc) : M Fl := fun δ => match tab x.cls with
  | some true => (match allX fun a dd => g a dd x with
    | .ok d _ => if i < δ.length then .ok (.rt d) (δ.set i .un) else .st
    | _ => .st)
  | some false => .er x δ
  | none => .st
noncomputable def tryX (i : Nat) (tab : Str → Option Bool) (g : MX) (mb : M Fl) : M Fl := fun δ => match mb δ with
  | .ok fl δ' => .ok fl δ'
  | .er x δ' => catchX i tab g x δ'
  | .st => .st
/-- which classes the clause takes -/
structure ExmF (K : PySem.W.Frag) (tab : Str → Option Bool) (C : Str) : Prop where
  at_ : ∀ c b, tab c = some b → PySem.W.exmOne K (.ref (ga K c)) (.ref (ga K C)) = some b
/-- the suite's reading -/
def tsX (K : PySem.W.Frag) (i : Nat) (g : MX) (a : Addr) (cls : Value) (dd : Option Addr) : TS := fun Dn σ H => ∃ I x, DL.Ext I H ∧ cls = .ref (ga K x.cls) ∧ XcDict K I dd x ∧ σ[i]? = some (some (.ref a)) ∧ GoX K (g a dd x) I H Dn.rt
section
variable {X : Cx} {W : WX} {k kf : Nat} {f : Addr} {g : MX} {x n : Str} {i : Nat} {p p2 pos : Pos}
theorem pe_callX {a : Addr} {oe : Obj} {cls : Value} {dd : Option Addr} {pn : List (Addr × Obj)} (hz : Zc cls dd oe) (hf : ∃ vs, oe.data = .fields vs) (hr : Room k X.A) (F : FnX X.prog X.w X.K X.mg X.base kf f g) (hk : kf ≤ k) (hm : X.mg x = some (.ref f)) (hkp : PySem.W.keepIn X.K (.ref f) = true)
    (hg : Gl X x) (hdb : (x == ("__debug__" : Str)) = false) (hN : X.N[i]? = some n) (hv : Vis X.env.scope n) (hd : (n == ("__debug__" : Str)) = false) (hcd : (n == ("__classdict__" : Str)) = false)
    (he : starEach (.Name n p2 :: []) X.env = (false, eval (.Name n p2) X.env) :: starEach [] X.env) (hpl : (backTo pos (starEach [] X.env)).any (·.1) = false) :
    PE (X.suite a ((a, oe) :: pn)) (.Call (.Name x p) [.Name n p2] [] pos) (fun σ H Q => ∃ I y, DL.Ext I H ∧ cls = .ref (ga X.K y.cls) ∧ XcDict X.K I dd y ∧ σ[i]? = some (some (.ref a)) ∧ GoX X.K (g a dd y) I H Q) := by
  refine ⟨fun pins s σ H Q J ⟨I, y, e1, ec, hx, hσ, gg⟩ => ?_⟩
  subst ec
  have hA : PA (X.suite a ((a, oe) :: pn)) [.Name n p2] (tCons (tVar i) tNil) := pa_cons (pv i hN hv hd hcd) pa_nil he
  refine wpAny_Call_Name_kw (ld_glob J hg hm ?_ hdb)
  refine PySem.W.callWith_K (h₀ := X.base) J.ok.mod.kin hkp (thn (hA.run pos pins s σ H (fun vs H1 => vs = [.ref a] ∧ H1 = H) J ⟨.ref a, hσ, rfl, rfl⟩) fun us s1 ⟨vs, H1, I1, r, ev, eH⟩ => ⟨I1.kIn, ?_⟩) he hpl
  subst ev eH
  obtain ⟨u, rfl, ru⟩ := r.one
  cases ru
  have P1 := I1.pin (a, oe) (List.mem_append_left _ List.mem_cons_self)
  have hpin : L2H.PinOk X.stack H1 s1 (a, oe) := ⟨P1.1, P1.2.1, fun hm => (List.mem_cons.mp (I1.stkSub a hm)).elim P1.2.2.1 P1.2.2.2.1, P1.2.2.2.2⟩
  refine wpAny_call (codeAny_mono (F (X.suite a ((a, oe) :: pn)).A X.stack s1 H1 a oe dd y I Q ⟨(hr.mono hk).dp, (hr.mono hk).un⟩ hpin I1.env0 hz hf e1 hx gg) fun r s' hq => ?_)
  cases r with
  | error e => exact passAt (X := X.suite a ((a, oe) :: pn)) (W := fun _ _ _ _ => False) (fun u s' ⟨_, _, _, _, _, _, _, _, _, _, _, _, _, _, _, _, w⟩ => w.elim) σ pins H1 s1 e s' I1 hq
  | ok fl =>
    cases fl with
    | ret u => exact I1.after hq
    | next => exact False.elim hq
    | brk => exact False.elim hq
    | cont => exact False.elim hq
/-- the context of the body -/
theorem Ctx.tr (c : Ctx X W k) {W' : WX} {pn : List (Addr × Obj)} {xe : Value → Shared → Prop} (tk : L2.Takes (X.tr pn xe) W') (hp : PassesOwn (model X.prog X.w) X.A X.env xe) : Ctx (X.tr pn xe) W' k := ⟨c.room, tk, c.calm, hp, c.nd⟩
theorem ds_tryX {P : Nat} {C : Str} {tab : Str → Option Bool} {body : List Stmt} {mb : M Fl} {np rp hpos tpos : Pos} (c : Ctx X W k) (hs : X.stack = X.env :: X.outer) (hf : X.env.frame = some X.env.locals) (E : ExmF X.K tab C) (hC : X.mg C = some (.ref (ga X.K C))) (F : FnX X.prog X.w X.K X.mg X.base kf f g) (hm : X.mg x = some (.ref f)) (hkp : PySem.W.keepIn X.K (.ref f) = true)
    (hb : ∀ (W' : WX) (pn : List (Addr × Obj)) (xe : Value → Shared → Prop), Ctx (X.tr pn xe) W' k → DSs (X.tr pn xe) W' P body mb)
    (hP : P ≤ i := by decide) (hk : kf ≤ k := by decide) (hN : X.N[i]? = some n := by rfl) (hln : X.env.kindOf n = some .local := by rfl) (hgC : Gl X C := by rfl) (hdC : (C == ("__debug__" : Str)) = false := by decide) (hg : Gl X x := by rfl) (hdb : (x == ("__debug__" : Str)) = false := by decide)
    (hv : Vis X.env.scope n := by first | exact Or.inl rfl | exact Or.inr (Or.inl rfl) | exact Or.inr (Or.inr rfl)) (hd : (n == ("__debug__" : Str)) = false := by decide) (hcd : (n == ("__classdict__" : Str)) = false := by decide)
    (he : starEach (.Name n p2 :: []) X.env = (false, eval (.Name n p2) X.env) :: starEach [] X.env := by rfl) (hpl : (backTo pos (starEach [] X.env)).any (·.1) = false := by rfl) :
    DS X W P (.Try body [.ExceptHandler (some (.Name C np)) (some n) [.Return (some (.Call (.Name x p) [.Name n p2] [] pos)) rp] hpos] [] [] tpos) (tryX i tab g mb) := by
  refine PS.weak (ps_try_as (i := i) (n := n) (c := .ref (ga X.K C)) (Wout := W) (tb := fun W' => tDS X.K W' P mb) (ts := fun a cls dd => tsX X.K i g a cls dd) hs hf c.nd hN hln ⟨hgC, hdC, .inl hC⟩ c.tk (fun W' pn xe tk hp => hb W' pn xe (c.tr tk hp))
    (fun a oe cls dd pn hz hfs => ?_)) fun D σ H ⟨I, δ, en, gg⟩ => ⟨I, δ, en, ?_⟩
  · exact pss_one (ps_ret (pe_callX hz hfs c.room F hk hm hkp hg hdb hN hv hd hcd he hpl))
  · unfold GoS tryX at gg
    unfold GoS
    cases q : mb δ with
    | st => rw [q] at gg; exact gg
    | ok fl δ' => rw [q] at gg; exact gg
    | er y δ' =>
      rw [q] at gg
      intro cls dd σ' I' H' n' r'
      dsimp only at gg
      unfold catchX at gg
      cases ht : tab y.cls with
      | none => rw [ht] at gg; exact gg.elim
      | some b =>
        rw [ht] at gg
        refine ⟨b, by rw [r'.1]; exact E.at_ _ _ ht, fun hbt a na => ?_, fun hbf => ?_⟩
        · subst hbt
          dsimp only at gg
          cases qa : allX fun a dd => g a dd y with
          | st => rw [qa] at gg; exact gg.elim
          | er _ _ => rw [qa] at gg; exact gg.elim
          | ok dv δ3 =>
            rw [qa] at gg
            have qg : g a dd y = .ok dv δ3 := by
              have z := allX_at (g := fun a dd => g a dd y) (by rw [qa]; exact fun h => nomatch h) a dd
              rw [qa] at z
              exact z
            dsimp only at gg
            by_cases il : i < δ'.length
            · rw [if_pos il] at gg
              have is : i < σ'.length := by rw [n'.env.len]; exact il
              have key : ∀ I2, (I2 = I' ∨ ∃ d gs, I' d = none ∧ H' d = some (.xd gs) ∧ I2 = upd I' d (.xd gs)) → DL.Ext I2 H' → XcDict X.K I2 dd y → tsX X.K i g a cls dd { nx := fun σ' H' => D.nx (σ'.set i none) H', rt := D.rt, bk := fun σ' H' => D.bk (σ'.set i none) H', ct := fun σ' H' => D.ct (σ'.set i none) H' } (σ'.set i (some (.ref a))) H' := fun I2 hI2 e2 hx2 => by
                refine ⟨I2, y, e2, r'.1, hx2, List.getElem?_set_self is, ?_⟩
                rw [qg]
                intro v I3 H3 e3 po r3
                obtain ⟨I4, n4, r4⟩ := caught_end (P := P) (i := i) n'.env hP hI2 e3 po r3
                exact gg (σ'.set i none) I4 H3 (n'.trans n4) v r4
              rcases r'.2 with ⟨e0, ed⟩ | ⟨d, gs, ed, hH, rf⟩
              · exact key I' (.inl rfl) n'.env.ext (.inl ⟨e0, ed⟩)
              · cases qI : I' d with
                | none =>
                  refine key _ (.inr ⟨d, gs, qI, hH, rfl⟩) (fun b o h => ?_) (.inr ⟨d, gs, ed, upd_same .., rf.mono (Ext.upd' qI)⟩)
                  by_cases hb2 : b = d
                  · subst hb2; rw [upd_same] at h; rw [hH]; exact h
                  · rw [upd_ne hb2] at h; exact n'.env.ext b o h
                | some o =>
                  have ho := n'.env.ext d o qI
                  rw [hH] at ho
                  cases ho
                  exact key I' (.inl rfl) n'.env.ext (.inr ⟨d, gs, ed, qI, rf⟩)
            · rw [if_neg il] at gg; exact gg.elim
        · subst hbf
          exact gg cls dd σ' I' H' n' r'
end
end DL
set_option maxHeartbeats 2000000
/-! DL19: methods of texts and lists. -/
namespace DL
open PySem PySem.Spec PyProof.Rows L2
def shortS (n m : Nat) : Bool := decide (n ≤ m)
def upperD : D → M D
  | .str a => guardM (shortS a.length 1000000) (pure (.str (Txt.upper a)))
  | _ => stuck
/-- texts as data -/
def strsD (ys : List Str) : D := .lst (ys.map D.str)
theorem reps_strs {K : PySem.W.Frag} {I : Hp} : ∀ ys : List Str, Reps K I (ys.map D.str) (ys.map V.str)
  | [] => .nil
  | y :: ys => .cons (.str y) (reps_strs ys)
def splitD : D → D → M D
  | .str a, .str b => guardM (!(b.length == 0) && shortS a.length 1000000) (pure (strsD (Txt.split a b)))
  | _, _ => stuck
section
variable {X : Cx} {W : WX} {o e : Expr} {es : List Expr} {mo me : M D} {apos pos : Pos}
theorem d_upper (ho : DE X W o mo) (hbase : attributeBase o "upper" X.env (eval o X.env) = eval o X.env := by rfl) (hline : (apos.endLine == pos.line) = true := by rfl) : DE X W (.Call (.Attribute o "upper" apos) [] [] pos) (una upperD mo) := by
  refine PE.weak (pe_upper ho hbase hline) fun σ H Q ⟨I, δ, en, g⟩ => ?_
  refine go_bind en g fun d v I1 H1 δ1 n1 r1 g1 => ?_
  unfold upperD at g1
  cases r1 with
  | str a =>
    obtain ⟨c, g2⟩ := Go.guard g1
    have c := of_decide_eq_true c
    exact ⟨⟨a, rfl⟩, a, rfl, rfl, by omega, g2.val0 n1.env (.str _)⟩
  | _ => exact g1.elim
theorem d_split (ho : DE X W o mo) (he : DE X W e me) (hs : starEach [e] X.env = [(false, eval e X.env)] := by rfl) (hbase : attributeBase o "split" X.env (eval o X.env) = eval o X.env := by rfl) (hline : (apos.endLine == pos.line) = true := by rfl) :
    DE X W (.Call (.Attribute o "split" apos) [e] [] pos) (mo >>= fun x => guardM (match x with | .str _ => true | _ => false) (me >>= fun y => splitD x y)) := by
  refine PE.weak (pe_split ho he hs hbase hline) fun σ H Q ⟨I, δ, en, g⟩ => ?_
  refine go_bind en g fun d v I1 H1 δ1 n1 r1 g1 => ?_
  obtain ⟨c0, g1⟩ := Go.guard g1
  cases r1 with
  | str a =>
    refine ⟨⟨a, rfl⟩, go_bind n1.env g1 fun d2 v2 I2 H2 δ2 n2 r2 g2 => ?_⟩
    unfold splitD at g2
    cases r2 with
    | str b =>
      obtain ⟨c, g3⟩ := Go.guard g2
      rw [Bool.and_eq_true, Bool.not_eq_true'] at c
      have c2 := of_decide_eq_true c.2
      refine ⟨a, b, rfl, rfl, c.1, by rw [sizeLine_eq]; omega, fun p hp => ?_⟩
      exact Go.val g3 (Nxt.alloc n2.env hp) (rep_newL n2.env hp (reps_strs _))
    | _ => exact g2.elim
  | _ => cases c0
/-- e.replace('y', 'z'), a token out -/
def replM (y z : Str) (mo : M D) : M D := mo >>= fun x => match x with
  | .str a => guardM (decide (a.length + (a.length + 1) * z.length ≤ 16777216)) (pure (.str (Txt.replace a y z)))
  | _ => stuck
/-- judgements that want a token out -/
abbrev DET (X : Cx) (W : WX) (e : Expr) (m : M D) : Prop := PET X e (tD X.K W m)
abbrev DAT (X : Cx) (W : WX) (es : List Expr) (m : M (List D)) : Prop := PAT X es (tDA X.K W m)
theorem dt_repl {y z : Str} {j k : Nat} {c0 c1 : Pos} (ho : DE X W o mo) (hyz : (y == z) = false := by decide)
    (hst : starEach [.Constant (.str y) j c0, .Constant (.str z) k c1] X.env = [(false, eval (.Constant (.str y) j c0) X.env), (false, eval (.Constant (.str z) k c1) X.env)] := by rfl)
    (hbase : attributeBase o "replace" X.env (eval o X.env) = eval o X.env := by rfl) (hline : (apos.endLine == pos.line) = true := by rfl) :
    DET X W (.Call (.Attribute o "replace" apos) [.Constant (.str y) j c0, .Constant (.str z) k c1] [] pos) (replM y z mo) := by
  intro pins s σ H Q h0 I ⟨Ik, δ, en, g⟩
  refine CwR.pet_replC ho hyz hst hbase hline pins s σ H Q h0 I (go_bind en g fun d v I1 H1 δ1 n1 r1 g1 => ?_)
  cases r1 with
  | str a =>
    obtain ⟨c, g2⟩ := Go.guardP g1
    exact ⟨a, rfl, c, g2.val0 n1.env (.str _)⟩
  | _ => exact g1.elim
theorem dt_of (h : DE X W e me) : DET X W e me := fun pins s σ H Q _ I q => h.run pins s σ H Q I q
theorem dat_nil : DAT X W [] nilA := fun pos pins s σ H Q h0 I ⟨Ik, δ, en, g⟩ => pat_nil pos pins s σ H Q h0 I (GoA.val0 g en .nil)
theorem dat_cons {mr : M (List D)} (ha : DET X W e me) (hr : DAT X W es mr) (hs : starEach (e :: es) X.env = (false, eval e X.env) :: starEach es X.env := by rfl) : DAT X W (e :: es) (consA me mr) := fun pos pins s σ H Q h0 I ⟨Ik, δ, en, g⟩ =>
  pat_cons ha hr hs pos pins s σ H Q h0 I (goA_bind en g fun d v I1 H1 δ1 n1 r1 g1 => goA_bindA n1.env g1 fun ds vs I2 H2 δ2 n2 r2 g2 => GoA.val0 g2 n2.env (.cons (r1.mono n2.post.ext) r2))
/-- an expression that gives a token out: e + 'c' -/
def PEM (X : Cx) (e : Expr) (t : TE) : Prop := ∀ (pins : List (Addr × Obj)) (s : Shared) (σ : L2.St) (H : Hp) (Q : VK), Inv X pins σ H s → t σ H Q → wpAny (model X.prog X.w) X.A (eval e X.env) (fun v s1 => EP X pins σ Q v s1 ∧ 1 ≤ s1.toks) X.xe s
theorem dm_addC {op : Operator} {f : D → D → M D} {c : Str} {j : Nat} {c0 : Pos} (hop : OpL X W (binaryOp op) f) (ho : DE X W o mo) : PEM X (.BinOp o op (.Constant (.str c) j c0) pos) (tD X.K W (bin f mo (pure (.str c)))) := by
  intro pins s σ H Q I ⟨Ik, δ, en, g⟩
  obtain ⟨r, hr, k⟩ := hop.run
  refine wpAny_BinOp (thn (ho.run pins s σ H (fun v1 H1 => ∃ I1 δ1 d1, Env X.K I1 H1 σ δ1 ∧ Rep X.K I1 d1 v1 ∧ Go X.K W (pure (.str c) >>= fun y => f d1 y) σ I1 H1 δ1 Q) I (go_bind en g fun d v I1 H1 δ1 n1 r1 g1 => ⟨I1, δ1, d, n1.env, r1, g1⟩)) fun v s1 ⟨x, H1, J1, r1, I1, δ1, d1, en1, rd1, g1⟩ => ?_)
  refine Calls.Constant_str ?_
  have q : r x (.str c) H1 Q := k σ I1 H1 δ1 d1 (.str c) x (.str c) Q en1 rd1 (.str c) g1
  refine wpAny_mono (PySem.wpAny_toks (hr pins { s1 with toks := s1.toks + 1 } σ H1 x (.str c) v (.str c s1.toks) Q (J1.tok _) r1 ⟨_, rfl⟩ q)) (fun u s2 z => ⟨z.2, ?_⟩) fun _ _ z => z.2
  have z1 : s1.toks + 1 ≤ s2.toks := z.1
  omega
theorem da_mint {mr : M (List D)} (ha : PEM X e (tD X.K W me)) (hr : DAT X W es mr) (hs : starEach (e :: es) X.env = (false, eval e X.env) :: starEach es X.env := by rfl) : DA X W (e :: es) (consA me mr) := by
  refine ⟨fun pos pins s σ H Q I ⟨Ik, δ, en, g⟩ => ?_⟩
  rw [hs]
  show wpAny _ _ (spliced ((false, eval e X.env) :: backTo pos (starEach es X.env))) _ _ s
  refine Calls.spliced_cons (thn (ha pins s σ H (fun v1 H1 => ∃ I1 δ1 d1, Env X.K I1 H1 σ δ1 ∧ Rep X.K I1 d1 v1 ∧ GoA X.K W (mr >>= fun xs => pure (d1 :: xs)) σ I1 H1 δ1 Q) I (goA_bind en g fun d v I1 H1 δ1 n1 r1 g1 => ⟨I1, δ1, d, n1.env, r1, g1⟩)) fun u s1 ⟨⟨x, H1, J1, r1, I1, δ1, d1, en1, rd1, g1⟩, h0⟩ => ?_)
  exact thn (hr pos pins s1 σ H1 (fun vs H2 => Q (x :: vs) H2) h0 J1 (goA_bindA en1 g1 fun ds vs I2 H2 δ2 n2 r2 g2 => GoA.val0 g2 n2.env (.cons (rd1.mono n2.post.ext) r2))) fun us s2 ⟨xs, H2, I2, r2, q2⟩ => ⟨x :: xs, H2, I2, .cons r1 r2, q2⟩
end
/-! ### lists -/
/-- the first place of an equal item -/
def findD (x : D) : List D → Nat → Option Nat
  | [], _ => none
  | d :: ds, n => if eqF d x then some n else findD x ds (n + 1)
def indexD : D → D → M D
  | .lst ds, x => guardM (flatD x && ds.all flatD) (match findD x ds 0 with
    | some n => pure (.int n)
    | none => stuck)
  | _, _ => stuck
def boolsD : List D → Option (List Bool)
  | [] => some []
  | .bl b :: ds => (boolsD ds).map fun bs => b :: bs
  | _ :: _ => none
/-- l.count(True), l a list of bools -/
def countTD : D → M D
  | .lst ds => match boolsD ds with
    | some bs => pure (.int (bs.count true : Nat))
    | none => stuck
  | _ => stuck
theorem flat_V {K : PySem.W.Frag} {I : Hp} {d : D} {v : V} (r : Rep K I d v) (h : flatD d = true) : flatV v = true := by
  cases r <;> first | rfl | cases h
theorem eqF_V {K : PySem.W.Frag} {I : Hp} {d e : D} {v u : V} (r : Rep K I d v) (r2 : Rep K I e u) (h : flatD d = true) (h2 : flatD e = true) : eqV v u = eqF d e := by
  cases r with
  | non => cases r2 with
    | non => rfl
    | bl b => rfl
    | int i => rfl
    | str x => rfl
    | _ => cases h2
  | bl b => cases r2 with
    | non => rfl
    | bl b => rfl
    | int i => rfl
    | str x => rfl
    | _ => cases h2
  | int i => cases r2 with
    | non => rfl
    | bl b => rfl
    | int i => rfl
    | str x => rfl
    | _ => cases h2
  | str x => cases r2 with
    | non => rfl
    | bl b => rfl
    | int i => rfl
    | str x => rfl
    | _ => cases h2
  | _ => cases h
theorem findD_ok {x : D} : ∀ {ds : List D} {n j : Nat}, findD x ds n = some j → ∃ d, n ≤ j ∧ ds[j - n]? = some d ∧ eqF d x = true ∧ ∀ m d', m < j - n → ds[m]? = some d' → eqF d' x = false
  | [], _, _, h => by cases h
  | d :: ds, n, j, h => by
    unfold findD at h
    cases q : eqF d x with
    | true =>
      rw [q, if_pos rfl] at h
      cases h
      exact ⟨d, Nat.le_refl _, by simp, q, fun m d' hm => by omega⟩
    | false =>
      rw [q, if_neg Bool.false_ne_true] at h
      obtain ⟨d0, h1, h2, h3, h4⟩ := findD_ok h
      refine ⟨d0, by omega, ?_, h3, fun m d' hm hd => ?_⟩
      · rw [show j - n = (j - (n + 1)) + 1 by omega]
        simpa using h2
      · cases m with
        | zero => simp at hd; subst hd; exact q
        | succ m => exact h4 m d' (by omega) (by simpa using hd)
section
variable {X : Cx} {W : WX} {o e : Expr} {mo me : M D} {apos pos : Pos}
theorem d_index (ho : DE X W o mo) (he : DE X W e me) (hbase : attributeBase o "index" X.env (eval o X.env) = eval o X.env := by rfl)
    (hfew : ((backTo pos (starEach (e :: []) X.env)).all (fun x => !x.1) && (backToKw pos (keywordEach [] X.env)).all (fun x => x.1.isSome)
      && decide ((e :: ([] : List Expr)).length + ([] : List Keyword).length + (if ([] : List Keyword).isEmpty then 0 else 1) < 30)) = true := by rfl)
    (hline : (apos.endLine == pos.line) = true := by rfl) (hs : starEach (e :: []) X.env = (false, eval e X.env) :: starEach [] X.env := by rfl) (hplain : (backTo pos (starEach [] X.env)).any (·.1) = false := by rfl) :
    DE X W (.Call (.Attribute o "index" apos) [e] [] pos) (mo >>= fun x => guardM (match x with | .lst _ => true | _ => false) (me >>= fun y => indexD x y)) := by
  refine PE.weak (pe_bm PySem.F.plainAttrs_list PySem.F.slot_list_index PySem.F.type_list_index mt_index ho (pa_cons he pa_nil hs) hbase hfew hline hs hplain) fun σ H Q ⟨I, δ, en, g⟩ => ?_
  refine go_bind en g fun d v I1 H1 δ1 n1 r1 g1 => ?_
  obtain ⟨c0, g1⟩ := Go.guard g1
  cases r1 with
  | @lst ds a vs hI r =>
    refine ⟨.inl ⟨rfl, vs, .inl (.inl (n1.env.ext _ _ hI))⟩, go_bind n1.env g1 fun d2 v2 I2 H2 δ2 n2 r2 g2 => ?_⟩
    unfold indexD at g2
    obtain ⟨c, g3⟩ := Go.guard g2
    rw [Bool.and_eq_true] at c
    cases q : findD d2 ds 0 with
    | none => rw [q] at g3; exact g3.elim
    | some j =>
      rw [q] at g3
      obtain ⟨d0, _, hd0, he0, hno⟩ := findD_ok q
      rw [Nat.sub_zero] at hd0 hno
      have r' := r.mono n2.post.ext
      obtain ⟨z, hz, rz⟩ := r'.get hd0
      have fl : ∀ d ∈ ds, flatD d = true := List.all_eq_true.mp c.2
      refine ⟨a, vs, v2, j, z, rfl, rfl, .inl (.inl (n2.env.ext _ _ (n2.post.ext _ _ hI))), flat_V r2 c.1, ?_, hz, ?_, fun m z' hm hz' => ?_, g3.val0 n2.env (.int _)⟩
      · refine List.all_eq_true.mpr fun v hv => ?_
        obtain ⟨i, hi⟩ := List.mem_iff_getElem?.mp hv
        obtain ⟨d, hd, rd⟩ := r'.getV hi
        exact flat_V rd (fl d (List.mem_of_getElem? hd))
      · rw [eqF_V rz r2 (fl d0 (List.mem_of_getElem? hd0)) c.1]; exact he0
      · obtain ⟨d, hd, rd⟩ := r'.getV hz'
        rw [eqF_V rd r2 (fl d (List.mem_of_getElem? hd)) c.1]
        exact hno m d hm hd
  | _ => cases c0
/-- how many are True -/
def isT : Value → Bool
  | .bool b => b
  | _ => false
def rCntT (K : PySem.W.Frag) : V → List V → Hp → VK → Prop := fun x xs H Q => ∃ (p : Addr) (bs : List Bool), x = .ref p ∧ xs = [.bl true] ∧ SqL K H p (bs.map V.bl) ∧ Q (.int (bs.count true : Nat)) H
theorem bools_vals : ∀ {bs : List Bool} {its : List Value}, Vals (bs.map V.bl) its → its = bs.map Value.bool
  | [], _, .nil => rfl
  | b :: bs, _, .cons h r => by cases h; rw [bools_vals r]; rfl
theorem mt_countT : MtR X "list.count" (rCntT X.K) := by
  intro pins s σ H x xs v us Q I rx rxs h
  obtain ⟨p, bs, rfl, rfl, hs, q⟩ := h
  cases rx
  obtain ⟨u, rfl, ru⟩ := rxs.one
  cases ru
  obtain ⟨its, rv, ⟨⟨cls, dd, data, sl⟩, n, ho, hc, hdn, hd⟩, hlen⟩ := I.list hs
  simp only at hc hd
  subst hc hd
  have hi := bools_vals rv
  refine call_meets PySem.F.slot_list_count ⟨_, ho, rfl⟩ PySem.F.entry_list_count (PySem.F.args_list_count_2 _ _)
    (SeqAt.list_countAt p its.toArray n dd sl (.bool true) isT) ⟨ho, fun y hy => ?_, ?_⟩
  · have hy' : y ∈ its := by simpa using hy
    rw [hi] at hy'
    obtain ⟨b, _, rfl⟩ := List.mem_map.mp hy'
    have z := SeqAt.EqAt.bool_bool (A := X.A.in1) (s := s) b true
    have e : (b == true) = isT (.bool b) := by cases b <;> rfl
    rw [e] at z
    exact z
  · have ec : its.toArray.toList.countP isT = bs.count true := by
      rw [hi]
      simp only [List.toList_toArray]
      rw [List.countP_map, List.count]
      congr 1
      funext b
      cases b <;> rfl
    refine ⟨.int (bs.count true : Nat), H, I.tok _, ⟨s.toks, ?_⟩, q⟩
    show Value.int ((its.toArray.toList.countP isT : Nat) : Int) s.toks = Value.int ((bs.count true : Nat) : Int) s.toks
    rw [ec]
theorem boolsD_rep {K : PySem.W.Frag} {I : Hp} : ∀ {ds : List D} {bs : List Bool} {vs : List V}, boolsD ds = some bs → Reps K I ds vs → vs = bs.map V.bl
  | [], _, _, h, .nil => by cases h; rfl
  | d :: ds, bs, _, h, .cons a r => by
    cases a with
    | bl b =>
      unfold boolsD at h
      cases q : boolsD ds with
      | none => rw [q] at h; cases h
      | some cs => rw [q] at h; cases h; rw [boolsD_rep q r]; rfl
    | _ => cases h
theorem d_countT {j : Nat} {c0 : Pos} (ho : DP X W o mo) (hbase : attributeBase o "count" X.env (eval o X.env) = eval o X.env := by rfl)
    (hfew : ((backTo pos (starEach (.Constant (.bool true) j c0 :: []) X.env)).all (fun x => !x.1) && (backToKw pos (keywordEach [] X.env)).all (fun x => x.1.isSome)
      && decide ((Expr.Constant (.bool true) j c0 :: ([] : List Expr)).length + ([] : List Keyword).length + (if ([] : List Keyword).isEmpty then 0 else 1) < 30)) = true := by rfl)
    (hline : (apos.endLine == pos.line) = true := by rfl) (hs : starEach (.Constant (.bool true) j c0 :: []) X.env = (false, eval (.Constant (.bool true) j c0) X.env) :: starEach [] X.env := by rfl) (hplain : (backTo pos (starEach [] X.env)).any (·.1) = false := by rfl) :
    DE X W (.Call (.Attribute o "count" apos) [.Constant (.bool true) j c0] [] pos) (una countTD mo) := by
  refine PE.weak (pe_bm PySem.F.plainAttrs_list PySem.F.slot_list_count PySem.F.type_list_count mt_countT ho (pa_cons pe_bl pa_nil hs) hbase hfew hline hs hplain) fun σ H Q ⟨I, δ, en, g⟩ => ?_
  refine go_bindP en g fun d v I1 H1 δ1 n1 p1 g1 => ?_
  unfold countTD at g1
  split at g1
  · rename_i ds
    obtain ⟨a, vs, rfl, h, r⟩ := p1.lst_inv n1.env.ext
    cases q : boolsD ds with
    | none => rw [q] at g1; exact g1.elim
    | some bs =>
      rw [q] at g1
      have ev := boolsD_rep q r
      subst ev
      exact ⟨.inl ⟨rfl, _, SqL.of h⟩, a, bs, rfl, rfl, SqL.of h, g1.val0 n1.env (.int _)⟩
  · exact g1.elim
end
end DL
set_option maxHeartbeats 2000000
/-! DL20: self.f = e in __init__; defs that hand on a new list; the block of a comprehension; a def that calls itself. -/
namespace DL
open PySem PySem.Spec PyProof.Rows L2
/-- self.f = d -/
def sfS (i : Nat) (C f : Str) (d : D) : M Fl := fun δ => match δ[i]? with
  | some (.ob c fs) => if c = C ∧ fs.length < 900 then .ok .nx (δ.set i (.ob c (putD f d fs))) else .st
  | _ => .st
def sfD (i : Nat) (C f : Str) (m : M D) : M Fl := m >>= sfS i C f
section
variable {X : Cx} {W : WX} {P k : Nat} {e : Expr} {m : M D} {y C f : Str} {p p2 pos : Pos}
theorem ds_sf (i : Nat) (F : FldF X.K [C] f) (he : DE X W e m) (hN : X.N[i]? = some y := by rfl) (hv : Vis X.env.scope y := by first | exact Or.inl rfl | exact Or.inr (Or.inl rfl) | exact Or.inr (Or.inr rfl)) (hd : (y == ("__debug__" : Str)) = false := by decide)
    (hcd : (y == ("__classdict__" : Str)) = false := by decide) (hs : swapsWith e (some (.Attribute (.Name y p) f p2)) pos.line X.env = pure false := by rfl) : DS X W P (.Assign [.Attribute (.Name y p) f p2] e pos) (sfD i C f m) := by
  refine PS.weak (ps_fld (pv i hN hv hd hcd) he hs) fun D σ H ⟨I, δ, en, g⟩ => ?_
  refine goS_bind en g fun d v I1 H1 δ1 n1 r1 g1 => ?_
  unfold GoS sfS at g1
  cases q : δ1[i]? with
  | none => rw [q] at g1; exact g1.elim
  | some s =>
    rw [q] at g1
    cases s with
    | ob c fs =>
      dsimp only at g1
      by_cases hc : c = C ∧ fs.length < 900
      · rw [if_pos hc] at g1
        obtain ⟨ec, hl⟩ := hc
        subst ec
        obtain ⟨o, ho, a, dx, gs, eo, hI, hH, rf⟩ := n1.env.slot q
        subst eo
        obtain ⟨cl, na⟩ := F.at_ c (List.mem_singleton.mpr rfl)
        refine ⟨.ref a, ho, a, _, dx, gs, rfl, hH, cl, na, by rw [← rf.length]; omega, ?_⟩
        exact g1 σ I1 _ (Nxt.toS (n1.env.mutate q trivial trivial ho ⟨a, dx, _, rfl, hI, upd_same .., rf.put r1⟩))
      · rw [if_neg hc] at g1; exact g1.elim
    | _ => exact g1.elim
end
/-! ### a def that hands on a new list -/
abbrev MG := List D → Rs (List D)
def GoG (K : PySem.W.Frag) (r : Rs (List D)) (I H : Hp) (Q : VK) : Prop := match r with
  | .ok es _ => ∀ a ws I' H', DL.Ext I' H' → Post I H I' H' (fun _ => False) → H a = none → I' a = none → H' a = some (.lst ws) → Reps K I' es ws → Q (.ref a) H'
  | _ => False
def spF (K : PySem.W.Frag) (g : MG) : Sp := fun vs H Q _ => ∃ I ds, DL.Ext I H ∧ Reps K I ds vs ∧ GoG K (g ds) I H Q
def runF (N n : Nat) (mf : M (List D)) : MG := fun ds => if ds.length = n then (match mf (padS (vas ds) N) with
  | .ok es _ => .ok es []
  | _ => .st) else .st
abbrev FnF (P : Program) (w : World) (K : PySem.W.Frag) (mg : Str → Option Value) (base : Heap) (k : Nat) (f : Addr) (g : MG) : Prop := FnR P w K mg base (L2.CX P w) k f (spF K g)
theorem fnF_def {P : Program} {w : World} {K : PySem.W.Frag} {mg : Str → Option Value} {base : Heap} {x qual : Str} {params : Arguments} {body : List Stmt} {scope : Scope} {f : Addr} {fd : FuncData} {N ps : List Str} {k : Nat} {mf : M (List D)}
    (F : FunD K x qual params body scope [] [] f fd) (S : FnScope N ps scope) (hN : ps.length ≤ N.length) (hbd : Binds K fd ps [])
    (hb : ∀ (cdv : Value) (A : Around) (outer : List PySem.Env) (s : Shared) (H : Hp) (E : XK), Ctx (cxOf (L2.CX P w) P w K mg base N qual scope f cdv A outer s H E) (fun cls dd _ H => E cls dd H) k →
      PSs (cxOf (L2.CX P w) P w K mg base N qual scope f cdv A outer s H E) body (tRet (tF K (fun cls dd _ H => E cls dd H) mf))) : FnF P w K mg base (k + 1) f (runF N.length ps.length mf) := by
  have O : FnOk P w K mg base (L2.CX P w) (k + 1) f fd ps (spF K (runF N.length ps.length mf)) := by
    refine F.ok S (fun vs H Q E h => ?_) fun cdv A outer s H vs Q E hr h => ⟨_, hb cdv A outer s H E ⟨hr, takes_of rfl rfl rfl rfl, rfl, ?_, S.nd⟩, ?_⟩
    · obtain ⟨I, ds, e, r, g⟩ := h
      unfold runF GoG at g
      by_cases q : ds.length = ps.length
      · rw [← r.length]; exact q
      · rw [if_neg q] at g; exact g.elim
    · exact passes_of (X := cxOf (L2.CX P w) P w K mg base N qual scope f cdv A outer s H E) (K := fun e s'' => L2.CX P w outer H s E e s'') (E₁ := fun e' s'' => L2.CX P w outer H s E e' s'') rfl
    · obtain ⟨I, ds, e, r, g⟩ := h
      unfold runF at g
      by_cases q : ds.length = ps.length
      · rw [if_pos q] at g
        have en := env_pad (env_vals e r) N.length
        have hst : L2.start N vs = vs.map some ++ List.replicate (N.length - (vs.map some).length) none := by unfold L2.start; rw [List.length_map]
        refine ⟨I, padS (vas ds) N.length, by rw [hst]; exact en, ?_⟩
        unfold GoG at g
        unfold GoF
        have noOwn : ∀ a, ¬ Own (padS (vas ds) N.length) (L2.start N vs) a := fun a ⟨i, h⟩ => by
          rw [hst] at h
          exact own_vals ⟨i, ownAt_pad (env_vals e r).len h⟩
        cases qm : mf (padS (vas ds) N.length) with
        | st => rw [qm] at g; exact g.elim
        | er y δ' => rw [qm] at g; exact g.elim
        | ok es δ' =>
          rw [qm] at g
          exact fun a ws I' H' n h0 h1 h2 r' => g a ws I' H' n.env.ext ⟨n.post.ext, fun a o e z => (n.post.fresh a o e z).imp id fun w => noOwn a w, fun a o e _ => n.post.keep a o e (noOwn a), n.post.dom⟩ h0 h1 h2 r'
      · rw [if_neg q] at g; exact g.elim
  exact (FnOk.raw O hbd .nil).imp fun vs H Q E h => by rw [List.append_nil]; exact h
def outG : Rs (List D) → M (List D)
  | .ok es _ => fun δ => .ok es δ
  | _ => stuck
def callF (g : MG) (ma : M (List D)) : M (List D) := ma >>= fun ds => outG (g ds)
section
variable {X : Cx} {W : WX} {k kf : Nat} {f : Addr} {g : MG} {x : Str} {p pos : Pos} {e : Expr} {es : List Expr} {ma : M (List D)}
theorem Nxt.ofPost {K : PySem.W.Frag} {σ : L2.St} {I H I' H' : Hp} {δ : En} (en : Env K I H σ δ) (e : DL.Ext I' H') (p : Post I H I' H' (fun _ => False)) : Nxt K σ I H δ I' H' δ where
  env := ⟨e, en.len, fun i s o h1 h2 => (en.at_ i s o h1 h2).stay p.ext fun a ho eo u hu => p.kept (en.ownI ⟨i, ⟨s, h1, ho⟩, by rw [h2, eo]⟩) hu fun z => z, en.one⟩
  post := ⟨p.ext, fun a o e z => (p.fresh a o e z).imp id fun w => w.elim, fun a o e _ => p.keep a o e fun z => z, p.dom⟩
  own := fun _ h => h
theorem f_call (c : Ctx X W k) (F : FnF X.prog X.w X.K X.mg X.base kf f g) (hm : X.mg x = some (.ref f)) (hkp : PySem.W.keepIn X.K (.ref f) = true) (ha : DA X W (e :: es) ma) (hk : kf ≤ k := by decide) (hg : Gl X x := by rfl) (hdb : (x == ("__debug__" : Str)) = false := by decide)
    (he : starEach (e :: es) X.env = (false, eval e X.env) :: starEach es X.env := by rfl) (hpl : (backTo pos (starEach es X.env)).any (·.1) = false := by rfl) : DF X W (.Call (.Name x p) (e :: es) [] pos) (callF g ma) := by
  refine ⟨fun pins s σ H Q I ⟨Ik, δ, en, gg⟩ => ?_⟩
  refine wpAny_Call_Name_kw (ld_glob I hg hm ?_ hdb)
  refine PySem.W.callWith_K (h₀ := X.base) I.ok.mod.kin hkp (thn (ha.run pos pins s σ H (fun vs H1 => spF X.K g vs H1 Q (WE W σ)) I (goF_bindA en gg fun ds vs I1 H1 δ1 n1 r1 g1 => ?_)) fun us s1 ⟨vs, H1, I1, r, q⟩ => ⟨I1.kIn, ?_⟩) he hpl
  · refine ⟨I1, ds, n1.env.ext, r1, ?_⟩
    unfold GoF outG at g1
    unfold GoG
    cases q : g ds with
    | st => rw [q] at g1; exact g1.elim
    | er y δ' => rw [q] at g1; exact g1.elim
    | ok es' δ' =>
      rw [q] at g1
      exact fun a ws I' H' e po h0 h1 h2 r' => g1 a ws I' H' (.ofPost n1.env e po) h0 h1 h2 r'
  · exact wpAny_call (run_C c F hk I1 r q)
end
/-! ### the block of a comprehension -/
def isFree : NameKind → Bool
  | .free => true
  | _ => false
def isLC : NameKind → Bool
  | .local => true
  | .cell => true
  | _ => false
def isCF : Option NameKind → Bool
  | some .cell => true
  | some .free => true
  | _ => false
def blkB (N : List Str) (sc scope : Scope) (x : Str) (j : Nat) : Bool :=
  (match scope.kind with | .function => true | _ => false) && (scope.names.all (fun y => decide (scope.names.lookup y.1 = some y.2)) && (decide (N[j]? = some x) && (scope.names.all (fun y => !isFree y.2 || isCF (sc.names.lookup y.1)) && scope.names.all (fun y => !isLC y.2 || (decide (y.1 = x) || !N.contains y.1)))))
theorem blk_of {N : List Str} {sc scope : Scope} {x : Str} {j : Nat} (h : blkB N sc scope x j = true) : BlkOk N sc scope [(x, j)] := by
  unfold blkB at h
  rw [Bool.and_eq_true, Bool.and_eq_true, Bool.and_eq_true, Bool.and_eq_true] at h
  obtain ⟨h1, h2, h3, h4, h5⟩ := h
  refine ⟨?_, fun y hy => of_decide_eq_true (List.all_eq_true.mp h2 y hy), fun p hp => ?_, fun y hy e => ?_, fun y hy e => ?_⟩
  · cases q : scope.kind <;> rw [q] at h1 <;> first | rfl | cases h1
  · have e : p = (x, j) := by simpa using hp
    subst e
    exact of_decide_eq_true h3
  · have z := List.all_eq_true.mp h4 y hy
    rw [e] at z
    cases q : sc.names.lookup y.1 with
    | none => rw [q] at z; cases z
    | some kk =>
      rw [q] at z
      cases kk <;> first | exact .inl rfl | exact .inr rfl | cases z
  · have z := List.all_eq_true.mp h5 y hy
    have e2 : isLC y.2 = true := by rcases e with e | e <;> rw [e] <;> rfl
    rw [e2] at z
    rw [Bool.not_true, Bool.false_or, Bool.or_eq_true] at z
    rcases z with z | z
    · left
      rw [of_decide_eq_true z]
      simp
    · right
      intro hm
      rw [Bool.not_eq_true'] at z
      rw [List.contains_eq_mem, decide_eq_false_iff_not] at z
      exact z hm
/-! ### a def that calls itself -/
def recM (F : MF → MF) : Nat → MF
  | 0 => fun _ => .st
  | n + 1 => F (recM F n)
theorem fn_rec {P : Program} {w : World} {K : PySem.W.Frag} {mg : Str → Option Value} {base : Heap} {f : Addr} {kb : Nat} {F : MF → MF} (h : ∀ (n : Nat) (m : MF), FnG P w K mg base (kb + n) f m → FnG P w K mg base (kb + (n + 1)) f (F m)) : ∀ n, FnG P w K mg base (kb + n) f (recM F n)
  | 0 => fun A outer s H us vs Q E _ _ _ ⟨I, ps, en, g⟩ => g.elim
  | n + 1 => h n _ (fn_rec h n)
end DL
set_option maxHeartbeats 2000000
/-! DL21: a, b = a list; C.f a constant; a right side that is no number. -/
namespace DL
open PySem PySem.Spec PyProof.Rows L2
def setUnl (is : List Nat) (d : D) : M Fl := match d with
  | .lst ds => guardM (decide (ds.length = is.length)) (setAll is ds)
  | _ => stuck
section
variable {X : Cx} {W : WX} {P k : Nat} {pos : Pos}
theorem dg_unl {is : List Nat} {es : List Expr} {kk : Nat} (hc : X.calm = true) (h : DGs X W P es (setAll is)) (hn : (assignEach es X.env).length = is.length := by rfl) (hst : (assignEach es X.env).findIdx? (·.1) = none := by rfl) : DG X W P (.Tuple es kk pos) (setUnl is) :=
  PG.weak (pg_unl hc h hn hst) fun v σ H Q ⟨I, δ, d, en, r, g⟩ => by
    unfold setUnl at g
    cases r with
    | lst h r =>
      obtain ⟨hl, g⟩ := GoS.guardP g
      exact ⟨_, _, rfl, .inl (.inl (en.ext _ _ h)), by rw [← r.length]; exact hl, I, δ, _, en, r, g⟩
    | _ => exact g.elim
/-- C.f -/
structure ConF (K : PySem.W.Frag) (C f : Str) (d : D) : Prop where
  ex : ∃ mc v u, ClX.CRead K (ga K C) mc ∧ ClX.CVal K (ga K C) mc f v u ∧ ∀ I, Rep K I d v
theorem d_cval {C f : Str} {d : D} {p : Pos} (F : ConF X.K C f d) (hm : X.mg C = some (.ref (ga X.K C))) (hg : Gl X C := by rfl) (hd : (C == ("__debug__" : Str)) = false := by decide) (hb : attributeBase (.Name C p) f X.env (eval (.Name C p) X.env) = eval (.Name C p) X.env := by rfl) : DE X W (.Attribute (.Name C p) f pos) (pure d) := by
  obtain ⟨mc, v, u, r, c, hr⟩ := F.ex
  exact PE.weak (ClX.pe_cval (pe_glob (v := .ref (ga X.K C)) hg hm rfl hd) hb) fun σ H Q ⟨I, δ, en, g⟩ => ⟨_, mc, v, u, rfl, r, c, g.val0 en (hr I)⟩
end
/-- a class without that number slot -/
structure NoNum (K : PySem.W.Frag) (D : Addr) (nm : String) : Prop where
  mro : ∃ cd, PySem.W.clsIn K D = some cd ∧ cd.mro = [.ref D, .type "object"]
  l : PySem.W.findIn K (.ref D) (PySem.dunder nm) = some none
  r : PySem.W.findIn K (.ref D) (dunderR nm) = some none
  ol : PySem.W.findIn K (.type "object") (PySem.dunder nm) = some none
  or_ : PySem.W.findIn K (.type "object") (dunderR nm) = some none
theorem noNum_looks {K : PySem.W.Frag} {D : Addr} {nm : String} {M' : Model} {h : Heap} (N : NoNum K D nm) (X : K.In h) : PySem.W.Looks M' h (fillsNumberSlot (.ref D) nm) false := by
  obtain ⟨cd, hc, hm⟩ := N.mro
  intro A Q E s k q
  have X' : K.In s.heap := X.keeps k
  unfold fillsNumberSlot
  refine wpAny_bind ((PySem.W.looks_clsIn X hc).andThen (f := fun cd => pure cd.mro) .now A _ E s k ?_)
  rw [hm, List.anyM_cons]
  refine wpAny_bind ?_
  show wpAny M' A (List.anyM _ [PySem.dunder nm, dunderR nm]) _ _ _
  rw [List.anyM_cons]
  refine wpAny_bind (wpAny_bind ((PySem.W.looks_findIn X N.l) A _ E s k ?_))
  dsimp only
  refine wpAny_pure ?_
  simp only [Bool.false_eq_true, if_false]
  rw [List.anyM_cons]
  refine wpAny_bind (wpAny_bind ((PySem.W.looks_findIn X N.r) A _ E s k ?_))
  dsimp only
  refine wpAny_pure ?_
  simp only [Bool.false_eq_true, if_false]
  refine wpAny_pure ?_
  simp only [Bool.false_eq_true, if_false]
  rw [List.anyM_cons]
  refine wpAny_bind ?_
  dsimp only
  refine wpAny_bind (m := typeLookup (.type "object") (PySem.dunder nm)) ((PySem.W.looks_findIn X N.ol) A _ E s k ?_)
  refine wpAny_bind (m := typeLookup (.type "object") (dunderR nm)) ((PySem.W.looks_findIn X N.or_) A _ E s k ?_)
  refine wpAny_pure ?_
  exact wpAny_pure q
/-- the right side of such a class -/
theorem os_binN {X : Cx} {W : WX} {k kf : Nat} {f : Addr} {m : MF} {C Dn : Str} {op : Operator} {nm : String} (hnm : op.info.2 = nm) (c : Ctx X W k) (F : FnC X kf f m) (M : Meth X.K (ga X.K C) (PySem.dunder nm) f) (hc : PySem.W.selfFirst X.K (ga X.K C) = true) (N : NoNum X.K (ga X.K Dn) nm) (hne : ga X.K Dn ≠ ga X.K C) (hk : kf ≤ k := by decide) :
    OpS X W (binaryOp op) (own2 C (isCls Dn) m) := os_binF hnm c F M hc hk fun I d v u hp r ru => by
  refine ⟨.ref (ga X.K Dn), fun e => hne (Value.ref.inj e), fun M' h H hK hok e => ⟨?_, noNum_looks N hK⟩⟩
  cases r with
  | obj hI rf =>
    unfold isCls at hp
    have e2 := of_decide_eq_true hp
    subst e2
    cases ru
    obtain ⟨mA, O, _⟩ := ins_get hok (e _ _ hI)
    obtain ⟨od, Ia, _⟩ := O.look
    exact Ia.type
  | _ => cases hp
theorem nf_self {K : PySem.W.Frag} {C : Str} : ∀ t ∈ [Tg.own C], PySem.W.notFirst K (ga K C) (tgV K t) = true := by
  intro t ht
  have e := List.mem_singleton.mp ht
  subst e
  simp [PySem.W.notFirst, tgV]
end DL
set_option maxHeartbeats 2000000
/-! DL22: the head: facts over the part of the heap that the module's names reach. -/
namespace DL
open PySem PySem.Spec PyProof.Rows L2
abbrev Fr : Type := PySem.W.Frag
theorem bth {a b : Bool} (h : (a && b) = true) : a = true ∧ b = true := Bool.and_eq_true_iff.mp h
def eqB (a b : Option (Option Value)) : Bool := decide (a = b)
theorem eqB_ok {a b : Option (Option Value)} (h : eqB a b = true) : a = b := of_decide_eq_true h
/-! ### frozen values -/
def repL (f : D → Value → Bool) : List D → List Value → Bool
  | [], [] => true
  | d :: ds, u :: us => f d u && repL f ds us
  | _, _ => false
def repB (K : Fr) : Nat → D → Value → Bool
  | 0, _, _ => false
  | n + 1, d, u => match d, u with
    | .non, .none => true
    | .bl b, .bool c => b == c
    | .int i, .int j _ => decide (i = j)
    | .str x, .str y _ => decide (x = y)
    | .cls c, .ref a => decide (ga K c = a)
    | .tup ds, .ref a => (match K.lookup a with
      | some ⟨.type c, _, .seq its _, _⟩ => decide (c = "tuple") && (decide (its.size ≤ sizeLine) && repL (repB K n) ds its.toList)
      | _ => false)
    | _, _ => false
theorem repL_ok {K : Fr} {f : D → Value → Bool} (ok : ∀ d u, f d u = true → ∃ v, RelV v u ∧ ∀ I, Rep K I d v) : ∀ {ds : List D} {us : List Value}, repL f ds us = true → ∃ vs, Vals vs us ∧ ∀ I, Reps K I ds vs
  | [], [], _ => ⟨[], .nil, fun _ => .nil⟩
  | [], _ :: _, h => by cases h
  | _ :: _, [], h => by cases h
  | d :: ds, u :: us, h => by
    obtain ⟨h1, h2⟩ := bth (show (f d u && repL f ds us) = true from h)
    obtain ⟨v, r, p⟩ := ok d u h1
    obtain ⟨vs, rs, ps⟩ := repL_ok ok h2
    exact ⟨v :: vs, .cons r rs, fun I => .cons (p I) (ps I)⟩
theorem repB_ok {K : Fr} : ∀ {n : Nat} {d : D} {u : Value}, repB K n d u = true → ∃ v, RelV v u ∧ ∀ I, Rep K I d v
  | 0, _, _, h => by cases h
  | n + 1, d, u, h => by
    cases d with
    | non => cases u with
      | none => exact ⟨.non, rfl, fun I => .non⟩
      | _ => cases h
    | bl b => cases u with
      | bool c =>
        obtain rfl : b = c := eq_of_beq (show (b == c) = true from h)
        exact ⟨.bl b, rfl, fun I => .bl b⟩
      | _ => cases h
    | int i => cases u with
      | int j t =>
        obtain rfl : i = j := of_decide_eq_true h
        exact ⟨.int i, ⟨t, rfl⟩, fun I => .int i⟩
      | _ => cases h
    | str x => cases u with
      | str y t =>
        obtain rfl : x = y := of_decide_eq_true h
        exact ⟨.str x, ⟨t, rfl⟩, fun I => .str x⟩
      | _ => cases h
    | cls c => cases u with
      | ref a =>
        obtain rfl : ga K c = a := of_decide_eq_true h
        exact ⟨.ref (ga K c), rfl, fun I => .cls c⟩
      | _ => cases h
    | tup ds => cases u with
      | ref a =>
        have h1 : (match K.lookup a with
          | some ⟨.type c, _, .seq its _, _⟩ => decide (c = "tuple") && (decide (its.size ≤ sizeLine) && repL (repB K n) ds its.toList)
          | _ => false) = true := h
        cases q : K.lookup a with
        | none => rw [q] at h1; cases h1
        | some o =>
          obtain ⟨oc, od, dt, osl⟩ := o
          rw [q] at h1
          cases oc with
          | type c =>
            cases dt with
            | seq its m =>
              obtain ⟨h2, h3⟩ := bth (show (decide (c = "tuple") && (decide (its.size ≤ sizeLine) && repL (repB K n) ds its.toList)) = true from h1)
              obtain ⟨h4, h5⟩ := bth h3
              obtain ⟨vs, r, p⟩ := repL_ok (fun d u h => repB_ok (n := n) h) h5
              exact ⟨.ref a, rfl, fun I => .tup (.inr ⟨_, its, m, q, congrArg Value.type (of_decide_eq_true h2), rfl, of_decide_eq_true h4, r⟩) (p I)⟩
            | _ => cases h1
          | _ => cases dt <;> cases h1
      | _ => cases h
    | lst _ => cases u <;> cases h
    | obj _ _ => cases u <;> cases h
    | scr _ => cases u <;> cases h
/-! ### facts -/
def glbB (x : Str) (d : D) (K : Fr) : Bool := match PySem.W.nsIn K mainGlobals x with
  | some (some u) => repB K 6 d u
  | _ => false
def fldB (cs : List Str) (f : Str) (K : Fr) : Bool := cs.all fun c => (He.Fa.cls c).ok K && (He.Fa.noat c f).ok K
def clsB (c : Str) (K : Fr) : Bool := (He.Fa.cls c).ok K && (eqB (PySem.W.findIn K (.ref (ga K c)) "__class__") (some (some (.builtin "object.__class__"))) && (eqB (PySem.W.specialIn K (.builtin "object.__class__") "__get__") (some (some (.builtin "getset_descriptor.__get__"))) &&
  (decide (PySem.W.takesIn K (.builtin "object.__class__") = some true) && decide (PySem.W.mroIn K (ga K c) (.type "object") = some true))))
def isiB (tags : List Tg) (c : Tg) (K : Fr) : Bool := tags.all fun t => decide (PySem.W.kitOne K (tgV K t) (tgV K c) = some (isTg t c)) && (match t with
  | .own x => clsB x K
  | .ty _ => true)
def conB (C f : Str) (d : D) (K : Fr) : Bool := PySem.W.readsIn K (ga K C) (.type "type") && (eqB (PySem.W.specialIn K (.ref (ga K C)) "__getattribute__") (some (some (.builtin "type.__getattribute__"))) && (match PySem.W.findCls K (.ref (ga K C)) (.type "type") f with
  | some (.val u) => repB K 6 d u
  | _ => false))
def noNumB (C : Str) (nm : String) (K : Fr) : Bool := (match PySem.W.clsIn K (ga K C) with
  | some cd => decide (cd.mro = [.ref (ga K C), .type "object"])
  | none => false) && (eqB (PySem.W.findIn K (.ref (ga K C)) (PySem.dunder nm)) (some none) && (eqB (PySem.W.findIn K (.ref (ga K C)) (dunderR nm)) (some none) && (eqB (PySem.W.findIn K (.type "object") (PySem.dunder nm)) (some none) && eqB (PySem.W.findIn K (.type "object") (dunderR nm)) (some none))))
def excB (C : Addr) (K : Fr) : Bool := eqB (PySem.W.findIn K (.ref C) "__getattribute__") (some (some (.builtin "BaseException.__getattribute__"))) && (eqB (PySem.W.findIn K (.ref C) "__getattr__") (some none) && (decide (PySem.W.subIn K (.ref C) (.type "BaseException") = some true) && (PySem.W.hasDictIn K C &&
  (eqB (PySem.W.findIn K (.ref C) "__class__") (some (some (.builtin "object.__class__"))) && (eqB (PySem.W.specialIn K (.builtin "object.__class__") "__get__") (some (some (.builtin "getset_descriptor.__get__"))) && (decide (PySem.W.takesIn K (.builtin "object.__class__") = some true) && decide (PySem.W.mroIn K C (.type "object") = some true)))))))
def xisB (cs : List Str) (tab : Str → Option Bool) (C : Str) (K : Fr) : Bool := cs.all fun c => excB (ga K c) K && decide (PySem.W.kitOne K (.ref (ga K c)) (.ref (ga K C)) = tab c)
def exmB (cs : List Str) (tab : Str → Option Bool) (C : Str) (K : Fr) : Bool := cs.all fun c => decide (PySem.W.exmOne K (.ref (ga K c)) (.ref (ga K C)) = tab c)
def xfB (cs : List Str) (f : Str) (K : Fr) : Bool := cs.all fun c => L2.xfB K (ga K c) && eqB (PySem.W.findIn K (.ref (ga K c)) f) (some none)
section
variable {K : Fr} {h : Heap} {mg : Str → Option Value}
theorem glb_ok (X : K.In h) (G : h.Ns mainGlobals mg) {x : Str} {d : D} (c : glbB x d K = true) : GlobD K mg x d := by
  unfold glbB at c
  cases e : PySem.W.nsIn K mainGlobals x with
  | none => rw [e] at c; cases c
  | some o =>
    rw [e] at c
    cases o with
    | none => cases c
    | some u =>
      obtain ⟨v, r, p⟩ := repB_ok c
      exact ⟨u, v, PySem.W.mg_of X G e, r, p⟩
theorem fld_ok {cs : List Str} {f : Str} (c : fldB cs f K = true) : FldF K cs f := ⟨fun C m => by
  obtain ⟨c1, c2⟩ := bth (List.all_eq_true.mp c C m)
  exact ⟨He.cls_ok c1, He.noat_ok c2⟩⟩
theorem clsF_ok {x : Str} (c : clsB x K = true) : ClsF K x := by
  obtain ⟨c1, c⟩ := bth c
  obtain ⟨c2, c⟩ := bth c
  obtain ⟨c3, c⟩ := bth c
  obtain ⟨c4, c5⟩ := bth c
  exact ⟨He.cls_ok c1, eqB_ok c2, eqB_ok c3, of_decide_eq_true c4, of_decide_eq_true c5⟩
theorem isi_ok {tags : List Tg} {T : Tg} (c : isiB tags T K = true) : IsiF K tags T := ⟨fun t m => of_decide_eq_true (bth (List.all_eq_true.mp c t m)).1, fun x m => clsF_ok (bth (List.all_eq_true.mp c _ m)).2⟩
theorem con_ok {C f : Str} {d : D} (c : conB C f d K = true) : ConF K C f d := by
  obtain ⟨c1, c⟩ := bth c
  obtain ⟨c2, c3⟩ := bth c
  cases e : PySem.W.findCls K (.ref (ga K C)) (.type "type") f with
  | none => rw [e] at c3; cases c3
  | some o =>
    rw [e] at c3
    cases o with
    | val u =>
      obtain ⟨v, r, p⟩ := repB_ok c3
      exact ⟨_, v, u, ⟨c1, eqB_ok c2⟩, ⟨e, r⟩, p⟩
    | _ => cases c3
theorem noNum_ok {C : Str} {nm : String} (c : noNumB C nm K = true) : NoNum K (ga K C) nm := by
  obtain ⟨c1, c⟩ := bth c
  obtain ⟨c2, c⟩ := bth c
  obtain ⟨c3, c⟩ := bth c
  obtain ⟨c4, c5⟩ := bth c
  refine ⟨?_, eqB_ok c2, eqB_ok c3, eqB_ok c4, eqB_ok c5⟩
  cases e : PySem.W.clsIn K (ga K C) with
  | none => rw [e] at c1; cases c1
  | some cd => rw [e] at c1; exact ⟨cd, rfl, of_decide_eq_true c1⟩
theorem exc_ok {C : Addr} (c : excB C K = true) : ExcC K C := by
  obtain ⟨c1, c⟩ := bth c
  obtain ⟨c2, c⟩ := bth c
  obtain ⟨c3, c⟩ := bth c
  obtain ⟨c4, c⟩ := bth c
  obtain ⟨c5, c⟩ := bth c
  obtain ⟨c6, c⟩ := bth c
  obtain ⟨c7, c8⟩ := bth c
  exact ⟨eqB_ok c1, eqB_ok c2, of_decide_eq_true c3, c4, eqB_ok c5, eqB_ok c6, of_decide_eq_true c7, of_decide_eq_true c8⟩
theorem xis_ok {cs : List Str} {tab : Str → Option Bool} {C : Str} (c : xisB cs tab C K = true) (ht : ∀ x b, tab x = some b → x ∈ cs) : XisF K tab C := ⟨fun x b e => by
  obtain ⟨c1, c2⟩ := bth (List.all_eq_true.mp c x (ht x b e))
  exact ⟨exc_ok c1, (of_decide_eq_true c2).trans e⟩⟩
theorem exm_ok {cs : List Str} {tab : Str → Option Bool} {C : Str} (c : exmB cs tab C K = true) (ht : ∀ x b, tab x = some b → x ∈ cs) : ExmF K tab C := ⟨fun x b e => (of_decide_eq_true (List.all_eq_true.mp c x (ht x b e))).trans e⟩
theorem xf_ok {cs : List Str} {f : Str} (c : xfB cs f K = true) : XfF K cs f := ⟨fun x m => by
  obtain ⟨c1, c2⟩ := bth (List.all_eq_true.mp c x m)
  exact ⟨xfB_ok c1, eqB_ok c2⟩⟩
end
/-! ### own exceptions -/
structure LxD where
  name : Str
  qual : Str
  st : Stmt
  fs : List Str
def lxI (K : Fr) (x : Str) : Addr := He.ma K (ga K x) "__init__"
abbrev LxW : Type := Option (Str × Str × Arguments × FuncBody × Scope × Addr × List Str × Addr)
def lxW (K : Fr) (x : Str) : LxW := match K.lookup (lxI K x) with
  | some ⟨_, _, .func fd, _⟩ => some (fd.name, fd.qualname, fd.params, fd.body, fd.scope, fd.globals, fd.closure.map (·.1), fd.builtins)
  | _ => none
def LxD.val (d : LxD) : LxW := some ("__init__", d.qual, defArgs d.st, .stmts (defBody d.st), PySem.LostX.lsc (defScope d.st).names, mainGlobals, ["__class__"], builtinsNs)
def lxFn (file : Str) (C : Addr) (qual : Str) (K : Fr) (fd : FuncData) : Bool := PySem.W.codeIn K fd.code qual && ((match fd.defaults with
  | .none => true
  | _ => false) && ((match fd.code with
  | .ref cda => (match K.lookup cda with
    | some ⟨_, _, .fields (vs : Array Value), _⟩ => (match vs[2]? with
      | some (Value.str f _) => file == f
      | _ => false)
    | _ => false)
  | _ => false) && (match fd.closure with
  | [(_, cc)] => (match K.lookup cc with
    | some ⟨_, _, .cell (some (.ref c)), _⟩ => decide (c = C)
    | _ => false)
  | _ => false)))
def LxD.ok (file : Str) (K : Fr) (d : LxD) : Bool := PySem.LostX.lostB K (ga K d.name) && (eqB (PySem.W.findIn K (.ref (ga K d.name)) "__setattr__") (some (some (.builtin "object.__setattr__"))) && (eqB (PySem.W.findIn K (.ref (ga K d.name)) "__init__") (some (some (.ref (lxI K d.name)))) &&
  (decide (PySem.W.typeIn K (.ref (lxI K d.name)) = some (.type "function")) && (PySem.W.keepIn K (.ref (ga K d.name)) && (decide (PySem.W.subIn K (.ref (ga K d.name)) (.type "BaseException") = some true) && (decide (PySem.W.subIn K (.ref (ga K d.name)) (.type "ValueError") = some true) &&
  (decide (PySem.W.mroIn K (ga K d.name) (.ref (ga K d.name)) = some true) && (decide (PySem.W.typeIn K (.ref (ga K d.name)) = some (.type "type")) && (eqB (PySem.W.ks_superIn K (ga K d.name) (ga K d.name) "__init__") (some (some (.builtin "ValueError.__init__"))) &&
  (eqB (PySem.W.nsIn K cStatics "thirdparty.any") (some none) && ((match K.lookup (lxI K d.name) with
    | some ⟨_, _, .func fd, _⟩ => lxFn file (ga K d.name) d.qual K fd
    | _ => false) && d.fs.all fun f => eqB (PySem.W.findIn K (.ref (ga K d.name)) f) (some none))))))))))))
theorem lx_ok {prog : Program} {K : Fr} {d : LxD} (e : lxW K d.name = d.val) (c : d.ok prog.main.file K = true) :
    PySem.LostX.LostC prog K (ga K d.name) (lxI K d.name) d.qual (defArgs d.st) (defBody d.st) (defScope d.st).names ∧ ∀ f ∈ d.fs, PySem.W.findIn K (.ref (ga K d.name)) f = some none := by
  unfold LxD.ok at c
  obtain ⟨c1, c⟩ := bth c
  obtain ⟨c2, c⟩ := bth c
  obtain ⟨c3, c⟩ := bth c
  obtain ⟨c4, c⟩ := bth c
  obtain ⟨c5, c⟩ := bth c
  obtain ⟨c6, c⟩ := bth c
  obtain ⟨c7, c⟩ := bth c
  obtain ⟨c8, c⟩ := bth c
  obtain ⟨c9, c⟩ := bth c
  obtain ⟨c10, c⟩ := bth c
  obtain ⟨c11, c⟩ := bth c
  obtain ⟨c12, c13⟩ := bth c
  refine ⟨⟨c1, eqB_ok c2, eqB_ok c3, of_decide_eq_true c4, c5, of_decide_eq_true c6, of_decide_eq_true c7, of_decide_eq_true c8, of_decide_eq_true c9, eqB_ok c10, eqB_ok c11, ?_⟩, fun f m => eqB_ok (List.all_eq_true.mp c13 f m)⟩
  unfold lxW at e
  cases q : K.lookup (lxI K d.name) with
  | none => rw [q] at c12; cases c12
  | some o =>
    obtain ⟨oc, od, dt, osl⟩ := o
    rw [q] at c12 e
    cases dt with
    | func fd =>
      obtain ⟨n1, n2, n3, n4, n5, n6, n7, n8, n9, n10, n11, n12, n13, n14, n15⟩ := fd
      have e2 : (some (n1, n2, n3, n4, n5, n6, n7.map (·.1), n15) : LxW) = (some ("__init__", d.qual, defArgs d.st, .stmts (defBody d.st), PySem.LostX.lsc (defScope d.st).names, mainGlobals, ["__class__"], builtinsNs) : LxW) := e
      simp only [Option.some.injEq, Prod.mk.injEq] at e2
      obtain ⟨h1, h2, h3, h4, h5, h6, h7, h8⟩ := e2
      subst h1 h2 h3 h4 h5 h6 h8
      obtain ⟨k1, k⟩ := bth (show lxFn prog.main.file (ga K d.name) d.qual K _ = true from c12)
      obtain ⟨k4, k⟩ := bth k
      obtain ⟨k2, k3⟩ := bth k
      have kd : n8 = .none := by
        cases n8 with
        | none => rfl
        | _ => cases k4
      match n7, h7 with
      | [(y, cc)], h7 =>
        obtain rfl : y = "__class__" := by simpa using h7
        cases n13 with
        | ref cda =>
          dsimp only at k1 k2 k3
          cases qc : K.lookup cda with
          | none => rw [qc] at k2; cases k2
          | some oc1 =>
            obtain ⟨ccl, cdd, dt1, ccs⟩ := oc1
            rw [qc] at k2
            cases dt1 with
            | fields vs =>
              dsimp only at k2
              cases qv : vs[2]? with
              | none => rw [qv] at k2; cases k2
              | some fv =>
                rw [qv] at k2
                cases fv with
                | str fl tf =>
                  cases qq : K.lookup cc with
                  | none => rw [qq] at k3; cases k3
                  | some oc2 =>
                    obtain ⟨cl, cld, dt2, csl⟩ := oc2
                    rw [qq] at k3
                    cases dt2 with
                    | cell ov =>
                      cases ov with
                      | none => cases k3
                      | some v =>
                        cases v with
                        | ref c0 =>
                          obtain rfl : c0 = ga K d.name := of_decide_eq_true k3
                          exact ⟨oc, od, n8, n9, n10, n11, n12, cda, n14, osl, cc, ccl, cdd, vs, ccs, fl, tf, cl, cld, csl, rfl, k1, qc, qv, k2, qq, kd⟩
                        | _ => cases k3
                    | _ => cases k3
                | _ => cases k2
            | _ => cases k2
        | _ => cases k2
    | _ => cases c12
theorem lost1 {prog : Program} {w : World} {K : Fr} {mg : Str → Option Value} {d : LxD} {f m : Str} {j : Nat} {a1 a2 a3 a4 a5 a6 q1 q2 q3 q4 : Pos} (e : lxW K d.name = d.val) (c : d.ok prog.main.file K = true) (gx : mg d.name = some (.ref (ga K d.name))) (sup : mg "super" = none) (top : (prog.main.scope.names.lookup ("super" : Str)).isSome = false)
    (hb : defBody d.st = [PySem.LostX.supS m j a1 a2 a3 a4 a5 a6, PySem.LostX.stoS f f q1 q2 q3 q4]) (hfs : d.fs = [f]) (S : PySem.LostX.LostS ["self", f] (defArgs d.st) (defScope d.st).names)
    (hbd : ∀ (qual : Str) (body : List Stmt) (kV doc pm : Value) (an : Option Addr) (cdv ct : Value) (cc : Addr) (u v : Value), bindArgs (PySem.W.ksFn "__init__" qual (defArgs d.st) body (PySem.LostX.lsc (defScope d.st).names) .none kV doc pm an cdv ct cc) ⟨[u, v], []⟩ = pure [(("self" : Str), u), (f, v)])
    (hf : (f == ("self" : Str)) = false) (hfd : (f == ("__debug__" : Str)) = false) (hev : PySem.LostX.EvE m j a1 a2 a3 a4 a5 (defScope d.st).names) : LostM prog w K mg d.name [f] := by
  obtain ⟨T, hno⟩ := lx_ok (prog := prog) e c
  rw [hb] at T
  refine ⟨⟨_, _, _, _, _, T, fun us hl => ?_⟩, gx, sup, top⟩
  match us, hl with
  | [u], _ =>
    intro A R s x t0 X hlim G hx hnx hroom hq
    exact PySem.LostX.lost_init1 T S (fun _ _ _ _ _ _ _ _ _ => hbd ..) hf hfd (hno f (by rw [hfs]; exact List.mem_singleton.mpr rfl)) hev X hlim G hx hnx hroom hq
theorem lost2 {prog : Program} {w : World} {K : Fr} {mg : Str → Option Value} {d : LxD} {f g m : Str} {j : Nat} {a1 a2 a3 a4 a5 a6 q1 q2 q3 q4 r1 r2 r3 r4 : Pos} (e : lxW K d.name = d.val) (c : d.ok prog.main.file K = true) (gx : mg d.name = some (.ref (ga K d.name))) (sup : mg "super" = none) (top : (prog.main.scope.names.lookup ("super" : Str)).isSome = false)
    (hb : defBody d.st = [PySem.LostX.supS m j a1 a2 a3 a4 a5 a6, PySem.LostX.stoS f f q1 q2 q3 q4, PySem.LostX.stoS g g r1 r2 r3 r4]) (hfs : d.fs = [f, g]) (S : PySem.LostX.LostS ["self", f, g] (defArgs d.st) (defScope d.st).names)
    (hbd : ∀ (qual : Str) (body : List Stmt) (kV doc pm : Value) (an : Option Addr) (cdv ct : Value) (cc : Addr) (u v z : Value), bindArgs (PySem.W.ksFn "__init__" qual (defArgs d.st) body (PySem.LostX.lsc (defScope d.st).names) .none kV doc pm an cdv ct cc) ⟨[u, v, z], []⟩ = pure [(("self" : Str), u), (f, v), (g, z)])
    (hf : (f == ("self" : Str)) = false) (hg : (g == ("self" : Str)) = false) (hfg : (f == g) = false) (hfd : (f == ("__debug__" : Str)) = false) (hgd : (g == ("__debug__" : Str)) = false) (hev : PySem.LostX.EvE m j a1 a2 a3 a4 a5 (defScope d.st).names) : LostM prog w K mg d.name [f, g] := by
  obtain ⟨T, hno⟩ := lx_ok (prog := prog) e c
  rw [hb] at T
  refine ⟨⟨_, _, _, _, _, T, fun us hl => ?_⟩, gx, sup, top⟩
  match us, hl with
  | [u, z], _ =>
    intro A R s x t0 X hlim G hx hnx hroom hq
    exact PySem.LostX.lost_init2 T S (fun _ _ _ _ _ _ _ _ _ _ => hbd ..) hf hg hfg hfd hgd (hno f (by rw [hfs]; simp)) (hno g (by rw [hfs]; simp)) hev X hlim G hx hnx hroom hq
/-! ### the Hook -/
abbrev AlH : Type := Bool × List He.FnW × List LxW
def obsH (file : Str) (fb : List (Fr → Bool)) (fn : List He.DefD) (fl : List LxD) (K : Fr) : AlH := ((fb.all fun f => f K) && ((fn.all fun d => d.ok K) && fl.all fun d => d.ok file K), fn.map fun d => He.fnW K d.at_, fl.map fun d => lxW K d.name)
def valH (fn : List He.DefD) (fl : List LxD) : AlH := (true, fn.map He.DefD.val, fl.map LxD.val)
def SaysH (file : Str) (fb : List (Fr → Bool)) (fn : List He.DefD) (fl : List LxD) (K : Fr) : Prop := obsH file fb fn fl K = valH fn fl
def frH (n : Nat) (g : Addr → Option Obj) : Fr := He.frG g (cStatics :: He.asD g n)
def hookH (file : Str) (n : Nat) (fb : List (Fr → Bool)) (fn : List He.DefD) (fl : List LxD) : PySem.W.Hook where
  α := AlH
  obs := fun s => obsH file fb fn fl (frH n s.heap.get?)
  val := fun _ => valH fn fl
  says := fun _ h => ∃ K : PySem.W.Frag, K.In h ∧ SaysH file fb fn fl K
  of := fun _ _ e => ⟨_, He.frG_in, e⟩
  keeps := fun _ _ _ ⟨K, hK, c⟩ k => ⟨K, PySem.W.Frag.In.keeps hK k, c⟩
def obH (file : Str) (n : Nat) (fb : List (Fr → Bool)) (fn : List He.DefD) (fl : List LxD) (s : PySem.W.SharedT) : AlH := obsH file fb fn fl (frH n (HandSHeadRun.getT s))
theorem obH_eq {file : Str} {n : Nat} {fb : List (Fr → Bool)} {fn : List He.DefD} {fl : List LxD} (s : PySem.W.SharedT) : obH file n fb fn fl s = (hookH file n fb fn fl).obs s.abs := by
  have e : HandSHeadRun.getT s = s.abs.heap.get? := funext (HandSHeadRun.getT_eq s)
  show obsH file fb fn fl (frH n (HandSHeadRun.getT s)) = obsH file fb fn fl (frH n s.abs.heap.get?)
  rw [e]
section
variable {file : Str} {fb : List (Fr → Bool)} {fn : List He.DefD} {fl : List LxD} {K : Fr}
theorem SaysH.fact (c : SaysH file fb fn fl K) (i : Nat) {f : Fr → Bool} (h : fb[i]? = some f := by rfl) : f K = true := by
  have c1 := (bth (congrArg (fun z : AlH => z.1) c)).1
  exact List.all_eq_true.mp c1 f (List.mem_of_getElem? h)
theorem SaysH.def_ (c : SaysH file fb fn fl K) (i : Nat) {d : He.DefD} (h : fn[i]? = some d := by rfl) : ∃ fd, FunD K d.name d.qual d.params d.body d.scope (d.dvs K) (d.kws K) (He.fAd K d.at_) fd := by
  have c2 := (bth (bth (congrArg (fun z : AlH => z.1) c)).2).1
  have e : fn.map (fun d => He.fnW K d.at_) = fn.map He.DefD.val := congrArg (fun z : AlH => z.2.1) c
  have e2 : (fn.map fun d => He.fnW K d.at_)[i]? = (fn.map He.DefD.val)[i]? := by rw [e]
  rw [List.getElem?_map, List.getElem?_map, h] at e2
  exact He.DefD.funD (Option.some.inj e2) (List.all_eq_true.mp c2 d (List.mem_of_getElem? h))
theorem SaysH.lx (c : SaysH file fb fn fl K) (i : Nat) {d : LxD} (h : fl[i]? = some d := by rfl) : lxW K d.name = d.val ∧ d.ok file K = true := by
  have c2 := (bth (bth (congrArg (fun z : AlH => z.1) c)).2).2
  have e : fl.map (fun d => lxW K d.name) = fl.map LxD.val := congrArg (fun z : AlH => z.2.2) c
  have e2 : (fl.map fun d => lxW K d.name)[i]? = (fl.map LxD.val)[i]? := by rw [e]
  rw [List.getElem?_map, List.getElem?_map, h] at e2
  exact ⟨Option.some.inj e2, List.all_eq_true.mp c2 d (List.mem_of_getElem? h)⟩
end
end DL
set_option maxHeartbeats 2000000
namespace DL
open PySem PySem.Spec PyProof.Rows L2
/-- the end, the script's bits told -/
theorem walk_ofBE {l : PySem.W.OpenLaw} {n k : Nat} {q : Program} {loose : List Str} {XP : (Str → Option Value) → Heap → Prop} {YP : World → Heap → Prop} {d : DefRec} {CX : World → CXT} {x : Str}
    (hn : l.most = some n) (hn2 : n ≤ sizeLine) (hdf : d.params.defaults = []) (hr : Room k callerA)
    (F : ∀ (w : World) (mg : Str → Option Value) (fa : Addr) (h : Heap), YP w h → h.Ns mainGlobals mg → mg d.name = some (.ref fa) →
      ∃ (K : PySem.W.Frag) (fd : FuncData) (sp : Sp), K.In h ∧ (∀ (s : Shared) (u : Value), BindsTo s fd ⟨[u], []⟩ [(x, u)]) ∧
        (∀ (H : Hp) (a : Addr) (ns : List Int), ns.length ≤ n → (∀ z ∈ ns, Builtin.Int.intBits z ≤ 1048576) → Only H → SqL K H a (ns.map V.int) → sp [.ref a] H (fun v _ => v = .bl true) fun _ _ _ => False) ∧
        ∀ base : Heap, K.In base → base.Ns mainGlobals mg → FnOk l.prog w K mg base (CX w) k fa fd [x] sp)
    (hCX : ∀ (w : World) (H : Hp) (s : Shared) (e : Value) (s' : Shared), CX w [] H s (fun _ _ _ => False) e s' → False) :
    PySem.W.WalkO q loose XP YP l.row.toRowW d [] (fun f vs => PySem.call f vs) := by
  refine Att.attach_callB hn hdf fun w s₀ s₁ mg mb fa o pm cd doc a vs ns G Y ho hd hcd hmg hobj hints hlen hbits hg => ?_
  obtain ⟨K, fd, sp, KX, hb, hsp, hF⟩ := F w mg fa _ Y G.T.g hmg
  exact law_call KX G.T.g G.T.b G.T.builtins G.T.nolimit hg hobj hints (Nat.le_trans hlen hn2) hr hF hb (fun H hO hS => hsp H a ns hlen hbits hO hS) fun H e s' => hCX w H s₁ e s'
/-- the law's promise by its mirror -/
theorem sp_law {K : PySem.W.Frag} {m : MF} {H : Hp} {a : Addr} {ns : List Int} (h : m [.va (.scr ns)] = .ok (.bl true) []) (hS : SqL K H a (ns.map V.int)) : spD K m [.ref a] H (fun v _ => v = .bl true) fun _ _ _ => False := by
  refine ⟨H, [.va (.scr ns)], ⟨.rfl', rfl, ?_, ?_⟩, ?_⟩
  · intro i s o h1 h2
    match i, h1, h2 with
    | 0, h1, h2 =>
      cases h1; cases h2
      exact ⟨_, rfl, .scr hS⟩
    | i + 1, h1, _ => cases h1
  · intro i j b h1 h2
    obtain ⟨⟨s, hs, ho⟩, _⟩ := h1
    match i, hs with
    | 0, hs => cases hs; exact ho.elim
    | i + 1, hs => cases hs
  · unfold GoC
    rw [h]
    intro v I' H' _ r
    cases r; rfl
theorem cx_false {P : Program} {w : World} {H : Hp} {s : Shared} {e : Value} {s' : Shared} (h : L2.CX P w [] H s (fun _ _ _ => False) e s') : False := by
  obtain ⟨_, _, _, _, _, _, _, _, _, _, _, _, z⟩ := h
  exact z
theorem funD_uniq {K : PySem.W.Frag} {x qual x2 qual2 : Str} {params params2 : Arguments} {body body2 : List Stmt} {scope scope2 : Scope} {dvs dvs2 : List V} {kws kws2 : List (Str × V)} {f : Addr} {fd fd2 : FuncData} (F : FunD K x qual params body scope dvs kws f fd) (F2 : FunD K x2 qual2 params2 body2 scope2 dvs2 kws2 f fd2) : fd = fd2 := by
  obtain ⟨_, _, _, _, _, _, _, _, _, _, _, h, _⟩ := F.ex
  obtain ⟨_, _, _, _, _, _, _, _, _, _, _, h2, _⟩ := F2.ex
  rw [h] at h2
  cases h2
  rfl
end DL
set_option maxHeartbeats 2000000
/-! DP1: the mirrors evaluated: run lemmas; the source and its draws; _law_equal. -/
namespace DL
open PySem PySem.Spec PyProof.Rows L2
def Rs.bd {α β : Type} (r : Rs α) (f : α → M β) : Rs β := match r with
  | .ok a δ' => f a δ'
  | .er x δ' => .er x δ'
  | .st => .st
section
variable {α β : Type} {δ δ' : En} {f : α → M β} {m : M α}
@[simp] theorem run_bind : (m >>= f) δ = (m δ).bd f := id rfl
@[simp] theorem bd_ok {a : α} : (Rs.ok a δ).bd f = f a δ := id rfl
@[simp] theorem bd_er {x : Xc} : (Rs.er x δ : Rs α).bd f = .er x δ := id rfl
@[simp] theorem bd_st : (Rs.st : Rs α).bd f = .st := id rfl
@[simp] theorem run_pure {a : α} : (pure a : M α) δ = .ok a δ := id rfl
@[simp] theorem run_stuck : (stuck : M α) δ = .st := id rfl
@[simp] theorem run_guard_true : (guardM true m) δ = m δ := id rfl
theorem run_guard {b : Bool} (h : b = true) : (guardM b m) δ = m δ := by rw [h]; rfl
@[simp] theorem run_ite {c : Prop} [Decidable c] {a b : M α} : (if c then a else b) δ = if c then a δ else b δ := by split <;> rfl
@[simp] theorem run_ifB_t {a b : M α} : (if true = true then a else b) δ = a δ := id rfl
end
section
variable {δ : En} {a b : M Fl} {m : M D} {t u : M Bool} {i : Nat} {d : D}
@[simp] theorem run_seq : seqD a b δ = (a δ).bd (thenS b) := id rfl
@[simp] theorem thenS_nx : thenS b .nx = b := id rfl
@[simp] theorem thenS_rt : thenS b (.rt d) = pure (.rt d) := id rfl
@[simp] theorem onlyS_nx : onlyS .nx = pure .nx := id rfl
@[simp] theorem run_expr : exprD m δ = (m δ).bd fun _ => pure .nx := id rfl
@[simp] theorem run_ret : retD m δ = (m δ).bd fun d => pure (.rt d) := id rfl
@[simp] theorem run_if : ifD t a b δ = (t δ).bd fun c => if c then a else b := id rfl
@[simp] theorem run_setV : setV i d δ = .ok .nx (δ.set i (.va d)) := id rfl
@[simp] theorem run_setD : setD i m δ = (m δ).bd (setV i) := id rfl
@[simp] theorem run_setO {ds : List D} : setO i ds δ = .ok .nx (δ.set i (.ow ds)) := id rfl
@[simp] theorem run_setF {m : M (List D)} : setF i m δ = (m δ).bd (setO i) := id rfl
@[simp] theorem run_tst : tst m δ = (m δ).bd blD := id rfl
@[simp] theorem blD_bl {k : Bool} : blD (.bl k) = pure k := id rfl
@[simp] theorem run_una {f : D → M D} : una f m δ = (m δ).bd f := id rfl
@[simp] theorem run_bin {f : D → D → M D} {n : M D} : bin f m n δ = (m δ).bd fun x => n >>= fun y => f x y := id rfl
@[simp] theorem run_andT : andT t u δ = (t δ).bd fun x => if x then u else pure false := id rfl
@[simp] theorem run_orT : orT t u δ = (t δ).bd fun x => if x then pure true else u := id rfl
@[simp] theorem run_notT : notT t δ = (t δ).bd fun x => pure (!x) := id rfl
@[simp] theorem run_andV {n : M D} : andV m n δ = (m δ).bd fun d => blD d >>= fun x => if x then n else pure (.bl false) := by
  unfold andV tst
  show Rs.bd ((m >>= blD) δ) _ = _
  rw [run_bind]
  cases m δ <;> rfl
@[simp] theorem run_nilA : nilA δ = .ok [] δ := id rfl
@[simp] theorem run_consA {r : M (List D)} : consA m r δ = (m δ).bd fun x => r >>= fun xs => pure (x :: xs) := id rfl
@[simp] theorem run_ixE {n : M D} : ixE m n δ = (m δ).bd fun x => n >>= fun y => ixD x y := id rfl
@[simp] theorem run_ixN {n : M D} : ixN_ i n δ = (peekV i δ).bd fun _ => n >>= fun k => peekV i >>= fun d => ixD d k := id rfl
@[simp] theorem run_sto {n : M D} : stoN i m n δ = (m δ).bd fun d => peekV i >>= fun _ => n >>= stoS i d := id rfl
@[simp] theorem run_callV {g : MF} {a : M (List D)} : callV g a δ = (a δ).bd (appV g) := id rfl
@[simp] theorem run_callO {g : MF} {a : M (List D)} : callO g i a δ = (peekV i δ).bd fun _ => a >>= appO g i := id rfl
end
/-! ### operators -/
section
variable {δ : En} {i j : Int}
@[simp] theorem r_sub : subD (.int i) (.int j) = pure (.int (i - j)) := id rfl
@[simp] theorem r_add : addD (.int i) (.int j) = pure (.int (i + j)) := id rfl
theorem r_mul (h : (Builtin.Int.intBits i : Int) + (Builtin.Int.intBits j : Int) ≤ 134217728) : mulD (.int i) (.int j) = pure (.int (i * j)) := by
  show guardM (decide _) _ = _
  rw [decide_eq_true h]; rfl
theorem r_fdiv (h : 0 < j) (h2 : j.natAbs.log2 < 9000) : fdivD (.int i) (.int j) = pure (.int (i / j)) := by
  show guardM (decide _ && decide _) _ = _
  rw [decide_eq_true h, decide_eq_true h2]; rfl
theorem r_mod (h : 0 < j) : modD (.int i) (.int j) = pure (.int (i % j)) := by
  show guardM (decide _) _ = _
  rw [decide_eq_true h]; rfl
@[simp] theorem r_cmp {p : Int → Int → Bool} : cmpD p (.int i) (.int j) = pure (.bl (p i j)) := id rfl
@[simp] theorem r_eqI {b : Bool} : eqG b (.int i) (.int j) = pure (.bl (if b then !(i == j) else i == j)) := id rfl
@[simp] theorem r_abs : absD (.int i) = pure (.int (if i < 0 then -i else i)) := id rfl
@[simp] theorem r_int : intD (.int i) = pure (.int i) := id rfl
@[simp] theorem r_neg : negD (.int i) = pure (.int (-i)) := id rfl
theorem r_pow {i j : Int} (h : 0 ≤ j) (h2 : j ≤ 1000000) (h3 : i.natAbs < 2 ^ 64) : powD (.int i) (.int j) = pure (.int (i ^ j.toNat)) := by
  unfold powD intsD
  show guardM (decide _ && decide _ && decide _) _ = _
  rw [decide_eq_true h, decide_eq_true h2, decide_eq_true h3]; rfl
end
/-! ### the source -/
structure SrcOk (ds : List D) : Prop where
  ex : ∃ (p : Nat) (q r s : Int) (cells : List Int), ds = [.int p, .int q, .int r, .int s, .lst (cells.map D.int)] ∧ 0 ≤ q ∧ 0 ≤ r ∧ r ≤ 2000000000000000000 ∧ 0 ≤ s ∧ s ≤ 3 ∧ ∀ z ∈ cells, Builtin.Int.intBits z ≤ 1048576
noncomputable def b_draw : M Fl := (seqD (ifD (andT (tst (bin eqD (ixN_ 0 (pure (.int 1))) (pure (.int 0)))) (tst (bin eqD (ixN_ 0 (pure (.int 3))) (pure (.int 0)))))
  (seqD (ifD (tst (bin geD (ixN_ 0 (pure (.int 0))) (una lenD (ixN_ 0 (pure (.int 4))))))
  (retD (pure (.int 0)))
  (pure .nx))
  (seqD (setD 2 (ixE (ixN_ 0 (pure (.int 4))) (ixN_ 0 (pure (.int 0)))))
  (seqD (stoN 0 (bin addD (ixN_ 0 (pure (.int 0))) (pure (.int 1))) (pure (.int 0)))
  (seqD (setD 3 (bin mulD (pure (.int 2)) (getV 2)))
  (seqD (ifD (tst (bin ltD (getV 2) (pure (.int 0))))
  (setD 3 (bin subD (bin subD (pure (.int 0)) (bin mulD (pure (.int 2)) (getV 2))) (pure (.int 1))))
  (pure .nx))
  (ifD (tst (bin geD (una absD (getV 2)) (bin powD (pure (.int 10)) (pure (.int 18)))))
  (stoN 0 (getV 3) (pure (.int 1)))
  (seqD (stoN 0 (getV 3) (pure (.int 2)))
  (stoN 0 (pure (.int 3)) (pure (.int 3))))))))))
  (pure .nx))
  (seqD (ifD (tst (bin gtD (ixN_ 0 (pure (.int 1))) (pure (.int 0))))
  (seqD (setD 4 (bin modD (una intD (ixN_ 0 (pure (.int 1)))) (getV 1)))
  (seqD (stoN 0 (bin fdivD (ixN_ 0 (pure (.int 1))) (getV 1)) (pure (.int 1)))
  (retD (getV 4))))
  (pure .nx))
  (seqD (stoN 0 (bin subD (ixN_ 0 (pure (.int 3))) (pure (.int 1))) (pure (.int 3)))
  (seqD (setD 5 (bin modD (una intD (bin addD (bin addD (bin mulD (ixN_ 0 (pure (.int 2))) (pure (.int 48271))) (bin mulD (ixN_ 0 (pure (.int 3))) (pure (.int 69621)))) (pure (.int 12345)))) (pure (.int 2147483647))))
  (retD (bin modD (bin modD (una intD (bin addD (bin mulD (getV 5) (pure (.int 16807))) (bin mulD (ixN_ 0 (pure (.int 2))) (pure (.int 9301))))) (pure (.int 998244353))) (getV 1)))))))
noncomputable def m_draw : MF := runB 6 2 1 b_draw
/-- the second half, the source ready -/
noncomputable def b_draw2 : M Fl := (seqD (ifD (tst (bin gtD (ixN_ 0 (pure (.int 1))) (pure (.int 0))))
  (seqD (setD 4 (bin modD (una intD (ixN_ 0 (pure (.int 1)))) (getV 1)))
  (seqD (stoN 0 (bin fdivD (ixN_ 0 (pure (.int 1))) (getV 1)) (pure (.int 1)))
  (retD (getV 4))))
  (pure .nx))
  (seqD (stoN 0 (bin subD (ixN_ 0 (pure (.int 3))) (pure (.int 1))) (pure (.int 3)))
  (seqD (setD 5 (bin modD (una intD (bin addD (bin addD (bin mulD (ixN_ 0 (pure (.int 2))) (pure (.int 48271))) (bin mulD (ixN_ 0 (pure (.int 3))) (pure (.int 69621)))) (pure (.int 12345)))) (pure (.int 2147483647))))
  (retD (bin modD (bin modD (una intD (bin addD (bin mulD (getV 5) (pure (.int 16807))) (bin mulD (ixN_ 0 (pure (.int 2))) (pure (.int 9301))))) (pure (.int 998244353))) (getV 1))))))
/-- it ends well, and so -/
def Rs.sat {α : Type} (r : Rs α) (P : α → En → Prop) : Prop := match r with
  | .ok a δ => P a δ
  | _ => False
@[simp] theorem sat_ok {α : Type} {a : α} {δ : En} {P : α → En → Prop} : (Rs.ok a δ).sat P ↔ P a δ := id Iff.rfl
theorem Rs.sat.elim' {α : Type} {r : Rs α} {P : α → En → Prop} (h : r.sat P) : ∃ a δ, r = .ok a δ ∧ P a δ := by
  cases r with
  | ok a δ => exact ⟨a, δ, rfl, h⟩
  | er x δ => exact h.elim
  | st => exact h.elim
theorem bits_lt {i : Int} {a : Nat} (h : i.natAbs < 2 ^ a) {j : Int} {b : Nat} (h2 : j.natAbs < 2 ^ b) (h3 : a + b ≤ 134217728) : (Builtin.Int.intBits i : Int) + (Builtin.Int.intBits j : Int) ≤ 134217728 := L2.mulx_ok h h2 h3
theorem draw2 {p : Nat} {q r s n : Int} {cells : List Int} {x2 x3 x4 x5 : Sl} (hq : 0 ≤ q) (hr : 0 ≤ r) (hr2 : r ≤ 2000000000000000000) (hs : 0 < q ∨ 0 < s) (hs0 : 0 ≤ s) (hs3 : s ≤ 3) (hn : 0 < n) (hn2 : n.natAbs.log2 < 9000) :
    (b_draw2 [.ow [.int p, .int q, .int r, .int s, .lst (cells.map D.int)], .va (.int n), x2, x3, x4, x5]).sat fun fl δ' => ∃ v q' s' y, fl = .rt (.int v) ∧ δ' = .ow [.int p, .int q', .int r, .int s', .lst (cells.map D.int)] :: y ∧ 0 ≤ v ∧ v < n ∧ 0 ≤ q' ∧ 0 ≤ s' ∧ s' ≤ 3 := by
  by_cases h : 0 < q
  · simp [b_draw2, peekV, peekSl, ixD, L2.atI, ixN, h, getV, r_mod hn, r_fdiv hn hn2, stoS, onOw, putO]
    exact ⟨_, _, ⟨rfl, rfl⟩, Int.emod_nonneg _ (by omega), Int.emod_lt_of_pos _ hn, Int.ediv_nonneg hq (by omega), hs0, hs3⟩
  · obtain rfl : q = 0 := by omega
    have hs : 0 < s := by omega
    have m1 := r_mul (bits_lt (i := r) (a := 62) (by omega) (j := 48271) (b := 20) (by decide) (by decide))
    have m2 := r_mul (bits_lt (i := s - 1) (a := 3) (by omega) (j := 69621) (b := 20) (by decide) (by decide))
    have m3 := r_mul (bits_lt (i := r) (a := 62) (by omega) (j := 9301) (b := 20) (by decide) (by decide))
    have m4 := fun i : Int => r_mul (i := i % 2147483647) (bits_lt (a := 31) (by omega) (j := 16807) (b := 20) (by decide) (by decide))
    simp [b_draw2, peekV, peekSl, ixD, L2.atI, ixN, getV, r_mod hn, r_mod (j := 2147483647) (by omega), r_mod (j := 998244353) (by omega), m1, m2, m3, m4, stoS, onOw, putO]
    exact ⟨_, _, ⟨rfl, rfl⟩, Int.emod_nonneg _ (by omega), Int.emod_lt_of_pos _ hn, by omega, by omega, by omega⟩
/-- the first part -/
noncomputable def b_draw1 : M Fl := (ifD (andT (tst (bin eqD (ixN_ 0 (pure (.int 1))) (pure (.int 0)))) (tst (bin eqD (ixN_ 0 (pure (.int 3))) (pure (.int 0)))))
  (seqD (ifD (tst (bin geD (ixN_ 0 (pure (.int 0))) (una lenD (ixN_ 0 (pure (.int 4))))))
  (retD (pure (.int 0)))
  (pure .nx))
  (seqD (setD 2 (ixE (ixN_ 0 (pure (.int 4))) (ixN_ 0 (pure (.int 0)))))
  (seqD (stoN 0 (bin addD (ixN_ 0 (pure (.int 0))) (pure (.int 1))) (pure (.int 0)))
  (seqD (setD 3 (bin mulD (pure (.int 2)) (getV 2)))
  (seqD (ifD (tst (bin ltD (getV 2) (pure (.int 0))))
  (setD 3 (bin subD (bin subD (pure (.int 0)) (bin mulD (pure (.int 2)) (getV 2))) (pure (.int 1))))
  (pure .nx))
  (ifD (tst (bin geD (una absD (getV 2)) (bin powD (pure (.int 10)) (pure (.int 18)))))
  (stoN 0 (getV 3) (pure (.int 1)))
  (seqD (stoN 0 (getV 3) (pure (.int 2)))
  (stoN 0 (pure (.int 3)) (pure (.int 3))))))))))
  (pure .nx))
theorem pow18 : powD (.int 10) (.int 18) = pure (.int 1000000000000000000) := r_pow (by omega) (by omega) (by decide)
theorem draw1 {p : Nat} {q r s n : Int} {cells : List Int} (hc : ∀ z ∈ cells, Builtin.Int.intBits z ≤ 1048576) (hq : 0 ≤ q) (hr : 0 ≤ r) (hr2 : r ≤ 2000000000000000000) (hs0 : 0 ≤ s) (hs3 : s ≤ 3) :
    (b_draw1 [.ow [.int p, .int q, .int r, .int s, .lst (cells.map D.int)], .va (.int n), .un, .un, .un, .un]).sat fun fl δ' => (fl = .rt (.int 0) ∧ q = 0 ∧ s = 0 ∧ δ' = [.ow [.int p, .int q, .int r, .int s, .lst (cells.map D.int)], .va (.int n), .un, .un, .un, .un]) ∨
      (fl = .nx ∧ ∃ (p' : Nat) (q' r' s' : Int) (x2 x3 : Sl), δ' = [.ow [.int p', .int q', .int r', .int s', .lst (cells.map D.int)], .va (.int n), x2, x3, .un, .un] ∧ 0 ≤ q' ∧ 0 ≤ r' ∧ r' ≤ 2000000000000000000 ∧ (0 < q' ∨ 0 < s') ∧ 0 ≤ s' ∧ s' ≤ 3) := by
  by_cases h : q = 0
  · subst h
    by_cases h2 : s = 0
    · subst h2
      by_cases h3 : (cells.length : Int) ≤ (p : Int)
      · simp [b_draw1, peekV, peekSl, ixD, L2.atI, ixN, getV, lenD, h3]
      · have hp : p < cells.length := by omega
        have mz : Builtin.Int.intBits (cells[p]) ≤ 1048576 := hc _ (List.getElem_mem hp)
        have m1 : mulD (.int 2) (.int cells[p]) = pure (.int (2 * cells[p])) := r_mul (by
          have e : Builtin.Int.intBits 2 = 2 := by decide
          rw [e]; omega)
        have hix : ixN cells.length (p : Int) = some p := by
          unfold ixN
          split <;> simp_all
        have hat : cells[p]? = some cells[p] := List.getElem?_eq_getElem hp
        generalize hz : cells[p] = z at *
        by_cases hneg : z < 0
        · by_cases hbig : 1000000000000000000 ≤ -z
          · simp [b_draw1, peekV, peekSl, ixD, L2.atI, hix, hat, ixN, getV, lenD, h3, hp, hz, m1, stoS, onOw, putO, pow18, hneg, hbig]
            refine ⟨p + 1, _, _, _, ⟨by omega, rfl, rfl, rfl⟩, ?_⟩
            omega
          · simp [b_draw1, peekV, peekSl, ixD, L2.atI, hix, hat, ixN, getV, lenD, h3, hp, hz, m1, stoS, onOw, putO, pow18, hneg, hbig]
            refine ⟨p + 1, _, _, _, ⟨by omega, rfl, rfl, rfl⟩, ?_⟩
            omega
        · by_cases hbig : 1000000000000000000 ≤ z
          · simp [b_draw1, peekV, peekSl, ixD, L2.atI, hix, hat, ixN, getV, lenD, h3, hp, hz, m1, stoS, onOw, putO, pow18, hneg, hbig]
            refine ⟨p + 1, _, _, _, ⟨by omega, rfl, rfl, rfl⟩, ?_⟩
            omega
          · simp [b_draw1, peekV, peekSl, ixD, L2.atI, hix, hat, ixN, getV, lenD, h3, hp, hz, m1, stoS, onOw, putO, pow18, hneg, hbig]
            refine ⟨p + 1, _, _, _, ⟨by omega, rfl, rfl, rfl⟩, ?_⟩
            omega
    · simp [b_draw1, peekV, peekSl, ixD, L2.atI, ixN, getV, lenD, h2]
      refine ⟨p, _, _, _, ⟨rfl, rfl, rfl, rfl⟩, ?_⟩
      omega
  · simp [b_draw1, peekV, peekSl, ixD, L2.atI, ixN, getV, lenD, h]
    refine ⟨p, _, _, _, ⟨rfl, rfl, rfl, rfl⟩, ?_⟩
    omega
theorem draw_ok {ds : List D} {n : Int} (h : SrcOk ds) (hn : 0 < n) (hn2 : n.natAbs.log2 < 9000 := by decide) : ∃ v ds', 0 ≤ v ∧ v < n ∧ SrcOk ds' ∧ m_draw [.ow ds, .va (.int n)] = .ok (.int v) [.ow ds'] := by
  obtain ⟨p, q, r, s, cells, rfl, hq, hr, hr2, hs, hs3, hc⟩ := h.ex
  have e0 : m_draw [.ow [.int p, .int q, .int r, .int s, .lst (cells.map D.int)], .va (.int n)] = finB 1 ((b_draw1 [.ow [.int p, .int q, .int r, .int s, .lst (cells.map D.int)], .va (.int n), .un, .un, .un, .un]).bd (thenS b_draw2)) := id rfl
  obtain ⟨fl, δ1, e1, c1⟩ := (draw1 (p := p) (n := n) hc hq hr hr2 hs hs3).elim'
  rw [e0, e1]
  rcases c1 with ⟨rfl, rfl, rfl, rfl⟩ | ⟨rfl, p', q', r', s', x2, x3, rfl, h1, h2, h3, h4, h5, h6⟩
  · exact ⟨0, _, by omega, hn, ⟨p, 0, r, 0, cells, rfl, by omega, hr, hr2, by omega, by omega, hc⟩, rfl⟩
  · obtain ⟨fl2, δ2, e2, v, q2, s2, y, rfl, rfl, g1, g2, g3, g4, g5⟩ := (draw2 (p := p') (cells := cells) (x2 := x2) (x3 := x3) (x4 := .un) (x5 := .un) h1 h2 h3 h4 h5 h6 hn hn2).elim'
    refine ⟨v, _, g1, g2, ⟨p', q2, r', s2, cells, rfl, g3, h2, h3, g4, g5, hc⟩, ?_⟩
    rw [bd_ok, thenS_nx, e2]
    rfl
/-! ### loops -/
theorem forD_nx {st : D → M Fl} {b : M Fl} {Inv : Nat → En → Prop} : ∀ {l : List D} {n : Nat} {δ : En}, (∀ (i : Nat) (d : D) (δ : En), l[i]? = some d → Inv (n + i) δ → ∃ δ', Inv (n + i + 1) δ' ∧ (st d >>= onlyS >>= thenS b) δ = .ok .nx δ') → Inv n δ → ∃ δ', Inv (n + l.length) δ' ∧ forD st b l δ = .ok .nx δ'
  | [], n, δ, _, h => ⟨δ, h, rfl⟩
  | d :: l, n, δ, f, h => by
    obtain ⟨δ1, h1, e1⟩ := f 0 d δ rfl h
    obtain ⟨δ2, h2, e2⟩ := forD_nx (st := st) (b := b) (Inv := Inv) (l := l) (n := n + 1) (δ := δ1) (fun i d δ hi hv => by
      have hv' : Inv (n + (i + 1)) δ := by rw [show n + (i + 1) = n + 1 + i by omega]; exact hv
      obtain ⟨δ', a, b⟩ := f (i + 1) d δ hi hv'
      exact ⟨δ', by rw [show n + 1 + i + 1 = n + (i + 1) + 1 by omega]; exact a, b⟩) h1
    refine ⟨δ2, by rw [List.length_cons, show n + (l.length + 1) = n + 1 + l.length by omega]; exact h2, ?_⟩
    show ((st d >>= onlyS) >>= thenS (b >>= turnS (forD st b l))) δ = _
    rw [run_bind, run_bind] at e1 ⊢
    cases q : st d δ with
    | ok a δ0 =>
      rw [q] at e1
      cases a with
      | nx =>
        have e1' : b δ0 = .ok .nx δ1 := e1
        show (b δ0).bd (turnS (forD st b l)) = _
        rw [e1']
        exact e2
      | _ => cases e1
    | er x δ0 => rw [q] at e1; cases e1
    | st => rw [q] at e1; cases e1
end DL
set_option maxHeartbeats 2000000
/-! DP2: _law_equal, comprehensions, calls of the source. -/
namespace DL
open PySem PySem.Spec PyProof.Rows L2
/-! ### comprehensions -/
theorem lcLoop_run {j : Nat} {me : M D} {f : D → D} {δ : En} : ∀ {ds acc : List D}, (∀ d ∈ ds, me (δ.set j (.va d)) = .ok (f d) (δ.set j (.va d))) → acc.length + ds.length ≤ 1000000 → lcLoop j (pure true) me ds acc (δ.set j .un) = .ok (acc ++ ds.map f) (δ.set j .un)
  | [], acc, _, _ => by show Rs.ok acc _ = _; rw [List.map_nil, List.append_nil]
  | d :: ds, acc, h, hz => by
    have e1 : (δ.set j .un).set j (.va d) = δ.set j (.va d) := List.set_set ..
    have e2 : (δ.set j (.va d)).set j .un = δ.set j .un := List.set_set ..
    unfold lcLoop
    rw [e1]
    have et : (pure true : M Bool) (δ.set j (.va d)) = .ok true (δ.set j (.va d)) := rfl
    rw [et]
    simp only [h d (List.mem_cons_self ..)]
    have hz1 : szOk acc.length = true := decide_eq_true (by rw [List.length_cons] at hz; omega)
    rw [if_pos hz1, e2, lcLoop_run (fun e m => h e (List.mem_cons_of_mem _ m)) (by rw [List.length_append, List.length_cons, List.length_nil]; rw [List.length_cons] at hz; omega), List.map_cons, List.append_assoc]
    rfl
theorem lc_run {j : Nat} {me : M D} {f : D → D} {δ : En} {s : Sl} {ds : List D} (hs : δ[j]? = some s) (hz : ds.length ≤ 1000000) (h : ∀ d ∈ ds, me (δ.set j (.va d)) = .ok (f d) (δ.set j (.va d))) : lcRun j (pure true) me ds δ = .ok (ds.map f) δ := by
  unfold lcRun
  rw [hs]
  show lcEnd j s (lcLoop j (pure true) me ds [] (δ.set j .un)) = _
  rw [lcLoop_run h (by rw [List.length_nil]; omega)]
  show Rs.ok ([] ++ ds.map f) ((δ.set j .un).set j s) = _
  rw [List.set_set, List.nil_append]
  congr 1
  have hj := (List.getElem?_eq_some_iff.mp hs)
  obtain ⟨hl, he⟩ := hj
  rw [← he]
  exact List.set_getElem_self hl
@[simp] theorem run_lcM {j : Nat} {mi : M (List D)} {tt : M Bool} {me : M D} {δ : En} : lcM j mi tt me δ = (mi δ).bd (lcRun j tt me) := id rfl
@[simp] theorem run_frz {m : M (List D)} {δ : En} : frzD m δ = (m δ).bd fun ds => pure (.lst ds) := id rfl
@[simp] theorem run_overL {m : M D} {δ : En} : overL m δ = (m δ).bd itemsL := id rfl
@[simp] theorem run_overN {m : M D} {δ : En} : overN m δ = (m δ).bd rng1 := id rfl
@[simp] theorem run_overT {m : M D} {δ : En} : overT m δ = (m δ).bd itemsT := id rfl
@[simp] theorem run_forM {st : D → M Fl} {b : M Fl} {mi : M (List D)} {δ : En} : forM' st b mi δ = (mi δ).bd (forD st b) := id rfl
theorem run_rng {j : Int} (h : lim62 j = true) : rng1 (.int j) = pure (rngD 0 1 j.toNat) := by
  show guardM _ _ = _
  rw [h]; exact id rfl
theorem lim_nat {n : Nat} (h : n ≤ 1000000) : lim62 (n : Int) = true := by
  unfold lim62
  rw [decide_eq_true (by omega), decide_eq_true (by omega)]; rfl
theorem rngD_at {n i : Nat} {d : D} (h : (rngD 0 1 n)[i]? = some d) : i < n ∧ d = .int i := by
  unfold rngD at h
  rw [List.getElem?_map] at h
  by_cases q : i < n
  · rw [List.getElem?_range q] at h
    simp at h
    exact ⟨q, h.symm⟩
  · rw [List.getElem?_eq_none (by simpa using q)] at h
    cases h
@[simp] theorem run_tupD {a : M (List D)} {δ : En} : tupD a δ = (a δ).bd fun ds => guardM (szOk ds.length) (pure (.tup ds)) := id rfl
@[simp] theorem run_lstD {a : M (List D)} {δ : En} : lstD a δ = (a δ).bd fun ds => guardM (szOk ds.length) (pure (.lst ds)) := id rfl
@[simp] theorem run_dispF {a : M (List D)} {δ : En} : dispF a δ = (a δ).bd fun ds => guardM (szOk ds.length) (pure ds) := id rfl
@[simp] theorem run_appN {i : Nat} {m : M D} {δ : En} : appN i m δ = (peekV i δ).bd fun d => itemsL d >>= fun _ => m >>= pushS i := id rfl
/-! ### _law_equal -/
def tags6 : List Tg := [.ty "NoneType", .ty "bool", .ty "int", .ty "str", .ty "list", .ty "tuple"]
noncomputable def b_equal (tags : List Tg) (self : MF) : M Fl := (seqD (ifD (tst (bin isNonD (getV 1) (pure .non)))
  (retD (bin isNonD (getV 0) (pure .non)))
  (pure .nx))
  (seqD (ifD (tst (una (isiD tags (.ty "bool")) (peekV 1)))
  (retD (andV (una (isiD tags (.ty "bool")) (peekV 0)) (bin eqD (getV 0) (getV 1))))
  (pure .nx))
  (seqD (ifD (tst (una (isiD tags (.ty "int")) (peekV 1)))
  (retD (andV (una (isiD tags (.ty "int")) (peekV 0)) (andV (notV (una (isiD tags (.ty "bool")) (peekV 0))) (bin eqD (getV 0) (getV 1)))))
  (pure .nx))
  (seqD (ifD (tst (una (isiD tags (.ty "str")) (peekV 1)))
  (retD (andV (una (isiD tags (.ty "str")) (peekV 0)) (bin eqD (getV 0) (getV 1))))
  (pure .nx))
  (seqD (ifD (tst (bin neD (una (isiD tags (.ty "list")) (peekV 1)) (una (isiD tags (.ty "list")) (peekV 0))))
  (retD (pure (.bl false)))
  (pure .nx))
  (seqD (ifD (tst (bin neD (una (isiD tags (.ty "tuple")) (peekV 1)) (una (isiD tags (.ty "tuple")) (peekV 0))))
  (retD (pure (.bl false)))
  (pure .nx))
  (seqD (ifD (andT (notT (tst (una (isiD tags (.ty "list")) (peekV 1)))) (notT (tst (una (isiD tags (.ty "tuple")) (peekV 1)))))
  (retD (pure (.bl false)))
  (pure .nx))
  (seqD (ifD (tst (bin neD (una lenD (peekV 0)) (una lenD (peekV 1))))
  (retD (pure (.bl false)))
  (pure .nx))
  (seqD (forM' (setV 2)
  (ifD (notT (tst (callV self (consA (ixN_ 0 (getV 2)) (consA (ixN_ 1 (getV 2)) nilA)))))
  (retD (pure (.bl false)))
  (pure .nx)) (overN (una lenD (peekV 1))))
  (retD (pure (.bl true))))))))))))
noncomputable def mr_equal (tags : List Tg) : Nat → MF := recM fun self => runB 3 2 0 (b_equal tags self)
/-- data that _law_equal takes, nested below n -/
def plainE : Nat → D → Bool
  | 0, _ => false
  | n + 1, d => match d with
    | .non => true
    | .bl _ => true
    | .int _ => true
    | .str _ => true
    | .lst ds => decide (ds.length ≤ 1000000) && ds.all (plainE n)
    | .tup ds => decide (ds.length ≤ 1000000) && ds.all (plainE n)
    | _ => false
def litD : D → Bool
  | .lst _ => true
  | .tup _ => true
  | _ => false
theorem run_isi {tags : List Tg} {c t : Tg} {d : D} {δ : En} (hd : tgD d = some t) (ht : t ∈ tags) : isiD tags c d δ = .ok (.bl (isTg t c)) δ := by
  unfold isiD
  rw [hd]
  show guardM (decide (t ∈ tags)) _ δ = _
  rw [decide_eq_true ht]; exact id rfl
theorem atI_nat {α : Type} {ds : List α} {i : Nat} {x : α} (h : i < ds.length) : L2.atI ds (i : Int) = some ((ds[i]?.getD x)) := by
  unfold L2.atI ixN
  have : (i : Int) < ds.length := by omega
  simp [h]
theorem ixD_lst {ds : List D} {i : Nat} (h : i < ds.length) : ixD (.lst ds) (.int i) = pure ((ds[i]?.getD .non)) := by
  simp only [ixD, atI_nat (x := D.non) h]
theorem ixD_tup {ds : List D} {i : Nat} (h : i < ds.length) : ixD (.tup ds) (.int i) = pure ((ds[i]?.getD .non)) := by
  simp only [ixD, atI_nat (x := D.non) h]
theorem equal_seq {tags : List Tg} {self : MF} {ds : List D} {d : D} {t : Tg} (ht : ∀ t ∈ tags6, t ∈ tags) (hd : (d = .lst ds ∧ t = .ty "list") ∨ (d = .tup ds ∧ t = .ty "tuple")) (hl : ds.length ≤ 1000000) (hs : ∀ e ∈ ds, self [.va e, .va e] = .ok (.bl true) []) :
    b_equal tags self [.va d, .va d, .un] = .ok (.rt (.bl true)) [.va d, .va d, .un] ∨ ∃ x, b_equal tags self [.va d, .va d, .un] = .ok (.rt (.bl true)) [.va d, .va d, x] := by
  have htg : tgD d = some t := by rcases hd with ⟨rfl, rfl⟩ | ⟨rfl, rfl⟩ <;> rfl
  have hmem : t ∈ tags := ht t (by rcases hd with ⟨rfl, rfl⟩ | ⟨rfl, rfl⟩ <;> simp [tags6])
  have hi : ∀ (c : Tg) (δ : En), isiD tags c d δ = .ok (.bl (isTg t c)) δ := fun c δ => run_isi htg hmem
  have hlen : lenD d = pure (.int ds.length) := by rcases hd with ⟨rfl, rfl⟩ | ⟨rfl, rfl⟩ <;> rfl
  have hnon : isNonD d .non = pure (.bl false) := by rcases hd with ⟨rfl, rfl⟩ | ⟨rfl, rfl⟩ <;> rfl
  have k1 : isTg t (.ty "bool") = false := by rcases hd with ⟨rfl, rfl⟩ | ⟨rfl, rfl⟩ <;> decide
  have k2 : isTg t (.ty "int") = false := by rcases hd with ⟨rfl, rfl⟩ | ⟨rfl, rfl⟩ <;> decide
  have k3 : isTg t (.ty "str") = false := by rcases hd with ⟨rfl, rfl⟩ | ⟨rfl, rfl⟩ <;> decide
  have k4 : (isTg t (.ty "list") || isTg t (.ty "tuple")) = true := by rcases hd with ⟨rfl, rfl⟩ | ⟨rfl, rfl⟩ <;> decide
  have hne : ∀ b : Bool, eqG true (.bl b) (.bl b) = pure (.bl false) := fun b => by cases b <;> rfl
  have hix : ∀ (i : Nat), i < ds.length → ixD d (.int i) = pure ((ds[i]?.getD .non)) := fun i h => by rcases hd with ⟨rfl, rfl⟩ | ⟨rfl, rfl⟩ <;> first | exact ixD_lst h | exact ixD_tup h
  have loop : ∃ δ', (∃ x, δ' = [.va d, .va d, x]) ∧ forD (setV 2) (ifD (notT (tst (callV self (consA (ixN_ 0 (getV 2)) (consA (ixN_ 1 (getV 2)) nilA))))) (retD (pure (.bl false))) (pure .nx)) (rngD 0 1 ds.length) [.va d, .va d, .un] = .ok .nx δ' := by
    refine forD_nx (Inv := fun _ δ => ∃ x, δ = [.va d, .va d, x]) (n := 0) (fun i e δ hi hv => ?_) ⟨_, rfl⟩
    obtain ⟨x, rfl⟩ := hv
    obtain ⟨hj, rfl⟩ := rngD_at hi
    refine ⟨[.va d, .va d, .va (.int i)], ⟨_, rfl⟩, ?_⟩
    have hself := hs ((ds[i]?.getD .non)) (by rw [List.getElem?_eq_getElem hj]; exact List.getElem_mem hj)
    simp [peekV, peekSl, getV, hix i hj, appV, vas, hself, outV]
  obtain ⟨δ', ⟨x, rfl⟩, e⟩ := loop
  right
  refine ⟨x, ?_⟩
  cases h4 : isTg t (.ty "list") <;> rw [h4] at k4
  · have h5 : isTg t (.ty "tuple") = true := by simpa using k4
    simp [b_equal, peekV, peekSl, getV, hnon, hi, k1, k2, k3, h4, h5, hne, hlen, run_rng (lim_nat hl), e]
  · simp [b_equal, peekV, peekSl, getV, hnon, hi, k1, k2, k3, h4, hne, hlen, run_rng (lim_nat hl), e]
theorem equal_refl {tags : List Tg} (ht : ∀ t ∈ tags6, t ∈ tags) : ∀ {n : Nat} {d : D}, plainE n d = true → mr_equal tags n [.va d, .va d] = .ok (.bl true) []
  | 0, _, h => by cases h
  | n + 1, d, h => by
    have e0 : mr_equal tags (n + 1) [.va d, .va d] = finB 0 (b_equal tags (mr_equal tags n) [.va d, .va d, .un]) := id rfl
    have sq : ∀ (ds : List D) (t : Tg), ((d = .lst ds ∧ t = .ty "list") ∨ (d = .tup ds ∧ t = .ty "tuple")) → (decide (ds.length ≤ 1000000) && ds.all (plainE n)) = true → mr_equal tags (n + 1) [.va d, .va d] = .ok (.bl true) [] := fun ds t hd h => by
      rw [Bool.and_eq_true] at h
      have hs : ∀ e ∈ ds, mr_equal tags n [.va e, .va e] = .ok (.bl true) [] := fun e m => equal_refl ht (List.all_eq_true.mp h.2 e m)
      rw [e0]
      rcases equal_seq ht hd (of_decide_eq_true h.1) hs with e | ⟨x, e⟩ <;> (rw [e]; exact id rfl)
    have m1 : Tg.ty "bool" ∈ tags := ht _ (by simp [tags6])
    have m2 : Tg.ty "int" ∈ tags := ht _ (by simp [tags6])
    have m3 : Tg.ty "str" ∈ tags := ht _ (by simp [tags6])
    cases d with
    | lst ds => exact sq ds _ (.inl ⟨rfl, rfl⟩) h
    | tup ds => exact sq ds _ (.inr ⟨rfl, rfl⟩) h
    | non =>
      rw [e0]
      simp [b_equal, getV, isNonD, finB]
    | bl b =>
      rw [e0]
      simp [b_equal, getV, peekV, peekSl, isNonD, finB, run_isi (d := .bl b) rfl m1, isTg, eqG, scalD]
    | int i =>
      rw [e0]
      simp [b_equal, getV, peekV, peekSl, isNonD, finB, run_isi (d := .int i) rfl m2, isTg, eqG, scalD, notV]
    | str x =>
      rw [e0]
      simp [b_equal, getV, peekV, peekSl, isNonD, finB, run_isi (d := .str x) rfl m3, isTg, eqG, scalD]
    | _ => cases h
/-! ### calls -/
theorem call_draw {ds ds' : List D} {δ : En} {i : Nat} {n v : Int} (hs : δ[i]? = some (.ow ds)) (e : m_draw [.ow ds, .va (.int n)] = .ok (.int v) [.ow ds']) : appO m_draw i [.int n] δ = .ok (.int v) (δ.set i (.ow ds')) := by
  unfold appO
  rw [hs]
  show outO i (m_draw [.ow ds, .va (.int n)]) δ = _
  rw [e]; exact id rfl
end DL
set_option maxHeartbeats 2000000
namespace G
open PySem PySem.Spec PyProof.Rows L2 DL
def top (i : Nat) : Stmt := PySem.Challenge.pw_lostinrows_k88_circuits_refused.main.body.getD i (.Pass ⟨0, 0, 0, 0⟩)
def clsB : Stmt → List Stmt
  | .ClassDef (body := b) .. => b
  | _ => []
def sub (i j : Nat) : Stmt := (clsB (top i)).getD j (.Pass ⟨0, 0, 0, 0⟩)
/-- the exceptions of the text -/
abbrev excs : List Str := ["BadCount", "BadStep", "NoPart", "NoStep", "NotANumber", "StepFailed", "TooLarge"]
def xtab (C c : Str) : Option Bool := if c ∈ excs then some (decide (c = C)) else none
def etab (C c : Str) : Option Bool := if c ∈ excs then some (decide (c = C) || decide (C = "LostError")) else none
abbrev tags : List Tg := [.ty "NoneType", .ty "bool", .ty "int", .ty "str", .ty "list", .ty "tuple", .own "Gate", .own "Circuit"]
structure Hd (P : Program) (w : World) (K : PySem.W.Frag) (mg : Str → Option Value) (base : Heap) : Prop where
  f_Gate_operation : FldF K ["Gate"] "operation"
  f_Gate_left : FldF K ["Gate"] "left"
  f_Gate_right : FldF K ["Gate"] "right"
  f_Gate_mode : FldF K ["Gate"] "mode"
  d_Gate_D__init_D_ : ∃ fd, FunD K "__init__" "Gate.__init__" (defArgs (sub 16 0)) (defBody (sub 16 0)) (defScope (sub 16 0)) [.str "nearest-even"] [] (He.ma K (ga K "Gate") "__init__") fd
  g_Gate : mg "Gate" = some (.ref (ga K "Gate"))
  is_Gate : IsiF K tags (.own "Gate")
  n_isinstance : mg "isinstance" = none
  d_Gate_D__eq_D_ : ∃ fd, FunD K "__eq__" "Gate.__eq__" (defArgs (sub 16 1)) (defBody (sub 16 1)) (defScope (sub 16 1)) [] [] (He.ma K (ga K "Gate") "__eq__") fd
  d_other_register : ∃ fd, FunD K "other_register" "other_register" (defArgs (top 19)) (defBody (top 19)) (defScope (top 19)) [] [] (ga K "other_register") fd
  c_OPERATIONS : GlobD K mg "OPERATIONS" (.tup [(.str "+"), (.str "-"), (.str "*"), (.str "<<")])
  c_MOST_SHIFT : GlobD K mg "MOST_SHIFT" (.int 200)
  c_MODES : GlobD K mg "MODES" (.tup [(.str "nearest-even"), (.str "nearest-out"), (.str "nearest-in"), (.str "nearest-up"), (.str "nearest-down"), (.str "inward"), (.str "outward"), (.str "upward"), (.str "downward")])
  d_bad_part : ∃ fd, FunD K "bad_part" "bad_part" (defArgs (top 18)) (defBody (top 18)) (defScope (top 18)) [] [] (ga K "bad_part") fd
  n_len : mg "len" = none
  cc_Circuit_MOST : ConF K "Circuit" "MOST" (.int 24)
  g_Circuit : mg "Circuit" = some (.ref (ga K "Circuit"))
  x_BadCount : LostM P w K mg "BadCount" ["count"]
  g_bad_part : mg "bad_part" = some (.ref (ga K "bad_part"))
  k_bad_part : PySem.W.keepIn K (.ref (ga K "bad_part")) = true
  x_BadStep : LostM P w K mg "BadStep" ["number", "part"]
  n_list : mg "list" = none
  f_Circuit_gates : FldF K ["Circuit"] "gates"
  d_Circuit_D__init_D_ : ∃ fd, FunD K "__init__" "Circuit.__init__" (defArgs (sub 17 1)) (defBody (sub 17 1)) (defScope (sub 17 1)) [] [] (He.ma K (ga K "Circuit") "__init__") fd
  d_Circuit_D__len_D_ : ∃ fd, FunD K "__len__" "Circuit.__len__" (defArgs (sub 17 2)) (defBody (sub 17 2)) (defScope (sub 17 2)) [] [] (He.ma K (ga K "Circuit") "__len__") fd
  d_Circuit_D__iter_D_ : ∃ fd, FunD K "__iter__" "Circuit.__iter__" (defArgs (sub 17 3)) (defBody (sub 17 3)) (defScope (sub 17 3)) [] [] (He.ma K (ga K "Circuit") "__iter__") fd
  n_iter : mg "iter" = none
  x_NoStep : LostM P w K mg "NoStep" ["number"]
  d_Circuit_D__getitem_D_ : ∃ fd, FunD K "__getitem__" "Circuit.__getitem__" (defArgs (sub 17 4)) (defBody (sub 17 4)) (defScope (sub 17 4)) [] [] (He.ma K (ga K "Circuit") "__getitem__") fd
  mk_Circuit : Mk K (ga K "Circuit") (He.ma K (ga K "Circuit") "__init__")
  d_Circuit_D__add_D_ : ∃ fd, FunD K "__add__" "Circuit.__add__" (defArgs (sub 17 5)) (defBody (sub 17 5)) (defScope (sub 17 5)) [] [] (He.ma K (ga K "Circuit") "__add__") fd
  is_Circuit : IsiF K tags (.own "Circuit")
  me_Gate__D_eq_D_ : Meth K (ga K "Gate") "__eq__" (He.ma K (ga K "Gate") "__eq__")
  d_Circuit_D__eq_D_ : ∃ fd, FunD K "__eq__" "Circuit.__eq__" (defArgs (sub 17 6)) (defBody (sub 17 6)) (defScope (sub 17 6)) [] [] (He.ma K (ga K "Circuit") "__eq__") fd
  g_other_register : mg "other_register" = some (.ref (ga K "other_register"))
  k_other_register : PySem.W.keepIn K (.ref (ga K "other_register")) = true
  mk_Gate : Mk K (ga K "Gate") (He.ma K (ga K "Gate") "__init__")
  d_Circuit_swapped : ∃ fd, FunD K "swapped" "Circuit.swapped" (defArgs (sub 17 12)) (defBody (sub 17 12)) (defScope (sub 17 12)) [] [] (He.ma K (ga K "Circuit") "swapped") fd
  d_Circuit_with_mode : ∃ fd, FunD K "with_mode" "Circuit.with_mode" (defArgs (sub 17 13)) (defBody (sub 17 13)) (defScope (sub 17 13)) [] [] (He.ma K (ga K "Circuit") "with_mode") fd
  x_NoPart : LostM P w K mg "NoPart" ["index"]
  n_range : mg "range" = none
  d_chained : ∃ fd, FunD K "chained" "chained" (defArgs (top 22)) (defBody (top 22)) (defScope (top 22)) [] [] (ga K "chained") fd
  n_int : mg "int" = none
  d__law_source : ∃ fd, FunD K "_law_source" "_law_source" (defArgs (top 24)) (defBody (top 24)) (defScope (top 24)) [] [] (ga K "_law_source") fd
  n_abs : mg "abs" = none
  d__law_draw : ∃ fd, FunD K "_law_draw" "_law_draw" (defArgs (top 25)) (defBody (top 25)) (defScope (top 25)) [] [] (ga K "_law_draw") fd
  d__law_modes : ∃ fd, FunD K "_law_modes" "_law_modes" (defArgs (top 26)) (defBody (top 26)) (defScope (top 26)) [] [] (ga K "_law_modes") fd
  g__law_draw : mg "_law_draw" = some (.ref (ga K "_law_draw"))
  k__law_draw : PySem.W.keepIn K (.ref (ga K "_law_draw")) = true
  g__law_modes : mg "_law_modes" = some (.ref (ga K "_law_modes"))
  k__law_modes : PySem.W.keepIn K (.ref (ga K "_law_modes")) = true
  d__law_mode : ∃ fd, FunD K "_law_mode" "_law_mode" (defArgs (top 27)) (defBody (top 27)) (defScope (top 27)) [] [] (ga K "_law_mode") fd
  n_bool : mg "bool" = none
  is_bool : IsiF K tags (.ty "bool")
  is_int : IsiF K tags (.ty "int")
  n_str : mg "str" = none
  is_str : IsiF K tags (.ty "str")
  is_list : IsiF K tags (.ty "list")
  n_tuple : mg "tuple" = none
  is_tuple : IsiF K tags (.ty "tuple")
  g__law_equal : mg "_law_equal" = some (.ref (ga K "_law_equal"))
  k__law_equal : PySem.W.keepIn K (.ref (ga K "_law_equal")) = true
  d__law_equal : ∃ fd, FunD K "_law_equal" "_law_equal" (defArgs (top 28)) (defBody (top 28)) (defScope (top 28)) [] [] (ga K "_law_equal") fd
  g__law_mode : mg "_law_mode" = some (.ref (ga K "_law_mode"))
  k__law_mode : PySem.W.keepIn K (.ref (ga K "_law_mode")) = true
  d__law_bad_mode : ∃ fd, FunD K "_law_bad_mode" "_law_bad_mode" (defArgs (top 29)) (defBody (top 29)) (defScope (top 29)) [] [] (ga K "_law_bad_mode") fd
  xi_BadCount : XisF K (xtab "BadCount") "BadCount"
  g_BadCount : mg "BadCount" = some (.ref (ga K "BadCount"))
  xi_BadStep : XisF K (xtab "BadStep") "BadStep"
  g_BadStep : mg "BadStep" = some (.ref (ga K "BadStep"))
  xi_NoPart : XisF K (xtab "NoPart") "NoPart"
  g_NoPart : mg "NoPart" = some (.ref (ga K "NoPart"))
  xi_NoStep : XisF K (xtab "NoStep") "NoStep"
  g_NoStep : mg "NoStep" = some (.ref (ga K "NoStep"))
  xf_count : XfF K ["BadCount"] "count"
  xf_number : XfF K ["BadStep", "NoStep", "StepFailed"] "number"
  xf_part : XfF K ["BadStep"] "part"
  xf_index : XfF K ["NoPart"] "index"
  d__law_error : ∃ fd, FunD K "_law_error" "_law_error" (defArgs (top 30)) (defBody (top 30)) (defScope (top 30)) [] [] (ga K "_law_error") fd
  me_Circuit__D_add_D_ : Meth K (ga K "Circuit") "__add__" (He.ma K (ga K "Circuit") "__add__")
  sf_Circuit : PySem.W.selfFirst K (ga K "Circuit") = true
  nn_Gate_add : NoNum K (ga K "Gate") "add"
  ne_Gate_Circuit : ga K "Gate" ≠ ga K "Circuit"
  d__law_built : ∃ fd, FunD K "_law_built" "_law_built" (defArgs (top 31)) (defBody (top 31)) (defScope (top 31)) [] [] (ga K "_law_built") fd
  d__law_gates : ∃ fd, FunD K "_law_gates" "_law_gates" (defArgs (top 32)) (defBody (top 32)) (defScope (top 32)) [] [] (ga K "_law_gates") fd
  me_Circuit__D_iter_D_ : Meth K (ga K "Circuit") "__iter__" (He.ma K (ga K "Circuit") "__iter__")
  d__law_rows_of : ∃ fd, FunD K "_law_rows_of" "_law_rows_of" (defArgs (top 33)) (defBody (top 33)) (defScope (top 33)) [] [] (ga K "_law_rows_of") fd
  em_LostError : ExmF K (etab "LostError") "LostError"
  me_Circuit__D_getitem_D_ : Meth K (ga K "Circuit") "__getitem__" (He.ma K (ga K "Circuit") "__getitem__")
  fi_Circuit_D__getitem_D_ : PySem.W.fnIn K (He.ma K (ga K "Circuit") "__getitem__") = true
  g_chained : mg "chained" = some (.ref (ga K "chained"))
  k_chained : PySem.W.keepIn K (.ref (ga K "chained")) = true
  g_LostError : mg "LostError" = some (.ref (ga K "LostError"))
  g__law_error : mg "_law_error" = some (.ref (ga K "_law_error"))
  k__law_error : PySem.W.keepIn K (.ref (ga K "_law_error")) = true
  d__law_refused : ∃ fd, FunD K "_law_refused" "_law_refused" (defArgs (top 34)) (defBody (top 34)) (defScope (top 34)) [] [] (ga K "_law_refused") fd
  g__law_bad_mode : mg "_law_bad_mode" = some (.ref (ga K "_law_bad_mode"))
  k__law_bad_mode : PySem.W.keepIn K (.ref (ga K "_law_bad_mode")) = true
  d__law_bad_gate : ∃ fd, FunD K "_law_bad_gate" "_law_bad_gate" (defArgs (top 35)) (defBody (top 35)) (defScope (top 35)) [] [] (ga K "_law_bad_gate") fd
  d__law_turned : ∃ fd, FunD K "_law_turned" "_law_turned" (defArgs (top 36)) (defBody (top 36)) (defScope (top 36)) [] [] (ga K "_law_turned") fd
  g__law_built : mg "_law_built" = some (.ref (ga K "_law_built"))
  k__law_built : PySem.W.keepIn K (.ref (ga K "_law_built")) = true
  g__law_refused : mg "_law_refused" = some (.ref (ga K "_law_refused"))
  k__law_refused : PySem.W.keepIn K (.ref (ga K "_law_refused")) = true
  g__law_rows_of : mg "_law_rows_of" = some (.ref (ga K "_law_rows_of"))
  k__law_rows_of : PySem.W.keepIn K (.ref (ga K "_law_rows_of")) = true
  g__law_turned : mg "_law_turned" = some (.ref (ga K "_law_turned"))
  k__law_turned : PySem.W.keepIn K (.ref (ga K "_law_turned")) = true
  d__law_chained_right : ∃ fd, FunD K "_law_chained_right" "_law_chained_right" (defArgs (top 37)) (defBody (top 37)) (defScope (top 37)) [] [] (ga K "_law_chained_right") fd
  d__law_exchanged : ∃ fd, FunD K "_law_exchanged" "_law_exchanged" (defArgs (top 38)) (defBody (top 38)) (defScope (top 38)) [] [] (ga K "_law_exchanged") fd
  g__law_source : mg "_law_source" = some (.ref (ga K "_law_source"))
  k__law_source : PySem.W.keepIn K (.ref (ga K "_law_source")) = true
  g__law_gates : mg "_law_gates" = some (.ref (ga K "_law_gates"))
  k__law_gates : PySem.W.keepIn K (.ref (ga K "_law_gates")) = true
  me_Circuit__D_len_D_ : Meth K (ga K "Circuit") "__len__" (He.ma K (ga K "Circuit") "__len__")
  me_Circuit__D_eq_D_ : Meth K (ga K "Circuit") "__eq__" (He.ma K (ga K "Circuit") "__eq__")
  me_Circuit_with_mode : Meth K (ga K "Circuit") "with_mode" (He.ma K (ga K "Circuit") "with_mode")
  cl_Circuit : Cls K (ga K "Circuit")
  me_Circuit_swapped : Meth K (ga K "Circuit") "swapped" (He.ma K (ga K "Circuit") "swapped")
  g__law_exchanged : mg "_law_exchanged" = some (.ref (ga K "_law_exchanged"))
  k__law_exchanged : PySem.W.keepIn K (.ref (ga K "_law_exchanged")) = true
  g__law_bad_gate : mg "_law_bad_gate" = some (.ref (ga K "_law_bad_gate"))
  k__law_bad_gate : PySem.W.keepIn K (.ref (ga K "_law_bad_gate")) = true
  nq_Circuit : neB K (ga K "Circuit") (He.ma K (ga K "Circuit") "__eq__") = true
  g__law_chained_right : mg "_law_chained_right" = some (.ref (ga K "_law_chained_right"))
  k__law_chained_right : PySem.W.keepIn K (.ref (ga K "_law_chained_right")) = true
  d_law : ∃ fd, FunD K "law" "law" (defArgs (top 39)) (defBody (top 39)) (defScope (top 39)) [] [] (ga K "law") fd
/-! ### Gate.__init__ -/
noncomputable def b_Gate_D__init_D_ : M Fl := (seqD (sfD 0 "Gate" "operation" (getV 1))
  (seqD (sfD 0 "Gate" "left" (getV 2))
  (seqD (sfD 0 "Gate" "right" (getV 3))
  (sfD 0 "Gate" "mode" (getV 4)))))
noncomputable def m_Gate_D__init_D_ : MF := runB 5 5 1 b_Gate_D__init_D_
theorem sc_Gate_D__init_D_ : FnScope ["self", "operation", "left", "right", "mode"] ["self", "operation", "left", "right", "mode"] (defScope (sub 16 0)) := ⟨rfl, rfl, rfl, by decide +kernel, rfl, by decide +kernel, by decide +kernel⟩
theorem o_Gate_D__init_D_ {P : Program} {w : World} {K : PySem.W.Frag} {mg : Str → Option Value} {base : Heap} (Z : Hd P w K mg base) : ∃ fd, FunD K "__init__" "Gate.__init__" (defArgs (sub 16 0)) (defBody (sub 16 0)) (defScope (sub 16 0)) [.str "nearest-even"] [] (He.ma K (ga K "Gate") "__init__") fd ∧ FnOk P w K mg base (L2.CX P w) 1 (He.ma K (ga K "Gate") "__init__") fd ["self", "operation", "left", "right", "mode"] (spD K m_Gate_D__init_D_) := by
  obtain ⟨fd, F⟩ := Z.d_Gate_D__init_D_
  exact ⟨fd, F, fn_def F sc_Gate_D__init_D_ (by decide) (fun cdv A outer s H E c => (ds_cons (ds_sf 0 Z.f_Gate_operation (d_v 1))
  (ds_cons (ds_sf 0 Z.f_Gate_left (d_v 2))
  (ds_cons (ds_sf 0 Z.f_Gate_right (d_v 3))
  (ds_one (ds_sf 0 Z.f_Gate_mode (d_v 4)))))))⟩
theorem h_Gate_D__init_D_ {P : Program} {w : World} {K : PySem.W.Frag} {mg : Str → Option Value} {base : Heap} (Z : Hd P w K mg base) : FnG P w K mg base 1 (He.ma K (ga K "Gate") "__init__") m_Gate_D__init_D_ := by
  obtain ⟨fd, F, H⟩ := o_Gate_D__init_D_ Z
  obtain ⟨ds, hd, hb⟩ := F.binds1 (ps := ["self", "operation", "left", "right", "mode"]) 5 1 (by decide) rfl (fun T _ _ _ _ _ _ us its hl hi => match us, hl, its, hi with | [_, _, _, _, _], _, [_], _ => ⟨_, rfl, rfl⟩)
  cases hd
  exact fn_pos H hb
/-! ### Gate.__eq__ -/
noncomputable def b_Gate_D__eq_D_ : M Fl := (seqD (ifD (notT (tst (una (isiD tags (.own "Gate")) (peekV 1))))
  (retD (pure (.bl false)))
  (pure .nx))
  (seqD (ifD (orT (tst (bin neD (una (fldD ["Gate"] "operation") (peekV 0)) (una (fldD ["Gate"] "operation") (peekV 1)))) (tst (bin neD (una (fldD ["Gate"] "mode") (peekV 0)) (una (fldD ["Gate"] "mode") (peekV 1)))))
  (retD (pure (.bl false)))
  (pure .nx))
  (retD (andV (bin eqD (una (fldD ["Gate"] "left") (peekV 0)) (una (fldD ["Gate"] "left") (peekV 1))) (bin eqD (una (fldD ["Gate"] "right") (peekV 0)) (una (fldD ["Gate"] "right") (peekV 1)))))))
noncomputable def m_Gate_D__eq_D_ : MF := runB 2 2 0 b_Gate_D__eq_D_
theorem sc_Gate_D__eq_D_ : FnScope ["self", "other"] ["self", "other"] (defScope (sub 16 1)) := ⟨rfl, rfl, rfl, by decide +kernel, rfl, by decide +kernel, by decide +kernel⟩
theorem o_Gate_D__eq_D_ {P : Program} {w : World} {K : PySem.W.Frag} {mg : Str → Option Value} {base : Heap} (Z : Hd P w K mg base) : ∃ fd, FunD K "__eq__" "Gate.__eq__" (defArgs (sub 16 1)) (defBody (sub 16 1)) (defScope (sub 16 1)) [] [] (He.ma K (ga K "Gate") "__eq__") fd ∧ FnOk P w K mg base (L2.CX P w) 1 (He.ma K (ga K "Gate") "__eq__") fd ["self", "other"] (spD K m_Gate_D__eq_D_) := by
  obtain ⟨fd, F⟩ := Z.d_Gate_D__eq_D_
  exact ⟨fd, F, fn_def F sc_Gate_D__eq_D_ (by decide) (fun cdv A outer s H E c => (ds_cons (ds_if (d_tnot (d_tval (d_isi Z.n_isinstance Z.is_Gate (dp_v 1) (cl_own Z.g_Gate))))
  (ds_one (ds_ret d_bl))
  ds_nil)
  (ds_cons (ds_if (dw_or (d_tcmp (ol_ne c.room.units) (d_fld Z.f_Gate_operation (dp_v 0)) (d_fld Z.f_Gate_operation (dp_v 1))) (dw_or1 (d_tcmp (ol_ne c.room.units) (d_fld Z.f_Gate_mode (dp_v 0)) (d_fld Z.f_Gate_mode (dp_v 1))))).pt
  (ds_one (ds_ret d_bl))
  ds_nil)
  (ds_one (ds_ret (d_and (d_cmp (ol_eq c.room.units) (d_fld Z.f_Gate_left (dp_v 0)) (d_fld Z.f_Gate_left (dp_v 1))) (d_one (d_cmp (ol_eq c.room.units) (d_fld Z.f_Gate_right (dp_v 0)) (d_fld Z.f_Gate_right (dp_v 1))))))))))⟩
theorem h_Gate_D__eq_D_ {P : Program} {w : World} {K : PySem.W.Frag} {mg : Str → Option Value} {base : Heap} (Z : Hd P w K mg base) : FnG P w K mg base 1 (He.ma K (ga K "Gate") "__eq__") m_Gate_D__eq_D_ := by
  obtain ⟨fd, F, H⟩ := o_Gate_D__eq_D_ Z
  exact fn_pos H (F.bindsN fun _ _ _ _ _ _ us hl => match us, hl with | [_, _], _ => rfl)
/-! ### other_register -/
noncomputable def b_other_register : M Fl := (seqD (ifD (tst (bin ltD (getV 0) (pure (.int 2))))
  (retD (bin subD (pure (.int 1)) (getV 0)))
  (pure .nx))
  (retD (getV 0)))
noncomputable def m_other_register : MF := runB 1 1 0 b_other_register
theorem sc_other_register : FnScope ["slot"] ["slot"] (defScope (top 19)) := ⟨rfl, rfl, rfl, by decide +kernel, rfl, by decide +kernel, by decide +kernel⟩
theorem o_other_register {P : Program} {w : World} {K : PySem.W.Frag} {mg : Str → Option Value} {base : Heap} (Z : Hd P w K mg base) : ∃ fd, FunD K "other_register" "other_register" (defArgs (top 19)) (defBody (top 19)) (defScope (top 19)) [] [] (ga K "other_register") fd ∧ FnOk P w K mg base (L2.CX P w) 1 (ga K "other_register") fd ["slot"] (spD K m_other_register) := by
  obtain ⟨fd, F⟩ := Z.d_other_register
  exact ⟨fd, F, fn_def F sc_other_register (by decide) (fun cdv A outer s H E c => (ds_cons (ds_if (d_tcmp ol_lt (d_v 0) d_int)
  (ds_one (ds_ret (d_bin ol_sub d_int (d_v 0))))
  ds_nil)
  (ds_one (ds_ret (d_v 0)))))⟩
theorem h_other_register {P : Program} {w : World} {K : PySem.W.Frag} {mg : Str → Option Value} {base : Heap} (Z : Hd P w K mg base) : FnG P w K mg base 1 (ga K "other_register") m_other_register := by
  obtain ⟨fd, F, H⟩ := o_other_register Z
  exact fn_pos H (F.bindsN fun _ _ _ _ _ _ us hl => match us, hl with | [_], _ => rfl)
/-! ### bad_part -/
noncomputable def b_bad_part : M Fl := (seqD (ifD (tst (bin notInD (una (fldD ["Gate"] "operation") (peekV 0)) (pure (.tup [(.str "+"), (.str "-"), (.str "*"), (.str "<<")]))))
  (retD (pure (.str "operation")))
  (pure .nx))
  (seqD (ifD (notT (tst (chainD leD leD (pure (.int 0)) (una (fldD ["Gate"] "left") (peekV 0)) (getV 1))))
  (retD (pure (.str "left")))
  (pure .nx))
  (seqD (ifD (tst (bin eqD (una (fldD ["Gate"] "operation") (peekV 0)) (pure (.str "<<"))))
  (ifD (notT (tst (chainD leD leD (una negD (pure (.int 200))) (una (fldD ["Gate"] "right") (peekV 0)) (pure (.int 200)))))
  (retD (pure (.str "right")))
  (pure .nx))
  (ifD (notT (tst (chainD leD leD (pure (.int 0)) (una (fldD ["Gate"] "right") (peekV 0)) (getV 1))))
  (retD (pure (.str "right")))
  (pure .nx)))
  (seqD (ifD (tst (bin notInD (una (fldD ["Gate"] "mode") (peekV 0)) (pure (.tup [(.str "nearest-even"), (.str "nearest-out"), (.str "nearest-in"), (.str "nearest-up"), (.str "nearest-down"), (.str "inward"), (.str "outward"), (.str "upward"), (.str "downward")]))))
  (retD (pure (.str "mode")))
  (pure .nx))
  (retD (pure .non))))))
noncomputable def m_bad_part : MF := runB 2 2 0 b_bad_part
theorem sc_bad_part : FnScope ["gate", "number"] ["gate", "number"] (defScope (top 18)) := ⟨rfl, rfl, rfl, by decide +kernel, rfl, by decide +kernel, by decide +kernel⟩
theorem o_bad_part {P : Program} {w : World} {K : PySem.W.Frag} {mg : Str → Option Value} {base : Heap} (Z : Hd P w K mg base) : ∃ fd, FunD K "bad_part" "bad_part" (defArgs (top 18)) (defBody (top 18)) (defScope (top 18)) [] [] (ga K "bad_part") fd ∧ FnOk P w K mg base (L2.CX P w) 1 (ga K "bad_part") fd ["gate", "number"] (spD K m_bad_part) := by
  obtain ⟨fd, F⟩ := Z.d_bad_part
  exact ⟨fd, F, fn_def F sc_bad_part (by decide) (fun cdv A outer s H E c => (ds_cons (ds_if (d_tcmp ol_notIn (d_fld Z.f_Gate_operation (dp_v 0)) (d_glo Z.c_OPERATIONS))
  (ds_one (ds_ret d_str))
  ds_nil)
  (ds_cons (ds_if (d_tnot (d_tchain ol_le ol_le d_int (d_fld Z.f_Gate_left (dp_v 0)) (d_v 1)))
  (ds_one (ds_ret d_str))
  ds_nil)
  (ds_cons (ds_if (d_tcmp (ol_eq c.room.units) (d_fld Z.f_Gate_operation (dp_v 0)) d_str)
  (ds_one (ds_if (d_tnot (d_tchain ol_le ol_le (d_un ul_neg (d_glo Z.c_MOST_SHIFT)) (d_fld Z.f_Gate_right (dp_v 0)) (d_glo Z.c_MOST_SHIFT)))
  (ds_one (ds_ret d_str))
  ds_nil))
  (ds_one (ds_if (d_tnot (d_tchain ol_le ol_le d_int (d_fld Z.f_Gate_right (dp_v 0)) (d_v 1)))
  (ds_one (ds_ret d_str))
  ds_nil)))
  (ds_cons (ds_if (d_tcmp ol_notIn (d_fld Z.f_Gate_mode (dp_v 0)) (d_glo Z.c_MODES))
  (ds_one (ds_ret d_str))
  ds_nil)
  (ds_one (ds_ret d_non)))))))⟩
theorem h_bad_part {P : Program} {w : World} {K : PySem.W.Frag} {mg : Str → Option Value} {base : Heap} (Z : Hd P w K mg base) : FnG P w K mg base 1 (ga K "bad_part") m_bad_part := by
  obtain ⟨fd, F, H⟩ := o_bad_part Z
  exact fn_pos H (F.bindsN fun _ _ _ _ _ _ us hl => match us, hl with | [_, _], _ => rfl)
/-! ### Circuit.__init__ -/
noncomputable def b_Circuit_D__init_D_ : M Fl := (seqD (ifD (tst (bin gtD (una lenD (peekV 1)) (pure (.int 24))))
  (raiseD "BadCount" ["count"] (consA (una lenD (peekV 1)) nilA))
  (pure .nx))
  (seqD (setD 2 (pure (.int 0)))
  (seqD (forM' (setV 3)
  (seqD (setD 2 (bin addD (getV 2) (pure (.int 1))))
  (seqD (setD 4 (callV m_bad_part (consA (getV 3) (consA (getV 2) nilA))))
  (ifD (tst (bin notNonD (getV 4) (pure .non)))
  (raiseD "BadStep" ["number", "part"] (consA (getV 2) (consA (getV 4) nilA)))
  (pure .nx)))) (overT (getV 1)))
  (sfD 0 "Circuit" "gates" (frzD (listOf (peekV 1)))))))
noncomputable def m_Circuit_D__init_D_ : MF := starM 1 (runB 5 2 1 b_Circuit_D__init_D_)
theorem sc_Circuit_D__init_D_ : FnScope ["self", "gates", "number", "gate", "part"] ["self", "gates"] (defScope (sub 17 1)) := ⟨rfl, rfl, rfl, by decide +kernel, rfl, by decide +kernel, by decide +kernel⟩
theorem st0_Circuit_D__init_D_ (kV doc pm : Value) (an : Option Addr) (cdv ct a0 : Value) : bindArgs (PySem.W.fnOf "__init__" "Circuit.__init__" (defArgs (sub 17 1)) (defBody (sub 17 1)) (defScope (sub 17 1)) .none kV doc pm an cdv ct) ⟨[a0], []⟩ = (newTuple [] >>= fun t => pure [(("self" : Str), a0), ("gates", t)]) := rfl
theorem st1_Circuit_D__init_D_ (kV doc pm : Value) (an : Option Addr) (cdv ct a0 : Value) (r : Value) (rs : List Value) : bindArgs (PySem.W.fnOf "__init__" "Circuit.__init__" (defArgs (sub 17 1)) (defBody (sub 17 1)) (defScope (sub 17 1)) .none kV doc pm an cdv ct) ⟨a0 :: r :: rs, []⟩ = (newTuple (r :: rs) >>= fun t => pure [(("self" : Str), a0), ("gates", t)]) := rfl
theorem h_Circuit_D__init_D_ {P : Program} {w : World} {K : PySem.W.Frag} {mg : Str → Option Value} {base : Heap} (Z : Hd P w K mg base) (h_bad_part : FnG P w K mg base 1 (ga K "bad_part") m_bad_part) : FnG P w K mg base 2 (He.ma K (ga K "Circuit") "__init__") m_Circuit_D__init_D_ := by
  obtain ⟨fd, F⟩ := Z.d_Circuit_D__init_D_
  exact fn_starD (pv := "gates") (ps := ["self"]) (N := ["self", "gates", "number", "gate", "part"]) (k := 1) (Pn := 1) (b := b_Circuit_D__init_D_) F sc_Circuit_D__init_D_ (by decide) (fun kV doc pm an cdv ct us rest hl => StX.bind_star1 (B := fun z => bindArgs (PySem.W.fnOf "__init__" "Circuit.__init__" (defArgs (sub 17 1)) (defBody (sub 17 1)) (defScope (sub 17 1)) .none kV doc pm an cdv ct) ⟨z, []⟩) (fun a0 => st0_Circuit_D__init_D_ kV doc pm an cdv ct a0) (fun a0 r rs => st1_Circuit_D__init_D_ kV doc pm an cdv ct a0 r rs) us rest hl) (fun cdv A outer s H E c => (ds_cons (ds_if (d_tcmp ol_gt (d_len Z.n_len (dp_v 1)) (d_cval Z.cc_Circuit_MOST Z.g_Circuit))
  (ds_one (ds_raise c Z.x_BadCount (da_cons (d_len Z.n_len (dp_v 1)) da_nil)))
  ds_nil)
  (ds_cons (ds_set c.nd d_int)
  (ds_cons (ds_for c.hp c.calm (di_tup (d_v 1)) (dg_name c.nd)
  (ds_cons (ds_set c.nd (d_bin ol_add (d_v 2) d_int))
  (ds_cons (ds_set c.nd (d_call c h_bad_part Z.g_bad_part Z.k_bad_part (da_cons (d_v 3) (da_cons (d_v 2) da_nil)) (hk := by decide)))
  (ds_one (ds_if (d_tcmp ol_notN (d_v 4) d_non)
  (ds_one (ds_raise c Z.x_BadStep (da_cons (d_v 2) (da_cons (d_v 4) da_nil))))
  ds_nil)))))
  (ds_one (ds_sf 0 Z.f_Circuit_gates (d_f (f_list Z.n_list (dp_v 1)))))))))
/-! ### Circuit.__len__ -/
noncomputable def b_Circuit_D__len_D_ : M Fl := (retD (una lenD (una (fldD ["Circuit"] "gates") (peekV 0))))
noncomputable def m_Circuit_D__len_D_ : MF := runB 1 1 0 b_Circuit_D__len_D_
theorem sc_Circuit_D__len_D_ : FnScope ["self"] ["self"] (defScope (sub 17 2)) := ⟨rfl, rfl, rfl, by decide +kernel, rfl, by decide +kernel, by decide +kernel⟩
theorem o_Circuit_D__len_D_ {P : Program} {w : World} {K : PySem.W.Frag} {mg : Str → Option Value} {base : Heap} (Z : Hd P w K mg base) : ∃ fd, FunD K "__len__" "Circuit.__len__" (defArgs (sub 17 2)) (defBody (sub 17 2)) (defScope (sub 17 2)) [] [] (He.ma K (ga K "Circuit") "__len__") fd ∧ FnOk P w K mg base (L2.CX P w) 1 (He.ma K (ga K "Circuit") "__len__") fd ["self"] (spD K m_Circuit_D__len_D_) := by
  obtain ⟨fd, F⟩ := Z.d_Circuit_D__len_D_
  exact ⟨fd, F, fn_def F sc_Circuit_D__len_D_ (by decide) (fun cdv A outer s H E c => (ds_one (ds_ret (d_len Z.n_len (dp_e (d_fld Z.f_Circuit_gates (dp_v 0)))))))⟩
theorem h_Circuit_D__len_D_ {P : Program} {w : World} {K : PySem.W.Frag} {mg : Str → Option Value} {base : Heap} (Z : Hd P w K mg base) : FnG P w K mg base 1 (He.ma K (ga K "Circuit") "__len__") m_Circuit_D__len_D_ := by
  obtain ⟨fd, F, H⟩ := o_Circuit_D__len_D_ Z
  exact fn_pos H (F.bindsN fun _ _ _ _ _ _ us hl => match us, hl with | [_], _ => rfl)
theorem sc_Circuit_D__iter_D_ : FnScope ["self"] ["self"] (defScope (sub 17 3)) := ⟨rfl, rfl, rfl, by decide +kernel, rfl, by decide +kernel, by decide +kernel⟩
theorem h_Circuit_D__iter_D_ {P : Program} {w : World} {K : PySem.W.Frag} {mg : Str → Option Value} {base : Heap} (Z : Hd P w K mg base) : FnIter P w K mg base 1 (He.ma K (ga K "Circuit") "__iter__") "Circuit" "gates" := by
  obtain ⟨fd, F⟩ := Z.d_Circuit_D__iter_D_
  obtain ⟨cl, na⟩ := (Z.f_Circuit_gates).at_ "Circuit" (List.mem_singleton.mpr rfl)
  exact fnIter_of F sc_Circuit_D__iter_D_ (F.bindsN fun _ _ _ _ _ _ us hl => match us, hl with | [_], _ => rfl) fun cdv A outer s H hr => pss_one (ps_ret (pe_iterF Z.n_iter cl na))
/-! ### Circuit.__getitem__ -/
noncomputable def b_Circuit_D__getitem_D_ : M Fl := (seqD (ifD (notT (tst (chainD leD leD (pure (.int 1)) (getV 1) (una lenD (una (fldD ["Circuit"] "gates") (peekV 0))))))
  (raiseD "NoStep" ["number"] (consA (getV 1) nilA))
  (pure .nx))
  (retD (ixE (una (fldD ["Circuit"] "gates") (peekV 0)) (bin subD (getV 1) (pure (.int 1))))))
noncomputable def m_Circuit_D__getitem_D_ : MF := runB 2 2 0 b_Circuit_D__getitem_D_
theorem sc_Circuit_D__getitem_D_ : FnScope ["self", "at"] ["self", "at"] (defScope (sub 17 4)) := ⟨rfl, rfl, rfl, by decide +kernel, rfl, by decide +kernel, by decide +kernel⟩
theorem o_Circuit_D__getitem_D_ {P : Program} {w : World} {K : PySem.W.Frag} {mg : Str → Option Value} {base : Heap} (Z : Hd P w K mg base) : ∃ fd, FunD K "__getitem__" "Circuit.__getitem__" (defArgs (sub 17 4)) (defBody (sub 17 4)) (defScope (sub 17 4)) [] [] (He.ma K (ga K "Circuit") "__getitem__") fd ∧ FnOk P w K mg base (L2.CX P w) 2 (He.ma K (ga K "Circuit") "__getitem__") fd ["self", "at"] (spD K m_Circuit_D__getitem_D_) := by
  obtain ⟨fd, F⟩ := Z.d_Circuit_D__getitem_D_
  exact ⟨fd, F, fn_def F sc_Circuit_D__getitem_D_ (by decide) (fun cdv A outer s H E c => (ds_cons (ds_if (d_tnot (d_tchain ol_le ol_le d_int (d_v 1) (d_len Z.n_len (dp_e (d_fld Z.f_Circuit_gates (dp_v 0))))))
  (ds_one (ds_raise c Z.x_NoStep (da_cons (d_v 1) da_nil)))
  ds_nil)
  (ds_one (ds_ret (d_ixE (d_fld Z.f_Circuit_gates (dp_v 0)) (d_bin ol_sub (d_v 1) d_int))))))⟩
theorem h_Circuit_D__getitem_D_ {P : Program} {w : World} {K : PySem.W.Frag} {mg : Str → Option Value} {base : Heap} (Z : Hd P w K mg base) : FnG P w K mg base 2 (He.ma K (ga K "Circuit") "__getitem__") m_Circuit_D__getitem_D_ := by
  obtain ⟨fd, F, H⟩ := o_Circuit_D__getitem_D_ Z
  exact fn_pos H (F.bindsN fun _ _ _ _ _ _ us hl => match us, hl with | [_, _], _ => rfl)
/-! ### Circuit.__add__ -/
noncomputable def b_Circuit_D__add_D_ : M Fl := (retD (makeD "Circuit" m_Circuit_D__init_D_ (starA (una (fldD ["Circuit"] "gates") (peekV 0)) (consA (getV 1) nilA))))
noncomputable def m_Circuit_D__add_D_ : MF := runB 2 2 0 b_Circuit_D__add_D_
theorem sc_Circuit_D__add_D_ : FnScope ["self", "other"] ["self", "other"] (defScope (sub 17 5)) := ⟨rfl, rfl, rfl, by decide +kernel, rfl, by decide +kernel, by decide +kernel⟩
theorem o_Circuit_D__add_D_ {P : Program} {w : World} {K : PySem.W.Frag} {mg : Str → Option Value} {base : Heap} (Z : Hd P w K mg base) (h_Circuit_D__init_D_ : FnG P w K mg base 2 (He.ma K (ga K "Circuit") "__init__") m_Circuit_D__init_D_) : ∃ fd, FunD K "__add__" "Circuit.__add__" (defArgs (sub 17 5)) (defBody (sub 17 5)) (defScope (sub 17 5)) [] [] (He.ma K (ga K "Circuit") "__add__") fd ∧ FnOk P w K mg base (L2.CX P w) 4 (He.ma K (ga K "Circuit") "__add__") fd ["self", "other"] (spD K m_Circuit_D__add_D_) := by
  obtain ⟨fd, F⟩ := Z.d_Circuit_D__add_D_
  exact ⟨fd, F, fn_def F sc_Circuit_D__add_D_ (by decide) (fun cdv A outer s H E c => (ds_one (ds_ret (d_makeS3 c h_Circuit_D__init_D_ Z.mk_Circuit Z.g_Circuit (da_star (d_fld Z.f_Circuit_gates (dp_v 0)) (da_cons (d_v 1) da_nil)) (hk := by decide)))))⟩
theorem h_Circuit_D__add_D_ {P : Program} {w : World} {K : PySem.W.Frag} {mg : Str → Option Value} {base : Heap} (Z : Hd P w K mg base) (h_Circuit_D__init_D_ : FnG P w K mg base 2 (He.ma K (ga K "Circuit") "__init__") m_Circuit_D__init_D_) : FnG P w K mg base 4 (He.ma K (ga K "Circuit") "__add__") m_Circuit_D__add_D_ := by
  obtain ⟨fd, F, H⟩ := o_Circuit_D__add_D_ Z h_Circuit_D__init_D_
  exact fn_pos H (F.bindsN fun _ _ _ _ _ _ us hl => match us, hl with | [_, _], _ => rfl)
/-! ### Circuit.__eq__ -/
noncomputable def b_Circuit_D__eq_D_ : M Fl := (seqD (ifD (notT (tst (una (isiD tags (.own "Circuit")) (peekV 1))))
  (retD (pure (.bl false)))
  (pure .nx))
  (retD (bin (eqLsD "Gate" m_Gate_D__eq_D_) (una (fldD ["Circuit"] "gates") (peekV 0)) (una (fldD ["Circuit"] "gates") (peekV 1)))))
noncomputable def m_Circuit_D__eq_D_ : MF := runB 2 2 0 b_Circuit_D__eq_D_
theorem sc_Circuit_D__eq_D_ : FnScope ["self", "other"] ["self", "other"] (defScope (sub 17 6)) := ⟨rfl, rfl, rfl, by decide +kernel, rfl, by decide +kernel, by decide +kernel⟩
theorem o_Circuit_D__eq_D_ {P : Program} {w : World} {K : PySem.W.Frag} {mg : Str → Option Value} {base : Heap} (Z : Hd P w K mg base) (h_Gate_D__eq_D_ : FnG P w K mg base 1 (He.ma K (ga K "Gate") "__eq__") m_Gate_D__eq_D_) : ∃ fd, FunD K "__eq__" "Circuit.__eq__" (defArgs (sub 17 6)) (defBody (sub 17 6)) (defScope (sub 17 6)) [] [] (He.ma K (ga K "Circuit") "__eq__") fd ∧ FnOk P w K mg base (L2.CX P w) 3 (He.ma K (ga K "Circuit") "__eq__") fd ["self", "other"] (spD K m_Circuit_D__eq_D_) := by
  obtain ⟨fd, F⟩ := Z.d_Circuit_D__eq_D_
  exact ⟨fd, F, fn_def F sc_Circuit_D__eq_D_ (by decide) (fun cdv A outer s H E c => (ds_cons (ds_if (d_tnot (d_tval (d_isi Z.n_isinstance Z.is_Circuit (dp_v 1) (cl_own Z.g_Circuit))))
  (ds_one (ds_ret d_bl))
  ds_nil)
  (ds_one (ds_ret (d_cmpS (os_eqLs c h_Gate_D__eq_D_ Z.me_Gate__D_eq_D_ (hk := by decide)) (d_fld Z.f_Circuit_gates (dp_v 0)) (d_fld Z.f_Circuit_gates (dp_v 1)))))))⟩
theorem h_Circuit_D__eq_D_ {P : Program} {w : World} {K : PySem.W.Frag} {mg : Str → Option Value} {base : Heap} (Z : Hd P w K mg base) (h_Gate_D__eq_D_ : FnG P w K mg base 1 (He.ma K (ga K "Gate") "__eq__") m_Gate_D__eq_D_) : FnG P w K mg base 3 (He.ma K (ga K "Circuit") "__eq__") m_Circuit_D__eq_D_ := by
  obtain ⟨fd, F, H⟩ := o_Circuit_D__eq_D_ Z h_Gate_D__eq_D_
  exact fn_pos H (F.bindsN fun _ _ _ _ _ _ us hl => match us, hl with | [_, _], _ => rfl)
/-! ### Circuit.swapped -/
noncomputable def b_Circuit_swapped : M Fl := (seqD (setF 1 (dispF nilA))
  (seqD (forM' (setV 2)
  (seqD (setD 3 (una (fldD ["Gate"] "right") (peekV 2)))
  (seqD (ifD (tst (bin neD (una (fldD ["Gate"] "operation") (peekV 2)) (pure (.str "<<"))))
  (setD 3 (callV m_other_register (consA (una (fldD ["Gate"] "right") (peekV 2)) nilA)))
  (pure .nx))
  (appN 1 (makeD "Gate" m_Gate_D__init_D_ (consA (una (fldD ["Gate"] "operation") (peekV 2)) (consA (callV m_other_register (consA (una (fldD ["Gate"] "left") (peekV 2)) nilA)) (consA (getV 3) (consA (una (fldD ["Gate"] "mode") (peekV 2)) nilA)))))))) (overL (una (fldD ["Circuit"] "gates") (peekV 0))))
  (retD (makeD "Circuit" m_Circuit_D__init_D_ (starA (getV 1) (pure []))))))
noncomputable def m_Circuit_swapped : MF := runB 4 1 0 b_Circuit_swapped
theorem sc_Circuit_swapped : FnScope ["self", "gates", "gate", "right"] ["self"] (defScope (sub 17 12)) := ⟨rfl, rfl, rfl, by decide +kernel, rfl, by decide +kernel, by decide +kernel⟩
theorem o_Circuit_swapped {P : Program} {w : World} {K : PySem.W.Frag} {mg : Str → Option Value} {base : Heap} (Z : Hd P w K mg base) (h_other_register : FnG P w K mg base 1 (ga K "other_register") m_other_register) (h_Gate_D__init_D_ : FnG P w K mg base 1 (He.ma K (ga K "Gate") "__init__") m_Gate_D__init_D_) (h_Circuit_D__init_D_ : FnG P w K mg base 2 (He.ma K (ga K "Circuit") "__init__") m_Circuit_D__init_D_) : ∃ fd, FunD K "swapped" "Circuit.swapped" (defArgs (sub 17 12)) (defBody (sub 17 12)) (defScope (sub 17 12)) [] [] (He.ma K (ga K "Circuit") "swapped") fd ∧ FnOk P w K mg base (L2.CX P w) 4 (He.ma K (ga K "Circuit") "swapped") fd ["self"] (spD K m_Circuit_swapped) := by
  obtain ⟨fd, F⟩ := Z.d_Circuit_swapped
  exact ⟨fd, F, fn_def F sc_Circuit_swapped (by decide) (fun cdv A outer s H E c => (ds_cons (ds_setF c.nd (f_lst da_nil))
  (ds_cons (ds_for c.hp c.calm (di_lst (d_fld Z.f_Circuit_gates (dp_v 0))) (dg_name c.nd)
  (ds_cons (ds_set c.nd (d_fld Z.f_Gate_right (dp_v 2)))
  (ds_cons (ds_if (d_tcmp (ol_ne c.room.units) (d_fld Z.f_Gate_operation (dp_v 2)) d_str)
  (ds_one (ds_set c.nd (d_call c h_other_register Z.g_other_register Z.k_other_register (da_cons (d_fld Z.f_Gate_right (dp_v 2)) da_nil) (hk := by decide))))
  ds_nil)
  (ds_one (ds_app 1 (d_make c h_Gate_D__init_D_ Z.mk_Gate Z.g_Gate (da_cons (d_fld Z.f_Gate_operation (dp_v 2)) (da_cons (d_call c h_other_register Z.g_other_register Z.k_other_register (da_cons (d_fld Z.f_Gate_left (dp_v 2)) da_nil) (hk := by decide)) (da_cons (d_v 3) (da_cons (d_fld Z.f_Gate_mode (dp_v 2)) da_nil)))) (hk := by decide)))))))
  (ds_one (ds_ret (d_makeS1 c h_Circuit_D__init_D_ Z.mk_Circuit Z.g_Circuit (d_v 1) (hk := by decide)))))))⟩
theorem h_Circuit_swapped {P : Program} {w : World} {K : PySem.W.Frag} {mg : Str → Option Value} {base : Heap} (Z : Hd P w K mg base) (h_other_register : FnG P w K mg base 1 (ga K "other_register") m_other_register) (h_Gate_D__init_D_ : FnG P w K mg base 1 (He.ma K (ga K "Gate") "__init__") m_Gate_D__init_D_) (h_Circuit_D__init_D_ : FnG P w K mg base 2 (He.ma K (ga K "Circuit") "__init__") m_Circuit_D__init_D_) : FnG P w K mg base 4 (He.ma K (ga K "Circuit") "swapped") m_Circuit_swapped := by
  obtain ⟨fd, F, H⟩ := o_Circuit_swapped Z h_other_register h_Gate_D__init_D_ h_Circuit_D__init_D_
  exact fn_pos H (F.bindsN fun _ _ _ _ _ _ us hl => match us, hl with | [_], _ => rfl)
/-! ### Circuit.with_mode -/
noncomputable def b_Circuit_with_mode : M Fl := (seqD (setD 2 (frzD (lcM 3 (overL (una (fldD ["Circuit"] "gates") (peekV 0))) (pure true) (makeD "Gate" m_Gate_D__init_D_ (consA (una (fldD ["Gate"] "operation") (peekV 3)) (consA (una (fldD ["Gate"] "left") (peekV 3)) (consA (una (fldD ["Gate"] "right") (peekV 3)) (consA (getV 1) nilA))))))))
  (retD (makeD "Circuit" m_Circuit_D__init_D_ (starA (getV 2) (pure [])))))
noncomputable def m_Circuit_with_mode : MF := runB 4 2 0 b_Circuit_with_mode
theorem sc_Circuit_with_mode : FnScope ["self", "mode", "gates", "gate"] ["self", "mode"] (defScope (sub 17 13)) := ⟨rfl, rfl, rfl, by decide +kernel, rfl, by decide +kernel, by decide +kernel⟩
theorem o_Circuit_with_mode {P : Program} {w : World} {K : PySem.W.Frag} {mg : Str → Option Value} {base : Heap} (Z : Hd P w K mg base) (h_Gate_D__init_D_ : FnG P w K mg base 1 (He.ma K (ga K "Gate") "__init__") m_Gate_D__init_D_) (h_Circuit_D__init_D_ : FnG P w K mg base 2 (He.ma K (ga K "Circuit") "__init__") m_Circuit_D__init_D_) : ∃ fd, FunD K "with_mode" "Circuit.with_mode" (defArgs (sub 17 13)) (defBody (sub 17 13)) (defScope (sub 17 13)) [] [] (He.ma K (ga K "Circuit") "with_mode") fd ∧ FnOk P w K mg base (L2.CX P w) 4 (He.ma K (ga K "Circuit") "with_mode") fd ["self", "mode"] (spD K m_Circuit_with_mode) := by
  obtain ⟨fd, F⟩ := Z.d_Circuit_with_mode
  exact ⟨fd, F, fn_def F sc_Circuit_with_mode (by decide) (fun cdv A outer s H E c => (ds_cons (ds_lcD (by decide) (ps_lc c (blk_of (by rfl)) (di_lst (d_fld Z.f_Circuit_gates (dp_v 0))) (fun s H C cl fp c => (d_make c h_Gate_D__init_D_ Z.mk_Gate Z.g_Gate (da_cons (d_fld Z.f_Gate_operation (dp_v 3)) (da_cons (d_fld Z.f_Gate_left (dp_v 3)) (da_cons (d_fld Z.f_Gate_right (dp_v 3)) (da_cons (d_v 1) da_nil)))) (hk := by decide)))))
  (ds_one (ds_ret (d_makeS1 c h_Circuit_D__init_D_ Z.mk_Circuit Z.g_Circuit (d_v 2) (hk := by decide))))))⟩
theorem h_Circuit_with_mode {P : Program} {w : World} {K : PySem.W.Frag} {mg : Str → Option Value} {base : Heap} (Z : Hd P w K mg base) (h_Gate_D__init_D_ : FnG P w K mg base 1 (He.ma K (ga K "Gate") "__init__") m_Gate_D__init_D_) (h_Circuit_D__init_D_ : FnG P w K mg base 2 (He.ma K (ga K "Circuit") "__init__") m_Circuit_D__init_D_) : FnG P w K mg base 4 (He.ma K (ga K "Circuit") "with_mode") m_Circuit_with_mode := by
  obtain ⟨fd, F, H⟩ := o_Circuit_with_mode Z h_Gate_D__init_D_ h_Circuit_D__init_D_
  exact fn_pos H (F.bindsN fun _ _ _ _ _ _ us hl => match us, hl with | [_, _], _ => rfl)
/-! ### chained -/
noncomputable def b_chained : M Fl := (seqD (setD 4 (una lenD (una (fldD ["Circuit"] "gates") (peekV 0))))
  (seqD (forM' (setV 5)
  (ifD (notT (tst (chainD leD leD (pure (.int 0)) (getV 5) (bin addD (getV 4) (pure (.int 1))))))
  (raiseD "NoPart" ["index"] (consA (getV 5) nilA))
  (pure .nx)) (overT (tupD (consA (getV 2) (consA (getV 3) nilA)))))
  (seqD (setF 6 (listOf (una (fldD ["Circuit"] "gates") (peekV 0))))
  (seqD (setF 7 (dispF (consA (getV 2) (consA (getV 3) nilA))))
  (seqD (forM' (setV 8)
  (appN 7 (bin addD (bin addD (getV 8) (pure (.int 2))) (getV 4))) (overN (una lenD (una (fldD ["Circuit"] "gates") (peekV 1)))))
  (seqD (forM' (setV 9)
  (seqD (setD 10 (una (fldD ["Gate"] "right") (peekV 9)))
  (seqD (ifD (tst (bin neD (una (fldD ["Gate"] "operation") (peekV 9)) (pure (.str "<<"))))
  (setD 10 (ixN_ 7 (una (fldD ["Gate"] "right") (peekV 9))))
  (pure .nx))
  (appN 6 (makeD "Gate" m_Gate_D__init_D_ (consA (una (fldD ["Gate"] "operation") (peekV 9)) (consA (ixN_ 7 (una (fldD ["Gate"] "left") (peekV 9))) (consA (getV 10) (consA (una (fldD ["Gate"] "mode") (peekV 9)) nilA)))))))) (overL (una (fldD ["Circuit"] "gates") (peekV 1))))
  (retD (makeD "Circuit" m_Circuit_D__init_D_ (starA (getV 6) (pure []))))))))))
noncomputable def m_chained : MF := runB 11 4 0 b_chained
theorem sc_chained : FnScope ["circuit", "other", "i", "j", "more", "slot", "gates", "places", "k", "gate", "right"] ["circuit", "other", "i", "j"] (defScope (top 22)) := ⟨rfl, rfl, rfl, by decide +kernel, rfl, by decide +kernel, by decide +kernel⟩
theorem o_chained {P : Program} {w : World} {K : PySem.W.Frag} {mg : Str → Option Value} {base : Heap} (Z : Hd P w K mg base) (h_Gate_D__init_D_ : FnG P w K mg base 1 (He.ma K (ga K "Gate") "__init__") m_Gate_D__init_D_) (h_Circuit_D__init_D_ : FnG P w K mg base 2 (He.ma K (ga K "Circuit") "__init__") m_Circuit_D__init_D_) : ∃ fd, FunD K "chained" "chained" (defArgs (top 22)) (defBody (top 22)) (defScope (top 22)) [] [] (ga K "chained") fd ∧ FnOk P w K mg base (L2.CX P w) 4 (ga K "chained") fd ["circuit", "other", "i", "j"] (spD K m_chained) := by
  obtain ⟨fd, F⟩ := Z.d_chained
  exact ⟨fd, F, fn_def F sc_chained (by decide) (fun cdv A outer s H E c => (ds_cons (ds_set c.nd (d_len Z.n_len (dp_e (d_fld Z.f_Circuit_gates (dp_v 0)))))
  (ds_cons (ds_for c.hp c.calm (di_tup (d_tup (da_cons (d_v 2) (da_cons (d_v 3) da_nil)))) (dg_name c.nd)
  (ds_one (ds_if (d_tnot (d_tchain ol_le ol_le d_int (d_v 5) (d_bin ol_add (d_v 4) d_int)))
  (ds_one (ds_raise c Z.x_NoPart (da_cons (d_v 5) da_nil)))
  ds_nil)))
  (ds_cons (ds_setF c.nd (f_list Z.n_list (dp_e (d_fld Z.f_Circuit_gates (dp_v 0)))))
  (ds_cons (ds_setF c.nd (f_lst (da_cons (d_v 2) (da_cons (d_v 3) da_nil))))
  (ds_cons (ds_for c.hp c.calm (di_range Z.n_range (d_len Z.n_len (dp_e (d_fld Z.f_Circuit_gates (dp_v 1))))) (dg_name c.nd)
  (ds_one (ds_app 7 (d_bin ol_add (d_bin ol_add (d_v 8) d_int) (d_v 4)))))
  (ds_cons (ds_for c.hp c.calm (di_lst (d_fld Z.f_Circuit_gates (dp_v 1))) (dg_name c.nd)
  (ds_cons (ds_set c.nd (d_fld Z.f_Gate_right (dp_v 9)))
  (ds_cons (ds_if (d_tcmp (ol_ne c.room.units) (d_fld Z.f_Gate_operation (dp_v 9)) d_str)
  (ds_one (ds_set c.nd (d_ixN 7 (d_fld Z.f_Gate_right (dp_v 9)))))
  ds_nil)
  (ds_one (ds_app 6 (d_make c h_Gate_D__init_D_ Z.mk_Gate Z.g_Gate (da_cons (d_fld Z.f_Gate_operation (dp_v 9)) (da_cons (d_ixN 7 (d_fld Z.f_Gate_left (dp_v 9))) (da_cons (d_v 10) (da_cons (d_fld Z.f_Gate_mode (dp_v 9)) da_nil)))) (hk := by decide)))))))
  (ds_one (ds_ret (d_makeS1 c h_Circuit_D__init_D_ Z.mk_Circuit Z.g_Circuit (d_v 6) (hk := by decide)))))))))))⟩
theorem h_chained {P : Program} {w : World} {K : PySem.W.Frag} {mg : Str → Option Value} {base : Heap} (Z : Hd P w K mg base) (h_Gate_D__init_D_ : FnG P w K mg base 1 (He.ma K (ga K "Gate") "__init__") m_Gate_D__init_D_) (h_Circuit_D__init_D_ : FnG P w K mg base 2 (He.ma K (ga K "Circuit") "__init__") m_Circuit_D__init_D_) : FnG P w K mg base 4 (ga K "chained") m_chained := by
  obtain ⟨fd, F, H⟩ := o_chained Z h_Gate_D__init_D_ h_Circuit_D__init_D_
  exact fn_pos H (F.bindsN fun _ _ _ _ _ _ us hl => match us, hl with | [_, _, _, _], _ => rfl)
noncomputable def bf__law_source : M (List D) := (dispF (consA (pure (.int 0)) (consA (pure (.int 0)) (consA (pure (.int 0)) (consA (pure (.int 0)) (consA (frzD (lcM 1 (overL (getV 0)) (pure true) (una intD (getV 1)))) nilA))))))
noncomputable def mf__law_source : MG := runF 2 1 bf__law_source
theorem sc__law_source : FnScope ["script", "cell"] ["script"] (defScope (top 24)) := ⟨rfl, rfl, rfl, by decide +kernel, rfl, by decide +kernel, by decide +kernel⟩
theorem h__law_source {P : Program} {w : World} {K : PySem.W.Frag} {mg : Str → Option Value} {base : Heap} (Z : Hd P w K mg base) : FnF P w K mg base 1 (ga K "_law_source") mf__law_source := by
  obtain ⟨fd, F⟩ := Z.d__law_source
  exact fnF_def F sc__law_source (by decide) (F.bindsN fun _ _ _ _ _ _ us hl => match us, hl with | [_], _ => rfl) fun cdv A outer s H E c => pss_one (ps_ret (f_lst (da_cons d_int (da_cons d_int (da_cons d_int (da_cons d_int (da_cons (d_f (f_lc c (blk_of (by rfl)) (di_lst (d_v 0)) (fun s H C cl fp c => (d_toInt Z.n_int (d_v 1))))) da_nil)))))))
/-! ### _law_draw -/
noncomputable def b__law_draw : M Fl := (seqD (ifD (andT (tst (bin eqD (ixN_ 0 (pure (.int 1))) (pure (.int 0)))) (tst (bin eqD (ixN_ 0 (pure (.int 3))) (pure (.int 0)))))
  (seqD (ifD (tst (bin geD (ixN_ 0 (pure (.int 0))) (una lenD (ixN_ 0 (pure (.int 4))))))
  (retD (pure (.int 0)))
  (pure .nx))
  (seqD (setD 2 (ixE (ixN_ 0 (pure (.int 4))) (ixN_ 0 (pure (.int 0)))))
  (seqD (stoN 0 (bin addD (ixN_ 0 (pure (.int 0))) (pure (.int 1))) (pure (.int 0)))
  (seqD (setD 3 (bin mulD (pure (.int 2)) (getV 2)))
  (seqD (ifD (tst (bin ltD (getV 2) (pure (.int 0))))
  (setD 3 (bin subD (bin subD (pure (.int 0)) (bin mulD (pure (.int 2)) (getV 2))) (pure (.int 1))))
  (pure .nx))
  (ifD (tst (bin geD (una absD (getV 2)) (bin powD (pure (.int 10)) (pure (.int 18)))))
  (stoN 0 (getV 3) (pure (.int 1)))
  (seqD (stoN 0 (getV 3) (pure (.int 2)))
  (stoN 0 (pure (.int 3)) (pure (.int 3))))))))))
  (pure .nx))
  (seqD (ifD (tst (bin gtD (ixN_ 0 (pure (.int 1))) (pure (.int 0))))
  (seqD (setD 4 (bin modD (una intD (ixN_ 0 (pure (.int 1)))) (getV 1)))
  (seqD (stoN 0 (bin fdivD (ixN_ 0 (pure (.int 1))) (getV 1)) (pure (.int 1)))
  (retD (getV 4))))
  (pure .nx))
  (seqD (stoN 0 (bin subD (ixN_ 0 (pure (.int 3))) (pure (.int 1))) (pure (.int 3)))
  (seqD (setD 5 (bin modD (una intD (bin addD (bin addD (bin mulD (ixN_ 0 (pure (.int 2))) (pure (.int 48271))) (bin mulD (ixN_ 0 (pure (.int 3))) (pure (.int 69621)))) (pure (.int 12345)))) (pure (.int 2147483647))))
  (retD (bin modD (bin modD (una intD (bin addD (bin mulD (getV 5) (pure (.int 16807))) (bin mulD (ixN_ 0 (pure (.int 2))) (pure (.int 9301))))) (pure (.int 998244353))) (getV 1)))))))
noncomputable def m__law_draw : MF := runB 6 2 1 b__law_draw
theorem sc__law_draw : FnScope ["source", "many", "cell", "size", "value", "mixed"] ["source", "many"] (defScope (top 25)) := ⟨rfl, rfl, rfl, by decide +kernel, rfl, by decide +kernel, by decide +kernel⟩
theorem o__law_draw {P : Program} {w : World} {K : PySem.W.Frag} {mg : Str → Option Value} {base : Heap} (Z : Hd P w K mg base) : ∃ fd, FunD K "_law_draw" "_law_draw" (defArgs (top 25)) (defBody (top 25)) (defScope (top 25)) [] [] (ga K "_law_draw") fd ∧ FnOk P w K mg base (L2.CX P w) 1 (ga K "_law_draw") fd ["source", "many"] (spD K m__law_draw) := by
  obtain ⟨fd, F⟩ := Z.d__law_draw
  exact ⟨fd, F, fn_def F sc__law_draw (by decide) (fun cdv A outer s H E c => (ds_cons (ds_if (dw_and (d_tcmp (ol_eq c.room.units) (d_ixN 0 d_int) d_int) (dw_and1 (d_tcmp (ol_eq c.room.units) (d_ixN 0 d_int) d_int))).pt
  (ds_cons (ds_if (d_tcmp ol_ge (d_ixN 0 d_int) (d_len Z.n_len (dp_e (d_ixN 0 d_int))))
  (ds_one (ds_ret d_int))
  ds_nil)
  (ds_cons (ds_set c.nd (d_ixE (d_ixN 0 d_int) (d_ixN 0 d_int)))
  (ds_cons (ds_sto 0 (d_bin ol_add (d_ixN 0 d_int) d_int) d_int)
  (ds_cons (ds_set c.nd (d_bin ol_mul d_int (d_v 2)))
  (ds_cons (ds_if (d_tcmp ol_lt (d_v 2) d_int)
  (ds_one (ds_set c.nd (d_bin ol_sub (d_bin ol_sub d_int (d_bin ol_mul d_int (d_v 2))) d_int)))
  ds_nil)
  (ds_one (ds_if (d_tcmp ol_ge (d_abs Z.n_abs (d_v 2)) (d_bin ol_pow d_int d_int))
  (ds_one (ds_sto 0 (d_v 3) d_int))
  (ds_cons (ds_sto 0 (d_v 3) d_int)
  (ds_one (ds_sto 0 d_int d_int))))))))))
  ds_nil)
  (ds_cons (ds_if (d_tcmp ol_gt (d_ixN 0 d_int) d_int)
  (ds_cons (ds_set c.nd (d_bin ol_mod (d_toInt Z.n_int (d_ixN 0 d_int)) (d_v 1)))
  (ds_cons (ds_sto 0 (d_bin ol_fdiv (d_ixN 0 d_int) (d_v 1)) d_int)
  (ds_one (ds_ret (d_v 4)))))
  ds_nil)
  (ds_cons (ds_sto 0 (d_bin ol_sub (d_ixN 0 d_int) d_int) d_int)
  (ds_cons (ds_set c.nd (d_bin ol_mod (d_toInt Z.n_int (d_bin ol_add (d_bin ol_add (d_bin ol_mul (d_ixN 0 d_int) d_int) (d_bin ol_mul (d_ixN 0 d_int) d_int)) d_int)) d_int))
  (ds_one (ds_ret (d_bin ol_mod (d_bin ol_mod (d_toInt Z.n_int (d_bin ol_add (d_bin ol_mul (d_v 5) d_int) (d_bin ol_mul (d_ixN 0 d_int) d_int))) d_int) (d_v 1)))))))))⟩
theorem h__law_draw {P : Program} {w : World} {K : PySem.W.Frag} {mg : Str → Option Value} {base : Heap} (Z : Hd P w K mg base) : FnG P w K mg base 1 (ga K "_law_draw") m__law_draw := by
  obtain ⟨fd, F, H⟩ := o__law_draw Z
  exact fn_pos H (F.bindsN fun _ _ _ _ _ _ us hl => match us, hl with | [_, _], _ => rfl)
/-! ### _law_modes -/
noncomputable def b__law_modes : M Fl := (seqD (setD 0 (lstD (consA (pure (.str "nearest-even")) (consA (pure (.str "nearest-out")) (consA (pure (.str "nearest-in")) (consA (pure (.str "nearest-up")) (consA (pure (.str "nearest-down")) nilA)))))))
  (retD (bin addD (getV 0) (lstD (consA (pure (.str "inward")) (consA (pure (.str "outward")) (consA (pure (.str "upward")) (consA (pure (.str "downward")) nilA))))))))
noncomputable def m__law_modes : MF := runB 1 0 0 b__law_modes
theorem sc__law_modes : FnScope ["near"] [] (defScope (top 26)) := ⟨rfl, rfl, rfl, by decide +kernel, rfl, by decide +kernel, by decide +kernel⟩
theorem o__law_modes {P : Program} {w : World} {K : PySem.W.Frag} {mg : Str → Option Value} {base : Heap} (Z : Hd P w K mg base) : ∃ fd, FunD K "_law_modes" "_law_modes" (defArgs (top 26)) (defBody (top 26)) (defScope (top 26)) [] [] (ga K "_law_modes") fd ∧ FnOk P w K mg base (L2.CX P w) 1 (ga K "_law_modes") fd [] (spD K m__law_modes) := by
  obtain ⟨fd, F⟩ := Z.d__law_modes
  exact ⟨fd, F, fn_def F sc__law_modes (by decide) (fun cdv A outer s H E c => (ds_cons (ds_set c.nd (d_lst (da_cons d_str (da_cons d_str (da_cons d_str (da_cons d_str (da_cons d_str da_nil)))))))
  (ds_one (ds_ret (d_bin ol_add (d_v 0) (d_lst (da_cons d_str (da_cons d_str (da_cons d_str (da_cons d_str da_nil))))))))))⟩
theorem h__law_modes {P : Program} {w : World} {K : PySem.W.Frag} {mg : Str → Option Value} {base : Heap} (Z : Hd P w K mg base) : FnG P w K mg base 1 (ga K "_law_modes") m__law_modes := by
  obtain ⟨fd, F, H⟩ := o__law_modes Z
  exact fn_pos H (F.bindsN fun _ _ _ _ _ _ us hl => match us, hl with | [], _ => rfl)
/-! ### _law_mode -/
noncomputable def b__law_mode : M Fl := (retD (ixE (appV m__law_modes []) (callO m__law_draw 0 (consA (pure (.int 9)) nilA))))
noncomputable def m__law_mode : MF := runB 1 1 1 b__law_mode
theorem sc__law_mode : FnScope ["source"] ["source"] (defScope (top 27)) := ⟨rfl, rfl, rfl, by decide +kernel, rfl, by decide +kernel, by decide +kernel⟩
theorem o__law_mode {P : Program} {w : World} {K : PySem.W.Frag} {mg : Str → Option Value} {base : Heap} (Z : Hd P w K mg base) (h__law_draw : FnG P w K mg base 1 (ga K "_law_draw") m__law_draw) (h__law_modes : FnG P w K mg base 1 (ga K "_law_modes") m__law_modes) : ∃ fd, FunD K "_law_mode" "_law_mode" (defArgs (top 27)) (defBody (top 27)) (defScope (top 27)) [] [] (ga K "_law_mode") fd ∧ FnOk P w K mg base (L2.CX P w) 2 (ga K "_law_mode") fd ["source"] (spD K m__law_mode) := by
  obtain ⟨fd, F⟩ := Z.d__law_mode
  exact ⟨fd, F, fn_def F sc__law_mode (by decide) (fun cdv A outer s H E c => (ds_one (ds_ret (d_ixE (d_call0 c h__law_modes Z.g__law_modes Z.k__law_modes (hk := by decide)) (d_callO 0 c h__law_draw Z.g__law_draw Z.k__law_draw (da_cons d_int da_nil) (hk := by decide))))))⟩
theorem h__law_mode {P : Program} {w : World} {K : PySem.W.Frag} {mg : Str → Option Value} {base : Heap} (Z : Hd P w K mg base) (h__law_draw : FnG P w K mg base 1 (ga K "_law_draw") m__law_draw) (h__law_modes : FnG P w K mg base 1 (ga K "_law_modes") m__law_modes) : FnG P w K mg base 2 (ga K "_law_mode") m__law_mode := by
  obtain ⟨fd, F, H⟩ := o__law_mode Z h__law_draw h__law_modes
  exact fn_pos H (F.bindsN fun _ _ _ _ _ _ us hl => match us, hl with | [_], _ => rfl)
/-! ### _law_equal -/
noncomputable def b__law_equal (self : MF) : M Fl := (seqD (ifD (tst (bin isNonD (getV 1) (pure .non)))
  (retD (bin isNonD (getV 0) (pure .non)))
  (pure .nx))
  (seqD (ifD (tst (una (isiD tags (.ty "bool")) (peekV 1)))
  (retD (andV (una (isiD tags (.ty "bool")) (peekV 0)) (bin eqD (getV 0) (getV 1))))
  (pure .nx))
  (seqD (ifD (tst (una (isiD tags (.ty "int")) (peekV 1)))
  (retD (andV (una (isiD tags (.ty "int")) (peekV 0)) (andV (notV (una (isiD tags (.ty "bool")) (peekV 0))) (bin eqD (getV 0) (getV 1)))))
  (pure .nx))
  (seqD (ifD (tst (una (isiD tags (.ty "str")) (peekV 1)))
  (retD (andV (una (isiD tags (.ty "str")) (peekV 0)) (bin eqD (getV 0) (getV 1))))
  (pure .nx))
  (seqD (ifD (tst (bin neD (una (isiD tags (.ty "list")) (peekV 1)) (una (isiD tags (.ty "list")) (peekV 0))))
  (retD (pure (.bl false)))
  (pure .nx))
  (seqD (ifD (tst (bin neD (una (isiD tags (.ty "tuple")) (peekV 1)) (una (isiD tags (.ty "tuple")) (peekV 0))))
  (retD (pure (.bl false)))
  (pure .nx))
  (seqD (ifD (andT (notT (tst (una (isiD tags (.ty "list")) (peekV 1)))) (notT (tst (una (isiD tags (.ty "tuple")) (peekV 1)))))
  (retD (pure (.bl false)))
  (pure .nx))
  (seqD (ifD (tst (bin neD (una lenD (peekV 0)) (una lenD (peekV 1))))
  (retD (pure (.bl false)))
  (pure .nx))
  (seqD (forM' (setV 2)
  (ifD (notT (tst (callV self (consA (ixN_ 0 (getV 2)) (consA (ixN_ 1 (getV 2)) nilA)))))
  (retD (pure (.bl false)))
  (pure .nx)) (overN (una lenD (peekV 1))))
  (retD (pure (.bl true))))))))))))
noncomputable def mr__law_equal : Nat → MF := recM fun self => runB 3 2 0 (b__law_equal self)
noncomputable def m__law_equal : MF := mr__law_equal 12
theorem sc__law_equal : FnScope ["actual", "expected", "k"] ["actual", "expected"] (defScope (top 28)) := ⟨rfl, rfl, rfl, by decide +kernel, rfl, by decide +kernel, by decide +kernel⟩
theorem h__law_equal {P : Program} {w : World} {K : PySem.W.Frag} {mg : Str → Option Value} {base : Heap} (Z : Hd P w K mg base) : FnG P w K mg base 12 (ga K "_law_equal") m__law_equal := by
  obtain ⟨fd, F⟩ := Z.d__law_equal
  exact fn_rec (kb := 0) (fun n self hself => fn_pos (fn_def (k := 0 + n) F sc__law_equal (by decide) (fun cdv A outer s H E c => (ds_cons (ds_if (d_tcmp ol_isN (d_v 1) d_non)
  (ds_one (ds_ret (d_cmp ol_isN (d_v 0) d_non)))
  ds_nil)
  (ds_cons (ds_if (d_tval (d_isi Z.n_isinstance Z.is_bool (dp_v 1) (cl_ty Z.n_bool (by decide +kernel))))
  (ds_one (ds_ret (d_and (d_isi Z.n_isinstance Z.is_bool (dp_v 0) (cl_ty Z.n_bool (by decide +kernel))) (d_one (d_cmp (ol_eq c.room.units) (d_v 0) (d_v 1))))))
  ds_nil)
  (ds_cons (ds_if (d_tval (d_isi Z.n_isinstance Z.is_int (dp_v 1) (cl_ty Z.n_int (by decide +kernel))))
  (ds_one (ds_ret (d_and (d_isi Z.n_isinstance Z.is_int (dp_v 0) (cl_ty Z.n_int (by decide +kernel))) (d_and (d_not (d_isi Z.n_isinstance Z.is_bool (dp_v 0) (cl_ty Z.n_bool (by decide +kernel)))) (d_one (d_cmp (ol_eq c.room.units) (d_v 0) (d_v 1)))))))
  ds_nil)
  (ds_cons (ds_if (d_tval (d_isi Z.n_isinstance Z.is_str (dp_v 1) (cl_ty Z.n_str (by decide +kernel))))
  (ds_one (ds_ret (d_and (d_isi Z.n_isinstance Z.is_str (dp_v 0) (cl_ty Z.n_str (by decide +kernel))) (d_one (d_cmp (ol_eq c.room.units) (d_v 0) (d_v 1))))))
  ds_nil)
  (ds_cons (ds_if (d_tcmp (ol_ne c.room.units) (d_isi Z.n_isinstance Z.is_list (dp_v 1) (cl_ty Z.n_list (by decide +kernel))) (d_isi Z.n_isinstance Z.is_list (dp_v 0) (cl_ty Z.n_list (by decide +kernel))))
  (ds_one (ds_ret d_bl))
  ds_nil)
  (ds_cons (ds_if (d_tcmp (ol_ne c.room.units) (d_isi Z.n_isinstance Z.is_tuple (dp_v 1) (cl_ty Z.n_tuple (by decide +kernel))) (d_isi Z.n_isinstance Z.is_tuple (dp_v 0) (cl_ty Z.n_tuple (by decide +kernel))))
  (ds_one (ds_ret d_bl))
  ds_nil)
  (ds_cons (ds_if (dw_and (d_tnot (d_tval (d_isi Z.n_isinstance Z.is_list (dp_v 1) (cl_ty Z.n_list (by decide +kernel))))) (dw_and1 (d_tnot (d_tval (d_isi Z.n_isinstance Z.is_tuple (dp_v 1) (cl_ty Z.n_tuple (by decide +kernel))))))).pt
  (ds_one (ds_ret d_bl))
  ds_nil)
  (ds_cons (ds_if (d_tcmp (ol_ne c.room.units) (d_len Z.n_len (dp_v 0)) (d_len Z.n_len (dp_v 1)))
  (ds_one (ds_ret d_bl))
  ds_nil)
  (ds_cons (ds_for c.hp c.calm (di_range Z.n_range (d_len Z.n_len (dp_v 1))) (dg_name c.nd)
  (ds_one (ds_if (d_tnot (d_tval (d_call c hself Z.g__law_equal Z.k__law_equal (da_cons (d_ixN 0 (d_v 2)) (da_cons (d_ixN 1 (d_v 2)) da_nil)) (hk := by omega))))
  (ds_one (ds_ret d_bl))
  ds_nil)))
  (ds_one (ds_ret d_bl))))))))))))) (F.bindsN fun _ _ _ _ _ _ us hl => match us, hl with | [_, _], _ => rfl)) 12
/-! ### _law_bad_mode -/
noncomputable def b__law_bad_mode : M Fl := (seqD (setD 1 (callO m__law_mode 0 nilA))
  (seqD (setD 2 (lstD (consA (bin addD (getV 1) (pure (.str " "))) (consA (bin addD (pure (.str " ")) (getV 1)) (consA (slN 1 (somePart (pure (.int 1))) noPart) (consA (slN 1 noPart (somePart (bin subD (una lenD (peekV 1)) (pure (.int 1))))) (consA (una upperD (getV 1)) (consA (replM "-" "_" (getV 1)) nilA))))))))
  (seqD (setD 2 (bin addD (getV 2) (lstD (consA (bin addD (getV 1) (ixN_ 1 (bin subD (una lenD (peekV 1)) (pure (.int 1))))) (consA (ixE ((getV 1) >>= fun x => guardM (match x with | .str _ => true | _ => false) ((pure (.str "-")) >>= fun y => splitD x y)) (pure (.int 0))) (consA (bin addD (pure (.str "nearest-")) (getV 1)) (consA (pure (.str "")) nilA)))))))
  (seqD (setD 3 (ixN_ 2 (callO m__law_draw 0 (consA (pure (.int 10)) nilA))))
  (seqD (ifD (tst (bin inD (getV 3) (appV m__law_modes [])))
  (retD (bin addD (getV 3) (pure (.str "-"))))
  (pure .nx))
  (retD (getV 3)))))))
noncomputable def m__law_bad_mode : MF := runB 4 1 1 b__law_bad_mode
theorem sc__law_bad_mode : FnScope ["source", "mode", "texts", "text"] ["source"] (defScope (top 29)) := ⟨rfl, rfl, rfl, by decide +kernel, rfl, by decide +kernel, by decide +kernel⟩
theorem o__law_bad_mode {P : Program} {w : World} {K : PySem.W.Frag} {mg : Str → Option Value} {base : Heap} (Z : Hd P w K mg base) (h__law_mode : FnG P w K mg base 2 (ga K "_law_mode") m__law_mode) (h__law_draw : FnG P w K mg base 1 (ga K "_law_draw") m__law_draw) (h__law_modes : FnG P w K mg base 1 (ga K "_law_modes") m__law_modes) : ∃ fd, FunD K "_law_bad_mode" "_law_bad_mode" (defArgs (top 29)) (defBody (top 29)) (defScope (top 29)) [] [] (ga K "_law_bad_mode") fd ∧ FnOk P w K mg base (L2.CX P w) 3 (ga K "_law_bad_mode") fd ["source"] (spD K m__law_bad_mode) := by
  obtain ⟨fd, F⟩ := Z.d__law_bad_mode
  exact ⟨fd, F, fn_def F sc__law_bad_mode (by decide) (fun cdv A outer s H E c => (ds_cons (ds_set c.nd (d_callO 0 c h__law_mode Z.g__law_mode Z.k__law_mode da_nil (hk := by decide)))
  (ds_cons (ds_set c.nd (d_lst (da_mint (dm_addC ol_add (d_v 1)) (dat_cons (dt_of (d_bin ol_add d_str (d_v 1))) (dat_cons (dt_of (d_slN 1 (do_some d_int) do_none)) (dat_cons (dt_of (d_slN 1 do_none (do_some (d_bin ol_sub (d_len Z.n_len (dp_v 1)) d_int)))) (dat_cons (dt_of (d_upper (d_v 1))) (dat_cons (dt_repl (d_v 1)) dat_nil))))))))
  (ds_cons (ds_set c.nd (d_bin ol_add (d_v 2) (d_lst (da_cons (d_bin ol_add (d_v 1) (d_ixN 1 (d_bin ol_sub (d_len Z.n_len (dp_v 1)) d_int))) (da_cons (d_ixE (d_split (d_v 1) d_str) d_int) (da_cons (d_bin ol_add d_str (d_v 1)) (da_cons d_str da_nil)))))))
  (ds_cons (ds_set c.nd (d_ixN 2 (d_callO 0 c h__law_draw Z.g__law_draw Z.k__law_draw (da_cons d_int da_nil) (hk := by decide))))
  (ds_cons (ds_if (d_tcmp ol_in (d_v 3) (d_call0 c h__law_modes Z.g__law_modes Z.k__law_modes (hk := by decide)))
  (ds_one (ds_ret (d_bin ol_add (d_v 3) d_str)))
  ds_nil)
  (ds_one (ds_ret (d_v 3)))))))))⟩
theorem h__law_bad_mode {P : Program} {w : World} {K : PySem.W.Frag} {mg : Str → Option Value} {base : Heap} (Z : Hd P w K mg base) (h__law_mode : FnG P w K mg base 2 (ga K "_law_mode") m__law_mode) (h__law_draw : FnG P w K mg base 1 (ga K "_law_draw") m__law_draw) (h__law_modes : FnG P w K mg base 1 (ga K "_law_modes") m__law_modes) : FnG P w K mg base 3 (ga K "_law_bad_mode") m__law_bad_mode := by
  obtain ⟨fd, F, H⟩ := o__law_bad_mode Z h__law_mode h__law_draw h__law_modes
  exact fn_pos H (F.bindsN fun _ _ _ _ _ _ us hl => match us, hl with | [_], _ => rfl)
noncomputable def bx__law_error (xa : Addr) (xd : Option Addr) (xx : Xc) : M Fl := (seqD (setD 1 (lstD (consA (xcV 0 xa xd >>= xisD (xtab "BadCount") xx.cls) (consA (xcV 0 xa xd >>= xisD (xtab "BadStep") xx.cls) (consA (xcV 0 xa xd >>= xisD (xtab "NoPart") xx.cls) (consA (xcV 0 xa xd >>= xisD (xtab "NoStep") xx.cls) nilA))))))
  (seqD (ifD (tst (bin neD (una countTD (peekV 1)) (pure (.int 1))))
  (retD (lstD (consA (pure (.str "other")) nilA)))
  (pure .nx))
  (seqD (ifD (tst (ixN_ 1 (pure (.int 0))))
  (retD (lstD (consA (pure (.str "count")) (consA (xcV 0 xa xd >>= xfldD ["BadCount"] xx.cls "count") nilA))))
  (pure .nx))
  (seqD (ifD (tst (ixN_ 1 (pure (.int 1))))
  (retD (lstD (consA (pure (.str "badstep")) (consA (xcV 0 xa xd >>= xfldD ["BadStep", "NoStep", "StepFailed"] xx.cls "number") (consA (xcV 0 xa xd >>= xfldD ["BadStep"] xx.cls "part") nilA)))))
  (pure .nx))
  (seqD (ifD (tst (ixN_ 1 (pure (.int 2))))
  (retD (lstD (consA (pure (.str "part")) (consA (xcV 0 xa xd >>= xfldD ["NoPart"] xx.cls "index") nilA))))
  (pure .nx))
  (seqD (ifD (tst (ixN_ 1 (pure (.int 3))))
  (retD (lstD (consA (pure (.str "step")) (consA (xcV 0 xa xd >>= xfldD ["BadStep", "NoStep", "StepFailed"] xx.cls "number") nilA))))
  (pure .nx))
  (retD (lstD (consA (pure (.str "other")) nilA)))))))))
noncomputable def mx__law_error : MX := runX 2 bx__law_error
theorem sc__law_error : FnScope ["e", "kinds"] ["e"] (defScope (top 30)) := ⟨rfl, rfl, rfl, by decide +kernel, rfl, by decide +kernel, by decide +kernel⟩
theorem h__law_error {P : Program} {w : World} {K : PySem.W.Frag} {mg : Str → Option Value} {base : Heap} (Z : Hd P w K mg base) : FnX P w K mg base 1 (ga K "_law_error") mx__law_error := by
  obtain ⟨fd, F⟩ := Z.d__law_error
  exact fnX_def F sc__law_error (F.bindsN fun _ _ _ _ _ _ us hl => match us, hl with | [_], _ => rfl) fun cdv A outer s H p xd xx c => (ds_cons (ds_set c.nd (d_lst (da_cons (d_xis 0 c Z.xi_BadCount Z.n_isinstance Z.g_BadCount) (da_cons (d_xis 0 c Z.xi_BadStep Z.n_isinstance Z.g_BadStep) (da_cons (d_xis 0 c Z.xi_NoPart Z.n_isinstance Z.g_NoPart) (da_cons (d_xis 0 c Z.xi_NoStep Z.n_isinstance Z.g_NoStep) da_nil))))))
  (ds_cons (ds_if (d_tcmp (ol_ne c.units) (d_countT (dp_v 1)) d_int)
  (ds_one (ds_ret (d_lst (da_cons d_str da_nil))))
  ds_nil)
  (ds_cons (ds_if (d_tval (d_ixN 1 d_int))
  (ds_one (ds_ret (d_lst (da_cons d_str (da_cons (d_xf 0 c Z.xf_count) da_nil)))))
  ds_nil)
  (ds_cons (ds_if (d_tval (d_ixN 1 d_int))
  (ds_one (ds_ret (d_lst (da_cons d_str (da_cons (d_xf 0 c Z.xf_number) (da_cons (d_xf 0 c Z.xf_part) da_nil))))))
  ds_nil)
  (ds_cons (ds_if (d_tval (d_ixN 1 d_int))
  (ds_one (ds_ret (d_lst (da_cons d_str (da_cons (d_xf 0 c Z.xf_index) da_nil)))))
  ds_nil)
  (ds_cons (ds_if (d_tval (d_ixN 1 d_int))
  (ds_one (ds_ret (d_lst (da_cons d_str (da_cons (d_xf 0 c Z.xf_number) da_nil)))))
  ds_nil)
  (ds_one (ds_ret (d_lst (da_cons d_str da_nil))))))))))
/-! ### _law_built -/
noncomputable def b__law_built : M Fl := (seqD (setD 1 (appM "Circuit" m_Circuit_D__init_D_ []))
  (seqD (forM' (setV 2)
  (setD 1 (bin (own2 "Circuit" (isCls "Gate") m_Circuit_D__add_D_) (getV 1) (makeD "Gate" m_Gate_D__init_D_ (consA (ixN_ 2 (pure (.int 0))) (consA (ixN_ 2 (pure (.int 1))) (consA (ixN_ 2 (pure (.int 2))) (consA (ixN_ 2 (pure (.int 3))) nilA))))))) (overL (getV 0)))
  (retD (getV 1))))
noncomputable def m__law_built : MF := runB 3 1 0 b__law_built
theorem sc__law_built : FnScope ["rows", "circuit", "row"] ["rows"] (defScope (top 31)) := ⟨rfl, rfl, rfl, by decide +kernel, rfl, by decide +kernel, by decide +kernel⟩
theorem o__law_built {P : Program} {w : World} {K : PySem.W.Frag} {mg : Str → Option Value} {base : Heap} (Z : Hd P w K mg base) (h_Circuit_D__init_D_ : FnG P w K mg base 2 (He.ma K (ga K "Circuit") "__init__") m_Circuit_D__init_D_) (h_Circuit_D__add_D_ : FnG P w K mg base 4 (He.ma K (ga K "Circuit") "__add__") m_Circuit_D__add_D_) (h_Gate_D__init_D_ : FnG P w K mg base 1 (He.ma K (ga K "Gate") "__init__") m_Gate_D__init_D_) : ∃ fd, FunD K "_law_built" "_law_built" (defArgs (top 31)) (defBody (top 31)) (defScope (top 31)) [] [] (ga K "_law_built") fd ∧ FnOk P w K mg base (L2.CX P w) 5 (ga K "_law_built") fd ["rows"] (spD K m__law_built) := by
  obtain ⟨fd, F⟩ := Z.d__law_built
  exact ⟨fd, F, fn_def F sc__law_built (by decide) (fun cdv A outer s H E c => (ds_cons (ds_set c.nd (d_make0 c h_Circuit_D__init_D_ Z.mk_Circuit Z.g_Circuit (hk := by decide)))
  (ds_cons (ds_for c.hp c.calm (di_lst (d_v 0)) (dg_name c.nd)
  (ds_one (ds_set c.nd (d_binS (os_binN (nm := "add") rfl c h_Circuit_D__add_D_ Z.me_Circuit__D_add_D_ Z.sf_Circuit Z.nn_Gate_add Z.ne_Gate_Circuit (hk := by decide)) (d_v 1) (d_make c h_Gate_D__init_D_ Z.mk_Gate Z.g_Gate (da_cons (d_ixN 2 d_int) (da_cons (d_ixN 2 d_int) (da_cons (d_ixN 2 d_int) (da_cons (d_ixN 2 d_int) da_nil)))) (hk := by decide))))))
  (ds_one (ds_ret (d_v 1))))))⟩
theorem h__law_built {P : Program} {w : World} {K : PySem.W.Frag} {mg : Str → Option Value} {base : Heap} (Z : Hd P w K mg base) (h_Circuit_D__init_D_ : FnG P w K mg base 2 (He.ma K (ga K "Circuit") "__init__") m_Circuit_D__init_D_) (h_Circuit_D__add_D_ : FnG P w K mg base 4 (He.ma K (ga K "Circuit") "__add__") m_Circuit_D__add_D_) (h_Gate_D__init_D_ : FnG P w K mg base 1 (He.ma K (ga K "Gate") "__init__") m_Gate_D__init_D_) : FnG P w K mg base 5 (ga K "_law_built") m__law_built := by
  obtain ⟨fd, F, H⟩ := o__law_built Z h_Circuit_D__init_D_ h_Circuit_D__add_D_ h_Gate_D__init_D_
  exact fn_pos H (F.bindsN fun _ _ _ _ _ _ us hl => match us, hl with | [_], _ => rfl)
/-! ### _law_gates -/
noncomputable def b__law_gates : M Fl := (seqD (setF 3 (dispF nilA))
  (seqD (forM' (setV 4)
  (seqD (setD 5 (ixE (lstD (consA (pure (.str "+")) (consA (pure (.str "-")) (consA (pure (.str "*")) (consA (pure (.str "<<")) nilA))))) (callO m__law_draw 0 (consA (pure (.int 4)) nilA))))
  (seqD (setD 6 (callO m__law_draw 0 (consA (bin addD (getV 4) (pure (.int 2))) nilA)))
  (seqD (ifD (tst (bin eqD (getV 5) (pure (.str "<<"))))
  (setD 6 (bin subD (callO m__law_draw 0 (consA (pure (.int 401)) nilA)) (pure (.int 200))))
  (pure .nx))
  (appN 3 (tupD (consA (getV 5) (consA (callO m__law_draw 0 (consA (bin addD (getV 4) (pure (.int 2))) nilA)) (consA (getV 6) (consA (callO m__law_mode 0 nilA) nilA))))))))) (overN (callO m__law_draw 0 (consA (bin addD (getV 1) (pure (.int 1))) nilA))))
  (retD (getV 3))))
noncomputable def m__law_gates : MF := runB 7 3 1 b__law_gates
theorem sc__law_gates : FnScope ["source", "most", "first", "rows", "k", "operation", "right"] ["source", "most", "first"] (defScope (top 32)) := ⟨rfl, rfl, rfl, by decide +kernel, rfl, by decide +kernel, by decide +kernel⟩
theorem o__law_gates {P : Program} {w : World} {K : PySem.W.Frag} {mg : Str → Option Value} {base : Heap} (Z : Hd P w K mg base) (h__law_draw : FnG P w K mg base 1 (ga K "_law_draw") m__law_draw) (h__law_mode : FnG P w K mg base 2 (ga K "_law_mode") m__law_mode) : ∃ fd, FunD K "_law_gates" "_law_gates" (defArgs (top 32)) (defBody (top 32)) (defScope (top 32)) [] [] (ga K "_law_gates") fd ∧ FnOk P w K mg base (L2.CX P w) 3 (ga K "_law_gates") fd ["source", "most", "first"] (spD K m__law_gates) := by
  obtain ⟨fd, F⟩ := Z.d__law_gates
  exact ⟨fd, F, fn_def F sc__law_gates (by decide) (fun cdv A outer s H E c => (ds_cons (ds_setF c.nd (f_lst da_nil))
  (ds_cons (ds_for c.hp c.calm (di_range Z.n_range (d_callO 0 c h__law_draw Z.g__law_draw Z.k__law_draw (da_cons (d_bin ol_add (d_v 1) d_int) da_nil) (hk := by decide))) (dg_name c.nd)
  (ds_cons (ds_set c.nd (d_ixE (d_lst (da_cons d_str (da_cons d_str (da_cons d_str (da_cons d_str da_nil))))) (d_callO 0 c h__law_draw Z.g__law_draw Z.k__law_draw (da_cons d_int da_nil) (hk := by decide))))
  (ds_cons (ds_set c.nd (d_callO 0 c h__law_draw Z.g__law_draw Z.k__law_draw (da_cons (d_bin ol_add (d_v 4) d_int) da_nil) (hk := by decide)))
  (ds_cons (ds_if (d_tcmp (ol_eq c.room.units) (d_v 5) d_str)
  (ds_one (ds_set c.nd (d_bin ol_sub (d_callO 0 c h__law_draw Z.g__law_draw Z.k__law_draw (da_cons d_int da_nil) (hk := by decide)) d_int)))
  ds_nil)
  (ds_one (ds_app 3 (d_tup (da_cons (d_v 5) (da_cons (d_callO 0 c h__law_draw Z.g__law_draw Z.k__law_draw (da_cons (d_bin ol_add (d_v 4) d_int) da_nil) (hk := by decide)) (da_cons (d_v 6) (da_cons (d_callO 0 c h__law_mode Z.g__law_mode Z.k__law_mode da_nil (hk := by decide)) da_nil)))))))))))
  (ds_one (ds_ret (d_v 3))))))⟩
theorem h__law_gates {P : Program} {w : World} {K : PySem.W.Frag} {mg : Str → Option Value} {base : Heap} (Z : Hd P w K mg base) (h__law_draw : FnG P w K mg base 1 (ga K "_law_draw") m__law_draw) (h__law_mode : FnG P w K mg base 2 (ga K "_law_mode") m__law_mode) : FnG P w K mg base 3 (ga K "_law_gates") m__law_gates := by
  obtain ⟨fd, F, H⟩ := o__law_gates Z h__law_draw h__law_mode
  exact fn_pos H (F.bindsN fun _ _ _ _ _ _ us hl => match us, hl with | [_, _, _], _ => rfl)
/-! ### _law_rows_of -/
noncomputable def b__law_rows_of : M Fl := (retD (frzD (lcM 1 (overO "Circuit" "gates" (getV 0)) (pure true) (tupD (consA (una (fldD ["Gate"] "operation") (peekV 1)) (consA (una (fldD ["Gate"] "left") (peekV 1)) (consA (una (fldD ["Gate"] "right") (peekV 1)) (consA (una (fldD ["Gate"] "mode") (peekV 1)) nilA))))))))
noncomputable def m__law_rows_of : MF := runB 2 1 0 b__law_rows_of
theorem sc__law_rows_of : FnScope ["circuit", "gate"] ["circuit"] (defScope (top 33)) := ⟨rfl, rfl, rfl, by decide +kernel, rfl, by decide +kernel, by decide +kernel⟩
theorem o__law_rows_of {P : Program} {w : World} {K : PySem.W.Frag} {mg : Str → Option Value} {base : Heap} (Z : Hd P w K mg base) (h_Circuit_D__iter_D_ : FnIter P w K mg base 1 (He.ma K (ga K "Circuit") "__iter__") "Circuit" "gates") : ∃ fd, FunD K "_law_rows_of" "_law_rows_of" (defArgs (top 33)) (defBody (top 33)) (defScope (top 33)) [] [] (ga K "_law_rows_of") fd ∧ FnOk P w K mg base (L2.CX P w) 2 (ga K "_law_rows_of") fd ["circuit"] (spD K m__law_rows_of) := by
  obtain ⟨fd, F⟩ := Z.d__law_rows_of
  exact ⟨fd, F, fn_def F sc__law_rows_of (by decide) (fun cdv A outer s H E c => (ds_one (ds_ret (d_f (f_lc c (blk_of (by rfl)) (di_own c ⟨(Z.me_Circuit__D_iter_D_).at_, (Z.me_Circuit__D_iter_D_).fn⟩ h_Circuit_D__iter_D_ (d_v 0) (hk := by decide)) (fun s H C cl fp c => (d_tup (da_cons (d_fld Z.f_Gate_operation (dp_v 1)) (da_cons (d_fld Z.f_Gate_left (dp_v 1)) (da_cons (d_fld Z.f_Gate_right (dp_v 1)) (da_cons (d_fld Z.f_Gate_mode (dp_v 1)) da_nil)))))))))))⟩
theorem h__law_rows_of {P : Program} {w : World} {K : PySem.W.Frag} {mg : Str → Option Value} {base : Heap} (Z : Hd P w K mg base) (h_Circuit_D__iter_D_ : FnIter P w K mg base 1 (He.ma K (ga K "Circuit") "__iter__") "Circuit" "gates") : FnG P w K mg base 2 (ga K "_law_rows_of") m__law_rows_of := by
  obtain ⟨fd, F, H⟩ := o__law_rows_of Z h_Circuit_D__iter_D_
  exact fn_pos H (F.bindsN fun _ _ _ _ _ _ us hl => match us, hl with | [_], _ => rfl)
/-! ### _law_refused -/
noncomputable def b__law_refused : M Fl := (seqD (tryX 5 (etab "LostError") mx__law_error (ifD (tst (bin eqD (getV 1) (pure (.int 0))))
  (exprD (bin (own2 "Circuit" (isCls "Gate") m_Circuit_D__add_D_) (getV 0) (getV 2)))
  (ifD (tst (bin eqD (getV 1) (pure (.int 1))))
  (exprD (bin (ixO "Circuit" m_Circuit_D__getitem_D_) (getV 0) (getV 3)))
  (exprD (callV m_chained (consA (getV 0) (consA (getV 2) (consA (getV 3) (consA (getV 4) nilA)))))))))
  (retD (lstD (consA (pure (.str "told")) nilA))))
noncomputable def m__law_refused : MF := runB 6 5 0 b__law_refused
theorem sc__law_refused : FnScope ["circuit", "way", "what", "i", "j", "e"] ["circuit", "way", "what", "i", "j"] (defScope (top 34)) := ⟨rfl, rfl, rfl, by decide +kernel, rfl, by decide +kernel, by decide +kernel⟩
theorem o__law_refused {P : Program} {w : World} {K : PySem.W.Frag} {mg : Str → Option Value} {base : Heap} (Z : Hd P w K mg base) (h__law_error : FnX P w K mg base 1 (ga K "_law_error") mx__law_error) (h_Circuit_D__add_D_ : FnG P w K mg base 4 (He.ma K (ga K "Circuit") "__add__") m_Circuit_D__add_D_) (h_Circuit_D__getitem_D_ : FnG P w K mg base 2 (He.ma K (ga K "Circuit") "__getitem__") m_Circuit_D__getitem_D_) (h_chained : FnG P w K mg base 4 (ga K "chained") m_chained) : ∃ fd, FunD K "_law_refused" "_law_refused" (defArgs (top 34)) (defBody (top 34)) (defScope (top 34)) [] [] (ga K "_law_refused") fd ∧ FnOk P w K mg base (L2.CX P w) 5 (ga K "_law_refused") fd ["circuit", "way", "what", "i", "j"] (spD K m__law_refused) := by
  obtain ⟨fd, F⟩ := Z.d__law_refused
  exact ⟨fd, F, fn_def F sc__law_refused (by decide) (fun cdv A outer s H E c => (ds_cons (ds_tryX (i := 5) c rfl rfl Z.em_LostError Z.g_LostError h__law_error Z.g__law_error Z.k__law_error (fun W pn xe c => (ds_one (ds_if (d_tcmp (ol_eq c.room.units) (d_v 1) d_int)
  (ds_one (ds_expr (d_binS (os_binN (nm := "add") rfl c h_Circuit_D__add_D_ Z.me_Circuit__D_add_D_ Z.sf_Circuit Z.nn_Gate_add Z.ne_Gate_Circuit (hk := by decide)) (d_v 0) (d_v 2))))
  (ds_one (ds_if (d_tcmp (ol_eq c.room.units) (d_v 1) d_int)
  (ds_one (ds_expr (d_ixO c h_Circuit_D__getitem_D_ Z.me_Circuit__D_getitem_D_ Z.fi_Circuit_D__getitem_D_ (d_v 0) (d_v 3) (hk := by decide))))
  (ds_one (ds_expr (d_call c h_chained Z.g_chained Z.k_chained (da_cons (d_v 0) (da_cons (d_v 2) (da_cons (d_v 3) (da_cons (d_v 4) da_nil)))) (hk := by decide))))))))) (hk := by decide))
  (ds_one (ds_ret (d_lst (da_cons d_str da_nil))))))⟩
theorem h__law_refused {P : Program} {w : World} {K : PySem.W.Frag} {mg : Str → Option Value} {base : Heap} (Z : Hd P w K mg base) (h__law_error : FnX P w K mg base 1 (ga K "_law_error") mx__law_error) (h_Circuit_D__add_D_ : FnG P w K mg base 4 (He.ma K (ga K "Circuit") "__add__") m_Circuit_D__add_D_) (h_Circuit_D__getitem_D_ : FnG P w K mg base 2 (He.ma K (ga K "Circuit") "__getitem__") m_Circuit_D__getitem_D_) (h_chained : FnG P w K mg base 4 (ga K "chained") m_chained) : FnG P w K mg base 5 (ga K "_law_refused") m__law_refused := by
  obtain ⟨fd, F, H⟩ := o__law_refused Z h__law_error h_Circuit_D__add_D_ h_Circuit_D__getitem_D_ h_chained
  exact fn_pos H (F.bindsN fun _ _ _ _ _ _ us hl => match us, hl with | [_, _, _, _, _], _ => rfl)
/-! ### _law_bad_gate -/
noncomputable def b__law_bad_gate : M Fl := (seqD (setD 2 (callO m__law_draw 0 (consA (pure (.int 16)) nilA)))
  (seqD (setD 3 (ixE (lstD (consA (pure (.str "+")) (consA (pure (.str "-")) (consA (pure (.str "*")) (consA (pure (.str "<<")) nilA))))) (callO m__law_draw 0 (consA (pure (.int 4)) nilA))))
  (seqD (setD 4 (callO m__law_draw 0 (consA (bin addD (getV 1) (pure (.int 1))) nilA)))
  (seqD (setD 5 (callO m__law_draw 0 (consA (bin addD (getV 1) (pure (.int 1))) nilA)))
  (seqD (ifD (tst (bin eqD (getV 3) (pure (.str "<<"))))
  (setD 4 (ixE (lstD (consA (pure (.int 200)) (consA (bin subD (pure (.int 0)) (pure (.int 200))) (consA (pure (.int 0)) nilA)))) (callO m__law_draw 0 (consA (pure (.int 3)) nilA))))
  (pure .nx))
  (seqD (setD 6 (callO m__law_mode 0 nilA))
  (seqD (setD 7 (pure .non))
  (seqD (ifD (tst (bin gtD (getV 2) (pure (.int 7))))
  (seqD (setD 6 (callO m__law_bad_mode 0 nilA))
  (setD 7 (pure (.str "mode"))))
  (pure .nx))
  (seqD (ifD (tst (bin eqD (bin modD (una intD (bin fdivD (getV 2) (pure (.int 4)))) (pure (.int 2))) (pure (.int 1))))
  (seqD (setD 4 (ixE (lstD (consA (bin addD (getV 1) (pure (.int 1))) (consA (bin subD (pure (.int 0)) (pure (.int 1))) nilA))) (callO m__law_draw 0 (consA (pure (.int 2)) nilA))))
  (seqD (ifD (tst (bin eqD (getV 3) (pure (.str "<<"))))
  (setD 4 (ixE (lstD (consA (pure (.int 201)) (consA (bin subD (pure (.int 0)) (pure (.int 201))) nilA))) (callO m__law_draw 0 (consA (pure (.int 2)) nilA))))
  (pure .nx))
  (setD 7 (pure (.str "right")))))
  (pure .nx))
  (seqD (ifD (tst (bin eqD (bin modD (una intD (bin fdivD (getV 2) (pure (.int 2)))) (pure (.int 2))) (pure (.int 1))))
  (seqD (setD 5 (ixE (lstD (consA (bin addD (getV 1) (pure (.int 1))) (consA (bin subD (pure (.int 0)) (pure (.int 1))) nilA))) (callO m__law_draw 0 (consA (pure (.int 2)) nilA))))
  (setD 7 (pure (.str "left"))))
  (pure .nx))
  (seqD (ifD (tst (bin eqD (bin modD (una intD (getV 2)) (pure (.int 2))) (pure (.int 1))))
  (seqD (setD 3 (ixE (lstD (consA (pure (.str "")) (consA (pure (.str "/")) (consA (pure (.str ">>")) (consA (pure (.str "<")) (consA (pure (.str "++")) nilA)))))) (callO m__law_draw 0 (consA (pure (.int 5)) nilA))))
  (setD 7 (pure (.str "operation"))))
  (pure .nx))
  (retD (lstD (consA (makeD "Gate" m_Gate_D__init_D_ (consA (getV 3) (consA (getV 5) (consA (getV 4) (consA (getV 6) nilA))))) (consA (getV 7) nilA)))))))))))))))
noncomputable def m__law_bad_gate : MF := runB 8 2 1 b__law_bad_gate
theorem sc__law_bad_gate : FnScope ["source", "number", "bad", "operation", "right", "left", "mode", "part"] ["source", "number"] (defScope (top 35)) := ⟨rfl, rfl, rfl, by decide +kernel, rfl, by decide +kernel, by decide +kernel⟩
theorem o__law_bad_gate {P : Program} {w : World} {K : PySem.W.Frag} {mg : Str → Option Value} {base : Heap} (Z : Hd P w K mg base) (h__law_draw : FnG P w K mg base 1 (ga K "_law_draw") m__law_draw) (h__law_mode : FnG P w K mg base 2 (ga K "_law_mode") m__law_mode) (h__law_bad_mode : FnG P w K mg base 3 (ga K "_law_bad_mode") m__law_bad_mode) (h_Gate_D__init_D_ : FnG P w K mg base 1 (He.ma K (ga K "Gate") "__init__") m_Gate_D__init_D_) : ∃ fd, FunD K "_law_bad_gate" "_law_bad_gate" (defArgs (top 35)) (defBody (top 35)) (defScope (top 35)) [] [] (ga K "_law_bad_gate") fd ∧ FnOk P w K mg base (L2.CX P w) 4 (ga K "_law_bad_gate") fd ["source", "number"] (spD K m__law_bad_gate) := by
  obtain ⟨fd, F⟩ := Z.d__law_bad_gate
  exact ⟨fd, F, fn_def F sc__law_bad_gate (by decide) (fun cdv A outer s H E c => (ds_cons (ds_set c.nd (d_callO 0 c h__law_draw Z.g__law_draw Z.k__law_draw (da_cons d_int da_nil) (hk := by decide)))
  (ds_cons (ds_set c.nd (d_ixE (d_lst (da_cons d_str (da_cons d_str (da_cons d_str (da_cons d_str da_nil))))) (d_callO 0 c h__law_draw Z.g__law_draw Z.k__law_draw (da_cons d_int da_nil) (hk := by decide))))
  (ds_cons (ds_set c.nd (d_callO 0 c h__law_draw Z.g__law_draw Z.k__law_draw (da_cons (d_bin ol_add (d_v 1) d_int) da_nil) (hk := by decide)))
  (ds_cons (ds_set c.nd (d_callO 0 c h__law_draw Z.g__law_draw Z.k__law_draw (da_cons (d_bin ol_add (d_v 1) d_int) da_nil) (hk := by decide)))
  (ds_cons (ds_if (d_tcmp (ol_eq c.room.units) (d_v 3) d_str)
  (ds_one (ds_set c.nd (d_ixE (d_lst (da_cons d_int (da_cons (d_bin ol_sub d_int d_int) (da_cons d_int da_nil)))) (d_callO 0 c h__law_draw Z.g__law_draw Z.k__law_draw (da_cons d_int da_nil) (hk := by decide)))))
  ds_nil)
  (ds_cons (ds_set c.nd (d_callO 0 c h__law_mode Z.g__law_mode Z.k__law_mode da_nil (hk := by decide)))
  (ds_cons (ds_set c.nd d_non)
  (ds_cons (ds_if (d_tcmp ol_gt (d_v 2) d_int)
  (ds_cons (ds_set c.nd (d_callO 0 c h__law_bad_mode Z.g__law_bad_mode Z.k__law_bad_mode da_nil (hk := by decide)))
  (ds_one (ds_set c.nd d_str)))
  ds_nil)
  (ds_cons (ds_if (d_tcmp (ol_eq c.room.units) (d_bin ol_mod (d_toInt Z.n_int (d_bin ol_fdiv (d_v 2) d_int)) d_int) d_int)
  (ds_cons (ds_set c.nd (d_ixE (d_lst (da_cons (d_bin ol_add (d_v 1) d_int) (da_cons (d_bin ol_sub d_int d_int) da_nil))) (d_callO 0 c h__law_draw Z.g__law_draw Z.k__law_draw (da_cons d_int da_nil) (hk := by decide))))
  (ds_cons (ds_if (d_tcmp (ol_eq c.room.units) (d_v 3) d_str)
  (ds_one (ds_set c.nd (d_ixE (d_lst (da_cons d_int (da_cons (d_bin ol_sub d_int d_int) da_nil))) (d_callO 0 c h__law_draw Z.g__law_draw Z.k__law_draw (da_cons d_int da_nil) (hk := by decide)))))
  ds_nil)
  (ds_one (ds_set c.nd d_str))))
  ds_nil)
  (ds_cons (ds_if (d_tcmp (ol_eq c.room.units) (d_bin ol_mod (d_toInt Z.n_int (d_bin ol_fdiv (d_v 2) d_int)) d_int) d_int)
  (ds_cons (ds_set c.nd (d_ixE (d_lst (da_cons (d_bin ol_add (d_v 1) d_int) (da_cons (d_bin ol_sub d_int d_int) da_nil))) (d_callO 0 c h__law_draw Z.g__law_draw Z.k__law_draw (da_cons d_int da_nil) (hk := by decide))))
  (ds_one (ds_set c.nd d_str)))
  ds_nil)
  (ds_cons (ds_if (d_tcmp (ol_eq c.room.units) (d_bin ol_mod (d_toInt Z.n_int (d_v 2)) d_int) d_int)
  (ds_cons (ds_set c.nd (d_ixE (d_lst (da_cons d_str (da_cons d_str (da_cons d_str (da_cons d_str (da_cons d_str da_nil)))))) (d_callO 0 c h__law_draw Z.g__law_draw Z.k__law_draw (da_cons d_int da_nil) (hk := by decide))))
  (ds_one (ds_set c.nd d_str)))
  ds_nil)
  (ds_one (ds_ret (d_lst (da_cons (d_make c h_Gate_D__init_D_ Z.mk_Gate Z.g_Gate (da_cons (d_v 3) (da_cons (d_v 5) (da_cons (d_v 4) (da_cons (d_v 6) da_nil)))) (hk := by decide)) (da_cons (d_v 7) da_nil)))))))))))))))))⟩
theorem h__law_bad_gate {P : Program} {w : World} {K : PySem.W.Frag} {mg : Str → Option Value} {base : Heap} (Z : Hd P w K mg base) (h__law_draw : FnG P w K mg base 1 (ga K "_law_draw") m__law_draw) (h__law_mode : FnG P w K mg base 2 (ga K "_law_mode") m__law_mode) (h__law_bad_mode : FnG P w K mg base 3 (ga K "_law_bad_mode") m__law_bad_mode) (h_Gate_D__init_D_ : FnG P w K mg base 1 (He.ma K (ga K "Gate") "__init__") m_Gate_D__init_D_) : FnG P w K mg base 4 (ga K "_law_bad_gate") m__law_bad_gate := by
  obtain ⟨fd, F, H⟩ := o__law_bad_gate Z h__law_draw h__law_mode h__law_bad_mode h_Gate_D__init_D_
  exact fn_pos H (F.bindsN fun _ _ _ _ _ _ us hl => match us, hl with | [_, _], _ => rfl)
/-! ### _law_turned -/
noncomputable def b__law_turned : M Fl := (seqD (setD 4 (lstD (consA (getV 1) (consA (getV 2) nilA))))
  (seqD (setD 5 (bin addD (ixN_ 0 (pure (.int 1))) (getV 3)))
  (seqD (setD 6 (ixN_ 0 (pure (.int 2))))
  (seqD (ifD (tst (bin ltD (ixN_ 0 (pure (.int 1))) (pure (.int 2))))
  (setD 5 (ixN_ 4 (ixN_ 0 (pure (.int 1)))))
  (pure .nx))
  (seqD (ifD (tst (bin neD (ixN_ 0 (pure (.int 0))) (pure (.str "<<"))))
  (seqD (setD 6 (bin addD (ixN_ 0 (pure (.int 2))) (getV 3)))
  (ifD (tst (bin ltD (ixN_ 0 (pure (.int 2))) (pure (.int 2))))
  (setD 6 (ixN_ 4 (ixN_ 0 (pure (.int 2)))))
  (pure .nx)))
  (pure .nx))
  (retD (tupD (consA (ixN_ 0 (pure (.int 0))) (consA (getV 5) (consA (getV 6) (consA (ixN_ 0 (pure (.int 3))) nilA)))))))))))
noncomputable def m__law_turned : MF := runB 7 4 0 b__law_turned
theorem sc__law_turned : FnScope ["row", "i", "j", "more", "places", "left", "right"] ["row", "i", "j", "more"] (defScope (top 36)) := ⟨rfl, rfl, rfl, by decide +kernel, rfl, by decide +kernel, by decide +kernel⟩
theorem o__law_turned {P : Program} {w : World} {K : PySem.W.Frag} {mg : Str → Option Value} {base : Heap} (Z : Hd P w K mg base) : ∃ fd, FunD K "_law_turned" "_law_turned" (defArgs (top 36)) (defBody (top 36)) (defScope (top 36)) [] [] (ga K "_law_turned") fd ∧ FnOk P w K mg base (L2.CX P w) 1 (ga K "_law_turned") fd ["row", "i", "j", "more"] (spD K m__law_turned) := by
  obtain ⟨fd, F⟩ := Z.d__law_turned
  exact ⟨fd, F, fn_def F sc__law_turned (by decide) (fun cdv A outer s H E c => (ds_cons (ds_set c.nd (d_lst (da_cons (d_v 1) (da_cons (d_v 2) da_nil))))
  (ds_cons (ds_set c.nd (d_bin ol_add (d_ixN 0 d_int) (d_v 3)))
  (ds_cons (ds_set c.nd (d_ixN 0 d_int))
  (ds_cons (ds_if (d_tcmp ol_lt (d_ixN 0 d_int) d_int)
  (ds_one (ds_set c.nd (d_ixN 4 (d_ixN 0 d_int))))
  ds_nil)
  (ds_cons (ds_if (d_tcmp (ol_ne c.room.units) (d_ixN 0 d_int) d_str)
  (ds_cons (ds_set c.nd (d_bin ol_add (d_ixN 0 d_int) (d_v 3)))
  (ds_one (ds_if (d_tcmp ol_lt (d_ixN 0 d_int) d_int)
  (ds_one (ds_set c.nd (d_ixN 4 (d_ixN 0 d_int))))
  ds_nil)))
  ds_nil)
  (ds_one (ds_ret (d_tup (da_cons (d_ixN 0 d_int) (da_cons (d_v 5) (da_cons (d_v 6) (da_cons (d_ixN 0 d_int) da_nil)))))))))))))⟩
theorem h__law_turned {P : Program} {w : World} {K : PySem.W.Frag} {mg : Str → Option Value} {base : Heap} (Z : Hd P w K mg base) : FnG P w K mg base 1 (ga K "_law_turned") m__law_turned := by
  obtain ⟨fd, F, H⟩ := o__law_turned Z
  exact fn_pos H (F.bindsN fun _ _ _ _ _ _ us hl => match us, hl with | [_, _, _, _], _ => rfl)
/-! ### _law_chained_right -/
noncomputable def b__law_chained_right : M Fl := (seqD (setD 3 (callV m__law_built (consA (getV 1) nilA)))
  (seqD (setD 4 (callV m__law_built (consA (getV 2) nilA)))
  (seqD (setD 5 (callO m__law_draw 0 (consA (bin addD (una lenD (peekV 1)) (pure (.int 3))) nilA)))
  (seqD (setD 6 (callO m__law_draw 0 (consA (bin addD (una lenD (peekV 1)) (pure (.int 3))) nilA)))
  (seqD (setD 7 (lstD (consA (pure (.str "told")) nilA)))
  (seqD (ifD (tst (bin gtD (bin addD (una lenD (peekV 1)) (una lenD (peekV 2))) (pure (.int 24))))
  (setD 7 (lstD (consA (pure (.str "count")) (consA (bin addD (una lenD (peekV 1)) (una lenD (peekV 2))) nilA))))
  (pure .nx))
  (seqD (ifD (tst (bin gtD (getV 6) (bin addD (una lenD (peekV 1)) (pure (.int 1)))))
  (setD 7 (lstD (consA (pure (.str "part")) (consA (getV 6) nilA))))
  (pure .nx))
  (seqD (ifD (tst (bin gtD (getV 5) (bin addD (una lenD (peekV 1)) (pure (.int 1)))))
  (setD 7 (lstD (consA (pure (.str "part")) (consA (getV 5) nilA))))
  (pure .nx))
  (seqD (ifD (notT (tst (callV m__law_equal (consA (callV m__law_refused (consA (getV 3) (consA (pure (.int 2)) (consA (getV 4) (consA (getV 5) (consA (getV 6) nilA)))))) (consA (getV 7) nilA)))))
  (retD (pure (.bl false)))
  (pure .nx))
  (seqD (ifD (notT (tst (callV m__law_equal (consA (callV m__law_refused (consA (getV 3) (consA (pure (.int 2)) (consA (getV 4) (consA (bin subD (pure (.int 0)) (pure (.int 1))) (consA (getV 6) nilA)))))) (consA (lstD (consA (pure (.str "part")) (consA (bin subD (pure (.int 0)) (pure (.int 1))) nilA))) nilA)))))
  (retD (pure (.bl false)))
  (pure .nx))
  (seqD (ifD (tst (bin neD (getV 7) (lstD (consA (pure (.str "told")) nilA))))
  (retD (pure (.bl true)))
  (pure .nx))
  (seqD (setD 8 (callV m__law_rows_of (consA (callV m_chained (consA (getV 3) (consA (getV 4) (consA (getV 5) (consA (getV 6) nilA))))) nilA)))
  (retD (callV m__law_equal (consA (getV 8) (consA (bin addD (getV 1) (frzD (lcM 9 (overL (getV 2)) (pure true) (callV m__law_turned (consA (getV 9) (consA (getV 5) (consA (getV 6) (consA (una lenD (peekV 1)) nilA)))))))) nilA))))))))))))))))
noncomputable def m__law_chained_right : MF := runB 10 3 1 b__law_chained_right
theorem sc__law_chained_right : FnScope ["source", "rows", "others", "one", "two", "i", "j", "due", "told", "row"] ["source", "rows", "others"] (defScope (top 37)) := ⟨rfl, rfl, rfl, by decide +kernel, rfl, by decide +kernel, by decide +kernel⟩
theorem o__law_chained_right {P : Program} {w : World} {K : PySem.W.Frag} {mg : Str → Option Value} {base : Heap} (Z : Hd P w K mg base) (h__law_built : FnG P w K mg base 5 (ga K "_law_built") m__law_built) (h__law_draw : FnG P w K mg base 1 (ga K "_law_draw") m__law_draw) (h__law_equal : FnG P w K mg base 12 (ga K "_law_equal") m__law_equal) (h__law_refused : FnG P w K mg base 5 (ga K "_law_refused") m__law_refused) (h__law_rows_of : FnG P w K mg base 2 (ga K "_law_rows_of") m__law_rows_of) (h_chained : FnG P w K mg base 4 (ga K "chained") m_chained) (h__law_turned : FnG P w K mg base 1 (ga K "_law_turned") m__law_turned) : ∃ fd, FunD K "_law_chained_right" "_law_chained_right" (defArgs (top 37)) (defBody (top 37)) (defScope (top 37)) [] [] (ga K "_law_chained_right") fd ∧ FnOk P w K mg base (L2.CX P w) 13 (ga K "_law_chained_right") fd ["source", "rows", "others"] (spD K m__law_chained_right) := by
  obtain ⟨fd, F⟩ := Z.d__law_chained_right
  exact ⟨fd, F, fn_def F sc__law_chained_right (by decide) (fun cdv A outer s H E c => (ds_cons (ds_set c.nd (d_call c h__law_built Z.g__law_built Z.k__law_built (da_cons (d_v 1) da_nil) (hk := by decide)))
  (ds_cons (ds_set c.nd (d_call c h__law_built Z.g__law_built Z.k__law_built (da_cons (d_v 2) da_nil) (hk := by decide)))
  (ds_cons (ds_set c.nd (d_callO 0 c h__law_draw Z.g__law_draw Z.k__law_draw (da_cons (d_bin ol_add (d_len Z.n_len (dp_v 1)) d_int) da_nil) (hk := by decide)))
  (ds_cons (ds_set c.nd (d_callO 0 c h__law_draw Z.g__law_draw Z.k__law_draw (da_cons (d_bin ol_add (d_len Z.n_len (dp_v 1)) d_int) da_nil) (hk := by decide)))
  (ds_cons (ds_set c.nd (d_lst (da_cons d_str da_nil)))
  (ds_cons (ds_if (d_tcmp ol_gt (d_bin ol_add (d_len Z.n_len (dp_v 1)) (d_len Z.n_len (dp_v 2))) d_int)
  (ds_one (ds_set c.nd (d_lst (da_cons d_str (da_cons (d_bin ol_add (d_len Z.n_len (dp_v 1)) (d_len Z.n_len (dp_v 2))) da_nil)))))
  ds_nil)
  (ds_cons (ds_if (d_tcmp ol_gt (d_v 6) (d_bin ol_add (d_len Z.n_len (dp_v 1)) d_int))
  (ds_one (ds_set c.nd (d_lst (da_cons d_str (da_cons (d_v 6) da_nil)))))
  ds_nil)
  (ds_cons (ds_if (d_tcmp ol_gt (d_v 5) (d_bin ol_add (d_len Z.n_len (dp_v 1)) d_int))
  (ds_one (ds_set c.nd (d_lst (da_cons d_str (da_cons (d_v 5) da_nil)))))
  ds_nil)
  (ds_cons (ds_if (d_tnot (d_tval (d_call c h__law_equal Z.g__law_equal Z.k__law_equal (da_cons (d_call c h__law_refused Z.g__law_refused Z.k__law_refused (da_cons (d_v 3) (da_cons d_int (da_cons (d_v 4) (da_cons (d_v 5) (da_cons (d_v 6) da_nil))))) (hk := by decide)) (da_cons (d_v 7) da_nil)) (hk := by decide))))
  (ds_one (ds_ret d_bl))
  ds_nil)
  (ds_cons (ds_if (d_tnot (d_tval (d_call c h__law_equal Z.g__law_equal Z.k__law_equal (da_cons (d_call c h__law_refused Z.g__law_refused Z.k__law_refused (da_cons (d_v 3) (da_cons d_int (da_cons (d_v 4) (da_cons (d_bin ol_sub d_int d_int) (da_cons (d_v 6) da_nil))))) (hk := by decide)) (da_cons (d_lst (da_cons d_str (da_cons (d_bin ol_sub d_int d_int) da_nil))) da_nil)) (hk := by decide))))
  (ds_one (ds_ret d_bl))
  ds_nil)
  (ds_cons (ds_if (d_tcmp (ol_ne c.room.units) (d_v 7) (d_lst (da_cons d_str da_nil)))
  (ds_one (ds_ret d_bl))
  ds_nil)
  (ds_cons (ds_set c.nd (d_call c h__law_rows_of Z.g__law_rows_of Z.k__law_rows_of (da_cons (d_call c h_chained Z.g_chained Z.k_chained (da_cons (d_v 3) (da_cons (d_v 4) (da_cons (d_v 5) (da_cons (d_v 6) da_nil)))) (hk := by decide)) da_nil) (hk := by decide)))
  (ds_one (ds_ret (d_call c h__law_equal Z.g__law_equal Z.k__law_equal (da_cons (d_v 8) (da_cons (d_bin ol_add (d_v 1) (d_f (f_lc c (blk_of (by rfl)) (di_lst (d_v 2)) (fun s H C cl fp c => (d_call c h__law_turned Z.g__law_turned Z.k__law_turned (da_cons (d_v 9) (da_cons (d_v 5) (da_cons (d_v 6) (da_cons (d_len Z.n_len (dp_v 1)) da_nil)))) (hk := by decide)))))) da_nil)) (hk := by decide)))))))))))))))))⟩
theorem h__law_chained_right {P : Program} {w : World} {K : PySem.W.Frag} {mg : Str → Option Value} {base : Heap} (Z : Hd P w K mg base) (h__law_built : FnG P w K mg base 5 (ga K "_law_built") m__law_built) (h__law_draw : FnG P w K mg base 1 (ga K "_law_draw") m__law_draw) (h__law_equal : FnG P w K mg base 12 (ga K "_law_equal") m__law_equal) (h__law_refused : FnG P w K mg base 5 (ga K "_law_refused") m__law_refused) (h__law_rows_of : FnG P w K mg base 2 (ga K "_law_rows_of") m__law_rows_of) (h_chained : FnG P w K mg base 4 (ga K "chained") m_chained) (h__law_turned : FnG P w K mg base 1 (ga K "_law_turned") m__law_turned) : FnG P w K mg base 13 (ga K "_law_chained_right") m__law_chained_right := by
  obtain ⟨fd, F, H⟩ := o__law_chained_right Z h__law_built h__law_draw h__law_equal h__law_refused h__law_rows_of h_chained h__law_turned
  exact fn_pos H (F.bindsN fun _ _ _ _ _ _ us hl => match us, hl with | [_, _, _], _ => rfl)
/-! ### _law_exchanged -/
noncomputable def b__law_exchanged : M Fl := (seqD (setD 1 (callV m__law_turned (consA (getV 0) (consA (pure (.int 1)) (consA (pure (.int 0)) (consA (pure (.int 0)) nilA))))))
  (retD (getV 1)))
noncomputable def m__law_exchanged : MF := runB 2 1 0 b__law_exchanged
theorem sc__law_exchanged : FnScope ["row", "turned"] ["row"] (defScope (top 38)) := ⟨rfl, rfl, rfl, by decide +kernel, rfl, by decide +kernel, by decide +kernel⟩
theorem o__law_exchanged {P : Program} {w : World} {K : PySem.W.Frag} {mg : Str → Option Value} {base : Heap} (Z : Hd P w K mg base) (h__law_turned : FnG P w K mg base 1 (ga K "_law_turned") m__law_turned) : ∃ fd, FunD K "_law_exchanged" "_law_exchanged" (defArgs (top 38)) (defBody (top 38)) (defScope (top 38)) [] [] (ga K "_law_exchanged") fd ∧ FnOk P w K mg base (L2.CX P w) 2 (ga K "_law_exchanged") fd ["row"] (spD K m__law_exchanged) := by
  obtain ⟨fd, F⟩ := Z.d__law_exchanged
  exact ⟨fd, F, fn_def F sc__law_exchanged (by decide) (fun cdv A outer s H E c => (ds_cons (ds_set c.nd (d_call c h__law_turned Z.g__law_turned Z.k__law_turned (da_cons (d_v 0) (da_cons d_int (da_cons d_int (da_cons d_int da_nil)))) (hk := by decide)))
  (ds_one (ds_ret (d_v 1)))))⟩
theorem h__law_exchanged {P : Program} {w : World} {K : PySem.W.Frag} {mg : Str → Option Value} {base : Heap} (Z : Hd P w K mg base) (h__law_turned : FnG P w K mg base 1 (ga K "_law_turned") m__law_turned) : FnG P w K mg base 2 (ga K "_law_exchanged") m__law_exchanged := by
  obtain ⟨fd, F, H⟩ := o__law_exchanged Z h__law_turned
  exact fn_pos H (F.bindsN fun _ _ _ _ _ _ us hl => match us, hl with | [_], _ => rfl)
/-! ### law -/
noncomputable def b_law : M Fl := (seqD (setF 1 (callF mf__law_source (consA (getV 0) nilA)))
  (seqD (setD 2 (callO m__law_gates 1 (consA (pure (.int 24)) (consA (pure (.int 0)) nilA))))
  (seqD (setD 3 (callV m__law_built (consA (getV 2) nilA)))
  (seqD (ifD (orT (notT (tst (callV m__law_equal (consA (callV m__law_rows_of (consA (getV 3) nilA)) (consA (getV 2) nilA))))) (notT (tst (callV m__law_equal (consA (una (lenO "Circuit" m_Circuit_D__len_D_) (getV 3)) (consA (una lenD (peekV 2)) nilA))))))
  (retD (pure (.bl false)))
  (pure .nx))
  (seqD (ifD (orT (notT (tst (callV m__law_equal (consA (pure (.int 24)) (consA (pure (.int 24)) nilA))))) (notT (tst (callV m__law_equal (consA (bin (own2 "Circuit" (inTags [.own "Circuit"]) m_Circuit_D__eq_D_) (getV 3) (callV m__law_built (consA (getV 2) nilA))) (consA (pure (.bl true)) nilA))))))
  (retD (pure (.bl false)))
  (pure .nx))
  (seqD (forM' (setV 4)
  (seqD (setD 5 (bin (ixO "Circuit" m_Circuit_D__getitem_D_) (getV 3) (bin addD (getV 4) (pure (.int 1)))))
  (ifD (notT (tst (callV m__law_equal (consA (tupD (consA (una (fldD ["Gate"] "operation") (peekV 5)) (consA (una (fldD ["Gate"] "left") (peekV 5)) (consA (una (fldD ["Gate"] "right") (peekV 5)) (consA (una (fldD ["Gate"] "mode") (peekV 5)) nilA))))) (consA (ixN_ 2 (getV 4)) nilA)))))
  (retD (pure (.bl false)))
  (pure .nx))) (overN (una lenD (peekV 2))))
  (seqD (forM' (setV 6)
  (ifD (notT (tst (callV m__law_equal (consA (callV m__law_refused (consA (getV 3) (consA (pure (.int 1)) (consA (pure .non) (consA (getV 6) (consA (pure (.int 0)) nilA)))))) (consA (lstD (consA (pure (.str "step")) (consA (getV 6) nilA))) nilA)))))
  (retD (pure (.bl false)))
  (pure .nx)) (overL (lstD (consA (pure (.int 0)) (consA (bin subD (pure (.int 0)) (pure (.int 1))) (consA (bin addD (una lenD (peekV 2)) (pure (.int 1))) nilA))))))
  (seqD (setD 7 (callO m__law_mode 1 nilA))
  (seqD (ifD (notT (tst (callV m__law_equal (consA (callV m__law_rows_of (consA (methV "Circuit" "with_mode" m_Circuit_with_mode (getV 3) (consA (getV 7) nilA)) nilA)) (consA (frzD (lcM 12 (overL (getV 2)) (pure true) (tupD (consA (ixN_ 12 (pure (.int 0))) (consA (ixN_ 12 (pure (.int 1))) (consA (ixN_ 12 (pure (.int 2))) (consA (getV 7) nilA))))))) nilA)))))
  (retD (pure (.bl false)))
  (pure .nx))
  (seqD (ifD (notT (tst (callV m__law_equal (consA (callV m__law_rows_of (consA (methV "Circuit" "swapped" m_Circuit_swapped (getV 3) (pure [])) nilA)) (consA (frzD (lcM 12 (overL (getV 2)) (pure true) (callV m__law_exchanged (consA (getV 12) nilA)))) nilA)))))
  (retD (pure (.bl false)))
  (pure .nx))
  (seqD (asgD (setUnl [5, 8]) (callO m__law_bad_gate 1 (consA (bin addD (una lenD (peekV 2)) (pure (.int 1))) nilA)))
  (seqD (setD 9 (lstD (consA (pure (.str "told")) nilA)))
  (seqD (ifD (tst (bin notNonD (getV 8) (pure .non)))
  (setD 9 (lstD (consA (pure (.str "badstep")) (consA (bin addD (una lenD (peekV 2)) (pure (.int 1))) (consA (getV 8) nilA)))))
  (pure .nx))
  (seqD (ifD (tst (bin eqD (una lenD (peekV 2)) (pure (.int 24))))
  (setD 9 (lstD (consA (pure (.str "count")) (consA (pure (.int 25)) nilA))))
  (pure .nx))
  (seqD (ifD (notT (tst (callV m__law_equal (consA (callV m__law_refused (consA (getV 3) (consA (pure (.int 0)) (consA (getV 5) (consA (pure (.int 0)) (consA (pure (.int 0)) nilA)))))) (consA (getV 9) nilA)))))
  (retD (pure (.bl false)))
  (pure .nx))
  (seqD (ifD (tst (bin gtD (una lenD (peekV 2)) (pure (.int 0))))
  (seqD (ifD (notT (tst (callV m__law_equal (consA (bin (own2 "Circuit" (inTags [.own "Circuit"]) m_Circuit_D__eq_D_) (getV 3) (callV m__law_built (consA (slN 2 noPart (somePart (bin subD (una lenD (peekV 2)) (pure (.int 1))))) nilA))) (consA (pure (.bl false)) nilA)))))
  (retD (pure (.bl false)))
  (pure .nx))
  (seqD (setD 10 (ixN_ 2 (bin subD (una lenD (peekV 2)) (pure (.int 1)))))
  (seqD (setD 11 (bin addD (slN 2 noPart (somePart (bin subD (una lenD (peekV 2)) (pure (.int 1))))) (lstD (consA (tupD (consA (ixN_ 10 (pure (.int 0))) (consA (ixN_ 10 (pure (.int 1))) (consA (ixN_ 10 (pure (.int 2))) (consA (ixE (appV m__law_modes []) (bin modD (una intD (bin addD ((appV m__law_modes []) >>= fun x => guardM (match x with | .lst _ => true | _ => false) ((ixN_ 10 (pure (.int 3))) >>= fun y => indexD x y)) (pure (.int 1)))) (pure (.int 9)))) nilA))))) nilA))))
  (ifD (notT (tst (callV m__law_equal (consA (bin (neO "Circuit" m_Circuit_D__eq_D_) (getV 3) (callV m__law_built (consA (getV 11) nilA))) (consA (pure (.bl true)) nilA)))))
  (retD (pure (.bl false)))
  (pure .nx)))))
  (pure .nx))
  (seqD (ifD (notT (tst (callV m__law_equal (consA (callV m__law_rows_of (consA (getV 3) nilA)) (consA (getV 2) nilA)))))
  (retD (pure (.bl false)))
  (pure .nx))
  (retD (callO m__law_chained_right 1 (consA (getV 2) (consA (callO m__law_gates 1 (consA (pure (.int 12)) (consA (pure (.int 0)) nilA))) nilA)))))))))))))))))))))
noncomputable def m_law : MF := runB 13 1 0 b_law
theorem sc_law : FnScope ["script", "source", "rows", "circuit", "k", "gate", "at", "mode", "part", "due", "last", "other", "row"] ["script"] (defScope (top 39)) := ⟨rfl, rfl, rfl, by decide +kernel, rfl, by decide +kernel, by decide +kernel⟩
theorem o_law {P : Program} {w : World} {K : PySem.W.Frag} {mg : Str → Option Value} {base : Heap} (Z : Hd P w K mg base) (h__law_source : FnF P w K mg base 1 (ga K "_law_source") mf__law_source) (h__law_gates : FnG P w K mg base 3 (ga K "_law_gates") m__law_gates) (h__law_built : FnG P w K mg base 5 (ga K "_law_built") m__law_built) (h__law_equal : FnG P w K mg base 12 (ga K "_law_equal") m__law_equal) (h__law_rows_of : FnG P w K mg base 2 (ga K "_law_rows_of") m__law_rows_of) (h_Circuit_D__len_D_ : FnG P w K mg base 1 (He.ma K (ga K "Circuit") "__len__") m_Circuit_D__len_D_) (h_Circuit_D__eq_D_ : FnG P w K mg base 3 (He.ma K (ga K "Circuit") "__eq__") m_Circuit_D__eq_D_) (h_Circuit_D__getitem_D_ : FnG P w K mg base 2 (He.ma K (ga K "Circuit") "__getitem__") m_Circuit_D__getitem_D_) (h__law_refused : FnG P w K mg base 5 (ga K "_law_refused") m__law_refused) (h__law_mode : FnG P w K mg base 2 (ga K "_law_mode") m__law_mode) (h_Circuit_with_mode : FnG P w K mg base 4 (He.ma K (ga K "Circuit") "with_mode") m_Circuit_with_mode) (h_Circuit_swapped : FnG P w K mg base 4 (He.ma K (ga K "Circuit") "swapped") m_Circuit_swapped) (h__law_exchanged : FnG P w K mg base 2 (ga K "_law_exchanged") m__law_exchanged) (h__law_bad_gate : FnG P w K mg base 4 (ga K "_law_bad_gate") m__law_bad_gate) (h__law_modes : FnG P w K mg base 1 (ga K "_law_modes") m__law_modes) (h__law_chained_right : FnG P w K mg base 13 (ga K "_law_chained_right") m__law_chained_right) : ∃ fd, FunD K "law" "law" (defArgs (top 39)) (defBody (top 39)) (defScope (top 39)) [] [] (ga K "law") fd ∧ FnOk P w K mg base (L2.CX P w) 14 (ga K "law") fd ["script"] (spD K m_law) := by
  obtain ⟨fd, F⟩ := Z.d_law
  exact ⟨fd, F, fn_def F sc_law (by decide) (fun cdv A outer s H E c => (ds_cons (ds_setF c.nd (f_call c h__law_source Z.g__law_source Z.k__law_source (da_cons (d_v 0) da_nil)))
  (ds_cons (ds_set c.nd (d_callO 1 c h__law_gates Z.g__law_gates Z.k__law_gates (da_cons d_int (da_cons d_int da_nil)) (hk := by decide)))
  (ds_cons (ds_set c.nd (d_call c h__law_built Z.g__law_built Z.k__law_built (da_cons (d_v 2) da_nil) (hk := by decide)))
  (ds_cons (ds_if (dw_or (d_tnot (d_tval (d_call c h__law_equal Z.g__law_equal Z.k__law_equal (da_cons (d_call c h__law_rows_of Z.g__law_rows_of Z.k__law_rows_of (da_cons (d_v 3) da_nil) (hk := by decide)) (da_cons (d_v 2) da_nil)) (hk := by decide)))) (dw_or1 (d_tnot (d_tval (d_call c h__law_equal Z.g__law_equal Z.k__law_equal (da_cons (d_lenO Z.n_len c h_Circuit_D__len_D_ Z.me_Circuit__D_len_D_ (d_v 3) (hk := by decide)) (da_cons (d_len Z.n_len (dp_v 2)) da_nil)) (hk := by decide)))))).pt
  (ds_one (ds_ret d_bl))
  ds_nil)
  (ds_cons (ds_if (dw_or (d_tnot (d_tval (d_call c h__law_equal Z.g__law_equal Z.k__law_equal (da_cons (d_cval Z.cc_Circuit_MOST Z.g_Circuit) (da_cons d_int da_nil)) (hk := by decide)))) (dw_or1 (d_tnot (d_tval (d_call c h__law_equal Z.g__law_equal Z.k__law_equal (da_cons (d_cmpS (os_cmp (nm := "__eq__") (fun _ _ => rfl) rfl c h_Circuit_D__eq_D_ Z.me_Circuit__D_eq_D_ nf_self (hk := by decide)) (d_v 3) (d_call c h__law_built Z.g__law_built Z.k__law_built (da_cons (d_v 2) da_nil) (hk := by decide))) (da_cons d_bl da_nil)) (hk := by decide)))))).pt
  (ds_one (ds_ret d_bl))
  ds_nil)
  (ds_cons (ds_for c.hp c.calm (di_range Z.n_range (d_len Z.n_len (dp_v 2))) (dg_name c.nd)
  (ds_cons (ds_set c.nd (d_ixO c h_Circuit_D__getitem_D_ Z.me_Circuit__D_getitem_D_ Z.fi_Circuit_D__getitem_D_ (d_v 3) (d_bin ol_add (d_v 4) d_int) (hk := by decide)))
  (ds_one (ds_if (d_tnot (d_tval (d_call c h__law_equal Z.g__law_equal Z.k__law_equal (da_cons (d_tup (da_cons (d_fld Z.f_Gate_operation (dp_v 5)) (da_cons (d_fld Z.f_Gate_left (dp_v 5)) (da_cons (d_fld Z.f_Gate_right (dp_v 5)) (da_cons (d_fld Z.f_Gate_mode (dp_v 5)) da_nil))))) (da_cons (d_ixN 2 (d_v 4)) da_nil)) (hk := by decide))))
  (ds_one (ds_ret d_bl))
  ds_nil))))
  (ds_cons (ds_for c.hp c.calm (di_lst (d_lst (da_cons d_int (da_cons (d_bin ol_sub d_int d_int) (da_cons (d_bin ol_add (d_len Z.n_len (dp_v 2)) d_int) da_nil))))) (dg_name c.nd)
  (ds_one (ds_if (d_tnot (d_tval (d_call c h__law_equal Z.g__law_equal Z.k__law_equal (da_cons (d_call c h__law_refused Z.g__law_refused Z.k__law_refused (da_cons (d_v 3) (da_cons d_int (da_cons d_non (da_cons (d_v 6) (da_cons d_int da_nil))))) (hk := by decide)) (da_cons (d_lst (da_cons d_str (da_cons (d_v 6) da_nil))) da_nil)) (hk := by decide))))
  (ds_one (ds_ret d_bl))
  ds_nil)))
  (ds_cons (ds_set c.nd (d_callO 1 c h__law_mode Z.g__law_mode Z.k__law_mode da_nil (hk := by decide)))
  (ds_cons (ds_if (d_tnot (d_tval (d_call c h__law_equal Z.g__law_equal Z.k__law_equal (da_cons (d_call c h__law_rows_of Z.g__law_rows_of Z.k__law_rows_of (da_cons (d_meth c h_Circuit_with_mode Z.cl_Circuit Z.me_Circuit_with_mode (d_v 3) (da_cons (d_v 7) da_nil) (hk := by decide)) da_nil) (hk := by decide)) (da_cons (d_f (f_lc c (blk_of (by rfl)) (di_lst (d_v 2)) (fun s H C cl fp c => (d_tup (da_cons (d_ixN 12 d_int) (da_cons (d_ixN 12 d_int) (da_cons (d_ixN 12 d_int) (da_cons (d_v 7) da_nil)))))))) da_nil)) (hk := by decide))))
  (ds_one (ds_ret d_bl))
  ds_nil)
  (ds_cons (ds_if (d_tnot (d_tval (d_call c h__law_equal Z.g__law_equal Z.k__law_equal (da_cons (d_call c h__law_rows_of Z.g__law_rows_of Z.k__law_rows_of (da_cons (d_meth0 c h_Circuit_swapped Z.cl_Circuit Z.me_Circuit_swapped (d_v 3) (hk := by decide)) da_nil) (hk := by decide)) (da_cons (d_f (f_lc c (blk_of (by rfl)) (di_lst (d_v 2)) (fun s H C cl fp c => (d_call c h__law_exchanged Z.g__law_exchanged Z.k__law_exchanged (da_cons (d_v 12) da_nil) (hk := by decide))))) da_nil)) (hk := by decide))))
  (ds_one (ds_ret d_bl))
  ds_nil)
  (ds_cons (ds_asg (d_callO 1 c h__law_bad_gate Z.g__law_bad_gate Z.k__law_bad_gate (da_cons (d_bin ol_add (d_len Z.n_len (dp_v 2)) d_int) da_nil) (hk := by decide)) (dg_unl c.calm (dgs_cons c.nd (dgs_cons c.nd dgs_nil))))
  (ds_cons (ds_set c.nd (d_lst (da_cons d_str da_nil)))
  (ds_cons (ds_if (d_tcmp ol_notN (d_v 8) d_non)
  (ds_one (ds_set c.nd (d_lst (da_cons d_str (da_cons (d_bin ol_add (d_len Z.n_len (dp_v 2)) d_int) (da_cons (d_v 8) da_nil))))))
  ds_nil)
  (ds_cons (ds_if (d_tcmp (ol_eq c.room.units) (d_len Z.n_len (dp_v 2)) d_int)
  (ds_one (ds_set c.nd (d_lst (da_cons d_str (da_cons d_int da_nil)))))
  ds_nil)
  (ds_cons (ds_if (d_tnot (d_tval (d_call c h__law_equal Z.g__law_equal Z.k__law_equal (da_cons (d_call c h__law_refused Z.g__law_refused Z.k__law_refused (da_cons (d_v 3) (da_cons d_int (da_cons (d_v 5) (da_cons d_int (da_cons d_int da_nil))))) (hk := by decide)) (da_cons (d_v 9) da_nil)) (hk := by decide))))
  (ds_one (ds_ret d_bl))
  ds_nil)
  (ds_cons (ds_if (d_tcmp ol_gt (d_len Z.n_len (dp_v 2)) d_int)
  (ds_cons (ds_if (d_tnot (d_tval (d_call c h__law_equal Z.g__law_equal Z.k__law_equal (da_cons (d_cmpS (os_cmp (nm := "__eq__") (fun _ _ => rfl) rfl c h_Circuit_D__eq_D_ Z.me_Circuit__D_eq_D_ nf_self (hk := by decide)) (d_v 3) (d_call c h__law_built Z.g__law_built Z.k__law_built (da_cons (d_slN 2 do_none (do_some (d_bin ol_sub (d_len Z.n_len (dp_v 2)) d_int))) da_nil) (hk := by decide))) (da_cons d_bl da_nil)) (hk := by decide))))
  (ds_one (ds_ret d_bl))
  ds_nil)
  (ds_cons (ds_set c.nd (d_ixN 2 (d_bin ol_sub (d_len Z.n_len (dp_v 2)) d_int)))
  (ds_cons (ds_set c.nd (d_bin ol_add (d_slN 2 do_none (do_some (d_bin ol_sub (d_len Z.n_len (dp_v 2)) d_int))) (d_lst (da_cons (d_tup (da_cons (d_ixN 10 d_int) (da_cons (d_ixN 10 d_int) (da_cons (d_ixN 10 d_int) (da_cons (d_ixE (d_call0 c h__law_modes Z.g__law_modes Z.k__law_modes (hk := by decide)) (d_bin ol_mod (d_toInt Z.n_int (d_bin ol_add (d_index (d_call0 c h__law_modes Z.g__law_modes Z.k__law_modes (hk := by decide)) (d_ixN 10 d_int)) d_int)) d_int)) da_nil))))) da_nil))))
  (ds_one (ds_if (d_tnot (d_tval (d_call c h__law_equal Z.g__law_equal Z.k__law_equal (da_cons (d_cmpS (os_ne c h_Circuit_D__eq_D_ Z.me_Circuit__D_eq_D_ Z.nq_Circuit (hk := by decide)) (d_v 3) (d_call c h__law_built Z.g__law_built Z.k__law_built (da_cons (d_v 11) da_nil) (hk := by decide))) (da_cons d_bl da_nil)) (hk := by decide))))
  (ds_one (ds_ret d_bl))
  ds_nil)))))
  ds_nil)
  (ds_cons (ds_if (d_tnot (d_tval (d_call c h__law_equal Z.g__law_equal Z.k__law_equal (da_cons (d_call c h__law_rows_of Z.g__law_rows_of Z.k__law_rows_of (da_cons (d_v 3) da_nil) (hk := by decide)) (da_cons (d_v 2) da_nil)) (hk := by decide))))
  (ds_one (ds_ret d_bl))
  ds_nil)
  (ds_one (ds_ret (d_callO 1 c h__law_chained_right Z.g__law_chained_right Z.k__law_chained_right (da_cons (d_v 2) (da_cons (d_callO 1 c h__law_gates Z.g__law_gates Z.k__law_gates (da_cons d_int (da_cons d_int da_nil)) (hk := by decide)) da_nil)) (hk := by decide))))))))))))))))))))))⟩
theorem h_law {P : Program} {w : World} {K : PySem.W.Frag} {mg : Str → Option Value} {base : Heap} (Z : Hd P w K mg base) (h__law_source : FnF P w K mg base 1 (ga K "_law_source") mf__law_source) (h__law_gates : FnG P w K mg base 3 (ga K "_law_gates") m__law_gates) (h__law_built : FnG P w K mg base 5 (ga K "_law_built") m__law_built) (h__law_equal : FnG P w K mg base 12 (ga K "_law_equal") m__law_equal) (h__law_rows_of : FnG P w K mg base 2 (ga K "_law_rows_of") m__law_rows_of) (h_Circuit_D__len_D_ : FnG P w K mg base 1 (He.ma K (ga K "Circuit") "__len__") m_Circuit_D__len_D_) (h_Circuit_D__eq_D_ : FnG P w K mg base 3 (He.ma K (ga K "Circuit") "__eq__") m_Circuit_D__eq_D_) (h_Circuit_D__getitem_D_ : FnG P w K mg base 2 (He.ma K (ga K "Circuit") "__getitem__") m_Circuit_D__getitem_D_) (h__law_refused : FnG P w K mg base 5 (ga K "_law_refused") m__law_refused) (h__law_mode : FnG P w K mg base 2 (ga K "_law_mode") m__law_mode) (h_Circuit_with_mode : FnG P w K mg base 4 (He.ma K (ga K "Circuit") "with_mode") m_Circuit_with_mode) (h_Circuit_swapped : FnG P w K mg base 4 (He.ma K (ga K "Circuit") "swapped") m_Circuit_swapped) (h__law_exchanged : FnG P w K mg base 2 (ga K "_law_exchanged") m__law_exchanged) (h__law_bad_gate : FnG P w K mg base 4 (ga K "_law_bad_gate") m__law_bad_gate) (h__law_modes : FnG P w K mg base 1 (ga K "_law_modes") m__law_modes) (h__law_chained_right : FnG P w K mg base 13 (ga K "_law_chained_right") m__law_chained_right) : FnG P w K mg base 14 (ga K "law") m_law := by
  obtain ⟨fd, F, H⟩ := o_law Z h__law_source h__law_gates h__law_built h__law_equal h__law_rows_of h_Circuit_D__len_D_ h_Circuit_D__eq_D_ h_Circuit_D__getitem_D_ h__law_refused h__law_mode h_Circuit_with_mode h_Circuit_swapped h__law_exchanged h__law_bad_gate h__law_modes h__law_chained_right
  exact fn_pos H (F.bindsN fun _ _ _ _ _ _ us hl => match us, hl with | [_], _ => rfl)
end G
set_option maxHeartbeats 0
namespace G
open PySem PySem.Spec PyProof.Rows L2 DL
/-! ### the head -/
theorem xtab_mem {C x : Str} {b : Bool} (e : xtab C x = some b) : x ∈ excs := by
  unfold xtab at e
  split at e
  · assumption
  · cases e
theorem etab_mem {C x : Str} {b : Bool} (e : etab C x = some b) : x ∈ excs := by
  unfold etab at e
  split at e
  · assumption
  · cases e
def fb0 : List (Fr → Bool) := [fun K => (He.Fa.free "super").ok K, fldB ["Gate"] "operation", fldB ["Gate"] "left", fldB ["Gate"] "right", fldB ["Gate"] "mode", fun K => (He.Fa.glo "Gate").ok K, isiB tags (.own "Gate"), fun K => (He.Fa.free "isinstance").ok K, glbB "OPERATIONS" (.tup [(.str "+"), (.str "-"), (.str "*"), (.str "<<")]), glbB "MOST_SHIFT" (.int 200), glbB "MODES" (.tup [(.str "nearest-even"), (.str "nearest-out"), (.str "nearest-in"), (.str "nearest-up"), (.str "nearest-down"), (.str "inward"), (.str "outward"), (.str "upward"), (.str "downward")]), fun K => (He.Fa.free "len").ok K, conB "Circuit" "MOST" (.int 24), fun K => (He.Fa.glo "Circuit").ok K, fun K => (He.Fa.glo "BadCount").ok K, fun K => (He.Fa.glo "bad_part").ok K, fun K => PySem.W.keepIn K (.ref (ga K "bad_part")), fun K => (He.Fa.glo "BadStep").ok K, fun K => (He.Fa.free "list").ok K, fldB ["Circuit"] "gates", fun K => (He.Fa.free "iter").ok K, fun K => (He.Fa.glo "NoStep").ok K, fun K => (He.Fa.mkr "Circuit").ok K, isiB tags (.own "Circuit"), fun K => (He.Fa.meth "Gate" "__eq__").ok K, fun K => (He.Fa.glo "other_register").ok K, fun K => PySem.W.keepIn K (.ref (ga K "other_register")), fun K => (He.Fa.mkr "Gate").ok K, fun K => (He.Fa.glo "NoPart").ok K, fun K => (He.Fa.free "range").ok K]
def fb1 : List (Fr → Bool) := [fun K => (He.Fa.free "int").ok K, fun K => (He.Fa.free "abs").ok K, fun K => (He.Fa.glo "_law_draw").ok K, fun K => PySem.W.keepIn K (.ref (ga K "_law_draw")), fun K => (He.Fa.glo "_law_modes").ok K, fun K => PySem.W.keepIn K (.ref (ga K "_law_modes")), fun K => (He.Fa.free "bool").ok K, isiB tags (.ty "bool"), isiB tags (.ty "int"), fun K => (He.Fa.free "str").ok K, isiB tags (.ty "str"), isiB tags (.ty "list"), fun K => (He.Fa.free "tuple").ok K, isiB tags (.ty "tuple"), fun K => (He.Fa.glo "_law_equal").ok K, fun K => PySem.W.keepIn K (.ref (ga K "_law_equal")), fun K => (He.Fa.glo "_law_mode").ok K, fun K => PySem.W.keepIn K (.ref (ga K "_law_mode")), xisB excs (xtab "BadCount") "BadCount", xisB excs (xtab "BadStep") "BadStep", xisB excs (xtab "NoPart") "NoPart", xisB excs (xtab "NoStep") "NoStep", DL.xfB ["BadCount"] "count", DL.xfB ["BadStep", "NoStep", "StepFailed"] "number", DL.xfB ["BadStep"] "part", DL.xfB ["NoPart"] "index", fun K => (He.Fa.meth "Circuit" "__add__").ok K, fun K => PySem.W.selfFirst K (ga K "Circuit"), noNumB "Gate" "add", fun K => decide (ga K "Gate" ≠ ga K "Circuit")]
def fb2 : List (Fr → Bool) := [fun K => (He.Fa.meth "Circuit" "__iter__").ok K, exmB excs (etab "LostError") "LostError", fun K => (He.Fa.meth "Circuit" "__getitem__").ok K, fun K => PySem.W.fnIn K (He.ma K (ga K "Circuit") "__getitem__"), fun K => (He.Fa.glo "chained").ok K, fun K => PySem.W.keepIn K (.ref (ga K "chained")), fun K => (He.Fa.glo "LostError").ok K, fun K => (He.Fa.glo "_law_error").ok K, fun K => PySem.W.keepIn K (.ref (ga K "_law_error")), fun K => (He.Fa.glo "_law_bad_mode").ok K, fun K => PySem.W.keepIn K (.ref (ga K "_law_bad_mode")), fun K => (He.Fa.glo "_law_built").ok K, fun K => PySem.W.keepIn K (.ref (ga K "_law_built")), fun K => (He.Fa.glo "_law_refused").ok K, fun K => PySem.W.keepIn K (.ref (ga K "_law_refused")), fun K => (He.Fa.glo "_law_rows_of").ok K, fun K => PySem.W.keepIn K (.ref (ga K "_law_rows_of")), fun K => (He.Fa.glo "_law_turned").ok K, fun K => PySem.W.keepIn K (.ref (ga K "_law_turned")), fun K => (He.Fa.glo "_law_source").ok K, fun K => PySem.W.keepIn K (.ref (ga K "_law_source")), fun K => (He.Fa.glo "_law_gates").ok K, fun K => PySem.W.keepIn K (.ref (ga K "_law_gates")), fun K => (He.Fa.meth "Circuit" "__len__").ok K, fun K => (He.Fa.meth "Circuit" "__eq__").ok K, fun K => (He.Fa.meth "Circuit" "with_mode").ok K, fun K => (He.Fa.cls "Circuit").ok K, fun K => (He.Fa.meth "Circuit" "swapped").ok K, fun K => (He.Fa.glo "_law_exchanged").ok K, fun K => PySem.W.keepIn K (.ref (ga K "_law_exchanged"))]
def fb3 : List (Fr → Bool) := [fun K => (He.Fa.glo "_law_bad_gate").ok K, fun K => PySem.W.keepIn K (.ref (ga K "_law_bad_gate")), fun K => neB K (ga K "Circuit") (He.ma K (ga K "Circuit") "__eq__"), fun K => (He.Fa.glo "_law_chained_right").ok K, fun K => PySem.W.keepIn K (.ref (ga K "_law_chained_right")), fun K => (He.Fa.glo "law").ok K]
def fb : List (Fr → Bool) := fb0 ++ fb1 ++ fb2 ++ fb3
def fn0 : List He.DefD := [⟨("Gate", some "__init__"), "__init__", "Gate.__init__", defArgs (sub 16 0), defBody (sub 16 0), defScope (sub 16 0), [.str "nearest-even"], []⟩, ⟨("Gate", some "__eq__"), "__eq__", "Gate.__eq__", defArgs (sub 16 1), defBody (sub 16 1), defScope (sub 16 1), [], []⟩, ⟨("other_register", none), "other_register", "other_register", defArgs (top 19), defBody (top 19), defScope (top 19), [], []⟩, ⟨("bad_part", none), "bad_part", "bad_part", defArgs (top 18), defBody (top 18), defScope (top 18), [], []⟩, ⟨("Circuit", some "__init__"), "__init__", "Circuit.__init__", defArgs (sub 17 1), defBody (sub 17 1), defScope (sub 17 1), [], []⟩, ⟨("Circuit", some "__len__"), "__len__", "Circuit.__len__", defArgs (sub 17 2), defBody (sub 17 2), defScope (sub 17 2), [], []⟩, ⟨("Circuit", some "__iter__"), "__iter__", "Circuit.__iter__", defArgs (sub 17 3), defBody (sub 17 3), defScope (sub 17 3), [], []⟩, ⟨("Circuit", some "__getitem__"), "__getitem__", "Circuit.__getitem__", defArgs (sub 17 4), defBody (sub 17 4), defScope (sub 17 4), [], []⟩, ⟨("Circuit", some "__add__"), "__add__", "Circuit.__add__", defArgs (sub 17 5), defBody (sub 17 5), defScope (sub 17 5), [], []⟩, ⟨("Circuit", some "__eq__"), "__eq__", "Circuit.__eq__", defArgs (sub 17 6), defBody (sub 17 6), defScope (sub 17 6), [], []⟩, ⟨("Circuit", some "swapped"), "swapped", "Circuit.swapped", defArgs (sub 17 12), defBody (sub 17 12), defScope (sub 17 12), [], []⟩, ⟨("Circuit", some "with_mode"), "with_mode", "Circuit.with_mode", defArgs (sub 17 13), defBody (sub 17 13), defScope (sub 17 13), [], []⟩, ⟨("chained", none), "chained", "chained", defArgs (top 22), defBody (top 22), defScope (top 22), [], []⟩, ⟨("_law_source", none), "_law_source", "_law_source", defArgs (top 24), defBody (top 24), defScope (top 24), [], []⟩, ⟨("_law_draw", none), "_law_draw", "_law_draw", defArgs (top 25), defBody (top 25), defScope (top 25), [], []⟩, ⟨("_law_modes", none), "_law_modes", "_law_modes", defArgs (top 26), defBody (top 26), defScope (top 26), [], []⟩, ⟨("_law_mode", none), "_law_mode", "_law_mode", defArgs (top 27), defBody (top 27), defScope (top 27), [], []⟩, ⟨("_law_equal", none), "_law_equal", "_law_equal", defArgs (top 28), defBody (top 28), defScope (top 28), [], []⟩, ⟨("_law_bad_mode", none), "_law_bad_mode", "_law_bad_mode", defArgs (top 29), defBody (top 29), defScope (top 29), [], []⟩, ⟨("_law_error", none), "_law_error", "_law_error", defArgs (top 30), defBody (top 30), defScope (top 30), [], []⟩, ⟨("_law_built", none), "_law_built", "_law_built", defArgs (top 31), defBody (top 31), defScope (top 31), [], []⟩, ⟨("_law_gates", none), "_law_gates", "_law_gates", defArgs (top 32), defBody (top 32), defScope (top 32), [], []⟩, ⟨("_law_rows_of", none), "_law_rows_of", "_law_rows_of", defArgs (top 33), defBody (top 33), defScope (top 33), [], []⟩, ⟨("_law_refused", none), "_law_refused", "_law_refused", defArgs (top 34), defBody (top 34), defScope (top 34), [], []⟩, ⟨("_law_bad_gate", none), "_law_bad_gate", "_law_bad_gate", defArgs (top 35), defBody (top 35), defScope (top 35), [], []⟩, ⟨("_law_turned", none), "_law_turned", "_law_turned", defArgs (top 36), defBody (top 36), defScope (top 36), [], []⟩, ⟨("_law_chained_right", none), "_law_chained_right", "_law_chained_right", defArgs (top 37), defBody (top 37), defScope (top 37), [], []⟩, ⟨("_law_exchanged", none), "_law_exchanged", "_law_exchanged", defArgs (top 38), defBody (top 38), defScope (top 38), [], []⟩, ⟨("law", none), "law", "law", defArgs (top 39), defBody (top 39), defScope (top 39), [], []⟩]
def fn : List He.DefD := fn0
def fl0 : List LxD := [⟨"BadCount", "BadCount.__init__", sub 4 0, ["count"]⟩, ⟨"BadStep", "BadStep.__init__", sub 3 0, ["number", "part"]⟩, ⟨"NoStep", "NoStep.__init__", sub 8 0, ["number"]⟩, ⟨"NoPart", "NoPart.__init__", sub 7 0, ["index"]⟩]
def fl : List LxD := fl0
def names0 : List Str := [(PySem.Str.ofString "_wall"), (PySem.Str.ofString "__name__"), (PySem.Str.ofString "LostError"), (PySem.Str.ofString "BadStep"), (PySem.Str.ofString "BadCount"), (PySem.Str.ofString "NotANumber"), (PySem.Str.ofString "TooLarge"), (PySem.Str.ofString "NoPart"), (PySem.Str.ofString "NoStep"), (PySem.Str.ofString "StepFailed"), (PySem.Str.ofString "MODES"), (PySem.Str.ofString "check_number"), (PySem.Str.ofString "OPERATIONS"), (PySem.Str.ofString "MOST_SHIFT"), (PySem.Str.ofString "Gate"), (PySem.Str.ofString "Circuit"), (PySem.Str.ofString "bad_part"), (PySem.Str.ofString "other_register"), (PySem.Str.ofString "gate_exact"), (PySem.Str.ofString "gate_result"), (PySem.Str.ofString "chained"), (PySem.Str.ofString "_law_source"), (PySem.Str.ofString "_law_draw"), (PySem.Str.ofString "_law_modes"), (PySem.Str.ofString "_law_mode"), (PySem.Str.ofString "_law_equal"), (PySem.Str.ofString "_law_bad_mode"), (PySem.Str.ofString "_law_error"), (PySem.Str.ofString "_law_built"), (PySem.Str.ofString "_law_gates")]
def names1 : List Str := [(PySem.Str.ofString "_law_rows_of"), (PySem.Str.ofString "_law_refused"), (PySem.Str.ofString "_law_bad_gate"), (PySem.Str.ofString "_law_turned"), (PySem.Str.ofString "_law_chained_right"), (PySem.Str.ofString "_law_exchanged")]
def names : List Str := names0 ++ names1
abbrev prog : Program := PySem.Challenge.pw_lostinrows_k88_circuits_refused
abbrev R : PySem.W.OpenRow := PySem.W.OpenLaw.row PySem.Challenge.rw_lostinrows_k88_circuits_refused
abbrev hk : PySem.W.Hook := hookH "/claim/cut.py" 6 fb fn fl
def ob (s : PySem.W.SharedT) : AlH := obH "/claim/cut.py" 6 fb fn fl s
theorem ob_eq (s : PySem.W.SharedT) : ob s = hk.obs s.abs := obH_eq s
theorem run (w : World) : HandSHeadRun.RunEq R (PySem.W.view R.prog [39]) hk ob 4000 names w := by
  intro os
  kernel_rfl
theorem tp : (prog.main.scope.names.lookup ("super" : Str)).isSome = false := by kernel_rfl
theorem hd {w : World} {K : PySem.W.Frag} {h base : Heap} {mg : Str → Option Value} (X : K.In h) (G : h.Ns mainGlobals mg) (c : SaysH "/claim/cut.py" fb fn fl K) : Hd prog w K mg base where
  f_Gate_operation := fld_ok (c.fact 1 (f := fldB ["Gate"] "operation") rfl)
  f_Gate_left := fld_ok (c.fact 2 (f := fldB ["Gate"] "left") rfl)
  f_Gate_right := fld_ok (c.fact 3 (f := fldB ["Gate"] "right") rfl)
  f_Gate_mode := fld_ok (c.fact 4 (f := fldB ["Gate"] "mode") rfl)
  d_Gate_D__init_D_ := c.def_ 0 (d := ⟨("Gate", some "__init__"), "__init__", "Gate.__init__", defArgs (sub 16 0), defBody (sub 16 0), defScope (sub 16 0), [.str "nearest-even"], []⟩) rfl
  g_Gate := (He.glo_ok X G (c.fact 5 (f := fun K => (He.Fa.glo "Gate").ok K) rfl))
  is_Gate := isi_ok (c.fact 6 (f := isiB tags (.own "Gate")) rfl)
  n_isinstance := He.free_ok X G (c.fact 7 (f := fun K => (He.Fa.free "isinstance").ok K) rfl)
  d_Gate_D__eq_D_ := c.def_ 1 (d := ⟨("Gate", some "__eq__"), "__eq__", "Gate.__eq__", defArgs (sub 16 1), defBody (sub 16 1), defScope (sub 16 1), [], []⟩) rfl
  d_other_register := c.def_ 2 (d := ⟨("other_register", none), "other_register", "other_register", defArgs (top 19), defBody (top 19), defScope (top 19), [], []⟩) rfl
  c_OPERATIONS := glb_ok X G (c.fact 8 (f := glbB "OPERATIONS" (.tup [(.str "+"), (.str "-"), (.str "*"), (.str "<<")])) rfl)
  c_MOST_SHIFT := glb_ok X G (c.fact 9 (f := glbB "MOST_SHIFT" (.int 200)) rfl)
  c_MODES := glb_ok X G (c.fact 10 (f := glbB "MODES" (.tup [(.str "nearest-even"), (.str "nearest-out"), (.str "nearest-in"), (.str "nearest-up"), (.str "nearest-down"), (.str "inward"), (.str "outward"), (.str "upward"), (.str "downward")])) rfl)
  d_bad_part := c.def_ 3 (d := ⟨("bad_part", none), "bad_part", "bad_part", defArgs (top 18), defBody (top 18), defScope (top 18), [], []⟩) rfl
  n_len := He.free_ok X G (c.fact 11 (f := fun K => (He.Fa.free "len").ok K) rfl)
  cc_Circuit_MOST := con_ok (c.fact 12 (f := conB "Circuit" "MOST" (.int 24)) rfl)
  g_Circuit := (He.glo_ok X G (c.fact 13 (f := fun K => (He.Fa.glo "Circuit").ok K) rfl))
  x_BadCount := lost1 (d := ⟨"BadCount", "BadCount.__init__", sub 4 0, ["count"]⟩) (c.lx 0 (d := ⟨"BadCount", "BadCount.__init__", sub 4 0, ["count"]⟩) rfl).1 (c.lx 0 (d := ⟨"BadCount", "BadCount.__init__", sub 4 0, ["count"]⟩) rfl).2 (He.glo_ok X G (c.fact 14 (f := fun K => (He.Fa.glo "BadCount").ok K) rfl)) (He.free_ok X G (c.fact 0 (f := fun K => (He.Fa.free "super").ok K) rfl)) tp rfl rfl ⟨⟨_, rfl, rfl⟩, by decide +kernel, by decide +kernel, rfl, rfl⟩ (fun _ _ _ _ _ _ _ _ _ _ _ => rfl) rfl rfl (fun _ _ _ _ _ => ⟨_, rfl⟩)
  g_bad_part := (He.glo_ok X G (c.fact 15 (f := fun K => (He.Fa.glo "bad_part").ok K) rfl))
  k_bad_part := (c.fact 16 (f := fun K => PySem.W.keepIn K (.ref (ga K "bad_part"))) rfl)
  x_BadStep := lost2 (d := ⟨"BadStep", "BadStep.__init__", sub 3 0, ["number", "part"]⟩) (c.lx 1 (d := ⟨"BadStep", "BadStep.__init__", sub 3 0, ["number", "part"]⟩) rfl).1 (c.lx 1 (d := ⟨"BadStep", "BadStep.__init__", sub 3 0, ["number", "part"]⟩) rfl).2 (He.glo_ok X G (c.fact 17 (f := fun K => (He.Fa.glo "BadStep").ok K) rfl)) (He.free_ok X G (c.fact 0 (f := fun K => (He.Fa.free "super").ok K) rfl)) tp rfl rfl ⟨⟨_, rfl, rfl⟩, by decide +kernel, by decide +kernel, rfl, rfl⟩ (fun _ _ _ _ _ _ _ _ _ _ _ _ => rfl) rfl rfl rfl rfl rfl (fun _ _ _ _ _ => ⟨_, rfl⟩)
  n_list := He.free_ok X G (c.fact 18 (f := fun K => (He.Fa.free "list").ok K) rfl)
  f_Circuit_gates := fld_ok (c.fact 19 (f := fldB ["Circuit"] "gates") rfl)
  d_Circuit_D__init_D_ := c.def_ 4 (d := ⟨("Circuit", some "__init__"), "__init__", "Circuit.__init__", defArgs (sub 17 1), defBody (sub 17 1), defScope (sub 17 1), [], []⟩) rfl
  d_Circuit_D__len_D_ := c.def_ 5 (d := ⟨("Circuit", some "__len__"), "__len__", "Circuit.__len__", defArgs (sub 17 2), defBody (sub 17 2), defScope (sub 17 2), [], []⟩) rfl
  d_Circuit_D__iter_D_ := c.def_ 6 (d := ⟨("Circuit", some "__iter__"), "__iter__", "Circuit.__iter__", defArgs (sub 17 3), defBody (sub 17 3), defScope (sub 17 3), [], []⟩) rfl
  n_iter := He.free_ok X G (c.fact 20 (f := fun K => (He.Fa.free "iter").ok K) rfl)
  x_NoStep := lost1 (d := ⟨"NoStep", "NoStep.__init__", sub 8 0, ["number"]⟩) (c.lx 2 (d := ⟨"NoStep", "NoStep.__init__", sub 8 0, ["number"]⟩) rfl).1 (c.lx 2 (d := ⟨"NoStep", "NoStep.__init__", sub 8 0, ["number"]⟩) rfl).2 (He.glo_ok X G (c.fact 21 (f := fun K => (He.Fa.glo "NoStep").ok K) rfl)) (He.free_ok X G (c.fact 0 (f := fun K => (He.Fa.free "super").ok K) rfl)) tp rfl rfl ⟨⟨_, rfl, rfl⟩, by decide +kernel, by decide +kernel, rfl, rfl⟩ (fun _ _ _ _ _ _ _ _ _ _ _ => rfl) rfl rfl (fun _ _ _ _ _ => ⟨_, rfl⟩)
  d_Circuit_D__getitem_D_ := c.def_ 7 (d := ⟨("Circuit", some "__getitem__"), "__getitem__", "Circuit.__getitem__", defArgs (sub 17 4), defBody (sub 17 4), defScope (sub 17 4), [], []⟩) rfl
  mk_Circuit := He.mkr_ok (c.fact 22 (f := fun K => (He.Fa.mkr "Circuit").ok K) rfl)
  d_Circuit_D__add_D_ := c.def_ 8 (d := ⟨("Circuit", some "__add__"), "__add__", "Circuit.__add__", defArgs (sub 17 5), defBody (sub 17 5), defScope (sub 17 5), [], []⟩) rfl
  is_Circuit := isi_ok (c.fact 23 (f := isiB tags (.own "Circuit")) rfl)
  me_Gate__D_eq_D_ := He.meth_ok (c.fact 24 (f := fun K => (He.Fa.meth "Gate" "__eq__").ok K) rfl)
  d_Circuit_D__eq_D_ := c.def_ 9 (d := ⟨("Circuit", some "__eq__"), "__eq__", "Circuit.__eq__", defArgs (sub 17 6), defBody (sub 17 6), defScope (sub 17 6), [], []⟩) rfl
  g_other_register := (He.glo_ok X G (c.fact 25 (f := fun K => (He.Fa.glo "other_register").ok K) rfl))
  k_other_register := (c.fact 26 (f := fun K => PySem.W.keepIn K (.ref (ga K "other_register"))) rfl)
  mk_Gate := He.mkr_ok (c.fact 27 (f := fun K => (He.Fa.mkr "Gate").ok K) rfl)
  d_Circuit_swapped := c.def_ 10 (d := ⟨("Circuit", some "swapped"), "swapped", "Circuit.swapped", defArgs (sub 17 12), defBody (sub 17 12), defScope (sub 17 12), [], []⟩) rfl
  d_Circuit_with_mode := c.def_ 11 (d := ⟨("Circuit", some "with_mode"), "with_mode", "Circuit.with_mode", defArgs (sub 17 13), defBody (sub 17 13), defScope (sub 17 13), [], []⟩) rfl
  x_NoPart := lost1 (d := ⟨"NoPart", "NoPart.__init__", sub 7 0, ["index"]⟩) (c.lx 3 (d := ⟨"NoPart", "NoPart.__init__", sub 7 0, ["index"]⟩) rfl).1 (c.lx 3 (d := ⟨"NoPart", "NoPart.__init__", sub 7 0, ["index"]⟩) rfl).2 (He.glo_ok X G (c.fact 28 (f := fun K => (He.Fa.glo "NoPart").ok K) rfl)) (He.free_ok X G (c.fact 0 (f := fun K => (He.Fa.free "super").ok K) rfl)) tp rfl rfl ⟨⟨_, rfl, rfl⟩, by decide +kernel, by decide +kernel, rfl, rfl⟩ (fun _ _ _ _ _ _ _ _ _ _ _ => rfl) rfl rfl (fun _ _ _ _ _ => ⟨_, rfl⟩)
  n_range := He.free_ok X G (c.fact 29 (f := fun K => (He.Fa.free "range").ok K) rfl)
  d_chained := c.def_ 12 (d := ⟨("chained", none), "chained", "chained", defArgs (top 22), defBody (top 22), defScope (top 22), [], []⟩) rfl
  n_int := He.free_ok X G (c.fact 30 (f := fun K => (He.Fa.free "int").ok K) rfl)
  d__law_source := c.def_ 13 (d := ⟨("_law_source", none), "_law_source", "_law_source", defArgs (top 24), defBody (top 24), defScope (top 24), [], []⟩) rfl
  n_abs := He.free_ok X G (c.fact 31 (f := fun K => (He.Fa.free "abs").ok K) rfl)
  d__law_draw := c.def_ 14 (d := ⟨("_law_draw", none), "_law_draw", "_law_draw", defArgs (top 25), defBody (top 25), defScope (top 25), [], []⟩) rfl
  d__law_modes := c.def_ 15 (d := ⟨("_law_modes", none), "_law_modes", "_law_modes", defArgs (top 26), defBody (top 26), defScope (top 26), [], []⟩) rfl
  g__law_draw := (He.glo_ok X G (c.fact 32 (f := fun K => (He.Fa.glo "_law_draw").ok K) rfl))
  k__law_draw := (c.fact 33 (f := fun K => PySem.W.keepIn K (.ref (ga K "_law_draw"))) rfl)
  g__law_modes := (He.glo_ok X G (c.fact 34 (f := fun K => (He.Fa.glo "_law_modes").ok K) rfl))
  k__law_modes := (c.fact 35 (f := fun K => PySem.W.keepIn K (.ref (ga K "_law_modes"))) rfl)
  d__law_mode := c.def_ 16 (d := ⟨("_law_mode", none), "_law_mode", "_law_mode", defArgs (top 27), defBody (top 27), defScope (top 27), [], []⟩) rfl
  n_bool := He.free_ok X G (c.fact 36 (f := fun K => (He.Fa.free "bool").ok K) rfl)
  is_bool := isi_ok (c.fact 37 (f := isiB tags (.ty "bool")) rfl)
  is_int := isi_ok (c.fact 38 (f := isiB tags (.ty "int")) rfl)
  n_str := He.free_ok X G (c.fact 39 (f := fun K => (He.Fa.free "str").ok K) rfl)
  is_str := isi_ok (c.fact 40 (f := isiB tags (.ty "str")) rfl)
  is_list := isi_ok (c.fact 41 (f := isiB tags (.ty "list")) rfl)
  n_tuple := He.free_ok X G (c.fact 42 (f := fun K => (He.Fa.free "tuple").ok K) rfl)
  is_tuple := isi_ok (c.fact 43 (f := isiB tags (.ty "tuple")) rfl)
  g__law_equal := (He.glo_ok X G (c.fact 44 (f := fun K => (He.Fa.glo "_law_equal").ok K) rfl))
  k__law_equal := (c.fact 45 (f := fun K => PySem.W.keepIn K (.ref (ga K "_law_equal"))) rfl)
  d__law_equal := c.def_ 17 (d := ⟨("_law_equal", none), "_law_equal", "_law_equal", defArgs (top 28), defBody (top 28), defScope (top 28), [], []⟩) rfl
  g__law_mode := (He.glo_ok X G (c.fact 46 (f := fun K => (He.Fa.glo "_law_mode").ok K) rfl))
  k__law_mode := (c.fact 47 (f := fun K => PySem.W.keepIn K (.ref (ga K "_law_mode"))) rfl)
  d__law_bad_mode := c.def_ 18 (d := ⟨("_law_bad_mode", none), "_law_bad_mode", "_law_bad_mode", defArgs (top 29), defBody (top 29), defScope (top 29), [], []⟩) rfl
  xi_BadCount := xis_ok (c.fact 48 (f := xisB excs (xtab "BadCount") "BadCount") rfl) (fun x b => xtab_mem)
  g_BadCount := (He.glo_ok X G (c.fact 14 (f := fun K => (He.Fa.glo "BadCount").ok K) rfl))
  xi_BadStep := xis_ok (c.fact 49 (f := xisB excs (xtab "BadStep") "BadStep") rfl) (fun x b => xtab_mem)
  g_BadStep := (He.glo_ok X G (c.fact 17 (f := fun K => (He.Fa.glo "BadStep").ok K) rfl))
  xi_NoPart := xis_ok (c.fact 50 (f := xisB excs (xtab "NoPart") "NoPart") rfl) (fun x b => xtab_mem)
  g_NoPart := (He.glo_ok X G (c.fact 28 (f := fun K => (He.Fa.glo "NoPart").ok K) rfl))
  xi_NoStep := xis_ok (c.fact 51 (f := xisB excs (xtab "NoStep") "NoStep") rfl) (fun x b => xtab_mem)
  g_NoStep := (He.glo_ok X G (c.fact 21 (f := fun K => (He.Fa.glo "NoStep").ok K) rfl))
  xf_count := xf_ok (c.fact 52 (f := DL.xfB ["BadCount"] "count") rfl)
  xf_number := xf_ok (c.fact 53 (f := DL.xfB ["BadStep", "NoStep", "StepFailed"] "number") rfl)
  xf_part := xf_ok (c.fact 54 (f := DL.xfB ["BadStep"] "part") rfl)
  xf_index := xf_ok (c.fact 55 (f := DL.xfB ["NoPart"] "index") rfl)
  d__law_error := c.def_ 19 (d := ⟨("_law_error", none), "_law_error", "_law_error", defArgs (top 30), defBody (top 30), defScope (top 30), [], []⟩) rfl
  me_Circuit__D_add_D_ := He.meth_ok (c.fact 56 (f := fun K => (He.Fa.meth "Circuit" "__add__").ok K) rfl)
  sf_Circuit := (c.fact 57 (f := fun K => PySem.W.selfFirst K (ga K "Circuit")) rfl)
  nn_Gate_add := noNum_ok (c.fact 58 (f := noNumB "Gate" "add") rfl)
  ne_Gate_Circuit := of_decide_eq_true (c.fact 59 (f := fun K => decide (ga K "Gate" ≠ ga K "Circuit")) rfl)
  d__law_built := c.def_ 20 (d := ⟨("_law_built", none), "_law_built", "_law_built", defArgs (top 31), defBody (top 31), defScope (top 31), [], []⟩) rfl
  d__law_gates := c.def_ 21 (d := ⟨("_law_gates", none), "_law_gates", "_law_gates", defArgs (top 32), defBody (top 32), defScope (top 32), [], []⟩) rfl
  me_Circuit__D_iter_D_ := He.meth_ok (c.fact 60 (f := fun K => (He.Fa.meth "Circuit" "__iter__").ok K) rfl)
  d__law_rows_of := c.def_ 22 (d := ⟨("_law_rows_of", none), "_law_rows_of", "_law_rows_of", defArgs (top 33), defBody (top 33), defScope (top 33), [], []⟩) rfl
  em_LostError := exm_ok (c.fact 61 (f := exmB excs (etab "LostError") "LostError") rfl) (fun x b => etab_mem)
  me_Circuit__D_getitem_D_ := He.meth_ok (c.fact 62 (f := fun K => (He.Fa.meth "Circuit" "__getitem__").ok K) rfl)
  fi_Circuit_D__getitem_D_ := (c.fact 63 (f := fun K => PySem.W.fnIn K (He.ma K (ga K "Circuit") "__getitem__")) rfl)
  g_chained := (He.glo_ok X G (c.fact 64 (f := fun K => (He.Fa.glo "chained").ok K) rfl))
  k_chained := (c.fact 65 (f := fun K => PySem.W.keepIn K (.ref (ga K "chained"))) rfl)
  g_LostError := (He.glo_ok X G (c.fact 66 (f := fun K => (He.Fa.glo "LostError").ok K) rfl))
  g__law_error := (He.glo_ok X G (c.fact 67 (f := fun K => (He.Fa.glo "_law_error").ok K) rfl))
  k__law_error := (c.fact 68 (f := fun K => PySem.W.keepIn K (.ref (ga K "_law_error"))) rfl)
  d__law_refused := c.def_ 23 (d := ⟨("_law_refused", none), "_law_refused", "_law_refused", defArgs (top 34), defBody (top 34), defScope (top 34), [], []⟩) rfl
  g__law_bad_mode := (He.glo_ok X G (c.fact 69 (f := fun K => (He.Fa.glo "_law_bad_mode").ok K) rfl))
  k__law_bad_mode := (c.fact 70 (f := fun K => PySem.W.keepIn K (.ref (ga K "_law_bad_mode"))) rfl)
  d__law_bad_gate := c.def_ 24 (d := ⟨("_law_bad_gate", none), "_law_bad_gate", "_law_bad_gate", defArgs (top 35), defBody (top 35), defScope (top 35), [], []⟩) rfl
  d__law_turned := c.def_ 25 (d := ⟨("_law_turned", none), "_law_turned", "_law_turned", defArgs (top 36), defBody (top 36), defScope (top 36), [], []⟩) rfl
  g__law_built := (He.glo_ok X G (c.fact 71 (f := fun K => (He.Fa.glo "_law_built").ok K) rfl))
  k__law_built := (c.fact 72 (f := fun K => PySem.W.keepIn K (.ref (ga K "_law_built"))) rfl)
  g__law_refused := (He.glo_ok X G (c.fact 73 (f := fun K => (He.Fa.glo "_law_refused").ok K) rfl))
  k__law_refused := (c.fact 74 (f := fun K => PySem.W.keepIn K (.ref (ga K "_law_refused"))) rfl)
  g__law_rows_of := (He.glo_ok X G (c.fact 75 (f := fun K => (He.Fa.glo "_law_rows_of").ok K) rfl))
  k__law_rows_of := (c.fact 76 (f := fun K => PySem.W.keepIn K (.ref (ga K "_law_rows_of"))) rfl)
  g__law_turned := (He.glo_ok X G (c.fact 77 (f := fun K => (He.Fa.glo "_law_turned").ok K) rfl))
  k__law_turned := (c.fact 78 (f := fun K => PySem.W.keepIn K (.ref (ga K "_law_turned"))) rfl)
  d__law_chained_right := c.def_ 26 (d := ⟨("_law_chained_right", none), "_law_chained_right", "_law_chained_right", defArgs (top 37), defBody (top 37), defScope (top 37), [], []⟩) rfl
  d__law_exchanged := c.def_ 27 (d := ⟨("_law_exchanged", none), "_law_exchanged", "_law_exchanged", defArgs (top 38), defBody (top 38), defScope (top 38), [], []⟩) rfl
  g__law_source := (He.glo_ok X G (c.fact 79 (f := fun K => (He.Fa.glo "_law_source").ok K) rfl))
  k__law_source := (c.fact 80 (f := fun K => PySem.W.keepIn K (.ref (ga K "_law_source"))) rfl)
  g__law_gates := (He.glo_ok X G (c.fact 81 (f := fun K => (He.Fa.glo "_law_gates").ok K) rfl))
  k__law_gates := (c.fact 82 (f := fun K => PySem.W.keepIn K (.ref (ga K "_law_gates"))) rfl)
  me_Circuit__D_len_D_ := He.meth_ok (c.fact 83 (f := fun K => (He.Fa.meth "Circuit" "__len__").ok K) rfl)
  me_Circuit__D_eq_D_ := He.meth_ok (c.fact 84 (f := fun K => (He.Fa.meth "Circuit" "__eq__").ok K) rfl)
  me_Circuit_with_mode := He.meth_ok (c.fact 85 (f := fun K => (He.Fa.meth "Circuit" "with_mode").ok K) rfl)
  cl_Circuit := He.cls_ok (c.fact 86 (f := fun K => (He.Fa.cls "Circuit").ok K) rfl)
  me_Circuit_swapped := He.meth_ok (c.fact 87 (f := fun K => (He.Fa.meth "Circuit" "swapped").ok K) rfl)
  g__law_exchanged := (He.glo_ok X G (c.fact 88 (f := fun K => (He.Fa.glo "_law_exchanged").ok K) rfl))
  k__law_exchanged := (c.fact 89 (f := fun K => PySem.W.keepIn K (.ref (ga K "_law_exchanged"))) rfl)
  g__law_bad_gate := (He.glo_ok X G (c.fact 90 (f := fun K => (He.Fa.glo "_law_bad_gate").ok K) rfl))
  k__law_bad_gate := (c.fact 91 (f := fun K => PySem.W.keepIn K (.ref (ga K "_law_bad_gate"))) rfl)
  nq_Circuit := (c.fact 92 (f := fun K => neB K (ga K "Circuit") (He.ma K (ga K "Circuit") "__eq__")) rfl)
  g__law_chained_right := (He.glo_ok X G (c.fact 93 (f := fun K => (He.Fa.glo "_law_chained_right").ok K) rfl))
  k__law_chained_right := (c.fact 94 (f := fun K => PySem.W.keepIn K (.ref (ga K "_law_chained_right"))) rfl)
  d_law := c.def_ 28 (d := ⟨("law", none), "law", "law", defArgs (top 39), defBody (top 39), defScope (top 39), [], []⟩) rfl
end G
set_option maxHeartbeats 2000000
namespace G
open PySem PySem.Spec PyProof.Rows L2 DL
/-! ### gates as data -/
structure Gt where
  op : Str
  l : Int
  r : Int
  md : Str
def gD (g : Gt) : D := .obj "Gate" [("operation", .str g.op), ("left", .int g.l), ("right", .int g.r), ("mode", .str g.md)]
def rowD (g : Gt) : D := .tup [.str g.op, .int g.l, .int g.r, .str g.md]
def circD (gs : List Gt) : D := .obj "Circuit" [("gates", .lst (gs.map gD))]
def ops : List Str := ["+", "-", "*", "<<"]
def mds : List Str := ["nearest-even", "nearest-out", "nearest-in", "nearest-up", "nearest-down", "inward", "outward", "upward", "downward"]
def opOk (g : Gt) : Prop := g.op ∈ ops
def lOk (g : Gt) (n : Int) : Prop := 0 ≤ g.l ∧ g.l ≤ n
def rOk (g : Gt) (n : Int) : Prop := if g.op = "<<" then -200 ≤ g.r ∧ g.r ≤ 200 else 0 ≤ g.r ∧ g.r ≤ n
def mOk (g : Gt) : Prop := g.md ∈ mds
structure GtOk (g : Gt) (n : Int) : Prop where
  o : opOk g
  l : lOk g n
  r : rOk g n
  m : mOk g
theorem make_gate {op md : Str} {l r : Int} {δ : En} : appM "Gate" m_Gate_D__init_D_ [.str op, .int l, .int r, .str md] δ = .ok (gD ⟨op, l, r, md⟩) δ := by
  have e : m_Gate_D__init_D_ [.ob "Gate" [], .va (.str op), .va (.int l), .va (.int r), .va (.str md)] = .ok .non [.ob "Gate" [("operation", .str op), ("left", .int l), ("right", .int r), ("mode", .str md)]] := id rfl
  unfold appM
  show outM (m_Gate_D__init_D_ [.ob "Gate" [], .va (.str op), .va (.int l), .va (.int r), .va (.str md)]) δ = _
  rw [e]; exact id rfl
theorem fld_op {g : Gt} {δ : En} : fldD ["Gate"] "operation" (gD g) δ = .ok (.str g.op) δ := id rfl
theorem fld_l {g : Gt} {δ : En} : fldD ["Gate"] "left" (gD g) δ = .ok (.int g.l) δ := id rfl
theorem fld_r {g : Gt} {δ : En} : fldD ["Gate"] "right" (gD g) δ = .ok (.int g.r) δ := id rfl
theorem fld_m {g : Gt} {δ : En} : fldD ["Gate"] "mode" (gD g) δ = .ok (.str g.md) δ := id rfl
theorem fld_g {gs : List Gt} {δ : En} : fldD ["Circuit"] "gates" (circD gs) δ = .ok (.lst (gs.map gD)) δ := id rfl
theorem run_in {b : Bool} {x : Str} {ys : List Str} {δ : En} : inG b (.str x) (.tup (ys.map D.str)) δ = .ok (.bl (if b then !decide (x ∈ ys) else decide (x ∈ ys))) δ := by
  unfold inG itemsD
  have h1 : (flatD (.str x) && (ys.map D.str).all flatD) = true := by simp [flatD]
  have h2 : ((ys.map D.str).any fun d => eqF d (.str x)) = decide (x ∈ ys) := by
    rw [Bool.eq_iff_iff]
    simp [eqF, List.any_eq_true]
  show guardM _ _ δ = _
  rw [h1, h2]; exact id rfl
theorem in_ops {b : Bool} {x : Str} {δ : En} : inG b (.str x) (.tup [.str "+", .str "-", .str "*", .str "<<"]) δ = .ok (.bl (if b then !decide (x ∈ ops) else decide (x ∈ ops))) δ := run_in (ys := ops)
theorem in_mds {b : Bool} {x : Str} {δ : En} : inG b (.str x) (.tup [.str "nearest-even", .str "nearest-out", .str "nearest-in", .str "nearest-up", .str "nearest-down", .str "inward", .str "outward", .str "upward", .str "downward"]) δ = .ok (.bl (if b then !decide (x ∈ mds) else decide (x ∈ mds))) δ := run_in (ys := mds)
@[simp] theorem run_chain {f f' : D → D → M D} {a b c : M D} {δ : En} : chainD f f' a b c δ = (a δ).bd fun x => b >>= fun y => f x y >>= fun z => blD z >>= fun k => if k then (c >>= fun w => f' y w) else pure (.bl false) := id rfl
@[simp] theorem r_eqS {b : Bool} {x y : Str} : eqG b (.str x) (.str y) = pure (.bl (if b then !decide (x = y) else decide (x = y))) := id rfl
open Classical in
noncomputable def badD (g : Gt) (n : Int) : D := if opOk g then (if lOk g n then (if rOk g n then (if mOk g then .non else .str "mode") else .str "right") else .str "left") else .str "operation"
theorem bad_part {g : Gt} {n : Int} : m_bad_part [.va (gD g), .va (.int n)] = .ok (badD g n) [] := by
  have e0 : m_bad_part [.va (gD g), .va (.int n)] = finB 0 (b_bad_part [.va (gD g), .va (.int n)]) := id rfl
  rw [e0]
  unfold badD
  have h0 : (Str.ofString "<<") ∈ ops := by decide +kernel
  by_cases h1 : g.op ∈ ops
  · by_cases h2 : 0 ≤ g.l
    · by_cases h3 : g.l ≤ n
      · by_cases h4 : g.op = "<<"
        · by_cases h5 : -200 ≤ g.r
          · by_cases h6 : g.r ≤ 200
            · by_cases h7 : g.md ∈ mds <;> simp [b_bad_part, peekV, peekSl, fld_op, fld_l, fld_r, fld_m, getV, in_ops, in_mds, h1, h2, h3, h4, h5, h6, h7, opOk, lOk, rOk, mOk, h0, finB]
            · simp [b_bad_part, peekV, peekSl, fld_op, fld_l, fld_r, fld_m, getV, in_ops, in_mds, h1, h2, h3, h4, h5, h6, opOk, lOk, rOk, mOk, h0, finB]
          · simp [b_bad_part, peekV, peekSl, fld_op, fld_l, fld_r, fld_m, getV, in_ops, in_mds, h1, h2, h3, h4, h5, opOk, lOk, rOk, mOk, h0, finB]
        · by_cases h5 : 0 ≤ g.r
          · by_cases h6 : g.r ≤ n
            · by_cases h7 : g.md ∈ mds <;> simp [b_bad_part, peekV, peekSl, fld_op, fld_l, fld_r, fld_m, getV, in_ops, in_mds, h1, h2, h3, h4, h5, h6, h7, opOk, lOk, rOk, mOk, h0, finB]
            · simp [b_bad_part, peekV, peekSl, fld_op, fld_l, fld_r, fld_m, getV, in_ops, in_mds, h1, h2, h3, h4, h5, h6, opOk, lOk, rOk, mOk, h0, finB]
          · simp [b_bad_part, peekV, peekSl, fld_op, fld_l, fld_r, fld_m, getV, in_ops, in_mds, h1, h2, h3, h4, h5, opOk, lOk, rOk, mOk, h0, finB]
      · simp [b_bad_part, peekV, peekSl, fld_op, fld_l, fld_r, fld_m, getV, in_ops, in_mds, h1, h2, h3, opOk, lOk, rOk, mOk, h0, finB]
    · simp [b_bad_part, peekV, peekSl, fld_op, fld_l, fld_r, fld_m, getV, in_ops, in_mds, h1, h2, opOk, lOk, rOk, mOk, h0, finB]
  · simp [b_bad_part, peekV, peekSl, fld_op, fld_l, fld_r, fld_m, getV, in_ops, in_mds, h1, opOk, lOk, rOk, mOk, h0, finB]
/-! ### circuits -/
def AllOk (gs : List Gt) : Prop := ∀ (i : Nat) (g : Gt), gs[i]? = some g → GtOk g ((i : Int) + 1)
theorem badD_ok {g : Gt} {n : Int} (h : GtOk g n) : badD g n = .non := by unfold badD; rw [if_pos h.o, if_pos h.l, if_pos h.r, if_pos h.m]
theorem forD_nil {st : D → M Fl} {b : M Fl} : forD st b [] = pure .nx := id rfl
theorem unvas_vas : ∀ ds : List D, unvas (vas ds) = some ds
  | [] => rfl
  | d :: ds => by
    have e := unvas_vas ds
    show (match unva (.va d), unvas (vas ds) with
      | some d, some ds => some (d :: ds)
      | _, _ => none) = _
    rw [e]; rfl
theorem star_eq {s : Sl} {ds : List D} (h : ds.length ≤ 1000000) : m_Circuit_D__init_D_ (s :: vas ds) = cutR 1 (runB 5 2 1 b_Circuit_D__init_D_ [s, .va (.tup ds)]) := by
  unfold m_Circuit_D__init_D_ starM
  rw [if_pos (by simp)]
  simp only [List.drop_succ_cons, List.drop_zero, unvas_vas]
  rw [if_pos (show szOk ds.length = true from decide_eq_true h)]
  exact id rfl
noncomputable def b_turn : M Fl := (seqD (setD 2 (bin addD (getV 2) (pure (.int 1))))
  (seqD (setD 4 (callV m_bad_part (consA (getV 3) (consA (getV 2) nilA))))
  (ifD (tst (bin notNonD (getV 4) (pure .non)))
  (raiseD "BadStep" ["number", "part"] (consA (getV 2) (consA (getV 4) nilA)))
  (pure .nx))))
theorem turns {ds : List D} : ∀ {gs : List Gt} {n : Nat} {x y : Sl}, (∀ (i : Nat) (g : Gt), gs[i]? = some g → GtOk g ((n + i : Int) + 1)) →
    ∃ x' y', ∀ r : List D, forD (setV 3) b_turn (gs.map gD ++ r) [.ob "Circuit" [], .va (.tup ds), .va (.int n), x, y] = forD (setV 3) b_turn r [.ob "Circuit" [], .va (.tup ds), .va (.int ((n + gs.length : Nat) : Int)), x', y']
  | [], n, x, y, h => ⟨x, y, fun r => rfl⟩
  | g :: gs, n, x, y, h => by
    have hg : GtOk g ((n : Int) + 1) := by
      have := h 0 g rfl
      simpa using this
    have eb := bad_part (g := g) (n := (n : Int) + 1)
    rw [badD_ok hg] at eb
    obtain ⟨x', y', e⟩ := turns (gs := gs) (n := n + 1) (ds := ds) (x := .va (gD g)) (y := .va .non) (fun i g' hi => by
      have := h (i + 1) g' hi
      have e : ((n : Int) + ((i + 1 : Nat) : Int) + 1) = (((n + 1 : Nat) : Int) + (i : Int) + 1) := by omega
      rw [e] at this
      exact this)
    refine ⟨x', y', fun r => ?_⟩
    have e1 : forD (setV 3) b_turn ((g :: gs).map gD ++ r) [.ob "Circuit" [], .va (.tup ds), .va (.int n), x, y] = ((b_turn [.ob "Circuit" [], .va (.tup ds), .va (.int n), .va (gD g), y]).bd (turnS (forD (setV 3) b_turn (gs.map gD ++ r)))) := id rfl
    have e2 : b_turn [.ob "Circuit" [], .va (.tup ds), .va (.int n), .va (gD g), y] = .ok .nx [.ob "Circuit" [], .va (.tup ds), .va (.int ((n : Int) + 1)), .va (gD g), .va .non] := by
      simp [b_turn, getV, appV, vas, eb, outV, notNonD]
    rw [e1, e2, bd_ok]
    show forD (setV 3) b_turn (gs.map gD ++ r) _ = _
    have e3 := e r
    rw [show (((n + 1 : Nat) : Int)) = (n : Int) + 1 by omega] at e3
    rw [e3, List.length_cons, show n + 1 + gs.length = n + (gs.length + 1) by omega]
theorem make_circ {gs : List Gt} (h : AllOk gs) (hl : gs.length ≤ 24) {δ : En} : appM "Circuit" m_Circuit_D__init_D_ (gs.map gD) δ = .ok (circD gs) δ := by
  obtain ⟨x', y', e⟩ := turns (ds := gs.map gD) (gs := gs) (n := 0) (x := .un) (y := .un) (fun i g hi => by
    have := h i g hi
    rw [show ((0 : Nat) : Int) + (i : Int) = (i : Int) by omega]
    exact this)
  have e1 := e []
  rw [List.append_nil] at e1
  have e0 : b_Circuit_D__init_D_ [.ob "Circuit" [], .va (.tup (gs.map gD)), .un, .un, .un] = .ok .nx [.ob "Circuit" [("gates", .lst (gs.map gD))], .va (.tup (gs.map gD)), .va (.int ((0 + gs.length : Nat) : Int)), x', y'] := by
    show seqD _ (seqD _ (seqD (forM' (setV 3) b_turn (overT (getV 1))) _)) _ = _
    have hl' : ¬ (24 < (gs.length : Int)) := by omega
    have e1' := e1
    simp at e1'
    simp [peekV, peekSl, lenD, hl', getV, itemsT, e1', forD_nil, DL.listOf, listF, sfD, sfS, putD]
  unfold appM
  rw [star_eq (by rw [List.length_map]; omega)]
  have e2 : runB 5 2 1 b_Circuit_D__init_D_ [.ob "Circuit" [], .va (.tup (gs.map gD))] = finB 1 (b_Circuit_D__init_D_ [.ob "Circuit" [], .va (.tup (gs.map gD)), .un, .un, .un]) := id rfl
  rw [e2, e0]
  exact id rfl
theorem make_count {gs : List Gt} (hl : 24 < gs.length) (hz : gs.length ≤ 1000000) {δ : En} : appM "Circuit" m_Circuit_D__init_D_ (gs.map gD) δ = .er ⟨"BadCount", [("count", .int gs.length)]⟩ δ := by
  have e0 : b_Circuit_D__init_D_ [.ob "Circuit" [], .va (.tup (gs.map gD)), .un, .un, .un] = .er ⟨"BadCount", [("count", .int gs.length)]⟩ [.ob "Circuit" [], .va (.tup (gs.map gD)), .un, .un, .un] := by
    have hl' : (24 < (gs.length : Int)) := by omega
    simp [b_Circuit_D__init_D_, peekV, peekSl, lenD, hl', raiseD, throwD, xfs]
  unfold appM
  rw [star_eq (by rw [List.length_map]; omega)]
  have e2 : runB 5 2 1 b_Circuit_D__init_D_ [.ob "Circuit" [], .va (.tup (gs.map gD))] = finB 1 (b_Circuit_D__init_D_ [.ob "Circuit" [], .va (.tup (gs.map gD)), .un, .un, .un]) := id rfl
  rw [e2, e0]
  exact id rfl
theorem make_bad {gs : List Gt} {g : Gt} {p : Str} (h : AllOk gs) (hl : gs.length < 24) (hb : badD g ((gs.length : Int) + 1) = .str p) {δ : En} : appM "Circuit" m_Circuit_D__init_D_ ((gs ++ [g]).map gD) δ = .er ⟨"BadStep", [("part", .str p), ("number", .int ((gs.length : Int) + 1))]⟩ δ := by
  obtain ⟨x', y', e⟩ := turns (ds := (gs ++ [g]).map gD) (gs := gs) (n := 0) (x := .un) (y := .un) (fun i g hi => by
    have := h i g hi
    rw [show ((0 : Nat) : Int) + (i : Int) = (i : Int) by omega]
    exact this)
  have e1 := e [gD g]
  have eb := bad_part (g := g) (n := (gs.length : Int) + 1)
  rw [hb] at eb
  have e0 : ∃ z, b_Circuit_D__init_D_ [.ob "Circuit" [], .va (.tup ((gs ++ [g]).map gD)), .un, .un, .un] = .er ⟨"BadStep", [("part", .str p), ("number", .int ((gs.length : Int) + 1))]⟩ (.ob "Circuit" [] :: z) := by
    show ∃ z, seqD _ (seqD _ (seqD (forM' (setV 3) b_turn (overT (getV 1))) _)) _ = _
    have hl' : ¬ (24 < (gs.length : Int) + 1) := by omega
    have e1' := e1
    have e3 : forD (setV 3) b_turn [gD g] [.ob "Circuit" [], .va (.tup ((gs ++ [g]).map gD)), .va (.int ((0 + gs.length : Nat) : Int)), x', y'] = .er ⟨"BadStep", [("part", .str p), ("number", .int ((gs.length : Int) + 1))]⟩ [.ob "Circuit" [], .va (.tup ((gs ++ [g]).map gD)), .va (.int ((gs.length : Int) + 1)), .va (gD g), .va (.str p)] := by
      simp [forD, b_turn, getV, appV, vas, eb, outV, notNonD, raiseD, throwD, xfs]
    rw [e3] at e1'
    simp at e1'
    simp [peekV, peekSl, lenD, hl', getV, itemsT, e1', forD_nil, DL.listOf, listF, sfD, sfS, putD]
  obtain ⟨z, e0⟩ := e0
  unfold appM
  rw [star_eq (by rw [List.length_map, List.length_append]; simp; omega)]
  have e2 : runB 5 2 1 b_Circuit_D__init_D_ [.ob "Circuit" [], .va (.tup ((gs ++ [g]).map gD))] = finB 1 (b_Circuit_D__init_D_ [.ob "Circuit" [], .va (.tup ((gs ++ [g]).map gD)), .un, .un, .un]) := id rfl
  rw [e2, e0]
  exact id rfl
end G
set_option maxHeartbeats 2000000
namespace G
open PySem PySem.Spec PyProof.Rows L2 DL
theorem allOk_snoc {gs : List Gt} {g : Gt} (h : AllOk gs) (hg : GtOk g ((gs.length : Int) + 1)) : AllOk (gs ++ [g]) := fun i x hi => by
  by_cases q : i < gs.length
  · rw [List.getElem?_append_left q] at hi
    exact h i x hi
  · rw [List.getElem?_append_right (by omega)] at hi
    have e : i - gs.length = 0 := by
      have z := (List.getElem?_eq_some_iff.mp hi).1
      simp at z
      omega
    rw [e] at hi
    cases hi
    rw [show i = gs.length by omega]
    exact hg
theorem run_starA {m : M D} {ma : M (List D)} {δ : En} : starA m ma δ = (m δ).bd fun d => starL d >>= fun xs => ma >>= fun ys => pure (xs ++ ys) := id rfl
theorem run_make {C : Str} {m : MF} {ma : M (List D)} {δ : En} : makeD C m ma δ = (ma δ).bd (appM C m) := id rfl
theorem run_frb {d : D} {P : Nat} {δ : En} : finB P (.ok (.rt d) δ) = .ok d (δ.take P) := id rfl
theorem run_frn {P : Nat} {δ : En} : finB P (.ok .nx δ) = .ok .non (δ.take P) := id rfl
theorem run_fre {P : Nat} {x : Xc} {δ : En} : finB P (.er x δ) = .er x (δ.take P) := id rfl
theorem c_len {gs : List Gt} : m_Circuit_D__len_D_ [.va (circD gs)] = .ok (.int gs.length) [] := by
  have e0 : m_Circuit_D__len_D_ [.va (circD gs)] = finB 0 (b_Circuit_D__len_D_ [.va (circD gs)]) := id rfl
  rw [e0]
  simp [b_Circuit_D__len_D_, peekV, peekSl, fld_g, lenD, run_frb]
theorem c_get {gs : List Gt} {i : Nat} {g : Gt} (h : gs[i]? = some g) : m_Circuit_D__getitem_D_ [.va (circD gs), .va (.int ((i : Int) + 1))] = .ok (gD g) [] := by
  have e0 : m_Circuit_D__getitem_D_ [.va (circD gs), .va (.int ((i : Int) + 1))] = finB 0 (b_Circuit_D__getitem_D_ [.va (circD gs), .va (.int ((i : Int) + 1))]) := id rfl
  have hi : i < gs.length := (List.getElem?_eq_some_iff.mp h).1
  have hx : ixD (.lst (gs.map gD)) (.int (i : Int)) = pure (gD g) := by
    rw [ixD_lst (by rw [List.length_map]; exact hi), List.getElem?_map, h]; exact id rfl
  have e1 : (1 : Int) ≤ (i : Int) + 1 := by omega
  have e2 : (i : Int) + 1 ≤ (gs.length : Int) := by omega
  have e3 : (i : Int) + 1 - 1 = (i : Int) := by omega
  rw [e0]
  simp [b_Circuit_D__getitem_D_, peekV, peekSl, fld_g, lenD, run_frb, getV, e1, e2, e3, hx]
theorem c_get_er {gs : List Gt} {i : Int} (h : i < 1 ∨ (gs.length : Int) < i) : m_Circuit_D__getitem_D_ [.va (circD gs), .va (.int i)] = .er ⟨"NoStep", [("number", .int i)]⟩ [] := by
  have e0 : m_Circuit_D__getitem_D_ [.va (circD gs), .va (.int i)] = finB 0 (b_Circuit_D__getitem_D_ [.va (circD gs), .va (.int i)]) := id rfl
  rw [e0]
  by_cases h1 : 1 ≤ i
  · have h2 : ¬ (i ≤ (gs.length : Int)) := by omega
    simp [b_Circuit_D__getitem_D_, peekV, peekSl, fld_g, lenD, run_fre, getV, h1, h2, raiseD, throwD, xfs]
  · simp [b_Circuit_D__getitem_D_, peekV, peekSl, fld_g, lenD, run_fre, getV, h1, raiseD, throwD, xfs]
theorem c_add {gs : List Gt} {g : Gt} {r : Rs D} (h : ∀ δ, appM "Circuit" m_Circuit_D__init_D_ ((gs ++ [g]).map gD) δ = match r with
    | .ok d _ => .ok d δ
    | .er x _ => .er x δ
    | .st => .st) : m_Circuit_D__add_D_ [.va (circD gs), .va (gD g)] = match r with
    | .ok d _ => .ok d []
    | .er x _ => .er x []
    | .st => .st := by
  have e0 : m_Circuit_D__add_D_ [.va (circD gs), .va (gD g)] = finB 0 (b_Circuit_D__add_D_ [.va (circD gs), .va (gD g)]) := id rfl
  have e1 := h [.va (circD gs), .va (gD g)]
  rw [List.map_append] at e1
  rw [e0]
  simp [b_Circuit_D__add_D_, run_make, run_starA, peekV, peekSl, fld_g, getV, starL]
  simp at e1
  rw [e1]
  cases r <;> simp [run_frb, run_fre] <;> exact id rfl
theorem c_add_ok {gs : List Gt} {g : Gt} (h : AllOk (gs ++ [g])) (hl : gs.length < 24) : m_Circuit_D__add_D_ [.va (circD gs), .va (gD g)] = .ok (circD (gs ++ [g])) [] := c_add (r := .ok (circD (gs ++ [g])) []) fun δ => make_circ h (by simp; omega)
theorem c_add_bad {gs : List Gt} {g : Gt} {p : Str} (h : AllOk gs) (hl : gs.length < 24) (hb : badD g ((gs.length : Int) + 1) = .str p) : m_Circuit_D__add_D_ [.va (circD gs), .va (gD g)] = .er ⟨"BadStep", [("part", .str p), ("number", .int ((gs.length : Int) + 1))]⟩ [] :=
  c_add (r := .er ⟨"BadStep", [("part", .str p), ("number", .int ((gs.length : Int) + 1))]⟩ []) fun δ => make_bad h hl hb
theorem c_add_count {gs : List Gt} {g : Gt} (hl : gs.length = 24) : m_Circuit_D__add_D_ [.va (circD gs), .va (gD g)] = .er ⟨"BadCount", [("count", .int 25)]⟩ [] :=
  c_add (r := .er ⟨"BadCount", [("count", .int 25)]⟩ []) fun δ => by
    have e := make_count (gs := gs ++ [g]) (by simp; omega) (by simp; omega) (δ := δ)
    rw [List.length_append, hl] at e
    exact e
theorem g_eq {a b : Gt} : m_Gate_D__eq_D_ [.va (gD a), .va (gD b)] = .ok (.bl (decide (a.op = b.op) && decide (a.md = b.md) && decide (a.l = b.l) && decide (a.r = b.r))) [] := by
  have e0 : m_Gate_D__eq_D_ [.va (gD a), .va (gD b)] = finB 0 (b_Gate_D__eq_D_ [.va (gD a), .va (gD b)]) := id rfl
  have hi : isiD tags (.own "Gate") (gD b) [.va (gD a), .va (gD b)] = .ok (.bl true) [.va (gD a), .va (gD b)] := by
    rw [run_isi (t := .own "Gate") rfl (by decide +kernel)]
    rw [show isTg (.own "Gate") (.own "Gate") = true by decide +kernel]
  rw [e0]
  by_cases h1 : a.op = b.op
  · by_cases h2 : a.md = b.md
    · by_cases h3 : a.l = b.l
      · by_cases h4 : a.r = b.r <;> simp [b_Gate_D__eq_D_, peekV, peekSl, hi, fld_op, fld_m, fld_l, fld_r, h1, h2, h3, h4, run_frb]
      · simp [b_Gate_D__eq_D_, peekV, peekSl, hi, fld_op, fld_m, fld_l, fld_r, h1, h2, h3, run_frb]
    · simp [b_Gate_D__eq_D_, peekV, peekSl, hi, fld_op, fld_m, fld_l, fld_r, h1, h2, run_frb]
  · simp [b_Gate_D__eq_D_, peekV, peekSl, hi, fld_op, fld_m, fld_l, fld_r, h1, run_frb]
theorem gD_inj {a b : Gt} (h : gD a = gD b) : a = b := by
  cases a; cases b
  simp only [gD, D.obj.injEq, List.cons.injEq, Prod.mk.injEq, D.str.injEq, D.int.injEq, true_and, and_true] at h
  obtain ⟨h1, h2, h3, h4⟩ := h
  subst h1 h2 h3 h4
  rfl
theorem eqO_same {a : Gt} : DL.eqO "Gate" m_Gate_D__eq_D_ (gD a) (gD a) = some true := by
  unfold DL.eqO
  have h1 : (isCls "Gate" (gD a) && flatO (gD a) && (isCls "Gate" (gD a) && flatO (gD a))) = true := by simp [isCls, gD, flatO, flatF, flatD]
  rw [if_pos h1]
  have e : m_Gate_D__eq_D_ (vas [gD a, gD a]) = .ok (.bl true) [] := by
    show m_Gate_D__eq_D_ [.va (gD a), .va (gD a)] = _
    rw [g_eq]; simp
  rw [e]
theorem eqO_diff {a b : Gt} (h : a ≠ b) : DL.eqO "Gate" m_Gate_D__eq_D_ (gD a) (gD b) = some false := by
  unfold DL.eqO
  have h1 : (isCls "Gate" (gD a) && flatO (gD a) && (isCls "Gate" (gD b) && flatO (gD b))) = true := by simp [isCls, gD, flatO, flatF, flatD]
  rw [if_pos h1]
  have hd : (decide (a.op = b.op) && decide (a.md = b.md) && decide (a.l = b.l) && decide (a.r = b.r)) = false := by
    cases q : (decide (a.op = b.op) && decide (a.md = b.md) && decide (a.l = b.l) && decide (a.r = b.r)) with
    | false => rfl
    | true =>
      simp only [Bool.and_eq_true, decide_eq_true_eq] at q
      exact absurd (by cases a; cases b; simp_all) h
  have e : m_Gate_D__eq_D_ (vas [gD a, gD b]) = .ok (.bl false) [] := by
    show m_Gate_D__eq_D_ [.va (gD a), .va (gD b)] = _
    rw [g_eq, hd]
  rw [e]
  exact if_neg fun e => h (gD_inj e)
theorem eqLs_map : ∀ {as bs : List Gt}, as.length = bs.length → ∃ b, eqLs "Gate" m_Gate_D__eq_D_ (as.map gD) (bs.map gD) = some b ∧ (b = true ↔ as = bs)
  | [], [], _ => ⟨true, rfl, by simp⟩
  | a :: as, [], h => by cases h
  | [], b :: bs, h => by cases h
  | a :: as, b :: bs, h => by
    have e : eqLs "Gate" m_Gate_D__eq_D_ ((a :: as).map gD) ((b :: bs).map gD) = match DL.eqO "Gate" m_Gate_D__eq_D_ (gD a) (gD b) with
      | some true => eqLs "Gate" m_Gate_D__eq_D_ (as.map gD) (bs.map gD)
      | some false => some false
      | none => none := id rfl
    rw [e]
    by_cases q : a = b
    · subst q
      rw [eqO_same]
      obtain ⟨k, hk, hk2⟩ := eqLs_map (as := as) (bs := bs) (Nat.succ.inj h)
      exact ⟨k, hk, by rw [hk2]; simp⟩
    · rw [eqO_diff q]
      exact ⟨false, rfl, by simp [q]⟩
theorem c_eq {as bs : List Gt} : ∃ b, m_Circuit_D__eq_D_ [.va (circD as), .va (circD bs)] = .ok (.bl b) [] ∧ (b = true ↔ as = bs) := by
  have e0 : m_Circuit_D__eq_D_ [.va (circD as), .va (circD bs)] = finB 0 (b_Circuit_D__eq_D_ [.va (circD as), .va (circD bs)]) := id rfl
  have hi : isiD tags (.own "Circuit") (circD bs) [.va (circD as), .va (circD bs)] = .ok (.bl true) [.va (circD as), .va (circD bs)] := by
    rw [run_isi (t := .own "Circuit") rfl (by decide +kernel)]
    rw [show isTg (.own "Circuit") (.own "Circuit") = true by decide +kernel]
  by_cases h : as.length = bs.length
  · obtain ⟨b, hb, hb2⟩ := eqLs_map h
    refine ⟨b, ?_, hb2⟩
    rw [e0]
    simp [b_Circuit_D__eq_D_, peekV, peekSl, hi, fld_g, eqLsD, h, hb, run_frb]
  · refine ⟨false, ?_, by simp; intro e; exact h (by rw [e])⟩
    rw [e0]
    simp [b_Circuit_D__eq_D_, peekV, peekSl, hi, fld_g, eqLsD, h, run_frb]
end G
set_option maxHeartbeats 2000000
namespace G
open PySem PySem.Spec PyProof.Rows L2 DL
theorem len_gs {gs : List Gt} : (gs.map gD).length = gs.length := List.length_map ..
/-! ### with_mode -/
def modeG (m : Str) (g : Gt) : Gt := ⟨g.op, g.l, g.r, m⟩
theorem allOk_map {gs : List Gt} {f : Gt → Gt} (h : AllOk gs) (hf : ∀ g n, 1 ≤ n → GtOk g n → GtOk (f g) n) : AllOk (gs.map f) := fun i x hi => by
  rw [List.getElem?_map] at hi
  cases q : gs[i]? with
  | none => rw [q] at hi; cases hi
  | some g => rw [q] at hi; cases hi; exact hf g _ (by omega) (h i g q)
theorem c_mode {gs : List Gt} {m : Str} (h : AllOk gs) (hl : gs.length ≤ 24) (hm : m ∈ mds) : m_Circuit_with_mode [.va (circD gs), .va (.str m)] = .ok (circD (gs.map (modeG m))) [] := by
  have e0 : m_Circuit_with_mode [.va (circD gs), .va (.str m)] = finB 0 (b_Circuit_with_mode [.va (circD gs), .va (.str m), .un, .un]) := id rfl
  have e1 := lc_run (j := 3) (me := makeD "Gate" m_Gate_D__init_D_ (consA (una (fldD ["Gate"] "operation") (peekV 3)) (consA (una (fldD ["Gate"] "left") (peekV 3)) (consA (una (fldD ["Gate"] "right") (peekV 3)) (consA (getV 1) nilA)))))
    (f := fun d => match d with
      | .obj _ [(_, .str o), (_, .int l), (_, .int r), _] => gD ⟨o, l, r, m⟩
      | d => d) (δ := [.va (circD gs), .va (.str m), .un, .un]) (s := .un) (ds := gs.map gD) rfl (by rw [len_gs]; omega) (fun d hd => by
        obtain ⟨g, hg, rfl⟩ := List.mem_map.mp hd
        show _ = Rs.ok (gD (modeG m g)) _
        simp [run_make, peekV, peekSl, fld_op, fld_l, fld_r, getV, make_gate, modeG])
  have e2 : (gs.map gD).map (fun d => match d with
      | .obj _ [(_, .str o), (_, .int l), (_, .int r), _] => gD ⟨o, l, r, m⟩
      | d => d) = (gs.map (modeG m)).map gD := by
    rw [List.map_map, List.map_map]
    exact List.map_congr_left fun g _ => rfl
  rw [e2] at e1
  have hv : AllOk (gs.map (modeG m)) := allOk_map h fun g n _ k => ⟨k.o, k.l, k.r, hm⟩
  have e3 := fun δ => make_circ hv (by rw [List.length_map]; exact hl) (δ := δ)
  rw [e0]
  simp [b_Circuit_with_mode, peekV, peekSl, fld_g, itemsL, e1, run_make, run_starA, getV, starL]
  simp at e3
  rw [e3]
  exact id rfl
/-! ### swapped -/
def othI (s : Int) : Int := if s < 2 then 1 - s else s
def swapG (g : Gt) : Gt := ⟨g.op, othI g.l, if g.op = "<<" then g.r else othI g.r, g.md⟩
theorem oth_ok {s n : Int} (hn : 1 ≤ n) (h : 0 ≤ s ∧ s ≤ n) : 0 ≤ othI s ∧ othI s ≤ n := by unfold othI; split <;> omega
theorem swap_ok {g : Gt} {n : Int} (hn : 1 ≤ n) (h : GtOk g n) : GtOk (swapG g) n := by
  refine ⟨h.o, oth_ok hn h.l, ?_, h.m⟩
  have hr := h.r
  unfold rOk at hr ⊢
  show if g.op = "<<" then _ else _
  by_cases q : g.op = "<<"
  · rw [if_pos q] at hr ⊢
    show -200 ≤ (if g.op = "<<" then g.r else othI g.r) ∧ _
    unfold swapG
    rw [if_pos q]; exact hr
  · rw [if_neg q] at hr ⊢
    unfold swapG
    rw [if_neg q]
    exact oth_ok hn hr
theorem m_oth {s : Int} : m_other_register [.va (.int s)] = .ok (.int (othI s)) [] := by
  have e0 : m_other_register [.va (.int s)] = finB 0 (b_other_register [.va (.int s)]) := id rfl
  rw [e0]
  unfold othI
  by_cases q : s < 2 <;> simp [b_other_register, getV, q, run_frb]
theorem run_push {i : Nat} {d : D} {ds : List D} {δ : En} (hs : δ[i]? = some (.ow ds)) (hl : ds.length ≤ 1000000) : pushS i d δ = .ok .nx (δ.set i (.ow (ds ++ [d]))) := by
  unfold pushS onOw
  simp only [hs]
  show guardM (szOk ds.length) _ δ = _
  rw [show szOk ds.length = true from decide_eq_true hl]
  exact id rfl
theorem take_snoc {α : Type} {l : List α} {i : Nat} {x : α} (h : l[i]? = some x) : l.take (i + 1) = l.take i ++ [x] := by
  rw [List.take_add_one, h]; rfl
theorem c_swap {gs : List Gt} (h : AllOk gs) (hl : gs.length ≤ 24) : m_Circuit_swapped [.va (circD gs)] = .ok (circD (gs.map swapG)) [] := by
  have e0 : m_Circuit_swapped [.va (circD gs)] = finB 0 (b_Circuit_swapped [.va (circD gs), .un, .un, .un]) := id rfl
  have loop := forD_nx (st := setV 2) (b := (seqD (setD 3 (una (fldD ["Gate"] "right") (peekV 2)))
  (seqD (ifD (tst (bin neD (una (fldD ["Gate"] "operation") (peekV 2)) (pure (.str "<<"))))
  (setD 3 (callV m_other_register (consA (una (fldD ["Gate"] "right") (peekV 2)) nilA)))
  (pure .nx))
  (appN 1 (makeD "Gate" m_Gate_D__init_D_ (consA (una (fldD ["Gate"] "operation") (peekV 2)) (consA (callV m_other_register (consA (una (fldD ["Gate"] "left") (peekV 2)) nilA)) (consA (getV 3) (consA (una (fldD ["Gate"] "mode") (peekV 2)) nilA)))))))))
    (Inv := fun i δ => ∃ x y, δ = [.va (circD gs), .ow ((gs.take i).map (fun g => gD (swapG g))), x, y]) (l := gs.map gD) (n := 0) (δ := [.va (circD gs), .ow [], .un, .un])
    (fun i d δ hi hv => by
      obtain ⟨x, y, rfl⟩ := hv
      rw [List.getElem?_map] at hi
      cases q : gs[i]? with
      | none => rw [q] at hi; cases hi
      | some g =>
        rw [q] at hi
        cases hi
        refine ⟨[.va (circD gs), .ow ((gs.take (0 + i + 1)).map (fun g => gD (swapG g))), .va (gD g), .va (.int (swapG g).r)], ⟨_, _, rfl⟩, ?_⟩
        rw [Nat.zero_add, take_snoc q]
        have hlt : i < gs.length := (List.getElem?_eq_some_iff.mp q).1
        have hp : ∀ (a b c : Sl) (d : D), pushS 1 d [a, .ow ((gs.take i).map (fun g => gD (swapG g))), b, c] = .ok .nx [a, .ow ((gs.take i).map (fun g => gD (swapG g)) ++ [d]), b, c] := fun a b c d => run_push rfl (by rw [List.length_map, List.length_take]; omega)
        rw [List.map_append]
        generalize (gs.take i).map (fun g => gD (swapG g)) = acc at *
        by_cases ho : g.op = "<<"
        · simp [peekV, peekSl, fld_r, fld_op, fld_l, fld_m, ho, itemsL, run_make, appV, vas, m_oth, outV, getV, make_gate, hp, swapG]
        · simp [peekV, peekSl, fld_r, fld_op, fld_l, fld_m, ho, itemsL, run_make, appV, vas, m_oth, outV, getV, make_gate, hp, swapG]) ⟨_, _, rfl⟩
  obtain ⟨δ', ⟨x, y, rfl⟩, e1⟩ := loop
  rw [len_gs, Nat.zero_add, List.take_length] at e1
  have hv : AllOk (gs.map swapG) := allOk_map h fun g n hn k => swap_ok hn k
  have e3 := fun δ => make_circ hv (by rw [List.length_map]; exact hl) (δ := δ)
  rw [List.map_map] at e3
  have e4 : gs.map (gD ∘ swapG) = gs.map (fun g => gD (swapG g)) := rfl
  rw [e4] at e3
  rw [e0]
  simp [b_Circuit_swapped, szOk, peekV, peekSl, fld_g, itemsL, e1, run_make, run_starA, getV, starL, e3, run_frb]
end G
set_option maxHeartbeats 2000000
namespace G
open PySem PySem.Spec PyProof.Rows L2 DL
/-! ### chained -/
def turnI (i j m s : Int) : Int := if s < 2 then (if s = 0 then i else j) else s + m
def turnG (i j m : Int) (g : Gt) : Gt := ⟨g.op, turnI i j m g.l, if g.op = "<<" then g.r else turnI i j m g.r, g.md⟩
def pls (i j : Int) (m n : Nat) : List D := .int i :: .int j :: (List.range n).map fun (t : Nat) => D.int ((t : Int) + 2 + (m : Int))
theorem pls_len {i j : Int} {m n : Nat} : (pls i j m n).length = n + 2 := by unfold pls; simp
theorem pls_at {i j s : Int} {m n : Nat} (h : 0 ≤ s) (h2 : s ≤ (n : Int) + 1) : ixD (.lst (pls i j m n)) (.int s) = pure (.int (turnI i j m s)) := by
  obtain ⟨k, rfl⟩ := Int.eq_ofNat_of_zero_le h
  rw [ixD_lst (by rw [pls_len]; omega)]
  unfold turnI pls
  match k, h2 with
  | 0, _ => exact id rfl
  | 1, _ => exact id rfl
  | k + 2, h2 =>
    have hk : k < n := by omega
    have e : ¬ (((k + 2 : Nat) : Int) < 2) := by omega
    rw [if_neg e]
    simp [hk]
theorem pls_succ {i j : Int} {m n : Nat} : pls i j m (n + 1) = pls i j m n ++ [.int ((n : Int) + 2 + (m : Int))] := by
  unfold pls
  rw [List.range_succ]
  simp
noncomputable def b_chk : M Fl := (ifD (notT (tst (chainD leD leD (pure (.int 0)) (getV 5) (bin addD (getV 4) (pure (.int 1))))))
  (raiseD "NoPart" ["index"] (consA (getV 5) nilA))
  (pure .nx))
noncomputable def b_gate : M Fl := (seqD (setD 10 (una (fldD ["Gate"] "right") (peekV 9)))
  (seqD (ifD (tst (bin neD (una (fldD ["Gate"] "operation") (peekV 9)) (pure (.str "<<"))))
  (setD 10 (ixN_ 7 (una (fldD ["Gate"] "right") (peekV 9))))
  (pure .nx))
  (appN 6 (makeD "Gate" m_Gate_D__init_D_ (consA (una (fldD ["Gate"] "operation") (peekV 9)) (consA (ixN_ 7 (una (fldD ["Gate"] "left") (peekV 9))) (consA (getV 10) (consA (una (fldD ["Gate"] "mode") (peekV 9)) nilA))))))))
noncomputable def b_rest : M Fl := (seqD (setF 6 (DL.listOf (una (fldD ["Circuit"] "gates") (peekV 0))))
  (seqD (setF 7 (dispF (consA (getV 2) (consA (getV 3) nilA))))
  (seqD (forM' (setV 8)
  (appN 7 (bin addD (bin addD (getV 8) (pure (.int 2))) (getV 4))) (overN (una lenD (una (fldD ["Circuit"] "gates") (peekV 1)))))
  (seqD (forM' (setV 9) b_gate (overL (una (fldD ["Circuit"] "gates") (peekV 1))))
  (retD (makeD "Circuit" m_Circuit_D__init_D_ (starA (getV 6) (pure []))))))))
theorem ch_eq {o t : List Gt} {i j : Int} : m_chained [.va (circD o), .va (circD t), .va (.int i), .va (.int j)] = finB 0 ((forD (setV 5) b_chk [.int i, .int j] [.va (circD o), .va (circD t), .va (.int i), .va (.int j), .va (.int o.length), .un, .un, .un, .un, .un, .un]).bd (thenS b_rest)) := by
  have e0 : m_chained [.va (circD o), .va (circD t), .va (.int i), .va (.int j)] = finB 0 (seqD (setD 4 (una lenD (una (fldD ["Circuit"] "gates") (peekV 0)))) (seqD (forM' (setV 5) b_chk (overT (tupD (consA (getV 2) (consA (getV 3) nilA))))) b_rest) [.va (circD o), .va (circD t), .va (.int i), .va (.int j), .un, .un, .un, .un, .un, .un, .un]) := id rfl
  rw [e0]
  simp [peekV, peekSl, fld_g, lenD, getV, szOk, itemsT]
theorem chk_bad {o t : List Gt} {i j s : Int} {x : Sl} {r : List D} {m : Int} (h : s < 0 ∨ m + 1 < s) : forD (setV 5) b_chk (.int s :: r) [.va (circD o), .va (circD t), .va (.int i), .va (.int j), .va (.int m), x, .un, .un, .un, .un, .un] = .er ⟨"NoPart", [("index", .int s)]⟩ [.va (circD o), .va (circD t), .va (.int i), .va (.int j), .va (.int m), .va (.int s), .un, .un, .un, .un, .un] := by
  by_cases h1 : 0 ≤ s
  · have h2 : ¬ (s ≤ m + 1) := by omega
    simp [forD, b_chk, getV, h1, h2, raiseD, throwD, xfs]
  · simp [forD, b_chk, getV, h1, raiseD, throwD, xfs]
theorem chk_ok {o t : List Gt} {i j s : Int} {x : Sl} {r : List D} {m : Int} (h : 0 ≤ s) (h2 : s ≤ m + 1) : forD (setV 5) b_chk (.int s :: r) [.va (circD o), .va (circD t), .va (.int i), .va (.int j), .va (.int m), x, .un, .un, .un, .un, .un] = forD (setV 5) b_chk r [.va (circD o), .va (circD t), .va (.int i), .va (.int j), .va (.int m), .va (.int s), .un, .un, .un, .un, .un] := by
  have e : forD (setV 5) b_chk (.int s :: r) [.va (circD o), .va (circD t), .va (.int i), .va (.int j), .va (.int m), x, .un, .un, .un, .un, .un] = (b_chk [.va (circD o), .va (circD t), .va (.int i), .va (.int j), .va (.int m), .va (.int s), .un, .un, .un, .un, .un]).bd (turnS (forD (setV 5) b_chk r)) := id rfl
  have e2 : b_chk [.va (circD o), .va (circD t), .va (.int i), .va (.int j), .va (.int m), .va (.int s), .un, .un, .un, .un, .un] = .ok .nx [.va (circD o), .va (circD t), .va (.int i), .va (.int j), .va (.int m), .va (.int s), .un, .un, .un, .un, .un] := by
    simp [b_chk, getV, h, h2]
  rw [e, e2]
  exact id rfl
theorem ch_bad1 {o t : List Gt} {i j : Int} (h : i < 0 ∨ (o.length : Int) + 1 < i) : m_chained [.va (circD o), .va (circD t), .va (.int i), .va (.int j)] = .er ⟨"NoPart", [("index", .int i)]⟩ [] := by
  rw [ch_eq, chk_bad h]; exact id rfl
theorem ch_bad2 {o t : List Gt} {i j : Int} (h1 : 0 ≤ i) (h2 : i ≤ (o.length : Int) + 1) (h : j < 0 ∨ (o.length : Int) + 1 < j) : m_chained [.va (circD o), .va (circD t), .va (.int i), .va (.int j)] = .er ⟨"NoPart", [("index", .int j)]⟩ [] := by
  rw [ch_eq, chk_ok h1 h2, chk_bad h]; exact id rfl
/-- the rest: the gates turned -/
theorem ch_rest {o t : List Gt} {i j : Int} (ho : o.length ≤ 24) (ht : t.length ≤ 24) (hv : AllOk t) {r : Rs D} (hm : ∀ δ, appM "Circuit" m_Circuit_D__init_D_ ((o ++ t.map (turnG i j o.length)).map gD) δ = match r with
    | .ok d _ => .ok d δ
    | .er x _ => .er x δ
    | .st => .st) : finB 0 (b_rest [.va (circD o), .va (circD t), .va (.int i), .va (.int j), .va (.int o.length), .va (.int j), .un, .un, .un, .un, .un]) = match r with
    | .ok d _ => .ok d []
    | .er x _ => .er x []
    | .st => .st := by
  have l1 := forD_nx (st := setV 8) (b := appN 7 (bin addD (bin addD (getV 8) (pure (.int 2))) (getV 4))) (l := rngD 0 1 t.length) (n := 0)
    (Inv := fun k δ => ∃ x, δ = [.va (circD o), .va (circD t), .va (.int i), .va (.int j), .va (.int o.length), .va (.int j), .ow (o.map gD), .ow (pls i j o.length k), x, .un, .un])
    (δ := [.va (circD o), .va (circD t), .va (.int i), .va (.int j), .va (.int o.length), .va (.int j), .ow (o.map gD), .ow (pls i j o.length 0), .un, .un, .un])
    (fun k d δ hi hv => by
      obtain ⟨x, rfl⟩ := hv
      obtain ⟨hk, rfl⟩ := rngD_at hi
      refine ⟨_, ⟨.va (.int k), rfl⟩, ?_⟩
      rw [Nat.zero_add, pls_succ]
      have hlen : (pls i j o.length k).length ≤ 1000000 := by rw [pls_len]; omega
      generalize pls i j o.length k = acc at *
      have hp : ∀ (d x : D), pushS 7 d [.va (circD o), .va (circD t), .va (.int i), .va (.int j), .va (.int o.length), .va (.int j), .ow (o.map gD), .ow acc, .va x, .un, .un] = .ok .nx [.va (circD o), .va (circD t), .va (.int i), .va (.int j), .va (.int o.length), .va (.int j), .ow (o.map gD), .ow (acc ++ [d]), .va x, .un, .un] := fun d x => run_push rfl hlen
      simp [peekV, peekSl, itemsL, getV, hp]) ⟨_, rfl⟩
  obtain ⟨δ1, ⟨x1, rfl⟩, e1⟩ := l1
  rw [rngD_len, Nat.zero_add] at e1
  have l2 := forD_nx (st := setV 9) (b := b_gate) (l := t.map gD) (n := 0)
    (Inv := fun k δ => ∃ x y, δ = [.va (circD o), .va (circD t), .va (.int i), .va (.int j), .va (.int o.length), .va (.int j), .ow (o.map gD ++ (t.take k).map fun g => gD (turnG i j o.length g)), .ow (pls i j o.length t.length), x1, x, y])
    (δ := [.va (circD o), .va (circD t), .va (.int i), .va (.int j), .va (.int o.length), .va (.int j), .ow (o.map gD), .ow (pls i j o.length t.length), x1, .un, .un])
    (fun k d δ hi hv' => by
      obtain ⟨x, y, rfl⟩ := hv'
      rw [List.getElem?_map] at hi
      cases q : t[k]? with
      | none => rw [q] at hi; cases hi
      | some g =>
        rw [q] at hi
        cases hi
        have hlt : k < t.length := (List.getElem?_eq_some_iff.mp q).1
        have hg := hv k g q
        have pl := pls_at (i := i) (j := j) (m := o.length) (n := t.length) hg.l.1 (Int.le_trans hg.l.2 (by omega))
        refine ⟨[.va (circD o), .va (circD t), .va (.int i), .va (.int j), .va (.int o.length), .va (.int j), .ow (o.map gD ++ (t.take (0 + k + 1)).map fun g => gD (turnG i j o.length g)), .ow (pls i j o.length t.length), x1, .va (gD g), .va (.int (turnG i j o.length g).r)], ⟨_, _, rfl⟩, ?_⟩
        rw [Nat.zero_add, take_snoc q, List.map_append, ← List.append_assoc]
        have hlen : (o.map gD ++ (t.take k).map fun g => gD (turnG i j o.length g)).length ≤ 1000000 := by
          rw [List.length_append, List.length_map, List.length_map, List.length_take]; omega
        generalize (o.map gD ++ (t.take k).map fun g => gD (turnG i j o.length g)) = acc at *
        generalize hpl : pls i j o.length t.length = places at *
        have hp : ∀ (d x y : D), pushS 6 d [.va (circD o), .va (circD t), .va (.int i), .va (.int j), .va (.int o.length), .va (.int j), .ow acc, .ow places, x1, .va x, .va y] = .ok .nx [.va (circD o), .va (circD t), .va (.int i), .va (.int j), .va (.int o.length), .va (.int j), .ow (acc ++ [d]), .ow places, x1, .va x, .va y] := fun d x y => run_push rfl hlen
        by_cases hop : g.op = "<<"
        · simp [b_gate, peekV, peekSl, fld_r, fld_op, fld_l, fld_m, hop, itemsL, run_make, getV, make_gate, pl, hp, turnG]
        · have hr := hg.r
          unfold rOk at hr
          rw [if_neg hop] at hr
          have pr := pls_at (i := i) (j := j) (m := o.length) (n := t.length) hr.1 (Int.le_trans hr.2 (by omega))
          rw [hpl] at pr
          simp [b_gate, peekV, peekSl, fld_r, fld_op, fld_l, fld_m, hop, itemsL, run_make, getV, make_gate, pl, pr, hp, turnG]) ⟨_, _, by rw [List.take_zero, List.map_nil, List.append_nil]⟩
  obtain ⟨δ2, ⟨x2, y2, rfl⟩, e2⟩ := l2
  rw [len_gs, Nat.zero_add, List.take_length] at e2
  have e3 := hm
  rw [List.map_append, List.map_map] at e3
  have e4 : t.map (gD ∘ turnG i j o.length) = t.map (fun g => gD (turnG i j o.length g)) := rfl
  rw [e4] at e3
  have e5 : [D.int i, D.int j] = pls i j o.length 0 := rfl
  have hlim := run_rng (lim_nat (n := t.length) (by omega))
  simp at hlim
  simp [b_rest, peekV, peekSl, fld_g, DL.listOf, listF, szOk, getV, lenD, hlim, itemsL]
  rw [e5, e1]
  simp [b_rest, peekV, peekSl, fld_g, itemsL, e2, run_make, run_starA, getV, starL, e3]
  cases r <;> simp [run_frb, run_fre] <;> exact id rfl
end G
set_option maxHeartbeats 2000000
namespace G
open PySem PySem.Spec PyProof.Rows L2 DL
theorem turnI_ok {i j : Int} {m s n : Int} (hm : 0 ≤ m) (hi : 0 ≤ i ∧ i ≤ m + 1) (hj : 0 ≤ j ∧ j ≤ m + 1) (hs : 0 ≤ s ∧ s ≤ n) (hn : 1 ≤ n) : 0 ≤ turnI i j m s ∧ turnI i j m s ≤ m + n := by
  unfold turnI
  split
  · split <;> omega
  · omega
theorem turn_ok {i j : Int} {m n : Int} {g : Gt} (hm : 0 ≤ m) (hi : 0 ≤ i ∧ i ≤ m + 1) (hj : 0 ≤ j ∧ j ≤ m + 1) (hn : 1 ≤ n) (h : GtOk g n) : GtOk (turnG i j m g) (m + n) := by
  refine ⟨h.o, turnI_ok hm hi hj h.l hn, ?_, h.m⟩
  have hr := h.r
  unfold rOk at hr ⊢
  show if g.op = "<<" then _ else _
  by_cases q : g.op = "<<"
  · rw [if_pos q] at hr ⊢
    unfold turnG
    rw [if_pos q]; exact hr
  · rw [if_neg q] at hr ⊢
    unfold turnG
    rw [if_neg q]
    exact turnI_ok hm hi hj hr hn
theorem all_turn {o t : List Gt} {i j : Int} (ho : AllOk o) (ht : AllOk t) (hi : 0 ≤ i ∧ i ≤ (o.length : Int) + 1) (hj : 0 ≤ j ∧ j ≤ (o.length : Int) + 1) : AllOk (o ++ t.map (turnG i j o.length)) := fun k x hk => by
  by_cases q : k < o.length
  · rw [List.getElem?_append_left q] at hk
    exact ho k x hk
  · rw [List.getElem?_append_right (by omega), List.getElem?_map] at hk
    cases z : t[k - o.length]? with
    | none => rw [z] at hk; cases hk
    | some g =>
      rw [z] at hk
      cases hk
      have := turn_ok (i := i) (j := j) (m := o.length) (by omega) hi hj (by omega) (ht _ g z)
      have e : (o.length : Int) + (((k - o.length : Nat) : Int) + 1) = (k : Int) + 1 := by omega
      rw [e] at this
      exact this
theorem ch_ok {o t : List Gt} {i j : Int} (ho : AllOk o) (ht : AllOk t) (hl : o.length + t.length ≤ 24) (hi : 0 ≤ i ∧ i ≤ (o.length : Int) + 1) (hj : 0 ≤ j ∧ j ≤ (o.length : Int) + 1) : m_chained [.va (circD o), .va (circD t), .va (.int i), .va (.int j)] = .ok (circD (o ++ t.map (turnG i j o.length))) [] := by
  rw [ch_eq, chk_ok hi.1 hi.2, chk_ok hj.1 hj.2, forD_nil, run_pure, bd_ok, thenS_nx]
  exact ch_rest (by omega) (by omega) ht (r := .ok (circD (o ++ t.map (turnG i j o.length))) []) fun δ => make_circ (all_turn ho ht hi hj) (by rw [List.length_append, List.length_map]; exact hl)
theorem ch_count {o t : List Gt} {i j : Int} (ho : o.length ≤ 24) (htl : t.length ≤ 24) (ht : AllOk t) (hl : 24 < o.length + t.length) (hi : 0 ≤ i ∧ i ≤ (o.length : Int) + 1) (hj : 0 ≤ j ∧ j ≤ (o.length : Int) + 1) : m_chained [.va (circD o), .va (circD t), .va (.int i), .va (.int j)] = .er ⟨"BadCount", [("count", .int ((o.length : Int) + (t.length : Int)))]⟩ [] := by
  rw [ch_eq, chk_ok hi.1 hi.2, chk_ok hj.1 hj.2, forD_nil, run_pure, bd_ok, thenS_nx]
  exact ch_rest ho htl ht (r := .er ⟨"BadCount", [("count", .int ((o.length : Int) + (t.length : Int)))]⟩ []) fun δ => by
    have e := make_count (gs := o ++ t.map (turnG i j o.length)) (by rw [List.length_append, List.length_map]; exact hl) (by rw [List.length_append, List.length_map]; omega) (δ := δ)
    rw [List.length_append, List.length_map, Int.natCast_add] at e
    exact e
/-! ### the law's helpers -/
theorem m_turned {g : Gt} {i j m : Int} (hl : 0 ≤ g.l) (hr : g.op ≠ "<<" → 0 ≤ g.r) : m__law_turned [.va (rowD g), .va (.int i), .va (.int j), .va (.int m)] = .ok (rowD (turnG i j m g)) [] := by
  have e0 : m__law_turned [.va (rowD g), .va (.int i), .va (.int j), .va (.int m)] = finB 0 (b__law_turned [.va (rowD g), .va (.int i), .va (.int j), .va (.int m), .un, .un, .un]) := id rfl
  have i0 : ixD (rowD g) (.int 0) = pure (.str g.op) := id rfl
  have i1 : ixD (rowD g) (.int 1) = pure (.int g.l) := id rfl
  have i2 : ixD (rowD g) (.int 2) = pure (.int g.r) := id rfl
  have i3 : ixD (rowD g) (.int 3) = pure (.str g.md) := id rfl
  have ij : ∀ s : Int, 0 ≤ s → s < 2 → ixD (.lst [.int i, .int j]) (.int s) = pure (.int (turnI i j m s)) := fun s h h2 => by
    have : s = 0 ∨ s = 1 := by omega
    rcases this with rfl | rfl <;> exact id rfl
  have tl : ∀ s : Int, ¬ s < 2 → turnI i j m s = s + m := fun s h => by unfold turnI; rw [if_neg h]
  rw [e0]
  show _ = Rs.ok (D.tup [.str g.op, .int (turnI i j m g.l), .int (if g.op = "<<" then g.r else turnI i j m g.r), .str g.md]) []
  by_cases h1 : g.l < 2
  · have il := ij _ hl h1
    by_cases h2 : g.op = "<<"
    · simp [b__law_turned, getV, peekV, peekSl, i0, i1, i2, i3, h1, h2, il, szOk, run_frb]
    · by_cases h3 : g.r < 2
      · simp [b__law_turned, getV, peekV, peekSl, i0, i1, i2, i3, h1, h2, h3, il, ij _ (hr h2) h3, szOk, run_frb]
      · simp [b__law_turned, getV, peekV, peekSl, i0, i1, i2, i3, h1, h2, h3, il, tl _ h3, szOk, run_frb]
  · have il := tl _ h1
    by_cases h2 : g.op = "<<"
    · simp [b__law_turned, getV, peekV, peekSl, i0, i1, i2, i3, h1, h2, il, szOk, run_frb]
    · by_cases h3 : g.r < 2
      · simp [b__law_turned, getV, peekV, peekSl, i0, i1, i2, i3, h1, h2, h3, il, ij _ (hr h2) h3, szOk, run_frb]
      · simp [b__law_turned, getV, peekV, peekSl, i0, i1, i2, i3, h1, h2, h3, il, tl _ h3, szOk, run_frb]
theorem m_exch {g : Gt} (hl : 0 ≤ g.l) (hr : g.op ≠ "<<" → 0 ≤ g.r) : m__law_exchanged [.va (rowD g)] = .ok (rowD (swapG g)) [] := by
  have e0 : m__law_exchanged [.va (rowD g)] = finB 0 (b__law_exchanged [.va (rowD g), .un]) := id rfl
  have e1 : turnG 1 0 0 g = swapG g := by
    have z : ∀ s : Int, 0 ≤ s → turnI 1 0 0 s = othI s := fun s h => by unfold turnI othI; split <;> (try split) <;> omega
    unfold turnG swapG
    rw [z _ hl]
    by_cases q : g.op = "<<"
    · rw [if_pos q, if_pos q]
    · rw [if_neg q, if_neg q, z _ (hr q)]
  rw [e0]
  simp [b__law_exchanged, getV, appV, vas, m_turned hl hr, outV, run_frb, e1]
theorem m_rows {gs : List Gt} (hl : gs.length ≤ 24) : m__law_rows_of [.va (circD gs)] = .ok (.lst (gs.map rowD)) [] := by
  have e0 : m__law_rows_of [.va (circD gs)] = finB 0 (b__law_rows_of [.va (circD gs), .un]) := id rfl
  have hit : itemsO "Circuit" "gates" (circD gs) = pure (gs.map gD) := id rfl
  have e1 := lc_run (j := 1) (me := tupD (consA (una (fldD ["Gate"] "operation") (peekV 1)) (consA (una (fldD ["Gate"] "left") (peekV 1)) (consA (una (fldD ["Gate"] "right") (peekV 1)) (consA (una (fldD ["Gate"] "mode") (peekV 1)) nilA)))))
    (f := fun d => match d with
      | .obj _ [(_, .str o), (_, .int l), (_, .int r), (_, .str m)] => rowD ⟨o, l, r, m⟩
      | d => d) (δ := [.va (circD gs), .un]) (s := .un) (ds := gs.map gD) rfl (by rw [len_gs]; omega) (fun d hd => by
        obtain ⟨g, hg, rfl⟩ := List.mem_map.mp hd
        show _ = Rs.ok (D.tup [.str g.op, .int g.l, .int g.r, .str g.md]) _
        simp [peekV, peekSl, fld_op, fld_l, fld_r, fld_m, szOk])
  have e2 : (gs.map gD).map (fun d => match d with
      | .obj _ [(_, .str o), (_, .int l), (_, .int r), (_, .str m)] => rowD ⟨o, l, r, m⟩
      | d => d) = gs.map rowD := by
    rw [List.map_map]
    exact List.map_congr_left fun g _ => rfl
  rw [e2] at e1
  rw [e0]
  simp [b__law_rows_of, overO, getV, hit, e1, run_frb]
theorem m_built {gs : List Gt} (h : AllOk gs) (hl : gs.length ≤ 24) : m__law_built [.va (.lst (gs.map rowD))] = .ok (circD gs) [] := by
  have e0 : m__law_built [.va (.lst (gs.map rowD))] = finB 0 (b__law_built [.va (.lst (gs.map rowD)), .un, .un]) := id rfl
  have mk : ∀ δ, appM "Circuit" m_Circuit_D__init_D_ [] δ = .ok (circD []) δ := fun δ => make_circ (gs := []) (fun i g h => by simp at h) (by simp)
  have loop := forD_nx (st := setV 2) (b := (setD 1 (bin (own2 "Circuit" (isCls "Gate") m_Circuit_D__add_D_) (getV 1) (makeD "Gate" m_Gate_D__init_D_ (consA (ixN_ 2 (pure (.int 0))) (consA (ixN_ 2 (pure (.int 1))) (consA (ixN_ 2 (pure (.int 2))) (consA (ixN_ 2 (pure (.int 3))) nilA))))))))
    (Inv := fun k δ => ∃ x, δ = [.va (.lst (gs.map rowD)), .va (circD (gs.take k)), x]) (l := gs.map rowD) (n := 0) (δ := [.va (.lst (gs.map rowD)), .va (circD []), .un])
    (fun k d δ hi hv => by
      obtain ⟨x, rfl⟩ := hv
      rw [List.getElem?_map] at hi
      cases q : gs[k]? with
      | none => rw [q] at hi; cases hi
      | some g =>
        rw [q] at hi
        cases hi
        have hlt : k < gs.length := (List.getElem?_eq_some_iff.mp q).1
        refine ⟨[.va (.lst (gs.map rowD)), .va (circD (gs.take (0 + k + 1))), .va (rowD g)], ⟨_, rfl⟩, ?_⟩
        rw [Nat.zero_add, take_snoc q]
        have hv : AllOk (gs.take k ++ [g]) := by
          rw [← take_snoc q]
          intro i y hy
          rw [List.getElem?_take] at hy
          split at hy
          · exact h i y hy
          · cases hy
        have ha := c_add_ok hv (by rw [List.length_take]; omega)
        have i0 : ixD (rowD g) (.int 0) = pure (.str g.op) := id rfl
        have i1 : ixD (rowD g) (.int 1) = pure (.int g.l) := id rfl
        have i2 : ixD (rowD g) (.int 2) = pure (.int g.r) := id rfl
        have i3 : ixD (rowD g) (.int 3) = pure (.str g.md) := id rfl
        have hc : ∀ l, (isCls "Circuit" (circD l) && isCls "Gate" (gD g)) = true := fun l => by simp [isCls, circD, gD]
        have ho : own2 "Circuit" (isCls "Gate") m_Circuit_D__add_D_ (circD (gs.take k)) (gD g) = fun δ => .ok (circD (gs.take k ++ [g])) δ := by
          unfold own2
          rw [hc]
          show appV m_Circuit_D__add_D_ [circD (gs.take k), gD g] = _
          unfold appV
          show outV (m_Circuit_D__add_D_ [.va (circD (gs.take k)), .va (gD g)]) = _
          rw [ha]; exact id rfl
        generalize gs.map rowD = rows at *
        generalize gs.take k = acc at *
        simp [getV, peekV, peekSl, run_make, i0, i1, i2, i3, make_gate, ho]) ⟨_, rfl⟩
  obtain ⟨δ', ⟨x, rfl⟩, e1⟩ := loop
  rw [List.length_map, Nat.zero_add, List.take_length] at e1
  rw [e0]
  simp [b__law_built, getV, mk, itemsL, e1, run_frb]
end G
set_option maxHeartbeats 2000000
namespace G
open PySem PySem.Spec PyProof.Rows L2 DL
theorem dr_eq : m__law_draw = m_draw := rfl
theorem log_ok {n : Int} (h0 : 0 < n) (h : n ≤ 1000000) : n.natAbs.log2 < 9000 := by
  have : n.natAbs.log2 < 20 := (Nat.log2_lt (by omega)).mpr (by omega)
  omega
theorem drw {ds : List D} {n : Int} (h : SrcOk ds) (hn : 0 < n) (hn2 : n ≤ 1000000) : ∃ v ds', 0 ≤ v ∧ v < n ∧ SrcOk ds' ∧ m__law_draw [.ow ds, .va (.int n)] = .ok (.int v) [.ow ds'] := draw_ok h hn (log_ok hn hn2)
theorem run_appO {m : MF} {i : Nat} {as ds : List D} {δ : En} {d : D} {s' : Sl} (hs : δ[i]? = some (.ow ds)) (e : m (.ow ds :: vas as) = .ok d [s']) : appO m i as δ = .ok d (δ.set i s') := by
  unfold appO
  rw [hs]
  show outO i (m (.ow ds :: vas as)) δ = _
  rw [e]; exact id rfl
theorem m_modes : m__law_modes [] = .ok (.lst (mds.map D.str)) [] := by
  have e0 : m__law_modes [] = finB 0 (b__law_modes [.un]) := id rfl
  have e1 : addD (.lst [.str "nearest-even", .str "nearest-out", .str "nearest-in", .str "nearest-up", .str "nearest-down"]) (.lst [.str "inward", .str "outward", .str "upward", .str "downward"]) = pure (.lst (mds.map D.str)) := id rfl
  rw [e0]
  simp [b__law_modes, szOk, getV, e1, run_frb]
theorem m_mode {ds : List D} (h : SrcOk ds) : ∃ m ds', m ∈ mds ∧ SrcOk ds' ∧ m__law_mode [.ow ds] = .ok (.str m) [.ow ds'] := by
  obtain ⟨v, ds', h0, h1, hs, e⟩ := drw h (n := 9) (by omega) (by omega)
  have e0 : m__law_mode [.ow ds] = finB 1 (b__law_mode [.ow ds]) := id rfl
  have hv : ∃ m, m ∈ mds ∧ ixD (.lst (mds.map D.str)) (.int v) = pure (.str m) := by
    have : v = 0 ∨ v = 1 ∨ v = 2 ∨ v = 3 ∨ v = 4 ∨ v = 5 ∨ v = 6 ∨ v = 7 ∨ v = 8 := by omega
    rcases this with rfl | rfl | rfl | rfl | rfl | rfl | rfl | rfl | rfl
    · exact ⟨"nearest-even", by simp [mds], id rfl⟩
    · exact ⟨"nearest-out", by simp [mds], id rfl⟩
    · exact ⟨"nearest-in", by simp [mds], id rfl⟩
    · exact ⟨"nearest-up", by simp [mds], id rfl⟩
    · exact ⟨"nearest-down", by simp [mds], id rfl⟩
    · exact ⟨"inward", by simp [mds], id rfl⟩
    · exact ⟨"outward", by simp [mds], id rfl⟩
    · exact ⟨"upward", by simp [mds], id rfl⟩
    · exact ⟨"downward", by simp [mds], id rfl⟩
  obtain ⟨m, hm, hix⟩ := hv
  refine ⟨m, ds', hm, hs, ?_⟩
  have eo : appO m__law_draw 0 [.int 9] [.ow ds] = .ok (.int v) [.ow ds'] := run_appO rfl e
  have em : appV m__law_modes [] [.ow ds] = .ok (.lst (mds.map D.str)) [.ow ds] := by
    unfold appV
    show outV (m__law_modes []) _ = _
    rw [m_modes]; exact id rfl
  rw [e0]
  simp only [b__law_mode, run_ret, run_ixE, em, bd_ok, run_bind, run_callO, peekV, peekSl, List.getElem?_cons_zero, run_consA, run_pure, run_nilA, eo, hix, run_frb]
  exact id rfl
theorem m_gates {ds : List D} {most : Int} (h : SrcOk ds) (hm : 0 ≤ most) (hm2 : most ≤ 24) : ∃ gs ds', AllOk gs ∧ (gs.length : Int) ≤ most ∧ SrcOk ds' ∧ m__law_gates [.ow ds, .va (.int most), .va (.int 0)] = .ok (.lst (gs.map rowD)) [.ow ds'] := by
  obtain ⟨n, ds1, hn0, hn1, hs1, en⟩ := drw h (n := most + 1) (by omega) (by omega)
  have e0 : m__law_gates [.ow ds, .va (.int most), .va (.int 0)] = finB 1 (b__law_gates [.ow ds, .va (.int most), .va (.int 0), .un, .un, .un, .un]) := id rfl
  have eo : ∀ a b c d e f, appO m__law_draw 0 [.int (most + 1)] [.ow ds, a, b, c, d, e, f] = .ok (.int n) [.ow ds1, a, b, c, d, e, f] := fun a b c d e f => run_appO rfl en
  have loop := forD_nx (st := setV 4) (b := (seqD (setD 5 (ixE (lstD (consA (pure (.str "+")) (consA (pure (.str "-")) (consA (pure (.str "*")) (consA (pure (.str "<<")) nilA))))) (callO m__law_draw 0 (consA (pure (.int 4)) nilA))))
  (seqD (setD 6 (callO m__law_draw 0 (consA (bin addD (getV 4) (pure (.int 2))) nilA)))
  (seqD (ifD (tst (bin eqD (getV 5) (pure (.str "<<"))))
  (setD 6 (bin subD (callO m__law_draw 0 (consA (pure (.int 401)) nilA)) (pure (.int 200))))
  (pure .nx))
  (appN 3 (tupD (consA (getV 5) (consA (callO m__law_draw 0 (consA (bin addD (getV 4) (pure (.int 2))) nilA)) (consA (getV 6) (consA (callO m__law_mode 0 nilA) nilA)))))))))) (l := rngD 0 1 n.toNat) (n := 0)
    (Inv := fun k δ => ∃ gs ds x y z, gs.length = k ∧ AllOk gs ∧ SrcOk ds ∧ δ = [.ow ds, .va (.int most), .va (.int 0), .ow (gs.map rowD), x, y, z])
    (δ := [.ow ds1, .va (.int most), .va (.int 0), .ow [], .un, .un, .un])
    (fun k d δ hi hv => by
      obtain ⟨gs, ds, x, y, z, hk, hgs, hs, rfl⟩ := hv
      obtain ⟨hkn, rfl⟩ := rngD_at hi
      rw [Nat.zero_add] at *
      obtain ⟨v1, d1, a1, b1, s1, f1⟩ := drw hs (n := 4) (by omega) (by omega)
      obtain ⟨v2, d2, a2, b2, s2, f2⟩ := drw s1 (n := (k : Int) + 2) (by omega) (by omega)
      obtain ⟨v3, d3, a3, b3, s3, f3⟩ := drw s2 (n := 401) (by omega) (by omega)
      obtain ⟨v4, d4, a4, b4, s4, f4⟩ := drw s3 (n := (k : Int) + 2) (by omega) (by omega)
      obtain ⟨v4', d4', a4', b4', s4', f4'⟩ := drw s2 (n := (k : Int) + 2) (by omega) (by omega)
      obtain ⟨m5, d5, hm5, s5, f5⟩ := m_mode s4
      obtain ⟨m5', d5', hm5', s5', f5'⟩ := m_mode s4'
      have hop : ∃ o, o ∈ ops ∧ ixD (.lst [.str "+", .str "-", .str "*", .str "<<"]) (.int v1) = pure (.str o) := by
        have : v1 = 0 ∨ v1 = 1 ∨ v1 = 2 ∨ v1 = 3 := by omega
        rcases this with rfl | rfl | rfl | rfl
        · exact ⟨"+", by simp [ops], id rfl⟩
        · exact ⟨"-", by simp [ops], id rfl⟩
        · exact ⟨"*", by simp [ops], id rfl⟩
        · exact ⟨"<<", by simp [ops], id rfl⟩
      obtain ⟨o, ho, hix⟩ := hop
      have g1 : ∀ a b c d e f, appO m__law_draw 0 [.int 4] [.ow ds, a, b, c, d, e, f] = .ok (.int v1) [.ow d1, a, b, c, d, e, f] := fun a b c d e f => run_appO rfl f1
      have g2 : ∀ a b c d e f, appO m__law_draw 0 [.int ((k : Int) + 2)] [.ow d1, a, b, c, d, e, f] = .ok (.int v2) [.ow d2, a, b, c, d, e, f] := fun a b c d e f => run_appO rfl f2
      have g3 : ∀ a b c d e f, appO m__law_draw 0 [.int 401] [.ow d2, a, b, c, d, e, f] = .ok (.int v3) [.ow d3, a, b, c, d, e, f] := fun a b c d e f => run_appO rfl f3
      have g4 : ∀ a b c d e f, appO m__law_draw 0 [.int ((k : Int) + 2)] [.ow d3, a, b, c, d, e, f] = .ok (.int v4) [.ow d4, a, b, c, d, e, f] := fun a b c d e f => run_appO rfl f4
      have g4' : ∀ a b c d e f, appO m__law_draw 0 [.int ((k : Int) + 2)] [.ow d2, a, b, c, d, e, f] = .ok (.int v4') [.ow d4', a, b, c, d, e, f] := fun a b c d e f => run_appO rfl f4'
      have g5 : ∀ a b c d e f, appO m__law_mode 0 [] [.ow d4, a, b, c, d, e, f] = .ok (.str m5) [.ow d5, a, b, c, d, e, f] := fun a b c d e f => run_appO rfl f5
      have g5' : ∀ a b c d e f, appO m__law_mode 0 [] [.ow d4', a, b, c, d, e, f] = .ok (.str m5') [.ow d5', a, b, c, d, e, f] := fun a b c d e f => run_appO rfl f5'
      have hp : ∀ (a b c e f g : Sl) (d : D), pushS 3 d [a, b, c, .ow (gs.map rowD), e, f, g] = .ok .nx [a, b, c, .ow (gs.map rowD ++ [d]), e, f, g] := fun a b c e f g d => run_push rfl (by rw [List.length_map]; omega)
      by_cases q : o = "<<"
      · have hg : GtOk ⟨o, v4, v3 - 200, m5⟩ ((gs.length : Int) + 1) := by
          refine ⟨ho, ⟨a4, by rw [hk]; dsimp only; omega⟩, ?_, hm5⟩
          unfold rOk
          rw [if_pos q]
          constructor <;> (dsimp only; omega)
        refine ⟨[.ow d5, .va (.int most), .va (.int 0), .ow ((gs ++ [Gt.mk o v4 (v3 - 200) m5]).map rowD), .va (.int k), .va (.str o), .va (.int (v3 - 200))], ⟨gs ++ [Gt.mk o v4 (v3 - 200) m5], d5, _, _, _, by rw [List.length_append, hk]; rfl, allOk_snoc hgs hg, s5, rfl⟩, ?_⟩
        rw [List.map_append]
        generalize gs.map rowD = acc at *
        subst q
        simp [peekV, peekSl, getV, szOk, g1, g2, g3, g4, g5, hix, itemsL, hp, rowD]
      · have hg : GtOk ⟨o, v4', v2, m5'⟩ ((gs.length : Int) + 1) := by
          refine ⟨ho, ⟨a4', by rw [hk]; dsimp only; omega⟩, ?_, hm5'⟩
          unfold rOk
          rw [if_neg q]
          constructor <;> (dsimp only; omega)
        refine ⟨[.ow d5', .va (.int most), .va (.int 0), .ow ((gs ++ [Gt.mk o v4' v2 m5']).map rowD), .va (.int k), .va (.str o), .va (.int v2)], ⟨gs ++ [Gt.mk o v4' v2 m5'], d5', _, _, _, by rw [List.length_append, hk]; rfl, allOk_snoc hgs hg, s5', rfl⟩, ?_⟩
        rw [List.map_append]
        generalize gs.map rowD = acc at *
        simp [peekV, peekSl, getV, szOk, g1, g2, g4', g5', hix, itemsL, hp, rowD, q])
    ⟨[], ds1, _, _, _, rfl, fun i g h => by simp at h, hs1, rfl⟩
  obtain ⟨δ', ⟨gs, ds2, x, y, z, hk, hgs, hs2, rfl⟩, e1⟩ := loop
  rw [rngD_len] at hk
  refine ⟨gs, ds2, hgs, by omega, hs2, ?_⟩
  have hlim := run_rng (j := n) (by unfold lim62; rw [decide_eq_true (by omega), decide_eq_true (by omega)]; rfl)
  rw [e0]
  simp [b__law_gates, szOk, peekV, peekSl, getV, eo, hlim, e1, run_frb]
end G
set_option maxHeartbeats 2000000
namespace G
open PySem PySem.Spec PyProof.Rows L2 DL
/-! ### the refusals told -/
theorem x0 {a : Addr} {dd : Option Addr} {x : Xc} {r : En} : xcV 0 a dd (Sl.xc a dd x :: r) = .ok x (Sl.xc a dd x :: r) := by
  unfold xcV
  show (if a = a ∧ dd = dd then Rs.ok x _ else Rs.st) = _
  rw [if_pos ⟨rfl, rfl⟩]
theorem xb_count {d : D} (a : Addr) (dd : Option Addr) : mx__law_error a dd ⟨"BadCount", [("count", d)]⟩ = .ok (.lst [.str "count", d]) [] := by
  have e0 : mx__law_error a dd ⟨"BadCount", [("count", d)]⟩ = match bx__law_error a dd ⟨"BadCount", [("count", d)]⟩ [Sl.xc a dd ⟨"BadCount", [("count", d)]⟩, .un] with
    | .ok .nx _ => .ok .non []
    | .ok (.rt d) _ => .ok d []
    | _ => .st := id rfl
  have t1 : xtab "BadCount" "BadCount" = some true := by decide +kernel
  have t2 : xtab "BadStep" "BadCount" = some false := by decide +kernel
  have t3 : xtab "NoPart" "BadCount" = some false := by decide +kernel
  have t4 : xtab "NoStep" "BadCount" = some false := by decide +kernel
  rw [e0]
  simp [bx__law_error, x0, xisD, t1, t2, t3, t4, szOk, peekV, peekSl, countTD, boolsD, ixD, L2.atI, ixN, xfldD]
theorem xb_step {d e : D} (a : Addr) (dd : Option Addr) : mx__law_error a dd ⟨"BadStep", [("part", e), ("number", d)]⟩ = .ok (.lst [.str "badstep", d, e]) [] := by
  have e0 : mx__law_error a dd ⟨"BadStep", [("part", e), ("number", d)]⟩ = match bx__law_error a dd ⟨"BadStep", [("part", e), ("number", d)]⟩ [Sl.xc a dd ⟨"BadStep", [("part", e), ("number", d)]⟩, .un] with
    | .ok .nx _ => .ok .non []
    | .ok (.rt d) _ => .ok d []
    | _ => .st := id rfl
  have t1 : xtab "BadCount" "BadStep" = some false := by decide +kernel
  have t2 : xtab "BadStep" "BadStep" = some true := by decide +kernel
  have t3 : xtab "NoPart" "BadStep" = some false := by decide +kernel
  have t4 : xtab "NoStep" "BadStep" = some false := by decide +kernel
  have l1 : List.lookup (Str.ofString "number") [(Str.ofString "part", e), (Str.ofString "number", d)] = some d := by
    rw [List.lookup_cons, show (Str.ofString "number" == Str.ofString "part") = false by decide +kernel]; simp
  rw [e0]
  simp [bx__law_error, x0, xisD, t1, t2, t3, t4, szOk, peekV, peekSl, countTD, boolsD, ixD, L2.atI, ixN, xfldD, l1]
theorem xb_part {d : D} (a : Addr) (dd : Option Addr) : mx__law_error a dd ⟨"NoPart", [("index", d)]⟩ = .ok (.lst [.str "part", d]) [] := by
  have e0 : mx__law_error a dd ⟨"NoPart", [("index", d)]⟩ = match bx__law_error a dd ⟨"NoPart", [("index", d)]⟩ [Sl.xc a dd ⟨"NoPart", [("index", d)]⟩, .un] with
    | .ok .nx _ => .ok .non []
    | .ok (.rt d) _ => .ok d []
    | _ => .st := id rfl
  have t1 : xtab "BadCount" "NoPart" = some false := by decide +kernel
  have t2 : xtab "BadStep" "NoPart" = some false := by decide +kernel
  have t3 : xtab "NoPart" "NoPart" = some true := by decide +kernel
  have t4 : xtab "NoStep" "NoPart" = some false := by decide +kernel
  rw [e0]
  simp [bx__law_error, x0, xisD, t1, t2, t3, t4, szOk, peekV, peekSl, countTD, boolsD, ixD, L2.atI, ixN, xfldD]
theorem xb_no {d : D} (a : Addr) (dd : Option Addr) : mx__law_error a dd ⟨"NoStep", [("number", d)]⟩ = .ok (.lst [.str "step", d]) [] := by
  have e0 : mx__law_error a dd ⟨"NoStep", [("number", d)]⟩ = match bx__law_error a dd ⟨"NoStep", [("number", d)]⟩ [Sl.xc a dd ⟨"NoStep", [("number", d)]⟩, .un] with
    | .ok .nx _ => .ok .non []
    | .ok (.rt d) _ => .ok d []
    | _ => .st := id rfl
  have t1 : xtab "BadCount" "NoStep" = some false := by decide +kernel
  have t2 : xtab "BadStep" "NoStep" = some false := by decide +kernel
  have t3 : xtab "NoPart" "NoStep" = some false := by decide +kernel
  have t4 : xtab "NoStep" "NoStep" = some true := by decide +kernel
  rw [e0]
  simp [bx__law_error, x0, xisD, t1, t2, t3, t4, szOk, peekV, peekSl, countTD, boolsD, ixD, L2.atI, ixN, xfldD]
theorem run_try_ok {i : Nat} {tab : Str → Option Bool} {g : MX} {mb : M Fl} {δ δ' : En} {fl : Fl} (h : mb δ = .ok fl δ') : tryX i tab g mb δ = .ok fl δ' := by unfold tryX; rw [h]
theorem run_try_er {i : Nat} {tab : Str → Option Bool} {g : MX} {mb : M Fl} {δ δ' : En} {x : Xc} {d : D} (h : mb δ = .er x δ') (ht : tab x.cls = some true) (hg : ∀ a dd, g a dd x = .ok d []) (hl : i < δ'.length) : tryX i tab g mb δ = .ok (.rt d) (δ'.set i .un) := by
  unfold tryX
  rw [h]
  show catchX i tab g x δ' = _
  unfold catchX
  rw [ht, allX_of hg]
  exact if_pos hl
/-- way 1: circuit[i] -/
theorem ref_step {gs : List Gt} {i : Int} (h : i < 1 ∨ (gs.length : Int) < i) : m__law_refused [.va (circD gs), .va (.int 1), .va .non, .va (.int i), .va (.int 0)] = .ok (.lst [.str "step", .int i]) [] := by
  have e0 : m__law_refused [.va (circD gs), .va (.int 1), .va .non, .va (.int i), .va (.int 0)] = finB 0 (b__law_refused [.va (circD gs), .va (.int 1), .va .non, .va (.int i), .va (.int 0), .un]) := id rfl
  have ho : ∀ δ, ixO "Circuit" m_Circuit_D__getitem_D_ (circD gs) (.int i) δ = .er ⟨"NoStep", [("number", .int i)]⟩ δ := fun δ => by
    unfold ixO
    rw [show isCls "Circuit" (circD gs) = true by simp [isCls, circD]]
    show outV (m_Circuit_D__getitem_D_ [.va (circD gs), .va (.int i)]) δ = _
    rw [c_get_er h]; exact id rfl
  rw [e0]
  unfold b__law_refused
  rw [run_seq, run_try_er (d := .lst [.str "step", .int i]) (x := ⟨"NoStep", [("number", .int i)]⟩) (δ' := [.va (circD gs), .va (.int 1), .va .non, .va (.int i), .va (.int 0), .un]) (by simp [getV, ho]) (by show etab "LostError" "NoStep" = some true; decide +kernel) xb_no (by simp)]
  exact id rfl
/-- way 0: circuit + gate -/
theorem ref_add {gs : List Gt} {g : Gt} {x : Xc} {d : D} (h : m_Circuit_D__add_D_ [.va (circD gs), .va (gD g)] = .er x []) (ht : etab "LostError" x.cls = some true) (hg : ∀ a dd, mx__law_error a dd x = .ok d []) : m__law_refused [.va (circD gs), .va (.int 0), .va (gD g), .va (.int 0), .va (.int 0)] = .ok d [] := by
  have e0 : m__law_refused [.va (circD gs), .va (.int 0), .va (gD g), .va (.int 0), .va (.int 0)] = finB 0 (b__law_refused [.va (circD gs), .va (.int 0), .va (gD g), .va (.int 0), .va (.int 0), .un]) := id rfl
  have ho : ∀ δ, own2 "Circuit" (isCls "Gate") m_Circuit_D__add_D_ (circD gs) (gD g) δ = .er x δ := fun δ => by
    unfold own2
    rw [show (isCls "Circuit" (circD gs) && isCls "Gate" (gD g)) = true by simp [isCls, circD, gD]]
    show outV (m_Circuit_D__add_D_ [.va (circD gs), .va (gD g)]) δ = _
    rw [h]; exact id rfl
  rw [e0]
  unfold b__law_refused
  rw [run_seq, run_try_er (d := d) (x := x) (δ' := [.va (circD gs), .va (.int 0), .va (gD g), .va (.int 0), .va (.int 0), .un]) (by simp [getV, ho]) ht hg (by simp)]
  exact id rfl
theorem ref_add_ok {gs : List Gt} {g : Gt} {d : D} (h : m_Circuit_D__add_D_ [.va (circD gs), .va (gD g)] = .ok d []) : m__law_refused [.va (circD gs), .va (.int 0), .va (gD g), .va (.int 0), .va (.int 0)] = .ok (.lst [.str "told"]) [] := by
  have e0 : m__law_refused [.va (circD gs), .va (.int 0), .va (gD g), .va (.int 0), .va (.int 0)] = finB 0 (b__law_refused [.va (circD gs), .va (.int 0), .va (gD g), .va (.int 0), .va (.int 0), .un]) := id rfl
  have ho : ∀ δ, own2 "Circuit" (isCls "Gate") m_Circuit_D__add_D_ (circD gs) (gD g) δ = .ok d δ := fun δ => by
    unfold own2
    rw [show (isCls "Circuit" (circD gs) && isCls "Gate" (gD g)) = true by simp [isCls, circD, gD]]
    show outV (m_Circuit_D__add_D_ [.va (circD gs), .va (gD g)]) δ = _
    rw [h]; exact id rfl
  rw [e0]
  unfold b__law_refused
  rw [run_seq, run_try_ok (fl := .nx) (δ' := [.va (circD gs), .va (.int 0), .va (gD g), .va (.int 0), .va (.int 0), .un]) (by simp [getV, ho])]
  simp [szOk, run_frb]
/-- way 2: chained -/
theorem ref_ch {o t : List Gt} {i j : Int} {x : Xc} {d : D} (h : m_chained [.va (circD o), .va (circD t), .va (.int i), .va (.int j)] = .er x []) (ht : etab "LostError" x.cls = some true) (hg : ∀ a dd, mx__law_error a dd x = .ok d []) : m__law_refused [.va (circD o), .va (.int 2), .va (circD t), .va (.int i), .va (.int j)] = .ok d [] := by
  have e0 : m__law_refused [.va (circD o), .va (.int 2), .va (circD t), .va (.int i), .va (.int j)] = finB 0 (b__law_refused [.va (circD o), .va (.int 2), .va (circD t), .va (.int i), .va (.int j), .un]) := id rfl
  have ho : ∀ δ, appV m_chained [circD o, circD t, .int i, .int j] δ = .er x δ := fun δ => by
    unfold appV
    show outV (m_chained [.va (circD o), .va (circD t), .va (.int i), .va (.int j)]) δ = _
    rw [h]; exact id rfl
  rw [e0]
  unfold b__law_refused
  rw [run_seq, run_try_er (d := d) (x := x) (δ' := [.va (circD o), .va (.int 2), .va (circD t), .va (.int i), .va (.int j), .un]) (by simp [getV, ho]) ht hg (by simp)]
  exact id rfl
theorem ref_ch_ok {o t : List Gt} {i j : Int} {d : D} (h : m_chained [.va (circD o), .va (circD t), .va (.int i), .va (.int j)] = .ok d []) : m__law_refused [.va (circD o), .va (.int 2), .va (circD t), .va (.int i), .va (.int j)] = .ok (.lst [.str "told"]) [] := by
  have e0 : m__law_refused [.va (circD o), .va (.int 2), .va (circD t), .va (.int i), .va (.int j)] = finB 0 (b__law_refused [.va (circD o), .va (.int 2), .va (circD t), .va (.int i), .va (.int j), .un]) := id rfl
  have ho : ∀ δ, appV m_chained [circD o, circD t, .int i, .int j] δ = .ok d δ := fun δ => by
    unfold appV
    show outV (m_chained [.va (circD o), .va (circD t), .va (.int i), .va (.int j)]) δ = _
    rw [h]; exact id rfl
  rw [e0]
  unfold b__law_refused
  rw [run_seq, run_try_ok (fl := .nx) (δ' := [.va (circD o), .va (.int 2), .va (circD t), .va (.int i), .va (.int j), .un]) (by simp [getV, ho])]
  simp [szOk, run_frb]
end G
set_option maxHeartbeats 2000000
namespace G
open PySem PySem.Spec PyProof.Rows L2 DL
theorem r_addS {x y : Str} (h : x.length + y.length ≤ 1000000) : addD (.str x) (.str y) = pure (.str (x ++ y)) := by
  show guardM (szOk _) _ = _
  rw [show szOk (x.length + y.length) = true from decide_eq_true h]; exact id rfl
theorem r_addL {x y : List D} (h : x.length + y.length ≤ 1000000) : addD (.lst x) (.lst y) = pure (.lst (x ++ y)) := by
  show guardM (szOk _) _ = _
  rw [show szOk (x.length + y.length) = true from decide_eq_true h]; exact id rfl
theorem r_lenS {x : Str} (h : x.length ≤ 1000000) : lenD (.str x) = pure (.int x.length) := by
  show guardM (szOk _) _ = _
  rw [show szOk x.length = true from decide_eq_true h]; exact id rfl
theorem r_slS {x : Str} {lo hi : Option Int} (h : x.length ≤ 1000000) : slD (.str x) lo hi = pure (.str (cutS x lo hi)) := by
  show guardM (szOk _) _ = _
  rw [show szOk x.length = true from decide_eq_true h]; exact id rfl
theorem r_up {x : Str} (h : x.length ≤ 1000000) : upperD (.str x) = pure (.str (Txt.upper x)) := by
  show guardM (shortS _ _) _ = _
  rw [show shortS x.length 1000000 = true from decide_eq_true h]; exact id rfl
theorem r_split {x y : Str} (hy : (y.length == 0) = false) (h : x.length ≤ 1000000) : splitD (.str x) (.str y) = pure (strsD (Txt.split x y)) := by
  show guardM (!(y.length == 0) && shortS _ _) _ = _
  rw [hy, show shortS x.length 1000000 = true from decide_eq_true h]; exact id rfl
theorem run_replM {y z : Str} {mo : M D} {δ : En} {x : Str} {δ' : En} (h : mo δ = .ok (.str x) δ') (h2 : x.length + (x.length + 1) * z.length ≤ 16777216) : replM y z mo δ = .ok (.str (Txt.replace x y z)) δ' := by
  unfold replM
  rw [run_bind, h]
  show guardM (decide _) _ δ' = _
  rw [decide_eq_true h2]; exact id rfl
theorem ixS {x : Str} {i : Nat} (h : i < x.cps.toList.length) (hl : x.length ≤ 1000000) : ∃ c, ixD (.str x) (.int (i : Int)) = pure (.str c) := by
  have e := atI_nat (x := 0) h
  refine ⟨⟨#[(x.cps.toList[i]?).getD 0]⟩, ?_⟩
  simp only [ixD, e]
  show guardM (szOk _) _ = _
  rw [show szOk x.length = true from decide_eq_true hl]; exact id rfl
/-- a mode: what its text is like -/
theorem md_facts {m : Str} (h : m ∈ mds) : m.length ≤ 12 ∧ 1 ≤ m.length ∧ m.length = m.cps.toList.length ∧ (∃ y ys, Txt.split m "-" = y :: ys) ∧ m ++ ("-" : Str) ∉ mds := by
  simp only [mds, List.mem_cons, List.not_mem_nil, or_false] at h
  have key : ∀ m : Str, (decide (m.length ≤ 12) && decide (1 ≤ m.length) && decide (m.length = m.cps.toList.length) && !(Txt.split m "-").isEmpty && decide (m ++ ("-" : Str) ∉ mds)) = true → m.length ≤ 12 ∧ 1 ≤ m.length ∧ m.length = m.cps.toList.length ∧ (∃ y ys, Txt.split m "-" = y :: ys) ∧ m ++ ("-" : Str) ∉ mds := fun m k => by
    simp only [Bool.and_eq_true, decide_eq_true_eq, Bool.not_eq_true'] at k
    obtain ⟨⟨⟨⟨k1, k2⟩, k3⟩, k4⟩, k5⟩ := k
    refine ⟨k1, k2, k3, ?_, k5⟩
    cases q : Txt.split m "-" with
    | nil => rw [q] at k4; cases k4
    | cons y ys => exact ⟨y, ys, rfl⟩
  rcases h with rfl | rfl | rfl | rfl | rfl | rfl | rfl | rfl | rfl <;> exact key _ (by decide +kernel)
theorem l_sp : (Str.ofString " ").length = 1 := by decide +kernel
theorem l_da : (Str.ofString "-").length = 1 := by decide +kernel
theorem l_us : (Str.ofString "_").length = 1 := by decide +kernel
theorem l_ne : (Str.ofString "nearest-").length = 8 := by decide +kernel
theorem m_bad_mode {ds : List D} (h : SrcOk ds) : ∃ t ds', t ∉ mds ∧ SrcOk ds' ∧ m__law_bad_mode [.ow ds] = .ok (.str t) [.ow ds'] := by
  obtain ⟨m, d1, hm, s1, f1⟩ := m_mode h
  obtain ⟨v, d2, a2, b2, s2, f2⟩ := drw s1 (n := 10) (by omega) (by omega)
  obtain ⟨k1, k2, k3, ⟨y, ys, k4⟩, _⟩ := md_facts hm
  have e0 : m__law_bad_mode [.ow ds] = finB 1 (b__law_bad_mode [.ow ds, .un, .un, .un]) := id rfl
  have g1 : ∀ a b c, appO m__law_mode 0 [] [.ow ds, a, b, c] = .ok (.str m) [.ow d1, a, b, c] := fun a b c => run_appO rfl f1
  have g2 : ∀ a b c, appO m__law_draw 0 [.int 10] [.ow d1, a, b, c] = .ok (.int v) [.ow d2, a, b, c] := fun a b c => run_appO rfl f2
  obtain ⟨c, hc⟩ := ixS (x := m) (i := m.length - 1) (by omega) (by omega)
  have hc' : ixD (.str m) (.int ((m.length : Int) - 1)) = pure (.str c) := by rw [show (m.length : Int) - 1 = ((m.length - 1 : Nat) : Int) by omega]; exact hc
  have hcl : c.length ≤ 1000 := by
    have e := hc
    have e2 := atI_nat (x := 0) (ds := m.cps.toList) (i := m.length - 1) (by omega)
    simp only [ixD, e2] at e
    rw [show szOk m.length = true from decide_eq_true (by omega)] at e
    have e3 := congrFun e []
    have e4 : Rs.ok (D.str ⟨#[(m.cps.toList[m.length - 1]?).getD 0]⟩) [] = Rs.ok (D.str c) [] := e3
    cases e4
    show Array.size _ ≤ 1000
    simp
  have hadd : ∀ x : Str, x.length ≤ 1000 → addD (.str m) (.str x) = pure (.str (m ++ x)) := fun x hx => r_addS (by omega)
  have hadd2 : ∀ x : Str, x.length ≤ 1000 → addD (.str x) (.str m) = pure (.str (x ++ m)) := fun x hx => r_addS (by omega)
  have hs0 : ixD (strsD (Txt.split m (Str.ofString "-"))) (.int 0) = pure (.str y) := by
    rw [k4]
    show ixD (.lst ((y :: ys).map D.str)) (.int ((0 : Nat) : Int)) = _
    rw [ixD_lst (by simp)]; exact id rfl
  have hrep : ∀ (δ δ' : En), getV 1 δ = .ok (.str m) δ' → replM "-" "_" (getV 1) δ = .ok (.str (Txt.replace m "-" "_")) δ' := fun δ δ' e => run_replM e (by rw [l_us]; omega)
  have body : b__law_bad_mode [.ow ds, .un, .un, .un] = (seqD (setD 3 (ixN_ 2 (callO m__law_draw 0 (consA (pure (.int 10)) nilA))))
  (seqD (ifD (tst (bin inD (getV 3) (appV m__law_modes [])))
  (retD (bin addD (getV 3) (pure (.str "-"))))
  (pure .nx))
  (retD (getV 3)))) [.ow d1, .va (.str m), .va (.lst ([m ++ (" " : Str), (" " : Str) ++ m, cutS m (some 1) none, cutS m none (some ((m.length : Int) - 1)), Txt.upper m, Txt.replace m "-" "_", m ++ c, y, ("nearest-" : Str) ++ m, ""].map D.str)), .un] := by
    unfold b__law_bad_mode
    simp [g1, peekV, peekSl, getV, hadd _ (show (Str.ofString " ").length ≤ 1000 by rw [l_sp]; omega), hadd2 _ (show (Str.ofString " ").length ≤ 1000 by rw [l_sp]; omega), hadd2 _ (show (Str.ofString "nearest-").length ≤ 1000 by rw [l_ne]; omega), hadd c hcl,
      slN, somePart, noPart, partD, r_lenS (show m.length ≤ 1000000 by omega), r_slS (show m.length ≤ 1000000 by omega), r_up (show m.length ≤ 1000000 by omega), hrep, szOk, hc', r_split (x := m) (y := Str.ofString "-") (by rw [l_da]; rfl) (by omega), hs0, r_addL]
  generalize hts : [m ++ (" " : Str), (" " : Str) ++ m, cutS m (some 1) none, cutS m none (some ((m.length : Int) - 1)), Txt.upper m, Txt.replace m "-" "_", m ++ c, y, ("nearest-" : Str) ++ m, ""] = ts at body
  have hlen : ts.length = 10 := by rw [← hts]; rfl
  obtain ⟨k, rfl⟩ := Int.eq_ofNat_of_zero_le a2
  have hk : k < ts.length := by omega
  have hix : ixD (.lst (ts.map D.str)) (.int (k : Int)) = pure (.str ts[k]) := by
    rw [ixD_lst (by rw [List.length_map]; exact hk), List.getElem?_map, List.getElem?_eq_getElem hk]; exact id rfl
  have em : ∀ δ, appV m__law_modes [] δ = .ok (.lst (mds.map D.str)) δ := fun δ => by
    unfold appV
    show outV (m__law_modes []) _ = _
    rw [m_modes]; exact id rfl
  have hin : ∀ δ, inG false (.str ts[k]) (.lst (mds.map D.str)) δ = .ok (.bl (decide (ts[k] ∈ mds))) δ := fun δ => by
    have e : inG false (.str ts[k]) (.lst (mds.map D.str)) δ = inG false (.str ts[k]) (.tup (mds.map D.str)) δ := id rfl
    rw [e, run_in]; exact id rfl
  generalize ts.map D.str = tl at *
  generalize hms : mds.map D.str = ml at *
  by_cases q : ts[k] ∈ mds
  · refine ⟨ts[k] ++ ("-" : Str), d2, (md_facts q).2.2.2.2, s2, ?_⟩
    have ha : addD (.str ts[k]) (.str (Str.ofString "-")) = pure (.str (ts[k] ++ ("-" : Str))) := r_addS (by have := (md_facts q).1; rw [l_da]; omega)
    rw [e0, body]
    simp [peekV, peekSl, g2, hix, getV, em, hin, q, ha, run_frb]
  · refine ⟨ts[k], d2, q, s2, ?_⟩
    rw [e0, body]
    simp [peekV, peekSl, g2, hix, getV, em, hin, q, run_frb]
end G
set_option maxHeartbeats 2000000
namespace G
open PySem PySem.Spec PyProof.Rows L2 DL
open Classical in
noncomputable def pM (g : Gt) : D := if mOk g then .non else .str "mode"
open Classical in
noncomputable def pR (g : Gt) (n : Int) : D := if rOk g n then pM g else .str "right"
open Classical in
noncomputable def pL (g : Gt) (n : Int) : D := if lOk g n then pR g n else .str "left"
theorem bad_pL {g : Gt} {n : Int} : badD g n = (open Classical in if opOk g then pL g n else .str "operation") := rfl
abbrev st8 (ds : List D) (n bad : Int) (g : Gt) (p : D) : En := [.ow ds, .va (.int n), .va (.int bad), .va (.str g.op), .va (.int g.r), .va (.int g.l), .va (.str g.md), .va p]
noncomputable def s1 : M Fl := (ifD (tst (bin gtD (getV 2) (pure (.int 7))))
  (seqD (setD 6 (callO m__law_bad_mode 0 nilA))
  (setD 7 (pure (.str "mode"))))
  (pure .nx))
noncomputable def s2 : M Fl := (ifD (tst (bin eqD (bin modD (una intD (bin fdivD (getV 2) (pure (.int 4)))) (pure (.int 2))) (pure (.int 1))))
  (seqD (setD 4 (ixE (lstD (consA (bin addD (getV 1) (pure (.int 1))) (consA (bin subD (pure (.int 0)) (pure (.int 1))) nilA))) (callO m__law_draw 0 (consA (pure (.int 2)) nilA))))
  (seqD (ifD (tst (bin eqD (getV 3) (pure (.str "<<"))))
  (setD 4 (ixE (lstD (consA (pure (.int 201)) (consA (bin subD (pure (.int 0)) (pure (.int 201))) nilA))) (callO m__law_draw 0 (consA (pure (.int 2)) nilA))))
  (pure .nx))
  (setD 7 (pure (.str "right")))))
  (pure .nx))
noncomputable def s3 : M Fl := (ifD (tst (bin eqD (bin modD (una intD (bin fdivD (getV 2) (pure (.int 2)))) (pure (.int 2))) (pure (.int 1))))
  (seqD (setD 5 (ixE (lstD (consA (bin addD (getV 1) (pure (.int 1))) (consA (bin subD (pure (.int 0)) (pure (.int 1))) nilA))) (callO m__law_draw 0 (consA (pure (.int 2)) nilA))))
  (setD 7 (pure (.str "left"))))
  (pure .nx))
noncomputable def s4 : M Fl := (ifD (tst (bin eqD (bin modD (una intD (getV 2)) (pure (.int 2))) (pure (.int 1))))
  (seqD (setD 3 (ixE (lstD (consA (pure (.str "")) (consA (pure (.str "/")) (consA (pure (.str ">>")) (consA (pure (.str "<")) (consA (pure (.str "++")) nilA)))))) (callO m__law_draw 0 (consA (pure (.int 5)) nilA))))
  (setD 7 (pure (.str "operation"))))
  (pure .nx))
noncomputable def s5 : M Fl := (retD (lstD (consA (makeD "Gate" m_Gate_D__init_D_ (consA (getV 3) (consA (getV 5) (consA (getV 4) (consA (getV 6) nilA))))) (consA (getV 7) nilA))))
noncomputable def sR : M Fl := seqD s1 (seqD s2 (seqD s3 (seqD s4 s5)))
theorem d4 {i : Int} : fdivD (.int i) (.int 4) = pure (.int (i / 4)) := r_fdiv (by omega) (by decide)
theorem d2 {i : Int} : fdivD (.int i) (.int 2) = pure (.int (i / 2)) := r_fdiv (by omega) (by decide)
theorem mo2 {i : Int} : modD (.int i) (.int 2) = pure (.int (i % 2)) := r_mod (by omega)
theorem two_at {x y v : Int} (h : 0 ≤ v) (h2 : v < 2) : ∃ z, (z = x ∨ z = y) ∧ ixD (.lst [.int x, .int y]) (.int v) = pure (.int z) := by
  have : v = 0 ∨ v = 1 := by omega
  rcases this with rfl | rfl
  · exact ⟨x, .inl rfl, id rfl⟩
  · exact ⟨y, .inr rfl, id rfl⟩
theorem seg1 {ds : List D} {n bad : Int} {g : Gt} (h : SrcOk ds) (hm : mOk g) : ∃ ds' m, SrcOk ds' ∧ s1 (st8 ds n bad g .non) = .ok .nx (st8 ds' n bad ⟨g.op, g.l, g.r, m⟩ (pM ⟨g.op, g.l, g.r, m⟩)) := by
  by_cases q : 7 < bad
  · obtain ⟨t, d1, ht, h1, f1⟩ := m_bad_mode h
    have g1 : ∀ a b c d e f i, appO m__law_bad_mode 0 [] [.ow ds, a, b, c, d, e, f, i] = .ok (.str t) [.ow d1, a, b, c, d, e, f, i] := fun a b c d e f i => run_appO rfl f1
    refine ⟨d1, t, h1, ?_⟩
    have e : pM ⟨g.op, g.l, g.r, t⟩ = .str "mode" := by unfold pM mOk; exact if_neg ht
    rw [e]
    simp [s1, st8, getV, q, peekV, peekSl, g1]
  · refine ⟨ds, g.md, h, ?_⟩
    have e : pM ⟨g.op, g.l, g.r, g.md⟩ = .non := by unfold pM; exact if_pos hm
    rw [e]
    simp [s1, st8, getV, q]
theorem seg2 {ds : List D} {n bad : Int} {g : Gt} (h : SrcOk ds) (hn : 0 ≤ n) (hr : rOk g n) : ∃ ds' r, SrcOk ds' ∧ s2 (st8 ds n bad g (pM g)) = .ok .nx (st8 ds' n bad ⟨g.op, g.l, r, g.md⟩ (pR ⟨g.op, g.l, r, g.md⟩ n)) := by
  by_cases q : bad / 4 % 2 = 1
  · obtain ⟨v1, d1, a1, b1, h1, f1⟩ := drw h (n := 2) (by omega) (by omega)
    obtain ⟨v2, d2', a2, b2, h2, f2⟩ := drw h1 (n := 2) (by omega) (by omega)
    have g1 : ∀ a b c d e f i, appO m__law_draw 0 [.int 2] [.ow ds, a, b, c, d, e, f, i] = .ok (.int v1) [.ow d1, a, b, c, d, e, f, i] := fun a b c d e f i => run_appO rfl f1
    have g2 : ∀ a b c d e f i, appO m__law_draw 0 [.int 2] [.ow d1, a, b, c, d, e, f, i] = .ok (.int v2) [.ow d2', a, b, c, d, e, f, i] := fun a b c d e f i => run_appO rfl f2
    obtain ⟨z1, hz1, x1⟩ := two_at (x := n + 1) (y := -1) a1 b1
    obtain ⟨z2, hz2, x2⟩ := two_at (x := 201) (y := -201) a2 b2
    by_cases o : g.op = "<<"
    · refine ⟨d2', z2, h2, ?_⟩
      have e : pR ⟨g.op, g.l, z2, g.md⟩ n = .str "right" := by
        unfold pR rOk
        refine if_neg ?_
        rw [if_pos o]
        dsimp only
        rcases hz2 with rfl | rfl <;> omega
      rw [e]
      simp [s2, st8, getV, q, peekV, peekSl, g1, g2, x1, x2, d4, mo2, o, szOk]
    · refine ⟨d1, z1, h1, ?_⟩
      have e : pR ⟨g.op, g.l, z1, g.md⟩ n = .str "right" := by
        unfold pR rOk
        refine if_neg ?_
        rw [if_neg o]
        dsimp only
        rcases hz1 with rfl | rfl <;> omega
      rw [e]
      simp [s2, st8, getV, q, peekV, peekSl, g1, x1, d4, mo2, o, szOk]
  · refine ⟨ds, g.r, h, ?_⟩
    have e : pR ⟨g.op, g.l, g.r, g.md⟩ n = pM g := by unfold pR; exact if_pos hr
    rw [e]
    generalize pM g = p
    simp [s2, st8, getV, q, d4, mo2]
theorem seg3 {ds : List D} {n bad : Int} {g : Gt} (h : SrcOk ds) (hl : lOk g n) : ∃ ds' l, SrcOk ds' ∧ s3 (st8 ds n bad g (pR g n)) = .ok .nx (st8 ds' n bad ⟨g.op, l, g.r, g.md⟩ (pL ⟨g.op, l, g.r, g.md⟩ n)) := by
  by_cases q : bad / 2 % 2 = 1
  · obtain ⟨v1, d1, a1, b1, h1, f1⟩ := drw h (n := 2) (by omega) (by omega)
    have g1 : ∀ a b c d e f i, appO m__law_draw 0 [.int 2] [.ow ds, a, b, c, d, e, f, i] = .ok (.int v1) [.ow d1, a, b, c, d, e, f, i] := fun a b c d e f i => run_appO rfl f1
    obtain ⟨z1, hz1, x1⟩ := two_at (x := n + 1) (y := -1) a1 b1
    refine ⟨d1, z1, h1, ?_⟩
    have e : pL ⟨g.op, z1, g.r, g.md⟩ n = .str "left" := by
      unfold pL lOk
      refine if_neg ?_
      dsimp only
      rcases hz1 with rfl | rfl <;> omega
    rw [e]
    generalize pR g n = p
    simp [s3, st8, getV, q, peekV, peekSl, g1, x1, d2, mo2, szOk]
  · refine ⟨ds, g.l, h, ?_⟩
    have e : pL ⟨g.op, g.l, g.r, g.md⟩ n = pR g n := by unfold pL; exact if_pos hl
    rw [e]
    generalize pR g n = p
    simp [s3, st8, getV, q, d2, mo2]
theorem seg4 {ds : List D} {n bad : Int} {g : Gt} (h : SrcOk ds) (ho : opOk g) : ∃ ds' o, SrcOk ds' ∧ s4 (st8 ds n bad g (pL g n)) = .ok .nx (st8 ds' n bad ⟨o, g.l, g.r, g.md⟩ (badD ⟨o, g.l, g.r, g.md⟩ n)) := by
  by_cases q : bad % 2 = 1
  · obtain ⟨v1, d1, a1, b1, h1, f1⟩ := drw h (n := 5) (by omega) (by omega)
    have g1 : ∀ a b c d e f i, appO m__law_draw 0 [.int 5] [.ow ds, a, b, c, d, e, f, i] = .ok (.int v1) [.ow d1, a, b, c, d, e, f, i] := fun a b c d e f i => run_appO rfl f1
    have hx : ∃ o, o ∉ ops ∧ ixD (.lst [.str "", .str "/", .str ">>", .str "<", .str "++"]) (.int v1) = pure (.str o) := by
      have : v1 = 0 ∨ v1 = 1 ∨ v1 = 2 ∨ v1 = 3 ∨ v1 = 4 := by omega
      rcases this with rfl | rfl | rfl | rfl | rfl
      · exact ⟨"", by decide +kernel, id rfl⟩
      · exact ⟨"/", by decide +kernel, id rfl⟩
      · exact ⟨">>", by decide +kernel, id rfl⟩
      · exact ⟨"<", by decide +kernel, id rfl⟩
      · exact ⟨"++", by decide +kernel, id rfl⟩
    obtain ⟨o, hno, x1⟩ := hx
    refine ⟨d1, o, h1, ?_⟩
    have e : badD ⟨o, g.l, g.r, g.md⟩ n = .str "operation" := by rw [bad_pL]; exact if_neg hno
    rw [e]
    generalize pL g n = p
    simp [s4, st8, getV, q, peekV, peekSl, g1, x1, mo2, szOk]
  · refine ⟨ds, g.op, h, ?_⟩
    have e : badD ⟨g.op, g.l, g.r, g.md⟩ n = pL g n := by rw [bad_pL]; exact if_pos ho
    rw [e]
    generalize pL g n = p
    simp [s4, st8, getV, q, mo2]
end G
set_option maxHeartbeats 2000000
namespace G
open PySem PySem.Spec PyProof.Rows L2 DL
theorem seqR {a b : M Fl} {δ δ' : En} (h : a δ = .ok .nx δ') : seqD a b δ = b δ' := by rw [run_seq, h, bd_ok, thenS_nx]
theorem m_bad_gate {ds : List D} {n : Int} (h : SrcOk ds) (hn : 1 ≤ n) (hn2 : n ≤ 25) : ∃ g ds', SrcOk ds' ∧ m__law_bad_gate [.ow ds, .va (.int n)] = .ok (.lst [gD g, badD g n]) [.ow ds'] := by
  obtain ⟨bad, d1, a1, b1, h1, f1⟩ := drw h (n := 16) (by omega) (by omega)
  obtain ⟨v2, d2, a2, b2, h2, f2⟩ := drw h1 (n := 4) (by omega) (by omega)
  obtain ⟨v3, d3, a3, b3, h3, f3⟩ := drw h2 (n := n + 1) (by omega) (by omega)
  obtain ⟨v4, d4, a4, b4, h4, f4⟩ := drw h3 (n := n + 1) (by omega) (by omega)
  obtain ⟨v5, d5, a5, b5, h5, f5⟩ := drw h4 (n := 3) (by omega) (by omega)
  obtain ⟨m6, d6, hm6, h6, f6⟩ := m_mode h5
  obtain ⟨m6', d6', hm6', h6', f6'⟩ := m_mode h4
  have g1 : ∀ a b c d e f i, appO m__law_draw 0 [.int 16] [.ow ds, a, b, c, d, e, f, i] = .ok (.int bad) [.ow d1, a, b, c, d, e, f, i] := fun a b c d e f i => run_appO rfl f1
  have g2 : ∀ a b c d e f i, appO m__law_draw 0 [.int 4] [.ow d1, a, b, c, d, e, f, i] = .ok (.int v2) [.ow d2, a, b, c, d, e, f, i] := fun a b c d e f i => run_appO rfl f2
  have g3 : ∀ a b c d e f i, appO m__law_draw 0 [.int (n + 1)] [.ow d2, a, b, c, d, e, f, i] = .ok (.int v3) [.ow d3, a, b, c, d, e, f, i] := fun a b c d e f i => run_appO rfl f3
  have g4 : ∀ a b c d e f i, appO m__law_draw 0 [.int (n + 1)] [.ow d3, a, b, c, d, e, f, i] = .ok (.int v4) [.ow d4, a, b, c, d, e, f, i] := fun a b c d e f i => run_appO rfl f4
  have g5 : ∀ a b c d e f i, appO m__law_draw 0 [.int 3] [.ow d4, a, b, c, d, e, f, i] = .ok (.int v5) [.ow d5, a, b, c, d, e, f, i] := fun a b c d e f i => run_appO rfl f5
  have g6 : ∀ a b c d e f i, appO m__law_mode 0 [] [.ow d5, a, b, c, d, e, f, i] = .ok (.str m6) [.ow d6, a, b, c, d, e, f, i] := fun a b c d e f i => run_appO rfl f6
  have g6' : ∀ a b c d e f i, appO m__law_mode 0 [] [.ow d4, a, b, c, d, e, f, i] = .ok (.str m6') [.ow d6', a, b, c, d, e, f, i] := fun a b c d e f i => run_appO rfl f6'
  have hop : ∃ o, o ∈ ops ∧ ixD (.lst [.str "+", .str "-", .str "*", .str "<<"]) (.int v2) = pure (.str o) := by
    have : v2 = 0 ∨ v2 = 1 ∨ v2 = 2 ∨ v2 = 3 := by omega
    rcases this with rfl | rfl | rfl | rfl
    · exact ⟨"+", by simp [ops], id rfl⟩
    · exact ⟨"-", by simp [ops], id rfl⟩
    · exact ⟨"*", by simp [ops], id rfl⟩
    · exact ⟨"<<", by simp [ops], id rfl⟩
  obtain ⟨o, ho, x2⟩ := hop
  have hsh : ∃ r, (-200 ≤ r ∧ r ≤ 200) ∧ ixD (.lst [.int 200, .int (-200), .int 0]) (.int v5) = pure (.int r) := by
    have : v5 = 0 ∨ v5 = 1 ∨ v5 = 2 := by omega
    rcases this with rfl | rfl | rfl
    · exact ⟨200, by omega, id rfl⟩
    · exact ⟨-200, by omega, id rfl⟩
    · exact ⟨0, by omega, id rfl⟩
  obtain ⟨r5, hr5, x5⟩ := hsh
  have e0 : m__law_bad_gate [.ow ds, .va (.int n)] = finB 1 (b__law_bad_gate [.ow ds, .va (.int n), .un, .un, .un, .un, .un, .un]) := id rfl
  have part : ∃ g d, SrcOk d ∧ opOk g ∧ lOk g n ∧ rOk g n ∧ mOk g ∧ b__law_bad_gate [.ow ds, .va (.int n), .un, .un, .un, .un, .un, .un] = sR (st8 d n bad g .non) := by
    by_cases q : o = "<<"
    · refine ⟨⟨o, v4, r5, m6⟩, d6, h6, ho, ⟨a4, by dsimp only; omega⟩, by unfold rOk; rw [if_pos q]; exact hr5, hm6, ?_⟩
      show seqD _ (seqD _ (seqD _ (seqD _ (seqD _ (seqD _ (seqD _ sR)))))) _ = _
      generalize sR = z
      subst q
      simp [peekV, peekSl, getV, szOk, g1, g2, g3, g4, g5, g6, x2, x5, st8]
    · refine ⟨⟨o, v4, v3, m6'⟩, d6', h6', ho, ⟨a4, by dsimp only; omega⟩, by unfold rOk; rw [if_neg q]; exact ⟨a3, by dsimp only; omega⟩, hm6', ?_⟩
      show seqD _ (seqD _ (seqD _ (seqD _ (seqD _ (seqD _ (seqD _ sR)))))) _ = _
      generalize sR = z
      simp [peekV, peekSl, getV, szOk, g1, g2, g3, g4, g6', x2, st8, q]
  obtain ⟨g, d, hs, po, pl, pr, pm, e1⟩ := part
  obtain ⟨e, m, hs1, k1⟩ := seg1 (bad := bad) (n := n) hs pm
  obtain ⟨e', r, hs2, k2⟩ := seg2 (bad := bad) (n := n) (g := ⟨g.op, g.l, g.r, m⟩) hs1 (by omega) pr
  obtain ⟨e'', l, hs3, k3⟩ := seg3 (bad := bad) (n := n) (g := ⟨g.op, g.l, r, m⟩) hs2 pl
  obtain ⟨e''', o', hs4, k4⟩ := seg4 (bad := bad) (n := n) (g := ⟨g.op, l, r, m⟩) hs3 po
  refine ⟨⟨o', l, r, m⟩, e''', hs4, ?_⟩
  rw [e0, e1]
  unfold sR
  rw [seqR k1]
  rw [show (st8 e n bad ⟨g.op, g.l, g.r, m⟩ (pM ⟨g.op, g.l, g.r, m⟩)) = st8 e n bad ⟨g.op, g.l, g.r, m⟩ (pM ⟨g.op, g.l, g.r, m⟩) from rfl, seqR k2, seqR k3, seqR k4]
  generalize badD _ n = p
  simp [s5, st8, getV, run_make, make_gate, szOk, run_frb]
end G
set_option maxHeartbeats 2000000
namespace G
open PySem PySem.Spec PyProof.Rows L2 DL
theorem eq_eq : m__law_equal = mr_equal tags 12 := rfl
theorem law_eq {d : D} (h : plainE 12 d = true) {δ : En} : appV m__law_equal [d, d] δ = .ok (.bl true) δ := by
  unfold appV
  show outV (m__law_equal [.va d, .va d]) δ = _
  rw [eq_eq, equal_refl (by decide +kernel) h]; exact id rfl
theorem plain_rows {gs : List Gt} (h : gs.length ≤ 1000000) : plainE 12 (.lst (gs.map rowD)) = true := by
  show (decide _ && List.all _ _) = true
  rw [decide_eq_true (by rw [List.length_map]; exact h), Bool.true_and, List.all_eq_true]
  intro x hx
  obtain ⟨g, _, rfl⟩ := List.mem_map.mp hx
  exact id rfl
theorem due2 {a : Str} {n : Int} : plainE 12 (.lst [.str a, .int n]) = true := id rfl
theorem due1 {a : Str} : plainE 12 (.lst [.str a]) = true := id rfl
theorem st : PyData.strOk (Str.ofString "told") = true := by decide +kernel
theorem ne2 {a : Str} {n : Int} {δ : En} (ha : PyData.strOk a = true) : eqG true (.lst [.str a, .int n]) (.lst [.str (Str.ofString "told")]) δ = .ok (.bl true) δ := by
  have e : eqG true (.lst [.str a, .int n]) (.lst [.str (Str.ofString "told")]) δ = guardM (SeqAt.shaped (.list [.str a, .int n]) && SeqAt.shaped (.list [.str (Str.ofString "told")])) (pure (.bl (!PyData.eqv (.list [.str a, .int n]) (.list [.str (Str.ofString "told")])))) δ := id rfl
  rw [e, show (SeqAt.shaped (.list [.str a, .int n]) && SeqAt.shaped (.list [.str (Str.ofString "told")])) = true by simp [SeqAt.shaped, PyData.canLay0, PyData.canLayAll0, PyData.depth, PyData.depthAll, ha, st], show PyData.eqv (.list [.str a, .int n]) (.list [.str (Str.ofString "told")]) = false by simp [PyData.eqv, PyData.eqvAll]]
  exact id rfl
theorem ne1 {δ : En} : eqG true (.lst [.str (Str.ofString "told")]) (.lst [.str (Str.ofString "told")]) δ = .ok (.bl false) δ := by
  have e : eqG true (.lst [.str (Str.ofString "told")]) (.lst [.str (Str.ofString "told")]) δ = guardM (SeqAt.shaped (.list [.str (Str.ofString "told")]) && SeqAt.shaped (.list [.str (Str.ofString "told")])) (pure (.bl (!PyData.eqv (.list [.str (Str.ofString "told")]) (.list [.str (Str.ofString "told")])))) δ := id rfl
  rw [e, show (SeqAt.shaped (.list [.str (Str.ofString "told")]) && SeqAt.shaped (.list [.str (Str.ofString "told")])) = true by decide +kernel, show PyData.eqv (.list [.str (Str.ofString "told")]) (.list [.str (Str.ofString "told")]) = true by decide +kernel]
  exact id rfl
theorem app_of {m : MF} {as : List D} {d : D} {δ : En} (e : m (vas as) = .ok d []) : appV m as δ = .ok d δ := by
  unfold appV
  rw [e]; exact id rfl
theorem chained_right {ds : List D} {o t : List Gt} (h : SrcOk ds) (ho : AllOk o) (ht : AllOk t) (hl : o.length ≤ 24) (hl2 : t.length ≤ 12) : ∃ ds', m__law_chained_right [.ow ds, .va (.lst (o.map rowD)), .va (.lst (t.map rowD))] = .ok (.bl true) [.ow ds'] := by
  obtain ⟨i, d1, a1, b1, h1, f1⟩ := drw h (n := (o.length : Int) + 3) (by omega) (by omega)
  obtain ⟨j, d2, a2, b2, h2, f2⟩ := drw h1 (n := (o.length : Int) + 3) (by omega) (by omega)
  have e0 : m__law_chained_right [.ow ds, .va (.lst (o.map rowD)), .va (.lst (t.map rowD))] = finB 1 (b__law_chained_right [.ow ds, .va (.lst (o.map rowD)), .va (.lst (t.map rowD)), .un, .un, .un, .un, .un, .un, .un]) := id rfl
  have g1 : ∀ a b c d e f g h i', appO m__law_draw 0 [.int ((o.length : Int) + 3)] [.ow ds, a, b, c, d, e, f, g, h, i'] = .ok (.int i) [.ow d1, a, b, c, d, e, f, g, h, i'] := fun a b c d e f g h i' => run_appO rfl f1
  have g2 : ∀ a b c d e f g h i', appO m__law_draw 0 [.int ((o.length : Int) + 3)] [.ow d1, a, b, c, d, e, f, g, h, i'] = .ok (.int j) [.ow d2, a, b, c, d, e, f, g, h, i'] := fun a b c d e f g h i' => run_appO rfl f2
  have bo : ∀ δ, appV m__law_built [.lst (o.map rowD)] δ = .ok (circD o) δ := fun δ => app_of (m_built ho hl)
  have bt : ∀ δ, appV m__law_built [.lst (t.map rowD)] δ = .ok (circD t) δ := fun δ => app_of (m_built ht (by omega))
  have lo : lenD (.lst (o.map rowD)) = pure (.int o.length) := by show pure (D.int ((o.map rowD).length : Nat)) = _; rw [List.length_map]
  have lt : lenD (.lst (t.map rowD)) = pure (.int t.length) := by show pure (D.int ((t.map rowD).length : Nat)) = _; rw [List.length_map]
  have ht0 : etab "LostError" "NoPart" = some true := by decide +kernel
  have ht1 : etab "LostError" "BadCount" = some true := by decide +kernel
  have rm : ∀ δ, appV m__law_refused [circD o, .int 2, circD t, .int (-1), .int j] δ = .ok (.lst [.str (Str.ofString "part"), .int (-1)]) δ := fun δ => app_of (ref_ch (ch_bad1 (by omega)) ht0 xb_part)
  have em1 : ∀ δ, appV m__law_equal [.lst [.str (Str.ofString "part"), .int (-1)], .lst [.str (Str.ofString "part"), .int (-1)]] δ = .ok (.bl true) δ := fun δ => law_eq due2
  have sP : PyData.strOk (Str.ofString "part") = true := by decide +kernel
  have sC : PyData.strOk (Str.ofString "count") = true := by decide +kernel
  by_cases q1 : (o.length : Int) + 1 < i
  · have rr : ∀ δ, appV m__law_refused [circD o, .int 2, circD t, .int i, .int j] δ = .ok (.lst [.str (Str.ofString "part"), .int i]) δ := fun δ => app_of (ref_ch (ch_bad1 (.inr q1)) ht0 xb_part)
    have ee : ∀ δ, appV m__law_equal [.lst [.str (Str.ofString "part"), .int i], .lst [.str (Str.ofString "part"), .int i]] δ = .ok (.bl true) δ := fun δ => law_eq due2
    have sA := sP
    refine ⟨d2, ?_⟩
    rw [e0]
    by_cases q2 : (o.length : Int) + 1 < j <;> by_cases q3 : 24 < (o.length : Int) + (t.length : Int) <;> simp [b__law_chained_right, getV, peekV, peekSl, g1, g2, bo, bt, lo, lt, szOk, q1, q2, q3, rr, ee, rm, em1, ne2 sA, run_frb]
  · by_cases q2 : (o.length : Int) + 1 < j
    · have rr : ∀ δ, appV m__law_refused [circD o, .int 2, circD t, .int i, .int j] δ = .ok (.lst [.str (Str.ofString "part"), .int j]) δ := fun δ => app_of (ref_ch (ch_bad2 a1 (by omega) (.inr q2)) ht0 xb_part)
      have ee : ∀ δ, appV m__law_equal [.lst [.str (Str.ofString "part"), .int j], .lst [.str (Str.ofString "part"), .int j]] δ = .ok (.bl true) δ := fun δ => law_eq due2
      have sA := sP
      refine ⟨d2, ?_⟩
      rw [e0]
      by_cases q3 : 24 < (o.length : Int) + (t.length : Int) <;> simp [b__law_chained_right, getV, peekV, peekSl, g1, g2, bo, bt, lo, lt, szOk, q1, q2, q3, rr, ee, rm, em1, ne2 sA, run_frb]
    · by_cases q3 : 24 < (o.length : Int) + (t.length : Int)
      · have rr : ∀ δ, appV m__law_refused [circD o, .int 2, circD t, .int i, .int j] δ = .ok (.lst [.str (Str.ofString "count"), .int ((o.length : Int) + (t.length : Int))]) δ := fun δ => app_of (ref_ch (ch_count hl (by omega) ht (by omega) ⟨a1, by omega⟩ ⟨a2, by omega⟩) ht1 xb_count)
        have ee : ∀ δ, appV m__law_equal [.lst [.str (Str.ofString "count"), .int ((o.length : Int) + (t.length : Int))], .lst [.str (Str.ofString "count"), .int ((o.length : Int) + (t.length : Int))]] δ = .ok (.bl true) δ := fun δ => law_eq due2
        have sA := sC
        refine ⟨d2, ?_⟩
        rw [e0]
        simp [b__law_chained_right, getV, peekV, peekSl, g1, g2, bo, bt, lo, lt, szOk, q1, q2, q3, rr, ee, rm, em1, ne2 sA, run_frb]
      · have hch := ch_ok (i := i) (j := j) ho ht (by omega) ⟨a1, by omega⟩ ⟨a2, by omega⟩
        have rr : ∀ δ, appV m__law_refused [circD o, .int 2, circD t, .int i, .int j] δ = .ok (.lst [.str (Str.ofString "told")]) δ := fun δ => app_of (ref_ch_ok hch)
        have ee : ∀ δ, appV m__law_equal [.lst [.str (Str.ofString "told")], .lst [.str (Str.ofString "told")]] δ = .ok (.bl true) δ := fun δ => law_eq due1
        have cc : ∀ δ, appV m_chained [circD o, circD t, .int i, .int j] δ = .ok (circD (o ++ t.map (turnG i j o.length))) δ := fun δ => app_of hch
        have hlen : (o ++ t.map (turnG i j o.length)).length ≤ 24 := by rw [List.length_append, List.length_map]; omega
        have ro : ∀ δ, appV m__law_rows_of [circD (o ++ t.map (turnG i j o.length))] δ = .ok (.lst ((o ++ t.map (turnG i j o.length)).map rowD)) δ := fun δ => app_of (m_rows hlen)
        have lc := lc_run (j := 9) (me := callV m__law_turned (consA (getV 9) (consA (getV 5) (consA (getV 6) (consA (una lenD (peekV 1)) nilA)))))
          (f := fun d => match d with
            | .tup [.str a, .int l, .int r, .str m] => rowD (turnG i j o.length ⟨a, l, r, m⟩)
            | d => d) (δ := [.ow d2, .va (.lst (o.map rowD)), .va (.lst (t.map rowD)), .va (circD o), .va (circD t), .va (.int i), .va (.int j), .va (.lst [.str (Str.ofString "told")]), .va (.lst ((o ++ t.map (turnG i j o.length)).map rowD)), .un]) (s := .un) (ds := t.map rowD) rfl (by rw [List.length_map]; omega) (fun d hd => by
              obtain ⟨g, hg, rfl⟩ := List.mem_map.mp hd
              obtain ⟨k, hk, rfl⟩ := List.getElem_of_mem hg
              have gk := ht k _ (List.getElem?_eq_getElem hk)
              have hr : t[k].op ≠ "<<" → 0 ≤ t[k].r := fun q => by
                have := gk.r
                unfold rOk at this
                rw [if_neg q] at this
                exact this.1
              have tt : ∀ δ, appV m__law_turned [rowD t[k], .int i, .int j, .int o.length] δ = .ok (rowD (turnG i j o.length t[k])) δ := fun δ => app_of (m_turned gk.l.1 hr)
              show _ = Rs.ok (rowD (turnG i j o.length t[k])) _
              simp [getV, peekV, peekSl, lo, tt])
        have lf : (t.map rowD).map (fun d => match d with
            | .tup [.str a, .int l, .int r, .str m] => rowD (turnG i j o.length ⟨a, l, r, m⟩)
            | d => d) = (t.map (turnG i j o.length)).map rowD := by
          rw [List.map_map, List.map_map]
          exact List.map_congr_left fun g _ => rfl
        rw [lf] at lc
        have ea : addD (.lst (o.map rowD)) (.lst ((t.map (turnG i j o.length)).map rowD)) = pure (.lst ((o ++ t.map (turnG i j o.length)).map rowD)) := by
          rw [r_addL (by simp; omega), ← List.map_append]
        have eq2 : ∀ δ, appV m__law_equal [.lst ((o ++ t.map (turnG i j o.length)).map rowD), .lst ((o ++ t.map (turnG i j o.length)).map rowD)] δ = .ok (.bl true) δ := fun δ => law_eq (plain_rows (by omega))
        generalize (o ++ t.map (turnG i j o.length)).map rowD = all at *
        generalize (t.map (turnG i j o.length)).map rowD = part at *
        generalize o ++ t.map (turnG i j o.length) = both at *
        generalize hor : o.map rowD = orows at *
        generalize htr : t.map rowD = trows at *
        refine ⟨d2, ?_⟩
        rw [e0]
        simp [b__law_chained_right, getV, peekV, peekSl, g1, g2, bo, bt, lo, lt, szOk, q1, q2, q3, rr, ee, rm, em1, ne1, cc, ro, itemsL, lc, ea, eq2, run_frb]
end G
set_option maxHeartbeats 2000000
namespace G
open PySem PySem.Spec PyProof.Rows L2 DL
theorem src_ok {ns : List Int} (hl : ns.length ≤ 63) (hb : ∀ z ∈ ns, Builtin.Int.intBits z ≤ 1048576) : ∃ ds, mf__law_source [.scr ns] = .ok ds [] ∧ SrcOk ds := by
  have e0 : mf__law_source [.scr ns] = match bf__law_source [.va (.scr ns), .un] with
    | .ok es _ => .ok es []
    | _ => .st := id rfl
  have lc := lc_run (j := 1) (me := una intD (getV 1)) (f := fun d => d) (δ := [.va (.scr ns), .un]) (s := .un) (ds := ns.map D.int) rfl (by rw [List.length_map]; omega) (fun d hd => by
    obtain ⟨z, hz, rfl⟩ := List.mem_map.mp hd
    simp [getV])
  rw [List.map_id'] at lc
  refine ⟨[.int 0, .int 0, .int 0, .int 0, .lst (ns.map D.int)], ?_, ⟨0, 0, 0, 0, ns, rfl, by omega, by omega, by omega, by omega, by omega, hb⟩⟩
  rw [e0]
  simp [bf__law_source, getV, itemsL, lc, szOk]
theorem appE (d : D) (h : plainE 12 d = true) : ∀ δ, appV m__law_equal [d, d] δ = .ok (.bl true) δ := fun δ => law_eq h
theorem lenO_c {gs : List Gt} (hl : gs.length ≤ 24) {δ : En} : lenO "Circuit" m_Circuit_D__len_D_ (circD gs) δ = .ok (.int gs.length) δ := by
  unfold lenO
  rw [show isCls "Circuit" (circD gs) = true by simp [isCls, circD]]
  have e : ∀ δ, appV m_Circuit_D__len_D_ [circD gs] δ = .ok (.int gs.length) δ := fun δ => app_of c_len
  simp [e]
  rw [run_guard (by rw [decide_eq_true (show (gs.length : Int) < 9223372036854775808 by omega)])]
  exact id rfl
theorem eqO_c {as bs : List Gt} : ∃ b, (∀ δ, own2 "Circuit" (inTags [.own "Circuit"]) m_Circuit_D__eq_D_ (circD as) (circD bs) δ = .ok (.bl b) δ) ∧ (b = true ↔ as = bs) := by
  obtain ⟨b, hb, hb2⟩ := c_eq (as := as) (bs := bs)
  refine ⟨b, fun δ => ?_, hb2⟩
  unfold own2
  rw [show (isCls "Circuit" (circD as) && inTags [.own "Circuit"] (circD bs)) = true by
    rw [show isCls "Circuit" (circD as) = true by simp [isCls, circD], show inTags [.own "Circuit"] (circD bs) = true by simp [inTags, tgD, circD]]; rfl]
  show appV m_Circuit_D__eq_D_ [circD as, circD bs] δ = _
  exact app_of hb
theorem neO_c {as bs : List Gt} (h : as ≠ bs) {δ : En} : neO "Circuit" m_Circuit_D__eq_D_ (circD as) (circD bs) δ = .ok (.bl true) δ := by
  obtain ⟨b, hb, hb2⟩ := c_eq (as := as) (bs := bs)
  have hf : b = false := by cases b with
    | false => rfl
    | true => exact absurd (hb2.mp rfl) h
  subst hf
  unfold neO
  rw [show (isCls "Circuit" (circD as) && isCls "Circuit" (circD bs)) = true by simp [isCls, circD]]
  have e : ∀ δ, appV m_Circuit_D__eq_D_ [circD as, circD bs] δ = .ok (.bl false) δ := fun δ => app_of hb
  simp [e]
theorem ixO_c {gs : List Gt} {i : Nat} {g : Gt} (h : gs[i]? = some g) {δ : En} : ixO "Circuit" m_Circuit_D__getitem_D_ (circD gs) (.int ((i : Int) + 1)) δ = .ok (gD g) δ := by
  unfold ixO
  rw [show isCls "Circuit" (circD gs) = true by simp [isCls, circD]]
  show appV m_Circuit_D__getitem_D_ [circD gs, .int ((i : Int) + 1)] δ = _
  exact app_of (c_get h)
end G
set_option maxHeartbeats 2000000
namespace G
open PySem PySem.Spec PyProof.Rows L2 DL
/-! ### the law's parts -/
noncomputable def p1 : M Fl := (ifD (orT (notT (tst (callV m__law_equal (consA (callV m__law_rows_of (consA (getV 3) nilA)) (consA (getV 2) nilA))))) (notT (tst (callV m__law_equal (consA (una (lenO "Circuit" m_Circuit_D__len_D_) (getV 3)) (consA (una lenD (peekV 2)) nilA))))))
  (retD (pure (.bl false)))
  (pure .nx))
noncomputable def p2 : M Fl := (ifD (orT (notT (tst (callV m__law_equal (consA (pure (.int 24)) (consA (pure (.int 24)) nilA))))) (notT (tst (callV m__law_equal (consA (bin (own2 "Circuit" (inTags [.own "Circuit"]) m_Circuit_D__eq_D_) (getV 3) (callV m__law_built (consA (getV 2) nilA))) (consA (pure (.bl true)) nilA))))))
  (retD (pure (.bl false)))
  (pure .nx))
noncomputable def p3b : M Fl := (seqD (setD 5 (bin (ixO "Circuit" m_Circuit_D__getitem_D_) (getV 3) (bin addD (getV 4) (pure (.int 1)))))
  (ifD (notT (tst (callV m__law_equal (consA (tupD (consA (una (fldD ["Gate"] "operation") (peekV 5)) (consA (una (fldD ["Gate"] "left") (peekV 5)) (consA (una (fldD ["Gate"] "right") (peekV 5)) (consA (una (fldD ["Gate"] "mode") (peekV 5)) nilA))))) (consA (ixN_ 2 (getV 4)) nilA)))))
  (retD (pure (.bl false)))
  (pure .nx)))
noncomputable def p3 : M Fl := forM' (setV 4) p3b (overN (una lenD (peekV 2)))
noncomputable def p4b : M Fl := (ifD (notT (tst (callV m__law_equal (consA (callV m__law_refused (consA (getV 3) (consA (pure (.int 1)) (consA (pure .non) (consA (getV 6) (consA (pure (.int 0)) nilA)))))) (consA (lstD (consA (pure (.str "step")) (consA (getV 6) nilA))) nilA)))))
  (retD (pure (.bl false)))
  (pure .nx))
noncomputable def p4 : M Fl := forM' (setV 6) p4b (overL (lstD (consA (pure (.int 0)) (consA (bin subD (pure (.int 0)) (pure (.int 1))) (consA (bin addD (una lenD (peekV 2)) (pure (.int 1))) nilA)))))
abbrev sL (s : D) (ds : List D) (rows : List D) (c : D) (r : En) : En := .va s :: .ow ds :: .va (.lst rows) :: .va c :: r
theorem lenR {gs : List Gt} : lenD (.lst (gs.map rowD)) = pure (.int gs.length) := by show pure (D.int ((gs.map rowD).length : Nat)) = _; rw [List.length_map]
section
variable {s : D} {ds : List D} {gs : List Gt} (ho : AllOk gs) (hl : gs.length ≤ 24)
include ho hl
theorem q1 {r : En} : p1 (sL s ds (gs.map rowD) (circD gs) r) = .ok .nx (sL s ds (gs.map rowD) (circD gs) r) := by
  have e1 : ∀ δ, appV m__law_rows_of [circD gs] δ = .ok (.lst (gs.map rowD)) δ := fun δ => app_of (m_rows hl)
  have e2 := appE (.lst (gs.map rowD)) (plain_rows (by omega))
  have e3 := appE (.int gs.length) rfl
  have e4 : ∀ δ, lenO "Circuit" m_Circuit_D__len_D_ (circD gs) δ = .ok (.int gs.length) δ := fun δ => lenO_c hl
  have e5 := lenR (gs := gs)
  generalize gs.map rowD = rows at *
  simp [p1, sL, getV, peekV, peekSl, e1, e2, e3, e4, e5]
theorem q2 {r : En} : p2 (sL s ds (gs.map rowD) (circD gs) r) = .ok .nx (sL s ds (gs.map rowD) (circD gs) r) := by
  have e1 : ∀ δ, appV m__law_built [.lst (gs.map rowD)] δ = .ok (circD gs) δ := fun δ => app_of (m_built ho hl)
  obtain ⟨b, hb, hb2⟩ := eqO_c (as := gs) (bs := gs)
  obtain rfl : b = true := hb2.mpr rfl
  have e2 := appE (.bl true) rfl
  have e3 := appE (.int 24) rfl
  generalize gs.map rowD = rows at *
  simp [p2, sL, getV, peekV, peekSl, e1, e2, e3, hb]
theorem q3 {x y : Sl} {r : En} : ∃ x' y', p3 (sL s ds (gs.map rowD) (circD gs) (x :: y :: r)) = .ok .nx (sL s ds (gs.map rowD) (circD gs) (x' :: y' :: r)) := by
  have loop := forD_nx (st := setV 4) (b := p3b) (l := rngD 0 1 gs.length) (n := 0) (Inv := fun k δ => ∃ x y, δ = sL s ds (gs.map rowD) (circD gs) (x :: y :: r)) (δ := sL s ds (gs.map rowD) (circD gs) (x :: y :: r)) (fun k d δ hi hv => by
    obtain ⟨x, y, rfl⟩ := hv
    obtain ⟨hk, rfl⟩ := rngD_at hi
    refine ⟨sL s ds (gs.map rowD) (circD gs) (.va (.int k) :: .va (gD gs[k]) :: r), ⟨_, _, rfl⟩, ?_⟩
    have hg := List.getElem?_eq_getElem hk
    have e1 : ∀ δ, ixO "Circuit" m_Circuit_D__getitem_D_ (circD gs) (.int ((k : Int) + 1)) δ = .ok (gD gs[k]) δ := fun δ => ixO_c hg
    have e2 : ixD (.lst (gs.map rowD)) (.int (k : Int)) = pure (rowD gs[k]) := by
      rw [ixD_lst (by rw [List.length_map]; exact hk), List.getElem?_map, hg]; exact id rfl
    have e3 : ∀ δ, appV m__law_equal [.tup [.str gs[k].op, .int gs[k].l, .int gs[k].r, .str gs[k].md], rowD gs[k]] δ = .ok (.bl true) δ := appE (rowD gs[k]) rfl
    generalize gs.map rowD = rows at *
    generalize gs[k] = g at *
    simp [p3b, sL, getV, peekV, peekSl, e1, e2, e3, fld_op, fld_l, fld_r, fld_m, szOk]) ⟨_, _, rfl⟩
  obtain ⟨δ', ⟨x', y', rfl⟩, e⟩ := loop
  refine ⟨x', y', ?_⟩
  have hlim := run_rng (lim_nat (n := gs.length) (by omega))
  simp at hlim
  have e5 := lenR (gs := gs)
  generalize hr : sL s ds (gs.map rowD) (circD gs) (x' :: y' :: r) = z at *
  unfold p3
  have e6 : overN (una lenD (peekV 2)) (sL s ds (gs.map rowD) (circD gs) (x :: y :: r)) = .ok (rngD 0 1 gs.length) (sL s ds (gs.map rowD) (circD gs) (x :: y :: r)) := by
    generalize gs.map rowD = rows at *
    simp [sL, peekV, peekSl, e5, hlim]
  rw [run_forM, e6, bd_ok, e]
theorem q4 {a b x : Sl} {r : En} : ∃ x', p4 (sL s ds (gs.map rowD) (circD gs) (a :: b :: x :: r)) = .ok .nx (sL s ds (gs.map rowD) (circD gs) (a :: b :: x' :: r)) := by
  have loop := forD_nx (st := setV 6) (b := p4b) (l := [.int 0, .int (-1), .int ((gs.length : Int) + 1)]) (n := 0) (Inv := fun k δ => ∃ x, δ = sL s ds (gs.map rowD) (circD gs) (a :: b :: x :: r)) (δ := sL s ds (gs.map rowD) (circD gs) (a :: b :: x :: r)) (fun k d δ hi hv => by
    obtain ⟨x, rfl⟩ := hv
    have hd : ∃ i : Int, d = .int i ∧ (i < 1 ∨ (gs.length : Int) < i) := by
      have hm := List.mem_of_getElem? hi
      simp only [List.mem_cons, List.not_mem_nil, or_false] at hm
      rcases hm with rfl | rfl | rfl
      · exact ⟨_, rfl, by omega⟩
      · exact ⟨_, rfl, by omega⟩
      · exact ⟨_, rfl, by omega⟩
    obtain ⟨i, rfl, hi2⟩ := hd
    refine ⟨sL s ds (gs.map rowD) (circD gs) (a :: b :: .va (.int i) :: r), ⟨_, rfl⟩, ?_⟩
    have e1 : ∀ δ, appV m__law_refused [circD gs, .int 1, .non, .int i, .int 0] δ = .ok (.lst [.str (Str.ofString "step"), .int i]) δ := fun δ => app_of (ref_step hi2)
    have e2 := appE (.lst [.str (Str.ofString "step"), .int i]) due2
    simp [p4b, sL, getV, e1, e2, szOk]) ⟨_, rfl⟩
  obtain ⟨δ', ⟨x', rfl⟩, e⟩ := loop
  refine ⟨x', ?_⟩
  have e5 := lenR (gs := gs)
  generalize hr : sL s ds (gs.map rowD) (circD gs) (a :: b :: x' :: r) = z at *
  unfold p4
  have e6 : overL (lstD (consA (pure (.int 0)) (consA (bin subD (pure (.int 0)) (pure (.int 1))) (consA (bin addD (una lenD (peekV 2)) (pure (.int 1))) nilA)))) (sL s ds (gs.map rowD) (circD gs) (a :: b :: x :: r)) = .ok [.int 0, .int (-1), .int ((gs.length : Int) + 1)] (sL s ds (gs.map rowD) (circD gs) (a :: b :: x :: r)) := by
    generalize gs.map rowD = rows at *
    simp [sL, peekV, peekSl, e5, szOk, itemsL]
  rw [run_forM, e6, bd_ok, e]
end
end G
set_option maxHeartbeats 2000000
namespace G
open PySem PySem.Spec PyProof.Rows L2 DL
noncomputable def p5 : M Fl := (ifD (notT (tst (callV m__law_equal (consA (callV m__law_rows_of (consA (methV "Circuit" "with_mode" m_Circuit_with_mode (getV 3) (consA (getV 7) nilA)) nilA)) (consA (frzD (lcM 12 (overL (getV 2)) (pure true) (tupD (consA (ixN_ 12 (pure (.int 0))) (consA (ixN_ 12 (pure (.int 1))) (consA (ixN_ 12 (pure (.int 2))) (consA (getV 7) nilA))))))) nilA)))))
  (retD (pure (.bl false)))
  (pure .nx))
noncomputable def p6 : M Fl := (ifD (notT (tst (callV m__law_equal (consA (callV m__law_rows_of (consA (methV "Circuit" "swapped" m_Circuit_swapped (getV 3) (pure [])) nilA)) (consA (frzD (lcM 12 (overL (getV 2)) (pure true) (callV m__law_exchanged (consA (getV 12) nilA)))) nilA)))))
  (retD (pure (.bl false)))
  (pure .nx))
theorem run_meth {C nm : Str} {m : MF} {mo : M D} {ma : M (List D)} {δ : En} : methV C nm m mo ma δ = (mo δ).bd fun d => guardM (isObj C nm d) (ma >>= fun ds => appV m (d :: ds)) := id rfl
section
variable {s : D} {ds : List D} {gs : List Gt} (ho : AllOk gs) (hl : gs.length ≤ 24)
include ho hl
theorem q5 {x4 x5 x6 x8 x9 x10 x11 : Sl} {m : Str} (hm : m ∈ mds) : p5 (sL s ds (gs.map rowD) (circD gs) [x4, x5, x6, .va (.str m), x8, x9, x10, x11, .un]) = .ok .nx (sL s ds (gs.map rowD) (circD gs) [x4, x5, x6, .va (.str m), x8, x9, x10, x11, .un]) := by
  have e1 : ∀ δ, appV m_Circuit_with_mode [circD gs, .str m] δ = .ok (circD (gs.map (modeG m))) δ := fun δ => app_of (c_mode ho hl hm)
  have e2 : ∀ δ, appV m__law_rows_of [circD (gs.map (modeG m))] δ = .ok (.lst ((gs.map (modeG m)).map rowD)) δ := fun δ => app_of (m_rows (by rw [List.length_map]; exact hl))
  have e3 := appE (.lst ((gs.map (modeG m)).map rowD)) (plain_rows (by rw [List.length_map]; omega))
  have e4 : isObj "Circuit" "with_mode" (circD gs) = true := by rfl
  have lc := lc_run (j := 12) (me := tupD (consA (ixN_ 12 (pure (.int 0))) (consA (ixN_ 12 (pure (.int 1))) (consA (ixN_ 12 (pure (.int 2))) (consA (getV 7) nilA)))))
    (f := fun d => match d with
      | .tup [.str a, .int l, .int r, _] => rowD ⟨a, l, r, m⟩
      | d => d) (δ := sL s ds (gs.map rowD) (circD gs) [x4, x5, x6, .va (.str m), x8, x9, x10, x11, .un]) (s := .un) (ds := gs.map rowD) rfl (by rw [List.length_map]; omega) (fun d hd => by
        obtain ⟨g, hg, rfl⟩ := List.mem_map.mp hd
        have i0 : ixD (rowD g) (.int 0) = pure (.str g.op) := id rfl
        have i1 : ixD (rowD g) (.int 1) = pure (.int g.l) := id rfl
        have i2 : ixD (rowD g) (.int 2) = pure (.int g.r) := id rfl
        show _ = Rs.ok (D.tup [.str g.op, .int g.l, .int g.r, .str m]) _
        generalize gs.map rowD = rows at *
        simp [sL, getV, peekV, peekSl, i0, i1, i2, szOk])
  have lf : (gs.map rowD).map (fun d => match d with
      | .tup [.str a, .int l, .int r, _] => rowD ⟨a, l, r, m⟩
      | d => d) = (gs.map (modeG m)).map rowD := by
    rw [List.map_map, List.map_map]
    exact List.map_congr_left fun g _ => rfl
  rw [lf] at lc
  generalize (gs.map (modeG m)).map rowD = out at *
  generalize circD (gs.map (modeG m)) = oc at *
  generalize circD gs = c at *
  generalize gs.map rowD = rows at *
  simp [p5, sL, getV, e1, e2, e3, e4, run_meth, itemsL, lc]
theorem q6 {x4 x5 x6 x7 x8 x9 x10 x11 : Sl} : p6 (sL s ds (gs.map rowD) (circD gs) [x4, x5, x6, x7, x8, x9, x10, x11, .un]) = .ok .nx (sL s ds (gs.map rowD) (circD gs) [x4, x5, x6, x7, x8, x9, x10, x11, .un]) := by
  have e1 : ∀ δ, appV m_Circuit_swapped [circD gs] δ = .ok (circD (gs.map swapG)) δ := fun δ => app_of (c_swap ho hl)
  have e2 : ∀ δ, appV m__law_rows_of [circD (gs.map swapG)] δ = .ok (.lst ((gs.map swapG).map rowD)) δ := fun δ => app_of (m_rows (by rw [List.length_map]; exact hl))
  have e3 := appE (.lst ((gs.map swapG).map rowD)) (plain_rows (by rw [List.length_map]; omega))
  have e4 : isObj "Circuit" "swapped" (circD gs) = true := by rfl
  have lc := lc_run (j := 12) (me := callV m__law_exchanged (consA (getV 12) nilA))
    (f := fun d => match d with
      | .tup [.str a, .int l, .int r, .str m] => rowD (swapG ⟨a, l, r, m⟩)
      | d => d) (δ := sL s ds (gs.map rowD) (circD gs) [x4, x5, x6, x7, x8, x9, x10, x11, .un]) (s := .un) (ds := gs.map rowD) rfl (by rw [List.length_map]; omega) (fun d hd => by
        obtain ⟨g, hg, rfl⟩ := List.mem_map.mp hd
        obtain ⟨k, hk, rfl⟩ := List.getElem_of_mem hg
        have gk := ho k _ (List.getElem?_eq_getElem hk)
        have hr : gs[k].op ≠ "<<" → 0 ≤ gs[k].r := fun q => by
          have := gk.r
          unfold rOk at this
          rw [if_neg q] at this
          exact this.1
        have tt : ∀ δ, appV m__law_exchanged [rowD gs[k]] δ = .ok (rowD (swapG gs[k])) δ := fun δ => app_of (m_exch gk.l.1 hr)
        show _ = Rs.ok (rowD (swapG gs[k])) _
        generalize gs.map rowD = rows at *
        generalize gs[k] = g at *
        simp [sL, getV, tt])
  have lf : (gs.map rowD).map (fun d => match d with
      | .tup [.str a, .int l, .int r, .str m] => rowD (swapG ⟨a, l, r, m⟩)
      | d => d) = (gs.map swapG).map rowD := by
    rw [List.map_map, List.map_map]
    exact List.map_congr_left fun g _ => rfl
  rw [lf] at lc
  generalize (gs.map swapG).map rowD = out at *
  generalize circD (gs.map swapG) = oc at *
  generalize circD gs = c at *
  generalize gs.map rowD = rows at *
  simp [p6, sL, getV, e1, e2, e3, e4, run_meth, itemsL, lc]
end
end G
set_option maxHeartbeats 2000000
namespace G
open PySem PySem.Spec PyProof.Rows L2 DL
noncomputable def p8 : M Fl := (ifD (tst (bin notNonD (getV 8) (pure .non)))
  (setD 9 (lstD (consA (pure (.str "badstep")) (consA (bin addD (una lenD (peekV 2)) (pure (.int 1))) (consA (getV 8) nilA)))))
  (pure .nx))
noncomputable def p9 : M Fl := (ifD (tst (bin eqD (una lenD (peekV 2)) (pure (.int 24))))
  (setD 9 (lstD (consA (pure (.str "count")) (consA (pure (.int 25)) nilA))))
  (pure .nx))
noncomputable def p10 : M Fl := (ifD (notT (tst (callV m__law_equal (consA (callV m__law_refused (consA (getV 3) (consA (pure (.int 0)) (consA (getV 5) (consA (pure (.int 0)) (consA (pure (.int 0)) nilA)))))) (consA (getV 9) nilA)))))
  (retD (pure (.bl false)))
  (pure .nx))
theorem due3 {a p : Str} {n : Int} : plainE 12 (.lst [.str a, .int n, .str p]) = true := id rfl
theorem bad_cases (g : Gt) (n : Int) : (badD g n = .non ∧ GtOk g n) ∨ ∃ p, badD g n = .str p := by
  unfold badD
  by_cases h1 : opOk g
  · rw [if_pos h1]
    by_cases h2 : lOk g n
    · rw [if_pos h2]
      by_cases h3 : rOk g n
      · rw [if_pos h3]
        by_cases h4 : mOk g
        · rw [if_pos h4]; exact .inl ⟨rfl, h1, h2, h3, h4⟩
        · rw [if_neg h4]; exact .inr ⟨_, rfl⟩
      · rw [if_neg h3]; exact .inr ⟨_, rfl⟩
    · rw [if_neg h2]; exact .inr ⟨_, rfl⟩
  · rw [if_neg h1]; exact .inr ⟨_, rfl⟩
section
variable {s : D} {ds : List D} {gs : List Gt} (ho : AllOk gs) (hl : gs.length ≤ 24)
include ho hl
theorem q8 {x4 x6 x7 x10 x11 x12 : Sl} {g : Gt} : ∃ x9, seqD p8 (seqD p9 p10) (sL s ds (gs.map rowD) (circD gs) [x4, .va (gD g), x6, x7, .va (badD g ((gs.length : Int) + 1)), .va (.lst [.str "told"]), x10, x11, x12]) = .ok .nx (sL s ds (gs.map rowD) (circD gs) [x4, .va (gD g), x6, x7, .va (badD g ((gs.length : Int) + 1)), x9, x10, x11, x12]) := by
  have e5 := lenR (gs := gs)
  have ht0 : etab "LostError" "BadStep" = some true := by decide +kernel
  have ht1 : etab "LostError" "BadCount" = some true := by decide +kernel
  have et := appE (.lst [.str (Str.ofString "told")]) due1
  have ec := appE (.lst [.str (Str.ofString "count"), .int 25]) due2
  have nn : notNonD .non .non = pure (.bl false) := id rfl
  have ns : ∀ p : Str, notNonD (.str p) .non = pure (.bl true) := fun p => id rfl
  by_cases q : gs.length = 24
  · have q' : (gs.length : Int) = 24 := by omega
    have rr : ∀ δ, appV m__law_refused [circD gs, .int 0, gD g, .int 0, .int 0] δ = .ok (.lst [.str (Str.ofString "count"), .int 25]) δ := fun δ => app_of (ref_add (c_add_count q) ht1 xb_count)
    refine ⟨.va (.lst [.str (Str.ofString "count"), .int 25]), ?_⟩
    rcases bad_cases g ((gs.length : Int) + 1) with ⟨hb, hok⟩ | ⟨p, hb⟩
    · rw [hb]
      generalize gs.map rowD = rows at *
      simp [p8, p9, p10, sL, getV, peekV, peekSl, nn, e5, q', szOk, rr, ec]
    · rw [hb]
      generalize gs.map rowD = rows at *
      simp [p8, p9, p10, sL, getV, peekV, peekSl, ns, e5, q', szOk, rr, ec]
  · have q' : ¬ (gs.length : Int) = 24 := by omega
    rcases bad_cases g ((gs.length : Int) + 1) with ⟨hb, hok⟩ | ⟨p, hb⟩
    · have rr : ∀ δ, appV m__law_refused [circD gs, .int 0, gD g, .int 0, .int 0] δ = .ok (.lst [.str (Str.ofString "told")]) δ := fun δ => app_of (ref_add_ok (c_add_ok (allOk_snoc ho hok) (by omega)))
      refine ⟨.va (.lst [.str (Str.ofString "told")]), ?_⟩
      rw [hb]
      generalize gs.map rowD = rows at *
      simp [p8, p9, p10, sL, getV, peekV, peekSl, nn, e5, q', szOk, rr, et]
    · have rr : ∀ δ, appV m__law_refused [circD gs, .int 0, gD g, .int 0, .int 0] δ = .ok (.lst [.str (Str.ofString "badstep"), .int ((gs.length : Int) + 1), .str p]) δ := fun δ => app_of (ref_add (c_add_bad ho (by omega) hb) ht0 xb_step)
      have eb := appE (.lst [.str (Str.ofString "badstep"), .int ((gs.length : Int) + 1), .str p]) due3
      refine ⟨.va (.lst [.str (Str.ofString "badstep"), .int ((gs.length : Int) + 1), .str p]), ?_⟩
      rw [hb]
      generalize gs.map rowD = rows at *
      simp [p8, p9, p10, sL, getV, peekV, peekSl, ns, e5, q', szOk, rr, eb]
end
end G
set_option maxHeartbeats 2000000
namespace G
open PySem PySem.Spec PyProof.Rows L2 DL
theorem next_md {m : Str} (h : m ∈ mds) : ∃ (k : Nat) (m' : Str), indexD (.lst (mds.map D.str)) (.str m) = pure (.int k) ∧ ixD (.lst (mds.map D.str)) (.int (((k : Int) + 1) % 9)) = pure (.str m') ∧ m' ≠ m ∧ m' ∈ mds := by
  have key : ∀ (m m' : Str) (k j : Nat), ((k : Int) + 1) % 9 = (j : Int) → findD (.str m) (mds.map D.str) 0 = some k → mds[j]? = some m' → m' ≠ m → m' ∈ mds → ∃ (k : Nat) (m' : Str), indexD (.lst (mds.map D.str)) (.str m) = pure (.int k) ∧ ixD (.lst (mds.map D.str)) (.int (((k : Int) + 1) % 9)) = pure (.str m') ∧ m' ≠ m ∧ m' ∈ mds := fun m m' k j e1 e2 e3 e4 e5 => by
    have hj : j < (mds.map D.str).length := by
      rw [List.length_map]; exact (List.getElem?_eq_some_iff.mp e3).1
    refine ⟨k, m', ?_, ?_, e4, e5⟩
    · have e0 : indexD (.lst (mds.map D.str)) (.str m) = guardM (flatD (.str m) && (mds.map D.str).all flatD) (match findD (.str m) (mds.map D.str) 0 with
        | some n => pure (D.int (n : Nat))
        | none => stuck) := id rfl
      rw [e0]
      rw [e2]
      rw [show (flatD (.str m) && (mds.map D.str).all flatD) = true by simp [flatD]]
      exact id rfl
    · rw [e1, ixD_lst hj, List.getElem?_map, e3]; exact id rfl
  simp only [mds, List.mem_cons, List.not_mem_nil, or_false] at h
  rcases h with rfl | rfl | rfl | rfl | rfl | rfl | rfl | rfl | rfl
  · exact key _ "nearest-out" 0 1 (by decide) (by decide +kernel) (by decide +kernel) (by decide +kernel) (by decide +kernel)
  · exact key _ "nearest-in" 1 2 (by decide) (by decide +kernel) (by decide +kernel) (by decide +kernel) (by decide +kernel)
  · exact key _ "nearest-up" 2 3 (by decide) (by decide +kernel) (by decide +kernel) (by decide +kernel) (by decide +kernel)
  · exact key _ "nearest-down" 3 4 (by decide) (by decide +kernel) (by decide +kernel) (by decide +kernel) (by decide +kernel)
  · exact key _ "inward" 4 5 (by decide) (by decide +kernel) (by decide +kernel) (by decide +kernel) (by decide +kernel)
  · exact key _ "outward" 5 6 (by decide) (by decide +kernel) (by decide +kernel) (by decide +kernel) (by decide +kernel)
  · exact key _ "upward" 6 7 (by decide) (by decide +kernel) (by decide +kernel) (by decide +kernel) (by decide +kernel)
  · exact key _ "downward" 7 8 (by decide) (by decide +kernel) (by decide +kernel) (by decide +kernel) (by decide +kernel)
  · exact key _ "nearest-even" 8 0 (by decide) (by decide +kernel) (by decide +kernel) (by decide +kernel) (by decide +kernel)
theorem cut_init {ds : List D} {n : Nat} (h : ds.length = n + 1) : DL.cutD ds none (some (n : Int)) = ds.take n := by
  unfold DL.cutD
  rw [HT.sIx_none, HT.sIx_nat, h]
  simp
theorem allOk_take {gs : List Gt} (h : AllOk gs) (n : Nat) : AllOk (gs.take n) := fun i g hi => by
  rw [List.getElem?_take] at hi
  split at hi
  · exact h i g hi
  · cases hi
noncomputable def p11 : M Fl := (ifD (tst (bin gtD (una lenD (peekV 2)) (pure (.int 0))))
  (seqD (ifD (notT (tst (callV m__law_equal (consA (bin (own2 "Circuit" (inTags [.own "Circuit"]) m_Circuit_D__eq_D_) (getV 3) (callV m__law_built (consA (slN 2 noPart (somePart (bin subD (una lenD (peekV 2)) (pure (.int 1))))) nilA))) (consA (pure (.bl false)) nilA)))))
  (retD (pure (.bl false)))
  (pure .nx))
  (seqD (setD 10 (ixN_ 2 (bin subD (una lenD (peekV 2)) (pure (.int 1)))))
  (seqD (setD 11 (bin addD (slN 2 noPart (somePart (bin subD (una lenD (peekV 2)) (pure (.int 1))))) (lstD (consA (tupD (consA (ixN_ 10 (pure (.int 0))) (consA (ixN_ 10 (pure (.int 1))) (consA (ixN_ 10 (pure (.int 2))) (consA (ixE (appV m__law_modes []) (bin modD (una intD (bin addD ((appV m__law_modes []) >>= fun x => guardM (match x with | .lst _ => true | _ => false) ((ixN_ 10 (pure (.int 3))) >>= fun y => indexD x y)) (pure (.int 1)))) (pure (.int 9)))) nilA))))) nilA))))
  (ifD (notT (tst (callV m__law_equal (consA (bin (neO "Circuit" m_Circuit_D__eq_D_) (getV 3) (callV m__law_built (consA (getV 11) nilA))) (consA (pure (.bl true)) nilA)))))
  (retD (pure (.bl false)))
  (pure .nx)))))
  (pure .nx))
section
variable {s : D} {ds : List D} {gs : List Gt} (ho : AllOk gs) (hl : gs.length ≤ 24)
include ho hl
theorem q11 {x4 x5 x6 x7 x8 x9 x10 x11 x12 : Sl} : ∃ y10 y11, p11 (sL s ds (gs.map rowD) (circD gs) [x4, x5, x6, x7, x8, x9, x10, x11, x12]) = .ok .nx (sL s ds (gs.map rowD) (circD gs) [x4, x5, x6, x7, x8, x9, y10, y11, x12]) := by
  have e5 := lenR (gs := gs)
  by_cases q : gs.length = 0
  · refine ⟨x10, x11, ?_⟩
    have q' : ¬ ((0 : Int) < (gs.length : Int)) := by omega
    have q'' : ¬ (gs.length > 0) := by omega
    generalize gs.map rowD = rows at *
    simp [p11, sL, peekV, peekSl, e5, q', q'']
  · obtain ⟨n, hn⟩ : ∃ n, gs.length = n + 1 := ⟨gs.length - 1, by omega⟩
    have hg := List.getElem?_eq_getElem (l := gs) (i := n) (by omega)
    generalize gs[n] = g at hg
    have gk := ho n g hg
    obtain ⟨k, m', i1, i2, i3, i4⟩ := next_md gk.m
    have ht : AllOk (gs.take n) := allOk_take ho n
    have split : gs = gs.take n ++ [g] := by
      rw [← take_snoc hg, List.take_of_length_le (by omega)]
    have hmo : AllOk (gs.take n ++ [⟨g.op, g.l, g.r, m'⟩]) := allOk_snoc ht (by
      rw [List.length_take, show min n gs.length = n by omega]
      exact ⟨gk.o, gk.l, gk.r, i4⟩)
    have b1 : ∀ δ, appV m__law_built [.lst ((gs.take n).map rowD)] δ = .ok (circD (gs.take n)) δ := fun δ => app_of (m_built ht (by rw [List.length_take]; omega))
    have b2 : ∀ δ, appV m__law_built [.lst ((gs.take n).map rowD ++ [rowD ⟨g.op, g.l, g.r, m'⟩])] δ = .ok (circD (gs.take n ++ [⟨g.op, g.l, g.r, m'⟩])) δ := fun δ => by
      have := m_built hmo (by rw [List.length_append, List.length_take]; simp; omega)
      rw [List.map_append] at this
      exact app_of this
    obtain ⟨b, hb, hb2⟩ := eqO_c (as := gs) (bs := gs.take n)
    obtain rfl : b = false := by
      cases b with
      | false => rfl
      | true =>
        have := congrArg List.length (hb2.mp rfl)
        rw [List.length_take] at this
        omega
    have ne : gs ≠ gs.take n ++ [⟨g.op, g.l, g.r, m'⟩] := fun e => by
      rw [split] at e
      rw [List.take_append_of_le_length (by rw [List.length_take]; omega), List.take_take, Nat.min_self] at e
      have e2 := List.append_cancel_left e
      exact i3 (congrArg Gt.md (List.cons.inj e2).1).symm
    have hne : ∀ δ, neO "Circuit" m_Circuit_D__eq_D_ (circD gs) (circD (gs.take n ++ [⟨g.op, g.l, g.r, m'⟩])) δ = .ok (.bl true) δ := fun δ => neO_c ne
    have f1 := appE (.bl false) rfl
    have f2 := appE (.bl true) rfl
    have mm : ∀ δ, appV m__law_modes [] δ = .ok (.lst (mds.map D.str)) δ := fun δ => app_of m_modes
    have cl : slD (.lst (gs.map rowD)) none (some (n : Int)) = pure (.lst ((gs.take n).map rowD)) := by
      show pure (D.lst (DL.cutD (gs.map rowD) none (some (n : Int)))) = _
      rw [cut_init (by rw [List.length_map]; exact hn), List.map_take]
    have il : ixD (.lst (gs.map rowD)) (.int (n : Int)) = pure (rowD g) := by
      rw [ixD_lst (by rw [List.length_map]; omega), List.getElem?_map, hg]; exact id rfl
    have r0 : ixD (rowD g) (.int 0) = pure (.str g.op) := id rfl
    have r1 : ixD (rowD g) (.int 1) = pure (.int g.l) := id rfl
    have r2 : ixD (rowD g) (.int 2) = pure (.int g.r) := id rfl
    have r3 : ixD (rowD g) (.int 3) = pure (.str g.md) := id rfl
    have al : addD (.lst ((gs.take n).map rowD)) (.lst [.tup [.str g.op, .int g.l, .int g.r, .str m']]) = pure (.lst ((gs.take n).map rowD ++ [rowD ⟨g.op, g.l, g.r, m'⟩])) := r_addL (by simp; omega)
    have e6 : lenD (.lst (gs.map rowD)) = pure (.int ((n : Int) + 1)) := by rw [e5, hn]; rfl
    have q' : (0 : Int) < (n : Int) + 1 := by omega
    have m9 : modD (.int ((k : Int) + 1)) (.int 9) = pure (.int (((k : Int) + 1) % 9)) := r_mod (by omega)
    have sub1 : (n : Int) + 1 - 1 = (n : Int) := by omega
    refine ⟨.va (rowD g), .va (.lst ((gs.take n).map rowD ++ [rowD ⟨g.op, g.l, g.r, m'⟩])), ?_⟩
    generalize (gs.take n).map rowD ++ [rowD ⟨g.op, g.l, g.r, m'⟩] = rows2 at *
    generalize (gs.take n).map rowD = rows1 at *
    generalize circD (gs.take n ++ [⟨g.op, g.l, g.r, m'⟩]) = c2 at *
    generalize circD (gs.take n) = c1 at *
    generalize circD gs = c at *
    generalize gs.map rowD = rows at *
    generalize rowD g = rg at *
    generalize mds.map D.str = ms at *
    simp [p11, sL, peekV, peekSl, getV, e6, q', sub1, slN, noPart, somePart, partD, cl, b1, hb, f1, il, r0, r1, r2, r3, mm, i1, i2, m9, szOk, al, b2, hne, f2]
end
end G
set_option maxHeartbeats 2000000
namespace G
open PySem PySem.Spec PyProof.Rows L2 DL
theorem seq_assoc {a b c : M Fl} {δ : En} : seqD a (seqD b c) δ = seqD (seqD a b) c δ := by
  rw [run_seq, run_seq, run_seq]
  cases e : a δ with
  | st => exact id rfl
  | er x δ' => exact id rfl
  | ok fl δ' => cases fl <;> exact id rfl
noncomputable def p0 : M Fl := (seqD (setF 1 (callF mf__law_source (consA (getV 0) nilA)))
  (seqD (setD 2 (callO m__law_gates 1 (consA (pure (.int 24)) (consA (pure (.int 0)) nilA))))
  (setD 3 (callV m__law_built (consA (getV 2) nilA)))))
noncomputable def p7 : M Fl := (seqD (asgD (setUnl [5, 8]) (callO m__law_bad_gate 1 (consA (bin addD (una lenD (peekV 2)) (pure (.int 1))) nilA)))
  (setD 9 (lstD (consA (pure (.str "told")) nilA))))
noncomputable def p12 : M Fl := (ifD (notT (tst (callV m__law_equal (consA (callV m__law_rows_of (consA (getV 3) nilA)) (consA (getV 2) nilA)))))
  (retD (pure (.bl false)))
  (pure .nx))
noncomputable def p13 : M Fl := (retD (callO m__law_chained_right 1 (consA (getV 2) (consA (callO m__law_gates 1 (consA (pure (.int 12)) (consA (pure (.int 0)) nilA))) nilA))))
theorem run_callF {m : MG} {a : M (List D)} {δ : En} : callF m a δ = (a δ).bd fun ds => outG (m ds) := id rfl
theorem q0 {ns : List Int} {ds d1 : List D} {gs : List Gt} {r : En} (e1 : mf__law_source [.scr ns] = .ok ds []) (e2 : m__law_gates [.ow ds, .va (.int 24), .va (.int 0)] = .ok (.lst (gs.map rowD)) [.ow d1]) (ho : AllOk gs) (hl : gs.length ≤ 24) :
    p0 (.va (.scr ns) :: .un :: .un :: .un :: r) = .ok .nx (sL (.scr ns) d1 (gs.map rowD) (circD gs) r) := by
  have f1 : ∀ δ, outG (mf__law_source [.scr ns]) δ = .ok ds δ := fun δ => by rw [e1]; exact id rfl
  have f2 : ∀ a b c, appO m__law_gates 1 [.int 24, .int 0] (a :: .ow ds :: b :: c :: r) = .ok (.lst (gs.map rowD)) (a :: .ow d1 :: b :: c :: r) := fun a b c => run_appO rfl e2
  have f3 : ∀ δ, appV m__law_built [.lst (gs.map rowD)] δ = .ok (circD gs) δ := fun δ => app_of (m_built ho hl)
  generalize gs.map rowD = rows at *
  simp [p0, sL, run_callF, getV, f1, f2, f3, peekV, peekSl]
section
variable {s : D} {ds : List D} {gs : List Gt}
theorem q4m {x4 x5 x6 x7 : Sl} {r : En} {d2 : List D} {m : Str} (e : m__law_mode [.ow ds] = .ok (.str m) [.ow d2]) : setD 7 (callO m__law_mode 1 nilA) (sL s ds (gs.map rowD) (circD gs) (x4 :: x5 :: x6 :: x7 :: r)) = .ok .nx (sL s d2 (gs.map rowD) (circD gs) (x4 :: x5 :: x6 :: .va (.str m) :: r)) := by
  have f2 : ∀ r, appO m__law_mode 1 [] (.va s :: .ow ds :: r) = .ok (.str m) (.va s :: .ow d2 :: r) := fun r => run_appO rfl e
  generalize gs.map rowD = rows at *
  simp [sL, peekV, peekSl, f2]
theorem q7 {x4 x5 x6 x7 x8 x9 : Sl} {r : En} {d2 : List D} {g : Gt} {n : Nat} (hn : gs.length = n) (e : m__law_bad_gate [.ow ds, .va (.int ((n : Int) + 1))] = .ok (.lst [gD g, badD g ((n : Int) + 1)]) [.ow d2]) : p7 (sL s ds (gs.map rowD) (circD gs) (x4 :: x5 :: x6 :: x7 :: x8 :: x9 :: r)) = .ok .nx (sL s d2 (gs.map rowD) (circD gs) (x4 :: .va (gD g) :: x6 :: x7 :: .va (badD g ((n : Int) + 1)) :: .va (.lst [.str "told"]) :: r)) := by
  have f2 : ∀ r, appO m__law_bad_gate 1 [.int ((n : Int) + 1)] (.va s :: .ow ds :: r) = .ok (.lst [gD g, badD g ((n : Int) + 1)]) (.va s :: .ow d2 :: r) := fun r => run_appO rfl e
  have e5 := lenR (gs := gs)
  rw [hn] at e5
  generalize gs.map rowD = rows at *
  generalize badD g ((n : Int) + 1) = b at *
  simp [p7, sL, peekV, peekSl, e5, f2, asgD, setUnl, setAll, szOk]
variable (ho : AllOk gs) (hl : gs.length ≤ 24)
include hl in
theorem q12 {r : En} : p12 (sL s ds (gs.map rowD) (circD gs) r) = .ok .nx (sL s ds (gs.map rowD) (circD gs) r) := by
  have e1 : ∀ δ, appV m__law_rows_of [circD gs] δ = .ok (.lst (gs.map rowD)) δ := fun δ => app_of (m_rows hl)
  have e2 := appE (.lst (gs.map rowD)) (plain_rows (by omega))
  generalize gs.map rowD = rows at *
  simp [p12, sL, getV, e1, e2]
include ho hl in
theorem q13 {r : En} (hs : SrcOk ds) : ∃ δ', p13 (sL s ds (gs.map rowD) (circD gs) r) = .ok (.rt (.bl true)) δ' := by
  obtain ⟨t, d1, ht, hlt, hs1, e1⟩ := m_gates hs (most := 12) (by omega) (by omega)
  obtain ⟨d2, e2⟩ := chained_right hs1 ho ht hl (by omega)
  have f1 : ∀ r, appO m__law_gates 1 [.int 12, .int 0] (.va s :: .ow ds :: r) = .ok (.lst (t.map rowD)) (.va s :: .ow d1 :: r) := fun r => run_appO rfl e1
  have f2 : ∀ r, appO m__law_chained_right 1 [.lst (gs.map rowD), .lst (t.map rowD)] (.va s :: .ow d1 :: r) = .ok (.bl true) (.va s :: .ow d2 :: r) := fun r => run_appO rfl e2
  generalize gs.map rowD = rows at *
  generalize t.map rowD = rows2 at *
  refine ⟨sL s d2 rows (circD gs) r, ?_⟩
  simp [p13, sL, getV, f1, f2, peekV, peekSl]
end
theorem law_ok {ns : List Int} (hl : ns.length ≤ 63) (hb : ∀ z ∈ ns, Builtin.Int.intBits z ≤ 1048576) : m_law [.va (.scr ns)] = .ok (.bl true) [] := by
  obtain ⟨ds, e1, hs⟩ := src_ok hl hb
  obtain ⟨gs, d1, ho, hlen, hs1, e2⟩ := m_gates hs (most := 24) (by omega) (by omega)
  have hl24 : gs.length ≤ 24 := by omega
  obtain ⟨m, d2, hm, hs2, e3⟩ := m_mode hs1
  obtain ⟨g, d3, hs3, e4⟩ := m_bad_gate (n := (gs.length : Int) + 1) hs2 (by omega) (by omega)
  have e0 : m_law [.va (.scr ns)] = finB 0 (seqD p0 (seqD p1 (seqD p2 (seqD p3 (seqD p4 (seqD (setD 7 (callO m__law_mode 1 nilA)) (seqD p5 (seqD p6 (seqD p7 (seqD (seqD p8 (seqD p9 p10)) (seqD p11 (seqD p12 p13))))))))))) [.va (.scr ns), .un, .un, .un, .un, .un, .un, .un, .un, .un, .un, .un, .un]) := by
    unfold p0 p7
    rw [← seq_assoc]
    have : m_law [.va (.scr ns)] = finB 0 (b_law [.va (.scr ns), .un, .un, .un, .un, .un, .un, .un, .un, .un, .un, .un, .un]) := id rfl
    rw [this]
    congr 1
    have as : ∀ {a b c : M Fl}, seqD (seqD a b) c = seqD a (seqD b c) := fun {a b c} => funext fun δ => seq_assoc.symm
    simp only [as]
    exact id rfl
  obtain ⟨x4, x5, k3⟩ := q3 (s := .scr ns) (ds := d1) ho hl24 (x := .un) (y := .un) (r := [.un, .un, .un, .un, .un, .un, .un])
  obtain ⟨x6, k4⟩ := q4 (s := .scr ns) (ds := d1) ho hl24 (a := x4) (b := x5) (x := .un) (r := [.un, .un, .un, .un, .un, .un])
  obtain ⟨x9, k8⟩ := q8 (s := .scr ns) (ds := d3) (g := g) ho hl24 (x4 := x4) (x6 := x6) (x7 := .va (.str m)) (x10 := .un) (x11 := .un) (x12 := .un)
  obtain ⟨y10, y11, k11⟩ := q11 (s := .scr ns) (ds := d3) ho hl24 (x4 := x4) (x5 := .va (gD g)) (x6 := x6) (x7 := .va (.str m)) (x8 := .va (badD g ((gs.length : Int) + 1))) (x9 := x9) (x10 := .un) (x11 := .un) (x12 := .un)
  obtain ⟨δ', k13⟩ := q13 (s := .scr ns) (ds := d3) (gs := gs) ho hl24 hs3 (r := [x4, .va (gD g), x6, .va (.str m), .va (badD g ((gs.length : Int) + 1)), x9, y10, y11, .un])
  rw [e0, seqR (q0 e1 e2 ho hl24), seqR (q1 ho hl24), seqR (q2 ho hl24), seqR k3, seqR k4, seqR (q4m e3), seqR (q5 ho hl24 hm), seqR (q6 ho hl24), seqR (q7 rfl e4), seqR k8, seqR k11, seqR (q12 hl24), k13]
  exact id rfl
end G
set_option maxHeartbeats 0
namespace G
open PySem PySem.Spec PyProof.Rows L2 DL
theorem facts {w : World} {K : PySem.W.Frag} {h : Heap} {mg : Str → Option Value} {f : Addr} (X : K.In h) (G : h.Ns mainGlobals mg) (hfa : mg ("law" : Str) = some (.ref f)) (c : SaysH "/claim/cut.py" fb fn fl K) :
    ∃ fd : FuncData, (∀ (s : Shared) (v : Value), BindsTo s fd ⟨[v], []⟩ [("script", v)]) ∧ ∀ base : Heap, K.In base → base.Ns mainGlobals mg → FnOk prog w K mg base (L2.CX prog w) 14 f fd ["script"] (spD K m_law) := by
  obtain ⟨fd, F⟩ := c.def_ 28 (d := ⟨("law", none), "law", "law", defArgs (top 39), defBody (top 39), defScope (top 39), [], []⟩) rfl
  have e := hfa.symm.trans (He.glo_ok X G (c.fact 95 (f := fun K => (He.Fa.glo "law").ok K) rfl))
  cases e
  have b := FunD.bindsA (ps := ["script"]) F fun _ _ _ _ _ _ us hl => match us, hl with | [_], _ => rfl
  refine ⟨fd, fun s v => b s [v] rfl, fun base _ _ => ?_⟩
  have Z : Hd prog w K mg base := hd X G c
  have h_Gate_D__init_D_ := h_Gate_D__init_D_ Z
  have h_Gate_D__eq_D_ := h_Gate_D__eq_D_ Z
  have h_other_register := h_other_register Z
  have h_bad_part := h_bad_part Z
  have h_Circuit_D__init_D_ := h_Circuit_D__init_D_ Z h_bad_part
  have h_Circuit_D__len_D_ := h_Circuit_D__len_D_ Z
  have h_Circuit_D__iter_D_ := h_Circuit_D__iter_D_ Z
  have h_Circuit_D__getitem_D_ := h_Circuit_D__getitem_D_ Z
  have h_Circuit_D__add_D_ := h_Circuit_D__add_D_ Z h_Circuit_D__init_D_
  have h_Circuit_D__eq_D_ := h_Circuit_D__eq_D_ Z h_Gate_D__eq_D_
  have h_Circuit_swapped := h_Circuit_swapped Z h_other_register h_Gate_D__init_D_ h_Circuit_D__init_D_
  have h_Circuit_with_mode := h_Circuit_with_mode Z h_Gate_D__init_D_ h_Circuit_D__init_D_
  have h_chained := h_chained Z h_Gate_D__init_D_ h_Circuit_D__init_D_
  have h__law_source := h__law_source Z
  have h__law_draw := h__law_draw Z
  have h__law_modes := h__law_modes Z
  have h__law_mode := h__law_mode Z h__law_draw h__law_modes
  have h__law_equal := h__law_equal Z
  have h__law_bad_mode := h__law_bad_mode Z h__law_mode h__law_draw h__law_modes
  have h__law_error := h__law_error Z
  have h__law_built := h__law_built Z h_Circuit_D__init_D_ h_Circuit_D__add_D_ h_Gate_D__init_D_
  have h__law_gates := h__law_gates Z h__law_draw h__law_mode
  have h__law_rows_of := h__law_rows_of Z h_Circuit_D__iter_D_
  have h__law_refused := h__law_refused Z h__law_error h_Circuit_D__add_D_ h_Circuit_D__getitem_D_ h_chained
  have h__law_bad_gate := h__law_bad_gate Z h__law_draw h__law_mode h__law_bad_mode h_Gate_D__init_D_
  have h__law_turned := h__law_turned Z
  have h__law_chained_right := h__law_chained_right Z h__law_built h__law_draw h__law_equal h__law_refused h__law_rows_of h_chained h__law_turned
  have h__law_exchanged := h__law_exchanged Z h__law_turned
  obtain ⟨fd2, F2, H⟩ := o_law Z h__law_source h__law_gates h__law_built h__law_equal h__law_rows_of h_Circuit_D__len_D_ h_Circuit_D__eq_D_ h_Circuit_D__getitem_D_ h__law_refused h__law_mode h_Circuit_with_mode h_Circuit_swapped h__law_exchanged h__law_bad_gate h__law_modes h__law_chained_right
  cases funD_uniq F F2
  exact H
end G
open PySem PySem.W PySem.Calls PyProof.Rows
theorem PySem.Challenge.cw_lostinrows_k88_circuits_refused_holds : PySem.Challenge.rw_lostinrows_k88_circuits_refused.Holds := by
  w_on; o_law
  refine HandSHeadRun.head_any (r := OpenLaw.row PySem.Challenge.rw_lostinrows_k88_circuits_refused) (q := view (OpenLaw.row PySem.Challenge.rw_lostinrows_k88_circuits_refused).prog [39]) (H := G.hk) (ob := G.ob) (M := 4000) (loose := G.names) (d := HandSHeadRun.topDef (OpenLaw.row PySem.Challenge.rw_lostinrows_k88_circuits_refused).prog 39) (kwd := []) G.ob_eq
    (by kernel_rfl) (fun s => by kernel_rfl) G.run (by kernel_rfl) (by kernel_rfl) (by kernel_rfl) (by rfl) (by first | assumption | decide +kernel) (by decide +kernel) ⟨rfl, rfl, rfl, rfl, rfl, by decide +kernel⟩ ?hw ?hc
  case hw => w_witness2
  case hc =>
    refine DL.walk_ofBE (l := PySem.Challenge.rw_lostinrows_k88_circuits_refused) (n := 63) (k := 14) (x := "script") (CX := fun w => L2.CX G.prog w) rfl (by decide) (by kernel_rfl) ⟨rfl, by decide, by decide⟩ ?F (fun _ _ _ _ _ z => DL.cx_false z)
    intro w mg fa h Y G0 hmg0
    obtain ⟨K, KX, c⟩ := Y
    have hmg : mg ("law" : PySem.Str) = some (.ref fa) := by
      have e : (HandSHeadRun.topDef (OpenLaw.row PySem.Challenge.rw_lostinrows_k88_circuits_refused).prog 39).name = ("law" : PySem.Str) := by kernel_rfl
      rw [← e]
      exact hmg0
    obtain ⟨fd, hb, hF⟩ := G.facts (w := w) KX G0 hmg c
    exact ⟨K, fd, DL.spD K G.m_law, KX, hb, fun H a ns hl hbits _ hS => DL.sp_law (G.law_ok hl hbits) hS, hF⟩
