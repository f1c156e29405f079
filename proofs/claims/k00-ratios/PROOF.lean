import PyProof.Rows.All
import Wide.All
import OpenK.AllK
import Wide.FinOn
import HandS.ForMost
import HandS.Exc
import HandS.ExcOwn
import HandS.WordsExc
import HandS.TryOnly
import HandS.Defaults
import HandS.Gcd
import HandS.Wide
import HandS.IsInst
import HandS.HeadHook1
import HandS.HeadHook2
import HandS.ExcCtx
import KE.KStateDown
import HandS.Head0
import HandS.Head1
import HandS.Head2
import HandS.Head3
import HandS.HeadEnd
import HandS.ExcIs
import HandS.HotCalls
import PyProof.ExcBaseAll.ValueError
import PySem.Challenge.RW_fourcords_k00_ratios
set_option Elab.async false
set_option linter.all false
set_option maxRecDepth 100000
set_option maxHeartbeats 4000000
/-! # Zk: typed mirrors in a partial monad, and one judgement that pairs a derivation with its mirror -/
namespace Zk
open PySem PySem.Spec PyProof.Rows L2

/-! ### the partial monad -/
inductive Fld where
  | int (i : Int) | ints (l : List Int) | str (s : Str)
structure Exn where
  cls : Str
  fs : List (Str × Fld)
inductive R (α : Type) where
  | ok (a : α) | exn (x : Exn) | stuck
namespace R
variable {α β γ : Type}
@[reducible] def bind (m : R α) (f : α → R β) : R β := match m with
  | ok a => f a
  | exn x => exn x
  | stuck => stuck
@[reducible] instance : Monad R := { pure := R.ok, bind := R.bind }
theorem same_ (a b : R β) (h : a = b) : a = b := h
@[simp] theorem ok_bind (a : α) (f : α → R β) : ((ok a : R α) >>= f) = f a := same_ _ _ rfl
@[simp] theorem exn_bind (x : Exn) (f : α → R β) : ((exn x : R α) >>= f) = exn x := same_ _ _ rfl
@[simp] theorem stuck_bind (f : α → R β) : ((stuck : R α) >>= f) = stuck := same_ _ _ rfl
@[simp] theorem pure_eq (a : α) : (pure a : R α) = ok a := rfl
@[simp] theorem bind_ok (m : R α) : (m >>= ok) = m := by cases m <;> rfl
theorem bind_assoc (m : R α) (f : α → R β) (g : β → R γ) : ((m >>= f) >>= g) = (m >>= fun a => f a >>= g) := by cases m <;> rfl
def post (m : R α) (Q : α → Prop) (E : Exn → Prop) : Prop := match m with
  | ok a => Q a
  | exn x => E x
  | stuck => False
theorem post_bind {m : R α} {f : α → R β} {Q : β → Prop} {E : Exn → Prop} : (m >>= f).post Q E ↔ m.post (fun a => (f a).post Q E) E := by
  cases m <;> exact Iff.rfl
theorem post_mono {m : R α} {Q Q' : α → Prop} {E E' : Exn → Prop} (h : m.post Q E) (hq : ∀ a, Q a → Q' a) (he : ∀ x, E x → E' x) : m.post Q' E' := by
  cases m with
  | ok a => exact hq a h
  | exn x => exact he x h
  | stuck => exact h
/-- a guard -/
def guard (p : Prop) [Decidable p] (a : α) : R α := if p then ok a else stuck
theorem guard_post {p : Prop} [Decidable p] {a : α} {Q : α → Prop} {E : Exn → Prop} (h : (guard p a).post Q E) : p ∧ Q a := by
  unfold guard at h
  split at h
  · exact ⟨by assumption, h⟩
  · exact h.elim
@[simp] theorem guard_ok {p : Prop} [Decidable p] {a : α} (h : p) : guard p a = ok a := if_pos h
end R

/-! ### heaps that grow: S what is settled, H all -/
theorem _root_.L2.Same.tup {K : PySem.W.Frag} {H H' : Hp} {a : Addr} {xs : List V} (e : Same H H') (h : SqT K H a xs) : SqT K H' a xs := by
  rcases h with (h | ⟨o, h⟩) | h
  · exact .inl (.inl (e _ _ h))
  · exact .inl (.inr ⟨o, e _ _ h⟩)
  · exact .inr h
theorem _root_.L2.Same.new {H : Hp} {p : Addr} {o : HO} (h : H p = none) : Same H (upd H p o) := fun a u e => by
  rw [upd_ne (ne_of_none e h)]
  exact e
theorem _root_.L2.Same.mut {H H' : Hp} {p : Addr} {o : HO} (e : Same H H') (h : H p = none) : Same H (upd H' p o) := fun a u ha => by
  rw [upd_ne (ne_of_none ha h)]
  exact e a u ha
structure Grow (S H S' H' : Hp) : Prop where
  ex : Same H H'
  st : Same S S'
  inn : Same S' H'
  new : ∀ a, S a = none → S' a ≠ none → H a = none
theorem Grow.refl {S H : Hp} (h : Same S H) : Grow S H S H := ⟨.refl _, .refl _, h, fun a e n => (n e).elim⟩
theorem Grow.trans {S H S1 H1 S2 H2 : Hp} (a : Grow S H S1 H1) (b : Grow S1 H1 S2 H2) : Grow S H S2 H2 := by
  refine ⟨a.ex.trans b.ex, a.st.trans b.st, b.inn, fun x e n => ?_⟩
  cases q : S1 x with
  | none => exact a.ex.free (b.new x q n)
  | some o => exact a.new x e (by rw [q]; exact fun z => by cases z)
/-- a settled new object -/
theorem Grow.lay {S H : Hp} {p : Addr} {o : HO} (i : Same S H) (h : H p = none) : Grow S H (upd S p o) (upd H p o) := by
  have hs : S p = none := i.free h
  refine ⟨.new h, .new hs, fun a u e => ?_, fun a e n => ?_⟩
  · by_cases z : a = p
    · subst z
      rw [upd_same] at e ⊢
      exact e
    · rw [upd_ne z] at e ⊢
      exact i a u e
  · by_cases z : a = p
    · rw [z]; exact h
    · rw [upd_ne z] at n
      exact (n e).elim
/-- a new object that is not settled -/
theorem Grow.lay' {S H : Hp} {p : Addr} {o : HO} (i : Same S H) (h : H p = none) : Grow S H S (upd H p o) :=
  ⟨.new h, .refl _, i.mut (i.free h), fun a e n => (n e).elim⟩
theorem Grow.none {S H S' H' : Hp} (g : Grow S H S' H') {p : Addr} {o : HO} (h : H p = some o) (s : S p = none) : S' p = none := by
  cases q : S' p with
  | none => rfl
  | some u =>
    have z := g.new p s (by rw [q]; exact fun z => by cases z)
    rw [h] at z
    cases z

/-! ### codecs -/
structure Cd (α : Type) where
  rep : PySem.W.Frag → Hp → V → α → Prop
  mono : ∀ {K : PySem.W.Frag} {H H' : Hp} {v : V} {a : α}, Same H H' → rep K H v a → rep K H' v a
def Reps {α : Type} (c : Cd α) (K : PySem.W.Frag) (H : Hp) : List V → List α → Prop
  | [], [] => True
  | v :: vs, a :: as => c.rep K H v a ∧ Reps c K H vs as
  | _, _ => False
section
variable {α β : Type} {c : Cd α} {K : PySem.W.Frag} {H H' : Hp}
theorem Reps.mono (e : Same H H') : ∀ {vs : List V} {as : List α}, Reps c K H vs as → Reps c K H' vs as
  | [], [], _ => trivial
  | _ :: _, _ :: _, h => ⟨c.mono e h.1, Reps.mono e h.2⟩
  | [], _ :: _, h => h.elim
  | _ :: _, [], h => h.elim
theorem Reps.length : ∀ {vs : List V} {as : List α}, Reps c K H vs as → vs.length = as.length
  | [], [], _ => rfl
  | _ :: _, _ :: _, h => congrArg Nat.succ (Reps.length h.2)
  | [], _ :: _, h => h.elim
  | _ :: _, [], h => h.elim
theorem Reps.append : ∀ {vs : List V} {as : List α} {ws : List V} {bs : List α}, Reps c K H vs as → Reps c K H ws bs → Reps c K H (vs ++ ws) (as ++ bs)
  | [], [], _, _, _, k => k
  | _ :: _, _ :: _, _, _, h, k => ⟨h.1, Reps.append h.2 k⟩
  | [], _ :: _, _, _, h, _ => h.elim
  | _ :: _, [], _, _, h, _ => h.elim
theorem Reps.get : ∀ {vs : List V} {as : List α} {i : Nat} {a : α}, Reps c K H vs as → as[i]? = some a → ∃ v, vs[i]? = some v ∧ c.rep K H v a
  | v :: _, a' :: _, 0, a, h, e => by
    have e2 : a' = a := Option.some.inj e
    subst e2
    exact ⟨v, rfl, h.1⟩
  | _ :: vs, _ :: as, i + 1, a, h, e => Reps.get (vs := vs) (as := as) (i := i) h.2 e
  | [], [], i, a, _, e => by simp at e
  | [], _ :: _, _, _, h, _ => h.elim
  | _ :: _, [], _, _, h, _ => h.elim
theorem Reps.getV : ∀ {vs : List V} {as : List α} {i : Nat} {v : V}, Reps c K H vs as → vs[i]? = some v → ∃ a, as[i]? = some a ∧ c.rep K H v a
  | v' :: _, a :: _, 0, v, h, e => by
    have e2 : v' = v := Option.some.inj e
    subst e2
    exact ⟨a, rfl, h.1⟩
  | _ :: vs, _ :: as, i + 1, v, h, e => Reps.getV (vs := vs) (as := as) (i := i) h.2 e
  | [], [], i, v, _, e => by simp at e
  | [], _ :: _, _, _, h, _ => h.elim
  | _ :: _, [], _, _, h, _ => h.elim
theorem Reps.set {a : α} {v : V} (r : c.rep K H v a) : ∀ {vs : List V} {as : List α} (i : Nat), Reps c K H vs as → Reps c K H (vs.set i v) (as.set i a)
  | [], [], _, _ => trivial
  | _ :: _, _ :: _, 0, h => ⟨r, h.2⟩
  | _ :: _, _ :: _, i + 1, h => ⟨h.1, Reps.set r i h.2⟩
  | [], _ :: _, _, h => h.elim
  | _ :: _, [], _, h => h.elim
theorem Reps.take : ∀ {vs : List V} {as : List α} (n : Nat), Reps c K H vs as → Reps c K H (vs.take n) (as.take n)
  | _, _, 0, _ => by simp [Reps]
  | [], [], _ + 1, _ => trivial
  | _ :: _, _ :: _, n + 1, h => ⟨h.1, Reps.take n h.2⟩
  | [], _ :: _, _ + 1, h => h.elim
  | _ :: _, [], _ + 1, h => h.elim
theorem Reps.drop : ∀ {vs : List V} {as : List α} (n : Nat), Reps c K H vs as → Reps c K H (vs.drop n) (as.drop n)
  | _, _, 0, h => h
  | [], [], _ + 1, _ => trivial
  | _ :: _, _ :: _, n + 1, h => Reps.drop n h.2
  | [], _ :: _, _ + 1, h => h.elim
  | _ :: _, [], _ + 1, h => h.elim
end

def cI : Cd Int := ⟨fun _ _ v i => v = .int i, fun _ h => h⟩
def cB : Cd Bool := ⟨fun _ _ v b => v = .bl b, fun _ h => h⟩
def cN : Cd Unit := ⟨fun _ _ v _ => v = .non, fun _ h => h⟩
def cS : Cd Str := ⟨fun _ _ v x => v = .str x, fun _ h => h⟩
def cL {α : Type} (c : Cd α) : Cd (List α) :=
  ⟨fun K H v as => ∃ p vs, v = .ref p ∧ SqL K H p vs ∧ Reps c K H vs as, fun e ⟨p, vs, h1, h2, h3⟩ => ⟨p, vs, h1, Same.seq e h2, Reps.mono e h3⟩⟩
def cT {α : Type} (c : Cd α) : Cd (List α) :=
  ⟨fun K H v as => ∃ p vs, v = .ref p ∧ SqT K H p vs ∧ Reps c K H vs as, fun e ⟨p, vs, h1, h2, h3⟩ => ⟨p, vs, h1, Same.tup e h2, Reps.mono e h3⟩⟩
/-- a list or a tuple -/
def cLT {α : Type} (c : Cd α) : Cd (List α) :=
  ⟨fun K H v as => (cL c).rep K H v as ∨ (cT c).rep K H v as, fun e h => h.imp ((cL c).mono e) ((cT c).mono e)⟩
def cO {α : Type} (c : Cd α) : Cd (Option α) :=
  ⟨fun K H v o => match o with | none => v = .non | some a => v ≠ .non ∧ c.rep K H v a, fun {K H H' v o} e h => by
    cases o with
    | none => exact h
    | some a => exact ⟨h.1, c.mono e h.2⟩⟩
/-! ### what only one slot holds; fp: its addresses -/
structure OC (α : Type) where
  c : Cd α
  rep : PySem.W.Frag → Hp → Hp → V → α → List Addr → Prop
  stay : ∀ {K : PySem.W.Frag} {S H S' H' : Hp} {v : V} {a : α} {fp : List Addr}, Same S S' → (∀ p ∈ fp, S' p = none ∧ H' p = H p) → rep K S H v a fp → rep K S' H' v a fp
  dom : ∀ {K : PySem.W.Frag} {S H : Hp} {v : V} {a : α} {fp : List Addr}, rep K S H v a fp → ∀ p ∈ fp, S p = none ∧ ∃ xs, H p = some (.lst xs)
  nd : ∀ {K : PySem.W.Frag} {S H : Hp} {v : V} {a : α} {fp : List Addr}, rep K S H v a fp → fp.Nodup
  set : ∀ {K : PySem.W.Frag} {S H S' : Hp} {v : V} {a : α} {fp : List Addr}, Same S S' → (∀ p ∈ fp, S' p = H p) → rep K S H v a fp → c.rep K S' v a
def oL {α : Type} (c : Cd α) : OC (List α) where
  c := cL c
  rep K S H v as fp := ∃ p vs, v = .ref p ∧ fp = [p] ∧ S p = none ∧ H p = some (.lst vs) ∧ Reps c K S vs as
  stay := fun e k ⟨p, vs, h1, h2, h3, h4, h5⟩ => by
    subst h2
    obtain ⟨k1, k2⟩ := k p (List.mem_singleton.mpr rfl)
    exact ⟨p, vs, h1, rfl, k1, k2.trans h4, Reps.mono e h5⟩
  dom := fun ⟨p, vs, h1, h2, h3, h4, h5⟩ q hq => by
    subst h2
    cases List.mem_singleton.mp hq
    exact ⟨h3, vs, h4⟩
  nd := fun ⟨p, vs, h1, h2, _⟩ => by
    rw [h2]
    exact List.nodup_cons.mpr ⟨by simp, List.nodup_nil⟩
  set := fun e k ⟨p, vs, h1, h2, h3, h4, h5⟩ => by
    subst h2
    exact ⟨p, vs, h1, SqL.of ((k p (List.mem_singleton.mpr rfl)).trans h4), Reps.mono e h5⟩
def RepsO {α : Type} (o : OC α) (K : PySem.W.Frag) (S H : Hp) : List V → List α → List (List Addr) → Prop
  | [], [], [] => True
  | v :: vs, a :: as, f :: fs => o.rep K S H v a f ∧ RepsO o K S H vs as fs
  | _, _, _ => False
section
variable {α : Type} {o : OC α} {K : PySem.W.Frag} {S H S' H' : Hp}
theorem RepsO.stay (e : Same S S') : ∀ {vs : List V} {as : List α} {fs : List (List Addr)}, (∀ p ∈ fs.flatten, S' p = none ∧ H' p = H p) → RepsO o K S H vs as fs → RepsO o K S' H' vs as fs
  | [], [], [], _, _ => trivial
  | v :: vs, a :: as, f :: fs, k, h => ⟨o.stay e (fun p hp => k p (by rw [List.flatten_cons]; exact List.mem_append_left _ hp)) h.1, RepsO.stay e (fun p hp => k p (by rw [List.flatten_cons]; exact List.mem_append_right _ hp)) h.2⟩
  | [], [], _ :: _, _, h => h.elim
  | [], _ :: _, _, _, h => h.elim
  | _ :: _, [], _, _, h => h.elim
  | _ :: _, _ :: _, [], _, h => h.elim
theorem RepsO.dom : ∀ {vs : List V} {as : List α} {fs : List (List Addr)}, RepsO o K S H vs as fs → ∀ p ∈ fs.flatten, S p = none ∧ ∃ xs, H p = some (.lst xs)
  | [], [], [], _, p, hp => by simp at hp
  | v :: vs, a :: as, f :: fs, h, p, hp => by
    rw [List.flatten_cons] at hp
    rcases List.mem_append.mp hp with hp | hp
    · exact o.dom h.1 p hp
    · exact RepsO.dom h.2 p hp
  | [], [], _ :: _, h, _, _ => h.elim
  | [], _ :: _, _, h, _, _ => h.elim
  | _ :: _, [], _, h, _, _ => h.elim
  | _ :: _, _ :: _, [], h, _, _ => h.elim
theorem RepsO.set (e : Same S S') : ∀ {vs : List V} {as : List α} {fs : List (List Addr)}, (∀ p ∈ fs.flatten, S' p = H p) → RepsO o K S H vs as fs → Reps o.c K S' vs as
  | [], [], [], _, _ => trivial
  | v :: vs, a :: as, f :: fs, k, h => ⟨o.set e (fun p hp => k p (by rw [List.flatten_cons]; exact List.mem_append_left _ hp)) h.1, RepsO.set e (fun p hp => k p (by rw [List.flatten_cons]; exact List.mem_append_right _ hp)) h.2⟩
  | [], [], _ :: _, _, h => h.elim
  | [], _ :: _, _, _, h => h.elim
  | _ :: _, [], _, _, h => h.elim
  | _ :: _, _ :: _, [], _, h => h.elim
theorem RepsO.length : ∀ {vs : List V} {as : List α} {fs : List (List Addr)}, RepsO o K S H vs as fs → vs.length = as.length ∧ fs.length = as.length
  | [], [], [], _ => ⟨rfl, rfl⟩
  | _ :: _, _ :: _, _ :: _, h => ⟨congrArg Nat.succ (RepsO.length h.2).1, congrArg Nat.succ (RepsO.length h.2).2⟩
  | [], [], _ :: _, h => h.elim
  | [], _ :: _, _, h => h.elim
  | _ :: _, [], _, h => h.elim
  | _ :: _, _ :: _, [], h => h.elim
theorem RepsO.append : ∀ {vs : List V} {as : List α} {fs : List (List Addr)} {ws : List V} {bs : List α} {gs : List (List Addr)}, RepsO o K S H vs as fs → RepsO o K S H ws bs gs → RepsO o K S H (vs ++ ws) (as ++ bs) (fs ++ gs)
  | [], [], [], _, _, _, _, k => k
  | _ :: _, _ :: _, _ :: _, _, _, _, h, k => ⟨h.1, RepsO.append h.2 k⟩
  | [], [], _ :: _, _, _, _, h, _ => h.elim
  | [], _ :: _, _, _, _, _, h, _ => h.elim
  | _ :: _, [], _, _, _, _, h, _ => h.elim
  | _ :: _, _ :: _, [], _, _, _, h, _ => h.elim
theorem RepsO.get : ∀ {vs : List V} {as : List α} {fs : List (List Addr)} {i : Nat} {a : α}, RepsO o K S H vs as fs → as[i]? = some a → ∃ v f, vs[i]? = some v ∧ fs[i]? = some f ∧ o.rep K S H v a f
  | v :: _, a' :: _, f :: _, 0, a, h, e => by
    have e2 : a' = a := Option.some.inj e
    subst e2
    exact ⟨v, f, rfl, rfl, h.1⟩
  | _ :: vs, _ :: as, _ :: fs, i + 1, a, h, e => RepsO.get (vs := vs) (as := as) (fs := fs) (i := i) h.2 e
  | [], [], [], i, a, _, e => by simp at e
  | [], [], _ :: _, _, _, h, _ => h.elim
  | [], _ :: _, _, _, _, h, _ => h.elim
  | _ :: _, [], _, _, _, h, _ => h.elim
  | _ :: _, _ :: _, [], _, _, h, _ => h.elim
end
/-- a list whose items are owned as well -/
def oN {α : Type} (o : OC α) : OC (List α) where
  c := cL o.c
  rep K S H v as fp := ∃ p vs fs, v = .ref p ∧ fp = p :: fs.flatten ∧ (p :: fs.flatten).Nodup ∧ S p = none ∧ H p = some (.lst vs) ∧ RepsO o K S H vs as fs
  stay := fun e k ⟨p, vs, fs, h1, h2, h3, h4, h5, h6⟩ => by
    subst h2
    obtain ⟨k1, k2⟩ := k p List.mem_cons_self
    exact ⟨p, vs, fs, h1, rfl, h3, k1, k2.trans h5, RepsO.stay e (fun q hq => k q (List.mem_cons_of_mem _ hq)) h6⟩
  dom := fun ⟨p, vs, fs, h1, h2, h3, h4, h5, h6⟩ q hq => by
    subst h2
    rcases List.mem_cons.mp hq with z | z
    · rw [z]; exact ⟨h4, vs, h5⟩
    · exact RepsO.dom h6 q z
  nd := fun ⟨p, vs, fs, h1, h2, h3, _⟩ => by
    rw [h2]
    exact h3
  set := fun e k ⟨p, vs, fs, h1, h2, h3, h4, h5, h6⟩ => by
    subst h2
    exact ⟨p, vs, h1, SqL.of ((k p List.mem_cons_self).trans h5), RepsO.set e (fun q hq => k q (List.mem_cons_of_mem _ hq)) h6⟩
/-! ### slots -/
inductive SD : Type 1 where
  | none
  | st (α : Type) (c : Cd α) (a : α)
  | ow (α : Type) (o : OC α) (a : α)
/-- a list that still changes -/
abbrev SD.mu (α : Type) (c : Cd α) (as : List α) : SD := .ow (List α) (oL c) as
abbrev Env := List SD
/-- slots that hold these values -/
def EnvV (K : PySem.W.Frag) (H : Hp) : Env → List V → Prop
  | [], [] => True
  | d :: ds, v :: vs => (∃ (α : Type) (c : Cd α) (a : α), d = .st α c a ∧ c.rep K H v a) ∧ EnvV K H ds vs
  | _, _ => False
/-- several values, their mirrors nested pairs -/
structure CA (τ : Type) where
  n : Nat
  rep : PySem.W.Frag → Hp → List V → τ → Prop
  env : τ → Env
  mono : ∀ {K : PySem.W.Frag} {H H' : Hp} {vs : List V} {a : τ}, Same H H' → rep K H vs a → rep K H' vs a
  len : ∀ {K : PySem.W.Frag} {H : Hp} {vs : List V} {a : τ}, rep K H vs a → vs.length = n
  sl : ∀ {K : PySem.W.Frag} {H : Hp} {vs : List V} {a : τ}, rep K H vs a → EnvV K H (env a) vs
def aNil : CA Unit := ⟨0, fun _ _ vs _ => vs = [], fun _ => [], fun _ h => h, fun h => by rw [h] <;> rfl, fun h => by rw [h]; trivial⟩
def aOne {α : Type} (c : Cd α) : CA α := ⟨1, fun K H vs a => ∃ v, vs = [v] ∧ c.rep K H v a, fun a => [.st α c a], fun e ⟨v, h1, h2⟩ => ⟨v, h1, c.mono e h2⟩, fun ⟨v, h1, _⟩ => by rw [h1] <;> rfl, fun ⟨v, h1, h2⟩ => by rw [h1]; exact ⟨⟨α, c, _, rfl, h2⟩, trivial⟩⟩
def aCons {α τ : Type} (c : Cd α) (r : CA τ) : CA (α × τ) :=
  ⟨r.n + 1, fun K H vs a => ∃ v ws, vs = v :: ws ∧ c.rep K H v a.1 ∧ r.rep K H ws a.2, fun a => .st α c a.1 :: r.env a.2, fun e ⟨v, ws, h1, h2, h3⟩ => ⟨v, ws, h1, c.mono e h2, r.mono e h3⟩,
    fun ⟨v, ws, h1, _, h3⟩ => by rw [h1, List.length_cons, r.len h3], fun ⟨v, ws, h1, h2, h3⟩ => by rw [h1]; exact ⟨⟨α, c, _, rfl, h2⟩, r.sl h3⟩⟩
/-- a tuple of so many values -/
def cP {τ : Type} (r : CA τ) : Cd τ :=
  ⟨fun K H v a => ∃ p vs, v = .ref p ∧ SqT K H p vs ∧ r.rep K H vs a, fun e ⟨p, vs, h1, h2, h3⟩ => ⟨p, vs, h1, Same.tup e h2, r.mono e h3⟩⟩

/-! ### exceptions -/
def repFs (K : PySem.W.Frag) (S : Hp) (d : Option Addr) (fs : List (Str × Fld)) : Prop := match fs with
  | [] => d = none
  | _ => False
def repX (K : PySem.W.Frag) (S : Hp) (cl : Value) (d : Option Addr) (x : Exn) : Prop := cl = .ref (He.ga K x.cls) ∧ repFs K S d x.fs

/-! ### places of slots -/
namespace Env
def get : Env → Nat → SD
  | [], _ => .none
  | d :: _, 0 => d
  | _ :: ds, i + 1 => get ds i
def put : Env → Nat → SD → Env
  | [], _, _ => []
  | _ :: ds, 0, x => x :: ds
  | d :: ds, i + 1, x => d :: put ds i x
theorem put_length : ∀ (ds : Env) (i : Nat) (x : SD), (put ds i x).length = ds.length
  | [], _, _ => rfl
  | _ :: _, 0, _ => rfl
  | _ :: ds, i + 1, x => congrArg Nat.succ (put_length ds i x)
theorem get_put_same : ∀ (ds : Env) (i : Nat) (x : SD), i < ds.length → get (put ds i x) i = x
  | [], _, _, h => by simp at h
  | _ :: _, 0, _, _ => rfl
  | _ :: ds, i + 1, x, h => get_put_same ds i x (by simpa using h)
theorem get_put_ne : ∀ (ds : Env) (i j : Nat) (x : SD), j ≠ i → get (put ds i x) j = get ds j
  | [], _, _, _, _ => rfl
  | _ :: _, 0, 0, _, h => (h rfl).elim
  | _ :: _, 0, _ + 1, _, _ => rfl
  | _ :: _, _ + 1, 0, _, _ => rfl
  | _ :: ds, i + 1, j + 1, x, h => get_put_ne ds i j x (fun e => h (congrArg Nat.succ e))
theorem put_out : ∀ (ds : Env) (i : Nat) (x : SD), ds.length ≤ i → put ds i x = ds
  | [], _, _, _ => rfl
  | _ :: _, 0, _, h => by simp at h
  | d :: ds, i + 1, x, h => congrArg (d :: ·) (put_out ds i x (by simpa using h))
end Env
def SlotOk (K : PySem.W.Frag) (H0 S H : Hp) (d : SD) (s : Option (Option V)) (fp : List Addr) : Prop := match d with
  | .none => fp = []
  | .st _ c a => fp = [] ∧ ∃ v, s = some (some v) ∧ c.rep K S v a
  | .ow _ o a => (∃ v, s = some (some v) ∧ o.rep K S H v a fp) ∧ ∀ p ∈ fp, H0 p = none
structure EnvOk (K : PySem.W.Frag) (S0 H0 : Hp) (ds : Env) (σ : L2.St) (S H : Hp) : Prop where
  len : ds.length = σ.length
  own : ∃ fp : Nat → List Addr, (∀ i, SlotOk K H0 S H (ds.get i) σ[i]? (fp i)) ∧ ∀ i j p, p ∈ fp i → p ∈ fp j → i = j
  grow : Grow S0 H0 S H
section
variable {K : PySem.W.Frag} {S0 H0 S H S' H' : Hp} {ds : Env} {σ : L2.St}
theorem EnvOk.inn (e : EnvOk K S0 H0 ds σ S H) : Same S H := e.grow.inn
theorem SlotOk.dom {d : SD} {s : Option (Option V)} {fp : List Addr} (h : SlotOk K H0 S H d s fp) : ∀ p ∈ fp, S p = none ∧ ∃ xs, H p = some (.lst xs) := by
  cases d with
  | none =>
    have e : fp = [] := h
    subst e
    exact fun p hp => by simp at hp
  | st α c a =>
    obtain ⟨e, _⟩ := h
    subst e
    exact fun p hp => by simp at hp
  | ow α o a =>
    obtain ⟨⟨v, _, h2⟩, _⟩ := h
    exact o.dom h2
theorem SlotOk.stay {d : SD} {s : Option (Option V)} {fp : List Addr} (h : SlotOk K H0 S H d s fp) (e : Same S S') (k : ∀ p ∈ fp, S' p = none ∧ H' p = H p) : SlotOk K H0 S' H' d s fp := by
  cases d with
  | none => exact h
  | st α c a =>
    obtain ⟨h0, v, h1, h2⟩ := h
    exact ⟨h0, v, h1, c.mono e h2⟩
  | ow α o a =>
    obtain ⟨⟨v, h1, h2⟩, h3⟩ := h
    exact ⟨⟨v, h1, o.stay e k h2⟩, h3⟩
theorem SlotOk.grow {d : SD} {s : Option (Option V)} {fp : List Addr} (h : SlotOk K H0 S H d s fp) (g : Grow S H S' H') : SlotOk K H0 S' H' d s fp := by
  refine h.stay g.st fun p hp => ?_
  obtain ⟨h1, xs, h2⟩ := h.dom p hp
  exact ⟨g.none h2 h1, (g.ex _ _ h2).trans h2.symm⟩
theorem EnvOk.step (e : EnvOk K S0 H0 ds σ S H) (g : Grow S H S' H') : EnvOk K S0 H0 ds σ S' H' := by
  obtain ⟨fp, h1, h2⟩ := e.own
  exact ⟨e.len, ⟨fp, fun i => (h1 i).grow g, h2⟩, e.grow.trans g⟩
theorem EnvOk.var (e : EnvOk K S0 H0 ds σ S H) {i : Nat} {α : Type} {c : Cd α} {a : α} (h : ds.get i = .st α c a) : ∃ v, σ[i]? = some (some v) ∧ c.rep K S v a := by
  obtain ⟨fp, h1, h2⟩ := e.own
  have q := h1 i
  rw [h] at q
  exact q.2
theorem EnvOk.owv (e : EnvOk K S0 H0 ds σ S H) {i : Nat} {α : Type} {o : OC α} {a : α} (h : ds.get i = .ow α o a) :
    ∃ v fp, σ[i]? = some (some v) ∧ o.rep K S H v a fp ∧ ∀ p ∈ fp, H0 p = none := by
  obtain ⟨fp, h1, h2⟩ := e.own
  have q := h1 i
  rw [h] at q
  obtain ⟨⟨v, q1, q2⟩, q3⟩ := q
  exact ⟨v, fp i, q1, q2, q3⟩
theorem EnvOk.muv (e : EnvOk K S0 H0 ds σ S H) {i : Nat} {α : Type} {c : Cd α} {as : List α} (h : ds.get i = .mu α c as) :
    ∃ p vs, σ[i]? = some (some (.ref p)) ∧ H0 p = none ∧ S p = none ∧ H p = some (.lst vs) ∧ Reps c K S vs as := by
  obtain ⟨v, fp, h1, ⟨p, vs, e1, e2, e3, e4, e5⟩, h3⟩ := e.owv h
  subst e1 e2
  exact ⟨p, vs, h1, h3 p (List.mem_singleton.mpr rfl), e3, e4, e5⟩
theorem get_set_self {σ : L2.St} {i : Nat} {x : Option V} (h : i < σ.length) : (σ.set i x)[i]? = some x := List.getElem?_set_self h
theorem Env.get_out : ∀ (ds : Env) (i : Nat), ds.length ≤ i → ds.get i = .none
  | [], _, _ => rfl
  | _ :: _, 0, h => absurd h (by simp)
  | _ :: ds, i + 1, h => Env.get_out ds i (by simpa using h)
/-- a slot and the heap change -/
theorem EnvOk.chg (e : EnvOk K S0 H0 ds σ S H) (g : Grow S0 H0 S' H') (hs : Same S S') {i : Nat} {x : Option V} {d : SD}
    (k : ∀ f, SlotOk K H0 S H (ds.get i) σ[i]? f → (∀ p, p ∈ f → S p = none ∧ ∃ xs, H p = some (.lst xs)) → ∃ f', (i < ds.length → SlotOk K H0 S' H' d (some x) f') ∧ (∀ p, H p ≠ none → p ∉ f → (S p = none → S' p = none) ∧ H' p = H p) ∧ ∀ p ∈ f', p ∈ f ∨ H p = none) :
    EnvOk K S0 H0 (ds.put i d) (σ.set i x) S' H' := by
  obtain ⟨fp, h1, h2⟩ := e.own
  obtain ⟨f', k1, k2, k3⟩ := k (fp i) (h1 i) (h1 i).dom
  have st : ∀ j, j ≠ i → SlotOk K H0 S' H' (ds.get j) σ[j]? (fp j) := fun j hj => (h1 j).stay hs fun p hp => by
    obtain ⟨q1, xs, q2⟩ := (h1 j).dom p hp
    obtain ⟨q3, q4⟩ := k2 p (by rw [q2]; exact fun z => nomatch z) (fun z => hj (h2 j i p hp z))
    exact ⟨q3 q1, q4⟩
  by_cases hi : i < ds.length
  · have hss : i < σ.length := by rw [← e.len]; exact hi
    refine ⟨by rw [Env.put_length, List.length_set, e.len], ⟨fun j => if j = i then f' else fp j, fun j => ?_, fun j l p hj hl => ?_⟩, g⟩
    · by_cases z : j = i
      · subst z
        rw [Env.get_put_same _ _ _ hi, get_set_self hss]
        show SlotOk K H0 S' H' d (some x) (if j = j then f' else fp j)
        rw [if_pos rfl]
        exact k1 hi
      · rw [Env.get_put_ne _ _ _ _ z, List.getElem?_set_ne (Ne.symm z)]
        show SlotOk K H0 S' H' (ds.get j) σ[j]? (if j = i then f' else fp j)
        rw [if_neg z]
        exact st j z
    · have hj : p ∈ (if j = i then f' else fp j) := hj
      have hl : p ∈ (if l = i then f' else fp l) := hl
      have fr : ∀ q, q ≠ i → p ∈ f' → p ∈ fp q → False := fun q hq a1 a2 => by
        rcases k3 p a1 with z | z
        · exact hq (h2 q i p a2 z)
        · obtain ⟨_, xs, z2⟩ := (h1 q).dom p a2
          rw [z] at z2
          cases z2
      by_cases zj : j = i
      · by_cases zl : l = i
        · rw [zj, zl]
        · rw [if_pos zj] at hj
          rw [if_neg zl] at hl
          exact (fr l zl hj hl).elim
      · by_cases zl : l = i
        · rw [if_neg zj] at hj
          rw [if_pos zl] at hl
          exact (fr j zj hl hj).elim
        · rw [if_neg zj] at hj
          rw [if_neg zl] at hl
          exact h2 j l p hj hl
  · have g1 : ds.length ≤ i := Nat.le_of_not_lt hi
    have g2 : σ.length ≤ i := by rw [← e.len]; exact g1
    rw [Env.put_out _ _ _ g1, List.set_eq_of_length_le g2]
    refine ⟨e.len, ⟨fp, fun j => ?_, h2⟩, g⟩
    by_cases z : j = i
    · subst z
      have q := h1 j
      rw [Env.get_out ds j g1] at q ⊢
      exact q
    · exact st j z
/-- a slot is stored -/
theorem EnvOk.putS (e : EnvOk K S0 H0 ds σ S H) {i : Nat} {v : V} {α : Type} {c : Cd α} {a : α} (h : c.rep K S v a) : EnvOk K S0 H0 (ds.put i (.st α c a)) (σ.set i (some v)) S H :=
  e.chg e.grow (.refl _) fun f hf hd => ⟨[], fun _ => ⟨rfl, v, rfl, h⟩, fun p _ _ => ⟨id, rfl⟩, fun p hp => by simp at hp⟩
theorem EnvOk.putN (e : EnvOk K S0 H0 ds σ S H) {i : Nat} {x : Option V} : EnvOk K S0 H0 (ds.put i .none) (σ.set i x) S H :=
  e.chg e.grow (.refl _) fun f hf hd => ⟨[], fun _ => rfl, fun p _ _ => ⟨id, rfl⟩, fun p hp => by simp at hp⟩
/-- what no slot holds yet -/
theorem EnvOk.putO (e : EnvOk K S0 H0 ds σ S H) (g : Grow S H S' H') {i : Nat} {v : V} {α : Type} {o : OC α} {a : α} {fp : List Addr} (r : o.rep K S' H' v a fp) (hn : ∀ p ∈ fp, H p = none) :
    EnvOk K S0 H0 (ds.put i (.ow α o a)) (σ.set i (some v)) S' H' :=
  e.chg (e.grow.trans g) g.st fun f hf hd => ⟨fp, fun _ => ⟨⟨v, rfl, r⟩, fun p hp => e.grow.ex.free (hn p hp)⟩, fun p q _ => by
    cases z : H p with
    | none => exact (q z).elim
    | some u => exact ⟨fun s => g.none z s, g.ex _ _ z⟩, fun p hp => .inr (hn p hp)⟩
theorem EnvOk.putM (e : EnvOk K S0 H0 ds σ S H) (g : Grow S H S' H') {i : Nat} {p : Addr} {vs : List V} {α : Type} {c : Cd α} {as : List α} (hn : H p = none) (hs : S' p = none) (hp : H' p = some (.lst vs)) (r : Reps c K S' vs as) :
    EnvOk K S0 H0 (ds.put i (.mu α c as)) (σ.set i (some (.ref p))) S' H' :=
  e.putO g (fp := [p]) ⟨p, vs, rfl, rfl, hs, hp, r⟩ fun q hq => by rw [List.mem_singleton.mp hq]; exact hn
/-- what a slot holds changes -/
theorem EnvOk.mut (e : EnvOk K S0 H0 ds σ S H) (g : Grow S H S' H') {H2 : Hp} {i : Nat} {α β : Type} {o : OC α} {o' : OC β} {a : α} {b : β} (h : ds.get i = .ow α o a)
    (k : ∀ v fp, σ[i]? = some (some v) → o.rep K S' H' v a fp → (∀ p ∈ fp, ∃ xs, H p = some (.lst xs)) → ∃ fp', o'.rep K S' H2 v b fp' ∧ (∀ p, p ∉ fp → H2 p = H' p ∨ H p = none ∧ S' p = none) ∧ ∀ p ∈ fp', p ∈ fp ∨ H p = none) : EnvOk K S0 H0 (ds.put i (.ow β o' b)) σ S' H2 := by
  obtain ⟨v, fp, h1, h2, h3⟩ := e.owv h
  have h2' : o.rep K S' H' v a fp := o.stay g.st (fun p hp => by
    obtain ⟨z1, xs, z2⟩ := o.dom h2 p hp
    exact ⟨g.none z2 z1, (g.ex _ _ z2).trans z2.symm⟩) h2
  have dm : ∀ p ∈ fp, ∃ xs, H p = some (.lst xs) := fun p hp => (o.dom h2 p hp).2
  obtain ⟨fp', k1, k2, k3⟩ := k v fp h1 h2' dm
  have eσ : σ.set i (some v) = σ := by
    apply List.ext_getElem?
    intro j
    by_cases z : j = i
    · subst z
      rw [get_set_self (List.getElem?_eq_some_iff.mp h1).1, h1]
    · rw [List.getElem?_set_ne (Ne.symm z)]
  have gg := e.grow.trans g
  have hS : ∀ p u, S' p = some u → H2 p = H' p := fun p u hu => by
    have np : p ∉ fp := fun z => by
      obtain ⟨z1, xs, z2⟩ := o.dom h2 p z
      rw [g.none z2 z1] at hu
      cases hu
    rcases k2 p np with z | z
    · exact z
    · rw [z.2] at hu; cases hu
  have res := e.chg (S' := S') (H' := H2) (i := i) (x := some v) (d := .ow β o' b) ⟨fun p u hu => ?_, gg.st, fun p u hu => (hS p u hu).trans (gg.inn p u hu), gg.new⟩ g.st (fun f hf hd => ?_)
  · rw [eσ] at res
    exact res
  · have np : p ∉ fp := fun z => by
      rw [h3 p z] at hu
      cases hu
    rcases k2 p np with z | z
    · exact z.trans (gg.ex p u hu)
    · rw [e.grow.ex p u hu] at z
      cases z.1
  · rw [h] at hf
    obtain ⟨⟨v', e1, e2⟩, e3⟩ := hf
    rw [h1] at e1
    cases e1
    have e2' : o.rep K S' H' v a f := o.stay g.st (fun p hp => by
      obtain ⟨z1, xs, z2⟩ := o.dom e2 p hp
      exact ⟨g.none z2 z1, (g.ex _ _ z2).trans z2.symm⟩) e2
    obtain ⟨f', q1, q2, q3⟩ := k v f h1 e2' (fun p hp => (o.dom e2 p hp).2)
    refine ⟨f', fun _ => ⟨⟨v, rfl, q1⟩, fun p hp => ?_⟩, fun p z1 z2 => ?_, q3⟩
    · rcases q3 p hp with z | z
      · exact e3 p z
      · exact e.grow.ex.free z
    · cases z : H p with
      | none => exact (z1 z).elim
      | some u =>
        refine ⟨fun s => g.none z s, ?_⟩
        rcases q2 p z2 with y | y
        · exact y.trans (g.ex p u z)
        · rw [z] at y
          cases y.1
/-- a slot's list changes -/
theorem EnvOk.mutate (e : EnvOk K S0 H0 ds σ S H) {i : Nat} {p : Addr} {vs : List V} {α β : Type} {c : Cd α} {c' : Cd β} {as : List α} {bs : List β} (h : ds.get i = .mu α c as) (hp : σ[i]? = some (some (.ref p))) (r : Reps c' K S vs bs) :
    EnvOk K S0 H0 (ds.put i (.mu β c' bs)) σ S (upd H p (.lst vs)) :=
  e.mut (.refl e.inn) h fun v fp h1 ⟨q, ws, e1, e2, e3, e4, e5⟩ _ => by
    rw [hp] at h1
    cases h1
    cases e1
    subst e2
    exact ⟨[p], ⟨p, vs, rfl, rfl, e3, upd_same, r⟩, fun q hq => .inl (upd_ne fun z => hq (List.mem_singleton.mpr z)), fun q hq => .inl hq⟩
/-- what a slot holds settles -/
theorem EnvOk.freezeO (e : EnvOk K S0 H0 ds σ S H) {i : Nat} {α : Type} {o : OC α} {a : α} (h : ds.get i = .ow α o a) : ∃ S', Same S S' ∧ EnvOk K S0 H0 (ds.put i (.st α o.c a)) σ S' H := by
  obtain ⟨fp, h1, h2⟩ := e.own
  have hf := h1 i
  rw [h] at hf
  obtain ⟨⟨v, e1, e2⟩, e3⟩ := hf
  have d := o.dom e2
  let S' : Hp := fun p => if p ∈ fp i then H p else S p
  have s1 : ∀ p, p ∈ fp i → S' p = H p := fun p hp => if_pos hp
  have s2 : ∀ p, p ∉ fp i → S' p = S p := fun p hp => if_neg hp
  have hS : Same S S' := fun p u hu => by
    by_cases z : p ∈ fp i
    · rw [(d p z).1] at hu
      cases hu
    · rw [s2 p z]; exact hu
  refine ⟨S', hS, ?_⟩
  have hi : i < ds.length := by
    rw [e.len]
    exact (List.getElem?_eq_some_iff.mp e1).1
  refine ⟨by rw [Env.put_length, e.len], ⟨fun j => if j = i then [] else fp j, fun j => ?_, fun j l p hj hl => ?_⟩, ⟨e.grow.ex, e.grow.st.trans hS, fun p u hu => ?_, fun p n0 n1 => ?_⟩⟩
  · by_cases z : j = i
    · subst z
      rw [Env.get_put_same _ _ _ hi]
      show SlotOk K H0 S' H (.st α o.c a) σ[j]? (if j = j then [] else fp j)
      rw [if_pos rfl]
      exact ⟨rfl, v, e1, o.set hS s1 e2⟩
    · rw [Env.get_put_ne _ _ _ _ z]
      show SlotOk K H0 S' H (ds.get j) σ[j]? (if j = i then [] else fp j)
      rw [if_neg z]
      refine (h1 j).stay hS fun p hp => ⟨?_, rfl⟩
      rw [s2 p fun y => z (h2 j i p hp y)]
      exact ((h1 j).dom p hp).1
  · have hj : p ∈ (if j = i then [] else fp j) := hj
    have hl : p ∈ (if l = i then [] else fp l) := hl
    by_cases zj : j = i
    · rw [if_pos zj] at hj
      simp at hj
    · by_cases zl : l = i
      · rw [if_pos zl] at hl
        simp at hl
      · rw [if_neg zj] at hj
        rw [if_neg zl] at hl
        exact h2 j l p hj hl
  · by_cases z : p ∈ fp i
    · rw [s1 p z] at hu
      exact hu
    · rw [s2 p z] at hu
      exact e.grow.inn p u hu
  · by_cases z : p ∈ fp i
    · exact e3 p z
    · rw [s2 p z] at n1
      exact e.grow.new p n0 n1
theorem EnvOk.freeze (e : EnvOk K S0 H0 ds σ S H) {i : Nat} {α : Type} {c : Cd α} {as : List α} (h : ds.get i = .mu α c as) : ∃ S', Same S S' ∧ EnvOk K S0 H0 (ds.put i (.st (List α) (cL c) as)) σ S' H := e.freezeO h
/-- forgetting -/
def EnvLe : Env → Env → Prop
  | [], [] => True
  | a :: as, b :: bs => (b = .none ∨ a = b) ∧ EnvLe as bs
  | _, _ => False
theorem EnvLe.length : ∀ {as bs : Env}, EnvLe as bs → as.length = bs.length
  | [], [], _ => rfl
  | _ :: _, _ :: _, h => congrArg Nat.succ (EnvLe.length h.2)
  | [], _ :: _, h => h.elim
  | _ :: _, [], h => h.elim
theorem EnvLe.get : ∀ {as bs : Env} (i : Nat), EnvLe as bs → bs.get i = .none ∨ as.get i = bs.get i
  | [], [], _, _ => .inl rfl
  | _ :: _, _ :: _, 0, h => h.1
  | _ :: as, _ :: bs, i + 1, h => EnvLe.get (as := as) (bs := bs) i h.2
  | [], _ :: _, _, h => h.elim
  | _ :: _, [], _, h => h.elim
theorem EnvOk.le {ds' : Env} (e : EnvOk K S0 H0 ds σ S H) (l : EnvLe ds ds') : EnvOk K S0 H0 ds' σ S H := by
  obtain ⟨fp, h1, h2⟩ := e.own
  have key : ∀ i, ∃ f, SlotOk K H0 S H (ds'.get i) σ[i]? f ∧ ∀ p ∈ f, p ∈ fp i := fun i => by
    rcases l.get i with q | q
    · rw [q]; exact ⟨[], rfl, fun p hp => by simp at hp⟩
    · rw [← q]; exact ⟨fp i, h1 i, fun _ hp => hp⟩
  refine ⟨l.length.symm.trans e.len, ⟨fun i => (key i).choose, fun i => (key i).choose_spec.1, fun i j p hi hj => h2 i j p ((key i).choose_spec.2 p hi) ((key j).choose_spec.2 p hj)⟩, e.grow⟩
theorem EnvLe.refl : ∀ (as : Env), EnvLe as as
  | [] => trivial
  | _ :: as => ⟨.inr rfl, EnvLe.refl as⟩
/-- the slots at a def's entry -/
theorem EnvV.length : ∀ {ds : Env} {vs : List V}, EnvV K H ds vs → ds.length = vs.length
  | [], [], _ => rfl
  | _ :: _, _ :: _, h => congrArg Nat.succ (EnvV.length h.2)
  | [], _ :: _, h => h.elim
  | _ :: _, [], h => h.elim
theorem EnvV.slot {n : Nat} : ∀ {ds : Env} {vs : List V} (i : Nat), EnvV K S ds vs → SlotOk K H0 S H ((ds ++ List.replicate n SD.none).get i) (vs.map some ++ List.replicate n none)[i]? []
  | [], [], i, _ => by
    have e : Env.get (List.replicate n SD.none) i = .none := by
      induction n generalizing i with
      | zero => rfl
      | succ n ih => cases i with
        | zero => rfl
        | succ i => exact ih i
    rw [List.nil_append, e]
    exact rfl
  | _ :: _, v :: _, 0, h => by
    obtain ⟨⟨α, c, a, e, r⟩, _⟩ := h
    subst e
    exact ⟨rfl, v, rfl, r⟩
  | _ :: ds, _ :: vs, i + 1, h => EnvV.slot (ds := ds) (vs := vs) i h.2
  | [], _ :: _, _, h => h.elim
  | _ :: _, [], _, h => h.elim
theorem EnvOk.start {N : List Str} {vs : List V} (h : EnvV K S ds vs) (hl : vs.length ≤ N.length) (i : Same S H) : EnvOk K S H (ds ++ List.replicate (N.length - vs.length) .none) (L2.start N vs) S H := by
  refine ⟨?_, ⟨fun _ => [], fun i => EnvV.slot i h, fun i j p hi => by simp at hi⟩, .refl i⟩
  unfold L2.start
  rw [List.length_append, List.length_append, List.length_map, List.length_replicate, List.length_replicate, h.length]
end
end Zk
set_option maxHeartbeats 4000000
/-! # Zk: expressions -/
namespace Zk
open PySem PySem.Spec PyProof.Rows L2
abbrev WK : Type := L2.St → XK
/-- what leaves does not ask for the slots -/
class KW (W : WK) : Prop where
  ex : ∃ E : XK, W = fun _ => E
instance {E : XK} : KW (fun _ => E) := ⟨E, rfl⟩
/-! ### what follows a value -/
def PX {α : Type} (c : Cd α) (K : PySem.W.Frag) (S H : Hp) (m : R α) (Q : VK) (W : XK) : Prop :=
  m.post (fun a => ∀ v S' H', Grow S H S' H' → c.rep K S' v a → Q v H') (fun x => ∀ cl d S' H', Grow S H S' H' → repX K S' cl d x → W cl d H')
def PB (K : PySem.W.Frag) (S H : Hp) (m : R Bool) (Q : Bool → Hp → Prop) (W : XK) : Prop :=
  m.post (fun b => ∀ S' H', Grow S H S' H' → Q b H') (fun x => ∀ cl d S' H', Grow S H S' H' → repX K S' cl d x → W cl d H')
def PAx {τ : Type} (c : CA τ) (K : PySem.W.Frag) (S H : Hp) (m : R τ) (Q : List V → Hp → Prop) (W : XK) : Prop :=
  m.post (fun a => ∀ vs S' H', Grow S H S' H' → c.rep K S' vs a → Q vs H') (fun x => ∀ cl d S' H', Grow S H S' H' → repX K S' cl d x → W cl d H')
section
variable {α β τ : Type} {c : Cd α} {c2 : Cd β} {ca : CA τ} {K : PySem.W.Frag} {S H S1 H1 : Hp} {W : XK}
theorem PX.grow {m : R α} {Q : VK} (g : Grow S H S1 H1) (h : PX c K S H m Q W) : PX c K S1 H1 m Q W :=
  R.post_mono h (fun _ q v S' H' g' r => q v S' H' (g.trans g') r) (fun _ q cl d S' H' g' r => q cl d S' H' (g.trans g') r)
theorem PX.bind {m : R α} {f : α → R β} {Q Q1 : VK} (h : PX c2 K S H (m >>= f) Q W) (k : ∀ a v S1 H1, Grow S H S1 H1 → c.rep K S1 v a → PX c2 K S1 H1 (f a) Q W → Q1 v H1) : PX c K S H m Q1 W :=
  R.post_mono (R.post_bind.mp h) (fun a q v S1 H1 g r => k a v S1 H1 g r (PX.grow g q)) (fun _ q => q)
theorem PX.bindB {m : R Bool} {f : Bool → R β} {Q : VK} {Q1 : Bool → Hp → Prop} (h : PX c2 K S H (m >>= f) Q W) (k : ∀ a S1 H1, Grow S H S1 H1 → PX c2 K S1 H1 (f a) Q W → Q1 a H1) : PB K S H m Q1 W :=
  R.post_mono (R.post_bind.mp h) (fun a q S1 H1 g => k a S1 H1 g (PX.grow g q)) (fun _ q => q)
theorem PX.bindA {m : R τ} {f : τ → R β} {Q : VK} {Q1 : List V → Hp → Prop} (h : PX c2 K S H (m >>= f) Q W) (k : ∀ a vs S1 H1, Grow S H S1 H1 → ca.rep K S1 vs a → PX c2 K S1 H1 (f a) Q W → Q1 vs H1) : PAx ca K S H m Q1 W :=
  R.post_mono (R.post_bind.mp h) (fun a q vs S1 H1 g r => k a vs S1 H1 g r (PX.grow g q)) (fun _ q => q)
theorem PB.grow {m : R Bool} {Q : Bool → Hp → Prop} (g : Grow S H S1 H1) (h : PB K S H m Q W) : PB K S1 H1 m Q W :=
  R.post_mono h (fun _ q S' H' g' => q S' H' (g.trans g')) (fun _ q cl d S' H' g' r => q cl d S' H' (g.trans g') r)
theorem PB.bind {m : R α} {f : α → R Bool} {Q : Bool → Hp → Prop} {Q1 : VK} (h : PB K S H (m >>= f) Q W) (k : ∀ a v S1 H1, Grow S H S1 H1 → c.rep K S1 v a → PB K S1 H1 (f a) Q W → Q1 v H1) : PX c K S H m Q1 W :=
  R.post_mono (R.post_bind.mp h) (fun a q v S1 H1 g r => k a v S1 H1 g r (PB.grow g q)) (fun _ q => q)
theorem PB.bindB {m : R Bool} {f : Bool → R Bool} {Q Q1 : Bool → Hp → Prop} (h : PB K S H (m >>= f) Q W) (k : ∀ a S1 H1, Grow S H S1 H1 → PB K S1 H1 (f a) Q W → Q1 a H1) : PB K S H m Q1 W :=
  R.post_mono (R.post_bind.mp h) (fun a q S1 H1 g => k a S1 H1 g (PB.grow g q)) (fun _ q => q)
theorem PAx.grow {m : R τ} {Q : List V → Hp → Prop} (g : Grow S H S1 H1) (h : PAx ca K S H m Q W) : PAx ca K S1 H1 m Q W :=
  R.post_mono h (fun _ q v S' H' g' r => q v S' H' (g.trans g') r) (fun _ q cl d S' H' g' r => q cl d S' H' (g.trans g') r)
theorem PAx.bind {m : R α} {f : α → R τ} {Q : List V → Hp → Prop} {Q1 : VK} (h : PAx ca K S H (m >>= f) Q W) (k : ∀ a v S1 H1, Grow S H S1 H1 → c.rep K S1 v a → PAx ca K S1 H1 (f a) Q W → Q1 v H1) : PX c K S H m Q1 W :=
  R.post_mono (R.post_bind.mp h) (fun a q v S1 H1 g r => k a v S1 H1 g r (PAx.grow g q)) (fun _ q => q)
theorem PAx.bindA {τ' : Type} {ca' : CA τ'} {m : R τ'} {f : τ' → R τ} {Q : List V → Hp → Prop} {Q1 : List V → Hp → Prop} (h : PAx ca K S H (m >>= f) Q W) (k : ∀ a vs S1 H1, Grow S H S1 H1 → ca'.rep K S1 vs a → PAx ca K S1 H1 (f a) Q W → Q1 vs H1) : PAx ca' K S H m Q1 W :=
  R.post_mono (R.post_bind.mp h) (fun a q vs S1 H1 g r => k a vs S1 H1 g r (PAx.grow g q)) (fun _ q => q)
theorem PX.ok {a : α} {Q : VK} {v : V} (h : PX c K S H (.ok a) Q W) (i : Same S H) (r : c.rep K S v a) : Q v H := h v S H (.refl i) r
theorem PB.ok {b : Bool} {Q : Bool → Hp → Prop} (h : PB K S H (.ok b) Q W) (i : Same S H) : Q b H := h S H (.refl i)
theorem PAx.ok {a : τ} {Q : List V → Hp → Prop} {vs : List V} (h : PAx ca K S H (.ok a) Q W) (i : Same S H) (r : ca.rep K S vs a) : Q vs H := h vs S H (.refl i) r
end
/-! ### the judgements -/
def DE (X : Cx) (W : WK) (ds : Env) (e : Expr) {α : Type} (c : Cd α) (m : R α) : Prop :=
  ∃ t : TE, PE X e t ∧ ∀ S0 H0 σ S H Q, EnvOk X.K S0 H0 ds σ S H → PX c X.K S H m Q (W σ) → t σ H Q
def DT (X : Cx) (W : WK) (ds : Env) (e : Expr) (m : R Bool) : Prop :=
  ∃ t : TT, PT X e t ∧ ∀ S0 H0 σ S H Q, EnvOk X.K S0 H0 ds σ S H → PB X.K S H m Q (W σ) → t σ H Q
/-- a test within and, or -/
def DW (X : Cx) (W : WK) (ds : Env) (e : Expr) (m : R Bool) : Prop :=
  ∃ t : TT, PW X e t ∧ ∀ S0 H0 σ S H Q, EnvOk X.K S0 H0 ds σ S H → PB X.K S H m Q (W σ) → t σ H Q
def DA (X : Cx) (W : WK) (ds : Env) (es : List Expr) {τ : Type} (c : CA τ) (m : R τ) : Prop :=
  ∃ t : TA, PA X es t ∧ ∀ S0 H0 σ S H Q, EnvOk X.K S0 H0 ds σ S H → PAx c X.K S H m Q (W σ) → t σ H Q
section
variable {X : Cx} {W : WK} {ds : Env} {α β γ τ : Type} {a b : Expr} {es : List Expr} {pos : Pos}
/-! ### names, constants -/
theorem var (i : Nat) {c : Cd α} {x : Str} {z : α} (h : ds.get i = .st α c z := by rfl) (hN : X.N[i]? = some x := by rfl) (hv : Vis X.env.scope x := by first | exact Or.inl rfl | exact Or.inr (Or.inl rfl) | exact Or.inr (Or.inr rfl))
    (hd : (x == ("__debug__" : Str)) = false := by decide) (hcd : (x == ("__classdict__" : Str)) = false := by decide) : DE X W ds (.Name x pos) c (.ok z) :=
  ⟨tVar i, pe_var hN hv hd hcd, fun S0 H0 σ S H Q E P => by
    obtain ⟨v, h1, h2⟩ := E.var h
    exact ⟨v, h1, P.ok E.inn h2⟩⟩
theorem int {i : Int} {j : Nat} : DE X W ds (.Constant (.int i) j pos) cI (.ok i) := ⟨_, pe_int, fun _ _ _ _ _ _ E P => P.ok E.inn rfl⟩
theorem bool {i : Bool} {j : Nat} : DE X W ds (.Constant (.bool i) j pos) cB (.ok i) := ⟨_, pe_bl, fun _ _ _ _ _ _ E P => P.ok E.inn rfl⟩
theorem non {j : Nat} : DE X W ds (.Constant .none j pos) cN (.ok ()) := ⟨_, pe_non, fun _ _ _ _ _ _ E P => P.ok E.inn rfl⟩
theorem str {x : Str} {j : Nat} : DE X W ds (.Constant (.str x) j pos) cS (.ok x) := ⟨_, pe_str, fun _ _ _ _ _ _ E P => P.ok E.inn rfl⟩
/-- another reading of the same value -/
def Coe (c : Cd α) (c2 : Cd β) (f : α → β) : Prop := ∀ K H v a, c.rep K H v a → c2.rep K H v (f a)
theorem coe {c : Cd α} {c2 : Cd β} {f : α → β} {m : R α} (h : Coe c c2 f) (ha : DE X W ds a c m) : DE X W ds a c2 (m >>= fun x => .ok (f x)) := by
  obtain ⟨t, p, q⟩ := ha
  refine ⟨t, p, fun S0 H0 σ S H Q E P => q S0 H0 σ S H Q E (P.bind fun x v S1 H1 g r P1 => P1.ok g.inn (h _ _ _ _ r))⟩
/-! ### two operands -/
def BinSem (K : PySem.W.Frag) (W : XK) (r : R2) (c1 : Cd α) (c2 : Cd β) (c3 : Cd γ) (g : α → β → R γ) : Prop :=
  ∀ x y v u S H Q, Same S H → c1.rep K S v x → c2.rep K S u y → PX c3 K S H (g x y) Q W → r v u H Q
variable {c1 : Cd α} {c2 : Cd β} {c3 : Cd γ} {g : α → β → R γ} {m1 : R α} {m2 : R β} {r : R2} {x : α} {y : β}
theorem tOp_sem {ta tb : TE} (hs : ∀ {W : XK}, BinSem X.K W r c1 c2 c3 g) (qa : ∀ S0 H0 σ S H Q, EnvOk X.K S0 H0 ds σ S H → PX c1 X.K S H m1 Q (W σ) → ta σ H Q) (qb : ∀ S0 H0 σ S H Q, EnvOk X.K S0 H0 ds σ S H → PX c2 X.K S H m2 Q (W σ) → tb σ H Q) :
    ∀ S0 H0 σ S H Q, EnvOk X.K S0 H0 ds σ S H → PX c3 X.K S H (m1 >>= fun x => m2 >>= fun y => g x y) Q (W σ) → tOp r ta tb σ H Q := fun S0 H0 σ S H Q E P =>
  qa S0 H0 σ S H _ E (P.bind fun x v S1 H1 g1 r1 P1 => qb S0 H0 σ S1 H1 _ (E.step g1) (P1.bind fun y u S2 H2 g2 r2 P2 => hs x y v u S2 H2 Q g2.inn (c1.mono g2.st r1) r2 P2))
theorem bin {op : Operator} (ho : OpR X (binaryOp op) r) (hs : ∀ {W : XK}, BinSem X.K W r c1 c2 c3 g) (ha : DE X W ds a c1 m1) (hb : DE X W ds b c2 m2) : DE X W ds (.BinOp a op b pos) c3 (m1 >>= fun x => m2 >>= fun y => g x y) := by
  obtain ⟨ta, pa, qa⟩ := ha
  obtain ⟨tb, pb, qb⟩ := hb
  exact ⟨tOp r ta tb, pe_op ho pa pb, tOp_sem hs qa qb⟩
theorem cmpV {op : CmpOp} (ho : OpR X (compareOp op) r) (hm : behindInMarks op b = false) (hs : ∀ {W : XK}, BinSem X.K W r c1 c2 c3 g) (ha : DE X W ds a c1 m1) (hb : DE X W ds b c2 m2) : DE X W ds (.Compare a [op] [b] pos) c3 (m1 >>= fun x => m2 >>= fun y => g x y) := by
  obtain ⟨ta, pa, qa⟩ := ha
  obtain ⟨tb, pb, qb⟩ := hb
  exact ⟨tOp r ta tb, pe_cmpR ho pa pb hm, tOp_sem hs qa qb⟩
theorem pb_of {W : XK} {m : R Bool} {K : PySem.W.Frag} {S H : Hp} {Q : Bool → Hp → Prop} (P : PB K S H m Q W) : PX cB K S H m (fun v H' => ∃ k, v = .bl k ∧ Q k H') W :=
  R.post_mono P (fun b q v S' H' gr e => ⟨b, e, q S' H' gr⟩) (fun _ q => q)
theorem cmpT {op : CmpOp} {g : α → β → R Bool} (ho : OpR X (compareOp op) r) (hm : behindInMarks op b = false) (hs : ∀ {W : XK}, BinSem X.K W r c1 c2 cB g) (ha : DE X W ds a c1 m1) (hb : DE X W ds b c2 m2) : DT X W ds (.Compare a [op] [b] pos) (m1 >>= fun x => m2 >>= fun y => g x y) := by
  obtain ⟨ta, pa, qa⟩ := ha
  obtain ⟨tb, pb, qb⟩ := hb
  exact ⟨_, pt_cmpR ho pa pb hm, fun S0 H0 σ S H Q E P => tOp_sem hs qa qb S0 H0 σ S H _ E (pb_of P)⟩
theorem ix {r : R2} (ho : IxR X r) (hp : PlainIx b) (hs : ∀ {W : XK}, BinSem X.K W r c1 c2 c3 g) (ha : DE X W ds a c1 m1) (hb : DE X W ds b c2 m2) : DE X W ds (.Subscript a b pos) c3 (m1 >>= fun x => m2 >>= fun y => g x y) := by
  obtain ⟨ta, pa, qa⟩ := ha
  obtain ⟨tb, pb, qb⟩ := hb
  exact ⟨tOp r ta tb, pe_ix ho pa pb hp, tOp_sem hs qa qb⟩
/-! ### numbers -/
def mulOk (x y : Int) : Bool := decide (x.natAbs.log2 + y.natAbs.log2 < 100000000)
def mulM (x y : Int) : R Int := R.guard (mulOk x y = true) (x * y)
def fdivM (x y : Int) : R Int := R.guard (y ≠ 0 ∧ Builtin.divisionGoesByPylong x y = false) (x.fdiv y)
def modM (x y : Int) : R Int := R.guard (y ≠ 0) (x.fmod y)
def powM (x y : Int) : R Int := R.guard (0 ≤ y ∧ y ≤ 1000000 ∧ x.natAbs < 2 ^ 64) (x ^ y.toNat)
theorem mulOk.ok {i j : Int} (h : mulOk i j = true) : IntMulOk i j := by
  have b : ∀ x : Int, Builtin.Int.intBits x ≤ x.natAbs.log2 + 1 := fun x => by
    unfold Builtin.Int.intBits
    split <;> omega
  have h1 := b i
  have h2 := b j
  have h3 : i.natAbs.log2 + j.natAbs.log2 < 100000000 := of_decide_eq_true h
  have e : bitsLine = 134217728 := by decide
  unfold IntMulOk
  intro z
  rw [Bool.and_eq_true] at z
  have z2 := z.2
  unfold Builtin.Int.intTooBig at z2
  have z3 := of_decide_eq_true z2
  rw [e] at z3
  omega
theorem op_mulZ : OpR X (binaryOp .Mult) (rI (fun i j => mulOk i j = true) fun i j => .int (i * j)) := opI fun _ _ _ _ _ _ _ hc q => mul_int q (mulOk.ok hc)
theorem op_fdivZ : OpR X (binaryOp .FloorDiv) (rI (fun i j => j ≠ 0 ∧ Builtin.divisionGoesByPylong i j = false) fun i j => .int (i.fdiv j)) := opI fun _ _ _ _ _ _ _ hc q => floordiv_int hc.1 q (.inl hc.2)
theorem sem_I0 {W : XK} {K : PySem.W.Frag} {f : Int → Int → Int} : BinSem K W (rI0 fun i j => .int (f i j)) cI cI cI (fun x y => .ok (f x y)) := fun x y v u S H Q i r1 r2 P => ⟨x, y, r1, r2, P.ok i rfl⟩
theorem sem_B0 {W : XK} {K : PySem.W.Frag} {f : Int → Int → Bool} : BinSem K W (rI0 fun i j => .bl (f i j)) cI cI cB (fun x y => .ok (f x y)) := fun x y v u S H Q i r1 r2 P => ⟨x, y, r1, r2, P.ok i rfl⟩
theorem PX.guard {W : XK} {p : Prop} [Decidable p] {z : γ} {K : PySem.W.Frag} {S H : Hp} {Q : VK} (P : PX c3 K S H (R.guard p z) Q W) : p ∧ PX c3 K S H (.ok z) Q W := by
  unfold R.guard at P
  split at P
  · exact ⟨by assumption, P⟩
  · exact False.elim P
theorem sem_I {W : XK} {K : PySem.W.Frag} {C : Int → Int → Prop} [h : ∀ i j, Decidable (C i j)] {f : Int → Int → Int} : BinSem K W (rI C fun i j => .int (f i j)) cI cI cI (fun x y => R.guard (C x y) (f x y)) := fun x y v u S H Q i r1 r2 P => by
  obtain ⟨h1, h2⟩ := P.guard
  exact ⟨x, y, r1, r2, h1, h2.ok i rfl⟩

theorem add_pp  {x : Int} {y : Int} (ha : DE X W ds a cI (.ok x)) (hb : DE X W ds b cI (.ok y)) : DE X W ds (.BinOp a .Add b pos) cI (.ok (x + y)) := bin op_add sem_I0 ha hb
theorem add_mp  {m1 : R Int} {y : Int} (ha : DE X W ds a cI m1) (hb : DE X W ds b cI (.ok y)) : DE X W ds (.BinOp a .Add b pos) cI (m1 >>= fun x => .ok (x + y)) := bin op_add sem_I0 ha hb
theorem add_pm  {x : Int} {m2 : R Int} (ha : DE X W ds a cI (.ok x)) (hb : DE X W ds b cI m2) : DE X W ds (.BinOp a .Add b pos) cI (m2 >>= fun y => .ok (x + y)) := bin op_add sem_I0 ha hb
theorem add_mm  {m1 : R Int} {m2 : R Int} (ha : DE X W ds a cI m1) (hb : DE X W ds b cI m2) : DE X W ds (.BinOp a .Add b pos) cI (m1 >>= fun x => m2 >>= fun y => .ok (x + y)) := bin op_add sem_I0 ha hb
theorem sub_pp  {x : Int} {y : Int} (ha : DE X W ds a cI (.ok x)) (hb : DE X W ds b cI (.ok y)) : DE X W ds (.BinOp a .Sub b pos) cI (.ok (x - y)) := bin op_sub sem_I0 ha hb
theorem sub_mp  {m1 : R Int} {y : Int} (ha : DE X W ds a cI m1) (hb : DE X W ds b cI (.ok y)) : DE X W ds (.BinOp a .Sub b pos) cI (m1 >>= fun x => .ok (x - y)) := bin op_sub sem_I0 ha hb
theorem sub_pm  {x : Int} {m2 : R Int} (ha : DE X W ds a cI (.ok x)) (hb : DE X W ds b cI m2) : DE X W ds (.BinOp a .Sub b pos) cI (m2 >>= fun y => .ok (x - y)) := bin op_sub sem_I0 ha hb
theorem sub_mm  {m1 : R Int} {m2 : R Int} (ha : DE X W ds a cI m1) (hb : DE X W ds b cI m2) : DE X W ds (.BinOp a .Sub b pos) cI (m1 >>= fun x => m2 >>= fun y => .ok (x - y)) := bin op_sub sem_I0 ha hb
theorem mul_pp  {x : Int} {y : Int} (ha : DE X W ds a cI (.ok x)) (hb : DE X W ds b cI (.ok y)) : DE X W ds (.BinOp a .Mult b pos) cI (mulM x y) := bin op_mulZ sem_I ha hb
theorem mul_mp  {m1 : R Int} {y : Int} (ha : DE X W ds a cI m1) (hb : DE X W ds b cI (.ok y)) : DE X W ds (.BinOp a .Mult b pos) cI (m1 >>= fun x => mulM x y) := bin op_mulZ sem_I ha hb
theorem mul_pm  {x : Int} {m2 : R Int} (ha : DE X W ds a cI (.ok x)) (hb : DE X W ds b cI m2) : DE X W ds (.BinOp a .Mult b pos) cI (m2 >>= fun y => mulM x y) := bin op_mulZ sem_I ha hb
theorem mul_mm  {m1 : R Int} {m2 : R Int} (ha : DE X W ds a cI m1) (hb : DE X W ds b cI m2) : DE X W ds (.BinOp a .Mult b pos) cI (m1 >>= fun x => m2 >>= fun y => mulM x y) := bin op_mulZ sem_I ha hb
theorem fdiv_pp  {x : Int} {y : Int} (ha : DE X W ds a cI (.ok x)) (hb : DE X W ds b cI (.ok y)) : DE X W ds (.BinOp a .FloorDiv b pos) cI (fdivM x y) := bin op_fdivZ sem_I ha hb
theorem fdiv_mp  {m1 : R Int} {y : Int} (ha : DE X W ds a cI m1) (hb : DE X W ds b cI (.ok y)) : DE X W ds (.BinOp a .FloorDiv b pos) cI (m1 >>= fun x => fdivM x y) := bin op_fdivZ sem_I ha hb
theorem fdiv_pm  {x : Int} {m2 : R Int} (ha : DE X W ds a cI (.ok x)) (hb : DE X W ds b cI m2) : DE X W ds (.BinOp a .FloorDiv b pos) cI (m2 >>= fun y => fdivM x y) := bin op_fdivZ sem_I ha hb
theorem fdiv_mm  {m1 : R Int} {m2 : R Int} (ha : DE X W ds a cI m1) (hb : DE X W ds b cI m2) : DE X W ds (.BinOp a .FloorDiv b pos) cI (m1 >>= fun x => m2 >>= fun y => fdivM x y) := bin op_fdivZ sem_I ha hb
theorem mod_pp  {x : Int} {y : Int} (ha : DE X W ds a cI (.ok x)) (hb : DE X W ds b cI (.ok y)) : DE X W ds (.BinOp a .Mod b pos) cI (modM x y) := bin op_modN sem_I ha hb
theorem mod_mp  {m1 : R Int} {y : Int} (ha : DE X W ds a cI m1) (hb : DE X W ds b cI (.ok y)) : DE X W ds (.BinOp a .Mod b pos) cI (m1 >>= fun x => modM x y) := bin op_modN sem_I ha hb
theorem mod_pm  {x : Int} {m2 : R Int} (ha : DE X W ds a cI (.ok x)) (hb : DE X W ds b cI m2) : DE X W ds (.BinOp a .Mod b pos) cI (m2 >>= fun y => modM x y) := bin op_modN sem_I ha hb
theorem mod_mm  {m1 : R Int} {m2 : R Int} (ha : DE X W ds a cI m1) (hb : DE X W ds b cI m2) : DE X W ds (.BinOp a .Mod b pos) cI (m1 >>= fun x => m2 >>= fun y => modM x y) := bin op_modN sem_I ha hb
instance {i j : Int} : Decidable (CPow i j) := by unfold CPow; infer_instance
theorem pow_pp  {x : Int} {y : Int} (ha : DE X W ds a cI (.ok x)) (hb : DE X W ds b cI (.ok y)) : DE X W ds (.BinOp a .Pow b pos) cI (powM x y) := bin op_pow sem_I ha hb
theorem pow_mp  {m1 : R Int} {y : Int} (ha : DE X W ds a cI m1) (hb : DE X W ds b cI (.ok y)) : DE X W ds (.BinOp a .Pow b pos) cI (m1 >>= fun x => powM x y) := bin op_pow sem_I ha hb
theorem pow_pm  {x : Int} {m2 : R Int} (ha : DE X W ds a cI (.ok x)) (hb : DE X W ds b cI m2) : DE X W ds (.BinOp a .Pow b pos) cI (m2 >>= fun y => powM x y) := bin op_pow sem_I ha hb
theorem pow_mm  {m1 : R Int} {m2 : R Int} (ha : DE X W ds a cI m1) (hb : DE X W ds b cI m2) : DE X W ds (.BinOp a .Pow b pos) cI (m1 >>= fun x => m2 >>= fun y => powM x y) := bin op_pow sem_I ha hb
theorem lt_pp  {x : Int} {y : Int} (ha : DE X W ds a cI (.ok x)) (hb : DE X W ds b cI (.ok y)) : DE X W ds (.Compare a [.Lt] [b] pos) cB (.ok (decide (x < y))) := cmpV op_lt (nomark _) sem_B0 ha hb
theorem lt_mp  {m1 : R Int} {y : Int} (ha : DE X W ds a cI m1) (hb : DE X W ds b cI (.ok y)) : DE X W ds (.Compare a [.Lt] [b] pos) cB (m1 >>= fun x => .ok (decide (x < y))) := cmpV op_lt (nomark _) sem_B0 ha hb
theorem lt_pm  {x : Int} {m2 : R Int} (ha : DE X W ds a cI (.ok x)) (hb : DE X W ds b cI m2) : DE X W ds (.Compare a [.Lt] [b] pos) cB (m2 >>= fun y => .ok (decide (x < y))) := cmpV op_lt (nomark _) sem_B0 ha hb
theorem lt_mm  {m1 : R Int} {m2 : R Int} (ha : DE X W ds a cI m1) (hb : DE X W ds b cI m2) : DE X W ds (.Compare a [.Lt] [b] pos) cB (m1 >>= fun x => m2 >>= fun y => .ok (decide (x < y))) := cmpV op_lt (nomark _) sem_B0 ha hb
theorem ltT_pp  {x : Int} {y : Int} (ha : DE X W ds a cI (.ok x)) (hb : DE X W ds b cI (.ok y)) : DT X W ds (.Compare a [.Lt] [b] pos) (.ok (decide (x < y))) := cmpT op_lt (nomark _) sem_B0 ha hb
theorem ltT_mp  {m1 : R Int} {y : Int} (ha : DE X W ds a cI m1) (hb : DE X W ds b cI (.ok y)) : DT X W ds (.Compare a [.Lt] [b] pos) (m1 >>= fun x => .ok (decide (x < y))) := cmpT op_lt (nomark _) sem_B0 ha hb
theorem ltT_pm  {x : Int} {m2 : R Int} (ha : DE X W ds a cI (.ok x)) (hb : DE X W ds b cI m2) : DT X W ds (.Compare a [.Lt] [b] pos) (m2 >>= fun y => .ok (decide (x < y))) := cmpT op_lt (nomark _) sem_B0 ha hb
theorem ltT_mm  {m1 : R Int} {m2 : R Int} (ha : DE X W ds a cI m1) (hb : DE X W ds b cI m2) : DT X W ds (.Compare a [.Lt] [b] pos) (m1 >>= fun x => m2 >>= fun y => .ok (decide (x < y))) := cmpT op_lt (nomark _) sem_B0 ha hb
theorem le_pp  {x : Int} {y : Int} (ha : DE X W ds a cI (.ok x)) (hb : DE X W ds b cI (.ok y)) : DE X W ds (.Compare a [.LtE] [b] pos) cB (.ok (decide (x ≤ y))) := cmpV op_le (nomark _) sem_B0 ha hb
theorem le_mp  {m1 : R Int} {y : Int} (ha : DE X W ds a cI m1) (hb : DE X W ds b cI (.ok y)) : DE X W ds (.Compare a [.LtE] [b] pos) cB (m1 >>= fun x => .ok (decide (x ≤ y))) := cmpV op_le (nomark _) sem_B0 ha hb
theorem le_pm  {x : Int} {m2 : R Int} (ha : DE X W ds a cI (.ok x)) (hb : DE X W ds b cI m2) : DE X W ds (.Compare a [.LtE] [b] pos) cB (m2 >>= fun y => .ok (decide (x ≤ y))) := cmpV op_le (nomark _) sem_B0 ha hb
theorem le_mm  {m1 : R Int} {m2 : R Int} (ha : DE X W ds a cI m1) (hb : DE X W ds b cI m2) : DE X W ds (.Compare a [.LtE] [b] pos) cB (m1 >>= fun x => m2 >>= fun y => .ok (decide (x ≤ y))) := cmpV op_le (nomark _) sem_B0 ha hb
theorem leT_pp  {x : Int} {y : Int} (ha : DE X W ds a cI (.ok x)) (hb : DE X W ds b cI (.ok y)) : DT X W ds (.Compare a [.LtE] [b] pos) (.ok (decide (x ≤ y))) := cmpT op_le (nomark _) sem_B0 ha hb
theorem leT_mp  {m1 : R Int} {y : Int} (ha : DE X W ds a cI m1) (hb : DE X W ds b cI (.ok y)) : DT X W ds (.Compare a [.LtE] [b] pos) (m1 >>= fun x => .ok (decide (x ≤ y))) := cmpT op_le (nomark _) sem_B0 ha hb
theorem leT_pm  {x : Int} {m2 : R Int} (ha : DE X W ds a cI (.ok x)) (hb : DE X W ds b cI m2) : DT X W ds (.Compare a [.LtE] [b] pos) (m2 >>= fun y => .ok (decide (x ≤ y))) := cmpT op_le (nomark _) sem_B0 ha hb
theorem leT_mm  {m1 : R Int} {m2 : R Int} (ha : DE X W ds a cI m1) (hb : DE X W ds b cI m2) : DT X W ds (.Compare a [.LtE] [b] pos) (m1 >>= fun x => m2 >>= fun y => .ok (decide (x ≤ y))) := cmpT op_le (nomark _) sem_B0 ha hb
theorem gt_pp  {x : Int} {y : Int} (ha : DE X W ds a cI (.ok x)) (hb : DE X W ds b cI (.ok y)) : DE X W ds (.Compare a [.Gt] [b] pos) cB (.ok (decide (y < x))) := cmpV op_gt (nomark _) sem_B0 ha hb
theorem gt_mp  {m1 : R Int} {y : Int} (ha : DE X W ds a cI m1) (hb : DE X W ds b cI (.ok y)) : DE X W ds (.Compare a [.Gt] [b] pos) cB (m1 >>= fun x => .ok (decide (y < x))) := cmpV op_gt (nomark _) sem_B0 ha hb
theorem gt_pm  {x : Int} {m2 : R Int} (ha : DE X W ds a cI (.ok x)) (hb : DE X W ds b cI m2) : DE X W ds (.Compare a [.Gt] [b] pos) cB (m2 >>= fun y => .ok (decide (y < x))) := cmpV op_gt (nomark _) sem_B0 ha hb
theorem gt_mm  {m1 : R Int} {m2 : R Int} (ha : DE X W ds a cI m1) (hb : DE X W ds b cI m2) : DE X W ds (.Compare a [.Gt] [b] pos) cB (m1 >>= fun x => m2 >>= fun y => .ok (decide (y < x))) := cmpV op_gt (nomark _) sem_B0 ha hb
theorem gtT_pp  {x : Int} {y : Int} (ha : DE X W ds a cI (.ok x)) (hb : DE X W ds b cI (.ok y)) : DT X W ds (.Compare a [.Gt] [b] pos) (.ok (decide (y < x))) := cmpT op_gt (nomark _) sem_B0 ha hb
theorem gtT_mp  {m1 : R Int} {y : Int} (ha : DE X W ds a cI m1) (hb : DE X W ds b cI (.ok y)) : DT X W ds (.Compare a [.Gt] [b] pos) (m1 >>= fun x => .ok (decide (y < x))) := cmpT op_gt (nomark _) sem_B0 ha hb
theorem gtT_pm  {x : Int} {m2 : R Int} (ha : DE X W ds a cI (.ok x)) (hb : DE X W ds b cI m2) : DT X W ds (.Compare a [.Gt] [b] pos) (m2 >>= fun y => .ok (decide (y < x))) := cmpT op_gt (nomark _) sem_B0 ha hb
theorem gtT_mm  {m1 : R Int} {m2 : R Int} (ha : DE X W ds a cI m1) (hb : DE X W ds b cI m2) : DT X W ds (.Compare a [.Gt] [b] pos) (m1 >>= fun x => m2 >>= fun y => .ok (decide (y < x))) := cmpT op_gt (nomark _) sem_B0 ha hb
theorem ge_pp  {x : Int} {y : Int} (ha : DE X W ds a cI (.ok x)) (hb : DE X W ds b cI (.ok y)) : DE X W ds (.Compare a [.GtE] [b] pos) cB (.ok (decide (y ≤ x))) := cmpV op_ge (nomark _) sem_B0 ha hb
theorem ge_mp  {m1 : R Int} {y : Int} (ha : DE X W ds a cI m1) (hb : DE X W ds b cI (.ok y)) : DE X W ds (.Compare a [.GtE] [b] pos) cB (m1 >>= fun x => .ok (decide (y ≤ x))) := cmpV op_ge (nomark _) sem_B0 ha hb
theorem ge_pm  {x : Int} {m2 : R Int} (ha : DE X W ds a cI (.ok x)) (hb : DE X W ds b cI m2) : DE X W ds (.Compare a [.GtE] [b] pos) cB (m2 >>= fun y => .ok (decide (y ≤ x))) := cmpV op_ge (nomark _) sem_B0 ha hb
theorem ge_mm  {m1 : R Int} {m2 : R Int} (ha : DE X W ds a cI m1) (hb : DE X W ds b cI m2) : DE X W ds (.Compare a [.GtE] [b] pos) cB (m1 >>= fun x => m2 >>= fun y => .ok (decide (y ≤ x))) := cmpV op_ge (nomark _) sem_B0 ha hb
theorem geT_pp  {x : Int} {y : Int} (ha : DE X W ds a cI (.ok x)) (hb : DE X W ds b cI (.ok y)) : DT X W ds (.Compare a [.GtE] [b] pos) (.ok (decide (y ≤ x))) := cmpT op_ge (nomark _) sem_B0 ha hb
theorem geT_mp  {m1 : R Int} {y : Int} (ha : DE X W ds a cI m1) (hb : DE X W ds b cI (.ok y)) : DT X W ds (.Compare a [.GtE] [b] pos) (m1 >>= fun x => .ok (decide (y ≤ x))) := cmpT op_ge (nomark _) sem_B0 ha hb
theorem geT_pm  {x : Int} {m2 : R Int} (ha : DE X W ds a cI (.ok x)) (hb : DE X W ds b cI m2) : DT X W ds (.Compare a [.GtE] [b] pos) (m2 >>= fun y => .ok (decide (y ≤ x))) := cmpT op_ge (nomark _) sem_B0 ha hb
theorem geT_mm  {m1 : R Int} {m2 : R Int} (ha : DE X W ds a cI m1) (hb : DE X W ds b cI m2) : DT X W ds (.Compare a [.GtE] [b] pos) (m1 >>= fun x => m2 >>= fun y => .ok (decide (y ≤ x))) := cmpT op_ge (nomark _) sem_B0 ha hb
end
end Zk
set_option maxHeartbeats 4000000
/-! # Zk: data, tests, displays, calls of built-ins -/
namespace Zk
open PySem PySem.Spec PyProof.Rows L2

/-! ### mirrors as data -/
class Dt {α : Type} (c : Cd α) where
  toD : α → PyData
  depth : Nat
  lay : ∀ a, (toD a).canLay0 = true
  le : ∀ a, (toD a).depth ≤ depth
  eqv : ∀ a b, PyData.eqv (toD a) (toD b) = true ↔ a = b
  rep : ∀ {K : PySem.W.Frag} {H : Hp} {v : V} {a : α}, c.rep K H v a → Dp K H v (toD a)
class DtA {τ : Type} (c : CA τ) where
  toDs : τ → List PyData
  depth : Nat
  lay : ∀ a, PyData.canLayAll0 (toDs a) = true
  le : ∀ a, PyData.depthAll (toDs a) ≤ depth
  eqv : ∀ a b, PyData.eqvAll (toDs a) (toDs b) = true ↔ a = b
  rep : ∀ {K : PySem.W.Frag} {H : Hp} {vs : List V} {a : τ}, c.rep K H vs a → DpAll K H vs (toDs a)
namespace Dt
variable {α τ : Type}
@[reducible] instance : Dt cI where
  toD := .int
  depth := 0
  lay _ := by simp only [PyData.canLay0]
  le _ := by simp only [PyData.depth]; exact Nat.le_refl _
  eqv a b := by simp only [PyData.eqv]; exact beq_iff_eq
  rep h := by
    have e : _ = V.int _ := h
    rw [e]
    exact .int _
@[reducible] instance : Dt cB where
  toD := .bool
  depth := 0
  lay _ := by simp only [PyData.canLay0]
  le _ := by simp only [PyData.depth]; exact Nat.le_refl _
  eqv a b := by simp only [PyData.eqv]; exact beq_iff_eq
  rep h := by
    have e : _ = V.bl _ := h
    rw [e]
    exact .bl _
@[reducible] instance : Dt cN where
  toD _ := .none
  depth := 0
  lay _ := by simp only [PyData.canLay0]
  le _ := by simp only [PyData.depth]; exact Nat.le_refl _
  eqv a b := by simp only [PyData.eqv]
  rep h := by
    have e : _ = V.non := h
    rw [e]
    exact .non
theorem lays {c : Cd α} [Dt c] : ∀ as : List α, PyData.canLayAll0 (as.map (toD c)) = true
  | [] => by simp only [List.map_nil, PyData.canLayAll0]
  | a :: as => by rw [List.map_cons, PyData.canLayAll0, lay a, lays as]; rfl
theorem les {c : Cd α} [Dt c] : ∀ as : List α, PyData.depthAll (as.map (toD c)) ≤ depth c
  | [] => by simp only [List.map_nil, PyData.depthAll]; exact Nat.zero_le _
  | a :: as => by rw [List.map_cons, PyData.depthAll]; exact Nat.max_le.mpr ⟨le a, les as⟩
theorem eqvs {c : Cd α} [Dt c] : ∀ as bs : List α, PyData.eqvAll (as.map (toD c)) (bs.map (toD c)) = true ↔ as = bs
  | [], [] => by simp [PyData.eqvAll]
  | [], _ :: _ => by simp [PyData.eqvAll]
  | _ :: _, [] => by simp [PyData.eqvAll]
  | a :: as, b :: bs => by rw [List.map_cons, List.map_cons, PyData.eqvAll, Bool.and_eq_true, eqv a b, eqvs as bs, List.cons.injEq]
theorem reps {c : Cd α} [Dt c] {K : PySem.W.Frag} {H : Hp} : ∀ {vs : List V} {as : List α}, Reps c K H vs as → DpAll K H vs (as.map (toD c))
  | [], [], _ => .nil
  | _ :: _, _ :: _, h => .cons (rep h.1) (reps h.2)
  | [], _ :: _, h => h.elim
  | _ :: _, [], h => h.elim
@[reducible] instance {c : Cd α} [Dt c] : Dt (cL c) where
  toD as := .list (as.map (toD c))
  depth := depth c + 1
  lay as := by simp only [PyData.canLay0]; exact lays as
  le as := by simp only [PyData.depth]; exact Nat.succ_le_succ (les as)
  eqv as bs := by simp only [PyData.eqv]; exact eqvs as bs
  rep h := by
    obtain ⟨p, vs, e, h1, h2⟩ := h
    rw [e]
    exact .lst h1 (reps h2)
@[reducible] instance {c : Cd α} [Dt c] : Dt (cT c) where
  toD as := .tuple (as.map (toD c))
  depth := depth c + 1
  lay as := by simp only [PyData.canLay0]; exact lays as
  le as := by simp only [PyData.depth]; exact Nat.succ_le_succ (les as)
  eqv as bs := by simp only [PyData.eqv]; exact eqvs as bs
  rep h := by
    obtain ⟨p, vs, e, h1, h2⟩ := h
    rw [e]
    exact .tup h1 (reps h2)
@[reducible] instance : DtA aNil where
  toDs _ := []
  depth := 0
  lay _ := by simp only [PyData.canLayAll0]
  le _ := by simp only [PyData.depthAll]; exact Nat.le_refl _
  eqv a b := by simp only [PyData.eqvAll]
  rep h := by
    have e : _ = ([] : List V) := h
    rw [e]
    exact .nil
@[reducible] instance {c : Cd α} [Dt c] : DtA (aOne c) where
  toDs a := [toD c a]
  depth := depth c
  lay a := by simp only [PyData.canLayAll0, lay a]; rfl
  le a := by simp only [PyData.depthAll]; exact Nat.max_le.mpr ⟨le a, Nat.zero_le _⟩
  eqv a b := by rw [PyData.eqvAll, Bool.and_eq_true, eqv a b]; simp [PyData.eqvAll]
  rep h := by
    obtain ⟨v, e, h1⟩ := h
    rw [e]
    exact .cons (rep h1) .nil
@[reducible] instance {c : Cd α} {r : CA τ} [Dt c] [DtA r] : DtA (aCons c r) where
  toDs a := toD c a.1 :: DtA.toDs r a.2
  depth := max (depth c) (DtA.depth r)
  lay a := by rw [PyData.canLayAll0, lay a.1, DtA.lay a.2]; rfl
  le a := by rw [PyData.depthAll]; exact Nat.max_le.mpr ⟨Nat.le_trans (le a.1) (Nat.le_max_left _ _), Nat.le_trans (DtA.le a.2) (Nat.le_max_right _ _)⟩
  eqv a b := by rw [PyData.eqvAll, Bool.and_eq_true, eqv a.1 b.1, DtA.eqv a.2 b.2]; exact ⟨fun h => Prod.ext h.1 h.2, fun h => by rw [h]; exact ⟨rfl, rfl⟩⟩
  rep h := by
    obtain ⟨v, ws, e, h1, h2⟩ := h
    rw [e]
    exact .cons (rep h1) (DtA.rep h2)
@[reducible] instance {r : CA τ} [DtA r] : Dt (cP r) where
  toD a := .tuple (DtA.toDs r a)
  depth := DtA.depth r + 1
  lay a := by simp only [PyData.canLay0]; exact DtA.lay a
  le a := by simp only [PyData.depth]; exact Nat.succ_le_succ (DtA.le a)
  eqv a b := by simp only [PyData.eqv]; exact DtA.eqv a b
  rep h := by
    obtain ⟨p, vs, e, h1, h2⟩ := h
    rw [e]
    exact .tup h1 (DtA.rep h2)
theorem shaped {c : Cd α} [Dt c] (h : depth c ≤ 64) (a : α) : SeqAt.shaped (toD c a) = true := by
  show ((toD c a).canLay0 && decide ((toD c a).depth ≤ 64)) = true
  rw [lay a, decide_eq_true (Nat.le_trans (le a) h)] <;> rfl
end Dt
section
variable {X : Cx} {W : WK} {ds : Env} {α β γ τ : Type} {a b : Expr} {e : Expr} {es : List Expr} {pos p : Pos} {c1 : Cd α} {c2 : Cd β} {c3 : Cd γ} {m1 : R α} {m2 : R β} {x : α} {y : β}
theorem decide_eqv {c : Cd α} [Dt c] [DecidableEq α] (a b : α) : PyData.eqv (Dt.toD c a) (Dt.toD c b) = decide (a = b) := by
  rw [Bool.eq_iff_iff, Dt.eqv, decide_eq_true_iff]
theorem sem_eqD {W : XK} {K : PySem.W.Frag} {c : Cd α} [Dt c] [DecidableEq α] (h : Dt.depth c ≤ 64) : BinSem K W (rEqD K) c c cB (fun x y => .ok (decide (x = y))) := fun x y v u S H Q i r1 r2 P =>
  ⟨_, _, Dt.rep (c.mono i r1), Dt.rep (c.mono i r2), Dt.shaped h _, Dt.shaped h _, by rw [decide_eqv]; exact P.ok i rfl⟩
theorem sem_neD {W : XK} {K : PySem.W.Frag} {c : Cd α} [Dt c] [DecidableEq α] (h : Dt.depth c ≤ 64) : BinSem K W (rNeD K) c c cB (fun x y => .ok (!decide (x = y))) := fun x y v u S H Q i r1 r2 P =>
  ⟨_, _, Dt.rep (c.mono i r1), Dt.rep (c.mono i r2), Dt.shaped h _, Dt.shaped h _, by rw [decide_eqv]; exact P.ok i rfl⟩
theorem sem_eqI {W : XK} {K : PySem.W.Frag} : BinSem K W rEq cI cI cB (fun x y => .ok (decide (x = y))) := fun x y v u S H Q i r1 r2 P => by
  have e1 : v = .int x := r1
  have e2 : u = .int y := r2
  subst e1 e2
  refine ⟨rfl, ?_⟩
  have e : decide (V.int x = V.int y) = decide (x = y) := by
    by_cases q : x = y
    · subst q; simp
    · rw [decide_eq_false q, decide_eq_false (fun z => q (V.int.inj z))]
  rw [e]
  exact P.ok i rfl
theorem sem_neI {W : XK} {K : PySem.W.Frag} : BinSem K W rNe cI cI cB (fun x y => .ok (!decide (x = y))) := fun x y v u S H Q i r1 r2 P => by
  have e1 : v = .int x := r1
  have e2 : u = .int y := r2
  subst e1 e2
  refine ⟨rfl, ?_⟩
  have e : decide (V.int x = V.int y) = decide (x = y) := by
    by_cases q : x = y
    · subst q; simp
    · rw [decide_eq_false q, decide_eq_false (fun z => q (V.int.inj z))]
  rw [e]
  exact P.ok i rfl
theorem sem_eqS {W : XK} {K : PySem.W.Frag} : BinSem K W rEq cS cS cB (fun x y => .ok (decide (x = y))) := fun x y v u S H Q i r1 r2 P => by
  have e1 : v = .str x := r1
  have e2 : u = .str y := r2
  subst e1 e2
  refine ⟨rfl, ?_⟩
  have e : decide (V.str x = V.str y) = decide (x = y) := by
    by_cases q : x = y
    · subst q; simp
    · rw [decide_eq_false q, decide_eq_false (fun z => q (V.str.inj z))]
  rw [e]
  exact P.ok i rfl
theorem sem_neS {W : XK} {K : PySem.W.Frag} : BinSem K W rNe cS cS cB (fun x y => .ok (!decide (x = y))) := fun x y v u S H Q i r1 r2 P => by
  have e1 : v = .str x := r1
  have e2 : u = .str y := r2
  subst e1 e2
  refine ⟨rfl, ?_⟩
  have e : decide (V.str x = V.str y) = decide (x = y) := by
    by_cases q : x = y
    · subst q; simp
    · rw [decide_eq_false q, decide_eq_false (fun z => q (V.str.inj z))]
  rw [e]
  exact P.ok i rfl

theorem eqI_pp  {x : Int} {y : Int} (ha : DE X W ds a cI (.ok x)) (hb : DE X W ds b cI (.ok y)) : DE X W ds (.Compare a [.Eq] [b] pos) cB (.ok (decide (x = y))) := cmpV op_eq (nomark _) sem_eqI ha hb
theorem eqI_mp  {m1 : R Int} {y : Int} (ha : DE X W ds a cI m1) (hb : DE X W ds b cI (.ok y)) : DE X W ds (.Compare a [.Eq] [b] pos) cB (m1 >>= fun x => .ok (decide (x = y))) := cmpV op_eq (nomark _) sem_eqI ha hb
theorem eqI_pm  {x : Int} {m2 : R Int} (ha : DE X W ds a cI (.ok x)) (hb : DE X W ds b cI m2) : DE X W ds (.Compare a [.Eq] [b] pos) cB (m2 >>= fun y => .ok (decide (x = y))) := cmpV op_eq (nomark _) sem_eqI ha hb
theorem eqI_mm  {m1 : R Int} {m2 : R Int} (ha : DE X W ds a cI m1) (hb : DE X W ds b cI m2) : DE X W ds (.Compare a [.Eq] [b] pos) cB (m1 >>= fun x => m2 >>= fun y => .ok (decide (x = y))) := cmpV op_eq (nomark _) sem_eqI ha hb
theorem eqIT_pp  {x : Int} {y : Int} (ha : DE X W ds a cI (.ok x)) (hb : DE X W ds b cI (.ok y)) : DT X W ds (.Compare a [.Eq] [b] pos) (.ok (decide (x = y))) := cmpT op_eq (nomark _) sem_eqI ha hb
theorem eqIT_mp  {m1 : R Int} {y : Int} (ha : DE X W ds a cI m1) (hb : DE X W ds b cI (.ok y)) : DT X W ds (.Compare a [.Eq] [b] pos) (m1 >>= fun x => .ok (decide (x = y))) := cmpT op_eq (nomark _) sem_eqI ha hb
theorem eqIT_pm  {x : Int} {m2 : R Int} (ha : DE X W ds a cI (.ok x)) (hb : DE X W ds b cI m2) : DT X W ds (.Compare a [.Eq] [b] pos) (m2 >>= fun y => .ok (decide (x = y))) := cmpT op_eq (nomark _) sem_eqI ha hb
theorem eqIT_mm  {m1 : R Int} {m2 : R Int} (ha : DE X W ds a cI m1) (hb : DE X W ds b cI m2) : DT X W ds (.Compare a [.Eq] [b] pos) (m1 >>= fun x => m2 >>= fun y => .ok (decide (x = y))) := cmpT op_eq (nomark _) sem_eqI ha hb
theorem eqS_pp  {x : Str} {y : Str} (ha : DE X W ds a cS (.ok x)) (hb : DE X W ds b cS (.ok y)) : DE X W ds (.Compare a [.Eq] [b] pos) cB (.ok (decide (x = y))) := cmpV op_eq (nomark _) sem_eqS ha hb
theorem eqS_mp  {m1 : R Str} {y : Str} (ha : DE X W ds a cS m1) (hb : DE X W ds b cS (.ok y)) : DE X W ds (.Compare a [.Eq] [b] pos) cB (m1 >>= fun x => .ok (decide (x = y))) := cmpV op_eq (nomark _) sem_eqS ha hb
theorem eqS_pm  {x : Str} {m2 : R Str} (ha : DE X W ds a cS (.ok x)) (hb : DE X W ds b cS m2) : DE X W ds (.Compare a [.Eq] [b] pos) cB (m2 >>= fun y => .ok (decide (x = y))) := cmpV op_eq (nomark _) sem_eqS ha hb
theorem eqS_mm  {m1 : R Str} {m2 : R Str} (ha : DE X W ds a cS m1) (hb : DE X W ds b cS m2) : DE X W ds (.Compare a [.Eq] [b] pos) cB (m1 >>= fun x => m2 >>= fun y => .ok (decide (x = y))) := cmpV op_eq (nomark _) sem_eqS ha hb
theorem eqST_pp  {x : Str} {y : Str} (ha : DE X W ds a cS (.ok x)) (hb : DE X W ds b cS (.ok y)) : DT X W ds (.Compare a [.Eq] [b] pos) (.ok (decide (x = y))) := cmpT op_eq (nomark _) sem_eqS ha hb
theorem eqST_mp  {m1 : R Str} {y : Str} (ha : DE X W ds a cS m1) (hb : DE X W ds b cS (.ok y)) : DT X W ds (.Compare a [.Eq] [b] pos) (m1 >>= fun x => .ok (decide (x = y))) := cmpT op_eq (nomark _) sem_eqS ha hb
theorem eqST_pm  {x : Str} {m2 : R Str} (ha : DE X W ds a cS (.ok x)) (hb : DE X W ds b cS m2) : DT X W ds (.Compare a [.Eq] [b] pos) (m2 >>= fun y => .ok (decide (x = y))) := cmpT op_eq (nomark _) sem_eqS ha hb
theorem eqST_mm  {m1 : R Str} {m2 : R Str} (ha : DE X W ds a cS m1) (hb : DE X W ds b cS m2) : DT X W ds (.Compare a [.Eq] [b] pos) (m1 >>= fun x => m2 >>= fun y => .ok (decide (x = y))) := cmpT op_eq (nomark _) sem_eqS ha hb
theorem eqD_pp {c : Cd α} [Dt c] [DecidableEq α] (hu : X.A.units + 64 < cLine)  {x : α} {y : α} (ha : DE X W ds a c (.ok x)) (hb : DE X W ds b c (.ok y)) (hd : Dt.depth c ≤ 64 := by decide) : DE X W ds (.Compare a [.Eq] [b] pos) cB (.ok (decide (x = y))) := cmpV (op_eqD hu) (nomark _) (sem_eqD hd) ha hb
theorem eqD_mp {c : Cd α} [Dt c] [DecidableEq α] (hu : X.A.units + 64 < cLine)  {m1 : R α} {y : α} (ha : DE X W ds a c m1) (hb : DE X W ds b c (.ok y)) (hd : Dt.depth c ≤ 64 := by decide) : DE X W ds (.Compare a [.Eq] [b] pos) cB (m1 >>= fun x => .ok (decide (x = y))) := cmpV (op_eqD hu) (nomark _) (sem_eqD hd) ha hb
theorem eqD_pm {c : Cd α} [Dt c] [DecidableEq α] (hu : X.A.units + 64 < cLine)  {x : α} {m2 : R α} (ha : DE X W ds a c (.ok x)) (hb : DE X W ds b c m2) (hd : Dt.depth c ≤ 64 := by decide) : DE X W ds (.Compare a [.Eq] [b] pos) cB (m2 >>= fun y => .ok (decide (x = y))) := cmpV (op_eqD hu) (nomark _) (sem_eqD hd) ha hb
theorem eqD_mm {c : Cd α} [Dt c] [DecidableEq α] (hu : X.A.units + 64 < cLine)  {m1 : R α} {m2 : R α} (ha : DE X W ds a c m1) (hb : DE X W ds b c m2) (hd : Dt.depth c ≤ 64 := by decide) : DE X W ds (.Compare a [.Eq] [b] pos) cB (m1 >>= fun x => m2 >>= fun y => .ok (decide (x = y))) := cmpV (op_eqD hu) (nomark _) (sem_eqD hd) ha hb
theorem eqDT_pp {c : Cd α} [Dt c] [DecidableEq α] (hu : X.A.units + 64 < cLine)  {x : α} {y : α} (ha : DE X W ds a c (.ok x)) (hb : DE X W ds b c (.ok y)) (hd : Dt.depth c ≤ 64 := by decide) : DT X W ds (.Compare a [.Eq] [b] pos) (.ok (decide (x = y))) := cmpT (op_eqD hu) (nomark _) (sem_eqD hd) ha hb
theorem eqDT_mp {c : Cd α} [Dt c] [DecidableEq α] (hu : X.A.units + 64 < cLine)  {m1 : R α} {y : α} (ha : DE X W ds a c m1) (hb : DE X W ds b c (.ok y)) (hd : Dt.depth c ≤ 64 := by decide) : DT X W ds (.Compare a [.Eq] [b] pos) (m1 >>= fun x => .ok (decide (x = y))) := cmpT (op_eqD hu) (nomark _) (sem_eqD hd) ha hb
theorem eqDT_pm {c : Cd α} [Dt c] [DecidableEq α] (hu : X.A.units + 64 < cLine)  {x : α} {m2 : R α} (ha : DE X W ds a c (.ok x)) (hb : DE X W ds b c m2) (hd : Dt.depth c ≤ 64 := by decide) : DT X W ds (.Compare a [.Eq] [b] pos) (m2 >>= fun y => .ok (decide (x = y))) := cmpT (op_eqD hu) (nomark _) (sem_eqD hd) ha hb
theorem eqDT_mm {c : Cd α} [Dt c] [DecidableEq α] (hu : X.A.units + 64 < cLine)  {m1 : R α} {m2 : R α} (ha : DE X W ds a c m1) (hb : DE X W ds b c m2) (hd : Dt.depth c ≤ 64 := by decide) : DT X W ds (.Compare a [.Eq] [b] pos) (m1 >>= fun x => m2 >>= fun y => .ok (decide (x = y))) := cmpT (op_eqD hu) (nomark _) (sem_eqD hd) ha hb
theorem neI_pp  {x : Int} {y : Int} (ha : DE X W ds a cI (.ok x)) (hb : DE X W ds b cI (.ok y)) : DE X W ds (.Compare a [.NotEq] [b] pos) cB (.ok (!decide (x = y))) := cmpV op_ne (nomark _) sem_neI ha hb
theorem neI_mp  {m1 : R Int} {y : Int} (ha : DE X W ds a cI m1) (hb : DE X W ds b cI (.ok y)) : DE X W ds (.Compare a [.NotEq] [b] pos) cB (m1 >>= fun x => .ok (!decide (x = y))) := cmpV op_ne (nomark _) sem_neI ha hb
theorem neI_pm  {x : Int} {m2 : R Int} (ha : DE X W ds a cI (.ok x)) (hb : DE X W ds b cI m2) : DE X W ds (.Compare a [.NotEq] [b] pos) cB (m2 >>= fun y => .ok (!decide (x = y))) := cmpV op_ne (nomark _) sem_neI ha hb
theorem neI_mm  {m1 : R Int} {m2 : R Int} (ha : DE X W ds a cI m1) (hb : DE X W ds b cI m2) : DE X W ds (.Compare a [.NotEq] [b] pos) cB (m1 >>= fun x => m2 >>= fun y => .ok (!decide (x = y))) := cmpV op_ne (nomark _) sem_neI ha hb
theorem neIT_pp  {x : Int} {y : Int} (ha : DE X W ds a cI (.ok x)) (hb : DE X W ds b cI (.ok y)) : DT X W ds (.Compare a [.NotEq] [b] pos) (.ok (!decide (x = y))) := cmpT op_ne (nomark _) sem_neI ha hb
theorem neIT_mp  {m1 : R Int} {y : Int} (ha : DE X W ds a cI m1) (hb : DE X W ds b cI (.ok y)) : DT X W ds (.Compare a [.NotEq] [b] pos) (m1 >>= fun x => .ok (!decide (x = y))) := cmpT op_ne (nomark _) sem_neI ha hb
theorem neIT_pm  {x : Int} {m2 : R Int} (ha : DE X W ds a cI (.ok x)) (hb : DE X W ds b cI m2) : DT X W ds (.Compare a [.NotEq] [b] pos) (m2 >>= fun y => .ok (!decide (x = y))) := cmpT op_ne (nomark _) sem_neI ha hb
theorem neIT_mm  {m1 : R Int} {m2 : R Int} (ha : DE X W ds a cI m1) (hb : DE X W ds b cI m2) : DT X W ds (.Compare a [.NotEq] [b] pos) (m1 >>= fun x => m2 >>= fun y => .ok (!decide (x = y))) := cmpT op_ne (nomark _) sem_neI ha hb
theorem neS_pp  {x : Str} {y : Str} (ha : DE X W ds a cS (.ok x)) (hb : DE X W ds b cS (.ok y)) : DE X W ds (.Compare a [.NotEq] [b] pos) cB (.ok (!decide (x = y))) := cmpV op_ne (nomark _) sem_neS ha hb
theorem neS_mp  {m1 : R Str} {y : Str} (ha : DE X W ds a cS m1) (hb : DE X W ds b cS (.ok y)) : DE X W ds (.Compare a [.NotEq] [b] pos) cB (m1 >>= fun x => .ok (!decide (x = y))) := cmpV op_ne (nomark _) sem_neS ha hb
theorem neS_pm  {x : Str} {m2 : R Str} (ha : DE X W ds a cS (.ok x)) (hb : DE X W ds b cS m2) : DE X W ds (.Compare a [.NotEq] [b] pos) cB (m2 >>= fun y => .ok (!decide (x = y))) := cmpV op_ne (nomark _) sem_neS ha hb
theorem neS_mm  {m1 : R Str} {m2 : R Str} (ha : DE X W ds a cS m1) (hb : DE X W ds b cS m2) : DE X W ds (.Compare a [.NotEq] [b] pos) cB (m1 >>= fun x => m2 >>= fun y => .ok (!decide (x = y))) := cmpV op_ne (nomark _) sem_neS ha hb
theorem neST_pp  {x : Str} {y : Str} (ha : DE X W ds a cS (.ok x)) (hb : DE X W ds b cS (.ok y)) : DT X W ds (.Compare a [.NotEq] [b] pos) (.ok (!decide (x = y))) := cmpT op_ne (nomark _) sem_neS ha hb
theorem neST_mp  {m1 : R Str} {y : Str} (ha : DE X W ds a cS m1) (hb : DE X W ds b cS (.ok y)) : DT X W ds (.Compare a [.NotEq] [b] pos) (m1 >>= fun x => .ok (!decide (x = y))) := cmpT op_ne (nomark _) sem_neS ha hb
theorem neST_pm  {x : Str} {m2 : R Str} (ha : DE X W ds a cS (.ok x)) (hb : DE X W ds b cS m2) : DT X W ds (.Compare a [.NotEq] [b] pos) (m2 >>= fun y => .ok (!decide (x = y))) := cmpT op_ne (nomark _) sem_neS ha hb
theorem neST_mm  {m1 : R Str} {m2 : R Str} (ha : DE X W ds a cS m1) (hb : DE X W ds b cS m2) : DT X W ds (.Compare a [.NotEq] [b] pos) (m1 >>= fun x => m2 >>= fun y => .ok (!decide (x = y))) := cmpT op_ne (nomark _) sem_neS ha hb
theorem neD_pp {c : Cd α} [Dt c] [DecidableEq α] (hu : X.A.units + 64 < cLine)  {x : α} {y : α} (ha : DE X W ds a c (.ok x)) (hb : DE X W ds b c (.ok y)) (hd : Dt.depth c ≤ 64 := by decide) : DE X W ds (.Compare a [.NotEq] [b] pos) cB (.ok (!decide (x = y))) := cmpV (op_neD hu) (nomark _) (sem_neD hd) ha hb
theorem neD_mp {c : Cd α} [Dt c] [DecidableEq α] (hu : X.A.units + 64 < cLine)  {m1 : R α} {y : α} (ha : DE X W ds a c m1) (hb : DE X W ds b c (.ok y)) (hd : Dt.depth c ≤ 64 := by decide) : DE X W ds (.Compare a [.NotEq] [b] pos) cB (m1 >>= fun x => .ok (!decide (x = y))) := cmpV (op_neD hu) (nomark _) (sem_neD hd) ha hb
theorem neD_pm {c : Cd α} [Dt c] [DecidableEq α] (hu : X.A.units + 64 < cLine)  {x : α} {m2 : R α} (ha : DE X W ds a c (.ok x)) (hb : DE X W ds b c m2) (hd : Dt.depth c ≤ 64 := by decide) : DE X W ds (.Compare a [.NotEq] [b] pos) cB (m2 >>= fun y => .ok (!decide (x = y))) := cmpV (op_neD hu) (nomark _) (sem_neD hd) ha hb
theorem neD_mm {c : Cd α} [Dt c] [DecidableEq α] (hu : X.A.units + 64 < cLine)  {m1 : R α} {m2 : R α} (ha : DE X W ds a c m1) (hb : DE X W ds b c m2) (hd : Dt.depth c ≤ 64 := by decide) : DE X W ds (.Compare a [.NotEq] [b] pos) cB (m1 >>= fun x => m2 >>= fun y => .ok (!decide (x = y))) := cmpV (op_neD hu) (nomark _) (sem_neD hd) ha hb
theorem neDT_pp {c : Cd α} [Dt c] [DecidableEq α] (hu : X.A.units + 64 < cLine)  {x : α} {y : α} (ha : DE X W ds a c (.ok x)) (hb : DE X W ds b c (.ok y)) (hd : Dt.depth c ≤ 64 := by decide) : DT X W ds (.Compare a [.NotEq] [b] pos) (.ok (!decide (x = y))) := cmpT (op_neD hu) (nomark _) (sem_neD hd) ha hb
theorem neDT_mp {c : Cd α} [Dt c] [DecidableEq α] (hu : X.A.units + 64 < cLine)  {m1 : R α} {y : α} (ha : DE X W ds a c m1) (hb : DE X W ds b c (.ok y)) (hd : Dt.depth c ≤ 64 := by decide) : DT X W ds (.Compare a [.NotEq] [b] pos) (m1 >>= fun x => .ok (!decide (x = y))) := cmpT (op_neD hu) (nomark _) (sem_neD hd) ha hb
theorem neDT_pm {c : Cd α} [Dt c] [DecidableEq α] (hu : X.A.units + 64 < cLine)  {x : α} {m2 : R α} (ha : DE X W ds a c (.ok x)) (hb : DE X W ds b c m2) (hd : Dt.depth c ≤ 64 := by decide) : DT X W ds (.Compare a [.NotEq] [b] pos) (m2 >>= fun y => .ok (!decide (x = y))) := cmpT (op_neD hu) (nomark _) (sem_neD hd) ha hb
theorem neDT_mm {c : Cd α} [Dt c] [DecidableEq α] (hu : X.A.units + 64 < cLine)  {m1 : R α} {m2 : R α} (ha : DE X W ds a c m1) (hb : DE X W ds b c m2) (hd : Dt.depth c ≤ 64 := by decide) : DT X W ds (.Compare a [.NotEq] [b] pos) (m1 >>= fun x => m2 >>= fun y => .ok (!decide (x = y))) := cmpT (op_neD hu) (nomark _) (sem_neD hd) ha hb
/-! ### None -/
theorem isN_p {j : Nat} {p2 : Pos} {o : Option α} {c : Cd α} (ha : DE X W ds a (cO c) (.ok o)) : DE X W ds (.Compare a [.Is] [.Constant .none j p2] pos) cB (.ok o.isNone) := by
  obtain ⟨t, p, q⟩ := ha
  refine ⟨_, pe_cmp (pc_isN p), fun S0 H0 σ S H Q E P => q S0 H0 σ S H _ E (fun v S' H' g r => ?_)⟩
  have e : decide (v = V.non) = o.isNone := by
    cases o with
    | none => exact decide_eq_true r
    | some z => exact decide_eq_false r.1
  rw [e]
  exact P _ S' H' g rfl
theorem notN_p {j : Nat} {p2 : Pos} {o : Option α} {c : Cd α} (ha : DE X W ds a (cO c) (.ok o)) : DE X W ds (.Compare a [.IsNot] [.Constant .none j p2] pos) cB (.ok o.isSome) := by
  obtain ⟨t, p, q⟩ := ha
  refine ⟨_, pe_cmp (pc_notN p), fun S0 H0 σ S H Q E P => q S0 H0 σ S H _ E (fun v S' H' g r => ?_)⟩
  have e : (!decide (v = V.non)) = o.isSome := by
    cases o with
    | none => rw [decide_eq_true (show v = V.non from r)] <;> rfl
    | some z => rw [decide_eq_false r.1] <;> rfl
  rw [e]
  exact P _ S' H' g rfl
/-! ### tests, and, or, not -/
theorem val {m : R Bool} (ha : DE X W ds a cB m) (he : ∀ whole, isTrue a X.env whole = (do let v ← whole; standAt a.pos; holding [v] (truthy v)) := by intro _; rfl) : DT X W ds a m := by
  obtain ⟨t, p, q⟩ := ha
  exact ⟨_, pt_val p he, fun S0 H0 σ S H Q E P => q S0 H0 σ S H _ E (pb_of P)⟩
/-- a comparison's value as a test -/
theorem valC {m : R Bool} {l : Expr} {op : CmpOp} {r : Expr} (ha : ∃ t, PC X op l r t ∧ ∀ S0 H0 σ S H Q, EnvOk X.K S0 H0 ds σ S H → PX cB X.K S H m Q (W σ) → t σ H Q) (h1 : behindInMarks op r = false) : DT X W ds (.Compare l [op] [r] pos) m := by
  obtain ⟨t, p, q⟩ := ha
  exact ⟨_, pt_cmp p h1, fun S0 H0 σ S H Q E P => q S0 H0 σ S H _ E (pb_of P)⟩
theorem isN_sem {j : Nat} {p2 : Pos} {o : Option α} {c : Cd α} (ha : DE X W ds a (cO c) (.ok o)) : ∃ t, PC X .Is a (.Constant .none j p2) t ∧ ∀ S0 H0 σ S H Q, EnvOk X.K S0 H0 ds σ S H → PX cB X.K S H (.ok o.isNone) Q (W σ) → t σ H Q := by
  obtain ⟨t, p, q⟩ := ha
  refine ⟨_, pc_isN p, fun S0 H0 σ S H Q E P => q S0 H0 σ S H _ E (fun v S' H' g r => ?_)⟩
  have e : decide (v = V.non) = o.isNone := by
    cases o with
    | none => exact decide_eq_true r
    | some z => exact decide_eq_false r.1
  rw [e]
  exact P _ S' H' g rfl
theorem notN_sem {j : Nat} {p2 : Pos} {o : Option α} {c : Cd α} (ha : DE X W ds a (cO c) (.ok o)) : ∃ t, PC X .IsNot a (.Constant .none j p2) t ∧ ∀ S0 H0 σ S H Q, EnvOk X.K S0 H0 ds σ S H → PX cB X.K S H (.ok o.isSome) Q (W σ) → t σ H Q := by
  obtain ⟨t, p, q⟩ := ha
  refine ⟨_, pc_notN p, fun S0 H0 σ S H Q E P => q S0 H0 σ S H _ E (fun v S' H' g r => ?_)⟩
  have e : (!decide (v = V.non)) = o.isSome := by
    cases o with
    | none => rw [decide_eq_true (show v = V.non from r)] <;> rfl
    | some z => rw [decide_eq_false r.1] <;> rfl
  rw [e]
  exact P _ S' H' g rfl
theorem isNT_p {j : Nat} {p2 : Pos} {o : Option α} {c : Cd α} (ha : DE X W ds a (cO c) (.ok o)) : DT X W ds (.Compare a [.Is] [.Constant .none j p2] pos) (.ok o.isNone) := valC (isN_sem ha) (nomark _)
theorem notNT_p {j : Nat} {p2 : Pos} {o : Option α} {c : Cd α} (ha : DE X W ds a (cO c) (.ok o)) : DT X W ds (.Compare a [.IsNot] [.Constant .none j p2] pos) (.ok o.isSome) := valC (notN_sem ha) (nomark _)
theorem dt_dw {m : R Bool} (h : DW X W ds a m) : DT X W ds a m := by
  obtain ⟨t, p, q⟩ := h
  exact ⟨t, p.pt, q⟩
theorem and1 {m : R Bool} (ha : DT X W ds a m) : DW X W ds (.BoolOp .And [a] pos) m := by
  obtain ⟨t, p, q⟩ := ha
  exact ⟨t, pw_and1 p, q⟩
theorem or1 {m : R Bool} (ha : DT X W ds a m) : DW X W ds (.BoolOp .Or [a] pos) m := by
  obtain ⟨t, p, q⟩ := ha
  exact ⟨t, pw_or1 p, q⟩
theorem andW {m n : R Bool} (ha : DT X W ds a m) (hb : DW X W ds (.BoolOp .And (b :: es) pos) n) : DW X W ds (.BoolOp .And (a :: b :: es) pos) (m >>= fun z => if z = true then n else .ok false) := by
  obtain ⟨t, p, q⟩ := ha
  obtain ⟨u, p2, q2⟩ := hb
  refine ⟨_, pw_and p p2, fun S0 H0 σ S H Q E P => q S0 H0 σ S H _ E (P.bindB fun z S1 H1 g P1 => ?_)⟩
  cases z with
  | true => exact q2 S0 H0 σ S1 H1 _ (E.step g) P1
  | false => exact P1.ok g.inn
theorem orW {m n : R Bool} (ha : DT X W ds a m) (hb : DW X W ds (.BoolOp .Or (b :: es) pos) n) : DW X W ds (.BoolOp .Or (a :: b :: es) pos) (m >>= fun z => if z = true then .ok true else n) := by
  obtain ⟨t, p, q⟩ := ha
  obtain ⟨u, p2, q2⟩ := hb
  refine ⟨_, pw_or p p2, fun S0 H0 σ S H Q E P => q S0 H0 σ S H _ E (P.bindB fun z S1 H1 g P1 => ?_)⟩
  cases z with
  | true => exact P1.ok g.inn
  | false => exact q2 S0 H0 σ S1 H1 _ (E.step g) P1
theorem andW_p {z : Bool} {n : R Bool} (ha : DT X W ds a (.ok z)) (hb : DW X W ds (.BoolOp .And (b :: es) pos) n) : DW X W ds (.BoolOp .And (a :: b :: es) pos) (if z = true then n else .ok false) := andW ha hb
theorem orW_p {z : Bool} {n : R Bool} (ha : DT X W ds a (.ok z)) (hb : DW X W ds (.BoolOp .Or (b :: es) pos) n) : DW X W ds (.BoolOp .Or (a :: b :: es) pos) (if z = true then .ok true else n) := orW ha hb
theorem notT {m : R Bool} (ha : DT X W ds a m) : DT X W ds (.UnaryOp .Not a pos) (m >>= fun z => .ok (!z)) := by
  obtain ⟨t, p, q⟩ := ha
  exact ⟨_, pt_not p, fun S0 H0 σ S H Q E P => q S0 H0 σ S H _ E (P.bindB fun z S1 H1 g P1 => P1.ok g.inn)⟩
theorem notT_p {z : Bool} (ha : DT X W ds a (.ok z)) : DT X W ds (.UnaryOp .Not a pos) (.ok (!z)) := notT ha
/-- as values -/
theorem and1V {m : R Bool} (ha : DE X W ds a cB m) : DE X W ds (.BoolOp .And [a] pos) cB m := by
  obtain ⟨t, p, q⟩ := ha
  exact ⟨t, pe_one p, q⟩
theorem or1V {m : R Bool} (ha : DE X W ds a cB m) : DE X W ds (.BoolOp .Or [a] pos) cB m := by
  obtain ⟨t, p, q⟩ := ha
  exact ⟨t, pe_one p, q⟩
theorem andV {m n : R Bool} (ha : DE X W ds a cB m) (hb : DE X W ds (.BoolOp .And (b :: es) pos) cB n) : DE X W ds (.BoolOp .And (a :: b :: es) pos) cB (m >>= fun z => if z = true then n else .ok false) := by
  obtain ⟨t, p, q⟩ := ha
  obtain ⟨u, p2, q2⟩ := hb
  refine ⟨_, pe_and p p2, fun S0 H0 σ S H Q E P => q S0 H0 σ S H _ E (P.bind fun z v S1 H1 g r P1 => ⟨z, r, ?_⟩)⟩
  cases z with
  | true => exact q2 S0 H0 σ S1 H1 _ (E.step g) P1
  | false => exact P1.ok g.inn rfl
theorem orV {m n : R Bool} (ha : DE X W ds a cB m) (hb : DE X W ds (.BoolOp .Or (b :: es) pos) cB n) : DE X W ds (.BoolOp .Or (a :: b :: es) pos) cB (m >>= fun z => if z = true then .ok true else n) := by
  obtain ⟨t, p, q⟩ := ha
  obtain ⟨u, p2, q2⟩ := hb
  refine ⟨_, pe_or p p2, fun S0 H0 σ S H Q E P => q S0 H0 σ S H _ E (P.bind fun z v S1 H1 g r P1 => ⟨z, r, ?_⟩)⟩
  cases z with
  | true => exact P1.ok g.inn rfl
  | false => exact q2 S0 H0 σ S1 H1 _ (E.step g) P1
theorem andV_p {z : Bool} {n : R Bool} (ha : DE X W ds a cB (.ok z)) (hb : DE X W ds (.BoolOp .And (b :: es) pos) cB n) : DE X W ds (.BoolOp .And (a :: b :: es) pos) cB (if z = true then n else .ok false) := andV ha hb
theorem orV_p {z : Bool} {n : R Bool} (ha : DE X W ds a cB (.ok z)) (hb : DE X W ds (.BoolOp .Or (b :: es) pos) cB n) : DE X W ds (.BoolOp .Or (a :: b :: es) pos) cB (if z = true then .ok true else n) := orV ha hb
theorem notV {m : R Bool} (ha : DE X W ds a cB m) : DE X W ds (.UnaryOp .Not a pos) cB (m >>= fun z => .ok (!z)) := by
  obtain ⟨t, p, q⟩ := ha
  exact ⟨_, pe_not p, fun S0 H0 σ S H Q E P => q S0 H0 σ S H _ E (P.bind fun z v S1 H1 g r P1 => ⟨z, r, P1.ok g.inn rfl⟩)⟩
theorem notV_p {z : Bool} (ha : DE X W ds a cB (.ok z)) : DE X W ds (.UnaryOp .Not a pos) cB (.ok (!z)) := notV ha
theorem ifE {m : R Bool} {n1 n2 : R γ} {t : Expr} (ht : DT X W ds t m) (ha : DE X W ds a c3 n1) (hb : DE X W ds b c3 n2) : DE X W ds (.IfExp t a b pos) c3 (m >>= fun z => if z = true then n1 else n2) := by
  obtain ⟨tt, p, q⟩ := ht
  obtain ⟨ta, p1, q1⟩ := ha
  obtain ⟨tb, p2, q2⟩ := hb
  refine ⟨_, pe_ifExp p p1 p2, fun S0 H0 σ S H Q E P => q S0 H0 σ S H _ E (P.bindB fun z S1 H1 g P1 => ?_)⟩
  cases z with
  | true => exact q1 S0 H0 σ S1 H1 _ (E.step g) P1
  | false => exact q2 S0 H0 σ S1 H1 _ (E.step g) P1
theorem ifE_p {z : Bool} {n1 n2 : R γ} {t : Expr} (ht : DT X W ds t (.ok z)) (ha : DE X W ds a c3 n1) (hb : DE X W ds b c3 n2) : DE X W ds (.IfExp t a b pos) c3 (if z = true then n1 else n2) := ifE ht ha hb
theorem neg {m : R Int} (ha : DE X W ds a cI m) : DE X W ds (.UnaryOp .USub a pos) cI (m >>= fun z => .ok (-z)) := by
  obtain ⟨t, p, q⟩ := ha
  exact ⟨_, pe_un un_neg p, fun S0 H0 σ S H Q E P => q S0 H0 σ S H _ E (P.bind fun z v S1 H1 g r P1 => ⟨z, r, P1.ok g.inn rfl⟩)⟩
theorem neg_p {z : Int} (ha : DE X W ds a cI (.ok z)) : DE X W ds (.UnaryOp .USub a pos) cI (.ok (-z)) := neg ha
/-- a op b op' c -/
theorem chain {op op' : CmpOp} {f g : Int → Int → Bool} {cc : Expr} {m n k : R Int} (ho : OpR X (compareOp op) (rI0 fun i j => .bl (f i j))) (ho' : OpR X (compareOp op') (rI0 fun i j => .bl (g i j))) (ha : DE X W ds a cI m) (hb : DE X W ds b cI n) (hc : DE X W ds cc cI k)
    (hm : lastMarks [op, op'] [b, cc] = false := by with_unfolding_all rfl) : DE X W ds (.Compare a [op, op'] [b, cc] pos) cB (m >>= fun x => n >>= fun y => if f x y = true then k >>= fun z => .ok (g y z) else .ok false) := by
  obtain ⟨ta, pa, qa⟩ := ha
  obtain ⟨tb, pb, qb⟩ := hb
  obtain ⟨tc, pc, qc⟩ := hc
  refine ⟨_, pe_chain ho ho' pa pb pc hm, fun S0 H0 σ S H Q E P => qa S0 H0 σ S H _ E (P.bind fun x v S1 H1 g1 r1 P1 => qb S0 H0 σ S1 H1 _ (E.step g1) (P1.bind fun y u S2 H2 g2 r2 P2 => ⟨x, y, r1, r2, f x y, rfl, ?_⟩))⟩
  cases hf : f x y with
  | true =>
    rw [hf, if_pos rfl] at P2
    exact qc S0 H0 σ S2 H2 _ ((E.step g1).step g2) (P2.bind fun z w S3 H3 g3 r3 P3 => ⟨y, z, r2, r3, P3.ok g3.inn rfl⟩)
  | false =>
    rw [hf, if_neg Bool.false_ne_true] at P2
    exact P2.ok g2.inn rfl
theorem chainT {op op' : CmpOp} {f g : Int → Int → Bool} {cc : Expr} {m n k : R Int} (ho : OpR X (compareOp op) (rI0 fun i j => .bl (f i j))) (ho' : OpR X (compareOp op') (rI0 fun i j => .bl (g i j))) (ha : DE X W ds a cI m) (hb : DE X W ds b cI n) (hc : DE X W ds cc cI k)
    (hm : lastMarks [op, op'] [b, cc] = false := by with_unfolding_all rfl) : DT X W ds (.Compare a [op, op'] [b, cc] pos) (m >>= fun x => n >>= fun y => if f x y = true then k >>= fun z => .ok (g y z) else .ok false) := by
  obtain ⟨ta, pa, qa⟩ := ha
  obtain ⟨tb, pb, qb⟩ := hb
  obtain ⟨tc, pc, qc⟩ := hc
  refine ⟨_, pt_chain ho ho' pa pb pc hm, fun S0 H0 σ S H Q E P => qa S0 H0 σ S H _ E ((pb_of P).bind fun x v S1 H1 g1 r1 P1 => qb S0 H0 σ S1 H1 _ (E.step g1) (P1.bind fun y u S2 H2 g2 r2 P2 => ⟨x, y, r1, r2, f x y, rfl, ?_⟩))⟩
  cases hf : f x y with
  | true =>
    rw [hf, if_pos rfl] at P2
    exact qc S0 H0 σ S2 H2 _ ((E.step g1).step g2) (P2.bind fun z w S3 H3 g3 r3 P3 => ⟨y, z, r2, r3, P3.ok g3.inn rfl⟩)
  | false =>
    rw [hf, if_neg Bool.false_ne_true] at P2
    exact P2.ok g2.inn rfl
/-! ### items -/
def getM (xs : List α) (i : Int) : R α := match atI xs i with
  | some z => .ok z
  | none => .stuck
theorem reps_at {c : Cd α} {K : PySem.W.Frag} {H : Hp} {vs : List V} {xs : List α} {i : Int} {z : α} (h : Reps c K H vs xs) (e : atI xs i = some z) : ∃ v, atI vs i = some v ∧ c.rep K H v z := by
  unfold atI at e ⊢
  rw [h.length]
  cases q : ixN xs.length i with
  | none =>
    rw [q] at e
    cases e
  | some j =>
    rw [q] at e
    exact h.get e
theorem sem_ixL {W : XK} {K : PySem.W.Frag} {c : Cd α} : BinSem K W (rIxL K) (cL c) cI c getM := fun x y v u S H Q i r1 r2 P => by
  obtain ⟨p, vs, e, h1, h2⟩ := r1
  unfold getM at P
  cases q : atI x y with
  | none =>
    rw [q] at P
    exact P.elim
  | some z =>
    rw [q] at P
    obtain ⟨w, k1, k2⟩ := reps_at h2 q
    exact ⟨p, vs, y, w, e, r2, Same.seq i h1, k1, P.ok i k2⟩
theorem sem_ixT {W : XK} {K : PySem.W.Frag} {c : Cd α} : BinSem K W (rIxT K) (cT c) cI c getM := fun x y v u S H Q i r1 r2 P => by
  obtain ⟨p, vs, e, h1, h2⟩ := r1
  unfold getM at P
  cases q : atI x y with
  | none =>
    rw [q] at P
    exact P.elim
  | some z =>
    rw [q] at P
    obtain ⟨w, k1, k2⟩ := reps_at h2 q
    exact ⟨p, vs, y, w, e, r2, Same.tup i h1, k1, P.ok i k2⟩
theorem sem_ixLT {W : XK} {K : PySem.W.Frag} {c : Cd α} : BinSem K W (rIx K) (cLT c) cI c getM := fun x y v u S H Q i r1 r2 P => by
  rcases r1 with r1 | r1
  · exact .inl (sem_ixL x y v u S H Q i r1 r2 P)
  · exact .inr (.inl (sem_ixT x y v u S H Q i r1 r2 P))

theorem ixL_pp {c : Cd α} {x : List α} {y : Int} (ha : DE X W ds a (cL c) (.ok x)) (hb : DE X W ds b cI (.ok y)) (hp : PlainIx b := by exact fun _ _ => rfl) : DE X W ds (.Subscript a b pos) c (getM x y) := ix ix_list hp sem_ixL ha hb
theorem ixL_mp {c : Cd α} {m1 : R (List α)} {y : Int} (ha : DE X W ds a (cL c) m1) (hb : DE X W ds b cI (.ok y)) (hp : PlainIx b := by exact fun _ _ => rfl) : DE X W ds (.Subscript a b pos) c (m1 >>= fun x => getM x y) := ix ix_list hp sem_ixL ha hb
theorem ixL_pm {c : Cd α} {x : List α} {m2 : R Int} (ha : DE X W ds a (cL c) (.ok x)) (hb : DE X W ds b cI m2) (hp : PlainIx b := by exact fun _ _ => rfl) : DE X W ds (.Subscript a b pos) c (m2 >>= fun y => getM x y) := ix ix_list hp sem_ixL ha hb
theorem ixL_mm {c : Cd α} {m1 : R (List α)} {m2 : R Int} (ha : DE X W ds a (cL c) m1) (hb : DE X W ds b cI m2) (hp : PlainIx b := by exact fun _ _ => rfl) : DE X W ds (.Subscript a b pos) c (m1 >>= fun x => m2 >>= fun y => getM x y) := ix ix_list hp sem_ixL ha hb
theorem ixT_pp {c : Cd α} {x : List α} {y : Int} (ha : DE X W ds a (cT c) (.ok x)) (hb : DE X W ds b cI (.ok y)) (hp : PlainIx b := by exact fun _ _ => rfl) : DE X W ds (.Subscript a b pos) c (getM x y) := ix ix_tup hp sem_ixT ha hb
theorem ixT_mp {c : Cd α} {m1 : R (List α)} {y : Int} (ha : DE X W ds a (cT c) m1) (hb : DE X W ds b cI (.ok y)) (hp : PlainIx b := by exact fun _ _ => rfl) : DE X W ds (.Subscript a b pos) c (m1 >>= fun x => getM x y) := ix ix_tup hp sem_ixT ha hb
theorem ixT_pm {c : Cd α} {x : List α} {m2 : R Int} (ha : DE X W ds a (cT c) (.ok x)) (hb : DE X W ds b cI m2) (hp : PlainIx b := by exact fun _ _ => rfl) : DE X W ds (.Subscript a b pos) c (m2 >>= fun y => getM x y) := ix ix_tup hp sem_ixT ha hb
theorem ixT_mm {c : Cd α} {m1 : R (List α)} {m2 : R Int} (ha : DE X W ds a (cT c) m1) (hb : DE X W ds b cI m2) (hp : PlainIx b := by exact fun _ _ => rfl) : DE X W ds (.Subscript a b pos) c (m1 >>= fun x => m2 >>= fun y => getM x y) := ix ix_tup hp sem_ixT ha hb
theorem ixLT_pp {c : Cd α} {x : List α} {y : Int} (ha : DE X W ds a (cLT c) (.ok x)) (hb : DE X W ds b cI (.ok y)) (hp : PlainIx b := by exact fun _ _ => rfl) : DE X W ds (.Subscript a b pos) c (getM x y) := ix ix_seq hp sem_ixLT ha hb
theorem ixLT_mp {c : Cd α} {m1 : R (List α)} {y : Int} (ha : DE X W ds a (cLT c) m1) (hb : DE X W ds b cI (.ok y)) (hp : PlainIx b := by exact fun _ _ => rfl) : DE X W ds (.Subscript a b pos) c (m1 >>= fun x => getM x y) := ix ix_seq hp sem_ixLT ha hb
theorem ixLT_pm {c : Cd α} {x : List α} {m2 : R Int} (ha : DE X W ds a (cLT c) (.ok x)) (hb : DE X W ds b cI m2) (hp : PlainIx b := by exact fun _ _ => rfl) : DE X W ds (.Subscript a b pos) c (m2 >>= fun y => getM x y) := ix ix_seq hp sem_ixLT ha hb
theorem ixLT_mm {c : Cd α} {m1 : R (List α)} {m2 : R Int} (ha : DE X W ds a (cLT c) m1) (hb : DE X W ds b cI m2) (hp : PlainIx b := by exact fun _ _ => rfl) : DE X W ds (.Subscript a b pos) c (m1 >>= fun x => m2 >>= fun y => getM x y) := ix ix_seq hp sem_ixLT ha hb
/-- an item of a tuple of so many: AIx r i c p: the i-th, c its codec, p the place in the mirror -/
def AIx (r : CA τ) (i : Int) (n : Nat) (c : Cd γ) (pr : τ → γ) : Prop := ∀ K H vs z, r.rep K H vs z → ∃ v, atI vs i = some v ∧ c.rep K H v (pr z)
theorem ixP {r : CA τ} {i : Int} {n : Nat} {pr : τ → γ} {m : R τ} {j : Nat} {p2 : Pos} (h : AIx r i n c3 pr) (ha : DE X W ds a (cP r) m) (hp : PlainIx (.Constant (.int i) j p2) := by exact fun _ _ => rfl) : DE X W ds (.Subscript a (.Constant (.int i) j p2) pos) c3 (m >>= fun z => .ok (pr z)) := by
  obtain ⟨ta, pa, qa⟩ := ha
  refine ⟨_, pe_ix ix_tup pa pe_int hp, fun S0 H0 σ S H Q E P => qa S0 H0 σ S H _ E (P.bind fun z v S1 H1 g r1 P1 => ?_)⟩
  obtain ⟨q, vs, e, h1, h2⟩ := r1
  obtain ⟨w, k1, k2⟩ := h _ _ _ _ h2
  exact ⟨q, vs, i, w, e, rfl, Same.tup g.inn h1, k1, P1.ok g.inn k2⟩

theorem aix_0_1 {t0 : Type} {d0 : Cd t0} : AIx (aOne d0) 0 1 d0 (fun z : t0 => z) := by
  intro K H vs z h
  obtain ⟨v0, e0, r0⟩ := h
  subst e0
  exact ⟨v0, by first | rfl | simp [atI, ixN], r0⟩
theorem ix_0_1p {t0 : Type} {d0 : Cd t0} {z : t0} {j : Nat} {p2 : Pos} (ha : DE X W ds a (cP (aOne d0)) (.ok z)) (hp : PlainIx (.Constant (.int 0) j p2) := by exact fun _ _ => rfl) : DE X W ds (.Subscript a (.Constant (.int 0) j p2) pos) d0 (.ok (z)) := ixP aix_0_1 ha hp
theorem ix_0_1m {t0 : Type} {d0 : Cd t0} {m : R (t0)} {j : Nat} {p2 : Pos} (ha : DE X W ds a (cP (aOne d0)) m) (hp : PlainIx (.Constant (.int 0) j p2) := by exact fun _ _ => rfl) : DE X W ds (.Subscript a (.Constant (.int 0) j p2) pos) d0 (m >>= fun z => .ok (z)) := ixP aix_0_1 ha hp
theorem aix_0_2 {t0 : Type} {t1 : Type} {d0 : Cd t0} {d1 : Cd t1} : AIx (aCons d0 (aOne d1)) 0 2 d0 (fun z : t0 × t1 => z.1) := by
  intro K H vs z h
  obtain ⟨v0, ws0, e0, r0, h0⟩ := h
  obtain ⟨v1, e1, r1⟩ := h0
  subst e1 e0
  exact ⟨v0, by first | rfl | simp [atI, ixN], r0⟩
theorem ix_0_2p {t0 : Type} {t1 : Type} {d0 : Cd t0} {d1 : Cd t1} {z : t0 × t1} {j : Nat} {p2 : Pos} (ha : DE X W ds a (cP (aCons d0 (aOne d1))) (.ok z)) (hp : PlainIx (.Constant (.int 0) j p2) := by exact fun _ _ => rfl) : DE X W ds (.Subscript a (.Constant (.int 0) j p2) pos) d0 (.ok (z.1)) := ixP aix_0_2 ha hp
theorem ix_0_2m {t0 : Type} {t1 : Type} {d0 : Cd t0} {d1 : Cd t1} {m : R (t0 × t1)} {j : Nat} {p2 : Pos} (ha : DE X W ds a (cP (aCons d0 (aOne d1))) m) (hp : PlainIx (.Constant (.int 0) j p2) := by exact fun _ _ => rfl) : DE X W ds (.Subscript a (.Constant (.int 0) j p2) pos) d0 (m >>= fun z => .ok (z.1)) := ixP aix_0_2 ha hp
theorem aix_1_2 {t0 : Type} {t1 : Type} {d0 : Cd t0} {d1 : Cd t1} : AIx (aCons d0 (aOne d1)) 1 2 d1 (fun z : t0 × t1 => z.2) := by
  intro K H vs z h
  obtain ⟨v0, ws0, e0, r0, h0⟩ := h
  obtain ⟨v1, e1, r1⟩ := h0
  subst e1 e0
  exact ⟨v1, by first | rfl | simp [atI, ixN], r1⟩
theorem ix_1_2p {t0 : Type} {t1 : Type} {d0 : Cd t0} {d1 : Cd t1} {z : t0 × t1} {j : Nat} {p2 : Pos} (ha : DE X W ds a (cP (aCons d0 (aOne d1))) (.ok z)) (hp : PlainIx (.Constant (.int 1) j p2) := by exact fun _ _ => rfl) : DE X W ds (.Subscript a (.Constant (.int 1) j p2) pos) d1 (.ok (z.2)) := ixP aix_1_2 ha hp
theorem ix_1_2m {t0 : Type} {t1 : Type} {d0 : Cd t0} {d1 : Cd t1} {m : R (t0 × t1)} {j : Nat} {p2 : Pos} (ha : DE X W ds a (cP (aCons d0 (aOne d1))) m) (hp : PlainIx (.Constant (.int 1) j p2) := by exact fun _ _ => rfl) : DE X W ds (.Subscript a (.Constant (.int 1) j p2) pos) d1 (m >>= fun z => .ok (z.2)) := ixP aix_1_2 ha hp
theorem aix_0_3 {t0 : Type} {t1 : Type} {t2 : Type} {d0 : Cd t0} {d1 : Cd t1} {d2 : Cd t2} : AIx (aCons d0 (aCons d1 (aOne d2))) 0 3 d0 (fun z : t0 × t1 × t2 => z.1) := by
  intro K H vs z h
  obtain ⟨v0, ws0, e0, r0, h0⟩ := h
  obtain ⟨v1, ws1, e1, r1, h1⟩ := h0
  obtain ⟨v2, e2, r2⟩ := h1
  subst e2 e1 e0
  exact ⟨v0, by first | rfl | simp [atI, ixN], r0⟩
theorem ix_0_3p {t0 : Type} {t1 : Type} {t2 : Type} {d0 : Cd t0} {d1 : Cd t1} {d2 : Cd t2} {z : t0 × t1 × t2} {j : Nat} {p2 : Pos} (ha : DE X W ds a (cP (aCons d0 (aCons d1 (aOne d2)))) (.ok z)) (hp : PlainIx (.Constant (.int 0) j p2) := by exact fun _ _ => rfl) : DE X W ds (.Subscript a (.Constant (.int 0) j p2) pos) d0 (.ok (z.1)) := ixP aix_0_3 ha hp
theorem ix_0_3m {t0 : Type} {t1 : Type} {t2 : Type} {d0 : Cd t0} {d1 : Cd t1} {d2 : Cd t2} {m : R (t0 × t1 × t2)} {j : Nat} {p2 : Pos} (ha : DE X W ds a (cP (aCons d0 (aCons d1 (aOne d2)))) m) (hp : PlainIx (.Constant (.int 0) j p2) := by exact fun _ _ => rfl) : DE X W ds (.Subscript a (.Constant (.int 0) j p2) pos) d0 (m >>= fun z => .ok (z.1)) := ixP aix_0_3 ha hp
theorem aix_1_3 {t0 : Type} {t1 : Type} {t2 : Type} {d0 : Cd t0} {d1 : Cd t1} {d2 : Cd t2} : AIx (aCons d0 (aCons d1 (aOne d2))) 1 3 d1 (fun z : t0 × t1 × t2 => z.2.1) := by
  intro K H vs z h
  obtain ⟨v0, ws0, e0, r0, h0⟩ := h
  obtain ⟨v1, ws1, e1, r1, h1⟩ := h0
  obtain ⟨v2, e2, r2⟩ := h1
  subst e2 e1 e0
  exact ⟨v1, by first | rfl | simp [atI, ixN], r1⟩
theorem ix_1_3p {t0 : Type} {t1 : Type} {t2 : Type} {d0 : Cd t0} {d1 : Cd t1} {d2 : Cd t2} {z : t0 × t1 × t2} {j : Nat} {p2 : Pos} (ha : DE X W ds a (cP (aCons d0 (aCons d1 (aOne d2)))) (.ok z)) (hp : PlainIx (.Constant (.int 1) j p2) := by exact fun _ _ => rfl) : DE X W ds (.Subscript a (.Constant (.int 1) j p2) pos) d1 (.ok (z.2.1)) := ixP aix_1_3 ha hp
theorem ix_1_3m {t0 : Type} {t1 : Type} {t2 : Type} {d0 : Cd t0} {d1 : Cd t1} {d2 : Cd t2} {m : R (t0 × t1 × t2)} {j : Nat} {p2 : Pos} (ha : DE X W ds a (cP (aCons d0 (aCons d1 (aOne d2)))) m) (hp : PlainIx (.Constant (.int 1) j p2) := by exact fun _ _ => rfl) : DE X W ds (.Subscript a (.Constant (.int 1) j p2) pos) d1 (m >>= fun z => .ok (z.2.1)) := ixP aix_1_3 ha hp
theorem aix_2_3 {t0 : Type} {t1 : Type} {t2 : Type} {d0 : Cd t0} {d1 : Cd t1} {d2 : Cd t2} : AIx (aCons d0 (aCons d1 (aOne d2))) 2 3 d2 (fun z : t0 × t1 × t2 => z.2.2) := by
  intro K H vs z h
  obtain ⟨v0, ws0, e0, r0, h0⟩ := h
  obtain ⟨v1, ws1, e1, r1, h1⟩ := h0
  obtain ⟨v2, e2, r2⟩ := h1
  subst e2 e1 e0
  exact ⟨v2, by first | rfl | simp [atI, ixN], r2⟩
theorem ix_2_3p {t0 : Type} {t1 : Type} {t2 : Type} {d0 : Cd t0} {d1 : Cd t1} {d2 : Cd t2} {z : t0 × t1 × t2} {j : Nat} {p2 : Pos} (ha : DE X W ds a (cP (aCons d0 (aCons d1 (aOne d2)))) (.ok z)) (hp : PlainIx (.Constant (.int 2) j p2) := by exact fun _ _ => rfl) : DE X W ds (.Subscript a (.Constant (.int 2) j p2) pos) d2 (.ok (z.2.2)) := ixP aix_2_3 ha hp
theorem ix_2_3m {t0 : Type} {t1 : Type} {t2 : Type} {d0 : Cd t0} {d1 : Cd t1} {d2 : Cd t2} {m : R (t0 × t1 × t2)} {j : Nat} {p2 : Pos} (ha : DE X W ds a (cP (aCons d0 (aCons d1 (aOne d2)))) m) (hp : PlainIx (.Constant (.int 2) j p2) := by exact fun _ _ => rfl) : DE X W ds (.Subscript a (.Constant (.int 2) j p2) pos) d2 (m >>= fun z => .ok (z.2.2)) := ixP aix_2_3 ha hp
theorem aix_0_4 {t0 : Type} {t1 : Type} {t2 : Type} {t3 : Type} {d0 : Cd t0} {d1 : Cd t1} {d2 : Cd t2} {d3 : Cd t3} : AIx (aCons d0 (aCons d1 (aCons d2 (aOne d3)))) 0 4 d0 (fun z : t0 × t1 × t2 × t3 => z.1) := by
  intro K H vs z h
  obtain ⟨v0, ws0, e0, r0, h0⟩ := h
  obtain ⟨v1, ws1, e1, r1, h1⟩ := h0
  obtain ⟨v2, ws2, e2, r2, h2⟩ := h1
  obtain ⟨v3, e3, r3⟩ := h2
  subst e3 e2 e1 e0
  exact ⟨v0, by first | rfl | simp [atI, ixN], r0⟩
theorem ix_0_4p {t0 : Type} {t1 : Type} {t2 : Type} {t3 : Type} {d0 : Cd t0} {d1 : Cd t1} {d2 : Cd t2} {d3 : Cd t3} {z : t0 × t1 × t2 × t3} {j : Nat} {p2 : Pos} (ha : DE X W ds a (cP (aCons d0 (aCons d1 (aCons d2 (aOne d3))))) (.ok z)) (hp : PlainIx (.Constant (.int 0) j p2) := by exact fun _ _ => rfl) : DE X W ds (.Subscript a (.Constant (.int 0) j p2) pos) d0 (.ok (z.1)) := ixP aix_0_4 ha hp
theorem ix_0_4m {t0 : Type} {t1 : Type} {t2 : Type} {t3 : Type} {d0 : Cd t0} {d1 : Cd t1} {d2 : Cd t2} {d3 : Cd t3} {m : R (t0 × t1 × t2 × t3)} {j : Nat} {p2 : Pos} (ha : DE X W ds a (cP (aCons d0 (aCons d1 (aCons d2 (aOne d3))))) m) (hp : PlainIx (.Constant (.int 0) j p2) := by exact fun _ _ => rfl) : DE X W ds (.Subscript a (.Constant (.int 0) j p2) pos) d0 (m >>= fun z => .ok (z.1)) := ixP aix_0_4 ha hp
theorem aix_1_4 {t0 : Type} {t1 : Type} {t2 : Type} {t3 : Type} {d0 : Cd t0} {d1 : Cd t1} {d2 : Cd t2} {d3 : Cd t3} : AIx (aCons d0 (aCons d1 (aCons d2 (aOne d3)))) 1 4 d1 (fun z : t0 × t1 × t2 × t3 => z.2.1) := by
  intro K H vs z h
  obtain ⟨v0, ws0, e0, r0, h0⟩ := h
  obtain ⟨v1, ws1, e1, r1, h1⟩ := h0
  obtain ⟨v2, ws2, e2, r2, h2⟩ := h1
  obtain ⟨v3, e3, r3⟩ := h2
  subst e3 e2 e1 e0
  exact ⟨v1, by first | rfl | simp [atI, ixN], r1⟩
theorem ix_1_4p {t0 : Type} {t1 : Type} {t2 : Type} {t3 : Type} {d0 : Cd t0} {d1 : Cd t1} {d2 : Cd t2} {d3 : Cd t3} {z : t0 × t1 × t2 × t3} {j : Nat} {p2 : Pos} (ha : DE X W ds a (cP (aCons d0 (aCons d1 (aCons d2 (aOne d3))))) (.ok z)) (hp : PlainIx (.Constant (.int 1) j p2) := by exact fun _ _ => rfl) : DE X W ds (.Subscript a (.Constant (.int 1) j p2) pos) d1 (.ok (z.2.1)) := ixP aix_1_4 ha hp
theorem ix_1_4m {t0 : Type} {t1 : Type} {t2 : Type} {t3 : Type} {d0 : Cd t0} {d1 : Cd t1} {d2 : Cd t2} {d3 : Cd t3} {m : R (t0 × t1 × t2 × t3)} {j : Nat} {p2 : Pos} (ha : DE X W ds a (cP (aCons d0 (aCons d1 (aCons d2 (aOne d3))))) m) (hp : PlainIx (.Constant (.int 1) j p2) := by exact fun _ _ => rfl) : DE X W ds (.Subscript a (.Constant (.int 1) j p2) pos) d1 (m >>= fun z => .ok (z.2.1)) := ixP aix_1_4 ha hp
theorem aix_2_4 {t0 : Type} {t1 : Type} {t2 : Type} {t3 : Type} {d0 : Cd t0} {d1 : Cd t1} {d2 : Cd t2} {d3 : Cd t3} : AIx (aCons d0 (aCons d1 (aCons d2 (aOne d3)))) 2 4 d2 (fun z : t0 × t1 × t2 × t3 => z.2.2.1) := by
  intro K H vs z h
  obtain ⟨v0, ws0, e0, r0, h0⟩ := h
  obtain ⟨v1, ws1, e1, r1, h1⟩ := h0
  obtain ⟨v2, ws2, e2, r2, h2⟩ := h1
  obtain ⟨v3, e3, r3⟩ := h2
  subst e3 e2 e1 e0
  exact ⟨v2, by first | rfl | simp [atI, ixN], r2⟩
theorem ix_2_4p {t0 : Type} {t1 : Type} {t2 : Type} {t3 : Type} {d0 : Cd t0} {d1 : Cd t1} {d2 : Cd t2} {d3 : Cd t3} {z : t0 × t1 × t2 × t3} {j : Nat} {p2 : Pos} (ha : DE X W ds a (cP (aCons d0 (aCons d1 (aCons d2 (aOne d3))))) (.ok z)) (hp : PlainIx (.Constant (.int 2) j p2) := by exact fun _ _ => rfl) : DE X W ds (.Subscript a (.Constant (.int 2) j p2) pos) d2 (.ok (z.2.2.1)) := ixP aix_2_4 ha hp
theorem ix_2_4m {t0 : Type} {t1 : Type} {t2 : Type} {t3 : Type} {d0 : Cd t0} {d1 : Cd t1} {d2 : Cd t2} {d3 : Cd t3} {m : R (t0 × t1 × t2 × t3)} {j : Nat} {p2 : Pos} (ha : DE X W ds a (cP (aCons d0 (aCons d1 (aCons d2 (aOne d3))))) m) (hp : PlainIx (.Constant (.int 2) j p2) := by exact fun _ _ => rfl) : DE X W ds (.Subscript a (.Constant (.int 2) j p2) pos) d2 (m >>= fun z => .ok (z.2.2.1)) := ixP aix_2_4 ha hp
theorem aix_3_4 {t0 : Type} {t1 : Type} {t2 : Type} {t3 : Type} {d0 : Cd t0} {d1 : Cd t1} {d2 : Cd t2} {d3 : Cd t3} : AIx (aCons d0 (aCons d1 (aCons d2 (aOne d3)))) 3 4 d3 (fun z : t0 × t1 × t2 × t3 => z.2.2.2) := by
  intro K H vs z h
  obtain ⟨v0, ws0, e0, r0, h0⟩ := h
  obtain ⟨v1, ws1, e1, r1, h1⟩ := h0
  obtain ⟨v2, ws2, e2, r2, h2⟩ := h1
  obtain ⟨v3, e3, r3⟩ := h2
  subst e3 e2 e1 e0
  exact ⟨v3, by first | rfl | simp [atI, ixN], r3⟩
theorem ix_3_4p {t0 : Type} {t1 : Type} {t2 : Type} {t3 : Type} {d0 : Cd t0} {d1 : Cd t1} {d2 : Cd t2} {d3 : Cd t3} {z : t0 × t1 × t2 × t3} {j : Nat} {p2 : Pos} (ha : DE X W ds a (cP (aCons d0 (aCons d1 (aCons d2 (aOne d3))))) (.ok z)) (hp : PlainIx (.Constant (.int 3) j p2) := by exact fun _ _ => rfl) : DE X W ds (.Subscript a (.Constant (.int 3) j p2) pos) d3 (.ok (z.2.2.2)) := ixP aix_3_4 ha hp
theorem ix_3_4m {t0 : Type} {t1 : Type} {t2 : Type} {t3 : Type} {d0 : Cd t0} {d1 : Cd t1} {d2 : Cd t2} {d3 : Cd t3} {m : R (t0 × t1 × t2 × t3)} {j : Nat} {p2 : Pos} (ha : DE X W ds a (cP (aCons d0 (aCons d1 (aCons d2 (aOne d3))))) m) (hp : PlainIx (.Constant (.int 3) j p2) := by exact fun _ _ => rfl) : DE X W ds (.Subscript a (.Constant (.int 3) j p2) pos) d3 (m >>= fun z => .ok (z.2.2.2)) := ixP aix_3_4 ha hp
theorem aix_0_5 {t0 : Type} {t1 : Type} {t2 : Type} {t3 : Type} {t4 : Type} {d0 : Cd t0} {d1 : Cd t1} {d2 : Cd t2} {d3 : Cd t3} {d4 : Cd t4} : AIx (aCons d0 (aCons d1 (aCons d2 (aCons d3 (aOne d4))))) 0 5 d0 (fun z : t0 × t1 × t2 × t3 × t4 => z.1) := by
  intro K H vs z h
  obtain ⟨v0, ws0, e0, r0, h0⟩ := h
  obtain ⟨v1, ws1, e1, r1, h1⟩ := h0
  obtain ⟨v2, ws2, e2, r2, h2⟩ := h1
  obtain ⟨v3, ws3, e3, r3, h3⟩ := h2
  obtain ⟨v4, e4, r4⟩ := h3
  subst e4 e3 e2 e1 e0
  exact ⟨v0, by first | rfl | simp [atI, ixN], r0⟩
theorem ix_0_5p {t0 : Type} {t1 : Type} {t2 : Type} {t3 : Type} {t4 : Type} {d0 : Cd t0} {d1 : Cd t1} {d2 : Cd t2} {d3 : Cd t3} {d4 : Cd t4} {z : t0 × t1 × t2 × t3 × t4} {j : Nat} {p2 : Pos} (ha : DE X W ds a (cP (aCons d0 (aCons d1 (aCons d2 (aCons d3 (aOne d4)))))) (.ok z)) (hp : PlainIx (.Constant (.int 0) j p2) := by exact fun _ _ => rfl) : DE X W ds (.Subscript a (.Constant (.int 0) j p2) pos) d0 (.ok (z.1)) := ixP aix_0_5 ha hp
theorem ix_0_5m {t0 : Type} {t1 : Type} {t2 : Type} {t3 : Type} {t4 : Type} {d0 : Cd t0} {d1 : Cd t1} {d2 : Cd t2} {d3 : Cd t3} {d4 : Cd t4} {m : R (t0 × t1 × t2 × t3 × t4)} {j : Nat} {p2 : Pos} (ha : DE X W ds a (cP (aCons d0 (aCons d1 (aCons d2 (aCons d3 (aOne d4)))))) m) (hp : PlainIx (.Constant (.int 0) j p2) := by exact fun _ _ => rfl) : DE X W ds (.Subscript a (.Constant (.int 0) j p2) pos) d0 (m >>= fun z => .ok (z.1)) := ixP aix_0_5 ha hp
theorem aix_1_5 {t0 : Type} {t1 : Type} {t2 : Type} {t3 : Type} {t4 : Type} {d0 : Cd t0} {d1 : Cd t1} {d2 : Cd t2} {d3 : Cd t3} {d4 : Cd t4} : AIx (aCons d0 (aCons d1 (aCons d2 (aCons d3 (aOne d4))))) 1 5 d1 (fun z : t0 × t1 × t2 × t3 × t4 => z.2.1) := by
  intro K H vs z h
  obtain ⟨v0, ws0, e0, r0, h0⟩ := h
  obtain ⟨v1, ws1, e1, r1, h1⟩ := h0
  obtain ⟨v2, ws2, e2, r2, h2⟩ := h1
  obtain ⟨v3, ws3, e3, r3, h3⟩ := h2
  obtain ⟨v4, e4, r4⟩ := h3
  subst e4 e3 e2 e1 e0
  exact ⟨v1, by first | rfl | simp [atI, ixN], r1⟩
theorem ix_1_5p {t0 : Type} {t1 : Type} {t2 : Type} {t3 : Type} {t4 : Type} {d0 : Cd t0} {d1 : Cd t1} {d2 : Cd t2} {d3 : Cd t3} {d4 : Cd t4} {z : t0 × t1 × t2 × t3 × t4} {j : Nat} {p2 : Pos} (ha : DE X W ds a (cP (aCons d0 (aCons d1 (aCons d2 (aCons d3 (aOne d4)))))) (.ok z)) (hp : PlainIx (.Constant (.int 1) j p2) := by exact fun _ _ => rfl) : DE X W ds (.Subscript a (.Constant (.int 1) j p2) pos) d1 (.ok (z.2.1)) := ixP aix_1_5 ha hp
theorem ix_1_5m {t0 : Type} {t1 : Type} {t2 : Type} {t3 : Type} {t4 : Type} {d0 : Cd t0} {d1 : Cd t1} {d2 : Cd t2} {d3 : Cd t3} {d4 : Cd t4} {m : R (t0 × t1 × t2 × t3 × t4)} {j : Nat} {p2 : Pos} (ha : DE X W ds a (cP (aCons d0 (aCons d1 (aCons d2 (aCons d3 (aOne d4)))))) m) (hp : PlainIx (.Constant (.int 1) j p2) := by exact fun _ _ => rfl) : DE X W ds (.Subscript a (.Constant (.int 1) j p2) pos) d1 (m >>= fun z => .ok (z.2.1)) := ixP aix_1_5 ha hp
theorem aix_2_5 {t0 : Type} {t1 : Type} {t2 : Type} {t3 : Type} {t4 : Type} {d0 : Cd t0} {d1 : Cd t1} {d2 : Cd t2} {d3 : Cd t3} {d4 : Cd t4} : AIx (aCons d0 (aCons d1 (aCons d2 (aCons d3 (aOne d4))))) 2 5 d2 (fun z : t0 × t1 × t2 × t3 × t4 => z.2.2.1) := by
  intro K H vs z h
  obtain ⟨v0, ws0, e0, r0, h0⟩ := h
  obtain ⟨v1, ws1, e1, r1, h1⟩ := h0
  obtain ⟨v2, ws2, e2, r2, h2⟩ := h1
  obtain ⟨v3, ws3, e3, r3, h3⟩ := h2
  obtain ⟨v4, e4, r4⟩ := h3
  subst e4 e3 e2 e1 e0
  exact ⟨v2, by first | rfl | simp [atI, ixN], r2⟩
theorem ix_2_5p {t0 : Type} {t1 : Type} {t2 : Type} {t3 : Type} {t4 : Type} {d0 : Cd t0} {d1 : Cd t1} {d2 : Cd t2} {d3 : Cd t3} {d4 : Cd t4} {z : t0 × t1 × t2 × t3 × t4} {j : Nat} {p2 : Pos} (ha : DE X W ds a (cP (aCons d0 (aCons d1 (aCons d2 (aCons d3 (aOne d4)))))) (.ok z)) (hp : PlainIx (.Constant (.int 2) j p2) := by exact fun _ _ => rfl) : DE X W ds (.Subscript a (.Constant (.int 2) j p2) pos) d2 (.ok (z.2.2.1)) := ixP aix_2_5 ha hp
theorem ix_2_5m {t0 : Type} {t1 : Type} {t2 : Type} {t3 : Type} {t4 : Type} {d0 : Cd t0} {d1 : Cd t1} {d2 : Cd t2} {d3 : Cd t3} {d4 : Cd t4} {m : R (t0 × t1 × t2 × t3 × t4)} {j : Nat} {p2 : Pos} (ha : DE X W ds a (cP (aCons d0 (aCons d1 (aCons d2 (aCons d3 (aOne d4)))))) m) (hp : PlainIx (.Constant (.int 2) j p2) := by exact fun _ _ => rfl) : DE X W ds (.Subscript a (.Constant (.int 2) j p2) pos) d2 (m >>= fun z => .ok (z.2.2.1)) := ixP aix_2_5 ha hp
theorem aix_3_5 {t0 : Type} {t1 : Type} {t2 : Type} {t3 : Type} {t4 : Type} {d0 : Cd t0} {d1 : Cd t1} {d2 : Cd t2} {d3 : Cd t3} {d4 : Cd t4} : AIx (aCons d0 (aCons d1 (aCons d2 (aCons d3 (aOne d4))))) 3 5 d3 (fun z : t0 × t1 × t2 × t3 × t4 => z.2.2.2.1) := by
  intro K H vs z h
  obtain ⟨v0, ws0, e0, r0, h0⟩ := h
  obtain ⟨v1, ws1, e1, r1, h1⟩ := h0
  obtain ⟨v2, ws2, e2, r2, h2⟩ := h1
  obtain ⟨v3, ws3, e3, r3, h3⟩ := h2
  obtain ⟨v4, e4, r4⟩ := h3
  subst e4 e3 e2 e1 e0
  exact ⟨v3, by first | rfl | simp [atI, ixN], r3⟩
theorem ix_3_5p {t0 : Type} {t1 : Type} {t2 : Type} {t3 : Type} {t4 : Type} {d0 : Cd t0} {d1 : Cd t1} {d2 : Cd t2} {d3 : Cd t3} {d4 : Cd t4} {z : t0 × t1 × t2 × t3 × t4} {j : Nat} {p2 : Pos} (ha : DE X W ds a (cP (aCons d0 (aCons d1 (aCons d2 (aCons d3 (aOne d4)))))) (.ok z)) (hp : PlainIx (.Constant (.int 3) j p2) := by exact fun _ _ => rfl) : DE X W ds (.Subscript a (.Constant (.int 3) j p2) pos) d3 (.ok (z.2.2.2.1)) := ixP aix_3_5 ha hp
theorem ix_3_5m {t0 : Type} {t1 : Type} {t2 : Type} {t3 : Type} {t4 : Type} {d0 : Cd t0} {d1 : Cd t1} {d2 : Cd t2} {d3 : Cd t3} {d4 : Cd t4} {m : R (t0 × t1 × t2 × t3 × t4)} {j : Nat} {p2 : Pos} (ha : DE X W ds a (cP (aCons d0 (aCons d1 (aCons d2 (aCons d3 (aOne d4)))))) m) (hp : PlainIx (.Constant (.int 3) j p2) := by exact fun _ _ => rfl) : DE X W ds (.Subscript a (.Constant (.int 3) j p2) pos) d3 (m >>= fun z => .ok (z.2.2.2.1)) := ixP aix_3_5 ha hp
theorem aix_4_5 {t0 : Type} {t1 : Type} {t2 : Type} {t3 : Type} {t4 : Type} {d0 : Cd t0} {d1 : Cd t1} {d2 : Cd t2} {d3 : Cd t3} {d4 : Cd t4} : AIx (aCons d0 (aCons d1 (aCons d2 (aCons d3 (aOne d4))))) 4 5 d4 (fun z : t0 × t1 × t2 × t3 × t4 => z.2.2.2.2) := by
  intro K H vs z h
  obtain ⟨v0, ws0, e0, r0, h0⟩ := h
  obtain ⟨v1, ws1, e1, r1, h1⟩ := h0
  obtain ⟨v2, ws2, e2, r2, h2⟩ := h1
  obtain ⟨v3, ws3, e3, r3, h3⟩ := h2
  obtain ⟨v4, e4, r4⟩ := h3
  subst e4 e3 e2 e1 e0
  exact ⟨v4, by first | rfl | simp [atI, ixN], r4⟩
theorem ix_4_5p {t0 : Type} {t1 : Type} {t2 : Type} {t3 : Type} {t4 : Type} {d0 : Cd t0} {d1 : Cd t1} {d2 : Cd t2} {d3 : Cd t3} {d4 : Cd t4} {z : t0 × t1 × t2 × t3 × t4} {j : Nat} {p2 : Pos} (ha : DE X W ds a (cP (aCons d0 (aCons d1 (aCons d2 (aCons d3 (aOne d4)))))) (.ok z)) (hp : PlainIx (.Constant (.int 4) j p2) := by exact fun _ _ => rfl) : DE X W ds (.Subscript a (.Constant (.int 4) j p2) pos) d4 (.ok (z.2.2.2.2)) := ixP aix_4_5 ha hp
theorem ix_4_5m {t0 : Type} {t1 : Type} {t2 : Type} {t3 : Type} {t4 : Type} {d0 : Cd t0} {d1 : Cd t1} {d2 : Cd t2} {d3 : Cd t3} {d4 : Cd t4} {m : R (t0 × t1 × t2 × t3 × t4)} {j : Nat} {p2 : Pos} (ha : DE X W ds a (cP (aCons d0 (aCons d1 (aCons d2 (aCons d3 (aOne d4)))))) m) (hp : PlainIx (.Constant (.int 4) j p2) := by exact fun _ _ => rfl) : DE X W ds (.Subscript a (.Constant (.int 4) j p2) pos) d4 (m >>= fun z => .ok (z.2.2.2.2)) := ixP aix_4_5 ha hp
theorem aix_0_6 {t0 : Type} {t1 : Type} {t2 : Type} {t3 : Type} {t4 : Type} {t5 : Type} {d0 : Cd t0} {d1 : Cd t1} {d2 : Cd t2} {d3 : Cd t3} {d4 : Cd t4} {d5 : Cd t5} : AIx (aCons d0 (aCons d1 (aCons d2 (aCons d3 (aCons d4 (aOne d5)))))) 0 6 d0 (fun z : t0 × t1 × t2 × t3 × t4 × t5 => z.1) := by
  intro K H vs z h
  obtain ⟨v0, ws0, e0, r0, h0⟩ := h
  obtain ⟨v1, ws1, e1, r1, h1⟩ := h0
  obtain ⟨v2, ws2, e2, r2, h2⟩ := h1
  obtain ⟨v3, ws3, e3, r3, h3⟩ := h2
  obtain ⟨v4, ws4, e4, r4, h4⟩ := h3
  obtain ⟨v5, e5, r5⟩ := h4
  subst e5 e4 e3 e2 e1 e0
  exact ⟨v0, by first | rfl | simp [atI, ixN], r0⟩
theorem ix_0_6p {t0 : Type} {t1 : Type} {t2 : Type} {t3 : Type} {t4 : Type} {t5 : Type} {d0 : Cd t0} {d1 : Cd t1} {d2 : Cd t2} {d3 : Cd t3} {d4 : Cd t4} {d5 : Cd t5} {z : t0 × t1 × t2 × t3 × t4 × t5} {j : Nat} {p2 : Pos} (ha : DE X W ds a (cP (aCons d0 (aCons d1 (aCons d2 (aCons d3 (aCons d4 (aOne d5))))))) (.ok z)) (hp : PlainIx (.Constant (.int 0) j p2) := by exact fun _ _ => rfl) : DE X W ds (.Subscript a (.Constant (.int 0) j p2) pos) d0 (.ok (z.1)) := ixP aix_0_6 ha hp
theorem ix_0_6m {t0 : Type} {t1 : Type} {t2 : Type} {t3 : Type} {t4 : Type} {t5 : Type} {d0 : Cd t0} {d1 : Cd t1} {d2 : Cd t2} {d3 : Cd t3} {d4 : Cd t4} {d5 : Cd t5} {m : R (t0 × t1 × t2 × t3 × t4 × t5)} {j : Nat} {p2 : Pos} (ha : DE X W ds a (cP (aCons d0 (aCons d1 (aCons d2 (aCons d3 (aCons d4 (aOne d5))))))) m) (hp : PlainIx (.Constant (.int 0) j p2) := by exact fun _ _ => rfl) : DE X W ds (.Subscript a (.Constant (.int 0) j p2) pos) d0 (m >>= fun z => .ok (z.1)) := ixP aix_0_6 ha hp
theorem aix_1_6 {t0 : Type} {t1 : Type} {t2 : Type} {t3 : Type} {t4 : Type} {t5 : Type} {d0 : Cd t0} {d1 : Cd t1} {d2 : Cd t2} {d3 : Cd t3} {d4 : Cd t4} {d5 : Cd t5} : AIx (aCons d0 (aCons d1 (aCons d2 (aCons d3 (aCons d4 (aOne d5)))))) 1 6 d1 (fun z : t0 × t1 × t2 × t3 × t4 × t5 => z.2.1) := by
  intro K H vs z h
  obtain ⟨v0, ws0, e0, r0, h0⟩ := h
  obtain ⟨v1, ws1, e1, r1, h1⟩ := h0
  obtain ⟨v2, ws2, e2, r2, h2⟩ := h1
  obtain ⟨v3, ws3, e3, r3, h3⟩ := h2
  obtain ⟨v4, ws4, e4, r4, h4⟩ := h3
  obtain ⟨v5, e5, r5⟩ := h4
  subst e5 e4 e3 e2 e1 e0
  exact ⟨v1, by first | rfl | simp [atI, ixN], r1⟩
theorem ix_1_6p {t0 : Type} {t1 : Type} {t2 : Type} {t3 : Type} {t4 : Type} {t5 : Type} {d0 : Cd t0} {d1 : Cd t1} {d2 : Cd t2} {d3 : Cd t3} {d4 : Cd t4} {d5 : Cd t5} {z : t0 × t1 × t2 × t3 × t4 × t5} {j : Nat} {p2 : Pos} (ha : DE X W ds a (cP (aCons d0 (aCons d1 (aCons d2 (aCons d3 (aCons d4 (aOne d5))))))) (.ok z)) (hp : PlainIx (.Constant (.int 1) j p2) := by exact fun _ _ => rfl) : DE X W ds (.Subscript a (.Constant (.int 1) j p2) pos) d1 (.ok (z.2.1)) := ixP aix_1_6 ha hp
theorem ix_1_6m {t0 : Type} {t1 : Type} {t2 : Type} {t3 : Type} {t4 : Type} {t5 : Type} {d0 : Cd t0} {d1 : Cd t1} {d2 : Cd t2} {d3 : Cd t3} {d4 : Cd t4} {d5 : Cd t5} {m : R (t0 × t1 × t2 × t3 × t4 × t5)} {j : Nat} {p2 : Pos} (ha : DE X W ds a (cP (aCons d0 (aCons d1 (aCons d2 (aCons d3 (aCons d4 (aOne d5))))))) m) (hp : PlainIx (.Constant (.int 1) j p2) := by exact fun _ _ => rfl) : DE X W ds (.Subscript a (.Constant (.int 1) j p2) pos) d1 (m >>= fun z => .ok (z.2.1)) := ixP aix_1_6 ha hp
theorem aix_2_6 {t0 : Type} {t1 : Type} {t2 : Type} {t3 : Type} {t4 : Type} {t5 : Type} {d0 : Cd t0} {d1 : Cd t1} {d2 : Cd t2} {d3 : Cd t3} {d4 : Cd t4} {d5 : Cd t5} : AIx (aCons d0 (aCons d1 (aCons d2 (aCons d3 (aCons d4 (aOne d5)))))) 2 6 d2 (fun z : t0 × t1 × t2 × t3 × t4 × t5 => z.2.2.1) := by
  intro K H vs z h
  obtain ⟨v0, ws0, e0, r0, h0⟩ := h
  obtain ⟨v1, ws1, e1, r1, h1⟩ := h0
  obtain ⟨v2, ws2, e2, r2, h2⟩ := h1
  obtain ⟨v3, ws3, e3, r3, h3⟩ := h2
  obtain ⟨v4, ws4, e4, r4, h4⟩ := h3
  obtain ⟨v5, e5, r5⟩ := h4
  subst e5 e4 e3 e2 e1 e0
  exact ⟨v2, by first | rfl | simp [atI, ixN], r2⟩
theorem ix_2_6p {t0 : Type} {t1 : Type} {t2 : Type} {t3 : Type} {t4 : Type} {t5 : Type} {d0 : Cd t0} {d1 : Cd t1} {d2 : Cd t2} {d3 : Cd t3} {d4 : Cd t4} {d5 : Cd t5} {z : t0 × t1 × t2 × t3 × t4 × t5} {j : Nat} {p2 : Pos} (ha : DE X W ds a (cP (aCons d0 (aCons d1 (aCons d2 (aCons d3 (aCons d4 (aOne d5))))))) (.ok z)) (hp : PlainIx (.Constant (.int 2) j p2) := by exact fun _ _ => rfl) : DE X W ds (.Subscript a (.Constant (.int 2) j p2) pos) d2 (.ok (z.2.2.1)) := ixP aix_2_6 ha hp
theorem ix_2_6m {t0 : Type} {t1 : Type} {t2 : Type} {t3 : Type} {t4 : Type} {t5 : Type} {d0 : Cd t0} {d1 : Cd t1} {d2 : Cd t2} {d3 : Cd t3} {d4 : Cd t4} {d5 : Cd t5} {m : R (t0 × t1 × t2 × t3 × t4 × t5)} {j : Nat} {p2 : Pos} (ha : DE X W ds a (cP (aCons d0 (aCons d1 (aCons d2 (aCons d3 (aCons d4 (aOne d5))))))) m) (hp : PlainIx (.Constant (.int 2) j p2) := by exact fun _ _ => rfl) : DE X W ds (.Subscript a (.Constant (.int 2) j p2) pos) d2 (m >>= fun z => .ok (z.2.2.1)) := ixP aix_2_6 ha hp
theorem aix_3_6 {t0 : Type} {t1 : Type} {t2 : Type} {t3 : Type} {t4 : Type} {t5 : Type} {d0 : Cd t0} {d1 : Cd t1} {d2 : Cd t2} {d3 : Cd t3} {d4 : Cd t4} {d5 : Cd t5} : AIx (aCons d0 (aCons d1 (aCons d2 (aCons d3 (aCons d4 (aOne d5)))))) 3 6 d3 (fun z : t0 × t1 × t2 × t3 × t4 × t5 => z.2.2.2.1) := by
  intro K H vs z h
  obtain ⟨v0, ws0, e0, r0, h0⟩ := h
  obtain ⟨v1, ws1, e1, r1, h1⟩ := h0
  obtain ⟨v2, ws2, e2, r2, h2⟩ := h1
  obtain ⟨v3, ws3, e3, r3, h3⟩ := h2
  obtain ⟨v4, ws4, e4, r4, h4⟩ := h3
  obtain ⟨v5, e5, r5⟩ := h4
  subst e5 e4 e3 e2 e1 e0
  exact ⟨v3, by first | rfl | simp [atI, ixN], r3⟩
theorem ix_3_6p {t0 : Type} {t1 : Type} {t2 : Type} {t3 : Type} {t4 : Type} {t5 : Type} {d0 : Cd t0} {d1 : Cd t1} {d2 : Cd t2} {d3 : Cd t3} {d4 : Cd t4} {d5 : Cd t5} {z : t0 × t1 × t2 × t3 × t4 × t5} {j : Nat} {p2 : Pos} (ha : DE X W ds a (cP (aCons d0 (aCons d1 (aCons d2 (aCons d3 (aCons d4 (aOne d5))))))) (.ok z)) (hp : PlainIx (.Constant (.int 3) j p2) := by exact fun _ _ => rfl) : DE X W ds (.Subscript a (.Constant (.int 3) j p2) pos) d3 (.ok (z.2.2.2.1)) := ixP aix_3_6 ha hp
theorem ix_3_6m {t0 : Type} {t1 : Type} {t2 : Type} {t3 : Type} {t4 : Type} {t5 : Type} {d0 : Cd t0} {d1 : Cd t1} {d2 : Cd t2} {d3 : Cd t3} {d4 : Cd t4} {d5 : Cd t5} {m : R (t0 × t1 × t2 × t3 × t4 × t5)} {j : Nat} {p2 : Pos} (ha : DE X W ds a (cP (aCons d0 (aCons d1 (aCons d2 (aCons d3 (aCons d4 (aOne d5))))))) m) (hp : PlainIx (.Constant (.int 3) j p2) := by exact fun _ _ => rfl) : DE X W ds (.Subscript a (.Constant (.int 3) j p2) pos) d3 (m >>= fun z => .ok (z.2.2.2.1)) := ixP aix_3_6 ha hp
theorem aix_4_6 {t0 : Type} {t1 : Type} {t2 : Type} {t3 : Type} {t4 : Type} {t5 : Type} {d0 : Cd t0} {d1 : Cd t1} {d2 : Cd t2} {d3 : Cd t3} {d4 : Cd t4} {d5 : Cd t5} : AIx (aCons d0 (aCons d1 (aCons d2 (aCons d3 (aCons d4 (aOne d5)))))) 4 6 d4 (fun z : t0 × t1 × t2 × t3 × t4 × t5 => z.2.2.2.2.1) := by
  intro K H vs z h
  obtain ⟨v0, ws0, e0, r0, h0⟩ := h
  obtain ⟨v1, ws1, e1, r1, h1⟩ := h0
  obtain ⟨v2, ws2, e2, r2, h2⟩ := h1
  obtain ⟨v3, ws3, e3, r3, h3⟩ := h2
  obtain ⟨v4, ws4, e4, r4, h4⟩ := h3
  obtain ⟨v5, e5, r5⟩ := h4
  subst e5 e4 e3 e2 e1 e0
  exact ⟨v4, by first | rfl | simp [atI, ixN], r4⟩
theorem ix_4_6p {t0 : Type} {t1 : Type} {t2 : Type} {t3 : Type} {t4 : Type} {t5 : Type} {d0 : Cd t0} {d1 : Cd t1} {d2 : Cd t2} {d3 : Cd t3} {d4 : Cd t4} {d5 : Cd t5} {z : t0 × t1 × t2 × t3 × t4 × t5} {j : Nat} {p2 : Pos} (ha : DE X W ds a (cP (aCons d0 (aCons d1 (aCons d2 (aCons d3 (aCons d4 (aOne d5))))))) (.ok z)) (hp : PlainIx (.Constant (.int 4) j p2) := by exact fun _ _ => rfl) : DE X W ds (.Subscript a (.Constant (.int 4) j p2) pos) d4 (.ok (z.2.2.2.2.1)) := ixP aix_4_6 ha hp
theorem ix_4_6m {t0 : Type} {t1 : Type} {t2 : Type} {t3 : Type} {t4 : Type} {t5 : Type} {d0 : Cd t0} {d1 : Cd t1} {d2 : Cd t2} {d3 : Cd t3} {d4 : Cd t4} {d5 : Cd t5} {m : R (t0 × t1 × t2 × t3 × t4 × t5)} {j : Nat} {p2 : Pos} (ha : DE X W ds a (cP (aCons d0 (aCons d1 (aCons d2 (aCons d3 (aCons d4 (aOne d5))))))) m) (hp : PlainIx (.Constant (.int 4) j p2) := by exact fun _ _ => rfl) : DE X W ds (.Subscript a (.Constant (.int 4) j p2) pos) d4 (m >>= fun z => .ok (z.2.2.2.2.1)) := ixP aix_4_6 ha hp
theorem aix_5_6 {t0 : Type} {t1 : Type} {t2 : Type} {t3 : Type} {t4 : Type} {t5 : Type} {d0 : Cd t0} {d1 : Cd t1} {d2 : Cd t2} {d3 : Cd t3} {d4 : Cd t4} {d5 : Cd t5} : AIx (aCons d0 (aCons d1 (aCons d2 (aCons d3 (aCons d4 (aOne d5)))))) 5 6 d5 (fun z : t0 × t1 × t2 × t3 × t4 × t5 => z.2.2.2.2.2) := by
  intro K H vs z h
  obtain ⟨v0, ws0, e0, r0, h0⟩ := h
  obtain ⟨v1, ws1, e1, r1, h1⟩ := h0
  obtain ⟨v2, ws2, e2, r2, h2⟩ := h1
  obtain ⟨v3, ws3, e3, r3, h3⟩ := h2
  obtain ⟨v4, ws4, e4, r4, h4⟩ := h3
  obtain ⟨v5, e5, r5⟩ := h4
  subst e5 e4 e3 e2 e1 e0
  exact ⟨v5, by first | rfl | simp [atI, ixN], r5⟩
theorem ix_5_6p {t0 : Type} {t1 : Type} {t2 : Type} {t3 : Type} {t4 : Type} {t5 : Type} {d0 : Cd t0} {d1 : Cd t1} {d2 : Cd t2} {d3 : Cd t3} {d4 : Cd t4} {d5 : Cd t5} {z : t0 × t1 × t2 × t3 × t4 × t5} {j : Nat} {p2 : Pos} (ha : DE X W ds a (cP (aCons d0 (aCons d1 (aCons d2 (aCons d3 (aCons d4 (aOne d5))))))) (.ok z)) (hp : PlainIx (.Constant (.int 5) j p2) := by exact fun _ _ => rfl) : DE X W ds (.Subscript a (.Constant (.int 5) j p2) pos) d5 (.ok (z.2.2.2.2.2)) := ixP aix_5_6 ha hp
theorem ix_5_6m {t0 : Type} {t1 : Type} {t2 : Type} {t3 : Type} {t4 : Type} {t5 : Type} {d0 : Cd t0} {d1 : Cd t1} {d2 : Cd t2} {d3 : Cd t3} {d4 : Cd t4} {d5 : Cd t5} {m : R (t0 × t1 × t2 × t3 × t4 × t5)} {j : Nat} {p2 : Pos} (ha : DE X W ds a (cP (aCons d0 (aCons d1 (aCons d2 (aCons d3 (aCons d4 (aOne d5))))))) m) (hp : PlainIx (.Constant (.int 5) j p2) := by exact fun _ _ => rfl) : DE X W ds (.Subscript a (.Constant (.int 5) j p2) pos) d5 (m >>= fun z => .ok (z.2.2.2.2.2)) := ixP aix_5_6 ha hp
/-! ### arguments, displays -/
theorem argN : DA X W ds [] aNil (.ok ()) := ⟨tNil, pa_nil, fun S0 H0 σ S H Q E P => P.ok E.inn rfl⟩
theorem arg1 {c : Cd α} {m : R α} (ha : DE X W ds a c m) (hs : starEach (a :: []) X.env = (false, eval a X.env) :: starEach [] X.env := by rfl) : DA X W ds [a] (aOne c) m := by
  obtain ⟨t, p, q⟩ := ha
  refine ⟨_, pa_cons p pa_nil hs, fun S0 H0 σ S H Q E P => q S0 H0 σ S H _ E ?_⟩
  refine R.post_mono P (fun z k v S1 H1 g r => k [v] S1 H1 g ⟨v, rfl, r⟩) (fun _ k => k)
theorem argC {c : Cd α} {r : CA τ} {m : R α} {n : R τ} (ha : DE X W ds a c m) (hr : DA X W ds es r n) (hs : starEach (a :: es) X.env = (false, eval a X.env) :: starEach es X.env := by rfl) : DA X W ds (a :: es) (aCons c r) (m >>= fun x => n >>= fun y => .ok (x, y)) := by
  obtain ⟨t, p, q⟩ := ha
  obtain ⟨u, p2, q2⟩ := hr
  refine ⟨_, pa_cons p p2 hs, fun S0 H0 σ S H Q E P => q S0 H0 σ S H _ E (P.bind fun x v S1 H1 g r1 P1 => q2 S0 H0 σ S1 H1 _ (E.step g) (P1.bindA fun y vs S2 H2 g2 r2 P2 => P2.ok g2.inn ⟨v, vs, rfl, c.mono g2.st r1, r2⟩))⟩
theorem argC_pp {c : Cd α} {r : CA τ} {x : α} {y : τ} (ha : DE X W ds a c (.ok x)) (hr : DA X W ds es r (.ok y)) (hs : starEach (a :: es) X.env = (false, eval a X.env) :: starEach es X.env := by rfl) : DA X W ds (a :: es) (aCons c r) (.ok (x, y)) := argC ha hr hs
theorem argC_mp {c : Cd α} {r : CA τ} {m : R α} {y : τ} (ha : DE X W ds a c m) (hr : DA X W ds es r (.ok y)) (hs : starEach (a :: es) X.env = (false, eval a X.env) :: starEach es X.env := by rfl) : DA X W ds (a :: es) (aCons c r) (m >>= fun x => .ok (x, y)) := argC ha hr hs
theorem argC_pm {c : Cd α} {r : CA τ} {x : α} {n : R τ} (ha : DE X W ds a c (.ok x)) (hr : DA X W ds es r n) (hs : starEach (a :: es) X.env = (false, eval a X.env) :: starEach es X.env := by rfl) : DA X W ds (a :: es) (aCons c r) (n >>= fun y => .ok (x, y)) := argC ha hr hs
theorem argC_mm {c : Cd α} {r : CA τ} {m : R α} {n : R τ} (ha : DE X W ds a c m) (hr : DA X W ds es r n) (hs : starEach (a :: es) X.env = (false, eval a X.env) :: starEach es X.env := by rfl) : DA X W ds (a :: es) (aCons c r) (m >>= fun x => n >>= fun y => .ok (x, y)) := argC ha hr hs
theorem tup {r : CA τ} {m : R τ} {k : Nat} (hn : r.n ≤ sizeLine) (ha : DA X W ds es r m) : DE X W ds (.Tuple es k pos) (cP r) m := by
  obtain ⟨t, p, q⟩ := ha
  refine ⟨_, pe_tup p, fun S0 H0 σ S H Q E P => q S0 H0 σ S H _ E ?_⟩
  refine R.post_mono P (fun z k vs S1 H1 g r1 => ⟨by rw [r.len r1]; exact hn, fun q hq => ?_⟩) (fun _ k => k)
  have g2 : Grow S1 H1 (upd S1 q (.tup vs)) (upd H1 q (.tup vs)) := .lay g.inn hq
  exact k _ _ _ (g.trans g2) ⟨q, vs, rfl, SqT.of upd_same, r.mono g2.st r1⟩
/-- a list of values of one kind: the mirrors as a list -/
structure DAL (X : Cx) (W : WK) (ds : Env) (es : List Expr) {α : Type} (c : Cd α) (m : R (List α)) : Prop where
  ex : ∃ t : TA, PA X es t ∧ ∀ S0 H0 σ S H (Q : List V → Hp → Prop), EnvOk X.K S0 H0 ds σ S H →
    m.post (fun as => ∀ vs S' H', Grow S H S' H' → vs.length = es.length → Reps c X.K S' vs as → Q vs H') (fun x => ∀ cl d S' H', Grow S H S' H' → repX X.K S' cl d x → W σ cl d H') → t σ H Q
theorem lnil {c : Cd α} : DAL X W ds [] c (.ok []) := ⟨tNil, pa_nil, fun S0 H0 σ S H Q E P => P [] S H (.refl E.inn) rfl trivial⟩
theorem lcons {c : Cd α} {m : R α} {n : R (List α)} (ha : DE X W ds a c m) (hr : DAL X W ds es c n) (hs : starEach (a :: es) X.env = (false, eval a X.env) :: starEach es X.env := by rfl) : DAL X W ds (a :: es) c (m >>= fun x => n >>= fun y => .ok (x :: y)) := by
  obtain ⟨t, p, q⟩ := ha
  obtain ⟨u, p2, q2⟩ := hr
  refine ⟨_, pa_cons p p2 hs, fun S0 H0 σ S H Q E P => q S0 H0 σ S H _ E ?_⟩
  refine R.post_mono (R.post_bind.mp P) (fun x k v S1 H1 g r1 => q2 S0 H0 σ S1 H1 _ (E.step g) ?_) (fun _ k => k)
  refine R.post_mono (R.post_bind.mp k) (fun y k2 vs S2 H2 g2 l2 r2 => ?_) (fun _ k2 cl d S' H' g' r => k2 cl d S' H' (g.trans g') r)
  exact k2 (v :: vs) S2 H2 (g.trans g2) (congrArg Nat.succ l2) ⟨c.mono g2.st r1, r2⟩
theorem lcons_pp {c : Cd α} {x : α} {y : List α} (ha : DE X W ds a c (.ok x)) (hr : DAL X W ds es c (.ok y)) (hs : starEach (a :: es) X.env = (false, eval a X.env) :: starEach es X.env := by rfl) : DAL X W ds (a :: es) c (.ok (x :: y)) := lcons ha hr hs
theorem lcons_mp {c : Cd α} {m : R α} {y : List α} (ha : DE X W ds a c m) (hr : DAL X W ds es c (.ok y)) (hs : starEach (a :: es) X.env = (false, eval a X.env) :: starEach es X.env := by rfl) : DAL X W ds (a :: es) c (m >>= fun x => .ok (x :: y)) := lcons ha hr hs
theorem lcons_pm {c : Cd α} {x : α} {n : R (List α)} (ha : DE X W ds a c (.ok x)) (hr : DAL X W ds es c n) (hs : starEach (a :: es) X.env = (false, eval a X.env) :: starEach es X.env := by rfl) : DAL X W ds (a :: es) c (n >>= fun y => .ok (x :: y)) := lcons ha hr hs
theorem lcons_mm {c : Cd α} {m : R α} {n : R (List α)} (ha : DE X W ds a c m) (hr : DAL X W ds es c n) (hs : starEach (a :: es) X.env = (false, eval a X.env) :: starEach es X.env := by rfl) : DAL X W ds (a :: es) c (m >>= fun x => n >>= fun y => .ok (x :: y)) := lcons ha hr hs
/-! ### new lists -/
/-- a new list that nothing else holds -/
def DL (X : Cx) (W : WK) (ds : Env) (e : Expr) {α : Type} (c : Cd α) (m : R (List α)) : Prop :=
  ∃ t : TE, PE X e t ∧ ∀ S0 H0 σ S H (Q : VK), EnvOk X.K S0 H0 ds σ S H →
    m.post (fun as => ∀ p vs S' H', Grow S H S' H' → H p = none → S' p = none → H' p = some (.lst vs) → Reps c X.K S' vs as → Q (.ref p) H') (fun x => ∀ cl d S' H', Grow S H S' H' → repX X.K S' cl d x → W σ cl d H') → t σ H Q
theorem dl {c : Cd α} {m : R (List α)} (h : DL X W ds e c m) : DE X W ds e (cL c) m := by
  obtain ⟨t, p, q⟩ := h
  refine ⟨t, p, fun S0 H0 σ S H Q E P => q S0 H0 σ S H Q E (R.post_mono P (fun as k p vs S' H' g h1 h2 h3 r => ?_) (fun _ k => k))⟩
  have hs : Same S' (upd S' p (.lst vs)) := .new h2
  refine k (.ref p) (upd S' p (.lst vs)) H' ⟨g.ex, g.st.trans hs, fun a u ea => ?_, fun a ea na => ?_⟩ ⟨p, vs, rfl, SqL.of upd_same, Reps.mono hs r⟩
  · by_cases z : a = p
    · subst z
      rw [upd_same] at ea
      cases ea
      exact h3
    · rw [upd_ne z] at ea
      exact g.inn a u ea
  · by_cases z : a = p
    · rw [z]; exact h1
    · rw [upd_ne z] at na
      exact g.new a ea na
theorem lst {c : Cd α} {m : R (List α)} (ha : DAL X W ds es c m) (hn : es.length ≤ 1000 := by exact Nat.le_of_ble_eq_true rfl) : DL X W ds (.List es pos) c m := by
  obtain ⟨t, p, q⟩ := ha
  refine ⟨_, pe_lst p, fun S0 H0 σ S H Q E P => q S0 H0 σ S H _ E ?_⟩
  refine R.post_mono P (fun as k vs S1 H1 g l1 r1 => ?_) (fun _ k => k)
  refine ⟨by rw [l1]; exact Nat.le_trans hn (by decide), fun q hq => ?_⟩
  have g2 : Grow S1 H1 S1 (upd H1 q (.lst vs)) := .lay' g.inn hq
  exact k q vs S1 _ (g.trans g2) (g.ex.free hq) (g.inn.free hq) upd_same r1
theorem lst0 {c : Cd α} : DL X W ds (.List [] pos) c (.ok []) := by
  refine ⟨_, pe_lst pa_nil, fun S0 H0 σ S H Q E P => ⟨Nat.zero_le _, fun q hq => ?_⟩⟩
  exact P q [] S _ (.lay' E.inn hq) hq (E.inn.free hq) upd_same trivial
end
end Zk
set_option maxHeartbeats 4000000
/-! # Zk: calls, statements, loops -/
namespace Zk
open PySem PySem.Spec PyProof.Rows L2
section
variable {X : Cx} {W : WK} {ds : Env} {α β γ τ : Type} {a b : Expr} {e : Expr} {es : List Expr} {pos p : Pos} {c1 : Cd α} {c2 : Cd β} {c3 : Cd γ} {m1 : R α} {m2 : R β} {x : α} {y : β}
/-! ### calls of built-ins -/
def CallSem (K : PySem.W.Frag) (W : XK) (r : List V → Hp → VK → Prop) (ca : CA τ) (c : Cd γ) (g : τ → R γ) : Prop :=
  ∀ z vs S H Q, Same S H → ca.rep K S vs z → PX c K S H (g z) Q W → r vs H Q
theorem callB {id : String} {r : List V → Hp → VK → Prop} {nm : Str} {ca : CA τ} {g : τ → R γ} {m : R τ} (hc : CallR X (.builtin id) r) (hs : ∀ {W : XK}, CallSem X.K W r ca c3 g) (hv : bootBuiltins nm = some (.builtin id)) (hm : X.mg nm = none) (ha : DA X W ds (e :: es) ca m)
    (hg : Gl X nm := by rfl) (hn : nm ≠ "__name__" := by decide) (hdb : (nm == ("__debug__" : Str)) = false := by decide)
    (he : starEach (e :: es) X.env = (false, eval e X.env) :: starEach es X.env := by rfl) (hpl : (backTo pos (starEach es X.env)).any (·.1) = false := by rfl) : DE X W ds (.Call (.Name nm p) (e :: es) [] pos) c3 (m >>= g) := by
  obtain ⟨t, pa, q⟩ := ha
  exact ⟨_, pe_callB hc hg hm hv pa hn hdb he hpl, fun S0 H0 σ S H Q E P => q S0 H0 σ S H _ E (P.bindA fun z vs S1 H1 g1 r1 P1 => hs z vs S1 H1 Q g1.inn r1 P1)⟩
theorem callTy {T : String} {r : List V → Hp → VK → Prop} {nm : Str} {ca : CA τ} {g : τ → R γ} {m : R τ} (hc : CallR X (.type T) r) (hs : ∀ {W : XK}, CallSem X.K W r ca c3 g) (hv : bootBuiltins nm = some (.type T)) (hm : X.mg nm = none) (ha : DA X W ds (e :: es) ca m)
    (hg : Gl X nm := by rfl) (hn : nm ≠ "__name__" := by decide) (hdb : (nm == ("__debug__" : Str)) = false := by decide)
    (he : starEach (e :: es) X.env = (false, eval e X.env) :: starEach es X.env := by rfl) (hpl : (backTo pos (starEach es X.env)).any (·.1) = false := by rfl) : DE X W ds (.Call (.Name nm p) (e :: es) [] pos) c3 (m >>= g) := by
  obtain ⟨t, pa, q⟩ := ha
  exact ⟨_, pe_callTy hc hg hm hv pa hn hdb he hpl, fun S0 H0 σ S H Q E P => q S0 H0 σ S H _ E (P.bindA fun z vs S1 H1 g1 r1 P1 => hs z vs S1 H1 Q g1.inn r1 P1)⟩
theorem callF {id : String} {r : List V → Hp → VK → Prop} {nm : Str} {ca : CA τ} {g : τ → R γ} {m : R τ} (hc : CallR X (.builtin id) r) (hs : ∀ {W : XK}, CallSem X.K W r ca c3 g) (hm : X.mg nm = some (.builtin id)) (ha : DA X W ds (e :: es) ca m)
    (hg : Gl X nm := by rfl) (hdb : (nm == ("__debug__" : Str)) = false := by decide)
    (he : starEach (e :: es) X.env = (false, eval e X.env) :: starEach es X.env := by rfl) (hpl : (backTo pos (starEach es X.env)).any (·.1) = false := by rfl) : DE X W ds (.Call (.Name nm p) (e :: es) [] pos) c3 (m >>= g) := by
  obtain ⟨t, pa, q⟩ := ha
  exact ⟨_, pe_callBfun hc hg hm pa hdb he hpl, fun S0 H0 σ S H Q E P => q S0 H0 σ S H _ E (P.bindA fun z vs S1 H1 g1 r1 P1 => hs z vs S1 H1 Q g1.inn r1 P1)⟩
/-- the semantics of single built-ins -/
theorem cs_lenL {W : XK} {K : PySem.W.Frag} {c : Cd α} : CallSem K W (fun xs H Q => ∃ p ys, xs = [.ref p] ∧ (SqL K H p ys ∨ SqT K H p ys) ∧ Q (.int ys.length) H) (aOne (cL c)) cI (fun z => .ok (z.length : Int)) := fun z vs S H Q i r P => by
  obtain ⟨v, rfl, p, ws, e, h1, h2⟩ := r
  refine ⟨p, ws, by rw [e], .inl (Same.seq i h1), P.ok i ?_⟩
  show V.int _ = V.int _
  rw [h2.length]
theorem cs_lenT {W : XK} {K : PySem.W.Frag} {c : Cd α} : CallSem K W (fun xs H Q => ∃ p ys, xs = [.ref p] ∧ (SqL K H p ys ∨ SqT K H p ys) ∧ Q (.int ys.length) H) (aOne (cT c)) cI (fun z => .ok (z.length : Int)) := fun z vs S H Q i r P => by
  obtain ⟨v, rfl, p, ws, e, h1, h2⟩ := r
  refine ⟨p, ws, by rw [e], .inr (Same.tup i h1), P.ok i ?_⟩
  show V.int _ = V.int _
  rw [h2.length]
theorem cs_lenLT {W : XK} {K : PySem.W.Frag} {c : Cd α} : CallSem K W (fun xs H Q => ∃ p ys, xs = [.ref p] ∧ (SqL K H p ys ∨ SqT K H p ys) ∧ Q (.int ys.length) H) (aOne (cLT c)) cI (fun z => .ok (z.length : Int)) := fun z vs S H Q i r P => by
  obtain ⟨v, rfl, r⟩ := r
  rcases r with r | r
  · exact cs_lenL z _ S H Q i ⟨v, rfl, r⟩ P
  · exact cs_lenT z _ S H Q i ⟨v, rfl, r⟩ P
theorem cs_lenP {W : XK} {K : PySem.W.Frag} {ca : CA τ} : CallSem K W (fun xs H Q => ∃ p ys, xs = [.ref p] ∧ (SqL K H p ys ∨ SqT K H p ys) ∧ Q (.int ys.length) H) (aOne (cP ca)) cI (fun _ => .ok (ca.n : Int)) := fun z vs S H Q i r P => by
  obtain ⟨v, rfl, p, ws, e, h1, h2⟩ := r
  refine ⟨p, ws, by rw [e], .inr (Same.tup i h1), P.ok i ?_⟩
  show V.int _ = V.int _
  rw [ca.len h2]
theorem cs_int {W : XK} {K : PySem.W.Frag} : CallSem K W (fun xs H Q => (∃ i, xs = [.int i] ∧ Q (.int i) H) ∨ ∃ k, xs = [.bl k] ∧ Q (.int (if k then 1 else 0)) H) (aOne cI) cI (fun z => .ok z) := fun z vs S H Q i r P => by
  obtain ⟨v, rfl, e⟩ := r
  exact .inl ⟨z, by rw [show v = V.int z from e], P.ok i rfl⟩
theorem cs_intB {W : XK} {K : PySem.W.Frag} : CallSem K W (fun xs H Q => (∃ i, xs = [.int i] ∧ Q (.int i) H) ∨ ∃ k, xs = [.bl k] ∧ Q (.int (if k then 1 else 0)) H) (aOne cB) cI (fun z => .ok (if z = true then 1 else 0)) := fun z vs S H Q i r P => by
  obtain ⟨v, rfl, e⟩ := r
  exact .inr ⟨z, by rw [show v = V.bl z from e], P.ok i rfl⟩
theorem cs_abs {W : XK} {K : PySem.W.Frag} : CallSem K W (fun xs H Q => ∃ i, xs = [.int i] ∧ Q (.int (if i < 0 then -i else i)) H) (aOne cI) cI (fun z => .ok (if z < 0 then -z else z)) := fun z vs S H Q i r P => by
  obtain ⟨v, rfl, e⟩ := r
  exact ⟨z, by rw [show v = V.int z from e], P.ok i rfl⟩
theorem cs_max {W : XK} {K : PySem.W.Frag} : CallSem K W (fun xs H Q => ∃ i j, xs = [.int i, .int j] ∧ Q (.int (if j > i then j else i)) H) (aCons cI (aOne cI)) cI (fun z => .ok (if z.2 > z.1 then z.2 else z.1)) := fun z vs S H Q i r P => by
  obtain ⟨v, ws, rfl, e, u, rfl, e2⟩ := r
  exact ⟨z.1, z.2, by rw [show v = V.int z.1 from e, show u = V.int z.2 from e2], P.ok i rfl⟩
theorem cs_min {W : XK} {K : PySem.W.Frag} : CallSem K W (fun xs H Q => ∃ i j, xs = [.int i, .int j] ∧ Q (.int (if j < i then j else i)) H) (aCons cI (aOne cI)) cI (fun z => .ok (if z.2 < z.1 then z.2 else z.1)) := fun z vs S H Q i r P => by
  obtain ⟨v, ws, rfl, e, u, rfl, e2⟩ := r
  exact ⟨z.1, z.2, by rw [show v = V.int z.1 from e, show u = V.int z.2 from e2], P.ok i rfl⟩
theorem cs_gcd {W : XK} {K : PySem.W.Frag} : CallSem K W rGcd (aCons cI (aOne cI)) cI (fun z => .ok ((Int.gcd z.1 z.2 : Nat) : Int)) := fun z vs S H Q i r P => by
  obtain ⟨v, ws, rfl, e, u, rfl, e2⟩ := r
  exact ⟨z.1, z.2, by rw [show v = V.int z.1 from e, show u = V.int z.2 from e2], P.ok i rfl⟩
section
variable {m : R τ}
theorem lenL {nm : Str} {c : Cd α} {m : R (List α)} (hm : X.mg "len" = none) (ha : DE X W ds e (cL c) m) (hg : Gl X "len" := by rfl) (he : starEach (e :: []) X.env = (false, eval e X.env) :: starEach [] X.env := by rfl) (hpl : (backTo pos (starEach [] X.env)).any (·.1) = false := by rfl) :
    DE X W ds (.Call (.Name "len" p) [e] [] pos) cI (m >>= fun z => .ok (z.length : Int)) := callB (nm := "len") call_len_seq cs_lenL PySem.boot_len hm (arg1 ha he) hg (by decide) (by decide) he hpl
theorem lenT {nm : Str} {c : Cd α} {m : R (List α)} (hm : X.mg "len" = none) (ha : DE X W ds e (cT c) m) (hg : Gl X "len" := by rfl) (he : starEach (e :: []) X.env = (false, eval e X.env) :: starEach [] X.env := by rfl) (hpl : (backTo pos (starEach [] X.env)).any (·.1) = false := by rfl) :
    DE X W ds (.Call (.Name "len" p) [e] [] pos) cI (m >>= fun z => .ok (z.length : Int)) := callB (nm := "len") call_len_seq cs_lenT PySem.boot_len hm (arg1 ha he) hg (by decide) (by decide) he hpl
end
/-! ### calls of the program's own defs -/
def spF (K : PySem.W.Frag) (ca : CA τ) (c : Cd γ) (F : τ → R γ) : Sp := fun vs H Q E => ∃ S z, Same S H ∧ ca.rep K S vs z ∧ PX c K S H (F z) Q E
structure FnI (P : Program) (w : World) (K : PySem.W.Frag) (mg : Str → Option Value) (base : Heap) (x : Str) (k : Nat) (ps : List Str) (ca : CA τ) (c : Cd γ) (F : τ → R γ) : Prop where
  ex : ∃ f fd, FnOk P w K mg base (L2N.CX P w) k f fd ps (spF K ca c F) ∧ mg x = some (.ref f) ∧ PySem.W.keepIn K (.ref f) = true ∧ Binds K fd ps []
/-- what this body lets out of a callee's exceptions -/
abbrev Lets (X : Cx) (W : WK) : Prop := L2N.Takes X (fun cl d σ H => W σ cl d H)
theorem call {x : Str} {k : Nat} {ps : List Str} {ca : CA τ} {F : τ → R γ} {m : R τ} {n : R γ} (f : FnI X.prog X.w X.K X.mg X.base x k ps ca c3 F) (hr : Room k X.A) (hp : Lets X W) (ha : DA X W ds (e :: es) ca m) (hn : n = (m >>= F) := by rfl) (hg : Gl X x := by rfl)
    (hdb : (x == ("__debug__" : Str)) = false := by decide) (he : starEach (e :: es) X.env = (false, eval e X.env) :: starEach es X.env := by rfl) (hpl : (backTo pos (starEach es X.env)).any (·.1) = false := by rfl) : DE X W ds (.Call (.Name x p) (e :: es) [] pos) c3 n := by
  obtain ⟨f, fd, F1, h1, h2, h3⟩ := f.ex
  obtain ⟨t, pa, q⟩ := ha
  subst hn
  refine ⟨_, pe_callS (E := W) F1 hr hg h1 h2 h3 (fun σ => L2N.passAt hp σ) pa hdb he hpl, fun S0 H0 σ S H Q E P => q S0 H0 σ S H _ E (P.bindA fun z vs S1 H1 g1 r1 P1 => ?_)⟩
  exact ⟨S1, z, g1.inn, r1, P1⟩
theorem callP {x : Str} {k : Nat} {ps : List Str} {ca : CA τ} {F : τ → R γ} {z : τ} {n : R γ} (f : FnI X.prog X.w X.K X.mg X.base x k ps ca c3 F) (hr : Room k X.A) (hp : Lets X W) (ha : DA X W ds (e :: es) ca (.ok z)) (hn : n = F z := by exact rfl) (hg : Gl X x := by rfl)
    (hdb : (x == ("__debug__" : Str)) = false := by decide) (he : starEach (e :: es) X.env = (false, eval e X.env) :: starEach es X.env := by rfl) (hpl : (backTo pos (starEach es X.env)).any (·.1) = false := by rfl) : DE X W ds (.Call (.Name x p) (e :: es) [] pos) c3 n := by
  rw [hn]
  exact call f hr hp ha rfl hg hdb he hpl
theorem call0 [kw : KW W] {x : Str} {k : Nat} {ps : List Str} {F : Unit → R γ} {n : R γ} (f : FnI X.prog X.w X.K X.mg X.base x k ps aNil c3 F) (hr : Room k X.A) (hp : Lets X W) (hn : n = F () := by rfl) (hg : Gl X x := by rfl)
    (hdb : (x == ("__debug__" : Str)) = false := by decide) : DE X W ds (.Call (.Name x p) [] [] pos) c3 n := by
  obtain ⟨W, rfl⟩ := kw.ex
  obtain ⟨f, fd, F1, h1, h2, h3⟩ := f.ex
  subst hn
  refine ⟨_, pe_call0 F1 hr hg h1 h2 h3 .nil (L2N.passes_call hp fun _ _ _ _ h => h) hdb, fun S0 H0 σ S H Q E P => ⟨S, (), E.inn, rfl, P⟩⟩
end

/-! ### statements -/
/-- how what is handed back stands for its mirror: it may look at the heap of the start -/
abbrev RCd (β : Type) : Type := Hp → Cd β
inductive Out (β ν κ : Type) where
  | ret (b : β) | nxt (s : ν) | brk (s : κ) | ctn (s : κ)
section
variable {β ν κ ω : Type}
def OutP (K : PySem.W.Frag) (S0 H0 : Hp) (cb : RCd β) (eN : ν → Env) (eK : κ → Env) (D : Ends) (o : Out β ν κ) : Prop := match o with
  | .ret b => ∀ v S' H', Grow S0 H0 S' H' → (cb H0).rep K S' v b → D.rt v H'
  | .nxt s => ∀ σ' S' H', EnvOk K S0 H0 (eN s) σ' S' H' → D.nx σ' H'
  | .brk s => ∀ σ' S' H', EnvOk K S0 H0 (eK s) σ' S' H' → D.bk σ' H'
  | .ctn s => ∀ σ' S' H', EnvOk K S0 H0 (eK s) σ' S' H' → D.ct σ' H'
def EX (K : PySem.W.Frag) (W : XK) (S0 H0 : Hp) (x : Exn) : Prop := ∀ cl d S' H', Grow S0 H0 S' H' → repX K S' cl d x → W cl d H'
theorem Grow.base {S0 H0 S1 H1 S2 H2 : Hp} (a : Grow S0 H0 S1 H1) (b : Grow S1 H0 S2 H2) : Grow S0 H0 S2 H2 := by
  refine ⟨b.ex, a.st.trans b.st, b.inn, fun x e n => ?_⟩
  cases q : S1 x with
  | none => exact b.new x q n
  | some o => exact a.new x e (by rw [q]; exact fun z => by cases z)
theorem EnvOk.rebase {K : PySem.W.Frag} {S0 H0 S H : Hp} {ds : Env} {σ : L2.St} (E : EnvOk K S0 H0 ds σ S H) : EnvOk K S H0 ds σ S H :=
  ⟨E.len, E.own, ⟨E.grow.ex, .refl _, E.grow.inn, fun a e n => (n e).elim⟩⟩
theorem EnvOk.unbase {K : PySem.W.Frag} {S0 H0 S1 H1 S H : Hp} {ds : Env} {σ : L2.St} (g : Grow S0 H0 S1 H1) (E : EnvOk K S1 H0 ds σ S H) : EnvOk K S0 H0 ds σ S H :=
  ⟨E.len, E.own, g.base E.grow⟩
theorem OutP.rebase {K : PySem.W.Frag} {S0 H0 S1 H1 : Hp} {cb : RCd β} {eN : ν → Env} {eK : κ → Env} {D : Ends} {o : Out β ν κ} (g : Grow S0 H0 S1 H1) (h : OutP K S0 H0 cb eN eK D o) : OutP K S1 H0 cb eN eK D o := by
  cases o with
  | ret b => exact fun v S' H' g' r => h v S' H' (g.base g') r
  | nxt s => exact fun σ' S' H' E => h σ' S' H' (E.unbase g)
  | brk s => exact fun σ' S' H' E => h σ' S' H' (E.unbase g)
  | ctn s => exact fun σ' S' H' E => h σ' S' H' (E.unbase g)
theorem EX.rebase {K : PySem.W.Frag} {W : XK} {S0 H0 S1 H1 : Hp} {x : Exn} (g : Grow S0 H0 S1 H1) (h : EX K W S0 H0 x) : EX K W S1 H0 x := fun cl d S' H' g' r => h cl d S' H' (g.base g') r
/-- a block's own reading: what must hold that it runs -/
@[irreducible] def tS (X : Cx) (sts : List Stmt) : TS := fun D σ H => ∀ (pins : List (Addr × Obj)) (s : Shared), Inv X pins σ H s → wpAny (model X.prog X.w) X.A (execs sts X.env) (SP X pins D) X.xe s
theorem pss_tS {X : Cx} {sts : List Stmt} : PSs X sts (tS X sts) := ⟨fun pins s σ H D I h => by
  unfold tS at h
  exact h pins s I⟩
theorem PSs.to {X : Cx} {sts : List Stmt} {t : TS} (h : PSs X sts t) {D : Ends} {σ : L2.St} {H : Hp} (q : t D σ H) : tS X sts D σ H := by
  unfold tS
  exact fun pins s I => h.run pins s σ H D I q
/-- T: the block never comes to its end -/
def DS (X : Cx) (W : WK) (T : Bool) (ds : Env) (sts : List Stmt) (cb : RCd β) (eN : ν → Env) (eK : κ → Env) (I : ω → Out β ν κ) (m : R ω) : Prop :=
  ∀ S0 H0 σ S H (D : Ends) (nx : L2.St → Hp → Prop), (T = true ∨ nx = D.nx) → EnvOk X.K S0 H0 ds σ S H → m.post (fun w => OutP X.K S0 H0 cb eN eK D (I w)) (EX X.K (W σ) S0 H0) → tS X sts { D with nx := nx } σ H
end
section
variable {X : Cx} {W : WK} {T : Bool} {ds : Env} {α β γ τ ν κ ω : Type} {e : Expr} {st : Stmt} {sts rest : List Stmt} {pos p : Pos} {c : Cd α} {cb : RCd β} {eN : ν → Env} {eK : κ → Env} {I : ω → Out β ν κ} {m : R α} {k : α → R ω} {n : R ω}
/-- an expression within a statement -/
theorem stE {f : α → R ω} {S0 H0 S H : Hp} {σ : L2.St} {Q : VK} {D : Ends} (E : EnvOk X.K S0 H0 ds σ S H) (P : (m >>= f).post (fun w => OutP X.K S0 H0 cb eN eK D (I w)) (EX X.K (W σ) S0 H0))
    (h : ∀ a v S' H', EnvOk X.K S0 H0 ds σ S' H' → c.rep X.K S' v a → (f a).post (fun w => OutP X.K S0 H0 cb eN eK D (I w)) (EX X.K (W σ) S0 H0) → Q v H') : PX c X.K S H m Q (W σ) :=
  R.post_mono (R.post_bind.mp P) (fun a q v S' H' g r => h a v S' H' (E.step g) r q) (fun x q cl d S' H' g r => q cl d S' H' (E.grow.trans g) r)
theorem stT {m : R Bool} {f : Bool → R ω} {S0 H0 S H : Hp} {σ : L2.St} {Q : Bool → Hp → Prop} {D : Ends} (E : EnvOk X.K S0 H0 ds σ S H) (P : (m >>= f).post (fun w => OutP X.K S0 H0 cb eN eK D (I w)) (EX X.K (W σ) S0 H0))
    (h : ∀ a S' H', EnvOk X.K S0 H0 ds σ S' H' → (f a).post (fun w => OutP X.K S0 H0 cb eN eK D (I w)) (EX X.K (W σ) S0 H0) → Q a H') : PB X.K S H m Q (W σ) :=
  R.post_mono (R.post_bind.mp P) (fun a q S' H' g => h a S' H' (E.step g) q) (fun x q cl d S' H' g r => q cl d S' H' (E.grow.trans g) r)
theorem nil {w : ω} {s : ν} (hI : I w = .nxt s := by rfl) (l : EnvLe ds (eN s)) : DS X W false ds [] cb eN eK I (.ok w) := fun S0 H0 σ S H D nx h E P => by
  have e : nx = D.nx := h.resolve_left (by decide)
  subst e
  have P1 : OutP X.K S0 H0 cb eN eK D (I w) := P
  rw [hI] at P1
  exact PSs.to pss_nil (P1 σ S H (E.le l))
theorem never : DS X W T ds sts cb eN eK I .stuck := fun S0 H0 σ S H D nx h E P => False.elim P
/-- one statement ahead of the rest -/
theorem seq {t : TS} {D : Ends} {σ : L2.St} {H : Hp} (h : PS X st t) (q : t { D with nx := tS X rest D } σ H) : tS X (st :: rest) D σ H := PSs.to (pss_cons h pss_tS) q
/-- x = e -/
theorem asg [kw : KW W] {x : Str} {pos' : Pos} (i : Nat) (sn : X.N.Nodup) (he : DE X W ds e c m) (hr : ∀ z, DS X W T (ds.put i (.st α c z)) rest cb eN eK I (k z)) (hi : X.N[i]? = some x := by rfl) (hx : Loc X.env.scope x := by first | exact Or.inl rfl | exact Or.inr rfl)
    (hs : swapsWith e (some (.Name x pos')) pos.line X.env = pure false := by rfl) (hf : X.fn x = true ∨ X.env.scope.names.lookup x = some .local := by first | exact .inl rfl | exact .inr rfl) : DS X W T ds (.Assign [.Name x pos'] e pos :: rest) cb eN eK I (m >>= k) := fun S0 H0 σ S H D nx h E P => by
  obtain ⟨W, rfl⟩ := kw.ex
  obtain ⟨te, pe, qe⟩ := he
  exact seq (ps_set (i := i) sn hi hx pe hs hf) (qe S0 H0 σ S H _ E (stE (W := fun _ => W) E P fun z v S' H' E' r P' => hr z S0 H0 _ S' H' D nx h (E'.putS r) P'))
/-- x = a new list that will change -/
theorem asgM [kw : KW W] {x : Str} {pos' : Pos} {m : R (List α)} {k : List α → R ω} (i : Nat) (sn : X.N.Nodup) (he : DL X W ds e c m) (hr : ∀ z, DS X W T (ds.put i (.mu α c z)) rest cb eN eK I (k z)) (hi : X.N[i]? = some x := by rfl) (hx : Loc X.env.scope x := by first | exact Or.inl rfl | exact Or.inr rfl)
    (hs : swapsWith e (some (.Name x pos')) pos.line X.env = pure false := by rfl) (hf : X.fn x = true ∨ X.env.scope.names.lookup x = some .local := by first | exact .inl rfl | exact .inr rfl) : DS X W T ds (.Assign [.Name x pos'] e pos :: rest) cb eN eK I (m >>= k) := fun S0 H0 σ S H D nx h E P => by
  obtain ⟨W, rfl⟩ := kw.ex
  obtain ⟨te, pe, qe⟩ := he
  exact seq (ps_set (i := i) sn hi hx pe hs hf) (qe S0 H0 σ S H _ E (R.post_mono (R.post_bind.mp P) (fun z q p vs S' H' g h1 h2 h3 r => hr z S0 H0 _ S' H' D nx h (E.putM g h1 h2 h3 r) q) (fun x q cl d S' H' g r => q cl d S' H' (E.grow.trans g) r)))
/-- the list in slot i settles -/
theorem settle (i : Nat) {as : List α} (hd : ds.get i = .mu α c as := by rfl) (hr : DS X W T (ds.put i (.st (List α) (cL c) as)) sts cb eN eK I n) : DS X W T ds sts cb eN eK I n := fun S0 H0 σ S H D nx h E P => by
  obtain ⟨S', hs, E'⟩ := E.freeze hd
  exact hr S0 H0 σ S' H D nx h E' P
/-- return e -/
theorem ret {cr : Cd β} {g : β → ω} {m : R β} (he : DE X W ds e cr m) (hI : ∀ b, I (g b) = .ret b) : DS X W T ds (.Return (some e) pos :: rest) (fun _ => cr) eN eK I (m >>= fun b => .ok (g b)) := fun S0 H0 σ S H D nx h E P => by
  obtain ⟨te, pe, qe⟩ := he
  refine seq (ps_ret pe) (qe S0 H0 σ S H _ E (stE E P fun b v S' H' E' r P' => ?_))
  have P1 : OutP X.K S0 H0 (fun _ => cr) eN eK D (I (g b)) := P'
  rw [hI] at P1
  exact P1 v S' H' E'.grow r
/-- return e, the mirror the value itself -/
theorem retF {cr : Cd β} {m : R β} {I : β → Out β ν κ} (he : DE X W ds e cr m) (hI : ∀ b, I b = .ret b := by intro _; rfl) : DS X W T ds (.Return (some e) pos :: rest) (fun _ => cr) eN eK I m := by
  have q := ret (T := T) (rest := rest) (pos := pos) (eN := eN) (eK := eK) (g := fun b => b) he hI
  rw [show (m >>= fun b => R.ok b) = m from R.bind_ok m] at q
  exact q
theorem retO {cr : Cd β} {b : β} {I : ω → Out β ν κ} {w : ω} (he : DE X W ds e cr (.ok b)) (hI : I w = .ret b := by rfl) : DS X W T ds (.Return (some e) pos :: rest) (fun _ => cr) eN eK I (.ok w) := fun S0 H0 σ S H D nx h E P => by
  obtain ⟨te, pe, qe⟩ := he
  refine seq (ps_ret pe) (qe S0 H0 σ S H _ E (fun v S' H' g r => ?_))
  have P1 : OutP X.K S0 H0 (fun _ => cr) eN eK D (I w) := P
  rw [hI] at P1
  exact P1 v S' H' (E.grow.trans g) r
/-- break, continue -/
theorem brk {w : ω} {s : κ} (l : EnvLe ds (eK s)) (hI : I w = .brk s := by rfl) : DS X W T ds (.Break pos :: rest) cb eN eK I (.ok w) := fun S0 H0 σ S H D nx h E P => by
  have P1 : OutP X.K S0 H0 cb eN eK D (I w) := P
  rw [hI] at P1
  exact seq ps_break (P1 σ S H (E.le l))
theorem cont {w : ω} {s : κ} (l : EnvLe ds (eK s)) (hI : I w = .ctn s := by rfl) : DS X W T ds (.Continue pos :: rest) cb eN eK I (.ok w) := fun S0 H0 σ S H D nx h E P => by
  have P1 : OutP X.K S0 H0 cb eN eK D (I w) := P
  rw [hI] at P1
  exact seq ps_continue (P1 σ S H (E.le l))
theorem pass (hr : DS X W T ds rest cb eN eK I n) : DS X W T ds (.Pass pos :: rest) cb eN eK I n := fun S0 H0 σ S H D nx h E P => seq ps_pass (hr S0 H0 σ S H D nx h E P)
/-- e as a statement -/
theorem drop (he : DE X W ds e c m) (hr : ∀ z, DS X W T ds rest cb eN eK I (k z)) (hs : swapsWith e none pos.line X.env = pure false := by rfl) : DS X W T ds (.Expr e pos :: rest) cb eN eK I (m >>= k) := fun S0 H0 σ S H D nx h E P => by
  obtain ⟨te, pe, qe⟩ := he
  exact seq (ps_expr pe hs) (qe S0 H0 σ S H _ E (stE E P fun z v S' H' E' r P' => hr z S0 H0 _ S' H' D nx h E' P'))
/-! ### if -/
section
variable {t : Expr} {A B : List Stmt} {mt : R Bool} {nA nB : R ω}
/-- the last statement: both ends are the block's end -/
theorem if2 (ht : DT X W ds t mt) (hA : DS X W T ds A cb eN eK I nA) (hB : DS X W T ds B cb eN eK I nB) : DS X W T ds [.If t A B pos] cb eN eK I (mt >>= fun z => if z = true then nA else nB) := fun S0 H0 σ S H D nx h E P => by
  obtain ⟨tt, pt, qt⟩ := ht
  refine PSs.to (pss_one (ps_if pt pss_tS pss_tS)) (qt S0 H0 σ S H _ E (stT E P fun z S' H' E' P' => ?_))
  cases z with
  | true => exact hA S0 H0 σ S' H' D nx h E' P'
  | false => exact hB S0 H0 σ S' H' D nx h E' P'
/-- the first branch leaves -/
theorem ifA (ht : DT X W ds t mt) (hA : DS X W true ds A cb eN eK I nA) (hr : DS X W T ds rest cb eN eK I n) : DS X W T ds (.If t A [] pos :: rest) cb eN eK I (mt >>= fun z => if z = true then nA else n) := fun S0 H0 σ S H D nx h E P => by
  obtain ⟨tt, pt, qt⟩ := ht
  refine seq (ps_if pt pss_tS pss_nil) (qt S0 H0 σ S H _ E (stT E P fun z S' H' E' P' => ?_))
  cases z with
  | true => exact hA S0 H0 σ S' H' D _ (.inl rfl) E' P'
  | false => exact hr S0 H0 σ S' H' D nx h E' P'
theorem ifA_p {z : Bool} (ht : DT X W ds t (.ok z)) (hA : DS X W true ds A cb eN eK I nA) (hr : DS X W T ds rest cb eN eK I n) : DS X W T ds (.If t A [] pos :: rest) cb eN eK I (if z = true then nA else n) := ifA ht hA hr
theorem if2_p {z : Bool} (ht : DT X W ds t (.ok z)) (hA : DS X W T ds A cb eN eK I nA) (hB : DS X W T ds B cb eN eK I nB) : DS X W T ds [.If t A B pos] cb eN eK I (if z = true then nA else nB) := if2 ht hA hB
/-- both come to the rest: what they leave is joined -/
theorem ifJ [kw : KW W] {σ' : Type} {eJ : σ' → Env} {jA jB : R σ'} {kJ : σ' → R ω} (ht : DT X W ds t mt) (hA : DS X W false ds A cb eJ eK (fun s => (.nxt s : Out β σ' κ)) jA) (hB : DS X W false ds B cb eJ eK (fun s => (.nxt s : Out β σ' κ)) jB) (hr : ∀ s, DS X W T (eJ s) rest cb eN eK I (kJ s)) :
    DS X W T ds (.If t A B pos :: rest) cb eN eK I (mt >>= fun z => (if z = true then jA else jB) >>= kJ) := fun S0 H0 σ S H D nx h E P => by
  obtain ⟨W, rfl⟩ := kw.ex
  obtain ⟨tt, pt, qt⟩ := ht
  refine seq (ps_if pt pss_tS pss_tS) (qt S0 H0 σ S H _ E (stT (W := fun _ => W) E P fun z S' H' E' P' => ?_))
  cases z with
  | true => exact hA S0 H0 σ S' H' { D with nx := tS X rest { D with nx := nx } } _ (.inr rfl) E' (R.post_mono (R.post_bind.mp P') (fun s q σ2 S2 H2 E2 => hr s S0 H0 σ2 S2 H2 D nx h E2 q) (fun _ q => q))
  | false => exact hB S0 H0 σ S' H' { D with nx := tS X rest { D with nx := nx } } _ (.inr rfl) E' (R.post_mono (R.post_bind.mp P') (fun s q σ2 S2 H2 E2 => hr s S0 H0 σ2 S2 H2 D nx h E2 q) (fun _ q => q))
theorem ifJ_p [kw : KW W] {z : Bool} {σ' : Type} {eJ : σ' → Env} {jA jB : R σ'} {kJ : σ' → R ω} (ht : DT X W ds t (.ok z)) (hA : DS X W false ds A cb eJ eK (fun s => (.nxt s : Out β σ' κ)) jA) (hB : DS X W false ds B cb eJ eK (fun s => (.nxt s : Out β σ' κ)) jB) (hr : ∀ s, DS X W T (eJ s) rest cb eN eK I (kJ s)) :
    DS X W T ds (.If t A B pos :: rest) cb eN eK I ((if z = true then jA else jB) >>= kJ) := ifJ ht hA hB hr
/-- any branches -/
def Out.thn {σ' : Type} (I : ω → Out β ν κ) (o : Out β σ' κ) (kJ : σ' → R ω) (up : Out β Empty κ → ω) : R ω := match o with
  | .nxt s => kJ s
  | .ret b => .ok (up (.ret b))
  | .brk s => .ok (up (.brk s))
  | .ctn s => .ok (up (.ctn s))
end
/-! ### append, a store by place -/
def appM (xs : List α) (z : α) : R (List α) := R.guard (xs.length < 16000000) (xs ++ [z])
def setM (xs : List α) (i : Int) (z : α) : R (List α) := match ixN xs.length i with
  | some j => .ok (xs.set j z)
  | none => .stuck
/-- x.append(e), x's list still changes -/
theorem app {x : Str} {p1 p2 p3 : Pos} {as : List α} {k : List α → R ω} (i : Nat) (he : DE X W ds e c m) (hr : ∀ zs, DS X W T (ds.put i (.mu α c zs)) rest cb eN eK I (k zs)) (hd : ds.get i = .mu α c as := by rfl) (hN : X.N[i]? = some x := by rfl)
    (hv : Vis X.env.scope x := by first | exact Or.inl rfl | exact Or.inr (Or.inl rfl) | exact Or.inr (Or.inr rfl)) (hdb : (x == ("__debug__" : Str)) = false := by decide) (hcd : (x == ("__classdict__" : Str)) = false := by decide)
    (hs : swapsWith (.Call (.Attribute (.Name x p1) "append" p2) [e] [] p3) none pos.line X.env = pure false := by rfl)
    (ho : starEach [e] X.env = (false, eval e X.env) :: starEach [] X.env := by rfl)
    (pb : ∀ {te : TE}, PE X e te → PE X (.Call (.Attribute (.Name x p1) "append" p2) [e] [] p3) (tBM X.K "list" rAppend (tVar i) (tCons te tNil)) := by
      intro te pe; exact pe_bm PySem.F.plainAttrs_list PySem.F.slot_list_append PySem.F.type_list_append mt_append (pv _) (pa_cons pe pa_nil)) :
    DS X W T ds (.Expr (.Call (.Attribute (.Name x p1) "append" p2) [e] [] p3) pos :: rest) cb eN eK I (m >>= fun z => appM as z >>= k) := fun S0 H0 σ S H D nx h E P => by
  obtain ⟨te, pe, qe⟩ := he
  obtain ⟨l, vs, h1, h2, h3, h4, h5⟩ := E.muv hd
  refine seq (ps_expr (pb pe) hs) ⟨.ref l, h1, Or.inl ⟨rfl, vs, SqL.of h4⟩, qe S0 H0 σ S H _ E (stE E P fun z v S' H' E' r P' => ?_)⟩
  obtain ⟨l', vs', k1, k2, k3, k4, k5⟩ := E'.muv hd
  rw [h1] at k1
  cases k1
  obtain ⟨g1, g2⟩ : as.length < 16000000 ∧ (k (as ++ [z])).post (fun w => OutP X.K S0 H0 cb eN eK D (I w)) (EX X.K (W σ) S0 H0) := by
    unfold appM R.guard at P'
    split at P'
    · exact ⟨by assumption, P'⟩
    · exact False.elim P'
  refine ⟨l, vs', v, rfl, rfl, k4, ?_, ?_⟩
  · rw [k5.length]
    exact Nat.lt_of_lt_of_le g1 (by decide)
  · exact hr _ S0 H0 σ S' _ D nx h (E'.mutate (vs := vs' ++ [v]) hd h1 (k5.append (show Reps c X.K S' [v] [z] from ⟨r, trivial⟩))) g2
end
end Zk
set_option maxHeartbeats 4000000
/-! # Zk: what is walked, loops, comprehensions, defs -/
namespace Zk
open PySem PySem.Spec PyProof.Rows L2
/-! ### what is walked -/
/-- J gives the values of as, one a turn -/
def ItOk {α : Type} (J : It) (K : PySem.W.Frag) (S : Hp) (c : Cd α) (as : List α) : Prop :=
  ∀ (i : Nat) (S1 H1 : Hp), Same S S1 → Same S1 H1 → (as.length ≤ i → J.stop i H1) ∧ (∀ a, as[i]? = some a → J.go i H1 ∧ ∀ x H', J.yld i H1 x H' → ∃ S', Grow S1 H1 S' H' ∧ c.rep K S' x a)
def DI (X : Cx) (W : WK) (ds : Env) (tg iter : Expr) {α : Type} (c : Cd α) (m : R (List α)) : Prop :=
  ∃ wi : TI, PI X tg iter wi ∧ ∀ S0 H0 σ S H (Q : It → Hp → Prop), EnvOk X.K S0 H0 ds σ S H →
    m.post (fun as => ∀ J S' H', Grow S H S' H' → ItOk J X.K S' c as → Q J H') (fun x => ∀ cl d S' H', Grow S H S' H' → repX X.K S' cl d x → W σ cl d H') → wi σ H Q
/-- a target: the slots behind it -/
def DG (X : Cx) (tg : Expr) {α σ' : Type} (c : Cd α) (e0 : σ' → Env) (eB : σ' → α → Env) : Prop :=
  ∃ g : TG, PG X tg g ∧ ∀ s a v S0 H0 σ S H (Q : L2.St → Hp → Prop), EnvOk X.K S0 H0 (e0 s) σ S H → c.rep X.K S v a → (∀ σ', EnvOk X.K S0 H0 (eB s a) σ' S H → Q σ' H) → g v σ H Q
section
variable {X : Cx} {W : WK} {ds : Env} {α β γ τ : Type} {a b : Expr} {e : Expr} {es : List Expr} {pos p : Pos} {c : Cd α} {c2 : Cd β} {m : R (List α)} {tg : Expr}
theorem itl_ok {K : PySem.W.Frag} {S : Hp} {l : Addr} {vs : List V} {as : List α} (h : SqL K S l vs) (r : Reps c K S vs as) : ItOk (Itl K l) K S c as := fun i S1 H1 s1 s2 => by
  have h1 : SqL K H1 l vs := Same.seq s2 (Same.seq s1 h)
  refine ⟨fun hi => ⟨vs, h1, by rw [r.length]; exact hi⟩, fun a ha => ?_⟩
  obtain ⟨v, k1, k2⟩ := r.get ha
  refine ⟨⟨vs, v, h1, k1⟩, fun x H' y => ?_⟩
  obtain ⟨e, y⟩ := y
  subst e
  have ex := y vs h1
  rw [k1] at ex
  cases ex
  exact ⟨S1, .refl s2, c.mono s1 k2⟩
theorem itt_ok {K : PySem.W.Frag} {S : Hp} {l : Addr} {vs : List V} {as : List α} (h : SqT K S l vs) (r : Reps c K S vs as) : ItOk (Itt K l) K S c as := fun i S1 H1 s1 s2 => by
  have h1 : SqT K H1 l vs := Same.tup s2 (Same.tup s1 h)
  refine ⟨fun hi => ⟨vs, h1, by rw [r.length]; exact hi⟩, fun a ha => ?_⟩
  obtain ⟨v, k1, k2⟩ := r.get ha
  refine ⟨⟨vs, v, h1, k1⟩, fun x H' y => ?_⟩
  obtain ⟨e, y⟩ := y
  subst e
  have ex := y vs h1
  rw [k1] at ex
  cases ex
  exact ⟨S1, .refl s2, c.mono s1 k2⟩
theorem iterL (ha : DE X W ds a (cL c) m) : DI X W ds tg a c m := by
  obtain ⟨t, p, q⟩ := ha
  refine ⟨_, pi_list p, fun S0 H0 σ S H Q E P => q S0 H0 σ S H _ E (R.post_mono P (fun as k v S' H' g r => ?_) (fun _ k => k))⟩
  obtain ⟨l, vs, e, h1, h2⟩ := r
  exact ⟨l, e, ⟨vs, Same.seq g.inn h1⟩, k _ S' H' g (itl_ok h1 h2)⟩
theorem iterT (ha : DE X W ds a (cT c) m) : DI X W ds tg a c m := by
  obtain ⟨t, p, q⟩ := ha
  refine ⟨_, pi_tup p, fun S0 H0 σ S H Q E P => q S0 H0 σ S H _ E (R.post_mono P (fun as k v S' H' g r => ?_) (fun _ k => k))⟩
  obtain ⟨l, vs, e, h1, h2⟩ := r
  exact ⟨l, e, ⟨vs, Same.tup g.inn h1⟩, k _ S' H' g (itt_ok h1 h2)⟩
/-- a list or a tuple -/
def iSeq (K : PySem.W.Frag) (tl : TE) : TI := fun σ H R => tl σ H fun x H1 => ∃ a, x = .ref a ∧ (((∃ xs, SqL K H1 a xs) ∧ R (Itl K a) H1) ∨ ((∃ xs, SqT K H1 a xs) ∧ R (Itt K a) H1))
theorem pi_seq {l : Expr} {tl : TE} (hl : PE X l tl) : PI X tg l (iSeq X.K tl) := by
  refine ⟨fun pins s σ H R I h => ?_⟩
  refine thn (hl.run pins s σ H _ I h) fun v s1 ⟨x, H1, I1, r1, q1⟩ => ?_
  obtain ⟨a, e, q1⟩ := q1
  subst e
  cases r1
  rcases q1 with ⟨⟨xs, hq⟩, q⟩ | ⟨⟨xs, hq⟩, q⟩
  · obtain ⟨its, rv, p, hz⟩ := I1.list hq
    refine wpAny_pyIter_list p.isList ?_
    refine ⟨s1.heap.objs.size, [s1.heap.objs.size], _, _, H1, rfl, I1.kept (t' := s1.toks) fun b o e => Heap.get?_push_of_some _ e, turn_list a _, ⟨_, Heap.get?_push_size _ rfl, rfl, rfl⟩, fun b hb => ?_, q⟩
    have e : b = s1.heap.objs.size := by simpa using hb
    subst e
    exact I1.fpOk (Nat.le_refl _) (I1.hok.fresh (Nat.le_refl _))
  · obtain ⟨its, rv, p, hz⟩ := I1.tuple hq
    refine wpAny_pyIter_tuple (show s1.heap.IsTuple a its.toArray from p) ?_
    refine ⟨s1.heap.objs.size, [s1.heap.objs.size], _, _, H1, rfl, I1.kept (t' := s1.toks) fun b o e => Heap.get?_push_of_some _ e, turn_tuple a _, ⟨_, Heap.get?_push_size _ rfl, rfl, rfl⟩, fun b hb => ?_, q⟩
    have e : b = s1.heap.objs.size := by simpa using hb
    subst e
    exact I1.fpOk (Nat.le_refl _) (I1.hok.fresh (Nat.le_refl _))
theorem iterLT (ha : DE X W ds a (cLT c) m) : DI X W ds tg a c m := by
  obtain ⟨t, p, q⟩ := ha
  refine ⟨_, pi_seq p, fun S0 H0 σ S H Q E P => q S0 H0 σ S H _ E (R.post_mono P (fun as k v S' H' g r => ?_) (fun _ k => k))⟩
  rcases r with ⟨l, vs, e, h1, h2⟩ | ⟨l, vs, e, h1, h2⟩
  · exact ⟨l, e, .inl ⟨⟨vs, Same.seq g.inn h1⟩, k _ S' H' g (itl_ok h1 h2)⟩⟩
  · exact ⟨l, e, .inr ⟨⟨vs, Same.tup g.inn h1⟩, k _ S' H' g (itt_ok h1 h2)⟩⟩
/-- range -/
def rangeL (lo : Int) : Nat → List Int
  | 0 => []
  | n + 1 => lo :: rangeL (lo + 1) n
theorem rangeL_length : ∀ (lo : Int) (n : Nat), (rangeL lo n).length = n
  | _, 0 => rfl
  | lo, n + 1 => congrArg Nat.succ (rangeL_length (lo + 1) n)
theorem rangeL_get : ∀ (lo : Int) (n i : Nat), i < n → (rangeL lo n)[i]? = some (lo + (i : Int))
  | _, 0, _, h => absurd h (Nat.not_lt_zero _)
  | lo, n + 1, 0, _ => by
    show some lo = some (lo + ((0 : Nat) : Int))
    rw [show lo + ((0 : Nat) : Int) = lo from Int.add_zero lo]
  | lo, n + 1, i + 1, h => by
    show (rangeL (lo + 1) n)[i]? = _
    rw [rangeL_get (lo + 1) n i (Nat.lt_of_succ_lt_succ h)]
    congr 1
    omega
def rngM (lo hi : Int) : R (List Int) := R.guard (-(2 ^ 62) ≤ lo ∧ lo < 2 ^ 62 ∧ -(2 ^ 62) ≤ hi ∧ hi < 2 ^ 62) (rangeL lo (hi - lo).toNat)
theorem itr_ok {K : PySem.W.Frag} {S : Hp} {lo : Int} {n : Nat} : ItOk (Itr lo n) K S cI (rangeL lo n) := fun i S1 H1 s1 s2 => by
  refine ⟨fun hi => ?_, fun z hz => ?_⟩
  · rw [rangeL_length] at hi
    exact hi
  · by_cases hi : i < n
    · rw [rangeL_get lo n i hi] at hz
      have e : lo + (i : Int) = z := Option.some.inj hz
      subst e
      refine ⟨hi, fun x H' y => ?_⟩
      obtain ⟨e1, e2⟩ := y
      subst e1
      exact ⟨S1, .refl s2, e2⟩
    · rw [List.getElem?_eq_none (by rw [rangeL_length]; omega)] at hz
      cases hz
theorem iterR1 {m : R Int} (hm : X.mg "range" = none) (ha : DE X W ds a cI m) (hg : Gl X "range" := by rfl) (hs : starEach [a] X.env = [(false, eval a X.env)] := by rfl) : DI X W ds tg (.Call (.Name "range" p) [a] [] pos) cI (m >>= fun n => rngM 0 n) := by
  obtain ⟨t, pa, q⟩ := ha
  refine ⟨_, pi_range1 hg hm (pa_cons pa pa_nil hs) hs, fun S0 H0 σ S H Q E P => q S0 H0 σ S H _ E (R.post_mono (R.post_bind.mp P) (fun n k v S' H' g r => ?_) (fun _ k => k))⟩
  obtain ⟨k1, k2⟩ := R.guard_post k
  have ev : v = V.int n := r
  subst ev
  refine ⟨n, rfl, k1.2.2.1, k1.2.2.2, ?_⟩
  have e : n - 0 = n := by omega
  rw [e] at k2
  exact k2 _ S' H' g itr_ok
theorem iterR2 {m n : R Int} (hm : X.mg "range" = none) (ha : DE X W ds a cI m) (hb : DE X W ds b cI n) (hg : Gl X "range" := by rfl) (hs : starEach [a, b] X.env = [(false, eval a X.env), (false, eval b X.env)] := by rfl) (hs2 : starEach [b] X.env = [(false, eval b X.env)] := by rfl)
    (hs3 : starEach (a :: [b]) X.env = (false, eval a X.env) :: starEach [b] X.env := by rfl) (hs4 : starEach (b :: []) X.env = (false, eval b X.env) :: starEach [] X.env := by rfl) : DI X W ds tg (.Call (.Name "range" p) [a, b] [] pos) cI (m >>= fun lo => n >>= fun hi => rngM lo hi) := by
  obtain ⟨t, pa, q⟩ := ha
  obtain ⟨u, pb, q2⟩ := hb
  refine ⟨_, pi_range2 hg hm (pa_cons pa (pa_cons pb pa_nil hs4) hs3) hs hs2, fun S0 H0 σ S H Q E P => q S0 H0 σ S H _ E (R.post_mono (R.post_bind.mp P) (fun lo k v S' H' g r => ?_) (fun _ k => k))⟩
  have ev : v = V.int lo := r
  subst ev
  refine q2 S0 H0 σ S' H' _ (E.step g) (R.post_mono (R.post_bind.mp k) (fun hi k v S2 H2 g2 r => ?_) (fun _ k cl d S2 H2 g2 r => k cl d S2 H2 (g.trans g2) r))
  have ev : v = V.int hi := r
  subst ev
  obtain ⟨k1, k2⟩ := R.guard_post k
  exact ⟨lo, hi, rfl, ⟨k1.1, k1.2.1, k1.2.2.1, k1.2.2.2⟩, k2 _ S2 H2 (g.trans g2) itr_ok⟩
theorem iterR1_p {n : Int} (hm : X.mg "range" = none) (ha : DE X W ds a cI (.ok n)) (hg : Gl X "range" := by rfl) (hs : starEach [a] X.env = [(false, eval a X.env)] := by rfl) : DI X W ds tg (.Call (.Name "range" p) [a] [] pos) cI (rngM 0 n) := iterR1 hm ha hg hs
/-- targets -/
theorem tgN {σ' : Type} {e0 : σ' → Env} {x : Str} (i : Nat) (sn : X.N.Nodup) (hi : X.N[i]? = some x := by rfl) (hx : Loc X.env.scope x := by first | exact Or.inl rfl | exact Or.inr rfl)
    (hf : X.fn x = true ∨ X.env.scope.names.lookup x = some .local := by first | exact .inl rfl | exact .inr rfl) : DG X (.Name x pos) c e0 (fun s a => (e0 s).put i (.st α c a)) :=
  ⟨gName i, pg_name sn hi hx hf, fun s a v S0 H0 σ S H Q E r k => k _ (E.putS r)⟩
end
/-! ### loops -/
section
variable {α β S S' : Type}
def foldR (step : S → α → R S) : List α → S → R S
  | [], s => .ok s
  | x :: xs, s => step s x >>= fun s' => foldR step xs s'
inductive End (S β : Type) where
  | go (s : S) | out (b : β)
def loopR (step : S → α → R (Out β S S)) : List α → S → R (End S β)
  | [], s => .ok (.go s)
  | x :: xs, s => step s x >>= fun o => match o with
    | .nxt s' => loopR step xs s'
    | .ctn s' => loopR step xs s'
    | .brk s' => .ok (.go s')
    | .ret b => .ok (.out b)
@[simp] theorem foldR_nil (step : S → α → R S) (s : S) : foldR step [] s = .ok s := rfl
@[simp] theorem foldR_cons (step : S → α → R S) (x : α) (xs : List α) (s : S) : foldR step (x :: xs) s = (step s x >>= fun s' => foldR step xs s') := rfl
end
section
variable {X : Cx} {W : WK} {T : Bool} {ds : Env} {α β γ τ ν κ ω σ' : Type} {tg iter : Expr} {body rest : List Stmt} {pos p : Pos} {c : Cd α} {cb : RCd β} {eN : ν → Env} {eK : κ → Env} {I : ω → Out β ν κ} {mi : R (List α)}
/-- a loop in general: W' the word of what is left, by the state of the slots -/
theorem for_any {g : TG} {J : It} {D : Ends} {S0 H0 Sa : Hp} {σ : L2.St} {H : Hp} {as : List α} (eL : σ' → Env) (C : List α → σ' → Prop) (hJ : ItOk J X.K Sa c as)
    (s0 : σ') (S : Hp) (hs : Same Sa S) (E : EnvOk X.K S0 H0 (eL s0) σ S H) (h0 : C as s0)
    (turn : ∀ a r s σ2 S2 H2 v (N : L2.St → Hp → Prop), C (a :: r) s → EnvOk X.K S0 H0 (eL s) σ2 S2 H2 → c.rep X.K S2 v a → (∀ s' σ3 S3 H3, C r s' → Same S2 S3 → EnvOk X.K S0 H0 (eL s') σ3 S3 H3 → N σ3 H3) → g v σ2 H2 fun σ3 H3 => tS X body { D with nx := N, ct := N, bk := D.nx } σ3 H3)
    (done : ∀ s σ2 S2 H2, C [] s → EnvOk X.K S0 H0 (eL s) σ2 S2 H2 → D.nx σ2 H2) :
    ∃ W : Nat → Nat → L2.St → Hp → Prop, (∃ m, W 0 m σ H) ∧ ∀ i m σ H, W i m σ H →
      (J.stop i H ∧ D.nx σ H) ∨ (J.go i H ∧ ∃ N : L2.St → Hp → Prop, (∀ σ' H', N σ' H' → ∃ m', m' < m ∧ W (i + 1) m' σ' H') ∧ ∀ x H', J.yld i H x H' → g x σ H' fun σ2 H2 => tS X body { D with nx := N, ct := N, bk := D.nx } σ2 H2) := by
  refine ⟨fun i m σ H => m = as.length - i ∧ i ≤ as.length ∧ ∃ s S, Same Sa S ∧ EnvOk X.K S0 H0 (eL s) σ S H ∧ C (as.drop i) s, ⟨as.length, by simp, Nat.zero_le _, s0, S, hs, E, by simpa using h0⟩, ?_⟩
  rintro i m σ H ⟨rfl, hi, s, S, hs, E, h⟩
  obtain ⟨j1, j2⟩ := hJ i S H hs E.inn
  by_cases hlt : i < as.length
  · have ha : as[i]? = some as[i] := List.getElem?_eq_getElem hlt
    obtain ⟨k1, k2⟩ := j2 _ ha
    refine .inr ⟨k1, fun σ' H' => ∃ s S, Same Sa S ∧ EnvOk X.K S0 H0 (eL s) σ' S H' ∧ C (as.drop (i + 1)) s, fun σ2 H2 q => ⟨as.length - (i + 1), by omega, rfl, hlt, q⟩, fun x H' y => ?_⟩
    obtain ⟨S2, g2, r2⟩ := k2 x H' y
    rw [List.drop_eq_getElem_cons hlt] at h
    exact turn _ _ s σ S2 H' x _ h (E.step g2) r2 fun s' σ3 S3 H3 h3 s3 E3 => ⟨s', S3, hs.trans (g2.st.trans s3), E3, h3⟩
  · have e : i = as.length := by omega
    subst e
    rw [List.drop_length] at h
    exact .inl ⟨j1 (Nat.le_refl _), done s σ S H h E⟩
/-- for tg in iter: body; nothing in it but passes to the next turn -/
theorem forF [kw : KW W] {σ' : Type} {eL : σ' → Env} {eB : σ' → α → Env} {step : σ' → α → R σ'} {s0 : σ'} {k : σ' → R ω} (hc : X.calm = true) (hp : PassesOwn (model X.prog X.w) X.A X.env X.xe) (hi : DI X W ds tg iter c mi) (hg : DG X tg c eL eB) (l : EnvLe ds (eL s0))
    (hb : ∀ s a, DS X W false (eB s a) body cb eL eL (fun s => (.nxt s : Out β σ' σ')) (step s a)) (hr : ∀ s, DS X W T (eL s) rest cb eN eK I (k s)) (hs : ∀ x, foldedSetIterable iter X.env x = pure x := by intro _; rfl) :
    DS X W T ds (.For tg iter body [] pos :: rest) cb eN eK I (mi >>= fun as => foldR step as s0 >>= k) := fun S0 H0 σ S H D nx h E P => by
  obtain ⟨W, rfl⟩ := kw.ex
  obtain ⟨wi, pi, qi⟩ := hi
  obtain ⟨g, pg, qg⟩ := hg
  refine seq (ps_for hp hc pi pg pss_tS hs) (qi S0 H0 σ S H _ E (R.post_mono (R.post_bind.mp P) (fun as q J S' H' gr hJ => ?_) (fun x q cl d S' H' gr r => q cl d S' H' (E.grow.trans gr) r)))
  refine for_any eL (fun as s => (foldR step as s >>= k).post (fun w => OutP X.K S0 H0 cb eN eK D (I w)) (EX X.K W S0 H0)) hJ s0 S' (.refl _) ((E.step gr).le l) q (fun a r s σ2 S2 H2 v N hC E2 r2 hN => ?_) (fun s σ2 S2 H2 hC E2 => ?_)
  · refine qg s a v S0 H0 σ2 S2 H2 _ E2 r2 fun σ3 E3 => ?_
    have hC' : (step s a >>= fun s' => foldR step r s' >>= k).post (fun w => OutP X.K S0 H0 cb eN eK D (I w)) (EX X.K W S0 H0) := by rw [← R.bind_assoc]; exact hC
    refine hb s a S2 H0 σ3 S2 H2 { D with nx := N, ct := N, bk := tS X rest { D with nx := nx } } N (.inr rfl) E3.rebase (R.post_mono (R.post_bind.mp hC') (fun s' q' σ4 S4 H4 E4 => ?_) (fun _ q' => q'.rebase E3.grow))
    exact hN s' σ4 S4 H4 q' E4.grow.st (E4.unbase E3.grow)
  · exact hr s S0 H0 σ2 S2 H2 D nx h E2 hC
/-- for tg in iter: body, which may leave or return -/
theorem forO [kw : KW W] {σ' : Type} {eL : σ' → Env} {eB : σ' → α → Env} {step : σ' → α → R (Out β σ' σ')} {s0 : σ'} {k : End σ' β → R ω} (hc : X.calm = true) (hp : PassesOwn (model X.prog X.w) X.A X.env X.xe) (hi : DI X W ds tg iter c mi) (hg : DG X tg c eL eB) (l : EnvLe ds (eL s0))
    (hb : ∀ s a, DS X W false (eB s a) body cb eL eL (fun o => o) (step s a)) (hr : ∀ s, DS X W T (eL s) rest cb eN eK I (k (.go s))) (ho : ∀ b, ∃ w, k (.out b) = .ok w ∧ I w = .ret b := by intro b; exact ⟨_, rfl, rfl⟩) (hs : ∀ x, foldedSetIterable iter X.env x = pure x := by intro _; rfl) :
    DS X W T ds (.For tg iter body [] pos :: rest) cb eN eK I (mi >>= fun as => loopR step as s0 >>= k) := fun S0 H0 σ S H D nx h E P => by
  obtain ⟨W, rfl⟩ := kw.ex
  obtain ⟨wi, pi, qi⟩ := hi
  obtain ⟨g, pg, qg⟩ := hg
  refine seq (ps_for hp hc pi pg pss_tS hs) (qi S0 H0 σ S H _ E (R.post_mono (R.post_bind.mp P) (fun as q J S' H' gr hJ => ?_) (fun x q cl d S' H' gr r => q cl d S' H' (E.grow.trans gr) r)))
  refine for_any eL (fun as s => (loopR step as s >>= k).post (fun w => OutP X.K S0 H0 cb eN eK D (I w)) (EX X.K W S0 H0)) hJ s0 S' (.refl _) ((E.step gr).le l) q (fun a r s σ2 S2 H2 v N hC E2 r2 hN => ?_) (fun s σ2 S2 H2 hC E2 => ?_)
  · refine qg s a v S0 H0 σ2 S2 H2 _ E2 r2 fun σ3 E3 => ?_
    have hC' : (step s a >>= fun o => (match o with
      | .nxt s' => loopR step r s'
      | .ctn s' => loopR step r s'
      | .brk s' => .ok (.go s')
      | .ret b => .ok (.out b)) >>= k).post (fun w => OutP X.K S0 H0 cb eN eK D (I w)) (EX X.K W S0 H0) := by rw [← R.bind_assoc]; exact hC
    refine hb s a S2 H0 σ3 S2 H2 { D with nx := N, ct := N, bk := tS X rest { D with nx := nx } } N (.inr rfl) E3.rebase (R.post_mono (R.post_bind.mp hC') (fun o q' => ?_) (fun _ q' => q'.rebase E3.grow))
    cases o with
    | nxt s' => exact fun σ4 S4 H4 E4 => hN s' σ4 S4 H4 q' E4.grow.st (E4.unbase E3.grow)
    | ctn s' => exact fun σ4 S4 H4 E4 => hN s' σ4 S4 H4 q' E4.grow.st (E4.unbase E3.grow)
    | brk s' => exact fun σ4 S4 H4 E4 => hr s' S0 H0 σ4 S4 H4 D nx h (E4.unbase E3.grow) q'
    | ret b =>
      obtain ⟨w, e1, e2⟩ := ho b
      have q2 : (k (.out b)).post (fun w => OutP X.K S0 H0 cb eN eK D (I w)) (EX X.K W S0 H0) := q'
      rw [e1] at q2
      have q3 : OutP X.K S0 H0 cb eN eK D (I w) := q2
      rw [e2] at q3
      exact fun v S4 H4 g4 r4 => q3 v S4 H4 (E3.grow.base g4) r4
  · exact hr s S0 H0 σ2 S2 H2 D nx h E2 hC
/-! ### while -/
def whileR {S : Type} (n : Nat) (test : S → R Bool) (step : S → R S) (s : S) : R S := match n with
  | 0 => .stuck
  | n + 1 => test s >>= fun z => if z = true then step s >>= fun s' => whileR n test step s' else .ok s
theorem whileF [kw : KW W] {σ' : Type} {eL : σ' → Env} {test : σ' → R Bool} {step : σ' → R σ'} {s0 : σ'} {k : σ' → R ω} {t : Expr} {n : Nat} (hp : PassesOwn (model X.prog X.w) X.A X.env X.xe) (l : EnvLe ds (eL s0)) (ht : ∃ tt, PT X t tt ∧ ∀ s S0 H0 σ S H Q, EnvOk X.K S0 H0 (eL s) σ S H → PB X.K S H (test s) Q (W σ) → tt σ H Q)
    (hb : ∀ s, DS X W false (eL s) body cb eL eL (fun s => (.nxt s : Out β σ' σ')) (step s)) (hr : ∀ s, DS X W T (eL s) rest cb eN eK I (k s)) :
    DS X W T ds (.While t body [] pos :: rest) cb eN eK I (whileR n test step s0 >>= k) := fun S0 H0 σ S H D nx h E P => by
  obtain ⟨W, rfl⟩ := kw.ex
  obtain ⟨tt, pt, qt⟩ := ht
  refine seq (ps_while hp pt pss_tS) ⟨fun m σ H => ∃ s S, EnvOk X.K S0 H0 (eL s) σ S H ∧ (whileR m test step s >>= k).post (fun w => OutP X.K S0 H0 cb eN eK D (I w)) (EX X.K W S0 H0), ⟨n, s0, S, E.le l, P⟩, ?_⟩
  rintro m σ2 H2 ⟨s, S2, E2, C⟩
  cases m with
  | zero => exact False.elim C
  | succ m =>
    have C' : (test s >>= fun z => (if z = true then step s >>= fun s' => whileR m test step s' else .ok s) >>= k).post (fun w => OutP X.K S0 H0 cb eN eK D (I w)) (EX X.K W S0 H0) := by rw [← R.bind_assoc]; exact C
    refine qt s S0 H0 σ2 S2 H2 _ E2 (stT (W := fun _ => W) E2 C' fun z S3 H3 E3 C3 => ?_)
    cases z with
    | true =>
      have C4 : (step s >>= fun s' => whileR m test step s' >>= k).post (fun w => OutP X.K S0 H0 cb eN eK D (I w)) (EX X.K W S0 H0) := by rw [← R.bind_assoc]; exact C3
      rw [if_pos rfl]
      refine ⟨fun σ H => ∃ s S, EnvOk X.K S0 H0 (eL s) σ S H ∧ (whileR m test step s >>= k).post (fun w => OutP X.K S0 H0 cb eN eK D (I w)) (EX X.K W S0 H0), fun σ' H' q => ⟨m, Nat.lt_succ_self m, q⟩, ?_⟩
      exact hb s S0 H0 σ2 S3 H3 { D with nx := _, ct := _, bk := tS X rest { D with nx := nx } } _ (.inr rfl) E3 (R.post_mono (R.post_bind.mp C4) (fun s' q' σ4 S4 H4 E4 => ⟨s', S4, E4, q'⟩) (fun _ q' => q'))
    | false =>
      rw [if_neg Bool.false_ne_true]
      exact hr s S0 H0 σ2 S3 H3 D nx h E3 C3
end
/-! ### defs -/
section
variable {P : Program} {w : World} {K : PySem.W.Frag} {mg : Str → Option Value} {base : Heap} {τ γ ν κ : Type}
theorem fn_mk {x qual : Str} {prs : Arguments} {body : List Stmt} {scope : Scope} {dvs : List V} {kws : List (Str × V)} {f : Addr} {fd : FuncData} {N ps : List Str} {k : Nat} {ca : CA τ} {c : Cd γ} {F : τ → R γ} {eN : ν → Env} {eK : κ → Env}
    (D : FunD K x qual prs body scope dvs kws f fd) (S : FnScope N ps scope) (hn : ca.n = ps.length) (hl : ca.n ≤ N.length)
    (hb : ∀ (cdv : Value) (A : Around) (outer : List PySem.Env) (s : Shared) (H : Hp) (E : XK), Room k (A.deeper (envOfC qual scope s.heap.objs.size f cdv)) →
      Lets (cxOf (L2N.CX P w) P w K mg base N qual scope f cdv A outer s H E) (fun _ => E) → PassesOwn (model P w) (A.deeper (envOfC qual scope s.heap.objs.size f cdv)) (envOfC qual scope s.heap.objs.size f cdv) (cxOf (L2N.CX P w) P w K mg base N qual scope f cdv A outer s H E).xe →
      ∀ z, DS (cxOf (L2N.CX P w) P w K mg base N qual scope f cdv A outer s H E) (fun _ => E) true (ca.env z ++ List.replicate (N.length - ca.n) .none) body (fun _ => c) eN eK (fun b => (.ret b : Out γ ν κ)) (F z)) :
    FnOk P w K mg base (L2N.CX P w) (k + 1) f fd ps (spF K ca c F) := by
  refine D.ok S (fun vs H Q E h => ?_) (fun cdv A outer s H vs Q E hr h => ?_)
  · obtain ⟨S, z, _, r, _⟩ := h
    rw [ca.len r, hn]
  · obtain ⟨S1, z, i, r, Px⟩ := h
    have tk : L2N.Takes (cxOf (L2N.CX P w) P w K mg base N qual scope f cdv A outer s H E) (fun cl d _ H => E cl d H) := L2N.takes_of rfl rfl rfl rfl
    have e0 := EnvOk.start (N := N) (H := H) (ca.sl r) (by rw [ca.len r]; exact hl) i
    rw [ca.len r] at e0
    refine ⟨tS _ body, pss_tS, hb cdv A outer s H E hr tk (passes_of rfl) z S1 H _ S1 H { nx := fun _ H' => Q .non H', rt := Q } (fun _ H' => Q .non H') (.inl rfl) e0 ?_⟩
    exact R.post_mono Px (fun b q v S' H' g r => q v S' H' g r) (fun x q cl d S' H' g r => q cl d S' H' g r)
/-- a def that hands back None at its end -/
theorem fn_mkN {x qual : Str} {prs : Arguments} {body : List Stmt} {scope : Scope} {dvs : List V} {kws : List (Str × V)} {f : Addr} {fd : FuncData} {N ps : List Str} {k : Nat} {ca : CA τ} {F : τ → R Unit} {eN : Unit → Env} {eK : κ → Env}
    (D : FunD K x qual prs body scope dvs kws f fd) (S : FnScope N ps scope) (hn : ca.n = ps.length) (hl : ca.n ≤ N.length)
    (hb : ∀ (cdv : Value) (A : Around) (outer : List PySem.Env) (s : Shared) (H : Hp) (E : XK), Room k (A.deeper (envOfC qual scope s.heap.objs.size f cdv)) →
      Lets (cxOf (L2N.CX P w) P w K mg base N qual scope f cdv A outer s H E) (fun _ => E) → PassesOwn (model P w) (A.deeper (envOfC qual scope s.heap.objs.size f cdv)) (envOfC qual scope s.heap.objs.size f cdv) (cxOf (L2N.CX P w) P w K mg base N qual scope f cdv A outer s H E).xe →
      ∀ z, DS (cxOf (L2N.CX P w) P w K mg base N qual scope f cdv A outer s H E) (fun _ => E) false (ca.env z ++ List.replicate (N.length - ca.n) .none) body (fun _ => cN) eN eK (fun b => (.nxt b : Out Unit Unit κ)) (F z)) :
    FnOk P w K mg base (L2N.CX P w) (k + 1) f fd ps (spF K ca cN F) := by
  refine D.ok S (fun vs H Q E h => ?_) (fun cdv A outer s H vs Q E hr h => ?_)
  · obtain ⟨S, z, _, r, _⟩ := h
    rw [ca.len r, hn]
  · obtain ⟨S1, z, i, r, Px⟩ := h
    have tk : L2N.Takes (cxOf (L2N.CX P w) P w K mg base N qual scope f cdv A outer s H E) (fun cl d _ H => E cl d H) := L2N.takes_of rfl rfl rfl rfl
    have e0 := EnvOk.start (N := N) (H := H) (ca.sl r) (by rw [ca.len r]; exact hl) i
    rw [ca.len r] at e0
    refine ⟨tS _ body, pss_tS, hb cdv A outer s H E hr tk (passes_of rfl) z S1 H _ S1 H { nx := fun _ H' => Q .non H', rt := Q } (fun _ H' => Q .non H') (.inr rfl) e0 ?_⟩
    exact R.post_mono Px (fun b q σ' S' H' e => q .non S' H' e.grow rfl) (fun x q cl d S' H' g r => q cl d S' H' g r)
theorem fni {x : Str} {f : Addr} {fd : FuncData} {ps : List Str} {k : Nat} {ca : CA τ} {c : Cd γ} {F : τ → R γ} (h : FnOk P w K mg base (L2N.CX P w) k f fd ps (spF K ca c F)) (hm : mg x = some (.ref f)) (hk : PySem.W.keepIn K (.ref f) = true) (hb : Binds K fd ps []) : FnI P w K mg base x k ps ca c F := ⟨⟨f, fd, h, hm, hk, hb⟩⟩
end
end Zk
set_option maxHeartbeats 4000000
/-! # Zk: lists of so many values, None or a value, isinstance, short words -/
namespace Zk
open PySem PySem.Spec PyProof.Rows L2
theorem leZ : EnvLe [] [] := trivial
theorem leN {a : SD} {as bs : Env} (h : EnvLe as bs) : EnvLe (a :: as) (.none :: bs) := ⟨.inl rfl, h⟩
theorem leS {a : SD} {as bs : Env} (h : EnvLe as bs) : EnvLe (a :: as) (a :: bs) := ⟨.inr rfl, h⟩
/-- a list of so many values -/
def cH {τ : Type} (r : CA τ) : Cd τ :=
  ⟨fun K H v a => ∃ p vs, v = .ref p ∧ SqL K H p vs ∧ r.rep K H vs a, fun e ⟨p, vs, h1, h2, h3⟩ => ⟨p, vs, h1, Same.seq e h2, r.mono e h3⟩⟩
@[reducible] instance {τ : Type} {r : CA τ} [DtA r] : Dt (cH r) where
  toD a := .list (DtA.toDs r a)
  depth := DtA.depth r + 1
  lay a := by simp only [PyData.canLay0]; exact DtA.lay a
  le a := by simp only [PyData.depth]; exact Nat.succ_le_succ (DtA.le a)
  eqv a b := by simp only [PyData.eqv]; exact DtA.eqv a b
  rep h := by
    obtain ⟨p, vs, e, h1, h2⟩ := h
    rw [e]
    exact .lst h1 (DtA.rep h2)
/-! ### not None -/
class NN {α : Type} (c : Cd α) : Prop where
  nn : ∀ {K : PySem.W.Frag} {H : Hp} {v : V} {a : α}, c.rep K H v a → v ≠ .non
namespace NN
variable {α τ : Type}
instance : NN cI := ⟨fun {K H v a} h => by
  have e : v = V.int a := h
  rw [e]; exact fun z => nomatch z⟩
instance : NN cB := ⟨fun {K H v a} h => by
  have e : v = V.bl a := h
  rw [e]; exact fun z => nomatch z⟩
instance : NN cS := ⟨fun {K H v a} h => by
  have e : v = V.str a := h
  rw [e]; exact fun z => nomatch z⟩
instance {c : Cd α} : NN (cL c) := ⟨fun ⟨p, vs, e, _⟩ => by rw [e]; exact fun z => nomatch z⟩
instance {c : Cd α} : NN (cT c) := ⟨fun ⟨p, vs, e, _⟩ => by rw [e]; exact fun z => nomatch z⟩
instance {c : Cd α} : NN (cLT c) := ⟨fun h => by
  rcases h with ⟨p, vs, e, _⟩ | ⟨p, vs, e, _⟩ <;> (rw [e]; exact fun z => nomatch z)⟩
instance {r : CA τ} : NN (cP r) := ⟨fun ⟨p, vs, e, _⟩ => by rw [e]; exact fun z => nomatch z⟩
instance {r : CA τ} : NN (cH r) := ⟨fun ⟨p, vs, e, _⟩ => by rw [e]; exact fun z => nomatch z⟩
end NN
section
variable {X : Cx} {W : WK} {ds : Env} {α β γ τ : Type} {a b : Expr} {e : Expr} {es : List Expr} {pos p : Pos} {c : Cd α} {c2 : Cd β} {m : R α} {x : α}
def unO (o : Option α) : R α := match o with
  | some z => .ok z
  | none => .stuck
theorem some_ (h : DE X W ds a c (.ok x)) [NN c] : DE X W ds a (cO c) (.ok (some x)) := coe (c2 := cO c) (f := some) (fun K H v a r => ⟨NN.nn r, r⟩) h
theorem some_m (h : DE X W ds a c m) [NN c] : DE X W ds a (cO c) (m >>= fun z => .ok (some z)) := coe (c2 := cO c) (f := some) (fun K H v a r => ⟨NN.nn r, r⟩) h
theorem none_ {j : Nat} : DE X W ds (.Constant .none j pos) (cO c) (.ok none) := coe (c := cN) (c2 := cO c) (f := fun _ => none) (fun K H v a r => r) (non (j := j))
theorem un_m {m : R (Option α)} (h : DE X W ds a (cO c) m) : DE X W ds a c (m >>= unO) := by
  obtain ⟨t, p, q⟩ := h
  refine ⟨t, p, fun S0 H0 σ S H Q E P => q S0 H0 σ S H Q E (P.bind fun o v S1 H1 g r P1 => ?_)⟩
  cases o with
  | none => exact False.elim P1
  | some z => exact P1.ok g.inn r.2
theorem un_p {o : Option α} (h : DE X W ds a (cO c) (.ok o)) : DE X W ds a c (unO o) := un_m h
theorem lt_L {xs : List α} (h : DE X W ds a (cL c) (.ok xs)) : DE X W ds a (cLT c) (.ok xs) := coe (c2 := cLT c) (f := fun z => z) (fun K H v a r => Or.inl r) h
theorem lt_T {xs : List α} (h : DE X W ds a (cT c) (.ok xs)) : DE X W ds a (cLT c) (.ok xs) := coe (c2 := cLT c) (f := fun z => z) (fun K H v a r => Or.inr r) h
theorem coe_id {m : R α} {c' : Cd α} (h : ∀ K H v a, c.rep K H v a → c'.rep K H v a) (ha : DE X W ds a c m) : DE X W ds a c' m := by
  have q := coe (f := fun z => z) h ha
  rw [show (m >>= fun z => R.ok z) = m from R.bind_ok m] at q
  exact q
theorem lt_Lm {m : R (List α)} (h : DE X W ds a (cL c) m) : DE X W ds a (cLT c) m := coe_id (c' := cLT c) (fun K H v a r => Or.inl r) h
theorem lt_Tm {m : R (List α)} (h : DE X W ds a (cT c) m) : DE X W ds a (cLT c) m := coe_id (c' := cLT c) (fun K H v a r => Or.inr r) h
/-! ### lists of so many values -/
theorem lstH {r : CA τ} {m : R τ} (ha : DA X W ds es r m) (hn : r.n ≤ 1000 := by exact Nat.le_of_ble_eq_true rfl) : DE X W ds (.List es pos) (cH r) m := by
  obtain ⟨t, p, q⟩ := ha
  refine ⟨_, pe_lst p, fun S0 H0 σ S H Q E P => q S0 H0 σ S H _ E ?_⟩
  refine R.post_mono P (fun z k vs S1 H1 g r1 => ⟨by rw [r.len r1]; exact Nat.le_trans hn (by decide), fun q hq => ?_⟩) (fun _ k => k)
  have g2 : Grow S1 H1 (upd S1 q (.lst vs)) (upd H1 q (.lst vs)) := .lay g.inn hq
  exact k _ _ _ (g.trans g2) ⟨q, vs, rfl, SqL.of upd_same, r.mono g2.st r1⟩
theorem tupP {r : CA τ} {m : R τ} {k : Nat} (ha : DA X W ds es r m) (hn : r.n ≤ 1000 := by exact Nat.le_of_ble_eq_true rfl) : DE X W ds (.Tuple es k pos) (cP r) m := tup (Nat.le_trans hn (by decide)) ha
theorem ixH {r : CA τ} {i : Int} {n : Nat} {c3 : Cd γ} {pr : τ → γ} {m : R τ} {j : Nat} {p2 : Pos} (h : AIx r i n c3 pr) (ha : DE X W ds a (cH r) m) (hp : PlainIx (.Constant (.int i) j p2) := by exact fun _ _ => rfl) : DE X W ds (.Subscript a (.Constant (.int i) j p2) pos) c3 (m >>= fun z => .ok (pr z)) := by
  obtain ⟨ta, pa, qa⟩ := ha
  refine ⟨_, pe_ix ix_list pa pe_int hp, fun S0 H0 σ S H Q E P => qa S0 H0 σ S H _ E (P.bind fun z v S1 H1 g r1 P1 => ?_)⟩
  obtain ⟨q, vs, e, h1, h2⟩ := r1
  obtain ⟨w, k1, k2⟩ := h _ _ _ _ h2
  exact ⟨q, vs, i, w, e, rfl, Same.seq g.inn h1, k1, P1.ok g.inn k2⟩

theorem ixh_0_1p {t0 : Type} {d0 : Cd t0} {z : t0} {j : Nat} {p2 : Pos} (ha : DE X W ds a (cH (aOne d0)) (.ok z)) (hp : PlainIx (.Constant (.int 0) j p2) := by exact fun _ _ => rfl) : DE X W ds (.Subscript a (.Constant (.int 0) j p2) pos) d0 (.ok (z)) := ixH aix_0_1 ha hp
theorem ixh_0_1m {t0 : Type} {d0 : Cd t0} {m : R (t0)} {j : Nat} {p2 : Pos} (ha : DE X W ds a (cH (aOne d0)) m) (hp : PlainIx (.Constant (.int 0) j p2) := by exact fun _ _ => rfl) : DE X W ds (.Subscript a (.Constant (.int 0) j p2) pos) d0 (m >>= fun z => .ok (z)) := ixH aix_0_1 ha hp
theorem ixh_0_2p {t0 : Type} {t1 : Type} {d0 : Cd t0} {d1 : Cd t1} {z : t0 × t1} {j : Nat} {p2 : Pos} (ha : DE X W ds a (cH (aCons d0 (aOne d1))) (.ok z)) (hp : PlainIx (.Constant (.int 0) j p2) := by exact fun _ _ => rfl) : DE X W ds (.Subscript a (.Constant (.int 0) j p2) pos) d0 (.ok (z.1)) := ixH aix_0_2 ha hp
theorem ixh_0_2m {t0 : Type} {t1 : Type} {d0 : Cd t0} {d1 : Cd t1} {m : R (t0 × t1)} {j : Nat} {p2 : Pos} (ha : DE X W ds a (cH (aCons d0 (aOne d1))) m) (hp : PlainIx (.Constant (.int 0) j p2) := by exact fun _ _ => rfl) : DE X W ds (.Subscript a (.Constant (.int 0) j p2) pos) d0 (m >>= fun z => .ok (z.1)) := ixH aix_0_2 ha hp
theorem ixh_1_2p {t0 : Type} {t1 : Type} {d0 : Cd t0} {d1 : Cd t1} {z : t0 × t1} {j : Nat} {p2 : Pos} (ha : DE X W ds a (cH (aCons d0 (aOne d1))) (.ok z)) (hp : PlainIx (.Constant (.int 1) j p2) := by exact fun _ _ => rfl) : DE X W ds (.Subscript a (.Constant (.int 1) j p2) pos) d1 (.ok (z.2)) := ixH aix_1_2 ha hp
theorem ixh_1_2m {t0 : Type} {t1 : Type} {d0 : Cd t0} {d1 : Cd t1} {m : R (t0 × t1)} {j : Nat} {p2 : Pos} (ha : DE X W ds a (cH (aCons d0 (aOne d1))) m) (hp : PlainIx (.Constant (.int 1) j p2) := by exact fun _ _ => rfl) : DE X W ds (.Subscript a (.Constant (.int 1) j p2) pos) d1 (m >>= fun z => .ok (z.2)) := ixH aix_1_2 ha hp
theorem ixh_0_3p {t0 : Type} {t1 : Type} {t2 : Type} {d0 : Cd t0} {d1 : Cd t1} {d2 : Cd t2} {z : t0 × t1 × t2} {j : Nat} {p2 : Pos} (ha : DE X W ds a (cH (aCons d0 (aCons d1 (aOne d2)))) (.ok z)) (hp : PlainIx (.Constant (.int 0) j p2) := by exact fun _ _ => rfl) : DE X W ds (.Subscript a (.Constant (.int 0) j p2) pos) d0 (.ok (z.1)) := ixH aix_0_3 ha hp
theorem ixh_0_3m {t0 : Type} {t1 : Type} {t2 : Type} {d0 : Cd t0} {d1 : Cd t1} {d2 : Cd t2} {m : R (t0 × t1 × t2)} {j : Nat} {p2 : Pos} (ha : DE X W ds a (cH (aCons d0 (aCons d1 (aOne d2)))) m) (hp : PlainIx (.Constant (.int 0) j p2) := by exact fun _ _ => rfl) : DE X W ds (.Subscript a (.Constant (.int 0) j p2) pos) d0 (m >>= fun z => .ok (z.1)) := ixH aix_0_3 ha hp
theorem ixh_1_3p {t0 : Type} {t1 : Type} {t2 : Type} {d0 : Cd t0} {d1 : Cd t1} {d2 : Cd t2} {z : t0 × t1 × t2} {j : Nat} {p2 : Pos} (ha : DE X W ds a (cH (aCons d0 (aCons d1 (aOne d2)))) (.ok z)) (hp : PlainIx (.Constant (.int 1) j p2) := by exact fun _ _ => rfl) : DE X W ds (.Subscript a (.Constant (.int 1) j p2) pos) d1 (.ok (z.2.1)) := ixH aix_1_3 ha hp
theorem ixh_1_3m {t0 : Type} {t1 : Type} {t2 : Type} {d0 : Cd t0} {d1 : Cd t1} {d2 : Cd t2} {m : R (t0 × t1 × t2)} {j : Nat} {p2 : Pos} (ha : DE X W ds a (cH (aCons d0 (aCons d1 (aOne d2)))) m) (hp : PlainIx (.Constant (.int 1) j p2) := by exact fun _ _ => rfl) : DE X W ds (.Subscript a (.Constant (.int 1) j p2) pos) d1 (m >>= fun z => .ok (z.2.1)) := ixH aix_1_3 ha hp
theorem ixh_2_3p {t0 : Type} {t1 : Type} {t2 : Type} {d0 : Cd t0} {d1 : Cd t1} {d2 : Cd t2} {z : t0 × t1 × t2} {j : Nat} {p2 : Pos} (ha : DE X W ds a (cH (aCons d0 (aCons d1 (aOne d2)))) (.ok z)) (hp : PlainIx (.Constant (.int 2) j p2) := by exact fun _ _ => rfl) : DE X W ds (.Subscript a (.Constant (.int 2) j p2) pos) d2 (.ok (z.2.2)) := ixH aix_2_3 ha hp
theorem ixh_2_3m {t0 : Type} {t1 : Type} {t2 : Type} {d0 : Cd t0} {d1 : Cd t1} {d2 : Cd t2} {m : R (t0 × t1 × t2)} {j : Nat} {p2 : Pos} (ha : DE X W ds a (cH (aCons d0 (aCons d1 (aOne d2)))) m) (hp : PlainIx (.Constant (.int 2) j p2) := by exact fun _ _ => rfl) : DE X W ds (.Subscript a (.Constant (.int 2) j p2) pos) d2 (m >>= fun z => .ok (z.2.2)) := ixH aix_2_3 ha hp
theorem ixh_0_4p {t0 : Type} {t1 : Type} {t2 : Type} {t3 : Type} {d0 : Cd t0} {d1 : Cd t1} {d2 : Cd t2} {d3 : Cd t3} {z : t0 × t1 × t2 × t3} {j : Nat} {p2 : Pos} (ha : DE X W ds a (cH (aCons d0 (aCons d1 (aCons d2 (aOne d3))))) (.ok z)) (hp : PlainIx (.Constant (.int 0) j p2) := by exact fun _ _ => rfl) : DE X W ds (.Subscript a (.Constant (.int 0) j p2) pos) d0 (.ok (z.1)) := ixH aix_0_4 ha hp
theorem ixh_0_4m {t0 : Type} {t1 : Type} {t2 : Type} {t3 : Type} {d0 : Cd t0} {d1 : Cd t1} {d2 : Cd t2} {d3 : Cd t3} {m : R (t0 × t1 × t2 × t3)} {j : Nat} {p2 : Pos} (ha : DE X W ds a (cH (aCons d0 (aCons d1 (aCons d2 (aOne d3))))) m) (hp : PlainIx (.Constant (.int 0) j p2) := by exact fun _ _ => rfl) : DE X W ds (.Subscript a (.Constant (.int 0) j p2) pos) d0 (m >>= fun z => .ok (z.1)) := ixH aix_0_4 ha hp
theorem ixh_1_4p {t0 : Type} {t1 : Type} {t2 : Type} {t3 : Type} {d0 : Cd t0} {d1 : Cd t1} {d2 : Cd t2} {d3 : Cd t3} {z : t0 × t1 × t2 × t3} {j : Nat} {p2 : Pos} (ha : DE X W ds a (cH (aCons d0 (aCons d1 (aCons d2 (aOne d3))))) (.ok z)) (hp : PlainIx (.Constant (.int 1) j p2) := by exact fun _ _ => rfl) : DE X W ds (.Subscript a (.Constant (.int 1) j p2) pos) d1 (.ok (z.2.1)) := ixH aix_1_4 ha hp
theorem ixh_1_4m {t0 : Type} {t1 : Type} {t2 : Type} {t3 : Type} {d0 : Cd t0} {d1 : Cd t1} {d2 : Cd t2} {d3 : Cd t3} {m : R (t0 × t1 × t2 × t3)} {j : Nat} {p2 : Pos} (ha : DE X W ds a (cH (aCons d0 (aCons d1 (aCons d2 (aOne d3))))) m) (hp : PlainIx (.Constant (.int 1) j p2) := by exact fun _ _ => rfl) : DE X W ds (.Subscript a (.Constant (.int 1) j p2) pos) d1 (m >>= fun z => .ok (z.2.1)) := ixH aix_1_4 ha hp
theorem ixh_2_4p {t0 : Type} {t1 : Type} {t2 : Type} {t3 : Type} {d0 : Cd t0} {d1 : Cd t1} {d2 : Cd t2} {d3 : Cd t3} {z : t0 × t1 × t2 × t3} {j : Nat} {p2 : Pos} (ha : DE X W ds a (cH (aCons d0 (aCons d1 (aCons d2 (aOne d3))))) (.ok z)) (hp : PlainIx (.Constant (.int 2) j p2) := by exact fun _ _ => rfl) : DE X W ds (.Subscript a (.Constant (.int 2) j p2) pos) d2 (.ok (z.2.2.1)) := ixH aix_2_4 ha hp
theorem ixh_2_4m {t0 : Type} {t1 : Type} {t2 : Type} {t3 : Type} {d0 : Cd t0} {d1 : Cd t1} {d2 : Cd t2} {d3 : Cd t3} {m : R (t0 × t1 × t2 × t3)} {j : Nat} {p2 : Pos} (ha : DE X W ds a (cH (aCons d0 (aCons d1 (aCons d2 (aOne d3))))) m) (hp : PlainIx (.Constant (.int 2) j p2) := by exact fun _ _ => rfl) : DE X W ds (.Subscript a (.Constant (.int 2) j p2) pos) d2 (m >>= fun z => .ok (z.2.2.1)) := ixH aix_2_4 ha hp
theorem ixh_3_4p {t0 : Type} {t1 : Type} {t2 : Type} {t3 : Type} {d0 : Cd t0} {d1 : Cd t1} {d2 : Cd t2} {d3 : Cd t3} {z : t0 × t1 × t2 × t3} {j : Nat} {p2 : Pos} (ha : DE X W ds a (cH (aCons d0 (aCons d1 (aCons d2 (aOne d3))))) (.ok z)) (hp : PlainIx (.Constant (.int 3) j p2) := by exact fun _ _ => rfl) : DE X W ds (.Subscript a (.Constant (.int 3) j p2) pos) d3 (.ok (z.2.2.2)) := ixH aix_3_4 ha hp
theorem ixh_3_4m {t0 : Type} {t1 : Type} {t2 : Type} {t3 : Type} {d0 : Cd t0} {d1 : Cd t1} {d2 : Cd t2} {d3 : Cd t3} {m : R (t0 × t1 × t2 × t3)} {j : Nat} {p2 : Pos} (ha : DE X W ds a (cH (aCons d0 (aCons d1 (aCons d2 (aOne d3))))) m) (hp : PlainIx (.Constant (.int 3) j p2) := by exact fun _ _ => rfl) : DE X W ds (.Subscript a (.Constant (.int 3) j p2) pos) d3 (m >>= fun z => .ok (z.2.2.2)) := ixH aix_3_4 ha hp
theorem ixh_0_5p {t0 : Type} {t1 : Type} {t2 : Type} {t3 : Type} {t4 : Type} {d0 : Cd t0} {d1 : Cd t1} {d2 : Cd t2} {d3 : Cd t3} {d4 : Cd t4} {z : t0 × t1 × t2 × t3 × t4} {j : Nat} {p2 : Pos} (ha : DE X W ds a (cH (aCons d0 (aCons d1 (aCons d2 (aCons d3 (aOne d4)))))) (.ok z)) (hp : PlainIx (.Constant (.int 0) j p2) := by exact fun _ _ => rfl) : DE X W ds (.Subscript a (.Constant (.int 0) j p2) pos) d0 (.ok (z.1)) := ixH aix_0_5 ha hp
theorem ixh_0_5m {t0 : Type} {t1 : Type} {t2 : Type} {t3 : Type} {t4 : Type} {d0 : Cd t0} {d1 : Cd t1} {d2 : Cd t2} {d3 : Cd t3} {d4 : Cd t4} {m : R (t0 × t1 × t2 × t3 × t4)} {j : Nat} {p2 : Pos} (ha : DE X W ds a (cH (aCons d0 (aCons d1 (aCons d2 (aCons d3 (aOne d4)))))) m) (hp : PlainIx (.Constant (.int 0) j p2) := by exact fun _ _ => rfl) : DE X W ds (.Subscript a (.Constant (.int 0) j p2) pos) d0 (m >>= fun z => .ok (z.1)) := ixH aix_0_5 ha hp
theorem ixh_1_5p {t0 : Type} {t1 : Type} {t2 : Type} {t3 : Type} {t4 : Type} {d0 : Cd t0} {d1 : Cd t1} {d2 : Cd t2} {d3 : Cd t3} {d4 : Cd t4} {z : t0 × t1 × t2 × t3 × t4} {j : Nat} {p2 : Pos} (ha : DE X W ds a (cH (aCons d0 (aCons d1 (aCons d2 (aCons d3 (aOne d4)))))) (.ok z)) (hp : PlainIx (.Constant (.int 1) j p2) := by exact fun _ _ => rfl) : DE X W ds (.Subscript a (.Constant (.int 1) j p2) pos) d1 (.ok (z.2.1)) := ixH aix_1_5 ha hp
theorem ixh_1_5m {t0 : Type} {t1 : Type} {t2 : Type} {t3 : Type} {t4 : Type} {d0 : Cd t0} {d1 : Cd t1} {d2 : Cd t2} {d3 : Cd t3} {d4 : Cd t4} {m : R (t0 × t1 × t2 × t3 × t4)} {j : Nat} {p2 : Pos} (ha : DE X W ds a (cH (aCons d0 (aCons d1 (aCons d2 (aCons d3 (aOne d4)))))) m) (hp : PlainIx (.Constant (.int 1) j p2) := by exact fun _ _ => rfl) : DE X W ds (.Subscript a (.Constant (.int 1) j p2) pos) d1 (m >>= fun z => .ok (z.2.1)) := ixH aix_1_5 ha hp
theorem ixh_2_5p {t0 : Type} {t1 : Type} {t2 : Type} {t3 : Type} {t4 : Type} {d0 : Cd t0} {d1 : Cd t1} {d2 : Cd t2} {d3 : Cd t3} {d4 : Cd t4} {z : t0 × t1 × t2 × t3 × t4} {j : Nat} {p2 : Pos} (ha : DE X W ds a (cH (aCons d0 (aCons d1 (aCons d2 (aCons d3 (aOne d4)))))) (.ok z)) (hp : PlainIx (.Constant (.int 2) j p2) := by exact fun _ _ => rfl) : DE X W ds (.Subscript a (.Constant (.int 2) j p2) pos) d2 (.ok (z.2.2.1)) := ixH aix_2_5 ha hp
theorem ixh_2_5m {t0 : Type} {t1 : Type} {t2 : Type} {t3 : Type} {t4 : Type} {d0 : Cd t0} {d1 : Cd t1} {d2 : Cd t2} {d3 : Cd t3} {d4 : Cd t4} {m : R (t0 × t1 × t2 × t3 × t4)} {j : Nat} {p2 : Pos} (ha : DE X W ds a (cH (aCons d0 (aCons d1 (aCons d2 (aCons d3 (aOne d4)))))) m) (hp : PlainIx (.Constant (.int 2) j p2) := by exact fun _ _ => rfl) : DE X W ds (.Subscript a (.Constant (.int 2) j p2) pos) d2 (m >>= fun z => .ok (z.2.2.1)) := ixH aix_2_5 ha hp
theorem ixh_3_5p {t0 : Type} {t1 : Type} {t2 : Type} {t3 : Type} {t4 : Type} {d0 : Cd t0} {d1 : Cd t1} {d2 : Cd t2} {d3 : Cd t3} {d4 : Cd t4} {z : t0 × t1 × t2 × t3 × t4} {j : Nat} {p2 : Pos} (ha : DE X W ds a (cH (aCons d0 (aCons d1 (aCons d2 (aCons d3 (aOne d4)))))) (.ok z)) (hp : PlainIx (.Constant (.int 3) j p2) := by exact fun _ _ => rfl) : DE X W ds (.Subscript a (.Constant (.int 3) j p2) pos) d3 (.ok (z.2.2.2.1)) := ixH aix_3_5 ha hp
theorem ixh_3_5m {t0 : Type} {t1 : Type} {t2 : Type} {t3 : Type} {t4 : Type} {d0 : Cd t0} {d1 : Cd t1} {d2 : Cd t2} {d3 : Cd t3} {d4 : Cd t4} {m : R (t0 × t1 × t2 × t3 × t4)} {j : Nat} {p2 : Pos} (ha : DE X W ds a (cH (aCons d0 (aCons d1 (aCons d2 (aCons d3 (aOne d4)))))) m) (hp : PlainIx (.Constant (.int 3) j p2) := by exact fun _ _ => rfl) : DE X W ds (.Subscript a (.Constant (.int 3) j p2) pos) d3 (m >>= fun z => .ok (z.2.2.2.1)) := ixH aix_3_5 ha hp
theorem ixh_4_5p {t0 : Type} {t1 : Type} {t2 : Type} {t3 : Type} {t4 : Type} {d0 : Cd t0} {d1 : Cd t1} {d2 : Cd t2} {d3 : Cd t3} {d4 : Cd t4} {z : t0 × t1 × t2 × t3 × t4} {j : Nat} {p2 : Pos} (ha : DE X W ds a (cH (aCons d0 (aCons d1 (aCons d2 (aCons d3 (aOne d4)))))) (.ok z)) (hp : PlainIx (.Constant (.int 4) j p2) := by exact fun _ _ => rfl) : DE X W ds (.Subscript a (.Constant (.int 4) j p2) pos) d4 (.ok (z.2.2.2.2)) := ixH aix_4_5 ha hp
theorem ixh_4_5m {t0 : Type} {t1 : Type} {t2 : Type} {t3 : Type} {t4 : Type} {d0 : Cd t0} {d1 : Cd t1} {d2 : Cd t2} {d3 : Cd t3} {d4 : Cd t4} {m : R (t0 × t1 × t2 × t3 × t4)} {j : Nat} {p2 : Pos} (ha : DE X W ds a (cH (aCons d0 (aCons d1 (aCons d2 (aCons d3 (aOne d4)))))) m) (hp : PlainIx (.Constant (.int 4) j p2) := by exact fun _ _ => rfl) : DE X W ds (.Subscript a (.Constant (.int 4) j p2) pos) d4 (m >>= fun z => .ok (z.2.2.2.2)) := ixH aix_4_5 ha hp
theorem ixh_0_6p {t0 : Type} {t1 : Type} {t2 : Type} {t3 : Type} {t4 : Type} {t5 : Type} {d0 : Cd t0} {d1 : Cd t1} {d2 : Cd t2} {d3 : Cd t3} {d4 : Cd t4} {d5 : Cd t5} {z : t0 × t1 × t2 × t3 × t4 × t5} {j : Nat} {p2 : Pos} (ha : DE X W ds a (cH (aCons d0 (aCons d1 (aCons d2 (aCons d3 (aCons d4 (aOne d5))))))) (.ok z)) (hp : PlainIx (.Constant (.int 0) j p2) := by exact fun _ _ => rfl) : DE X W ds (.Subscript a (.Constant (.int 0) j p2) pos) d0 (.ok (z.1)) := ixH aix_0_6 ha hp
theorem ixh_0_6m {t0 : Type} {t1 : Type} {t2 : Type} {t3 : Type} {t4 : Type} {t5 : Type} {d0 : Cd t0} {d1 : Cd t1} {d2 : Cd t2} {d3 : Cd t3} {d4 : Cd t4} {d5 : Cd t5} {m : R (t0 × t1 × t2 × t3 × t4 × t5)} {j : Nat} {p2 : Pos} (ha : DE X W ds a (cH (aCons d0 (aCons d1 (aCons d2 (aCons d3 (aCons d4 (aOne d5))))))) m) (hp : PlainIx (.Constant (.int 0) j p2) := by exact fun _ _ => rfl) : DE X W ds (.Subscript a (.Constant (.int 0) j p2) pos) d0 (m >>= fun z => .ok (z.1)) := ixH aix_0_6 ha hp
theorem ixh_1_6p {t0 : Type} {t1 : Type} {t2 : Type} {t3 : Type} {t4 : Type} {t5 : Type} {d0 : Cd t0} {d1 : Cd t1} {d2 : Cd t2} {d3 : Cd t3} {d4 : Cd t4} {d5 : Cd t5} {z : t0 × t1 × t2 × t3 × t4 × t5} {j : Nat} {p2 : Pos} (ha : DE X W ds a (cH (aCons d0 (aCons d1 (aCons d2 (aCons d3 (aCons d4 (aOne d5))))))) (.ok z)) (hp : PlainIx (.Constant (.int 1) j p2) := by exact fun _ _ => rfl) : DE X W ds (.Subscript a (.Constant (.int 1) j p2) pos) d1 (.ok (z.2.1)) := ixH aix_1_6 ha hp
theorem ixh_1_6m {t0 : Type} {t1 : Type} {t2 : Type} {t3 : Type} {t4 : Type} {t5 : Type} {d0 : Cd t0} {d1 : Cd t1} {d2 : Cd t2} {d3 : Cd t3} {d4 : Cd t4} {d5 : Cd t5} {m : R (t0 × t1 × t2 × t3 × t4 × t5)} {j : Nat} {p2 : Pos} (ha : DE X W ds a (cH (aCons d0 (aCons d1 (aCons d2 (aCons d3 (aCons d4 (aOne d5))))))) m) (hp : PlainIx (.Constant (.int 1) j p2) := by exact fun _ _ => rfl) : DE X W ds (.Subscript a (.Constant (.int 1) j p2) pos) d1 (m >>= fun z => .ok (z.2.1)) := ixH aix_1_6 ha hp
theorem ixh_2_6p {t0 : Type} {t1 : Type} {t2 : Type} {t3 : Type} {t4 : Type} {t5 : Type} {d0 : Cd t0} {d1 : Cd t1} {d2 : Cd t2} {d3 : Cd t3} {d4 : Cd t4} {d5 : Cd t5} {z : t0 × t1 × t2 × t3 × t4 × t5} {j : Nat} {p2 : Pos} (ha : DE X W ds a (cH (aCons d0 (aCons d1 (aCons d2 (aCons d3 (aCons d4 (aOne d5))))))) (.ok z)) (hp : PlainIx (.Constant (.int 2) j p2) := by exact fun _ _ => rfl) : DE X W ds (.Subscript a (.Constant (.int 2) j p2) pos) d2 (.ok (z.2.2.1)) := ixH aix_2_6 ha hp
theorem ixh_2_6m {t0 : Type} {t1 : Type} {t2 : Type} {t3 : Type} {t4 : Type} {t5 : Type} {d0 : Cd t0} {d1 : Cd t1} {d2 : Cd t2} {d3 : Cd t3} {d4 : Cd t4} {d5 : Cd t5} {m : R (t0 × t1 × t2 × t3 × t4 × t5)} {j : Nat} {p2 : Pos} (ha : DE X W ds a (cH (aCons d0 (aCons d1 (aCons d2 (aCons d3 (aCons d4 (aOne d5))))))) m) (hp : PlainIx (.Constant (.int 2) j p2) := by exact fun _ _ => rfl) : DE X W ds (.Subscript a (.Constant (.int 2) j p2) pos) d2 (m >>= fun z => .ok (z.2.2.1)) := ixH aix_2_6 ha hp
theorem ixh_3_6p {t0 : Type} {t1 : Type} {t2 : Type} {t3 : Type} {t4 : Type} {t5 : Type} {d0 : Cd t0} {d1 : Cd t1} {d2 : Cd t2} {d3 : Cd t3} {d4 : Cd t4} {d5 : Cd t5} {z : t0 × t1 × t2 × t3 × t4 × t5} {j : Nat} {p2 : Pos} (ha : DE X W ds a (cH (aCons d0 (aCons d1 (aCons d2 (aCons d3 (aCons d4 (aOne d5))))))) (.ok z)) (hp : PlainIx (.Constant (.int 3) j p2) := by exact fun _ _ => rfl) : DE X W ds (.Subscript a (.Constant (.int 3) j p2) pos) d3 (.ok (z.2.2.2.1)) := ixH aix_3_6 ha hp
theorem ixh_3_6m {t0 : Type} {t1 : Type} {t2 : Type} {t3 : Type} {t4 : Type} {t5 : Type} {d0 : Cd t0} {d1 : Cd t1} {d2 : Cd t2} {d3 : Cd t3} {d4 : Cd t4} {d5 : Cd t5} {m : R (t0 × t1 × t2 × t3 × t4 × t5)} {j : Nat} {p2 : Pos} (ha : DE X W ds a (cH (aCons d0 (aCons d1 (aCons d2 (aCons d3 (aCons d4 (aOne d5))))))) m) (hp : PlainIx (.Constant (.int 3) j p2) := by exact fun _ _ => rfl) : DE X W ds (.Subscript a (.Constant (.int 3) j p2) pos) d3 (m >>= fun z => .ok (z.2.2.2.1)) := ixH aix_3_6 ha hp
theorem ixh_4_6p {t0 : Type} {t1 : Type} {t2 : Type} {t3 : Type} {t4 : Type} {t5 : Type} {d0 : Cd t0} {d1 : Cd t1} {d2 : Cd t2} {d3 : Cd t3} {d4 : Cd t4} {d5 : Cd t5} {z : t0 × t1 × t2 × t3 × t4 × t5} {j : Nat} {p2 : Pos} (ha : DE X W ds a (cH (aCons d0 (aCons d1 (aCons d2 (aCons d3 (aCons d4 (aOne d5))))))) (.ok z)) (hp : PlainIx (.Constant (.int 4) j p2) := by exact fun _ _ => rfl) : DE X W ds (.Subscript a (.Constant (.int 4) j p2) pos) d4 (.ok (z.2.2.2.2.1)) := ixH aix_4_6 ha hp
theorem ixh_4_6m {t0 : Type} {t1 : Type} {t2 : Type} {t3 : Type} {t4 : Type} {t5 : Type} {d0 : Cd t0} {d1 : Cd t1} {d2 : Cd t2} {d3 : Cd t3} {d4 : Cd t4} {d5 : Cd t5} {m : R (t0 × t1 × t2 × t3 × t4 × t5)} {j : Nat} {p2 : Pos} (ha : DE X W ds a (cH (aCons d0 (aCons d1 (aCons d2 (aCons d3 (aCons d4 (aOne d5))))))) m) (hp : PlainIx (.Constant (.int 4) j p2) := by exact fun _ _ => rfl) : DE X W ds (.Subscript a (.Constant (.int 4) j p2) pos) d4 (m >>= fun z => .ok (z.2.2.2.2.1)) := ixH aix_4_6 ha hp
theorem ixh_5_6p {t0 : Type} {t1 : Type} {t2 : Type} {t3 : Type} {t4 : Type} {t5 : Type} {d0 : Cd t0} {d1 : Cd t1} {d2 : Cd t2} {d3 : Cd t3} {d4 : Cd t4} {d5 : Cd t5} {z : t0 × t1 × t2 × t3 × t4 × t5} {j : Nat} {p2 : Pos} (ha : DE X W ds a (cH (aCons d0 (aCons d1 (aCons d2 (aCons d3 (aCons d4 (aOne d5))))))) (.ok z)) (hp : PlainIx (.Constant (.int 5) j p2) := by exact fun _ _ => rfl) : DE X W ds (.Subscript a (.Constant (.int 5) j p2) pos) d5 (.ok (z.2.2.2.2.2)) := ixH aix_5_6 ha hp
theorem ixh_5_6m {t0 : Type} {t1 : Type} {t2 : Type} {t3 : Type} {t4 : Type} {t5 : Type} {d0 : Cd t0} {d1 : Cd t1} {d2 : Cd t2} {d3 : Cd t3} {d4 : Cd t4} {d5 : Cd t5} {m : R (t0 × t1 × t2 × t3 × t4 × t5)} {j : Nat} {p2 : Pos} (ha : DE X W ds a (cH (aCons d0 (aCons d1 (aCons d2 (aCons d3 (aCons d4 (aOne d5))))))) m) (hp : PlainIx (.Constant (.int 5) j p2) := by exact fun _ _ => rfl) : DE X W ds (.Subscript a (.Constant (.int 5) j p2) pos) d5 (m >>= fun z => .ok (z.2.2.2.2.2)) := ixH aix_5_6 ha hp
/-! ### isinstance against a built-in type, where the kind is known -/
class Ty {α : Type} (c : Cd α) (n : outParam String) : Prop where
  ty : ∀ {K : PySem.W.Frag} {H : Hp} {v : V} {a : α}, c.rep K H v a → TyX K H v (.type n)
theorem tyx_L {K : PySem.W.Frag} {H : Hp} {p : Addr} {vs : List V} (h : SqL K H p vs) : TyX K H (.ref p) (.type "list") := by
  rcases h with (h | ⟨o, h⟩) | ⟨o, its, n, h1, h2, _⟩
  · exact .base (.lst h)
  · exact .base (.frz h)
  · exact .kList h1 h2
theorem tyx_T {K : PySem.W.Frag} {H : Hp} {p : Addr} {vs : List V} (h : SqT K H p vs) : TyX K H (.ref p) (.type "tuple") := by
  rcases h with (h | ⟨o, h⟩) | ⟨o, its, n, h1, h2, _⟩
  · exact .base (.tup h)
  · exact .fTuple h
  · exact .kTuple h1 h2
instance : Ty cI "int" := ⟨fun {K H v a} h => by
  have e : v = V.int a := h
  rw [e]; exact .base (.int a)⟩
instance : Ty cB "bool" := ⟨fun {K H v a} h => by
  have e : v = V.bl a := h
  rw [e]; exact .base (.bl a)⟩
instance : Ty cS "str" := ⟨fun {K H v a} h => by
  have e : v = V.str a := h
  rw [e]; exact .base (.str a)⟩
instance : Ty cN "NoneType" := ⟨fun {K H v a} h => by
  have e : v = V.non := h
  rw [e]; exact .base .non⟩
instance {c : Cd α} : Ty (cL c) "list" := ⟨fun ⟨p, vs, e, h, _⟩ => by rw [e]; exact tyx_L h⟩
instance {c : Cd α} : Ty (cT c) "tuple" := ⟨fun ⟨p, vs, e, h, _⟩ => by rw [e]; exact tyx_T h⟩
instance {r : CA τ} : Ty (cP r) "tuple" := ⟨fun ⟨p, vs, e, h, _⟩ => by rw [e]; exact tyx_T h⟩
instance {r : CA τ} : Ty (cH r) "list" := ⟨fun ⟨p, vs, e, h, _⟩ => by rw [e]; exact tyx_L h⟩
theorem ty_mono {K : PySem.W.Frag} {H H' : Hp} {v : V} {t : Value} (s : Same H H') (h : TyX K H v t) : TyX K H' v t := by
  cases h with
  | base b =>
    cases b with
    | non => exact .base .non
    | bl x => exact .base (.bl x)
    | int i => exact .base (.int i)
    | str x => exact .base (.str x)
    | flt x => exact .base (.flt x)
    | lst e => exact .base (.lst (s _ _ e))
    | frz e => exact .base (.frz (s _ _ e))
    | tup e => exact .base (.tup (s _ _ e))
    | dK e => exact .base (.dK (s _ _ e))
    | dT e => exact .base (.dT (s _ _ e))
    | ins e cl ha hn htk hm => exact .base (.ins (s _ _ e) cl ha hn htk hm)
  | byt b => exact .byt b
  | set e => exact .set (s _ _ e)
  | kList e c => exact .kList e c
  | kTuple e c => exact .kTuple e c
  | kDict e c => exact .kDict e c
  | fTuple e => exact .fTuple (s _ _ e)
  | fDict e => exact .fDict (s _ _ e)
/-- isinstance(e, T) -/
theorem isi {n T : String} {nm : Str} {k : Bool} {m : R α} {p2 : Pos} (hk : kitB n T = some k) (hv : bootBuiltins nm = some (.type T)) (hm : X.mg "isinstance" = none) (hm2 : X.mg nm = none) (ha : DE X W ds e c m) [Ty c n] (hg : Gl X "isinstance" := by rfl) (hg2 : Gl X nm := by rfl) (hn : nm ≠ "__name__" := by decide) (hd : (nm == ("__debug__" : Str)) = false := by decide)
    (hs : starEach (e :: [.Name nm p2]) X.env = (false, eval e X.env) :: starEach [.Name nm p2] X.env := by rfl) (hs2 : starEach (.Name nm p2 :: []) X.env = (false, eval (.Name nm p2) X.env) :: starEach [] X.env := by rfl) (hpl : (backTo pos (starEach [.Name nm p2] X.env)).any (·.1) = false := by rfl) :
    DE X W ds (.Call (.Name "isinstance" p) [e, .Name nm p2] [] pos) cB (m >>= fun _ => .ok k) := by
  obtain ⟨t, pe, q⟩ := ha
  refine ⟨_, pe_callB call_isi hg hm boot_isinstance (pa_cons pe (pa_cons (pe_bltn (v := .ty T) hg2 hm2 hv rfl hn hd) pa_nil hs2) hs) (by decide) (by decide) hs hpl, fun S0 H0 σ S H Q E P => q S0 H0 σ S H _ E (P.bind fun z v S1 H1 g r P1 => ?_)⟩
  exact ⟨v, .ty T, .type n, .type T, k, rfl, .ty T, ty_mono g.inn (Ty.ty r), kit_ty hk, P1.ok g.inn rfl⟩
theorem isi_p {n T : String} {nm : Str} {k : Bool} {p2 : Pos} (hk : kitB n T = some k) (hv : bootBuiltins nm = some (.type T)) (hm : X.mg "isinstance" = none) (hm2 : X.mg nm = none) (ha : DE X W ds e c (.ok x)) [Ty c n] (hg : Gl X "isinstance" := by rfl) (hg2 : Gl X nm := by rfl) (hn : nm ≠ "__name__" := by decide) (hd : (nm == ("__debug__" : Str)) = false := by decide)
    (hs : starEach (e :: [.Name nm p2]) X.env = (false, eval e X.env) :: starEach [.Name nm p2] X.env := by rfl) (hs2 : starEach (.Name nm p2 :: []) X.env = (false, eval (.Name nm p2) X.env) :: starEach [] X.env := by rfl) (hpl : (backTo pos (starEach [.Name nm p2] X.env)).any (·.1) = false := by rfl) :
    DE X W ds (.Call (.Name "isinstance" p) [e, .Name nm p2] [] pos) cB (.ok k) := isi hk hv hm hm2 ha hg hg2 hn hd hs hs2 hpl
/-! ### len, int, abs, max, min, gcd -/
theorem lenL_m {c : Cd α} {m : R (List α)} (hm : X.mg "len" = none) (ha : DE X W ds e (cL c) m) (hg : Gl X "len" := by rfl) (he : starEach (e :: []) X.env = (false, eval e X.env) :: starEach [] X.env := by rfl) (hpl : (backTo pos (starEach [] X.env)).any (·.1) = false := by rfl) : DE X W ds (.Call (.Name "len" p) [e] [] pos) cI (m >>= fun z => .ok ((z.length : Nat) : Int)) := callB (nm := "len") call_len_seq cs_lenL boot_len hm (arg1 ha he) hg (by decide) (by decide) he hpl
theorem lenL_p {c : Cd α} {z : List α} (hm : X.mg "len" = none) (ha : DE X W ds e (cL c) (.ok z)) (hg : Gl X "len" := by rfl) (he : starEach (e :: []) X.env = (false, eval e X.env) :: starEach [] X.env := by rfl) (hpl : (backTo pos (starEach [] X.env)).any (·.1) = false := by rfl) : DE X W ds (.Call (.Name "len" p) [e] [] pos) cI (.ok ((z.length : Nat) : Int)) := lenL_m hm ha hg he hpl
theorem lenT_m {c : Cd α} {m : R (List α)} (hm : X.mg "len" = none) (ha : DE X W ds e (cT c) m) (hg : Gl X "len" := by rfl) (he : starEach (e :: []) X.env = (false, eval e X.env) :: starEach [] X.env := by rfl) (hpl : (backTo pos (starEach [] X.env)).any (·.1) = false := by rfl) : DE X W ds (.Call (.Name "len" p) [e] [] pos) cI (m >>= fun z => .ok ((z.length : Nat) : Int)) := callB (nm := "len") call_len_seq cs_lenT boot_len hm (arg1 ha he) hg (by decide) (by decide) he hpl
theorem lenT_p {c : Cd α} {z : List α} (hm : X.mg "len" = none) (ha : DE X W ds e (cT c) (.ok z)) (hg : Gl X "len" := by rfl) (he : starEach (e :: []) X.env = (false, eval e X.env) :: starEach [] X.env := by rfl) (hpl : (backTo pos (starEach [] X.env)).any (·.1) = false := by rfl) : DE X W ds (.Call (.Name "len" p) [e] [] pos) cI (.ok ((z.length : Nat) : Int)) := lenT_m hm ha hg he hpl
theorem lenLT_m {c : Cd α} {m : R (List α)} (hm : X.mg "len" = none) (ha : DE X W ds e (cLT c) m) (hg : Gl X "len" := by rfl) (he : starEach (e :: []) X.env = (false, eval e X.env) :: starEach [] X.env := by rfl) (hpl : (backTo pos (starEach [] X.env)).any (·.1) = false := by rfl) : DE X W ds (.Call (.Name "len" p) [e] [] pos) cI (m >>= fun z => .ok ((z.length : Nat) : Int)) := callB (nm := "len") call_len_seq cs_lenLT boot_len hm (arg1 ha he) hg (by decide) (by decide) he hpl
theorem lenLT_p {c : Cd α} {z : List α} (hm : X.mg "len" = none) (ha : DE X W ds e (cLT c) (.ok z)) (hg : Gl X "len" := by rfl) (he : starEach (e :: []) X.env = (false, eval e X.env) :: starEach [] X.env := by rfl) (hpl : (backTo pos (starEach [] X.env)).any (·.1) = false := by rfl) : DE X W ds (.Call (.Name "len" p) [e] [] pos) cI (.ok ((z.length : Nat) : Int)) := lenLT_m hm ha hg he hpl
theorem lenP_m {c : CA τ} {m : R (τ)} {n : Int} (hm : X.mg "len" = none) (ha : DE X W ds e (cP c) m) (hn : n = ((c.n : Nat) : Int) := by exact rfl) (hg : Gl X "len" := by rfl) (he : starEach (e :: []) X.env = (false, eval e X.env) :: starEach [] X.env := by rfl) (hpl : (backTo pos (starEach [] X.env)).any (·.1) = false := by rfl) : DE X W ds (.Call (.Name "len" p) [e] [] pos) cI (m >>= fun z => .ok n) := by rw [hn]; exact callB (nm := "len") call_len_seq cs_lenP boot_len hm (arg1 ha he) hg (by decide) (by decide) he hpl
theorem lenP_p {c : CA τ} {z : τ} {n : Int} (hm : X.mg "len" = none) (ha : DE X W ds e (cP c) (.ok z)) (hn : n = ((c.n : Nat) : Int) := by exact rfl) (hg : Gl X "len" := by rfl) (he : starEach (e :: []) X.env = (false, eval e X.env) :: starEach [] X.env := by rfl) (hpl : (backTo pos (starEach [] X.env)).any (·.1) = false := by rfl) : DE X W ds (.Call (.Name "len" p) [e] [] pos) cI (.ok n) := lenP_m hm ha hn hg he hpl
theorem intI_m  {m : R (Int)} (hm : X.mg "int" = none) (ha : DE X W ds e (cI) m) (hg : Gl X "int" := by rfl) (he : starEach (e :: []) X.env = (false, eval e X.env) :: starEach [] X.env := by rfl) (hpl : (backTo pos (starEach [] X.env)).any (·.1) = false := by rfl) : DE X W ds (.Call (.Name "int" p) [e] [] pos) cI (m >>= fun z => .ok z) := callTy (nm := "int") call_int1 cs_int PyProof.Rows.boot_int hm (arg1 ha he) hg (by decide) (by decide) he hpl
theorem intI_p  {z : Int} (hm : X.mg "int" = none) (ha : DE X W ds e (cI) (.ok z)) (hg : Gl X "int" := by rfl) (he : starEach (e :: []) X.env = (false, eval e X.env) :: starEach [] X.env := by rfl) (hpl : (backTo pos (starEach [] X.env)).any (·.1) = false := by rfl) : DE X W ds (.Call (.Name "int" p) [e] [] pos) cI (.ok z) := intI_m hm ha hg he hpl
theorem intB_m  {m : R (Bool)} (hm : X.mg "int" = none) (ha : DE X W ds e (cB) m) (hg : Gl X "int" := by rfl) (he : starEach (e :: []) X.env = (false, eval e X.env) :: starEach [] X.env := by rfl) (hpl : (backTo pos (starEach [] X.env)).any (·.1) = false := by rfl) : DE X W ds (.Call (.Name "int" p) [e] [] pos) cI (m >>= fun z => .ok (if z = true then 1 else 0)) := callTy (nm := "int") call_int1 cs_intB PyProof.Rows.boot_int hm (arg1 ha he) hg (by decide) (by decide) he hpl
theorem intB_p  {z : Bool} (hm : X.mg "int" = none) (ha : DE X W ds e (cB) (.ok z)) (hg : Gl X "int" := by rfl) (he : starEach (e :: []) X.env = (false, eval e X.env) :: starEach [] X.env := by rfl) (hpl : (backTo pos (starEach [] X.env)).any (·.1) = false := by rfl) : DE X W ds (.Call (.Name "int" p) [e] [] pos) cI (.ok (if z = true then 1 else 0)) := intB_m hm ha hg he hpl
theorem absI_m  {m : R (Int)} (hm : X.mg "abs" = none) (ha : DE X W ds e (cI) m) (hg : Gl X "abs" := by rfl) (he : starEach (e :: []) X.env = (false, eval e X.env) :: starEach [] X.env := by rfl) (hpl : (backTo pos (starEach [] X.env)).any (·.1) = false := by rfl) : DE X W ds (.Call (.Name "abs" p) [e] [] pos) cI (m >>= fun z => .ok (if z < 0 then -z else z)) := callB (nm := "abs") call_abs cs_abs boot_abs hm (arg1 ha he) hg (by decide) (by decide) he hpl
theorem absI_p  {z : Int} (hm : X.mg "abs" = none) (ha : DE X W ds e (cI) (.ok z)) (hg : Gl X "abs" := by rfl) (he : starEach (e :: []) X.env = (false, eval e X.env) :: starEach [] X.env := by rfl) (hpl : (backTo pos (starEach [] X.env)).any (·.1) = false := by rfl) : DE X W ds (.Call (.Name "abs" p) [e] [] pos) cI (.ok (if z < 0 then -z else z)) := absI_m hm ha hg he hpl
theorem max_p {x y : Int} (hc : X.calm = true) (hm : X.mg "max" = none) (ha : DE X W ds a cI (.ok x)) (hb : DE X W ds b cI (.ok y)) (hg : Gl X "max" := by rfl) (he : starEach (a :: [b]) X.env = (false, eval a X.env) :: starEach [b] X.env := by rfl) (he2 : starEach (b :: []) X.env = (false, eval b X.env) :: starEach [] X.env := by rfl) (hpl : (backTo pos (starEach [b] X.env)).any (·.1) = false := by rfl) : DE X W ds (.Call (.Name "max" p) [a, b] [] pos) cI (.ok (if y > x then y else x)) := callB (nm := "max") (call_max2 hc) cs_max PyProof.Rows.boot_max hm (argC_pp ha (arg1 hb he2) he) hg (by decide) (by decide) he hpl
theorem max_m {mx my : R Int} (hc : X.calm = true) (hm : X.mg "max" = none) (ha : DE X W ds a cI mx) (hb : DE X W ds b cI my) (hg : Gl X "max" := by rfl) (he : starEach (a :: [b]) X.env = (false, eval a X.env) :: starEach [b] X.env := by rfl) (he2 : starEach (b :: []) X.env = (false, eval b X.env) :: starEach [] X.env := by rfl) (hpl : (backTo pos (starEach [b] X.env)).any (·.1) = false := by rfl) : DE X W ds (.Call (.Name "max" p) [a, b] [] pos) cI ((mx >>= fun x => my >>= fun y => .ok (x, y)) >>= fun z => .ok (if z.2 > z.1 then z.2 else z.1)) := callB (nm := "max") (call_max2 hc) cs_max PyProof.Rows.boot_max hm (argC ha (arg1 hb he2) he) hg (by decide) (by decide) he hpl
theorem min_p {x y : Int} (hc : X.calm = true) (hm : X.mg "min" = none) (ha : DE X W ds a cI (.ok x)) (hb : DE X W ds b cI (.ok y)) (hg : Gl X "min" := by rfl) (he : starEach (a :: [b]) X.env = (false, eval a X.env) :: starEach [b] X.env := by rfl) (he2 : starEach (b :: []) X.env = (false, eval b X.env) :: starEach [] X.env := by rfl) (hpl : (backTo pos (starEach [b] X.env)).any (·.1) = false := by rfl) : DE X W ds (.Call (.Name "min" p) [a, b] [] pos) cI (.ok (if y < x then y else x)) := callB (nm := "min") (call_min2 hc) cs_min PyProof.Rows.boot_min hm (argC_pp ha (arg1 hb he2) he) hg (by decide) (by decide) he hpl
theorem min_m {mx my : R Int} (hc : X.calm = true) (hm : X.mg "min" = none) (ha : DE X W ds a cI mx) (hb : DE X W ds b cI my) (hg : Gl X "min" := by rfl) (he : starEach (a :: [b]) X.env = (false, eval a X.env) :: starEach [b] X.env := by rfl) (he2 : starEach (b :: []) X.env = (false, eval b X.env) :: starEach [] X.env := by rfl) (hpl : (backTo pos (starEach [b] X.env)).any (·.1) = false := by rfl) : DE X W ds (.Call (.Name "min" p) [a, b] [] pos) cI ((mx >>= fun x => my >>= fun y => .ok (x, y)) >>= fun z => .ok (if z.2 < z.1 then z.2 else z.1)) := callB (nm := "min") (call_min2 hc) cs_min PyProof.Rows.boot_min hm (argC ha (arg1 hb he2) he) hg (by decide) (by decide) he hpl
theorem gcd_p {x y : Int} (hm : X.mg "gcd" = some (.builtin "math.gcd")) (ha : DE X W ds a cI (.ok x)) (hb : DE X W ds b cI (.ok y)) (hg : Gl X "gcd" := by rfl) (he : starEach (a :: [b]) X.env = (false, eval a X.env) :: starEach [b] X.env := by rfl) (he2 : starEach (b :: []) X.env = (false, eval b X.env) :: starEach [] X.env := by rfl) (hpl : (backTo pos (starEach [b] X.env)).any (·.1) = false := by rfl) : DE X W ds (.Call (.Name "gcd" p) [a, b] [] pos) cI (.ok ((Int.gcd x y : Nat) : Int)) := callF (nm := "gcd") cr_gcd cs_gcd hm (argC_pp ha (arg1 hb he2) he) hg (by decide) he hpl
end
section
variable {X : Cx} {W : WK} {T : Bool} {ds : Env} {α β γ τ ν κ ω : Type} {e : Expr} {st : Stmt} {sts rest : List Stmt} {pos p : Pos} {c : Cd α} {cb : RCd β} {eN : ν → Env} {eK : κ → Env} {I : ω → Out β ν κ} {m : R α} {k : α → R ω} {n : R ω}
section
variable {t : Expr} {A B : List Stmt} {mt : R Bool} {nA nB : R ω}
/-- the first branch leaves, the second one comes to the rest -/
theorem ifAB [kw : KW W] {σ' : Type} {eJ : σ' → Env} {jB : R σ'} {kJ : σ' → R ω} (ht : DT X W ds t mt) (hA : DS X W true ds A cb eN eK I nA) (hB : DS X W false ds B cb eJ eK (fun s => (.nxt s : Out β σ' κ)) jB) (hr : ∀ s, DS X W T (eJ s) rest cb eN eK I (kJ s)) :
    DS X W T ds (.If t A B pos :: rest) cb eN eK I (mt >>= fun z => if z = true then nA else jB >>= kJ) := fun S0 H0 σ S H D nx h E P => by
  obtain ⟨W, rfl⟩ := kw.ex
  obtain ⟨tt, pt, qt⟩ := ht
  refine seq (ps_if pt pss_tS pss_tS) (qt S0 H0 σ S H _ E (stT (W := fun _ => W) E P fun z S' H' E' P' => ?_))
  cases z with
  | true => exact hA S0 H0 σ S' H' D _ (.inl rfl) E' P'
  | false => exact hB S0 H0 σ S' H' { D with nx := tS X rest { D with nx := nx } } _ (.inr rfl) E' (R.post_mono (R.post_bind.mp P') (fun s q σ2 S2 H2 E2 => hr s S0 H0 σ2 S2 H2 D nx h E2 q) (fun _ q => q))
theorem ifBA [kw : KW W] {σ' : Type} {eJ : σ' → Env} {jA : R σ'} {kJ : σ' → R ω} (ht : DT X W ds t mt) (hA : DS X W false ds A cb eJ eK (fun s => (.nxt s : Out β σ' κ)) jA) (hB : DS X W true ds B cb eN eK I nB) (hr : ∀ s, DS X W T (eJ s) rest cb eN eK I (kJ s)) :
    DS X W T ds (.If t A B pos :: rest) cb eN eK I (mt >>= fun z => if z = true then jA >>= kJ else nB) := fun S0 H0 σ S H D nx h E P => by
  obtain ⟨W, rfl⟩ := kw.ex
  obtain ⟨tt, pt, qt⟩ := ht
  refine seq (ps_if pt pss_tS pss_tS) (qt S0 H0 σ S H _ E (stT (W := fun _ => W) E P fun z S' H' E' P' => ?_))
  cases z with
  | true => exact hA S0 H0 σ S' H' { D with nx := tS X rest { D with nx := nx } } _ (.inr rfl) E' (R.post_mono (R.post_bind.mp P') (fun s q σ2 S2 H2 E2 => hr s S0 H0 σ2 S2 H2 D nx h E2 q) (fun _ q => q))
  | false => exact hB S0 H0 σ S' H' D _ (.inl rfl) E' P'
end
theorem app_p {x : Str} {p1 p2 p3 : Pos} {as : List α} {z : α} {k : List α → R ω} (i : Nat) (he : DE X W ds e c (.ok z)) (hr : ∀ zs, DS X W T (ds.put i (.mu α c zs)) rest cb eN eK I (k zs)) (hd : ds.get i = .mu α c as := by rfl) (hN : X.N[i]? = some x := by rfl)
    (hv : Vis X.env.scope x := by first | exact Or.inl rfl | exact Or.inr (Or.inl rfl) | exact Or.inr (Or.inr rfl)) (hdb : (x == ("__debug__" : Str)) = false := by decide) (hcd : (x == ("__classdict__" : Str)) = false := by decide)
    (hs : swapsWith (.Call (.Attribute (.Name x p1) "append" p2) [e] [] p3) none pos.line X.env = pure false := by rfl)
    (ho : starEach [e] X.env = (false, eval e X.env) :: starEach [] X.env := by rfl)
    (pb : ∀ {te : TE}, PE X e te → PE X (.Call (.Attribute (.Name x p1) "append" p2) [e] [] p3) (tBM X.K "list" rAppend (tVar i) (tCons te tNil)) := by
      intro te pe; exact pe_bm PySem.F.plainAttrs_list PySem.F.slot_list_append PySem.F.type_list_append mt_append (pv _) (pa_cons pe pa_nil)) :
    DS X W T ds (.Expr (.Call (.Attribute (.Name x p1) "append" p2) [e] [] p3) pos :: rest) cb eN eK I (appM as z >>= k) := app (m := .ok z) i he hr hd hN hv hdb hcd hs ho pb
end
end Zk
set_option maxHeartbeats 4000000
/-! # Zk: more statements, the head -/
namespace Zk
open PySem PySem.Spec PyProof.Rows L2
section
variable {X : Cx} {W : WK} {T : Bool} {ds : Env} {α β γ τ ν κ ω : Type} {a b : Expr} {e : Expr} {es : List Expr} {st : Stmt} {sts rest body : List Stmt} {pos p : Pos} {c : Cd α} {cb : RCd β} {eN : ν → Env} {eK : κ → Env} {I : ω → Out β ν κ} {m : R α} {k : α → R ω} {n : R ω} {tg iter : Expr} {mi : R (List α)}
/-- the slot's value is not None from here on -/
theorem narrow (i : Nat) {o : Option α} (hd : ds.get i = .st (Option α) (cO c) o := by rfl) (hr : ∀ z, DS X W T (ds.put i (.st α c z)) sts cb eN eK I (k z)) : DS X W T ds sts cb eN eK I (unO o >>= k) := fun S0 H0 σ S H D nx h E P => by
  cases o with
  | none => exact False.elim P
  | some z =>
    refine hr z S0 H0 σ S H D nx h ?_ P
    obtain ⟨v, h1, h2⟩ := E.var hd
    have eσ : σ.set i (some v) = σ := by
      apply List.ext_getElem?
      intro j
      by_cases z : j = i
      · subst z
        rw [get_set_self (List.getElem?_eq_some_iff.mp h1).1, h1]
      · rw [List.getElem?_set_ne (Ne.symm z)]
    have q := E.putS (i := i) h2.2
    rw [eσ] at q
    exact q
/-! ### and, or of pure tests -/
theorem andW_q {x y : Bool} (ha : DT X W ds a (.ok x)) (hb : DW X W ds (.BoolOp .And (b :: es) pos) (.ok y)) : DW X W ds (.BoolOp .And (a :: b :: es) pos) (.ok (x && y)) := by
  have q := andW_p ha hb
  cases x <;> exact q
theorem orW_q {x y : Bool} (ha : DT X W ds a (.ok x)) (hb : DW X W ds (.BoolOp .Or (b :: es) pos) (.ok y)) : DW X W ds (.BoolOp .Or (a :: b :: es) pos) (.ok (x || y)) := by
  have q := orW_p ha hb
  cases x <;> exact q
theorem andV_q {x y : Bool} (ha : DE X W ds a cB (.ok x)) (hb : DE X W ds (.BoolOp .And (b :: es) pos) cB (.ok y)) : DE X W ds (.BoolOp .And (a :: b :: es) pos) cB (.ok (x && y)) := by
  have q := andV_p ha hb
  cases x <;> exact q
theorem orV_q {x y : Bool} (ha : DE X W ds a cB (.ok x)) (hb : DE X W ds (.BoolOp .Or (b :: es) pos) cB (.ok y)) : DE X W ds (.BoolOp .Or (a :: b :: es) pos) cB (.ok (x || y)) := by
  have q := orV_p ha hb
  cases x <;> exact q
/-! ### loops that may leave -/
def Out.up {β ν κ : Type} : Out Empty ν κ → Out β ν κ
  | .nxt s => .nxt s
  | .brk s => .brk s
  | .ctn s => .ctn s
  | .ret b => nomatch b
def loopB {S : Type} (step : S → α → R (Out Empty S S)) : List α → S → R S
  | [], s => .ok s
  | x :: xs, s => step s x >>= fun o => match o with
    | .nxt s' => loopB step xs s'
    | .ctn s' => loopB step xs s'
    | .brk s' => .ok s'
    | .ret b => nomatch b
theorem forB [kw : KW W] {σ' : Type} {eL : σ' → Env} {eB : σ' → α → Env} {step : σ' → α → R (Out Empty σ' σ')} {s0 : σ'} {k : σ' → R ω} (hc : X.calm = true) (hp : PassesOwn (model X.prog X.w) X.A X.env X.xe) (hi : DI X W ds tg iter c mi) (hg : DG X tg c eL eB) (l : EnvLe ds (eL s0))
    (hb : ∀ s a, DS X W false (eB s a) body cb eL eL (fun o => (Out.up o : Out β σ' σ')) (step s a)) (hr : ∀ s, DS X W T (eL s) rest cb eN eK I (k s)) (hs : ∀ x, foldedSetIterable iter X.env x = pure x := by intro _; rfl) :
    DS X W T ds (.For tg iter body [] pos :: rest) cb eN eK I (mi >>= fun as => loopB step as s0 >>= k) := fun S0 H0 σ S H D nx h E P => by
  obtain ⟨W, rfl⟩ := kw.ex
  obtain ⟨wi, pi, qi⟩ := hi
  obtain ⟨g, pg, qg⟩ := hg
  refine seq (ps_for hp hc pi pg pss_tS hs) (qi S0 H0 σ S H _ E (R.post_mono (R.post_bind.mp P) (fun as q J S' H' gr hJ => ?_) (fun x q cl d S' H' gr r => q cl d S' H' (E.grow.trans gr) r)))
  refine for_any eL (fun as s => (loopB step as s >>= k).post (fun w => OutP X.K S0 H0 cb eN eK D (I w)) (EX X.K W S0 H0)) hJ s0 S' (.refl _) ((E.step gr).le l) q (fun a r s σ2 S2 H2 v N hC E2 r2 hN => ?_) (fun s σ2 S2 H2 hC E2 => ?_)
  · refine qg s a v S0 H0 σ2 S2 H2 _ E2 r2 fun σ3 E3 => ?_
    have hC' : (step s a >>= fun o => (match o with
      | .nxt s' => loopB step r s'
      | .ctn s' => loopB step r s'
      | .brk s' => .ok s'
      | .ret b => nomatch b) >>= k).post (fun w => OutP X.K S0 H0 cb eN eK D (I w)) (EX X.K W S0 H0) := by rw [← R.bind_assoc]; exact hC
    refine hb s a S2 H0 σ3 S2 H2 { D with nx := N, ct := N, bk := tS X rest { D with nx := nx } } N (.inr rfl) E3.rebase (R.post_mono (R.post_bind.mp hC') (fun o q' => ?_) (fun _ q' => q'.rebase E3.grow))
    cases o with
    | nxt s' => exact fun σ4 S4 H4 E4 => hN s' σ4 S4 H4 q' E4.grow.st (E4.unbase E3.grow)
    | ctn s' => exact fun σ4 S4 H4 E4 => hN s' σ4 S4 H4 q' E4.grow.st (E4.unbase E3.grow)
    | brk s' => exact fun σ4 S4 H4 E4 => hr s' S0 H0 σ4 S4 H4 D nx h (E4.unbase E3.grow) q'
    | ret b => exact nomatch b
  · exact hr s S0 H0 σ2 S2 H2 D nx h E2 hC
@[reducible] def End.cs {S β ω : Type} (f : S → R ω) (g : β → R ω) : End S β → R ω
  | .go s => f s
  | .out b => g b
/-- items and length of a list that still changes -/
theorem lenMu {x : Str} {p1 : Pos} {as : List α} (i : Nat) (hm : X.mg "len" = none) (hd : ds.get i = .mu α c as := by rfl) (hN : X.N[i]? = some x := by rfl) (hv : Vis X.env.scope x := by first | exact Or.inl rfl | exact Or.inr (Or.inl rfl) | exact Or.inr (Or.inr rfl))
    (hdb : (x == ("__debug__" : Str)) = false := by decide) (hcd : (x == ("__classdict__" : Str)) = false := by decide) (hg : Gl X "len" := by rfl) (he : starEach (.Name x p1 :: []) X.env = (false, eval (.Name x p1) X.env) :: starEach [] X.env := by rfl) (hpl : (backTo pos (starEach [] X.env)).any (·.1) = false := by rfl) :
    DE X W ds (.Call (.Name "len" p) [.Name x p1] [] pos) cI (.ok ((as.length : Nat) : Int)) :=
  ⟨_, pe_callB call_len_seq hg hm PySem.boot_len (pa_cons (pe_var hN hv hdb hcd) pa_nil he) (by decide) (by decide) he hpl, fun S0 H0 σ S H Q E P => by
    obtain ⟨l, vs, h1, h2, h3, h4, h5⟩ := E.muv hd
    refine ⟨.ref l, h1, l, vs, rfl, .inl (SqL.of h4), P.ok E.inn ?_⟩
    show V.int _ = V.int _
    rw [h5.length]⟩
theorem ixMu {x : Str} {p1 : Pos} {as : List α} {mj : R Int} (i : Nat) (hb : DE X W ds b cI mj) (hd : ds.get i = .mu α c as := by rfl) (hN : X.N[i]? = some x := by rfl) (hv : Vis X.env.scope x := by first | exact Or.inl rfl | exact Or.inr (Or.inl rfl) | exact Or.inr (Or.inr rfl))
    (hdb : (x == ("__debug__" : Str)) = false := by decide) (hcd : (x == ("__classdict__" : Str)) = false := by decide) (hp : PlainIx b := by exact fun _ _ => rfl) :
    DE X W ds (.Subscript (.Name x p1) b pos) c (mj >>= fun j => getM as j) := by
  obtain ⟨tb, pb, qb⟩ := hb
  refine ⟨_, pe_ix ix_list (pe_var hN hv hdb hcd) pb hp, fun S0 H0 σ S H Q E P => ?_⟩
  obtain ⟨l, vs, h1, h2, h3, h4, h5⟩ := E.muv hd
  refine ⟨.ref l, h1, qb S0 H0 σ S H _ E (P.bind fun j u S1 H1 g r P1 => ?_)⟩
  unfold getM at P1
  cases q : atI as j with
  | none =>
    rw [q] at P1
    exact P1.elim
  | some z =>
    rw [q] at P1
    obtain ⟨w, k1, k2⟩ := reps_at h5 q
    exact ⟨l, vs, j, w, rfl, r, SqL.of (g.ex _ _ h4), k1, P1.ok g.inn (c.mono g.st k2)⟩
theorem ixMu_p {x : Str} {p1 : Pos} {as : List α} {j : Int} (i : Nat) (hb : DE X W ds b cI (.ok j)) (hd : ds.get i = .mu α c as := by rfl) (hN : X.N[i]? = some x := by rfl) (hv : Vis X.env.scope x := by first | exact Or.inl rfl | exact Or.inr (Or.inl rfl) | exact Or.inr (Or.inr rfl))
    (hdb : (x == ("__debug__" : Str)) = false := by decide) (hcd : (x == ("__classdict__" : Str)) = false := by decide) (hp : PlainIx b := by exact fun _ _ => rfl) :
    DE X W ds (.Subscript (.Name x p1) b pos) c (getM as j) := ixMu i hb hd hN hv hdb hcd hp
end
/-! ### the head -/
/-- names of the module that hold these very values -/
def heldB (vs : List (Str × Value)) (K : PySem.W.Frag) : Bool := vs.all fun q => He.eqO (PySem.W.nsIn K mainGlobals q.1) (some (some q.2))
def obsZ (n : Nat) (fa : List He.Fa) (fn : List He.DefD) (ex : PySem.W.Frag → Bool) (g : Addr → Option Obj) : He.AlD × Bool := (He.obsDG n fa fn g, ex (He.frG g (He.asD g n)))
def hookZ (n : Nat) (fa : List He.Fa) (fn : List He.DefD) (ex : PySem.W.Frag → Bool) : PySem.W.Hook where
  α := He.AlD × Bool
  obs := fun s => obsZ n fa fn ex s.heap.get?
  val := fun _ => (He.valD fn, true)
  says := fun _ h => ∃ K : PySem.W.Frag, K.In h ∧ He.SaysD fa fn K ∧ ex K = true
  of := fun _ _ e => ⟨_, He.frG_in, congrArg (fun z : He.AlD × Bool => z.1) e, congrArg (fun z : He.AlD × Bool => z.2) e⟩
  keeps := fun _ _ _ ⟨K, hK, c⟩ k => ⟨K, PySem.W.Frag.In.keeps hK k, c⟩
theorem obsZ_eq {n : Nat} {fa : List He.Fa} {fn : List He.DefD} {ex : PySem.W.Frag → Bool} {g : Addr → Option Obj} {s : Shared} (h : ∀ a, g a = s.heap.get? a) : obsZ n fa fn ex g = (hookZ n fa fn ex).obs s := by
  have e : g = s.heap.get? := funext h
  rw [e] <;> rfl
/-- what stands behind the top -/
structure Glb (fa : List He.Fa) (fn : List He.DefD) (ex : PySem.W.Frag → Bool) (K : PySem.W.Frag) (mg : Str → Option Value) (base : Heap) : Prop where
  X : K.In base
  G : base.Ns mainGlobals mg
  c : He.SaysD fa fn K
  e : ex K = true
section
variable {fa : List He.Fa} {fn : List He.DefD} {ex : PySem.W.Frag → Bool} {K : PySem.W.Frag} {mg : Str → Option Value} {base : Heap}
theorem Glb.free (T : Glb fa fn ex K mg base) (i : Nat) {x : Str} (h : fa[i]? = some (.free x) := by rfl) : mg x = none := He.free_ok T.X T.G (T.c.fact i h)
theorem Glb.glo (T : Glb fa fn ex K mg base) (i : Nat) {x : Str} (h : fa[i]? = some (.glo x) := by rfl) : mg x = some (.ref (He.ga K x)) := He.glo_ok T.X T.G (T.c.fact i h)
theorem Glb.held {vs : List (Str × Value)} (T : Glb fa fn (heldB vs) K mg base) (i : Nat) {x : Str} {v : Value} (h : vs[i]? = some (x, v) := by rfl) : mg x = some v :=
  PySem.W.mg_of T.X T.G (He.eqO_ok (List.all_eq_true.mp T.e (x, v) (List.mem_of_getElem? h)))
end
/-- a law's script -/
theorem reps_ints {K : PySem.W.Frag} {H : Hp} : ∀ ns : List Int, Reps cI K H (ns.map V.int) ns
  | [] => trivial
  | _ :: ns => ⟨rfl, reps_ints ns⟩
theorem law_sp {K : PySem.W.Frag} {F : List Int → R Bool} {n : Nat} (hF : ∀ ns : List Int, ns.length ≤ n → F ns = .ok true) (H : Hp) (a : Addr) (ns : List Int) (hl : ns.length ≤ n) (hS : SqL K H a (ns.map V.int)) : spF K (aOne (cL cI)) cB F [.ref a] H (fun v _ => v = .bl true) fun _ _ _ => False := by
  refine ⟨H, ns, .refl H, ⟨.ref a, rfl, a, ns.map V.int, rfl, hS, reps_ints ns⟩, ?_⟩
  rw [hF ns hl]
  exact fun v S' H' g r => r
/-- the end of a law whose defs may raise within -/
theorem law_end {l : PySem.W.OpenLaw} {m k : Nat} {q : Program} {loose : List Str} {XP : (Str → Option Value) → Heap → Prop} {YP : World → Heap → Prop} {d : DefRec} {x : Str} (h1 : l.most = some m) (h2 : m ≤ sizeLine) (h3 : d.params.defaults = []) (room : Room k callerA)
    (F : ∀ (w : World) (mg : Str → Option Value) (fa : Addr) (h : Heap), YP w h → h.Ns mainGlobals mg → mg d.name = some (.ref fa) → ∃ (K : PySem.W.Frag) (fd : FuncData) (sp : Sp), K.In h ∧ (∀ (s : Shared) (u : Value), BindsTo s fd ⟨[u], []⟩ [(x, u)]) ∧
      (∀ (H : Hp) (a : Addr) (ns : List Int), ns.length ≤ m → SqL K H a (ns.map V.int) → sp [.ref a] H (fun v _ => v = .bl true) fun _ _ _ => False) ∧ ∀ base : Heap, K.In base → base.Ns mainGlobals mg → FnOk l.prog w K mg base (L2N.CX l.prog w) k fa fd [x] sp) :
    PySem.W.WalkO q loose XP YP l.row.toRowW d [] (fun f vs => PySem.call f vs) := by
  refine Att.attach_call h1 h3 fun w _ s mg _ fa _ _ _ _ a _ ns G Y _ _ _ named obj hin hlen glob => ?_
  obtain ⟨K, fd, sp, inK, binds, start, keeps⟩ := F w mg fa _ Y G.T.g named
  refine law_call inK G.T.g G.T.b G.T.builtins G.T.nolimit glob obj hin (Nat.le_trans hlen h2) room keeps binds (fun H _ hS => start H a ns hlen hS) fun H e s2 z => ?_
  obtain ⟨_, _, _, _, _, _, _, _, _, _, _, _, no⟩ := z
  exact no.elim
end Zk
set_option maxHeartbeats 4000000
/-! # Zk: the mathematics of the helpers that every law has -/
namespace Zk
open PySem
theorem log2_le {n a : Nat} (h : n < 2 ^ a) : n.log2 ≤ a := by
  by_cases h0 : n = 0
  · subst h0
    exact Nat.le_trans (by decide) (Nat.zero_le a)
  · exact Nat.le_of_lt ((Nat.log2_lt h0).mpr h)
theorem mulM_ok {x y : Int} (a b : Nat) (hx : x.natAbs < 2 ^ a) (hy : y.natAbs < 2 ^ b) (h : a + b < 100000000 := by decide) : mulM x y = .ok (x * y) := by
  have h1 := log2_le hx
  have h2 := log2_le hy
  unfold mulM
  refine R.guard_ok (decide_eq_true ?_)
  omega
theorem mulM_lt {x y : Int} (h1 : x.natAbs < 2 ^ 40000000) (h2 : y.natAbs < 2 ^ 40000000) : mulM x y = .ok (x * y) := mulM_ok _ _ h1 h2
theorem modM_ok {x y : Int} (h : y ≠ 0) : modM x y = .ok (x.fmod y) := R.guard_ok h
theorem fdivM_ok {x y : Int} (h : y ≠ 0) (hb : y.natAbs.log2 < 9000) : fdivM x y = .ok (x.fdiv y) := R.guard_ok ⟨h, PyProof.noPylong_of_log2 hb⟩
theorem fdivM_sm {x y : Int} (h : y ≠ 0) (hb : y.natAbs < 1073741824) : fdivM x y = .ok (x.fdiv y) := R.guard_ok ⟨h, PyProof.noPylong_small hb⟩
theorem appM_ok {α : Type} {xs : List α} {x : α} (h : xs.length < 16000000) : appM xs x = .ok (xs ++ [x]) := R.guard_ok h
theorem rngM_ok {lo hi : Int} (h1 : -(2 ^ 62) ≤ lo) (h2 : lo < 2 ^ 62) (h3 : -(2 ^ 62) ≤ hi) (h4 : hi < 2 ^ 62) : rngM lo hi = .ok (rangeL lo (hi - lo).toNat) := R.guard_ok ⟨h1, h2, h3, h4⟩
theorem atI_natZ {α : Type} {xs : List α} {i : Nat} {z : α} (h : xs[i]? = some z) : L2.atI xs (i : Int) = some z := L2.atI_nat h
theorem getM_nat {α : Type} {xs : List α} {i : Nat} {z : α} (h : xs[i]? = some z) : getM xs (i : Int) = .ok z := by
  unfold getM
  rw [L2.atI_nat h]
theorem getM_of {α : Type} {xs : List α} {j : Int} {i : Nat} {z : α} (e : j = (i : Int)) (h : xs[i]? = some z) : getM xs j = .ok z := by
  rw [e]; exact getM_nat h
theorem fmod_pos {x y : Int} (h : 0 < y) : 0 ≤ x.fmod y ∧ x.fmod y < y := by
  rw [Int.fmod_eq_emod_of_nonneg x (Int.le_of_lt h)]
  exact ⟨Int.emod_nonneg x (by omega), Int.emod_lt_of_pos x h⟩
/-! ### folds -/
theorem foldR_inv {α S : Type} {step : S → α → R S} (C : Nat → S → Prop) : ∀ (xs : List α) (i : Nat) (s : S), C i s → (∀ j s x, C j s → xs[j - i]? = some x → i ≤ j → ∃ s', step s x = .ok s' ∧ C (j + 1) s') → ∃ s', foldR step xs s = .ok s' ∧ C (i + xs.length) s'
  | [], i, s, h, _ => ⟨s, rfl, h⟩
  | x :: xs, i, s, h, st => by
    obtain ⟨s1, e1, c1⟩ := st i s x h (by rw [Nat.sub_self]; rfl) (Nat.le_refl _)
    obtain ⟨s2, e2, c2⟩ := foldR_inv C xs (i + 1) s1 c1 (fun j s y c hy hj => st j s y c (by
      have e : j - i = (j - (i + 1)) + 1 := by omega
      rw [e]
      exact hy) (by omega))
    refine ⟨s2, ?_, by rw [List.length_cons]; have e : i + (xs.length + 1) = i + 1 + xs.length := by omega
                       rw [e]; exact c2⟩
    show (step s x >>= fun s' => foldR step xs s') = _
    rw [e1]
    exact e2
/-! ### the helpers' mirrors -/
def law_cell (script : (List Int)) (k : Int) : R Int :=
  (if (decide (k < ((script.length : Nat) : Int))) = true then
    (getM script k)
  else
    R.ok (17 : Int) >>= fun (seed : Int) =>
    R.ok script >>= fun as => foldR (fun (s1 : Int) (cell : Int) => (((((mulM s1 (31 : Int)) >>= fun x2 => (modM cell (1000003 : Int)) >>= fun y3 => R.ok ((x2 + y3))) >>= fun z => R.ok z) >>= fun x4 => (modM x4 (1000003 : Int))) >>= fun (seed : Int) =>
      R.ok seed : R Int)) as seed >>= fun (s5 : Int) =>
    ((((mulM (s5 + (7 : Int)) (k + (3 : Int))) >>= fun x6 => (mulM x6 (69621 : Int))) >>= fun z => R.ok z) >>= fun x7 => (modM x7 (2147483647 : Int))))
def law_digits (cell : Int) (sizes : (List Int)) : R (List Int) :=
  R.ok ([] : List Int) >>= fun (row : List Int) =>
  R.ok cell >>= fun (rest : Int) =>
  (((powM (10 : Int) (18 : Int)) >>= fun y1 => R.ok ((decide (y1 ≤ rest)))) >>= fun z18 => if z18 = true then
    ((powM (10 : Int) (18 : Int)) >>= fun y2 => R.ok ((rest - y2))) >>= fun (rest : Int) =>
    R.ok sizes >>= fun as => foldR (fun (s3 : ((List Int) × Int)) (size : Int) => ((modM s3.2 size) >>= fun z4 => appM s3.1 z4 >>= fun (row : List Int) =>
      (fdivM s3.2 size) >>= fun (rest : Int) =>
      R.ok (row, rest) : R ((List Int) × Int))) as (row, rest) >>= fun (s5 : ((List Int) × Int)) =>
    R.ok s5.1
  else
    (modM rest (2147483629 : Int)) >>= fun (seed : Int) =>
    rngM 0 (((sizes.length : Nat) : Int)) >>= fun as => foldR (fun (s6 : (Int × (List Int))) (k : Int) => ((((((mulM s6.1 (48271 : Int)) >>= fun x7 => (mulM (974711 : Int) k) >>= fun y8 => R.ok ((x7 + y8))) >>= fun x9 => R.ok ((x9 + (12345 : Int)))) >>= fun z => R.ok z) >>= fun x10 => (modM x10 (2147483647 : Int))) >>= fun (seed : Int) =>
      (((((fdivM seed (65537 : Int)) >>= fun x11 => R.ok ((x11 + (3 : Int)))) >>= fun y12 => (mulM seed y12)) >>= fun z => R.ok z) >>= fun x13 => (modM x13 (2147483629 : Int))) >>= fun (twice : Int) =>
      ((fdivM twice (19 : Int)) >>= fun x14 => (getM sizes k) >>= fun y15 => (modM x14 y15)) >>= fun z16 => appM s6.2 z16 >>= fun (row : List Int) =>
      R.ok (seed, row) : R (Int × (List Int)))) as (seed, row) >>= fun (s17 : (Int × (List Int))) =>
    R.ok s17.2)
def law_gcd (one : Int) (two : Int) : R Int :=
  R.ok (if one < 0 then -one else one) >>= fun (one : Int) =>
  R.ok (if two < 0 then -two else two) >>= fun (two : Int) =>
  rngM 0 ((100000 : Int)) >>= fun as => loopB (fun (s1 : (Int × Int)) (turn : Int) => ((if (decide (s1.2 = (0 : Int))) = true then
      R.ok (.brk (s1.1, s1.2))
    else
      (modM s1.1 s1.2) >>= fun (rest : Int) =>
      R.ok s1.2 >>= fun (one : Int) =>
      R.ok rest >>= fun (two : Int) =>
      R.ok (.nxt (one, two))) : R (Out Empty (Int × Int) (Int × Int)))) as (one, two) >>= fun (s2 : (Int × Int)) =>
  R.ok s2.1
/-! ### a cell is some number -/
theorem law_cell_ok (script : List Int) (k : Nat) (hk : k ≤ 100000) : ∃ v, law_cell script (k : Int) = .ok v := by
  unfold law_cell
  by_cases h : (k : Int) < ((script.length : Nat) : Int)
  · rw [if_pos (decide_eq_true h)]
    have hk2 : k < script.length := by omega
    exact ⟨_, getM_nat (List.getElem?_eq_getElem hk2)⟩
  · rw [if_neg (by rw [decide_eq_false h]; exact Bool.false_ne_true)]
    obtain ⟨s, e, c⟩ := foldR_inv (step := fun (s1 : Int) (cell : Int) => (((((mulM s1 (31 : Int)) >>= fun x2 => (modM cell (1000003 : Int)) >>= fun y3 => R.ok ((x2 + y3))) >>= fun z => R.ok z) >>= fun x4 => (modM x4 (1000003 : Int))) >>= fun (seed : Int) => R.ok seed : R Int))
      (fun _ s => 0 ≤ s ∧ s < 1000003) script 0 17 ⟨by decide, by decide⟩ (fun j s x c _ _ => by
        have m1 : mulM s 31 = .ok (s * 31) := mulM_ok 20 5 (by omega) (by decide)
        have m2 : modM x 1000003 = .ok (x.fmod 1000003) := modM_ok (by decide)
        have m3 : modM (s * 31 + x.fmod 1000003) 1000003 = .ok ((s * 31 + x.fmod 1000003).fmod 1000003) := modM_ok (by decide)
        refine ⟨(s * 31 + x.fmod 1000003).fmod 1000003, ?_, fmod_pos (by decide)⟩
        simp only [m1, m2, m3, R.ok_bind])
    have m1 : mulM (s + 7) ((k : Int) + 3) = .ok ((s + 7) * ((k : Int) + 3)) := mulM_ok 21 20 (by omega) (by omega)
    have hb : ((s + 7) * ((k : Int) + 3)).natAbs < 2 ^ 41 := by
      have h1 : (s + 7).natAbs < 2 ^ 21 := by omega
      have h2 : ((k : Int) + 3).natAbs < 2 ^ 20 := by omega
      exact L2.wide_lt h1 h2
    have m2 : mulM ((s + 7) * ((k : Int) + 3)) 69621 = .ok ((s + 7) * ((k : Int) + 3) * 69621) := mulM_ok 41 17 hb (by decide)
    have m3 : modM ((s + 7) * ((k : Int) + 3) * 69621) 2147483647 = .ok (((s + 7) * ((k : Int) + 3) * 69621).fmod 2147483647) := modM_ok (by decide)
    refine ⟨((s + 7) * ((k : Int) + 3) * 69621).fmod 2147483647, ?_⟩
    simp only [R.ok_bind]
    rw [e]
    simp only [R.ok_bind, m1, m2, m3]
/-! ### digits: as many numbers as sizes, each below its size -/
def Digs (sizes row : List Int) : Prop := row.length = sizes.length ∧ ∀ (i : Nat) (s : Int), sizes[i]? = some s → ∃ d : Int, row[i]? = some d ∧ 0 ≤ d ∧ d < s
theorem digs_step {sizes row : List Int} {j : Nat} {s d : Int} (hl : row.length = j) (h : ∀ (i : Nat) (z : Int), i < j → sizes[i]? = some z → ∃ d : Int, row[i]? = some d ∧ 0 ≤ d ∧ d < z) (hs : sizes[j]? = some s) (hd : 0 ≤ d ∧ d < s) :
    (row ++ [d]).length = j + 1 ∧ ∀ (i : Nat) (z : Int), i < j + 1 → sizes[i]? = some z → ∃ d' : Int, (row ++ [d])[i]? = some d' ∧ 0 ≤ d' ∧ d' < z := by
  refine ⟨by rw [List.length_append, hl]; rfl, fun i z hi hz => ?_⟩
  by_cases e : i = j
  · subst e
    rw [hs] at hz
    cases hz
    refine ⟨d, ?_, hd⟩
    rw [List.getElem?_append_right (by omega), hl, Nat.sub_self]
    rfl
  · obtain ⟨d', e1, e2⟩ := h i z (by omega) hz
    refine ⟨d', ?_, e2⟩
    rw [List.getElem?_append_left (by omega)]
    exact e1
theorem law_digits_ok (cell : Int) (sizes : List Int) (hl : sizes.length ≤ 1000) (hs : ∀ z ∈ sizes, 0 < z ∧ z.natAbs.log2 < 9000) : ∃ row, law_digits cell sizes = .ok row ∧ Digs sizes row := by
  have p18 : powM (10 : Int) (18 : Int) = .ok 1000000000000000000 := R.guard_ok ⟨by decide, by decide, by decide⟩
  unfold law_digits
  simp only [R.ok_bind, p18]
  by_cases h : (1000000000000000000 : Int) ≤ cell
  · rw [if_pos (decide_eq_true h)]
    obtain ⟨s, e, c⟩ := foldR_inv (step := fun (s3 : ((List Int) × Int)) (size : Int) => ((modM s3.2 size) >>= fun z4 => appM s3.1 z4 >>= fun (row : List Int) => (fdivM s3.2 size) >>= fun (rest : Int) => R.ok (row, rest) : R ((List Int) × Int)))
      (fun j s => s.1.length = j ∧ j ≤ sizes.length ∧ ∀ (i : Nat) (z : Int), i < j → sizes[i]? = some z → ∃ d : Int, s.1[i]? = some d ∧ 0 ≤ d ∧ d < z) sizes 0 ([], cell - 1000000000000000000) ⟨rfl, Nat.zero_le _, fun i z hi => absurd hi (Nat.not_lt_zero i)⟩ (fun j s x c hx _ => by
        obtain ⟨c1, c2, c3⟩ := c
        rw [Nat.sub_zero] at hx
        obtain ⟨p1, p2⟩ := hs x (List.mem_of_getElem? hx)
        have hj : j < sizes.length := (List.getElem?_eq_some_iff.mp hx).1
        obtain ⟨k1, k2⟩ := digs_step c1 c3 hx (fmod_pos (x := s.2) p1)
        refine ⟨(s.1 ++ [s.2.fmod x], s.2.fdiv x), ?_, k1, hj, k2⟩
        rw [modM_ok (by omega)]
        simp only [R.ok_bind]
        rw [appM_ok (by omega)]
        simp only [R.ok_bind]
        rw [fdivM_ok (by omega) p2]
        rfl)
    refine ⟨s.1, ?_, ?_, ?_⟩
    · exact (congrArg (fun m : R (List Int × Int) => m >>= fun s5 => R.ok s5.1) e).trans rfl
    · rw [c.1, Nat.zero_add]
    · intro i z hz
      exact c.2.2 i z (by rw [Nat.zero_add]; exact (List.getElem?_eq_some_iff.mp hz).1) hz
  · rw [if_neg (by rw [decide_eq_false h]; exact Bool.false_ne_true)]
    rw [modM_ok (by decide)]
    simp only [R.ok_bind]
    rw [rngM_ok (by decide) (by decide) (by omega) (by omega)]
    simp only [R.ok_bind]
    have hn : (((sizes.length : Nat) : Int) - 0).toNat = sizes.length := by omega
    rw [hn]
    have h0 := fmod_pos (x := cell) (y := 2147483629) (by decide)
    obtain ⟨s, e, c⟩ := foldR_inv (step := fun (s6 : (Int × (List Int))) (k : Int) => ((((((mulM s6.1 (48271 : Int)) >>= fun x7 => (mulM (974711 : Int) k) >>= fun y8 => R.ok ((x7 + y8))) >>= fun x9 => R.ok ((x9 + (12345 : Int)))) >>= fun z => R.ok z) >>= fun x10 => (modM x10 (2147483647 : Int))) >>= fun (seed : Int) =>
      (((((fdivM seed (65537 : Int)) >>= fun x11 => R.ok ((x11 + (3 : Int)))) >>= fun y12 => (mulM seed y12)) >>= fun z => R.ok z) >>= fun x13 => (modM x13 (2147483629 : Int))) >>= fun (twice : Int) =>
      ((fdivM twice (19 : Int)) >>= fun x14 => (getM sizes k) >>= fun y15 => (modM x14 y15)) >>= fun z16 => appM s6.2 z16 >>= fun (row : List Int) =>
      R.ok (seed, row) : R (Int × (List Int))))
      (fun j s => (0 ≤ s.1 ∧ s.1 < 2147483647) ∧ s.2.length = j ∧ j ≤ sizes.length ∧ ∀ (i : Nat) (z : Int), i < j → sizes[i]? = some z → ∃ d : Int, s.2[i]? = some d ∧ 0 ≤ d ∧ d < z) (rangeL 0 sizes.length) 0 (cell.fmod 2147483629, []) ⟨⟨h0.1, by omega⟩, rfl, Nat.zero_le _, fun i z hi => absurd hi (Nat.not_lt_zero i)⟩ (fun j s x c hx _ => by
        obtain ⟨⟨b1, b2⟩, c1, c2, c3⟩ := c
        rw [Nat.sub_zero] at hx
        have hj : j < sizes.length := by
          have q := (List.getElem?_eq_some_iff.mp hx).1
          rw [rangeL_length] at q
          exact q
        rw [rangeL_get 0 sizes.length j hj] at hx
        have ex : x = (j : Int) := by
          have q := Option.some.inj hx
          omega
        subst ex
        have hz := List.getElem?_eq_getElem hj
        obtain ⟨p1, p2⟩ := hs sizes[j] (List.getElem_mem hj)
        have f1 := fmod_pos (x := s.1 * 48271 + 974711 * (j : Int) + 12345) (y := 2147483647) (by decide)
        have q1 : ((s.1 * 48271 + 974711 * (j : Int) + 12345).fmod 2147483647).natAbs < 2 ^ 31 := by omega
        have q2 : (((s.1 * 48271 + 974711 * (j : Int) + 12345).fmod 2147483647).fdiv 65537 + 3).natAbs < 2 ^ 32 := by
          rw [Int.fdiv_eq_ediv_of_nonneg _ (by decide)]
          omega
        obtain ⟨k1, k2⟩ := digs_step (d := ((((s.1 * 48271 + 974711 * (j : Int) + 12345).fmod 2147483647) * (((s.1 * 48271 + 974711 * (j : Int) + 12345).fmod 2147483647).fdiv 65537 + 3)).fmod 2147483629 |>.fdiv 19).fmod sizes[j]) c1 c3 hz (fmod_pos p1)
        refine ⟨((s.1 * 48271 + 974711 * (j : Int) + 12345).fmod 2147483647, s.2 ++ [((((s.1 * 48271 + 974711 * (j : Int) + 12345).fmod 2147483647) * (((s.1 * 48271 + 974711 * (j : Int) + 12345).fmod 2147483647).fdiv 65537 + 3)).fmod 2147483629 |>.fdiv 19).fmod sizes[j]]), ?_, ⟨f1.1, f1.2⟩, k1, hj, k2⟩
        rw [mulM_ok 31 16 (by omega) (by decide)]
        simp only [R.ok_bind]
        rw [mulM_ok 20 10 (by decide) (by omega)]
        simp only [R.ok_bind]
        rw [modM_ok (by decide)]
        simp only [R.ok_bind]
        rw [fdivM_sm (by decide) (by decide)]
        simp only [R.ok_bind]
        rw [mulM_ok 31 32 q1 q2]
        simp only [R.ok_bind]
        rw [modM_ok (by decide)]
        simp only [R.ok_bind]
        rw [fdivM_sm (by decide) (by decide)]
        simp only [R.ok_bind]
        rw [getM_nat hz]
        simp only [R.ok_bind]
        rw [modM_ok (by omega)]
        simp only [R.ok_bind]
        rw [appM_ok (by omega)]
        rfl)
    rw [rangeL_length] at c
    refine ⟨s.2, ?_, ?_, ?_⟩
    · exact (congrArg (fun m : R (Int × List Int) => m >>= fun s5 => R.ok s5.2) e).trans rfl
    · rw [c.2.1, Nat.zero_add]
    · intro i z hz
      exact c.2.2.2 i z (by rw [Nat.zero_add]; exact (List.getElem?_eq_some_iff.mp hz).1) hz
/-! ### gcd -/
def gstep (s1 : Int × Int) (turn : Int) : R (Out Empty (Int × Int) (Int × Int)) := ((if (decide (s1.2 = (0 : Int))) = true then
      R.ok (.brk (s1.1, s1.2))
    else
      (modM s1.1 s1.2) >>= fun (rest : Int) =>
      R.ok s1.2 >>= fun (one : Int) =>
      R.ok rest >>= fun (two : Int) =>
      R.ok (.nxt (one, two))) : R (Out Empty (Int × Int) (Int × Int)))
theorem gstop (x : Int) (as : List Int) (a : Int) : loopB gstep (x :: as) (a, 0) = .ok (a, 0) := rfl
theorem gturn (x : Int) (as : List Int) (a b : Nat) (hb : b ≠ 0) : loopB gstep (x :: as) ((a : Int), (b : Int)) = loopB gstep as ((b : Int), ((a % b : Nat) : Int)) := by
  have hb' : ¬ ((b : Int) = 0) := by omega
  have e : gstep ((a : Int), (b : Int)) x = .ok (.nxt ((b : Int), ((a % b : Nat) : Int))) := by
    unfold gstep
    simp only [decide_eq_false hb', Bool.false_eq_true, if_false]
    rw [modM_ok hb', Int.fmod_eq_emod_of_nonneg _ (Int.natCast_nonneg b)]
    rfl
  conv => lhs; unfold loopB
  rw [e]
  rfl
theorem gcd_loop : ∀ (n : Nat) (as : List Int) (a b : Nat), b < 2 ^ n → 2 * n + 1 ≤ as.length → loopB gstep as ((a : Int), (b : Int)) = .ok ((Nat.gcd a b : Int), 0) := by
  intro n
  induction n with
  | zero =>
    intro as a b hb hl
    match as, hl with
    | x :: as, _ =>
      have e : b = 0 := by omega
      subst e
      rw [Nat.gcd_zero_right]
      exact gstop x as a
  | succ n ih =>
    intro as a b hb hl
    match as, hl with
    | x :: y :: as, hl =>
      by_cases h0 : b = 0
      · subst h0
        rw [Nat.gcd_zero_right]
        exact gstop x _ a
      · rw [gturn x (y :: as) a b h0]
        by_cases h1 : a % b = 0
        · rw [h1]
          have e : Nat.gcd a b = b := by rw [Nat.gcd_comm, Nat.gcd_rec, h1, Nat.gcd_zero_left]
          rw [e]
          exact gstop y as b
        · rw [gturn y as b (a % b) h1]
          have h2 : b % (a % b) < 2 ^ n := by
            have l1 : a % b < b := Nat.mod_lt _ (by omega)
            have l2 : b % (a % b) < a % b := Nat.mod_lt _ (by omega)
            have l3 := Nat.div_add_mod b (a % b)
            have l4 : 1 ≤ b / (a % b) := (Nat.one_le_div_iff (by omega)).mpr (by omega)
            have l5 : a % b ≤ (a % b) * (b / (a % b)) := Nat.le_mul_of_pos_right _ (by omega)
            rw [Nat.pow_succ] at hb
            omega
          rw [ih as (a % b) (b % (a % b)) h2 (by simp only [List.length_cons] at hl; omega)]
          have e : Nat.gcd (a % b) (b % (a % b)) = Nat.gcd a b := by
            rw [Nat.gcd_comm (a % b), ← Nat.gcd_rec (a % b) b, Nat.gcd_comm a b, Nat.gcd_rec b a]
          rw [e]
theorem law_gcd_ok (one two : Int) (h : two.natAbs < 2 ^ 49999) : law_gcd one two = .ok ((Int.gcd one two : Nat) : Int) := by
  have ab : ∀ z : Int, (if z < 0 then -z else z) = ((z.natAbs : Nat) : Int) := fun z => by split <;> omega
  have e : law_gcd one two = ((rngM 0 100000) >>= fun as => loopB gstep as ((if one < 0 then -one else one), (if two < 0 then -two else two)) >>= fun s2 => R.ok s2.1) := rfl
  rw [e, ab, ab, rngM_ok (by decide) (by decide) (by decide) (by decide)]
  simp only [R.ok_bind]
  rw [gcd_loop 49999 _ _ _ h (by rw [rangeL_length]; decide)]
  rfl
end Zk
set_option maxHeartbeats 4000000
/-! # Zk: list comprehensions -/
namespace Zk
open PySem PySem.Spec PyProof.Rows L2
/-- an error within is no value -/
def R.nox {α : Type} : R α → R α
  | .ok a => .ok a
  | .exn _ => .stuck
  | .stuck => .stuck
/-- the values of f at those of as at which p is true -/
def compR {α β : Type} (p : α → R Bool) (f : α → R β) : List α → R (List β)
  | [] => .ok []
  | a :: as => R.nox (p a) >>= fun z => if z = true then R.nox (f a) >>= fun b => compR p f as >>= fun bs => .ok (b :: bs) else compR p f as
def mapR {α β : Type} (f : α → R β) : List α → R (List β)
  | [] => .ok []
  | a :: as => R.nox (f a) >>= fun b => mapR f as >>= fun bs => .ok (b :: bs)
def compM {α β : Type} (p : α → R Bool) (f : α → R β) (as : List α) : R (List β) := if as.length < 16000000 then compR p f as else .stuck
def mapM {α β : Type} (f : α → R β) (as : List α) : R (List β) := if as.length < 16000000 then mapR f as else .stuck
theorem compR_map {α β : Type} (f : α → R β) : ∀ as : List α, compR (fun _ => .ok true) f as = mapR f as
  | [] => rfl
  | a :: as => by
    show (R.nox (f a) >>= fun b => compR (fun _ => .ok true) f as >>= fun bs => .ok (b :: bs)) = _
    rw [compR_map f as]
    rfl
theorem compM_map {α β : Type} (f : α → R β) (as : List α) : compM (fun _ => .ok true) f as = mapM f as := by
  unfold compM mapM
  rw [compR_map]
theorem nox_post {α : Type} {m : R α} {Q : α → Prop} {E E' : Exn → Prop} (h : (R.nox m).post Q E) : m.post Q E' := by
  cases m with
  | ok a => exact h
  | exn x => exact False.elim h
  | stuck => exact h
/-! ### slots forgotten -/
theorem wipe_at (σ : L2.St) : ∀ (vs : List Nat) (j : Nat), (wipe σ vs)[j]? = if j ∈ vs then (if j < σ.length then some none else none) else σ[j]?
  | [], j => by simp [wipe]
  | v :: vs, j => by
    show ((wipe σ vs).set v none)[j]? = _
    by_cases e : j = v
    · subst e
      rw [if_pos List.mem_cons_self]
      by_cases h : j < σ.length
      · rw [if_pos h, List.getElem?_set_self (by rw [wipe_length]; exact h)]
      · rw [if_neg h, List.getElem?_eq_none (by rw [List.length_set, wipe_length]; omega)]
    · rw [List.getElem?_set_ne (Ne.symm e), wipe_at σ vs j]
      by_cases h : j ∈ vs
      · rw [if_pos h, if_pos (List.mem_cons_of_mem _ h)]
      · rw [if_neg h, if_neg (fun z => (List.mem_cons.mp z).elim e h)]
theorem wipe_eq {σ τ : L2.St} {vs : List Nat} (hl : τ.length = σ.length) (h : ∀ j, j ∉ vs → τ[j]? = (wipe σ vs)[j]?) : wipe τ vs = wipe σ vs := by
  refine List.ext_getElem? fun j => ?_
  by_cases e : j ∈ vs
  · rw [wipe_at, wipe_at, if_pos e, if_pos e, hl]
  · rw [← h j e, wipe_at, if_neg e]
def wipeD (ds : Env) : List Nat → Env
  | [] => ds
  | v :: vs => (wipeD ds vs).put v .none
theorem EnvOk.wipe {K : PySem.W.Frag} {S0 H0 S H : Hp} {ds : Env} {σ : L2.St} (E : EnvOk K S0 H0 ds σ S H) : ∀ vs : List Nat, EnvOk K S0 H0 (wipeD ds vs) (L2.wipe σ vs) S H
  | [] => E
  | v :: vs => by
    exact EnvOk.putN (EnvOk.wipe E vs)
/-! ### canonical readings -/
def wE (X : Cx) (e : Expr) : TE := fun σ H Q => ∀ (pins : List (Addr × Obj)) (s : Shared), Inv X pins σ H s → wpAny (model X.prog X.w) X.A (eval e X.env) (EP X pins σ Q) X.xe s
def wT (X : Cx) (e : Expr) : TT := fun σ H Q => ∀ (pins : List (Addr × Obj)) (s : Shared), Inv X pins σ H s → wpAny (model X.prog X.w) X.A (isTrue e X.env (eval e X.env)) (TP X pins σ Q) X.xe s
theorem pe_wE {X : Cx} {e : Expr} : PE X e (wE X e) := ⟨fun pins s _ _ _ I h => h pins s I⟩
theorem pt_wT {X : Cx} {e : Expr} : PT X e (wT X e) := ⟨fun pins s _ _ _ I h => h pins s I⟩
section
variable {X : Cx} {W : WK} {ds : Env} {α β : Type} {e : Expr} {c : Cd α}
theorem DE.w {m : R α} (h : DE X W ds e c m) {S0 H0 S H : Hp} {σ : L2.St} {Q : VK} (E : EnvOk X.K S0 H0 ds σ S H) (P : PX c X.K S H m Q (W σ)) : wE X e σ H Q := by
  obtain ⟨t, p, q⟩ := h
  exact fun pins s I => p.run pins s σ H Q I (q S0 H0 σ S H Q E P)
theorem DT.w {m : R Bool} (h : DT X W ds e m) {S0 H0 S H : Hp} {σ : L2.St} {Q : Bool → Hp → Prop} (E : EnvOk X.K S0 H0 ds σ S H) (P : PB X.K S H m Q (W σ)) : wT X e σ H Q := by
  obtain ⟨t, p, q⟩ := h
  exact fun pins s I => p.run pins s σ H Q I (q S0 H0 σ S H Q E P)
end
/-! ### the comprehension -/
/-- the contexts in which a comprehension's block runs -/
abbrev Blk : Type := Shared × Hp × Addr × List (Str × Addr) × List Addr
abbrev blkX (X : Cx) (scope : Scope) (b : Blk) : Cx := X.blk b.1 b.2.1 scope (compEnvC scope b.2.2.2.1 b.2.2.1 X.env) b.2.2.2.2
/-- the target within the block: the slots behind it -/
def DGB (X : Cx) (scope : Scope) (tg : Expr) (vs : List Nat) {α : Type} (c : Cd α) (ds : Env) (eB : α → Env) : Prop :=
  ∃ g : TG, (∀ b : Blk, PG (blkX X scope b) tg g) ∧ ∀ a v S0 H0 σ S H (Q : L2.St → Hp → Prop), EnvOk X.K S0 H0 ds σ S H → c.rep X.K S v a → (∀ σ', σ'.length = σ.length → (∀ j, j ∉ vs → σ'[j]? = σ[j]?) → EnvOk X.K S0 H0 (eB a) σ' S H → Q σ' H) → g v σ H Q
/-- Pi: what is known of the walked thing's reading -/
def DLcG (Pi : TI → Prop) (X : Cx) (W : WK) (ds : Env) (elt tg : Expr) (ifs : List Expr) (scope : Scope) {β : Type} (c : Cd β) (m : R (List β)) : Prop :=
  ∃ (wi : TI) (g : TG) (tt : TT) (te : TE) (own : List (Str × Nat)), Pi wi ∧ BlkOk X.N X.env.scope scope own ∧ (∀ b : Blk, PG (blkX X scope b) tg g) ∧ (∀ b : Blk, PTs (blkX X scope b) ifs tt) ∧ (∀ b : Blk, PE (blkX X scope b) elt te) ∧
    ∀ S0 H0 σ S H (Q : VK), EnvOk X.K S0 H0 ds σ S H → m.post (fun as => ∀ p vs S' H', Grow S H S' H' → H p = none → S' p = none → H' p = some (.lst vs) → Reps c X.K S' vs as → Q (.ref p) H') (fun x => ∀ cl d S' H', Grow S H S' H' → repX X.K S' cl d x → W σ cl d H') → tLc wi g tt te (own.map (·.2)) σ H Q
abbrev DLc (X : Cx) (W : WK) (ds : Env) (elt tg iter : Expr) (ifs : List Expr) (scope : Scope) {β : Type} (c : Cd β) (m : R (List β)) : Prop := DLcG (PI X tg iter) X W ds elt tg ifs scope c m
/-- what is walked, its reading known by Pi -/
def DIG (Pi : TI → Prop) (X : Cx) (W : WK) (ds : Env) {α : Type} (c : Cd α) (m : R (List α)) : Prop :=
  ∃ wi : TI, Pi wi ∧ ∀ S0 H0 σ S H (Q : It → Hp → Prop), EnvOk X.K S0 H0 ds σ S H →
    m.post (fun as => ∀ J S' H', Grow S H S' H' → ItOk J X.K S' c as → Q J H') (fun x => ∀ cl d S' H', Grow S H S' H' → repX X.K S' cl d x → W σ cl d H') → wi σ H Q
section
variable {X : Cx} {W : WK} {ds : Env} {α β : Type} {elt tg iter : Expr} {ifs : List Expr} {scope : Scope} {c : Cd α} {c2 : Cd β} {mi : R (List α)}
def tAnyT (X : Cx) (scope : Scope) (e : Expr) : TT := fun σ H Q => ∀ b : Blk, wT (blkX X scope b) e σ H Q
def tAnyE (X : Cx) (scope : Scope) (e : Expr) : TE := fun σ H Q => ∀ b : Blk, wE (blkX X scope b) e σ H Q
theorem lc_core_ {Pi : TI → Prop} {p : α → R Bool} {f : α → R β} (own : List (Str × Nat)) (ok : BlkOk X.N X.env.scope scope own) (hi : DIG Pi X W ds c mi) {eB : α → Env} (hg : DGB X scope tg (own.map (·.2)) c (wipeD ds (own.map (·.2))) eB)
    {tt : TT} (ht : ∀ b : Blk, PTs (blkX X scope b) ifs tt) (hts : ∀ a S0 H0 σ S H (Q : Bool → Hp → Prop), EnvOk X.K S0 H0 (eB a) σ S H → PB X.K S H (p a) Q E0 → tt σ H Q)
    (he : ∀ (b : Blk) a, DE (blkX X scope b) (fun _ => E0) (eB a) elt c2 (f a)) : DLcG Pi X W ds elt tg ifs scope c2 (mi >>= fun as => compM p f as) := by
  obtain ⟨wi, pi, qi⟩ := hi
  obtain ⟨g, pg, qg⟩ := hg
  refine ⟨wi, g, tt, tAnyE X scope elt, own, pi, ok, pg, ht, fun b => ⟨fun pins s σ H Q I h => h b pins s I⟩, fun S0 H0 σ S H Q E P => ?_⟩
  refine qi S0 H0 σ S H _ E (R.post_mono (R.post_bind.mp P) (fun as k J S1 H1 g1 hJ => ?_) (fun _ k => k))
  intro D hD
  have E1 := E.step g1
  have hlen : as.length < 16000000 := by
    unfold compM at k
    split at k
    · assumption
    · exact False.elim k
  have k' : (compR p f as).post (fun as => ∀ p vs S' H', Grow S H S' H' → H p = none → S' p = none → H' p = some (.lst vs) → Reps c2 X.K S' vs as → Q (.ref p) H') (fun x => ∀ cl d S' H', Grow S H S' H' → repX X.K S' cl d x → W σ cl d H') := by
    unfold compM at k
    rw [if_pos hlen] at k
    exact k
  refine ⟨fun i m H' => m = as.length - i ∧ i ≤ as.length ∧ ∃ S' vs bs, Grow S1 H1 S' H' ∧ H' D = some (.lst vs) ∧ S' D = none ∧ Reps c2 X.K S' vs bs ∧ bs.length ≤ i ∧
      (compR p f (as.drop i)).post (fun ys => ∀ p vs S' H', Grow S H S' H' → H p = none → S' p = none → H' p = some (.lst vs) → Reps c2 X.K S' vs (bs ++ ys) → Q (.ref p) H') (fun x => ∀ cl d S' H', Grow S H S' H' → repX X.K S' cl d x → W σ cl d H'),
    ⟨as.length, rfl, Nat.zero_le _, S1, [], [], .lay' g1.inn hD, upd_same, g1.inn.free hD, trivial, Nat.le_refl _, by simpa using k'⟩, ?_⟩
  rintro i m H2 ⟨rfl, hi, S2, vs, bs, g2, h2, h3, r2, hb, k2⟩
  obtain ⟨j1, j2⟩ := hJ i S2 H2 g2.st g2.inn
  by_cases hlt : i < as.length
  · have ha : as[i]? = some as[i] := List.getElem?_eq_getElem hlt
    obtain ⟨n1, n2⟩ := j2 _ ha
    rw [List.drop_eq_getElem_cons hlt] at k2
    refine .inr ⟨n1, fun H' => ∃ S' vs bs, Grow S1 H1 S' H' ∧ H' D = some (.lst vs) ∧ S' D = none ∧ Reps c2 X.K S' vs bs ∧ bs.length ≤ i + 1 ∧
      (compR p f (as.drop (i + 1))).post (fun ys => ∀ p vs S' H', Grow S H S' H' → H p = none → S' p = none → H' p = some (.lst vs) → Reps c2 X.K S' vs (bs ++ ys) → Q (.ref p) H') (fun x => ∀ cl d S' H', Grow S H S' H' → repX X.K S' cl d x → W σ cl d H'),
      fun H' q => ⟨as.length - (i + 1), by omega, rfl, hlt, q⟩, fun x H3 y => ?_⟩
    obtain ⟨S3, g3, r3⟩ := n2 x H3 y
    have E3 := ((E1.step (g2.trans g3)).wipe (own.map (·.2)))
    refine qg _ x S0 H0 _ S3 H3 _ E3 r3 fun σ' hl ho E4 => ⟨wipe_eq (by rw [hl, wipe_length]) ho, ?_⟩
    have k3 : (R.nox (p as[i]) >>= fun z => if z = true then R.nox (f as[i]) >>= fun b => compR p f (as.drop (i + 1)) >>= fun bs => .ok (b :: bs) else compR p f (as.drop (i + 1))).post (fun ys => ∀ p vs S' H', Grow S H S' H' → H p = none → S' p = none → H' p = some (.lst vs) → Reps c2 X.K S' vs (bs ++ ys) → Q (.ref p) H') (fun x => ∀ cl d S' H', Grow S H S' H' → repX X.K S' cl d x → W σ cl d H') := k2
    refine hts _ S0 H0 σ' S3 H3 _ E4 (nox_post (R.post_mono (R.post_bind.mp k3) (fun z k4 S5 H5 g5 => ?_) (fun _ k => k)))
    have d5 : H5 D = some (.lst vs) := g5.ex _ _ (g3.ex _ _ h2)
    have s5 : S5 D = none := (g3.trans g5).none h2 h3
    cases z with
    | false =>
      rw [if_neg Bool.false_ne_true] at k4
      refine iteF ?_
      exact ⟨S5, vs, bs, g2.trans (g3.trans g5), d5, s5, Reps.mono (g3.trans g5).st r2, Nat.le_succ_of_le hb, k4⟩
    | true =>
      rw [if_pos rfl] at k4
      refine iteT ?_
      intro b
      refine (he b as[i]).w (Q := fun y H4 => ∃ acc, H4 D = some (.lst acc) ∧ acc.length < sizeLine ∧ _) (E4.step g5) (nox_post (R.post_mono (R.post_bind.mp k4) (fun w k5 v S6 H6 g6 r6 => ?_) (fun _ k => k)))
      have d6 : H6 D = some (.lst vs) := g6.ex _ _ d5
      have s6 : S6 D = none := g6.none d5 s5
      have g16 : Grow S1 H1 S6 H6 := g2.trans (g3.trans (g5.trans g6))
      refine ⟨vs, d6, by rw [r2.length]; exact Nat.lt_of_le_of_lt hb (Nat.lt_of_lt_of_le (Nat.lt_trans hlt hlen) (by decide)), S6, vs ++ [v], bs ++ [w], ⟨g16.ex.mut hD, g16.st, g16.inn.mut s6, g16.new⟩, upd_same, s6, (Reps.mono (g3.trans (g5.trans g6)).st r2).append (show Reps c2 X.K S6 [v] [w] from ⟨r6, trivial⟩), by rw [List.length_append]; exact Nat.succ_le_succ hb, ?_⟩
      refine R.post_mono (R.post_bind.mp k5) (fun ys k6 p vs S' H' g' h1 h2 h3 r => k6 p vs S' H' g' h1 h2 h3 ?_) (fun _ k => k)
      rw [List.append_assoc] at r
      exact r
  · have e : i = as.length := by omega
    subst e
    rw [List.drop_length] at k2
    have q := k2 D vs S2 H2 (g1.trans g2) (g1.ex.free hD) h3 h2
    rw [List.append_nil] at q
    exact .inl ⟨j1 (Nat.le_refl _), q r2⟩
/-- [elt for tg in iter] -/
theorem lc0 {f : α → R β} (own : List (Str × Nat)) (ok : BlkOk X.N X.env.scope scope own) (hi : DI X W ds tg iter c mi) {eB : α → Env} (hg : DGB X scope tg (own.map (·.2)) c (wipeD ds (own.map (·.2))) eB)
    (he : ∀ (b : Blk) a, DE (blkX X scope b) (fun _ => E0) (eB a) elt c2 (f a)) : DLc X W ds elt tg iter [] scope c2 (mi >>= fun as => mapM f as) := by
  have q := lc_core_ (Pi := PI X tg iter) (p := fun _ => .ok true) own ok hi hg (tt := tYes) (fun _ => pts_nil) (fun a S0 H0 σ S H Q E P => P.ok E.inn) he
  rw [show (fun as => compM (fun _ => .ok true) f as) = fun as => mapM f as from funext fun as => compM_map f as] at q
  exact q
/-- [elt for tg in iter if t] -/
theorem lc1 {t : Expr} {p : α → R Bool} {f : α → R β} (own : List (Str × Nat)) (ok : BlkOk X.N X.env.scope scope own) (hi : DI X W ds tg iter c mi) {eB : α → Env} (hg : DGB X scope tg (own.map (·.2)) c (wipeD ds (own.map (·.2))) eB)
    (ht : ∀ (b : Blk) a, DT (blkX X scope b) (fun _ => E0) (eB a) t (p a)) (he : ∀ (b : Blk) a, DE (blkX X scope b) (fun _ => E0) (eB a) elt c2 (f a)) : DLc X W ds elt tg iter [t] scope c2 (mi >>= fun as => compM p f as) :=
  lc_core_ (Pi := PI X tg iter) own ok hi hg (tt := tAnyT X scope t) (fun b => pts_one ⟨fun pins s σ H Q I h => h b pins s I⟩) (fun a S0 H0 σ S H Q E P b => (ht b a).w E P) he
/-- a name of the block -/
theorem tgB {pos : Pos} {x : Str} {e0 : Env} {vs : List Nat} (i : Nat) (sn : X.N.Nodup) (hi : X.N[i]? = some x := by rfl) (hx : ∀ b : Blk, Loc (blkX X scope b).env.scope x := by first | exact fun _ => Or.inl rfl | exact fun _ => Or.inr rfl)
    (hf : ∀ b : Blk, (blkX X scope b).fn x = true ∨ (blkX X scope b).env.scope.names.lookup x = some .local := by first | exact fun _ => .inr rfl | exact fun _ => .inl rfl) (hm : i ∈ vs := by decide) : DGB X scope (.Name x pos) vs c e0 (fun a => e0.put i (.st α c a)) :=
  ⟨gName i, fun b => pg_name (X := blkX X scope b) sn hi (hx b) (hf b), fun a v S0 H0 σ S H Q E r k => k _ (List.length_set ..) (fun j hj => List.getElem?_set_ne (fun (z : i = j) => hj (by rw [← z]; exact hm))) (E.putS r)⟩
variable {pos : Pos} {m : R (List β)}
theorem dlc (sn : X.N.Nodup) (hc : X.calm = true) (h : DLc X W ds elt tg iter ifs scope c2 m) (hs : ∀ x, foldedSetIterable iter X.env x = pure x := by intro _; rfl) : DL X W ds (.ListComp elt [⟨tg, iter, ifs, 0⟩] scope pos) c2 m := by
  obtain ⟨wi, g, tt, te, own, pi, ok, pg, ht, he, q⟩ := h
  exact ⟨_, pe_lc hc sn pi ok (fun s H C cl fp => pg (s, H, C, cl, fp)) (fun s H C cl fp => ht (s, H, C, cl, fp)) (fun s H C cl fp => he (s, H, C, cl, fp)) hs, q⟩
end
section
variable {X : Cx} {W : WK} {T : Bool} {ds : Env} {α β γ τ ν κ ω : Type} {elt tg iter : Expr} {ifs : List Expr} {scope : Scope} {rest : List Stmt} {pos p : Pos} {c : Cd α} {cb : RCd β} {eN : ν → Env} {eK : κ → Env} {I : ω → Out β ν κ} {m : R (List α)} {k : List α → R ω}
/-- x = [..] on one line, x a local: the list may still change -/
theorem asgMc [kw : KW W] {y : Str} {py spos : Pos} (i : Nat) (sn : X.N.Nodup) (hc : X.calm = true) (he : DLc X W ds elt tg iter ifs scope c m) (hr : ∀ z, DS X W T (ds.put i (.mu α c z)) rest cb eN eK I (k z)) (hy : X.N[i]? = some y := by rfl) (hyl : X.env.scope.names.lookup y = some .local := by rfl)
    (hsw : swapsWith (.ListComp elt [⟨tg, iter, ifs, 0⟩] scope pos) (some (.Name y py)) spos.line X.env = pure true := by exact sw_true rfl rfl rfl (by decide +kernel)) (hs : ∀ x, foldedSetIterable iter X.env x = pure x := by intro _; rfl) :
    DS X W T ds (.Assign [.Name y py] (.ListComp elt [⟨tg, iter, ifs, 0⟩] scope pos) spos :: rest) cb eN eK I (m >>= k) := fun S0 H0 σ S H D nx h E P => by
  obtain ⟨W, rfl⟩ := kw.ex
  obtain ⟨wi, g, tt, te, own, pi, ok, pg, ht, hel, q⟩ := he
  refine seq (ps_setLc (i := i) hc sn hy hyl hsw pi ok (fun s H C cl fp => pg (s, H, C, cl, fp)) (fun s H C cl fp => ht (s, H, C, cl, fp)) (fun s H C cl fp => hel (s, H, C, cl, fp)) hs) ?_
  exact q S0 H0 σ S H _ E (R.post_mono (R.post_bind.mp P) (fun z q p vs S' H' g h1 h2 h3 r => hr z S0 H0 _ S' H' D nx h (E.putM g h1 h2 h3 r) q) (fun x q cl d S' H' g r => q cl d S' H' (E.grow.trans g) r))
theorem put_put : ∀ (ds : Env) (i : Nat) (a b : SD), (ds.put i a).put i b = ds.put i b
  | [], _, _, _ => rfl
  | _ :: _, 0, _, _ => rfl
  | d :: ds, i + 1, a, b => congrArg (d :: ·) (put_put ds i a b)
theorem get_put_of {ds : Env} {i : Nat} {d : SD} (h : i < ds.length) : (ds.put i d).get i = d := Env.get_put_same ds i d h
/-- .. and does not -/
theorem asgc [kw : KW W] {y : Str} {py spos : Pos} (i : Nat) (sn : X.N.Nodup) (hc : X.calm = true) (he : DLc X W ds elt tg iter ifs scope c m) (hr : ∀ z, DS X W T (ds.put i (.st (List α) (cL c) z)) rest cb eN eK I (k z)) (hy : X.N[i]? = some y := by rfl) (hyl : X.env.scope.names.lookup y = some .local := by rfl)
    (hsw : swapsWith (.ListComp elt [⟨tg, iter, ifs, 0⟩] scope pos) (some (.Name y py)) spos.line X.env = pure true := by exact sw_true rfl rfl rfl (by decide +kernel)) (hs : ∀ x, foldedSetIterable iter X.env x = pure x := by intro _; rfl) (hi : i < ds.length := by decide) :
    DS X W T ds (.Assign [.Name y py] (.ListComp elt [⟨tg, iter, ifs, 0⟩] scope pos) spos :: rest) cb eN eK I (m >>= k) :=
  asgMc i sn hc he (fun z => settle i (get_put_of hi) (by rw [put_put]; exact hr z)) hy hyl hsw hs
end
end Zk
set_option maxHeartbeats 4000000
/-! # Zk: list(..), tuple(..), tuples of so many read as sequences, while, lists joined and repeated -/
namespace Zk
open PySem PySem.Spec PyProof.Rows L2
/-! ### sequences -/
class SqI {α : Type} (c : Cd (List α)) (d : outParam (Cd α)) : Prop where
  sq : ∀ {K : PySem.W.Frag} {H : Hp} {v : V} {a : List α}, c.rep K H v a → ∃ p vs, v = .ref p ∧ (SqL K H p vs ∨ SqT K H p vs) ∧ Reps d K H vs a
instance {α : Type} {d : Cd α} : SqI (cL d) d := ⟨fun ⟨p, vs, e, h1, h2⟩ => ⟨p, vs, e, .inl h1, h2⟩⟩
instance {α : Type} {d : Cd α} : SqI (cT d) d := ⟨fun ⟨p, vs, e, h1, h2⟩ => ⟨p, vs, e, .inr h1, h2⟩⟩
instance {α : Type} {d : Cd α} : SqI (cLT d) d := ⟨fun h => by
  rcases h with ⟨p, vs, e, h1, h2⟩ | ⟨p, vs, e, h1, h2⟩
  · exact ⟨p, vs, e, .inl h1, h2⟩
  · exact ⟨p, vs, e, .inr h1, h2⟩⟩
section
variable {X : Cx} {W : WK} {ds : Env} {α β γ τ : Type} {a b : Expr} {e : Expr} {es : List Expr} {pos p : Pos} {c : Cd α} {c2 : Cd β} {m : R α} {x : α}
/-- list(e) -/
theorem toL {d : Cd (List α)} [SqI d c] {m : R (List α)} (hm : X.mg "list" = none) (ha : DE X W ds e d m) (hg : Gl X "list" := by rfl)
    (he : starEach (e :: []) X.env = (false, eval e X.env) :: starEach [] X.env := by rfl) (hpl : (backTo pos (starEach [] X.env)).any (·.1) = false := by rfl) : DL X W ds (.Call (.Name "list" p) [e] [] pos) c m := by
  obtain ⟨t, pa, q⟩ := ha
  refine ⟨_, pe_callTy call_list_of hg hm (by decide +kernel) (pa_cons pa pa_nil he) (by decide) (by decide) he hpl, fun S0 H0 σ S H Q E P => q S0 H0 σ S H _ E (R.post_mono P (fun as k v S' H' g r => ?_) (fun _ k => k))⟩
  obtain ⟨l, vs, e1, h1, h2⟩ := SqI.sq (c := d) (d := c) r
  refine ⟨l, vs, by rw [e1], h1.imp (Same.seq g.inn) (Same.tup g.inn), fun l' hl => ?_⟩
  have g2 : Grow S' H' S' (upd H' l' (.lst vs)) := .lay' g.inn hl
  exact k l' vs S' _ (g.trans g2) (g.ex.free hl) (g.inn.free hl) upd_same h2
/-- tuple(e) -/
theorem toT {d : Cd (List α)} [SqI d c] {m : R (List α)} (hm : X.mg "tuple" = none) (ha : DE X W ds e d m) (hg : Gl X "tuple" := by rfl)
    (he : starEach (e :: []) X.env = (false, eval e X.env) :: starEach [] X.env := by rfl) (hpl : (backTo pos (starEach [] X.env)).any (·.1) = false := by rfl) : DE X W ds (.Call (.Name "tuple" p) [e] [] pos) (cT c) m := by
  obtain ⟨t, pa, q⟩ := ha
  refine ⟨_, pe_callTy call_tuple_of hg hm (by decide +kernel) (pa_cons pa pa_nil he) (by decide) (by decide) he hpl, fun S0 H0 σ S H Q E P => q S0 H0 σ S H _ E (R.post_mono P (fun as k v S' H' g r => ?_) (fun _ k => k))⟩
  obtain ⟨l, vs, e1, h1, h2⟩ := SqI.sq (c := d) (d := c) r
  refine ⟨l, vs, by rw [e1], ?_⟩
  rcases h1 with h1 | h1
  · refine .inl ⟨Same.seq g.inn h1, fun l' hl => ?_⟩
    have g2 : Grow S' H' (upd S' l' (.tup vs)) (upd H' l' (.tup vs)) := .lay g.inn hl
    exact k (.ref l') _ _ (g.trans g2) ⟨l', vs, rfl, .inl (.inl upd_same), Reps.mono g2.st h2⟩
  · exact .inr ⟨Same.tup g.inn h1, k (.ref l) S' H' g ⟨l, vs, rfl, h1, h2⟩⟩
/-! ### a tuple of so many as a sequence -/
def AUni (r : CA τ) (c : Cd α) (f : τ → List α) : Prop := ∀ K H vs z, r.rep K H vs z → Reps c K H vs (f z)
theorem auN : AUni aNil c (fun _ => []) := fun K H vs z h => by
  have e : vs = [] := h
  rw [e]
  trivial
theorem au1 : AUni (aOne c) c (fun z => [z]) := fun K H vs z ⟨v, e, r⟩ => by
  rw [e]
  exact ⟨r, trivial⟩
theorem auC {r : CA τ} {f : τ → List α} (h : AUni r c f) : AUni (aCons c r) c (fun z => z.1 :: f z.2) := fun K H vs z ⟨v, ws, e, r1, r2⟩ => by
  rw [e]
  exact ⟨r1, h _ _ _ _ r2⟩
theorem pT_p {r : CA τ} {z : τ} (f : τ → List α) (h : AUni r c f) (ha : DE X W ds a (cP r) (.ok z)) : DE X W ds a (cT c) (.ok (f z)) :=
  coe (c := cP r) (c2 := cT c) (f := f) (fun K H v a ⟨p, vs, e, h1, h2⟩ => ⟨p, vs, e, h1, h _ _ _ _ h2⟩) ha
theorem pT_m {r : CA τ} {m : R τ} (f : τ → List α) (h : AUni r c f) (ha : DE X W ds a (cP r) m) : DE X W ds a (cT c) (m >>= fun z => .ok (f z)) :=
  coe (c := cP r) (c2 := cT c) (f := f) (fun K H v a ⟨p, vs, e, h1, h2⟩ => ⟨p, vs, e, h1, h _ _ _ _ h2⟩) ha
theorem hL_p {r : CA τ} {z : τ} (f : τ → List α) (h : AUni r c f) (ha : DE X W ds a (cH r) (.ok z)) : DE X W ds a (cL c) (.ok (f z)) :=
  coe (c := cH r) (c2 := cL c) (f := f) (fun K H v a ⟨p, vs, e, h1, h2⟩ => ⟨p, vs, e, h1, h _ _ _ _ h2⟩) ha
theorem hL_m {r : CA τ} {m : R τ} (f : τ → List α) (h : AUni r c f) (ha : DE X W ds a (cH r) m) : DE X W ds a (cL c) (m >>= fun z => .ok (f z)) :=
  coe (c := cH r) (c2 := cL c) (f := f) (fun K H v a ⟨p, vs, e, h1, h2⟩ => ⟨p, vs, e, h1, h _ _ _ _ h2⟩) ha
/-- the elements read otherwise -/
theorem Reps.coe {f : α → β} (h : Coe c c2 f) {K : PySem.W.Frag} {H : Hp} : ∀ {vs : List V} {as : List α}, Reps c K H vs as → Reps c2 K H vs (as.map f)
  | [], [], _ => trivial
  | _ :: _, _ :: _, r => ⟨h _ _ _ _ r.1, Reps.coe h r.2⟩
  | [], _ :: _, r => r.elim
  | _ :: _, [], r => r.elim
/-! ### other readings -/
theorem coe_p {f : α → β} (h : Coe c c2 f) (ha : DE X W ds a c (.ok x)) : DE X W ds a c2 (.ok (f x)) := coe h ha
theorem coeI {c2 : Cd α} (h : Coe c c2 (fun z => z)) (ha : DE X W ds a c m) : DE X W ds a c2 m := coe_id h ha
theorem cId : Coe c c (fun z => z) := fun _ _ _ _ r => r
theorem cSome {f : α → β} [NN c] (h : Coe c c2 f) : Coe c (cO c2) (fun z => some (f z)) := fun K H v a r => ⟨NN.nn r, h _ _ _ _ r⟩
theorem cNone : Coe cN (cO c) (fun _ => none) := fun K H v a r => r
theorem cOO {f : α → β} (h : Coe c c2 f) : Coe (cO c) (cO c2) (Option.map f) := fun K H v a r => by
  cases a with
  | none => exact r
  | some z => exact ⟨r.1, h _ _ _ _ r.2⟩
theorem cLL {f : α → β} (h : Coe c c2 f) : Coe (cL c) (cL c2) (List.map f) := fun K H v a ⟨p, vs, e, h1, h2⟩ => ⟨p, vs, e, h1, Reps.coe h h2⟩
theorem cTT {f : α → β} (h : Coe c c2 f) : Coe (cT c) (cT c2) (List.map f) := fun K H v a ⟨p, vs, e, h1, h2⟩ => ⟨p, vs, e, h1, Reps.coe h h2⟩
theorem cLTLT {f : α → β} (h : Coe c c2 f) : Coe (cLT c) (cLT c2) (List.map f) := fun K H v a r => r.imp (cLL h K H v a) (cTT h K H v a)
theorem Reps.coeI {c2 : Cd α} (h : Coe c c2 (fun z => z)) {K : PySem.W.Frag} {H : Hp} {vs : List V} {as : List α} (r : Reps c K H vs as) : Reps c2 K H vs as := by
  have q := Reps.coe h r
  rw [List.map_id'] at q
  exact q
theorem cLLi {c2 : Cd α} (h : Coe c c2 (fun z => z)) : Coe (cL c) (cL c2) (fun z => z) := fun K H v a ⟨p, vs, e, h1, h2⟩ => ⟨p, vs, e, h1, Reps.coeI h h2⟩
theorem cTTi {c2 : Cd α} (h : Coe c c2 (fun z => z)) : Coe (cT c) (cT c2) (fun z => z) := fun K H v a ⟨p, vs, e, h1, h2⟩ => ⟨p, vs, e, h1, Reps.coeI h h2⟩
theorem cLTLTi {c2 : Cd α} (h : Coe c c2 (fun z => z)) : Coe (cLT c) (cLT c2) (fun z => z) := fun K H v a r => r.imp (cLLi h K H v a) (cTTi h K H v a)
theorem cOOi {c2 : Cd α} (h : Coe c c2 (fun z => z)) : Coe (cO c) (cO c2) (fun z => z) := fun K H v a r => by
  cases a with
  | none => exact r
  | some z => exact ⟨r.1, h _ _ _ _ r.2⟩
theorem cL_LT {f : List α → List β} (h : Coe (cL c) (cL c2) f) : Coe (cL c) (cLT c2) f := fun K H v a r => .inl (h K H v a r)
theorem cT_LT {f : List α → List β} (h : Coe (cT c) (cT c2) f) : Coe (cT c) (cLT c2) f := fun K H v a r => .inr (h K H v a r)
theorem au1c {f : β → α} (h : Coe c2 c f) : AUni (aOne c2) c (fun z => [f z]) := fun K H vs z ⟨v, e, r⟩ => by
  rw [e]
  exact ⟨h _ _ _ _ r, trivial⟩
theorem auCc {g : β → α} (hc : Coe c2 c g) {r : CA τ} {f : τ → List α} (h : AUni r c f) : AUni (aCons c2 r) c (fun z => g z.1 :: f z.2) := fun K H vs z ⟨v, ws, e, r1, r2⟩ => by
  rw [e]
  exact ⟨hc _ _ _ _ r1, h _ _ _ _ r2⟩
theorem cPT {r : CA τ} {f : τ → List α} (h : AUni r c f) : Coe (cP r) (cT c) f := fun K H v a ⟨p, vs, e, h1, h2⟩ => ⟨p, vs, e, h1, h _ _ _ _ h2⟩
theorem cPLT {r : CA τ} {f : τ → List α} (h : AUni r c f) : Coe (cP r) (cLT c) f := fun K H v a ⟨p, vs, e, h1, h2⟩ => .inr ⟨p, vs, e, h1, h _ _ _ _ h2⟩
theorem cHL {r : CA τ} {f : τ → List α} (h : AUni r c f) : Coe (cH r) (cL c) f := fun K H v a ⟨p, vs, e, h1, h2⟩ => ⟨p, vs, e, h1, h _ _ _ _ h2⟩
theorem cHLT {r : CA τ} {f : τ → List α} (h : AUni r c f) : Coe (cH r) (cLT c) f := fun K H v a ⟨p, vs, e, h1, h2⟩ => .inl ⟨p, vs, e, h1, h _ _ _ _ h2⟩
def ACoe {τ τ' : Type} (r : CA τ) (r' : CA τ') (f : τ → τ') : Prop := ∀ K H vs z, r.rep K H vs z → r'.rep K H vs (f z)
theorem ac1 {f : α → β} (h : Coe c c2 f) : ACoe (aOne c) (aOne c2) f := fun K H vs z ⟨v, e, r⟩ => ⟨v, e, h _ _ _ _ r⟩
theorem acC {τ' : Type} {f : α → β} (h : Coe c c2 f) {r : CA τ} {r' : CA τ'} {g : τ → τ'} (k : ACoe r r' g) : ACoe (aCons c r) (aCons c2 r') (fun z => (f z.1, g z.2)) := fun K H vs z ⟨v, ws, e, r1, r2⟩ => ⟨v, ws, e, h _ _ _ _ r1, k _ _ _ _ r2⟩
theorem cPP {τ' : Type} {r : CA τ} {r' : CA τ'} {g : τ → τ'} (k : ACoe r r' g) : Coe (cP r) (cP r') g := fun K H v a ⟨p, vs, e, h1, h2⟩ => ⟨p, vs, e, h1, k _ _ _ _ h2⟩
theorem cHH {τ' : Type} {r : CA τ} {r' : CA τ'} {g : τ → τ'} (k : ACoe r r' g) : Coe (cH r) (cH r') g := fun K H v a ⟨p, vs, e, h1, h2⟩ => ⟨p, vs, e, h1, k _ _ _ _ h2⟩
/-! ### joined, repeated -/
def catM (as bs : List α) : R (List α) := R.guard (as.length + bs.length < 16000000) (as ++ bs)
def repM (as : List α) (n : Int) : R (List α) := R.guard (-16000000 < n ∧ n < 16000000 ∧ as.length * n.toNat < 16000000) (List.flatten (List.replicate n.toNat as))
end
/-! ### while -/
section
variable {X : Cx} {W : WK} {T : Bool} {ds : Env} {β ν κ ω : Type} {body rest : List Stmt} {pos : Pos} {cb : RCd β} {eN : ν → Env} {eK : κ → Env} {I : ω → Out β ν κ}
theorem whileG [kw : KW W] {σ' : Type} {eL : σ' → Env} {test : σ' → R Bool} {step : σ' → R σ'} {s0 : σ'} {k : σ' → R ω} {t : Expr} (n : Nat) (hp : PassesOwn (model X.prog X.w) X.A X.env X.xe) (ht : ∀ s, DT X W (eL s) t (test s)) (l : EnvLe ds (eL s0))
    (hb : ∀ s, DS X W false (eL s) body cb eL eL (fun s => (.nxt s : Out β σ' σ')) (step s)) (hr : ∀ s, DS X W T (eL s) rest cb eN eK I (k s)) :
    DS X W T ds (.While t body [] pos :: rest) cb eN eK I (whileR n test step s0 >>= k) :=
  whileF (n := n) hp l ⟨wT X t, pt_wT, fun s S0 H0 σ S H Q E P => (ht s).w E P⟩ hb hr
end
end Zk
set_option maxHeartbeats 4000000
/-! # Zk: stores by place -/
namespace Zk
open PySem PySem.Spec PyProof.Rows L2
theorem RepsO.upd {α : Type} {o : OC α} {K : PySem.W.Frag} {S H H' : Hp} {a' : α} {v : V} {f : List Addr} (r : o.rep K S H' v a' f) (hh : ∀ p, p ∉ f → H' p = H p) : ∀ {vs : List V} {as : List α} {fs : List (List Addr)} {i : Nat}, RepsO o K S H vs as fs → fs.flatten.Nodup → vs[i]? = some v → fs[i]? = some f → RepsO o K S H' vs (as.set i a') fs
  | [], [], [], _, _, _, h, _ => by simp at h
  | v0 :: vs, a0 :: as, f0 :: fs, 0, h, nd, e1, e2 => by
    cases e1
    cases e2
    rw [List.flatten_cons, List.nodup_append] at nd
    refine ⟨r, RepsO.stay (.refl _) (fun p hp => ⟨(RepsO.dom h.2 p hp).1, hh p fun z => nd.2.2 p z p hp rfl⟩) h.2⟩
  | v0 :: vs, a0 :: as, f0 :: fs, i + 1, h, nd, e1, e2 => by
    rw [List.flatten_cons, List.nodup_append] at nd
    have hf : f ∈ fs := List.mem_of_getElem? (i := i) e2
    refine ⟨o.stay (.refl _) (fun p hp => ⟨(o.dom h.1 p hp).1, hh p fun z => nd.2.2 p hp p (List.mem_flatten.mpr ⟨f, hf, z⟩) rfl⟩) h.1, RepsO.upd r hh (i := i) h.2 nd.2.1 e1 e2⟩
  | [], [], _ :: _, _, h, _, _, _ => h.elim
  | [], _ :: _, _, _, h, _, _, _ => h.elim
  | _ :: _, [], _, _, h, _, _, _ => h.elim
  | _ :: _, _ :: _, [], _, h, _, _, _ => h.elim
section
variable {X : Cx} {W : WK} {T : Bool} {ds : Env} {α β γ τ ν κ ω : Type} {e j : Expr} {st : Stmt} {sts rest : List Stmt} {pos p : Pos} {c : Cd α} {cb : RCd β} {eN : ν → Env} {eK : κ → Env} {I : ω → Out β ν κ} {m : R α} {mj : R Int} {n : R ω}
/-- x[j] = e, x's list still changes -/
theorem setMu {x : Str} {p1 p2 : Pos} {as : List α} {k : List α → R ω} (i : Nat) (he : DE X W ds e c m) (hj : DE X W ds j cI mj) (hr : ∀ zs, DS X W T (ds.put i (.mu α c zs)) rest cb eN eK I (k zs)) (hd : ds.get i = .mu α c as := by rfl) (hN : X.N[i]? = some x := by rfl)
    (hv : Vis X.env.scope x := by first | exact Or.inl rfl | exact Or.inr (Or.inl rfl) | exact Or.inr (Or.inr rfl)) (hdb : (x == ("__debug__" : Str)) = false := by decide) (hcd : (x == ("__classdict__" : Str)) = false := by decide)
    (ha : ∀ v, assign (.Subscript (.Name x p1) j p2) X.env v = (do
      let ov ← holding [v] (eval (.Name x p1) X.env)
      let iv ← holding [v, ov] (eval j X.env)
      standAt p2
      holding [v, ov, iv] (setItem ov iv v)
      release [v, ov, iv] []) := by intro _; rfl)
    (hs : swapsWithSole [.Subscript (.Name x p1) j p2] e pos.line X.env = pure false := by rfl) (hw : swappedStores [.Subscript (.Name x p1) j p2] e X.env = pure none := by rfl)
    (h1 : (assignEach [.Subscript (.Name x p1) j p2] X.env).map (·.2) = [assign (.Subscript (.Name x p1) j p2) X.env] := by rfl) :
    DS X W T ds (.Assign [.Subscript (.Name x p1) j p2] e pos :: rest) cb eN eK I (m >>= fun z => mj >>= fun q => setM as q z >>= k) := fun S0 H0 σ S H D nx h E P => by
  obtain ⟨te, pe, qe⟩ := he
  obtain ⟨tj, pj, qj⟩ := hj
  refine seq (ps_asg pe (pg_sub (pe_var hN hv hdb hcd) pj set_list ha) hs hw h1) (qe S0 H0 σ S H _ E (stE E P fun z v S1 H1 E1 r1 P1 => ?_))
  obtain ⟨l, vs, e1, e2, e3, e4, e5⟩ := E1.muv hd
  refine ⟨.ref l, e1, qj S0 H0 σ S1 H1 _ E1 (R.post_mono (R.post_bind.mp P1) (fun q P2 u S2 H2 g2 r2 => ?_) (fun x q cl d S' H' g r => q cl d S' H' (E1.grow.trans g) r))⟩
  have E2 := E1.step g2
  obtain ⟨l2, vs2, f1, f2, f3, f4, f5⟩ := E2.muv hd
  rw [e1] at f1
  cases f1
  have eu : u = V.int q := r2
  subst eu
  unfold setM at P2
  cases hx : ixN as.length q with
  | none =>
    rw [hx] at P2
    exact False.elim P2
  | some w =>
    rw [hx] at P2
    refine ⟨l, vs2, q, w, rfl, rfl, f4, by rw [f5.length]; exact hx, ?_⟩
    exact hr _ S0 H0 σ S2 _ D nx h (E2.mutate (vs := vs2.set w v) hd e1 (Reps.set (c.mono g2.st r1) w f5)) P2
/-- x[a][b], x's lists owned -/
theorem ixMM {x : Str} {p1 p2 : Pos} {a b : Expr} {ass : List (List α)} {ma mb : R Int} (i : Nat) (ha : DE X W ds a cI ma) (hb : DE X W ds b cI mb) (hd : ds.get i = .ow (List (List α)) (oN (oL c)) ass := by rfl) (hN : X.N[i]? = some x := by rfl)
    (hv : Vis X.env.scope x := by first | exact Or.inl rfl | exact Or.inr (Or.inl rfl) | exact Or.inr (Or.inr rfl)) (hdb : (x == ("__debug__" : Str)) = false := by decide) (hcd : (x == ("__classdict__" : Str)) = false := by decide)
    (hpa : PlainIx a := by exact fun _ _ => rfl) (hpb : PlainIx b := by exact fun _ _ => rfl) :
    DE X W ds (.Subscript (.Subscript (.Name x p1) a p2) b pos) c (ma >>= fun q => getM ass q >>= fun row => mb >>= fun r => getM row r) := by
  obtain ⟨ta, pa, qa⟩ := ha
  obtain ⟨tb, pb, qb⟩ := hb
  refine ⟨_, pe_ix ix_list (pe_ix ix_list (pe_var hN hv hdb hcd) pa hpa) pb hpb, fun S0 H0 σ S H Q E P => ?_⟩
  obtain ⟨v, fp, h1, ⟨l, vs, fs, e1, e2, e3, e4, e5, e6⟩, h3⟩ := E.owv hd
  subst e1
  refine ⟨.ref l, h1, qa S0 H0 σ S H _ E (P.bind fun q u S1 H1 g1 r1 P1 => ?_)⟩
  have eu : u = V.int q := r1
  subst eu
  have E1 := E.step g1
  unfold getM at P1
  cases hq : atI ass q with
  | none =>
    rw [hq] at P1
    exact False.elim P1
  | some row =>
    rw [hq] at P1
    unfold atI at hq
    cases hi : ixN ass.length q with
    | none =>
      rw [hi] at hq
      cases hq
    | some w =>
      rw [hi] at hq
      obtain ⟨v2, f, k1, k2, ⟨l2, ws, k3, k4, k5, k6, k7⟩⟩ := RepsO.get e6 hq
      subst k3
      refine ⟨l, vs, q, .ref l2, rfl, rfl, SqL.of (g1.ex _ _ e5), ?_, qb S0 H0 σ S1 H1 _ E1 (PX.bind (show PX c X.K S1 H1 (mb >>= fun r => match atI row r with | some z => R.ok z | none => R.stuck) Q (W σ) from P1) fun r u2 S2 H2 g2 r2 P2 => ?_)⟩
      · unfold atI
        rw [(RepsO.length e6).1, hi]
        exact k1
      · have eu : u2 = V.int r := r2
        subst eu
        cases hr : atI row r with
        | none =>
          rw [hr] at P2
          exact False.elim P2
        | some z =>
          rw [hr] at P2
          obtain ⟨y, y1, y2⟩ := reps_at k7 hr
          exact ⟨l2, ws, r, y, rfl, rfl, SqL.of (g2.ex _ _ (g1.ex _ _ k6)), y1, P2.ok g2.inn (c.mono (g1.st.trans g2.st) y2)⟩
/-- x[a][b] = e, x's lists owned -/
theorem setMM {x : Str} {p1 p2 p3 : Pos} {a b : Expr} {ass : List (List α)} {ma mb : R Int} {k : List (List α) → R ω} (i : Nat) (he : DE X W ds e c m) (ha : DE X W ds a cI ma) (hb : DE X W ds b cI mb) (hr : ∀ zs, DS X W T (ds.put i (.ow (List (List α)) (oN (oL c)) zs)) rest cb eN eK I (k zs)) (hd : ds.get i = .ow (List (List α)) (oN (oL c)) ass := by rfl) (hN : X.N[i]? = some x := by rfl)
    (hv : Vis X.env.scope x := by first | exact Or.inl rfl | exact Or.inr (Or.inl rfl) | exact Or.inr (Or.inr rfl)) (hdb : (x == ("__debug__" : Str)) = false := by decide) (hcd : (x == ("__classdict__" : Str)) = false := by decide) (hpa : PlainIx a := by exact fun _ _ => rfl)
    (has : ∀ v, assign (.Subscript (.Subscript (.Name x p1) a p2) b p3) X.env v = (do
      let ov ← holding [v] (eval (.Subscript (.Name x p1) a p2) X.env)
      let iv ← holding [v, ov] (eval b X.env)
      standAt p3
      holding [v, ov, iv] (setItem ov iv v)
      release [v, ov, iv] []) := by intro _; rfl)
    (hs : swapsWithSole [.Subscript (.Subscript (.Name x p1) a p2) b p3] e pos.line X.env = pure false := by rfl) (hw : swappedStores [.Subscript (.Subscript (.Name x p1) a p2) b p3] e X.env = pure none := by rfl)
    (h1 : (assignEach [.Subscript (.Subscript (.Name x p1) a p2) b p3] X.env).map (·.2) = [assign (.Subscript (.Subscript (.Name x p1) a p2) b p3) X.env] := by rfl) :
    DS X W T ds (.Assign [.Subscript (.Subscript (.Name x p1) a p2) b p3] e pos :: rest) cb eN eK I (m >>= fun z => ma >>= fun q => getM ass q >>= fun row => mb >>= fun r => setM row r z >>= fun row' => setM ass q row' >>= k) := fun S0 H0 σ S H D nx h E P => by
  obtain ⟨te, pe, qe⟩ := he
  obtain ⟨ta, pa, qa⟩ := ha
  obtain ⟨tb, pb, qb⟩ := hb
  refine seq (ps_asg pe (pg_sub (pe_ix ix_list (pe_var hN hv hdb hcd) pa hpa) pb set_list has) hs hw h1) (qe S0 H0 σ S H _ E (stE E P fun z v S1 H1 E1 r1 P1 => ?_))
  obtain ⟨vv, fp, g1, ⟨l, vs, fs, e1, e2, e3, e4, e5, e6⟩, _⟩ := E1.owv hd
  subst e1
  refine ⟨.ref l, g1, qa S0 H0 σ S1 H1 _ E1 (R.post_mono (R.post_bind.mp P1) (fun q P2 u S2 H2 g2 r2 => ?_) (fun x q cl d S' H' g r => q cl d S' H' (E1.grow.trans g) r))⟩
  have eu : u = V.int q := r2
  subst eu
  unfold getM at P2
  cases hq : atI ass q with
  | none =>
    rw [hq] at P2
    exact False.elim P2
  | some row =>
    rw [hq] at P2
    have hq' := hq
    unfold atI at hq
    cases hi : ixN ass.length q with
    | none =>
      rw [hi] at hq
      cases hq
    | some w =>
      rw [hi] at hq
      obtain ⟨v2, f, k1, k2, ⟨l2, ws, k3, k4, k5, k6, k7⟩⟩ := RepsO.get e6 hq
      subst k3 k4
      have E2 := E1.step g2
      have P2' : (mb >>= fun r => setM row r z >>= fun row' => setM ass q row' >>= k).post (fun w => OutP X.K S0 H0 cb eN eK D (I w)) (EX X.K (W σ) S0 H0) := P2
      refine ⟨l, vs, q, .ref l2, rfl, rfl, SqL.of (g2.ex _ _ e5), by unfold atI; rw [(RepsO.length e6).1, hi]; exact k1, qb S0 H0 σ S2 H2 _ E2 (R.post_mono (R.post_bind.mp P2') (fun r P3 u3 S3 H3 g3 r3 => ?_) (fun x q cl d S' H' g r => q cl d S' H' (E2.grow.trans g) r))⟩
      have eu : u3 = V.int r := r3
      subst eu
      have E3 := E2.step g3
      unfold setM at P3
      cases hx : ixN row.length r with
      | none =>
        rw [hx] at P3
        exact False.elim P3
      | some y =>
        rw [hx] at P3
        rw [hi] at P3
        have h6 : H3 l2 = some (.lst ws) := g3.ex _ _ (g2.ex _ _ k6)
        refine ⟨l2, ws, r, y, rfl, rfl, h6, by rw [k7.length]; exact hx, ?_⟩
        refine hr _ S0 H0 σ S3 _ D nx h (E3.mut (.refl E3.inn) hd fun v5 fp5 q1 q2 q3 => ?_) P3
        obtain ⟨l', vs', fs', t1, t2, t3, t4, t5, t6⟩ := q2
        rw [g1] at q1
        cases q1
        cases t1
        have e5' : H3 l = some (.lst vs) := g3.ex _ _ (g2.ex _ _ e5)
        rw [e5'] at t5
        cases t5
        obtain ⟨v6, f6, y1, y2, ⟨l6, ws6, z3, z4, z5, z6, z7⟩⟩ := RepsO.get t6 hq
        rw [k1] at y1
        cases y1
        cases z3
        subst z4
        rw [h6] at z6
        cases z6
        have nd := (List.nodup_cons.mp t3)
        have nl : l2 ≠ l := fun zz => nd.1 (by rw [← zz]; exact List.mem_flatten.mpr ⟨[l2], List.mem_of_getElem? y2, List.mem_singleton.mpr rfl⟩)
        refine ⟨fp5, ⟨l, vs, fs', rfl, t2, t3, t4, by rw [upd_ne (Ne.symm nl)]; exact e5', RepsO.upd (o := oL c) (v := .ref l2) (f := [l2]) (show (oL c).rep X.K S3 (upd H3 l2 (.lst (ws.set y v))) (.ref l2) (row.set y z) [l2] from ⟨l2, ws.set y v, rfl, rfl, z5, upd_same, Reps.set (c.mono (g2.st.trans g3.st) r1) y z7⟩) (fun p hp => upd_ne fun zz => hp (List.mem_singleton.mpr zz)) t6 nd.2 k1 y2⟩, fun p hp => .inl (upd_ne fun zz => hp ?_), fun p hp => .inl hp⟩
        rw [t2, zz]
        exact List.mem_cons_of_mem _ (List.mem_flatten.mpr ⟨[l2], List.mem_of_getElem? y2, List.mem_singleton.mpr rfl⟩)
/-- what slot i holds settles -/
theorem settleO (i : Nat) {o : OC α} {a : α} (hd : ds.get i = .ow α o a := by rfl) (hr : DS X W T (ds.put i (.st α o.c a)) sts cb eN eK I n) : DS X W T ds sts cb eN eK I n := fun S0 H0 σ S H D nx h E P => by
  obtain ⟨S', hs, E'⟩ := E.freezeO hd
  exact hr S0 H0 σ S' H D nx h E' P
/-- list(x[a]), x's lists owned -/
theorem toLM {x : Str} {p1 p2 : Pos} {a : Expr} {ass : List (List α)} {ma : R Int} (i : Nat) (hm : X.mg "list" = none) (ha : DE X W ds a cI ma) (hd : ds.get i = .ow (List (List α)) (oN (oL c)) ass := by rfl) (hN : X.N[i]? = some x := by rfl)
    (hv : Vis X.env.scope x := by first | exact Or.inl rfl | exact Or.inr (Or.inl rfl) | exact Or.inr (Or.inr rfl)) (hdb : (x == ("__debug__" : Str)) = false := by decide) (hcd : (x == ("__classdict__" : Str)) = false := by decide) (hpa : PlainIx a := by exact fun _ _ => rfl) (hg : Gl X "list" := by rfl)
    (he : starEach (.Subscript (.Name x p1) a p2 :: []) X.env = (false, eval (.Subscript (.Name x p1) a p2) X.env) :: starEach [] X.env := by rfl) (hpl : (backTo pos (starEach [] X.env)).any (·.1) = false := by rfl) :
    DL X W ds (.Call (.Name "list" p) [.Subscript (.Name x p1) a p2] [] pos) c (ma >>= fun q => getM ass q) := by
  obtain ⟨ta, pa, qa⟩ := ha
  refine ⟨_, pe_callTy call_list_of hg hm (by decide +kernel) (pa_cons (pe_ix ix_list (pe_var hN hv hdb hcd) pa hpa) pa_nil he) (by decide) (by decide) he hpl, fun S0 H0 σ S H Q E P => ?_⟩
  obtain ⟨v, fp, h1, ⟨l, vs, fs, e1, e2, e3, e4, e5, e6⟩, h3⟩ := E.owv hd
  subst e1
  refine ⟨.ref l, h1, qa S0 H0 σ S H _ E (R.post_mono (R.post_bind.mp P) (fun q P1 u S1 H1 g1 r1 => ?_) (fun _ k => k))⟩
  have eu : u = V.int q := r1
  subst eu
  unfold getM at P1
  cases hq : atI ass q with
  | none =>
    rw [hq] at P1
    exact False.elim P1
  | some row =>
    rw [hq] at P1
    unfold atI at hq
    cases hi : ixN ass.length q with
    | none =>
      rw [hi] at hq
      cases hq
    | some w =>
      rw [hi] at hq
      obtain ⟨v2, f, k1, k2, ⟨l2, ws, k3, k4, k5, k6, k7⟩⟩ := RepsO.get e6 hq
      subst k3
      refine ⟨l, vs, q, .ref l2, rfl, rfl, SqL.of (g1.ex _ _ e5), by unfold atI; rw [(RepsO.length e6).1, hi]; exact k1, ?_⟩
      refine ⟨l2, ws, rfl, .inl (SqL.of (g1.ex _ _ k6)), fun l' hl => ?_⟩
      have g2 : Grow S1 H1 S1 (upd H1 l' (.lst ws)) := .lay' g1.inn hl
      exact P1 l' ws S1 _ (g1.trans g2) (g1.ex.free hl) (g1.inn.free hl) upd_same (Reps.mono g1.st k7)
/-! ### new owned values -/
/-- a new value that nothing else holds -/
def DLO (X : Cx) (W : WK) (ds : Env) (e : Expr) {α : Type} (o : OC α) (m : R α) : Prop :=
  ∃ t : TE, PE X e t ∧ ∀ S0 H0 σ S H (Q : VK), EnvOk X.K S0 H0 ds σ S H →
    m.post (fun a => ∀ v fp S' H', Grow S H S' H' → o.rep X.K S' H' v a fp → (∀ p ∈ fp, H p = none) → Q v H') (fun x => ∀ cl d S' H', Grow S H S' H' → repX X.K S' cl d x → W σ cl d H') → t σ H Q
theorem dlo {m : R (List α)} (h : DL X W ds e c m) : DLO X W ds e (oL c) m := by
  obtain ⟨t, p, q⟩ := h
  refine ⟨t, p, fun S0 H0 σ S H Q E P => q S0 H0 σ S H Q E (R.post_mono P (fun as k p vs S' H' g h1 h2 h3 r => ?_) (fun _ k => k))⟩
  exact k (.ref p) [p] S' H' g ⟨p, vs, rfl, rfl, h2, h3, r⟩ fun x hx => by rw [List.mem_singleton.mp hx]; exact h1
/-- x = a new value that will change -/
theorem asgO [kw : KW W] {x : Str} {pos' : Pos} {o : OC α} {k : α → R ω} (i : Nat) (sn : X.N.Nodup) (he : DLO X W ds e o m) (hr : ∀ z, DS X W T (ds.put i (.ow α o z)) rest cb eN eK I (k z)) (hi : X.N[i]? = some x := by rfl) (hx : Loc X.env.scope x := by first | exact Or.inl rfl | exact Or.inr rfl)
    (hs : swapsWith e (some (.Name x pos')) pos.line X.env = pure false := by rfl) (hf : X.fn x = true ∨ X.env.scope.names.lookup x = some .local := by first | exact .inl rfl | exact .inr rfl) : DS X W T ds (.Assign [.Name x pos'] e pos :: rest) cb eN eK I (m >>= k) := fun S0 H0 σ S H D nx h E P => by
  obtain ⟨W, rfl⟩ := kw.ex
  obtain ⟨te, pe, qe⟩ := he
  exact seq (ps_set (i := i) sn hi hx pe hs hf) (qe S0 H0 σ S H _ E (R.post_mono (R.post_bind.mp P) (fun z q v fp S' H' g r hn => hr z S0 H0 _ S' H' D nx h (E.putO g r hn) q) (fun x q cl d S' H' g r => q cl d S' H' (E.grow.trans g) r)))
end
section
variable {X : Cx} {W : WK} {ds : Env} {α β : Type} {elt tg iter : Expr} {scope : Scope} {c : Cd α} {o : OC β} {mi : R (List α)} {pos : Pos}
theorem DLO.w {e : Expr} {m : R β} (h : DLO X W ds e o m) {S0 H0 S H : Hp} {σ : L2.St} {Q : VK} (E : EnvOk X.K S0 H0 ds σ S H)
    (P : m.post (fun a => ∀ v fp S' H', Grow S H S' H' → o.rep X.K S' H' v a fp → (∀ p ∈ fp, H p = none) → Q v H') (fun x => ∀ cl d S' H', Grow S H S' H' → repX X.K S' cl d x → W σ cl d H')) : wE X e σ H Q := by
  obtain ⟨t, p, q⟩ := h
  exact fun pins s I => p.run pins s σ H Q I (q S0 H0 σ S H Q E P)
/-- [elt for tg in iter], the items new and owned -/
theorem lcO {f : α → R β} (own : List (Str × Nat)) (ok : BlkOk X.N X.env.scope scope own) (sn : X.N.Nodup) (hc : X.calm = true) (hi : DI X W ds tg iter c mi) {eB : α → Env} (hg : DGB X scope tg (own.map (·.2)) c (wipeD ds (own.map (·.2))) eB)
    (he : ∀ (b : Blk) a, DLO (blkX X scope b) (fun _ => E0) (eB a) elt o (f a)) (hs : ∀ x, foldedSetIterable iter X.env x = pure x := by intro _; rfl) : DLO X W ds (.ListComp elt [⟨tg, iter, [], 0⟩] scope pos) (oN o) (mi >>= fun as => mapM f as) := by
  obtain ⟨wi, pi, qi⟩ := hi
  obtain ⟨g, pg, qg⟩ := hg
  refine ⟨_, pe_lc hc sn pi ok (fun s H C cl fp => pg (s, H, C, cl, fp)) (tt := tYes) (fun s H C cl fp => pts_nil) (te := tAnyE X scope elt) (fun s H C cl fp => ⟨fun pins s' σ H' Q I h => h (s, H, C, cl, fp) pins s' I⟩) hs, fun S0 H0 σ S H Q E P => ?_⟩
  refine qi S0 H0 σ S H _ E (R.post_mono (R.post_bind.mp P) (fun as k J S1 H1 g1 hJ => ?_) (fun _ k => k))
  intro D hD
  have E1 := E.step g1
  have hlen : as.length < 16000000 := by
    unfold mapM at k
    split at k
    · assumption
    · exact False.elim k
  unfold mapM at k
  rw [if_pos hlen] at k
  refine ⟨fun i m H' => m = as.length - i ∧ i ≤ as.length ∧ ∃ S' vs bs fs, Grow S1 H1 S' H' ∧ H' D = some (.lst vs) ∧ S' D = none ∧ RepsO o X.K S' H' vs bs fs ∧ (D :: fs.flatten).Nodup ∧ (∀ p ∈ fs.flatten, H1 p = none) ∧ bs.length ≤ i ∧
      (mapR f (as.drop i)).post (fun ys => ∀ v fp S' H', Grow S H S' H' → (oN o).rep X.K S' H' v (bs ++ ys) fp → (∀ p ∈ fp, H p = none) → Q v H') (fun x => ∀ cl d S' H', Grow S H S' H' → repX X.K S' cl d x → W σ cl d H'),
    ⟨as.length, rfl, Nat.zero_le _, S1, [], [], [], .lay' g1.inn hD, upd_same, g1.inn.free hD, trivial, by simp, by simp, Nat.le_refl _, by simpa using k⟩, ?_⟩
  rintro i m H2 ⟨rfl, hi, S2, vs, bs, fs, g2, h2, h3, r2, nd, fr, hb, k2⟩
  obtain ⟨j1, j2⟩ := hJ i S2 H2 g2.st g2.inn
  by_cases hlt : i < as.length
  · have ha : as[i]? = some as[i] := List.getElem?_eq_getElem hlt
    obtain ⟨n1, n2⟩ := j2 _ ha
    rw [List.drop_eq_getElem_cons hlt] at k2
    refine .inr ⟨n1, fun H' => ∃ S' vs bs fs, Grow S1 H1 S' H' ∧ H' D = some (.lst vs) ∧ S' D = none ∧ RepsO o X.K S' H' vs bs fs ∧ (D :: fs.flatten).Nodup ∧ (∀ p ∈ fs.flatten, H1 p = none) ∧ bs.length ≤ i + 1 ∧
      (mapR f (as.drop (i + 1))).post (fun ys => ∀ v fp S' H', Grow S H S' H' → (oN o).rep X.K S' H' v (bs ++ ys) fp → (∀ p ∈ fp, H p = none) → Q v H') (fun x => ∀ cl d S' H', Grow S H S' H' → repX X.K S' cl d x → W σ cl d H'),
      fun H' q => ⟨as.length - (i + 1), by omega, rfl, hlt, q⟩, fun x H3 y => ?_⟩
    obtain ⟨S3, g3, r3⟩ := n2 x H3 y
    have E3 := ((E1.step (g2.trans g3)).wipe (own.map (·.2)))
    refine qg _ x S0 H0 _ S3 H3 _ E3 r3 fun σ' hl ho E4 => ⟨wipe_eq (by rw [hl, wipe_length]) ho, ?_⟩
    unfold tYes
    dsimp only
    rw [if_pos rfl]
    intro b
    have k3 : (R.nox (f as[i]) >>= fun b => mapR f (as.drop (i + 1)) >>= fun bs => .ok (b :: bs)).post (fun ys => ∀ v fp S' H', Grow S H S' H' → (oN o).rep X.K S' H' v (bs ++ ys) fp → (∀ p ∈ fp, H p = none) → Q v H') (fun x => ∀ cl d S' H', Grow S H S' H' → repX X.K S' cl d x → W σ cl d H') := k2
    refine (he b as[i]).w (e := elt) (Q := fun y H4 => ∃ acc, H4 D = some (.lst acc) ∧ acc.length < sizeLine ∧ _) E4 (nox_post (R.post_mono (R.post_bind.mp k3) (fun w k5 v fp S6 H6 g6 r6 hn => ?_) (fun _ k => k)))
    have d3 : H3 D = some (.lst vs) := g3.ex _ _ h2
    have d6 : H6 D = some (.lst vs) := g6.ex _ _ d3
    have s6 : S6 D = none := (g3.trans g6).none h2 h3
    have g16 : Grow S1 H1 S6 H6 := g2.trans (g3.trans g6)
    have old := RepsO.dom r2
    have nD : ∀ p ∈ fs.flatten, p ≠ D := fun p hp z => (List.nodup_cons.mp nd).1 (by rw [← z]; exact hp)
    have nF : ∀ p ∈ fp, p ≠ D := fun p hp z => by
      have q := hn p hp
      rw [z, d3] at q
      cases q
    refine ⟨vs, d6, by rw [(RepsO.length r2).1]; exact Nat.lt_of_le_of_lt hb (Nat.lt_of_lt_of_le (Nat.lt_trans hlt hlen) (by decide)), S6, vs ++ [v], bs ++ [w], fs ++ [fp], ⟨g16.ex.mut hD, g16.st, g16.inn.mut s6, g16.new⟩, upd_same, s6,
      (RepsO.stay (g3.trans g6).st (fun p hp => ?_) r2).append (show RepsO o X.K S6 (upd H6 D (.lst (vs ++ [v]))) [v] [w] [fp] from ⟨o.stay (.refl _) (fun p hp => ⟨(o.dom r6 p hp).1, upd_ne (nF p hp)⟩) r6, trivial⟩), ?_, fun p hp => ?_, by rw [List.length_append]; exact Nat.succ_le_succ hb, ?_⟩
    · obtain ⟨q1, xs, q2⟩ := old p hp
      exact ⟨(g3.trans g6).none q2 q1, (upd_ne (nD p hp)).trans (((g3.trans g6).ex _ _ q2).trans q2.symm)⟩
    · rw [List.flatten_append, show List.flatten [fp] = fp by simp]
      refine List.nodup_cons.mpr ⟨fun z => ?_, List.nodup_append.mpr ⟨(List.nodup_cons.mp nd).2, o.nd r6, fun a ha b hb z => ?_⟩⟩
      · rcases List.mem_append.mp z with z | z
        · exact nD D z rfl
        · exact nF D z rfl
      · obtain ⟨_, xs, q2⟩ := old a ha
        have q := hn b hb
        rw [← z, g3.ex _ _ q2] at q
        cases q
    · rw [List.flatten_append, List.mem_append] at hp
      rcases hp with hp | hp
      · exact fr p hp
      · have hp' : p ∈ fp := by simpa using hp
        exact (g2.trans g3).ex.free (hn p hp')
    · refine R.post_mono (R.post_bind.mp k5) (fun ys k6 v fp S' H' g' h1 r => k6 v fp S' H' g' ?_ r) (fun _ k => k)
      rw [List.append_assoc] at h1
      exact h1
  · have e : i = as.length := by omega
    subst e
    rw [List.drop_length] at k2
    have q := k2 (.ref D) (D :: fs.flatten) S2 H2 (g1.trans g2) (by rw [List.append_nil]; exact ⟨D, vs, fs, rfl, rfl, nd, h3, h2, r2⟩) (fun p hp => by
      rcases List.mem_cons.mp hp with z | z
      · rw [z]; exact g1.ex.free hD
      · exact g1.ex.free (fr p z))
    exact .inl ⟨j1 (Nat.le_refl _), q⟩
end
end Zk
set_option maxHeartbeats 4000000
/-! # Zk: lists joined, repeated -/
namespace Zk
open PySem PySem.Spec PyProof.Rows L2
section
variable {X : Cx} {W : WK} {ds : Env} {α β γ τ : Type} {a b e : Expr} {es : List Expr} {pos p : Pos} {c : Cd α}
def rCatS (K : PySem.W.Frag) : R2 := fun x y H Q => ∃ l r xs zs, x = .ref l ∧ y = .ref r ∧ SqL K H l xs ∧ SqL K H r zs ∧ xs.length + zs.length ≤ sizeLine ∧ ∀ q, H q = none → Q (.ref q) (upd H q (.lst (xs ++ zs)))
theorem op_catS : OpR X (binaryOp .Add) (rCatS X.K) := by
  intro pins s σ H x y v u Q I rx ry h
  obtain ⟨l, r, xs, zs, rfl, rfl, h1, h2, hz, k⟩ := h
  cases rx
  cases ry
  obtain ⟨i1, v1, ⟨⟨k1, d1, t1, s1⟩, n1, g1, c1, e1, f1⟩, z1⟩ := I.list h1
  obtain ⟨i2, v2, ⟨⟨k2, d2, t2, s2⟩, n2, g2, c2, e2, f2⟩, z2⟩ := I.list h2
  simp only at c1 e1 f1 c2 e2 f2
  subst c1 e1 f1 c2 e2 f2
  have l1 := v1.length
  have l2 := v2.length
  refine concat_meets ⟨_, g1, rfl⟩ ⟨_, g2, rfl⟩ noFill_list_add seq_list_add PySem.F.slot_list_add PySem.F.entry_list_add (PySem.F.args_list_add_2 _ _)
    (list_addW l r i1.toArray i2.toArray n1 n2 _ _ s1 s2 (by rw [List.size_toArray, List.size_toArray]; omega)) ⟨g1, g2, ?_⟩
  rw [show i1.toArray ++ i2.toArray = (i1 ++ i2).toArray from by simp]
  exact ⟨.ref _, _, I.lnew (t' := s.toks) (v1.append v2) (by rw [List.length_append]; omega), rfl, k _ I.fresh⟩
/-- a new list from two readings -/
theorem cat {m1 m2 : R (List α)} (ha : DE X W ds a (cL c) m1) (hb : DE X W ds b (cL c) m2) : DL X W ds (.BinOp a .Add b pos) c (m1 >>= fun x => m2 >>= fun y => catM x y) := by
  obtain ⟨ta, pa, qa⟩ := ha
  obtain ⟨tb, pb, qb⟩ := hb
  refine ⟨_, pe_op op_catS pa pb, fun S0 H0 σ S H Q E P => qa S0 H0 σ S H _ E (R.post_mono (R.post_bind.mp P) (fun x P1 v S1 H1 g1 r1 => qb S0 H0 σ S1 H1 _ (E.step g1) (R.post_mono (R.post_bind.mp P1) (fun y P2 u S2 H2 g2 r2 => ?_) (fun _ k cl d S' H' g r => k cl d S' H' (g1.trans g) r))) (fun _ k => k))⟩
  obtain ⟨p1, xs, rfl, h1, k1⟩ := (cL c).mono g2.st r1
  obtain ⟨p2, zs, rfl, h2, k2⟩ := r2
  obtain ⟨hz, P3⟩ := R.guard_post P2
  refine ⟨p1, p2, xs, zs, rfl, rfl, Same.seq g2.inn h1, Same.seq g2.inn h2, ?_, fun q hq => ?_⟩
  · rw [k1.length, k2.length]
    exact Nat.le_trans (Nat.le_of_lt hz) (by decide)
  · have g3 : Grow S2 H2 S2 (upd H2 q (.lst (xs ++ zs))) := .lay' g2.inn hq
    have g12 := g1.trans g2
    exact P3 q (xs ++ zs) S2 _ (g12.trans g3) (g12.ex.free hq) (g2.inn.free hq) upd_same (k1.append k2)
theorem cat_pp {x y : List α} (ha : DE X W ds a (cL c) (.ok x)) (hb : DE X W ds b (cL c) (.ok y)) : DL X W ds (.BinOp a .Add b pos) c (catM x y) := cat ha hb
theorem cat_pm {x : List α} {m2 : R (List α)} (ha : DE X W ds a (cL c) (.ok x)) (hb : DE X W ds b (cL c) m2) : DL X W ds (.BinOp a .Add b pos) c (m2 >>= fun y => catM x y) := cat ha hb
theorem cat_mp {y : List α} {m1 : R (List α)} (ha : DE X W ds a (cL c) m1) (hb : DE X W ds b (cL c) (.ok y)) : DL X W ds (.BinOp a .Add b pos) c (m1 >>= fun x => catM x y) := cat ha hb
theorem cat_mm {m1 m2 : R (List α)} (ha : DE X W ds a (cL c) m1) (hb : DE X W ds b (cL c) m2) : DL X W ds (.BinOp a .Add b pos) c (m1 >>= fun x => m2 >>= fun y => catM x y) := cat ha hb
theorem reps_rep {K : PySem.W.Frag} {S : Hp} {vs : List V} {as : List α} (r : Reps c K S vs as) : ∀ n : Nat, Reps c K S (List.replicate n vs).flatten (List.replicate n as).flatten
  | 0 => trivial
  | n + 1 => by
    rw [List.replicate_succ, List.replicate_succ, List.flatten_cons, List.flatten_cons]
    exact r.append (reps_rep r n)
/-- a new list of so many copies of a new list's items -/
theorem rep {m1 : R (List α)} {m2 : R Int} (ha : DL X W ds a c m1) (hb : DE X W ds b cI m2) : DL X W ds (.BinOp a .Mult b pos) c (m1 >>= fun x => m2 >>= fun y => repM x y) := by
  obtain ⟨ta, pa, qa⟩ := ha
  obtain ⟨tb, pb, qb⟩ := hb
  refine ⟨_, pe_op op_rep pa pb, fun S0 H0 σ S H Q E P => qa S0 H0 σ S H _ E (R.post_mono (R.post_bind.mp P) (fun x P1 l vs S1 H1 g1 n1 n2 e1 r1 => qb S0 H0 σ S1 H1 _ (E.step g1) (R.post_mono (R.post_bind.mp P1) (fun y P2 u S2 H2 g2 r2 => ?_) (fun _ k cl d S' H' g r => k cl d S' H' (g1.trans g) r))) (fun _ k => k))⟩
  have eu : u = V.int y := r2
  subst eu
  obtain ⟨⟨z1, z2, z3⟩, P3⟩ := R.guard_post P2
  refine ⟨l, y, vs, rfl, rfl, g2.ex _ _ e1, by omega, by omega, ?_, fun q hq => ?_⟩
  · rw [r1.length]
    exact Nat.le_trans (Nat.le_of_lt z3) (by decide)
  · have g3 : Grow S2 H2 S2 (upd H2 q (.lst (List.replicate y.toNat vs).flatten)) := .lay' g2.inn hq
    have g12 := g1.trans g2
    exact P3 q _ S2 _ (g12.trans g3) (g12.ex.free hq) (g2.inn.free hq) upd_same (reps_rep (Reps.mono g2.st r1) _)
theorem rep_pp {x : List α} {y : Int} (ha : DL X W ds a c (.ok x)) (hb : DE X W ds b cI (.ok y)) : DL X W ds (.BinOp a .Mult b pos) c (repM x y) := rep ha hb
theorem rep_pm {x : List α} {m2 : R Int} (ha : DL X W ds a c (.ok x)) (hb : DE X W ds b cI m2) : DL X W ds (.BinOp a .Mult b pos) c (m2 >>= fun y => repM x y) := rep ha hb
theorem rep_mp {y : Int} {m1 : R (List α)} (ha : DL X W ds a c m1) (hb : DE X W ds b cI (.ok y)) : DL X W ds (.BinOp a .Mult b pos) c (m1 >>= fun x => repM x y) := rep ha hb
theorem rep_mm {m1 : R (List α)} {m2 : R Int} (ha : DL X W ds a c m1) (hb : DE X W ds b cI m2) : DL X W ds (.BinOp a .Mult b pos) c (m1 >>= fun x => m2 >>= fun y => repM x y) := rep ha hb
end
end Zk
set_option maxHeartbeats 4000000
/-! # Zk: exceptions: raise, try .. except X as e, isinstance of what was caught -/
namespace Zk
open PySem PySem.Spec PyProof.Rows L2
/-! ### what the text's classes must say -/
/-- an own class of exceptions below ValueError -/
structure XCls (K : PySem.W.Frag) (x : Str) : Prop where
  inn : PySem.W.excIn K (He.ga K x) He.veBase "ValueError.__new__" = true
  kp : PySem.W.keepIn K (.ref (He.ga K x)) = true
  sub : PySem.W.subIn K (.ref (He.ga K x)) (.type "BaseException") = some true
  ty : PySem.W.typeIn K (.ref (He.ga K x)) = some (.type "type")
def excB (K : PySem.W.Frag) (x : Str) : Bool := (He.Fa.exc x).ok K
theorem excB_ok {K : PySem.W.Frag} {x : Str} (h : excB K x = true) : XCls K x := by
  obtain ⟨h1, h2, h3, h4⟩ := He.exc_ok h
  exact ⟨h1, h2, h3, h4⟩
/-- isinstance asks instances of this class rightly -/
def excCB (K : PySem.W.Frag) (x : Str) : Bool :=
  He.eqO (PySem.W.findIn K (.ref (He.ga K x)) "__getattribute__") (some (some (.builtin "BaseException.__getattribute__"))) && (He.eqO (PySem.W.findIn K (.ref (He.ga K x)) "__getattr__") (some none) &&
    (decide (PySem.W.subIn K (.ref (He.ga K x)) (.type "BaseException") = some true) && (PySem.W.hasDictIn K (He.ga K x) && (He.eqO (PySem.W.findIn K (.ref (He.ga K x)) "__class__") (some (some (.builtin "object.__class__"))) &&
      (He.eqO (PySem.W.specialIn K (.builtin "object.__class__") "__get__") (some (some (.builtin "getset_descriptor.__get__"))) && (decide (PySem.W.takesIn K (.builtin "object.__class__") = some true) && decide (PySem.W.mroIn K (He.ga K x) (.type "object") = some true)))))))
theorem excCB_ok {K : PySem.W.Frag} {x : Str} (h : excCB K x = true) : ExcC K (He.ga K x) := by
  obtain ⟨h1, h⟩ := He.ba h
  obtain ⟨h2, h⟩ := He.ba h
  obtain ⟨h3, h⟩ := He.ba h
  obtain ⟨h4, h⟩ := He.ba h
  obtain ⟨h5, h⟩ := He.ba h
  obtain ⟨h6, h⟩ := He.ba h
  obtain ⟨h7, h8⟩ := He.ba h
  exact ⟨He.eqO_ok h1, He.eqO_ok h2, of_decide_eq_true h3, h4, He.eqO_ok h5, He.eqO_ok h6, of_decide_eq_true h7, of_decide_eq_true h8⟩
/-- a table: of each class whether the clause takes it -/
abbrev XTab : Type := List (Str × Bool)
def exmB (K : PySem.W.Frag) (c : Value) (t : XTab) : Bool := t.all fun q => decide (PySem.W.exmOne K (.ref (He.ga K q.1)) c = some q.2)
def kitB (K : PySem.W.Frag) (c : Value) (t : XTab) : Bool := t.all fun q => excCB K q.1 && decide (PySem.W.kitOne K (.ref (He.ga K q.1)) c = some q.2)
theorem lookup_mem {t : XTab} {x : Str} {b : Bool} (h : t.lookup x = some b) : (x, b) ∈ t := PySem.mem_of_lookup h
theorem exmB_ok {K : PySem.W.Frag} {c : Value} {t : XTab} (h : exmB K c t = true) {x : Str} {b : Bool} (e : t.lookup x = some b) : PySem.W.exmOne K (.ref (He.ga K x)) c = some b :=
  of_decide_eq_true (List.all_eq_true.mp h (x, b) (lookup_mem e))
theorem kitB_ok {K : PySem.W.Frag} {c : Value} {t : XTab} (h : kitB K c t = true) {x : Str} {b : Bool} (e : t.lookup x = some b) : ExcC K (He.ga K x) ∧ PySem.W.kitOne K (.ref (He.ga K x)) c = some b := by
  obtain ⟨h1, h2⟩ := He.ba (List.all_eq_true.mp h (x, b) (lookup_mem e))
  exact ⟨excCB_ok h1, of_decide_eq_true h2⟩
/-! ### raise -/
section
variable {X : Cx} {W : WK} {T : Bool} {ds : Env} {β ν κ ω : Type} {rest : List Stmt} {pos p pos' : Pos} {cb : RCd β} {eN : ν → Env} {eK : κ → Env} {I : ω → Out β ν κ}
theorem pmk0 {x : Str} (c : XCls X.K x) (gC : X.mg x = some (.ref (He.ga X.K x))) (hg : Gl X x := by rfl) (hdb : (x == ("__debug__" : Str)) = false := by decide) : L2N.PMk X (.Call (.Name x p) [] [] pos) (fun _ H Q => Q (.ref (He.ga X.K x)) none H) := fun pins s σ H Q I h => by
  refine wpAny_Call_Name_kw (ld_glob I hg gC (PySem.W.callWith_K0 I.kIn c.kp ?_) hdb)
  obtain ⟨bm, N, nm, qn, bs, hdct, sn, sub, ab, col, dd, k0, k1, k2, k3, k5, mN, hC, hN, hni, tl⟩ := exc_obj I.kIn c.inn
  exact wpAny_call_exc_subT PySem.F.excBase_ValueError tl hC hN hni (fun h' e hm => L2N.mk_of I hm (raises_own c.sub c.ty) h (I.hok.gone hm.new)) (Nat.zero_le _)
/-- raise X() -/
theorem raise0 {x : Str} (c : XCls X.K x) (gC : X.mg x = some (.ref (He.ga X.K x))) (hp : Lets X W) (hc : X.calm = true := by rfl) (hg : Gl X x := by rfl) (hdb : (x == ("__debug__" : Str)) = false := by decide) :
    DS X W T ds (.Raise (some (.Call (.Name x p) [] [] pos')) none pos :: rest) cb eN eK I (.exn ⟨x, []⟩) := fun S0 H0 σ S H D nx h E P => by
  have P1 : EX X.K (W σ) S0 H0 ⟨x, []⟩ := P
  exact seq (L2N.ps_raise hc hp (pmk0 c gC hg hdb)) (P1 _ _ S H E.grow ⟨rfl, rfl⟩)
end
/-! ### try: .. except X as e: .. -/
/-- no slot owns a thing -/
def NoOw : Env → Prop
  | [] => True
  | .ow _ _ _ :: _ => False
  | _ :: ds => NoOw ds
theorem NoOw.get : ∀ {ds : Env} (i : Nat), NoOw ds → ∀ α o a, ds.get i ≠ .ow α o a
  | [], _, _, _, _, _ => fun z => nomatch z
  | .none :: _, 0, _, _, _, _ => fun z => nomatch z
  | .st _ _ _ :: _, 0, _, _, _, _ => fun z => nomatch z
  | .none :: ds, i + 1, h, α, o, a => NoOw.get (ds := ds) i h α o a
  | .st _ _ _ :: ds, i + 1, h, α, o, a => NoOw.get (ds := ds) i h α o a
  | .ow _ _ _ :: _, _, h, _, _, _ => h.elim
section
variable {K : PySem.W.Frag} {S0 H0 S H S1 H1 : Hp} {ds : Env} {σ : L2.St}
/-- a new base -/
theorem EnvOk.here (E : EnvOk K S0 H0 ds σ S H) (n : NoOw ds) : EnvOk K S H ds σ S H := by
  obtain ⟨fp, h1, h2⟩ := E.own
  refine ⟨E.len, ⟨fun _ => [], fun i => ?_, fun i j p hi => by simp at hi⟩, .refl E.inn⟩
  have q := h1 i
  cases e : ds.get i with
  | none => exact rfl
  | st α c a =>
    rw [e] at q
    exact ⟨rfl, q.2⟩
  | ow α o a => exact (n.get i α o a e).elim
theorem EnvOk.under (g : Grow S0 H0 S1 H1) (E : EnvOk K S1 H1 ds σ S H) : EnvOk K S0 H0 ds σ S H := by
  obtain ⟨fp, h1, h2⟩ := E.own
  refine ⟨E.len, ⟨fp, fun i => ?_, h2⟩, g.trans E.grow⟩
  have q := h1 i
  cases e : ds.get i with
  | none => rw [e] at q; exact q
  | st α c a => rw [e] at q; exact q
  | ow α o a =>
    rw [e] at q
    exact ⟨q.1, fun p hp => g.ex.free (q.2 p hp)⟩
end
/-- the exception at this address -/
def cAt (a : Addr) : Cd Unit := ⟨fun _ _ v _ => v = .ref a, fun _ h => h⟩
def tryR {ω : Type} (m : R ω) (t : XTab) (f : Exn → R ω) : R ω := match m with
  | .ok a => .ok a
  | .exn x => (match t.lookup x.cls with
    | some true => R.nox (f x)
    | some false => .exn x
    | none => .stuck)
  | .stuck => .stuck
section
variable {X : Cx} {W : WK} {T : Bool} {ds : Env} {β ν κ ω σ' : Type} {body suite rest : List Stmt} {b₀ : Stmt} {pos pos' np : Pos} {cb : RCd β} {eN : ν → Env} {eK : κ → Env} {I : ω → Out β ν κ} {x n : Str} {c : Value}
/-- nothing leaves by break or continue -/
abbrev eE : Empty → Env := fun e => nomatch e
theorem tryAs [kw : KW W] {eJ : σ' → Env} {mb : R (Out β σ' Empty)} {t : XTab} {f : Exn → R (Out β σ' Empty)} {kJ : Out β σ' Empty → R ω} (i : Nat) (sn : X.N.Nodup) (hc : Names X x c) (ht : exmB X.K c t = true) (tk : Lets X W) (no : NoOw ds)
    (hb : ∀ (pn : List (Addr × Obj)) (xe : Value → Shared → Prop) (W' : WK), Lets (X.tr pn xe) W' → PassesOwn (model X.prog X.w) X.A X.env xe → DS (X.tr pn xe) W' false ds body cb eJ eE (fun o => o) mb)
    (hsu : ∀ (y : Exn) (a : Addr) (oe : Obj) (cls : Value) (d : Option Addr) (pn : List (Addr × Obj)) (S : Hp), L2N.Zn cls d oe → (∃ vs, oe.data = .fields vs) → repX X.K S cls d y → DS (X.suite a ((a, oe) :: pn)) (fun _ => E0) false (ds.put i (.st Unit (cAt a) ())) (b₀ :: suite) cb eJ eE (fun o => o) (f y))
    (hr : ∀ s, DS X W T (eJ s) rest cb eN eK I (kJ (.nxt s))) (ho : ∀ b, ∃ w, kJ (.ret b) = .ok w ∧ I w = .ret b) (hJ : ∀ s, EnvLe ((eJ s).put i .none) (eJ s))
    (hcb : ∀ H0 H K S v b, Same H0 H → (cb H).rep K S v b → (cb H0).rep K S v b := by intro _ _ _ _ _ _ _ h; exact h)
    (hs : X.stack = X.env :: X.outer := by rfl) (hf : X.env.frame = some X.env.locals := by rfl) (hi : X.N[i]? = some n := by rfl) (hln : X.env.kindOf n = some .local := by rfl) :
    DS X W T ds (.Try body [.ExceptHandler (some (.Name x np)) (some n) (b₀ :: suite) pos'] [] [] pos :: rest) cb eN eK I (tryR mb t f >>= kJ) := fun S0 H0 σ S H D nx h E P => by
  obtain ⟨W, rfl⟩ := kw.ex
  have E1 := E.here no
  refine seq (L2N.ps_try_as (Wout := fun cl d _ H => W cl d H) (tb := fun Wx D σ H => ∀ pn xe, L2N.Takes (X.tr pn xe) Wx → PassesOwn (model X.prog X.w) X.A X.env xe → tS (X.tr pn xe) body D σ H)
    (ts := fun a cls d D σ H => ∀ oe pn, L2N.Zn cls d oe → (∃ vs, oe.data = .fields vs) → tS (X.suite a ((a, oe) :: pn)) (b₀ :: suite) D σ H) hs hf sn hi hln hc tk
    (fun Wx pn xe tk' po => ⟨fun pins s σ H D I h => (pss_tS (X := X.tr pn xe)).run pins s σ H D I (h pn xe tk' po)⟩)
    (fun a oe cls d pn hz hv => ⟨fun pins s σ H D I h => (pss_tS (X := X.suite a ((a, oe) :: pn))).run pins s σ H D I (h oe pn hz hv)⟩)) ?_
  have back : ∀ (o : Out β σ' Empty), (kJ o).post (fun w => OutP X.K S0 H0 cb eN eK D (I w)) (EX X.K W S0 H0) →
      (∀ b, o = .ret b → ∀ v S' H', Grow S H S' H' → (cb H).rep X.K S' v b → D.rt v H') ∧ ∀ s, o = .nxt s → ∀ σ' S' H', EnvOk X.K S H (eJ s) σ' S' H' → tS X rest { D with nx := nx } σ' H' := fun o q => by
    refine ⟨fun b e v S' H' g r => ?_, fun s e σ' S' H' E' => ?_⟩
    · subst e
      obtain ⟨w, e1, e2⟩ := ho b
      rw [e1] at q
      have q1 : OutP X.K S0 H0 cb eN eK D (I w) := q
      rw [e2] at q1
      exact q1 v S' H' (E.grow.trans g) (hcb _ _ _ _ _ _ E.grow.ex r)
    · subst e
      exact hr s S0 H0 σ' S' H' D nx h (E'.under E.grow) q
  intro pn xe tk' po
  refine hb pn xe (fun σ cl d H => wAs X.K c i _ (fun cl d _ H => W cl d H) { D with nx := tS X rest { D with nx := nx } } cl d σ H) tk' po S H σ S H { D with nx := tS X rest { D with nx := nx } } _ (.inr rfl) E1 ?_
  cases mb with
  | stuck => exact False.elim P
  | ok o =>
    obtain ⟨b1, b2⟩ := back o P
    cases o with
    | ret b => exact b1 b rfl
    | nxt s => exact b2 s rfl
    | brk s => exact nomatch s
    | ctn s => exact nomatch s
  | exn y =>
    intro cl d S' H' g r
    have P1 : ((match t.lookup y.cls with
      | some true => R.nox (f y)
      | some false => .exn y
      | none => .stuck) >>= kJ).post (fun w => OutP X.K S0 H0 cb eN eK D (I w)) (EX X.K W S0 H0) := P
    have ecl : cl = .ref (He.ga X.K y.cls) := r.1
    cases hl : t.lookup y.cls with
    | none =>
      rw [hl] at P1
      exact False.elim P1
    | some z =>
      rw [hl] at P1
      have he := exmB_ok ht hl
      rw [← ecl] at he
      cases z with
      | false => exact ⟨false, he, (fun z => nomatch z), fun _ => P1 cl d S' H' (E.grow.trans g) r⟩
      | true =>
        refine ⟨true, he, fun _ a ha oe pn' hz hv => ?_, fun z => nomatch z⟩
        have P2 := nox_post (E' := EX X.K E0 S H) (R.post_bind.mp P1)
        refine hsu y a oe cl d pn' S' hz hv r S H _ S' H' { nx := fun σ' H' => tS X rest { D with nx := nx } (σ'.set i none) H', rt := D.rt, bk := fun σ' H' => D.bk (σ'.set i none) H', ct := fun σ' H' => D.ct (σ'.set i none) H' } _ (.inr rfl) ((E1.step g).putS (c := cAt a) (a := ()) rfl) (R.post_mono P2 (fun o q => ?_) (fun _ q => q))
        obtain ⟨b1, b2⟩ := back o q
        cases o with
        | ret b => exact b1 b rfl
        | nxt s => exact fun σ2 S2 H2 E2 => b2 s rfl _ S2 H2 (E2.putN.le (hJ s))
        | brk s => exact nomatch s
        | ctn s => exact nomatch s
end
/-! ### isinstance of what was caught -/
theorem call_isP {X : Cx} {a D : Addr} {oe : Obj} (C : ExcC X.K D) (hz : L2N.Zn (.ref D) none oe) (hf : ∃ vs, oe.data = .fields vs) (hp : (a, oe) ∈ X.pn) : CallR X (.builtin "isinstance") (rIsE X.K D a) := fun pins s σ H xs us Q I r h => by
  obtain ⟨c, cv, b, rfl, hcv, e, q⟩ := h
  obtain ⟨u1, us', rfl, r1, r2⟩ : ∃ u1 us', us = u1 :: us' ∧ RelV (.ref a) u1 ∧ Vals [c] us' := by
    cases r with
    | cons r1 r2 => exact ⟨_, _, rfl, r1, r2⟩
  obtain ⟨u2, rfl, r3⟩ := vals1 r2
  obtain rfl : u1 = .ref a := r1
  obtain rfl := hcv _ r3
  have hg := (I.pin (a, oe) (List.mem_append_left _ hp)).1
  obtain ⟨vs, hv⟩ := hf
  have J : PySem.W.InstAt s.heap a oe D none := by
    cases oe with
    | mk oc od oda osl =>
      obtain ⟨z1, z2, _⟩ := hz
      simp only at z1 z2 hv
      subst z1 z2 hv
      exact ⟨hg, rfl, rfl, trivial⟩
  exact PySem.W.kia_one (PySem.W.handS_kitx_exc C.hg C.hk C.hs C.hd C.ha C.hn C.ht C.hm) I.kIn J e (fun z => nomatch z) fun tk => ⟨.bl b, H, I.kept (t' := tk) fun _ _ z => z, rfl, q⟩
/-- is it of this class? -/
def isR (t : XTab) (y : Exn) : R Bool := match t.lookup y.cls with
  | some b => .ok b
  | none => .stuck
section
variable {X : Cx} {W : WK} {ds : Env} {n x : Str} {pos p p1 p2 : Pos} {cv : Value} {v : V}
theorem isE {a : Addr} {oe : Obj} {cls : Value} {S : Hp} {y : Exn} {t : XTab} (i : Nat) (hz : L2N.Zn cls none oe) (hf : ∃ vs, oe.data = .fields vs) (hy : repX X.K S cls none y) (hp : (a, oe) ∈ X.pn) (ht : kitB X.K cv t = true) (hm : X.mg "isinstance" = none)
    (pc : PE X (.Name x p2) (tC v)) (hv : ∀ u, RelV v u → u = cv) (hd : ds.get i = .st Unit (cAt a) () := by rfl) (hN : X.N[i]? = some n := by rfl) (hvis : Vis X.env.scope n := by first | exact Or.inl rfl | exact Or.inr (Or.inl rfl) | exact Or.inr (Or.inr rfl))
    (hdb : (n == ("__debug__" : Str)) = false := by decide) (hcd : (n == ("__classdict__" : Str)) = false := by decide) (hg : Gl X "isinstance" := by rfl) (hs : starEach (.Name n p1 :: [.Name x p2]) X.env = (false, eval (.Name n p1) X.env) :: starEach [.Name x p2] X.env := by rfl)
    (hs2 : starEach (.Name x p2 :: []) X.env = (false, eval (.Name x p2) X.env) :: starEach [] X.env := by rfl) (hpl : (backTo pos (starEach [.Name x p2] X.env)).any (·.1) = false := by rfl) :
    DE X W ds (.Call (.Name "isinstance" p) [.Name n p1, .Name x p2] [] pos) cB (isR t y) := by
  cases hl : t.lookup y.cls with
  | none =>
    refine ⟨fun σ H Q => False, ⟨fun _ _ _ _ _ _ h => h.elim⟩, fun S0 H0 σ S H Q E P => ?_⟩
    unfold isR at P
    rw [hl] at P
    exact P
  | some b =>
    obtain ⟨hC, hk⟩ := kitB_ok ht hl
    have ecl : cls = .ref (He.ga X.K y.cls) := hy.1
    subst ecl
    refine ⟨_, pe_callB (call_isP hC hz hf hp) hg hm boot_isinstance (pa_cons (pe_var hN hvis hdb hcd) (pa_cons pc pa_nil hs2) hs) (by decide) (by decide) hs hpl, fun S0 H0 σ S H Q E P => ?_⟩
    obtain ⟨v1, h1, h2⟩ := E.var hd
    obtain rfl : v1 = .ref a := h2
    unfold isR at P
    rw [hl] at P
    exact ⟨.ref a, h1, v, cv, b, rfl, hv, hk, P.ok E.inn rfl⟩
end
end Zk
set_option maxHeartbeats 4000000
/-! # Zk: defs called while an exception is handled; what was caught may be handed on -/
namespace Zk
open PySem PySem.Spec PyProof.Rows L2 L2H
/-- what a def promises where p's exception is handled -/
structure FnX (P : Program) (w : World) (K : PySem.W.Frag) (mg : Str → Option Value) (base : Heap) (k : Nat) (f : Addr) (fd : FuncData) (ps : List Str) (sp : Addr × Obj → Sp) : Prop where
  len : ∀ p vs H Q E, sp p vs H Q E → vs.length = ps.length
  run : ∀ (p : Addr × Obj) (A : Around) (outer : List PySem.Env) (s : Shared) (H : Hp) (args : Args) (us : List Value) (vs : List V) (Q : VK) (E : XK), RoomH k A → Hot1 A p → PinOk outer H s p → Env0 P w K mg base A outer s H → BindsTo s fd args (ps.zip us) → Vals vs us → sp p vs H Q E →
    codeAny (model P w) A (.call (.ref f) args) (CR (L2N.CX P w) outer P w H s Q E) s
/-- what is known of the handled exception -/
structure Held1 (K : PySem.W.Frag) (p : Addr × Obj) (y : Exn) : Prop where
  ex : ∃ cls, L2N.Zn cls none p.2 ∧ (∃ us, p.2.data = .fields us) ∧ cls = .ref (He.ga K y.cls) ∧ y.fs = []
/-- the handled exception, where X runs -/
structure HotX (X : Cx) (q : Addr × Obj) (y : Exn) : Prop where
  hot : Hot1 X.A q
  mem : q ∈ X.pn
  held : Held1 X.K q y
theorem HotX.c {X : Cx} {q : Addr × Obj} {y : Exn} (h : HotX X q y) : HotC X := ⟨q, h.hot, h.mem⟩
def spX {τ γ : Type} (K : PySem.W.Frag) (ca : Addr → CA τ) (c : Cd γ) (F : Exn → τ → R γ) : Addr × Obj → Sp := fun p vs H Q E => ∃ S z y, Same S H ∧ (ca p.1).rep K S vs z ∧ Held1 K p y ∧ PX c K S H (F y z) Q E
section
variable {P : Program} {w : World} {K : PySem.W.Frag} {mg : Str → Option Value} {base : Heap} {τ γ ν κ : Type}
theorem fx_mk {x qual : Str} {prs : Arguments} {body : List Stmt} {scope : Scope} {dvs : List V} {kws : List (Str × V)} {f : Addr} {fd : FuncData} {N ps : List Str} {k n : Nat} {ca : Addr → CA τ} {c : Cd γ} {F : Exn → τ → R γ} {eN : ν → Env} {eK : κ → Env}
    (D : FunD K x qual prs body scope dvs kws f fd) (S : FnScope N ps scope) (hn : ∀ a, (ca a).n = n) (hn2 : n = ps.length) (hl : n ≤ N.length)
    (hb : ∀ (cdv : Value) (A : Around) (outer : List PySem.Env) (s : Shared) (H : Hp) (E : XK) (p : Addr × Obj) (y : Exn), RoomH k (A.deeper (envOfC qual scope s.heap.objs.size f cdv)) → HotX (cxH (L2N.CX P w) P w K mg base N qual scope f cdv A outer s H E p) p y →
      Lets (cxH (L2N.CX P w) P w K mg base N qual scope f cdv A outer s H E p) (fun _ => E) → PassesOwn (model P w) (A.deeper (envOfC qual scope s.heap.objs.size f cdv)) (envOfC qual scope s.heap.objs.size f cdv) (cxH (L2N.CX P w) P w K mg base N qual scope f cdv A outer s H E p).xe →
      ∀ z, DS (cxH (L2N.CX P w) P w K mg base N qual scope f cdv A outer s H E p) (fun _ => E) true ((ca p.1).env z ++ List.replicate (N.length - n) .none) body (fun _ => c) eN eK (fun b => (.ret b : Out γ ν κ)) (F y z)) :
    FnX P w K mg base (k + 1) f fd ps (spX K ca c F) := by
  have len : ∀ p vs H Q E, spX K ca c F p vs H Q E → vs.length = ps.length := fun p vs H Q E h => by
    obtain ⟨S, z, y, _, r, _⟩ := h
    rw [(ca p.1).len r, hn, hn2]
  obtain ⟨oc, od, dV, kV, doc, pm, an, cdv, ct, osl, rfl, lk, hcd, _, _⟩ := D.ex
  refine ⟨len, fun p A outer s H args us vs Q E hr hot hpin e0 hbd r hsp => ?_⟩
  have kin : K.In s.heap := e0.mod.kin.keeps fun b o e => (e0.bs b o e).1
  have nol : s.heap.NoLimit := e0.mod.nolimit.keeps fun b o e => (e0.bs b o e).1
  refine codeAny_call_function hr.depth (kin _ _ lk) rfl S.co S.gen rfl (PySem.W.codeRec_of kin hcd) (hbd _ _ _ _ ?_)
  refine wpAny_newFunctionEnv_cells S.kind (fun y hy => ?_) fun env he s1 x1 => ?_
  · rcases S.par y.1 (List.of_mem_zip hy).1 with q | q
    · exact .inl q
    · exact .inr ⟨q, PySem.W.cellsFrom_some _ _ _ (.inl q)⟩
  subst he
  refine ⟨nol.keeps x1.toInCall.keep, codeAny_func ?_⟩
  have lv := len p vs H Q E hsp
  obtain ⟨S1, z, y, i, rz, hy, Px⟩ := hsp
  have J : L2.Inv (cxH (L2N.CX P w) P w K mg base N qual scope f cdv A outer s H E p) [] (L2.start N vs) H s1 := inv_startH S hpin e0 lv r x1
  have tk : L2N.Takes (cxH (L2N.CX P w) P w K mg base N qual scope f cdv A outer s H E p) (fun cl d _ H => E cl d H) := L2N.takes_of rfl rfl rfl rfl
  have en := EnvOk.start (N := N) (H := H) ((ca p.1).sl rz) (by rw [(ca p.1).len rz, hn]; exact hl) i
  rw [(ca p.1).len rz, hn] at en
  have q := hb cdv A outer s H E p y (hr.deeper _) ⟨hot, List.mem_cons_self, hy⟩ tk (passes_of rfl) z S1 H _ S1 H { nx := fun _ H' => Q .non H', rt := Q } (fun _ H' => Q .non H') (.inl rfl) en (R.post_mono Px (fun b q v S' H' g r => q v S' H' g r) (fun x q cl d S' H' g r => q cl d S' H' g r))
  refine wpAny_mono ((pss_tS (sts := body)).run [] s1 (L2.start N vs) H _ J q) (fun fl s' hs => ?_) fun e s' hs => hs
  cases fl with
  | ret u =>
    obtain ⟨v, σ', H', J', rv, q'⟩ := hs
    exact ⟨v, H', J'.os, J'.bare, J'.base, J'.hok, rv, q'⟩
  | next =>
    obtain ⟨σ', H', J', q'⟩ := hs
    exact ⟨V.non, H', J'.os, J'.bare, J'.base, J'.hok, rfl, q'⟩
  | brk =>
    obtain ⟨_, _, _, q'⟩ := hs
    exact False.elim q'
  | cont =>
    obtain ⟨_, _, _, q'⟩ := hs
    exact False.elim q'
structure FxI (P : Program) (w : World) (K : PySem.W.Frag) (mg : Str → Option Value) (base : Heap) (x : Str) (k : Nat) (ps : List Str) (ca : Addr → CA τ) (c : Cd γ) (F : Exn → τ → R γ) : Prop where
  ex : ∃ f fd, FnX P w K mg base k f fd ps (spX K ca c F) ∧ mg x = some (.ref f) ∧ PySem.W.keepIn K (.ref f) = true ∧ Binds K fd ps []
theorem fxi {x : Str} {f : Addr} {fd : FuncData} {ps : List Str} {k : Nat} {ca : Addr → CA τ} {c : Cd γ} {F : Exn → τ → R γ} (h : FnX P w K mg base k f fd ps (spX K ca c F)) (hm : mg x = some (.ref f)) (hk : PySem.W.keepIn K (.ref f) = true) (hb : Binds K fd ps []) : FxI P w K mg base x k ps ca c F := ⟨⟨f, fd, h, hm, hk, hb⟩⟩
end
section
variable {X : Cx} {W : WK} {ds : Env} {γ τ : Type} {e : Expr} {es : List Expr} {pos p : Pos} {c3 : Cd γ}
theorem callX {x : Str} {k : Nat} {ps : List Str} {ca : Addr → CA τ} {F : Exn → τ → R γ} {m : R τ} {n : R γ} {q : Addr × Obj} {y : Exn} (f : FxI X.prog X.w X.K X.mg X.base x k ps ca c3 F) (hr : RoomH k X.A) (hx : HotX X q y) (hp : Lets X W) (ha : DA X W ds (e :: es) (ca q.1) m) (hn : n = (m >>= F y) := by rfl) (hg : Gl X x := by rfl)
    (hdb : (x == ("__debug__" : Str)) = false := by decide) (he : starEach (e :: es) X.env = (false, eval e X.env) :: starEach es X.env := by rfl) (hpl : (backTo pos (starEach es X.env)).any (·.1) = false := by rfl) : DE X W ds (.Call (.Name x p) (e :: es) [] pos) c3 n := by
  obtain ⟨f, fd, F1, h1, h2, h3⟩ := f.ex
  obtain ⟨t, pa, q1⟩ := ha
  subst hn
  refine ⟨fun σ H Q => t σ H fun vs H1 => spX X.K ca c3 F q vs H1 Q (W σ), ⟨fun pins s σ H Q I h => ?_⟩, fun S0 H0 σ S H Q E P => q1 S0 H0 σ S H _ E (P.bindA fun z vs S1 H1 g1 r1 P1 => ⟨S1, z, y, g1.inn, r1, hx.held, P1⟩)⟩
  refine wpAny_Call_Name_kw (ld_glob I hg h1 (PySem.W.callWith_K (h₀ := X.base) I.ok.mod.kin h2 (thn (pa.run pos pins s σ H _ I h) fun us s1 hu => ?_) he hpl) hdb)
  obtain ⟨vs, H1, I1, rv, sp1⟩ := hu
  refine ⟨I1.kIn, ?_⟩
  have lv : us.length = ps.length := by rw [← rv.length]; exact F1.len _ _ _ _ _ sp1
  have b := h3 s1 us I1.kIn (by rw [List.append_nil]; exact lv)
  rw [List.append_nil] at b
  have P1 := I1.pin q (List.mem_append_left _ hx.mem)
  have pk : PinOk X.stack H1 s1 q := ⟨P1.1, P1.2.1, fun hm => (List.mem_cons.mp (I1.stkSub q.1 hm)).elim P1.2.2.1 P1.2.2.2.1, P1.2.2.2.2⟩
  refine wpAny_call (codeAny_mono (F1.run q X.A X.stack s1 H1 ⟨us, []⟩ us vs Q (W σ) hr hx.hot pk I1.env0 b rv sp1) fun r s2 hq => ?_)
  cases r with
  | error u => exact L2N.passAt hp σ pins H1 s1 u s2 I1 hq
  | ok fl =>
    cases fl with
    | ret u => exact I1.after hq
    | next => exact False.elim hq
    | brk => exact False.elim hq
    | cont => exact False.elim hq
theorem callXp {x : Str} {k : Nat} {ps : List Str} {ca : Addr → CA τ} {F : Exn → τ → R γ} {z : τ} {n : R γ} {q : Addr × Obj} {y : Exn} (f : FxI X.prog X.w X.K X.mg X.base x k ps ca c3 F) (hr : RoomH k X.A) (hx : HotX X q y) (hp : Lets X W) (ha : DA X W ds (e :: es) (ca q.1) (.ok z)) (hn : n = F y z := by exact rfl) (hg : Gl X x := by rfl)
    (hdb : (x == ("__debug__" : Str)) = false := by decide) (he : starEach (e :: es) X.env = (false, eval e X.env) :: starEach es X.env := by rfl) (hpl : (backTo pos (starEach es X.env)).any (·.1) = false := by rfl) : DE X W ds (.Call (.Name x p) (e :: es) [] pos) c3 n := by
  rw [hn]
  exact callX f hr hx hp ha rfl hg hdb he hpl
end
end Zk
set_option maxHeartbeats 4000000
/-! # Zk: comprehensions over a range where an exception is handled -/
namespace Zk
open PySem PySem.Spec PyProof.Rows L2 L2H
section
variable {X : Cx} {q0 : Addr × Obj} {elt tg iter : Expr} {scope : Scope} {pos : Pos} {wi : TI} {g : TG} {te : TE} {own : List (Str × Nat)} {ifs : List Expr} {tt : TT}
theorem fp_hot {Y : Cx} {σ : L2.St} {H : Hp} {s : Shared} {fp : List Addr} (I : L2.Inv Y [q0] σ H s) (ey : Y.ex = fp) (en : Y.pn = []) (nb : ∀ b ∈ fp, q0.1 ≠ b) (hn : ∀ b ∈ fp, H b = none) (b : Addr) (hb : b ∈ fp) : FpOk Y [q0] H b := by
  have hx : b ∈ Y.ex := by rw [ey]; exact hb
  refine ⟨hn b hb, (I.ok.exf b hx).1, I.ok.exfs b hx, .inl hx, (I.ok.exf b hx).2, fun r hr => ?_⟩
  rw [en] at hr
  rw [show r = q0 from by simpa using hr]
  exact nb b hb
theorem pe_lcH (hot : Hot1 X.A q0) (hm : q0 ∈ X.pn) (sn : X.N.Nodup) (hi : PIH X tg iter wi) (ok : BlkOk X.N X.env.scope scope own) (hg : ∀ b : Blk, PG (blkX X scope b) tg g) (ht : ∀ b : Blk, PTs (blkX X scope b) ifs tt) (he : ∀ b : Blk, PE (blkX X scope b) elt te)
    (hs : ∀ x, foldedSetIterable iter X.env x = pure x := by intro _; rfl) : PE X (.ListComp elt [⟨tg, iter, ifs, 0⟩] scope pos) (tLc wi g tt te (own.map (·.2))) := by
  refine ⟨fun pins s σ H Q I h => ?_⟩
  rw [eval_ListComp]
  have free : ∀ y ∈ scope.names, y.2 = .free → ∃ c, X.env.cells.lookup y.1 = some c := fun y hy e => (ok.free y hy e).elim (fun k => I.ok.has _ (.inl k)) fun k => I.ok.has _ (.inr k)
  refine wpAny_comprehension_free (use := none) rfl hs (closure_ok free) ok.kind (fun y hy e => by rw [ok.uniq y hy, e]) (thn (hi.run pins s σ H _ I h) fun v s1 h1 => thn h1 fun itv s2 h2 => ?_)
  obtain ⟨it, fp, tn, J, H2, rfl, I2, Tn, st2, f2, q⟩ := h2
  refine wpAny_newObj_type (newEnv_comp ?_) (Nat.zero_le _)
  have nb : ∀ b ∈ fp, q0.1 ≠ b := fun b hb => (f2 b hb).2.2.2.2.2 q0 (List.mem_append_left _ hm)
  generalize eD : s2.heap.objs.size = D
  obtain ⟨M, ⟨m0, w0⟩, turn⟩ := q D (I2.hok.fresh (Nat.le_of_eq eD))
  generalize es3 : ({ s2 with heap := s2.heap.push { cls := .type "list", data := .seq ([] : List Value).toArray } } : Shared) = s3
  have hp3 : s3.heap = s2.heap.push { cls := .type "list", data := .seq ([] : List Value).toArray } := by rw [← es3]
  have J3 : L2.Inv X pins σ (upd H2 D (.lst [])) s3 := by
    subst es3 eD
    exact I2.laid (t' := s2.toks) (fun b o e => Heap.get?_push_of_some _ e) (Nat.le_refl _) ⟨Nat.zero_le _, [], 0, .nil, Heap.get?_push_size _ rfl⟩
  have lt2 : ∀ b ∈ fp, b < s2.heap.objs.size := fun b hb => by
    obtain ⟨o, e, _⟩ := Tn.obj _ _ st2 b hb
    exact Heap.lt_size e
  have F3 : ∀ b ∈ fp, FpOk X pins (upd H2 D (.lst [])) b ∧ b < s3.heap.objs.size := fun b hb => by
    refine ⟨⟨(upd_ne fun z => ?_).trans (f2 b hb).1, (f2 b hb).2⟩, ?_⟩
    · have l := lt2 b hb
      rw [z, eD] at l
      exact Nat.lt_irrefl _ l
    · rw [hp3, Heap.size_push]
      exact Nat.lt_succ_of_lt (lt2 b hb)
  have T3 : tn 0 s3.heap := Tn.keep _ _ _ st2 fun b _ o e => by
    rw [hp3]
    exact Heap.get?_push_of_some _ e
  generalize eH3 : upd H2 D (.lst []) = H3 at J3 F3 w0
  have B4 := block_start J3 ok sn F3
  have pg := hg (s3, H3, s3.heap.objs.size, cellsFrom (s3.heap.objs.size + 1) scope.names (cloFrom X.env.cells scope.names []), fp)
  have pe := he (s3, H3, s3.heap.objs.size, cellsFrom (s3.heap.objs.size + 1) scope.names (cloFrom X.env.cells scope.names []), fp)
  show codeAny _ _ (.compStart (.ListComp elt [⟨tg, iter, ifs, 0⟩] scope pos) 0 (.ref it) (.ref D) (compEnvC scope (cellsFrom (s3.heap.objs.size + 1) scope.names (cloFrom X.env.cells scope.names [])) s3.heap.objs.size X.env)) (compPost (model X.prog X.w) X.A X.xe none _ (.ref D) s3.heap.objs.size) { s3 with heap := pushCells (s3.heap.push { cls := .type "dict", data := .dict #[] }) scope.names }
  have pt := ht (s3, H3, s3.heap.objs.size, cellsFrom (s3.heap.objs.size + 1) scope.names (cloFrom X.env.cells scope.names []), fp)
  have pt : PTs (X.blk s3 H3 scope (compEnvC scope (cellsFrom (s3.heap.objs.size + 1) scope.names (cloFrom X.env.cells scope.names [])) s3.heap.objs.size X.env) fp) ifs tt := pt
  have pg : PG (X.blk s3 H3 scope (compEnvC scope (cellsFrom (s3.heap.objs.size + 1) scope.names (cloFrom X.env.cells scope.names [])) s3.heap.objs.size X.env) fp) tg g := pg
  have pe : PE (X.blk s3 H3 scope (compEnvC scope (cellsFrom (s3.heap.objs.size + 1) scope.names (cloFrom X.env.cells scope.names [])) s3.heap.objs.size X.env) fp) elt te := pe
  generalize ece : compEnvC scope (cellsFrom (s3.heap.objs.size + 1) scope.names (cloFrom X.env.cells scope.names [])) s3.heap.objs.size X.env = ce at B4 pg pt pe ⊢
  have lc : ce.locals = s3.heap.objs.size := by rw [← ece]; rfl
  have keep4 : ∀ b o, s3.heap.get? b = some o → (pushCells (s3.heap.push { cls := .type "dict", data := .dict #[] }) scope.names).get? b = some o := fun b o e => pushCells_keeps _ _ _ _ (Heap.get?_push_of_some _ e)
  have pq := J3.pin q0 (List.mem_append_left _ hm)
  have C4 := B4.pins_of (pins' := [q0]) fun r hr => by
    rw [show r = q0 from by simpa using hr]
    refine ⟨keep4 _ _ pq.1, pq.2.1, fun z => ?_, fun hz => (List.mem_cons.mp (J3.stkSub q0.1 hz)).elim pq.2.2.1 pq.2.2.2.1, pq.2.2.2.2⟩
    have l := Heap.lt_size pq.1
    rw [show q0.1 = s3.heap.objs.size from z.trans lc] at l
    exact Nat.lt_irrefl _ l
  generalize es4 : ({ s3 with heap := pushCells (s3.heap.push { cls := .type "dict", data := .dict #[] }) scope.names } : Shared) = s4 at C4 ⊢
  have T4 : tn 0 s4.heap := Tn.keep _ _ _ T3 fun b _ o e => by
    rw [← es4]
    exact keep4 _ _ e
  have hotB : HotC ((X.blk s3 H3 scope ce fp).tr ((X.blk s3 H3 scope ce fp).pn ++ [q0]) fun _ _ => False) := ⟨q0, hot, List.mem_append_right _ (List.mem_singleton.mpr rfl)⟩
  have fpB : ∀ {σ' : L2.St} {H' : Hp} {s' : Shared}, L2.Inv (X.blk s3 H3 scope ce fp) [q0] σ' H' s' → (∀ b ∈ fp, H' b = none) → ∀ b ∈ fp, FpOk (X.blk s3 H3 scope ce fp) [q0] H' b := fun I' hn b hb => fp_hot I' rfl rfl nb hn b hb
  have fpT : ∀ {σ' : L2.St} {H' : Hp} {s' : Shared}, L2.Inv (X.blk s3 H3 scope ce fp) [q0] σ' H' s' → (∀ b ∈ fp, H' b = none) → ∀ b ∈ fp, FpOk ((X.blk s3 H3 scope ce fp).tr ((X.blk s3 H3 scope ce fp).pn ++ [q0]) fun _ _ => False) [] H' b := fun I' hn b hb => by
    obtain ⟨k1, k2, k3, k4, k5, k6⟩ := fpB I' hn b hb
    exact ⟨k1, k2, k3, k4, k5, fun r hr => k6 r (by simpa using hr)⟩
  have loop : codeAny (model X.prog X.w) X.A (.compLoop (.ListComp elt [⟨tg, iter, ifs, 0⟩] scope pos) 0 (.ref it) (.ref D) ce) (compPost (model X.prog X.w) X.A X.xe none (EP X pins σ Q) (.ref D) s3.heap.objs.size) s4 := by
    refine compLoop_any (fun n s' => ∃ i H', L2.Inv (X.blk s3 H3 scope ce fp) [q0] (wipe σ (own.map (·.2))) H' s' ∧ tn i s'.heap ∧ (∀ b ∈ fp, H' b = none) ∧ M i n H') ?_ m0 ⟨0, H3, C4, T4, fun b hb => (F3 b hb).1.1, w0⟩
    rintro n s5 ⟨i, H5, I5, st5, n5, w5⟩
    rcases turn i n H5 w5 with ⟨stop, qq⟩ | ⟨go, Nx, hNx, step⟩
    · refine thnF (Tn.done ((X.blk s3 H3 scope ce fp).tr ((X.blk s3 H3 scope ce fp).pn ++ [q0]) fun _ _ => False) rfl rfl rfl hotB i [] s5 _ H5 (fun _ _ => False) (I5.toTry _) (fpT I5 n5) st5 stop) fun r s6 hr6 => ?_
      obtain ⟨rfl, I6⟩ := hr6
      have I6 := I6.ofTry I5.ok
      have I7 : L2.Inv X pins σ H5 s6 := J3.call' (ch := fp) I6.os I6.base I6.hok I6.bare fun b hb => ⟨(F3 b hb).1.2.2.2.1, (F3 b hb).1.2.1, (F3 b hb).1.2.2.2.2.1, (F3 b hb).1.2.2.2.2.2⟩
      have nC : H5 s3.heap.objs.size = none := by
        have z : H5 ce.locals = none := I6.free
        rw [lc] at z
        exact z
      obtain ⟨m, hn, _⟩ := I6.loc
      have hn : s6.heap.Ns ce.locals m := hn
      rw [lc] at hn
      obtain ⟨f0, f1, f3, f4, f5, f6⟩ := J3.fpOk (Nat.le_refl _) nC
      exact ⟨m, hn, fun h' sb => ⟨.ref D, H5, I7.turned (t' := s6.toks) (fun b o hb e => (sb.2 b hb).trans e) f0 f1 f4 f5 f6, rfl, qq⟩⟩
    · refine thnF (Tn.item ((X.blk s3 H3 scope ce fp).tr ((X.blk s3 H3 scope ce fp).pn ++ [q0]) fun _ _ => False) rfl rfl rfl hotB i [] s5 _ H5 (fun _ _ => False) (I5.toTry _) (fpT I5 n5) st5 go) fun r s6 hr6 => ?_
      obtain ⟨u, rfl, h6⟩ := hr6
      refine thnF h6 fun _ s7 h7 => ?_
      obtain ⟨x, H7, I7, r7, y7, st7, n7⟩ := h7
      have I7 := I7.ofTry I5.ok
      have P7 := I7.pinned (fpB I7 n7) (Tn.obj _ _ st7)
      refine thnF (pg.run _ s7 _ H7 x u _ P7 r7 (step x H7 y7)) fun _ s8 h8 => ?_
      obtain ⟨σ8, H8, I8, hw8, q8⟩ := h8
      have fin : ∀ {s' : Shared} {H' : Hp}, L2.Inv (X.blk s3 H3 scope ce fp) ([q0] ++ pinsAt fp s7.heap) σ8 H' s' → Nx H' → ∃ m, m < n ∧ ∃ i H', L2.Inv (X.blk s3 H3 scope ce fp) [q0] (wipe σ (own.map (·.2))) H' s' ∧ tn i s'.heap ∧ (∀ b ∈ fp, H' b = none) ∧ M i m H' := fun {s' H'} I11 nx => by
        obtain ⟨m', hlt, w'⟩ := hNx _ nx
        have pin' : ∀ b ∈ fp, ∀ o, s7.heap.get? b = some o → s'.heap.get? b = some o ∧ H' b = none := fun b hb o e =>
          have z := I11.pin (b, o) (List.mem_append_right _ (List.mem_append_right _ (mem_pinsAt hb e)))
          ⟨z.1, z.2.1⟩
        have hl : (wipe σ (own.map (·.2))).length = σ8.length := by rw [← hw8, wipe_length]
        refine ⟨m', hlt, i + 1, _, (I11.unpinned (pins := [q0])).weak hl (fun j v e => ?_), Tn.keep _ _ _ st7 fun b hb o e => (pin' b hb o e).1, fun b hb => ?_, w'⟩
        · rw [← hw8] at e
          exact (wipe_some e).1
        · obtain ⟨o, e, _⟩ := Tn.obj _ _ st7 b hb
          exact (pin' b hb o e).2
      refine thnF (pt.run _ s8 σ8 H8 _ I8 q8) fun b s9 h9 => ?_
      obtain ⟨H9, I9, q9⟩ := h9
      cases b with
      | false =>
        simp only [Bool.false_eq_true, if_false] at q9 ⊢
        exact fin I9 q9
      | true =>
        simp only [if_true] at q9 ⊢
        refine thnF (pe.run _ s9 σ8 H9 _ I9 q9) fun z s10 h10 => ?_
        obtain ⟨yv, H10, I10, r10, acc, hD10, hz10, nx⟩ := h10
        exact app_ok (X := X.blk s3 H3 scope ce fp) I10 hD10 hz10 r10 fun s11 I11 => fin I11 nx
  exact codeAny_compStart_list loop (Tn.self X.A 0 _ _ _ T4 loop)
end
section
variable {X : Cx} {W : WK} {ds : Env} {β : Type} {a elt tg : Expr} {scope : Scope} {c2 : Cd β} {mi : R Int} {pos p p2 : Pos}
/-- [elt for tg in range(a)] there -/
theorem lcH {q : Addr × Obj} {y : Exn} {f : Int → R β} (own : List (Str × Nat)) (ok : BlkOk X.N X.env.scope scope own) (sn : X.N.Nodup) (hx : HotX X q y) (hm : X.mg "range" = none) (ha : DE X W ds a cI mi) {eB : Int → Env} (hg : DGB X scope tg (own.map (·.2)) cI (wipeD ds (own.map (·.2))) eB)
    (he : ∀ (b : Blk) z, DE (blkX X scope b) (fun _ => E0) (eB z) elt c2 (f z)) (hr : Gl X "range" := by rfl) (hs : starEach [a] X.env = [(false, eval a X.env)] := by rfl) (hs2 : ∀ x, foldedSetIterable (.Call (.Name "range" p) [a] [] p2) X.env x = pure x := by intro _; rfl) :
    DL X W ds (.ListComp elt [⟨tg, .Call (.Name "range" p) [a] [] p2, [], 0⟩] scope pos) c2 ((mi >>= fun n => rngM 0 n) >>= fun as => mapM f as) := by
  obtain ⟨t, pa, q⟩ := ha
  have hi : DIG (PIH X tg (.Call (.Name "range" p) [a] [] p2)) X W ds cI (mi >>= fun n => rngM 0 n) := by
    refine ⟨_, pi_range1H hr hm (pa_cons pa pa_nil hs) hs, fun S0 H0 σ S H Q E P => q S0 H0 σ S H _ E (R.post_mono (R.post_bind.mp P) (fun n k v S' H' g r => ?_) (fun _ k => k))⟩
    obtain ⟨k1, k2⟩ := R.guard_post k
    obtain rfl : v = V.int n := r
    refine ⟨n, rfl, k1.2.2.1, k1.2.2.2, ?_⟩
    rw [show n - 0 = n from by omega] at k2
    exact k2 _ S' H' g itr_ok
  have h := lc_core_ (Pi := PIH X tg (.Call (.Name "range" p) [a] [] p2)) (ifs := []) (p := fun _ => .ok true) (f := f) own ok hi hg (tt := tYes) (fun _ => pts_nil) (fun a S0 H0 σ S H Q E P => P.ok E.inn) he
  rw [show (fun as => compM (fun _ => .ok true) f as) = fun as => mapM f as from funext fun as => compM_map f as] at h
  obtain ⟨wi, g, tt, te, own', pi, ok', pg, ht, pe, q'⟩ := h
  exact ⟨_, pe_lcH hx.hot hx.mem sn pi ok' pg ht pe hs2, q'⟩
end
end Zk
set_option maxHeartbeats 4000000
/-! # Zk: what the generator asks besides -/
namespace Zk
open PySem PySem.Spec PyProof.Rows L2 L2H
@[reducible] def Out.cs {β σ' ω : Type} (f : σ' → R ω) (g : β → R ω) : Out β σ' Empty → R ω
  | .nxt s => f s
  | .ret b => g b
  | .brk e => nomatch e
  | .ctn e => nomatch e
theorem lets0 {X : Cx} : Lets X (fun _ => E0) := fun _ _ h => by
  obtain ⟨_, _, _, _, _, _, _, _, _, _, _, _, _, _, _, _, z⟩ := h
  exact z.elim
theorem _root_.L2H.RoomH.units {k : Nat} {A : Around} (r : RoomH k A) : A.units + 64 < cLine := by have := r.un; omega
theorem roomS {X : Cx} {k j : Nat} {a : Addr} {pn : List (Addr × Obj)} (r : Room k X.A) (h : j ≤ k) : RoomH j (X.suite a pn).A := ⟨by have := r.dp; show X.A.depth + 3 * j + 5 < _; omega, by have := r.un; show X.A.units + 16 * j + 200 < _; omega⟩
theorem unitsS {X : Cx} {k : Nat} {a : Addr} {pn : List (Addr × Obj)} (r : Room k X.A) : (X.suite a pn).A.units + 64 < cLine := by have := r.un; show X.A.units + 64 < _; omega
/-- the suite's exception -/
theorem hot_suite {X : Cx} {a : Addr} {oe : Obj} {cls : Value} {d : Option Addr} {pn : List (Addr × Obj)} {S : Hp} {y : Exn} (hz : L2N.Zn cls d oe) (hv : ∃ vs, oe.data = .fields vs) (hy : repX X.K S cls d y) : HotX (X.suite a ((a, oe) :: pn)) (a, oe) y := by
  have hf : y.fs = [] ∧ d = none := by
    obtain ⟨_, h2⟩ := hy
    unfold repFs at h2
    split at h2
    · rename_i e; exact ⟨e, h2⟩
    · exact h2.elim
  obtain ⟨vs, hv⟩ := hv
  obtain ⟨h1, rfl⟩ := hf
  exact ⟨⟨rfl, vs, hv, hz.2.2 vs hv⟩, List.mem_cons_self, ⟨⟨cls, hz, ⟨vs, hv⟩, hy.1, h1⟩⟩⟩
section
variable {X : Cx} {W : WK} {ds : Env} {n x : Str} {pos p p1 p2 : Pos} {cv : Value} {v : V} {q : Addr × Obj} {y : Exn} {t : XTab}
theorem isX (i : Nat) (hx : HotX X q y) (ht : kitB X.K cv t = true) (hm : X.mg "isinstance" = none)
    (pc : PE X (.Name x p2) (tC v)) (hv : ∀ u, RelV v u → u = cv) (hd : ds.get i = .st Unit (cAt q.1) () := by rfl) (hN : X.N[i]? = some n := by rfl) (hvis : Vis X.env.scope n := by first | exact Or.inl rfl | exact Or.inr (Or.inl rfl) | exact Or.inr (Or.inr rfl))
    (hdb : (n == ("__debug__" : Str)) = false := by decide) (hcd : (n == ("__classdict__" : Str)) = false := by decide) (hg : Gl X "isinstance" := by rfl) (hs : starEach (.Name n p1 :: [.Name x p2]) X.env = (false, eval (.Name n p1) X.env) :: starEach [.Name x p2] X.env := by rfl)
    (hs2 : starEach (.Name x p2 :: []) X.env = (false, eval (.Name x p2) X.env) :: starEach [] X.env := by rfl) (hpl : (backTo pos (starEach [.Name x p2] X.env)).any (·.1) = false := by rfl) :
    DE X W ds (.Call (.Name "isinstance" p) [.Name n p1, .Name x p2] [] pos) cB (isR t y) := by
  obtain ⟨cls, hz, hf, ec, ef⟩ := hx.held.ex
  exact isE (S := fun _ => none) i hz hf ⟨ec, by unfold repFs; rw [ef]⟩ hx.mem ht hm pc hv hd hN hvis hdb hcd hg hs hs2 hpl
/-- isinstance(e, C), C an own class -/
theorem isOwn (i : Nat) (hx : HotX X q y) (gC : X.mg x = some (.ref (He.ga X.K x))) (ht : kitB X.K (.ref (He.ga X.K x)) t = true) (hm : X.mg "isinstance" = none)
    (hd : ds.get i = .st Unit (cAt q.1) () := by rfl) (hN : X.N[i]? = some n := by rfl) (hvis : Vis X.env.scope n := by first | exact Or.inl rfl | exact Or.inr (Or.inl rfl) | exact Or.inr (Or.inr rfl))
    (hdb : (n == ("__debug__" : Str)) = false := by decide) (hcd : (n == ("__classdict__" : Str)) = false := by decide) (hg : Gl X "isinstance" := by rfl) (hgx : Gl X x := by rfl) (hdx : (x == ("__debug__" : Str)) = false := by decide) (hs : starEach (.Name n p1 :: [.Name x p2]) X.env = (false, eval (.Name n p1) X.env) :: starEach [.Name x p2] X.env := by rfl)
    (hs2 : starEach (.Name x p2 :: []) X.env = (false, eval (.Name x p2) X.env) :: starEach [] X.env := by rfl) (hpl : (backTo pos (starEach [.Name x p2] X.env)).any (·.1) = false := by rfl) :
    DE X W ds (.Call (.Name "isinstance" p) [.Name n p1, .Name x p2] [] pos) cB (isR t y) :=
  isX (v := .ref (He.ga X.K x)) i hx ht hm (pe_glob hgx gC rfl hdx) (fun _ h => h) hd hN hvis hdb hcd hg hs hs2 hpl
/-- .. C a built-in one -/
theorem isBlt {tn : String} (i : Nat) (hx : HotX X q y) (hb : bootBuiltins x = some (.type tn)) (hf : X.mg x = none) (ht : kitB X.K (.type tn) t = true) (hm : X.mg "isinstance" = none)
    (hd : ds.get i = .st Unit (cAt q.1) () := by rfl) (hN : X.N[i]? = some n := by rfl) (hvis : Vis X.env.scope n := by first | exact Or.inl rfl | exact Or.inr (Or.inl rfl) | exact Or.inr (Or.inr rfl))
    (hdb : (n == ("__debug__" : Str)) = false := by decide) (hcd : (n == ("__classdict__" : Str)) = false := by decide) (hg : Gl X "isinstance" := by rfl) (hgx : Gl X x := by rfl) (hnx : x ≠ "__name__" := by decide) (hdx : (x == ("__debug__" : Str)) = false := by decide) (hs : starEach (.Name n p1 :: [.Name x p2]) X.env = (false, eval (.Name n p1) X.env) :: starEach [.Name x p2] X.env := by rfl)
    (hs2 : starEach (.Name x p2 :: []) X.env = (false, eval (.Name x p2) X.env) :: starEach [] X.env := by rfl) (hpl : (backTo pos (starEach [.Name x p2] X.env)).any (·.1) = false := by rfl) :
    DE X W ds (.Call (.Name "isinstance" p) [.Name n p1, .Name x p2] [] pos) cB (isR t y) :=
  isX (v := .ty tn) i hx ht hm (pe_bltn hgx hf hb rfl hnx hdx) (fun _ h => h) hd hN hvis hdb hcd hg hs hs2 hpl
end
/-! ### the slot read otherwise -/
section
variable {X : Cx} {W : WK} {T : Bool} {ds : Env} {α β γ ν κ ω : Type} {sts rest : List Stmt} {c : Cd α} {c2 : Cd γ} {cb : RCd β} {eN : ν → Env} {eK : κ → Env} {I : ω → Out β ν κ} {n : R ω} {e : Expr} {pos : Pos}
theorem recode (i : Nat) {f : α → γ} {z : α} (h : Coe c c2 f) (hd : ds.get i = .st α c z := by rfl) (hr : DS X W T (ds.put i (.st γ c2 (f z))) sts cb eN eK I n) : DS X W T ds sts cb eN eK I n := fun S0 H0 σ S H D nx k E P => by
  refine hr S0 H0 σ S H D nx k ?_ P
  obtain ⟨v, h1, h2⟩ := E.var hd
  have eσ : σ.set i (some v) = σ := by
    apply List.ext_getElem?
    intro j
    by_cases z : j = i
    · subst z
      rw [get_set_self (List.getElem?_eq_some_iff.mp h1).1, h1]
    · rw [List.getElem?_set_ne (Ne.symm z)]
  have q := E.putS (i := i) (h _ _ _ _ h2)
  rw [eσ] at q
  exact q
theorem drop_p {z : α} (he : DE X W ds e c (.ok z)) (hr : DS X W T ds rest cb eN eK I n) (hs : swapsWith e none pos.line X.env = pure false := by rfl) : DS X W T ds (.Expr e pos :: rest) cb eN eK I n := drop (k := fun _ => n) he (fun _ => hr) hs
end
/-! ### a comprehension's block, by decide -/
def blkB (N : List Str) (sc scope : Scope) (own : List (Str × Nat)) : Bool :=
  (scope.kind == .function) && (scope.names.all (fun y => scope.names.lookup y.1 == some y.2) && (own.all (fun p => decide (N[p.2]? = some p.1)) &&
    (scope.names.all (fun y => !(y.2 == .free) || (sc.names.lookup y.1 == some .cell || sc.names.lookup y.1 == some .free)) && scope.names.all (fun y => !(y.2 == .local || y.2 == .cell) || (decide (y.1 ∈ own.map (·.1)) || decide (y.1 ∉ N))))))
theorem blk_ok {N : List Str} {sc scope : Scope} {own : List (Str × Nat)} (h : blkB N sc scope own = true) : BlkOk N sc scope own := by
  obtain ⟨h1, h⟩ := He.ba h
  obtain ⟨h2, h⟩ := He.ba h
  obtain ⟨h3, h⟩ := He.ba h
  obtain ⟨h4, h5⟩ := He.ba h
  refine ⟨by simpa using h1, fun y hy => by simpa using List.all_eq_true.mp h2 y hy, fun p hp => of_decide_eq_true (List.all_eq_true.mp h3 p hp), fun y hy e => ?_, fun y hy e => ?_⟩
  · have q := List.all_eq_true.mp h4 y hy
    rw [e] at q
    simpa using q
  · have q := List.all_eq_true.mp h5 y hy
    rcases e with e | e <;> rw [e] at q <;> simpa using q
/-! ### the head's look -/
def exZ (hv : List (Str × Value)) (xs : List Str) (xm xk : List (Str × XTab)) (xb : List (String × XTab)) (K : PySem.W.Frag) : Bool :=
  heldB hv K && (xs.all (excB K) && (xm.all (fun q => exmB K (.ref (He.ga K q.1)) q.2) && (xk.all (fun q => kitB K (.ref (He.ga K q.1)) q.2) && xb.all (fun q => kitB K (.type q.1) q.2))))
section
variable {fa : List He.Fa} {fn : List He.DefD} {hv : List (Str × Value)} {xs : List Str} {xm xk : List (Str × XTab)} {xb : List (String × XTab)} {K : PySem.W.Frag} {mg : Str → Option Value} {base : Heap}
theorem Glb.heldZ (T : Glb fa fn (exZ hv xs xm xk xb) K mg base) (i : Nat) {x : Str} {v : Value} (h : hv[i]? = some (x, v) := by rfl) : mg x = some v :=
  PySem.W.mg_of T.X T.G (He.eqO_ok (List.all_eq_true.mp (He.ba T.e).1 (x, v) (List.mem_of_getElem? h)))
theorem Glb.xcls (T : Glb fa fn (exZ hv xs xm xk xb) K mg base) (i : Nat) {x : Str} (h : xs[i]? = some x := by rfl) : XCls K x :=
  excB_ok (List.all_eq_true.mp (He.ba (He.ba T.e).2).1 x (List.mem_of_getElem? h))
theorem Glb.tm (T : Glb fa fn (exZ hv xs xm xk xb) K mg base) (i : Nat) {x : Str} {t : XTab} (h : xm[i]? = some (x, t) := by rfl) : exmB K (.ref (He.ga K x)) t = true :=
  List.all_eq_true.mp (He.ba (He.ba (He.ba T.e).2).2).1 (x, t) (List.mem_of_getElem? h)
theorem Glb.tk (T : Glb fa fn (exZ hv xs xm xk xb) K mg base) (i : Nat) {x : Str} {t : XTab} (h : xk[i]? = some (x, t) := by rfl) : kitB K (.ref (He.ga K x)) t = true :=
  List.all_eq_true.mp (He.ba (He.ba (He.ba (He.ba T.e).2).2).2).1 (x, t) (List.mem_of_getElem? h)
theorem Glb.tb (T : Glb fa fn (exZ hv xs xm xk xb) K mg base) (i : Nat) {x : String} {t : XTab} (h : xb[i]? = some (x, t) := by rfl) : kitB K (.type x) t = true :=
  List.all_eq_true.mp (He.ba (He.ba (He.ba (He.ba T.e).2).2).2).2 (x, t) (List.mem_of_getElem? h)
end
end Zk
set_option maxHeartbeats 40000000
set_option synthInstance.maxHeartbeats 400000
set_option synthInstance.maxSize 2000
/-! # the mirrors -/
namespace Lw
open PySem Zk
def m_law_cell_b1  (s1 : Int) (cell : Int) : R Int :=
  ((((mulM s1 (31 : Int)) >>= fun x2 => (modM cell (1000003 : Int)) >>= fun y3 => R.ok ((x2 + y3))) >>= fun z => R.ok z) >>= fun x4 => (modM x4 (1000003 : Int))) >>= fun (seed : Int) =>
  R.ok seed

@[irreducible] def m_law_cell (script : (List Int)) (k : Int) : R Int :=
  (if (decide (k < ((script.length : Nat) : Int))) = true then
    (getM script k)
  else
    R.ok (17 : Int) >>= fun (seed : Int) =>
    R.ok script >>= fun as => foldR m_law_cell_b1 as seed >>= fun (s5 : Int) =>
    ((((mulM (s5 + (7 : Int)) (k + (3 : Int))) >>= fun x6 => (mulM x6 (69621 : Int))) >>= fun z => R.ok z) >>= fun x7 => (modM x7 (2147483647 : Int))))

def m_law_digits_b1  (s3 : ((List Int) × Int)) (size : Int) : R ((List Int) × Int) :=
  (modM s3.2 size) >>= fun z4 => appM s3.1 z4 >>= fun (row : List Int) =>
  (fdivM s3.2 size) >>= fun (rest : Int) =>
  R.ok (row, rest)

def m_law_digits_b2 (sizes : (List Int)) (s6 : (Int × (List Int))) (k : Int) : R (Int × (List Int)) :=
  (((((mulM s6.1 (48271 : Int)) >>= fun x7 => (mulM (974711 : Int) k) >>= fun y8 => R.ok ((x7 + y8))) >>= fun x9 => R.ok ((x9 + (12345 : Int)))) >>= fun z => R.ok z) >>= fun x10 => (modM x10 (2147483647 : Int))) >>= fun (seed : Int) =>
  (((((fdivM seed (65537 : Int)) >>= fun x11 => R.ok ((x11 + (3 : Int)))) >>= fun y12 => (mulM seed y12)) >>= fun z => R.ok z) >>= fun x13 => (modM x13 (2147483629 : Int))) >>= fun (twice : Int) =>
  ((fdivM twice (19 : Int)) >>= fun x14 => (getM sizes k) >>= fun y15 => (modM x14 y15)) >>= fun z16 => appM s6.2 z16 >>= fun (row : List Int) =>
  R.ok (seed, row)

@[irreducible] def m_law_digits (cell : Int) (sizes : (List Int)) : R (List Int) :=
  R.ok ([] : List Int) >>= fun (row : List Int) =>
  R.ok cell >>= fun (rest : Int) =>
  (((powM (10 : Int) (18 : Int)) >>= fun y1 => R.ok ((decide (y1 ≤ rest)))) >>= fun z18 => if z18 = true then
    ((powM (10 : Int) (18 : Int)) >>= fun y2 => R.ok ((rest - y2))) >>= fun (rest : Int) =>
    R.ok sizes >>= fun as => foldR m_law_digits_b1 as (row, rest) >>= fun (s5 : ((List Int) × Int)) =>
    R.ok s5.1
  else
    (modM rest (2147483629 : Int)) >>= fun (seed : Int) =>
    rngM 0 (((sizes.length : Nat) : Int)) >>= fun as => foldR (m_law_digits_b2 sizes) as (seed, row) >>= fun (s17 : (Int × (List Int))) =>
    R.ok s17.2)

def m_law_draw_line_b1 (row : (List Int)) (s3 : (List Int)) (k : Int) : R (List Int) :=
  ((getM row ((3 : Int) + k)) >>= fun x4 => R.ok ((x4 - (1000000 : Int)))) >>= fun (number : Int) =>
  ((getM row (1 : Int)) >>= fun x5 => R.ok ((decide (x5 = (0 : Int))))) >>= fun z22 => ((if z22 = true then ((((getM row ((3 : Int) + k)) >>= fun z => R.ok z) >>= fun x6 => (modM x6 (7 : Int))) >>= fun x7 => R.ok ((x7 - (3 : Int)))) >>= fun (number : Int) =>
    R.ok number else R.ok number) : R Int) >>= fun (j8 : Int) =>
  ((getM row (1 : Int)) >>= fun x9 => R.ok ((decide (x9 = (2 : Int))))) >>= fun z21 => ((if z21 = true then ((mulM j8 (100000 : Int)) >>= fun x11 => (((getM row ((3 : Int) + k)) >>= fun z => R.ok z) >>= fun x10 => (modM x10 (11 : Int))) >>= fun y12 => R.ok ((x11 + y12))) >>= fun (number : Int) =>
    R.ok number else R.ok j8) : R Int) >>= fun (j13 : Int) =>
  (((getM row (1 : Int)) >>= fun x14 => R.ok ((decide (x14 = (3 : Int))))) >>= fun z15 => if z15 = true then R.ok (!decide (k = (1 : Int))) else R.ok false) >>= fun z20 => ((if z20 = true then R.ok (0 : Int) >>= fun (number : Int) =>
    R.ok number else R.ok j13) : R Int) >>= fun (j16 : Int) =>
  (((getM row (2 : Int)) >>= fun y17 => R.ok (((1 : Int) + y17))) >>= fun y18 => (mulM j16 y18)) >>= fun z19 => appM s3 z19 >>= fun (line : List Int) =>
  R.ok line

@[irreducible] def m_law_draw_line (cell : Int) : R ((List Int) × Int) :=
  ((((repM ((2000001 : Int) :: []) (10 : Int)) >>= fun y1 => (catM ((11 : Int) :: ((4 : Int) :: ((9 : Int) :: []))) y1)) >>= fun y2 => R.ok (cell, y2)) >>= fun z => (m_law_digits z.1 z.2)) >>= fun (row : (List Int)) =>
  R.ok ([] : List Int) >>= fun (line : List Int) =>
  ((getM row (0 : Int)) >>= fun n => rngM 0 n) >>= fun as => foldR (m_law_draw_line_b1 row) as line >>= fun (s23 : (List Int)) =>
  (((getM row (2 : Int)) >>= fun y24 => R.ok (((1 : Int) + y24))) >>= fun y25 => R.ok (s23, y25))

@[irreducible] def m_law_far (kind : Int) (number : Int) : R Int :=
  (if (decide (kind = (0 : Int))) = true then
    (modM number (4 : Int))
  else
    (if (decide (kind = (1 : Int))) = true then
      (modM number (1000 : Int))
    else
      (if (decide (kind = (2 : Int))) = true then
        R.ok number
      else
        (((modM number (1000 : Int)) >>= fun x1 => (powM (10 : Int) (60 : Int)) >>= fun y2 => (mulM x1 y2)) >>= fun x3 => (modM number (7 : Int)) >>= fun y4 => R.ok ((x3 + y4))))))

@[irreducible] def m_law_draw_ratio (cell : Int) : R (List Int) :=
  ((((((((powM (10 : Int) (50 : Int)) >>= fun x1 => (powM (10 : Int) (50 : Int)) >>= fun y2 => (mulM x1 y2)) >>= fun x6 => (((powM (10 : Int) (50 : Int)) >>= fun x3 => (powM (10 : Int) (50 : Int)) >>= fun y4 => (mulM x3 y4)) >>= fun x5 => R.ok (x5 :: ((5 : Int) :: []))) >>= fun y7 => R.ok (x6 :: y7)) >>= fun y8 => R.ok ((2 : Int) :: y8)) >>= fun y9 => R.ok ((5 : Int) :: y9)) >>= fun y10 => R.ok ((4 : Int) :: y10)) >>= fun y11 => R.ok (cell, y11)) >>= fun z => (m_law_digits z.1 z.2)) >>= fun (row : (List Int)) =>
  (((getM row (0 : Int)) >>= fun x12 => (getM row (3 : Int)) >>= fun y13 => R.ok (x12, y13)) >>= fun z => (m_law_far z.1 z.2)) >>= fun (top : Int) =>
  ((getM row (2 : Int)) >>= fun x14 => R.ok ((decide (x14 = (1 : Int))))) >>= fun z26 => ((if z26 = true then R.ok (-top) >>= fun (top : Int) =>
    R.ok top else R.ok top) : R Int) >>= fun (j15 : Int) =>
  (((getM row (5 : Int)) >>= fun x16 => R.ok ((decide (x16 = (3 : Int))))) >>= fun z25 => if z25 = true then
    R.ok (j15 :: ((1 : Int) :: []))
  else
    (((((((R.ok (1 : Int) >>= fun x18 => ((getM row (1 : Int)) >>= fun x17 => R.ok ((x17 - (1 : Int)))) >>= fun y19 => R.ok (x18, y19)) >>= fun z => R.ok (if z.2 > z.1 then z.2 else z.1)) >>= fun x20 => (getM row (4 : Int)) >>= fun y21 => R.ok (x20, y21)) >>= fun z => (m_law_far z.1 z.2)) >>= fun y22 => R.ok (((1 : Int) + y22))) >>= fun x23 => R.ok (x23 :: [])) >>= fun y24 => R.ok (j15 :: y24)))

@[irreducible] def m_law_handed (ratio : (List Int)) (factor : Int) (as_list : Int) : R (List Int) :=
  (if (decide (as_list = (1 : Int))) = true then
    (((getM ratio (0 : Int)) >>= fun x1 => (mulM x1 factor)) >>= fun x4 => (((getM ratio (1 : Int)) >>= fun x2 => (mulM x2 factor)) >>= fun x3 => R.ok (x3 :: [])) >>= fun y5 => R.ok (x4 :: y5))
  else
    ((((getM ratio (0 : Int)) >>= fun x6 => (mulM x6 factor)) >>= fun x8 => ((getM ratio (1 : Int)) >>= fun x7 => (mulM x7 factor)) >>= fun y9 => R.ok (x8, y9)) >>= fun z => R.ok ([z.1, z.2])))

@[irreducible] def m_law_kinds (yX : Exn)  : R (List Bool) :=
  ((isR ([(("ZeroBottom" : Str), true)] : XTab) yX) >>= fun x6 => ((isR ([(("ZeroBottom" : Str), false)] : XTab) yX) >>= fun x4 => ((isR ([(("ZeroBottom" : Str), false)] : XTab) yX) >>= fun x2 => ((isR ([(("ZeroBottom" : Str), false)] : XTab) yX) >>= fun x1 => R.ok (x1 :: [])) >>= fun y3 => R.ok (x2 :: y3)) >>= fun y5 => R.ok (x4 :: y5)) >>= fun y7 => R.ok (x6 :: y7)) >>= fun (one : (List Bool)) =>
  ((isR ([(("ZeroBottom" : Str), false)] : XTab) yX) >>= fun x13 => ((isR ([(("ZeroBottom" : Str), false)] : XTab) yX) >>= fun x11 => ((isR ([(("ZeroBottom" : Str), false)] : XTab) yX) >>= fun x9 => ((isR ([(("ZeroBottom" : Str), false)] : XTab) yX) >>= fun x8 => R.ok (x8 :: [])) >>= fun y10 => R.ok (x9 :: y10)) >>= fun y12 => R.ok (x11 :: y12)) >>= fun y14 => R.ok (x13 :: y14)) >>= fun (two : (List Bool)) =>
  ((isR ([(("ZeroBottom" : Str), false)] : XTab) yX) >>= fun x20 => ((isR ([(("ZeroBottom" : Str), false)] : XTab) yX) >>= fun x18 => ((isR ([(("ZeroBottom" : Str), false)] : XTab) yX) >>= fun x16 => ((isR ([(("ZeroBottom" : Str), false)] : XTab) yX) >>= fun x15 => R.ok (x15 :: [])) >>= fun y17 => R.ok (x16 :: y17)) >>= fun y19 => R.ok (x18 :: y19)) >>= fun y21 => R.ok (x20 :: y21)) >>= fun (three : (List Bool)) =>
  ((isR ([(("ZeroBottom" : Str), false)] : XTab) yX) >>= fun x27 => ((isR ([(("ZeroBottom" : Str), false)] : XTab) yX) >>= fun x25 => ((isR ([(("ZeroBottom" : Str), false)] : XTab) yX) >>= fun x23 => ((isR ([(("ZeroBottom" : Str), false)] : XTab) yX) >>= fun x22 => R.ok (x22 :: [])) >>= fun y24 => R.ok (x23 :: y24)) >>= fun y26 => R.ok (x25 :: y26)) >>= fun y28 => R.ok (x27 :: y28)) >>= fun (four : (List Bool)) =>
  ((isR ([(("ZeroBottom" : Str), false)] : XTab) yX) >>= fun x34 => ((isR ([(("ZeroBottom" : Str), false)] : XTab) yX) >>= fun x32 => ((isR ([(("ZeroBottom" : Str), false)] : XTab) yX) >>= fun x30 => ((isR ([(("ZeroBottom" : Str), false)] : XTab) yX) >>= fun x29 => R.ok (x29 :: [])) >>= fun y31 => R.ok (x30 :: y31)) >>= fun y33 => R.ok (x32 :: y33)) >>= fun y35 => R.ok (x34 :: y35)) >>= fun (five : (List Bool)) =>
  ((((catM one two) >>= fun x36 => (catM x36 three)) >>= fun x37 => (catM x37 four)) >>= fun x38 => (catM x38 five))

@[irreducible] def m_law_is_kind (yX : Exn) (place : Int) : R Bool :=
  ((isR ([(("ZeroBottom" : Str), true)] : XTab) yX) >>= fun z4 => if z4 = true then ((isR ([(("ZeroBottom" : Str), true)] : XTab) yX) >>= fun z3 => if z3 = true then ((m_law_kinds yX) >>= fun x1 => ((R.ok (20 : Int) >>= fun n => rngM 0 n) >>= fun as => mapM (fun (k : Int) => R.ok (decide (k = place))) as) >>= fun y2 => R.ok ((decide (x1 = y2)))) else R.ok false) else R.ok false)

@[irreducible] def m_fraction (top : Int) (bottom : Int) : R (Int × Int) :=
  (if (decide (bottom = (0 : Int))) = true then
    R.exn ⟨"ZeroBottom", []⟩
  else
    R.ok ((Int.gcd top bottom : Nat) : Int) >>= fun (shared : Int) =>
    ((if (decide (bottom < (0 : Int))) = true then R.ok (-shared) >>= fun (shared : Int) =>
      R.ok shared else R.ok shared) : R Int) >>= fun (j1 : Int) =>
    ((fdivM top j1) >>= fun x2 => (fdivM bottom j1) >>= fun y3 => R.ok (x2, y3)))

@[irreducible] def m_law_no_fraction (top : Int) : R Bool :=
  tryR ((m_fraction top ((0 : Int))) >>= fun _ =>
    R.ok (.nxt ()) : R (Out Bool Unit Empty)) ([(("ZeroBottom" : Str), true)] : XTab) (fun (yX : Exn) =>
    (m_law_is_kind yX ((0 : Int))) >>= fun b => R.ok (.ret b)) >>= Out.cs (fun (s1 : Unit) =>
  R.ok false) (fun b => R.ok b)

def m_lowered_b1  (s1 : Int) (number : Int) : R Int :=
  R.ok ((Int.gcd s1 number : Nat) : Int) >>= fun (shared : Int) =>
  R.ok shared

@[irreducible] def m_lowered (numbers : (List Int)) (bottom : Int) : R ((List Int) × Int) :=
  R.ok bottom >>= fun (shared : Int) =>
  R.ok numbers >>= fun as => foldR m_lowered_b1 as shared >>= fun (s2 : Int) =>
  ((R.ok numbers >>= fun as => mapM (fun (number : Int) => (fdivM number s2)) as) >>= fun x3 => (fdivM bottom s2) >>= fun y4 => R.ok (x3, y4))

@[irreducible] def m_vector (numbers : (List Int)) (bottom : Int) : R ((List Int) × Int) :=
  (if (decide (bottom = (0 : Int))) = true then
    R.exn ⟨"ZeroBottom", []⟩
  else
    (if (decide (bottom < (0 : Int))) = true then
      (((R.ok numbers >>= fun as => mapM (fun (number : Int) => R.ok (-number)) as) >>= fun x1 => R.ok (x1, (-bottom))) >>= fun z => (m_lowered z.1 z.2))
    else
      (m_lowered numbers bottom)))

@[irreducible] def m_law_no_vector (line : (List Int)) : R Bool :=
  tryR ((m_vector line ((0 : Int))) >>= fun _ =>
    R.ok (.nxt ()) : R (Out Bool Unit Empty)) ([(("ZeroBottom" : Str), true)] : XTab) (fun (yX : Exn) =>
    (m_law_is_kind yX ((0 : Int))) >>= fun b => R.ok (.ret b)) >>= Out.cs (fun (s1 : Unit) =>
  R.ok false) (fun b => R.ok b)

@[irreducible] def m_law_second (kind : Int) (one : (List Int)) (other : (List Int)) : R (List Int) :=
  (if (decide (kind = (3 : Int))) = true then
    R.ok one
  else
    (if (decide (kind = (4 : Int))) = true then
      (((getM one (0 : Int)) >>= fun x1 => R.ok ((x1 + (1 : Int)))) >>= fun x3 => ((getM one (1 : Int)) >>= fun x2 => R.ok (x2 :: [])) >>= fun y4 => R.ok (x3 :: y4))
    else
      (if (decide (kind = (5 : Int))) = true then
        (((getM one (0 : Int)) >>= fun z => R.ok (-z)) >>= fun x6 => ((getM one (1 : Int)) >>= fun x5 => R.ok (x5 :: [])) >>= fun y7 => R.ok (x6 :: y7))
      else
        (if (decide (kind = (6 : Int))) = true then
          ((getM one (0 : Int)) >>= fun x10 => (((getM one (1 : Int)) >>= fun x8 => R.ok ((x8 + (1 : Int)))) >>= fun x9 => R.ok (x9 :: [])) >>= fun y11 => R.ok (x10 :: y11))
        else
          R.ok other))))

def m_law_gcd_b1  (s1 : (Int × Int)) (turn : Int) : R (Out Empty (Int × Int) (Int × Int)) :=
  (if (decide (s1.2 = (0 : Int))) = true then
    R.ok (.brk (s1.1, s1.2))
  else
    (modM s1.1 s1.2) >>= fun (rest : Int) =>
    R.ok s1.2 >>= fun (one : Int) =>
    R.ok rest >>= fun (two : Int) =>
    R.ok (.nxt (one, two)))

@[irreducible] def m_law_gcd (one : Int) (two : Int) : R Int :=
  R.ok (if one < 0 then -one else one) >>= fun (one : Int) =>
  R.ok (if two < 0 then -two else two) >>= fun (two : Int) =>
  rngM 0 ((100000 : Int)) >>= fun as => loopB m_law_gcd_b1 as (one, two) >>= fun (s2 : (Int × Int)) =>
  R.ok s2.1

@[irreducible] def m_law_whole (value : Int) : R Bool :=
  R.ok (true && (!false))

@[irreducible] def m_law_stands (value : (Int × Int)) (top : Int) (low : Int) : R Bool :=
  ((if (!true) = true then R.ok true else (if (!decide ((2 : Int) = (2 : Int))) = true then R.ok true else (((m_law_whole value.1) >>= fun z => R.ok (!z)) >>= fun z1 => if z1 = true then R.ok true else ((m_law_whole value.2) >>= fun z => R.ok (!z))))) >>= fun z6 => if z6 = true then
    R.ok false
  else
    ((if (decide (value.2 < (1 : Int))) = true then R.ok true else ((m_law_gcd value.1 value.2) >>= fun x2 => R.ok ((!decide (x2 = (1 : Int)))))) >>= fun z5 => if z5 = true then
      R.ok false
    else
      ((mulM value.1 low) >>= fun x3 => (mulM top value.2) >>= fun y4 => R.ok ((decide (x3 = y4))))))

def m_law_stands_vector_b1 (value : ((List Int) × Int)) (line : (List Int)) (low : Int) (s2 : Int) (k : Int) : R (Out Bool Int Int) :=
  (((((getM value.1 k) >>= m_law_whole) >>= fun z => R.ok (!z)) >>= fun z7 => if z7 = true then R.ok true else (((getM value.1 k) >>= fun x3 => (mulM x3 low)) >>= fun x5 => ((getM line k) >>= fun x4 => (mulM x4 value.2)) >>= fun y6 => R.ok ((!decide (x5 = y6))))) >>= fun z9 => if z9 = true then
    R.ok (.ret false)
  else
    (((getM value.1 k) >>= fun y8 => R.ok (s2, y8)) >>= fun z => (m_law_gcd z.1 z.2)) >>= fun (shared : Int) =>
    R.ok (.nxt shared))

@[irreducible] def m_law_stands_vector (value : ((List Int) × Int)) (line : (List Int)) (low : Int) : R Bool :=
  (if ((!true) || ((!decide ((2 : Int) = (2 : Int))) || (!true))) = true then
    R.ok false
  else
    ((((m_law_whole value.2) >>= fun z => R.ok (!z)) >>= fun z1 => if z1 = true then R.ok true else R.ok ((decide (value.2 < (1 : Int))) || (!decide (((value.1.length : Nat) : Int) = ((line.length : Nat) : Int))))) >>= fun z11 => if z11 = true then
      R.ok false
    else
      R.ok value.2 >>= fun (shared : Int) =>
      rngM 0 (((line.length : Nat) : Int)) >>= fun as => loopR (m_law_stands_vector_b1 value line low) as shared >>= End.cs (fun (s10 : Int) =>
      R.ok (decide (s10 = (1 : Int)))) (fun b => R.ok b)))

@[irreducible] def m_ceiling (one : (List Int)) : R Int :=
  ((((getM one (0 : Int)) >>= fun z => R.ok (-z)) >>= fun x1 => (getM one (1 : Int)) >>= fun y2 => (fdivM x1 y2)) >>= fun z => R.ok (-z))

@[irreducible] def m_compared (one : (List Int)) (two : (List Int)) : R Int :=
  (((getM one (0 : Int)) >>= fun x1 => (getM two (1 : Int)) >>= fun y2 => (mulM x1 y2)) >>= fun x5 => ((getM two (0 : Int)) >>= fun x3 => (getM one (1 : Int)) >>= fun y4 => (mulM x3 y4)) >>= fun y6 => R.ok ((x5 - y6))) >>= fun (difference : Int) =>
  (if (decide (difference < (0 : Int))) = true then
    R.ok (-(1 : Int))
  else
    (if (decide ((0 : Int) < difference)) = true then
      R.ok (1 : Int)
    else
      R.ok (0 : Int)))

@[irreducible] def m_floored (one : (List Int)) : R Int :=
  ((getM one (0 : Int)) >>= fun x1 => (getM one (1 : Int)) >>= fun y2 => (fdivM x1 y2))

@[irreducible] def m_law_whole_numbers (first : (List Int)) (second : (List Int)) (one : (List Int)) (two : (List Int)) : R Bool :=
  (m_compared first second) >>= fun (order : Int) =>
  (((getM one (0 : Int)) >>= fun x1 => (getM two (1 : Int)) >>= fun y2 => (mulM x1 y2)) >>= fun x5 => ((getM two (0 : Int)) >>= fun x3 => (getM one (1 : Int)) >>= fun y4 => (mulM x3 y4)) >>= fun y6 => R.ok ((x5 - y6))) >>= fun (difference : Int) =>
  ((((m_law_whole order) >>= fun z => R.ok (!z)) >>= fun z7 => if z7 = true then R.ok true else R.ok (!decide (order = ((if ((decide ((0 : Int) < difference))) = true then 1 else 0) - (if ((decide (difference < (0 : Int)))) = true then 1 else 0))))) >>= fun z21 => if z21 = true then
    R.ok false
  else
    (m_ceiling first) >>= fun (least : Int) =>
    (m_floored second) >>= fun (most : Int) =>
    ((((m_law_whole least) >>= fun z => R.ok (!z)) >>= fun z13 => if z13 = true then R.ok true else ((((getM one (1 : Int)) >>= fun y8 => (mulM (least - (1 : Int)) y8)) >>= fun x10 => (getM one (0 : Int)) >>= fun y11 => if decide (x10 < y11) = true then ((getM one (1 : Int)) >>= fun y9 => (mulM least y9)) >>= fun z12 => R.ok (decide (y11 ≤ z12)) else R.ok false) >>= fun z => R.ok (!z))) >>= fun z20 => if z20 = true then
      R.ok false
    else
      ((m_law_whole most) >>= fun z19 => if z19 = true then (((getM two (1 : Int)) >>= fun y14 => (mulM most y14)) >>= fun x16 => (getM two (0 : Int)) >>= fun y17 => if decide (x16 ≤ y17) = true then ((getM two (1 : Int)) >>= fun y15 => (mulM (most + (1 : Int)) y15)) >>= fun z18 => R.ok (decide (y17 < z18)) else R.ok false) else R.ok false)))

@[irreducible] def m_added (one : (List Int)) (two : (List Int)) : R (Int × Int) :=
  (((((getM one (0 : Int)) >>= fun x1 => (getM two (1 : Int)) >>= fun y2 => (mulM x1 y2)) >>= fun x5 => ((getM two (0 : Int)) >>= fun x3 => (getM one (1 : Int)) >>= fun y4 => (mulM x3 y4)) >>= fun y6 => R.ok ((x5 + y6))) >>= fun x9 => ((getM one (1 : Int)) >>= fun x7 => (getM two (1 : Int)) >>= fun y8 => (mulM x7 y8)) >>= fun y10 => R.ok (x9, y10)) >>= fun z => (m_fraction z.1 z.2))

@[irreducible] def m_multiplied (one : (List Int)) (two : (List Int)) : R (Int × Int) :=
  ((((getM one (0 : Int)) >>= fun x1 => (getM two (0 : Int)) >>= fun y2 => (mulM x1 y2)) >>= fun x5 => ((getM one (1 : Int)) >>= fun x3 => (getM two (1 : Int)) >>= fun y4 => (mulM x3 y4)) >>= fun y6 => R.ok (x5, y6)) >>= fun z => (m_fraction z.1 z.2))

@[irreducible] def m_law (script : (List Int)) : R Bool :=
  (((m_law_cell script ((0 : Int))) >>= fun x10 => ((((((((powM (10 : Int) (9 : Int)) >>= fun x2 => ((powM (10 : Int) (9 : Int)) >>= fun x1 => R.ok (x1 :: ((2 : Int) :: ((2 : Int) :: [])))) >>= fun y3 => R.ok (x2 :: y3)) >>= fun y4 => R.ok ((3 : Int) :: y4)) >>= fun y5 => R.ok ((2 : Int) :: y5)) >>= fun y6 => R.ok ((2 : Int) :: y6)) >>= fun y7 => R.ok ((2 : Int) :: y7)) >>= fun y8 => R.ok ((2 : Int) :: y8)) >>= fun y9 => R.ok ((7 : Int) :: y9)) >>= fun y11 => R.ok (x10, y11)) >>= fun z => (m_law_digits z.1 z.2)) >>= fun (shape : (List Int)) =>
  ((m_law_cell script ((1 : Int))) >>= m_law_draw_ratio) >>= fun (one : (List Int)) =>
  (((getM shape (0 : Int)) >>= fun x13 => (((m_law_cell script ((2 : Int))) >>= m_law_draw_ratio) >>= fun y12 => R.ok (one, y12)) >>= fun y14 => R.ok (x13, y14)) >>= fun z => (m_law_second z.1 z.2.1 z.2.2)) >>= fun (two : (List Int)) =>
  ((((((getM shape (6 : Int)) >>= fun x16 => (((getM shape (5 : Int)) >>= fun x15 => R.ok ((!decide (x15 = (0 : Int))))) >>= fun z => R.ok ((if z = true then 1 else 0))) >>= fun y17 => (mulM x16 y17)) >>= fun y18 => R.ok (((1 : Int) + y18))) >>= fun x19 => (getM shape (1 : Int)) >>= fun y20 => R.ok (x19, y20)) >>= fun y21 => R.ok (one, y21)) >>= fun z => (m_law_handed z.1 z.2.1 z.2.2)) >>= fun (first : (List Int)) =>
  ((((((getM shape (7 : Int)) >>= fun x23 => (((getM shape (5 : Int)) >>= fun x22 => R.ok ((!decide (x22 = (1 : Int))))) >>= fun z => R.ok ((if z = true then 1 else 0))) >>= fun y24 => (mulM x23 y24)) >>= fun y25 => R.ok (((1 : Int) + y25))) >>= fun x26 => (getM shape (2 : Int)) >>= fun y27 => R.ok (x26, y27)) >>= fun y28 => R.ok (two, y28)) >>= fun z => (m_law_handed z.1 z.2.1 z.2.2)) >>= fun (second : (List Int)) =>
  R.ok (first :: (second :: [])) >>= fun (kept : (List (List Int))) =>
  (m_added first second) >>= fun (total : (Int × Int)) =>
  ((((((((getM one (0 : Int)) >>= fun x29 => (getM two (1 : Int)) >>= fun y30 => (mulM x29 y30)) >>= fun x33 => ((getM two (0 : Int)) >>= fun x31 => (getM one (1 : Int)) >>= fun y32 => (mulM x31 y32)) >>= fun y34 => R.ok ((x33 + y34))) >>= fun x37 => ((getM one (1 : Int)) >>= fun x35 => (getM two (1 : Int)) >>= fun y36 => (mulM x35 y36)) >>= fun y38 => R.ok (x37, y38)) >>= fun y39 => R.ok (total, y39)) >>= fun z => (m_law_stands z.1 z.2.1 z.2.2)) >>= fun z => R.ok (!z)) >>= fun z81 => if z81 = true then
    R.ok false
  else
    (((((m_multiplied second first) >>= fun x46 => (((getM one (0 : Int)) >>= fun x40 => (getM two (0 : Int)) >>= fun y41 => (mulM x40 y41)) >>= fun x44 => ((getM one (1 : Int)) >>= fun x42 => (getM two (1 : Int)) >>= fun y43 => (mulM x42 y43)) >>= fun y45 => R.ok (x44, y45)) >>= fun y47 => R.ok (x46, y47)) >>= fun z => (m_law_stands z.1 z.2.1 z.2.2)) >>= fun z => R.ok (!z)) >>= fun z80 => if z80 = true then
      R.ok false
    else
      ((((m_law_whole_numbers first second one two) >>= fun z => R.ok (!z)) >>= fun z48 => if z48 = true then R.ok true else ((m_law_whole_numbers second first two one) >>= fun z => R.ok (!z))) >>= fun z79 => if z79 = true then
        R.ok false
      else
        ((m_law_cell script ((3 : Int))) >>= m_law_draw_ratio) >>= fun (other : (List Int)) =>
        (((getM shape (8 : Int)) >>= fun y49 => (mulM (2 : Int) y49)) >>= fun y50 => R.ok (((1 : Int) - y50))) >>= fun (sign : Int) =>
        ((getM shape (6 : Int)) >>= fun y51 => R.ok (((1 : Int) + y51))) >>= fun (times : Int) =>
        ((((((((getM other (0 : Int)) >>= fun x52 => (mulM x52 times)) >>= fun x55 => (((getM other (1 : Int)) >>= fun y53 => (mulM sign y53)) >>= fun x54 => (mulM x54 times)) >>= fun y56 => R.ok (x55, y56)) >>= fun z => (m_fraction z.1 z.2)) >>= fun x60 => (((getM other (0 : Int)) >>= fun y57 => (mulM sign y57)) >>= fun x58 => (getM other (1 : Int)) >>= fun y59 => R.ok (x58, y59)) >>= fun y61 => R.ok (x60, y61)) >>= fun z => (m_law_stands z.1 z.2.1 z.2.2)) >>= fun z => R.ok (!z)) >>= fun z78 => if z78 = true then
          R.ok false
        else
          ((m_law_cell script ((4 : Int))) >>= m_law_draw_line) >>= fun (drawn : ((List Int) × Int)) =>
          R.ok drawn.1 >>= fun (line : (List Int)) =>
          ((getM shape (3 : Int)) >>= fun x62 => R.ok ((decide (x62 = (1 : Int))))) >>= fun z77 => ((if z77 = true then R.ok line >>= fun (line : (List Int)) =>
            R.ok line else R.ok line) : R (List Int)) >>= fun (j63 : (List Int)) =>
          (((((getM shape (9 : Int)) >>= fun y64 => (mulM (2 : Int) y64)) >>= fun y65 => R.ok (((1 : Int) - y65))) >>= fun x66 => (mulM x66 drawn.2)) >>= fun x68 => (((m_law_cell script ((5 : Int))) >>= m_law_draw_ratio) >>= fun x67 => (getM x67 (1 : Int))) >>= fun y69 => (mulM x68 y69)) >>= fun (low : Int) =>
          ((((((m_vector j63 low) >>= fun x70 => R.ok (x70, (drawn.1, low))) >>= fun z => (m_law_stands_vector z.1 z.2.1 z.2.2)) >>= fun z => R.ok (!z)) >>= fun z71 => if z71 = true then R.ok true else R.ok (!decide (j63 = drawn.1))) >>= fun z76 => if z76 = true then
            R.ok false
          else
            (((((getM other (0 : Int)) >>= m_law_no_fraction) >>= fun z => R.ok (!z)) >>= fun z73 => if z73 = true then R.ok true else (((m_law_no_vector j63) >>= fun z => R.ok (!z)) >>= fun z72 => if z72 = true then R.ok true else ((m_law_no_vector (([] : List Int))) >>= fun z => R.ok (!z)))) >>= fun z75 => if z75 = true then
              R.ok false
            else
              (if (decide (kept = (first :: (second :: [])))) = true then ((m_added first second) >>= fun x74 => R.ok ((decide (x74 = total)))) else R.ok false)))))))
end Lw
set_option maxHeartbeats 4000000
set_option exponentiation.threshold 100000
/-! # law_k00_ratios: what the mirrors answer -/
namespace Lw
open PySem Zk
theorem cell_is (s : List Int) (k : Int) : m_law_cell s k = law_cell s k := by unfold m_law_cell; rfl
theorem digits_is (c : Int) (s : List Int) : m_law_digits c s = law_digits c s := by unfold m_law_digits; rfl
theorem gcd_is (a b : Int) : m_law_gcd a b = law_gcd a b := by unfold m_law_gcd; rfl
/-! ### sizes -/
def Sz (n : Nat) (x : Int) : Prop := x.natAbs < 2 ^ n
theorem Sz.up {m n : Nat} {x : Int} (h : Sz m x) (l : m ≤ n := by decide) : Sz n x := Nat.lt_of_lt_of_le h (Nat.pow_le_pow_right (by decide) l)
theorem Sz.neg {n : Nat} {x : Int} (h : Sz n x) : Sz n (-x) := by unfold Sz; rw [Int.natAbs_neg]; exact h
theorem Sz.mul {m n : Nat} {x y : Int} (h : Sz m x) (k : Sz n y) : Sz (m + n) (x * y) := by
  unfold Sz
  rw [Int.natAbs_mul, Nat.pow_add]
  exact Nat.mul_lt_mul_of_lt_of_lt h k
theorem Sz.add {n : Nat} {x y : Int} (h : Sz n x) (k : Sz n y) : Sz (n + 1) (x + y) := by
  unfold Sz at *
  rw [Nat.pow_succ]
  have := Int.natAbs_add_le x y
  omega
theorem Sz.sub {n : Nat} {x y : Int} (h : Sz n x) (k : Sz n y) : Sz (n + 1) (x - y) := by
  rw [Int.sub_eq_add_neg]
  exact h.add k.neg
theorem mulS {m n : Nat} {x y : Int} (h : Sz m x) (k : Sz n y) (l : m + n < 100000000 := by decide) : mulM x y = .ok (x * y) := mulM_ok m n h k l
theorem fdivS {n : Nat} {x y : Int} (h : y ≠ 0) (k : Sz n y) (l : n < 9000 := by decide) : fdivM x y = .ok (x.fdiv y) := fdivM_ok h (Nat.lt_of_le_of_lt (log2_le k) l)
theorem g0 (a b : Int) : getM [a, b] 0 = .ok a := rfl
theorem g1 (a b : Int) : getM [a, b] 1 = .ok b := rfl
theorem whole (v : Int) : m_law_whole v = .ok true := by unfold m_law_whole; rfl
/-! ### fractions -/
theorem fdiv_mul {x g : Int} (h : g ∣ x) (hg : g ≠ 0) : x.fdiv g * g = x := by
  obtain ⟨k, rfl⟩ := h
  rw [Int.mul_fdiv_cancel_left _ hg]
  exact Int.mul_comm _ _
/-- what a fraction in lowest terms is -/
structure Low (A B x y : Int) : Prop where
  pos : 1 ≤ B
  cop : Int.gcd A B = 1
  eq : A * y = x * B
  sa : A.natAbs ≤ x.natAbs
  sb : B.natAbs ≤ y.natAbs
theorem low_of (x y s : Int) (hy : y ≠ 0) (hs : s = if y < 0 then -((Int.gcd x y : Nat) : Int) else ((Int.gcd x y : Nat) : Int)) : Low (x.fdiv s) (y.fdiv s) x y := by
  have g0 : 0 < Int.gcd x y := Int.gcd_pos_of_ne_zero_right x hy
  have s0 : s ≠ 0 := by rw [hs]; split <;> omega
  have sn : s.natAbs = Int.gcd x y := by rw [hs]; split <;> omega
  have d1 : s ∣ x := Int.natAbs_dvd.mp (by rw [sn]; exact Int.gcd_dvd_left ..)
  have d2 : s ∣ y := Int.natAbs_dvd.mp (by rw [sn]; exact Int.gcd_dvd_right ..)
  have e1 := fdiv_mul d1 s0
  have e2 := fdiv_mul d2 s0
  have cop : Int.gcd (x.fdiv s) (y.fdiv s) = 1 := by
    have k := Int.gcd_mul_right (x.fdiv s) s (y.fdiv s)
    rw [e1, e2, sn] at k
    have k2 : Int.gcd (x.fdiv s) (y.fdiv s) * Int.gcd x y = 1 * Int.gcd x y := by omega
    exact Nat.eq_of_mul_eq_mul_right g0 k2
  refine ⟨?_, cop, ?_, ?_, ?_⟩
  · by_cases hn : y < 0
    · rw [if_pos hn] at hs
      have sneg : s < 0 := by omega
      by_cases q : y.fdiv s ≤ 0
      · have := Int.mul_nonneg_of_nonpos_of_nonpos q (Int.le_of_lt sneg)
        omega
      · omega
    · rw [if_neg hn] at hs
      have spos : 0 < s := by omega
      by_cases q : y.fdiv s ≤ 0
      · have := Int.mul_nonpos_of_nonpos_of_nonneg q (Int.le_of_lt spos)
        omega
      · omega
  · calc x.fdiv s * y = x.fdiv s * (y.fdiv s * s) := by rw [e2]
      _ = (x.fdiv s * s) * y.fdiv s := by rw [Int.mul_comm (y.fdiv s) s, Int.mul_assoc]
      _ = x * y.fdiv s := by rw [e1]
  · have k : (x.fdiv s).natAbs * s.natAbs = x.natAbs := by rw [← Int.natAbs_mul, e1]
    rw [← k]
    exact Nat.le_mul_of_pos_right _ (by omega)
  · have k : (y.fdiv s).natAbs * s.natAbs = y.natAbs := by rw [← Int.natAbs_mul, e2]
    rw [← k]
    exact Nat.le_mul_of_pos_right _ (by omega)
theorem fraction_ok (x y : Int) (hy : y ≠ 0) (hl : Sz 8000 y) : ∃ A B, m_fraction x y = .ok (A, B) ∧ Low A B x y := by
  have hg : Sz 8000 ((Int.gcd x y : Nat) : Int) := by
    have : Int.gcd x y ≤ y.natAbs := Nat.le_of_dvd (by omega) (Int.gcd_dvd_natAbs_right ..)
    exact Nat.lt_of_le_of_lt (by omega) hl
  have g0 : 0 < Int.gcd x y := Int.gcd_pos_of_ne_zero_right x hy
  refine ⟨_, _, ?_, low_of x y _ hy rfl⟩
  unfold m_fraction
  rw [decide_eq_false hy]
  simp only [Bool.false_eq_true, if_false, R.ok_bind]
  by_cases hn : y < 0
  · rw [decide_eq_true hn]
    simp only [if_true, R.ok_bind, if_pos hn]
    rw [fdivS (by omega) hg.neg]
    simp only [R.ok_bind]
    rw [fdivS (by omega) hg.neg]
    rfl
  · rw [decide_eq_false hn]
    simp only [Bool.false_eq_true, if_false, R.ok_bind, if_neg hn]
    rw [fdivS (by omega) hg]
    simp only [R.ok_bind]
    rw [fdivS (by omega) hg]
    rfl
/-- the law's own question -/
theorem stands_ok {A B top low : Int} (h1 : 1 ≤ B) (h2 : Int.gcd A B = 1) (h3 : A * low = top * B) (sA : Sz 3000 A) (sB : Sz 3000 B) (sl : Sz 3000 low) (st : Sz 3000 top) : m_law_stands (A, B) top low = .ok true := by
  unfold m_law_stands
  simp only [whole, R.ok_bind, Bool.not_true, Bool.false_eq_true, if_false]
  simp only [decide_true, Bool.not_true, Bool.false_eq_true, if_false, R.ok_bind]
  rw [decide_eq_false (show ¬ B < 1 by omega)]
  simp only [Bool.false_eq_true, if_false, R.ok_bind]
  rw [gcd_is, law_gcd_ok _ _ (sB.up (n := 49999))]
  rw [h2]
  simp only [R.ok_bind]
  rw [decide_eq_true (show ((1 : Nat) : Int) = 1 from rfl)]
  simp only [Bool.not_true, Bool.false_eq_true, if_false]
  rw [mulS sA sl]
  simp only [R.ok_bind]
  rw [mulS st sB]
  simp only [R.ok_bind]
  rw [decide_eq_true h3]
/-! ### rounding, order -/
theorem compared_ok (x y u v : Int) (sx : Sz 1000 x) (sy : Sz 1000 y) (su : Sz 1000 u) (sv : Sz 1000 v) : m_compared [x, y] [u, v] = .ok (if x * v - u * y < 0 then -1 else if 0 < x * v - u * y then 1 else 0) := by
  unfold m_compared
  simp only [g0, g1, R.ok_bind]
  rw [mulS sx sv]
  simp only [R.ok_bind]
  rw [mulS su sy]
  simp only [R.ok_bind]
  by_cases h : x * v - u * y < 0
  · rw [if_pos h, decide_eq_true h]
    rfl
  · rw [if_neg h, decide_eq_false h]
    simp only [Bool.false_eq_true, if_false]
    by_cases k : 0 < x * v - u * y
    · rw [if_pos k, decide_eq_true k]
      rfl
    · rw [if_neg k, decide_eq_false k]
      rfl
theorem fdiv_sz {n : Nat} {x y : Int} (hy : 0 < y) (h : Sz n x) : Sz n (x.fdiv y) := by
  rw [Int.fdiv_eq_ediv_of_nonneg _ (Int.le_of_lt hy)]
  exact Nat.lt_of_le_of_lt (Int.natAbs_ediv_le_natAbs x y) h
theorem floored_ok (x y : Int) (hy : 0 < y) (sy : Sz 1000 y) : m_floored [x, y] = .ok (x.fdiv y) := by
  unfold m_floored
  simp only [g0, g1, R.ok_bind]
  rw [fdivS (by omega) sy]
theorem ceiling_ok (x y : Int) (hy : 0 < y) (sy : Sz 1000 y) : m_ceiling [x, y] = .ok (-((-x).fdiv y)) := by
  unfold m_ceiling
  simp only [g0, g1, R.ok_bind]
  rw [fdivS (by omega) sy]
  rfl
/-- where a quotient of multiples lies -/
theorem between (x y f : Int) (hy : 0 < y) (hf : 0 < f) : y * ((x * f).fdiv (y * f)) ≤ x ∧ x < y * ((x * f).fdiv (y * f)) + y := by
  have hyf : 0 < y * f := Int.mul_pos hy hf
  rw [Int.fdiv_eq_ediv_of_nonneg _ (Int.le_of_lt hyf)]
  have h1 := Int.mul_ediv_self_le (x := x * f) (k := y * f) (by omega)
  have h2 := Int.lt_mul_ediv_self_add (x := x * f) (k := y * f) hyf
  generalize (x * f) / (y * f) = q at h1 h2 ⊢
  constructor
  · refine Int.le_of_mul_le_mul_left (a := f) ?_ hf
    calc f * (y * q) = y * f * q := by rw [← Int.mul_assoc, Int.mul_comm f y]
      _ ≤ x * f := h1
      _ = f * x := Int.mul_comm _ _
  · refine Int.lt_of_mul_lt_mul_left (a := f) ?_ (Int.le_of_lt hf)
    calc f * x = x * f := Int.mul_comm _ _
      _ < y * f * q + y * f := h2
      _ = f * (y * q + y) := by rw [Int.mul_add, ← Int.mul_assoc, Int.mul_comm f y]
theorem sign_mul (f x : Int) (hf : 0 < f) : (f * x < 0 ↔ x < 0) ∧ (0 < f * x ↔ 0 < x) := by
  refine ⟨⟨fun h => ?_, fun h => ?_⟩, ⟨fun h => ?_, fun h => ?_⟩⟩
  · by_cases k : x < 0
    · exact k
    · have := Int.mul_nonneg (Int.le_of_lt hf) (Int.not_lt.mp k)
      omega
  · have := Int.mul_neg_of_pos_of_neg hf h
    omega
  · by_cases k : 0 < x
    · exact k
    · have := Int.mul_nonpos_of_nonneg_of_nonpos (Int.le_of_lt hf) (Int.not_lt.mp k)
      omega
  · exact Int.mul_pos hf h
theorem numbers_ok (a b c d f g : Int) (hb : 0 < b) (hd : 0 < d) (hf : 0 < f) (hg : 0 < g) (sa : Sz 400 a) (sb : Sz 400 b) (sc : Sz 400 c) (sd : Sz 400 d) (sf : Sz 40 f) (sg : Sz 40 g) :
    m_law_whole_numbers [a * f, b * f] [c * g, d * g] [a, b] [c, d] = .ok true := by
  have e : a * f * (d * g) - c * g * (b * f) = (f * g) * (a * d - c * b) := by
    rw [Int.mul_sub]
    congr 1
    · ac_rfl
    · ac_rfl
  obtain ⟨s1, s2⟩ := sign_mul (f * g) (a * d - c * b) (Int.mul_pos hf hg)
  have hbf : 0 < b * f := Int.mul_pos hb hf
  have hdg : 0 < d * g := Int.mul_pos hd hg
  have saf := (sa.mul sf).up (n := 1000)
  have sbf := (sb.mul sf).up (n := 1000)
  have scg := (sc.mul sg).up (n := 1000)
  have sdg := (sd.mul sg).up (n := 1000)
  unfold m_law_whole_numbers
  rw [compared_ok _ _ _ _ saf sbf scg sdg, ceiling_ok _ _ hbf sbf, floored_ok _ _ hdg sdg, e]
  simp only [g0, g1, R.ok_bind, whole, Bool.not_true, Bool.false_eq_true, if_false, if_true]
  rw [mulS sa sd]
  simp only [R.ok_bind]
  rw [mulS sc sb]
  simp only [R.ok_bind, s1, s2]
  have ho : (if a * d - c * b < 0 then (-1 : Int) else if 0 < a * d - c * b then 1 else 0) = (if decide (0 < a * d - c * b) = true then 1 else 0) - (if decide (a * d - c * b < 0) = true then 1 else 0) := by
    by_cases h1 : a * d - c * b < 0
    · have h2 : ¬ 0 < a * d - c * b := by omega
      rw [if_pos h1, decide_eq_true h1, decide_eq_false h2]
      rfl
    · rw [if_neg h1, decide_eq_false h1]
      by_cases h2 : 0 < a * d - c * b
      · rw [if_pos h2, decide_eq_true h2]
        rfl
      · rw [if_neg h2, decide_eq_false h2]
        rfl
  rw [decide_eq_true ho]
  simp only [Bool.not_true, Bool.false_eq_true, if_false]
  have e2 : -(a * f) = (-a) * f := (Int.neg_mul _ _).symm
  rw [e2]
  have q1 := between (-a) b f hb hf
  have q2 := between c d g hd hg
  have z1 : Sz 1000 (((-a) * f).fdiv (b * f)) := fdiv_sz hbf ((sa.neg.mul sf).up)
  have z2 : Sz 1000 ((c * g).fdiv (d * g)) := fdiv_sz hdg scg
  generalize ((-a) * f).fdiv (b * f) = q at q1 z1 ⊢
  generalize (c * g).fdiv (d * g) = r at q2 z2 ⊢
  have o1 : Sz 1001 (1 : Int) := by unfold Sz; exact Nat.one_lt_two_pow (by decide)
  have o2 : Sz 1000 (1 : Int) := by unfold Sz; exact Nat.one_lt_two_pow (by decide)
  rw [mulS (z1.neg.sub o2) sb]
  simp only [R.ok_bind]
  have k1 : (-q - 1) * b = -(b * q + b) := by rw [Int.sub_mul, Int.neg_mul, Int.mul_comm q b, Int.one_mul]; omega
  rw [k1, decide_eq_true (show -(b * q + b) < a by omega)]
  simp only [if_true]
  rw [mulS z1.neg sb]
  simp only [R.ok_bind]
  have k2 : -q * b = -(b * q) := by rw [Int.neg_mul, Int.mul_comm q b]
  rw [k2, decide_eq_true (show a ≤ -(b * q) by omega)]
  simp only [Bool.not_true, Bool.false_eq_true, if_false]
  rw [mulS z2 sd]
  simp only [R.ok_bind]
  have k3 : r * d = d * r := Int.mul_comm _ _
  rw [k3, decide_eq_true (show d * r ≤ c by omega)]
  simp only [if_true]
  rw [mulS (z2.add o2) sd]
  simp only [R.ok_bind]
  have k4 : (r + 1) * d = d * r + d := by rw [Int.add_mul, Int.one_mul, k3]
  rw [k4, decide_eq_true (show c < d * r + d by omega)]
/-! ### vectors -/
def GN (b : Nat) (l : List Nat) : Nat := l.foldl Nat.gcd b
theorem GN_cons (b x : Nat) (l : List Nat) : GN b (x :: l) = GN (Nat.gcd b x) l := rfl
theorem GN_dvd : ∀ (l : List Nat) (b : Nat), GN b l ∣ b ∧ ∀ x ∈ l, GN b l ∣ x
  | [], b => ⟨Nat.dvd_refl _, fun x h => by simp at h⟩
  | y :: l, b => by
    obtain ⟨h1, h2⟩ := GN_dvd l (Nat.gcd b y)
    rw [GN_cons]
    refine ⟨Nat.dvd_trans h1 (Nat.gcd_dvd_left _ _), fun x hx => ?_⟩
    rcases List.mem_cons.mp hx with rfl | hx
    · exact Nat.dvd_trans h1 (Nat.gcd_dvd_right _ _)
    · exact h2 x hx
theorem GN_mul (s : Nat) : ∀ (l : List Nat) (b : Nat), GN (s * b) (l.map (s * ·)) = s * GN b l
  | [], b => rfl
  | y :: l, b => by
    rw [List.map_cons, GN_cons, GN_cons, Nat.gcd_mul_left]
    exact GN_mul s l _
theorem lowered_loop : ∀ (l : List Int) (b : Nat), foldR m_lowered_b1 l (b : Int) = .ok ((GN b (l.map Int.natAbs) : Nat) : Int)
  | [], b => rfl
  | x :: l, b => by
    rw [foldR_cons]
    show (R.ok ((Int.gcd (b : Int) x : Nat) : Int) >>= fun s' => foldR m_lowered_b1 l s') = _
    simp only [R.ok_bind]
    exact lowered_loop l _
theorem mapR_ok {α β : Type} {f : α → R β} {g : α → β} : ∀ (l : List α), (∀ x ∈ l, f x = .ok (g x)) → mapR f l = .ok (l.map g)
  | [], _ => rfl
  | x :: l, h => by
    unfold mapR
    rw [h x List.mem_cons_self]
    show (mapR f l >>= fun bs => .ok (g x :: bs)) = _
    rw [mapR_ok l fun y hy => h y (List.mem_cons_of_mem _ hy)]
    rfl
theorem mapM_ok {α β : Type} {f : α → R β} {g : α → β} {l : List α} (hl : l.length < 16000000) (h : ∀ x ∈ l, f x = .ok (g x)) : mapM f l = .ok (l.map g) := by
  unfold mapM
  rw [if_pos hl, mapR_ok l h]
/-- numbers and a bottom above 0 brought down -/
structure LowV (A : List Int) (B : Nat) (l : List Int) (b : Nat) : Prop where
  pos : 1 ≤ B
  cop : GN B (A.map Int.natAbs) = 1
  ex : ∃ s : Nat, 0 < s ∧ b = s * B ∧ l = A.map ((s : Int) * ·)
theorem lowered_ok (l : List Int) (b : Nat) (hb : 0 < b) (sb : b < 2 ^ 8000) (hl : l.length < 16000000) : ∃ A B, m_lowered l (b : Int) = .ok (A, ((B : Nat) : Int)) ∧ LowV A B l b := by
  obtain ⟨d1, d2⟩ := GN_dvd (l.map Int.natAbs) b
  generalize hs : GN b (l.map Int.natAbs) = s at d1 d2
  have s0 : 0 < s := Nat.pos_of_dvd_of_pos d1 hb
  have sl : s ≤ b := Nat.le_of_dvd hb d1
  have ssz : Sz 8000 (s : Int) := by
    unfold Sz
    rw [Int.natAbs_natCast]
    exact Nat.lt_of_le_of_lt sl sb
  have eA : l = (l.map (·.fdiv (s : Int))).map ((s : Int) * ·) := by
    rw [List.map_map]
    conv => lhs; rw [← List.map_id l]
    refine List.map_congr_left fun x hx => ?_
    have hd : (s : Int) ∣ x := Int.ofNat_dvd_left.mpr (d2 x.natAbs (List.mem_map.mpr ⟨x, hx, rfl⟩))
    show x = (s : Int) * x.fdiv s
    rw [Int.mul_comm]
    exact (fdiv_mul hd (by omega)).symm
  have eB : b = s * (b / s) := (Nat.mul_div_cancel' d1).symm
  refine ⟨l.map (·.fdiv (s : Int)), b / s, ?_, Nat.div_pos sl s0, ?_, s, s0, eB, eA⟩
  · unfold m_lowered
    simp only [R.ok_bind]
    rw [lowered_loop, hs]
    simp only [R.ok_bind]
    rw [mapM_ok hl fun x _ => fdivS (x := x) (by omega) ssz]
    simp only [R.ok_bind]
    rw [fdivS (by omega) ssz]
    simp only [R.ok_bind]
    rw [Int.fdiv_eq_ediv_of_nonneg _ (by omega), Int.natCast_ediv]
  · have k := GN_mul s ((l.map (·.fdiv (s : Int))).map Int.natAbs) (b / s)
    rw [← eB] at k
    have em : ((l.map (·.fdiv (s : Int))).map Int.natAbs).map (s * ·) = l.map Int.natAbs := by
      conv => rhs; rw [eA]
      rw [List.map_map, List.map_map]
      conv => rhs; rw [List.map_map, List.map_map]
      refine List.map_congr_left fun x _ => ?_
      show s * (x.fdiv (s : Int)).natAbs = ((s : Int) * x.fdiv (s : Int)).natAbs
      rw [Int.natAbs_mul, Int.natAbs_natCast]
    rw [em, hs] at k
    have k2 : s * 1 = s * GN (b / s) ((l.map (·.fdiv (s : Int))).map Int.natAbs) := by omega
    exact (Nat.eq_of_mul_eq_mul_left s0 k2).symm
theorem vector_ok (l : List Int) (b : Int) (hb : b ≠ 0) (sb : Sz 8000 b) (hl : l.length < 16000000) : ∃ A B, m_vector l b = .ok (A, ((B : Nat) : Int)) ∧ 1 ≤ B ∧ GN B (A.map Int.natAbs) = 1 ∧ A.length = l.length ∧ ∃ s : Int, s ≠ 0 ∧ b = s * B ∧ l = A.map (s * ·) := by
  unfold m_vector
  rw [decide_eq_false hb]
  simp only [Bool.false_eq_true, if_false]
  by_cases hn : b < 0
  · rw [decide_eq_true hn]
    simp only [if_true, R.ok_bind]
    rw [mapM_ok (g := fun x => -x) hl fun x _ => rfl]
    simp only [R.ok_bind]
    obtain ⟨A, B, e, p, c, s, s0, eb, el⟩ := lowered_ok (l.map fun x => -x) b.natAbs (by omega) sb (by rw [List.length_map]; exact hl)
    have eb2 : -b = ((b.natAbs : Nat) : Int) := by omega
    rw [eb2]
    refine ⟨A, B, e, p, c, ?_, -(s : Int), by omega, ?_, ?_⟩
    · have := congrArg List.length el
      rw [List.length_map, List.length_map] at this
      exact this.symm
    · have k : ((b.natAbs : Nat) : Int) = ((s * B : Nat) : Int) := congrArg _ eb
      rw [Int.natCast_mul] at k
      rw [Int.neg_mul]
      omega
    · have k := congrArg (List.map fun x => -x) el
      rw [List.map_map, List.map_map] at k
      rw [show l.map ((fun x => -x) ∘ fun x => -x) = l from by
        conv => rhs; rw [← List.map_id l]
        refine List.map_congr_left fun x _ => ?_
        show - -x = x
        omega] at k
      rw [k]
      refine List.map_congr_left fun x _ => ?_
      show -((s : Int) * x) = -(s : Int) * x
      rw [Int.neg_mul]
  · rw [decide_eq_false hn]
    simp only [Bool.false_eq_true, if_false]
    obtain ⟨A, B, e, p, c, s, s0, eb, el⟩ := lowered_ok l b.natAbs (by omega) sb hl
    have eb2 : ((b.natAbs : Nat) : Int) = b := by omega
    rw [eb2] at e
    refine ⟨A, B, e, p, c, ?_, (s : Int), by omega, ?_, el⟩
    · have := congrArg List.length el
      rw [List.length_map] at this
      exact this.symm
    · have k : ((b.natAbs : Nat) : Int) = ((s * B : Nat) : Int) := congrArg _ eb
      rw [Int.natCast_mul] at k
      omega
theorem standsv_loop (A : List Int) (B : Int) (line : List Int) (low : Int) (hl : A.length = line.length) (sB : Sz 3000 B) (sl : Sz 3000 low) (sA : ∀ a ∈ A, Sz 3000 a) (sL : ∀ a ∈ line, Sz 3000 a)
    (he : ∀ (i : Nat) a x, A[i]? = some a → line[i]? = some x → a * low = x * B) : ∀ (m i : Nat) (s : Nat), i + m = A.length → s < 2 ^ 3000 → loopR (m_law_stands_vector_b1 (A, B) line low) (rangeL (i : Int) m) (s : Int) = .ok (.go ((GN s ((A.drop i).map Int.natAbs) : Nat) : Int))
  | 0, i, s, h, _ => by
    rw [List.drop_eq_nil_of_le (by omega)]
    rfl
  | m + 1, i, s, h, hs => by
    have hi : i < A.length := by omega
    have hi2 : i < line.length := by omega
    have ea : A[i]? = some A[i] := List.getElem?_eq_getElem hi
    have ex : line[i]? = some line[i] := List.getElem?_eq_getElem hi2
    have za : Sz 3000 A[i] := sA _ (List.getElem_mem hi)
    have zx : Sz 3000 line[i] := sL _ (List.getElem_mem hi2)
    have eg : m_law_gcd (s : Int) A[i] = .ok ((Nat.gcd s A[i].natAbs : Nat) : Int) := by
      rw [gcd_is, law_gcd_ok _ _ (za.up (n := 49999))]
      rfl
    have hstep : m_law_stands_vector_b1 (A, B) line low (s : Int) (i : Int) = .ok (.nxt ((Nat.gcd s A[i].natAbs : Nat) : Int)) := by
      unfold m_law_stands_vector_b1
      simp only [getM_nat ea, getM_nat ex, R.ok_bind, whole, Bool.not_true, Bool.false_eq_true, if_false]
      rw [mulS za sl]
      simp only [R.ok_bind]
      rw [mulS zx sB]
      simp only [R.ok_bind]
      rw [decide_eq_true (he i _ _ ea ex)]
      simp only [Bool.not_true, Bool.false_eq_true, if_false, eg, R.ok_bind]
    show (m_law_stands_vector_b1 (A, B) line low (s : Int) (i : Int) >>= _) = _
    rw [hstep]
    simp only [R.ok_bind]
    rw [List.drop_eq_getElem_cons hi, List.map_cons, GN_cons]
    have hg : Nat.gcd s A[i].natAbs < 2 ^ 3000 ∨ s = 0 := by
      by_cases z : s = 0
      · exact .inr z
      · exact .inl (Nat.lt_of_le_of_lt (Nat.gcd_le_left _ (by omega)) hs)
    have hg : Nat.gcd s A[i].natAbs < 2 ^ 3000 := by
      rcases hg with z | z
      · exact z
      · rw [z, Nat.gcd_zero_left]
        exact za
    exact standsv_loop A B line low hl sB sl sA sL he m (i + 1) _ (by omega) hg
theorem standsv_ok (A : List Int) (B : Nat) (line : List Int) (low : Int) (hB : 1 ≤ B) (hc : GN B (A.map Int.natAbs) = 1) (hl : A.length = line.length) (hn : line.length < 1000) (sB : Sz 3000 (B : Int)) (sl : Sz 3000 low) (sA : ∀ a ∈ A, Sz 3000 a) (sL : ∀ a ∈ line, Sz 3000 a)
    (he : ∀ (i : Nat) a x, A[i]? = some a → line[i]? = some x → a * low = x * B) : m_law_stands_vector (A, (B : Int)) line low = .ok true := by
  unfold m_law_stands_vector
  simp only [decide_true, Bool.not_true, Bool.or_false, Bool.false_eq_true, if_false, whole, R.ok_bind]
  rw [decide_eq_false (show ¬ (B : Int) < 1 by omega), decide_eq_true (show ((A.length : Nat) : Int) = ((line.length : Nat) : Int) by rw [hl])]
  simp only [Bool.not_true, Bool.or_false, Bool.false_eq_true, if_false, R.ok_bind]
  rw [rngM_ok (by omega) (by omega) (by omega) (by omega)]
  simp only [R.ok_bind]
  have e : ((line.length : Nat) : Int) - 0 = ((line.length : Nat) : Int) := by omega
  rw [e, Int.toNat_natCast]
  have k := standsv_loop A B line low hl sB sl sA sL he line.length 0 B (by omega) (by simpa [Sz] using sB)
  rw [show ((0 : Nat) : Int) = 0 from rfl] at k
  rw [k]
  simp only [R.ok_bind, List.drop_zero, hc]
  rfl
/-! ### what is drawn -/
theorem p9 : powM 10 9 = .ok 1000000000 := rfl
theorem p50 : powM 10 50 = .ok 100000000000000000000000000000000000000000000000000 := rfl
theorem p60 : powM 10 60 = .ok 1000000000000000000000000000000000000000000000000000000000000 := rfl
theorem m100 : mulM 100000000000000000000000000000000000000000000000000 100000000000000000000000000000000000000000000000000 = .ok 10000000000000000000000000000000000000000000000000000000000000000000000000000000000000000000000000000 := rfl
theorem sz_of {x : Int} {n : Nat} (b : Int) (h1 : -b < x) (h2 : x < b) (hb : b.natAbs ≤ 2 ^ n) : Sz n x := by
  unfold Sz
  omega
theorem dig {sizes row : List Int} (h : Digs sizes row) (i : Nat) (j : Int) (z : Int) (hz : sizes[i]? = some z) (e : j = (i : Int)) : ∃ d, getM row j = .ok d ∧ 0 ≤ d ∧ d < z := by
  obtain ⟨d, h1, h2⟩ := h.2 i z hz
  exact ⟨d, getM_of e h1, h2⟩
theorem far_ok (k n : Int) (h0 : 0 ≤ n) (h1 : n < 10000000000000000000000000000000000000000000000000000000000000000000000000000000000000000000000000000) : ∃ r, m_law_far k n = .ok r ∧ 0 ≤ r ∧ r < 10000000000000000000000000000000000000000000000000000000000000000000000000000000000000000000000000000 := by
  unfold m_law_far
  by_cases k0 : k = 0
  · rw [decide_eq_true k0]
    simp only [if_true]
    rw [modM_ok (by decide)]
    have := fmod_pos (x := n) (y := 4) (by decide)
    exact ⟨_, rfl, this.1, by omega⟩
  rw [decide_eq_false k0]
  simp only [Bool.false_eq_true, if_false]
  by_cases k1 : k = 1
  · rw [decide_eq_true k1]
    simp only [if_true]
    rw [modM_ok (by decide)]
    have := fmod_pos (x := n) (y := 1000) (by decide)
    exact ⟨_, rfl, this.1, by omega⟩
  rw [decide_eq_false k1]
  simp only [Bool.false_eq_true, if_false]
  by_cases k2 : k = 2
  · rw [decide_eq_true k2]
    exact ⟨n, rfl, h0, h1⟩
  rw [decide_eq_false k2]
  simp only [Bool.false_eq_true, if_false]
  rw [modM_ok (by decide), modM_ok (by decide), p60]
  simp only [R.ok_bind]
  have a := fmod_pos (x := n) (y := 1000) (by decide)
  have b := fmod_pos (x := n) (y := 7) (by decide)
  generalize n.fmod 1000 = x at a ⊢
  generalize n.fmod 7 = y at b ⊢
  rw [mulS (sz_of 1000 (by omega) (by omega) (n := 10) (by decide)) (sz_of 1000000000000000000000000000000000000000000000000000000000001 (by decide) (by decide) (n := 210) (by decide))]
  exact ⟨_, rfl, by omega, by omega⟩
theorem ratio_ok (cell : Int) : ∃ t b, m_law_draw_ratio cell = .ok [t, b] ∧ 1 ≤ b ∧ b ≤ 10000000000000000000000000000000000000000000000000000000000000000000000000000000000000000000000000000 ∧ -10000000000000000000000000000000000000000000000000000000000000000000000000000000000000000000000000000 < t ∧ t < 10000000000000000000000000000000000000000000000000000000000000000000000000000000000000000000000000000 := by
  unfold m_law_draw_ratio
  simp only [p50, m100, R.ok_bind]
  obtain ⟨row, hr, hd⟩ := law_digits_ok cell [4, 5, 2, 10000000000000000000000000000000000000000000000000000000000000000000000000000000000000000000000000000, 10000000000000000000000000000000000000000000000000000000000000000000000000000000000000000000000000000, 5] (by decide) (by decide +kernel)
  rw [digits_is, hr]
  simp only [R.ok_bind]
  obtain ⟨d0, e0, l0, u0⟩ := dig hd 0 0 4 rfl rfl
  obtain ⟨d1, e1, l1, u1⟩ := dig hd 1 1 5 rfl rfl
  obtain ⟨d2, e2, l2, u2⟩ := dig hd 2 2 2 rfl rfl
  obtain ⟨d3, e3, l3, u3⟩ := dig hd 3 3 10000000000000000000000000000000000000000000000000000000000000000000000000000000000000000000000000000 rfl rfl
  obtain ⟨d4, e4, l4, u4⟩ := dig hd 4 4 10000000000000000000000000000000000000000000000000000000000000000000000000000000000000000000000000000 rfl rfl
  obtain ⟨d5, e5, l5, u5⟩ := dig hd 5 5 5 rfl rfl
  obtain ⟨t, ht, t0, t1⟩ := far_ok d0 d3 l3 u3
  simp only [e0, e1, e2, e3, e4, e5, ht, R.ok_bind]
  have hj : ∃ j : Int, ((if decide (d2 = 1) = true then R.ok (-t) >>= fun top => R.ok top else R.ok t) : R Int) = .ok j ∧ -10000000000000000000000000000000000000000000000000000000000000000000000000000000000000000000000000000 < j ∧ j < 10000000000000000000000000000000000000000000000000000000000000000000000000000000000000000000000000000 := by
    by_cases z : d2 = 1
    · rw [decide_eq_true z]
      exact ⟨-t, rfl, by omega, by omega⟩
    · rw [decide_eq_false z]
      exact ⟨t, rfl, by omega, by omega⟩
  obtain ⟨j, hj, j0, j1⟩ := hj
  simp only [R.ok_bind] at hj
  rw [hj]
  simp only [R.ok_bind]
  by_cases z : d5 = 3
  · rw [decide_eq_true z]
    exact ⟨j, 1, rfl, by omega, by omega, j0, j1⟩
  · rw [decide_eq_false z]
    simp only [Bool.false_eq_true, if_false]
    obtain ⟨r, hr2, r0, r1⟩ := far_ok (if d1 - 1 > 1 then d1 - 1 else 1) d4 l4 u4
    rw [hr2]
    simp only [R.ok_bind]
    exact ⟨j, 1 + r, rfl, by omega, by omega, j0, j1⟩
theorem second_ok (k a b c d : Int) (hb : 1 ≤ b ∧ b ≤ 10000000000000000000000000000000000000000000000000000000000000000000000000000000000000000000000000000) (ha : -10000000000000000000000000000000000000000000000000000000000000000000000000000000000000000000000000000 < a ∧ a < 10000000000000000000000000000000000000000000000000000000000000000000000000000000000000000000000000000) (hd : 1 ≤ d ∧ d ≤ 10000000000000000000000000000000000000000000000000000000000000000000000000000000000000000000000000000) (hc : -10000000000000000000000000000000000000000000000000000000000000000000000000000000000000000000000000000 < c ∧ c < 10000000000000000000000000000000000000000000000000000000000000000000000000000000000000000000000000000) : ∃ x y, m_law_second k [a, b] [c, d] = .ok [x, y] ∧ 1 ≤ y ∧ y ≤ 10000000000000000000000000000000000000000000000000000000000000000000000000000000000000000000000000000 + 1 ∧ -10000000000000000000000000000000000000000000000000000000000000000000000000000000000000000000000000000 < x ∧ x < 10000000000000000000000000000000000000000000000000000000000000000000000000000000000000000000000000000 + 1 := by
  unfold m_law_second
  simp only [g0, g1, R.ok_bind]
  by_cases k3 : k = 3
  · rw [decide_eq_true k3]
    exact ⟨a, b, rfl, by omega, by omega, by omega, by omega⟩
  rw [decide_eq_false k3]
  simp only [Bool.false_eq_true, if_false]
  by_cases k4 : k = 4
  · rw [decide_eq_true k4]
    exact ⟨a + 1, b, rfl, by omega, by omega, by omega, by omega⟩
  rw [decide_eq_false k4]
  simp only [Bool.false_eq_true, if_false]
  by_cases k5 : k = 5
  · rw [decide_eq_true k5]
    exact ⟨-a, b, rfl, by omega, by omega, by omega, by omega⟩
  rw [decide_eq_false k5]
  simp only [Bool.false_eq_true, if_false]
  by_cases k6 : k = 6
  · rw [decide_eq_true k6]
    exact ⟨a, b + 1, rfl, by omega, by omega, by omega, by omega⟩
  rw [decide_eq_false k6]
  exact ⟨c, d, rfl, by omega, by omega, by omega, by omega⟩
theorem handed_ok (a b f k : Int) (sa : Sz 400 a) (sb : Sz 400 b) (sf : Sz 40 f) : m_law_handed [a, b] f k = .ok [a * f, b * f] := by
  unfold m_law_handed
  simp only [g0, g1, R.ok_bind]
  rw [mulS sa sf, mulS sb sf]
  simp only [R.ok_bind]
  by_cases h : k = 1
  · rw [decide_eq_true h]
    rfl
  · rw [decide_eq_false h]
    rfl
theorem line_step (row : List Int) (hd : Digs ([11, 4, 9] ++ List.flatten (List.replicate 10 [2000001])) row) (s : List Int) (k : Nat) (hk : k < 10) (hl : s.length < 1000) : ∃ x, m_law_draw_line_b1 row s (k : Int) = .ok (s ++ [x]) ∧ Sz 100 x := by
  obtain ⟨d1, e1, l1, u1⟩ := dig hd 1 1 4 rfl rfl
  obtain ⟨d2, e2, l2, u2⟩ := dig hd 2 2 9 rfl rfl
  have hz : ([11, 4, 9] ++ List.flatten (List.replicate 10 [(2000001 : Int)]))[3 + k]? = some 2000001 := by
    have : k = 0 ∨ k = 1 ∨ k = 2 ∨ k = 3 ∨ k = 4 ∨ k = 5 ∨ k = 6 ∨ k = 7 ∨ k = 8 ∨ k = 9 := by omega
    rcases this with h | h | h | h | h | h | h | h | h | h <;> subst h <;> rfl
  obtain ⟨d, e, l, u⟩ := dig hd (3 + k) (3 + (k : Int)) 2000001 hz (by omega)
  unfold m_law_draw_line_b1
  simp only [e, e1, e2, R.ok_bind]
  rw [modM_ok (x := d) (y := 7) (by decide)]
  rw [modM_ok (x := d) (y := 11) (by decide)]
  have a7 := fmod_pos (x := d) (y := 7) (by decide)
  have a11 := fmod_pos (x := d) (y := 11) (by decide)
  generalize d.fmod 7 = x7 at a7 ⊢
  generalize d.fmod 11 = x11 at a11 ⊢
  simp only [R.ok_bind]
  have h1 : ∃ j, ((if decide (d1 = 0) = true then R.ok (x7 - 3) else R.ok (d - 1000000)) : R Int) = .ok j ∧ -1000001 < j ∧ j < 1000001 := by
    by_cases z : d1 = 0
    · rw [decide_eq_true z]
      exact ⟨_, rfl, by omega, by omega⟩
    · rw [decide_eq_false z]
      exact ⟨_, rfl, by omega, by omega⟩
  obtain ⟨j, hj, j0, j1⟩ := h1
  rw [hj]
  simp only [R.ok_bind]
  rw [mulS (sz_of 1000001 (by omega) (by omega) (n := 30) (by decide)) (sz_of 100001 (by decide) (by decide) (n := 30) (by decide))]
  simp only [R.ok_bind]
  have h2 : ∃ j2, ((if decide (d1 = 2) = true then R.ok (j * 100000 + x11) else R.ok j) : R Int) = .ok j2 ∧ -1000000000000 < j2 ∧ j2 < 1000000000000 := by
    by_cases z : d1 = 2
    · rw [decide_eq_true z]
      exact ⟨_, rfl, by omega, by omega⟩
    · rw [decide_eq_false z]
      exact ⟨_, rfl, by omega, by omega⟩
  obtain ⟨j2, hj2, j20, j21⟩ := h2
  rw [hj2]
  simp only [R.ok_bind]
  have h3 : ∃ j3, ((if decide (d1 = 3) = true then R.ok (!decide ((k : Int) = 1)) else R.ok false) >>= fun z20 => ((if z20 = true then R.ok (0 : Int) else R.ok j2) : R Int)) = .ok j3 ∧ -1000000000000 < j3 ∧ j3 < 1000000000000 := by
    by_cases z : d1 = 3
    · rw [decide_eq_true z]
      simp only [if_true, R.ok_bind]
      by_cases y : (k : Int) = 1
      · rw [decide_eq_true y]
        exact ⟨j2, rfl, by omega, by omega⟩
      · rw [decide_eq_false y]
        exact ⟨0, rfl, by omega, by omega⟩
    · rw [decide_eq_false z]
      exact ⟨j2, rfl, by omega, by omega⟩
  obtain ⟨j3, hj3, j30, j31⟩ := h3
  rw [← R.bind_assoc, hj3]
  simp only [R.ok_bind]
  have s3 : Sz 60 j3 := sz_of 1000000000000 (by omega) (by omega) (by decide)
  have sq : Sz 10 (1 + d2) := sz_of 20 (by omega) (by omega) (by decide)
  rw [mulS s3 sq]
  simp only [R.ok_bind]
  rw [appM_ok (by omega)]
  exact ⟨_, rfl, (s3.mul sq).up⟩
theorem line_loop (row : List Int) (hd : Digs ([11, 4, 9] ++ List.flatten (List.replicate 10 [2000001])) row) : ∀ (m i : Nat) (s : List Int), i + m ≤ 10 → s.length = i → (∀ x ∈ s, Sz 100 x) → ∃ l, foldR (m_law_draw_line_b1 row) (rangeL (i : Int) m) s = .ok l ∧ l.length = i + m ∧ ∀ x ∈ l, Sz 100 x
  | 0, i, s, _, h, k => ⟨s, rfl, by omega, k⟩
  | m + 1, i, s, h, hl, k => by
    obtain ⟨x, e, sx⟩ := line_step row hd s i (by omega) (by omega)
    obtain ⟨l, e2, h2, k2⟩ := line_loop row hd m (i + 1) (s ++ [x]) (by omega) (by rw [List.length_append, hl]; rfl) (fun y hy => by
      rcases List.mem_append.mp hy with hy | hy
      · exact k y hy
      · rw [List.mem_singleton.mp hy]; exact sx)
    refine ⟨l, ?_, by omega, k2⟩
    show (m_law_draw_line_b1 row s (i : Int) >>= fun s' => foldR (m_law_draw_line_b1 row) (rangeL ((i : Int) + 1) m) s') = _
    rw [e]
    exact e2
theorem line_ok (cell : Int) : ∃ l q, m_law_draw_line cell = .ok (l, q) ∧ l.length ≤ 10 ∧ (∀ x ∈ l, Sz 100 x) ∧ 1 ≤ q ∧ q ≤ 9 := by
  unfold m_law_draw_line
  have e1 : repM ((2000001 : Int) :: []) 10 = .ok (List.flatten (List.replicate 10 [2000001])) := rfl
  have e2 : catM ((11 : Int) :: ((4 : Int) :: ((9 : Int) :: []))) (List.flatten (List.replicate 10 [2000001])) = .ok ([11, 4, 9] ++ List.flatten (List.replicate 10 [2000001])) := rfl
  rw [e1]
  simp only [R.ok_bind]
  rw [e2]
  simp only [R.ok_bind]
  obtain ⟨row, hr, hd⟩ := law_digits_ok cell ([11, 4, 9] ++ List.flatten (List.replicate 10 [2000001])) (by decide) (by decide +kernel)
  rw [digits_is, hr]
  simp only [R.ok_bind]
  obtain ⟨d0, e0, l0, u0⟩ := dig hd 0 0 11 rfl rfl
  obtain ⟨d2, f2, l2, u2⟩ := dig hd 2 2 9 rfl rfl
  simp only [e0, f2, R.ok_bind]
  rw [rngM_ok (by omega) (by omega) (by omega) (by omega)]
  simp only [R.ok_bind]
  obtain ⟨l, hl, ll, lk⟩ := line_loop row hd (d0 - 0).toNat 0 [] (by omega) rfl (fun x h => by simp at h)
  rw [show ((0 : Nat) : Int) = 0 from rfl] at hl
  rw [hl]
  exact ⟨l, 1 + d2, rfl, by omega, lk, by omega, by omega⟩
/-! ### the errors -/
theorem kind_ok : m_law_is_kind ⟨"ZeroBottom", []⟩ 0 = .ok true := by
  unfold m_law_is_kind m_law_kinds
  rfl
theorem no_fraction_ok (t : Int) : m_law_no_fraction t = .ok true := by
  unfold m_law_no_fraction
  have e : m_fraction t 0 = .exn ⟨"ZeroBottom", []⟩ := by
    unfold m_fraction
    rfl
  rw [e]
  show (R.nox (m_law_is_kind ⟨"ZeroBottom", []⟩ 0 >>= fun b => R.ok (.ret b)) >>= Out.cs (fun (s1 : Unit) => R.ok false) (fun b => R.ok b)) = _
  rw [kind_ok]
  rfl
theorem no_vector_ok (l : List Int) : m_law_no_vector l = .ok true := by
  unfold m_law_no_vector
  have e : m_vector l 0 = .exn ⟨"ZeroBottom", []⟩ := by
    unfold m_vector
    rfl
  rw [e]
  show (R.nox (m_law_is_kind ⟨"ZeroBottom", []⟩ 0 >>= fun b => R.ok (.ret b)) >>= Out.cs (fun (s1 : Unit) => R.ok false) (fun b => R.ok b)) = _
  rw [kind_ok]
  rfl
/-! ### the law -/
theorem sums_ok (a b c d f g : Int) (hb : 1 ≤ b) (hd : 1 ≤ d) (hf : 0 < f) (hg : 0 < g) (sa : Sz 400 a) (sb : Sz 400 b) (sc : Sz 400 c) (sd : Sz 400 d) (sf : Sz 40 f) (sg : Sz 40 g) :
    ∃ A B, m_added [a * f, b * f] [c * g, d * g] = .ok (A, B) ∧ m_law_stands (A, B) (a * d + c * b) (b * d) = .ok true := by
  have hbf : 0 < b * f := Int.mul_pos (by omega) hf
  have hdg : 0 < d * g := Int.mul_pos (by omega) hg
  have hfg : 0 < f * g := Int.mul_pos hf hg
  have saf := (sa.mul sf)
  have sbf := (sb.mul sf)
  have scg := (sc.mul sg)
  have sdg := (sd.mul sg)
  obtain ⟨A, B, e, l⟩ := fraction_ok (a * f * (d * g) + c * g * (b * f)) (b * f * (d * g)) (by have := Int.mul_pos hbf hdg; omega) ((sbf.mul sdg).up)
  have sx : Sz 3000 A := Nat.lt_of_le_of_lt l.sa (((saf.mul sdg).add (scg.mul sbf)).up (n := 3000))
  have sy : Sz 3000 B := Nat.lt_of_le_of_lt l.sb ((sbf.mul sdg).up (n := 3000))
  refine ⟨A, B, ?_, stands_ok l.pos l.cop ?_ sx sy ((sb.mul sd).up) (((sa.mul sd).add (sc.mul sb)).up)⟩
  · unfold m_added
    simp only [g0, g1, R.ok_bind]
    rw [mulS saf sdg]
    simp only [R.ok_bind]
    rw [mulS scg sbf]
    simp only [R.ok_bind]
    rw [mulS sbf sdg]
    exact e
  · have q := l.eq
    have e1 : A * (b * f * (d * g)) = (f * g) * (A * (b * d)) := by ac_rfl
    have e2 : (a * f * (d * g) + c * g * (b * f)) * B = (f * g) * ((a * d + c * b) * B) := by
      rw [Int.add_mul, Int.add_mul, Int.mul_add]
      congr 1 <;> ac_rfl
    rw [e1, e2] at q
    exact Int.eq_of_mul_eq_mul_left (by omega) q
theorem products_ok (a b c d f g : Int) (hb : 1 ≤ b) (hd : 1 ≤ d) (hf : 0 < f) (hg : 0 < g) (sa : Sz 400 a) (sb : Sz 400 b) (sc : Sz 400 c) (sd : Sz 400 d) (sf : Sz 40 f) (sg : Sz 40 g) :
    ∃ A B, m_multiplied [c * g, d * g] [a * f, b * f] = .ok (A, B) ∧ m_law_stands (A, B) (a * c) (b * d) = .ok true := by
  have hbf : 0 < b * f := Int.mul_pos (by omega) hf
  have hdg : 0 < d * g := Int.mul_pos (by omega) hg
  have saf := (sa.mul sf)
  have sbf := (sb.mul sf)
  have scg := (sc.mul sg)
  have sdg := (sd.mul sg)
  obtain ⟨A, B, e, l⟩ := fraction_ok (c * g * (a * f)) (d * g * (b * f)) (by have := Int.mul_pos hdg hbf; omega) ((sdg.mul sbf).up)
  have sx : Sz 3000 A := Nat.lt_of_le_of_lt l.sa ((scg.mul saf).up (n := 3000))
  have sy : Sz 3000 B := Nat.lt_of_le_of_lt l.sb ((sdg.mul sbf).up (n := 3000))
  refine ⟨A, B, ?_, stands_ok l.pos l.cop ?_ sx sy ((sb.mul sd).up) ((sa.mul sc).up)⟩
  · unfold m_multiplied
    simp only [g0, g1, R.ok_bind]
    rw [mulS scg saf]
    simp only [R.ok_bind]
    rw [mulS sdg sbf]
    exact e
  · have q := l.eq
    have e1 : A * (d * g * (b * f)) = (f * g) * (A * (b * d)) := by ac_rfl
    have e2 : c * g * (a * f) * B = (f * g) * (a * c * B) := by ac_rfl
    rw [e1, e2] at q
    have hfg : 0 < f * g := Int.mul_pos hf hg
    exact Int.eq_of_mul_eq_mul_left (by omega) q
theorem single_ok (a b s f : Int) (hb : 1 ≤ b) (hs : s = 1 ∨ s = -1) (hf : 0 < f) (sa : Sz 400 a) (sb : Sz 400 b) (sf : Sz 40 f) :
    ∃ A B, m_fraction (a * f) (s * b * f) = .ok (A, B) ∧ m_law_stands (A, B) (s * a) b = .ok true := by
  have ss : Sz 2 s := sz_of 2 (by omega) (by omega) (by decide)
  have hn : s * b * f ≠ 0 := by
    have := Int.mul_pos (show (0 : Int) < b by omega) hf
    rcases hs with rfl | rfl
    · rw [Int.one_mul]; omega
    · rw [Int.neg_mul, Int.one_mul, Int.neg_mul]; omega
  obtain ⟨A, B, e, l⟩ := fraction_ok (a * f) (s * b * f) hn (((ss.mul sb).mul sf).up)
  have sx : Sz 3000 A := Nat.lt_of_le_of_lt l.sa ((sa.mul sf).up (n := 3000))
  have sy : Sz 3000 B := Nat.lt_of_le_of_lt l.sb (((ss.mul sb).mul sf).up (n := 3000))
  refine ⟨A, B, e, stands_ok l.pos l.cop ?_ sx sy (sb.up) ((ss.mul sa).up)⟩
  have q := l.eq
  have e3 : s * s = 1 := by rcases hs with rfl | rfl <;> rfl
  have e1 : A * (s * b * f) = f * (s * (A * b)) := by ac_rfl
  have e2 : a * f * B = f * (s * (s * a * B)) := by
    calc a * f * B = f * (1 * (a * B)) := by rw [Int.one_mul]; ac_rfl
      _ = f * (s * s * (a * B)) := by rw [e3]
      _ = f * (s * (s * a * B)) := by ac_rfl
  rw [e1, e2] at q
  have q2 := Int.eq_of_mul_eq_mul_left (by omega) q
  exact Int.eq_of_mul_eq_mul_left (by omega) q2
theorem law_vec (l : List Int) (low : Int) (h0 : low ≠ 0) (sl : Sz 2000 low) (hl : l.length ≤ 10) (hk : ∀ x ∈ l, Sz 100 x) : ∃ V, m_vector l low = .ok V ∧ m_law_stands_vector V l low = .ok true := by
  obtain ⟨A, B, e, p, c, ll, s, s0, eb, el⟩ := vector_ok l low h0 (sl.up) (by omega)
  have big : ∀ x : Int, x.natAbs ≤ (s * x).natAbs := fun x => by
    rw [Int.natAbs_mul]
    exact Nat.le_mul_of_pos_left _ (by omega)
  have sB : Sz 3000 (B : Int) := by
    have k := big (B : Int)
    rw [← eb] at k
    exact Nat.lt_of_le_of_lt k (sl.up (n := 3000))
  have sA : ∀ a ∈ A, Sz 3000 a := fun a ha => by
    have hm : s * a ∈ l := by
      rw [el]
      exact List.mem_map.mpr ⟨a, ha, rfl⟩
    exact Nat.lt_of_le_of_lt (big a) ((hk _ hm).up (n := 3000))
  refine ⟨_, e, standsv_ok A B l low p c ll (by omega) sB (sl.up) sA (fun x hx => (hk x hx).up) fun i a x ha hx => ?_⟩
  rw [el, List.getElem?_map, ha] at hx
  have hx2 : s * a = x := Option.some.inj hx
  rw [← hx2, eb]
  ac_rfl
theorem cell_ok (ns : List Int) (k : Int) (h0 : 0 ≤ k) (h1 : k ≤ 100000) : ∃ v, m_law_cell ns k = .ok v := by
  obtain ⟨v, hv⟩ := law_cell_ok ns k.toNat (by omega)
  rw [show ((k.toNat : Nat) : Int) = k by omega] at hv
  exact ⟨v, by rw [cell_is]; exact hv⟩
theorem law_ok (ns : List Int) : m_law ns = .ok true := by
  obtain ⟨v0, e0⟩ := cell_ok ns 0 (by decide) (by decide)
  obtain ⟨v1, e1⟩ := cell_ok ns 1 (by decide) (by decide)
  obtain ⟨v2, e2⟩ := cell_ok ns 2 (by decide) (by decide)
  obtain ⟨v3, e3⟩ := cell_ok ns 3 (by decide) (by decide)
  obtain ⟨v4, e4⟩ := cell_ok ns 4 (by decide) (by decide)
  obtain ⟨v5, e5⟩ := cell_ok ns 5 (by decide) (by decide)
  obtain ⟨row, hr, hd⟩ := law_digits_ok v0 [7, 2, 2, 2, 2, 3, 1000000000, 1000000000, 2, 2] (by decide) (by decide +kernel)
  rw [← digits_is] at hr
  obtain ⟨d0, i0, l0, u0⟩ := dig hd 0 0 7 rfl rfl
  obtain ⟨d1, i1, l1, u1⟩ := dig hd 1 1 2 rfl rfl
  obtain ⟨d2, i2, l2, u2⟩ := dig hd 2 2 2 rfl rfl
  obtain ⟨d3, i3, l3, u3⟩ := dig hd 3 3 2 rfl rfl
  obtain ⟨d5, i5, l5, u5⟩ := dig hd 5 5 3 rfl rfl
  obtain ⟨d6, i6, l6, u6⟩ := dig hd 6 6 1000000000 rfl rfl
  obtain ⟨d7, i7, l7, u7⟩ := dig hd 7 7 1000000000 rfl rfl
  obtain ⟨d8, i8, l8, u8⟩ := dig hd 8 8 2 rfl rfl
  obtain ⟨d9, i9, l9, u9⟩ := dig hd 9 9 2 rfl rfl
  obtain ⟨a, b, r1, b1, b2, a1, a2⟩ := ratio_ok v1
  obtain ⟨p, q, r2, q1, q2, p1, p2⟩ := ratio_ok v2
  obtain ⟨t, w, r3, w1, w2, t1, t2⟩ := ratio_ok v3
  obtain ⟨y, z, r5, z1, z2, y1, y2⟩ := ratio_ok v5
  obtain ⟨c, d, rs, c1, c2, c3, c4⟩ := second_ok d0 a b p q ⟨b1, b2⟩ ⟨a1, a2⟩ ⟨q1, q2⟩ ⟨p1, p2⟩
  obtain ⟨line, m, rl, ll, lk, m1, m2⟩ := line_ok v4
  have big : (20000000000000000000000000000000000000000000000000000000000000000000000000000000000000000000000000000 : Int).natAbs ≤ 2 ^ 400 := by decide
  have sa : Sz 400 a := sz_of _ (by omega) (by omega) big
  have sb : Sz 400 b := sz_of _ (by omega) (by omega) big
  have sc : Sz 400 c := sz_of _ (by omega) (by omega) big
  have sd : Sz 400 d := sz_of _ (by omega) (by omega) big
  have st : Sz 400 t := sz_of _ (by omega) (by omega) big
  have sw : Sz 400 w := sz_of _ (by omega) (by omega) big
  have sz : Sz 400 z := sz_of _ (by omega) (by omega) big
  -- the factors
  have hf : ∃ f : Int, (mulM d6 (if (!decide (d5 = 0)) = true then 1 else 0) >>= fun y18 => R.ok (1 + y18)) = .ok f ∧ 1 ≤ f ∧ f ≤ 1000000000 := by
    by_cases h : d5 = 0
    · rw [decide_eq_true h]
      simp only [Bool.not_true, Bool.false_eq_true, if_false]
      rw [mulS (sz_of 1000000000 (by omega) (by omega) (n := 30) (by decide)) (sz_of 1 (by decide) (by decide) (n := 1) (by decide))]
      exact ⟨_, rfl, by omega, by omega⟩
    · rw [decide_eq_false h]
      simp only [Bool.not_false, if_true]
      rw [mulS (sz_of 1000000000 (by omega) (by omega) (n := 30) (by decide)) (sz_of 2 (by decide) (by decide) (n := 1) (by decide))]
      exact ⟨_, rfl, by omega, by omega⟩
  obtain ⟨f, hf, f1, f2⟩ := hf
  have hg : ∃ f : Int, (mulM d7 (if (!decide (d5 = 1)) = true then 1 else 0) >>= fun y18 => R.ok (1 + y18)) = .ok f ∧ 1 ≤ f ∧ f ≤ 1000000000 := by
    by_cases h : d5 = 1
    · rw [decide_eq_true h]
      simp only [Bool.not_true, Bool.false_eq_true, if_false]
      rw [mulS (sz_of 1000000000 (by omega) (by omega) (n := 30) (by decide)) (sz_of 1 (by decide) (by decide) (n := 1) (by decide))]
      exact ⟨_, rfl, by omega, by omega⟩
    · rw [decide_eq_false h]
      simp only [Bool.not_false, if_true]
      rw [mulS (sz_of 1000000000 (by omega) (by omega) (n := 30) (by decide)) (sz_of 2 (by decide) (by decide) (n := 1) (by decide))]
      exact ⟨_, rfl, by omega, by omega⟩
  obtain ⟨g, hg, g1', g2'⟩ := hg
  have sf : Sz 40 f := sz_of 1000000001 (by omega) (by omega) (by decide)
  have sg : Sz 40 g := sz_of 1000000001 (by omega) (by omega) (by decide)
  obtain ⟨A, B, hA, kA⟩ := sums_ok a b c d f g b1 c1 (by omega) (by omega) sa sb sc sd sf sg
  obtain ⟨A2, B2, hA2, kA2⟩ := products_ok a b c d f g b1 c1 (by omega) (by omega) sa sb sc sd sf sg
  have n1 := numbers_ok a b c d f g (by omega) (by omega) (by omega) (by omega) sa sb sc sd sf sg
  have n2 := numbers_ok c d a b g f (by omega) (by omega) (by omega) (by omega) sc sd sa sb sg sf
  have sh : Sz 40 (1 + d6) := sz_of 1000000001 (by omega) (by omega) (by decide)
  have h8 : 1 - 2 * d8 = 1 ∨ 1 - 2 * d8 = -1 := by omega
  have h9 : 1 - 2 * d9 = 1 ∨ 1 - 2 * d9 = -1 := by omega
  obtain ⟨A3, B3, hA3, kA3⟩ := single_ok t w (1 - 2 * d8) (1 + d6) w1 h8 (by omega) st sw sh
  have s8 : Sz 2 (1 - 2 * d8) := sz_of 2 (by omega) (by omega) (by decide)
  have s9 : Sz 2 (1 - 2 * d9) := sz_of 2 (by omega) (by omega) (by decide)
  have sm : Sz 10 m := sz_of 10 (by omega) (by omega) (by decide)
  have sl : Sz 2000 ((1 - 2 * d9) * m * z) := ((s9.mul sm).mul sz).up
  have hl0 : (1 - 2 * d9) * m * z ≠ 0 := by
    have := Int.mul_pos (show (0 : Int) < m by omega) (show (0 : Int) < z by omega)
    rcases h9 with h | h <;> rw [h]
    · rw [Int.one_mul]; omega
    · rw [Int.neg_mul, Int.one_mul, Int.neg_mul]; omega
  obtain ⟨V, hV, kV⟩ := law_vec line _ hl0 sl ll lk
  unfold m_law
  simp only [e0, e1, e2, e3, e4, e5, p9, R.ok_bind, hr, i0, i1, i2, i3, i5, i6, i7, i8, i9, r1, r2, r3, r5, rs, rl, hf, hg, handed_ok a b f _ sa sb sf, handed_ok c d g _ sc sd sg, g0, g1, hA]
  have M1 : mulM a d = .ok (a * d) := mulS sa sd
  have M2 : mulM c b = .ok (c * b) := mulS sc sb
  have M3 : mulM b d = .ok (b * d) := mulS sb sd
  have M4 : mulM a c = .ok (a * c) := mulS sa sc
  have M5 : mulM 2 d8 = .ok (2 * d8) := mulS (sz_of 3 (by decide) (by decide) (n := 2) (by decide)) (sz_of 2 (by omega) (by omega) (n := 1) (by decide))
  have M6 : mulM 2 d9 = .ok (2 * d9) := mulS (sz_of 3 (by decide) (by decide) (n := 2) (by decide)) (sz_of 2 (by omega) (by omega) (n := 1) (by decide))
  have M7 : mulM t (1 + d6) = .ok (t * (1 + d6)) := mulS st sh
  have M8 : mulM (1 - 2 * d8) w = .ok ((1 - 2 * d8) * w) := mulS s8 sw
  have M9 : mulM ((1 - 2 * d8) * w) (1 + d6) = .ok ((1 - 2 * d8) * w * (1 + d6)) := mulS (s8.mul sw) sh
  have M10 : mulM (1 - 2 * d8) t = .ok ((1 - 2 * d8) * t) := mulS s8 st
  have M11 : mulM (1 - 2 * d9) m = .ok ((1 - 2 * d9) * m) := mulS s9 sm
  have M12 : mulM ((1 - 2 * d9) * m) z = .ok ((1 - 2 * d9) * m * z) := mulS (s9.mul sm) sz
  have iL : ((if decide (d3 = 1) = true then R.ok line else R.ok line) : R (List Int)) = .ok line := by
    by_cases h : d3 = 1
    · rw [decide_eq_true h]; rfl
    · rw [decide_eq_false h]; rfl
  simp only [M1, M2, M3, M4, M5, M6, M7, M8, M9, M10, M11, M12, R.ok_bind, kA, hA2, kA2, n1, n2, hA3, kA3, iL, hV, kV, no_fraction_ok, no_vector_ok, Bool.not_true, Bool.false_eq_true, if_false, if_true, decide_true]
end Lw
set_option maxHeartbeats 0
/-! # law_k00_ratios: the text's places, the head -/
namespace Lw
open PySem PySem.Spec PyProof.Rows L2 Zk
def top (i : Nat) : Stmt := PySem.Challenge.pw_fourcords_k00_ratios.main.body.getD i (.Pass ⟨0, 0, 0, 0⟩)
abbrev s__law_cell : Stmt := top 34
def d__law_cell : He.DefD := ⟨("_law_cell", none), "_law_cell", "_law_cell", defArgs s__law_cell, defBody s__law_cell, defScope s__law_cell, [], []⟩
abbrev di__law_cell : Nat := 0
abbrev gi__law_cell : Nat := 0
abbrev s__law_digits : Stmt := top 35
def d__law_digits : He.DefD := ⟨("_law_digits", none), "_law_digits", "_law_digits", defArgs s__law_digits, defBody s__law_digits, defScope s__law_digits, [], []⟩
abbrev di__law_digits : Nat := 1
abbrev gi__law_digits : Nat := 1
abbrev s__law_draw_line : Stmt := top 43
def d__law_draw_line : He.DefD := ⟨("_law_draw_line", none), "_law_draw_line", "_law_draw_line", defArgs s__law_draw_line, defBody s__law_draw_line, defScope s__law_draw_line, [], []⟩
abbrev di__law_draw_line : Nat := 2
abbrev gi__law_draw_line : Nat := 2
abbrev s__law_far : Stmt := top 39
def d__law_far : He.DefD := ⟨("_law_far", none), "_law_far", "_law_far", defArgs s__law_far, defBody s__law_far, defScope s__law_far, [], []⟩
abbrev di__law_far : Nat := 3
abbrev gi__law_far : Nat := 3
abbrev s__law_draw_ratio : Stmt := top 40
def d__law_draw_ratio : He.DefD := ⟨("_law_draw_ratio", none), "_law_draw_ratio", "_law_draw_ratio", defArgs s__law_draw_ratio, defBody s__law_draw_ratio, defScope s__law_draw_ratio, [], []⟩
abbrev di__law_draw_ratio : Nat := 4
abbrev gi__law_draw_ratio : Nat := 4
abbrev s__law_handed : Stmt := top 42
def d__law_handed : He.DefD := ⟨("_law_handed", none), "_law_handed", "_law_handed", defArgs s__law_handed, defBody s__law_handed, defScope s__law_handed, [], []⟩
abbrev di__law_handed : Nat := 5
abbrev gi__law_handed : Nat := 5
abbrev s__law_kinds : Stmt := top 37
def d__law_kinds : He.DefD := ⟨("_law_kinds", none), "_law_kinds", "_law_kinds", defArgs s__law_kinds, defBody s__law_kinds, defScope s__law_kinds, [], []⟩
abbrev di__law_kinds : Nat := 6
abbrev gi__law_kinds : Nat := 6
abbrev s__law_is_kind : Stmt := top 38
def d__law_is_kind : He.DefD := ⟨("_law_is_kind", none), "_law_is_kind", "_law_is_kind", defArgs s__law_is_kind, defBody s__law_is_kind, defScope s__law_is_kind, [], []⟩
abbrev di__law_is_kind : Nat := 7
abbrev gi__law_is_kind : Nat := 7
abbrev s_fraction : Stmt := top 25
def d_fraction : He.DefD := ⟨("fraction", none), "fraction", "fraction", defArgs s_fraction, defBody s_fraction, defScope s_fraction, [], []⟩
abbrev di_fraction : Nat := 8
abbrev gi_fraction : Nat := 8
abbrev s__law_no_fraction : Stmt := top 46
def d__law_no_fraction : He.DefD := ⟨("_law_no_fraction", none), "_law_no_fraction", "_law_no_fraction", defArgs s__law_no_fraction, defBody s__law_no_fraction, defScope s__law_no_fraction, [], []⟩
abbrev di__law_no_fraction : Nat := 9
abbrev gi__law_no_fraction : Nat := 9
abbrev s_lowered : Stmt := top 24
def d_lowered : He.DefD := ⟨("lowered", none), "lowered", "lowered", defArgs s_lowered, defBody s_lowered, defScope s_lowered, [], []⟩
abbrev di_lowered : Nat := 10
abbrev gi_lowered : Nat := 10
abbrev s_vector : Stmt := top 31
def d_vector : He.DefD := ⟨("vector", none), "vector", "vector", defArgs s_vector, defBody s_vector, defScope s_vector, [], []⟩
abbrev di_vector : Nat := 11
abbrev gi_vector : Nat := 11
abbrev s__law_no_vector : Stmt := top 47
def d__law_no_vector : He.DefD := ⟨("_law_no_vector", none), "_law_no_vector", "_law_no_vector", defArgs s__law_no_vector, defBody s__law_no_vector, defScope s__law_no_vector, [], []⟩
abbrev di__law_no_vector : Nat := 12
abbrev gi__law_no_vector : Nat := 12
abbrev s__law_second : Stmt := top 41
def d__law_second : He.DefD := ⟨("_law_second", none), "_law_second", "_law_second", defArgs s__law_second, defBody s__law_second, defScope s__law_second, [], []⟩
abbrev di__law_second : Nat := 13
abbrev gi__law_second : Nat := 13
abbrev s__law_gcd : Stmt := top 36
def d__law_gcd : He.DefD := ⟨("_law_gcd", none), "_law_gcd", "_law_gcd", defArgs s__law_gcd, defBody s__law_gcd, defScope s__law_gcd, [], []⟩
abbrev di__law_gcd : Nat := 14
abbrev gi__law_gcd : Nat := 14
abbrev s__law_whole : Stmt := top 33
def d__law_whole : He.DefD := ⟨("_law_whole", none), "_law_whole", "_law_whole", defArgs s__law_whole, defBody s__law_whole, defScope s__law_whole, [], []⟩
abbrev di__law_whole : Nat := 15
abbrev gi__law_whole : Nat := 15
abbrev s__law_stands : Stmt := top 44
def d__law_stands : He.DefD := ⟨("_law_stands", none), "_law_stands", "_law_stands", defArgs s__law_stands, defBody s__law_stands, defScope s__law_stands, [], []⟩
abbrev di__law_stands : Nat := 16
abbrev gi__law_stands : Nat := 16
abbrev s__law_stands_vector : Stmt := top 45
def d__law_stands_vector : He.DefD := ⟨("_law_stands_vector", none), "_law_stands_vector", "_law_stands_vector", defArgs s__law_stands_vector, defBody s__law_stands_vector, defScope s__law_stands_vector, [], []⟩
abbrev di__law_stands_vector : Nat := 17
abbrev gi__law_stands_vector : Nat := 17
abbrev s_ceiling : Stmt := top 30
def d_ceiling : He.DefD := ⟨("ceiling", none), "ceiling", "ceiling", defArgs s_ceiling, defBody s_ceiling, defScope s_ceiling, [], []⟩
abbrev di_ceiling : Nat := 18
abbrev gi_ceiling : Nat := 18
abbrev s_compared : Stmt := top 28
def d_compared : He.DefD := ⟨("compared", none), "compared", "compared", defArgs s_compared, defBody s_compared, defScope s_compared, [], []⟩
abbrev di_compared : Nat := 19
abbrev gi_compared : Nat := 19
abbrev s_floored : Stmt := top 29
def d_floored : He.DefD := ⟨("floored", none), "floored", "floored", defArgs s_floored, defBody s_floored, defScope s_floored, [], []⟩
abbrev di_floored : Nat := 20
abbrev gi_floored : Nat := 20
abbrev s__law_whole_numbers : Stmt := top 48
def d__law_whole_numbers : He.DefD := ⟨("_law_whole_numbers", none), "_law_whole_numbers", "_law_whole_numbers", defArgs s__law_whole_numbers, defBody s__law_whole_numbers, defScope s__law_whole_numbers, [], []⟩
abbrev di__law_whole_numbers : Nat := 21
abbrev gi__law_whole_numbers : Nat := 21
abbrev s_added : Stmt := top 26
def d_added : He.DefD := ⟨("added", none), "added", "added", defArgs s_added, defBody s_added, defScope s_added, [], []⟩
abbrev di_added : Nat := 22
abbrev gi_added : Nat := 22
abbrev s_multiplied : Stmt := top 27
def d_multiplied : He.DefD := ⟨("multiplied", none), "multiplied", "multiplied", defArgs s_multiplied, defBody s_multiplied, defScope s_multiplied, [], []⟩
abbrev di_multiplied : Nat := 23
abbrev gi_multiplied : Nat := 23
abbrev s_law : Stmt := top 49
def d_law : He.DefD := ⟨("law", none), "law", "law", defArgs s_law, defBody s_law, defScope s_law, [], []⟩
abbrev di_law : Nat := 24
abbrev gi_law : Nat := 24
abbrev fi_len : Nat := 25
abbrev fi_int : Nat := 26
abbrev fi_range : Nat := 27
abbrev fi_max : Nat := 28
abbrev fi_isinstance : Nat := 29
abbrev fi_ValueError : Nat := 30
abbrev fi_tuple : Nat := 31
abbrev fi_list : Nat := 32
abbrev fi_abs : Nat := 33
abbrev fi_bool : Nat := 34
abbrev gi_ZeroBottom : Nat := 35
abbrev gi_NotSquare : Nat := 36
abbrev gi_NotSymmetric : Nat := 37
abbrev gi_SizesDiffer : Nat := 38
abbrev gi_BelowZero : Nat := 39
abbrev gi_BadRow : Nat := 40
abbrev gi_BadWeight : Nat := 41
abbrev gi_NoBasis : Nat := 42
abbrev gi_NoSolution : Nat := 43
abbrev gi_NoInverse : Nat := 44
abbrev gi_OutsideFence : Nat := 45
abbrev gi_RunOver : Nat := 46
abbrev gi_BadPick : Nat := 47
abbrev gi_BadStep : Nat := 48
abbrev gi_StepsLeft : Nat := 49
abbrev gi_BadTie : Nat := 50
abbrev gi_SamePlace : Nat := 51
abbrev gi_NotWithin : Nat := 52
abbrev gi_BadSlot : Nat := 53
abbrev gi_BadNotation : Nat := 54
abbrev gi_CordError : Nat := 55
def fn : List He.DefD := [d__law_cell, d__law_digits, d__law_draw_line, d__law_far, d__law_draw_ratio, d__law_handed, d__law_kinds, d__law_is_kind, d_fraction, d__law_no_fraction, d_lowered, d_vector, d__law_no_vector, d__law_second, d__law_gcd, d__law_whole, d__law_stands, d__law_stands_vector, d_ceiling, d_compared, d_floored, d__law_whole_numbers, d_added, d_multiplied, d_law]
def fa : List He.Fa := [.glo "_law_cell", .glo "_law_digits", .glo "_law_draw_line", .glo "_law_far", .glo "_law_draw_ratio", .glo "_law_handed", .glo "_law_kinds", .glo "_law_is_kind", .glo "fraction", .glo "_law_no_fraction", .glo "lowered", .glo "vector", .glo "_law_no_vector", .glo "_law_second", .glo "_law_gcd", .glo "_law_whole", .glo "_law_stands", .glo "_law_stands_vector", .glo "ceiling", .glo "compared", .glo "floored", .glo "_law_whole_numbers", .glo "added", .glo "multiplied", .glo "law", .free "len", .free "int", .free "range", .free "max", .free "isinstance", .free "ValueError", .free "tuple", .free "list", .free "abs", .free "bool", .glo "ZeroBottom", .glo "NotSquare", .glo "NotSymmetric", .glo "SizesDiffer", .glo "BelowZero", .glo "BadRow", .glo "BadWeight", .glo "NoBasis", .glo "NoSolution", .glo "NoInverse", .glo "OutsideFence", .glo "RunOver", .glo "BadPick", .glo "BadStep", .glo "StepsLeft", .glo "BadTie", .glo "SamePlace", .glo "NotWithin", .glo "BadSlot", .glo "BadNotation", .glo "CordError"]
def hv : List (Str × Value) := [("gcd", .builtin "math.gcd")]
def xs : List Str := ["ZeroBottom"]
def xm : List (Str × XTab) := [("CordError", ([(("ZeroBottom" : Str), true)] : XTab))]
def xk : List (Str × XTab) := [("ZeroBottom", ([(("ZeroBottom" : Str), true)] : XTab)), ("NotSquare", ([(("ZeroBottom" : Str), false)] : XTab)), ("NotSymmetric", ([(("ZeroBottom" : Str), false)] : XTab)), ("SizesDiffer", ([(("ZeroBottom" : Str), false)] : XTab)), ("BelowZero", ([(("ZeroBottom" : Str), false)] : XTab)), ("BadRow", ([(("ZeroBottom" : Str), false)] : XTab)), ("BadWeight", ([(("ZeroBottom" : Str), false)] : XTab)), ("NoBasis", ([(("ZeroBottom" : Str), false)] : XTab)), ("NoSolution", ([(("ZeroBottom" : Str), false)] : XTab)), ("NoInverse", ([(("ZeroBottom" : Str), false)] : XTab)), ("OutsideFence", ([(("ZeroBottom" : Str), false)] : XTab)), ("RunOver", ([(("ZeroBottom" : Str), false)] : XTab)), ("BadPick", ([(("ZeroBottom" : Str), false)] : XTab)), ("BadStep", ([(("ZeroBottom" : Str), false)] : XTab)), ("StepsLeft", ([(("ZeroBottom" : Str), false)] : XTab)), ("BadTie", ([(("ZeroBottom" : Str), false)] : XTab)), ("SamePlace", ([(("ZeroBottom" : Str), false)] : XTab)), ("NotWithin", ([(("ZeroBottom" : Str), false)] : XTab)), ("BadSlot", ([(("ZeroBottom" : Str), false)] : XTab)), ("BadNotation", ([(("ZeroBottom" : Str), false)] : XTab)), ("CordError", ([(("ZeroBottom" : Str), true)] : XTab))]
def xb : List (String × XTab) := [("ValueError", ([(("ZeroBottom" : Str), true)] : XTab))]
abbrev Gl0 (K : PySem.W.Frag) (mg : Str → Option Value) (base : Heap) : Prop := Glb fa fn (exZ hv xs xm xk xb) K mg base
abbrev Rw : PySem.W.OpenRow := PySem.W.OpenLaw.row PySem.Challenge.rw_fourcords_k00_ratios
abbrev hk : PySem.W.Hook := hookZ 4 fa fn (exZ hv xs xm xk xb)
def ob (s : PySem.W.SharedT) : He.AlD × Bool := obsZ 4 fa fn (exZ hv xs xm xk xb) (HandSHeadRun.getT s)
theorem ob_eq (s : PySem.W.SharedT) : ob s = hk.obs s.abs := obsZ_eq (HandSHeadRun.getT_eq s)
def loose : List PySem.Str := (["gcd", "CordError", "ZeroBottom", "NotSquare", "NotSymmetric", "SizesDiffer", "BelowZero", "BadRow", "BadWeight", "NoBasis", "NoSolution", "NoInverse", "OutsideFence", "RunOver", "BadPick", "BadStep", "StepsLeft", "BadTie", "SamePlace", "NotWithin"] : List PySem.Str) ++ (["BadSlot", "BadNotation", "lowered", "fraction", "added", "multiplied", "compared", "floored", "ceiling", "vector", "_law_whole", "_law_cell", "_law_digits", "_law_gcd", "_law_kinds", "_law_is_kind", "_law_far", "_law_draw_ratio", "_law_second", "_law_handed"] : List PySem.Str) ++ (["_law_draw_line", "_law_stands", "_law_stands_vector", "_law_no_fraction", "_law_no_vector", "_law_whole_numbers"] : List PySem.Str)
theorem run (w : World) : HandSHeadRun.RunEqI Rw (PySem.W.view Rw.prog [0, 49]) hk ob 60000 loose w := by
  unfold HandSHeadRun.RunEqI
  kernel_rfl
end Lw
set_option maxHeartbeats 40000000
set_option synthInstance.maxHeartbeats 400000
set_option synthInstance.maxSize 2000
/-! # each def keeps its mirror -/
namespace Lw
open PySem PySem.Spec PyProof.Rows L2 L2H Zk
section
variable {P : Program} {w : World} {K : PySem.W.Frag} {mg : Str → Option Value} {base : Heap}
theorem sc_law_cell : FnScope ["script", "k", "seed", "cell"] ["script", "k"] (defScope s__law_cell) := ⟨rfl, rfl, rfl, by decide +kernel, rfl, by decide +kernel, by decide +kernel⟩
theorem fn_law_cell (T : Gl0 K mg base) {fd : FuncData} (D : FunD K d__law_cell.name d__law_cell.qual d__law_cell.params d__law_cell.body d__law_cell.scope (d__law_cell.dvs K) (d__law_cell.kws K) (He.fAd K d__law_cell.at_) fd) : FnOk P w K mg base (L2N.CX P w) 1 (He.fAd K d__law_cell.at_) fd ["script", "k"] (spF K (aCons (cL cI) (aOne cI)) cI (fun z => m_law_cell z.1 z.2)) := by
  have sn := sc_law_cell.nd
  refine fn_mk (ν := Empty) (κ := Empty) (eN := fun _ => []) (eK := fun _ => []) D sc_law_cell rfl (by decide) (fun cdv A outer s H E hr hp hw z => ?_)
  obtain ⟨script, k⟩ := z
  show DS _ _ true [.st (List Int) (cL cI) script, .st Int cI k, .none, .none] _ _ _ _ (fun b => (.ret b : Out Int Empty Empty)) (m_law_cell script k)
  unfold m_law_cell
  refine ifA_p (by exact (ltT_pp (var 1) (lenL_p (T.free fi_len) (var 0)))) ?_ ?_
  · refine retF ?_
    exact (ixL_pp (var 0) (var 1))
  refine asg (c := cI) 2 sn (by exact int) fun seed => ?_
  refine forF (eL := fun (s1 : Int) => [.st (List Int) (cL cI) script, .st Int cI k, .st Int cI s1, .none]) (step := m_law_cell_b1) rfl hw (by exact (iterL (var 0))) (tgN 3 sn) (leS (leS (leS (leN leZ)))) (fun s1 cell => ?_) fun s5 => ?_
  · unfold m_law_cell_b1
    refine asg (c := cI) 2 sn (by exact (mod_mp (intI_m (T.free fi_int) (add_mm (mul_pp (var 2) int) (mod_pp (intI_p (T.free fi_int) (var 3)) int))) int)) fun seed => ?_
    exact (nil rfl (leS (leS (leS (leN leZ)))))
  refine retF ?_
  exact (mod_mp (intI_m (T.free fi_int) (mul_mp (mul_pp (add_pp (var 2) int) (add_pp (var 1) int)) int)) int)
theorem ok_law_cell (T : Gl0 K mg base) : FnI P w K mg base "_law_cell" 1 ["script", "k"] (aCons (cL cI) (aOne cI)) cI (fun z => m_law_cell z.1 z.2) := by
  obtain ⟨fd, D⟩ := T.c.def_ di__law_cell (d := d__law_cell) rfl
  exact fni (fn_law_cell T D) (T.glo gi__law_cell) D.kp (D.bindsN fun _ _ _ _ _ _ us hl => match us, hl with | [_, _], _ => rfl)

theorem sc_law_digits : FnScope ["cell", "sizes", "row", "rest", "size", "seed", "k", "twice"] ["cell", "sizes"] (defScope s__law_digits) := ⟨rfl, rfl, rfl, by decide +kernel, rfl, by decide +kernel, by decide +kernel⟩
theorem fn_law_digits (T : Gl0 K mg base) {fd : FuncData} (D : FunD K d__law_digits.name d__law_digits.qual d__law_digits.params d__law_digits.body d__law_digits.scope (d__law_digits.dvs K) (d__law_digits.kws K) (He.fAd K d__law_digits.at_) fd) : FnOk P w K mg base (L2N.CX P w) 1 (He.fAd K d__law_digits.at_) fd ["cell", "sizes"] (spF K (aCons cI (aOne (cL cI))) (cL cI) (fun z => m_law_digits z.1 z.2)) := by
  have sn := sc_law_digits.nd
  refine fn_mk (ν := Empty) (κ := Empty) (eN := fun _ => []) (eK := fun _ => []) D sc_law_digits rfl (by decide) (fun cdv A outer s H E hr hp hw z => ?_)
  obtain ⟨cell, sizes⟩ := z
  show DS _ _ true [.st Int cI cell, .st (List Int) (cL cI) sizes, .none, .none, .none, .none, .none, .none] _ _ _ _ (fun b => (.ret b : Out (List Int) Empty Empty)) (m_law_digits cell sizes)
  unfold m_law_digits
  refine asgM (c := cI) 2 sn (by exact (lst0 (c := cI))) fun row => ?_
  refine asg (c := cI) 3 sn (by exact (intI_p (T.free fi_int) (var 0))) fun rest => ?_
  refine ifA (by exact (geT_pm (var 3) (pow_pp int int))) ?_ ?_
  · refine asg (c := cI) 3 sn (by exact (sub_pm (var 3) (pow_pp int int))) fun rest => ?_
    refine forF (eL := fun (s3 : ((List Int) × Int)) => [.st Int cI cell, .st (List Int) (cL cI) sizes, .mu Int cI s3.1, .st Int cI s3.2, .none, .none, .none, .none]) (step := m_law_digits_b1) rfl hw (by exact (iterL (var 1))) (tgN 4 sn) (leS (leS (leS (leS (leN (leN (leN (leN leZ)))))))) (fun s3 size => ?_) fun s5 => ?_
    · unfold m_law_digits_b1
      refine app 2 (by exact (mod_pp (intI_p (T.free fi_int) (var 3)) (var 4))) fun row => ?_
      refine asg (c := cI) 3 sn (by exact (fdiv_pp (intI_p (T.free fi_int) (var 3)) (var 4))) fun rest => ?_
      exact (nil rfl (leS (leS (leS (leS (leN (leN (leN (leN leZ)))))))))
    refine settle 2 rfl ?_
    refine retF ?_
    exact (var 2)
  refine asg (c := cI) 5 sn (by exact (mod_pp (intI_p (T.free fi_int) (var 3)) int)) fun seed => ?_
  refine forF (eL := fun (s6 : (Int × (List Int))) => [.st Int cI cell, .st (List Int) (cL cI) sizes, .mu Int cI s6.2, .st Int cI rest, .none, .st Int cI s6.1, .none, .none]) (step := (m_law_digits_b2 sizes)) rfl hw (by exact (iterR1_p (T.free fi_range) (lenL_p (T.free fi_len) (var 1)))) (tgN 6 sn) (leS (leS (leS (leS (leN (leS (leN (leN leZ)))))))) (fun s6 k => ?_) fun s17 => ?_
  · unfold m_law_digits_b2
    refine asg (c := cI) 5 sn (by exact (mod_mp (intI_m (T.free fi_int) (add_mp (add_mm (mul_pp (var 5) int) (mul_pp int (var 6))) int)) int)) fun seed => ?_
    refine asg (c := cI) 7 sn (by exact (mod_mp (intI_m (T.free fi_int) (mul_pm (var 5) (add_mp (fdiv_pp (var 5) int) int))) int)) fun twice => ?_
    refine app 2 (by exact (mod_mm (fdiv_pp (var 7) int) (ixL_pp (var 1) (var 6)))) fun row => ?_
    exact (nil rfl (leS (leS (leS (leS (leN (leS (leN (leN leZ)))))))))
  refine settle 2 rfl ?_
  refine retF ?_
  exact (var 2)
theorem ok_law_digits (T : Gl0 K mg base) : FnI P w K mg base "_law_digits" 1 ["cell", "sizes"] (aCons cI (aOne (cL cI))) (cL cI) (fun z => m_law_digits z.1 z.2) := by
  obtain ⟨fd, D⟩ := T.c.def_ di__law_digits (d := d__law_digits) rfl
  exact fni (fn_law_digits T D) (T.glo gi__law_digits) D.kp (D.bindsN fun _ _ _ _ _ _ us hl => match us, hl with | [_, _], _ => rfl)

theorem sc_law_draw_line : FnScope ["cell", "row", "line", "k", "number"] ["cell"] (defScope s__law_draw_line) := ⟨rfl, rfl, rfl, by decide +kernel, rfl, by decide +kernel, by decide +kernel⟩
theorem fn_law_draw_line (T : Gl0 K mg base) {fd : FuncData} (D : FunD K d__law_draw_line.name d__law_draw_line.qual d__law_draw_line.params d__law_draw_line.body d__law_draw_line.scope (d__law_draw_line.dvs K) (d__law_draw_line.kws K) (He.fAd K d__law_draw_line.at_) fd) : FnOk P w K mg base (L2N.CX P w) 2 (He.fAd K d__law_draw_line.at_) fd ["cell"] (spF K (aOne cI) (cH (aCons (cL cI) (aOne cI))) m_law_draw_line) := by
  have F_law_digits := ok_law_digits (P := P) (w := w) T
  have sn := sc_law_draw_line.nd
  refine fn_mk (ν := Empty) (κ := Empty) (eN := fun _ => []) (eK := fun _ => []) D sc_law_draw_line rfl (by decide) (fun cdv A outer s H E hr hp hw z => ?_)
  revert z; intro cell
  show DS _ _ true [.st Int cI cell, .none, .none, .none, .none] _ _ _ _ (fun b => (.ret b : Out ((List Int) × Int) Empty Empty)) (m_law_draw_line cell)
  unfold m_law_draw_line
  refine asg (c := (cL cI)) 1 sn (by exact (call F_law_digits (hr.mono (by decide)) hp (argC_pm (var 0) (arg1 (dl (cat_pm (dl (lst (lcons_pp int (lcons_pp int (lcons_pp int lnil))))) (dl (rep_pp (lst (lcons_pp int lnil)) int)))))))) fun row => ?_
  refine asgM (c := cI) 2 sn (by exact (lst0 (c := cI))) fun line => ?_
  refine forF (eL := fun (s3 : (List Int)) => [.st Int cI cell, .st (List Int) (cL cI) row, .mu Int cI s3, .none, .none]) (step := (m_law_draw_line_b1 row)) rfl hw (by exact (iterR1 (T.free fi_range) (ixL_pp (var 1) int))) (tgN 3 sn) (leS (leS (leS (leN (leN leZ))))) (fun s3 k => ?_) fun s23 => ?_
  · unfold m_law_draw_line_b1
    refine asg (c := cI) 4 sn (by exact (sub_mp (ixL_pp (var 1) (add_pp int (var 3))) int)) fun number => ?_
    refine ifJ (eJ := fun (j8 : Int) => [.st Int cI cell, .st (List Int) (cL cI) row, .mu Int cI s3, .st Int cI k, .st Int cI j8]) (by exact (eqIT_mp (ixL_pp (var 1) int) int)) ?_ ?_ fun j8 => ?_
    · refine asg (c := cI) 4 sn (by exact (sub_mp (mod_mp (intI_m (T.free fi_int) (ixL_pp (var 1) (add_pp int (var 3)))) int) int)) fun number => ?_
      exact (nil rfl (leS (leS (leS (leS (leS leZ))))))
    · exact (nil rfl (leS (leS (leS (leS (leS leZ))))))
    refine ifJ (eJ := fun (j13 : Int) => [.st Int cI cell, .st (List Int) (cL cI) row, .mu Int cI s3, .st Int cI k, .st Int cI j13]) (by exact (eqIT_mp (ixL_pp (var 1) int) int)) ?_ ?_ fun j13 => ?_
    · refine asg (c := cI) 4 sn (by exact (add_mm (mul_pp (var 4) int) (mod_mp (intI_m (T.free fi_int) (ixL_pp (var 1) (add_pp int (var 3)))) int))) fun number => ?_
      exact (nil rfl (leS (leS (leS (leS (leS leZ))))))
    · exact (nil rfl (leS (leS (leS (leS (leS leZ))))))
    refine ifJ (eJ := fun (j16 : Int) => [.st Int cI cell, .st (List Int) (cL cI) row, .mu Int cI s3, .st Int cI k, .st Int cI j16]) (by exact (dt_dw (andW (eqIT_mp (ixL_pp (var 1) int) int) (and1 (neIT_pp (var 3) int))))) ?_ ?_ fun j16 => ?_
    · refine asg (c := cI) 4 sn (by exact int) fun number => ?_
      exact (nil rfl (leS (leS (leS (leS (leS leZ))))))
    · exact (nil rfl (leS (leS (leS (leS (leS leZ))))))
    refine app 2 (by exact (mul_pm (var 4) (add_pm int (ixL_pp (var 1) int)))) fun line => ?_
    exact (nil rfl (leS (leS (leS (leN (leN leZ))))))
  refine settle 2 rfl ?_
  refine retF ?_
  exact (lstH (argC_pm (var 2) (arg1 (add_pm int (ixL_pp (var 1) int)))))
theorem ok_law_draw_line (T : Gl0 K mg base) : FnI P w K mg base "_law_draw_line" 2 ["cell"] (aOne cI) (cH (aCons (cL cI) (aOne cI))) m_law_draw_line := by
  obtain ⟨fd, D⟩ := T.c.def_ di__law_draw_line (d := d__law_draw_line) rfl
  exact fni (fn_law_draw_line T D) (T.glo gi__law_draw_line) D.kp (D.bindsN fun _ _ _ _ _ _ us hl => match us, hl with | [_], _ => rfl)

theorem sc_law_far : FnScope ["kind", "number"] ["kind", "number"] (defScope s__law_far) := ⟨rfl, rfl, rfl, by decide +kernel, rfl, by decide +kernel, by decide +kernel⟩
theorem fn_law_far (T : Gl0 K mg base) {fd : FuncData} (D : FunD K d__law_far.name d__law_far.qual d__law_far.params d__law_far.body d__law_far.scope (d__law_far.dvs K) (d__law_far.kws K) (He.fAd K d__law_far.at_) fd) : FnOk P w K mg base (L2N.CX P w) 1 (He.fAd K d__law_far.at_) fd ["kind", "number"] (spF K (aCons cI (aOne cI)) cI (fun z => m_law_far z.1 z.2)) := by
  have sn := sc_law_far.nd
  refine fn_mk (ν := Empty) (κ := Empty) (eN := fun _ => []) (eK := fun _ => []) D sc_law_far rfl (by decide) (fun cdv A outer s H E hr hp hw z => ?_)
  obtain ⟨kind, number⟩ := z
  show DS _ _ true [.st Int cI kind, .st Int cI number] _ _ _ _ (fun b => (.ret b : Out Int Empty Empty)) (m_law_far kind number)
  unfold m_law_far
  refine ifA_p (by exact (eqIT_pp (var 0) int)) ?_ ?_
  · refine retF ?_
    exact (mod_pp (intI_p (T.free fi_int) (var 1)) int)
  refine ifA_p (by exact (eqIT_pp (var 0) int)) ?_ ?_
  · refine retF ?_
    exact (mod_pp (intI_p (T.free fi_int) (var 1)) int)
  refine ifA_p (by exact (eqIT_pp (var 0) int)) ?_ ?_
  · refine retF ?_
    exact (var 1)
  refine retF ?_
  exact (add_mm (mul_mm (mod_pp (intI_p (T.free fi_int) (var 1)) int) (pow_pp int int)) (mod_pp (intI_p (T.free fi_int) (var 1)) int))
theorem ok_law_far (T : Gl0 K mg base) : FnI P w K mg base "_law_far" 1 ["kind", "number"] (aCons cI (aOne cI)) cI (fun z => m_law_far z.1 z.2) := by
  obtain ⟨fd, D⟩ := T.c.def_ di__law_far (d := d__law_far) rfl
  exact fni (fn_law_far T D) (T.glo gi__law_far) D.kp (D.bindsN fun _ _ _ _ _ _ us hl => match us, hl with | [_, _], _ => rfl)

theorem sc_law_draw_ratio : FnScope ["cell", "row", "top"] ["cell"] (defScope s__law_draw_ratio) := ⟨rfl, rfl, rfl, by decide +kernel, rfl, by decide +kernel, by decide +kernel⟩
theorem fn_law_draw_ratio (T : Gl0 K mg base) {fd : FuncData} (D : FunD K d__law_draw_ratio.name d__law_draw_ratio.qual d__law_draw_ratio.params d__law_draw_ratio.body d__law_draw_ratio.scope (d__law_draw_ratio.dvs K) (d__law_draw_ratio.kws K) (He.fAd K d__law_draw_ratio.at_) fd) : FnOk P w K mg base (L2N.CX P w) 2 (He.fAd K d__law_draw_ratio.at_) fd ["cell"] (spF K (aOne cI) (cL cI) m_law_draw_ratio) := by
  have F_law_digits := ok_law_digits (P := P) (w := w) T
  have F_law_far := ok_law_far (P := P) (w := w) T
  have sn := sc_law_draw_ratio.nd
  refine fn_mk (ν := Empty) (κ := Empty) (eN := fun _ => []) (eK := fun _ => []) D sc_law_draw_ratio rfl (by decide) (fun cdv A outer s H E hr hp hw z => ?_)
  revert z; intro cell
  show DS _ _ true [.st Int cI cell, .none, .none] _ _ _ _ (fun b => (.ret b : Out (List Int) Empty Empty)) (m_law_draw_ratio cell)
  unfold m_law_draw_ratio
  refine asg (c := (cL cI)) 1 sn (by exact (call F_law_digits (hr.mono (by decide)) hp (argC_pm (var 0) (arg1 (dl (lst (lcons_pm int (lcons_pm int (lcons_pm int (lcons_mm (mul_mm (pow_pp int int) (pow_pp int int)) (lcons_mp (mul_mm (pow_pp int int) (pow_pp int int)) (lcons_pp int lnil)))))))))))) fun row => ?_
  refine asg (c := cI) 2 sn (by exact (call F_law_far (hr.mono (by decide)) hp (argC_mm (ixL_pp (var 1) int) (arg1 (ixL_pp (var 1) int))))) fun top => ?_
  refine ifJ (eJ := fun (j15 : Int) => [.st Int cI cell, .st (List Int) (cL cI) row, .st Int cI j15]) (by exact (eqIT_mp (ixL_pp (var 1) int) int)) ?_ ?_ fun j15 => ?_
  · refine asg (c := cI) 2 sn (by exact (neg_p (var 2))) fun top => ?_
    exact (nil rfl (leS (leS (leS leZ))))
  · exact (nil rfl (leS (leS (leS leZ))))
  refine ifA (by exact (eqIT_mp (ixL_pp (var 1) int) int)) ?_ ?_
  · refine retF ?_
    exact (dl (lst (lcons_pp (var 2) (lcons_pp int lnil))))
  refine retF ?_
  exact (dl (lst (lcons_pm (var 2) (lcons_mp (add_pm int (call F_law_far (hr.mono (by decide)) hp (argC_mm (max_m rfl (T.free fi_max) int (sub_mp (ixL_pp (var 1) int) int)) (arg1 (ixL_pp (var 1) int))))) lnil))))
theorem ok_law_draw_ratio (T : Gl0 K mg base) : FnI P w K mg base "_law_draw_ratio" 2 ["cell"] (aOne cI) (cL cI) m_law_draw_ratio := by
  obtain ⟨fd, D⟩ := T.c.def_ di__law_draw_ratio (d := d__law_draw_ratio) rfl
  exact fni (fn_law_draw_ratio T D) (T.glo gi__law_draw_ratio) D.kp (D.bindsN fun _ _ _ _ _ _ us hl => match us, hl with | [_], _ => rfl)

theorem sc_law_handed : FnScope ["ratio", "factor", "as_list"] ["ratio", "factor", "as_list"] (defScope s__law_handed) := ⟨rfl, rfl, rfl, by decide +kernel, rfl, by decide +kernel, by decide +kernel⟩
theorem fn_law_handed (T : Gl0 K mg base) {fd : FuncData} (D : FunD K d__law_handed.name d__law_handed.qual d__law_handed.params d__law_handed.body d__law_handed.scope (d__law_handed.dvs K) (d__law_handed.kws K) (He.fAd K d__law_handed.at_) fd) : FnOk P w K mg base (L2N.CX P w) 1 (He.fAd K d__law_handed.at_) fd ["ratio", "factor", "as_list"] (spF K (aCons (cL cI) (aCons cI (aOne cI))) (cLT cI) (fun z => m_law_handed z.1 z.2.1 z.2.2)) := by
  have sn := sc_law_handed.nd
  refine fn_mk (ν := Empty) (κ := Empty) (eN := fun _ => []) (eK := fun _ => []) D sc_law_handed rfl (by decide) (fun cdv A outer s H E hr hp hw z => ?_)
  obtain ⟨ratio, factor, as_list⟩ := z
  show DS _ _ true [.st (List Int) (cL cI) ratio, .st Int cI factor, .st Int cI as_list] _ _ _ _ (fun b => (.ret b : Out (List Int) Empty Empty)) (m_law_handed ratio factor as_list)
  unfold m_law_handed
  refine ifA_p (by exact (eqIT_pp (var 2) int)) ?_ ?_
  · refine retF ?_
    exact (coeI (cL_LT cId) (dl (lst (lcons_mm (mul_mp (ixL_pp (var 0) int) (var 1)) (lcons_mp (mul_mp (ixL_pp (var 0) int) (var 1)) lnil)))))
  refine retF ?_
  exact (coe (f := fun (z : (Int × Int)) => [z.1, z.2]) (cPLT (auCc cId (au1c cId))) (tupP (argC_mm (mul_mp (ixL_pp (var 0) int) (var 1)) (arg1 (mul_mp (ixL_pp (var 0) int) (var 1))))))
theorem ok_law_handed (T : Gl0 K mg base) : FnI P w K mg base "_law_handed" 1 ["ratio", "factor", "as_list"] (aCons (cL cI) (aCons cI (aOne cI))) (cLT cI) (fun z => m_law_handed z.1 z.2.1 z.2.2) := by
  obtain ⟨fd, D⟩ := T.c.def_ di__law_handed (d := d__law_handed) rfl
  exact fni (fn_law_handed T D) (T.glo gi__law_handed) D.kp (D.bindsN fun _ _ _ _ _ _ us hl => match us, hl with | [_, _, _], _ => rfl)

theorem sc_law_kinds : FnScope ["e", "one", "two", "three", "four", "five"] ["e"] (defScope s__law_kinds) := ⟨rfl, rfl, rfl, by decide +kernel, rfl, by decide +kernel, by decide +kernel⟩
theorem fx_law_kinds (T : Gl0 K mg base) {fd : FuncData} (D : FunD K d__law_kinds.name d__law_kinds.qual d__law_kinds.params d__law_kinds.body d__law_kinds.scope (d__law_kinds.dvs K) (d__law_kinds.kws K) (He.fAd K d__law_kinds.at_) fd) : FnX P w K mg base 1 (He.fAd K d__law_kinds.at_) fd ["e"] (spX K (fun aX => (aOne (cAt aX))) (cL cB) (fun yX z => m_law_kinds yX)) := by
  have sn := sc_law_kinds.nd
  refine fx_mk (n := 1) (ν := Empty) (κ := Empty) (eN := fun _ => []) (eK := fun _ => []) D sc_law_kinds (fun _ => rfl) rfl (by decide) (fun cdv A outer s H E qX yX hrH hX hp hw z => ?_)
  revert z; intro e
  show DS _ _ true [.st Unit (cAt qX.1) (()), .none, .none, .none, .none, .none] _ _ _ _ (fun b => (.ret b : Out (List Bool) Empty Empty)) (m_law_kinds yX)
  unfold m_law_kinds
  refine asg (c := (cL cB)) 1 sn (by exact (dl (lst (lcons_mm (isOwn (t := ([(("ZeroBottom" : Str), true)] : XTab)) 0 hX (T.glo gi_ZeroBottom) (T.tk 0) (T.free fi_isinstance)) (lcons_mm (isOwn (t := ([(("ZeroBottom" : Str), false)] : XTab)) 0 hX (T.glo gi_NotSquare) (T.tk 1) (T.free fi_isinstance)) (lcons_mm (isOwn (t := ([(("ZeroBottom" : Str), false)] : XTab)) 0 hX (T.glo gi_NotSymmetric) (T.tk 2) (T.free fi_isinstance)) (lcons_mp (isOwn (t := ([(("ZeroBottom" : Str), false)] : XTab)) 0 hX (T.glo gi_SizesDiffer) (T.tk 3) (T.free fi_isinstance)) lnil))))))) fun one => ?_
  refine asg (c := (cL cB)) 2 sn (by exact (dl (lst (lcons_mm (isOwn (t := ([(("ZeroBottom" : Str), false)] : XTab)) 0 hX (T.glo gi_BelowZero) (T.tk 4) (T.free fi_isinstance)) (lcons_mm (isOwn (t := ([(("ZeroBottom" : Str), false)] : XTab)) 0 hX (T.glo gi_BadRow) (T.tk 5) (T.free fi_isinstance)) (lcons_mm (isOwn (t := ([(("ZeroBottom" : Str), false)] : XTab)) 0 hX (T.glo gi_BadWeight) (T.tk 6) (T.free fi_isinstance)) (lcons_mp (isOwn (t := ([(("ZeroBottom" : Str), false)] : XTab)) 0 hX (T.glo gi_NoBasis) (T.tk 7) (T.free fi_isinstance)) lnil))))))) fun two => ?_
  refine asg (c := (cL cB)) 3 sn (by exact (dl (lst (lcons_mm (isOwn (t := ([(("ZeroBottom" : Str), false)] : XTab)) 0 hX (T.glo gi_NoSolution) (T.tk 8) (T.free fi_isinstance)) (lcons_mm (isOwn (t := ([(("ZeroBottom" : Str), false)] : XTab)) 0 hX (T.glo gi_NoInverse) (T.tk 9) (T.free fi_isinstance)) (lcons_mm (isOwn (t := ([(("ZeroBottom" : Str), false)] : XTab)) 0 hX (T.glo gi_OutsideFence) (T.tk 10) (T.free fi_isinstance)) (lcons_mp (isOwn (t := ([(("ZeroBottom" : Str), false)] : XTab)) 0 hX (T.glo gi_RunOver) (T.tk 11) (T.free fi_isinstance)) lnil))))))) fun three => ?_
  refine asg (c := (cL cB)) 4 sn (by exact (dl (lst (lcons_mm (isOwn (t := ([(("ZeroBottom" : Str), false)] : XTab)) 0 hX (T.glo gi_BadPick) (T.tk 12) (T.free fi_isinstance)) (lcons_mm (isOwn (t := ([(("ZeroBottom" : Str), false)] : XTab)) 0 hX (T.glo gi_BadStep) (T.tk 13) (T.free fi_isinstance)) (lcons_mm (isOwn (t := ([(("ZeroBottom" : Str), false)] : XTab)) 0 hX (T.glo gi_StepsLeft) (T.tk 14) (T.free fi_isinstance)) (lcons_mp (isOwn (t := ([(("ZeroBottom" : Str), false)] : XTab)) 0 hX (T.glo gi_BadTie) (T.tk 15) (T.free fi_isinstance)) lnil))))))) fun four => ?_
  refine asg (c := (cL cB)) 5 sn (by exact (dl (lst (lcons_mm (isOwn (t := ([(("ZeroBottom" : Str), false)] : XTab)) 0 hX (T.glo gi_SamePlace) (T.tk 16) (T.free fi_isinstance)) (lcons_mm (isOwn (t := ([(("ZeroBottom" : Str), false)] : XTab)) 0 hX (T.glo gi_NotWithin) (T.tk 17) (T.free fi_isinstance)) (lcons_mm (isOwn (t := ([(("ZeroBottom" : Str), false)] : XTab)) 0 hX (T.glo gi_BadSlot) (T.tk 18) (T.free fi_isinstance)) (lcons_mp (isOwn (t := ([(("ZeroBottom" : Str), false)] : XTab)) 0 hX (T.glo gi_BadNotation) (T.tk 19) (T.free fi_isinstance)) lnil))))))) fun five => ?_
  refine retF ?_
  exact (dl (cat_mp (dl (cat_mp (dl (cat_mp (dl (cat_pp (var 1) (var 2))) (var 3))) (var 4))) (var 5)))
theorem okx_law_kinds (T : Gl0 K mg base) : FxI P w K mg base "_law_kinds" 1 ["e"] (fun aX => (aOne (cAt aX))) (cL cB) (fun yX z => m_law_kinds yX) := by
  obtain ⟨fd, D⟩ := T.c.def_ di__law_kinds (d := d__law_kinds) rfl
  exact fxi (fx_law_kinds T D) (T.glo gi__law_kinds) D.kp (D.bindsN fun _ _ _ _ _ _ us hl => match us, hl with | [_], _ => rfl)

theorem sc_law_is_kind : FnScope ["e", "place", "k"] ["e", "place"] (defScope s__law_is_kind) := ⟨rfl, rfl, rfl, by decide +kernel, rfl, by decide +kernel, by decide +kernel⟩
theorem fx_law_is_kind (T : Gl0 K mg base) {fd : FuncData} (D : FunD K d__law_is_kind.name d__law_is_kind.qual d__law_is_kind.params d__law_is_kind.body d__law_is_kind.scope (d__law_is_kind.dvs K) (d__law_is_kind.kws K) (He.fAd K d__law_is_kind.at_) fd) : FnX P w K mg base 2 (He.fAd K d__law_is_kind.at_) fd ["e", "place"] (spX K (fun aX => (aCons (cAt aX) (aOne cI))) cB (fun yX z => m_law_is_kind yX z.2)) := by
  have FX_law_kinds := okx_law_kinds (P := P) (w := w) T
  have sn := sc_law_is_kind.nd
  refine fx_mk (n := 2) (ν := Empty) (κ := Empty) (eN := fun _ => []) (eK := fun _ => []) D sc_law_is_kind (fun _ => rfl) rfl (by decide) (fun cdv A outer s H E qX yX hrH hX hp hw z => ?_)
  obtain ⟨e, place⟩ := z
  show DS _ _ true [.st Unit (cAt qX.1) (()), .st Int cI place, .none] _ _ _ _ (fun b => (.ret b : Out Bool Empty Empty)) (m_law_is_kind yX place)
  unfold m_law_is_kind
  refine retF ?_
  exact (andV (isBlt (t := ([(("ZeroBottom" : Str), true)] : XTab)) (tn := "ValueError") 0 hX (by decide +kernel) (T.free fi_ValueError) (T.tb 0) (T.free fi_isinstance)) (andV (isOwn (t := ([(("ZeroBottom" : Str), true)] : XTab)) 0 hX (T.glo gi_CordError) (T.tk 20) (T.free fi_isinstance)) (and1V (eqD_mm (c := (cL cB)) hrH.units (callXp FX_law_kinds (hrH.mono (by decide)) hX hp (arg1 (var 0))) (dl (lcH (f := (fun (k : Int) => R.ok (decide (k = place)))) [("k", 2)] (blk_ok (by show blkB ["e", "place", "k"] (defScope s__law_is_kind) _ _ = true; decide +kernel)) sn hX (T.free fi_range) int (tgB 2 sn) (fun b k => (by exact (eqI_pp (var 2) (var 1))))))))))
theorem okx_law_is_kind (T : Gl0 K mg base) : FxI P w K mg base "_law_is_kind" 2 ["e", "place"] (fun aX => (aCons (cAt aX) (aOne cI))) cB (fun yX z => m_law_is_kind yX z.2) := by
  obtain ⟨fd, D⟩ := T.c.def_ di__law_is_kind (d := d__law_is_kind) rfl
  exact fxi (fx_law_is_kind T D) (T.glo gi__law_is_kind) D.kp (D.bindsN fun _ _ _ _ _ _ us hl => match us, hl with | [_, _], _ => rfl)

theorem sc_fraction : FnScope ["top", "bottom", "shared"] ["top", "bottom"] (defScope s_fraction) := ⟨rfl, rfl, rfl, by decide +kernel, rfl, by decide +kernel, by decide +kernel⟩
theorem fn_fraction (T : Gl0 K mg base) {fd : FuncData} (D : FunD K d_fraction.name d_fraction.qual d_fraction.params d_fraction.body d_fraction.scope (d_fraction.dvs K) (d_fraction.kws K) (He.fAd K d_fraction.at_) fd) : FnOk P w K mg base (L2N.CX P w) 1 (He.fAd K d_fraction.at_) fd ["top", "bottom"] (spF K (aCons cI (aOne cI)) (cP (aCons cI (aOne cI))) (fun z => m_fraction z.1 z.2)) := by
  have sn := sc_fraction.nd
  refine fn_mk (ν := Empty) (κ := Empty) (eN := fun _ => []) (eK := fun _ => []) D sc_fraction rfl (by decide) (fun cdv A outer s H E hr hp hw z => ?_)
  obtain ⟨top, bottom⟩ := z
  show DS _ _ true [.st Int cI top, .st Int cI bottom, .none] _ _ _ _ (fun b => (.ret b : Out (Int × Int) Empty Empty)) (m_fraction top bottom)
  unfold m_fraction
  refine ifA_p (by exact (eqIT_pp (var 1) int)) ?_ ?_
  · exact raise0 (T.xcls 0) (T.glo gi_ZeroBottom) hp
  refine asg (c := cI) 2 sn (by exact (gcd_p (T.heldZ 0) (var 0) (var 1))) fun shared => ?_
  refine ifJ_p (eJ := fun (j1 : Int) => [.st Int cI top, .st Int cI bottom, .st Int cI j1]) (by exact (ltT_pp (var 1) int)) ?_ ?_ fun j1 => ?_
  · refine asg (c := cI) 2 sn (by exact (neg_p (var 2))) fun shared => ?_
    exact (nil rfl (leS (leS (leS leZ))))
  · exact (nil rfl (leS (leS (leS leZ))))
  refine retF ?_
  exact (tupP (argC_mm (fdiv_pp (var 0) (var 2)) (arg1 (fdiv_pp (var 1) (var 2)))))
theorem ok_fraction (T : Gl0 K mg base) : FnI P w K mg base "fraction" 1 ["top", "bottom"] (aCons cI (aOne cI)) (cP (aCons cI (aOne cI))) (fun z => m_fraction z.1 z.2) := by
  obtain ⟨fd, D⟩ := T.c.def_ di_fraction (d := d_fraction) rfl
  exact fni (fn_fraction T D) (T.glo gi_fraction) D.kp (D.bindsN fun _ _ _ _ _ _ us hl => match us, hl with | [_, _], _ => rfl)

theorem sc_law_no_fraction : FnScope ["top", "e"] ["top"] (defScope s__law_no_fraction) := ⟨rfl, rfl, rfl, by decide +kernel, rfl, by decide +kernel, by decide +kernel⟩
theorem fn_law_no_fraction (T : Gl0 K mg base) {fd : FuncData} (D : FunD K d__law_no_fraction.name d__law_no_fraction.qual d__law_no_fraction.params d__law_no_fraction.body d__law_no_fraction.scope (d__law_no_fraction.dvs K) (d__law_no_fraction.kws K) (He.fAd K d__law_no_fraction.at_) fd) : FnOk P w K mg base (L2N.CX P w) 3 (He.fAd K d__law_no_fraction.at_) fd ["top"] (spF K (aOne cI) cB m_law_no_fraction) := by
  have F_fraction := ok_fraction (P := P) (w := w) T
  have FX_law_is_kind := okx_law_is_kind (P := P) (w := w) T
  have sn := sc_law_no_fraction.nd
  refine fn_mk (ν := Empty) (κ := Empty) (eN := fun _ => []) (eK := fun _ => []) D sc_law_no_fraction rfl (by decide) (fun cdv A outer s H E hr hp hw z => ?_)
  revert z; intro top
  show DS _ _ true [.st Int cI top, .none] _ _ _ _ (fun b => (.ret b : Out Bool Empty Empty)) (m_law_no_fraction top)
  unfold m_law_no_fraction
  refine tryAs (eJ := fun (s1 : Unit) => [.st Int cI top, .none]) (t := ([(("ZeroBottom" : Str), true)] : XTab)) 1 sn ⟨rfl, by decide, .inl (T.glo gi_CordError)⟩ (T.tm 0) hp trivial (fun pnX xeX WX hp hw => ?_) (fun yX aX oX clX dX pnX SX hzX hvX hyX => ?_) (fun s1 => ?_) (fun b => ⟨_, rfl, rfl⟩) (fun s1 => (leS (leN leZ)))
  · refine drop (by exact (callP F_fraction (hr.mono (by decide)) hp (argC_pp (var 0) (arg1 int)))) fun _ => ?_
    exact (nil rfl (leS (leN leZ)))
  · have hX := hot_suite (pn := pnX) (a := aX) hzX hvX hyX
    refine ret ?_ fun _ => rfl
    exact (callXp FX_law_is_kind (roomS hr (by decide)) hX lets0 (argC_pp (var 1) (arg1 int)))
  refine retF ?_
  exact bool
theorem ok_law_no_fraction (T : Gl0 K mg base) : FnI P w K mg base "_law_no_fraction" 3 ["top"] (aOne cI) cB m_law_no_fraction := by
  obtain ⟨fd, D⟩ := T.c.def_ di__law_no_fraction (d := d__law_no_fraction) rfl
  exact fni (fn_law_no_fraction T D) (T.glo gi__law_no_fraction) D.kp (D.bindsN fun _ _ _ _ _ _ us hl => match us, hl with | [_], _ => rfl)

theorem sc_lowered : FnScope ["numbers", "bottom", "shared", "number"] ["numbers", "bottom"] (defScope s_lowered) := ⟨rfl, rfl, rfl, by decide +kernel, rfl, by decide +kernel, by decide +kernel⟩
theorem fn_lowered (T : Gl0 K mg base) {fd : FuncData} (D : FunD K d_lowered.name d_lowered.qual d_lowered.params d_lowered.body d_lowered.scope (d_lowered.dvs K) (d_lowered.kws K) (He.fAd K d_lowered.at_) fd) : FnOk P w K mg base (L2N.CX P w) 1 (He.fAd K d_lowered.at_) fd ["numbers", "bottom"] (spF K (aCons (cLT cI) (aOne cI)) (cP (aCons (cT cI) (aOne cI))) (fun z => m_lowered z.1 z.2)) := by
  have sn := sc_lowered.nd
  refine fn_mk (ν := Empty) (κ := Empty) (eN := fun _ => []) (eK := fun _ => []) D sc_lowered rfl (by decide) (fun cdv A outer s H E hr hp hw z => ?_)
  obtain ⟨numbers, bottom⟩ := z
  show DS _ _ true [.st (List Int) (cLT cI) numbers, .st Int cI bottom, .none, .none] _ _ _ _ (fun b => (.ret b : Out ((List Int) × Int) Empty Empty)) (m_lowered numbers bottom)
  unfold m_lowered
  refine asg (c := cI) 2 sn (by exact (var 1)) fun shared => ?_
  refine forF (eL := fun (s1 : Int) => [.st (List Int) (cLT cI) numbers, .st Int cI bottom, .st Int cI s1, .none]) (step := m_lowered_b1) rfl hw (by exact (iterLT (var 0))) (tgN 3 sn) (leS (leS (leS (leN leZ)))) (fun s1 number => ?_) fun s2 => ?_
  · unfold m_lowered_b1
    refine asg (c := cI) 2 sn (by exact (gcd_p (T.heldZ 0) (var 2) (var 3))) fun shared => ?_
    exact (nil rfl (leS (leS (leS (leN leZ)))))
  refine retF ?_
  exact (tupP (argC_mm (toT (T.free fi_tuple) (dl (dlc sn rfl (lc0 (f := (fun (number : Int) => (fdivM number s2))) [("number", 3)] (blk_ok (by show blkB ["numbers", "bottom", "shared", "number"] (defScope s_lowered) _ _ = true; decide +kernel)) (by exact (iterLT (var 0))) (tgB 3 sn) (fun b number => (by exact (fdiv_pp (var 3) (var 2)))))))) (arg1 (fdiv_pp (var 1) (var 2)))))
theorem ok_lowered (T : Gl0 K mg base) : FnI P w K mg base "lowered" 1 ["numbers", "bottom"] (aCons (cLT cI) (aOne cI)) (cP (aCons (cT cI) (aOne cI))) (fun z => m_lowered z.1 z.2) := by
  obtain ⟨fd, D⟩ := T.c.def_ di_lowered (d := d_lowered) rfl
  exact fni (fn_lowered T D) (T.glo gi_lowered) D.kp (D.bindsN fun _ _ _ _ _ _ us hl => match us, hl with | [_, _], _ => rfl)

theorem sc_vector : FnScope ["numbers", "bottom", "number"] ["numbers", "bottom"] (defScope s_vector) := ⟨rfl, rfl, rfl, by decide +kernel, rfl, by decide +kernel, by decide +kernel⟩
theorem fn_vector (T : Gl0 K mg base) {fd : FuncData} (D : FunD K d_vector.name d_vector.qual d_vector.params d_vector.body d_vector.scope (d_vector.dvs K) (d_vector.kws K) (He.fAd K d_vector.at_) fd) : FnOk P w K mg base (L2N.CX P w) 2 (He.fAd K d_vector.at_) fd ["numbers", "bottom"] (spF K (aCons (cLT cI) (aOne cI)) (cP (aCons (cT cI) (aOne cI))) (fun z => m_vector z.1 z.2)) := by
  have F_lowered := ok_lowered (P := P) (w := w) T
  have sn := sc_vector.nd
  refine fn_mk (ν := Empty) (κ := Empty) (eN := fun _ => []) (eK := fun _ => []) D sc_vector rfl (by decide) (fun cdv A outer s H E hr hp hw z => ?_)
  obtain ⟨numbers, bottom⟩ := z
  show DS _ _ true [.st (List Int) (cLT cI) numbers, .st Int cI bottom, .none] _ _ _ _ (fun b => (.ret b : Out ((List Int) × Int) Empty Empty)) (m_vector numbers bottom)
  unfold m_vector
  refine ifA_p (by exact (eqIT_pp (var 1) int)) ?_ ?_
  · exact raise0 (T.xcls 0) (T.glo gi_ZeroBottom) hp
  refine ifA_p (by exact (ltT_pp (var 1) int)) ?_ ?_
  · refine retF ?_
    exact (call F_lowered (hr.mono (by decide)) hp (argC_mp (coeI (cL_LT cId) (dl (dlc sn rfl (lc0 (f := (fun (number : Int) => R.ok (-number))) [("number", 2)] (blk_ok (by show blkB ["numbers", "bottom", "number"] (defScope s_vector) _ _ = true; decide +kernel)) (by exact (iterLT (var 0))) (tgB 2 sn) (fun b number => (by exact (neg_p (var 2)))))))) (arg1 (neg_p (var 1)))))
  refine retF ?_
  exact (callP F_lowered (hr.mono (by decide)) hp (argC_pp (var 0) (arg1 (var 1))))
theorem ok_vector (T : Gl0 K mg base) : FnI P w K mg base "vector" 2 ["numbers", "bottom"] (aCons (cLT cI) (aOne cI)) (cP (aCons (cT cI) (aOne cI))) (fun z => m_vector z.1 z.2) := by
  obtain ⟨fd, D⟩ := T.c.def_ di_vector (d := d_vector) rfl
  exact fni (fn_vector T D) (T.glo gi_vector) D.kp (D.bindsN fun _ _ _ _ _ _ us hl => match us, hl with | [_, _], _ => rfl)

theorem sc_law_no_vector : FnScope ["line", "e"] ["line"] (defScope s__law_no_vector) := ⟨rfl, rfl, rfl, by decide +kernel, rfl, by decide +kernel, by decide +kernel⟩
theorem fn_law_no_vector (T : Gl0 K mg base) {fd : FuncData} (D : FunD K d__law_no_vector.name d__law_no_vector.qual d__law_no_vector.params d__law_no_vector.body d__law_no_vector.scope (d__law_no_vector.dvs K) (d__law_no_vector.kws K) (He.fAd K d__law_no_vector.at_) fd) : FnOk P w K mg base (L2N.CX P w) 3 (He.fAd K d__law_no_vector.at_) fd ["line"] (spF K (aOne (cLT cI)) cB m_law_no_vector) := by
  have F_vector := ok_vector (P := P) (w := w) T
  have FX_law_is_kind := okx_law_is_kind (P := P) (w := w) T
  have sn := sc_law_no_vector.nd
  refine fn_mk (ν := Empty) (κ := Empty) (eN := fun _ => []) (eK := fun _ => []) D sc_law_no_vector rfl (by decide) (fun cdv A outer s H E hr hp hw z => ?_)
  revert z; intro line
  show DS _ _ true [.st (List Int) (cLT cI) line, .none] _ _ _ _ (fun b => (.ret b : Out Bool Empty Empty)) (m_law_no_vector line)
  unfold m_law_no_vector
  refine tryAs (eJ := fun (s1 : Unit) => [.st (List Int) (cLT cI) line, .none]) (t := ([(("ZeroBottom" : Str), true)] : XTab)) 1 sn ⟨rfl, by decide, .inl (T.glo gi_CordError)⟩ (T.tm 0) hp trivial (fun pnX xeX WX hp hw => ?_) (fun yX aX oX clX dX pnX SX hzX hvX hyX => ?_) (fun s1 => ?_) (fun b => ⟨_, rfl, rfl⟩) (fun s1 => (leS (leN leZ)))
  · refine drop (by exact (callP F_vector (hr.mono (by decide)) hp (argC_pp (var 0) (arg1 int)))) fun _ => ?_
    exact (nil rfl (leS (leN leZ)))
  · have hX := hot_suite (pn := pnX) (a := aX) hzX hvX hyX
    refine ret ?_ fun _ => rfl
    exact (callXp FX_law_is_kind (roomS hr (by decide)) hX lets0 (argC_pp (var 1) (arg1 int)))
  refine retF ?_
  exact bool
theorem ok_law_no_vector (T : Gl0 K mg base) : FnI P w K mg base "_law_no_vector" 3 ["line"] (aOne (cLT cI)) cB m_law_no_vector := by
  obtain ⟨fd, D⟩ := T.c.def_ di__law_no_vector (d := d__law_no_vector) rfl
  exact fni (fn_law_no_vector T D) (T.glo gi__law_no_vector) D.kp (D.bindsN fun _ _ _ _ _ _ us hl => match us, hl with | [_], _ => rfl)

theorem sc_law_second : FnScope ["kind", "one", "other"] ["kind", "one", "other"] (defScope s__law_second) := ⟨rfl, rfl, rfl, by decide +kernel, rfl, by decide +kernel, by decide +kernel⟩
theorem fn_law_second (T : Gl0 K mg base) {fd : FuncData} (D : FunD K d__law_second.name d__law_second.qual d__law_second.params d__law_second.body d__law_second.scope (d__law_second.dvs K) (d__law_second.kws K) (He.fAd K d__law_second.at_) fd) : FnOk P w K mg base (L2N.CX P w) 1 (He.fAd K d__law_second.at_) fd ["kind", "one", "other"] (spF K (aCons cI (aCons (cL cI) (aOne (cL cI)))) (cL cI) (fun z => m_law_second z.1 z.2.1 z.2.2)) := by
  have sn := sc_law_second.nd
  refine fn_mk (ν := Empty) (κ := Empty) (eN := fun _ => []) (eK := fun _ => []) D sc_law_second rfl (by decide) (fun cdv A outer s H E hr hp hw z => ?_)
  obtain ⟨kind, one, other⟩ := z
  show DS _ _ true [.st Int cI kind, .st (List Int) (cL cI) one, .st (List Int) (cL cI) other] _ _ _ _ (fun b => (.ret b : Out (List Int) Empty Empty)) (m_law_second kind one other)
  unfold m_law_second
  refine ifA_p (by exact (eqIT_pp (var 0) int)) ?_ ?_
  · refine retF ?_
    exact (dl (toL (T.free fi_list) (var 1)))
  refine ifA_p (by exact (eqIT_pp (var 0) int)) ?_ ?_
  · refine retF ?_
    exact (dl (lst (lcons_mm (add_mp (ixL_pp (var 1) int) int) (lcons_mp (ixL_pp (var 1) int) lnil))))
  refine ifA_p (by exact (eqIT_pp (var 0) int)) ?_ ?_
  · refine retF ?_
    exact (dl (lst (lcons_mm (neg (ixL_pp (var 1) int)) (lcons_mp (ixL_pp (var 1) int) lnil))))
  refine ifA_p (by exact (eqIT_pp (var 0) int)) ?_ ?_
  · refine retF ?_
    exact (dl (lst (lcons_mm (ixL_pp (var 1) int) (lcons_mp (add_mp (ixL_pp (var 1) int) int) lnil))))
  refine retF ?_
  exact (var 2)
theorem ok_law_second (T : Gl0 K mg base) : FnI P w K mg base "_law_second" 1 ["kind", "one", "other"] (aCons cI (aCons (cL cI) (aOne (cL cI)))) (cL cI) (fun z => m_law_second z.1 z.2.1 z.2.2) := by
  obtain ⟨fd, D⟩ := T.c.def_ di__law_second (d := d__law_second) rfl
  exact fni (fn_law_second T D) (T.glo gi__law_second) D.kp (D.bindsN fun _ _ _ _ _ _ us hl => match us, hl with | [_, _, _], _ => rfl)

theorem sc_law_gcd : FnScope ["one", "two", "turn", "rest"] ["one", "two"] (defScope s__law_gcd) := ⟨rfl, rfl, rfl, by decide +kernel, rfl, by decide +kernel, by decide +kernel⟩
theorem fn_law_gcd (T : Gl0 K mg base) {fd : FuncData} (D : FunD K d__law_gcd.name d__law_gcd.qual d__law_gcd.params d__law_gcd.body d__law_gcd.scope (d__law_gcd.dvs K) (d__law_gcd.kws K) (He.fAd K d__law_gcd.at_) fd) : FnOk P w K mg base (L2N.CX P w) 1 (He.fAd K d__law_gcd.at_) fd ["one", "two"] (spF K (aCons cI (aOne cI)) cI (fun z => m_law_gcd z.1 z.2)) := by
  have sn := sc_law_gcd.nd
  refine fn_mk (ν := Empty) (κ := Empty) (eN := fun _ => []) (eK := fun _ => []) D sc_law_gcd rfl (by decide) (fun cdv A outer s H E hr hp hw z => ?_)
  obtain ⟨one, two⟩ := z
  show DS _ _ true [.st Int cI one, .st Int cI two, .none, .none] _ _ _ _ (fun b => (.ret b : Out Int Empty Empty)) (m_law_gcd one two)
  unfold m_law_gcd
  refine asg (c := cI) 0 sn (by exact (absI_p (T.free fi_abs) (var 0))) fun one => ?_
  refine asg (c := cI) 1 sn (by exact (absI_p (T.free fi_abs) (var 1))) fun two => ?_
  refine forB (eL := fun (s1 : (Int × Int)) => [.st Int cI s1.1, .st Int cI s1.2, .none, .none]) (step := m_law_gcd_b1) rfl hw (by exact (iterR1_p (T.free fi_range) int)) (tgN 2 sn) (leS (leS (leN (leN leZ)))) (fun s1 turn => ?_) fun s2 => ?_
  · unfold m_law_gcd_b1
    refine ifA_p (by exact (eqIT_pp (var 1) int)) ?_ ?_
    · exact (brk (leS (leS (leN (leN leZ)))) rfl)
    refine asg (c := cI) 3 sn (by exact (mod_pp (intI_p (T.free fi_int) (var 0)) (var 1))) fun rest => ?_
    refine asg (c := cI) 0 sn (by exact (var 1)) fun one => ?_
    refine asg (c := cI) 1 sn (by exact (var 3)) fun two => ?_
    exact (nil rfl (leS (leS (leN (leN leZ)))))
  refine retF ?_
  exact (var 0)
theorem ok_law_gcd (T : Gl0 K mg base) : FnI P w K mg base "_law_gcd" 1 ["one", "two"] (aCons cI (aOne cI)) cI (fun z => m_law_gcd z.1 z.2) := by
  obtain ⟨fd, D⟩ := T.c.def_ di__law_gcd (d := d__law_gcd) rfl
  exact fni (fn_law_gcd T D) (T.glo gi__law_gcd) D.kp (D.bindsN fun _ _ _ _ _ _ us hl => match us, hl with | [_, _], _ => rfl)

theorem sc_law_whole : FnScope ["value"] ["value"] (defScope s__law_whole) := ⟨rfl, rfl, rfl, by decide +kernel, rfl, by decide +kernel, by decide +kernel⟩
theorem fn_law_whole (T : Gl0 K mg base) {fd : FuncData} (D : FunD K d__law_whole.name d__law_whole.qual d__law_whole.params d__law_whole.body d__law_whole.scope (d__law_whole.dvs K) (d__law_whole.kws K) (He.fAd K d__law_whole.at_) fd) : FnOk P w K mg base (L2N.CX P w) 1 (He.fAd K d__law_whole.at_) fd ["value"] (spF K (aOne cI) cB m_law_whole) := by
  have sn := sc_law_whole.nd
  refine fn_mk (ν := Empty) (κ := Empty) (eN := fun _ => []) (eK := fun _ => []) D sc_law_whole rfl (by decide) (fun cdv A outer s H E hr hp hw z => ?_)
  revert z; intro value
  show DS _ _ true [.st Int cI value] _ _ _ _ (fun b => (.ret b : Out Bool Empty Empty)) (m_law_whole value)
  unfold m_law_whole
  refine retF ?_
  exact (andV_q (isi_p (n := "int") (T := "int") (k := true) (by decide +kernel) (by decide +kernel) (T.free fi_isinstance) (T.free fi_int) (var 0)) (and1V (notV_p (isi_p (n := "int") (T := "bool") (k := false) (by decide +kernel) (by decide +kernel) (T.free fi_isinstance) (T.free fi_bool) (var 0)))))
theorem ok_law_whole (T : Gl0 K mg base) : FnI P w K mg base "_law_whole" 1 ["value"] (aOne cI) cB m_law_whole := by
  obtain ⟨fd, D⟩ := T.c.def_ di__law_whole (d := d__law_whole) rfl
  exact fni (fn_law_whole T D) (T.glo gi__law_whole) D.kp (D.bindsN fun _ _ _ _ _ _ us hl => match us, hl with | [_], _ => rfl)

theorem sc_law_stands : FnScope ["value", "top", "low"] ["value", "top", "low"] (defScope s__law_stands) := ⟨rfl, rfl, rfl, by decide +kernel, rfl, by decide +kernel, by decide +kernel⟩
theorem fn_law_stands (T : Gl0 K mg base) {fd : FuncData} (D : FunD K d__law_stands.name d__law_stands.qual d__law_stands.params d__law_stands.body d__law_stands.scope (d__law_stands.dvs K) (d__law_stands.kws K) (He.fAd K d__law_stands.at_) fd) : FnOk P w K mg base (L2N.CX P w) 2 (He.fAd K d__law_stands.at_) fd ["value", "top", "low"] (spF K (aCons (cP (aCons cI (aOne cI))) (aCons cI (aOne cI))) cB (fun z => m_law_stands z.1 z.2.1 z.2.2)) := by
  have F_law_gcd := ok_law_gcd (P := P) (w := w) T
  have F_law_whole := ok_law_whole (P := P) (w := w) T
  have sn := sc_law_stands.nd
  refine fn_mk (ν := Empty) (κ := Empty) (eN := fun _ => []) (eK := fun _ => []) D sc_law_stands rfl (by decide) (fun cdv A outer s H E hr hp hw z => ?_)
  obtain ⟨value, top, low⟩ := z
  show DS _ _ true [.st (Int × Int) (cP (aCons cI (aOne cI))) value, .st Int cI top, .st Int cI low] _ _ _ _ (fun b => (.ret b : Out Bool Empty Empty)) (m_law_stands value top low)
  unfold m_law_stands
  refine ifA (by exact (dt_dw (orW_p (notT_p (val (isi_p (n := "tuple") (T := "tuple") (k := true) (by decide +kernel) (by decide +kernel) (T.free fi_isinstance) (T.free fi_tuple) (var 0)))) (orW_p (neIT_pp (lenP_p (T.free fi_len) (var 0)) int) (orW (notT (val (callP F_law_whole (hr.mono (by decide)) hp (arg1 (ix_0_2p (var 0)))))) (or1 (notT (val (callP F_law_whole (hr.mono (by decide)) hp (arg1 (ix_1_2p (var 0)))))))))))) ?_ ?_
  · refine retF ?_
    exact bool
  refine ifA (by exact (dt_dw (orW_p (ltT_pp (ix_1_2p (var 0)) int) (or1 (neIT_mp (callP F_law_gcd (hr.mono (by decide)) hp (argC_pp (ix_0_2p (var 0)) (arg1 (ix_1_2p (var 0))))) int))))) ?_ ?_
  · refine retF ?_
    exact bool
  refine retF ?_
  exact (eqI_mm (mul_pp (ix_0_2p (var 0)) (var 2)) (mul_pp (var 1) (ix_1_2p (var 0))))
theorem ok_law_stands (T : Gl0 K mg base) : FnI P w K mg base "_law_stands" 2 ["value", "top", "low"] (aCons (cP (aCons cI (aOne cI))) (aCons cI (aOne cI))) cB (fun z => m_law_stands z.1 z.2.1 z.2.2) := by
  obtain ⟨fd, D⟩ := T.c.def_ di__law_stands (d := d__law_stands) rfl
  exact fni (fn_law_stands T D) (T.glo gi__law_stands) D.kp (D.bindsN fun _ _ _ _ _ _ us hl => match us, hl with | [_, _, _], _ => rfl)

theorem sc_law_stands_vector : FnScope ["value", "line", "low", "shared", "k"] ["value", "line", "low"] (defScope s__law_stands_vector) := ⟨rfl, rfl, rfl, by decide +kernel, rfl, by decide +kernel, by decide +kernel⟩
theorem fn_law_stands_vector (T : Gl0 K mg base) {fd : FuncData} (D : FunD K d__law_stands_vector.name d__law_stands_vector.qual d__law_stands_vector.params d__law_stands_vector.body d__law_stands_vector.scope (d__law_stands_vector.dvs K) (d__law_stands_vector.kws K) (He.fAd K d__law_stands_vector.at_) fd) : FnOk P w K mg base (L2N.CX P w) 2 (He.fAd K d__law_stands_vector.at_) fd ["value", "line", "low"] (spF K (aCons (cP (aCons (cT cI) (aOne cI))) (aCons (cL cI) (aOne cI))) cB (fun z => m_law_stands_vector z.1 z.2.1 z.2.2)) := by
  have F_law_gcd := ok_law_gcd (P := P) (w := w) T
  have F_law_whole := ok_law_whole (P := P) (w := w) T
  have sn := sc_law_stands_vector.nd
  refine fn_mk (ν := Empty) (κ := Empty) (eN := fun _ => []) (eK := fun _ => []) D sc_law_stands_vector rfl (by decide) (fun cdv A outer s H E hr hp hw z => ?_)
  obtain ⟨value, line, low⟩ := z
  show DS _ _ true [.st ((List Int) × Int) (cP (aCons (cT cI) (aOne cI))) value, .st (List Int) (cL cI) line, .st Int cI low, .none, .none] _ _ _ _ (fun b => (.ret b : Out Bool Empty Empty)) (m_law_stands_vector value line low)
  unfold m_law_stands_vector
  refine ifA_p (by exact (dt_dw (orW_q (notT_p (val (isi_p (n := "tuple") (T := "tuple") (k := true) (by decide +kernel) (by decide +kernel) (T.free fi_isinstance) (T.free fi_tuple) (var 0)))) (orW_q (neIT_pp (lenP_p (T.free fi_len) (var 0)) int) (or1 (notT_p (val (isi_p (n := "tuple") (T := "tuple") (k := true) (by decide +kernel) (by decide +kernel) (T.free fi_isinstance) (T.free fi_tuple) (ix_0_2p (var 0)))))))))) ?_ ?_
  · refine retF ?_
    exact bool
  refine ifA (by exact (dt_dw (orW (notT (val (callP F_law_whole (hr.mono (by decide)) hp (arg1 (ix_1_2p (var 0)))))) (orW_q (ltT_pp (ix_1_2p (var 0)) int) (or1 (neIT_pp (lenT_p (T.free fi_len) (ix_0_2p (var 0))) (lenL_p (T.free fi_len) (var 1)))))))) ?_ ?_
  · refine retF ?_
    exact bool
  refine asg (c := cI) 3 sn (by exact (ix_1_2p (var 0))) fun shared => ?_
  refine forO (eL := fun (s2 : Int) => [.st ((List Int) × Int) (cP (aCons (cT cI) (aOne cI))) value, .st (List Int) (cL cI) line, .st Int cI low, .st Int cI s2, .none]) (step := (m_law_stands_vector_b1 value line low)) rfl hw (by exact (iterR1_p (T.free fi_range) (lenL_p (T.free fi_len) (var 1)))) (tgN 4 sn) (leS (leS (leS (leS (leN leZ))))) (fun s2 k => ?_) (fun s10 => ?_)
  · unfold m_law_stands_vector_b1
    refine ifA (by exact (dt_dw (orW (notT (val (call F_law_whole (hr.mono (by decide)) hp (arg1 (ixT_pp (ix_0_2p (var 0)) (var 4)))))) (or1 (neIT_mm (mul_mp (ixT_pp (ix_0_2p (var 0)) (var 4)) (var 2)) (mul_mp (ixL_pp (var 1) (var 4)) (ix_1_2p (var 0)))))))) ?_ ?_
    · refine retO ?_ rfl
      exact bool
    refine asg (c := cI) 3 sn (by exact (call F_law_gcd (hr.mono (by decide)) hp (argC_pm (var 3) (arg1 (ixT_pp (ix_0_2p (var 0)) (var 4)))))) fun shared => ?_
    exact (nil rfl (leS (leS (leS (leS (leN leZ))))))
  refine retF ?_
  exact (eqI_pp (var 3) int)
theorem ok_law_stands_vector (T : Gl0 K mg base) : FnI P w K mg base "_law_stands_vector" 2 ["value", "line", "low"] (aCons (cP (aCons (cT cI) (aOne cI))) (aCons (cL cI) (aOne cI))) cB (fun z => m_law_stands_vector z.1 z.2.1 z.2.2) := by
  obtain ⟨fd, D⟩ := T.c.def_ di__law_stands_vector (d := d__law_stands_vector) rfl
  exact fni (fn_law_stands_vector T D) (T.glo gi__law_stands_vector) D.kp (D.bindsN fun _ _ _ _ _ _ us hl => match us, hl with | [_, _, _], _ => rfl)

theorem sc_ceiling : FnScope ["one"] ["one"] (defScope s_ceiling) := ⟨rfl, rfl, rfl, by decide +kernel, rfl, by decide +kernel, by decide +kernel⟩
theorem fn_ceiling (T : Gl0 K mg base) {fd : FuncData} (D : FunD K d_ceiling.name d_ceiling.qual d_ceiling.params d_ceiling.body d_ceiling.scope (d_ceiling.dvs K) (d_ceiling.kws K) (He.fAd K d_ceiling.at_) fd) : FnOk P w K mg base (L2N.CX P w) 1 (He.fAd K d_ceiling.at_) fd ["one"] (spF K (aOne (cLT cI)) cI m_ceiling) := by
  have sn := sc_ceiling.nd
  refine fn_mk (ν := Empty) (κ := Empty) (eN := fun _ => []) (eK := fun _ => []) D sc_ceiling rfl (by decide) (fun cdv A outer s H E hr hp hw z => ?_)
  revert z; intro one
  show DS _ _ true [.st (List Int) (cLT cI) one] _ _ _ _ (fun b => (.ret b : Out Int Empty Empty)) (m_ceiling one)
  unfold m_ceiling
  refine retF ?_
  exact (neg (fdiv_mm (neg (ixLT_pp (var 0) int)) (ixLT_pp (var 0) int)))
theorem ok_ceiling (T : Gl0 K mg base) : FnI P w K mg base "ceiling" 1 ["one"] (aOne (cLT cI)) cI m_ceiling := by
  obtain ⟨fd, D⟩ := T.c.def_ di_ceiling (d := d_ceiling) rfl
  exact fni (fn_ceiling T D) (T.glo gi_ceiling) D.kp (D.bindsN fun _ _ _ _ _ _ us hl => match us, hl with | [_], _ => rfl)

theorem sc_compared : FnScope ["one", "two", "difference"] ["one", "two"] (defScope s_compared) := ⟨rfl, rfl, rfl, by decide +kernel, rfl, by decide +kernel, by decide +kernel⟩
theorem fn_compared (T : Gl0 K mg base) {fd : FuncData} (D : FunD K d_compared.name d_compared.qual d_compared.params d_compared.body d_compared.scope (d_compared.dvs K) (d_compared.kws K) (He.fAd K d_compared.at_) fd) : FnOk P w K mg base (L2N.CX P w) 1 (He.fAd K d_compared.at_) fd ["one", "two"] (spF K (aCons (cLT cI) (aOne (cLT cI))) cI (fun z => m_compared z.1 z.2)) := by
  have sn := sc_compared.nd
  refine fn_mk (ν := Empty) (κ := Empty) (eN := fun _ => []) (eK := fun _ => []) D sc_compared rfl (by decide) (fun cdv A outer s H E hr hp hw z => ?_)
  obtain ⟨one, two⟩ := z
  show DS _ _ true [.st (List Int) (cLT cI) one, .st (List Int) (cLT cI) two, .none] _ _ _ _ (fun b => (.ret b : Out Int Empty Empty)) (m_compared one two)
  unfold m_compared
  refine asg (c := cI) 2 sn (by exact (sub_mm (mul_mm (ixLT_pp (var 0) int) (ixLT_pp (var 1) int)) (mul_mm (ixLT_pp (var 1) int) (ixLT_pp (var 0) int)))) fun difference => ?_
  refine ifA_p (by exact (ltT_pp (var 2) int)) ?_ ?_
  · refine retF ?_
    exact (neg_p int)
  refine ifA_p (by exact (gtT_pp (var 2) int)) ?_ ?_
  · refine retF ?_
    exact int
  refine retF ?_
  exact int
theorem ok_compared (T : Gl0 K mg base) : FnI P w K mg base "compared" 1 ["one", "two"] (aCons (cLT cI) (aOne (cLT cI))) cI (fun z => m_compared z.1 z.2) := by
  obtain ⟨fd, D⟩ := T.c.def_ di_compared (d := d_compared) rfl
  exact fni (fn_compared T D) (T.glo gi_compared) D.kp (D.bindsN fun _ _ _ _ _ _ us hl => match us, hl with | [_, _], _ => rfl)

theorem sc_floored : FnScope ["one"] ["one"] (defScope s_floored) := ⟨rfl, rfl, rfl, by decide +kernel, rfl, by decide +kernel, by decide +kernel⟩
theorem fn_floored (T : Gl0 K mg base) {fd : FuncData} (D : FunD K d_floored.name d_floored.qual d_floored.params d_floored.body d_floored.scope (d_floored.dvs K) (d_floored.kws K) (He.fAd K d_floored.at_) fd) : FnOk P w K mg base (L2N.CX P w) 1 (He.fAd K d_floored.at_) fd ["one"] (spF K (aOne (cLT cI)) cI m_floored) := by
  have sn := sc_floored.nd
  refine fn_mk (ν := Empty) (κ := Empty) (eN := fun _ => []) (eK := fun _ => []) D sc_floored rfl (by decide) (fun cdv A outer s H E hr hp hw z => ?_)
  revert z; intro one
  show DS _ _ true [.st (List Int) (cLT cI) one] _ _ _ _ (fun b => (.ret b : Out Int Empty Empty)) (m_floored one)
  unfold m_floored
  refine retF ?_
  exact (fdiv_mm (ixLT_pp (var 0) int) (ixLT_pp (var 0) int))
theorem ok_floored (T : Gl0 K mg base) : FnI P w K mg base "floored" 1 ["one"] (aOne (cLT cI)) cI m_floored := by
  obtain ⟨fd, D⟩ := T.c.def_ di_floored (d := d_floored) rfl
  exact fni (fn_floored T D) (T.glo gi_floored) D.kp (D.bindsN fun _ _ _ _ _ _ us hl => match us, hl with | [_], _ => rfl)

theorem sc_law_whole_numbers : FnScope ["first", "second", "one", "two", "order", "difference", "least", "most"] ["first", "second", "one", "two"] (defScope s__law_whole_numbers) := ⟨rfl, rfl, rfl, by decide +kernel, rfl, by decide +kernel, by decide +kernel⟩
theorem fn_law_whole_numbers (T : Gl0 K mg base) {fd : FuncData} (D : FunD K d__law_whole_numbers.name d__law_whole_numbers.qual d__law_whole_numbers.params d__law_whole_numbers.body d__law_whole_numbers.scope (d__law_whole_numbers.dvs K) (d__law_whole_numbers.kws K) (He.fAd K d__law_whole_numbers.at_) fd) : FnOk P w K mg base (L2N.CX P w) 2 (He.fAd K d__law_whole_numbers.at_) fd ["first", "second", "one", "two"] (spF K (aCons (cLT cI) (aCons (cLT cI) (aCons (cL cI) (aOne (cL cI))))) cB (fun z => m_law_whole_numbers z.1 z.2.1 z.2.2.1 z.2.2.2)) := by
  have F_law_whole := ok_law_whole (P := P) (w := w) T
  have F_ceiling := ok_ceiling (P := P) (w := w) T
  have F_compared := ok_compared (P := P) (w := w) T
  have F_floored := ok_floored (P := P) (w := w) T
  have sn := sc_law_whole_numbers.nd
  refine fn_mk (ν := Empty) (κ := Empty) (eN := fun _ => []) (eK := fun _ => []) D sc_law_whole_numbers rfl (by decide) (fun cdv A outer s H E hr hp hw z => ?_)
  obtain ⟨first, second, one, two⟩ := z
  show DS _ _ true [.st (List Int) (cLT cI) first, .st (List Int) (cLT cI) second, .st (List Int) (cL cI) one, .st (List Int) (cL cI) two, .none, .none, .none, .none] _ _ _ _ (fun b => (.ret b : Out Bool Empty Empty)) (m_law_whole_numbers first second one two)
  unfold m_law_whole_numbers
  refine asg (c := cI) 4 sn (by exact (callP F_compared (hr.mono (by decide)) hp (argC_pp (var 0) (arg1 (var 1))))) fun order => ?_
  refine asg (c := cI) 5 sn (by exact (sub_mm (mul_mm (ixL_pp (var 2) int) (ixL_pp (var 3) int)) (mul_mm (ixL_pp (var 3) int) (ixL_pp (var 2) int)))) fun difference => ?_
  refine ifA (by exact (dt_dw (orW (notT (val (callP F_law_whole (hr.mono (by decide)) hp (arg1 (var 4))))) (or1 (neIT_pp (var 4) (sub_pp (intB_p (T.free fi_int) (gt_pp (var 5) int)) (intB_p (T.free fi_int) (lt_pp (var 5) int)))))))) ?_ ?_
  · refine retF ?_
    exact bool
  refine asg (c := cI) 6 sn (by exact (callP F_ceiling (hr.mono (by decide)) hp (arg1 (var 0)))) fun least => ?_
  refine asg (c := cI) 7 sn (by exact (callP F_floored (hr.mono (by decide)) hp (arg1 (var 1)))) fun most => ?_
  refine ifA (by exact (dt_dw (orW (notT (val (callP F_law_whole (hr.mono (by decide)) hp (arg1 (var 6))))) (or1 (notT (chainT op_lt op_le (mul_pm (sub_pp (var 6) int) (ixL_pp (var 2) int)) (ixL_pp (var 2) int) (mul_pm (var 6) (ixL_pp (var 2) int)))))))) ?_ ?_
  · refine retF ?_
    exact bool
  refine retF ?_
  exact (andV (callP F_law_whole (hr.mono (by decide)) hp (arg1 (var 7))) (and1V (chain op_le op_lt (mul_pm (var 7) (ixL_pp (var 3) int)) (ixL_pp (var 3) int) (mul_pm (add_pp (var 7) int) (ixL_pp (var 3) int)))))
theorem ok_law_whole_numbers (T : Gl0 K mg base) : FnI P w K mg base "_law_whole_numbers" 2 ["first", "second", "one", "two"] (aCons (cLT cI) (aCons (cLT cI) (aCons (cL cI) (aOne (cL cI))))) cB (fun z => m_law_whole_numbers z.1 z.2.1 z.2.2.1 z.2.2.2) := by
  obtain ⟨fd, D⟩ := T.c.def_ di__law_whole_numbers (d := d__law_whole_numbers) rfl
  exact fni (fn_law_whole_numbers T D) (T.glo gi__law_whole_numbers) D.kp (D.bindsN fun _ _ _ _ _ _ us hl => match us, hl with | [_, _, _, _], _ => rfl)

theorem sc_added : FnScope ["one", "two"] ["one", "two"] (defScope s_added) := ⟨rfl, rfl, rfl, by decide +kernel, rfl, by decide +kernel, by decide +kernel⟩
theorem fn_added (T : Gl0 K mg base) {fd : FuncData} (D : FunD K d_added.name d_added.qual d_added.params d_added.body d_added.scope (d_added.dvs K) (d_added.kws K) (He.fAd K d_added.at_) fd) : FnOk P w K mg base (L2N.CX P w) 2 (He.fAd K d_added.at_) fd ["one", "two"] (spF K (aCons (cLT cI) (aOne (cLT cI))) (cP (aCons cI (aOne cI))) (fun z => m_added z.1 z.2)) := by
  have F_fraction := ok_fraction (P := P) (w := w) T
  have sn := sc_added.nd
  refine fn_mk (ν := Empty) (κ := Empty) (eN := fun _ => []) (eK := fun _ => []) D sc_added rfl (by decide) (fun cdv A outer s H E hr hp hw z => ?_)
  obtain ⟨one, two⟩ := z
  show DS _ _ true [.st (List Int) (cLT cI) one, .st (List Int) (cLT cI) two] _ _ _ _ (fun b => (.ret b : Out (Int × Int) Empty Empty)) (m_added one two)
  unfold m_added
  refine retF ?_
  exact (call F_fraction (hr.mono (by decide)) hp (argC_mm (add_mm (mul_mm (ixLT_pp (var 0) int) (ixLT_pp (var 1) int)) (mul_mm (ixLT_pp (var 1) int) (ixLT_pp (var 0) int))) (arg1 (mul_mm (ixLT_pp (var 0) int) (ixLT_pp (var 1) int)))))
theorem ok_added (T : Gl0 K mg base) : FnI P w K mg base "added" 2 ["one", "two"] (aCons (cLT cI) (aOne (cLT cI))) (cP (aCons cI (aOne cI))) (fun z => m_added z.1 z.2) := by
  obtain ⟨fd, D⟩ := T.c.def_ di_added (d := d_added) rfl
  exact fni (fn_added T D) (T.glo gi_added) D.kp (D.bindsN fun _ _ _ _ _ _ us hl => match us, hl with | [_, _], _ => rfl)

theorem sc_multiplied : FnScope ["one", "two"] ["one", "two"] (defScope s_multiplied) := ⟨rfl, rfl, rfl, by decide +kernel, rfl, by decide +kernel, by decide +kernel⟩
theorem fn_multiplied (T : Gl0 K mg base) {fd : FuncData} (D : FunD K d_multiplied.name d_multiplied.qual d_multiplied.params d_multiplied.body d_multiplied.scope (d_multiplied.dvs K) (d_multiplied.kws K) (He.fAd K d_multiplied.at_) fd) : FnOk P w K mg base (L2N.CX P w) 2 (He.fAd K d_multiplied.at_) fd ["one", "two"] (spF K (aCons (cLT cI) (aOne (cLT cI))) (cP (aCons cI (aOne cI))) (fun z => m_multiplied z.1 z.2)) := by
  have F_fraction := ok_fraction (P := P) (w := w) T
  have sn := sc_multiplied.nd
  refine fn_mk (ν := Empty) (κ := Empty) (eN := fun _ => []) (eK := fun _ => []) D sc_multiplied rfl (by decide) (fun cdv A outer s H E hr hp hw z => ?_)
  obtain ⟨one, two⟩ := z
  show DS _ _ true [.st (List Int) (cLT cI) one, .st (List Int) (cLT cI) two] _ _ _ _ (fun b => (.ret b : Out (Int × Int) Empty Empty)) (m_multiplied one two)
  unfold m_multiplied
  refine retF ?_
  exact (call F_fraction (hr.mono (by decide)) hp (argC_mm (mul_mm (ixLT_pp (var 0) int) (ixLT_pp (var 1) int)) (arg1 (mul_mm (ixLT_pp (var 0) int) (ixLT_pp (var 1) int)))))
theorem ok_multiplied (T : Gl0 K mg base) : FnI P w K mg base "multiplied" 2 ["one", "two"] (aCons (cLT cI) (aOne (cLT cI))) (cP (aCons cI (aOne cI))) (fun z => m_multiplied z.1 z.2) := by
  obtain ⟨fd, D⟩ := T.c.def_ di_multiplied (d := d_multiplied) rfl
  exact fni (fn_multiplied T D) (T.glo gi_multiplied) D.kp (D.bindsN fun _ _ _ _ _ _ us hl => match us, hl with | [_, _], _ => rfl)

theorem sc_law : FnScope ["script", "shape", "one", "two", "first", "second", "kept", "total", "other", "sign", "times", "drawn", "line", "low"] ["script"] (defScope s_law) := ⟨rfl, rfl, rfl, by decide +kernel, rfl, by decide +kernel, by decide +kernel⟩
theorem fn_law (T : Gl0 K mg base) {fd : FuncData} (D : FunD K d_law.name d_law.qual d_law.params d_law.body d_law.scope (d_law.dvs K) (d_law.kws K) (He.fAd K d_law.at_) fd) : FnOk P w K mg base (L2N.CX P w) 4 (He.fAd K d_law.at_) fd ["script"] (spF K (aOne (cL cI)) cB m_law) := by
  have F_law_cell := ok_law_cell (P := P) (w := w) T
  have F_law_digits := ok_law_digits (P := P) (w := w) T
  have F_law_draw_line := ok_law_draw_line (P := P) (w := w) T
  have F_law_draw_ratio := ok_law_draw_ratio (P := P) (w := w) T
  have F_law_handed := ok_law_handed (P := P) (w := w) T
  have F_law_no_fraction := ok_law_no_fraction (P := P) (w := w) T
  have F_law_no_vector := ok_law_no_vector (P := P) (w := w) T
  have F_law_second := ok_law_second (P := P) (w := w) T
  have F_law_stands := ok_law_stands (P := P) (w := w) T
  have F_law_stands_vector := ok_law_stands_vector (P := P) (w := w) T
  have F_law_whole_numbers := ok_law_whole_numbers (P := P) (w := w) T
  have F_added := ok_added (P := P) (w := w) T
  have F_fraction := ok_fraction (P := P) (w := w) T
  have F_multiplied := ok_multiplied (P := P) (w := w) T
  have F_vector := ok_vector (P := P) (w := w) T
  have sn := sc_law.nd
  refine fn_mk (ν := Empty) (κ := Empty) (eN := fun _ => []) (eK := fun _ => []) D sc_law rfl (by decide) (fun cdv A outer s H E hr hp hw z => ?_)
  revert z; intro script
  show DS _ _ true [.st (List Int) (cL cI) script, .none, .none, .none, .none, .none, .none, .none, .none, .none, .none, .none, .none, .none] _ _ _ _ (fun b => (.ret b : Out Bool Empty Empty)) (m_law script)
  unfold m_law
  refine asg (c := (cL cI)) 1 sn (by exact (call F_law_digits (hr.mono (by decide)) hp (argC_mm (callP F_law_cell (hr.mono (by decide)) hp (argC_pp (var 0) (arg1 int))) (arg1 (dl (lst (lcons_pm int (lcons_pm int (lcons_pm int (lcons_pm int (lcons_pm int (lcons_pm int (lcons_mm (pow_pp int int) (lcons_mp (pow_pp int int) (lcons_pp int (lcons_pp int lnil)))))))))))))))) fun shape => ?_
  refine asg (c := (cL cI)) 2 sn (by exact (call F_law_draw_ratio (hr.mono (by decide)) hp (arg1 (callP F_law_cell (hr.mono (by decide)) hp (argC_pp (var 0) (arg1 int)))))) fun one => ?_
  refine asg (c := (cL cI)) 3 sn (by exact (call F_law_second (hr.mono (by decide)) hp (argC_mm (ixL_pp (var 1) int) (argC_pm (var 2) (arg1 (call F_law_draw_ratio (hr.mono (by decide)) hp (arg1 (callP F_law_cell (hr.mono (by decide)) hp (argC_pp (var 0) (arg1 int)))))))))) fun two => ?_
  refine asg (c := (cLT cI)) 4 sn (by exact (call F_law_handed (hr.mono (by decide)) hp (argC_pm (var 2) (argC_mm (add_pm int (mul_mm (ixL_pp (var 1) int) (intB_m (T.free fi_int) (neI_mp (ixL_pp (var 1) int) int)))) (arg1 (ixL_pp (var 1) int)))))) fun first => ?_
  refine asg (c := (cLT cI)) 5 sn (by exact (call F_law_handed (hr.mono (by decide)) hp (argC_pm (var 3) (argC_mm (add_pm int (mul_mm (ixL_pp (var 1) int) (intB_m (T.free fi_int) (neI_mp (ixL_pp (var 1) int) int)))) (arg1 (ixL_pp (var 1) int)))))) fun second => ?_
  refine asg (c := (cL (cL cI))) 6 sn (by exact (dl (lst (lcons_pp (dl (toL (T.free fi_list) (var 4))) (lcons_pp (dl (toL (T.free fi_list) (var 5))) lnil))))) fun kept => ?_
  refine asg (c := (cP (aCons cI (aOne cI)))) 7 sn (by exact (callP F_added (hr.mono (by decide)) hp (argC_pp (var 4) (arg1 (var 5))))) fun total => ?_
  refine ifA (by exact (notT (val (call F_law_stands (hr.mono (by decide)) hp (argC_pm (var 7) (argC_mm (add_mm (mul_mm (ixL_pp (var 2) int) (ixL_pp (var 3) int)) (mul_mm (ixL_pp (var 3) int) (ixL_pp (var 2) int))) (arg1 (mul_mm (ixL_pp (var 2) int) (ixL_pp (var 3) int))))))))) ?_ ?_
  · refine retF ?_
    exact bool
  refine ifA (by exact (notT (val (call F_law_stands (hr.mono (by decide)) hp (argC_mm (callP F_multiplied (hr.mono (by decide)) hp (argC_pp (var 5) (arg1 (var 4)))) (argC_mm (mul_mm (ixL_pp (var 2) int) (ixL_pp (var 3) int)) (arg1 (mul_mm (ixL_pp (var 2) int) (ixL_pp (var 3) int))))))))) ?_ ?_
  · refine retF ?_
    exact bool
  refine ifA (by exact (dt_dw (orW (notT (val (callP F_law_whole_numbers (hr.mono (by decide)) hp (argC_pp (var 4) (argC_pp (var 5) (argC_pp (var 2) (arg1 (var 3)))))))) (or1 (notT (val (callP F_law_whole_numbers (hr.mono (by decide)) hp (argC_pp (var 5) (argC_pp (var 4) (argC_pp (var 3) (arg1 (var 2)))))))))))) ?_ ?_
  · refine retF ?_
    exact bool
  refine asg (c := (cL cI)) 8 sn (by exact (call F_law_draw_ratio (hr.mono (by decide)) hp (arg1 (callP F_law_cell (hr.mono (by decide)) hp (argC_pp (var 0) (arg1 int)))))) fun other => ?_
  refine asg (c := cI) 9 sn (by exact (sub_pm int (mul_pm int (ixL_pp (var 1) int)))) fun sign => ?_
  refine asg (c := cI) 10 sn (by exact (add_pm int (ixL_pp (var 1) int))) fun times => ?_
  refine ifA (by exact (notT (val (call F_law_stands (hr.mono (by decide)) hp (argC_mm (call F_fraction (hr.mono (by decide)) hp (argC_mm (mul_mp (ixL_pp (var 8) int) (var 10)) (arg1 (mul_mp (mul_pm (var 9) (ixL_pp (var 8) int)) (var 10))))) (argC_mm (mul_pm (var 9) (ixL_pp (var 8) int)) (arg1 (ixL_pp (var 8) int)))))))) ?_ ?_
  · refine retF ?_
    exact bool
  refine asg (c := (cH (aCons (cL cI) (aOne cI)))) 11 sn (by exact (call F_law_draw_line (hr.mono (by decide)) hp (arg1 (callP F_law_cell (hr.mono (by decide)) hp (argC_pp (var 0) (arg1 int)))))) fun drawn => ?_
  refine asg (c := (cL cI)) 12 sn (by exact (dl (toL (T.free fi_list) (ixh_0_2p (var 11))))) fun line => ?_
  refine ifJ (eJ := fun (j63 : (List Int)) => [.st (List Int) (cL cI) script, .st (List Int) (cL cI) shape, .st (List Int) (cL cI) one, .st (List Int) (cL cI) two, .st (List Int) (cLT cI) first, .st (List Int) (cLT cI) second, .st (List (List Int)) (cL (cL cI)) kept, .st (Int × Int) (cP (aCons cI (aOne cI))) total, .st (List Int) (cL cI) other, .st Int cI sign, .st Int cI times, .st ((List Int) × Int) (cH (aCons (cL cI) (aOne cI))) drawn, .st (List Int) (cLT cI) j63, .none]) (by exact (eqIT_mp (ixL_pp (var 1) int) int)) ?_ ?_ fun j63 => ?_
  · refine asg (c := (cT cI)) 12 sn (by exact (toT (T.free fi_tuple) (var 12))) fun line => ?_
    refine recode (c2 := (cLT cI)) (f := (fun (z : (List Int)) => z)) 12 (cT_LT cId) rfl ?_
    exact (nil rfl (leS (leS (leS (leS (leS (leS (leS (leS (leS (leS (leS (leS (leS (leN leZ)))))))))))))))
  · refine recode (c2 := (cLT cI)) (f := (fun (z : (List Int)) => z)) 12 (cL_LT cId) rfl ?_
    exact (nil rfl (leS (leS (leS (leS (leS (leS (leS (leS (leS (leS (leS (leS (leS (leN leZ)))))))))))))))
  refine asg (c := cI) 13 sn (by exact (mul_mm (mul_mp (sub_pm int (mul_pm int (ixL_pp (var 1) int))) (ixh_1_2p (var 11))) (ixL_mp (call F_law_draw_ratio (hr.mono (by decide)) hp (arg1 (callP F_law_cell (hr.mono (by decide)) hp (argC_pp (var 0) (arg1 int))))) int))) fun low => ?_
  refine ifA (by exact (dt_dw (orW (notT (val (call F_law_stands_vector (hr.mono (by decide)) hp (argC_mp (callP F_vector (hr.mono (by decide)) hp (argC_pp (var 12) (arg1 (var 13)))) (argC_pp (ixh_0_2p (var 11)) (arg1 (var 13))))))) (or1 (neDT_pp (c := (cL cI)) hr.units (dl (toL (T.free fi_list) (var 12))) (ixh_0_2p (var 11))))))) ?_ ?_
  · refine retF ?_
    exact bool
  refine ifA (by exact (dt_dw (orW (notT (val (call F_law_no_fraction (hr.mono (by decide)) hp (arg1 (ixL_pp (var 8) int))))) (orW (notT (val (callP F_law_no_vector (hr.mono (by decide)) hp (arg1 (var 12))))) (or1 (notT (val (callP F_law_no_vector (hr.mono (by decide)) hp (arg1 (coeI (cL_LT cId) (dl (lst0 (c := cI))))))))))))) ?_ ?_
  · refine retF ?_
    exact bool
  refine retF ?_
  exact (andV_p (eqD_pp (c := (cL (cL cI))) hr.units (var 6) (dl (lst (lcons_pp (dl (toL (T.free fi_list) (var 4))) (lcons_pp (dl (toL (T.free fi_list) (var 5))) lnil))))) (and1V (eqD_mp (c := (cP (aCons cI (aOne cI)))) hr.units (callP F_added (hr.mono (by decide)) hp (argC_pp (var 4) (arg1 (var 5)))) (var 7))))
theorem ok_law (T : Gl0 K mg base) : FnI P w K mg base "law" 4 ["script"] (aOne (cL cI)) cB m_law := by
  obtain ⟨fd, D⟩ := T.c.def_ di_law (d := d_law) rfl
  exact fni (fn_law T D) (T.glo gi_law) D.kp (D.bindsN fun _ _ _ _ _ _ us hl => match us, hl with | [_], _ => rfl)
end
end Lw
set_option maxHeartbeats 4000000
namespace Lw
open PySem PySem.Spec PyProof.Rows L2 Zk
theorem facts {P : Program} {w : World} {K : PySem.W.Frag} {h : Heap} {mg : Str → Option Value} {f : Addr} (X : K.In h) (G : h.Ns mainGlobals mg) (hfa : mg ("law" : Str) = some (.ref f)) (c : He.SaysD fa fn K) (e : exZ hv xs xm xk xb K = true) :
    ∃ fd : FuncData, (∀ (s : Shared) (v : Value), BindsTo s fd ⟨[v], []⟩ [("script", v)]) ∧ ∀ base : Heap, K.In base → base.Ns mainGlobals mg → FnOk P w K mg base (L2N.CX P w) 4 f fd ["script"] (spF K (aOne (cL cI)) cB m_law) := by
  obtain ⟨fd, D⟩ := c.def_ di_law (d := d_law) rfl
  have e1 := hfa.symm.trans (He.glo_ok X G (c.fact gi_law (f := .glo "law") rfl))
  cases e1
  have b := FunD.bindsA (ps := ["script"]) D fun _ _ _ _ _ _ us hl => match us, hl with | [_], _ => rfl
  exact ⟨fd, fun s v => b s [v] rfl, fun base hK hG => fn_law (P := P) (w := w) (mg := mg) (base := base) ⟨hK, hG, c, e⟩ D⟩
end Lw
set_option maxHeartbeats 0
open PySem PySem.W PySem.Calls PyProof.Rows
theorem PySem.Challenge.cw_fourcords_k00_ratios_holds : PySem.Challenge.rw_fourcords_k00_ratios.Holds := by
  w_on; o_law
  refine HandSHeadRun.head_imp (r := OpenLaw.row PySem.Challenge.rw_fourcords_k00_ratios) (q := view (OpenLaw.row PySem.Challenge.rw_fourcords_k00_ratios).prog [0, 49]) (H := Lw.hk) (ob := Lw.ob) (M := 60000) (loose := Lw.loose) (d := HandSHeadRun.topDef (OpenLaw.row PySem.Challenge.rw_fourcords_k00_ratios).prog 49) (kwd := []) Lw.ob_eq
    Lw.run (by kernel_rfl) (by kernel_rfl) (by kernel_rfl) (by rfl) (by first | assumption | decide +kernel) (by decide +kernel) ⟨rfl, rfl, rfl, rfl, rfl, by decide +kernel⟩ ?hw ?hc
  case hw => w_witness2
  case hc =>
    refine Zk.law_end (l := PySem.Challenge.rw_fourcords_k00_ratios) (m := 63) (k := 4) (x := "script") rfl (by decide) (by kernel_rfl) ⟨rfl, by decide, by decide⟩ ?F
    intro w mg fa h Y G hmg0
    obtain ⟨K, KX, c, e⟩ := Y
    have hmg : mg ("law" : PySem.Str) = some (.ref fa) := by
      have e : (HandSHeadRun.topDef (OpenLaw.row PySem.Challenge.rw_fourcords_k00_ratios).prog 49).name = ("law" : PySem.Str) := by kernel_rfl
      rw [← e]
      exact hmg0
    obtain ⟨fd, hb, hF⟩ := Lw.facts (P := (PySem.Challenge.rw_fourcords_k00_ratios).prog) (w := w) KX G hmg c e
    exact ⟨K, fd, _, KX, hb, fun H a ns hl hS => Zk.law_sp (fun ns _ => Lw.law_ok ns) H a ns hl hS, hF⟩
