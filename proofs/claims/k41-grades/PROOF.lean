import PyProof.Rows.All
import Wide.All
import OpenK.AllK
import Wide.FinOn
import HandS.ForMost
import HandS.Exc
import HandS.ExcOwn
import HandS.WordsExc
import HandS.TryOnly
import HandS.Defaults
import HandS.Gcd
import HandS.Wide
import HandS.IsInst
import HandS.HeadHook1
import HandS.HeadHook2
import KE.KStateDown
import HandS.Head0
import HandS.Head1
import HandS.Head2
import HandS.Head3
import HandS.HeadEnd
import PySem.Challenge.RW_fourcords_k41_grades
set_option Elab.async false
set_option linter.all false
set_option maxRecDepth 100000
set_option maxHeartbeats 4000000
/-! # Zk: typed mirrors in a partial monad, and one judgement that pairs a derivation with its mirror -/
namespace Zk
open PySem PySem.Spec PyProof.Rows L2

/-! ### the partial monad -/
inductive Fld where
  | int (i : Int) | ints (l : List Int) | str (s : Str)
structure Exn where
  cls : Str
  fs : List (Str × Fld)
inductive R (α : Type) where
  | ok (a : α) | exn (x : Exn) | stuck
namespace R
variable {α β γ : Type}
@[reducible] def bind (m : R α) (f : α → R β) : R β := match m with
  | ok a => f a
  | exn x => exn x
  | stuck => stuck
@[reducible] instance : Monad R := { pure := R.ok, bind := R.bind }
theorem same_ (a b : R β) (h : a = b) : a = b := h
@[simp] theorem ok_bind (a : α) (f : α → R β) : ((ok a : R α) >>= f) = f a := same_ _ _ rfl
@[simp] theorem exn_bind (x : Exn) (f : α → R β) : ((exn x : R α) >>= f) = exn x := same_ _ _ rfl
@[simp] theorem stuck_bind (f : α → R β) : ((stuck : R α) >>= f) = stuck := same_ _ _ rfl
@[simp] theorem pure_eq (a : α) : (pure a : R α) = ok a := rfl
@[simp] theorem bind_ok (m : R α) : (m >>= ok) = m := by cases m <;> rfl
theorem bind_assoc (m : R α) (f : α → R β) (g : β → R γ) : ((m >>= f) >>= g) = (m >>= fun a => f a >>= g) := by cases m <;> rfl
def post (m : R α) (Q : α → Prop) (E : Exn → Prop) : Prop := match m with
  | ok a => Q a
  | exn x => E x
  | stuck => False
theorem post_bind {m : R α} {f : α → R β} {Q : β → Prop} {E : Exn → Prop} : (m >>= f).post Q E ↔ m.post (fun a => (f a).post Q E) E := by
  cases m <;> exact Iff.rfl
theorem post_mono {m : R α} {Q Q' : α → Prop} {E E' : Exn → Prop} (h : m.post Q E) (hq : ∀ a, Q a → Q' a) (he : ∀ x, E x → E' x) : m.post Q' E' := by
  cases m with
  | ok a => exact hq a h
  | exn x => exact he x h
  | stuck => exact h
/-- a guard -/
def guard (p : Prop) [Decidable p] (a : α) : R α := if p then ok a else stuck
theorem guard_post {p : Prop} [Decidable p] {a : α} {Q : α → Prop} {E : Exn → Prop} (h : (guard p a).post Q E) : p ∧ Q a := by
  unfold guard at h
  split at h
  · exact ⟨by assumption, h⟩
  · exact h.elim
@[simp] theorem guard_ok {p : Prop} [Decidable p] {a : α} (h : p) : guard p a = ok a := if_pos h
end R

/-! ### heaps that grow: S what is settled, H all -/
theorem _root_.L2.Same.tup {K : PySem.W.Frag} {H H' : Hp} {a : Addr} {xs : List V} (e : Same H H') (h : SqT K H a xs) : SqT K H' a xs := by
  rcases h with (h | ⟨o, h⟩) | h
  · exact .inl (.inl (e _ _ h))
  · exact .inl (.inr ⟨o, e _ _ h⟩)
  · exact .inr h
theorem _root_.L2.Same.new {H : Hp} {p : Addr} {o : HO} (h : H p = none) : Same H (upd H p o) := fun a u e => by
  rw [upd_ne (ne_of_none e h)]
  exact e
theorem _root_.L2.Same.mut {H H' : Hp} {p : Addr} {o : HO} (e : Same H H') (h : H p = none) : Same H (upd H' p o) := fun a u ha => by
  rw [upd_ne (ne_of_none ha h)]
  exact e a u ha
structure Grow (S H S' H' : Hp) : Prop where
  ex : Same H H'
  st : Same S S'
  inn : Same S' H'
  new : ∀ a, S a = none → S' a ≠ none → H a = none
theorem Grow.refl {S H : Hp} (h : Same S H) : Grow S H S H := ⟨.refl _, .refl _, h, fun a e n => (n e).elim⟩
theorem Grow.trans {S H S1 H1 S2 H2 : Hp} (a : Grow S H S1 H1) (b : Grow S1 H1 S2 H2) : Grow S H S2 H2 := by
  refine ⟨a.ex.trans b.ex, a.st.trans b.st, b.inn, fun x e n => ?_⟩
  cases q : S1 x with
  | none => exact a.ex.free (b.new x q n)
  | some o => exact a.new x e (by rw [q]; exact fun z => by cases z)
/-- a settled new object -/
theorem Grow.lay {S H : Hp} {p : Addr} {o : HO} (i : Same S H) (h : H p = none) : Grow S H (upd S p o) (upd H p o) := by
  have hs : S p = none := i.free h
  refine ⟨.new h, .new hs, fun a u e => ?_, fun a e n => ?_⟩
  · by_cases z : a = p
    · subst z
      rw [upd_same] at e ⊢
      exact e
    · rw [upd_ne z] at e ⊢
      exact i a u e
  · by_cases z : a = p
    · rw [z]; exact h
    · rw [upd_ne z] at n
      exact (n e).elim
/-- a new object that is not settled -/
theorem Grow.lay' {S H : Hp} {p : Addr} {o : HO} (i : Same S H) (h : H p = none) : Grow S H S (upd H p o) :=
  ⟨.new h, .refl _, i.mut (i.free h), fun a e n => (n e).elim⟩
theorem Grow.none {S H S' H' : Hp} (g : Grow S H S' H') {p : Addr} {o : HO} (h : H p = some o) (s : S p = none) : S' p = none := by
  cases q : S' p with
  | none => rfl
  | some u =>
    have z := g.new p s (by rw [q]; exact fun z => by cases z)
    rw [h] at z
    cases z

/-! ### codecs -/
structure Cd (α : Type) where
  rep : PySem.W.Frag → Hp → V → α → Prop
  mono : ∀ {K : PySem.W.Frag} {H H' : Hp} {v : V} {a : α}, Same H H' → rep K H v a → rep K H' v a
def Reps {α : Type} (c : Cd α) (K : PySem.W.Frag) (H : Hp) : List V → List α → Prop
  | [], [] => True
  | v :: vs, a :: as => c.rep K H v a ∧ Reps c K H vs as
  | _, _ => False
section
variable {α β : Type} {c : Cd α} {K : PySem.W.Frag} {H H' : Hp}
theorem Reps.mono (e : Same H H') : ∀ {vs : List V} {as : List α}, Reps c K H vs as → Reps c K H' vs as
  | [], [], _ => trivial
  | _ :: _, _ :: _, h => ⟨c.mono e h.1, Reps.mono e h.2⟩
  | [], _ :: _, h => h.elim
  | _ :: _, [], h => h.elim
theorem Reps.length : ∀ {vs : List V} {as : List α}, Reps c K H vs as → vs.length = as.length
  | [], [], _ => rfl
  | _ :: _, _ :: _, h => congrArg Nat.succ (Reps.length h.2)
  | [], _ :: _, h => h.elim
  | _ :: _, [], h => h.elim
theorem Reps.append : ∀ {vs : List V} {as : List α} {ws : List V} {bs : List α}, Reps c K H vs as → Reps c K H ws bs → Reps c K H (vs ++ ws) (as ++ bs)
  | [], [], _, _, _, k => k
  | _ :: _, _ :: _, _, _, h, k => ⟨h.1, Reps.append h.2 k⟩
  | [], _ :: _, _, _, h, _ => h.elim
  | _ :: _, [], _, _, h, _ => h.elim
theorem Reps.get : ∀ {vs : List V} {as : List α} {i : Nat} {a : α}, Reps c K H vs as → as[i]? = some a → ∃ v, vs[i]? = some v ∧ c.rep K H v a
  | v :: _, a' :: _, 0, a, h, e => by
    have e2 : a' = a := Option.some.inj e
    subst e2
    exact ⟨v, rfl, h.1⟩
  | _ :: vs, _ :: as, i + 1, a, h, e => Reps.get (vs := vs) (as := as) (i := i) h.2 e
  | [], [], i, a, _, e => by simp at e
  | [], _ :: _, _, _, h, _ => h.elim
  | _ :: _, [], _, _, h, _ => h.elim
theorem Reps.getV : ∀ {vs : List V} {as : List α} {i : Nat} {v : V}, Reps c K H vs as → vs[i]? = some v → ∃ a, as[i]? = some a ∧ c.rep K H v a
  | v' :: _, a :: _, 0, v, h, e => by
    have e2 : v' = v := Option.some.inj e
    subst e2
    exact ⟨a, rfl, h.1⟩
  | _ :: vs, _ :: as, i + 1, v, h, e => Reps.getV (vs := vs) (as := as) (i := i) h.2 e
  | [], [], i, v, _, e => by simp at e
  | [], _ :: _, _, _, h, _ => h.elim
  | _ :: _, [], _, _, h, _ => h.elim
theorem Reps.set {a : α} {v : V} (r : c.rep K H v a) : ∀ {vs : List V} {as : List α} (i : Nat), Reps c K H vs as → Reps c K H (vs.set i v) (as.set i a)
  | [], [], _, _ => trivial
  | _ :: _, _ :: _, 0, h => ⟨r, h.2⟩
  | _ :: _, _ :: _, i + 1, h => ⟨h.1, Reps.set r i h.2⟩
  | [], _ :: _, _, h => h.elim
  | _ :: _, [], _, h => h.elim
theorem Reps.take : ∀ {vs : List V} {as : List α} (n : Nat), Reps c K H vs as → Reps c K H (vs.take n) (as.take n)
  | _, _, 0, _ => by simp [Reps]
  | [], [], _ + 1, _ => trivial
  | _ :: _, _ :: _, n + 1, h => ⟨h.1, Reps.take n h.2⟩
  | [], _ :: _, _ + 1, h => h.elim
  | _ :: _, [], _ + 1, h => h.elim
theorem Reps.drop : ∀ {vs : List V} {as : List α} (n : Nat), Reps c K H vs as → Reps c K H (vs.drop n) (as.drop n)
  | _, _, 0, h => h
  | [], [], _ + 1, _ => trivial
  | _ :: _, _ :: _, n + 1, h => Reps.drop n h.2
  | [], _ :: _, _ + 1, h => h.elim
  | _ :: _, [], _ + 1, h => h.elim
end

def cI : Cd Int := ⟨fun _ _ v i => v = .int i, fun _ h => h⟩
def cB : Cd Bool := ⟨fun _ _ v b => v = .bl b, fun _ h => h⟩
def cN : Cd Unit := ⟨fun _ _ v _ => v = .non, fun _ h => h⟩
def cS : Cd Str := ⟨fun _ _ v x => v = .str x, fun _ h => h⟩
def cL {α : Type} (c : Cd α) : Cd (List α) :=
  ⟨fun K H v as => ∃ p vs, v = .ref p ∧ SqL K H p vs ∧ Reps c K H vs as, fun e ⟨p, vs, h1, h2, h3⟩ => ⟨p, vs, h1, Same.seq e h2, Reps.mono e h3⟩⟩
def cT {α : Type} (c : Cd α) : Cd (List α) :=
  ⟨fun K H v as => ∃ p vs, v = .ref p ∧ SqT K H p vs ∧ Reps c K H vs as, fun e ⟨p, vs, h1, h2, h3⟩ => ⟨p, vs, h1, Same.tup e h2, Reps.mono e h3⟩⟩
/-- a list or a tuple -/
def cLT {α : Type} (c : Cd α) : Cd (List α) :=
  ⟨fun K H v as => (cL c).rep K H v as ∨ (cT c).rep K H v as, fun e h => h.imp ((cL c).mono e) ((cT c).mono e)⟩
def cO {α : Type} (c : Cd α) : Cd (Option α) :=
  ⟨fun K H v o => match o with | none => v = .non | some a => v ≠ .non ∧ c.rep K H v a, fun {K H H' v o} e h => by
    cases o with
    | none => exact h
    | some a => exact ⟨h.1, c.mono e h.2⟩⟩
/-! ### slots -/
inductive SD : Type 1 where
  | none
  | st (α : Type) (c : Cd α) (a : α)
  | mu (α : Type) (c : Cd α) (as : List α)
abbrev Env := List SD
/-- slots that hold these values -/
def EnvV (K : PySem.W.Frag) (H : Hp) : Env → List V → Prop
  | [], [] => True
  | d :: ds, v :: vs => (∃ (α : Type) (c : Cd α) (a : α), d = .st α c a ∧ c.rep K H v a) ∧ EnvV K H ds vs
  | _, _ => False
/-- several values, their mirrors nested pairs -/
structure CA (τ : Type) where
  n : Nat
  rep : PySem.W.Frag → Hp → List V → τ → Prop
  env : τ → Env
  mono : ∀ {K : PySem.W.Frag} {H H' : Hp} {vs : List V} {a : τ}, Same H H' → rep K H vs a → rep K H' vs a
  len : ∀ {K : PySem.W.Frag} {H : Hp} {vs : List V} {a : τ}, rep K H vs a → vs.length = n
  sl : ∀ {K : PySem.W.Frag} {H : Hp} {vs : List V} {a : τ}, rep K H vs a → EnvV K H (env a) vs
def aNil : CA Unit := ⟨0, fun _ _ vs _ => vs = [], fun _ => [], fun _ h => h, fun h => by rw [h] <;> rfl, fun h => by rw [h]; trivial⟩
def aOne {α : Type} (c : Cd α) : CA α := ⟨1, fun K H vs a => ∃ v, vs = [v] ∧ c.rep K H v a, fun a => [.st α c a], fun e ⟨v, h1, h2⟩ => ⟨v, h1, c.mono e h2⟩, fun ⟨v, h1, _⟩ => by rw [h1] <;> rfl, fun ⟨v, h1, h2⟩ => by rw [h1]; exact ⟨⟨α, c, _, rfl, h2⟩, trivial⟩⟩
def aCons {α τ : Type} (c : Cd α) (r : CA τ) : CA (α × τ) :=
  ⟨r.n + 1, fun K H vs a => ∃ v ws, vs = v :: ws ∧ c.rep K H v a.1 ∧ r.rep K H ws a.2, fun a => .st α c a.1 :: r.env a.2, fun e ⟨v, ws, h1, h2, h3⟩ => ⟨v, ws, h1, c.mono e h2, r.mono e h3⟩,
    fun ⟨v, ws, h1, _, h3⟩ => by rw [h1, List.length_cons, r.len h3], fun ⟨v, ws, h1, h2, h3⟩ => by rw [h1]; exact ⟨⟨α, c, _, rfl, h2⟩, r.sl h3⟩⟩
/-- a tuple of so many values -/
def cP {τ : Type} (r : CA τ) : Cd τ :=
  ⟨fun K H v a => ∃ p vs, v = .ref p ∧ SqT K H p vs ∧ r.rep K H vs a, fun e ⟨p, vs, h1, h2, h3⟩ => ⟨p, vs, h1, Same.tup e h2, r.mono e h3⟩⟩

/-! ### exceptions -/
def repFs (K : PySem.W.Frag) (S : Hp) (d : Option Addr) (fs : List (Str × Fld)) : Prop := match fs with
  | [] => True
  | _ => False
def repX (K : PySem.W.Frag) (S : Hp) (cl : Value) (d : Option Addr) (x : Exn) : Prop := cl = .ref (He.ga K x.cls) ∧ repFs K S d x.fs

/-! ### places of slots -/
namespace Env
def get : Env → Nat → SD
  | [], _ => .none
  | d :: _, 0 => d
  | _ :: ds, i + 1 => get ds i
def put : Env → Nat → SD → Env
  | [], _, _ => []
  | _ :: ds, 0, x => x :: ds
  | d :: ds, i + 1, x => d :: put ds i x
theorem put_length : ∀ (ds : Env) (i : Nat) (x : SD), (put ds i x).length = ds.length
  | [], _, _ => rfl
  | _ :: _, 0, _ => rfl
  | _ :: ds, i + 1, x => congrArg Nat.succ (put_length ds i x)
theorem get_put_same : ∀ (ds : Env) (i : Nat) (x : SD), i < ds.length → get (put ds i x) i = x
  | [], _, _, h => by simp at h
  | _ :: _, 0, _, _ => rfl
  | _ :: ds, i + 1, x, h => get_put_same ds i x (by simpa using h)
theorem get_put_ne : ∀ (ds : Env) (i j : Nat) (x : SD), j ≠ i → get (put ds i x) j = get ds j
  | [], _, _, _, _ => rfl
  | _ :: _, 0, 0, _, h => (h rfl).elim
  | _ :: _, 0, _ + 1, _, _ => rfl
  | _ :: _, _ + 1, 0, _, _ => rfl
  | _ :: ds, i + 1, j + 1, x, h => get_put_ne ds i j x (fun e => h (congrArg Nat.succ e))
theorem put_out : ∀ (ds : Env) (i : Nat) (x : SD), ds.length ≤ i → put ds i x = ds
  | [], _, _, _ => rfl
  | _ :: _, 0, _, h => by simp at h
  | d :: ds, i + 1, x, h => congrArg (d :: ·) (put_out ds i x (by simpa using h))
end Env
def isMu : SD → Prop
  | .mu _ _ _ => True
  | _ => False
def SlotOk (K : PySem.W.Frag) (H0 S H : Hp) (d : SD) (s : Option (Option V)) : Prop := match d with
  | .none => True
  | .st _ c a => ∃ v, s = some (some v) ∧ c.rep K S v a
  | .mu _ c as => ∃ p vs, s = some (some (.ref p)) ∧ H0 p = none ∧ S p = none ∧ H p = some (.lst vs) ∧ Reps c K S vs as
structure EnvOk (K : PySem.W.Frag) (S0 H0 : Hp) (ds : Env) (σ : L2.St) (S H : Hp) : Prop where
  len : ds.length = σ.length
  at_ : ∀ i, SlotOk K H0 S H (ds.get i) σ[i]?
  sep : ∀ i j p, isMu (ds.get i) → isMu (ds.get j) → σ[i]? = some (some (.ref p)) → σ[j]? = some (some (.ref p)) → i = j
  grow : Grow S0 H0 S H
section
variable {K : PySem.W.Frag} {S0 H0 S H S' H' : Hp} {ds : Env} {σ : L2.St}
theorem EnvOk.inn (e : EnvOk K S0 H0 ds σ S H) : Same S H := e.grow.inn
theorem SlotOk.grow {d : SD} {s : Option (Option V)} (h : SlotOk K H0 S H d s) (g : Grow S H S' H') : SlotOk K H0 S' H' d s := by
  cases d with
  | none => trivial
  | st α c a =>
    obtain ⟨v, h1, h2⟩ := h
    exact ⟨v, h1, c.mono g.st h2⟩
  | mu α c as =>
    obtain ⟨p, vs, h1, h2, h3, h4, h5⟩ := h
    exact ⟨p, vs, h1, h2, g.none h4 h3, g.ex _ _ h4, Reps.mono g.st h5⟩
theorem EnvOk.step (e : EnvOk K S0 H0 ds σ S H) (g : Grow S H S' H') : EnvOk K S0 H0 ds σ S' H' :=
  ⟨e.len, fun i => (e.at_ i).grow g, e.sep, e.grow.trans g⟩
theorem EnvOk.var (e : EnvOk K S0 H0 ds σ S H) {i : Nat} {α : Type} {c : Cd α} {a : α} (h : ds.get i = .st α c a) : ∃ v, σ[i]? = some (some v) ∧ c.rep K S v a := by
  have q := e.at_ i
  rw [h] at q
  exact q
theorem EnvOk.muv (e : EnvOk K S0 H0 ds σ S H) {i : Nat} {α : Type} {c : Cd α} {as : List α} (h : ds.get i = .mu α c as) :
    ∃ p vs, σ[i]? = some (some (.ref p)) ∧ H0 p = none ∧ S p = none ∧ H p = some (.lst vs) ∧ Reps c K S vs as := by
  have q := e.at_ i
  rw [h] at q
  exact q
theorem get_set_self {σ : L2.St} {i : Nat} {x : Option V} (h : i < σ.length) : (σ.set i x)[i]? = some x := List.getElem?_set_self h
/-- a slot is stored -/
theorem EnvOk.put (e : EnvOk K S0 H0 ds σ S H) {i : Nat} {v : V} {d : SD} (hd : SlotOk K H0 S H d (some (some v))) (hm : isMu d → ∀ p, v = .ref p → ∀ j, j ≠ i → isMu (ds.get j) → σ[j]? ≠ some (some (.ref p))) :
    EnvOk K S0 H0 (ds.put i d) (σ.set i (some v)) S H := by
  by_cases hi : i < ds.length
  · have hs : i < σ.length := by rw [← e.len]; exact hi
    refine ⟨by rw [Env.put_length, List.length_set, e.len], fun j => ?_, fun j k p mj mk hj hk => ?_, e.grow⟩
    · by_cases z : j = i
      · subst z
        rw [Env.get_put_same _ _ _ hi, get_set_self hs]
        exact hd
      · rw [Env.get_put_ne _ _ _ _ z, List.getElem?_set_ne (Ne.symm z)]
        exact e.at_ j
    · by_cases zj : j = i
      · by_cases zk : k = i
        · rw [zj, zk]
        · subst zj
          rw [Env.get_put_same _ _ _ hi] at mj
          rw [Env.get_put_ne _ _ _ _ zk] at mk
          rw [get_set_self hs] at hj
          rw [List.getElem?_set_ne (Ne.symm zk)] at hk
          have ev : v = .ref p := Option.some.inj (Option.some.inj hj)
          exact (hm mj p ev k zk mk hk).elim
      · by_cases zk : k = i
        · subst zk
          rw [Env.get_put_same _ _ _ hi] at mk
          rw [Env.get_put_ne _ _ _ _ zj] at mj
          rw [get_set_self hs] at hk
          rw [List.getElem?_set_ne (Ne.symm zj)] at hj
          have ev : v = .ref p := Option.some.inj (Option.some.inj hk)
          exact (hm mk p ev j zj mj hj).elim
        · rw [Env.get_put_ne _ _ _ _ zj] at mj
          rw [Env.get_put_ne _ _ _ _ zk] at mk
          rw [List.getElem?_set_ne (Ne.symm zj)] at hj
          rw [List.getElem?_set_ne (Ne.symm zk)] at hk
          exact e.sep j k p mj mk hj hk
  · have h1 : ds.length ≤ i := Nat.le_of_not_lt hi
    have h2 : σ.length ≤ i := by rw [← e.len]; exact h1
    rw [Env.put_out _ _ _ h1, List.set_eq_of_length_le h2]
    exact e
theorem EnvOk.putS (e : EnvOk K S0 H0 ds σ S H) {i : Nat} {v : V} {α : Type} {c : Cd α} {a : α} (h : c.rep K S v a) : EnvOk K S0 H0 (ds.put i (.st α c a)) (σ.set i (some v)) S H :=
  e.put ⟨v, rfl, h⟩ (fun z => z.elim)
/-- a list that no slot holds yet -/
theorem EnvOk.putM (e : EnvOk K S0 H0 ds σ S H) {i : Nat} {p : Addr} {vs : List V} {α : Type} {c : Cd α} {as : List α} (h0 : H0 p = none) (hs : S p = none) (hp : H p = some (.lst vs)) (r : Reps c K S vs as)
    (hn : ∀ j, isMu (ds.get j) → σ[j]? ≠ some (some (.ref p))) : EnvOk K S0 H0 (ds.put i (.mu α c as)) (σ.set i (some (.ref p))) S H :=
  e.put ⟨p, vs, rfl, h0, hs, hp, r⟩ (fun _ q eq j _ mj => by cases eq; exact hn j mj)
/-- a slot's list changes -/
theorem EnvOk.mutate (e : EnvOk K S0 H0 ds σ S H) {i : Nat} {p : Addr} {vs : List V} {α β : Type} {c : Cd α} {c' : Cd β} {as : List α} {bs : List β} (h : ds.get i = .mu α c as) (hp : σ[i]? = some (some (.ref p))) (r : Reps c' K S vs bs) :
    EnvOk K S0 H0 (ds.put i (.mu β c' bs)) σ S (upd H p (.lst vs)) := by
  obtain ⟨p', vs', h1, h2, h3, h4, h5⟩ := e.muv h
  have ep : p' = p := by
    rw [hp] at h1
    cases h1
    rfl
  subst ep
  have hi : i < ds.length := by
    rw [e.len]
    exact (List.getElem?_eq_some_iff.mp hp).1
  have mi : isMu (ds.get i) := by rw [h]; trivial
  have mono : ∀ j, isMu ((ds.put i (.mu β c' bs)).get j) → isMu (ds.get j) := fun j m => by
    by_cases z : j = i
    · rw [z]; exact mi
    · rw [Env.get_put_ne _ _ _ _ z] at m
      exact m
  refine ⟨by rw [Env.put_length, e.len], fun j => ?_, fun j k q mj mk => e.sep j k q (mono j mj) (mono k mk), ⟨e.grow.ex.mut h2, e.grow.st, e.grow.inn.mut h3, e.grow.new⟩⟩
  by_cases z : j = i
  · subst z
    rw [Env.get_put_same _ _ _ hi]
    exact ⟨p', vs, h1, h2, h3, upd_same, r⟩
  · rw [Env.get_put_ne _ _ _ _ z]
    have q := e.at_ j
    cases hd : ds.get j with
    | none => trivial
    | st γ c2 a =>
      rw [hd] at q
      exact q
    | mu γ c2 cs =>
      rw [hd] at q
      obtain ⟨p2, ws, k1, k2, k3, k4, k5⟩ := q
      refine ⟨p2, ws, k1, k2, k3, ?_, k5⟩
      rw [upd_ne (fun ez => z (e.sep j i p' (by rw [hd]; trivial) mi (by rw [← ez]; exact k1) h1))]
      exact k4
/-- a slot's list settles -/
theorem EnvOk.freeze (e : EnvOk K S0 H0 ds σ S H) {i : Nat} {α : Type} {c : Cd α} {as : List α} (h : ds.get i = .mu α c as) : ∃ S', Same S S' ∧ EnvOk K S0 H0 (ds.put i (.st (List α) (cL c) as)) σ S' H := by
  obtain ⟨p, vs, h1, h2, h3, h4, h5⟩ := e.muv h
  have hi : i < ds.length := by
    rw [e.len]
    exact (List.getElem?_eq_some_iff.mp h1).1
  have hS : Same S (upd S p (.lst vs)) := .new h3
  refine ⟨upd S p (.lst vs), hS, ⟨by rw [Env.put_length, e.len], fun j => ?_, fun j k q mj mk hj hk => ?_, ⟨e.grow.ex, e.grow.st.trans hS, fun a u ea => ?_, fun a ea na => ?_⟩⟩⟩
  · by_cases z : j = i
    · subst z
      rw [Env.get_put_same _ _ _ hi]
      exact ⟨.ref p, h1, p, vs, rfl, SqL.of upd_same, Reps.mono hS h5⟩
    · rw [Env.get_put_ne _ _ _ _ z]
      have q := e.at_ j
      cases hd : ds.get j with
      | none => trivial
      | st γ c2 a =>
        rw [hd] at q
        obtain ⟨v, k1, k2⟩ := q
        exact ⟨v, k1, c2.mono hS k2⟩
      | mu γ c2 cs =>
        rw [hd] at q
        obtain ⟨p2, ws, k1, k2, k3, k4, k5⟩ := q
        refine ⟨p2, ws, k1, k2, ?_, k4, Reps.mono hS k5⟩
        rw [upd_ne (fun ez => z (e.sep j i p (by rw [hd]; trivial) (by rw [h]; trivial) (by rw [← ez]; exact k1) h1))]
        exact k3
  · by_cases zj : j = i
    · subst zj
      rw [Env.get_put_same _ _ _ hi] at mj
      exact mj.elim
    · by_cases zk : k = i
      · subst zk
        rw [Env.get_put_same _ _ _ hi] at mk
        exact mk.elim
      · rw [Env.get_put_ne _ _ _ _ zj] at mj
        rw [Env.get_put_ne _ _ _ _ zk] at mk
        exact e.sep j k q mj mk hj hk
  · by_cases z : a = p
    · subst z
      rw [upd_same] at ea
      cases ea
      exact h4
    · rw [upd_ne z] at ea
      exact e.grow.inn a u ea
  · by_cases z : a = p
    · rw [z]; exact h2
    · rw [upd_ne z] at na
      exact e.grow.new a ea na
/-- forgetting -/
def EnvLe : Env → Env → Prop
  | [], [] => True
  | a :: as, b :: bs => (b = .none ∨ a = b) ∧ EnvLe as bs
  | _, _ => False
theorem EnvLe.length : ∀ {as bs : Env}, EnvLe as bs → as.length = bs.length
  | [], [], _ => rfl
  | _ :: _, _ :: _, h => congrArg Nat.succ (EnvLe.length h.2)
  | [], _ :: _, h => h.elim
  | _ :: _, [], h => h.elim
theorem EnvLe.get : ∀ {as bs : Env} (i : Nat), EnvLe as bs → bs.get i = .none ∨ as.get i = bs.get i
  | [], [], _, _ => .inl rfl
  | _ :: _, _ :: _, 0, h => h.1
  | _ :: as, _ :: bs, i + 1, h => EnvLe.get (as := as) (bs := bs) i h.2
  | [], _ :: _, _, h => h.elim
  | _ :: _, [], _, h => h.elim
theorem EnvOk.le {ds' : Env} (e : EnvOk K S0 H0 ds σ S H) (l : EnvLe ds ds') : EnvOk K S0 H0 ds' σ S H := by
  refine ⟨l.length.symm.trans e.len, fun i => ?_, fun i j p mi mj => ?_, e.grow⟩
  · rcases l.get i with q | q
    · rw [q]; trivial
    · rw [← q]; exact e.at_ i
  · have hi : isMu (ds.get i) := by
      rcases l.get i with q | q
      · rw [q] at mi; exact mi.elim
      · rw [q]; exact mi
    have hj : isMu (ds.get j) := by
      rcases l.get j with q | q
      · rw [q] at mj; exact mj.elim
      · rw [q]; exact mj
    exact e.sep i j p hi hj
theorem EnvLe.refl : ∀ (as : Env), EnvLe as as
  | [] => trivial
  | _ :: as => ⟨.inr rfl, EnvLe.refl as⟩
/-- the slots at a def's entry -/
theorem EnvV.length : ∀ {ds : Env} {vs : List V}, EnvV K H ds vs → ds.length = vs.length
  | [], [], _ => rfl
  | _ :: _, _ :: _, h => congrArg Nat.succ (EnvV.length h.2)
  | [], _ :: _, h => h.elim
  | _ :: _, [], h => h.elim
theorem EnvV.slot {n : Nat} : ∀ {ds : Env} {vs : List V} (i : Nat), EnvV K S ds vs → SlotOk K H0 S H ((ds ++ List.replicate n SD.none).get i) (vs.map some ++ List.replicate n none)[i]? ∧ ¬ isMu ((ds ++ List.replicate n SD.none).get i)
  | [], [], i, _ => by
    have e : Env.get (List.replicate n SD.none) i = .none := by
      induction n generalizing i with
      | zero => rfl
      | succ n ih => cases i with
        | zero => rfl
        | succ i => exact ih i
    rw [List.nil_append, e]
    exact ⟨trivial, fun z => z⟩
  | _ :: _, v :: _, 0, h => by
    obtain ⟨⟨α, c, a, e, r⟩, _⟩ := h
    subst e
    exact ⟨⟨v, rfl, r⟩, fun z => z⟩
  | _ :: ds, _ :: vs, i + 1, h => EnvV.slot (ds := ds) (vs := vs) i h.2
  | [], _ :: _, _, h => h.elim
  | _ :: _, [], _, h => h.elim
theorem EnvOk.start {N : List Str} {vs : List V} (h : EnvV K S ds vs) (hl : vs.length ≤ N.length) (i : Same S H) : EnvOk K S H (ds ++ List.replicate (N.length - vs.length) .none) (L2.start N vs) S H := by
  refine ⟨?_, fun i => (EnvV.slot i h).1, fun i j p mi => ((EnvV.slot (K := K) (H0 := H) (S := S) (H := H) i h).2 mi).elim, .refl i⟩
  unfold L2.start
  rw [List.length_append, List.length_append, List.length_map, List.length_replicate, List.length_replicate, h.length]
end
end Zk
set_option maxHeartbeats 4000000
/-! # Zk: expressions -/
namespace Zk
open PySem PySem.Spec PyProof.Rows L2
/-! ### what follows a value -/
def PX {α : Type} (c : Cd α) (K : PySem.W.Frag) (S H : Hp) (m : R α) (Q : VK) (W : XK) : Prop :=
  m.post (fun a => ∀ v S' H', Grow S H S' H' → c.rep K S' v a → Q v H') (fun x => ∀ cl d S' H', Grow S H S' H' → repX K S' cl d x → W cl d H')
def PB (K : PySem.W.Frag) (S H : Hp) (m : R Bool) (Q : Bool → Hp → Prop) (W : XK) : Prop :=
  m.post (fun b => ∀ S' H', Grow S H S' H' → Q b H') (fun x => ∀ cl d S' H', Grow S H S' H' → repX K S' cl d x → W cl d H')
def PAx {τ : Type} (c : CA τ) (K : PySem.W.Frag) (S H : Hp) (m : R τ) (Q : List V → Hp → Prop) (W : XK) : Prop :=
  m.post (fun a => ∀ vs S' H', Grow S H S' H' → c.rep K S' vs a → Q vs H') (fun x => ∀ cl d S' H', Grow S H S' H' → repX K S' cl d x → W cl d H')
section
variable {α β τ : Type} {c : Cd α} {c2 : Cd β} {ca : CA τ} {K : PySem.W.Frag} {S H S1 H1 : Hp} {W : XK}
theorem PX.grow {m : R α} {Q : VK} (g : Grow S H S1 H1) (h : PX c K S H m Q W) : PX c K S1 H1 m Q W :=
  R.post_mono h (fun _ q v S' H' g' r => q v S' H' (g.trans g') r) (fun _ q cl d S' H' g' r => q cl d S' H' (g.trans g') r)
theorem PX.bind {m : R α} {f : α → R β} {Q Q1 : VK} (h : PX c2 K S H (m >>= f) Q W) (k : ∀ a v S1 H1, Grow S H S1 H1 → c.rep K S1 v a → PX c2 K S1 H1 (f a) Q W → Q1 v H1) : PX c K S H m Q1 W :=
  R.post_mono (R.post_bind.mp h) (fun a q v S1 H1 g r => k a v S1 H1 g r (PX.grow g q)) (fun _ q => q)
theorem PX.bindB {m : R Bool} {f : Bool → R β} {Q : VK} {Q1 : Bool → Hp → Prop} (h : PX c2 K S H (m >>= f) Q W) (k : ∀ a S1 H1, Grow S H S1 H1 → PX c2 K S1 H1 (f a) Q W → Q1 a H1) : PB K S H m Q1 W :=
  R.post_mono (R.post_bind.mp h) (fun a q S1 H1 g => k a S1 H1 g (PX.grow g q)) (fun _ q => q)
theorem PX.bindA {m : R τ} {f : τ → R β} {Q : VK} {Q1 : List V → Hp → Prop} (h : PX c2 K S H (m >>= f) Q W) (k : ∀ a vs S1 H1, Grow S H S1 H1 → ca.rep K S1 vs a → PX c2 K S1 H1 (f a) Q W → Q1 vs H1) : PAx ca K S H m Q1 W :=
  R.post_mono (R.post_bind.mp h) (fun a q vs S1 H1 g r => k a vs S1 H1 g r (PX.grow g q)) (fun _ q => q)
theorem PB.grow {m : R Bool} {Q : Bool → Hp → Prop} (g : Grow S H S1 H1) (h : PB K S H m Q W) : PB K S1 H1 m Q W :=
  R.post_mono h (fun _ q S' H' g' => q S' H' (g.trans g')) (fun _ q cl d S' H' g' r => q cl d S' H' (g.trans g') r)
theorem PB.bind {m : R α} {f : α → R Bool} {Q : Bool → Hp → Prop} {Q1 : VK} (h : PB K S H (m >>= f) Q W) (k : ∀ a v S1 H1, Grow S H S1 H1 → c.rep K S1 v a → PB K S1 H1 (f a) Q W → Q1 v H1) : PX c K S H m Q1 W :=
  R.post_mono (R.post_bind.mp h) (fun a q v S1 H1 g r => k a v S1 H1 g r (PB.grow g q)) (fun _ q => q)
theorem PB.bindB {m : R Bool} {f : Bool → R Bool} {Q Q1 : Bool → Hp → Prop} (h : PB K S H (m >>= f) Q W) (k : ∀ a S1 H1, Grow S H S1 H1 → PB K S1 H1 (f a) Q W → Q1 a H1) : PB K S H m Q1 W :=
  R.post_mono (R.post_bind.mp h) (fun a q S1 H1 g => k a S1 H1 g (PB.grow g q)) (fun _ q => q)
theorem PAx.grow {m : R τ} {Q : List V → Hp → Prop} (g : Grow S H S1 H1) (h : PAx ca K S H m Q W) : PAx ca K S1 H1 m Q W :=
  R.post_mono h (fun _ q v S' H' g' r => q v S' H' (g.trans g') r) (fun _ q cl d S' H' g' r => q cl d S' H' (g.trans g') r)
theorem PAx.bind {m : R α} {f : α → R τ} {Q : List V → Hp → Prop} {Q1 : VK} (h : PAx ca K S H (m >>= f) Q W) (k : ∀ a v S1 H1, Grow S H S1 H1 → c.rep K S1 v a → PAx ca K S1 H1 (f a) Q W → Q1 v H1) : PX c K S H m Q1 W :=
  R.post_mono (R.post_bind.mp h) (fun a q v S1 H1 g r => k a v S1 H1 g r (PAx.grow g q)) (fun _ q => q)
theorem PAx.bindA {τ' : Type} {ca' : CA τ'} {m : R τ'} {f : τ' → R τ} {Q : List V → Hp → Prop} {Q1 : List V → Hp → Prop} (h : PAx ca K S H (m >>= f) Q W) (k : ∀ a vs S1 H1, Grow S H S1 H1 → ca'.rep K S1 vs a → PAx ca K S1 H1 (f a) Q W → Q1 vs H1) : PAx ca' K S H m Q1 W :=
  R.post_mono (R.post_bind.mp h) (fun a q vs S1 H1 g r => k a vs S1 H1 g r (PAx.grow g q)) (fun _ q => q)
theorem PX.ok {a : α} {Q : VK} {v : V} (h : PX c K S H (.ok a) Q W) (i : Same S H) (r : c.rep K S v a) : Q v H := h v S H (.refl i) r
theorem PB.ok {b : Bool} {Q : Bool → Hp → Prop} (h : PB K S H (.ok b) Q W) (i : Same S H) : Q b H := h S H (.refl i)
theorem PAx.ok {a : τ} {Q : List V → Hp → Prop} {vs : List V} (h : PAx ca K S H (.ok a) Q W) (i : Same S H) (r : ca.rep K S vs a) : Q vs H := h vs S H (.refl i) r
end
/-! ### the judgements -/
def DE (X : Cx) (W : XK) (ds : Env) (e : Expr) {α : Type} (c : Cd α) (m : R α) : Prop :=
  ∃ t : TE, PE X e t ∧ ∀ S0 H0 σ S H Q, EnvOk X.K S0 H0 ds σ S H → PX c X.K S H m Q W → t σ H Q
def DT (X : Cx) (W : XK) (ds : Env) (e : Expr) (m : R Bool) : Prop :=
  ∃ t : TT, PT X e t ∧ ∀ S0 H0 σ S H Q, EnvOk X.K S0 H0 ds σ S H → PB X.K S H m Q W → t σ H Q
/-- a test within and, or -/
def DW (X : Cx) (W : XK) (ds : Env) (e : Expr) (m : R Bool) : Prop :=
  ∃ t : TT, PW X e t ∧ ∀ S0 H0 σ S H Q, EnvOk X.K S0 H0 ds σ S H → PB X.K S H m Q W → t σ H Q
def DA (X : Cx) (W : XK) (ds : Env) (es : List Expr) {τ : Type} (c : CA τ) (m : R τ) : Prop :=
  ∃ t : TA, PA X es t ∧ ∀ S0 H0 σ S H Q, EnvOk X.K S0 H0 ds σ S H → PAx c X.K S H m Q W → t σ H Q
section
variable {X : Cx} {W : XK} {ds : Env} {α β γ τ : Type} {a b : Expr} {es : List Expr} {pos : Pos}
/-! ### names, constants -/
theorem var (i : Nat) {c : Cd α} {x : Str} {z : α} (h : ds.get i = .st α c z := by rfl) (hN : X.N[i]? = some x := by rfl) (hv : Vis X.env.scope x := by first | exact Or.inl rfl | exact Or.inr (Or.inl rfl) | exact Or.inr (Or.inr rfl))
    (hd : (x == ("__debug__" : Str)) = false := by decide) (hcd : (x == ("__classdict__" : Str)) = false := by decide) : DE X W ds (.Name x pos) c (.ok z) :=
  ⟨tVar i, pe_var hN hv hd hcd, fun S0 H0 σ S H Q E P => by
    obtain ⟨v, h1, h2⟩ := E.var h
    exact ⟨v, h1, P.ok E.inn h2⟩⟩
theorem int {i : Int} {j : Nat} : DE X W ds (.Constant (.int i) j pos) cI (.ok i) := ⟨_, pe_int, fun _ _ _ _ _ _ E P => P.ok E.inn rfl⟩
theorem bool {i : Bool} {j : Nat} : DE X W ds (.Constant (.bool i) j pos) cB (.ok i) := ⟨_, pe_bl, fun _ _ _ _ _ _ E P => P.ok E.inn rfl⟩
theorem non {j : Nat} : DE X W ds (.Constant .none j pos) cN (.ok ()) := ⟨_, pe_non, fun _ _ _ _ _ _ E P => P.ok E.inn rfl⟩
theorem str {x : Str} {j : Nat} : DE X W ds (.Constant (.str x) j pos) cS (.ok x) := ⟨_, pe_str, fun _ _ _ _ _ _ E P => P.ok E.inn rfl⟩
/-- another reading of the same value -/
def Coe (c : Cd α) (c2 : Cd β) (f : α → β) : Prop := ∀ K H v a, c.rep K H v a → c2.rep K H v (f a)
theorem coe {c : Cd α} {c2 : Cd β} {f : α → β} {m : R α} (h : Coe c c2 f) (ha : DE X W ds a c m) : DE X W ds a c2 (m >>= fun x => .ok (f x)) := by
  obtain ⟨t, p, q⟩ := ha
  refine ⟨t, p, fun S0 H0 σ S H Q E P => q S0 H0 σ S H Q E (P.bind fun x v S1 H1 g r P1 => P1.ok g.inn (h _ _ _ _ r))⟩
/-! ### two operands -/
def BinSem (K : PySem.W.Frag) (W : XK) (r : R2) (c1 : Cd α) (c2 : Cd β) (c3 : Cd γ) (g : α → β → R γ) : Prop :=
  ∀ x y v u S H Q, Same S H → c1.rep K S v x → c2.rep K S u y → PX c3 K S H (g x y) Q W → r v u H Q
variable {c1 : Cd α} {c2 : Cd β} {c3 : Cd γ} {g : α → β → R γ} {m1 : R α} {m2 : R β} {r : R2} {x : α} {y : β}
theorem tOp_sem {ta tb : TE} (hs : BinSem X.K W r c1 c2 c3 g) (qa : ∀ S0 H0 σ S H Q, EnvOk X.K S0 H0 ds σ S H → PX c1 X.K S H m1 Q W → ta σ H Q) (qb : ∀ S0 H0 σ S H Q, EnvOk X.K S0 H0 ds σ S H → PX c2 X.K S H m2 Q W → tb σ H Q) :
    ∀ S0 H0 σ S H Q, EnvOk X.K S0 H0 ds σ S H → PX c3 X.K S H (m1 >>= fun x => m2 >>= fun y => g x y) Q W → tOp r ta tb σ H Q := fun S0 H0 σ S H Q E P =>
  qa S0 H0 σ S H _ E (P.bind fun x v S1 H1 g1 r1 P1 => qb S0 H0 σ S1 H1 _ (E.step g1) (P1.bind fun y u S2 H2 g2 r2 P2 => hs x y v u S2 H2 Q g2.inn (c1.mono g2.st r1) r2 P2))
theorem bin {op : Operator} (ho : OpR X (binaryOp op) r) (hs : BinSem X.K W r c1 c2 c3 g) (ha : DE X W ds a c1 m1) (hb : DE X W ds b c2 m2) : DE X W ds (.BinOp a op b pos) c3 (m1 >>= fun x => m2 >>= fun y => g x y) := by
  obtain ⟨ta, pa, qa⟩ := ha
  obtain ⟨tb, pb, qb⟩ := hb
  exact ⟨tOp r ta tb, pe_op ho pa pb, tOp_sem hs qa qb⟩
theorem cmpV {op : CmpOp} (ho : OpR X (compareOp op) r) (hm : behindInMarks op b = false) (hs : BinSem X.K W r c1 c2 c3 g) (ha : DE X W ds a c1 m1) (hb : DE X W ds b c2 m2) : DE X W ds (.Compare a [op] [b] pos) c3 (m1 >>= fun x => m2 >>= fun y => g x y) := by
  obtain ⟨ta, pa, qa⟩ := ha
  obtain ⟨tb, pb, qb⟩ := hb
  exact ⟨tOp r ta tb, pe_cmpR ho pa pb hm, tOp_sem hs qa qb⟩
theorem pb_of {m : R Bool} {K : PySem.W.Frag} {S H : Hp} {Q : Bool → Hp → Prop} (P : PB K S H m Q W) : PX cB K S H m (fun v H' => ∃ k, v = .bl k ∧ Q k H') W :=
  R.post_mono P (fun b q v S' H' gr e => ⟨b, e, q S' H' gr⟩) (fun _ q => q)
theorem cmpT {op : CmpOp} {g : α → β → R Bool} (ho : OpR X (compareOp op) r) (hm : behindInMarks op b = false) (hs : BinSem X.K W r c1 c2 cB g) (ha : DE X W ds a c1 m1) (hb : DE X W ds b c2 m2) : DT X W ds (.Compare a [op] [b] pos) (m1 >>= fun x => m2 >>= fun y => g x y) := by
  obtain ⟨ta, pa, qa⟩ := ha
  obtain ⟨tb, pb, qb⟩ := hb
  exact ⟨_, pt_cmpR ho pa pb hm, fun S0 H0 σ S H Q E P => tOp_sem hs qa qb S0 H0 σ S H _ E (pb_of P)⟩
theorem ix {r : R2} (ho : IxR X r) (hp : PlainIx b) (hs : BinSem X.K W r c1 c2 c3 g) (ha : DE X W ds a c1 m1) (hb : DE X W ds b c2 m2) : DE X W ds (.Subscript a b pos) c3 (m1 >>= fun x => m2 >>= fun y => g x y) := by
  obtain ⟨ta, pa, qa⟩ := ha
  obtain ⟨tb, pb, qb⟩ := hb
  exact ⟨tOp r ta tb, pe_ix ho pa pb hp, tOp_sem hs qa qb⟩
/-! ### numbers -/
def mulOk (x y : Int) : Bool := decide (x.natAbs.log2 + y.natAbs.log2 < 100000000)
def mulM (x y : Int) : R Int := R.guard (mulOk x y = true) (x * y)
def fdivM (x y : Int) : R Int := R.guard (y ≠ 0 ∧ Builtin.divisionGoesByPylong x y = false) (x.fdiv y)
def modM (x y : Int) : R Int := R.guard (y ≠ 0) (x.fmod y)
def powM (x y : Int) : R Int := R.guard (0 ≤ y ∧ y ≤ 1000000 ∧ x.natAbs < 2 ^ 64) (x ^ y.toNat)
theorem mulOk.ok {i j : Int} (h : mulOk i j = true) : IntMulOk i j := by
  have b : ∀ x : Int, Builtin.Int.intBits x ≤ x.natAbs.log2 + 1 := fun x => by
    unfold Builtin.Int.intBits
    split <;> omega
  have h1 := b i
  have h2 := b j
  have h3 : i.natAbs.log2 + j.natAbs.log2 < 100000000 := of_decide_eq_true h
  have e : bitsLine = 134217728 := by decide
  unfold IntMulOk
  intro z
  rw [Bool.and_eq_true] at z
  have z2 := z.2
  unfold Builtin.Int.intTooBig at z2
  have z3 := of_decide_eq_true z2
  rw [e] at z3
  omega
theorem op_mulZ : OpR X (binaryOp .Mult) (rI (fun i j => mulOk i j = true) fun i j => .int (i * j)) := opI fun _ _ _ _ _ _ _ hc q => mul_int q (mulOk.ok hc)
theorem op_fdivZ : OpR X (binaryOp .FloorDiv) (rI (fun i j => j ≠ 0 ∧ Builtin.divisionGoesByPylong i j = false) fun i j => .int (i.fdiv j)) := opI fun _ _ _ _ _ _ _ hc q => floordiv_int hc.1 q (.inl hc.2)
theorem sem_I0 {K : PySem.W.Frag} {f : Int → Int → Int} : BinSem K W (rI0 fun i j => .int (f i j)) cI cI cI (fun x y => .ok (f x y)) := fun x y v u S H Q i r1 r2 P => ⟨x, y, r1, r2, P.ok i rfl⟩
theorem sem_B0 {K : PySem.W.Frag} {f : Int → Int → Bool} : BinSem K W (rI0 fun i j => .bl (f i j)) cI cI cB (fun x y => .ok (f x y)) := fun x y v u S H Q i r1 r2 P => ⟨x, y, r1, r2, P.ok i rfl⟩
theorem PX.guard {p : Prop} [Decidable p] {z : γ} {K : PySem.W.Frag} {S H : Hp} {Q : VK} (P : PX c3 K S H (R.guard p z) Q W) : p ∧ PX c3 K S H (.ok z) Q W := by
  unfold R.guard at P
  split at P
  · exact ⟨by assumption, P⟩
  · exact False.elim P
theorem sem_I {K : PySem.W.Frag} {C : Int → Int → Prop} [h : ∀ i j, Decidable (C i j)] {f : Int → Int → Int} : BinSem K W (rI C fun i j => .int (f i j)) cI cI cI (fun x y => R.guard (C x y) (f x y)) := fun x y v u S H Q i r1 r2 P => by
  obtain ⟨h1, h2⟩ := P.guard
  exact ⟨x, y, r1, r2, h1, h2.ok i rfl⟩

theorem add_pp  {x : Int} {y : Int} (ha : DE X W ds a cI (.ok x)) (hb : DE X W ds b cI (.ok y)) : DE X W ds (.BinOp a .Add b pos) cI (.ok (x + y)) := bin op_add sem_I0 ha hb
theorem add_mp  {m1 : R Int} {y : Int} (ha : DE X W ds a cI m1) (hb : DE X W ds b cI (.ok y)) : DE X W ds (.BinOp a .Add b pos) cI (m1 >>= fun x => .ok (x + y)) := bin op_add sem_I0 ha hb
theorem add_pm  {x : Int} {m2 : R Int} (ha : DE X W ds a cI (.ok x)) (hb : DE X W ds b cI m2) : DE X W ds (.BinOp a .Add b pos) cI (m2 >>= fun y => .ok (x + y)) := bin op_add sem_I0 ha hb
theorem add_mm  {m1 : R Int} {m2 : R Int} (ha : DE X W ds a cI m1) (hb : DE X W ds b cI m2) : DE X W ds (.BinOp a .Add b pos) cI (m1 >>= fun x => m2 >>= fun y => .ok (x + y)) := bin op_add sem_I0 ha hb
theorem sub_pp  {x : Int} {y : Int} (ha : DE X W ds a cI (.ok x)) (hb : DE X W ds b cI (.ok y)) : DE X W ds (.BinOp a .Sub b pos) cI (.ok (x - y)) := bin op_sub sem_I0 ha hb
theorem sub_mp  {m1 : R Int} {y : Int} (ha : DE X W ds a cI m1) (hb : DE X W ds b cI (.ok y)) : DE X W ds (.BinOp a .Sub b pos) cI (m1 >>= fun x => .ok (x - y)) := bin op_sub sem_I0 ha hb
theorem sub_pm  {x : Int} {m2 : R Int} (ha : DE X W ds a cI (.ok x)) (hb : DE X W ds b cI m2) : DE X W ds (.BinOp a .Sub b pos) cI (m2 >>= fun y => .ok (x - y)) := bin op_sub sem_I0 ha hb
theorem sub_mm  {m1 : R Int} {m2 : R Int} (ha : DE X W ds a cI m1) (hb : DE X W ds b cI m2) : DE X W ds (.BinOp a .Sub b pos) cI (m1 >>= fun x => m2 >>= fun y => .ok (x - y)) := bin op_sub sem_I0 ha hb
theorem mul_pp  {x : Int} {y : Int} (ha : DE X W ds a cI (.ok x)) (hb : DE X W ds b cI (.ok y)) : DE X W ds (.BinOp a .Mult b pos) cI (mulM x y) := bin op_mulZ sem_I ha hb
theorem mul_mp  {m1 : R Int} {y : Int} (ha : DE X W ds a cI m1) (hb : DE X W ds b cI (.ok y)) : DE X W ds (.BinOp a .Mult b pos) cI (m1 >>= fun x => mulM x y) := bin op_mulZ sem_I ha hb
theorem mul_pm  {x : Int} {m2 : R Int} (ha : DE X W ds a cI (.ok x)) (hb : DE X W ds b cI m2) : DE X W ds (.BinOp a .Mult b pos) cI (m2 >>= fun y => mulM x y) := bin op_mulZ sem_I ha hb
theorem mul_mm  {m1 : R Int} {m2 : R Int} (ha : DE X W ds a cI m1) (hb : DE X W ds b cI m2) : DE X W ds (.BinOp a .Mult b pos) cI (m1 >>= fun x => m2 >>= fun y => mulM x y) := bin op_mulZ sem_I ha hb
theorem fdiv_pp  {x : Int} {y : Int} (ha : DE X W ds a cI (.ok x)) (hb : DE X W ds b cI (.ok y)) : DE X W ds (.BinOp a .FloorDiv b pos) cI (fdivM x y) := bin op_fdivZ sem_I ha hb
theorem fdiv_mp  {m1 : R Int} {y : Int} (ha : DE X W ds a cI m1) (hb : DE X W ds b cI (.ok y)) : DE X W ds (.BinOp a .FloorDiv b pos) cI (m1 >>= fun x => fdivM x y) := bin op_fdivZ sem_I ha hb
theorem fdiv_pm  {x : Int} {m2 : R Int} (ha : DE X W ds a cI (.ok x)) (hb : DE X W ds b cI m2) : DE X W ds (.BinOp a .FloorDiv b pos) cI (m2 >>= fun y => fdivM x y) := bin op_fdivZ sem_I ha hb
theorem fdiv_mm  {m1 : R Int} {m2 : R Int} (ha : DE X W ds a cI m1) (hb : DE X W ds b cI m2) : DE X W ds (.BinOp a .FloorDiv b pos) cI (m1 >>= fun x => m2 >>= fun y => fdivM x y) := bin op_fdivZ sem_I ha hb
theorem mod_pp  {x : Int} {y : Int} (ha : DE X W ds a cI (.ok x)) (hb : DE X W ds b cI (.ok y)) : DE X W ds (.BinOp a .Mod b pos) cI (modM x y) := bin op_modN sem_I ha hb
theorem mod_mp  {m1 : R Int} {y : Int} (ha : DE X W ds a cI m1) (hb : DE X W ds b cI (.ok y)) : DE X W ds (.BinOp a .Mod b pos) cI (m1 >>= fun x => modM x y) := bin op_modN sem_I ha hb
theorem mod_pm  {x : Int} {m2 : R Int} (ha : DE X W ds a cI (.ok x)) (hb : DE X W ds b cI m2) : DE X W ds (.BinOp a .Mod b pos) cI (m2 >>= fun y => modM x y) := bin op_modN sem_I ha hb
theorem mod_mm  {m1 : R Int} {m2 : R Int} (ha : DE X W ds a cI m1) (hb : DE X W ds b cI m2) : DE X W ds (.BinOp a .Mod b pos) cI (m1 >>= fun x => m2 >>= fun y => modM x y) := bin op_modN sem_I ha hb
instance {i j : Int} : Decidable (CPow i j) := by unfold CPow; infer_instance
theorem pow_pp  {x : Int} {y : Int} (ha : DE X W ds a cI (.ok x)) (hb : DE X W ds b cI (.ok y)) : DE X W ds (.BinOp a .Pow b pos) cI (powM x y) := bin op_pow sem_I ha hb
theorem pow_mp  {m1 : R Int} {y : Int} (ha : DE X W ds a cI m1) (hb : DE X W ds b cI (.ok y)) : DE X W ds (.BinOp a .Pow b pos) cI (m1 >>= fun x => powM x y) := bin op_pow sem_I ha hb
theorem pow_pm  {x : Int} {m2 : R Int} (ha : DE X W ds a cI (.ok x)) (hb : DE X W ds b cI m2) : DE X W ds (.BinOp a .Pow b pos) cI (m2 >>= fun y => powM x y) := bin op_pow sem_I ha hb
theorem pow_mm  {m1 : R Int} {m2 : R Int} (ha : DE X W ds a cI m1) (hb : DE X W ds b cI m2) : DE X W ds (.BinOp a .Pow b pos) cI (m1 >>= fun x => m2 >>= fun y => powM x y) := bin op_pow sem_I ha hb
theorem lt_pp  {x : Int} {y : Int} (ha : DE X W ds a cI (.ok x)) (hb : DE X W ds b cI (.ok y)) : DE X W ds (.Compare a [.Lt] [b] pos) cB (.ok (decide (x < y))) := cmpV op_lt (nomark _) sem_B0 ha hb
theorem lt_mp  {m1 : R Int} {y : Int} (ha : DE X W ds a cI m1) (hb : DE X W ds b cI (.ok y)) : DE X W ds (.Compare a [.Lt] [b] pos) cB (m1 >>= fun x => .ok (decide (x < y))) := cmpV op_lt (nomark _) sem_B0 ha hb
theorem lt_pm  {x : Int} {m2 : R Int} (ha : DE X W ds a cI (.ok x)) (hb : DE X W ds b cI m2) : DE X W ds (.Compare a [.Lt] [b] pos) cB (m2 >>= fun y => .ok (decide (x < y))) := cmpV op_lt (nomark _) sem_B0 ha hb
theorem lt_mm  {m1 : R Int} {m2 : R Int} (ha : DE X W ds a cI m1) (hb : DE X W ds b cI m2) : DE X W ds (.Compare a [.Lt] [b] pos) cB (m1 >>= fun x => m2 >>= fun y => .ok (decide (x < y))) := cmpV op_lt (nomark _) sem_B0 ha hb
theorem ltT_pp  {x : Int} {y : Int} (ha : DE X W ds a cI (.ok x)) (hb : DE X W ds b cI (.ok y)) : DT X W ds (.Compare a [.Lt] [b] pos) (.ok (decide (x < y))) := cmpT op_lt (nomark _) sem_B0 ha hb
theorem ltT_mp  {m1 : R Int} {y : Int} (ha : DE X W ds a cI m1) (hb : DE X W ds b cI (.ok y)) : DT X W ds (.Compare a [.Lt] [b] pos) (m1 >>= fun x => .ok (decide (x < y))) := cmpT op_lt (nomark _) sem_B0 ha hb
theorem ltT_pm  {x : Int} {m2 : R Int} (ha : DE X W ds a cI (.ok x)) (hb : DE X W ds b cI m2) : DT X W ds (.Compare a [.Lt] [b] pos) (m2 >>= fun y => .ok (decide (x < y))) := cmpT op_lt (nomark _) sem_B0 ha hb
theorem ltT_mm  {m1 : R Int} {m2 : R Int} (ha : DE X W ds a cI m1) (hb : DE X W ds b cI m2) : DT X W ds (.Compare a [.Lt] [b] pos) (m1 >>= fun x => m2 >>= fun y => .ok (decide (x < y))) := cmpT op_lt (nomark _) sem_B0 ha hb
theorem le_pp  {x : Int} {y : Int} (ha : DE X W ds a cI (.ok x)) (hb : DE X W ds b cI (.ok y)) : DE X W ds (.Compare a [.LtE] [b] pos) cB (.ok (decide (x ≤ y))) := cmpV op_le (nomark _) sem_B0 ha hb
theorem le_mp  {m1 : R Int} {y : Int} (ha : DE X W ds a cI m1) (hb : DE X W ds b cI (.ok y)) : DE X W ds (.Compare a [.LtE] [b] pos) cB (m1 >>= fun x => .ok (decide (x ≤ y))) := cmpV op_le (nomark _) sem_B0 ha hb
theorem le_pm  {x : Int} {m2 : R Int} (ha : DE X W ds a cI (.ok x)) (hb : DE X W ds b cI m2) : DE X W ds (.Compare a [.LtE] [b] pos) cB (m2 >>= fun y => .ok (decide (x ≤ y))) := cmpV op_le (nomark _) sem_B0 ha hb
theorem le_mm  {m1 : R Int} {m2 : R Int} (ha : DE X W ds a cI m1) (hb : DE X W ds b cI m2) : DE X W ds (.Compare a [.LtE] [b] pos) cB (m1 >>= fun x => m2 >>= fun y => .ok (decide (x ≤ y))) := cmpV op_le (nomark _) sem_B0 ha hb
theorem leT_pp  {x : Int} {y : Int} (ha : DE X W ds a cI (.ok x)) (hb : DE X W ds b cI (.ok y)) : DT X W ds (.Compare a [.LtE] [b] pos) (.ok (decide (x ≤ y))) := cmpT op_le (nomark _) sem_B0 ha hb
theorem leT_mp  {m1 : R Int} {y : Int} (ha : DE X W ds a cI m1) (hb : DE X W ds b cI (.ok y)) : DT X W ds (.Compare a [.LtE] [b] pos) (m1 >>= fun x => .ok (decide (x ≤ y))) := cmpT op_le (nomark _) sem_B0 ha hb
theorem leT_pm  {x : Int} {m2 : R Int} (ha : DE X W ds a cI (.ok x)) (hb : DE X W ds b cI m2) : DT X W ds (.Compare a [.LtE] [b] pos) (m2 >>= fun y => .ok (decide (x ≤ y))) := cmpT op_le (nomark _) sem_B0 ha hb
theorem leT_mm  {m1 : R Int} {m2 : R Int} (ha : DE X W ds a cI m1) (hb : DE X W ds b cI m2) : DT X W ds (.Compare a [.LtE] [b] pos) (m1 >>= fun x => m2 >>= fun y => .ok (decide (x ≤ y))) := cmpT op_le (nomark _) sem_B0 ha hb
theorem gt_pp  {x : Int} {y : Int} (ha : DE X W ds a cI (.ok x)) (hb : DE X W ds b cI (.ok y)) : DE X W ds (.Compare a [.Gt] [b] pos) cB (.ok (decide (y < x))) := cmpV op_gt (nomark _) sem_B0 ha hb
theorem gt_mp  {m1 : R Int} {y : Int} (ha : DE X W ds a cI m1) (hb : DE X W ds b cI (.ok y)) : DE X W ds (.Compare a [.Gt] [b] pos) cB (m1 >>= fun x => .ok (decide (y < x))) := cmpV op_gt (nomark _) sem_B0 ha hb
theorem gt_pm  {x : Int} {m2 : R Int} (ha : DE X W ds a cI (.ok x)) (hb : DE X W ds b cI m2) : DE X W ds (.Compare a [.Gt] [b] pos) cB (m2 >>= fun y => .ok (decide (y < x))) := cmpV op_gt (nomark _) sem_B0 ha hb
theorem gt_mm  {m1 : R Int} {m2 : R Int} (ha : DE X W ds a cI m1) (hb : DE X W ds b cI m2) : DE X W ds (.Compare a [.Gt] [b] pos) cB (m1 >>= fun x => m2 >>= fun y => .ok (decide (y < x))) := cmpV op_gt (nomark _) sem_B0 ha hb
theorem gtT_pp  {x : Int} {y : Int} (ha : DE X W ds a cI (.ok x)) (hb : DE X W ds b cI (.ok y)) : DT X W ds (.Compare a [.Gt] [b] pos) (.ok (decide (y < x))) := cmpT op_gt (nomark _) sem_B0 ha hb
theorem gtT_mp  {m1 : R Int} {y : Int} (ha : DE X W ds a cI m1) (hb : DE X W ds b cI (.ok y)) : DT X W ds (.Compare a [.Gt] [b] pos) (m1 >>= fun x => .ok (decide (y < x))) := cmpT op_gt (nomark _) sem_B0 ha hb
theorem gtT_pm  {x : Int} {m2 : R Int} (ha : DE X W ds a cI (.ok x)) (hb : DE X W ds b cI m2) : DT X W ds (.Compare a [.Gt] [b] pos) (m2 >>= fun y => .ok (decide (y < x))) := cmpT op_gt (nomark _) sem_B0 ha hb
theorem gtT_mm  {m1 : R Int} {m2 : R Int} (ha : DE X W ds a cI m1) (hb : DE X W ds b cI m2) : DT X W ds (.Compare a [.Gt] [b] pos) (m1 >>= fun x => m2 >>= fun y => .ok (decide (y < x))) := cmpT op_gt (nomark _) sem_B0 ha hb
theorem ge_pp  {x : Int} {y : Int} (ha : DE X W ds a cI (.ok x)) (hb : DE X W ds b cI (.ok y)) : DE X W ds (.Compare a [.GtE] [b] pos) cB (.ok (decide (y ≤ x))) := cmpV op_ge (nomark _) sem_B0 ha hb
theorem ge_mp  {m1 : R Int} {y : Int} (ha : DE X W ds a cI m1) (hb : DE X W ds b cI (.ok y)) : DE X W ds (.Compare a [.GtE] [b] pos) cB (m1 >>= fun x => .ok (decide (y ≤ x))) := cmpV op_ge (nomark _) sem_B0 ha hb
theorem ge_pm  {x : Int} {m2 : R Int} (ha : DE X W ds a cI (.ok x)) (hb : DE X W ds b cI m2) : DE X W ds (.Compare a [.GtE] [b] pos) cB (m2 >>= fun y => .ok (decide (y ≤ x))) := cmpV op_ge (nomark _) sem_B0 ha hb
theorem ge_mm  {m1 : R Int} {m2 : R Int} (ha : DE X W ds a cI m1) (hb : DE X W ds b cI m2) : DE X W ds (.Compare a [.GtE] [b] pos) cB (m1 >>= fun x => m2 >>= fun y => .ok (decide (y ≤ x))) := cmpV op_ge (nomark _) sem_B0 ha hb
theorem geT_pp  {x : Int} {y : Int} (ha : DE X W ds a cI (.ok x)) (hb : DE X W ds b cI (.ok y)) : DT X W ds (.Compare a [.GtE] [b] pos) (.ok (decide (y ≤ x))) := cmpT op_ge (nomark _) sem_B0 ha hb
theorem geT_mp  {m1 : R Int} {y : Int} (ha : DE X W ds a cI m1) (hb : DE X W ds b cI (.ok y)) : DT X W ds (.Compare a [.GtE] [b] pos) (m1 >>= fun x => .ok (decide (y ≤ x))) := cmpT op_ge (nomark _) sem_B0 ha hb
theorem geT_pm  {x : Int} {m2 : R Int} (ha : DE X W ds a cI (.ok x)) (hb : DE X W ds b cI m2) : DT X W ds (.Compare a [.GtE] [b] pos) (m2 >>= fun y => .ok (decide (y ≤ x))) := cmpT op_ge (nomark _) sem_B0 ha hb
theorem geT_mm  {m1 : R Int} {m2 : R Int} (ha : DE X W ds a cI m1) (hb : DE X W ds b cI m2) : DT X W ds (.Compare a [.GtE] [b] pos) (m1 >>= fun x => m2 >>= fun y => .ok (decide (y ≤ x))) := cmpT op_ge (nomark _) sem_B0 ha hb
end
end Zk
set_option maxHeartbeats 4000000
/-! # Zk: data, tests, displays, calls of built-ins -/
namespace Zk
open PySem PySem.Spec PyProof.Rows L2

/-! ### mirrors as data -/
class Dt {α : Type} (c : Cd α) where
  toD : α → PyData
  depth : Nat
  lay : ∀ a, (toD a).canLay0 = true
  le : ∀ a, (toD a).depth ≤ depth
  eqv : ∀ a b, PyData.eqv (toD a) (toD b) = true ↔ a = b
  rep : ∀ {K : PySem.W.Frag} {H : Hp} {v : V} {a : α}, c.rep K H v a → Dp K H v (toD a)
class DtA {τ : Type} (c : CA τ) where
  toDs : τ → List PyData
  depth : Nat
  lay : ∀ a, PyData.canLayAll0 (toDs a) = true
  le : ∀ a, PyData.depthAll (toDs a) ≤ depth
  eqv : ∀ a b, PyData.eqvAll (toDs a) (toDs b) = true ↔ a = b
  rep : ∀ {K : PySem.W.Frag} {H : Hp} {vs : List V} {a : τ}, c.rep K H vs a → DpAll K H vs (toDs a)
namespace Dt
variable {α τ : Type}
@[reducible] instance : Dt cI where
  toD := .int
  depth := 0
  lay _ := by simp only [PyData.canLay0]
  le _ := by simp only [PyData.depth]; exact Nat.le_refl _
  eqv a b := by simp only [PyData.eqv]; exact beq_iff_eq
  rep h := by
    have e : _ = V.int _ := h
    rw [e]
    exact .int _
@[reducible] instance : Dt cB where
  toD := .bool
  depth := 0
  lay _ := by simp only [PyData.canLay0]
  le _ := by simp only [PyData.depth]; exact Nat.le_refl _
  eqv a b := by simp only [PyData.eqv]; exact beq_iff_eq
  rep h := by
    have e : _ = V.bl _ := h
    rw [e]
    exact .bl _
@[reducible] instance : Dt cN where
  toD _ := .none
  depth := 0
  lay _ := by simp only [PyData.canLay0]
  le _ := by simp only [PyData.depth]; exact Nat.le_refl _
  eqv a b := by simp only [PyData.eqv]
  rep h := by
    have e : _ = V.non := h
    rw [e]
    exact .non
theorem lays {c : Cd α} [Dt c] : ∀ as : List α, PyData.canLayAll0 (as.map (toD c)) = true
  | [] => by simp only [List.map_nil, PyData.canLayAll0]
  | a :: as => by rw [List.map_cons, PyData.canLayAll0, lay a, lays as]; rfl
theorem les {c : Cd α} [Dt c] : ∀ as : List α, PyData.depthAll (as.map (toD c)) ≤ depth c
  | [] => by simp only [List.map_nil, PyData.depthAll]; exact Nat.zero_le _
  | a :: as => by rw [List.map_cons, PyData.depthAll]; exact Nat.max_le.mpr ⟨le a, les as⟩
theorem eqvs {c : Cd α} [Dt c] : ∀ as bs : List α, PyData.eqvAll (as.map (toD c)) (bs.map (toD c)) = true ↔ as = bs
  | [], [] => by simp [PyData.eqvAll]
  | [], _ :: _ => by simp [PyData.eqvAll]
  | _ :: _, [] => by simp [PyData.eqvAll]
  | a :: as, b :: bs => by rw [List.map_cons, List.map_cons, PyData.eqvAll, Bool.and_eq_true, eqv a b, eqvs as bs, List.cons.injEq]
theorem reps {c : Cd α} [Dt c] {K : PySem.W.Frag} {H : Hp} : ∀ {vs : List V} {as : List α}, Reps c K H vs as → DpAll K H vs (as.map (toD c))
  | [], [], _ => .nil
  | _ :: _, _ :: _, h => .cons (rep h.1) (reps h.2)
  | [], _ :: _, h => h.elim
  | _ :: _, [], h => h.elim
@[reducible] instance {c : Cd α} [Dt c] : Dt (cL c) where
  toD as := .list (as.map (toD c))
  depth := depth c + 1
  lay as := by simp only [PyData.canLay0]; exact lays as
  le as := by simp only [PyData.depth]; exact Nat.succ_le_succ (les as)
  eqv as bs := by simp only [PyData.eqv]; exact eqvs as bs
  rep h := by
    obtain ⟨p, vs, e, h1, h2⟩ := h
    rw [e]
    exact .lst h1 (reps h2)
@[reducible] instance {c : Cd α} [Dt c] : Dt (cT c) where
  toD as := .tuple (as.map (toD c))
  depth := depth c + 1
  lay as := by simp only [PyData.canLay0]; exact lays as
  le as := by simp only [PyData.depth]; exact Nat.succ_le_succ (les as)
  eqv as bs := by simp only [PyData.eqv]; exact eqvs as bs
  rep h := by
    obtain ⟨p, vs, e, h1, h2⟩ := h
    rw [e]
    exact .tup h1 (reps h2)
@[reducible] instance : DtA aNil where
  toDs _ := []
  depth := 0
  lay _ := by simp only [PyData.canLayAll0]
  le _ := by simp only [PyData.depthAll]; exact Nat.le_refl _
  eqv a b := by simp only [PyData.eqvAll]
  rep h := by
    have e : _ = ([] : List V) := h
    rw [e]
    exact .nil
@[reducible] instance {c : Cd α} [Dt c] : DtA (aOne c) where
  toDs a := [toD c a]
  depth := depth c
  lay a := by simp only [PyData.canLayAll0, lay a]; rfl
  le a := by simp only [PyData.depthAll]; exact Nat.max_le.mpr ⟨le a, Nat.zero_le _⟩
  eqv a b := by rw [PyData.eqvAll, Bool.and_eq_true, eqv a b]; simp [PyData.eqvAll]
  rep h := by
    obtain ⟨v, e, h1⟩ := h
    rw [e]
    exact .cons (rep h1) .nil
@[reducible] instance {c : Cd α} {r : CA τ} [Dt c] [DtA r] : DtA (aCons c r) where
  toDs a := toD c a.1 :: DtA.toDs r a.2
  depth := max (depth c) (DtA.depth r)
  lay a := by rw [PyData.canLayAll0, lay a.1, DtA.lay a.2]; rfl
  le a := by rw [PyData.depthAll]; exact Nat.max_le.mpr ⟨Nat.le_trans (le a.1) (Nat.le_max_left _ _), Nat.le_trans (DtA.le a.2) (Nat.le_max_right _ _)⟩
  eqv a b := by rw [PyData.eqvAll, Bool.and_eq_true, eqv a.1 b.1, DtA.eqv a.2 b.2]; exact ⟨fun h => Prod.ext h.1 h.2, fun h => by rw [h]; exact ⟨rfl, rfl⟩⟩
  rep h := by
    obtain ⟨v, ws, e, h1, h2⟩ := h
    rw [e]
    exact .cons (rep h1) (DtA.rep h2)
@[reducible] instance {r : CA τ} [DtA r] : Dt (cP r) where
  toD a := .tuple (DtA.toDs r a)
  depth := DtA.depth r + 1
  lay a := by simp only [PyData.canLay0]; exact DtA.lay a
  le a := by simp only [PyData.depth]; exact Nat.succ_le_succ (DtA.le a)
  eqv a b := by simp only [PyData.eqv]; exact DtA.eqv a b
  rep h := by
    obtain ⟨p, vs, e, h1, h2⟩ := h
    rw [e]
    exact .tup h1 (DtA.rep h2)
theorem shaped {c : Cd α} [Dt c] (h : depth c ≤ 64) (a : α) : SeqAt.shaped (toD c a) = true := by
  show ((toD c a).canLay0 && decide ((toD c a).depth ≤ 64)) = true
  rw [lay a, decide_eq_true (Nat.le_trans (le a) h)] <;> rfl
end Dt
section
variable {X : Cx} {W : XK} {ds : Env} {α β γ τ : Type} {a b : Expr} {e : Expr} {es : List Expr} {pos p : Pos} {c1 : Cd α} {c2 : Cd β} {c3 : Cd γ} {m1 : R α} {m2 : R β} {x : α} {y : β}
theorem decide_eqv {c : Cd α} [Dt c] [DecidableEq α] (a b : α) : PyData.eqv (Dt.toD c a) (Dt.toD c b) = decide (a = b) := by
  rw [Bool.eq_iff_iff, Dt.eqv, decide_eq_true_iff]
theorem sem_eqD {K : PySem.W.Frag} {c : Cd α} [Dt c] [DecidableEq α] (h : Dt.depth c ≤ 64) : BinSem K W (rEqD K) c c cB (fun x y => .ok (decide (x = y))) := fun x y v u S H Q i r1 r2 P =>
  ⟨_, _, Dt.rep (c.mono i r1), Dt.rep (c.mono i r2), Dt.shaped h _, Dt.shaped h _, by rw [decide_eqv]; exact P.ok i rfl⟩
theorem sem_neD {K : PySem.W.Frag} {c : Cd α} [Dt c] [DecidableEq α] (h : Dt.depth c ≤ 64) : BinSem K W (rNeD K) c c cB (fun x y => .ok (!decide (x = y))) := fun x y v u S H Q i r1 r2 P =>
  ⟨_, _, Dt.rep (c.mono i r1), Dt.rep (c.mono i r2), Dt.shaped h _, Dt.shaped h _, by rw [decide_eqv]; exact P.ok i rfl⟩
theorem sem_eqI {K : PySem.W.Frag} : BinSem K W rEq cI cI cB (fun x y => .ok (decide (x = y))) := fun x y v u S H Q i r1 r2 P => by
  have e1 : v = .int x := r1
  have e2 : u = .int y := r2
  subst e1 e2
  refine ⟨rfl, ?_⟩
  have e : decide (V.int x = V.int y) = decide (x = y) := by
    by_cases q : x = y
    · subst q; simp
    · rw [decide_eq_false q, decide_eq_false (fun z => q (V.int.inj z))]
  rw [e]
  exact P.ok i rfl
theorem sem_neI {K : PySem.W.Frag} : BinSem K W rNe cI cI cB (fun x y => .ok (!decide (x = y))) := fun x y v u S H Q i r1 r2 P => by
  have e1 : v = .int x := r1
  have e2 : u = .int y := r2
  subst e1 e2
  refine ⟨rfl, ?_⟩
  have e : decide (V.int x = V.int y) = decide (x = y) := by
    by_cases q : x = y
    · subst q; simp
    · rw [decide_eq_false q, decide_eq_false (fun z => q (V.int.inj z))]
  rw [e]
  exact P.ok i rfl
theorem sem_eqS {K : PySem.W.Frag} : BinSem K W rEq cS cS cB (fun x y => .ok (decide (x = y))) := fun x y v u S H Q i r1 r2 P => by
  have e1 : v = .str x := r1
  have e2 : u = .str y := r2
  subst e1 e2
  refine ⟨rfl, ?_⟩
  have e : decide (V.str x = V.str y) = decide (x = y) := by
    by_cases q : x = y
    · subst q; simp
    · rw [decide_eq_false q, decide_eq_false (fun z => q (V.str.inj z))]
  rw [e]
  exact P.ok i rfl
theorem sem_neS {K : PySem.W.Frag} : BinSem K W rNe cS cS cB (fun x y => .ok (!decide (x = y))) := fun x y v u S H Q i r1 r2 P => by
  have e1 : v = .str x := r1
  have e2 : u = .str y := r2
  subst e1 e2
  refine ⟨rfl, ?_⟩
  have e : decide (V.str x = V.str y) = decide (x = y) := by
    by_cases q : x = y
    · subst q; simp
    · rw [decide_eq_false q, decide_eq_false (fun z => q (V.str.inj z))]
  rw [e]
  exact P.ok i rfl

theorem eqI_pp  {x : Int} {y : Int} (ha : DE X W ds a cI (.ok x)) (hb : DE X W ds b cI (.ok y)) : DE X W ds (.Compare a [.Eq] [b] pos) cB (.ok (decide (x = y))) := cmpV op_eq (nomark _) sem_eqI ha hb
theorem eqI_mp  {m1 : R Int} {y : Int} (ha : DE X W ds a cI m1) (hb : DE X W ds b cI (.ok y)) : DE X W ds (.Compare a [.Eq] [b] pos) cB (m1 >>= fun x => .ok (decide (x = y))) := cmpV op_eq (nomark _) sem_eqI ha hb
theorem eqI_pm  {x : Int} {m2 : R Int} (ha : DE X W ds a cI (.ok x)) (hb : DE X W ds b cI m2) : DE X W ds (.Compare a [.Eq] [b] pos) cB (m2 >>= fun y => .ok (decide (x = y))) := cmpV op_eq (nomark _) sem_eqI ha hb
theorem eqI_mm  {m1 : R Int} {m2 : R Int} (ha : DE X W ds a cI m1) (hb : DE X W ds b cI m2) : DE X W ds (.Compare a [.Eq] [b] pos) cB (m1 >>= fun x => m2 >>= fun y => .ok (decide (x = y))) := cmpV op_eq (nomark _) sem_eqI ha hb
theorem eqIT_pp  {x : Int} {y : Int} (ha : DE X W ds a cI (.ok x)) (hb : DE X W ds b cI (.ok y)) : DT X W ds (.Compare a [.Eq] [b] pos) (.ok (decide (x = y))) := cmpT op_eq (nomark _) sem_eqI ha hb
theorem eqIT_mp  {m1 : R Int} {y : Int} (ha : DE X W ds a cI m1) (hb : DE X W ds b cI (.ok y)) : DT X W ds (.Compare a [.Eq] [b] pos) (m1 >>= fun x => .ok (decide (x = y))) := cmpT op_eq (nomark _) sem_eqI ha hb
theorem eqIT_pm  {x : Int} {m2 : R Int} (ha : DE X W ds a cI (.ok x)) (hb : DE X W ds b cI m2) : DT X W ds (.Compare a [.Eq] [b] pos) (m2 >>= fun y => .ok (decide (x = y))) := cmpT op_eq (nomark _) sem_eqI ha hb
theorem eqIT_mm  {m1 : R Int} {m2 : R Int} (ha : DE X W ds a cI m1) (hb : DE X W ds b cI m2) : DT X W ds (.Compare a [.Eq] [b] pos) (m1 >>= fun x => m2 >>= fun y => .ok (decide (x = y))) := cmpT op_eq (nomark _) sem_eqI ha hb
theorem eqS_pp  {x : Str} {y : Str} (ha : DE X W ds a cS (.ok x)) (hb : DE X W ds b cS (.ok y)) : DE X W ds (.Compare a [.Eq] [b] pos) cB (.ok (decide (x = y))) := cmpV op_eq (nomark _) sem_eqS ha hb
theorem eqS_mp  {m1 : R Str} {y : Str} (ha : DE X W ds a cS m1) (hb : DE X W ds b cS (.ok y)) : DE X W ds (.Compare a [.Eq] [b] pos) cB (m1 >>= fun x => .ok (decide (x = y))) := cmpV op_eq (nomark _) sem_eqS ha hb
theorem eqS_pm  {x : Str} {m2 : R Str} (ha : DE X W ds a cS (.ok x)) (hb : DE X W ds b cS m2) : DE X W ds (.Compare a [.Eq] [b] pos) cB (m2 >>= fun y => .ok (decide (x = y))) := cmpV op_eq (nomark _) sem_eqS ha hb
theorem eqS_mm  {m1 : R Str} {m2 : R Str} (ha : DE X W ds a cS m1) (hb : DE X W ds b cS m2) : DE X W ds (.Compare a [.Eq] [b] pos) cB (m1 >>= fun x => m2 >>= fun y => .ok (decide (x = y))) := cmpV op_eq (nomark _) sem_eqS ha hb
theorem eqST_pp  {x : Str} {y : Str} (ha : DE X W ds a cS (.ok x)) (hb : DE X W ds b cS (.ok y)) : DT X W ds (.Compare a [.Eq] [b] pos) (.ok (decide (x = y))) := cmpT op_eq (nomark _) sem_eqS ha hb
theorem eqST_mp  {m1 : R Str} {y : Str} (ha : DE X W ds a cS m1) (hb : DE X W ds b cS (.ok y)) : DT X W ds (.Compare a [.Eq] [b] pos) (m1 >>= fun x => .ok (decide (x = y))) := cmpT op_eq (nomark _) sem_eqS ha hb
theorem eqST_pm  {x : Str} {m2 : R Str} (ha : DE X W ds a cS (.ok x)) (hb : DE X W ds b cS m2) : DT X W ds (.Compare a [.Eq] [b] pos) (m2 >>= fun y => .ok (decide (x = y))) := cmpT op_eq (nomark _) sem_eqS ha hb
theorem eqST_mm  {m1 : R Str} {m2 : R Str} (ha : DE X W ds a cS m1) (hb : DE X W ds b cS m2) : DT X W ds (.Compare a [.Eq] [b] pos) (m1 >>= fun x => m2 >>= fun y => .ok (decide (x = y))) := cmpT op_eq (nomark _) sem_eqS ha hb
theorem eqD_pp {c : Cd α} [Dt c] [DecidableEq α] (hu : X.A.units + 64 < cLine)  {x : α} {y : α} (ha : DE X W ds a c (.ok x)) (hb : DE X W ds b c (.ok y)) (hd : Dt.depth c ≤ 64 := by decide) : DE X W ds (.Compare a [.Eq] [b] pos) cB (.ok (decide (x = y))) := cmpV (op_eqD hu) (nomark _) (sem_eqD hd) ha hb
theorem eqD_mp {c : Cd α} [Dt c] [DecidableEq α] (hu : X.A.units + 64 < cLine)  {m1 : R α} {y : α} (ha : DE X W ds a c m1) (hb : DE X W ds b c (.ok y)) (hd : Dt.depth c ≤ 64 := by decide) : DE X W ds (.Compare a [.Eq] [b] pos) cB (m1 >>= fun x => .ok (decide (x = y))) := cmpV (op_eqD hu) (nomark _) (sem_eqD hd) ha hb
theorem eqD_pm {c : Cd α} [Dt c] [DecidableEq α] (hu : X.A.units + 64 < cLine)  {x : α} {m2 : R α} (ha : DE X W ds a c (.ok x)) (hb : DE X W ds b c m2) (hd : Dt.depth c ≤ 64 := by decide) : DE X W ds (.Compare a [.Eq] [b] pos) cB (m2 >>= fun y => .ok (decide (x = y))) := cmpV (op_eqD hu) (nomark _) (sem_eqD hd) ha hb
theorem eqD_mm {c : Cd α} [Dt c] [DecidableEq α] (hu : X.A.units + 64 < cLine)  {m1 : R α} {m2 : R α} (ha : DE X W ds a c m1) (hb : DE X W ds b c m2) (hd : Dt.depth c ≤ 64 := by decide) : DE X W ds (.Compare a [.Eq] [b] pos) cB (m1 >>= fun x => m2 >>= fun y => .ok (decide (x = y))) := cmpV (op_eqD hu) (nomark _) (sem_eqD hd) ha hb
theorem eqDT_pp {c : Cd α} [Dt c] [DecidableEq α] (hu : X.A.units + 64 < cLine)  {x : α} {y : α} (ha : DE X W ds a c (.ok x)) (hb : DE X W ds b c (.ok y)) (hd : Dt.depth c ≤ 64 := by decide) : DT X W ds (.Compare a [.Eq] [b] pos) (.ok (decide (x = y))) := cmpT (op_eqD hu) (nomark _) (sem_eqD hd) ha hb
theorem eqDT_mp {c : Cd α} [Dt c] [DecidableEq α] (hu : X.A.units + 64 < cLine)  {m1 : R α} {y : α} (ha : DE X W ds a c m1) (hb : DE X W ds b c (.ok y)) (hd : Dt.depth c ≤ 64 := by decide) : DT X W ds (.Compare a [.Eq] [b] pos) (m1 >>= fun x => .ok (decide (x = y))) := cmpT (op_eqD hu) (nomark _) (sem_eqD hd) ha hb
theorem eqDT_pm {c : Cd α} [Dt c] [DecidableEq α] (hu : X.A.units + 64 < cLine)  {x : α} {m2 : R α} (ha : DE X W ds a c (.ok x)) (hb : DE X W ds b c m2) (hd : Dt.depth c ≤ 64 := by decide) : DT X W ds (.Compare a [.Eq] [b] pos) (m2 >>= fun y => .ok (decide (x = y))) := cmpT (op_eqD hu) (nomark _) (sem_eqD hd) ha hb
theorem eqDT_mm {c : Cd α} [Dt c] [DecidableEq α] (hu : X.A.units + 64 < cLine)  {m1 : R α} {m2 : R α} (ha : DE X W ds a c m1) (hb : DE X W ds b c m2) (hd : Dt.depth c ≤ 64 := by decide) : DT X W ds (.Compare a [.Eq] [b] pos) (m1 >>= fun x => m2 >>= fun y => .ok (decide (x = y))) := cmpT (op_eqD hu) (nomark _) (sem_eqD hd) ha hb
theorem neI_pp  {x : Int} {y : Int} (ha : DE X W ds a cI (.ok x)) (hb : DE X W ds b cI (.ok y)) : DE X W ds (.Compare a [.NotEq] [b] pos) cB (.ok (!decide (x = y))) := cmpV op_ne (nomark _) sem_neI ha hb
theorem neI_mp  {m1 : R Int} {y : Int} (ha : DE X W ds a cI m1) (hb : DE X W ds b cI (.ok y)) : DE X W ds (.Compare a [.NotEq] [b] pos) cB (m1 >>= fun x => .ok (!decide (x = y))) := cmpV op_ne (nomark _) sem_neI ha hb
theorem neI_pm  {x : Int} {m2 : R Int} (ha : DE X W ds a cI (.ok x)) (hb : DE X W ds b cI m2) : DE X W ds (.Compare a [.NotEq] [b] pos) cB (m2 >>= fun y => .ok (!decide (x = y))) := cmpV op_ne (nomark _) sem_neI ha hb
theorem neI_mm  {m1 : R Int} {m2 : R Int} (ha : DE X W ds a cI m1) (hb : DE X W ds b cI m2) : DE X W ds (.Compare a [.NotEq] [b] pos) cB (m1 >>= fun x => m2 >>= fun y => .ok (!decide (x = y))) := cmpV op_ne (nomark _) sem_neI ha hb
theorem neIT_pp  {x : Int} {y : Int} (ha : DE X W ds a cI (.ok x)) (hb : DE X W ds b cI (.ok y)) : DT X W ds (.Compare a [.NotEq] [b] pos) (.ok (!decide (x = y))) := cmpT op_ne (nomark _) sem_neI ha hb
theorem neIT_mp  {m1 : R Int} {y : Int} (ha : DE X W ds a cI m1) (hb : DE X W ds b cI (.ok y)) : DT X W ds (.Compare a [.NotEq] [b] pos) (m1 >>= fun x => .ok (!decide (x = y))) := cmpT op_ne (nomark _) sem_neI ha hb
theorem neIT_pm  {x : Int} {m2 : R Int} (ha : DE X W ds a cI (.ok x)) (hb : DE X W ds b cI m2) : DT X W ds (.Compare a [.NotEq] [b] pos) (m2 >>= fun y => .ok (!decide (x = y))) := cmpT op_ne (nomark _) sem_neI ha hb
theorem neIT_mm  {m1 : R Int} {m2 : R Int} (ha : DE X W ds a cI m1) (hb : DE X W ds b cI m2) : DT X W ds (.Compare a [.NotEq] [b] pos) (m1 >>= fun x => m2 >>= fun y => .ok (!decide (x = y))) := cmpT op_ne (nomark _) sem_neI ha hb
theorem neS_pp  {x : Str} {y : Str} (ha : DE X W ds a cS (.ok x)) (hb : DE X W ds b cS (.ok y)) : DE X W ds (.Compare a [.NotEq] [b] pos) cB (.ok (!decide (x = y))) := cmpV op_ne (nomark _) sem_neS ha hb
theorem neS_mp  {m1 : R Str} {y : Str} (ha : DE X W ds a cS m1) (hb : DE X W ds b cS (.ok y)) : DE X W ds (.Compare a [.NotEq] [b] pos) cB (m1 >>= fun x => .ok (!decide (x = y))) := cmpV op_ne (nomark _) sem_neS ha hb
theorem neS_pm  {x : Str} {m2 : R Str} (ha : DE X W ds a cS (.ok x)) (hb : DE X W ds b cS m2) : DE X W ds (.Compare a [.NotEq] [b] pos) cB (m2 >>= fun y => .ok (!decide (x = y))) := cmpV op_ne (nomark _) sem_neS ha hb
theorem neS_mm  {m1 : R Str} {m2 : R Str} (ha : DE X W ds a cS m1) (hb : DE X W ds b cS m2) : DE X W ds (.Compare a [.NotEq] [b] pos) cB (m1 >>= fun x => m2 >>= fun y => .ok (!decide (x = y))) := cmpV op_ne (nomark _) sem_neS ha hb
theorem neST_pp  {x : Str} {y : Str} (ha : DE X W ds a cS (.ok x)) (hb : DE X W ds b cS (.ok y)) : DT X W ds (.Compare a [.NotEq] [b] pos) (.ok (!decide (x = y))) := cmpT op_ne (nomark _) sem_neS ha hb
theorem neST_mp  {m1 : R Str} {y : Str} (ha : DE X W ds a cS m1) (hb : DE X W ds b cS (.ok y)) : DT X W ds (.Compare a [.NotEq] [b] pos) (m1 >>= fun x => .ok (!decide (x = y))) := cmpT op_ne (nomark _) sem_neS ha hb
theorem neST_pm  {x : Str} {m2 : R Str} (ha : DE X W ds a cS (.ok x)) (hb : DE X W ds b cS m2) : DT X W ds (.Compare a [.NotEq] [b] pos) (m2 >>= fun y => .ok (!decide (x = y))) := cmpT op_ne (nomark _) sem_neS ha hb
theorem neST_mm  {m1 : R Str} {m2 : R Str} (ha : DE X W ds a cS m1) (hb : DE X W ds b cS m2) : DT X W ds (.Compare a [.NotEq] [b] pos) (m1 >>= fun x => m2 >>= fun y => .ok (!decide (x = y))) := cmpT op_ne (nomark _) sem_neS ha hb
theorem neD_pp {c : Cd α} [Dt c] [DecidableEq α] (hu : X.A.units + 64 < cLine)  {x : α} {y : α} (ha : DE X W ds a c (.ok x)) (hb : DE X W ds b c (.ok y)) (hd : Dt.depth c ≤ 64 := by decide) : DE X W ds (.Compare a [.NotEq] [b] pos) cB (.ok (!decide (x = y))) := cmpV (op_neD hu) (nomark _) (sem_neD hd) ha hb
theorem neD_mp {c : Cd α} [Dt c] [DecidableEq α] (hu : X.A.units + 64 < cLine)  {m1 : R α} {y : α} (ha : DE X W ds a c m1) (hb : DE X W ds b c (.ok y)) (hd : Dt.depth c ≤ 64 := by decide) : DE X W ds (.Compare a [.NotEq] [b] pos) cB (m1 >>= fun x => .ok (!decide (x = y))) := cmpV (op_neD hu) (nomark _) (sem_neD hd) ha hb
theorem neD_pm {c : Cd α} [Dt c] [DecidableEq α] (hu : X.A.units + 64 < cLine)  {x : α} {m2 : R α} (ha : DE X W ds a c (.ok x)) (hb : DE X W ds b c m2) (hd : Dt.depth c ≤ 64 := by decide) : DE X W ds (.Compare a [.NotEq] [b] pos) cB (m2 >>= fun y => .ok (!decide (x = y))) := cmpV (op_neD hu) (nomark _) (sem_neD hd) ha hb
theorem neD_mm {c : Cd α} [Dt c] [DecidableEq α] (hu : X.A.units + 64 < cLine)  {m1 : R α} {m2 : R α} (ha : DE X W ds a c m1) (hb : DE X W ds b c m2) (hd : Dt.depth c ≤ 64 := by decide) : DE X W ds (.Compare a [.NotEq] [b] pos) cB (m1 >>= fun x => m2 >>= fun y => .ok (!decide (x = y))) := cmpV (op_neD hu) (nomark _) (sem_neD hd) ha hb
theorem neDT_pp {c : Cd α} [Dt c] [DecidableEq α] (hu : X.A.units + 64 < cLine)  {x : α} {y : α} (ha : DE X W ds a c (.ok x)) (hb : DE X W ds b c (.ok y)) (hd : Dt.depth c ≤ 64 := by decide) : DT X W ds (.Compare a [.NotEq] [b] pos) (.ok (!decide (x = y))) := cmpT (op_neD hu) (nomark _) (sem_neD hd) ha hb
theorem neDT_mp {c : Cd α} [Dt c] [DecidableEq α] (hu : X.A.units + 64 < cLine)  {m1 : R α} {y : α} (ha : DE X W ds a c m1) (hb : DE X W ds b c (.ok y)) (hd : Dt.depth c ≤ 64 := by decide) : DT X W ds (.Compare a [.NotEq] [b] pos) (m1 >>= fun x => .ok (!decide (x = y))) := cmpT (op_neD hu) (nomark _) (sem_neD hd) ha hb
theorem neDT_pm {c : Cd α} [Dt c] [DecidableEq α] (hu : X.A.units + 64 < cLine)  {x : α} {m2 : R α} (ha : DE X W ds a c (.ok x)) (hb : DE X W ds b c m2) (hd : Dt.depth c ≤ 64 := by decide) : DT X W ds (.Compare a [.NotEq] [b] pos) (m2 >>= fun y => .ok (!decide (x = y))) := cmpT (op_neD hu) (nomark _) (sem_neD hd) ha hb
theorem neDT_mm {c : Cd α} [Dt c] [DecidableEq α] (hu : X.A.units + 64 < cLine)  {m1 : R α} {m2 : R α} (ha : DE X W ds a c m1) (hb : DE X W ds b c m2) (hd : Dt.depth c ≤ 64 := by decide) : DT X W ds (.Compare a [.NotEq] [b] pos) (m1 >>= fun x => m2 >>= fun y => .ok (!decide (x = y))) := cmpT (op_neD hu) (nomark _) (sem_neD hd) ha hb
/-! ### None -/
theorem isN_p {j : Nat} {p2 : Pos} {o : Option α} {c : Cd α} (ha : DE X W ds a (cO c) (.ok o)) : DE X W ds (.Compare a [.Is] [.Constant .none j p2] pos) cB (.ok o.isNone) := by
  obtain ⟨t, p, q⟩ := ha
  refine ⟨_, pe_cmp (pc_isN p), fun S0 H0 σ S H Q E P => q S0 H0 σ S H _ E (fun v S' H' g r => ?_)⟩
  have e : decide (v = V.non) = o.isNone := by
    cases o with
    | none => exact decide_eq_true r
    | some z => exact decide_eq_false r.1
  rw [e]
  exact P _ S' H' g rfl
theorem notN_p {j : Nat} {p2 : Pos} {o : Option α} {c : Cd α} (ha : DE X W ds a (cO c) (.ok o)) : DE X W ds (.Compare a [.IsNot] [.Constant .none j p2] pos) cB (.ok o.isSome) := by
  obtain ⟨t, p, q⟩ := ha
  refine ⟨_, pe_cmp (pc_notN p), fun S0 H0 σ S H Q E P => q S0 H0 σ S H _ E (fun v S' H' g r => ?_)⟩
  have e : (!decide (v = V.non)) = o.isSome := by
    cases o with
    | none => rw [decide_eq_true (show v = V.non from r)] <;> rfl
    | some z => rw [decide_eq_false r.1] <;> rfl
  rw [e]
  exact P _ S' H' g rfl
/-! ### tests, and, or, not -/
theorem val {m : R Bool} (ha : DE X W ds a cB m) (he : ∀ whole, isTrue a X.env whole = (do let v ← whole; standAt a.pos; holding [v] (truthy v)) := by intro _; rfl) : DT X W ds a m := by
  obtain ⟨t, p, q⟩ := ha
  exact ⟨_, pt_val p he, fun S0 H0 σ S H Q E P => q S0 H0 σ S H _ E (pb_of P)⟩
/-- a comparison's value as a test -/
theorem valC {m : R Bool} {l : Expr} {op : CmpOp} {r : Expr} (ha : ∃ t, PC X op l r t ∧ ∀ S0 H0 σ S H Q, EnvOk X.K S0 H0 ds σ S H → PX cB X.K S H m Q W → t σ H Q) (h1 : behindInMarks op r = false) : DT X W ds (.Compare l [op] [r] pos) m := by
  obtain ⟨t, p, q⟩ := ha
  exact ⟨_, pt_cmp p h1, fun S0 H0 σ S H Q E P => q S0 H0 σ S H _ E (pb_of P)⟩
theorem isN_sem {j : Nat} {p2 : Pos} {o : Option α} {c : Cd α} (ha : DE X W ds a (cO c) (.ok o)) : ∃ t, PC X .Is a (.Constant .none j p2) t ∧ ∀ S0 H0 σ S H Q, EnvOk X.K S0 H0 ds σ S H → PX cB X.K S H (.ok o.isNone) Q W → t σ H Q := by
  obtain ⟨t, p, q⟩ := ha
  refine ⟨_, pc_isN p, fun S0 H0 σ S H Q E P => q S0 H0 σ S H _ E (fun v S' H' g r => ?_)⟩
  have e : decide (v = V.non) = o.isNone := by
    cases o with
    | none => exact decide_eq_true r
    | some z => exact decide_eq_false r.1
  rw [e]
  exact P _ S' H' g rfl
theorem notN_sem {j : Nat} {p2 : Pos} {o : Option α} {c : Cd α} (ha : DE X W ds a (cO c) (.ok o)) : ∃ t, PC X .IsNot a (.Constant .none j p2) t ∧ ∀ S0 H0 σ S H Q, EnvOk X.K S0 H0 ds σ S H → PX cB X.K S H (.ok o.isSome) Q W → t σ H Q := by
  obtain ⟨t, p, q⟩ := ha
  refine ⟨_, pc_notN p, fun S0 H0 σ S H Q E P => q S0 H0 σ S H _ E (fun v S' H' g r => ?_)⟩
  have e : (!decide (v = V.non)) = o.isSome := by
    cases o with
    | none => rw [decide_eq_true (show v = V.non from r)] <;> rfl
    | some z => rw [decide_eq_false r.1] <;> rfl
  rw [e]
  exact P _ S' H' g rfl
theorem isNT_p {j : Nat} {p2 : Pos} {o : Option α} {c : Cd α} (ha : DE X W ds a (cO c) (.ok o)) : DT X W ds (.Compare a [.Is] [.Constant .none j p2] pos) (.ok o.isNone) := valC (isN_sem ha) (nomark _)
theorem notNT_p {j : Nat} {p2 : Pos} {o : Option α} {c : Cd α} (ha : DE X W ds a (cO c) (.ok o)) : DT X W ds (.Compare a [.IsNot] [.Constant .none j p2] pos) (.ok o.isSome) := valC (notN_sem ha) (nomark _)
theorem dt_dw {m : R Bool} (h : DW X W ds a m) : DT X W ds a m := by
  obtain ⟨t, p, q⟩ := h
  exact ⟨t, p.pt, q⟩
theorem and1 {m : R Bool} (ha : DT X W ds a m) : DW X W ds (.BoolOp .And [a] pos) m := by
  obtain ⟨t, p, q⟩ := ha
  exact ⟨t, pw_and1 p, q⟩
theorem or1 {m : R Bool} (ha : DT X W ds a m) : DW X W ds (.BoolOp .Or [a] pos) m := by
  obtain ⟨t, p, q⟩ := ha
  exact ⟨t, pw_or1 p, q⟩
theorem andW {m n : R Bool} (ha : DT X W ds a m) (hb : DW X W ds (.BoolOp .And (b :: es) pos) n) : DW X W ds (.BoolOp .And (a :: b :: es) pos) (m >>= fun z => if z = true then n else .ok false) := by
  obtain ⟨t, p, q⟩ := ha
  obtain ⟨u, p2, q2⟩ := hb
  refine ⟨_, pw_and p p2, fun S0 H0 σ S H Q E P => q S0 H0 σ S H _ E (P.bindB fun z S1 H1 g P1 => ?_)⟩
  cases z with
  | true => exact q2 S0 H0 σ S1 H1 _ (E.step g) P1
  | false => exact P1.ok g.inn
theorem orW {m n : R Bool} (ha : DT X W ds a m) (hb : DW X W ds (.BoolOp .Or (b :: es) pos) n) : DW X W ds (.BoolOp .Or (a :: b :: es) pos) (m >>= fun z => if z = true then .ok true else n) := by
  obtain ⟨t, p, q⟩ := ha
  obtain ⟨u, p2, q2⟩ := hb
  refine ⟨_, pw_or p p2, fun S0 H0 σ S H Q E P => q S0 H0 σ S H _ E (P.bindB fun z S1 H1 g P1 => ?_)⟩
  cases z with
  | true => exact P1.ok g.inn
  | false => exact q2 S0 H0 σ S1 H1 _ (E.step g) P1
theorem andW_p {z : Bool} {n : R Bool} (ha : DT X W ds a (.ok z)) (hb : DW X W ds (.BoolOp .And (b :: es) pos) n) : DW X W ds (.BoolOp .And (a :: b :: es) pos) (if z = true then n else .ok false) := andW ha hb
theorem orW_p {z : Bool} {n : R Bool} (ha : DT X W ds a (.ok z)) (hb : DW X W ds (.BoolOp .Or (b :: es) pos) n) : DW X W ds (.BoolOp .Or (a :: b :: es) pos) (if z = true then .ok true else n) := orW ha hb
theorem notT {m : R Bool} (ha : DT X W ds a m) : DT X W ds (.UnaryOp .Not a pos) (m >>= fun z => .ok (!z)) := by
  obtain ⟨t, p, q⟩ := ha
  exact ⟨_, pt_not p, fun S0 H0 σ S H Q E P => q S0 H0 σ S H _ E (P.bindB fun z S1 H1 g P1 => P1.ok g.inn)⟩
theorem notT_p {z : Bool} (ha : DT X W ds a (.ok z)) : DT X W ds (.UnaryOp .Not a pos) (.ok (!z)) := notT ha
/-- as values -/
theorem and1V {m : R Bool} (ha : DE X W ds a cB m) : DE X W ds (.BoolOp .And [a] pos) cB m := by
  obtain ⟨t, p, q⟩ := ha
  exact ⟨t, pe_one p, q⟩
theorem or1V {m : R Bool} (ha : DE X W ds a cB m) : DE X W ds (.BoolOp .Or [a] pos) cB m := by
  obtain ⟨t, p, q⟩ := ha
  exact ⟨t, pe_one p, q⟩
theorem andV {m n : R Bool} (ha : DE X W ds a cB m) (hb : DE X W ds (.BoolOp .And (b :: es) pos) cB n) : DE X W ds (.BoolOp .And (a :: b :: es) pos) cB (m >>= fun z => if z = true then n else .ok false) := by
  obtain ⟨t, p, q⟩ := ha
  obtain ⟨u, p2, q2⟩ := hb
  refine ⟨_, pe_and p p2, fun S0 H0 σ S H Q E P => q S0 H0 σ S H _ E (P.bind fun z v S1 H1 g r P1 => ⟨z, r, ?_⟩)⟩
  cases z with
  | true => exact q2 S0 H0 σ S1 H1 _ (E.step g) P1
  | false => exact P1.ok g.inn rfl
theorem orV {m n : R Bool} (ha : DE X W ds a cB m) (hb : DE X W ds (.BoolOp .Or (b :: es) pos) cB n) : DE X W ds (.BoolOp .Or (a :: b :: es) pos) cB (m >>= fun z => if z = true then .ok true else n) := by
  obtain ⟨t, p, q⟩ := ha
  obtain ⟨u, p2, q2⟩ := hb
  refine ⟨_, pe_or p p2, fun S0 H0 σ S H Q E P => q S0 H0 σ S H _ E (P.bind fun z v S1 H1 g r P1 => ⟨z, r, ?_⟩)⟩
  cases z with
  | true => exact P1.ok g.inn rfl
  | false => exact q2 S0 H0 σ S1 H1 _ (E.step g) P1
theorem andV_p {z : Bool} {n : R Bool} (ha : DE X W ds a cB (.ok z)) (hb : DE X W ds (.BoolOp .And (b :: es) pos) cB n) : DE X W ds (.BoolOp .And (a :: b :: es) pos) cB (if z = true then n else .ok false) := andV ha hb
theorem orV_p {z : Bool} {n : R Bool} (ha : DE X W ds a cB (.ok z)) (hb : DE X W ds (.BoolOp .Or (b :: es) pos) cB n) : DE X W ds (.BoolOp .Or (a :: b :: es) pos) cB (if z = true then .ok true else n) := orV ha hb
theorem notV {m : R Bool} (ha : DE X W ds a cB m) : DE X W ds (.UnaryOp .Not a pos) cB (m >>= fun z => .ok (!z)) := by
  obtain ⟨t, p, q⟩ := ha
  exact ⟨_, pe_not p, fun S0 H0 σ S H Q E P => q S0 H0 σ S H _ E (P.bind fun z v S1 H1 g r P1 => ⟨z, r, P1.ok g.inn rfl⟩)⟩
theorem notV_p {z : Bool} (ha : DE X W ds a cB (.ok z)) : DE X W ds (.UnaryOp .Not a pos) cB (.ok (!z)) := notV ha
theorem ifE {m : R Bool} {n1 n2 : R γ} {t : Expr} (ht : DT X W ds t m) (ha : DE X W ds a c3 n1) (hb : DE X W ds b c3 n2) : DE X W ds (.IfExp t a b pos) c3 (m >>= fun z => if z = true then n1 else n2) := by
  obtain ⟨tt, p, q⟩ := ht
  obtain ⟨ta, p1, q1⟩ := ha
  obtain ⟨tb, p2, q2⟩ := hb
  refine ⟨_, pe_ifExp p p1 p2, fun S0 H0 σ S H Q E P => q S0 H0 σ S H _ E (P.bindB fun z S1 H1 g P1 => ?_)⟩
  cases z with
  | true => exact q1 S0 H0 σ S1 H1 _ (E.step g) P1
  | false => exact q2 S0 H0 σ S1 H1 _ (E.step g) P1
theorem ifE_p {z : Bool} {n1 n2 : R γ} {t : Expr} (ht : DT X W ds t (.ok z)) (ha : DE X W ds a c3 n1) (hb : DE X W ds b c3 n2) : DE X W ds (.IfExp t a b pos) c3 (if z = true then n1 else n2) := ifE ht ha hb
theorem neg {m : R Int} (ha : DE X W ds a cI m) : DE X W ds (.UnaryOp .USub a pos) cI (m >>= fun z => .ok (-z)) := by
  obtain ⟨t, p, q⟩ := ha
  exact ⟨_, pe_un un_neg p, fun S0 H0 σ S H Q E P => q S0 H0 σ S H _ E (P.bind fun z v S1 H1 g r P1 => ⟨z, r, P1.ok g.inn rfl⟩)⟩
theorem neg_p {z : Int} (ha : DE X W ds a cI (.ok z)) : DE X W ds (.UnaryOp .USub a pos) cI (.ok (-z)) := neg ha
/-- a op b op' c -/
theorem chain {op op' : CmpOp} {f g : Int → Int → Bool} {cc : Expr} {m n k : R Int} (ho : OpR X (compareOp op) (rI0 fun i j => .bl (f i j))) (ho' : OpR X (compareOp op') (rI0 fun i j => .bl (g i j))) (ha : DE X W ds a cI m) (hb : DE X W ds b cI n) (hc : DE X W ds cc cI k)
    (hm : lastMarks [op, op'] [b, cc] = false := by with_unfolding_all rfl) : DE X W ds (.Compare a [op, op'] [b, cc] pos) cB (m >>= fun x => n >>= fun y => if f x y = true then k >>= fun z => .ok (g y z) else .ok false) := by
  obtain ⟨ta, pa, qa⟩ := ha
  obtain ⟨tb, pb, qb⟩ := hb
  obtain ⟨tc, pc, qc⟩ := hc
  refine ⟨_, pe_chain ho ho' pa pb pc hm, fun S0 H0 σ S H Q E P => qa S0 H0 σ S H _ E (P.bind fun x v S1 H1 g1 r1 P1 => qb S0 H0 σ S1 H1 _ (E.step g1) (P1.bind fun y u S2 H2 g2 r2 P2 => ⟨x, y, r1, r2, f x y, rfl, ?_⟩))⟩
  cases hf : f x y with
  | true =>
    rw [hf, if_pos rfl] at P2
    exact qc S0 H0 σ S2 H2 _ ((E.step g1).step g2) (P2.bind fun z w S3 H3 g3 r3 P3 => ⟨y, z, r2, r3, P3.ok g3.inn rfl⟩)
  | false =>
    rw [hf, if_neg Bool.false_ne_true] at P2
    exact P2.ok g2.inn rfl
theorem chainT {op op' : CmpOp} {f g : Int → Int → Bool} {cc : Expr} {m n k : R Int} (ho : OpR X (compareOp op) (rI0 fun i j => .bl (f i j))) (ho' : OpR X (compareOp op') (rI0 fun i j => .bl (g i j))) (ha : DE X W ds a cI m) (hb : DE X W ds b cI n) (hc : DE X W ds cc cI k)
    (hm : lastMarks [op, op'] [b, cc] = false := by with_unfolding_all rfl) : DT X W ds (.Compare a [op, op'] [b, cc] pos) (m >>= fun x => n >>= fun y => if f x y = true then k >>= fun z => .ok (g y z) else .ok false) := by
  obtain ⟨ta, pa, qa⟩ := ha
  obtain ⟨tb, pb, qb⟩ := hb
  obtain ⟨tc, pc, qc⟩ := hc
  refine ⟨_, pt_chain ho ho' pa pb pc hm, fun S0 H0 σ S H Q E P => qa S0 H0 σ S H _ E ((pb_of P).bind fun x v S1 H1 g1 r1 P1 => qb S0 H0 σ S1 H1 _ (E.step g1) (P1.bind fun y u S2 H2 g2 r2 P2 => ⟨x, y, r1, r2, f x y, rfl, ?_⟩))⟩
  cases hf : f x y with
  | true =>
    rw [hf, if_pos rfl] at P2
    exact qc S0 H0 σ S2 H2 _ ((E.step g1).step g2) (P2.bind fun z w S3 H3 g3 r3 P3 => ⟨y, z, r2, r3, P3.ok g3.inn rfl⟩)
  | false =>
    rw [hf, if_neg Bool.false_ne_true] at P2
    exact P2.ok g2.inn rfl
/-! ### items -/
def getM (xs : List α) (i : Int) : R α := match atI xs i with
  | some z => .ok z
  | none => .stuck
theorem reps_at {c : Cd α} {K : PySem.W.Frag} {H : Hp} {vs : List V} {xs : List α} {i : Int} {z : α} (h : Reps c K H vs xs) (e : atI xs i = some z) : ∃ v, atI vs i = some v ∧ c.rep K H v z := by
  unfold atI at e ⊢
  rw [h.length]
  cases q : ixN xs.length i with
  | none =>
    rw [q] at e
    cases e
  | some j =>
    rw [q] at e
    exact h.get e
theorem sem_ixL {K : PySem.W.Frag} {c : Cd α} : BinSem K W (rIxL K) (cL c) cI c getM := fun x y v u S H Q i r1 r2 P => by
  obtain ⟨p, vs, e, h1, h2⟩ := r1
  unfold getM at P
  cases q : atI x y with
  | none =>
    rw [q] at P
    exact P.elim
  | some z =>
    rw [q] at P
    obtain ⟨w, k1, k2⟩ := reps_at h2 q
    exact ⟨p, vs, y, w, e, r2, Same.seq i h1, k1, P.ok i k2⟩
theorem sem_ixT {K : PySem.W.Frag} {c : Cd α} : BinSem K W (rIxT K) (cT c) cI c getM := fun x y v u S H Q i r1 r2 P => by
  obtain ⟨p, vs, e, h1, h2⟩ := r1
  unfold getM at P
  cases q : atI x y with
  | none =>
    rw [q] at P
    exact P.elim
  | some z =>
    rw [q] at P
    obtain ⟨w, k1, k2⟩ := reps_at h2 q
    exact ⟨p, vs, y, w, e, r2, Same.tup i h1, k1, P.ok i k2⟩
theorem sem_ixLT {K : PySem.W.Frag} {c : Cd α} : BinSem K W (rIx K) (cLT c) cI c getM := fun x y v u S H Q i r1 r2 P => by
  rcases r1 with r1 | r1
  · exact .inl (sem_ixL x y v u S H Q i r1 r2 P)
  · exact .inr (.inl (sem_ixT x y v u S H Q i r1 r2 P))

theorem ixL_pp {c : Cd α} {x : List α} {y : Int} (ha : DE X W ds a (cL c) (.ok x)) (hb : DE X W ds b cI (.ok y)) (hp : PlainIx b := by exact fun _ _ => rfl) : DE X W ds (.Subscript a b pos) c (getM x y) := ix ix_list hp sem_ixL ha hb
theorem ixL_mp {c : Cd α} {m1 : R (List α)} {y : Int} (ha : DE X W ds a (cL c) m1) (hb : DE X W ds b cI (.ok y)) (hp : PlainIx b := by exact fun _ _ => rfl) : DE X W ds (.Subscript a b pos) c (m1 >>= fun x => getM x y) := ix ix_list hp sem_ixL ha hb
theorem ixL_pm {c : Cd α} {x : List α} {m2 : R Int} (ha : DE X W ds a (cL c) (.ok x)) (hb : DE X W ds b cI m2) (hp : PlainIx b := by exact fun _ _ => rfl) : DE X W ds (.Subscript a b pos) c (m2 >>= fun y => getM x y) := ix ix_list hp sem_ixL ha hb
theorem ixL_mm {c : Cd α} {m1 : R (List α)} {m2 : R Int} (ha : DE X W ds a (cL c) m1) (hb : DE X W ds b cI m2) (hp : PlainIx b := by exact fun _ _ => rfl) : DE X W ds (.Subscript a b pos) c (m1 >>= fun x => m2 >>= fun y => getM x y) := ix ix_list hp sem_ixL ha hb
theorem ixT_pp {c : Cd α} {x : List α} {y : Int} (ha : DE X W ds a (cT c) (.ok x)) (hb : DE X W ds b cI (.ok y)) (hp : PlainIx b := by exact fun _ _ => rfl) : DE X W ds (.Subscript a b pos) c (getM x y) := ix ix_tup hp sem_ixT ha hb
theorem ixT_mp {c : Cd α} {m1 : R (List α)} {y : Int} (ha : DE X W ds a (cT c) m1) (hb : DE X W ds b cI (.ok y)) (hp : PlainIx b := by exact fun _ _ => rfl) : DE X W ds (.Subscript a b pos) c (m1 >>= fun x => getM x y) := ix ix_tup hp sem_ixT ha hb
theorem ixT_pm {c : Cd α} {x : List α} {m2 : R Int} (ha : DE X W ds a (cT c) (.ok x)) (hb : DE X W ds b cI m2) (hp : PlainIx b := by exact fun _ _ => rfl) : DE X W ds (.Subscript a b pos) c (m2 >>= fun y => getM x y) := ix ix_tup hp sem_ixT ha hb
theorem ixT_mm {c : Cd α} {m1 : R (List α)} {m2 : R Int} (ha : DE X W ds a (cT c) m1) (hb : DE X W ds b cI m2) (hp : PlainIx b := by exact fun _ _ => rfl) : DE X W ds (.Subscript a b pos) c (m1 >>= fun x => m2 >>= fun y => getM x y) := ix ix_tup hp sem_ixT ha hb
theorem ixLT_pp {c : Cd α} {x : List α} {y : Int} (ha : DE X W ds a (cLT c) (.ok x)) (hb : DE X W ds b cI (.ok y)) (hp : PlainIx b := by exact fun _ _ => rfl) : DE X W ds (.Subscript a b pos) c (getM x y) := ix ix_seq hp sem_ixLT ha hb
theorem ixLT_mp {c : Cd α} {m1 : R (List α)} {y : Int} (ha : DE X W ds a (cLT c) m1) (hb : DE X W ds b cI (.ok y)) (hp : PlainIx b := by exact fun _ _ => rfl) : DE X W ds (.Subscript a b pos) c (m1 >>= fun x => getM x y) := ix ix_seq hp sem_ixLT ha hb
theorem ixLT_pm {c : Cd α} {x : List α} {m2 : R Int} (ha : DE X W ds a (cLT c) (.ok x)) (hb : DE X W ds b cI m2) (hp : PlainIx b := by exact fun _ _ => rfl) : DE X W ds (.Subscript a b pos) c (m2 >>= fun y => getM x y) := ix ix_seq hp sem_ixLT ha hb
theorem ixLT_mm {c : Cd α} {m1 : R (List α)} {m2 : R Int} (ha : DE X W ds a (cLT c) m1) (hb : DE X W ds b cI m2) (hp : PlainIx b := by exact fun _ _ => rfl) : DE X W ds (.Subscript a b pos) c (m1 >>= fun x => m2 >>= fun y => getM x y) := ix ix_seq hp sem_ixLT ha hb
/-- an item of a tuple of so many: AIx r i c p: the i-th, c its codec, p the place in the mirror -/
def AIx (r : CA τ) (i : Int) (n : Nat) (c : Cd γ) (pr : τ → γ) : Prop := ∀ K H vs z, r.rep K H vs z → ∃ v, atI vs i = some v ∧ c.rep K H v (pr z)
theorem ixP {r : CA τ} {i : Int} {n : Nat} {pr : τ → γ} {m : R τ} {j : Nat} {p2 : Pos} (h : AIx r i n c3 pr) (ha : DE X W ds a (cP r) m) (hp : PlainIx (.Constant (.int i) j p2) := by exact fun _ _ => rfl) : DE X W ds (.Subscript a (.Constant (.int i) j p2) pos) c3 (m >>= fun z => .ok (pr z)) := by
  obtain ⟨ta, pa, qa⟩ := ha
  refine ⟨_, pe_ix ix_tup pa pe_int hp, fun S0 H0 σ S H Q E P => qa S0 H0 σ S H _ E (P.bind fun z v S1 H1 g r1 P1 => ?_)⟩
  obtain ⟨q, vs, e, h1, h2⟩ := r1
  obtain ⟨w, k1, k2⟩ := h _ _ _ _ h2
  exact ⟨q, vs, i, w, e, rfl, Same.tup g.inn h1, k1, P1.ok g.inn k2⟩

theorem aix_0_1 {t0 : Type} {d0 : Cd t0} : AIx (aOne d0) 0 1 d0 (fun z : t0 => z) := by
  intro K H vs z h
  obtain ⟨v0, e0, r0⟩ := h
  subst e0
  exact ⟨v0, by first | rfl | simp [atI, ixN], r0⟩
theorem ix_0_1p {t0 : Type} {d0 : Cd t0} {z : t0} {j : Nat} {p2 : Pos} (ha : DE X W ds a (cP (aOne d0)) (.ok z)) (hp : PlainIx (.Constant (.int 0) j p2) := by exact fun _ _ => rfl) : DE X W ds (.Subscript a (.Constant (.int 0) j p2) pos) d0 (.ok (z)) := ixP aix_0_1 ha hp
theorem ix_0_1m {t0 : Type} {d0 : Cd t0} {m : R (t0)} {j : Nat} {p2 : Pos} (ha : DE X W ds a (cP (aOne d0)) m) (hp : PlainIx (.Constant (.int 0) j p2) := by exact fun _ _ => rfl) : DE X W ds (.Subscript a (.Constant (.int 0) j p2) pos) d0 (m >>= fun z => .ok (z)) := ixP aix_0_1 ha hp
theorem aix_0_2 {t0 : Type} {t1 : Type} {d0 : Cd t0} {d1 : Cd t1} : AIx (aCons d0 (aOne d1)) 0 2 d0 (fun z : t0 × t1 => z.1) := by
  intro K H vs z h
  obtain ⟨v0, ws0, e0, r0, h0⟩ := h
  obtain ⟨v1, e1, r1⟩ := h0
  subst e1 e0
  exact ⟨v0, by first | rfl | simp [atI, ixN], r0⟩
theorem ix_0_2p {t0 : Type} {t1 : Type} {d0 : Cd t0} {d1 : Cd t1} {z : t0 × t1} {j : Nat} {p2 : Pos} (ha : DE X W ds a (cP (aCons d0 (aOne d1))) (.ok z)) (hp : PlainIx (.Constant (.int 0) j p2) := by exact fun _ _ => rfl) : DE X W ds (.Subscript a (.Constant (.int 0) j p2) pos) d0 (.ok (z.1)) := ixP aix_0_2 ha hp
theorem ix_0_2m {t0 : Type} {t1 : Type} {d0 : Cd t0} {d1 : Cd t1} {m : R (t0 × t1)} {j : Nat} {p2 : Pos} (ha : DE X W ds a (cP (aCons d0 (aOne d1))) m) (hp : PlainIx (.Constant (.int 0) j p2) := by exact fun _ _ => rfl) : DE X W ds (.Subscript a (.Constant (.int 0) j p2) pos) d0 (m >>= fun z => .ok (z.1)) := ixP aix_0_2 ha hp
theorem aix_1_2 {t0 : Type} {t1 : Type} {d0 : Cd t0} {d1 : Cd t1} : AIx (aCons d0 (aOne d1)) 1 2 d1 (fun z : t0 × t1 => z.2) := by
  intro K H vs z h
  obtain ⟨v0, ws0, e0, r0, h0⟩ := h
  obtain ⟨v1, e1, r1⟩ := h0
  subst e1 e0
  exact ⟨v1, by first | rfl | simp [atI, ixN], r1⟩
theorem ix_1_2p {t0 : Type} {t1 : Type} {d0 : Cd t0} {d1 : Cd t1} {z : t0 × t1} {j : Nat} {p2 : Pos} (ha : DE X W ds a (cP (aCons d0 (aOne d1))) (.ok z)) (hp : PlainIx (.Constant (.int 1) j p2) := by exact fun _ _ => rfl) : DE X W ds (.Subscript a (.Constant (.int 1) j p2) pos) d1 (.ok (z.2)) := ixP aix_1_2 ha hp
theorem ix_1_2m {t0 : Type} {t1 : Type} {d0 : Cd t0} {d1 : Cd t1} {m : R (t0 × t1)} {j : Nat} {p2 : Pos} (ha : DE X W ds a (cP (aCons d0 (aOne d1))) m) (hp : PlainIx (.Constant (.int 1) j p2) := by exact fun _ _ => rfl) : DE X W ds (.Subscript a (.Constant (.int 1) j p2) pos) d1 (m >>= fun z => .ok (z.2)) := ixP aix_1_2 ha hp
theorem aix_0_3 {t0 : Type} {t1 : Type} {t2 : Type} {d0 : Cd t0} {d1 : Cd t1} {d2 : Cd t2} : AIx (aCons d0 (aCons d1 (aOne d2))) 0 3 d0 (fun z : t0 × t1 × t2 => z.1) := by
  intro K H vs z h
  obtain ⟨v0, ws0, e0, r0, h0⟩ := h
  obtain ⟨v1, ws1, e1, r1, h1⟩ := h0
  obtain ⟨v2, e2, r2⟩ := h1
  subst e2 e1 e0
  exact ⟨v0, by first | rfl | simp [atI, ixN], r0⟩
theorem ix_0_3p {t0 : Type} {t1 : Type} {t2 : Type} {d0 : Cd t0} {d1 : Cd t1} {d2 : Cd t2} {z : t0 × t1 × t2} {j : Nat} {p2 : Pos} (ha : DE X W ds a (cP (aCons d0 (aCons d1 (aOne d2)))) (.ok z)) (hp : PlainIx (.Constant (.int 0) j p2) := by exact fun _ _ => rfl) : DE X W ds (.Subscript a (.Constant (.int 0) j p2) pos) d0 (.ok (z.1)) := ixP aix_0_3 ha hp
theorem ix_0_3m {t0 : Type} {t1 : Type} {t2 : Type} {d0 : Cd t0} {d1 : Cd t1} {d2 : Cd t2} {m : R (t0 × t1 × t2)} {j : Nat} {p2 : Pos} (ha : DE X W ds a (cP (aCons d0 (aCons d1 (aOne d2)))) m) (hp : PlainIx (.Constant (.int 0) j p2) := by exact fun _ _ => rfl) : DE X W ds (.Subscript a (.Constant (.int 0) j p2) pos) d0 (m >>= fun z => .ok (z.1)) := ixP aix_0_3 ha hp
theorem aix_1_3 {t0 : Type} {t1 : Type} {t2 : Type} {d0 : Cd t0} {d1 : Cd t1} {d2 : Cd t2} : AIx (aCons d0 (aCons d1 (aOne d2))) 1 3 d1 (fun z : t0 × t1 × t2 => z.2.1) := by
  intro K H vs z h
  obtain ⟨v0, ws0, e0, r0, h0⟩ := h
  obtain ⟨v1, ws1, e1, r1, h1⟩ := h0
  obtain ⟨v2, e2, r2⟩ := h1
  subst e2 e1 e0
  exact ⟨v1, by first | rfl | simp [atI, ixN], r1⟩
theorem ix_1_3p {t0 : Type} {t1 : Type} {t2 : Type} {d0 : Cd t0} {d1 : Cd t1} {d2 : Cd t2} {z : t0 × t1 × t2} {j : Nat} {p2 : Pos} (ha : DE X W ds a (cP (aCons d0 (aCons d1 (aOne d2)))) (.ok z)) (hp : PlainIx (.Constant (.int 1) j p2) := by exact fun _ _ => rfl) : DE X W ds (.Subscript a (.Constant (.int 1) j p2) pos) d1 (.ok (z.2.1)) := ixP aix_1_3 ha hp
theorem ix_1_3m {t0 : Type} {t1 : Type} {t2 : Type} {d0 : Cd t0} {d1 : Cd t1} {d2 : Cd t2} {m : R (t0 × t1 × t2)} {j : Nat} {p2 : Pos} (ha : DE X W ds a (cP (aCons d0 (aCons d1 (aOne d2)))) m) (hp : PlainIx (.Constant (.int 1) j p2) := by exact fun _ _ => rfl) : DE X W ds (.Subscript a (.Constant (.int 1) j p2) pos) d1 (m >>= fun z => .ok (z.2.1)) := ixP aix_1_3 ha hp
theorem aix_2_3 {t0 : Type} {t1 : Type} {t2 : Type} {d0 : Cd t0} {d1 : Cd t1} {d2 : Cd t2} : AIx (aCons d0 (aCons d1 (aOne d2))) 2 3 d2 (fun z : t0 × t1 × t2 => z.2.2) := by
  intro K H vs z h
  obtain ⟨v0, ws0, e0, r0, h0⟩ := h
  obtain ⟨v1, ws1, e1, r1, h1⟩ := h0
  obtain ⟨v2, e2, r2⟩ := h1
  subst e2 e1 e0
  exact ⟨v2, by first | rfl | simp [atI, ixN], r2⟩
theorem ix_2_3p {t0 : Type} {t1 : Type} {t2 : Type} {d0 : Cd t0} {d1 : Cd t1} {d2 : Cd t2} {z : t0 × t1 × t2} {j : Nat} {p2 : Pos} (ha : DE X W ds a (cP (aCons d0 (aCons d1 (aOne d2)))) (.ok z)) (hp : PlainIx (.Constant (.int 2) j p2) := by exact fun _ _ => rfl) : DE X W ds (.Subscript a (.Constant (.int 2) j p2) pos) d2 (.ok (z.2.2)) := ixP aix_2_3 ha hp
theorem ix_2_3m {t0 : Type} {t1 : Type} {t2 : Type} {d0 : Cd t0} {d1 : Cd t1} {d2 : Cd t2} {m : R (t0 × t1 × t2)} {j : Nat} {p2 : Pos} (ha : DE X W ds a (cP (aCons d0 (aCons d1 (aOne d2)))) m) (hp : PlainIx (.Constant (.int 2) j p2) := by exact fun _ _ => rfl) : DE X W ds (.Subscript a (.Constant (.int 2) j p2) pos) d2 (m >>= fun z => .ok (z.2.2)) := ixP aix_2_3 ha hp
theorem aix_0_4 {t0 : Type} {t1 : Type} {t2 : Type} {t3 : Type} {d0 : Cd t0} {d1 : Cd t1} {d2 : Cd t2} {d3 : Cd t3} : AIx (aCons d0 (aCons d1 (aCons d2 (aOne d3)))) 0 4 d0 (fun z : t0 × t1 × t2 × t3 => z.1) := by
  intro K H vs z h
  obtain ⟨v0, ws0, e0, r0, h0⟩ := h
  obtain ⟨v1, ws1, e1, r1, h1⟩ := h0
  obtain ⟨v2, ws2, e2, r2, h2⟩ := h1
  obtain ⟨v3, e3, r3⟩ := h2
  subst e3 e2 e1 e0
  exact ⟨v0, by first | rfl | simp [atI, ixN], r0⟩
theorem ix_0_4p {t0 : Type} {t1 : Type} {t2 : Type} {t3 : Type} {d0 : Cd t0} {d1 : Cd t1} {d2 : Cd t2} {d3 : Cd t3} {z : t0 × t1 × t2 × t3} {j : Nat} {p2 : Pos} (ha : DE X W ds a (cP (aCons d0 (aCons d1 (aCons d2 (aOne d3))))) (.ok z)) (hp : PlainIx (.Constant (.int 0) j p2) := by exact fun _ _ => rfl) : DE X W ds (.Subscript a (.Constant (.int 0) j p2) pos) d0 (.ok (z.1)) := ixP aix_0_4 ha hp
theorem ix_0_4m {t0 : Type} {t1 : Type} {t2 : Type} {t3 : Type} {d0 : Cd t0} {d1 : Cd t1} {d2 : Cd t2} {d3 : Cd t3} {m : R (t0 × t1 × t2 × t3)} {j : Nat} {p2 : Pos} (ha : DE X W ds a (cP (aCons d0 (aCons d1 (aCons d2 (aOne d3))))) m) (hp : PlainIx (.Constant (.int 0) j p2) := by exact fun _ _ => rfl) : DE X W ds (.Subscript a (.Constant (.int 0) j p2) pos) d0 (m >>= fun z => .ok (z.1)) := ixP aix_0_4 ha hp
theorem aix_1_4 {t0 : Type} {t1 : Type} {t2 : Type} {t3 : Type} {d0 : Cd t0} {d1 : Cd t1} {d2 : Cd t2} {d3 : Cd t3} : AIx (aCons d0 (aCons d1 (aCons d2 (aOne d3)))) 1 4 d1 (fun z : t0 × t1 × t2 × t3 => z.2.1) := by
  intro K H vs z h
  obtain ⟨v0, ws0, e0, r0, h0⟩ := h
  obtain ⟨v1, ws1, e1, r1, h1⟩ := h0
  obtain ⟨v2, ws2, e2, r2, h2⟩ := h1
  obtain ⟨v3, e3, r3⟩ := h2
  subst e3 e2 e1 e0
  exact ⟨v1, by first | rfl | simp [atI, ixN], r1⟩
theorem ix_1_4p {t0 : Type} {t1 : Type} {t2 : Type} {t3 : Type} {d0 : Cd t0} {d1 : Cd t1} {d2 : Cd t2} {d3 : Cd t3} {z : t0 × t1 × t2 × t3} {j : Nat} {p2 : Pos} (ha : DE X W ds a (cP (aCons d0 (aCons d1 (aCons d2 (aOne d3))))) (.ok z)) (hp : PlainIx (.Constant (.int 1) j p2) := by exact fun _ _ => rfl) : DE X W ds (.Subscript a (.Constant (.int 1) j p2) pos) d1 (.ok (z.2.1)) := ixP aix_1_4 ha hp
theorem ix_1_4m {t0 : Type} {t1 : Type} {t2 : Type} {t3 : Type} {d0 : Cd t0} {d1 : Cd t1} {d2 : Cd t2} {d3 : Cd t3} {m : R (t0 × t1 × t2 × t3)} {j : Nat} {p2 : Pos} (ha : DE X W ds a (cP (aCons d0 (aCons d1 (aCons d2 (aOne d3))))) m) (hp : PlainIx (.Constant (.int 1) j p2) := by exact fun _ _ => rfl) : DE X W ds (.Subscript a (.Constant (.int 1) j p2) pos) d1 (m >>= fun z => .ok (z.2.1)) := ixP aix_1_4 ha hp
theorem aix_2_4 {t0 : Type} {t1 : Type} {t2 : Type} {t3 : Type} {d0 : Cd t0} {d1 : Cd t1} {d2 : Cd t2} {d3 : Cd t3} : AIx (aCons d0 (aCons d1 (aCons d2 (aOne d3)))) 2 4 d2 (fun z : t0 × t1 × t2 × t3 => z.2.2.1) := by
  intro K H vs z h
  obtain ⟨v0, ws0, e0, r0, h0⟩ := h
  obtain ⟨v1, ws1, e1, r1, h1⟩ := h0
  obtain ⟨v2, ws2, e2, r2, h2⟩ := h1
  obtain ⟨v3, e3, r3⟩ := h2
  subst e3 e2 e1 e0
  exact ⟨v2, by first | rfl | simp [atI, ixN], r2⟩
theorem ix_2_4p {t0 : Type} {t1 : Type} {t2 : Type} {t3 : Type} {d0 : Cd t0} {d1 : Cd t1} {d2 : Cd t2} {d3 : Cd t3} {z : t0 × t1 × t2 × t3} {j : Nat} {p2 : Pos} (ha : DE X W ds a (cP (aCons d0 (aCons d1 (aCons d2 (aOne d3))))) (.ok z)) (hp : PlainIx (.Constant (.int 2) j p2) := by exact fun _ _ => rfl) : DE X W ds (.Subscript a (.Constant (.int 2) j p2) pos) d2 (.ok (z.2.2.1)) := ixP aix_2_4 ha hp
theorem ix_2_4m {t0 : Type} {t1 : Type} {t2 : Type} {t3 : Type} {d0 : Cd t0} {d1 : Cd t1} {d2 : Cd t2} {d3 : Cd t3} {m : R (t0 × t1 × t2 × t3)} {j : Nat} {p2 : Pos} (ha : DE X W ds a (cP (aCons d0 (aCons d1 (aCons d2 (aOne d3))))) m) (hp : PlainIx (.Constant (.int 2) j p2) := by exact fun _ _ => rfl) : DE X W ds (.Subscript a (.Constant (.int 2) j p2) pos) d2 (m >>= fun z => .ok (z.2.2.1)) := ixP aix_2_4 ha hp
theorem aix_3_4 {t0 : Type} {t1 : Type} {t2 : Type} {t3 : Type} {d0 : Cd t0} {d1 : Cd t1} {d2 : Cd t2} {d3 : Cd t3} : AIx (aCons d0 (aCons d1 (aCons d2 (aOne d3)))) 3 4 d3 (fun z : t0 × t1 × t2 × t3 => z.2.2.2) := by
  intro K H vs z h
  obtain ⟨v0, ws0, e0, r0, h0⟩ := h
  obtain ⟨v1, ws1, e1, r1, h1⟩ := h0
  obtain ⟨v2, ws2, e2, r2, h2⟩ := h1
  obtain ⟨v3, e3, r3⟩ := h2
  subst e3 e2 e1 e0
  exact ⟨v3, by first | rfl | simp [atI, ixN], r3⟩
theorem ix_3_4p {t0 : Type} {t1 : Type} {t2 : Type} {t3 : Type} {d0 : Cd t0} {d1 : Cd t1} {d2 : Cd t2} {d3 : Cd t3} {z : t0 × t1 × t2 × t3} {j : Nat} {p2 : Pos} (ha : DE X W ds a (cP (aCons d0 (aCons d1 (aCons d2 (aOne d3))))) (.ok z)) (hp : PlainIx (.Constant (.int 3) j p2) := by exact fun _ _ => rfl) : DE X W ds (.Subscript a (.Constant (.int 3) j p2) pos) d3 (.ok (z.2.2.2)) := ixP aix_3_4 ha hp
theorem ix_3_4m {t0 : Type} {t1 : Type} {t2 : Type} {t3 : Type} {d0 : Cd t0} {d1 : Cd t1} {d2 : Cd t2} {d3 : Cd t3} {m : R (t0 × t1 × t2 × t3)} {j : Nat} {p2 : Pos} (ha : DE X W ds a (cP (aCons d0 (aCons d1 (aCons d2 (aOne d3))))) m) (hp : PlainIx (.Constant (.int 3) j p2) := by exact fun _ _ => rfl) : DE X W ds (.Subscript a (.Constant (.int 3) j p2) pos) d3 (m >>= fun z => .ok (z.2.2.2)) := ixP aix_3_4 ha hp
theorem aix_0_5 {t0 : Type} {t1 : Type} {t2 : Type} {t3 : Type} {t4 : Type} {d0 : Cd t0} {d1 : Cd t1} {d2 : Cd t2} {d3 : Cd t3} {d4 : Cd t4} : AIx (aCons d0 (aCons d1 (aCons d2 (aCons d3 (aOne d4))))) 0 5 d0 (fun z : t0 × t1 × t2 × t3 × t4 => z.1) := by
  intro K H vs z h
  obtain ⟨v0, ws0, e0, r0, h0⟩ := h
  obtain ⟨v1, ws1, e1, r1, h1⟩ := h0
  obtain ⟨v2, ws2, e2, r2, h2⟩ := h1
  obtain ⟨v3, ws3, e3, r3, h3⟩ := h2
  obtain ⟨v4, e4, r4⟩ := h3
  subst e4 e3 e2 e1 e0
  exact ⟨v0, by first | rfl | simp [atI, ixN], r0⟩
theorem ix_0_5p {t0 : Type} {t1 : Type} {t2 : Type} {t3 : Type} {t4 : Type} {d0 : Cd t0} {d1 : Cd t1} {d2 : Cd t2} {d3 : Cd t3} {d4 : Cd t4} {z : t0 × t1 × t2 × t3 × t4} {j : Nat} {p2 : Pos} (ha : DE X W ds a (cP (aCons d0 (aCons d1 (aCons d2 (aCons d3 (aOne d4)))))) (.ok z)) (hp : PlainIx (.Constant (.int 0) j p2) := by exact fun _ _ => rfl) : DE X W ds (.Subscript a (.Constant (.int 0) j p2) pos) d0 (.ok (z.1)) := ixP aix_0_5 ha hp
theorem ix_0_5m {t0 : Type} {t1 : Type} {t2 : Type} {t3 : Type} {t4 : Type} {d0 : Cd t0} {d1 : Cd t1} {d2 : Cd t2} {d3 : Cd t3} {d4 : Cd t4} {m : R (t0 × t1 × t2 × t3 × t4)} {j : Nat} {p2 : Pos} (ha : DE X W ds a (cP (aCons d0 (aCons d1 (aCons d2 (aCons d3 (aOne d4)))))) m) (hp : PlainIx (.Constant (.int 0) j p2) := by exact fun _ _ => rfl) : DE X W ds (.Subscript a (.Constant (.int 0) j p2) pos) d0 (m >>= fun z => .ok (z.1)) := ixP aix_0_5 ha hp
theorem aix_1_5 {t0 : Type} {t1 : Type} {t2 : Type} {t3 : Type} {t4 : Type} {d0 : Cd t0} {d1 : Cd t1} {d2 : Cd t2} {d3 : Cd t3} {d4 : Cd t4} : AIx (aCons d0 (aCons d1 (aCons d2 (aCons d3 (aOne d4))))) 1 5 d1 (fun z : t0 × t1 × t2 × t3 × t4 => z.2.1) := by
  intro K H vs z h
  obtain ⟨v0, ws0, e0, r0, h0⟩ := h
  obtain ⟨v1, ws1, e1, r1, h1⟩ := h0
  obtain ⟨v2, ws2, e2, r2, h2⟩ := h1
  obtain ⟨v3, ws3, e3, r3, h3⟩ := h2
  obtain ⟨v4, e4, r4⟩ := h3
  subst e4 e3 e2 e1 e0
  exact ⟨v1, by first | rfl | simp [atI, ixN], r1⟩
theorem ix_1_5p {t0 : Type} {t1 : Type} {t2 : Type} {t3 : Type} {t4 : Type} {d0 : Cd t0} {d1 : Cd t1} {d2 : Cd t2} {d3 : Cd t3} {d4 : Cd t4} {z : t0 × t1 × t2 × t3 × t4} {j : Nat} {p2 : Pos} (ha : DE X W ds a (cP (aCons d0 (aCons d1 (aCons d2 (aCons d3 (aOne d4)))))) (.ok z)) (hp : PlainIx (.Constant (.int 1) j p2) := by exact fun _ _ => rfl) : DE X W ds (.Subscript a (.Constant (.int 1) j p2) pos) d1 (.ok (z.2.1)) := ixP aix_1_5 ha hp
theorem ix_1_5m {t0 : Type} {t1 : Type} {t2 : Type} {t3 : Type} {t4 : Type} {d0 : Cd t0} {d1 : Cd t1} {d2 : Cd t2} {d3 : Cd t3} {d4 : Cd t4} {m : R (t0 × t1 × t2 × t3 × t4)} {j : Nat} {p2 : Pos} (ha : DE X W ds a (cP (aCons d0 (aCons d1 (aCons d2 (aCons d3 (aOne d4)))))) m) (hp : PlainIx (.Constant (.int 1) j p2) := by exact fun _ _ => rfl) : DE X W ds (.Subscript a (.Constant (.int 1) j p2) pos) d1 (m >>= fun z => .ok (z.2.1)) := ixP aix_1_5 ha hp
theorem aix_2_5 {t0 : Type} {t1 : Type} {t2 : Type} {t3 : Type} {t4 : Type} {d0 : Cd t0} {d1 : Cd t1} {d2 : Cd t2} {d3 : Cd t3} {d4 : Cd t4} : AIx (aCons d0 (aCons d1 (aCons d2 (aCons d3 (aOne d4))))) 2 5 d2 (fun z : t0 × t1 × t2 × t3 × t4 => z.2.2.1) := by
  intro K H vs z h
  obtain ⟨v0, ws0, e0, r0, h0⟩ := h
  obtain ⟨v1, ws1, e1, r1, h1⟩ := h0
  obtain ⟨v2, ws2, e2, r2, h2⟩ := h1
  obtain ⟨v3, ws3, e3, r3, h3⟩ := h2
  obtain ⟨v4, e4, r4⟩ := h3
  subst e4 e3 e2 e1 e0
  exact ⟨v2, by first | rfl | simp [atI, ixN], r2⟩
theorem ix_2_5p {t0 : Type} {t1 : Type} {t2 : Type} {t3 : Type} {t4 : Type} {d0 : Cd t0} {d1 : Cd t1} {d2 : Cd t2} {d3 : Cd t3} {d4 : Cd t4} {z : t0 × t1 × t2 × t3 × t4} {j : Nat} {p2 : Pos} (ha : DE X W ds a (cP (aCons d0 (aCons d1 (aCons d2 (aCons d3 (aOne d4)))))) (.ok z)) (hp : PlainIx (.Constant (.int 2) j p2) := by exact fun _ _ => rfl) : DE X W ds (.Subscript a (.Constant (.int 2) j p2) pos) d2 (.ok (z.2.2.1)) := ixP aix_2_5 ha hp
theorem ix_2_5m {t0 : Type} {t1 : Type} {t2 : Type} {t3 : Type} {t4 : Type} {d0 : Cd t0} {d1 : Cd t1} {d2 : Cd t2} {d3 : Cd t3} {d4 : Cd t4} {m : R (t0 × t1 × t2 × t3 × t4)} {j : Nat} {p2 : Pos} (ha : DE X W ds a (cP (aCons d0 (aCons d1 (aCons d2 (aCons d3 (aOne d4)))))) m) (hp : PlainIx (.Constant (.int 2) j p2) := by exact fun _ _ => rfl) : DE X W ds (.Subscript a (.Constant (.int 2) j p2) pos) d2 (m >>= fun z => .ok (z.2.2.1)) := ixP aix_2_5 ha hp
theorem aix_3_5 {t0 : Type} {t1 : Type} {t2 : Type} {t3 : Type} {t4 : Type} {d0 : Cd t0} {d1 : Cd t1} {d2 : Cd t2} {d3 : Cd t3} {d4 : Cd t4} : AIx (aCons d0 (aCons d1 (aCons d2 (aCons d3 (aOne d4))))) 3 5 d3 (fun z : t0 × t1 × t2 × t3 × t4 => z.2.2.2.1) := by
  intro K H vs z h
  obtain ⟨v0, ws0, e0, r0, h0⟩ := h
  obtain ⟨v1, ws1, e1, r1, h1⟩ := h0
  obtain ⟨v2, ws2, e2, r2, h2⟩ := h1
  obtain ⟨v3, ws3, e3, r3, h3⟩ := h2
  obtain ⟨v4, e4, r4⟩ := h3
  subst e4 e3 e2 e1 e0
  exact ⟨v3, by first | rfl | simp [atI, ixN], r3⟩
theorem ix_3_5p {t0 : Type} {t1 : Type} {t2 : Type} {t3 : Type} {t4 : Type} {d0 : Cd t0} {d1 : Cd t1} {d2 : Cd t2} {d3 : Cd t3} {d4 : Cd t4} {z : t0 × t1 × t2 × t3 × t4} {j : Nat} {p2 : Pos} (ha : DE X W ds a (cP (aCons d0 (aCons d1 (aCons d2 (aCons d3 (aOne d4)))))) (.ok z)) (hp : PlainIx (.Constant (.int 3) j p2) := by exact fun _ _ => rfl) : DE X W ds (.Subscript a (.Constant (.int 3) j p2) pos) d3 (.ok (z.2.2.2.1)) := ixP aix_3_5 ha hp
theorem ix_3_5m {t0 : Type} {t1 : Type} {t2 : Type} {t3 : Type} {t4 : Type} {d0 : Cd t0} {d1 : Cd t1} {d2 : Cd t2} {d3 : Cd t3} {d4 : Cd t4} {m : R (t0 × t1 × t2 × t3 × t4)} {j : Nat} {p2 : Pos} (ha : DE X W ds a (cP (aCons d0 (aCons d1 (aCons d2 (aCons d3 (aOne d4)))))) m) (hp : PlainIx (.Constant (.int 3) j p2) := by exact fun _ _ => rfl) : DE X W ds (.Subscript a (.Constant (.int 3) j p2) pos) d3 (m >>= fun z => .ok (z.2.2.2.1)) := ixP aix_3_5 ha hp
theorem aix_4_5 {t0 : Type} {t1 : Type} {t2 : Type} {t3 : Type} {t4 : Type} {d0 : Cd t0} {d1 : Cd t1} {d2 : Cd t2} {d3 : Cd t3} {d4 : Cd t4} : AIx (aCons d0 (aCons d1 (aCons d2 (aCons d3 (aOne d4))))) 4 5 d4 (fun z : t0 × t1 × t2 × t3 × t4 => z.2.2.2.2) := by
  intro K H vs z h
  obtain ⟨v0, ws0, e0, r0, h0⟩ := h
  obtain ⟨v1, ws1, e1, r1, h1⟩ := h0
  obtain ⟨v2, ws2, e2, r2, h2⟩ := h1
  obtain ⟨v3, ws3, e3, r3, h3⟩ := h2
  obtain ⟨v4, e4, r4⟩ := h3
  subst e4 e3 e2 e1 e0
  exact ⟨v4, by first | rfl | simp [atI, ixN], r4⟩
theorem ix_4_5p {t0 : Type} {t1 : Type} {t2 : Type} {t3 : Type} {t4 : Type} {d0 : Cd t0} {d1 : Cd t1} {d2 : Cd t2} {d3 : Cd t3} {d4 : Cd t4} {z : t0 × t1 × t2 × t3 × t4} {j : Nat} {p2 : Pos} (ha : DE X W ds a (cP (aCons d0 (aCons d1 (aCons d2 (aCons d3 (aOne d4)))))) (.ok z)) (hp : PlainIx (.Constant (.int 4) j p2) := by exact fun _ _ => rfl) : DE X W ds (.Subscript a (.Constant (.int 4) j p2) pos) d4 (.ok (z.2.2.2.2)) := ixP aix_4_5 ha hp
theorem ix_4_5m {t0 : Type} {t1 : Type} {t2 : Type} {t3 : Type} {t4 : Type} {d0 : Cd t0} {d1 : Cd t1} {d2 : Cd t2} {d3 : Cd t3} {d4 : Cd t4} {m : R (t0 × t1 × t2 × t3 × t4)} {j : Nat} {p2 : Pos} (ha : DE X W ds a (cP (aCons d0 (aCons d1 (aCons d2 (aCons d3 (aOne d4)))))) m) (hp : PlainIx (.Constant (.int 4) j p2) := by exact fun _ _ => rfl) : DE X W ds (.Subscript a (.Constant (.int 4) j p2) pos) d4 (m >>= fun z => .ok (z.2.2.2.2)) := ixP aix_4_5 ha hp
theorem aix_0_6 {t0 : Type} {t1 : Type} {t2 : Type} {t3 : Type} {t4 : Type} {t5 : Type} {d0 : Cd t0} {d1 : Cd t1} {d2 : Cd t2} {d3 : Cd t3} {d4 : Cd t4} {d5 : Cd t5} : AIx (aCons d0 (aCons d1 (aCons d2 (aCons d3 (aCons d4 (aOne d5)))))) 0 6 d0 (fun z : t0 × t1 × t2 × t3 × t4 × t5 => z.1) := by
  intro K H vs z h
  obtain ⟨v0, ws0, e0, r0, h0⟩ := h
  obtain ⟨v1, ws1, e1, r1, h1⟩ := h0
  obtain ⟨v2, ws2, e2, r2, h2⟩ := h1
  obtain ⟨v3, ws3, e3, r3, h3⟩ := h2
  obtain ⟨v4, ws4, e4, r4, h4⟩ := h3
  obtain ⟨v5, e5, r5⟩ := h4
  subst e5 e4 e3 e2 e1 e0
  exact ⟨v0, by first | rfl | simp [atI, ixN], r0⟩
theorem ix_0_6p {t0 : Type} {t1 : Type} {t2 : Type} {t3 : Type} {t4 : Type} {t5 : Type} {d0 : Cd t0} {d1 : Cd t1} {d2 : Cd t2} {d3 : Cd t3} {d4 : Cd t4} {d5 : Cd t5} {z : t0 × t1 × t2 × t3 × t4 × t5} {j : Nat} {p2 : Pos} (ha : DE X W ds a (cP (aCons d0 (aCons d1 (aCons d2 (aCons d3 (aCons d4 (aOne d5))))))) (.ok z)) (hp : PlainIx (.Constant (.int 0) j p2) := by exact fun _ _ => rfl) : DE X W ds (.Subscript a (.Constant (.int 0) j p2) pos) d0 (.ok (z.1)) := ixP aix_0_6 ha hp
theorem ix_0_6m {t0 : Type} {t1 : Type} {t2 : Type} {t3 : Type} {t4 : Type} {t5 : Type} {d0 : Cd t0} {d1 : Cd t1} {d2 : Cd t2} {d3 : Cd t3} {d4 : Cd t4} {d5 : Cd t5} {m : R (t0 × t1 × t2 × t3 × t4 × t5)} {j : Nat} {p2 : Pos} (ha : DE X W ds a (cP (aCons d0 (aCons d1 (aCons d2 (aCons d3 (aCons d4 (aOne d5))))))) m) (hp : PlainIx (.Constant (.int 0) j p2) := by exact fun _ _ => rfl) : DE X W ds (.Subscript a (.Constant (.int 0) j p2) pos) d0 (m >>= fun z => .ok (z.1)) := ixP aix_0_6 ha hp
theorem aix_1_6 {t0 : Type} {t1 : Type} {t2 : Type} {t3 : Type} {t4 : Type} {t5 : Type} {d0 : Cd t0} {d1 : Cd t1} {d2 : Cd t2} {d3 : Cd t3} {d4 : Cd t4} {d5 : Cd t5} : AIx (aCons d0 (aCons d1 (aCons d2 (aCons d3 (aCons d4 (aOne d5)))))) 1 6 d1 (fun z : t0 × t1 × t2 × t3 × t4 × t5 => z.2.1) := by
  intro K H vs z h
  obtain ⟨v0, ws0, e0, r0, h0⟩ := h
  obtain ⟨v1, ws1, e1, r1, h1⟩ := h0
  obtain ⟨v2, ws2, e2, r2, h2⟩ := h1
  obtain ⟨v3, ws3, e3, r3, h3⟩ := h2
  obtain ⟨v4, ws4, e4, r4, h4⟩ := h3
  obtain ⟨v5, e5, r5⟩ := h4
  subst e5 e4 e3 e2 e1 e0
  exact ⟨v1, by first | rfl | simp [atI, ixN], r1⟩
theorem ix_1_6p {t0 : Type} {t1 : Type} {t2 : Type} {t3 : Type} {t4 : Type} {t5 : Type} {d0 : Cd t0} {d1 : Cd t1} {d2 : Cd t2} {d3 : Cd t3} {d4 : Cd t4} {d5 : Cd t5} {z : t0 × t1 × t2 × t3 × t4 × t5} {j : Nat} {p2 : Pos} (ha : DE X W ds a (cP (aCons d0 (aCons d1 (aCons d2 (aCons d3 (aCons d4 (aOne d5))))))) (.ok z)) (hp : PlainIx (.Constant (.int 1) j p2) := by exact fun _ _ => rfl) : DE X W ds (.Subscript a (.Constant (.int 1) j p2) pos) d1 (.ok (z.2.1)) := ixP aix_1_6 ha hp
theorem ix_1_6m {t0 : Type} {t1 : Type} {t2 : Type} {t3 : Type} {t4 : Type} {t5 : Type} {d0 : Cd t0} {d1 : Cd t1} {d2 : Cd t2} {d3 : Cd t3} {d4 : Cd t4} {d5 : Cd t5} {m : R (t0 × t1 × t2 × t3 × t4 × t5)} {j : Nat} {p2 : Pos} (ha : DE X W ds a (cP (aCons d0 (aCons d1 (aCons d2 (aCons d3 (aCons d4 (aOne d5))))))) m) (hp : PlainIx (.Constant (.int 1) j p2) := by exact fun _ _ => rfl) : DE X W ds (.Subscript a (.Constant (.int 1) j p2) pos) d1 (m >>= fun z => .ok (z.2.1)) := ixP aix_1_6 ha hp
theorem aix_2_6 {t0 : Type} {t1 : Type} {t2 : Type} {t3 : Type} {t4 : Type} {t5 : Type} {d0 : Cd t0} {d1 : Cd t1} {d2 : Cd t2} {d3 : Cd t3} {d4 : Cd t4} {d5 : Cd t5} : AIx (aCons d0 (aCons d1 (aCons d2 (aCons d3 (aCons d4 (aOne d5)))))) 2 6 d2 (fun z : t0 × t1 × t2 × t3 × t4 × t5 => z.2.2.1) := by
  intro K H vs z h
  obtain ⟨v0, ws0, e0, r0, h0⟩ := h
  obtain ⟨v1, ws1, e1, r1, h1⟩ := h0
  obtain ⟨v2, ws2, e2, r2, h2⟩ := h1
  obtain ⟨v3, ws3, e3, r3, h3⟩ := h2
  obtain ⟨v4, ws4, e4, r4, h4⟩ := h3
  obtain ⟨v5, e5, r5⟩ := h4
  subst e5 e4 e3 e2 e1 e0
  exact ⟨v2, by first | rfl | simp [atI, ixN], r2⟩
theorem ix_2_6p {t0 : Type} {t1 : Type} {t2 : Type} {t3 : Type} {t4 : Type} {t5 : Type} {d0 : Cd t0} {d1 : Cd t1} {d2 : Cd t2} {d3 : Cd t3} {d4 : Cd t4} {d5 : Cd t5} {z : t0 × t1 × t2 × t3 × t4 × t5} {j : Nat} {p2 : Pos} (ha : DE X W ds a (cP (aCons d0 (aCons d1 (aCons d2 (aCons d3 (aCons d4 (aOne d5))))))) (.ok z)) (hp : PlainIx (.Constant (.int 2) j p2) := by exact fun _ _ => rfl) : DE X W ds (.Subscript a (.Constant (.int 2) j p2) pos) d2 (.ok (z.2.2.1)) := ixP aix_2_6 ha hp
theorem ix_2_6m {t0 : Type} {t1 : Type} {t2 : Type} {t3 : Type} {t4 : Type} {t5 : Type} {d0 : Cd t0} {d1 : Cd t1} {d2 : Cd t2} {d3 : Cd t3} {d4 : Cd t4} {d5 : Cd t5} {m : R (t0 × t1 × t2 × t3 × t4 × t5)} {j : Nat} {p2 : Pos} (ha : DE X W ds a (cP (aCons d0 (aCons d1 (aCons d2 (aCons d3 (aCons d4 (aOne d5))))))) m) (hp : PlainIx (.Constant (.int 2) j p2) := by exact fun _ _ => rfl) : DE X W ds (.Subscript a (.Constant (.int 2) j p2) pos) d2 (m >>= fun z => .ok (z.2.2.1)) := ixP aix_2_6 ha hp
theorem aix_3_6 {t0 : Type} {t1 : Type} {t2 : Type} {t3 : Type} {t4 : Type} {t5 : Type} {d0 : Cd t0} {d1 : Cd t1} {d2 : Cd t2} {d3 : Cd t3} {d4 : Cd t4} {d5 : Cd t5} : AIx (aCons d0 (aCons d1 (aCons d2 (aCons d3 (aCons d4 (aOne d5)))))) 3 6 d3 (fun z : t0 × t1 × t2 × t3 × t4 × t5 => z.2.2.2.1) := by
  intro K H vs z h
  obtain ⟨v0, ws0, e0, r0, h0⟩ := h
  obtain ⟨v1, ws1, e1, r1, h1⟩ := h0
  obtain ⟨v2, ws2, e2, r2, h2⟩ := h1
  obtain ⟨v3, ws3, e3, r3, h3⟩ := h2
  obtain ⟨v4, ws4, e4, r4, h4⟩ := h3
  obtain ⟨v5, e5, r5⟩ := h4
  subst e5 e4 e3 e2 e1 e0
  exact ⟨v3, by first | rfl | simp [atI, ixN], r3⟩
theorem ix_3_6p {t0 : Type} {t1 : Type} {t2 : Type} {t3 : Type} {t4 : Type} {t5 : Type} {d0 : Cd t0} {d1 : Cd t1} {d2 : Cd t2} {d3 : Cd t3} {d4 : Cd t4} {d5 : Cd t5} {z : t0 × t1 × t2 × t3 × t4 × t5} {j : Nat} {p2 : Pos} (ha : DE X W ds a (cP (aCons d0 (aCons d1 (aCons d2 (aCons d3 (aCons d4 (aOne d5))))))) (.ok z)) (hp : PlainIx (.Constant (.int 3) j p2) := by exact fun _ _ => rfl) : DE X W ds (.Subscript a (.Constant (.int 3) j p2) pos) d3 (.ok (z.2.2.2.1)) := ixP aix_3_6 ha hp
theorem ix_3_6m {t0 : Type} {t1 : Type} {t2 : Type} {t3 : Type} {t4 : Type} {t5 : Type} {d0 : Cd t0} {d1 : Cd t1} {d2 : Cd t2} {d3 : Cd t3} {d4 : Cd t4} {d5 : Cd t5} {m : R (t0 × t1 × t2 × t3 × t4 × t5)} {j : Nat} {p2 : Pos} (ha : DE X W ds a (cP (aCons d0 (aCons d1 (aCons d2 (aCons d3 (aCons d4 (aOne d5))))))) m) (hp : PlainIx (.Constant (.int 3) j p2) := by exact fun _ _ => rfl) : DE X W ds (.Subscript a (.Constant (.int 3) j p2) pos) d3 (m >>= fun z => .ok (z.2.2.2.1)) := ixP aix_3_6 ha hp
theorem aix_4_6 {t0 : Type} {t1 : Type} {t2 : Type} {t3 : Type} {t4 : Type} {t5 : Type} {d0 : Cd t0} {d1 : Cd t1} {d2 : Cd t2} {d3 : Cd t3} {d4 : Cd t4} {d5 : Cd t5} : AIx (aCons d0 (aCons d1 (aCons d2 (aCons d3 (aCons d4 (aOne d5)))))) 4 6 d4 (fun z : t0 × t1 × t2 × t3 × t4 × t5 => z.2.2.2.2.1) := by
  intro K H vs z h
  obtain ⟨v0, ws0, e0, r0, h0⟩ := h
  obtain ⟨v1, ws1, e1, r1, h1⟩ := h0
  obtain ⟨v2, ws2, e2, r2, h2⟩ := h1
  obtain ⟨v3, ws3, e3, r3, h3⟩ := h2
  obtain ⟨v4, ws4, e4, r4, h4⟩ := h3
  obtain ⟨v5, e5, r5⟩ := h4
  subst e5 e4 e3 e2 e1 e0
  exact ⟨v4, by first | rfl | simp [atI, ixN], r4⟩
theorem ix_4_6p {t0 : Type} {t1 : Type} {t2 : Type} {t3 : Type} {t4 : Type} {t5 : Type} {d0 : Cd t0} {d1 : Cd t1} {d2 : Cd t2} {d3 : Cd t3} {d4 : Cd t4} {d5 : Cd t5} {z : t0 × t1 × t2 × t3 × t4 × t5} {j : Nat} {p2 : Pos} (ha : DE X W ds a (cP (aCons d0 (aCons d1 (aCons d2 (aCons d3 (aCons d4 (aOne d5))))))) (.ok z)) (hp : PlainIx (.Constant (.int 4) j p2) := by exact fun _ _ => rfl) : DE X W ds (.Subscript a (.Constant (.int 4) j p2) pos) d4 (.ok (z.2.2.2.2.1)) := ixP aix_4_6 ha hp
theorem ix_4_6m {t0 : Type} {t1 : Type} {t2 : Type} {t3 : Type} {t4 : Type} {t5 : Type} {d0 : Cd t0} {d1 : Cd t1} {d2 : Cd t2} {d3 : Cd t3} {d4 : Cd t4} {d5 : Cd t5} {m : R (t0 × t1 × t2 × t3 × t4 × t5)} {j : Nat} {p2 : Pos} (ha : DE X W ds a (cP (aCons d0 (aCons d1 (aCons d2 (aCons d3 (aCons d4 (aOne d5))))))) m) (hp : PlainIx (.Constant (.int 4) j p2) := by exact fun _ _ => rfl) : DE X W ds (.Subscript a (.Constant (.int 4) j p2) pos) d4 (m >>= fun z => .ok (z.2.2.2.2.1)) := ixP aix_4_6 ha hp
theorem aix_5_6 {t0 : Type} {t1 : Type} {t2 : Type} {t3 : Type} {t4 : Type} {t5 : Type} {d0 : Cd t0} {d1 : Cd t1} {d2 : Cd t2} {d3 : Cd t3} {d4 : Cd t4} {d5 : Cd t5} : AIx (aCons d0 (aCons d1 (aCons d2 (aCons d3 (aCons d4 (aOne d5)))))) 5 6 d5 (fun z : t0 × t1 × t2 × t3 × t4 × t5 => z.2.2.2.2.2) := by
  intro K H vs z h
  obtain ⟨v0, ws0, e0, r0, h0⟩ := h
  obtain ⟨v1, ws1, e1, r1, h1⟩ := h0
  obtain ⟨v2, ws2, e2, r2, h2⟩ := h1
  obtain ⟨v3, ws3, e3, r3, h3⟩ := h2
  obtain ⟨v4, ws4, e4, r4, h4⟩ := h3
  obtain ⟨v5, e5, r5⟩ := h4
  subst e5 e4 e3 e2 e1 e0
  exact ⟨v5, by first | rfl | simp [atI, ixN], r5⟩
theorem ix_5_6p {t0 : Type} {t1 : Type} {t2 : Type} {t3 : Type} {t4 : Type} {t5 : Type} {d0 : Cd t0} {d1 : Cd t1} {d2 : Cd t2} {d3 : Cd t3} {d4 : Cd t4} {d5 : Cd t5} {z : t0 × t1 × t2 × t3 × t4 × t5} {j : Nat} {p2 : Pos} (ha : DE X W ds a (cP (aCons d0 (aCons d1 (aCons d2 (aCons d3 (aCons d4 (aOne d5))))))) (.ok z)) (hp : PlainIx (.Constant (.int 5) j p2) := by exact fun _ _ => rfl) : DE X W ds (.Subscript a (.Constant (.int 5) j p2) pos) d5 (.ok (z.2.2.2.2.2)) := ixP aix_5_6 ha hp
theorem ix_5_6m {t0 : Type} {t1 : Type} {t2 : Type} {t3 : Type} {t4 : Type} {t5 : Type} {d0 : Cd t0} {d1 : Cd t1} {d2 : Cd t2} {d3 : Cd t3} {d4 : Cd t4} {d5 : Cd t5} {m : R (t0 × t1 × t2 × t3 × t4 × t5)} {j : Nat} {p2 : Pos} (ha : DE X W ds a (cP (aCons d0 (aCons d1 (aCons d2 (aCons d3 (aCons d4 (aOne d5))))))) m) (hp : PlainIx (.Constant (.int 5) j p2) := by exact fun _ _ => rfl) : DE X W ds (.Subscript a (.Constant (.int 5) j p2) pos) d5 (m >>= fun z => .ok (z.2.2.2.2.2)) := ixP aix_5_6 ha hp
/-! ### arguments, displays -/
theorem argN : DA X W ds [] aNil (.ok ()) := ⟨tNil, pa_nil, fun S0 H0 σ S H Q E P => P.ok E.inn rfl⟩
theorem arg1 {c : Cd α} {m : R α} (ha : DE X W ds a c m) (hs : starEach (a :: []) X.env = (false, eval a X.env) :: starEach [] X.env := by rfl) : DA X W ds [a] (aOne c) m := by
  obtain ⟨t, p, q⟩ := ha
  refine ⟨_, pa_cons p pa_nil hs, fun S0 H0 σ S H Q E P => q S0 H0 σ S H _ E ?_⟩
  refine R.post_mono P (fun z k v S1 H1 g r => k [v] S1 H1 g ⟨v, rfl, r⟩) (fun _ k => k)
theorem argC {c : Cd α} {r : CA τ} {m : R α} {n : R τ} (ha : DE X W ds a c m) (hr : DA X W ds es r n) (hs : starEach (a :: es) X.env = (false, eval a X.env) :: starEach es X.env := by rfl) : DA X W ds (a :: es) (aCons c r) (m >>= fun x => n >>= fun y => .ok (x, y)) := by
  obtain ⟨t, p, q⟩ := ha
  obtain ⟨u, p2, q2⟩ := hr
  refine ⟨_, pa_cons p p2 hs, fun S0 H0 σ S H Q E P => q S0 H0 σ S H _ E (P.bind fun x v S1 H1 g r1 P1 => q2 S0 H0 σ S1 H1 _ (E.step g) (P1.bindA fun y vs S2 H2 g2 r2 P2 => P2.ok g2.inn ⟨v, vs, rfl, c.mono g2.st r1, r2⟩))⟩
theorem argC_pp {c : Cd α} {r : CA τ} {x : α} {y : τ} (ha : DE X W ds a c (.ok x)) (hr : DA X W ds es r (.ok y)) (hs : starEach (a :: es) X.env = (false, eval a X.env) :: starEach es X.env := by rfl) : DA X W ds (a :: es) (aCons c r) (.ok (x, y)) := argC ha hr hs
theorem argC_mp {c : Cd α} {r : CA τ} {m : R α} {y : τ} (ha : DE X W ds a c m) (hr : DA X W ds es r (.ok y)) (hs : starEach (a :: es) X.env = (false, eval a X.env) :: starEach es X.env := by rfl) : DA X W ds (a :: es) (aCons c r) (m >>= fun x => .ok (x, y)) := argC ha hr hs
theorem argC_pm {c : Cd α} {r : CA τ} {x : α} {n : R τ} (ha : DE X W ds a c (.ok x)) (hr : DA X W ds es r n) (hs : starEach (a :: es) X.env = (false, eval a X.env) :: starEach es X.env := by rfl) : DA X W ds (a :: es) (aCons c r) (n >>= fun y => .ok (x, y)) := argC ha hr hs
theorem argC_mm {c : Cd α} {r : CA τ} {m : R α} {n : R τ} (ha : DE X W ds a c m) (hr : DA X W ds es r n) (hs : starEach (a :: es) X.env = (false, eval a X.env) :: starEach es X.env := by rfl) : DA X W ds (a :: es) (aCons c r) (m >>= fun x => n >>= fun y => .ok (x, y)) := argC ha hr hs
theorem tup {r : CA τ} {m : R τ} {k : Nat} (hn : r.n ≤ sizeLine) (ha : DA X W ds es r m) : DE X W ds (.Tuple es k pos) (cP r) m := by
  obtain ⟨t, p, q⟩ := ha
  refine ⟨_, pe_tup p, fun S0 H0 σ S H Q E P => q S0 H0 σ S H _ E ?_⟩
  refine R.post_mono P (fun z k vs S1 H1 g r1 => ⟨by rw [r.len r1]; exact hn, fun q hq => ?_⟩) (fun _ k => k)
  have g2 : Grow S1 H1 (upd S1 q (.tup vs)) (upd H1 q (.tup vs)) := .lay g.inn hq
  exact k _ _ _ (g.trans g2) ⟨q, vs, rfl, SqT.of upd_same, r.mono g2.st r1⟩
/-- a list of values of one kind: the mirrors as a list -/
structure DAL (X : Cx) (W : XK) (ds : Env) (es : List Expr) {α : Type} (c : Cd α) (m : R (List α)) : Prop where
  ex : ∃ t : TA, PA X es t ∧ ∀ S0 H0 σ S H (Q : List V → Hp → Prop), EnvOk X.K S0 H0 ds σ S H →
    m.post (fun as => ∀ vs S' H', Grow S H S' H' → vs.length = es.length → Reps c X.K S' vs as → Q vs H') (fun x => ∀ cl d S' H', Grow S H S' H' → repX X.K S' cl d x → W cl d H') → t σ H Q
theorem lnil {c : Cd α} : DAL X W ds [] c (.ok []) := ⟨tNil, pa_nil, fun S0 H0 σ S H Q E P => P [] S H (.refl E.inn) rfl trivial⟩
theorem lcons {c : Cd α} {m : R α} {n : R (List α)} (ha : DE X W ds a c m) (hr : DAL X W ds es c n) (hs : starEach (a :: es) X.env = (false, eval a X.env) :: starEach es X.env := by rfl) : DAL X W ds (a :: es) c (m >>= fun x => n >>= fun y => .ok (x :: y)) := by
  obtain ⟨t, p, q⟩ := ha
  obtain ⟨u, p2, q2⟩ := hr
  refine ⟨_, pa_cons p p2 hs, fun S0 H0 σ S H Q E P => q S0 H0 σ S H _ E ?_⟩
  refine R.post_mono (R.post_bind.mp P) (fun x k v S1 H1 g r1 => q2 S0 H0 σ S1 H1 _ (E.step g) ?_) (fun _ k => k)
  refine R.post_mono (R.post_bind.mp k) (fun y k2 vs S2 H2 g2 l2 r2 => ?_) (fun _ k2 cl d S' H' g' r => k2 cl d S' H' (g.trans g') r)
  exact k2 (v :: vs) S2 H2 (g.trans g2) (congrArg Nat.succ l2) ⟨c.mono g2.st r1, r2⟩
theorem lcons_pp {c : Cd α} {x : α} {y : List α} (ha : DE X W ds a c (.ok x)) (hr : DAL X W ds es c (.ok y)) (hs : starEach (a :: es) X.env = (false, eval a X.env) :: starEach es X.env := by rfl) : DAL X W ds (a :: es) c (.ok (x :: y)) := lcons ha hr hs
theorem lcons_mp {c : Cd α} {m : R α} {y : List α} (ha : DE X W ds a c m) (hr : DAL X W ds es c (.ok y)) (hs : starEach (a :: es) X.env = (false, eval a X.env) :: starEach es X.env := by rfl) : DAL X W ds (a :: es) c (m >>= fun x => .ok (x :: y)) := lcons ha hr hs
theorem lcons_pm {c : Cd α} {x : α} {n : R (List α)} (ha : DE X W ds a c (.ok x)) (hr : DAL X W ds es c n) (hs : starEach (a :: es) X.env = (false, eval a X.env) :: starEach es X.env := by rfl) : DAL X W ds (a :: es) c (n >>= fun y => .ok (x :: y)) := lcons ha hr hs
theorem lcons_mm {c : Cd α} {m : R α} {n : R (List α)} (ha : DE X W ds a c m) (hr : DAL X W ds es c n) (hs : starEach (a :: es) X.env = (false, eval a X.env) :: starEach es X.env := by rfl) : DAL X W ds (a :: es) c (m >>= fun x => n >>= fun y => .ok (x :: y)) := lcons ha hr hs
/-! ### new lists -/
/-- a new list that nothing else holds -/
def DL (X : Cx) (W : XK) (ds : Env) (e : Expr) {α : Type} (c : Cd α) (m : R (List α)) : Prop :=
  ∃ t : TE, PE X e t ∧ ∀ S0 H0 σ S H (Q : VK), EnvOk X.K S0 H0 ds σ S H →
    m.post (fun as => ∀ p vs S' H', Grow S H S' H' → H p = none → S' p = none → H' p = some (.lst vs) → Reps c X.K S' vs as → Q (.ref p) H') (fun x => ∀ cl d S' H', Grow S H S' H' → repX X.K S' cl d x → W cl d H') → t σ H Q
theorem dl {c : Cd α} {m : R (List α)} (h : DL X W ds e c m) : DE X W ds e (cL c) m := by
  obtain ⟨t, p, q⟩ := h
  refine ⟨t, p, fun S0 H0 σ S H Q E P => q S0 H0 σ S H Q E (R.post_mono P (fun as k p vs S' H' g h1 h2 h3 r => ?_) (fun _ k => k))⟩
  have hs : Same S' (upd S' p (.lst vs)) := .new h2
  refine k (.ref p) (upd S' p (.lst vs)) H' ⟨g.ex, g.st.trans hs, fun a u ea => ?_, fun a ea na => ?_⟩ ⟨p, vs, rfl, SqL.of upd_same, Reps.mono hs r⟩
  · by_cases z : a = p
    · subst z
      rw [upd_same] at ea
      cases ea
      exact h3
    · rw [upd_ne z] at ea
      exact g.inn a u ea
  · by_cases z : a = p
    · rw [z]; exact h1
    · rw [upd_ne z] at na
      exact g.new a ea na
theorem lst {c : Cd α} {m : R (List α)} (ha : DAL X W ds es c m) (hn : es.length ≤ 1000 := by exact Nat.le_of_ble_eq_true rfl) : DL X W ds (.List es pos) c m := by
  obtain ⟨t, p, q⟩ := ha
  refine ⟨_, pe_lst p, fun S0 H0 σ S H Q E P => q S0 H0 σ S H _ E ?_⟩
  refine R.post_mono P (fun as k vs S1 H1 g l1 r1 => ?_) (fun _ k => k)
  refine ⟨by rw [l1]; exact Nat.le_trans hn (by decide), fun q hq => ?_⟩
  have g2 : Grow S1 H1 S1 (upd H1 q (.lst vs)) := .lay' g.inn hq
  exact k q vs S1 _ (g.trans g2) (g.ex.free hq) (g.inn.free hq) upd_same r1
theorem lst0 {c : Cd α} : DL X W ds (.List [] pos) c (.ok []) := by
  refine ⟨_, pe_lst pa_nil, fun S0 H0 σ S H Q E P => ⟨Nat.zero_le _, fun q hq => ?_⟩⟩
  exact P q [] S _ (.lay' E.inn hq) hq (E.inn.free hq) upd_same trivial
end
end Zk
set_option maxHeartbeats 4000000
/-! # Zk: calls, statements, loops -/
namespace Zk
open PySem PySem.Spec PyProof.Rows L2
section
variable {X : Cx} {W : XK} {ds : Env} {α β γ τ : Type} {a b : Expr} {e : Expr} {es : List Expr} {pos p : Pos} {c1 : Cd α} {c2 : Cd β} {c3 : Cd γ} {m1 : R α} {m2 : R β} {x : α} {y : β}
/-! ### calls of built-ins -/
def CallSem (K : PySem.W.Frag) (W : XK) (r : List V → Hp → VK → Prop) (ca : CA τ) (c : Cd γ) (g : τ → R γ) : Prop :=
  ∀ z vs S H Q, Same S H → ca.rep K S vs z → PX c K S H (g z) Q W → r vs H Q
theorem callB {id : String} {r : List V → Hp → VK → Prop} {nm : Str} {ca : CA τ} {g : τ → R γ} {m : R τ} (hc : CallR X (.builtin id) r) (hs : CallSem X.K W r ca c3 g) (hv : bootBuiltins nm = some (.builtin id)) (hm : X.mg nm = none) (ha : DA X W ds (e :: es) ca m)
    (hg : Gl X nm := by rfl) (hn : nm ≠ "__name__" := by decide) (hdb : (nm == ("__debug__" : Str)) = false := by decide)
    (he : starEach (e :: es) X.env = (false, eval e X.env) :: starEach es X.env := by rfl) (hpl : (backTo pos (starEach es X.env)).any (·.1) = false := by rfl) : DE X W ds (.Call (.Name nm p) (e :: es) [] pos) c3 (m >>= g) := by
  obtain ⟨t, pa, q⟩ := ha
  exact ⟨_, pe_callB hc hg hm hv pa hn hdb he hpl, fun S0 H0 σ S H Q E P => q S0 H0 σ S H _ E (P.bindA fun z vs S1 H1 g1 r1 P1 => hs z vs S1 H1 Q g1.inn r1 P1)⟩
theorem callTy {T : String} {r : List V → Hp → VK → Prop} {nm : Str} {ca : CA τ} {g : τ → R γ} {m : R τ} (hc : CallR X (.type T) r) (hs : CallSem X.K W r ca c3 g) (hv : bootBuiltins nm = some (.type T)) (hm : X.mg nm = none) (ha : DA X W ds (e :: es) ca m)
    (hg : Gl X nm := by rfl) (hn : nm ≠ "__name__" := by decide) (hdb : (nm == ("__debug__" : Str)) = false := by decide)
    (he : starEach (e :: es) X.env = (false, eval e X.env) :: starEach es X.env := by rfl) (hpl : (backTo pos (starEach es X.env)).any (·.1) = false := by rfl) : DE X W ds (.Call (.Name nm p) (e :: es) [] pos) c3 (m >>= g) := by
  obtain ⟨t, pa, q⟩ := ha
  exact ⟨_, pe_callTy hc hg hm hv pa hn hdb he hpl, fun S0 H0 σ S H Q E P => q S0 H0 σ S H _ E (P.bindA fun z vs S1 H1 g1 r1 P1 => hs z vs S1 H1 Q g1.inn r1 P1)⟩
theorem callF {id : String} {r : List V → Hp → VK → Prop} {nm : Str} {ca : CA τ} {g : τ → R γ} {m : R τ} (hc : CallR X (.builtin id) r) (hs : CallSem X.K W r ca c3 g) (hm : X.mg nm = some (.builtin id)) (ha : DA X W ds (e :: es) ca m)
    (hg : Gl X nm := by rfl) (hdb : (nm == ("__debug__" : Str)) = false := by decide)
    (he : starEach (e :: es) X.env = (false, eval e X.env) :: starEach es X.env := by rfl) (hpl : (backTo pos (starEach es X.env)).any (·.1) = false := by rfl) : DE X W ds (.Call (.Name nm p) (e :: es) [] pos) c3 (m >>= g) := by
  obtain ⟨t, pa, q⟩ := ha
  exact ⟨_, pe_callBfun hc hg hm pa hdb he hpl, fun S0 H0 σ S H Q E P => q S0 H0 σ S H _ E (P.bindA fun z vs S1 H1 g1 r1 P1 => hs z vs S1 H1 Q g1.inn r1 P1)⟩
/-- the semantics of single built-ins -/
theorem cs_lenL {K : PySem.W.Frag} {c : Cd α} : CallSem K W (fun xs H Q => ∃ p ys, xs = [.ref p] ∧ (SqL K H p ys ∨ SqT K H p ys) ∧ Q (.int ys.length) H) (aOne (cL c)) cI (fun z => .ok (z.length : Int)) := fun z vs S H Q i r P => by
  obtain ⟨v, rfl, p, ws, e, h1, h2⟩ := r
  refine ⟨p, ws, by rw [e], .inl (Same.seq i h1), P.ok i ?_⟩
  show V.int _ = V.int _
  rw [h2.length]
theorem cs_lenT {K : PySem.W.Frag} {c : Cd α} : CallSem K W (fun xs H Q => ∃ p ys, xs = [.ref p] ∧ (SqL K H p ys ∨ SqT K H p ys) ∧ Q (.int ys.length) H) (aOne (cT c)) cI (fun z => .ok (z.length : Int)) := fun z vs S H Q i r P => by
  obtain ⟨v, rfl, p, ws, e, h1, h2⟩ := r
  refine ⟨p, ws, by rw [e], .inr (Same.tup i h1), P.ok i ?_⟩
  show V.int _ = V.int _
  rw [h2.length]
theorem cs_lenLT {K : PySem.W.Frag} {c : Cd α} : CallSem K W (fun xs H Q => ∃ p ys, xs = [.ref p] ∧ (SqL K H p ys ∨ SqT K H p ys) ∧ Q (.int ys.length) H) (aOne (cLT c)) cI (fun z => .ok (z.length : Int)) := fun z vs S H Q i r P => by
  obtain ⟨v, rfl, r⟩ := r
  rcases r with r | r
  · exact cs_lenL z _ S H Q i ⟨v, rfl, r⟩ P
  · exact cs_lenT z _ S H Q i ⟨v, rfl, r⟩ P
theorem cs_lenP {K : PySem.W.Frag} {ca : CA τ} : CallSem K W (fun xs H Q => ∃ p ys, xs = [.ref p] ∧ (SqL K H p ys ∨ SqT K H p ys) ∧ Q (.int ys.length) H) (aOne (cP ca)) cI (fun _ => .ok (ca.n : Int)) := fun z vs S H Q i r P => by
  obtain ⟨v, rfl, p, ws, e, h1, h2⟩ := r
  refine ⟨p, ws, by rw [e], .inr (Same.tup i h1), P.ok i ?_⟩
  show V.int _ = V.int _
  rw [ca.len h2]
theorem cs_int {K : PySem.W.Frag} : CallSem K W (fun xs H Q => (∃ i, xs = [.int i] ∧ Q (.int i) H) ∨ ∃ k, xs = [.bl k] ∧ Q (.int (if k then 1 else 0)) H) (aOne cI) cI (fun z => .ok z) := fun z vs S H Q i r P => by
  obtain ⟨v, rfl, e⟩ := r
  exact .inl ⟨z, by rw [show v = V.int z from e], P.ok i rfl⟩
theorem cs_intB {K : PySem.W.Frag} : CallSem K W (fun xs H Q => (∃ i, xs = [.int i] ∧ Q (.int i) H) ∨ ∃ k, xs = [.bl k] ∧ Q (.int (if k then 1 else 0)) H) (aOne cB) cI (fun z => .ok (if z = true then 1 else 0)) := fun z vs S H Q i r P => by
  obtain ⟨v, rfl, e⟩ := r
  exact .inr ⟨z, by rw [show v = V.bl z from e], P.ok i rfl⟩
theorem cs_abs {K : PySem.W.Frag} : CallSem K W (fun xs H Q => ∃ i, xs = [.int i] ∧ Q (.int (if i < 0 then -i else i)) H) (aOne cI) cI (fun z => .ok (if z < 0 then -z else z)) := fun z vs S H Q i r P => by
  obtain ⟨v, rfl, e⟩ := r
  exact ⟨z, by rw [show v = V.int z from e], P.ok i rfl⟩
theorem cs_max {K : PySem.W.Frag} : CallSem K W (fun xs H Q => ∃ i j, xs = [.int i, .int j] ∧ Q (.int (if j > i then j else i)) H) (aCons cI (aOne cI)) cI (fun z => .ok (if z.2 > z.1 then z.2 else z.1)) := fun z vs S H Q i r P => by
  obtain ⟨v, ws, rfl, e, u, rfl, e2⟩ := r
  exact ⟨z.1, z.2, by rw [show v = V.int z.1 from e, show u = V.int z.2 from e2], P.ok i rfl⟩
theorem cs_min {K : PySem.W.Frag} : CallSem K W (fun xs H Q => ∃ i j, xs = [.int i, .int j] ∧ Q (.int (if j < i then j else i)) H) (aCons cI (aOne cI)) cI (fun z => .ok (if z.2 < z.1 then z.2 else z.1)) := fun z vs S H Q i r P => by
  obtain ⟨v, ws, rfl, e, u, rfl, e2⟩ := r
  exact ⟨z.1, z.2, by rw [show v = V.int z.1 from e, show u = V.int z.2 from e2], P.ok i rfl⟩
theorem cs_gcd {K : PySem.W.Frag} : CallSem K W rGcd (aCons cI (aOne cI)) cI (fun z => .ok ((Int.gcd z.1 z.2 : Nat) : Int)) := fun z vs S H Q i r P => by
  obtain ⟨v, ws, rfl, e, u, rfl, e2⟩ := r
  exact ⟨z.1, z.2, by rw [show v = V.int z.1 from e, show u = V.int z.2 from e2], P.ok i rfl⟩
section
variable {m : R τ}
theorem lenL {nm : Str} {c : Cd α} {m : R (List α)} (hm : X.mg "len" = none) (ha : DE X W ds e (cL c) m) (hg : Gl X "len" := by rfl) (he : starEach (e :: []) X.env = (false, eval e X.env) :: starEach [] X.env := by rfl) (hpl : (backTo pos (starEach [] X.env)).any (·.1) = false := by rfl) :
    DE X W ds (.Call (.Name "len" p) [e] [] pos) cI (m >>= fun z => .ok (z.length : Int)) := callB (nm := "len") call_len_seq cs_lenL PySem.boot_len hm (arg1 ha he) hg (by decide) (by decide) he hpl
theorem lenT {nm : Str} {c : Cd α} {m : R (List α)} (hm : X.mg "len" = none) (ha : DE X W ds e (cT c) m) (hg : Gl X "len" := by rfl) (he : starEach (e :: []) X.env = (false, eval e X.env) :: starEach [] X.env := by rfl) (hpl : (backTo pos (starEach [] X.env)).any (·.1) = false := by rfl) :
    DE X W ds (.Call (.Name "len" p) [e] [] pos) cI (m >>= fun z => .ok (z.length : Int)) := callB (nm := "len") call_len_seq cs_lenT PySem.boot_len hm (arg1 ha he) hg (by decide) (by decide) he hpl
end
/-! ### calls of the program's own defs -/
def spF (K : PySem.W.Frag) (ca : CA τ) (c : Cd γ) (F : τ → R γ) : Sp := fun vs H Q E => ∃ S z, Same S H ∧ ca.rep K S vs z ∧ PX c K S H (F z) Q E
structure FnI (P : Program) (w : World) (K : PySem.W.Frag) (mg : Str → Option Value) (base : Heap) (x : Str) (k : Nat) (ps : List Str) (ca : CA τ) (c : Cd γ) (F : τ → R γ) : Prop where
  ex : ∃ f fd, FnOk P w K mg base (L2.CX P w) k f fd ps (spF K ca c F) ∧ mg x = some (.ref f) ∧ PySem.W.keepIn K (.ref f) = true ∧ Binds K fd ps []
/-- what this body lets out of a callee's exceptions -/
abbrev Lets (X : Cx) (W : XK) : Prop := Passes (L2.CX X.prog X.w) X W
theorem call {x : Str} {k : Nat} {ps : List Str} {ca : CA τ} {F : τ → R γ} {m : R τ} {n : R γ} (f : FnI X.prog X.w X.K X.mg X.base x k ps ca c3 F) (hr : Room k X.A) (hp : Lets X W) (ha : DA X W ds (e :: es) ca m) (hn : n = (m >>= F) := by rfl) (hg : Gl X x := by rfl)
    (hdb : (x == ("__debug__" : Str)) = false := by decide) (he : starEach (e :: es) X.env = (false, eval e X.env) :: starEach es X.env := by rfl) (hpl : (backTo pos (starEach es X.env)).any (·.1) = false := by rfl) : DE X W ds (.Call (.Name x p) (e :: es) [] pos) c3 n := by
  obtain ⟨f, fd, F1, h1, h2, h3⟩ := f.ex
  obtain ⟨t, pa, q⟩ := ha
  subst hn
  refine ⟨_, pe_call F1 hr hg h1 h2 h3 .nil hp pa hdb he hpl, fun S0 H0 σ S H Q E P => q S0 H0 σ S H _ E (P.bindA fun z vs S1 H1 g1 r1 P1 => ?_)⟩
  rw [List.append_nil]
  exact ⟨S1, z, g1.inn, r1, P1⟩
theorem callP {x : Str} {k : Nat} {ps : List Str} {ca : CA τ} {F : τ → R γ} {z : τ} {n : R γ} (f : FnI X.prog X.w X.K X.mg X.base x k ps ca c3 F) (hr : Room k X.A) (hp : Lets X W) (ha : DA X W ds (e :: es) ca (.ok z)) (hn : n = F z := by exact rfl) (hg : Gl X x := by rfl)
    (hdb : (x == ("__debug__" : Str)) = false := by decide) (he : starEach (e :: es) X.env = (false, eval e X.env) :: starEach es X.env := by rfl) (hpl : (backTo pos (starEach es X.env)).any (·.1) = false := by rfl) : DE X W ds (.Call (.Name x p) (e :: es) [] pos) c3 n := by
  rw [hn]
  exact call f hr hp ha rfl hg hdb he hpl
theorem call0 {x : Str} {k : Nat} {ps : List Str} {F : Unit → R γ} {n : R γ} (f : FnI X.prog X.w X.K X.mg X.base x k ps aNil c3 F) (hr : Room k X.A) (hp : Lets X W) (hn : n = F () := by rfl) (hg : Gl X x := by rfl)
    (hdb : (x == ("__debug__" : Str)) = false := by decide) : DE X W ds (.Call (.Name x p) [] [] pos) c3 n := by
  obtain ⟨f, fd, F1, h1, h2, h3⟩ := f.ex
  subst hn
  refine ⟨_, pe_call0 F1 hr hg h1 h2 h3 .nil hp hdb, fun S0 H0 σ S H Q E P => ⟨S, (), E.inn, rfl, P⟩⟩
end

/-! ### statements -/
inductive Out (β ν κ : Type) where
  | ret (b : β) | nxt (s : ν) | brk (s : κ) | ctn (s : κ)
section
variable {β ν κ ω : Type}
def OutP (K : PySem.W.Frag) (S0 H0 : Hp) (cb : Cd β) (eN : ν → Env) (eK : κ → Env) (D : Ends) (o : Out β ν κ) : Prop := match o with
  | .ret b => ∀ v S' H', Grow S0 H0 S' H' → cb.rep K S' v b → D.rt v H'
  | .nxt s => ∀ σ' S' H', EnvOk K S0 H0 (eN s) σ' S' H' → D.nx σ' H'
  | .brk s => ∀ σ' S' H', EnvOk K S0 H0 (eK s) σ' S' H' → D.bk σ' H'
  | .ctn s => ∀ σ' S' H', EnvOk K S0 H0 (eK s) σ' S' H' → D.ct σ' H'
def EX (K : PySem.W.Frag) (W : XK) (S0 H0 : Hp) (x : Exn) : Prop := ∀ cl d S' H', Grow S0 H0 S' H' → repX K S' cl d x → W cl d H'
theorem Grow.base {S0 H0 S1 H1 S2 H2 : Hp} (a : Grow S0 H0 S1 H1) (b : Grow S1 H0 S2 H2) : Grow S0 H0 S2 H2 := by
  refine ⟨b.ex, a.st.trans b.st, b.inn, fun x e n => ?_⟩
  cases q : S1 x with
  | none => exact b.new x q n
  | some o => exact a.new x e (by rw [q]; exact fun z => by cases z)
theorem EnvOk.rebase {K : PySem.W.Frag} {S0 H0 S H : Hp} {ds : Env} {σ : L2.St} (E : EnvOk K S0 H0 ds σ S H) : EnvOk K S H0 ds σ S H :=
  ⟨E.len, E.at_, E.sep, ⟨E.grow.ex, .refl _, E.grow.inn, fun a e n => (n e).elim⟩⟩
theorem EnvOk.unbase {K : PySem.W.Frag} {S0 H0 S1 H1 S H : Hp} {ds : Env} {σ : L2.St} (g : Grow S0 H0 S1 H1) (E : EnvOk K S1 H0 ds σ S H) : EnvOk K S0 H0 ds σ S H :=
  ⟨E.len, E.at_, E.sep, g.base E.grow⟩
theorem OutP.rebase {K : PySem.W.Frag} {S0 H0 S1 H1 : Hp} {cb : Cd β} {eN : ν → Env} {eK : κ → Env} {D : Ends} {o : Out β ν κ} (g : Grow S0 H0 S1 H1) (h : OutP K S0 H0 cb eN eK D o) : OutP K S1 H0 cb eN eK D o := by
  cases o with
  | ret b => exact fun v S' H' g' r => h v S' H' (g.base g') r
  | nxt s => exact fun σ' S' H' E => h σ' S' H' (E.unbase g)
  | brk s => exact fun σ' S' H' E => h σ' S' H' (E.unbase g)
  | ctn s => exact fun σ' S' H' E => h σ' S' H' (E.unbase g)
theorem EX.rebase {K : PySem.W.Frag} {W : XK} {S0 H0 S1 H1 : Hp} {x : Exn} (g : Grow S0 H0 S1 H1) (h : EX K W S0 H0 x) : EX K W S1 H0 x := fun cl d S' H' g' r => h cl d S' H' (g.base g') r
/-- a block's own reading: what must hold that it runs -/
def tS (X : Cx) (sts : List Stmt) : TS := fun D σ H => ∀ (pins : List (Addr × Obj)) (s : Shared), Inv X pins σ H s → wpAny (model X.prog X.w) X.A (execs sts X.env) (SP X pins D) X.xe s
theorem pss_tS {X : Cx} {sts : List Stmt} : PSs X sts (tS X sts) := ⟨fun pins s σ H D I h => h pins s I⟩
theorem PSs.to {X : Cx} {sts : List Stmt} {t : TS} (h : PSs X sts t) {D : Ends} {σ : L2.St} {H : Hp} (q : t D σ H) : tS X sts D σ H := fun pins s I => h.run pins s σ H D I q
/-- T: the block never comes to its end -/
def DS (X : Cx) (W : XK) (T : Bool) (ds : Env) (sts : List Stmt) (cb : Cd β) (eN : ν → Env) (eK : κ → Env) (I : ω → Out β ν κ) (m : R ω) : Prop :=
  ∀ S0 H0 σ S H (D : Ends) (nx : L2.St → Hp → Prop), (T = true ∨ nx = D.nx) → EnvOk X.K S0 H0 ds σ S H → m.post (fun w => OutP X.K S0 H0 cb eN eK D (I w)) (EX X.K W S0 H0) → tS X sts { D with nx := nx } σ H
end
section
variable {X : Cx} {W : XK} {T : Bool} {ds : Env} {α β γ τ ν κ ω : Type} {e : Expr} {st : Stmt} {sts rest : List Stmt} {pos p : Pos} {c : Cd α} {cb : Cd β} {eN : ν → Env} {eK : κ → Env} {I : ω → Out β ν κ} {m : R α} {k : α → R ω} {n : R ω}
/-- an expression within a statement -/
theorem stE {f : α → R ω} {S0 H0 S H : Hp} {σ : L2.St} {Q : VK} {D : Ends} (E : EnvOk X.K S0 H0 ds σ S H) (P : (m >>= f).post (fun w => OutP X.K S0 H0 cb eN eK D (I w)) (EX X.K W S0 H0))
    (h : ∀ a v S' H', EnvOk X.K S0 H0 ds σ S' H' → c.rep X.K S' v a → (f a).post (fun w => OutP X.K S0 H0 cb eN eK D (I w)) (EX X.K W S0 H0) → Q v H') : PX c X.K S H m Q W :=
  R.post_mono (R.post_bind.mp P) (fun a q v S' H' g r => h a v S' H' (E.step g) r q) (fun x q cl d S' H' g r => q cl d S' H' (E.grow.trans g) r)
theorem stT {m : R Bool} {f : Bool → R ω} {S0 H0 S H : Hp} {σ : L2.St} {Q : Bool → Hp → Prop} {D : Ends} (E : EnvOk X.K S0 H0 ds σ S H) (P : (m >>= f).post (fun w => OutP X.K S0 H0 cb eN eK D (I w)) (EX X.K W S0 H0))
    (h : ∀ a S' H', EnvOk X.K S0 H0 ds σ S' H' → (f a).post (fun w => OutP X.K S0 H0 cb eN eK D (I w)) (EX X.K W S0 H0) → Q a H') : PB X.K S H m Q W :=
  R.post_mono (R.post_bind.mp P) (fun a q S' H' g => h a S' H' (E.step g) q) (fun x q cl d S' H' g r => q cl d S' H' (E.grow.trans g) r)
theorem nil {w : ω} {s : ν} (hI : I w = .nxt s := by rfl) (l : EnvLe ds (eN s)) : DS X W false ds [] cb eN eK I (.ok w) := fun S0 H0 σ S H D nx h E P => by
  have e : nx = D.nx := h.resolve_left (by decide)
  subst e
  have P1 : OutP X.K S0 H0 cb eN eK D (I w) := P
  rw [hI] at P1
  exact PSs.to pss_nil (P1 σ S H (E.le l))
theorem never : DS X W T ds sts cb eN eK I .stuck := fun S0 H0 σ S H D nx h E P => False.elim P
/-- one statement ahead of the rest -/
theorem seq {t : TS} {D : Ends} {σ : L2.St} {H : Hp} (h : PS X st t) (q : t { D with nx := tS X rest D } σ H) : tS X (st :: rest) D σ H := PSs.to (pss_cons h pss_tS) q
/-- x = e -/
theorem asg {x : Str} {pos' : Pos} (i : Nat) (sn : X.N.Nodup) (he : DE X W ds e c m) (hr : ∀ z, DS X W T (ds.put i (.st α c z)) rest cb eN eK I (k z)) (hi : X.N[i]? = some x := by rfl) (hx : Loc X.env.scope x := by first | exact Or.inl rfl | exact Or.inr rfl)
    (hs : swapsWith e (some (.Name x pos')) pos.line X.env = pure false := by rfl) (hf : X.fn x = true ∨ X.env.scope.names.lookup x = some .local := by first | exact .inl rfl | exact .inr rfl) : DS X W T ds (.Assign [.Name x pos'] e pos :: rest) cb eN eK I (m >>= k) := fun S0 H0 σ S H D nx h E P => by
  obtain ⟨te, pe, qe⟩ := he
  exact seq (ps_set (i := i) sn hi hx pe hs hf) (qe S0 H0 σ S H _ E (stE E P fun z v S' H' E' r P' => hr z S0 H0 _ S' H' D nx h (E'.putS r) P'))
/-- x = a new list that will change -/
theorem asgM {x : Str} {pos' : Pos} {m : R (List α)} {k : List α → R ω} (i : Nat) (sn : X.N.Nodup) (he : DL X W ds e c m) (hr : ∀ z, DS X W T (ds.put i (.mu α c z)) rest cb eN eK I (k z)) (hi : X.N[i]? = some x := by rfl) (hx : Loc X.env.scope x := by first | exact Or.inl rfl | exact Or.inr rfl)
    (hs : swapsWith e (some (.Name x pos')) pos.line X.env = pure false := by rfl) (hf : X.fn x = true ∨ X.env.scope.names.lookup x = some .local := by first | exact .inl rfl | exact .inr rfl) : DS X W T ds (.Assign [.Name x pos'] e pos :: rest) cb eN eK I (m >>= k) := fun S0 H0 σ S H D nx h E P => by
  obtain ⟨te, pe, qe⟩ := he
  refine seq (ps_set (i := i) sn hi hx pe hs hf) (qe S0 H0 σ S H _ E (R.post_mono (R.post_bind.mp P) (fun z q p vs S' H' g h1 h2 h3 r => ?_) (fun x q cl d S' H' g r => q cl d S' H' (E.grow.trans g) r)))
  have E' := E.step g
  refine hr z S0 H0 _ S' H' D nx h (E'.putM (E.grow.ex.free h1) h2 h3 r (fun j mj ej => ?_)) q
  have q2 := E.at_ j
  cases hd : ds.get j with
  | none =>
    rw [hd] at mj
    exact mj.elim
  | st γ c2 a =>
    rw [hd] at mj
    exact mj.elim
  | mu γ c2 cs =>
    obtain ⟨p2, ws, k1, k2, k3, k4, k5⟩ := E.muv hd
    rw [ej] at k1
    cases k1
    rw [h1] at k4
    cases k4
/-- the list in slot i settles -/
theorem settle (i : Nat) {as : List α} (hd : ds.get i = .mu α c as := by rfl) (hr : DS X W T (ds.put i (.st (List α) (cL c) as)) sts cb eN eK I n) : DS X W T ds sts cb eN eK I n := fun S0 H0 σ S H D nx h E P => by
  obtain ⟨S', hs, E'⟩ := E.freeze hd
  exact hr S0 H0 σ S' H D nx h E' P
/-- return e -/
theorem ret {g : β → ω} {m : R β} (he : DE X W ds e cb m) (hI : ∀ b, I (g b) = .ret b) : DS X W T ds (.Return (some e) pos :: rest) cb eN eK I (m >>= fun b => .ok (g b)) := fun S0 H0 σ S H D nx h E P => by
  obtain ⟨te, pe, qe⟩ := he
  refine seq (ps_ret pe) (qe S0 H0 σ S H _ E (stE E P fun b v S' H' E' r P' => ?_))
  have P1 : OutP X.K S0 H0 cb eN eK D (I (g b)) := P'
  rw [hI] at P1
  exact P1 v S' H' E'.grow r
/-- return e, the mirror the value itself -/
theorem retF {m : R β} {I : β → Out β ν κ} (he : DE X W ds e cb m) (hI : ∀ b, I b = .ret b := by intro _; rfl) : DS X W T ds (.Return (some e) pos :: rest) cb eN eK I m := by
  have q := ret (T := T) (rest := rest) (pos := pos) (eN := eN) (eK := eK) (g := fun b => b) he hI
  rw [show (m >>= fun b => R.ok b) = m from R.bind_ok m] at q
  exact q
theorem retO {b : β} {I : ω → Out β ν κ} {w : ω} (he : DE X W ds e cb (.ok b)) (hI : I w = .ret b := by rfl) : DS X W T ds (.Return (some e) pos :: rest) cb eN eK I (.ok w) := fun S0 H0 σ S H D nx h E P => by
  obtain ⟨te, pe, qe⟩ := he
  refine seq (ps_ret pe) (qe S0 H0 σ S H _ E (fun v S' H' g r => ?_))
  have P1 : OutP X.K S0 H0 cb eN eK D (I w) := P
  rw [hI] at P1
  exact P1 v S' H' (E.grow.trans g) r
/-- break, continue -/
theorem brk {w : ω} {s : κ} (l : EnvLe ds (eK s)) (hI : I w = .brk s := by rfl) : DS X W T ds (.Break pos :: rest) cb eN eK I (.ok w) := fun S0 H0 σ S H D nx h E P => by
  have P1 : OutP X.K S0 H0 cb eN eK D (I w) := P
  rw [hI] at P1
  exact seq ps_break (P1 σ S H (E.le l))
theorem cont {w : ω} {s : κ} (l : EnvLe ds (eK s)) (hI : I w = .ctn s := by rfl) : DS X W T ds (.Continue pos :: rest) cb eN eK I (.ok w) := fun S0 H0 σ S H D nx h E P => by
  have P1 : OutP X.K S0 H0 cb eN eK D (I w) := P
  rw [hI] at P1
  exact seq ps_continue (P1 σ S H (E.le l))
theorem pass (hr : DS X W T ds rest cb eN eK I n) : DS X W T ds (.Pass pos :: rest) cb eN eK I n := fun S0 H0 σ S H D nx h E P => seq ps_pass (hr S0 H0 σ S H D nx h E P)
/-- e as a statement -/
theorem drop (he : DE X W ds e c m) (hr : ∀ z, DS X W T ds rest cb eN eK I (k z)) (hs : swapsWith e none pos.line X.env = pure false := by rfl) : DS X W T ds (.Expr e pos :: rest) cb eN eK I (m >>= k) := fun S0 H0 σ S H D nx h E P => by
  obtain ⟨te, pe, qe⟩ := he
  exact seq (ps_expr pe hs) (qe S0 H0 σ S H _ E (stE E P fun z v S' H' E' r P' => hr z S0 H0 _ S' H' D nx h E' P'))
/-! ### if -/
section
variable {t : Expr} {A B : List Stmt} {mt : R Bool} {nA nB : R ω}
/-- the last statement: both ends are the block's end -/
theorem if2 (ht : DT X W ds t mt) (hA : DS X W T ds A cb eN eK I nA) (hB : DS X W T ds B cb eN eK I nB) : DS X W T ds [.If t A B pos] cb eN eK I (mt >>= fun z => if z = true then nA else nB) := fun S0 H0 σ S H D nx h E P => by
  obtain ⟨tt, pt, qt⟩ := ht
  refine PSs.to (pss_one (ps_if pt pss_tS pss_tS)) (qt S0 H0 σ S H _ E (stT E P fun z S' H' E' P' => ?_))
  cases z with
  | true => exact hA S0 H0 σ S' H' D nx h E' P'
  | false => exact hB S0 H0 σ S' H' D nx h E' P'
/-- the first branch leaves -/
theorem ifA (ht : DT X W ds t mt) (hA : DS X W true ds A cb eN eK I nA) (hr : DS X W T ds rest cb eN eK I n) : DS X W T ds (.If t A [] pos :: rest) cb eN eK I (mt >>= fun z => if z = true then nA else n) := fun S0 H0 σ S H D nx h E P => by
  obtain ⟨tt, pt, qt⟩ := ht
  refine seq (ps_if pt pss_tS pss_nil) (qt S0 H0 σ S H _ E (stT E P fun z S' H' E' P' => ?_))
  cases z with
  | true => exact hA S0 H0 σ S' H' D _ (.inl rfl) E' P'
  | false => exact hr S0 H0 σ S' H' D nx h E' P'
theorem ifA_p {z : Bool} (ht : DT X W ds t (.ok z)) (hA : DS X W true ds A cb eN eK I nA) (hr : DS X W T ds rest cb eN eK I n) : DS X W T ds (.If t A [] pos :: rest) cb eN eK I (if z = true then nA else n) := ifA ht hA hr
theorem if2_p {z : Bool} (ht : DT X W ds t (.ok z)) (hA : DS X W T ds A cb eN eK I nA) (hB : DS X W T ds B cb eN eK I nB) : DS X W T ds [.If t A B pos] cb eN eK I (if z = true then nA else nB) := if2 ht hA hB
/-- both come to the rest: what they leave is joined -/
theorem ifJ {σ' : Type} {eJ : σ' → Env} {jA jB : R σ'} {kJ : σ' → R ω} (ht : DT X W ds t mt) (hA : DS X W false ds A cb eJ eK (fun s => (.nxt s : Out β σ' κ)) jA) (hB : DS X W false ds B cb eJ eK (fun s => (.nxt s : Out β σ' κ)) jB) (hr : ∀ s, DS X W T (eJ s) rest cb eN eK I (kJ s)) :
    DS X W T ds (.If t A B pos :: rest) cb eN eK I (mt >>= fun z => (if z = true then jA else jB) >>= kJ) := fun S0 H0 σ S H D nx h E P => by
  obtain ⟨tt, pt, qt⟩ := ht
  refine seq (ps_if pt pss_tS pss_tS) (qt S0 H0 σ S H _ E (stT E P fun z S' H' E' P' => ?_))
  cases z with
  | true => exact hA S0 H0 σ S' H' { D with nx := tS X rest { D with nx := nx } } _ (.inr rfl) E' (R.post_mono (R.post_bind.mp P') (fun s q σ2 S2 H2 E2 => hr s S0 H0 σ2 S2 H2 D nx h E2 q) (fun _ q => q))
  | false => exact hB S0 H0 σ S' H' { D with nx := tS X rest { D with nx := nx } } _ (.inr rfl) E' (R.post_mono (R.post_bind.mp P') (fun s q σ2 S2 H2 E2 => hr s S0 H0 σ2 S2 H2 D nx h E2 q) (fun _ q => q))
theorem ifJ_p {z : Bool} {σ' : Type} {eJ : σ' → Env} {jA jB : R σ'} {kJ : σ' → R ω} (ht : DT X W ds t (.ok z)) (hA : DS X W false ds A cb eJ eK (fun s => (.nxt s : Out β σ' κ)) jA) (hB : DS X W false ds B cb eJ eK (fun s => (.nxt s : Out β σ' κ)) jB) (hr : ∀ s, DS X W T (eJ s) rest cb eN eK I (kJ s)) :
    DS X W T ds (.If t A B pos :: rest) cb eN eK I ((if z = true then jA else jB) >>= kJ) := ifJ ht hA hB hr
/-- any branches -/
def Out.thn {σ' : Type} (I : ω → Out β ν κ) (o : Out β σ' κ) (kJ : σ' → R ω) (up : Out β Empty κ → ω) : R ω := match o with
  | .nxt s => kJ s
  | .ret b => .ok (up (.ret b))
  | .brk s => .ok (up (.brk s))
  | .ctn s => .ok (up (.ctn s))
end
/-! ### append, a store by place -/
def appM (xs : List α) (z : α) : R (List α) := R.guard (xs.length < 16000000) (xs ++ [z])
def setM (xs : List α) (i : Int) (z : α) : R (List α) := match ixN xs.length i with
  | some j => .ok (xs.set j z)
  | none => .stuck
/-- x.append(e), x's list still changes -/
theorem app {x : Str} {p1 p2 p3 : Pos} {as : List α} {k : List α → R ω} (i : Nat) (he : DE X W ds e c m) (hr : ∀ zs, DS X W T (ds.put i (.mu α c zs)) rest cb eN eK I (k zs)) (hd : ds.get i = .mu α c as := by rfl) (hN : X.N[i]? = some x := by rfl)
    (hv : Vis X.env.scope x := by first | exact Or.inl rfl | exact Or.inr (Or.inl rfl) | exact Or.inr (Or.inr rfl)) (hdb : (x == ("__debug__" : Str)) = false := by decide) (hcd : (x == ("__classdict__" : Str)) = false := by decide)
    (hs : swapsWith (.Call (.Attribute (.Name x p1) "append" p2) [e] [] p3) none pos.line X.env = pure false := by rfl)
    (ho : starEach [e] X.env = (false, eval e X.env) :: starEach [] X.env := by rfl)
    (pb : ∀ {te : TE}, PE X e te → PE X (.Call (.Attribute (.Name x p1) "append" p2) [e] [] p3) (tBM X.K "list" rAppend (tVar i) (tCons te tNil)) := by
      intro te pe; exact pe_bm PySem.F.plainAttrs_list PySem.F.slot_list_append PySem.F.type_list_append mt_append (pv _) (pa_cons pe pa_nil)) :
    DS X W T ds (.Expr (.Call (.Attribute (.Name x p1) "append" p2) [e] [] p3) pos :: rest) cb eN eK I (m >>= fun z => appM as z >>= k) := fun S0 H0 σ S H D nx h E P => by
  obtain ⟨te, pe, qe⟩ := he
  obtain ⟨l, vs, h1, h2, h3, h4, h5⟩ := E.muv hd
  refine seq (ps_expr (pb pe) hs) ⟨.ref l, h1, Or.inl ⟨rfl, vs, SqL.of h4⟩, qe S0 H0 σ S H _ E (stE E P fun z v S' H' E' r P' => ?_)⟩
  obtain ⟨l', vs', k1, k2, k3, k4, k5⟩ := E'.muv hd
  rw [h1] at k1
  cases k1
  obtain ⟨g1, g2⟩ : as.length < 16000000 ∧ (k (as ++ [z])).post (fun w => OutP X.K S0 H0 cb eN eK D (I w)) (EX X.K W S0 H0) := by
    unfold appM R.guard at P'
    split at P'
    · exact ⟨by assumption, P'⟩
    · exact False.elim P'
  refine ⟨l, vs', v, rfl, rfl, k4, ?_, ?_⟩
  · rw [k5.length]
    exact Nat.lt_of_lt_of_le g1 (by decide)
  · exact hr _ S0 H0 σ S' _ D nx h (E'.mutate (vs := vs' ++ [v]) hd h1 (k5.append (show Reps c X.K S' [v] [z] from ⟨r, trivial⟩))) g2
end
end Zk
set_option maxHeartbeats 4000000
/-! # Zk: what is walked, loops, comprehensions, defs -/
namespace Zk
open PySem PySem.Spec PyProof.Rows L2
/-! ### what is walked -/
/-- J gives the values of as, one a turn -/
def ItOk {α : Type} (J : It) (K : PySem.W.Frag) (S : Hp) (c : Cd α) (as : List α) : Prop :=
  ∀ (i : Nat) (S1 H1 : Hp), Same S S1 → Same S1 H1 → (as.length ≤ i → J.stop i H1) ∧ (∀ a, as[i]? = some a → J.go i H1 ∧ ∀ x H', J.yld i H1 x H' → ∃ S', Grow S1 H1 S' H' ∧ c.rep K S' x a)
def DI (X : Cx) (W : XK) (ds : Env) (tg iter : Expr) {α : Type} (c : Cd α) (m : R (List α)) : Prop :=
  ∃ wi : TI, PI X tg iter wi ∧ ∀ S0 H0 σ S H (Q : It → Hp → Prop), EnvOk X.K S0 H0 ds σ S H →
    m.post (fun as => ∀ J S' H', Grow S H S' H' → ItOk J X.K S' c as → Q J H') (fun x => ∀ cl d S' H', Grow S H S' H' → repX X.K S' cl d x → W cl d H') → wi σ H Q
/-- a target: the slots behind it -/
def DG (X : Cx) (tg : Expr) {α σ' : Type} (c : Cd α) (e0 : σ' → Env) (eB : σ' → α → Env) : Prop :=
  ∃ g : TG, PG X tg g ∧ ∀ s a v S0 H0 σ S H (Q : L2.St → Hp → Prop), EnvOk X.K S0 H0 (e0 s) σ S H → c.rep X.K S v a → (∀ σ', EnvOk X.K S0 H0 (eB s a) σ' S H → Q σ' H) → g v σ H Q
section
variable {X : Cx} {W : XK} {ds : Env} {α β γ τ : Type} {a b : Expr} {e : Expr} {es : List Expr} {pos p : Pos} {c : Cd α} {c2 : Cd β} {m : R (List α)} {tg : Expr}
theorem itl_ok {K : PySem.W.Frag} {S : Hp} {l : Addr} {vs : List V} {as : List α} (h : SqL K S l vs) (r : Reps c K S vs as) : ItOk (Itl K l) K S c as := fun i S1 H1 s1 s2 => by
  have h1 : SqL K H1 l vs := Same.seq s2 (Same.seq s1 h)
  refine ⟨fun hi => ⟨vs, h1, by rw [r.length]; exact hi⟩, fun a ha => ?_⟩
  obtain ⟨v, k1, k2⟩ := r.get ha
  refine ⟨⟨vs, v, h1, k1⟩, fun x H' y => ?_⟩
  obtain ⟨e, y⟩ := y
  subst e
  have ex := y vs h1
  rw [k1] at ex
  cases ex
  exact ⟨S1, .refl s2, c.mono s1 k2⟩
theorem itt_ok {K : PySem.W.Frag} {S : Hp} {l : Addr} {vs : List V} {as : List α} (h : SqT K S l vs) (r : Reps c K S vs as) : ItOk (Itt K l) K S c as := fun i S1 H1 s1 s2 => by
  have h1 : SqT K H1 l vs := Same.tup s2 (Same.tup s1 h)
  refine ⟨fun hi => ⟨vs, h1, by rw [r.length]; exact hi⟩, fun a ha => ?_⟩
  obtain ⟨v, k1, k2⟩ := r.get ha
  refine ⟨⟨vs, v, h1, k1⟩, fun x H' y => ?_⟩
  obtain ⟨e, y⟩ := y
  subst e
  have ex := y vs h1
  rw [k1] at ex
  cases ex
  exact ⟨S1, .refl s2, c.mono s1 k2⟩
theorem iterL (ha : DE X W ds a (cL c) m) : DI X W ds tg a c m := by
  obtain ⟨t, p, q⟩ := ha
  refine ⟨_, pi_list p, fun S0 H0 σ S H Q E P => q S0 H0 σ S H _ E (R.post_mono P (fun as k v S' H' g r => ?_) (fun _ k => k))⟩
  obtain ⟨l, vs, e, h1, h2⟩ := r
  exact ⟨l, e, ⟨vs, Same.seq g.inn h1⟩, k _ S' H' g (itl_ok h1 h2)⟩
theorem iterT (ha : DE X W ds a (cT c) m) : DI X W ds tg a c m := by
  obtain ⟨t, p, q⟩ := ha
  refine ⟨_, pi_tup p, fun S0 H0 σ S H Q E P => q S0 H0 σ S H _ E (R.post_mono P (fun as k v S' H' g r => ?_) (fun _ k => k))⟩
  obtain ⟨l, vs, e, h1, h2⟩ := r
  exact ⟨l, e, ⟨vs, Same.tup g.inn h1⟩, k _ S' H' g (itt_ok h1 h2)⟩
/-- a list or a tuple -/
def iSeq (K : PySem.W.Frag) (tl : TE) : TI := fun σ H R => tl σ H fun x H1 => ∃ a, x = .ref a ∧ (((∃ xs, SqL K H1 a xs) ∧ R (Itl K a) H1) ∨ ((∃ xs, SqT K H1 a xs) ∧ R (Itt K a) H1))
theorem pi_seq {l : Expr} {tl : TE} (hl : PE X l tl) : PI X tg l (iSeq X.K tl) := by
  refine ⟨fun pins s σ H R I h => ?_⟩
  refine thn (hl.run pins s σ H _ I h) fun v s1 ⟨x, H1, I1, r1, q1⟩ => ?_
  obtain ⟨a, e, q1⟩ := q1
  subst e
  cases r1
  rcases q1 with ⟨⟨xs, hq⟩, q⟩ | ⟨⟨xs, hq⟩, q⟩
  · obtain ⟨its, rv, p, hz⟩ := I1.list hq
    refine wpAny_pyIter_list p.isList ?_
    refine ⟨s1.heap.objs.size, [s1.heap.objs.size], _, _, H1, rfl, I1.kept (t' := s1.toks) fun b o e => Heap.get?_push_of_some _ e, turn_list a _, ⟨_, Heap.get?_push_size _ rfl, rfl, rfl⟩, fun b hb => ?_, q⟩
    have e : b = s1.heap.objs.size := by simpa using hb
    subst e
    exact I1.fpOk (Nat.le_refl _) (I1.hok.fresh (Nat.le_refl _))
  · obtain ⟨its, rv, p, hz⟩ := I1.tuple hq
    refine wpAny_pyIter_tuple (show s1.heap.IsTuple a its.toArray from p) ?_
    refine ⟨s1.heap.objs.size, [s1.heap.objs.size], _, _, H1, rfl, I1.kept (t' := s1.toks) fun b o e => Heap.get?_push_of_some _ e, turn_tuple a _, ⟨_, Heap.get?_push_size _ rfl, rfl, rfl⟩, fun b hb => ?_, q⟩
    have e : b = s1.heap.objs.size := by simpa using hb
    subst e
    exact I1.fpOk (Nat.le_refl _) (I1.hok.fresh (Nat.le_refl _))
theorem iterLT (ha : DE X W ds a (cLT c) m) : DI X W ds tg a c m := by
  obtain ⟨t, p, q⟩ := ha
  refine ⟨_, pi_seq p, fun S0 H0 σ S H Q E P => q S0 H0 σ S H _ E (R.post_mono P (fun as k v S' H' g r => ?_) (fun _ k => k))⟩
  rcases r with ⟨l, vs, e, h1, h2⟩ | ⟨l, vs, e, h1, h2⟩
  · exact ⟨l, e, .inl ⟨⟨vs, Same.seq g.inn h1⟩, k _ S' H' g (itl_ok h1 h2)⟩⟩
  · exact ⟨l, e, .inr ⟨⟨vs, Same.tup g.inn h1⟩, k _ S' H' g (itt_ok h1 h2)⟩⟩
/-- range -/
def rangeL (lo : Int) : Nat → List Int
  | 0 => []
  | n + 1 => lo :: rangeL (lo + 1) n
theorem rangeL_length : ∀ (lo : Int) (n : Nat), (rangeL lo n).length = n
  | _, 0 => rfl
  | lo, n + 1 => congrArg Nat.succ (rangeL_length (lo + 1) n)
theorem rangeL_get : ∀ (lo : Int) (n i : Nat), i < n → (rangeL lo n)[i]? = some (lo + (i : Int))
  | _, 0, _, h => absurd h (Nat.not_lt_zero _)
  | lo, n + 1, 0, _ => by
    show some lo = some (lo + ((0 : Nat) : Int))
    rw [show lo + ((0 : Nat) : Int) = lo from Int.add_zero lo]
  | lo, n + 1, i + 1, h => by
    show (rangeL (lo + 1) n)[i]? = _
    rw [rangeL_get (lo + 1) n i (Nat.lt_of_succ_lt_succ h)]
    congr 1
    omega
def rngM (lo hi : Int) : R (List Int) := R.guard (-(2 ^ 62) ≤ lo ∧ lo < 2 ^ 62 ∧ -(2 ^ 62) ≤ hi ∧ hi < 2 ^ 62) (rangeL lo (hi - lo).toNat)
theorem itr_ok {K : PySem.W.Frag} {S : Hp} {lo : Int} {n : Nat} : ItOk (Itr lo n) K S cI (rangeL lo n) := fun i S1 H1 s1 s2 => by
  refine ⟨fun hi => ?_, fun z hz => ?_⟩
  · rw [rangeL_length] at hi
    exact hi
  · by_cases hi : i < n
    · rw [rangeL_get lo n i hi] at hz
      have e : lo + (i : Int) = z := Option.some.inj hz
      subst e
      refine ⟨hi, fun x H' y => ?_⟩
      obtain ⟨e1, e2⟩ := y
      subst e1
      exact ⟨S1, .refl s2, e2⟩
    · rw [List.getElem?_eq_none (by rw [rangeL_length]; omega)] at hz
      cases hz
theorem iterR1 {m : R Int} (hm : X.mg "range" = none) (ha : DE X W ds a cI m) (hg : Gl X "range" := by rfl) (hs : starEach [a] X.env = [(false, eval a X.env)] := by rfl) : DI X W ds tg (.Call (.Name "range" p) [a] [] pos) cI (m >>= fun n => rngM 0 n) := by
  obtain ⟨t, pa, q⟩ := ha
  refine ⟨_, pi_range1 hg hm (pa_cons pa pa_nil hs) hs, fun S0 H0 σ S H Q E P => q S0 H0 σ S H _ E (R.post_mono (R.post_bind.mp P) (fun n k v S' H' g r => ?_) (fun _ k => k))⟩
  obtain ⟨k1, k2⟩ := R.guard_post k
  have ev : v = V.int n := r
  subst ev
  refine ⟨n, rfl, k1.2.2.1, k1.2.2.2, ?_⟩
  have e : n - 0 = n := by omega
  rw [e] at k2
  exact k2 _ S' H' g itr_ok
theorem iterR2 {m n : R Int} (hm : X.mg "range" = none) (ha : DE X W ds a cI m) (hb : DE X W ds b cI n) (hg : Gl X "range" := by rfl) (hs : starEach [a, b] X.env = [(false, eval a X.env), (false, eval b X.env)] := by rfl) (hs2 : starEach [b] X.env = [(false, eval b X.env)] := by rfl)
    (hs3 : starEach (a :: [b]) X.env = (false, eval a X.env) :: starEach [b] X.env := by rfl) (hs4 : starEach (b :: []) X.env = (false, eval b X.env) :: starEach [] X.env := by rfl) : DI X W ds tg (.Call (.Name "range" p) [a, b] [] pos) cI (m >>= fun lo => n >>= fun hi => rngM lo hi) := by
  obtain ⟨t, pa, q⟩ := ha
  obtain ⟨u, pb, q2⟩ := hb
  refine ⟨_, pi_range2 hg hm (pa_cons pa (pa_cons pb pa_nil hs4) hs3) hs hs2, fun S0 H0 σ S H Q E P => q S0 H0 σ S H _ E (R.post_mono (R.post_bind.mp P) (fun lo k v S' H' g r => ?_) (fun _ k => k))⟩
  have ev : v = V.int lo := r
  subst ev
  refine q2 S0 H0 σ S' H' _ (E.step g) (R.post_mono (R.post_bind.mp k) (fun hi k v S2 H2 g2 r => ?_) (fun _ k cl d S2 H2 g2 r => k cl d S2 H2 (g.trans g2) r))
  have ev : v = V.int hi := r
  subst ev
  obtain ⟨k1, k2⟩ := R.guard_post k
  exact ⟨lo, hi, rfl, ⟨k1.1, k1.2.1, k1.2.2.1, k1.2.2.2⟩, k2 _ S2 H2 (g.trans g2) itr_ok⟩
theorem iterR1_p {n : Int} (hm : X.mg "range" = none) (ha : DE X W ds a cI (.ok n)) (hg : Gl X "range" := by rfl) (hs : starEach [a] X.env = [(false, eval a X.env)] := by rfl) : DI X W ds tg (.Call (.Name "range" p) [a] [] pos) cI (rngM 0 n) := iterR1 hm ha hg hs
/-- targets -/
theorem tgN {σ' : Type} {e0 : σ' → Env} {x : Str} (i : Nat) (sn : X.N.Nodup) (hi : X.N[i]? = some x := by rfl) (hx : Loc X.env.scope x := by first | exact Or.inl rfl | exact Or.inr rfl)
    (hf : X.fn x = true ∨ X.env.scope.names.lookup x = some .local := by first | exact .inl rfl | exact .inr rfl) : DG X (.Name x pos) c e0 (fun s a => (e0 s).put i (.st α c a)) :=
  ⟨gName i, pg_name sn hi hx hf, fun s a v S0 H0 σ S H Q E r k => k _ (E.putS r)⟩
end
/-! ### loops -/
section
variable {α β S S' : Type}
def foldR (step : S → α → R S) : List α → S → R S
  | [], s => .ok s
  | x :: xs, s => step s x >>= fun s' => foldR step xs s'
inductive End (S β : Type) where
  | go (s : S) | out (b : β)
def loopR (step : S → α → R (Out β S S)) : List α → S → R (End S β)
  | [], s => .ok (.go s)
  | x :: xs, s => step s x >>= fun o => match o with
    | .nxt s' => loopR step xs s'
    | .ctn s' => loopR step xs s'
    | .brk s' => .ok (.go s')
    | .ret b => .ok (.out b)
@[simp] theorem foldR_nil (step : S → α → R S) (s : S) : foldR step [] s = .ok s := rfl
@[simp] theorem foldR_cons (step : S → α → R S) (x : α) (xs : List α) (s : S) : foldR step (x :: xs) s = (step s x >>= fun s' => foldR step xs s') := rfl
end
section
variable {X : Cx} {W : XK} {T : Bool} {ds : Env} {α β γ τ ν κ ω σ' : Type} {tg iter : Expr} {body rest : List Stmt} {pos p : Pos} {c : Cd α} {cb : Cd β} {eN : ν → Env} {eK : κ → Env} {I : ω → Out β ν κ} {mi : R (List α)}
/-- a loop in general: W' the word of what is left, by the state of the slots -/
theorem for_any {g : TG} {J : It} {D : Ends} {S0 H0 Sa : Hp} {σ : L2.St} {H : Hp} {as : List α} (eL : σ' → Env) (C : List α → σ' → Prop) (hJ : ItOk J X.K Sa c as)
    (s0 : σ') (S : Hp) (hs : Same Sa S) (E : EnvOk X.K S0 H0 (eL s0) σ S H) (h0 : C as s0)
    (turn : ∀ a r s σ2 S2 H2 v (N : L2.St → Hp → Prop), C (a :: r) s → EnvOk X.K S0 H0 (eL s) σ2 S2 H2 → c.rep X.K S2 v a → (∀ s' σ3 S3 H3, C r s' → Same S2 S3 → EnvOk X.K S0 H0 (eL s') σ3 S3 H3 → N σ3 H3) → g v σ2 H2 fun σ3 H3 => tS X body { D with nx := N, ct := N, bk := D.nx } σ3 H3)
    (done : ∀ s σ2 S2 H2, C [] s → EnvOk X.K S0 H0 (eL s) σ2 S2 H2 → D.nx σ2 H2) :
    ∃ W : Nat → Nat → L2.St → Hp → Prop, (∃ m, W 0 m σ H) ∧ ∀ i m σ H, W i m σ H →
      (J.stop i H ∧ D.nx σ H) ∨ (J.go i H ∧ ∃ N : L2.St → Hp → Prop, (∀ σ' H', N σ' H' → ∃ m', m' < m ∧ W (i + 1) m' σ' H') ∧ ∀ x H', J.yld i H x H' → g x σ H' fun σ2 H2 => tS X body { D with nx := N, ct := N, bk := D.nx } σ2 H2) := by
  refine ⟨fun i m σ H => m = as.length - i ∧ i ≤ as.length ∧ ∃ s S, Same Sa S ∧ EnvOk X.K S0 H0 (eL s) σ S H ∧ C (as.drop i) s, ⟨as.length, by simp, Nat.zero_le _, s0, S, hs, E, by simpa using h0⟩, ?_⟩
  rintro i m σ H ⟨rfl, hi, s, S, hs, E, h⟩
  obtain ⟨j1, j2⟩ := hJ i S H hs E.inn
  by_cases hlt : i < as.length
  · have ha : as[i]? = some as[i] := List.getElem?_eq_getElem hlt
    obtain ⟨k1, k2⟩ := j2 _ ha
    refine .inr ⟨k1, fun σ' H' => ∃ s S, Same Sa S ∧ EnvOk X.K S0 H0 (eL s) σ' S H' ∧ C (as.drop (i + 1)) s, fun σ2 H2 q => ⟨as.length - (i + 1), by omega, rfl, hlt, q⟩, fun x H' y => ?_⟩
    obtain ⟨S2, g2, r2⟩ := k2 x H' y
    rw [List.drop_eq_getElem_cons hlt] at h
    exact turn _ _ s σ S2 H' x _ h (E.step g2) r2 fun s' σ3 S3 H3 h3 s3 E3 => ⟨s', S3, hs.trans (g2.st.trans s3), E3, h3⟩
  · have e : i = as.length := by omega
    subst e
    rw [List.drop_length] at h
    exact .inl ⟨j1 (Nat.le_refl _), done s σ S H h E⟩
/-- for tg in iter: body; nothing in it but passes to the next turn -/
theorem forF {σ' : Type} {eL : σ' → Env} {eB : σ' → α → Env} {step : σ' → α → R σ'} {s0 : σ'} {k : σ' → R ω} (hc : X.calm = true) (hp : PassesOwn (model X.prog X.w) X.A X.env X.xe) (hi : DI X W ds tg iter c mi) (hg : DG X tg c eL eB) (l : EnvLe ds (eL s0))
    (hb : ∀ s a, DS X W false (eB s a) body cb eL eL (fun s => (.nxt s : Out β σ' σ')) (step s a)) (hr : ∀ s, DS X W T (eL s) rest cb eN eK I (k s)) (hs : ∀ x, foldedSetIterable iter X.env x = pure x := by intro _; rfl) :
    DS X W T ds (.For tg iter body [] pos :: rest) cb eN eK I (mi >>= fun as => foldR step as s0 >>= k) := fun S0 H0 σ S H D nx h E P => by
  obtain ⟨wi, pi, qi⟩ := hi
  obtain ⟨g, pg, qg⟩ := hg
  refine seq (ps_for hp hc pi pg pss_tS hs) (qi S0 H0 σ S H _ E (R.post_mono (R.post_bind.mp P) (fun as q J S' H' gr hJ => ?_) (fun x q cl d S' H' gr r => q cl d S' H' (E.grow.trans gr) r)))
  refine for_any eL (fun as s => (foldR step as s >>= k).post (fun w => OutP X.K S0 H0 cb eN eK D (I w)) (EX X.K W S0 H0)) hJ s0 S' (.refl _) ((E.step gr).le l) q (fun a r s σ2 S2 H2 v N hC E2 r2 hN => ?_) (fun s σ2 S2 H2 hC E2 => ?_)
  · refine qg s a v S0 H0 σ2 S2 H2 _ E2 r2 fun σ3 E3 => ?_
    have hC' : (step s a >>= fun s' => foldR step r s' >>= k).post (fun w => OutP X.K S0 H0 cb eN eK D (I w)) (EX X.K W S0 H0) := by rw [← R.bind_assoc]; exact hC
    refine hb s a S2 H0 σ3 S2 H2 { D with nx := N, ct := N, bk := tS X rest { D with nx := nx } } N (.inr rfl) E3.rebase (R.post_mono (R.post_bind.mp hC') (fun s' q' σ4 S4 H4 E4 => ?_) (fun _ q' => q'.rebase E3.grow))
    exact hN s' σ4 S4 H4 q' E4.grow.st (E4.unbase E3.grow)
  · exact hr s S0 H0 σ2 S2 H2 D nx h E2 hC
/-- for tg in iter: body, which may leave or return -/
theorem forO {σ' : Type} {eL : σ' → Env} {eB : σ' → α → Env} {step : σ' → α → R (Out β σ' σ')} {s0 : σ'} {k : End σ' β → R ω} (hc : X.calm = true) (hp : PassesOwn (model X.prog X.w) X.A X.env X.xe) (hi : DI X W ds tg iter c mi) (hg : DG X tg c eL eB) (l : EnvLe ds (eL s0))
    (hb : ∀ s a, DS X W false (eB s a) body cb eL eL (fun o => o) (step s a)) (hr : ∀ s, DS X W T (eL s) rest cb eN eK I (k (.go s))) (ho : ∀ b, ∃ w, k (.out b) = .ok w ∧ I w = .ret b := by intro b; exact ⟨_, rfl, rfl⟩) (hs : ∀ x, foldedSetIterable iter X.env x = pure x := by intro _; rfl) :
    DS X W T ds (.For tg iter body [] pos :: rest) cb eN eK I (mi >>= fun as => loopR step as s0 >>= k) := fun S0 H0 σ S H D nx h E P => by
  obtain ⟨wi, pi, qi⟩ := hi
  obtain ⟨g, pg, qg⟩ := hg
  refine seq (ps_for hp hc pi pg pss_tS hs) (qi S0 H0 σ S H _ E (R.post_mono (R.post_bind.mp P) (fun as q J S' H' gr hJ => ?_) (fun x q cl d S' H' gr r => q cl d S' H' (E.grow.trans gr) r)))
  refine for_any eL (fun as s => (loopR step as s >>= k).post (fun w => OutP X.K S0 H0 cb eN eK D (I w)) (EX X.K W S0 H0)) hJ s0 S' (.refl _) ((E.step gr).le l) q (fun a r s σ2 S2 H2 v N hC E2 r2 hN => ?_) (fun s σ2 S2 H2 hC E2 => ?_)
  · refine qg s a v S0 H0 σ2 S2 H2 _ E2 r2 fun σ3 E3 => ?_
    have hC' : (step s a >>= fun o => (match o with
      | .nxt s' => loopR step r s'
      | .ctn s' => loopR step r s'
      | .brk s' => .ok (.go s')
      | .ret b => .ok (.out b)) >>= k).post (fun w => OutP X.K S0 H0 cb eN eK D (I w)) (EX X.K W S0 H0) := by rw [← R.bind_assoc]; exact hC
    refine hb s a S2 H0 σ3 S2 H2 { D with nx := N, ct := N, bk := tS X rest { D with nx := nx } } N (.inr rfl) E3.rebase (R.post_mono (R.post_bind.mp hC') (fun o q' => ?_) (fun _ q' => q'.rebase E3.grow))
    cases o with
    | nxt s' => exact fun σ4 S4 H4 E4 => hN s' σ4 S4 H4 q' E4.grow.st (E4.unbase E3.grow)
    | ctn s' => exact fun σ4 S4 H4 E4 => hN s' σ4 S4 H4 q' E4.grow.st (E4.unbase E3.grow)
    | brk s' => exact fun σ4 S4 H4 E4 => hr s' S0 H0 σ4 S4 H4 D nx h (E4.unbase E3.grow) q'
    | ret b =>
      obtain ⟨w, e1, e2⟩ := ho b
      have q2 : (k (.out b)).post (fun w => OutP X.K S0 H0 cb eN eK D (I w)) (EX X.K W S0 H0) := q'
      rw [e1] at q2
      have q3 : OutP X.K S0 H0 cb eN eK D (I w) := q2
      rw [e2] at q3
      exact fun v S4 H4 g4 r4 => q3 v S4 H4 (E3.grow.base g4) r4
  · exact hr s S0 H0 σ2 S2 H2 D nx h E2 hC
/-! ### while -/
def whileR {S : Type} (n : Nat) (test : S → R Bool) (step : S → R S) (s : S) : R S := match n with
  | 0 => .stuck
  | n + 1 => test s >>= fun z => if z = true then step s >>= fun s' => whileR n test step s' else .ok s
theorem whileF {σ' : Type} {eL : σ' → Env} {test : σ' → R Bool} {step : σ' → R σ'} {s0 : σ'} {k : σ' → R ω} {t : Expr} {n : Nat} (hp : PassesOwn (model X.prog X.w) X.A X.env X.xe) (l : EnvLe ds (eL s0)) (ht : ∃ tt, PT X t tt ∧ ∀ s S0 H0 σ S H Q, EnvOk X.K S0 H0 (eL s) σ S H → PB X.K S H (test s) Q W → tt σ H Q)
    (hb : ∀ s, DS X W false (eL s) body cb eL eL (fun s => (.nxt s : Out β σ' σ')) (step s)) (hr : ∀ s, DS X W T (eL s) rest cb eN eK I (k s)) :
    DS X W T ds (.While t body [] pos :: rest) cb eN eK I (whileR n test step s0 >>= k) := fun S0 H0 σ S H D nx h E P => by
  obtain ⟨tt, pt, qt⟩ := ht
  refine seq (ps_while hp pt pss_tS) ⟨fun m σ H => ∃ s S, EnvOk X.K S0 H0 (eL s) σ S H ∧ (whileR m test step s >>= k).post (fun w => OutP X.K S0 H0 cb eN eK D (I w)) (EX X.K W S0 H0), ⟨n, s0, S, E.le l, P⟩, ?_⟩
  rintro m σ2 H2 ⟨s, S2, E2, C⟩
  cases m with
  | zero => exact False.elim C
  | succ m =>
    have C' : (test s >>= fun z => (if z = true then step s >>= fun s' => whileR m test step s' else .ok s) >>= k).post (fun w => OutP X.K S0 H0 cb eN eK D (I w)) (EX X.K W S0 H0) := by rw [← R.bind_assoc]; exact C
    refine qt s S0 H0 σ2 S2 H2 _ E2 (stT E2 C' fun z S3 H3 E3 C3 => ?_)
    cases z with
    | true =>
      have C4 : (step s >>= fun s' => whileR m test step s' >>= k).post (fun w => OutP X.K S0 H0 cb eN eK D (I w)) (EX X.K W S0 H0) := by rw [← R.bind_assoc]; exact C3
      rw [if_pos rfl]
      refine ⟨fun σ H => ∃ s S, EnvOk X.K S0 H0 (eL s) σ S H ∧ (whileR m test step s >>= k).post (fun w => OutP X.K S0 H0 cb eN eK D (I w)) (EX X.K W S0 H0), fun σ' H' q => ⟨m, Nat.lt_succ_self m, q⟩, ?_⟩
      exact hb s S0 H0 σ2 S3 H3 { D with nx := _, ct := _, bk := tS X rest { D with nx := nx } } _ (.inr rfl) E3 (R.post_mono (R.post_bind.mp C4) (fun s' q' σ4 S4 H4 E4 => ⟨s', S4, E4, q'⟩) (fun _ q' => q'))
    | false =>
      rw [if_neg Bool.false_ne_true]
      exact hr s S0 H0 σ2 S3 H3 D nx h E3 C3
end
/-! ### defs -/
section
variable {P : Program} {w : World} {K : PySem.W.Frag} {mg : Str → Option Value} {base : Heap} {τ γ ν κ : Type}
theorem fn_mk {x qual : Str} {prs : Arguments} {body : List Stmt} {scope : Scope} {dvs : List V} {kws : List (Str × V)} {f : Addr} {fd : FuncData} {N ps : List Str} {k : Nat} {ca : CA τ} {c : Cd γ} {F : τ → R γ} {eN : ν → Env} {eK : κ → Env}
    (D : FunD K x qual prs body scope dvs kws f fd) (S : FnScope N ps scope) (hn : ca.n = ps.length) (hl : ca.n ≤ N.length)
    (hb : ∀ (cdv : Value) (A : Around) (outer : List PySem.Env) (s : Shared) (H : Hp) (E : XK), Room k (A.deeper (envOfC qual scope s.heap.objs.size f cdv)) →
      Lets (cxOf (L2.CX P w) P w K mg base N qual scope f cdv A outer s H E) E → PassesOwn (model P w) (A.deeper (envOfC qual scope s.heap.objs.size f cdv)) (envOfC qual scope s.heap.objs.size f cdv) (cxOf (L2.CX P w) P w K mg base N qual scope f cdv A outer s H E).xe →
      ∀ z, DS (cxOf (L2.CX P w) P w K mg base N qual scope f cdv A outer s H E) E true (ca.env z ++ List.replicate (N.length - ca.n) .none) body c eN eK (fun b => (.ret b : Out γ ν κ)) (F z)) :
    FnOk P w K mg base (L2.CX P w) (k + 1) f fd ps (spF K ca c F) := by
  refine D.ok S (fun vs H Q E h => ?_) (fun cdv A outer s H vs Q E hr h => ?_)
  · obtain ⟨S, z, _, r, _⟩ := h
    rw [ca.len r, hn]
  · obtain ⟨S1, z, i, r, Px⟩ := h
    have tk : Takes (cxOf (L2.CX P w) P w K mg base N qual scope f cdv A outer s H E) (fun cl d _ H => E cl d H) := takes_of rfl rfl rfl rfl
    have e0 := EnvOk.start (N := N) (H := H) (ca.sl r) (by rw [ca.len r]; exact hl) i
    rw [ca.len r] at e0
    refine ⟨tS _ body, pss_tS, hb cdv A outer s H E hr (passes_call tk fun _ _ _ _ h => h) (passes_of rfl) z S1 H _ S1 H { nx := fun _ H' => Q .non H', rt := Q } (fun _ H' => Q .non H') (.inl rfl) e0 ?_⟩
    exact R.post_mono Px (fun b q v S' H' g r => q v S' H' g r) (fun x q cl d S' H' g r => q cl d S' H' g r)
/-- a def that hands back None at its end -/
theorem fn_mkN {x qual : Str} {prs : Arguments} {body : List Stmt} {scope : Scope} {dvs : List V} {kws : List (Str × V)} {f : Addr} {fd : FuncData} {N ps : List Str} {k : Nat} {ca : CA τ} {F : τ → R Unit} {eN : Unit → Env} {eK : κ → Env}
    (D : FunD K x qual prs body scope dvs kws f fd) (S : FnScope N ps scope) (hn : ca.n = ps.length) (hl : ca.n ≤ N.length)
    (hb : ∀ (cdv : Value) (A : Around) (outer : List PySem.Env) (s : Shared) (H : Hp) (E : XK), Room k (A.deeper (envOfC qual scope s.heap.objs.size f cdv)) →
      Lets (cxOf (L2.CX P w) P w K mg base N qual scope f cdv A outer s H E) E → PassesOwn (model P w) (A.deeper (envOfC qual scope s.heap.objs.size f cdv)) (envOfC qual scope s.heap.objs.size f cdv) (cxOf (L2.CX P w) P w K mg base N qual scope f cdv A outer s H E).xe →
      ∀ z, DS (cxOf (L2.CX P w) P w K mg base N qual scope f cdv A outer s H E) E false (ca.env z ++ List.replicate (N.length - ca.n) .none) body cN eN eK (fun b => (.nxt b : Out Unit Unit κ)) (F z)) :
    FnOk P w K mg base (L2.CX P w) (k + 1) f fd ps (spF K ca cN F) := by
  refine D.ok S (fun vs H Q E h => ?_) (fun cdv A outer s H vs Q E hr h => ?_)
  · obtain ⟨S, z, _, r, _⟩ := h
    rw [ca.len r, hn]
  · obtain ⟨S1, z, i, r, Px⟩ := h
    have tk : Takes (cxOf (L2.CX P w) P w K mg base N qual scope f cdv A outer s H E) (fun cl d _ H => E cl d H) := takes_of rfl rfl rfl rfl
    have e0 := EnvOk.start (N := N) (H := H) (ca.sl r) (by rw [ca.len r]; exact hl) i
    rw [ca.len r] at e0
    refine ⟨tS _ body, pss_tS, hb cdv A outer s H E hr (passes_call tk fun _ _ _ _ h => h) (passes_of rfl) z S1 H _ S1 H { nx := fun _ H' => Q .non H', rt := Q } (fun _ H' => Q .non H') (.inr rfl) e0 ?_⟩
    exact R.post_mono Px (fun b q σ' S' H' e => q .non S' H' e.grow rfl) (fun x q cl d S' H' g r => q cl d S' H' g r)
theorem fni {x : Str} {f : Addr} {fd : FuncData} {ps : List Str} {k : Nat} {ca : CA τ} {c : Cd γ} {F : τ → R γ} (h : FnOk P w K mg base (L2.CX P w) k f fd ps (spF K ca c F)) (hm : mg x = some (.ref f)) (hk : PySem.W.keepIn K (.ref f) = true) (hb : Binds K fd ps []) : FnI P w K mg base x k ps ca c F := ⟨⟨f, fd, h, hm, hk, hb⟩⟩
end
end Zk
set_option maxHeartbeats 4000000
/-! # Zk: lists of so many values, None or a value, isinstance, short words -/
namespace Zk
open PySem PySem.Spec PyProof.Rows L2
theorem leZ : EnvLe [] [] := trivial
theorem leN {a : SD} {as bs : Env} (h : EnvLe as bs) : EnvLe (a :: as) (.none :: bs) := ⟨.inl rfl, h⟩
theorem leS {a : SD} {as bs : Env} (h : EnvLe as bs) : EnvLe (a :: as) (a :: bs) := ⟨.inr rfl, h⟩
/-- a list of so many values -/
def cH {τ : Type} (r : CA τ) : Cd τ :=
  ⟨fun K H v a => ∃ p vs, v = .ref p ∧ SqL K H p vs ∧ r.rep K H vs a, fun e ⟨p, vs, h1, h2, h3⟩ => ⟨p, vs, h1, Same.seq e h2, r.mono e h3⟩⟩
@[reducible] instance {τ : Type} {r : CA τ} [DtA r] : Dt (cH r) where
  toD a := .list (DtA.toDs r a)
  depth := DtA.depth r + 1
  lay a := by simp only [PyData.canLay0]; exact DtA.lay a
  le a := by simp only [PyData.depth]; exact Nat.succ_le_succ (DtA.le a)
  eqv a b := by simp only [PyData.eqv]; exact DtA.eqv a b
  rep h := by
    obtain ⟨p, vs, e, h1, h2⟩ := h
    rw [e]
    exact .lst h1 (DtA.rep h2)
/-! ### not None -/
class NN {α : Type} (c : Cd α) : Prop where
  nn : ∀ {K : PySem.W.Frag} {H : Hp} {v : V} {a : α}, c.rep K H v a → v ≠ .non
namespace NN
variable {α τ : Type}
instance : NN cI := ⟨fun {K H v a} h => by
  have e : v = V.int a := h
  rw [e]; exact fun z => nomatch z⟩
instance : NN cB := ⟨fun {K H v a} h => by
  have e : v = V.bl a := h
  rw [e]; exact fun z => nomatch z⟩
instance : NN cS := ⟨fun {K H v a} h => by
  have e : v = V.str a := h
  rw [e]; exact fun z => nomatch z⟩
instance {c : Cd α} : NN (cL c) := ⟨fun ⟨p, vs, e, _⟩ => by rw [e]; exact fun z => nomatch z⟩
instance {c : Cd α} : NN (cT c) := ⟨fun ⟨p, vs, e, _⟩ => by rw [e]; exact fun z => nomatch z⟩
instance {c : Cd α} : NN (cLT c) := ⟨fun h => by
  rcases h with ⟨p, vs, e, _⟩ | ⟨p, vs, e, _⟩ <;> (rw [e]; exact fun z => nomatch z)⟩
instance {r : CA τ} : NN (cP r) := ⟨fun ⟨p, vs, e, _⟩ => by rw [e]; exact fun z => nomatch z⟩
instance {r : CA τ} : NN (cH r) := ⟨fun ⟨p, vs, e, _⟩ => by rw [e]; exact fun z => nomatch z⟩
end NN
section
variable {X : Cx} {W : XK} {ds : Env} {α β γ τ : Type} {a b : Expr} {e : Expr} {es : List Expr} {pos p : Pos} {c : Cd α} {c2 : Cd β} {m : R α} {x : α}
def unO (o : Option α) : R α := match o with
  | some z => .ok z
  | none => .stuck
theorem some_ (h : DE X W ds a c (.ok x)) [NN c] : DE X W ds a (cO c) (.ok (some x)) := coe (c2 := cO c) (f := some) (fun K H v a r => ⟨NN.nn r, r⟩) h
theorem some_m (h : DE X W ds a c m) [NN c] : DE X W ds a (cO c) (m >>= fun z => .ok (some z)) := coe (c2 := cO c) (f := some) (fun K H v a r => ⟨NN.nn r, r⟩) h
theorem none_ {j : Nat} : DE X W ds (.Constant .none j pos) (cO c) (.ok none) := coe (c := cN) (c2 := cO c) (f := fun _ => none) (fun K H v a r => r) (non (j := j))
theorem un_m {m : R (Option α)} (h : DE X W ds a (cO c) m) : DE X W ds a c (m >>= unO) := by
  obtain ⟨t, p, q⟩ := h
  refine ⟨t, p, fun S0 H0 σ S H Q E P => q S0 H0 σ S H Q E (P.bind fun o v S1 H1 g r P1 => ?_)⟩
  cases o with
  | none => exact False.elim P1
  | some z => exact P1.ok g.inn r.2
theorem un_p {o : Option α} (h : DE X W ds a (cO c) (.ok o)) : DE X W ds a c (unO o) := un_m h
theorem lt_L {xs : List α} (h : DE X W ds a (cL c) (.ok xs)) : DE X W ds a (cLT c) (.ok xs) := coe (c2 := cLT c) (f := fun z => z) (fun K H v a r => Or.inl r) h
theorem lt_T {xs : List α} (h : DE X W ds a (cT c) (.ok xs)) : DE X W ds a (cLT c) (.ok xs) := coe (c2 := cLT c) (f := fun z => z) (fun K H v a r => Or.inr r) h
theorem coe_id {m : R α} {c' : Cd α} (h : ∀ K H v a, c.rep K H v a → c'.rep K H v a) (ha : DE X W ds a c m) : DE X W ds a c' m := by
  have q := coe (f := fun z => z) h ha
  rw [show (m >>= fun z => R.ok z) = m from R.bind_ok m] at q
  exact q
theorem lt_Lm {m : R (List α)} (h : DE X W ds a (cL c) m) : DE X W ds a (cLT c) m := coe_id (c' := cLT c) (fun K H v a r => Or.inl r) h
theorem lt_Tm {m : R (List α)} (h : DE X W ds a (cT c) m) : DE X W ds a (cLT c) m := coe_id (c' := cLT c) (fun K H v a r => Or.inr r) h
/-! ### lists of so many values -/
theorem lstH {r : CA τ} {m : R τ} (ha : DA X W ds es r m) (hn : r.n ≤ 1000 := by exact Nat.le_of_ble_eq_true rfl) : DE X W ds (.List es pos) (cH r) m := by
  obtain ⟨t, p, q⟩ := ha
  refine ⟨_, pe_lst p, fun S0 H0 σ S H Q E P => q S0 H0 σ S H _ E ?_⟩
  refine R.post_mono P (fun z k vs S1 H1 g r1 => ⟨by rw [r.len r1]; exact Nat.le_trans hn (by decide), fun q hq => ?_⟩) (fun _ k => k)
  have g2 : Grow S1 H1 (upd S1 q (.lst vs)) (upd H1 q (.lst vs)) := .lay g.inn hq
  exact k _ _ _ (g.trans g2) ⟨q, vs, rfl, SqL.of upd_same, r.mono g2.st r1⟩
theorem tupP {r : CA τ} {m : R τ} {k : Nat} (ha : DA X W ds es r m) (hn : r.n ≤ 1000 := by exact Nat.le_of_ble_eq_true rfl) : DE X W ds (.Tuple es k pos) (cP r) m := tup (Nat.le_trans hn (by decide)) ha
theorem ixH {r : CA τ} {i : Int} {n : Nat} {c3 : Cd γ} {pr : τ → γ} {m : R τ} {j : Nat} {p2 : Pos} (h : AIx r i n c3 pr) (ha : DE X W ds a (cH r) m) (hp : PlainIx (.Constant (.int i) j p2) := by exact fun _ _ => rfl) : DE X W ds (.Subscript a (.Constant (.int i) j p2) pos) c3 (m >>= fun z => .ok (pr z)) := by
  obtain ⟨ta, pa, qa⟩ := ha
  refine ⟨_, pe_ix ix_list pa pe_int hp, fun S0 H0 σ S H Q E P => qa S0 H0 σ S H _ E (P.bind fun z v S1 H1 g r1 P1 => ?_)⟩
  obtain ⟨q, vs, e, h1, h2⟩ := r1
  obtain ⟨w, k1, k2⟩ := h _ _ _ _ h2
  exact ⟨q, vs, i, w, e, rfl, Same.seq g.inn h1, k1, P1.ok g.inn k2⟩

theorem ixh_0_1p {t0 : Type} {d0 : Cd t0} {z : t0} {j : Nat} {p2 : Pos} (ha : DE X W ds a (cH (aOne d0)) (.ok z)) (hp : PlainIx (.Constant (.int 0) j p2) := by exact fun _ _ => rfl) : DE X W ds (.Subscript a (.Constant (.int 0) j p2) pos) d0 (.ok (z)) := ixH aix_0_1 ha hp
theorem ixh_0_1m {t0 : Type} {d0 : Cd t0} {m : R (t0)} {j : Nat} {p2 : Pos} (ha : DE X W ds a (cH (aOne d0)) m) (hp : PlainIx (.Constant (.int 0) j p2) := by exact fun _ _ => rfl) : DE X W ds (.Subscript a (.Constant (.int 0) j p2) pos) d0 (m >>= fun z => .ok (z)) := ixH aix_0_1 ha hp
theorem ixh_0_2p {t0 : Type} {t1 : Type} {d0 : Cd t0} {d1 : Cd t1} {z : t0 × t1} {j : Nat} {p2 : Pos} (ha : DE X W ds a (cH (aCons d0 (aOne d1))) (.ok z)) (hp : PlainIx (.Constant (.int 0) j p2) := by exact fun _ _ => rfl) : DE X W ds (.Subscript a (.Constant (.int 0) j p2) pos) d0 (.ok (z.1)) := ixH aix_0_2 ha hp
theorem ixh_0_2m {t0 : Type} {t1 : Type} {d0 : Cd t0} {d1 : Cd t1} {m : R (t0 × t1)} {j : Nat} {p2 : Pos} (ha : DE X W ds a (cH (aCons d0 (aOne d1))) m) (hp : PlainIx (.Constant (.int 0) j p2) := by exact fun _ _ => rfl) : DE X W ds (.Subscript a (.Constant (.int 0) j p2) pos) d0 (m >>= fun z => .ok (z.1)) := ixH aix_0_2 ha hp
theorem ixh_1_2p {t0 : Type} {t1 : Type} {d0 : Cd t0} {d1 : Cd t1} {z : t0 × t1} {j : Nat} {p2 : Pos} (ha : DE X W ds a (cH (aCons d0 (aOne d1))) (.ok z)) (hp : PlainIx (.Constant (.int 1) j p2) := by exact fun _ _ => rfl) : DE X W ds (.Subscript a (.Constant (.int 1) j p2) pos) d1 (.ok (z.2)) := ixH aix_1_2 ha hp
theorem ixh_1_2m {t0 : Type} {t1 : Type} {d0 : Cd t0} {d1 : Cd t1} {m : R (t0 × t1)} {j : Nat} {p2 : Pos} (ha : DE X W ds a (cH (aCons d0 (aOne d1))) m) (hp : PlainIx (.Constant (.int 1) j p2) := by exact fun _ _ => rfl) : DE X W ds (.Subscript a (.Constant (.int 1) j p2) pos) d1 (m >>= fun z => .ok (z.2)) := ixH aix_1_2 ha hp
theorem ixh_0_3p {t0 : Type} {t1 : Type} {t2 : Type} {d0 : Cd t0} {d1 : Cd t1} {d2 : Cd t2} {z : t0 × t1 × t2} {j : Nat} {p2 : Pos} (ha : DE X W ds a (cH (aCons d0 (aCons d1 (aOne d2)))) (.ok z)) (hp : PlainIx (.Constant (.int 0) j p2) := by exact fun _ _ => rfl) : DE X W ds (.Subscript a (.Constant (.int 0) j p2) pos) d0 (.ok (z.1)) := ixH aix_0_3 ha hp
theorem ixh_0_3m {t0 : Type} {t1 : Type} {t2 : Type} {d0 : Cd t0} {d1 : Cd t1} {d2 : Cd t2} {m : R (t0 × t1 × t2)} {j : Nat} {p2 : Pos} (ha : DE X W ds a (cH (aCons d0 (aCons d1 (aOne d2)))) m) (hp : PlainIx (.Constant (.int 0) j p2) := by exact fun _ _ => rfl) : DE X W ds (.Subscript a (.Constant (.int 0) j p2) pos) d0 (m >>= fun z => .ok (z.1)) := ixH aix_0_3 ha hp
theorem ixh_1_3p {t0 : Type} {t1 : Type} {t2 : Type} {d0 : Cd t0} {d1 : Cd t1} {d2 : Cd t2} {z : t0 × t1 × t2} {j : Nat} {p2 : Pos} (ha : DE X W ds a (cH (aCons d0 (aCons d1 (aOne d2)))) (.ok z)) (hp : PlainIx (.Constant (.int 1) j p2) := by exact fun _ _ => rfl) : DE X W ds (.Subscript a (.Constant (.int 1) j p2) pos) d1 (.ok (z.2.1)) := ixH aix_1_3 ha hp
theorem ixh_1_3m {t0 : Type} {t1 : Type} {t2 : Type} {d0 : Cd t0} {d1 : Cd t1} {d2 : Cd t2} {m : R (t0 × t1 × t2)} {j : Nat} {p2 : Pos} (ha : DE X W ds a (cH (aCons d0 (aCons d1 (aOne d2)))) m) (hp : PlainIx (.Constant (.int 1) j p2) := by exact fun _ _ => rfl) : DE X W ds (.Subscript a (.Constant (.int 1) j p2) pos) d1 (m >>= fun z => .ok (z.2.1)) := ixH aix_1_3 ha hp
theorem ixh_2_3p {t0 : Type} {t1 : Type} {t2 : Type} {d0 : Cd t0} {d1 : Cd t1} {d2 : Cd t2} {z : t0 × t1 × t2} {j : Nat} {p2 : Pos} (ha : DE X W ds a (cH (aCons d0 (aCons d1 (aOne d2)))) (.ok z)) (hp : PlainIx (.Constant (.int 2) j p2) := by exact fun _ _ => rfl) : DE X W ds (.Subscript a (.Constant (.int 2) j p2) pos) d2 (.ok (z.2.2)) := ixH aix_2_3 ha hp
theorem ixh_2_3m {t0 : Type} {t1 : Type} {t2 : Type} {d0 : Cd t0} {d1 : Cd t1} {d2 : Cd t2} {m : R (t0 × t1 × t2)} {j : Nat} {p2 : Pos} (ha : DE X W ds a (cH (aCons d0 (aCons d1 (aOne d2)))) m) (hp : PlainIx (.Constant (.int 2) j p2) := by exact fun _ _ => rfl) : DE X W ds (.Subscript a (.Constant (.int 2) j p2) pos) d2 (m >>= fun z => .ok (z.2.2)) := ixH aix_2_3 ha hp
theorem ixh_0_4p {t0 : Type} {t1 : Type} {t2 : Type} {t3 : Type} {d0 : Cd t0} {d1 : Cd t1} {d2 : Cd t2} {d3 : Cd t3} {z : t0 × t1 × t2 × t3} {j : Nat} {p2 : Pos} (ha : DE X W ds a (cH (aCons d0 (aCons d1 (aCons d2 (aOne d3))))) (.ok z)) (hp : PlainIx (.Constant (.int 0) j p2) := by exact fun _ _ => rfl) : DE X W ds (.Subscript a (.Constant (.int 0) j p2) pos) d0 (.ok (z.1)) := ixH aix_0_4 ha hp
theorem ixh_0_4m {t0 : Type} {t1 : Type} {t2 : Type} {t3 : Type} {d0 : Cd t0} {d1 : Cd t1} {d2 : Cd t2} {d3 : Cd t3} {m : R (t0 × t1 × t2 × t3)} {j : Nat} {p2 : Pos} (ha : DE X W ds a (cH (aCons d0 (aCons d1 (aCons d2 (aOne d3))))) m) (hp : PlainIx (.Constant (.int 0) j p2) := by exact fun _ _ => rfl) : DE X W ds (.Subscript a (.Constant (.int 0) j p2) pos) d0 (m >>= fun z => .ok (z.1)) := ixH aix_0_4 ha hp
theorem ixh_1_4p {t0 : Type} {t1 : Type} {t2 : Type} {t3 : Type} {d0 : Cd t0} {d1 : Cd t1} {d2 : Cd t2} {d3 : Cd t3} {z : t0 × t1 × t2 × t3} {j : Nat} {p2 : Pos} (ha : DE X W ds a (cH (aCons d0 (aCons d1 (aCons d2 (aOne d3))))) (.ok z)) (hp : PlainIx (.Constant (.int 1) j p2) := by exact fun _ _ => rfl) : DE X W ds (.Subscript a (.Constant (.int 1) j p2) pos) d1 (.ok (z.2.1)) := ixH aix_1_4 ha hp
theorem ixh_1_4m {t0 : Type} {t1 : Type} {t2 : Type} {t3 : Type} {d0 : Cd t0} {d1 : Cd t1} {d2 : Cd t2} {d3 : Cd t3} {m : R (t0 × t1 × t2 × t3)} {j : Nat} {p2 : Pos} (ha : DE X W ds a (cH (aCons d0 (aCons d1 (aCons d2 (aOne d3))))) m) (hp : PlainIx (.Constant (.int 1) j p2) := by exact fun _ _ => rfl) : DE X W ds (.Subscript a (.Constant (.int 1) j p2) pos) d1 (m >>= fun z => .ok (z.2.1)) := ixH aix_1_4 ha hp
theorem ixh_2_4p {t0 : Type} {t1 : Type} {t2 : Type} {t3 : Type} {d0 : Cd t0} {d1 : Cd t1} {d2 : Cd t2} {d3 : Cd t3} {z : t0 × t1 × t2 × t3} {j : Nat} {p2 : Pos} (ha : DE X W ds a (cH (aCons d0 (aCons d1 (aCons d2 (aOne d3))))) (.ok z)) (hp : PlainIx (.Constant (.int 2) j p2) := by exact fun _ _ => rfl) : DE X W ds (.Subscript a (.Constant (.int 2) j p2) pos) d2 (.ok (z.2.2.1)) := ixH aix_2_4 ha hp
theorem ixh_2_4m {t0 : Type} {t1 : Type} {t2 : Type} {t3 : Type} {d0 : Cd t0} {d1 : Cd t1} {d2 : Cd t2} {d3 : Cd t3} {m : R (t0 × t1 × t2 × t3)} {j : Nat} {p2 : Pos} (ha : DE X W ds a (cH (aCons d0 (aCons d1 (aCons d2 (aOne d3))))) m) (hp : PlainIx (.Constant (.int 2) j p2) := by exact fun _ _ => rfl) : DE X W ds (.Subscript a (.Constant (.int 2) j p2) pos) d2 (m >>= fun z => .ok (z.2.2.1)) := ixH aix_2_4 ha hp
theorem ixh_3_4p {t0 : Type} {t1 : Type} {t2 : Type} {t3 : Type} {d0 : Cd t0} {d1 : Cd t1} {d2 : Cd t2} {d3 : Cd t3} {z : t0 × t1 × t2 × t3} {j : Nat} {p2 : Pos} (ha : DE X W ds a (cH (aCons d0 (aCons d1 (aCons d2 (aOne d3))))) (.ok z)) (hp : PlainIx (.Constant (.int 3) j p2) := by exact fun _ _ => rfl) : DE X W ds (.Subscript a (.Constant (.int 3) j p2) pos) d3 (.ok (z.2.2.2)) := ixH aix_3_4 ha hp
theorem ixh_3_4m {t0 : Type} {t1 : Type} {t2 : Type} {t3 : Type} {d0 : Cd t0} {d1 : Cd t1} {d2 : Cd t2} {d3 : Cd t3} {m : R (t0 × t1 × t2 × t3)} {j : Nat} {p2 : Pos} (ha : DE X W ds a (cH (aCons d0 (aCons d1 (aCons d2 (aOne d3))))) m) (hp : PlainIx (.Constant (.int 3) j p2) := by exact fun _ _ => rfl) : DE X W ds (.Subscript a (.Constant (.int 3) j p2) pos) d3 (m >>= fun z => .ok (z.2.2.2)) := ixH aix_3_4 ha hp
theorem ixh_0_5p {t0 : Type} {t1 : Type} {t2 : Type} {t3 : Type} {t4 : Type} {d0 : Cd t0} {d1 : Cd t1} {d2 : Cd t2} {d3 : Cd t3} {d4 : Cd t4} {z : t0 × t1 × t2 × t3 × t4} {j : Nat} {p2 : Pos} (ha : DE X W ds a (cH (aCons d0 (aCons d1 (aCons d2 (aCons d3 (aOne d4)))))) (.ok z)) (hp : PlainIx (.Constant (.int 0) j p2) := by exact fun _ _ => rfl) : DE X W ds (.Subscript a (.Constant (.int 0) j p2) pos) d0 (.ok (z.1)) := ixH aix_0_5 ha hp
theorem ixh_0_5m {t0 : Type} {t1 : Type} {t2 : Type} {t3 : Type} {t4 : Type} {d0 : Cd t0} {d1 : Cd t1} {d2 : Cd t2} {d3 : Cd t3} {d4 : Cd t4} {m : R (t0 × t1 × t2 × t3 × t4)} {j : Nat} {p2 : Pos} (ha : DE X W ds a (cH (aCons d0 (aCons d1 (aCons d2 (aCons d3 (aOne d4)))))) m) (hp : PlainIx (.Constant (.int 0) j p2) := by exact fun _ _ => rfl) : DE X W ds (.Subscript a (.Constant (.int 0) j p2) pos) d0 (m >>= fun z => .ok (z.1)) := ixH aix_0_5 ha hp
theorem ixh_1_5p {t0 : Type} {t1 : Type} {t2 : Type} {t3 : Type} {t4 : Type} {d0 : Cd t0} {d1 : Cd t1} {d2 : Cd t2} {d3 : Cd t3} {d4 : Cd t4} {z : t0 × t1 × t2 × t3 × t4} {j : Nat} {p2 : Pos} (ha : DE X W ds a (cH (aCons d0 (aCons d1 (aCons d2 (aCons d3 (aOne d4)))))) (.ok z)) (hp : PlainIx (.Constant (.int 1) j p2) := by exact fun _ _ => rfl) : DE X W ds (.Subscript a (.Constant (.int 1) j p2) pos) d1 (.ok (z.2.1)) := ixH aix_1_5 ha hp
theorem ixh_1_5m {t0 : Type} {t1 : Type} {t2 : Type} {t3 : Type} {t4 : Type} {d0 : Cd t0} {d1 : Cd t1} {d2 : Cd t2} {d3 : Cd t3} {d4 : Cd t4} {m : R (t0 × t1 × t2 × t3 × t4)} {j : Nat} {p2 : Pos} (ha : DE X W ds a (cH (aCons d0 (aCons d1 (aCons d2 (aCons d3 (aOne d4)))))) m) (hp : PlainIx (.Constant (.int 1) j p2) := by exact fun _ _ => rfl) : DE X W ds (.Subscript a (.Constant (.int 1) j p2) pos) d1 (m >>= fun z => .ok (z.2.1)) := ixH aix_1_5 ha hp
theorem ixh_2_5p {t0 : Type} {t1 : Type} {t2 : Type} {t3 : Type} {t4 : Type} {d0 : Cd t0} {d1 : Cd t1} {d2 : Cd t2} {d3 : Cd t3} {d4 : Cd t4} {z : t0 × t1 × t2 × t3 × t4} {j : Nat} {p2 : Pos} (ha : DE X W ds a (cH (aCons d0 (aCons d1 (aCons d2 (aCons d3 (aOne d4)))))) (.ok z)) (hp : PlainIx (.Constant (.int 2) j p2) := by exact fun _ _ => rfl) : DE X W ds (.Subscript a (.Constant (.int 2) j p2) pos) d2 (.ok (z.2.2.1)) := ixH aix_2_5 ha hp
theorem ixh_2_5m {t0 : Type} {t1 : Type} {t2 : Type} {t3 : Type} {t4 : Type} {d0 : Cd t0} {d1 : Cd t1} {d2 : Cd t2} {d3 : Cd t3} {d4 : Cd t4} {m : R (t0 × t1 × t2 × t3 × t4)} {j : Nat} {p2 : Pos} (ha : DE X W ds a (cH (aCons d0 (aCons d1 (aCons d2 (aCons d3 (aOne d4)))))) m) (hp : PlainIx (.Constant (.int 2) j p2) := by exact fun _ _ => rfl) : DE X W ds (.Subscript a (.Constant (.int 2) j p2) pos) d2 (m >>= fun z => .ok (z.2.2.1)) := ixH aix_2_5 ha hp
theorem ixh_3_5p {t0 : Type} {t1 : Type} {t2 : Type} {t3 : Type} {t4 : Type} {d0 : Cd t0} {d1 : Cd t1} {d2 : Cd t2} {d3 : Cd t3} {d4 : Cd t4} {z : t0 × t1 × t2 × t3 × t4} {j : Nat} {p2 : Pos} (ha : DE X W ds a (cH (aCons d0 (aCons d1 (aCons d2 (aCons d3 (aOne d4)))))) (.ok z)) (hp : PlainIx (.Constant (.int 3) j p2) := by exact fun _ _ => rfl) : DE X W ds (.Subscript a (.Constant (.int 3) j p2) pos) d3 (.ok (z.2.2.2.1)) := ixH aix_3_5 ha hp
theorem ixh_3_5m {t0 : Type} {t1 : Type} {t2 : Type} {t3 : Type} {t4 : Type} {d0 : Cd t0} {d1 : Cd t1} {d2 : Cd t2} {d3 : Cd t3} {d4 : Cd t4} {m : R (t0 × t1 × t2 × t3 × t4)} {j : Nat} {p2 : Pos} (ha : DE X W ds a (cH (aCons d0 (aCons d1 (aCons d2 (aCons d3 (aOne d4)))))) m) (hp : PlainIx (.Constant (.int 3) j p2) := by exact fun _ _ => rfl) : DE X W ds (.Subscript a (.Constant (.int 3) j p2) pos) d3 (m >>= fun z => .ok (z.2.2.2.1)) := ixH aix_3_5 ha hp
theorem ixh_4_5p {t0 : Type} {t1 : Type} {t2 : Type} {t3 : Type} {t4 : Type} {d0 : Cd t0} {d1 : Cd t1} {d2 : Cd t2} {d3 : Cd t3} {d4 : Cd t4} {z : t0 × t1 × t2 × t3 × t4} {j : Nat} {p2 : Pos} (ha : DE X W ds a (cH (aCons d0 (aCons d1 (aCons d2 (aCons d3 (aOne d4)))))) (.ok z)) (hp : PlainIx (.Constant (.int 4) j p2) := by exact fun _ _ => rfl) : DE X W ds (.Subscript a (.Constant (.int 4) j p2) pos) d4 (.ok (z.2.2.2.2)) := ixH aix_4_5 ha hp
theorem ixh_4_5m {t0 : Type} {t1 : Type} {t2 : Type} {t3 : Type} {t4 : Type} {d0 : Cd t0} {d1 : Cd t1} {d2 : Cd t2} {d3 : Cd t3} {d4 : Cd t4} {m : R (t0 × t1 × t2 × t3 × t4)} {j : Nat} {p2 : Pos} (ha : DE X W ds a (cH (aCons d0 (aCons d1 (aCons d2 (aCons d3 (aOne d4)))))) m) (hp : PlainIx (.Constant (.int 4) j p2) := by exact fun _ _ => rfl) : DE X W ds (.Subscript a (.Constant (.int 4) j p2) pos) d4 (m >>= fun z => .ok (z.2.2.2.2)) := ixH aix_4_5 ha hp
theorem ixh_0_6p {t0 : Type} {t1 : Type} {t2 : Type} {t3 : Type} {t4 : Type} {t5 : Type} {d0 : Cd t0} {d1 : Cd t1} {d2 : Cd t2} {d3 : Cd t3} {d4 : Cd t4} {d5 : Cd t5} {z : t0 × t1 × t2 × t3 × t4 × t5} {j : Nat} {p2 : Pos} (ha : DE X W ds a (cH (aCons d0 (aCons d1 (aCons d2 (aCons d3 (aCons d4 (aOne d5))))))) (.ok z)) (hp : PlainIx (.Constant (.int 0) j p2) := by exact fun _ _ => rfl) : DE X W ds (.Subscript a (.Constant (.int 0) j p2) pos) d0 (.ok (z.1)) := ixH aix_0_6 ha hp
theorem ixh_0_6m {t0 : Type} {t1 : Type} {t2 : Type} {t3 : Type} {t4 : Type} {t5 : Type} {d0 : Cd t0} {d1 : Cd t1} {d2 : Cd t2} {d3 : Cd t3} {d4 : Cd t4} {d5 : Cd t5} {m : R (t0 × t1 × t2 × t3 × t4 × t5)} {j : Nat} {p2 : Pos} (ha : DE X W ds a (cH (aCons d0 (aCons d1 (aCons d2 (aCons d3 (aCons d4 (aOne d5))))))) m) (hp : PlainIx (.Constant (.int 0) j p2) := by exact fun _ _ => rfl) : DE X W ds (.Subscript a (.Constant (.int 0) j p2) pos) d0 (m >>= fun z => .ok (z.1)) := ixH aix_0_6 ha hp
theorem ixh_1_6p {t0 : Type} {t1 : Type} {t2 : Type} {t3 : Type} {t4 : Type} {t5 : Type} {d0 : Cd t0} {d1 : Cd t1} {d2 : Cd t2} {d3 : Cd t3} {d4 : Cd t4} {d5 : Cd t5} {z : t0 × t1 × t2 × t3 × t4 × t5} {j : Nat} {p2 : Pos} (ha : DE X W ds a (cH (aCons d0 (aCons d1 (aCons d2 (aCons d3 (aCons d4 (aOne d5))))))) (.ok z)) (hp : PlainIx (.Constant (.int 1) j p2) := by exact fun _ _ => rfl) : DE X W ds (.Subscript a (.Constant (.int 1) j p2) pos) d1 (.ok (z.2.1)) := ixH aix_1_6 ha hp
theorem ixh_1_6m {t0 : Type} {t1 : Type} {t2 : Type} {t3 : Type} {t4 : Type} {t5 : Type} {d0 : Cd t0} {d1 : Cd t1} {d2 : Cd t2} {d3 : Cd t3} {d4 : Cd t4} {d5 : Cd t5} {m : R (t0 × t1 × t2 × t3 × t4 × t5)} {j : Nat} {p2 : Pos} (ha : DE X W ds a (cH (aCons d0 (aCons d1 (aCons d2 (aCons d3 (aCons d4 (aOne d5))))))) m) (hp : PlainIx (.Constant (.int 1) j p2) := by exact fun _ _ => rfl) : DE X W ds (.Subscript a (.Constant (.int 1) j p2) pos) d1 (m >>= fun z => .ok (z.2.1)) := ixH aix_1_6 ha hp
theorem ixh_2_6p {t0 : Type} {t1 : Type} {t2 : Type} {t3 : Type} {t4 : Type} {t5 : Type} {d0 : Cd t0} {d1 : Cd t1} {d2 : Cd t2} {d3 : Cd t3} {d4 : Cd t4} {d5 : Cd t5} {z : t0 × t1 × t2 × t3 × t4 × t5} {j : Nat} {p2 : Pos} (ha : DE X W ds a (cH (aCons d0 (aCons d1 (aCons d2 (aCons d3 (aCons d4 (aOne d5))))))) (.ok z)) (hp : PlainIx (.Constant (.int 2) j p2) := by exact fun _ _ => rfl) : DE X W ds (.Subscript a (.Constant (.int 2) j p2) pos) d2 (.ok (z.2.2.1)) := ixH aix_2_6 ha hp
theorem ixh_2_6m {t0 : Type} {t1 : Type} {t2 : Type} {t3 : Type} {t4 : Type} {t5 : Type} {d0 : Cd t0} {d1 : Cd t1} {d2 : Cd t2} {d3 : Cd t3} {d4 : Cd t4} {d5 : Cd t5} {m : R (t0 × t1 × t2 × t3 × t4 × t5)} {j : Nat} {p2 : Pos} (ha : DE X W ds a (cH (aCons d0 (aCons d1 (aCons d2 (aCons d3 (aCons d4 (aOne d5))))))) m) (hp : PlainIx (.Constant (.int 2) j p2) := by exact fun _ _ => rfl) : DE X W ds (.Subscript a (.Constant (.int 2) j p2) pos) d2 (m >>= fun z => .ok (z.2.2.1)) := ixH aix_2_6 ha hp
theorem ixh_3_6p {t0 : Type} {t1 : Type} {t2 : Type} {t3 : Type} {t4 : Type} {t5 : Type} {d0 : Cd t0} {d1 : Cd t1} {d2 : Cd t2} {d3 : Cd t3} {d4 : Cd t4} {d5 : Cd t5} {z : t0 × t1 × t2 × t3 × t4 × t5} {j : Nat} {p2 : Pos} (ha : DE X W ds a (cH (aCons d0 (aCons d1 (aCons d2 (aCons d3 (aCons d4 (aOne d5))))))) (.ok z)) (hp : PlainIx (.Constant (.int 3) j p2) := by exact fun _ _ => rfl) : DE X W ds (.Subscript a (.Constant (.int 3) j p2) pos) d3 (.ok (z.2.2.2.1)) := ixH aix_3_6 ha hp
theorem ixh_3_6m {t0 : Type} {t1 : Type} {t2 : Type} {t3 : Type} {t4 : Type} {t5 : Type} {d0 : Cd t0} {d1 : Cd t1} {d2 : Cd t2} {d3 : Cd t3} {d4 : Cd t4} {d5 : Cd t5} {m : R (t0 × t1 × t2 × t3 × t4 × t5)} {j : Nat} {p2 : Pos} (ha : DE X W ds a (cH (aCons d0 (aCons d1 (aCons d2 (aCons d3 (aCons d4 (aOne d5))))))) m) (hp : PlainIx (.Constant (.int 3) j p2) := by exact fun _ _ => rfl) : DE X W ds (.Subscript a (.Constant (.int 3) j p2) pos) d3 (m >>= fun z => .ok (z.2.2.2.1)) := ixH aix_3_6 ha hp
theorem ixh_4_6p {t0 : Type} {t1 : Type} {t2 : Type} {t3 : Type} {t4 : Type} {t5 : Type} {d0 : Cd t0} {d1 : Cd t1} {d2 : Cd t2} {d3 : Cd t3} {d4 : Cd t4} {d5 : Cd t5} {z : t0 × t1 × t2 × t3 × t4 × t5} {j : Nat} {p2 : Pos} (ha : DE X W ds a (cH (aCons d0 (aCons d1 (aCons d2 (aCons d3 (aCons d4 (aOne d5))))))) (.ok z)) (hp : PlainIx (.Constant (.int 4) j p2) := by exact fun _ _ => rfl) : DE X W ds (.Subscript a (.Constant (.int 4) j p2) pos) d4 (.ok (z.2.2.2.2.1)) := ixH aix_4_6 ha hp
theorem ixh_4_6m {t0 : Type} {t1 : Type} {t2 : Type} {t3 : Type} {t4 : Type} {t5 : Type} {d0 : Cd t0} {d1 : Cd t1} {d2 : Cd t2} {d3 : Cd t3} {d4 : Cd t4} {d5 : Cd t5} {m : R (t0 × t1 × t2 × t3 × t4 × t5)} {j : Nat} {p2 : Pos} (ha : DE X W ds a (cH (aCons d0 (aCons d1 (aCons d2 (aCons d3 (aCons d4 (aOne d5))))))) m) (hp : PlainIx (.Constant (.int 4) j p2) := by exact fun _ _ => rfl) : DE X W ds (.Subscript a (.Constant (.int 4) j p2) pos) d4 (m >>= fun z => .ok (z.2.2.2.2.1)) := ixH aix_4_6 ha hp
theorem ixh_5_6p {t0 : Type} {t1 : Type} {t2 : Type} {t3 : Type} {t4 : Type} {t5 : Type} {d0 : Cd t0} {d1 : Cd t1} {d2 : Cd t2} {d3 : Cd t3} {d4 : Cd t4} {d5 : Cd t5} {z : t0 × t1 × t2 × t3 × t4 × t5} {j : Nat} {p2 : Pos} (ha : DE X W ds a (cH (aCons d0 (aCons d1 (aCons d2 (aCons d3 (aCons d4 (aOne d5))))))) (.ok z)) (hp : PlainIx (.Constant (.int 5) j p2) := by exact fun _ _ => rfl) : DE X W ds (.Subscript a (.Constant (.int 5) j p2) pos) d5 (.ok (z.2.2.2.2.2)) := ixH aix_5_6 ha hp
theorem ixh_5_6m {t0 : Type} {t1 : Type} {t2 : Type} {t3 : Type} {t4 : Type} {t5 : Type} {d0 : Cd t0} {d1 : Cd t1} {d2 : Cd t2} {d3 : Cd t3} {d4 : Cd t4} {d5 : Cd t5} {m : R (t0 × t1 × t2 × t3 × t4 × t5)} {j : Nat} {p2 : Pos} (ha : DE X W ds a (cH (aCons d0 (aCons d1 (aCons d2 (aCons d3 (aCons d4 (aOne d5))))))) m) (hp : PlainIx (.Constant (.int 5) j p2) := by exact fun _ _ => rfl) : DE X W ds (.Subscript a (.Constant (.int 5) j p2) pos) d5 (m >>= fun z => .ok (z.2.2.2.2.2)) := ixH aix_5_6 ha hp
/-! ### isinstance against a built-in type, where the kind is known -/
class Ty {α : Type} (c : Cd α) (n : outParam String) : Prop where
  ty : ∀ {K : PySem.W.Frag} {H : Hp} {v : V} {a : α}, c.rep K H v a → TyX K H v (.type n)
theorem tyx_L {K : PySem.W.Frag} {H : Hp} {p : Addr} {vs : List V} (h : SqL K H p vs) : TyX K H (.ref p) (.type "list") := by
  rcases h with (h | ⟨o, h⟩) | ⟨o, its, n, h1, h2, _⟩
  · exact .base (.lst h)
  · exact .base (.frz h)
  · exact .kList h1 h2
theorem tyx_T {K : PySem.W.Frag} {H : Hp} {p : Addr} {vs : List V} (h : SqT K H p vs) : TyX K H (.ref p) (.type "tuple") := by
  rcases h with (h | ⟨o, h⟩) | ⟨o, its, n, h1, h2, _⟩
  · exact .base (.tup h)
  · exact .fTuple h
  · exact .kTuple h1 h2
instance : Ty cI "int" := ⟨fun {K H v a} h => by
  have e : v = V.int a := h
  rw [e]; exact .base (.int a)⟩
instance : Ty cB "bool" := ⟨fun {K H v a} h => by
  have e : v = V.bl a := h
  rw [e]; exact .base (.bl a)⟩
instance : Ty cS "str" := ⟨fun {K H v a} h => by
  have e : v = V.str a := h
  rw [e]; exact .base (.str a)⟩
instance : Ty cN "NoneType" := ⟨fun {K H v a} h => by
  have e : v = V.non := h
  rw [e]; exact .base .non⟩
instance {c : Cd α} : Ty (cL c) "list" := ⟨fun ⟨p, vs, e, h, _⟩ => by rw [e]; exact tyx_L h⟩
instance {c : Cd α} : Ty (cT c) "tuple" := ⟨fun ⟨p, vs, e, h, _⟩ => by rw [e]; exact tyx_T h⟩
instance {r : CA τ} : Ty (cP r) "tuple" := ⟨fun ⟨p, vs, e, h, _⟩ => by rw [e]; exact tyx_T h⟩
instance {r : CA τ} : Ty (cH r) "list" := ⟨fun ⟨p, vs, e, h, _⟩ => by rw [e]; exact tyx_L h⟩
theorem ty_mono {K : PySem.W.Frag} {H H' : Hp} {v : V} {t : Value} (s : Same H H') (h : TyX K H v t) : TyX K H' v t := by
  cases h with
  | base b =>
    cases b with
    | non => exact .base .non
    | bl x => exact .base (.bl x)
    | int i => exact .base (.int i)
    | str x => exact .base (.str x)
    | flt x => exact .base (.flt x)
    | lst e => exact .base (.lst (s _ _ e))
    | frz e => exact .base (.frz (s _ _ e))
    | tup e => exact .base (.tup (s _ _ e))
    | dK e => exact .base (.dK (s _ _ e))
    | dT e => exact .base (.dT (s _ _ e))
    | ins e cl ha hn htk hm => exact .base (.ins (s _ _ e) cl ha hn htk hm)
  | byt b => exact .byt b
  | set e => exact .set (s _ _ e)
  | kList e c => exact .kList e c
  | kTuple e c => exact .kTuple e c
  | kDict e c => exact .kDict e c
  | fTuple e => exact .fTuple (s _ _ e)
  | fDict e => exact .fDict (s _ _ e)
/-- isinstance(e, T) -/
theorem isi {n T : String} {nm : Str} {k : Bool} {m : R α} {p2 : Pos} (hk : kitB n T = some k) (hv : bootBuiltins nm = some (.type T)) (hm : X.mg "isinstance" = none) (hm2 : X.mg nm = none) (ha : DE X W ds e c m) [Ty c n] (hg : Gl X "isinstance" := by rfl) (hg2 : Gl X nm := by rfl) (hn : nm ≠ "__name__" := by decide) (hd : (nm == ("__debug__" : Str)) = false := by decide)
    (hs : starEach (e :: [.Name nm p2]) X.env = (false, eval e X.env) :: starEach [.Name nm p2] X.env := by rfl) (hs2 : starEach (.Name nm p2 :: []) X.env = (false, eval (.Name nm p2) X.env) :: starEach [] X.env := by rfl) (hpl : (backTo pos (starEach [.Name nm p2] X.env)).any (·.1) = false := by rfl) :
    DE X W ds (.Call (.Name "isinstance" p) [e, .Name nm p2] [] pos) cB (m >>= fun _ => .ok k) := by
  obtain ⟨t, pe, q⟩ := ha
  refine ⟨_, pe_callB call_isi hg hm boot_isinstance (pa_cons pe (pa_cons (pe_bltn (v := .ty T) hg2 hm2 hv rfl hn hd) pa_nil hs2) hs) (by decide) (by decide) hs hpl, fun S0 H0 σ S H Q E P => q S0 H0 σ S H _ E (P.bind fun z v S1 H1 g r P1 => ?_)⟩
  exact ⟨v, .ty T, .type n, .type T, k, rfl, .ty T, ty_mono g.inn (Ty.ty r), kit_ty hk, P1.ok g.inn rfl⟩
theorem isi_p {n T : String} {nm : Str} {k : Bool} {p2 : Pos} (hk : kitB n T = some k) (hv : bootBuiltins nm = some (.type T)) (hm : X.mg "isinstance" = none) (hm2 : X.mg nm = none) (ha : DE X W ds e c (.ok x)) [Ty c n] (hg : Gl X "isinstance" := by rfl) (hg2 : Gl X nm := by rfl) (hn : nm ≠ "__name__" := by decide) (hd : (nm == ("__debug__" : Str)) = false := by decide)
    (hs : starEach (e :: [.Name nm p2]) X.env = (false, eval e X.env) :: starEach [.Name nm p2] X.env := by rfl) (hs2 : starEach (.Name nm p2 :: []) X.env = (false, eval (.Name nm p2) X.env) :: starEach [] X.env := by rfl) (hpl : (backTo pos (starEach [.Name nm p2] X.env)).any (·.1) = false := by rfl) :
    DE X W ds (.Call (.Name "isinstance" p) [e, .Name nm p2] [] pos) cB (.ok k) := isi hk hv hm hm2 ha hg hg2 hn hd hs hs2 hpl
/-! ### len, int, abs, max, min, gcd -/
theorem lenL_m {c : Cd α} {m : R (List α)} (hm : X.mg "len" = none) (ha : DE X W ds e (cL c) m) (hg : Gl X "len" := by rfl) (he : starEach (e :: []) X.env = (false, eval e X.env) :: starEach [] X.env := by rfl) (hpl : (backTo pos (starEach [] X.env)).any (·.1) = false := by rfl) : DE X W ds (.Call (.Name "len" p) [e] [] pos) cI (m >>= fun z => .ok ((z.length : Nat) : Int)) := callB (nm := "len") call_len_seq cs_lenL boot_len hm (arg1 ha he) hg (by decide) (by decide) he hpl
theorem lenL_p {c : Cd α} {z : List α} (hm : X.mg "len" = none) (ha : DE X W ds e (cL c) (.ok z)) (hg : Gl X "len" := by rfl) (he : starEach (e :: []) X.env = (false, eval e X.env) :: starEach [] X.env := by rfl) (hpl : (backTo pos (starEach [] X.env)).any (·.1) = false := by rfl) : DE X W ds (.Call (.Name "len" p) [e] [] pos) cI (.ok ((z.length : Nat) : Int)) := lenL_m hm ha hg he hpl
theorem lenT_m {c : Cd α} {m : R (List α)} (hm : X.mg "len" = none) (ha : DE X W ds e (cT c) m) (hg : Gl X "len" := by rfl) (he : starEach (e :: []) X.env = (false, eval e X.env) :: starEach [] X.env := by rfl) (hpl : (backTo pos (starEach [] X.env)).any (·.1) = false := by rfl) : DE X W ds (.Call (.Name "len" p) [e] [] pos) cI (m >>= fun z => .ok ((z.length : Nat) : Int)) := callB (nm := "len") call_len_seq cs_lenT boot_len hm (arg1 ha he) hg (by decide) (by decide) he hpl
theorem lenT_p {c : Cd α} {z : List α} (hm : X.mg "len" = none) (ha : DE X W ds e (cT c) (.ok z)) (hg : Gl X "len" := by rfl) (he : starEach (e :: []) X.env = (false, eval e X.env) :: starEach [] X.env := by rfl) (hpl : (backTo pos (starEach [] X.env)).any (·.1) = false := by rfl) : DE X W ds (.Call (.Name "len" p) [e] [] pos) cI (.ok ((z.length : Nat) : Int)) := lenT_m hm ha hg he hpl
theorem lenLT_m {c : Cd α} {m : R (List α)} (hm : X.mg "len" = none) (ha : DE X W ds e (cLT c) m) (hg : Gl X "len" := by rfl) (he : starEach (e :: []) X.env = (false, eval e X.env) :: starEach [] X.env := by rfl) (hpl : (backTo pos (starEach [] X.env)).any (·.1) = false := by rfl) : DE X W ds (.Call (.Name "len" p) [e] [] pos) cI (m >>= fun z => .ok ((z.length : Nat) : Int)) := callB (nm := "len") call_len_seq cs_lenLT boot_len hm (arg1 ha he) hg (by decide) (by decide) he hpl
theorem lenLT_p {c : Cd α} {z : List α} (hm : X.mg "len" = none) (ha : DE X W ds e (cLT c) (.ok z)) (hg : Gl X "len" := by rfl) (he : starEach (e :: []) X.env = (false, eval e X.env) :: starEach [] X.env := by rfl) (hpl : (backTo pos (starEach [] X.env)).any (·.1) = false := by rfl) : DE X W ds (.Call (.Name "len" p) [e] [] pos) cI (.ok ((z.length : Nat) : Int)) := lenLT_m hm ha hg he hpl
theorem lenP_m {c : CA τ} {m : R (τ)} {n : Int} (hm : X.mg "len" = none) (ha : DE X W ds e (cP c) m) (hn : n = ((c.n : Nat) : Int) := by exact rfl) (hg : Gl X "len" := by rfl) (he : starEach (e :: []) X.env = (false, eval e X.env) :: starEach [] X.env := by rfl) (hpl : (backTo pos (starEach [] X.env)).any (·.1) = false := by rfl) : DE X W ds (.Call (.Name "len" p) [e] [] pos) cI (m >>= fun z => .ok n) := by rw [hn]; exact callB (nm := "len") call_len_seq cs_lenP boot_len hm (arg1 ha he) hg (by decide) (by decide) he hpl
theorem lenP_p {c : CA τ} {z : τ} {n : Int} (hm : X.mg "len" = none) (ha : DE X W ds e (cP c) (.ok z)) (hn : n = ((c.n : Nat) : Int) := by exact rfl) (hg : Gl X "len" := by rfl) (he : starEach (e :: []) X.env = (false, eval e X.env) :: starEach [] X.env := by rfl) (hpl : (backTo pos (starEach [] X.env)).any (·.1) = false := by rfl) : DE X W ds (.Call (.Name "len" p) [e] [] pos) cI (.ok n) := lenP_m hm ha hn hg he hpl
theorem intI_m  {m : R (Int)} (hm : X.mg "int" = none) (ha : DE X W ds e (cI) m) (hg : Gl X "int" := by rfl) (he : starEach (e :: []) X.env = (false, eval e X.env) :: starEach [] X.env := by rfl) (hpl : (backTo pos (starEach [] X.env)).any (·.1) = false := by rfl) : DE X W ds (.Call (.Name "int" p) [e] [] pos) cI (m >>= fun z => .ok z) := callTy (nm := "int") call_int1 cs_int PyProof.Rows.boot_int hm (arg1 ha he) hg (by decide) (by decide) he hpl
theorem intI_p  {z : Int} (hm : X.mg "int" = none) (ha : DE X W ds e (cI) (.ok z)) (hg : Gl X "int" := by rfl) (he : starEach (e :: []) X.env = (false, eval e X.env) :: starEach [] X.env := by rfl) (hpl : (backTo pos (starEach [] X.env)).any (·.1) = false := by rfl) : DE X W ds (.Call (.Name "int" p) [e] [] pos) cI (.ok z) := intI_m hm ha hg he hpl
theorem intB_m  {m : R (Bool)} (hm : X.mg "int" = none) (ha : DE X W ds e (cB) m) (hg : Gl X "int" := by rfl) (he : starEach (e :: []) X.env = (false, eval e X.env) :: starEach [] X.env := by rfl) (hpl : (backTo pos (starEach [] X.env)).any (·.1) = false := by rfl) : DE X W ds (.Call (.Name "int" p) [e] [] pos) cI (m >>= fun z => .ok (if z = true then 1 else 0)) := callTy (nm := "int") call_int1 cs_intB PyProof.Rows.boot_int hm (arg1 ha he) hg (by decide) (by decide) he hpl
theorem intB_p  {z : Bool} (hm : X.mg "int" = none) (ha : DE X W ds e (cB) (.ok z)) (hg : Gl X "int" := by rfl) (he : starEach (e :: []) X.env = (false, eval e X.env) :: starEach [] X.env := by rfl) (hpl : (backTo pos (starEach [] X.env)).any (·.1) = false := by rfl) : DE X W ds (.Call (.Name "int" p) [e] [] pos) cI (.ok (if z = true then 1 else 0)) := intB_m hm ha hg he hpl
theorem absI_m  {m : R (Int)} (hm : X.mg "abs" = none) (ha : DE X W ds e (cI) m) (hg : Gl X "abs" := by rfl) (he : starEach (e :: []) X.env = (false, eval e X.env) :: starEach [] X.env := by rfl) (hpl : (backTo pos (starEach [] X.env)).any (·.1) = false := by rfl) : DE X W ds (.Call (.Name "abs" p) [e] [] pos) cI (m >>= fun z => .ok (if z < 0 then -z else z)) := callB (nm := "abs") call_abs cs_abs boot_abs hm (arg1 ha he) hg (by decide) (by decide) he hpl
theorem absI_p  {z : Int} (hm : X.mg "abs" = none) (ha : DE X W ds e (cI) (.ok z)) (hg : Gl X "abs" := by rfl) (he : starEach (e :: []) X.env = (false, eval e X.env) :: starEach [] X.env := by rfl) (hpl : (backTo pos (starEach [] X.env)).any (·.1) = false := by rfl) : DE X W ds (.Call (.Name "abs" p) [e] [] pos) cI (.ok (if z < 0 then -z else z)) := absI_m hm ha hg he hpl
theorem max_p {x y : Int} (hc : X.calm = true) (hm : X.mg "max" = none) (ha : DE X W ds a cI (.ok x)) (hb : DE X W ds b cI (.ok y)) (hg : Gl X "max" := by rfl) (he : starEach (a :: [b]) X.env = (false, eval a X.env) :: starEach [b] X.env := by rfl) (he2 : starEach (b :: []) X.env = (false, eval b X.env) :: starEach [] X.env := by rfl) (hpl : (backTo pos (starEach [b] X.env)).any (·.1) = false := by rfl) : DE X W ds (.Call (.Name "max" p) [a, b] [] pos) cI (.ok (if y > x then y else x)) := callB (nm := "max") (call_max2 hc) cs_max PyProof.Rows.boot_max hm (argC_pp ha (arg1 hb he2) he) hg (by decide) (by decide) he hpl
theorem max_m {mx my : R Int} (hc : X.calm = true) (hm : X.mg "max" = none) (ha : DE X W ds a cI mx) (hb : DE X W ds b cI my) (hg : Gl X "max" := by rfl) (he : starEach (a :: [b]) X.env = (false, eval a X.env) :: starEach [b] X.env := by rfl) (he2 : starEach (b :: []) X.env = (false, eval b X.env) :: starEach [] X.env := by rfl) (hpl : (backTo pos (starEach [b] X.env)).any (·.1) = false := by rfl) : DE X W ds (.Call (.Name "max" p) [a, b] [] pos) cI ((mx >>= fun x => my >>= fun y => .ok (x, y)) >>= fun z => .ok (if z.2 > z.1 then z.2 else z.1)) := callB (nm := "max") (call_max2 hc) cs_max PyProof.Rows.boot_max hm (argC ha (arg1 hb he2) he) hg (by decide) (by decide) he hpl
theorem min_p {x y : Int} (hc : X.calm = true) (hm : X.mg "min" = none) (ha : DE X W ds a cI (.ok x)) (hb : DE X W ds b cI (.ok y)) (hg : Gl X "min" := by rfl) (he : starEach (a :: [b]) X.env = (false, eval a X.env) :: starEach [b] X.env := by rfl) (he2 : starEach (b :: []) X.env = (false, eval b X.env) :: starEach [] X.env := by rfl) (hpl : (backTo pos (starEach [b] X.env)).any (·.1) = false := by rfl) : DE X W ds (.Call (.Name "min" p) [a, b] [] pos) cI (.ok (if y < x then y else x)) := callB (nm := "min") (call_min2 hc) cs_min PyProof.Rows.boot_min hm (argC_pp ha (arg1 hb he2) he) hg (by decide) (by decide) he hpl
theorem min_m {mx my : R Int} (hc : X.calm = true) (hm : X.mg "min" = none) (ha : DE X W ds a cI mx) (hb : DE X W ds b cI my) (hg : Gl X "min" := by rfl) (he : starEach (a :: [b]) X.env = (false, eval a X.env) :: starEach [b] X.env := by rfl) (he2 : starEach (b :: []) X.env = (false, eval b X.env) :: starEach [] X.env := by rfl) (hpl : (backTo pos (starEach [b] X.env)).any (·.1) = false := by rfl) : DE X W ds (.Call (.Name "min" p) [a, b] [] pos) cI ((mx >>= fun x => my >>= fun y => .ok (x, y)) >>= fun z => .ok (if z.2 < z.1 then z.2 else z.1)) := callB (nm := "min") (call_min2 hc) cs_min PyProof.Rows.boot_min hm (argC ha (arg1 hb he2) he) hg (by decide) (by decide) he hpl
theorem gcd_p {x y : Int} (hm : X.mg "gcd" = some (.builtin "math.gcd")) (ha : DE X W ds a cI (.ok x)) (hb : DE X W ds b cI (.ok y)) (hg : Gl X "gcd" := by rfl) (he : starEach (a :: [b]) X.env = (false, eval a X.env) :: starEach [b] X.env := by rfl) (he2 : starEach (b :: []) X.env = (false, eval b X.env) :: starEach [] X.env := by rfl) (hpl : (backTo pos (starEach [b] X.env)).any (·.1) = false := by rfl) : DE X W ds (.Call (.Name "gcd" p) [a, b] [] pos) cI (.ok ((Int.gcd x y : Nat) : Int)) := callF (nm := "gcd") cr_gcd cs_gcd hm (argC_pp ha (arg1 hb he2) he) hg (by decide) he hpl
end
section
variable {X : Cx} {W : XK} {T : Bool} {ds : Env} {α β γ τ ν κ ω : Type} {e : Expr} {st : Stmt} {sts rest : List Stmt} {pos p : Pos} {c : Cd α} {cb : Cd β} {eN : ν → Env} {eK : κ → Env} {I : ω → Out β ν κ} {m : R α} {k : α → R ω} {n : R ω}
section
variable {t : Expr} {A B : List Stmt} {mt : R Bool} {nA nB : R ω}
/-- the first branch leaves, the second one comes to the rest -/
theorem ifAB {σ' : Type} {eJ : σ' → Env} {jB : R σ'} {kJ : σ' → R ω} (ht : DT X W ds t mt) (hA : DS X W true ds A cb eN eK I nA) (hB : DS X W false ds B cb eJ eK (fun s => (.nxt s : Out β σ' κ)) jB) (hr : ∀ s, DS X W T (eJ s) rest cb eN eK I (kJ s)) :
    DS X W T ds (.If t A B pos :: rest) cb eN eK I (mt >>= fun z => if z = true then nA else jB >>= kJ) := fun S0 H0 σ S H D nx h E P => by
  obtain ⟨tt, pt, qt⟩ := ht
  refine seq (ps_if pt pss_tS pss_tS) (qt S0 H0 σ S H _ E (stT E P fun z S' H' E' P' => ?_))
  cases z with
  | true => exact hA S0 H0 σ S' H' D _ (.inl rfl) E' P'
  | false => exact hB S0 H0 σ S' H' { D with nx := tS X rest { D with nx := nx } } _ (.inr rfl) E' (R.post_mono (R.post_bind.mp P') (fun s q σ2 S2 H2 E2 => hr s S0 H0 σ2 S2 H2 D nx h E2 q) (fun _ q => q))
theorem ifBA {σ' : Type} {eJ : σ' → Env} {jA : R σ'} {kJ : σ' → R ω} (ht : DT X W ds t mt) (hA : DS X W false ds A cb eJ eK (fun s => (.nxt s : Out β σ' κ)) jA) (hB : DS X W true ds B cb eN eK I nB) (hr : ∀ s, DS X W T (eJ s) rest cb eN eK I (kJ s)) :
    DS X W T ds (.If t A B pos :: rest) cb eN eK I (mt >>= fun z => if z = true then jA >>= kJ else nB) := fun S0 H0 σ S H D nx h E P => by
  obtain ⟨tt, pt, qt⟩ := ht
  refine seq (ps_if pt pss_tS pss_tS) (qt S0 H0 σ S H _ E (stT E P fun z S' H' E' P' => ?_))
  cases z with
  | true => exact hA S0 H0 σ S' H' { D with nx := tS X rest { D with nx := nx } } _ (.inr rfl) E' (R.post_mono (R.post_bind.mp P') (fun s q σ2 S2 H2 E2 => hr s S0 H0 σ2 S2 H2 D nx h E2 q) (fun _ q => q))
  | false => exact hB S0 H0 σ S' H' D _ (.inl rfl) E' P'
end
theorem app_p {x : Str} {p1 p2 p3 : Pos} {as : List α} {z : α} {k : List α → R ω} (i : Nat) (he : DE X W ds e c (.ok z)) (hr : ∀ zs, DS X W T (ds.put i (.mu α c zs)) rest cb eN eK I (k zs)) (hd : ds.get i = .mu α c as := by rfl) (hN : X.N[i]? = some x := by rfl)
    (hv : Vis X.env.scope x := by first | exact Or.inl rfl | exact Or.inr (Or.inl rfl) | exact Or.inr (Or.inr rfl)) (hdb : (x == ("__debug__" : Str)) = false := by decide) (hcd : (x == ("__classdict__" : Str)) = false := by decide)
    (hs : swapsWith (.Call (.Attribute (.Name x p1) "append" p2) [e] [] p3) none pos.line X.env = pure false := by rfl)
    (ho : starEach [e] X.env = (false, eval e X.env) :: starEach [] X.env := by rfl)
    (pb : ∀ {te : TE}, PE X e te → PE X (.Call (.Attribute (.Name x p1) "append" p2) [e] [] p3) (tBM X.K "list" rAppend (tVar i) (tCons te tNil)) := by
      intro te pe; exact pe_bm PySem.F.plainAttrs_list PySem.F.slot_list_append PySem.F.type_list_append mt_append (pv _) (pa_cons pe pa_nil)) :
    DS X W T ds (.Expr (.Call (.Attribute (.Name x p1) "append" p2) [e] [] p3) pos :: rest) cb eN eK I (appM as z >>= k) := app (m := .ok z) i he hr hd hN hv hdb hcd hs ho pb
end
end Zk
set_option maxHeartbeats 4000000
/-! # Zk: more statements, the head -/
namespace Zk
open PySem PySem.Spec PyProof.Rows L2
section
variable {X : Cx} {W : XK} {T : Bool} {ds : Env} {α β γ τ ν κ ω : Type} {a b : Expr} {e : Expr} {es : List Expr} {st : Stmt} {sts rest body : List Stmt} {pos p : Pos} {c : Cd α} {cb : Cd β} {eN : ν → Env} {eK : κ → Env} {I : ω → Out β ν κ} {m : R α} {k : α → R ω} {n : R ω} {tg iter : Expr} {mi : R (List α)}
/-- the slot's value is not None from here on -/
theorem narrow (i : Nat) {o : Option α} (hd : ds.get i = .st (Option α) (cO c) o := by rfl) (hr : ∀ z, DS X W T (ds.put i (.st α c z)) sts cb eN eK I (k z)) : DS X W T ds sts cb eN eK I (unO o >>= k) := fun S0 H0 σ S H D nx h E P => by
  cases o with
  | none => exact False.elim P
  | some z =>
    refine hr z S0 H0 σ S H D nx h ?_ P
    have hi : i < ds.length := by
      refine Nat.lt_of_not_le fun hl => ?_
      have e : ∀ (ds : Env) (i : Nat), ds.length ≤ i → ds.get i = .none := by
        intro ds
        induction ds with
        | nil => intro i _; rfl
        | cons d ds ih => intro i hi; cases i with
          | zero => exact absurd hi (by simp)
          | succ i => exact ih i (by simpa using hi)
      rw [e ds i hl] at hd
      cases hd
    obtain ⟨v, h1, h2⟩ := E.var hd
    refine ⟨by rw [Env.put_length, E.len], fun j => ?_, fun j k p mj mk => ?_, E.grow⟩
    · by_cases q : j = i
      · subst q
        rw [Env.get_put_same _ _ _ hi]
        exact ⟨v, h1, h2.2⟩
      · rw [Env.get_put_ne _ _ _ _ q]
        exact E.at_ j
    · have mm : ∀ j, isMu ((ds.put i (.st α c z)).get j) → isMu (ds.get j) := fun j m => by
        by_cases q : j = i
        · subst q
          rw [Env.get_put_same _ _ _ hi] at m
          exact m.elim
        · rw [Env.get_put_ne _ _ _ _ q] at m
          exact m
      exact E.sep j k p (mm j mj) (mm k mk)
/-! ### and, or of pure tests -/
theorem andW_q {x y : Bool} (ha : DT X W ds a (.ok x)) (hb : DW X W ds (.BoolOp .And (b :: es) pos) (.ok y)) : DW X W ds (.BoolOp .And (a :: b :: es) pos) (.ok (x && y)) := by
  have q := andW_p ha hb
  cases x <;> exact q
theorem orW_q {x y : Bool} (ha : DT X W ds a (.ok x)) (hb : DW X W ds (.BoolOp .Or (b :: es) pos) (.ok y)) : DW X W ds (.BoolOp .Or (a :: b :: es) pos) (.ok (x || y)) := by
  have q := orW_p ha hb
  cases x <;> exact q
theorem andV_q {x y : Bool} (ha : DE X W ds a cB (.ok x)) (hb : DE X W ds (.BoolOp .And (b :: es) pos) cB (.ok y)) : DE X W ds (.BoolOp .And (a :: b :: es) pos) cB (.ok (x && y)) := by
  have q := andV_p ha hb
  cases x <;> exact q
theorem orV_q {x y : Bool} (ha : DE X W ds a cB (.ok x)) (hb : DE X W ds (.BoolOp .Or (b :: es) pos) cB (.ok y)) : DE X W ds (.BoolOp .Or (a :: b :: es) pos) cB (.ok (x || y)) := by
  have q := orV_p ha hb
  cases x <;> exact q
/-! ### loops that may leave -/
def Out.up {β ν κ : Type} : Out Empty ν κ → Out β ν κ
  | .nxt s => .nxt s
  | .brk s => .brk s
  | .ctn s => .ctn s
  | .ret b => nomatch b
def loopB {S : Type} (step : S → α → R (Out Empty S S)) : List α → S → R S
  | [], s => .ok s
  | x :: xs, s => step s x >>= fun o => match o with
    | .nxt s' => loopB step xs s'
    | .ctn s' => loopB step xs s'
    | .brk s' => .ok s'
    | .ret b => nomatch b
theorem forB {σ' : Type} {eL : σ' → Env} {eB : σ' → α → Env} {step : σ' → α → R (Out Empty σ' σ')} {s0 : σ'} {k : σ' → R ω} (hc : X.calm = true) (hp : PassesOwn (model X.prog X.w) X.A X.env X.xe) (hi : DI X W ds tg iter c mi) (hg : DG X tg c eL eB) (l : EnvLe ds (eL s0))
    (hb : ∀ s a, DS X W false (eB s a) body cb eL eL (fun o => (Out.up o : Out β σ' σ')) (step s a)) (hr : ∀ s, DS X W T (eL s) rest cb eN eK I (k s)) (hs : ∀ x, foldedSetIterable iter X.env x = pure x := by intro _; rfl) :
    DS X W T ds (.For tg iter body [] pos :: rest) cb eN eK I (mi >>= fun as => loopB step as s0 >>= k) := fun S0 H0 σ S H D nx h E P => by
  obtain ⟨wi, pi, qi⟩ := hi
  obtain ⟨g, pg, qg⟩ := hg
  refine seq (ps_for hp hc pi pg pss_tS hs) (qi S0 H0 σ S H _ E (R.post_mono (R.post_bind.mp P) (fun as q J S' H' gr hJ => ?_) (fun x q cl d S' H' gr r => q cl d S' H' (E.grow.trans gr) r)))
  refine for_any eL (fun as s => (loopB step as s >>= k).post (fun w => OutP X.K S0 H0 cb eN eK D (I w)) (EX X.K W S0 H0)) hJ s0 S' (.refl _) ((E.step gr).le l) q (fun a r s σ2 S2 H2 v N hC E2 r2 hN => ?_) (fun s σ2 S2 H2 hC E2 => ?_)
  · refine qg s a v S0 H0 σ2 S2 H2 _ E2 r2 fun σ3 E3 => ?_
    have hC' : (step s a >>= fun o => (match o with
      | .nxt s' => loopB step r s'
      | .ctn s' => loopB step r s'
      | .brk s' => .ok s'
      | .ret b => nomatch b) >>= k).post (fun w => OutP X.K S0 H0 cb eN eK D (I w)) (EX X.K W S0 H0) := by rw [← R.bind_assoc]; exact hC
    refine hb s a S2 H0 σ3 S2 H2 { D with nx := N, ct := N, bk := tS X rest { D with nx := nx } } N (.inr rfl) E3.rebase (R.post_mono (R.post_bind.mp hC') (fun o q' => ?_) (fun _ q' => q'.rebase E3.grow))
    cases o with
    | nxt s' => exact fun σ4 S4 H4 E4 => hN s' σ4 S4 H4 q' E4.grow.st (E4.unbase E3.grow)
    | ctn s' => exact fun σ4 S4 H4 E4 => hN s' σ4 S4 H4 q' E4.grow.st (E4.unbase E3.grow)
    | brk s' => exact fun σ4 S4 H4 E4 => hr s' S0 H0 σ4 S4 H4 D nx h (E4.unbase E3.grow) q'
    | ret b => exact nomatch b
  · exact hr s S0 H0 σ2 S2 H2 D nx h E2 hC
@[reducible] def End.cs {S β ω : Type} (f : S → R ω) (g : β → R ω) : End S β → R ω
  | .go s => f s
  | .out b => g b
/-- items and length of a list that still changes -/
theorem lenMu {x : Str} {p1 : Pos} {as : List α} (i : Nat) (hm : X.mg "len" = none) (hd : ds.get i = .mu α c as := by rfl) (hN : X.N[i]? = some x := by rfl) (hv : Vis X.env.scope x := by first | exact Or.inl rfl | exact Or.inr (Or.inl rfl) | exact Or.inr (Or.inr rfl))
    (hdb : (x == ("__debug__" : Str)) = false := by decide) (hcd : (x == ("__classdict__" : Str)) = false := by decide) (hg : Gl X "len" := by rfl) (he : starEach (.Name x p1 :: []) X.env = (false, eval (.Name x p1) X.env) :: starEach [] X.env := by rfl) (hpl : (backTo pos (starEach [] X.env)).any (·.1) = false := by rfl) :
    DE X W ds (.Call (.Name "len" p) [.Name x p1] [] pos) cI (.ok ((as.length : Nat) : Int)) :=
  ⟨_, pe_callB call_len_seq hg hm PySem.boot_len (pa_cons (pe_var hN hv hdb hcd) pa_nil he) (by decide) (by decide) he hpl, fun S0 H0 σ S H Q E P => by
    obtain ⟨l, vs, h1, h2, h3, h4, h5⟩ := E.muv hd
    refine ⟨.ref l, h1, l, vs, rfl, .inl (SqL.of h4), P.ok E.inn ?_⟩
    show V.int _ = V.int _
    rw [h5.length]⟩
theorem ixMu {x : Str} {p1 : Pos} {as : List α} {mj : R Int} (i : Nat) (hb : DE X W ds b cI mj) (hd : ds.get i = .mu α c as := by rfl) (hN : X.N[i]? = some x := by rfl) (hv : Vis X.env.scope x := by first | exact Or.inl rfl | exact Or.inr (Or.inl rfl) | exact Or.inr (Or.inr rfl))
    (hdb : (x == ("__debug__" : Str)) = false := by decide) (hcd : (x == ("__classdict__" : Str)) = false := by decide) (hp : PlainIx b := by exact fun _ _ => rfl) :
    DE X W ds (.Subscript (.Name x p1) b pos) c (mj >>= fun j => getM as j) := by
  obtain ⟨tb, pb, qb⟩ := hb
  refine ⟨_, pe_ix ix_list (pe_var hN hv hdb hcd) pb hp, fun S0 H0 σ S H Q E P => ?_⟩
  obtain ⟨l, vs, h1, h2, h3, h4, h5⟩ := E.muv hd
  refine ⟨.ref l, h1, qb S0 H0 σ S H _ E (P.bind fun j u S1 H1 g r P1 => ?_)⟩
  unfold getM at P1
  cases q : atI as j with
  | none =>
    rw [q] at P1
    exact P1.elim
  | some z =>
    rw [q] at P1
    obtain ⟨w, k1, k2⟩ := reps_at h5 q
    exact ⟨l, vs, j, w, rfl, r, SqL.of (g.ex _ _ h4), k1, P1.ok g.inn (c.mono g.st k2)⟩
theorem ixMu_p {x : Str} {p1 : Pos} {as : List α} {j : Int} (i : Nat) (hb : DE X W ds b cI (.ok j)) (hd : ds.get i = .mu α c as := by rfl) (hN : X.N[i]? = some x := by rfl) (hv : Vis X.env.scope x := by first | exact Or.inl rfl | exact Or.inr (Or.inl rfl) | exact Or.inr (Or.inr rfl))
    (hdb : (x == ("__debug__" : Str)) = false := by decide) (hcd : (x == ("__classdict__" : Str)) = false := by decide) (hp : PlainIx b := by exact fun _ _ => rfl) :
    DE X W ds (.Subscript (.Name x p1) b pos) c (getM as j) := ixMu i hb hd hN hv hdb hcd hp
end
/-! ### the head -/
/-- names of the module that hold these very values -/
def heldB (vs : List (Str × Value)) (K : PySem.W.Frag) : Bool := vs.all fun q => He.eqO (PySem.W.nsIn K mainGlobals q.1) (some (some q.2))
def obsZ (n : Nat) (fa : List He.Fa) (fn : List He.DefD) (ex : PySem.W.Frag → Bool) (g : Addr → Option Obj) : He.AlD × Bool := (He.obsDG n fa fn g, ex (He.frG g (He.asD g n)))
def hookZ (n : Nat) (fa : List He.Fa) (fn : List He.DefD) (ex : PySem.W.Frag → Bool) : PySem.W.Hook where
  α := He.AlD × Bool
  obs := fun s => obsZ n fa fn ex s.heap.get?
  val := fun _ => (He.valD fn, true)
  says := fun _ h => ∃ K : PySem.W.Frag, K.In h ∧ He.SaysD fa fn K ∧ ex K = true
  of := fun _ _ e => ⟨_, He.frG_in, congrArg (fun z : He.AlD × Bool => z.1) e, congrArg (fun z : He.AlD × Bool => z.2) e⟩
  keeps := fun _ _ _ ⟨K, hK, c⟩ k => ⟨K, PySem.W.Frag.In.keeps hK k, c⟩
theorem obsZ_eq {n : Nat} {fa : List He.Fa} {fn : List He.DefD} {ex : PySem.W.Frag → Bool} {g : Addr → Option Obj} {s : Shared} (h : ∀ a, g a = s.heap.get? a) : obsZ n fa fn ex g = (hookZ n fa fn ex).obs s := by
  have e : g = s.heap.get? := funext h
  rw [e] <;> rfl
/-- what stands behind the top -/
structure Glb (fa : List He.Fa) (fn : List He.DefD) (ex : PySem.W.Frag → Bool) (K : PySem.W.Frag) (mg : Str → Option Value) (base : Heap) : Prop where
  X : K.In base
  G : base.Ns mainGlobals mg
  c : He.SaysD fa fn K
  e : ex K = true
section
variable {fa : List He.Fa} {fn : List He.DefD} {ex : PySem.W.Frag → Bool} {K : PySem.W.Frag} {mg : Str → Option Value} {base : Heap}
theorem Glb.free (T : Glb fa fn ex K mg base) (i : Nat) {x : Str} (h : fa[i]? = some (.free x) := by rfl) : mg x = none := He.free_ok T.X T.G (T.c.fact i h)
theorem Glb.glo (T : Glb fa fn ex K mg base) (i : Nat) {x : Str} (h : fa[i]? = some (.glo x) := by rfl) : mg x = some (.ref (He.ga K x)) := He.glo_ok T.X T.G (T.c.fact i h)
theorem Glb.held {vs : List (Str × Value)} (T : Glb fa fn (heldB vs) K mg base) (i : Nat) {x : Str} {v : Value} (h : vs[i]? = some (x, v) := by rfl) : mg x = some v :=
  PySem.W.mg_of T.X T.G (He.eqO_ok (List.all_eq_true.mp T.e (x, v) (List.mem_of_getElem? h)))
end
/-- a law's script -/
theorem reps_ints {K : PySem.W.Frag} {H : Hp} : ∀ ns : List Int, Reps cI K H (ns.map V.int) ns
  | [] => trivial
  | _ :: ns => ⟨rfl, reps_ints ns⟩
theorem law_sp {K : PySem.W.Frag} {F : List Int → R Bool} {n : Nat} (hF : ∀ ns : List Int, ns.length ≤ n → F ns = .ok true) (H : Hp) (a : Addr) (ns : List Int) (hl : ns.length ≤ n) (hS : SqL K H a (ns.map V.int)) : spF K (aOne (cL cI)) cB F [.ref a] H (fun v _ => v = .bl true) fun _ _ _ => False := by
  refine ⟨H, ns, .refl H, ⟨.ref a, rfl, a, ns.map V.int, rfl, hS, reps_ints ns⟩, ?_⟩
  rw [hF ns hl]
  exact fun v S' H' g r => r
/-- the end of a law whose defs may raise within -/
theorem law_end {l : PySem.W.OpenLaw} {m k : Nat} {q : Program} {loose : List Str} {XP : (Str → Option Value) → Heap → Prop} {YP : World → Heap → Prop} {d : DefRec} {x : Str} (h1 : l.most = some m) (h2 : m ≤ sizeLine) (h3 : d.params.defaults = []) (room : Room k callerA)
    (F : ∀ (w : World) (mg : Str → Option Value) (fa : Addr) (h : Heap), YP w h → h.Ns mainGlobals mg → mg d.name = some (.ref fa) → ∃ (K : PySem.W.Frag) (fd : FuncData) (sp : Sp), K.In h ∧ (∀ (s : Shared) (u : Value), BindsTo s fd ⟨[u], []⟩ [(x, u)]) ∧
      (∀ (H : Hp) (a : Addr) (ns : List Int), ns.length ≤ m → SqL K H a (ns.map V.int) → sp [.ref a] H (fun v _ => v = .bl true) fun _ _ _ => False) ∧ ∀ base : Heap, K.In base → base.Ns mainGlobals mg → FnOk l.prog w K mg base (L2.CX l.prog w) k fa fd [x] sp) :
    PySem.W.WalkO q loose XP YP l.row.toRowW d [] (fun f vs => PySem.call f vs) := by
  refine Att.attach_call h1 h3 fun w _ s mg _ fa _ _ _ _ a _ ns G Y _ _ _ named obj hin hlen glob => ?_
  obtain ⟨K, fd, sp, inK, binds, start, keeps⟩ := F w mg fa _ Y G.T.g named
  refine law_call inK G.T.g G.T.b G.T.builtins G.T.nolimit glob obj hin (Nat.le_trans hlen h2) room keeps binds (fun H _ hS => start H a ns hlen hS) fun H e s2 z => ?_
  obtain ⟨_, _, _, _, _, _, _, _, _, _, _, _, no⟩ := z
  exact no.elim
end Zk
set_option maxHeartbeats 4000000
/-! # Zk: the mathematics of the helpers that every law has -/
namespace Zk
open PySem
theorem log2_le {n a : Nat} (h : n < 2 ^ a) : n.log2 ≤ a := by
  by_cases h0 : n = 0
  · subst h0
    exact Nat.le_trans (by decide) (Nat.zero_le a)
  · exact Nat.le_of_lt ((Nat.log2_lt h0).mpr h)
theorem mulM_ok {x y : Int} (a b : Nat) (hx : x.natAbs < 2 ^ a) (hy : y.natAbs < 2 ^ b) (h : a + b < 100000000 := by decide) : mulM x y = .ok (x * y) := by
  have h1 := log2_le hx
  have h2 := log2_le hy
  unfold mulM
  refine R.guard_ok (decide_eq_true ?_)
  omega
theorem mulM_lt {x y : Int} (h1 : x.natAbs < 2 ^ 40000000) (h2 : y.natAbs < 2 ^ 40000000) : mulM x y = .ok (x * y) := mulM_ok _ _ h1 h2
theorem modM_ok {x y : Int} (h : y ≠ 0) : modM x y = .ok (x.fmod y) := R.guard_ok h
theorem fdivM_ok {x y : Int} (h : y ≠ 0) (hb : y.natAbs.log2 < 9000) : fdivM x y = .ok (x.fdiv y) := R.guard_ok ⟨h, PyProof.noPylong_of_log2 hb⟩
theorem fdivM_sm {x y : Int} (h : y ≠ 0) (hb : y.natAbs < 1073741824) : fdivM x y = .ok (x.fdiv y) := R.guard_ok ⟨h, PyProof.noPylong_small hb⟩
theorem appM_ok {α : Type} {xs : List α} {x : α} (h : xs.length < 16000000) : appM xs x = .ok (xs ++ [x]) := R.guard_ok h
theorem rngM_ok {lo hi : Int} (h1 : -(2 ^ 62) ≤ lo) (h2 : lo < 2 ^ 62) (h3 : -(2 ^ 62) ≤ hi) (h4 : hi < 2 ^ 62) : rngM lo hi = .ok (rangeL lo (hi - lo).toNat) := R.guard_ok ⟨h1, h2, h3, h4⟩
theorem atI_natZ {α : Type} {xs : List α} {i : Nat} {z : α} (h : xs[i]? = some z) : L2.atI xs (i : Int) = some z := L2.atI_nat h
theorem getM_nat {α : Type} {xs : List α} {i : Nat} {z : α} (h : xs[i]? = some z) : getM xs (i : Int) = .ok z := by
  unfold getM
  rw [L2.atI_nat h]
theorem getM_of {α : Type} {xs : List α} {j : Int} {i : Nat} {z : α} (e : j = (i : Int)) (h : xs[i]? = some z) : getM xs j = .ok z := by
  rw [e]; exact getM_nat h
theorem fmod_pos {x y : Int} (h : 0 < y) : 0 ≤ x.fmod y ∧ x.fmod y < y := by
  rw [Int.fmod_eq_emod_of_nonneg x (Int.le_of_lt h)]
  exact ⟨Int.emod_nonneg x (by omega), Int.emod_lt_of_pos x h⟩
/-! ### folds -/
theorem foldR_inv {α S : Type} {step : S → α → R S} (C : Nat → S → Prop) : ∀ (xs : List α) (i : Nat) (s : S), C i s → (∀ j s x, C j s → xs[j - i]? = some x → i ≤ j → ∃ s', step s x = .ok s' ∧ C (j + 1) s') → ∃ s', foldR step xs s = .ok s' ∧ C (i + xs.length) s'
  | [], i, s, h, _ => ⟨s, rfl, h⟩
  | x :: xs, i, s, h, st => by
    obtain ⟨s1, e1, c1⟩ := st i s x h (by rw [Nat.sub_self]; rfl) (Nat.le_refl _)
    obtain ⟨s2, e2, c2⟩ := foldR_inv C xs (i + 1) s1 c1 (fun j s y c hy hj => st j s y c (by
      have e : j - i = (j - (i + 1)) + 1 := by omega
      rw [e]
      exact hy) (by omega))
    refine ⟨s2, ?_, by rw [List.length_cons]; have e : i + (xs.length + 1) = i + 1 + xs.length := by omega
                       rw [e]; exact c2⟩
    show (step s x >>= fun s' => foldR step xs s') = _
    rw [e1]
    exact e2
/-! ### the helpers' mirrors -/
def law_cell (script : (List Int)) (k : Int) : R Int :=
  (if (decide (k < ((script.length : Nat) : Int))) = true then
    (getM script k)
  else
    R.ok (17 : Int) >>= fun (seed : Int) =>
    R.ok script >>= fun as => foldR (fun (s1 : Int) (cell : Int) => (((((mulM s1 (31 : Int)) >>= fun x2 => (modM cell (1000003 : Int)) >>= fun y3 => R.ok ((x2 + y3))) >>= fun z => R.ok z) >>= fun x4 => (modM x4 (1000003 : Int))) >>= fun (seed : Int) =>
      R.ok seed : R Int)) as seed >>= fun (s5 : Int) =>
    ((((mulM (s5 + (7 : Int)) (k + (3 : Int))) >>= fun x6 => (mulM x6 (69621 : Int))) >>= fun z => R.ok z) >>= fun x7 => (modM x7 (2147483647 : Int))))
def law_digits (cell : Int) (sizes : (List Int)) : R (List Int) :=
  R.ok ([] : List Int) >>= fun (row : List Int) =>
  R.ok cell >>= fun (rest : Int) =>
  (((powM (10 : Int) (18 : Int)) >>= fun y1 => R.ok ((decide (y1 ≤ rest)))) >>= fun z18 => if z18 = true then
    ((powM (10 : Int) (18 : Int)) >>= fun y2 => R.ok ((rest - y2))) >>= fun (rest : Int) =>
    R.ok sizes >>= fun as => foldR (fun (s3 : ((List Int) × Int)) (size : Int) => ((modM s3.2 size) >>= fun z4 => appM s3.1 z4 >>= fun (row : List Int) =>
      (fdivM s3.2 size) >>= fun (rest : Int) =>
      R.ok (row, rest) : R ((List Int) × Int))) as (row, rest) >>= fun (s5 : ((List Int) × Int)) =>
    R.ok s5.1
  else
    (modM rest (2147483629 : Int)) >>= fun (seed : Int) =>
    rngM 0 (((sizes.length : Nat) : Int)) >>= fun as => foldR (fun (s6 : (Int × (List Int))) (k : Int) => ((((((mulM s6.1 (48271 : Int)) >>= fun x7 => (mulM (974711 : Int) k) >>= fun y8 => R.ok ((x7 + y8))) >>= fun x9 => R.ok ((x9 + (12345 : Int)))) >>= fun z => R.ok z) >>= fun x10 => (modM x10 (2147483647 : Int))) >>= fun (seed : Int) =>
      (((((fdivM seed (65537 : Int)) >>= fun x11 => R.ok ((x11 + (3 : Int)))) >>= fun y12 => (mulM seed y12)) >>= fun z => R.ok z) >>= fun x13 => (modM x13 (2147483629 : Int))) >>= fun (twice : Int) =>
      ((fdivM twice (19 : Int)) >>= fun x14 => (getM sizes k) >>= fun y15 => (modM x14 y15)) >>= fun z16 => appM s6.2 z16 >>= fun (row : List Int) =>
      R.ok (seed, row) : R (Int × (List Int)))) as (seed, row) >>= fun (s17 : (Int × (List Int))) =>
    R.ok s17.2)
def law_gcd (one : Int) (two : Int) : R Int :=
  R.ok (if one < 0 then -one else one) >>= fun (one : Int) =>
  R.ok (if two < 0 then -two else two) >>= fun (two : Int) =>
  rngM 0 ((100000 : Int)) >>= fun as => loopB (fun (s1 : (Int × Int)) (turn : Int) => ((if (decide (s1.2 = (0 : Int))) = true then
      R.ok (.brk (s1.1, s1.2))
    else
      (modM s1.1 s1.2) >>= fun (rest : Int) =>
      R.ok s1.2 >>= fun (one : Int) =>
      R.ok rest >>= fun (two : Int) =>
      R.ok (.nxt (one, two))) : R (Out Empty (Int × Int) (Int × Int)))) as (one, two) >>= fun (s2 : (Int × Int)) =>
  R.ok s2.1
/-! ### a cell is some number -/
theorem law_cell_ok (script : List Int) (k : Nat) (hk : k ≤ 100000) : ∃ v, law_cell script (k : Int) = .ok v := by
  unfold law_cell
  by_cases h : (k : Int) < ((script.length : Nat) : Int)
  · rw [if_pos (decide_eq_true h)]
    have hk2 : k < script.length := by omega
    exact ⟨_, getM_nat (List.getElem?_eq_getElem hk2)⟩
  · rw [if_neg (by rw [decide_eq_false h]; exact Bool.false_ne_true)]
    obtain ⟨s, e, c⟩ := foldR_inv (step := fun (s1 : Int) (cell : Int) => (((((mulM s1 (31 : Int)) >>= fun x2 => (modM cell (1000003 : Int)) >>= fun y3 => R.ok ((x2 + y3))) >>= fun z => R.ok z) >>= fun x4 => (modM x4 (1000003 : Int))) >>= fun (seed : Int) => R.ok seed : R Int))
      (fun _ s => 0 ≤ s ∧ s < 1000003) script 0 17 ⟨by decide, by decide⟩ (fun j s x c _ _ => by
        have m1 : mulM s 31 = .ok (s * 31) := mulM_ok 20 5 (by omega) (by decide)
        have m2 : modM x 1000003 = .ok (x.fmod 1000003) := modM_ok (by decide)
        have m3 : modM (s * 31 + x.fmod 1000003) 1000003 = .ok ((s * 31 + x.fmod 1000003).fmod 1000003) := modM_ok (by decide)
        refine ⟨(s * 31 + x.fmod 1000003).fmod 1000003, ?_, fmod_pos (by decide)⟩
        simp only [m1, m2, m3, R.ok_bind])
    have m1 : mulM (s + 7) ((k : Int) + 3) = .ok ((s + 7) * ((k : Int) + 3)) := mulM_ok 21 20 (by omega) (by omega)
    have hb : ((s + 7) * ((k : Int) + 3)).natAbs < 2 ^ 41 := by
      have h1 : (s + 7).natAbs < 2 ^ 21 := by omega
      have h2 : ((k : Int) + 3).natAbs < 2 ^ 20 := by omega
      exact L2.wide_lt h1 h2
    have m2 : mulM ((s + 7) * ((k : Int) + 3)) 69621 = .ok ((s + 7) * ((k : Int) + 3) * 69621) := mulM_ok 41 17 hb (by decide)
    have m3 : modM ((s + 7) * ((k : Int) + 3) * 69621) 2147483647 = .ok (((s + 7) * ((k : Int) + 3) * 69621).fmod 2147483647) := modM_ok (by decide)
    refine ⟨((s + 7) * ((k : Int) + 3) * 69621).fmod 2147483647, ?_⟩
    simp only [R.ok_bind]
    rw [e]
    simp only [R.ok_bind, m1, m2, m3]
/-! ### digits: as many numbers as sizes, each below its size -/
def Digs (sizes row : List Int) : Prop := row.length = sizes.length ∧ ∀ (i : Nat) (s : Int), sizes[i]? = some s → ∃ d : Int, row[i]? = some d ∧ 0 ≤ d ∧ d < s
theorem digs_step {sizes row : List Int} {j : Nat} {s d : Int} (hl : row.length = j) (h : ∀ (i : Nat) (z : Int), i < j → sizes[i]? = some z → ∃ d : Int, row[i]? = some d ∧ 0 ≤ d ∧ d < z) (hs : sizes[j]? = some s) (hd : 0 ≤ d ∧ d < s) :
    (row ++ [d]).length = j + 1 ∧ ∀ (i : Nat) (z : Int), i < j + 1 → sizes[i]? = some z → ∃ d' : Int, (row ++ [d])[i]? = some d' ∧ 0 ≤ d' ∧ d' < z := by
  refine ⟨by rw [List.length_append, hl]; rfl, fun i z hi hz => ?_⟩
  by_cases e : i = j
  · subst e
    rw [hs] at hz
    cases hz
    refine ⟨d, ?_, hd⟩
    rw [List.getElem?_append_right (by omega), hl, Nat.sub_self]
    rfl
  · obtain ⟨d', e1, e2⟩ := h i z (by omega) hz
    refine ⟨d', ?_, e2⟩
    rw [List.getElem?_append_left (by omega)]
    exact e1
theorem law_digits_ok (cell : Int) (sizes : List Int) (hl : sizes.length ≤ 1000) (hs : ∀ z ∈ sizes, 0 < z ∧ z.natAbs.log2 < 9000) : ∃ row, law_digits cell sizes = .ok row ∧ Digs sizes row := by
  have p18 : powM (10 : Int) (18 : Int) = .ok 1000000000000000000 := R.guard_ok ⟨by decide, by decide, by decide⟩
  unfold law_digits
  simp only [R.ok_bind, p18]
  by_cases h : (1000000000000000000 : Int) ≤ cell
  · rw [if_pos (decide_eq_true h)]
    obtain ⟨s, e, c⟩ := foldR_inv (step := fun (s3 : ((List Int) × Int)) (size : Int) => ((modM s3.2 size) >>= fun z4 => appM s3.1 z4 >>= fun (row : List Int) => (fdivM s3.2 size) >>= fun (rest : Int) => R.ok (row, rest) : R ((List Int) × Int)))
      (fun j s => s.1.length = j ∧ j ≤ sizes.length ∧ ∀ (i : Nat) (z : Int), i < j → sizes[i]? = some z → ∃ d : Int, s.1[i]? = some d ∧ 0 ≤ d ∧ d < z) sizes 0 ([], cell - 1000000000000000000) ⟨rfl, Nat.zero_le _, fun i z hi => absurd hi (Nat.not_lt_zero i)⟩ (fun j s x c hx _ => by
        obtain ⟨c1, c2, c3⟩ := c
        rw [Nat.sub_zero] at hx
        obtain ⟨p1, p2⟩ := hs x (List.mem_of_getElem? hx)
        have hj : j < sizes.length := (List.getElem?_eq_some_iff.mp hx).1
        obtain ⟨k1, k2⟩ := digs_step c1 c3 hx (fmod_pos (x := s.2) p1)
        refine ⟨(s.1 ++ [s.2.fmod x], s.2.fdiv x), ?_, k1, hj, k2⟩
        rw [modM_ok (by omega)]
        simp only [R.ok_bind]
        rw [appM_ok (by omega)]
        simp only [R.ok_bind]
        rw [fdivM_ok (by omega) p2]
        rfl)
    refine ⟨s.1, ?_, ?_, ?_⟩
    · exact (congrArg (fun m : R (List Int × Int) => m >>= fun s5 => R.ok s5.1) e).trans rfl
    · rw [c.1, Nat.zero_add]
    · intro i z hz
      exact c.2.2 i z (by rw [Nat.zero_add]; exact (List.getElem?_eq_some_iff.mp hz).1) hz
  · rw [if_neg (by rw [decide_eq_false h]; exact Bool.false_ne_true)]
    rw [modM_ok (by decide)]
    simp only [R.ok_bind]
    rw [rngM_ok (by decide) (by decide) (by omega) (by omega)]
    simp only [R.ok_bind]
    have hn : (((sizes.length : Nat) : Int) - 0).toNat = sizes.length := by omega
    rw [hn]
    have h0 := fmod_pos (x := cell) (y := 2147483629) (by decide)
    obtain ⟨s, e, c⟩ := foldR_inv (step := fun (s6 : (Int × (List Int))) (k : Int) => ((((((mulM s6.1 (48271 : Int)) >>= fun x7 => (mulM (974711 : Int) k) >>= fun y8 => R.ok ((x7 + y8))) >>= fun x9 => R.ok ((x9 + (12345 : Int)))) >>= fun z => R.ok z) >>= fun x10 => (modM x10 (2147483647 : Int))) >>= fun (seed : Int) =>
      (((((fdivM seed (65537 : Int)) >>= fun x11 => R.ok ((x11 + (3 : Int)))) >>= fun y12 => (mulM seed y12)) >>= fun z => R.ok z) >>= fun x13 => (modM x13 (2147483629 : Int))) >>= fun (twice : Int) =>
      ((fdivM twice (19 : Int)) >>= fun x14 => (getM sizes k) >>= fun y15 => (modM x14 y15)) >>= fun z16 => appM s6.2 z16 >>= fun (row : List Int) =>
      R.ok (seed, row) : R (Int × (List Int))))
      (fun j s => (0 ≤ s.1 ∧ s.1 < 2147483647) ∧ s.2.length = j ∧ j ≤ sizes.length ∧ ∀ (i : Nat) (z : Int), i < j → sizes[i]? = some z → ∃ d : Int, s.2[i]? = some d ∧ 0 ≤ d ∧ d < z) (rangeL 0 sizes.length) 0 (cell.fmod 2147483629, []) ⟨⟨h0.1, by omega⟩, rfl, Nat.zero_le _, fun i z hi => absurd hi (Nat.not_lt_zero i)⟩ (fun j s x c hx _ => by
        obtain ⟨⟨b1, b2⟩, c1, c2, c3⟩ := c
        rw [Nat.sub_zero] at hx
        have hj : j < sizes.length := by
          have q := (List.getElem?_eq_some_iff.mp hx).1
          rw [rangeL_length] at q
          exact q
        rw [rangeL_get 0 sizes.length j hj] at hx
        have ex : x = (j : Int) := by
          have q := Option.some.inj hx
          omega
        subst ex
        have hz := List.getElem?_eq_getElem hj
        obtain ⟨p1, p2⟩ := hs sizes[j] (List.getElem_mem hj)
        have f1 := fmod_pos (x := s.1 * 48271 + 974711 * (j : Int) + 12345) (y := 2147483647) (by decide)
        have q1 : ((s.1 * 48271 + 974711 * (j : Int) + 12345).fmod 2147483647).natAbs < 2 ^ 31 := by omega
        have q2 : (((s.1 * 48271 + 974711 * (j : Int) + 12345).fmod 2147483647).fdiv 65537 + 3).natAbs < 2 ^ 32 := by
          rw [Int.fdiv_eq_ediv_of_nonneg _ (by decide)]
          omega
        obtain ⟨k1, k2⟩ := digs_step (d := ((((s.1 * 48271 + 974711 * (j : Int) + 12345).fmod 2147483647) * (((s.1 * 48271 + 974711 * (j : Int) + 12345).fmod 2147483647).fdiv 65537 + 3)).fmod 2147483629 |>.fdiv 19).fmod sizes[j]) c1 c3 hz (fmod_pos p1)
        refine ⟨((s.1 * 48271 + 974711 * (j : Int) + 12345).fmod 2147483647, s.2 ++ [((((s.1 * 48271 + 974711 * (j : Int) + 12345).fmod 2147483647) * (((s.1 * 48271 + 974711 * (j : Int) + 12345).fmod 2147483647).fdiv 65537 + 3)).fmod 2147483629 |>.fdiv 19).fmod sizes[j]]), ?_, ⟨f1.1, f1.2⟩, k1, hj, k2⟩
        rw [mulM_ok 31 16 (by omega) (by decide)]
        simp only [R.ok_bind]
        rw [mulM_ok 20 10 (by decide) (by omega)]
        simp only [R.ok_bind]
        rw [modM_ok (by decide)]
        simp only [R.ok_bind]
        rw [fdivM_sm (by decide) (by decide)]
        simp only [R.ok_bind]
        rw [mulM_ok 31 32 q1 q2]
        simp only [R.ok_bind]
        rw [modM_ok (by decide)]
        simp only [R.ok_bind]
        rw [fdivM_sm (by decide) (by decide)]
        simp only [R.ok_bind]
        rw [getM_nat hz]
        simp only [R.ok_bind]
        rw [modM_ok (by omega)]
        simp only [R.ok_bind]
        rw [appM_ok (by omega)]
        rfl)
    rw [rangeL_length] at c
    refine ⟨s.2, ?_, ?_, ?_⟩
    · exact (congrArg (fun m : R (Int × List Int) => m >>= fun s5 => R.ok s5.2) e).trans rfl
    · rw [c.2.1, Nat.zero_add]
    · intro i z hz
      exact c.2.2.2 i z (by rw [Nat.zero_add]; exact (List.getElem?_eq_some_iff.mp hz).1) hz
/-! ### gcd -/
def gstep (s1 : Int × Int) (turn : Int) : R (Out Empty (Int × Int) (Int × Int)) := ((if (decide (s1.2 = (0 : Int))) = true then
      R.ok (.brk (s1.1, s1.2))
    else
      (modM s1.1 s1.2) >>= fun (rest : Int) =>
      R.ok s1.2 >>= fun (one : Int) =>
      R.ok rest >>= fun (two : Int) =>
      R.ok (.nxt (one, two))) : R (Out Empty (Int × Int) (Int × Int)))
theorem gstop (x : Int) (as : List Int) (a : Int) : loopB gstep (x :: as) (a, 0) = .ok (a, 0) := rfl
theorem gturn (x : Int) (as : List Int) (a b : Nat) (hb : b ≠ 0) : loopB gstep (x :: as) ((a : Int), (b : Int)) = loopB gstep as ((b : Int), ((a % b : Nat) : Int)) := by
  have hb' : ¬ ((b : Int) = 0) := by omega
  have e : gstep ((a : Int), (b : Int)) x = .ok (.nxt ((b : Int), ((a % b : Nat) : Int))) := by
    unfold gstep
    simp only [decide_eq_false hb', Bool.false_eq_true, if_false]
    rw [modM_ok hb', Int.fmod_eq_emod_of_nonneg _ (Int.natCast_nonneg b)]
    rfl
  conv => lhs; unfold loopB
  rw [e]
  rfl
theorem gcd_loop : ∀ (n : Nat) (as : List Int) (a b : Nat), b < 2 ^ n → 2 * n + 1 ≤ as.length → loopB gstep as ((a : Int), (b : Int)) = .ok ((Nat.gcd a b : Int), 0) := by
  intro n
  induction n with
  | zero =>
    intro as a b hb hl
    match as, hl with
    | x :: as, _ =>
      have e : b = 0 := by omega
      subst e
      rw [Nat.gcd_zero_right]
      exact gstop x as a
  | succ n ih =>
    intro as a b hb hl
    match as, hl with
    | x :: y :: as, hl =>
      by_cases h0 : b = 0
      · subst h0
        rw [Nat.gcd_zero_right]
        exact gstop x _ a
      · rw [gturn x (y :: as) a b h0]
        by_cases h1 : a % b = 0
        · rw [h1]
          have e : Nat.gcd a b = b := by rw [Nat.gcd_comm, Nat.gcd_rec, h1, Nat.gcd_zero_left]
          rw [e]
          exact gstop y as b
        · rw [gturn y as b (a % b) h1]
          have h2 : b % (a % b) < 2 ^ n := by
            have l1 : a % b < b := Nat.mod_lt _ (by omega)
            have l2 : b % (a % b) < a % b := Nat.mod_lt _ (by omega)
            have l3 := Nat.div_add_mod b (a % b)
            have l4 : 1 ≤ b / (a % b) := (Nat.one_le_div_iff (by omega)).mpr (by omega)
            have l5 : a % b ≤ (a % b) * (b / (a % b)) := Nat.le_mul_of_pos_right _ (by omega)
            rw [Nat.pow_succ] at hb
            omega
          rw [ih as (a % b) (b % (a % b)) h2 (by simp only [List.length_cons] at hl; omega)]
          have e : Nat.gcd (a % b) (b % (a % b)) = Nat.gcd a b := by
            rw [Nat.gcd_comm (a % b), ← Nat.gcd_rec (a % b) b, Nat.gcd_comm a b, Nat.gcd_rec b a]
          rw [e]
theorem law_gcd_ok (one two : Int) (h : two.natAbs < 2 ^ 49999) : law_gcd one two = .ok ((Int.gcd one two : Nat) : Int) := by
  have ab : ∀ z : Int, (if z < 0 then -z else z) = ((z.natAbs : Nat) : Int) := fun z => by split <;> omega
  have e : law_gcd one two = ((rngM 0 100000) >>= fun as => loopB gstep as ((if one < 0 then -one else one), (if two < 0 then -two else two)) >>= fun s2 => R.ok s2.1) := rfl
  rw [e, ab, ab, rngM_ok (by decide) (by decide) (by decide) (by decide)]
  simp only [R.ok_bind]
  rw [gcd_loop 49999 _ _ _ h (by rw [rangeL_length]; decide)]
  rfl
end Zk
set_option maxHeartbeats 4000000
set_option synthInstance.maxHeartbeats 400000
set_option synthInstance.maxSize 2000
/-! # the mirrors -/
namespace Lw
open PySem Zk
def m_law_below (one : (Int × Int)) (two : (Int × Int)) : R Bool :=
  ((mulM one.1 two.2) >>= fun x1 => (mulM two.1 one.2) >>= fun y2 => R.ok ((decide (x1 < y2))))

def m_law_cell_b1  (s1 : Int) (cell : Int) : R Int :=
  ((((mulM s1 (31 : Int)) >>= fun x2 => (modM cell (1000003 : Int)) >>= fun y3 => R.ok ((x2 + y3))) >>= fun z => R.ok z) >>= fun x4 => (modM x4 (1000003 : Int))) >>= fun (seed : Int) =>
  R.ok seed

def m_law_cell (script : (List Int)) (k : Int) : R Int :=
  (if (decide (k < ((script.length : Nat) : Int))) = true then
    (getM script k)
  else
    R.ok (17 : Int) >>= fun (seed : Int) =>
    R.ok script >>= fun as => foldR m_law_cell_b1 as seed >>= fun (s5 : Int) =>
    ((((mulM (s5 + (7 : Int)) (k + (3 : Int))) >>= fun x6 => (mulM x6 (69621 : Int))) >>= fun z => R.ok z) >>= fun x7 => (modM x7 (2147483647 : Int))))

def m_law_digits_b1  (s3 : ((List Int) × Int)) (size : Int) : R ((List Int) × Int) :=
  (modM s3.2 size) >>= fun z4 => appM s3.1 z4 >>= fun (row : List Int) =>
  (fdivM s3.2 size) >>= fun (rest : Int) =>
  R.ok (row, rest)

def m_law_digits_b2 (sizes : (List Int)) (s6 : (Int × (List Int))) (k : Int) : R (Int × (List Int)) :=
  (((((mulM s6.1 (48271 : Int)) >>= fun x7 => (mulM (974711 : Int) k) >>= fun y8 => R.ok ((x7 + y8))) >>= fun x9 => R.ok ((x9 + (12345 : Int)))) >>= fun z => R.ok z) >>= fun x10 => (modM x10 (2147483647 : Int))) >>= fun (seed : Int) =>
  (((((fdivM seed (65537 : Int)) >>= fun x11 => R.ok ((x11 + (3 : Int)))) >>= fun y12 => (mulM seed y12)) >>= fun z => R.ok z) >>= fun x13 => (modM x13 (2147483629 : Int))) >>= fun (twice : Int) =>
  ((fdivM twice (19 : Int)) >>= fun x14 => (getM sizes k) >>= fun y15 => (modM x14 y15)) >>= fun z16 => appM s6.2 z16 >>= fun (row : List Int) =>
  R.ok (seed, row)

def m_law_digits (cell : Int) (sizes : (List Int)) : R (List Int) :=
  R.ok ([] : List Int) >>= fun (row : List Int) =>
  R.ok cell >>= fun (rest : Int) =>
  (((powM (10 : Int) (18 : Int)) >>= fun y1 => R.ok ((decide (y1 ≤ rest)))) >>= fun z18 => if z18 = true then
    ((powM (10 : Int) (18 : Int)) >>= fun y2 => R.ok ((rest - y2))) >>= fun (rest : Int) =>
    R.ok sizes >>= fun as => foldR m_law_digits_b1 as (row, rest) >>= fun (s5 : ((List Int) × Int)) =>
    R.ok s5.1
  else
    (modM rest (2147483629 : Int)) >>= fun (seed : Int) =>
    rngM 0 (((sizes.length : Nat) : Int)) >>= fun as => foldR (m_law_digits_b2 sizes) as (seed, row) >>= fun (s17 : (Int × (List Int))) =>
    R.ok s17.2)

def m_law_gcd_b1  (s1 : (Int × Int)) (turn : Int) : R (Out Empty (Int × Int) (Int × Int)) :=
  (if (decide (s1.2 = (0 : Int))) = true then
    R.ok (.brk (s1.1, s1.2))
  else
    (modM s1.1 s1.2) >>= fun (rest : Int) =>
    R.ok s1.2 >>= fun (one : Int) =>
    R.ok rest >>= fun (two : Int) =>
    R.ok (.nxt (one, two)))

def m_law_gcd (one : Int) (two : Int) : R Int :=
  R.ok (if one < 0 then -one else one) >>= fun (one : Int) =>
  R.ok (if two < 0 then -two else two) >>= fun (two : Int) =>
  rngM 0 ((100000 : Int)) >>= fun as => loopB m_law_gcd_b1 as (one, two) >>= fun (s2 : (Int × Int)) =>
  R.ok s2.1

def m_law_least (top : Int) (divisor : Int) : R (Int × Int) :=
  ((if (decide (divisor < (0 : Int))) = true then R.ok (-top) >>= fun (top : Int) =>
    R.ok (-divisor) >>= fun (divisor : Int) =>
    R.ok (top, divisor) else R.ok (top, divisor)) : R (Int × Int)) >>= fun (j1 : (Int × Int)) =>
  (m_law_gcd j1.1 j1.2) >>= fun (shared : Int) =>
  ((fdivM j1.1 shared) >>= fun x2 => (fdivM j1.2 shared) >>= fun y3 => R.ok (x2, y3))

def m_law_due (k : Int) (r : Int) : R (Int × Int × ((Int × Int) × (Int × Int)) × ((Int × Int) × (Int × Int)) × (Int × Int) × (Int × Int)) :=
  (mulM (9 : Int) (k - (1 : Int))) >>= fun (n : Int) =>
  ((((mulM (-k) r) >>= fun x1 => R.ok (x1, (1 : Int))) >>= fun z => (m_law_least z.1 z.2)) >>= fun x4 => ((((mulM k (k + (1 : Int))) >>= fun x2 => (mulM x2 r)) >>= fun x3 => R.ok (x3, (k - (1 : Int)))) >>= fun z => (m_law_least z.1 z.2)) >>= fun y5 => R.ok (x4, y5)) >>= fun (fences : ((Int × Int) × (Int × Int))) =>
  ((((mulM (k + (1 : Int)) (n + (1 : Int))) >>= fun x6 => (mulM (k - (1 : Int)) n) >>= fun y7 => R.ok (x6, y7)) >>= fun z => (m_law_least z.1 z.2)) >>= fun y8 => R.ok (((1 : Int), (1 : Int)), y8)) >>= fun (moves : ((Int × Int) × (Int × Int))) =>
  (((mulM (k + (1 : Int)) (n + (1 : Int))) >>= fun y9 => R.ok ((k - (1 : Int)), y9)) >>= fun z => (m_law_least z.1 z.2)) >>= fun (gap : (Int × Int)) =>
  (((((mulM n (k + (1 : Int))) >>= fun x10 => R.ok ((x10 + k))) >>= fun y11 => (mulM (k + (1 : Int)) y11)) >>= fun x13 => ((mulM n (k - (1 : Int))) >>= fun x12 => (mulM x12 (k - (1 : Int)))) >>= fun y14 => R.ok (x13, y14)) >>= fun z => (m_law_least z.1 z.2)) >>= fun (factor : (Int × Int)) =>
  (((mulM k k) >>= fun x15 => (mulM x15 r)) >>= fun x16 => R.ok (x16, ((n + (1 : Int)), (fences, (moves, (gap, factor))))))

def m_law_minus (one : (Int × Int)) (two : (Int × Int)) : R (Int × Int) :=
  ((((mulM one.1 two.2) >>= fun x1 => (mulM two.1 one.2) >>= fun y2 => R.ok ((x1 - y2))) >>= fun x3 => (mulM one.2 two.2) >>= fun y4 => R.ok (x3, y4)) >>= fun z => (m_law_least z.1 z.2))

def m_law_over (one : (Int × Int)) (two : (Int × Int)) : R (Int × Int) :=
  (((mulM one.1 two.2) >>= fun x1 => (mulM one.2 two.1) >>= fun y2 => R.ok (x1, y2)) >>= fun z => (m_law_least z.1 z.2))

def m_law_plus (one : (Int × Int)) (two : (Int × Int)) : R (Int × Int) :=
  ((((mulM one.1 two.2) >>= fun x1 => (mulM two.1 one.2) >>= fun y2 => R.ok ((x1 + y2))) >>= fun x3 => (mulM one.2 two.2) >>= fun y4 => R.ok (x3, y4)) >>= fun z => (m_law_least z.1 z.2))

def m_law_times (one : (Int × Int)) (two : (Int × Int)) : R (Int × Int) :=
  (((mulM one.1 two.1) >>= fun x1 => (mulM one.2 two.2) >>= fun y2 => R.ok (x1, y2)) >>= fun z => (m_law_least z.1 z.2))

def m_law_fits (told : (Int × Int × ((Int × Int) × (Int × Int)) × ((Int × Int) × (Int × Int)) × (Int × Int) × (Int × Int))) (k : Int) (r : Int) : R Bool :=
  R.ok (told.1, (1 : Int)) >>= fun (steps : (Int × Int)) =>
  (((m_law_times steps told.2.2.2.1.1) >>= fun y1 => R.ok (told.2.2.1.1, y1)) >>= fun z => (m_law_plus z.1 z.2)) >>= fun (low : (Int × Int)) =>
  (((m_law_times steps told.2.2.2.1.2) >>= fun y2 => R.ok (told.2.2.1.2, y2)) >>= fun z => (m_law_plus z.1 z.2)) >>= fun (high : (Int × Int)) =>
  ((((((mulM k (k - (1 : Int))) >>= fun x3 => (mulM x3 r)) >>= fun x4 => R.ok (x4, (1 : Int))) >>= fun y5 => R.ok ((!decide (low = y5)))) >>= fun z7 => if z7 = true then R.ok true else ((m_law_times told.2.2.2.2.2 low) >>= fun y6 => R.ok ((!decide (high = y6))))) >>= fun z14 => if z14 = true then
    R.ok false
  else
    ((if (decide (told.2.2.2.1.2.1 ≤ (0 : Int))) = true then R.ok true else ((m_law_below (((1 : Int), (1 : Int))) told.2.2.2.2.2) >>= fun z => R.ok (!z))) >>= fun z13 => if z13 = true then
      R.ok false
    else
      (((m_law_over (((1 : Int), (1 : Int))) told.2.2.2.1.2) >>= fun x10 => (((((mulM k (k + (1 : Int))) >>= fun y8 => R.ok ((k - (1 : Int)), y8)) >>= fun z => (m_law_least z.1 z.2)) >>= fun x9 => R.ok (x9, told.2.2.2.2.1)) >>= fun z => (m_law_plus z.1 z.2)) >>= fun y11 => R.ok (x10, y11)) >>= fun z => (m_law_plus z.1 z.2)) >>= fun (total : (Int × Int)) =>
      ((m_law_minus (((1 : Int), (1 : Int))) (((1 : Int), k))) >>= fun y12 => R.ok ((decide (total = y12))))))

def m_law_whole (value : Int) : R Bool :=
  R.ok (true && (!false))

def m_law_is_fraction (value : (Int × Int)) : R Bool :=
  ((if (!true) = true then R.ok true else (if (!decide ((2 : Int) = (2 : Int))) = true then R.ok true else (((m_law_whole value.1) >>= fun z => R.ok (!z)) >>= fun z1 => if z1 = true then R.ok true else ((m_law_whole value.2) >>= fun z => R.ok (!z))))) >>= fun z3 => if z3 = true then
    R.ok false
  else
    (if (decide ((1 : Int) ≤ value.2)) = true then ((m_law_gcd value.1 value.2) >>= fun x2 => R.ok ((decide (x2 = (1 : Int))))) else R.ok false))

def m_fraction (top : Int) (bottom : Int) : R (Int × Int) :=
  (if (decide (bottom = (0 : Int))) = true then
    R.stuck
  else
    R.ok ((Int.gcd top bottom : Nat) : Int) >>= fun (shared : Int) =>
    ((if (decide (bottom < (0 : Int))) = true then R.ok (-shared) >>= fun (shared : Int) =>
      R.ok shared else R.ok shared) : R Int) >>= fun (j1 : Int) =>
    ((fdivM top j1) >>= fun x2 => (fdivM bottom j1) >>= fun y3 => R.ok (x2, y3)))

def m_grade_unit (grade : Int) : R Int :=
  ((mulM (9 : Int) grade) >>= fun x1 => R.ok ((x1 - (8 : Int))))

def m_grade_factor (grade : Int) : R (Int × Int) :=
  ((m_grade_unit grade) >>= fun x1 => R.ok ((x1 - (1 : Int)))) >>= fun (less : Int) =>
  (((((mulM less (grade + (1 : Int))) >>= fun x2 => R.ok ((x2 + grade))) >>= fun y3 => (mulM (grade + (1 : Int)) y3)) >>= fun x5 => ((mulM less (grade - (1 : Int))) >>= fun x4 => (mulM x4 (grade - (1 : Int)))) >>= fun y6 => R.ok (x5, y6)) >>= fun z => (m_fraction z.1 z.2))

def m_grade_fences (grade : Int) (rank : Int) : R ((Int × Int) × (Int × Int)) :=
  ((((mulM (-grade) rank) >>= fun x1 => R.ok (x1, (1 : Int))) >>= fun z => (m_fraction z.1 z.2)) >>= fun x4 => ((((mulM grade (grade + (1 : Int))) >>= fun x2 => (mulM x2 rank)) >>= fun x3 => R.ok (x3, (grade - (1 : Int)))) >>= fun z => (m_fraction z.1 z.2)) >>= fun y5 => R.ok (x4, y5))

def m_grade_gap (grade : Int) : R (Int × Int) :=
  ((((m_grade_unit grade) >>= fun y1 => (mulM (grade + (1 : Int)) y1)) >>= fun y2 => R.ok ((grade - (1 : Int)), y2)) >>= fun z => (m_fraction z.1 z.2))

def m_grade_moves (grade : Int) : R ((Int × Int) × (Int × Int)) :=
  (m_grade_unit grade) >>= fun (unit : Int) =>
  ((((mulM (grade + (1 : Int)) unit) >>= fun x1 => (mulM (grade - (1 : Int)) (unit - (1 : Int))) >>= fun y2 => R.ok (x1, y2)) >>= fun z => (m_fraction z.1 z.2)) >>= fun y3 => R.ok (((1 : Int), (1 : Int)), y3))

def m_grade_steps (grade : Int) (rank : Int) : R Int :=
  ((mulM grade grade) >>= fun x1 => (mulM x1 rank))

def m_law_told_b1  (s12 : Unit) (pair : ((Int × Int) × (Int × Int))) : R (Out (Option (Int × Int × ((Int × Int) × (Int × Int)) × ((Int × Int) × (Int × Int)) × (Int × Int) × (Int × Int))) Unit Unit) :=
  (if ((!true) || (!decide ((2 : Int) = (2 : Int)))) = true then
    R.ok (.ret ((none : (Option (Int × Int × ((Int × Int) × (Int × Int)) × ((Int × Int) × (Int × Int)) × (Int × Int) × (Int × Int))))))
  else
    ((((m_law_is_fraction pair.1) >>= fun z => R.ok (!z)) >>= fun z13 => if z13 = true then R.ok true else ((m_law_is_fraction pair.2) >>= fun z => R.ok (!z))) >>= fun z14 => if z14 = true then
      R.ok (.ret ((none : (Option (Int × Int × ((Int × Int) × (Int × Int)) × ((Int × Int) × (Int × Int)) × (Int × Int) × (Int × Int))))))
    else
      R.ok (.nxt ())))

def m_law_told (k : Int) (r : Int) : R (Option (Int × Int × ((Int × Int) × (Int × Int)) × ((Int × Int) × (Int × Int)) × (Int × Int) × (Int × Int))) :=
  ((m_grade_steps k r) >>= fun x9 => ((m_grade_unit k) >>= fun x7 => ((m_grade_fences k r) >>= fun x5 => ((m_grade_moves k) >>= fun x3 => ((m_grade_gap k) >>= fun x1 => (m_grade_factor k) >>= fun y2 => R.ok (x1, y2)) >>= fun y4 => R.ok (x3, y4)) >>= fun y6 => R.ok (x5, y6)) >>= fun y8 => R.ok (x7, y8)) >>= fun y10 => R.ok (x9, y10)) >>= fun (told : (Int × Int × ((Int × Int) × (Int × Int)) × ((Int × Int) × (Int × Int)) × (Int × Int) × (Int × Int))) =>
  ((((m_law_whole told.1) >>= fun z => R.ok (!z)) >>= fun z11 => if z11 = true then R.ok true else ((m_law_whole told.2.1) >>= fun z => R.ok (!z))) >>= fun z18 => if z18 = true then
    R.ok (none : (Option (Int × Int × ((Int × Int) × (Int × Int)) × ((Int × Int) × (Int × Int)) × (Int × Int) × (Int × Int))))
  else
    R.ok (told.2.2.1 :: (told.2.2.2.1 :: [])) >>= fun as => loopR m_law_told_b1 as () >>= End.cs (fun (s15 : Unit) =>
    ((((m_law_is_fraction told.2.2.2.2.1) >>= fun z => R.ok (!z)) >>= fun z16 => if z16 = true then R.ok true else ((m_law_is_fraction told.2.2.2.2.2) >>= fun z => R.ok (!z))) >>= fun z17 => if z17 = true then
      R.ok (none : (Option (Int × Int × ((Int × Int) × (Int × Int)) × ((Int × Int) × (Int × Int)) × (Int × Int) × (Int × Int))))
    else
      R.ok (some told))) (fun b => R.ok b))

def m_law_b1  (s16 : Unit) (pair : (Int × Int)) : R (Out Bool Unit Unit) :=
  (m_law_told pair.1 pair.2) >>= fun (told : (Option (Int × Int × ((Int × Int) × (Int × Int)) × ((Int × Int) × (Int × Int)) × (Int × Int) × (Int × Int)))) =>
  ((if told.isNone = true then R.ok true else ((unO told) >>= fun x17 => (m_law_due pair.1 pair.2) >>= fun y18 => R.ok ((!decide (x17 = y18))))) >>= fun z20 => if z20 = true then
    R.ok (.ret false)
  else
    unO told >>= fun (told : (Int × Int × ((Int × Int) × (Int × Int)) × ((Int × Int) × (Int × Int)) × (Int × Int) × (Int × Int))) =>
  (((m_law_fits told pair.1 pair.2) >>= fun z => R.ok (!z)) >>= fun z19 => if z19 = true then
      R.ok (.ret false)
    else
      R.ok (.nxt ())))

def m_law (script : (List Int)) : R Bool :=
  (((m_law_cell script ((0 : Int))) >>= fun x1 => R.ok (x1, ((9 : Int) :: ((11 : Int) :: ((9 : Int) :: ((11 : Int) :: [])))))) >>= fun z => (m_law_digits z.1 z.2)) >>= fun (row : (List Int)) =>
  ((((getM row (0 : Int)) >>= fun y2 => R.ok (((2 : Int) + y2))) >>= fun x3 => (getM row (1 : Int)) >>= fun y4 => R.ok (x3, y4)) >>= fun x14 => ((((getM row (2 : Int)) >>= fun y5 => R.ok (((2 : Int) + y5))) >>= fun x6 => (getM row (3 : Int)) >>= fun y7 => R.ok (x6, y7)) >>= fun x12 => ((((getM row (0 : Int)) >>= fun y8 => R.ok (((2 : Int) + y8))) >>= fun x9 => (getM row (1 : Int)) >>= fun y10 => R.ok (x9, y10)) >>= fun x11 => R.ok (x11 :: [])) >>= fun y13 => R.ok (x12 :: y13)) >>= fun y15 => R.ok (x14 :: y15)) >>= fun (asked : (List (Int × Int))) =>
  R.ok asked >>= fun as => loopR m_law_b1 as () >>= End.cs (fun (s21 : Unit) =>
  ((((getM row (0 : Int)) >>= fun x22 => (getM row (2 : Int)) >>= fun y23 => R.ok (x22, y23)) >>= fun z => R.ok (if z.2 < z.1 then z.2 else z.1)) >>= fun y24 => R.ok (((2 : Int) + y24))) >>= fun (least : Int) =>
  ((((getM row (0 : Int)) >>= fun x25 => (getM row (2 : Int)) >>= fun y26 => R.ok (x25, y26)) >>= fun z => R.ok (if z.2 > z.1 then z.2 else z.1)) >>= fun y27 => R.ok (((2 : Int) + y27))) >>= fun (most : Int) =>
  (if (decide (least = most)) = true then R.ok true else (((m_grade_factor most) >>= fun x28 => (m_grade_factor least) >>= fun y29 => R.ok (x28, y29)) >>= fun z => (m_law_below z.1 z.2)))) (fun b => R.ok b)
end Lw
set_option maxHeartbeats 4000000
/-! # law_k41_grades: every grade and rank, by the kernel -/
namespace Lw
open PySem Zk
theorem cell_is (s : List Int) (k : Int) : m_law_cell s k = law_cell s k := rfl
theorem digits_is (c : Int) (s : List Int) : m_law_digits c s = law_digits c s := rfl
def good (k r : Int) : Bool := match m_law_b1 () (k, r) with
  | .ok (.nxt _) => true
  | _ => false
theorem good_of {k r : Int} (h : good k r = true) : m_law_b1 () (k, r) = .ok (.nxt ()) := by
  unfold good at h
  split at h
  · assumption
  · cases h
def falls (i j : Int) : Bool := match (if (decide (i = j)) = true then R.ok true else (((m_grade_factor j) >>= fun x28 => (m_grade_factor i) >>= fun y29 => R.ok (x28, y29)) >>= fun z => (m_law_below z.1 z.2))) with
  | .ok b => b
  | _ => false
theorem falls_of {i j : Int} (h : falls i j = true) : (if (decide (i = j)) = true then R.ok true else (((m_grade_factor j) >>= fun x28 => (m_grade_factor i) >>= fun y29 => R.ok (x28, y29)) >>= fun z => (m_law_below z.1 z.2))) = .ok true := by
  unfold falls at h
  split at h
  · rename_i b e
    rw [e, h]
  · cases h
theorem all_good : ((List.range 9).all fun i => (List.range 11).all fun j => good (2 + (i : Int)) (j : Int)) = true := by decide +kernel
theorem all_falls : ((List.range 9).all fun i => (List.range 9).all fun j => if i ≤ j then falls (2 + (i : Int)) (2 + (j : Int)) else true) = true := by decide +kernel
theorem good_at {a b : Int} (h0 : 0 ≤ a) (h1 : a < 9) (h2 : 0 ≤ b) (h3 : b < 11) : m_law_b1 () (2 + a, b) = .ok (.nxt ()) := by
  have h := List.all_eq_true.mp (List.all_eq_true.mp all_good a.toNat (List.mem_range.mpr (by omega))) b.toNat (List.mem_range.mpr (by omega))
  have e1 : ((a.toNat : Nat) : Int) = a := by omega
  have e2 : ((b.toNat : Nat) : Int) = b := by omega
  rw [e1, e2] at h
  exact good_of h
theorem falls_at {a b : Int} (h0 : 0 ≤ a) (h1 : b < 9) (h2 : a ≤ b) : (if (decide (2 + a = 2 + b)) = true then R.ok true else (((m_grade_factor (2 + b)) >>= fun x28 => (m_grade_factor (2 + a)) >>= fun y29 => R.ok (x28, y29)) >>= fun z => (m_law_below z.1 z.2))) = .ok true := by
  have h := List.all_eq_true.mp (List.all_eq_true.mp all_falls a.toNat (List.mem_range.mpr (by omega))) b.toNat (List.mem_range.mpr (by omega))
  rw [if_pos (by omega)] at h
  have e1 : ((a.toNat : Nat) : Int) = a := by omega
  have e2 : ((b.toNat : Nat) : Int) = b := by omega
  rw [e1, e2] at h
  exact falls_of h
theorem digs4 {a b c d : Int} {row : List Int} (h : Digs [a, b, c, d] row) : ∃ p q r s : Int, row = [p, q, r, s] ∧ (0 ≤ p ∧ p < a) ∧ (0 ≤ q ∧ q < b) ∧ (0 ≤ r ∧ r < c) ∧ (0 ≤ s ∧ s < d) := by
  obtain ⟨hl, h⟩ := h
  match row, hl with
  | [p, q, r, s], _ =>
    obtain ⟨_, e0, k0⟩ := h 0 a rfl
    obtain ⟨_, e1, k1⟩ := h 1 b rfl
    obtain ⟨_, e2, k2⟩ := h 2 c rfl
    obtain ⟨_, e3, k3⟩ := h 3 d rfl
    cases e0; cases e1; cases e2; cases e3
    exact ⟨p, q, r, s, rfl, k0, k1, k2, k3⟩
theorem law_ok (ns : List Int) : m_law ns = .ok true := by
  obtain ⟨v, hv⟩ := law_cell_ok ns 0 (by decide)
  have hv : m_law_cell ns 0 = .ok v := hv
  obtain ⟨row, hr, hd⟩ := law_digits_ok v [9, 11, 9, 11] (by decide) (by decide)
  have hr : m_law_digits v [9, 11, 9, 11] = .ok row := hr
  obtain ⟨a, b, c, d, e, ha, hb, hc, hdd⟩ := digs4 hd
  subst e
  have g0 : getM [a, b, c, d] 0 = .ok a := rfl
  have g1 : getM [a, b, c, d] 1 = .ok b := rfl
  have g2 : getM [a, b, c, d] 2 = .ok c := rfl
  have g3 : getM [a, b, c, d] 3 = .ok d := rfl
  have l1 := good_at ha.1 ha.2 hb.1 hb.2
  have l2 := good_at hc.1 hc.2 hdd.1 hdd.2
  unfold m_law
  rw [hv]
  simp only [R.ok_bind]
  rw [hr]
  simp only [R.ok_bind, g0, g1, g2, g3]
  have el : loopR m_law_b1 [(2 + a, b), (2 + c, d), (2 + a, b)] () = .ok (.go ()) := by
    simp only [loopR, l1, l2, R.ok_bind]
  rw [el]
  simp only [R.ok_bind, End.cs]
  by_cases h : c < a
  · have h' : ¬ c > a := by omega
    rw [if_pos h, if_neg h']
    exact falls_at hc.1 ha.2 (by omega)
  · by_cases h' : c > a
    · rw [if_neg h, if_pos h']
      exact falls_at ha.1 hc.2 (by omega)
    · rw [if_neg h, if_neg h']
      exact falls_at ha.1 ha.2 (by omega)
end Lw
set_option maxHeartbeats 0
/-! # law_k41_grades: the text's places, the head -/
namespace Lw
open PySem PySem.Spec PyProof.Rows L2 Zk
def top (i : Nat) : Stmt := PySem.Challenge.pw_fourcords_k41_grades.main.body.getD i (.Pass ⟨0, 0, 0, 0⟩)
abbrev s__law_below : Stmt := top 23
def d__law_below : He.DefD := ⟨("_law_below", none), "_law_below", "_law_below", defArgs s__law_below, defBody s__law_below, defScope s__law_below, [], []⟩
abbrev di__law_below : Nat := 0
abbrev gi__law_below : Nat := 0
abbrev s__law_cell : Stmt := top 15
def d__law_cell : He.DefD := ⟨("_law_cell", none), "_law_cell", "_law_cell", defArgs s__law_cell, defBody s__law_cell, defScope s__law_cell, [], []⟩
abbrev di__law_cell : Nat := 1
abbrev gi__law_cell : Nat := 1
abbrev s__law_digits : Stmt := top 16
def d__law_digits : He.DefD := ⟨("_law_digits", none), "_law_digits", "_law_digits", defArgs s__law_digits, defBody s__law_digits, defScope s__law_digits, [], []⟩
abbrev di__law_digits : Nat := 2
abbrev gi__law_digits : Nat := 2
abbrev s__law_gcd : Stmt := top 17
def d__law_gcd : He.DefD := ⟨("_law_gcd", none), "_law_gcd", "_law_gcd", defArgs s__law_gcd, defBody s__law_gcd, defScope s__law_gcd, [], []⟩
abbrev di__law_gcd : Nat := 3
abbrev gi__law_gcd : Nat := 3
abbrev s__law_least : Stmt := top 18
def d__law_least : He.DefD := ⟨("_law_least", none), "_law_least", "_law_least", defArgs s__law_least, defBody s__law_least, defScope s__law_least, [], []⟩
abbrev di__law_least : Nat := 4
abbrev gi__law_least : Nat := 4
abbrev s__law_due : Stmt := top 26
def d__law_due : He.DefD := ⟨("_law_due", none), "_law_due", "_law_due", defArgs s__law_due, defBody s__law_due, defScope s__law_due, [], []⟩
abbrev di__law_due : Nat := 5
abbrev gi__law_due : Nat := 5
abbrev s__law_minus : Stmt := top 20
def d__law_minus : He.DefD := ⟨("_law_minus", none), "_law_minus", "_law_minus", defArgs s__law_minus, defBody s__law_minus, defScope s__law_minus, [], []⟩
abbrev di__law_minus : Nat := 6
abbrev gi__law_minus : Nat := 6
abbrev s__law_over : Stmt := top 22
def d__law_over : He.DefD := ⟨("_law_over", none), "_law_over", "_law_over", defArgs s__law_over, defBody s__law_over, defScope s__law_over, [], []⟩
abbrev di__law_over : Nat := 7
abbrev gi__law_over : Nat := 7
abbrev s__law_plus : Stmt := top 19
def d__law_plus : He.DefD := ⟨("_law_plus", none), "_law_plus", "_law_plus", defArgs s__law_plus, defBody s__law_plus, defScope s__law_plus, [], []⟩
abbrev di__law_plus : Nat := 8
abbrev gi__law_plus : Nat := 8
abbrev s__law_times : Stmt := top 21
def d__law_times : He.DefD := ⟨("_law_times", none), "_law_times", "_law_times", defArgs s__law_times, defBody s__law_times, defScope s__law_times, [], []⟩
abbrev di__law_times : Nat := 9
abbrev gi__law_times : Nat := 9
abbrev s__law_fits : Stmt := top 27
def d__law_fits : He.DefD := ⟨("_law_fits", none), "_law_fits", "_law_fits", defArgs s__law_fits, defBody s__law_fits, defScope s__law_fits, [], []⟩
abbrev di__law_fits : Nat := 10
abbrev gi__law_fits : Nat := 10
abbrev s__law_whole : Stmt := top 14
def d__law_whole : He.DefD := ⟨("_law_whole", none), "_law_whole", "_law_whole", defArgs s__law_whole, defBody s__law_whole, defScope s__law_whole, [], []⟩
abbrev di__law_whole : Nat := 11
abbrev gi__law_whole : Nat := 11
abbrev s__law_is_fraction : Stmt := top 24
def d__law_is_fraction : He.DefD := ⟨("_law_is_fraction", none), "_law_is_fraction", "_law_is_fraction", defArgs s__law_is_fraction, defBody s__law_is_fraction, defScope s__law_is_fraction, [], []⟩
abbrev di__law_is_fraction : Nat := 12
abbrev gi__law_is_fraction : Nat := 12
abbrev s_fraction : Stmt := top 5
def d_fraction : He.DefD := ⟨("fraction", none), "fraction", "fraction", defArgs s_fraction, defBody s_fraction, defScope s_fraction, [], []⟩
abbrev di_fraction : Nat := 13
abbrev gi_fraction : Nat := 13
abbrev s_grade_unit : Stmt := top 9
def d_grade_unit : He.DefD := ⟨("grade_unit", none), "grade_unit", "grade_unit", defArgs s_grade_unit, defBody s_grade_unit, defScope s_grade_unit, [], []⟩
abbrev di_grade_unit : Nat := 14
abbrev gi_grade_unit : Nat := 14
abbrev s_grade_factor : Stmt := top 12
def d_grade_factor : He.DefD := ⟨("grade_factor", none), "grade_factor", "grade_factor", defArgs s_grade_factor, defBody s_grade_factor, defScope s_grade_factor, [], []⟩
abbrev di_grade_factor : Nat := 15
abbrev gi_grade_factor : Nat := 15
abbrev s_grade_fences : Stmt := top 8
def d_grade_fences : He.DefD := ⟨("grade_fences", none), "grade_fences", "grade_fences", defArgs s_grade_fences, defBody s_grade_fences, defScope s_grade_fences, [], []⟩
abbrev di_grade_fences : Nat := 16
abbrev gi_grade_fences : Nat := 16
abbrev s_grade_gap : Stmt := top 11
def d_grade_gap : He.DefD := ⟨("grade_gap", none), "grade_gap", "grade_gap", defArgs s_grade_gap, defBody s_grade_gap, defScope s_grade_gap, [], []⟩
abbrev di_grade_gap : Nat := 17
abbrev gi_grade_gap : Nat := 17
abbrev s_grade_moves : Stmt := top 10
def d_grade_moves : He.DefD := ⟨("grade_moves", none), "grade_moves", "grade_moves", defArgs s_grade_moves, defBody s_grade_moves, defScope s_grade_moves, [], []⟩
abbrev di_grade_moves : Nat := 18
abbrev gi_grade_moves : Nat := 18
abbrev s_grade_steps : Stmt := top 7
def d_grade_steps : He.DefD := ⟨("grade_steps", none), "grade_steps", "grade_steps", defArgs s_grade_steps, defBody s_grade_steps, defScope s_grade_steps, [], []⟩
abbrev di_grade_steps : Nat := 19
abbrev gi_grade_steps : Nat := 19
abbrev s__law_told : Stmt := top 25
def d__law_told : He.DefD := ⟨("_law_told", none), "_law_told", "_law_told", defArgs s__law_told, defBody s__law_told, defScope s__law_told, [], []⟩
abbrev di__law_told : Nat := 20
abbrev gi__law_told : Nat := 20
abbrev s_law : Stmt := top 28
def d_law : He.DefD := ⟨("law", none), "law", "law", defArgs s_law, defBody s_law, defScope s_law, [], []⟩
abbrev di_law : Nat := 21
abbrev gi_law : Nat := 21
abbrev fi_len : Nat := 22
abbrev fi_int : Nat := 23
abbrev fi_range : Nat := 24
abbrev fi_abs : Nat := 25
abbrev fi_isinstance : Nat := 26
abbrev fi_bool : Nat := 27
abbrev fi_tuple : Nat := 28
abbrev fi_min : Nat := 29
abbrev fi_max : Nat := 30
def fn : List He.DefD := [d__law_below, d__law_cell, d__law_digits, d__law_gcd, d__law_least, d__law_due, d__law_minus, d__law_over, d__law_plus, d__law_times, d__law_fits, d__law_whole, d__law_is_fraction, d_fraction, d_grade_unit, d_grade_factor, d_grade_fences, d_grade_gap, d_grade_moves, d_grade_steps, d__law_told, d_law]
def fa : List He.Fa := [.glo "_law_below", .glo "_law_cell", .glo "_law_digits", .glo "_law_gcd", .glo "_law_least", .glo "_law_due", .glo "_law_minus", .glo "_law_over", .glo "_law_plus", .glo "_law_times", .glo "_law_fits", .glo "_law_whole", .glo "_law_is_fraction", .glo "fraction", .glo "grade_unit", .glo "grade_factor", .glo "grade_fences", .glo "grade_gap", .glo "grade_moves", .glo "grade_steps", .glo "_law_told", .glo "law", .free "len", .free "int", .free "range", .free "abs", .free "isinstance", .free "bool", .free "tuple", .free "min", .free "max"]
def hv : List (Str × Value) := [("gcd", .builtin "math.gcd")]
abbrev Gl0 (K : PySem.W.Frag) (mg : Str → Option Value) (base : Heap) : Prop := Glb fa fn (heldB hv) K mg base
abbrev Rw : PySem.W.OpenRow := PySem.W.OpenLaw.row PySem.Challenge.rw_fourcords_k41_grades
abbrev hk : PySem.W.Hook := hookZ 4 fa fn (heldB hv)
def ob (s : PySem.W.SharedT) : He.AlD × Bool := obsZ 4 fa fn (heldB hv) (HandSHeadRun.getT s)
theorem ob_eq (s : PySem.W.SharedT) : ob s = hk.obs s.abs := obsZ_eq (HandSHeadRun.getT_eq s)
def loose : List PySem.Str := (["gcd", "CordError", "ZeroBottom", "fraction", "grade_steps", "grade_fences", "grade_unit", "grade_moves", "grade_gap", "grade_factor", "_law_whole", "_law_cell", "_law_digits", "_law_gcd", "_law_least", "_law_plus", "_law_minus", "_law_times", "_law_over", "_law_below"] : List PySem.Str) ++ (["_law_is_fraction", "_law_told", "_law_due", "_law_fits"] : List PySem.Str)
theorem run (w : World) : HandSHeadRun.RunEqI Rw (PySem.W.view Rw.prog [0, 28]) hk ob 60000 loose w := by
  unfold HandSHeadRun.RunEqI
  kernel_rfl
end Lw
set_option maxHeartbeats 4000000
set_option synthInstance.maxHeartbeats 400000
set_option synthInstance.maxSize 2000
/-! # each def keeps its mirror -/
namespace Lw
open PySem PySem.Spec PyProof.Rows L2 Zk
section
variable {P : Program} {w : World} {K : PySem.W.Frag} {mg : Str → Option Value} {base : Heap}
theorem sc_law_below : FnScope ["one", "two"] ["one", "two"] (defScope s__law_below) := ⟨rfl, rfl, rfl, by decide +kernel, rfl, by decide +kernel, by decide +kernel⟩
theorem fn_law_below (T : Gl0 K mg base) {fd : FuncData} (D : FunD K d__law_below.name d__law_below.qual d__law_below.params d__law_below.body d__law_below.scope (d__law_below.dvs K) (d__law_below.kws K) (He.fAd K d__law_below.at_) fd) : FnOk P w K mg base (L2.CX P w) 1 (He.fAd K d__law_below.at_) fd ["one", "two"] (spF K (aCons (cP (aCons cI (aOne cI))) (aOne (cP (aCons cI (aOne cI))))) cB (fun z => m_law_below z.1 z.2)) := by
  have sn := sc_law_below.nd
  refine fn_mk (ν := Empty) (κ := Empty) (eN := fun _ => []) (eK := fun _ => []) D sc_law_below rfl (by decide) (fun cdv A outer s H E hr hp hw z => ?_)
  obtain ⟨one, two⟩ := z
  show DS _ E true [.st (Int × Int) (cP (aCons cI (aOne cI))) one, .st (Int × Int) (cP (aCons cI (aOne cI))) two] _ _ _ _ (fun b => (.ret b : Out Bool Empty Empty)) (m_law_below one two)
  unfold m_law_below
  exact (retF (lt_mm (mul_pp (ix_0_2p (var 0)) (ix_1_2p (var 1))) (mul_pp (ix_0_2p (var 1)) (ix_1_2p (var 0)))))
theorem ok_law_below (T : Gl0 K mg base) : FnI P w K mg base "_law_below" 1 ["one", "two"] (aCons (cP (aCons cI (aOne cI))) (aOne (cP (aCons cI (aOne cI))))) cB (fun z => m_law_below z.1 z.2) := by
  obtain ⟨fd, D⟩ := T.c.def_ di__law_below (d := d__law_below) rfl
  exact fni (fn_law_below T D) (T.glo gi__law_below) D.kp (D.bindsN fun _ _ _ _ _ _ us hl => match us, hl with | [_, _], _ => rfl)

theorem sc_law_cell : FnScope ["script", "k", "seed", "cell"] ["script", "k"] (defScope s__law_cell) := ⟨rfl, rfl, rfl, by decide +kernel, rfl, by decide +kernel, by decide +kernel⟩
theorem fn_law_cell (T : Gl0 K mg base) {fd : FuncData} (D : FunD K d__law_cell.name d__law_cell.qual d__law_cell.params d__law_cell.body d__law_cell.scope (d__law_cell.dvs K) (d__law_cell.kws K) (He.fAd K d__law_cell.at_) fd) : FnOk P w K mg base (L2.CX P w) 1 (He.fAd K d__law_cell.at_) fd ["script", "k"] (spF K (aCons (cL cI) (aOne cI)) cI (fun z => m_law_cell z.1 z.2)) := by
  have sn := sc_law_cell.nd
  refine fn_mk (ν := Empty) (κ := Empty) (eN := fun _ => []) (eK := fun _ => []) D sc_law_cell rfl (by decide) (fun cdv A outer s H E hr hp hw z => ?_)
  obtain ⟨script, k⟩ := z
  show DS _ E true [.st (List Int) (cL cI) script, .st Int cI k, .none, .none] _ _ _ _ (fun b => (.ret b : Out Int Empty Empty)) (m_law_cell script k)
  unfold m_law_cell
  exact (ifA_p (ltT_pp (var 1) (lenL_p (T.free fi_len) (var 0)))
    (retF (ixL_pp (var 0) (var 1)))
    (asg 2 sn int fun seed =>
    (forF (eL := fun (s1 : Int) => [.st (List Int) (cL cI) script, .st Int cI k, .st Int cI s1, .none]) rfl hw (iterL (var 0)) (tgN 3 sn) (leS (leS (leS (leN leZ)))) (fun s1 cell => by
      unfold m_law_cell_b1
      exact (asg 2 sn (mod_mp (intI_m (T.free fi_int) (add_mm (mul_pp (var 2) int) (mod_pp (intI_p (T.free fi_int) (var 3)) int))) int) fun seed =>
  (nil rfl (leS (leS (leS (leN leZ)))))))
    fun s5 => (retF (mod_mp (intI_m (T.free fi_int) (mul_mp (mul_pp (add_pp (var 2) int) (add_pp (var 1) int)) int)) int)))))
theorem ok_law_cell (T : Gl0 K mg base) : FnI P w K mg base "_law_cell" 1 ["script", "k"] (aCons (cL cI) (aOne cI)) cI (fun z => m_law_cell z.1 z.2) := by
  obtain ⟨fd, D⟩ := T.c.def_ di__law_cell (d := d__law_cell) rfl
  exact fni (fn_law_cell T D) (T.glo gi__law_cell) D.kp (D.bindsN fun _ _ _ _ _ _ us hl => match us, hl with | [_, _], _ => rfl)

theorem sc_law_digits : FnScope ["cell", "sizes", "row", "rest", "size", "seed", "k", "twice"] ["cell", "sizes"] (defScope s__law_digits) := ⟨rfl, rfl, rfl, by decide +kernel, rfl, by decide +kernel, by decide +kernel⟩
theorem fn_law_digits (T : Gl0 K mg base) {fd : FuncData} (D : FunD K d__law_digits.name d__law_digits.qual d__law_digits.params d__law_digits.body d__law_digits.scope (d__law_digits.dvs K) (d__law_digits.kws K) (He.fAd K d__law_digits.at_) fd) : FnOk P w K mg base (L2.CX P w) 1 (He.fAd K d__law_digits.at_) fd ["cell", "sizes"] (spF K (aCons cI (aOne (cL cI))) (cL cI) (fun z => m_law_digits z.1 z.2)) := by
  have sn := sc_law_digits.nd
  refine fn_mk (ν := Empty) (κ := Empty) (eN := fun _ => []) (eK := fun _ => []) D sc_law_digits rfl (by decide) (fun cdv A outer s H E hr hp hw z => ?_)
  obtain ⟨cell, sizes⟩ := z
  show DS _ E true [.st Int cI cell, .st (List Int) (cL cI) sizes, .none, .none, .none, .none, .none, .none] _ _ _ _ (fun b => (.ret b : Out (List Int) Empty Empty)) (m_law_digits cell sizes)
  unfold m_law_digits
  exact (asgM 2 sn (lst0 (c := cI)) fun row =>
  (asg 3 sn (intI_p (T.free fi_int) (var 0)) fun rest =>
  (ifA (geT_pm (var 3) (pow_pp int int))
    (asg 3 sn (sub_pm (var 3) (pow_pp int int)) fun rest =>
    (forF (eL := fun (s3 : ((List Int) × Int)) => [.st Int cI cell, .st (List Int) (cL cI) sizes, .mu Int cI s3.1, .st Int cI s3.2, .none, .none, .none, .none]) rfl hw (iterL (var 1)) (tgN 4 sn) (leS (leS (leS (leS (leN (leN (leN (leN leZ)))))))) (fun s3 size => by
      unfold m_law_digits_b1
      exact (app 2 (mod_pp (intI_p (T.free fi_int) (var 3)) (var 4)) fun row =>
  (asg 3 sn (fdiv_pp (intI_p (T.free fi_int) (var 3)) (var 4)) fun rest =>
  (nil rfl (leS (leS (leS (leS (leN (leN (leN (leN leZ))))))))))))
    fun s5 => (settle 2 rfl (retF (var 2)))))
    (asg 5 sn (mod_pp (intI_p (T.free fi_int) (var 3)) int) fun seed =>
    (forF (eL := fun (s6 : (Int × (List Int))) => [.st Int cI cell, .st (List Int) (cL cI) sizes, .mu Int cI s6.2, .st Int cI rest, .none, .st Int cI s6.1, .none, .none]) rfl hw (iterR1_p (T.free fi_range) (lenL_p (T.free fi_len) (var 1))) (tgN 6 sn) (leS (leS (leS (leS (leN (leS (leN (leN leZ)))))))) (fun s6 k => by
      unfold m_law_digits_b2
      exact (asg 5 sn (mod_mp (intI_m (T.free fi_int) (add_mp (add_mm (mul_pp (var 5) int) (mul_pp int (var 6))) int)) int) fun seed =>
  (asg 7 sn (mod_mp (intI_m (T.free fi_int) (mul_pm (var 5) (add_mp (fdiv_pp (var 5) int) int))) int) fun twice =>
  (app 2 (mod_mm (fdiv_pp (var 7) int) (ixL_pp (var 1) (var 6))) fun row =>
  (nil rfl (leS (leS (leS (leS (leN (leS (leN (leN leZ)))))))))))))
    fun s17 => (settle 2 rfl (retF (var 2))))))))
theorem ok_law_digits (T : Gl0 K mg base) : FnI P w K mg base "_law_digits" 1 ["cell", "sizes"] (aCons cI (aOne (cL cI))) (cL cI) (fun z => m_law_digits z.1 z.2) := by
  obtain ⟨fd, D⟩ := T.c.def_ di__law_digits (d := d__law_digits) rfl
  exact fni (fn_law_digits T D) (T.glo gi__law_digits) D.kp (D.bindsN fun _ _ _ _ _ _ us hl => match us, hl with | [_, _], _ => rfl)

theorem sc_law_gcd : FnScope ["one", "two", "turn", "rest"] ["one", "two"] (defScope s__law_gcd) := ⟨rfl, rfl, rfl, by decide +kernel, rfl, by decide +kernel, by decide +kernel⟩
theorem fn_law_gcd (T : Gl0 K mg base) {fd : FuncData} (D : FunD K d__law_gcd.name d__law_gcd.qual d__law_gcd.params d__law_gcd.body d__law_gcd.scope (d__law_gcd.dvs K) (d__law_gcd.kws K) (He.fAd K d__law_gcd.at_) fd) : FnOk P w K mg base (L2.CX P w) 1 (He.fAd K d__law_gcd.at_) fd ["one", "two"] (spF K (aCons cI (aOne cI)) cI (fun z => m_law_gcd z.1 z.2)) := by
  have sn := sc_law_gcd.nd
  refine fn_mk (ν := Empty) (κ := Empty) (eN := fun _ => []) (eK := fun _ => []) D sc_law_gcd rfl (by decide) (fun cdv A outer s H E hr hp hw z => ?_)
  obtain ⟨one, two⟩ := z
  show DS _ E true [.st Int cI one, .st Int cI two, .none, .none] _ _ _ _ (fun b => (.ret b : Out Int Empty Empty)) (m_law_gcd one two)
  unfold m_law_gcd
  exact (asg 0 sn (absI_p (T.free fi_abs) (var 0)) fun one =>
  (asg 1 sn (absI_p (T.free fi_abs) (var 1)) fun two =>
  (forB (eL := fun (s1 : (Int × Int)) => [.st Int cI s1.1, .st Int cI s1.2, .none, .none]) rfl hw (iterR1_p (T.free fi_range) int) (tgN 2 sn) (leS (leS (leN (leN leZ)))) (fun s1 turn => by
    unfold m_law_gcd_b1
    exact (ifA_p (eqIT_pp (var 1) int)
    (brk (leS (leS (leN (leN leZ)))) rfl)
    (asg 3 sn (mod_pp (intI_p (T.free fi_int) (var 0)) (var 1)) fun rest =>
    (asg 0 sn (var 1) fun one =>
    (asg 1 sn (var 3) fun two =>
    (nil rfl (leS (leS (leN (leN leZ))))))))))
  fun s2 => (retF (var 0)))))
theorem ok_law_gcd (T : Gl0 K mg base) : FnI P w K mg base "_law_gcd" 1 ["one", "two"] (aCons cI (aOne cI)) cI (fun z => m_law_gcd z.1 z.2) := by
  obtain ⟨fd, D⟩ := T.c.def_ di__law_gcd (d := d__law_gcd) rfl
  exact fni (fn_law_gcd T D) (T.glo gi__law_gcd) D.kp (D.bindsN fun _ _ _ _ _ _ us hl => match us, hl with | [_, _], _ => rfl)

theorem sc_law_least : FnScope ["top", "divisor", "shared"] ["top", "divisor"] (defScope s__law_least) := ⟨rfl, rfl, rfl, by decide +kernel, rfl, by decide +kernel, by decide +kernel⟩
theorem fn_law_least (T : Gl0 K mg base) {fd : FuncData} (D : FunD K d__law_least.name d__law_least.qual d__law_least.params d__law_least.body d__law_least.scope (d__law_least.dvs K) (d__law_least.kws K) (He.fAd K d__law_least.at_) fd) : FnOk P w K mg base (L2.CX P w) 2 (He.fAd K d__law_least.at_) fd ["top", "divisor"] (spF K (aCons cI (aOne cI)) (cP (aCons cI (aOne cI))) (fun z => m_law_least z.1 z.2)) := by
  have F_law_gcd := ok_law_gcd (P := P) (w := w) T
  have sn := sc_law_least.nd
  refine fn_mk (ν := Empty) (κ := Empty) (eN := fun _ => []) (eK := fun _ => []) D sc_law_least rfl (by decide) (fun cdv A outer s H E hr hp hw z => ?_)
  obtain ⟨top, divisor⟩ := z
  show DS _ E true [.st Int cI top, .st Int cI divisor, .none] _ _ _ _ (fun b => (.ret b : Out (Int × Int) Empty Empty)) (m_law_least top divisor)
  unfold m_law_least
  exact (ifJ_p (eJ := fun (j1 : (Int × Int)) => [.st Int cI j1.1, .st Int cI j1.2, .none]) (ltT_pp (var 1) int)
    (asg 0 sn (neg_p (var 0)) fun top =>
    (asg 1 sn (neg_p (var 1)) fun divisor =>
    (nil rfl (leS (leS (leN leZ))))))
    (nil rfl (leS (leS (leN leZ)))) fun j1 =>
  (asg 2 sn (callP F_law_gcd (hr.mono (by decide)) hp (argC_pp (var 0) (arg1 (var 1)))) fun shared =>
  (retF (tupP (argC_mm (fdiv_pp (var 0) (var 2)) (arg1 (fdiv_pp (var 1) (var 2))))))))
theorem ok_law_least (T : Gl0 K mg base) : FnI P w K mg base "_law_least" 2 ["top", "divisor"] (aCons cI (aOne cI)) (cP (aCons cI (aOne cI))) (fun z => m_law_least z.1 z.2) := by
  obtain ⟨fd, D⟩ := T.c.def_ di__law_least (d := d__law_least) rfl
  exact fni (fn_law_least T D) (T.glo gi__law_least) D.kp (D.bindsN fun _ _ _ _ _ _ us hl => match us, hl with | [_, _], _ => rfl)

theorem sc_law_due : FnScope ["k", "r", "n", "fences", "moves", "gap", "factor"] ["k", "r"] (defScope s__law_due) := ⟨rfl, rfl, rfl, by decide +kernel, rfl, by decide +kernel, by decide +kernel⟩
theorem fn_law_due (T : Gl0 K mg base) {fd : FuncData} (D : FunD K d__law_due.name d__law_due.qual d__law_due.params d__law_due.body d__law_due.scope (d__law_due.dvs K) (d__law_due.kws K) (He.fAd K d__law_due.at_) fd) : FnOk P w K mg base (L2.CX P w) 3 (He.fAd K d__law_due.at_) fd ["k", "r"] (spF K (aCons cI (aOne cI)) (cH (aCons cI (aCons cI (aCons (cP (aCons (cP (aCons cI (aOne cI))) (aOne (cP (aCons cI (aOne cI)))))) (aCons (cP (aCons (cP (aCons cI (aOne cI))) (aOne (cP (aCons cI (aOne cI)))))) (aCons (cP (aCons cI (aOne cI))) (aOne (cP (aCons cI (aOne cI)))))))))) (fun z => m_law_due z.1 z.2)) := by
  have F_law_least := ok_law_least (P := P) (w := w) T
  have sn := sc_law_due.nd
  refine fn_mk (ν := Empty) (κ := Empty) (eN := fun _ => []) (eK := fun _ => []) D sc_law_due rfl (by decide) (fun cdv A outer s H E hr hp hw z => ?_)
  obtain ⟨k, r⟩ := z
  show DS _ E true [.st Int cI k, .st Int cI r, .none, .none, .none, .none, .none] _ _ _ _ (fun b => (.ret b : Out (Int × Int × ((Int × Int) × (Int × Int)) × ((Int × Int) × (Int × Int)) × (Int × Int) × (Int × Int)) Empty Empty)) (m_law_due k r)
  unfold m_law_due
  exact (asg 2 sn (mul_pp int (sub_pp (var 0) int)) fun n =>
  (asg 3 sn (tupP (argC_mm (call F_law_least (hr.mono (by decide)) hp (argC_mp (mul_pp (neg_p (var 0)) (var 1)) (arg1 int))) (arg1 (call F_law_least (hr.mono (by decide)) hp (argC_mp (mul_mp (mul_pp (var 0) (add_pp (var 0) int)) (var 1)) (arg1 (sub_pp (var 0) int))))))) fun fences =>
  (asg 4 sn (tupP (argC_pm (tupP (argC_pp int (arg1 int))) (arg1 (call F_law_least (hr.mono (by decide)) hp (argC_mm (mul_pp (add_pp (var 0) int) (add_pp (var 2) int)) (arg1 (mul_pp (sub_pp (var 0) int) (var 2)))))))) fun moves =>
  (asg 5 sn (call F_law_least (hr.mono (by decide)) hp (argC_pm (sub_pp (var 0) int) (arg1 (mul_pp (add_pp (var 0) int) (add_pp (var 2) int))))) fun gap =>
  (asg 6 sn (call F_law_least (hr.mono (by decide)) hp (argC_mm (mul_pm (add_pp (var 0) int) (add_mp (mul_pp (var 2) (add_pp (var 0) int)) (var 0))) (arg1 (mul_mp (mul_pp (var 2) (sub_pp (var 0) int)) (sub_pp (var 0) int))))) fun factor =>
  (retF (lstH (argC_mp (mul_mp (mul_pp (var 0) (var 0)) (var 1)) (argC_pp (add_pp (var 2) int) (argC_pp (var 3) (argC_pp (var 4) (argC_pp (var 5) (arg1 (var 6))))))))))))))
theorem ok_law_due (T : Gl0 K mg base) : FnI P w K mg base "_law_due" 3 ["k", "r"] (aCons cI (aOne cI)) (cH (aCons cI (aCons cI (aCons (cP (aCons (cP (aCons cI (aOne cI))) (aOne (cP (aCons cI (aOne cI)))))) (aCons (cP (aCons (cP (aCons cI (aOne cI))) (aOne (cP (aCons cI (aOne cI)))))) (aCons (cP (aCons cI (aOne cI))) (aOne (cP (aCons cI (aOne cI)))))))))) (fun z => m_law_due z.1 z.2) := by
  obtain ⟨fd, D⟩ := T.c.def_ di__law_due (d := d__law_due) rfl
  exact fni (fn_law_due T D) (T.glo gi__law_due) D.kp (D.bindsN fun _ _ _ _ _ _ us hl => match us, hl with | [_, _], _ => rfl)

theorem sc_law_minus : FnScope ["one", "two"] ["one", "two"] (defScope s__law_minus) := ⟨rfl, rfl, rfl, by decide +kernel, rfl, by decide +kernel, by decide +kernel⟩
theorem fn_law_minus (T : Gl0 K mg base) {fd : FuncData} (D : FunD K d__law_minus.name d__law_minus.qual d__law_minus.params d__law_minus.body d__law_minus.scope (d__law_minus.dvs K) (d__law_minus.kws K) (He.fAd K d__law_minus.at_) fd) : FnOk P w K mg base (L2.CX P w) 3 (He.fAd K d__law_minus.at_) fd ["one", "two"] (spF K (aCons (cP (aCons cI (aOne cI))) (aOne (cP (aCons cI (aOne cI))))) (cP (aCons cI (aOne cI))) (fun z => m_law_minus z.1 z.2)) := by
  have F_law_least := ok_law_least (P := P) (w := w) T
  have sn := sc_law_minus.nd
  refine fn_mk (ν := Empty) (κ := Empty) (eN := fun _ => []) (eK := fun _ => []) D sc_law_minus rfl (by decide) (fun cdv A outer s H E hr hp hw z => ?_)
  obtain ⟨one, two⟩ := z
  show DS _ E true [.st (Int × Int) (cP (aCons cI (aOne cI))) one, .st (Int × Int) (cP (aCons cI (aOne cI))) two] _ _ _ _ (fun b => (.ret b : Out (Int × Int) Empty Empty)) (m_law_minus one two)
  unfold m_law_minus
  exact (retF (call F_law_least (hr.mono (by decide)) hp (argC_mm (sub_mm (mul_pp (ix_0_2p (var 0)) (ix_1_2p (var 1))) (mul_pp (ix_0_2p (var 1)) (ix_1_2p (var 0)))) (arg1 (mul_pp (ix_1_2p (var 0)) (ix_1_2p (var 1)))))))
theorem ok_law_minus (T : Gl0 K mg base) : FnI P w K mg base "_law_minus" 3 ["one", "two"] (aCons (cP (aCons cI (aOne cI))) (aOne (cP (aCons cI (aOne cI))))) (cP (aCons cI (aOne cI))) (fun z => m_law_minus z.1 z.2) := by
  obtain ⟨fd, D⟩ := T.c.def_ di__law_minus (d := d__law_minus) rfl
  exact fni (fn_law_minus T D) (T.glo gi__law_minus) D.kp (D.bindsN fun _ _ _ _ _ _ us hl => match us, hl with | [_, _], _ => rfl)

theorem sc_law_over : FnScope ["one", "two"] ["one", "two"] (defScope s__law_over) := ⟨rfl, rfl, rfl, by decide +kernel, rfl, by decide +kernel, by decide +kernel⟩
theorem fn_law_over (T : Gl0 K mg base) {fd : FuncData} (D : FunD K d__law_over.name d__law_over.qual d__law_over.params d__law_over.body d__law_over.scope (d__law_over.dvs K) (d__law_over.kws K) (He.fAd K d__law_over.at_) fd) : FnOk P w K mg base (L2.CX P w) 3 (He.fAd K d__law_over.at_) fd ["one", "two"] (spF K (aCons (cP (aCons cI (aOne cI))) (aOne (cP (aCons cI (aOne cI))))) (cP (aCons cI (aOne cI))) (fun z => m_law_over z.1 z.2)) := by
  have F_law_least := ok_law_least (P := P) (w := w) T
  have sn := sc_law_over.nd
  refine fn_mk (ν := Empty) (κ := Empty) (eN := fun _ => []) (eK := fun _ => []) D sc_law_over rfl (by decide) (fun cdv A outer s H E hr hp hw z => ?_)
  obtain ⟨one, two⟩ := z
  show DS _ E true [.st (Int × Int) (cP (aCons cI (aOne cI))) one, .st (Int × Int) (cP (aCons cI (aOne cI))) two] _ _ _ _ (fun b => (.ret b : Out (Int × Int) Empty Empty)) (m_law_over one two)
  unfold m_law_over
  exact (retF (call F_law_least (hr.mono (by decide)) hp (argC_mm (mul_pp (ix_0_2p (var 0)) (ix_1_2p (var 1))) (arg1 (mul_pp (ix_1_2p (var 0)) (ix_0_2p (var 1)))))))
theorem ok_law_over (T : Gl0 K mg base) : FnI P w K mg base "_law_over" 3 ["one", "two"] (aCons (cP (aCons cI (aOne cI))) (aOne (cP (aCons cI (aOne cI))))) (cP (aCons cI (aOne cI))) (fun z => m_law_over z.1 z.2) := by
  obtain ⟨fd, D⟩ := T.c.def_ di__law_over (d := d__law_over) rfl
  exact fni (fn_law_over T D) (T.glo gi__law_over) D.kp (D.bindsN fun _ _ _ _ _ _ us hl => match us, hl with | [_, _], _ => rfl)

theorem sc_law_plus : FnScope ["one", "two"] ["one", "two"] (defScope s__law_plus) := ⟨rfl, rfl, rfl, by decide +kernel, rfl, by decide +kernel, by decide +kernel⟩
theorem fn_law_plus (T : Gl0 K mg base) {fd : FuncData} (D : FunD K d__law_plus.name d__law_plus.qual d__law_plus.params d__law_plus.body d__law_plus.scope (d__law_plus.dvs K) (d__law_plus.kws K) (He.fAd K d__law_plus.at_) fd) : FnOk P w K mg base (L2.CX P w) 3 (He.fAd K d__law_plus.at_) fd ["one", "two"] (spF K (aCons (cP (aCons cI (aOne cI))) (aOne (cP (aCons cI (aOne cI))))) (cP (aCons cI (aOne cI))) (fun z => m_law_plus z.1 z.2)) := by
  have F_law_least := ok_law_least (P := P) (w := w) T
  have sn := sc_law_plus.nd
  refine fn_mk (ν := Empty) (κ := Empty) (eN := fun _ => []) (eK := fun _ => []) D sc_law_plus rfl (by decide) (fun cdv A outer s H E hr hp hw z => ?_)
  obtain ⟨one, two⟩ := z
  show DS _ E true [.st (Int × Int) (cP (aCons cI (aOne cI))) one, .st (Int × Int) (cP (aCons cI (aOne cI))) two] _ _ _ _ (fun b => (.ret b : Out (Int × Int) Empty Empty)) (m_law_plus one two)
  unfold m_law_plus
  exact (retF (call F_law_least (hr.mono (by decide)) hp (argC_mm (add_mm (mul_pp (ix_0_2p (var 0)) (ix_1_2p (var 1))) (mul_pp (ix_0_2p (var 1)) (ix_1_2p (var 0)))) (arg1 (mul_pp (ix_1_2p (var 0)) (ix_1_2p (var 1)))))))
theorem ok_law_plus (T : Gl0 K mg base) : FnI P w K mg base "_law_plus" 3 ["one", "two"] (aCons (cP (aCons cI (aOne cI))) (aOne (cP (aCons cI (aOne cI))))) (cP (aCons cI (aOne cI))) (fun z => m_law_plus z.1 z.2) := by
  obtain ⟨fd, D⟩ := T.c.def_ di__law_plus (d := d__law_plus) rfl
  exact fni (fn_law_plus T D) (T.glo gi__law_plus) D.kp (D.bindsN fun _ _ _ _ _ _ us hl => match us, hl with | [_, _], _ => rfl)

theorem sc_law_times : FnScope ["one", "two"] ["one", "two"] (defScope s__law_times) := ⟨rfl, rfl, rfl, by decide +kernel, rfl, by decide +kernel, by decide +kernel⟩
theorem fn_law_times (T : Gl0 K mg base) {fd : FuncData} (D : FunD K d__law_times.name d__law_times.qual d__law_times.params d__law_times.body d__law_times.scope (d__law_times.dvs K) (d__law_times.kws K) (He.fAd K d__law_times.at_) fd) : FnOk P w K mg base (L2.CX P w) 3 (He.fAd K d__law_times.at_) fd ["one", "two"] (spF K (aCons (cP (aCons cI (aOne cI))) (aOne (cP (aCons cI (aOne cI))))) (cP (aCons cI (aOne cI))) (fun z => m_law_times z.1 z.2)) := by
  have F_law_least := ok_law_least (P := P) (w := w) T
  have sn := sc_law_times.nd
  refine fn_mk (ν := Empty) (κ := Empty) (eN := fun _ => []) (eK := fun _ => []) D sc_law_times rfl (by decide) (fun cdv A outer s H E hr hp hw z => ?_)
  obtain ⟨one, two⟩ := z
  show DS _ E true [.st (Int × Int) (cP (aCons cI (aOne cI))) one, .st (Int × Int) (cP (aCons cI (aOne cI))) two] _ _ _ _ (fun b => (.ret b : Out (Int × Int) Empty Empty)) (m_law_times one two)
  unfold m_law_times
  exact (retF (call F_law_least (hr.mono (by decide)) hp (argC_mm (mul_pp (ix_0_2p (var 0)) (ix_0_2p (var 1))) (arg1 (mul_pp (ix_1_2p (var 0)) (ix_1_2p (var 1)))))))
theorem ok_law_times (T : Gl0 K mg base) : FnI P w K mg base "_law_times" 3 ["one", "two"] (aCons (cP (aCons cI (aOne cI))) (aOne (cP (aCons cI (aOne cI))))) (cP (aCons cI (aOne cI))) (fun z => m_law_times z.1 z.2) := by
  obtain ⟨fd, D⟩ := T.c.def_ di__law_times (d := d__law_times) rfl
  exact fni (fn_law_times T D) (T.glo gi__law_times) D.kp (D.bindsN fun _ _ _ _ _ _ us hl => match us, hl with | [_, _], _ => rfl)

theorem sc_law_fits : FnScope ["told", "k", "r", "steps", "low", "high", "total"] ["told", "k", "r"] (defScope s__law_fits) := ⟨rfl, rfl, rfl, by decide +kernel, rfl, by decide +kernel, by decide +kernel⟩
theorem fn_law_fits (T : Gl0 K mg base) {fd : FuncData} (D : FunD K d__law_fits.name d__law_fits.qual d__law_fits.params d__law_fits.body d__law_fits.scope (d__law_fits.dvs K) (d__law_fits.kws K) (He.fAd K d__law_fits.at_) fd) : FnOk P w K mg base (L2.CX P w) 4 (He.fAd K d__law_fits.at_) fd ["told", "k", "r"] (spF K (aCons (cH (aCons cI (aCons cI (aCons (cP (aCons (cP (aCons cI (aOne cI))) (aOne (cP (aCons cI (aOne cI)))))) (aCons (cP (aCons (cP (aCons cI (aOne cI))) (aOne (cP (aCons cI (aOne cI)))))) (aCons (cP (aCons cI (aOne cI))) (aOne (cP (aCons cI (aOne cI)))))))))) (aCons cI (aOne cI))) cB (fun z => m_law_fits z.1 z.2.1 z.2.2)) := by
  have F_law_below := ok_law_below (P := P) (w := w) T
  have F_law_least := ok_law_least (P := P) (w := w) T
  have F_law_minus := ok_law_minus (P := P) (w := w) T
  have F_law_over := ok_law_over (P := P) (w := w) T
  have F_law_plus := ok_law_plus (P := P) (w := w) T
  have F_law_times := ok_law_times (P := P) (w := w) T
  have sn := sc_law_fits.nd
  refine fn_mk (ν := Empty) (κ := Empty) (eN := fun _ => []) (eK := fun _ => []) D sc_law_fits rfl (by decide) (fun cdv A outer s H E hr hp hw z => ?_)
  obtain ⟨told, k, r⟩ := z
  show DS _ E true [.st (Int × Int × ((Int × Int) × (Int × Int)) × ((Int × Int) × (Int × Int)) × (Int × Int) × (Int × Int)) (cH (aCons cI (aCons cI (aCons (cP (aCons (cP (aCons cI (aOne cI))) (aOne (cP (aCons cI (aOne cI)))))) (aCons (cP (aCons (cP (aCons cI (aOne cI))) (aOne (cP (aCons cI (aOne cI)))))) (aCons (cP (aCons cI (aOne cI))) (aOne (cP (aCons cI (aOne cI)))))))))) told, .st Int cI k, .st Int cI r, .none, .none, .none, .none] _ _ _ _ (fun b => (.ret b : Out Bool Empty Empty)) (m_law_fits told k r)
  unfold m_law_fits
  exact (asg 3 sn (tupP (argC_pp (ixh_0_6p (var 0)) (arg1 int))) fun steps =>
  (asg 4 sn (call F_law_plus (hr.mono (by decide)) hp (argC_pm (ix_0_2p (ixh_2_6p (var 0))) (arg1 (callP F_law_times (hr.mono (by decide)) hp (argC_pp (var 3) (arg1 (ix_0_2p (ixh_3_6p (var 0))))))))) fun low =>
  (asg 5 sn (call F_law_plus (hr.mono (by decide)) hp (argC_pm (ix_1_2p (ixh_2_6p (var 0))) (arg1 (callP F_law_times (hr.mono (by decide)) hp (argC_pp (var 3) (arg1 (ix_1_2p (ixh_3_6p (var 0))))))))) fun high =>
  (ifA (dt_dw (orW (neDT_pm hr.units (var 4) (tupP (argC_mp (mul_mp (mul_pp (var 1) (sub_pp (var 1) int)) (var 2)) (arg1 int)))) (or1 (neDT_pm hr.units (var 5) (callP F_law_times (hr.mono (by decide)) hp (argC_pp (ixh_5_6p (var 0)) (arg1 (var 4))))))))
    (retF bool)
    (ifA (dt_dw (orW_p (leT_pp (ix_0_2p (ix_1_2p (ixh_3_6p (var 0)))) int) (or1 (notT (val (callP F_law_below (hr.mono (by decide)) hp (argC_pp (tupP (argC_pp int (arg1 int))) (arg1 (ixh_5_6p (var 0))))))))))
      (retF bool)
      (asg 6 sn (call F_law_plus (hr.mono (by decide)) hp (argC_mm (callP F_law_over (hr.mono (by decide)) hp (argC_pp (tupP (argC_pp int (arg1 int))) (arg1 (ix_1_2p (ixh_3_6p (var 0)))))) (arg1 (call F_law_plus (hr.mono (by decide)) hp (argC_mp (call F_law_least (hr.mono (by decide)) hp (argC_pm (sub_pp (var 1) int) (arg1 (mul_pp (var 1) (add_pp (var 1) int))))) (arg1 (ixh_4_6p (var 0)))))))) fun total =>
      (retF (eqD_pm hr.units (var 6) (callP F_law_minus (hr.mono (by decide)) hp (argC_pp (tupP (argC_pp int (arg1 int))) (arg1 (tupP (argC_pp int (arg1 (var 1)))))))))))))))
theorem ok_law_fits (T : Gl0 K mg base) : FnI P w K mg base "_law_fits" 4 ["told", "k", "r"] (aCons (cH (aCons cI (aCons cI (aCons (cP (aCons (cP (aCons cI (aOne cI))) (aOne (cP (aCons cI (aOne cI)))))) (aCons (cP (aCons (cP (aCons cI (aOne cI))) (aOne (cP (aCons cI (aOne cI)))))) (aCons (cP (aCons cI (aOne cI))) (aOne (cP (aCons cI (aOne cI)))))))))) (aCons cI (aOne cI))) cB (fun z => m_law_fits z.1 z.2.1 z.2.2) := by
  obtain ⟨fd, D⟩ := T.c.def_ di__law_fits (d := d__law_fits) rfl
  exact fni (fn_law_fits T D) (T.glo gi__law_fits) D.kp (D.bindsN fun _ _ _ _ _ _ us hl => match us, hl with | [_, _, _], _ => rfl)

theorem sc_law_whole : FnScope ["value"] ["value"] (defScope s__law_whole) := ⟨rfl, rfl, rfl, by decide +kernel, rfl, by decide +kernel, by decide +kernel⟩
theorem fn_law_whole (T : Gl0 K mg base) {fd : FuncData} (D : FunD K d__law_whole.name d__law_whole.qual d__law_whole.params d__law_whole.body d__law_whole.scope (d__law_whole.dvs K) (d__law_whole.kws K) (He.fAd K d__law_whole.at_) fd) : FnOk P w K mg base (L2.CX P w) 1 (He.fAd K d__law_whole.at_) fd ["value"] (spF K (aOne cI) cB m_law_whole) := by
  have sn := sc_law_whole.nd
  refine fn_mk (ν := Empty) (κ := Empty) (eN := fun _ => []) (eK := fun _ => []) D sc_law_whole rfl (by decide) (fun cdv A outer s H E hr hp hw z => ?_)
  revert z; intro value
  show DS _ E true [.st Int cI value] _ _ _ _ (fun b => (.ret b : Out Bool Empty Empty)) (m_law_whole value)
  unfold m_law_whole
  exact (retF (andV_q (isi_p (n := "int") (T := "int") (k := true) (by decide +kernel) (by decide +kernel) (T.free fi_isinstance) (T.free fi_int) (var 0)) (and1V (notV_p (isi_p (n := "int") (T := "bool") (k := false) (by decide +kernel) (by decide +kernel) (T.free fi_isinstance) (T.free fi_bool) (var 0))))))
theorem ok_law_whole (T : Gl0 K mg base) : FnI P w K mg base "_law_whole" 1 ["value"] (aOne cI) cB m_law_whole := by
  obtain ⟨fd, D⟩ := T.c.def_ di__law_whole (d := d__law_whole) rfl
  exact fni (fn_law_whole T D) (T.glo gi__law_whole) D.kp (D.bindsN fun _ _ _ _ _ _ us hl => match us, hl with | [_], _ => rfl)

theorem sc_law_is_fraction : FnScope ["value"] ["value"] (defScope s__law_is_fraction) := ⟨rfl, rfl, rfl, by decide +kernel, rfl, by decide +kernel, by decide +kernel⟩
theorem fn_law_is_fraction (T : Gl0 K mg base) {fd : FuncData} (D : FunD K d__law_is_fraction.name d__law_is_fraction.qual d__law_is_fraction.params d__law_is_fraction.body d__law_is_fraction.scope (d__law_is_fraction.dvs K) (d__law_is_fraction.kws K) (He.fAd K d__law_is_fraction.at_) fd) : FnOk P w K mg base (L2.CX P w) 2 (He.fAd K d__law_is_fraction.at_) fd ["value"] (spF K (aOne (cP (aCons cI (aOne cI)))) cB m_law_is_fraction) := by
  have F_law_gcd := ok_law_gcd (P := P) (w := w) T
  have F_law_whole := ok_law_whole (P := P) (w := w) T
  have sn := sc_law_is_fraction.nd
  refine fn_mk (ν := Empty) (κ := Empty) (eN := fun _ => []) (eK := fun _ => []) D sc_law_is_fraction rfl (by decide) (fun cdv A outer s H E hr hp hw z => ?_)
  revert z; intro value
  show DS _ E true [.st (Int × Int) (cP (aCons cI (aOne cI))) value] _ _ _ _ (fun b => (.ret b : Out Bool Empty Empty)) (m_law_is_fraction value)
  unfold m_law_is_fraction
  exact (ifA (dt_dw (orW_p (notT_p (val (isi_p (n := "tuple") (T := "tuple") (k := true) (by decide +kernel) (by decide +kernel) (T.free fi_isinstance) (T.free fi_tuple) (var 0)))) (orW_p (neIT_pp (lenP_p (T.free fi_len) (var 0)) int) (orW (notT (val (callP F_law_whole (hr.mono (by decide)) hp (arg1 (ix_0_2p (var 0)))))) (or1 (notT (val (callP F_law_whole (hr.mono (by decide)) hp (arg1 (ix_1_2p (var 0)))))))))))
    (retF bool)
    (retF (andV_p (ge_pp (ix_1_2p (var 0)) int) (and1V (eqI_mp (callP F_law_gcd (hr.mono (by decide)) hp (argC_pp (ix_0_2p (var 0)) (arg1 (ix_1_2p (var 0))))) int)))))
theorem ok_law_is_fraction (T : Gl0 K mg base) : FnI P w K mg base "_law_is_fraction" 2 ["value"] (aOne (cP (aCons cI (aOne cI)))) cB m_law_is_fraction := by
  obtain ⟨fd, D⟩ := T.c.def_ di__law_is_fraction (d := d__law_is_fraction) rfl
  exact fni (fn_law_is_fraction T D) (T.glo gi__law_is_fraction) D.kp (D.bindsN fun _ _ _ _ _ _ us hl => match us, hl with | [_], _ => rfl)

theorem sc_fraction : FnScope ["top", "bottom", "shared"] ["top", "bottom"] (defScope s_fraction) := ⟨rfl, rfl, rfl, by decide +kernel, rfl, by decide +kernel, by decide +kernel⟩
theorem fn_fraction (T : Gl0 K mg base) {fd : FuncData} (D : FunD K d_fraction.name d_fraction.qual d_fraction.params d_fraction.body d_fraction.scope (d_fraction.dvs K) (d_fraction.kws K) (He.fAd K d_fraction.at_) fd) : FnOk P w K mg base (L2.CX P w) 1 (He.fAd K d_fraction.at_) fd ["top", "bottom"] (spF K (aCons cI (aOne cI)) (cP (aCons cI (aOne cI))) (fun z => m_fraction z.1 z.2)) := by
  have sn := sc_fraction.nd
  refine fn_mk (ν := Empty) (κ := Empty) (eN := fun _ => []) (eK := fun _ => []) D sc_fraction rfl (by decide) (fun cdv A outer s H E hr hp hw z => ?_)
  obtain ⟨top, bottom⟩ := z
  show DS _ E true [.st Int cI top, .st Int cI bottom, .none] _ _ _ _ (fun b => (.ret b : Out (Int × Int) Empty Empty)) (m_fraction top bottom)
  unfold m_fraction
  exact (ifA_p (eqIT_pp (var 1) int)
    never
    (asg 2 sn (gcd_p (T.held 0) (var 0) (var 1)) fun shared =>
    (ifJ_p (eJ := fun (j1 : Int) => [.st Int cI top, .st Int cI bottom, .st Int cI j1]) (ltT_pp (var 1) int)
      (asg 2 sn (neg_p (var 2)) fun shared =>
      (nil rfl (leS (leS (leS leZ)))))
      (nil rfl (leS (leS (leS leZ)))) fun j1 =>
    (retF (tupP (argC_mm (fdiv_pp (var 0) (var 2)) (arg1 (fdiv_pp (var 1) (var 2)))))))))
theorem ok_fraction (T : Gl0 K mg base) : FnI P w K mg base "fraction" 1 ["top", "bottom"] (aCons cI (aOne cI)) (cP (aCons cI (aOne cI))) (fun z => m_fraction z.1 z.2) := by
  obtain ⟨fd, D⟩ := T.c.def_ di_fraction (d := d_fraction) rfl
  exact fni (fn_fraction T D) (T.glo gi_fraction) D.kp (D.bindsN fun _ _ _ _ _ _ us hl => match us, hl with | [_, _], _ => rfl)

theorem sc_grade_unit : FnScope ["grade"] ["grade"] (defScope s_grade_unit) := ⟨rfl, rfl, rfl, by decide +kernel, rfl, by decide +kernel, by decide +kernel⟩
theorem fn_grade_unit (T : Gl0 K mg base) {fd : FuncData} (D : FunD K d_grade_unit.name d_grade_unit.qual d_grade_unit.params d_grade_unit.body d_grade_unit.scope (d_grade_unit.dvs K) (d_grade_unit.kws K) (He.fAd K d_grade_unit.at_) fd) : FnOk P w K mg base (L2.CX P w) 1 (He.fAd K d_grade_unit.at_) fd ["grade"] (spF K (aOne cI) cI m_grade_unit) := by
  have sn := sc_grade_unit.nd
  refine fn_mk (ν := Empty) (κ := Empty) (eN := fun _ => []) (eK := fun _ => []) D sc_grade_unit rfl (by decide) (fun cdv A outer s H E hr hp hw z => ?_)
  revert z; intro grade
  show DS _ E true [.st Int cI grade] _ _ _ _ (fun b => (.ret b : Out Int Empty Empty)) (m_grade_unit grade)
  unfold m_grade_unit
  exact (retF (sub_mp (mul_pp int (var 0)) int))
theorem ok_grade_unit (T : Gl0 K mg base) : FnI P w K mg base "grade_unit" 1 ["grade"] (aOne cI) cI m_grade_unit := by
  obtain ⟨fd, D⟩ := T.c.def_ di_grade_unit (d := d_grade_unit) rfl
  exact fni (fn_grade_unit T D) (T.glo gi_grade_unit) D.kp (D.bindsN fun _ _ _ _ _ _ us hl => match us, hl with | [_], _ => rfl)

theorem sc_grade_factor : FnScope ["grade", "less"] ["grade"] (defScope s_grade_factor) := ⟨rfl, rfl, rfl, by decide +kernel, rfl, by decide +kernel, by decide +kernel⟩
theorem fn_grade_factor (T : Gl0 K mg base) {fd : FuncData} (D : FunD K d_grade_factor.name d_grade_factor.qual d_grade_factor.params d_grade_factor.body d_grade_factor.scope (d_grade_factor.dvs K) (d_grade_factor.kws K) (He.fAd K d_grade_factor.at_) fd) : FnOk P w K mg base (L2.CX P w) 2 (He.fAd K d_grade_factor.at_) fd ["grade"] (spF K (aOne cI) (cP (aCons cI (aOne cI))) m_grade_factor) := by
  have F_fraction := ok_fraction (P := P) (w := w) T
  have F_grade_unit := ok_grade_unit (P := P) (w := w) T
  have sn := sc_grade_factor.nd
  refine fn_mk (ν := Empty) (κ := Empty) (eN := fun _ => []) (eK := fun _ => []) D sc_grade_factor rfl (by decide) (fun cdv A outer s H E hr hp hw z => ?_)
  revert z; intro grade
  show DS _ E true [.st Int cI grade, .none] _ _ _ _ (fun b => (.ret b : Out (Int × Int) Empty Empty)) (m_grade_factor grade)
  unfold m_grade_factor
  exact (asg 1 sn (sub_mp (callP F_grade_unit (hr.mono (by decide)) hp (arg1 (var 0))) int) fun less =>
  (retF (call F_fraction (hr.mono (by decide)) hp (argC_mm (mul_pm (add_pp (var 0) int) (add_mp (mul_pp (var 1) (add_pp (var 0) int)) (var 0))) (arg1 (mul_mp (mul_pp (var 1) (sub_pp (var 0) int)) (sub_pp (var 0) int)))))))
theorem ok_grade_factor (T : Gl0 K mg base) : FnI P w K mg base "grade_factor" 2 ["grade"] (aOne cI) (cP (aCons cI (aOne cI))) m_grade_factor := by
  obtain ⟨fd, D⟩ := T.c.def_ di_grade_factor (d := d_grade_factor) rfl
  exact fni (fn_grade_factor T D) (T.glo gi_grade_factor) D.kp (D.bindsN fun _ _ _ _ _ _ us hl => match us, hl with | [_], _ => rfl)

theorem sc_grade_fences : FnScope ["grade", "rank"] ["grade", "rank"] (defScope s_grade_fences) := ⟨rfl, rfl, rfl, by decide +kernel, rfl, by decide +kernel, by decide +kernel⟩
theorem fn_grade_fences (T : Gl0 K mg base) {fd : FuncData} (D : FunD K d_grade_fences.name d_grade_fences.qual d_grade_fences.params d_grade_fences.body d_grade_fences.scope (d_grade_fences.dvs K) (d_grade_fences.kws K) (He.fAd K d_grade_fences.at_) fd) : FnOk P w K mg base (L2.CX P w) 2 (He.fAd K d_grade_fences.at_) fd ["grade", "rank"] (spF K (aCons cI (aOne cI)) (cP (aCons (cP (aCons cI (aOne cI))) (aOne (cP (aCons cI (aOne cI)))))) (fun z => m_grade_fences z.1 z.2)) := by
  have F_fraction := ok_fraction (P := P) (w := w) T
  have sn := sc_grade_fences.nd
  refine fn_mk (ν := Empty) (κ := Empty) (eN := fun _ => []) (eK := fun _ => []) D sc_grade_fences rfl (by decide) (fun cdv A outer s H E hr hp hw z => ?_)
  obtain ⟨grade, rank⟩ := z
  show DS _ E true [.st Int cI grade, .st Int cI rank] _ _ _ _ (fun b => (.ret b : Out ((Int × Int) × (Int × Int)) Empty Empty)) (m_grade_fences grade rank)
  unfold m_grade_fences
  exact (retF (tupP (argC_mm (call F_fraction (hr.mono (by decide)) hp (argC_mp (mul_pp (neg_p (var 0)) (var 1)) (arg1 int))) (arg1 (call F_fraction (hr.mono (by decide)) hp (argC_mp (mul_mp (mul_pp (var 0) (add_pp (var 0) int)) (var 1)) (arg1 (sub_pp (var 0) int))))))))
theorem ok_grade_fences (T : Gl0 K mg base) : FnI P w K mg base "grade_fences" 2 ["grade", "rank"] (aCons cI (aOne cI)) (cP (aCons (cP (aCons cI (aOne cI))) (aOne (cP (aCons cI (aOne cI)))))) (fun z => m_grade_fences z.1 z.2) := by
  obtain ⟨fd, D⟩ := T.c.def_ di_grade_fences (d := d_grade_fences) rfl
  exact fni (fn_grade_fences T D) (T.glo gi_grade_fences) D.kp (D.bindsN fun _ _ _ _ _ _ us hl => match us, hl with | [_, _], _ => rfl)

theorem sc_grade_gap : FnScope ["grade"] ["grade"] (defScope s_grade_gap) := ⟨rfl, rfl, rfl, by decide +kernel, rfl, by decide +kernel, by decide +kernel⟩
theorem fn_grade_gap (T : Gl0 K mg base) {fd : FuncData} (D : FunD K d_grade_gap.name d_grade_gap.qual d_grade_gap.params d_grade_gap.body d_grade_gap.scope (d_grade_gap.dvs K) (d_grade_gap.kws K) (He.fAd K d_grade_gap.at_) fd) : FnOk P w K mg base (L2.CX P w) 2 (He.fAd K d_grade_gap.at_) fd ["grade"] (spF K (aOne cI) (cP (aCons cI (aOne cI))) m_grade_gap) := by
  have F_fraction := ok_fraction (P := P) (w := w) T
  have F_grade_unit := ok_grade_unit (P := P) (w := w) T
  have sn := sc_grade_gap.nd
  refine fn_mk (ν := Empty) (κ := Empty) (eN := fun _ => []) (eK := fun _ => []) D sc_grade_gap rfl (by decide) (fun cdv A outer s H E hr hp hw z => ?_)
  revert z; intro grade
  show DS _ E true [.st Int cI grade] _ _ _ _ (fun b => (.ret b : Out (Int × Int) Empty Empty)) (m_grade_gap grade)
  unfold m_grade_gap
  exact (retF (call F_fraction (hr.mono (by decide)) hp (argC_pm (sub_pp (var 0) int) (arg1 (mul_pm (add_pp (var 0) int) (callP F_grade_unit (hr.mono (by decide)) hp (arg1 (var 0))))))))
theorem ok_grade_gap (T : Gl0 K mg base) : FnI P w K mg base "grade_gap" 2 ["grade"] (aOne cI) (cP (aCons cI (aOne cI))) m_grade_gap := by
  obtain ⟨fd, D⟩ := T.c.def_ di_grade_gap (d := d_grade_gap) rfl
  exact fni (fn_grade_gap T D) (T.glo gi_grade_gap) D.kp (D.bindsN fun _ _ _ _ _ _ us hl => match us, hl with | [_], _ => rfl)

theorem sc_grade_moves : FnScope ["grade", "unit"] ["grade"] (defScope s_grade_moves) := ⟨rfl, rfl, rfl, by decide +kernel, rfl, by decide +kernel, by decide +kernel⟩
theorem fn_grade_moves (T : Gl0 K mg base) {fd : FuncData} (D : FunD K d_grade_moves.name d_grade_moves.qual d_grade_moves.params d_grade_moves.body d_grade_moves.scope (d_grade_moves.dvs K) (d_grade_moves.kws K) (He.fAd K d_grade_moves.at_) fd) : FnOk P w K mg base (L2.CX P w) 2 (He.fAd K d_grade_moves.at_) fd ["grade"] (spF K (aOne cI) (cP (aCons (cP (aCons cI (aOne cI))) (aOne (cP (aCons cI (aOne cI)))))) m_grade_moves) := by
  have F_fraction := ok_fraction (P := P) (w := w) T
  have F_grade_unit := ok_grade_unit (P := P) (w := w) T
  have sn := sc_grade_moves.nd
  refine fn_mk (ν := Empty) (κ := Empty) (eN := fun _ => []) (eK := fun _ => []) D sc_grade_moves rfl (by decide) (fun cdv A outer s H E hr hp hw z => ?_)
  revert z; intro grade
  show DS _ E true [.st Int cI grade, .none] _ _ _ _ (fun b => (.ret b : Out ((Int × Int) × (Int × Int)) Empty Empty)) (m_grade_moves grade)
  unfold m_grade_moves
  exact (asg 1 sn (callP F_grade_unit (hr.mono (by decide)) hp (arg1 (var 0))) fun unit =>
  (retF (tupP (argC_pm (tupP (argC_pp int (arg1 int))) (arg1 (call F_fraction (hr.mono (by decide)) hp (argC_mm (mul_pp (add_pp (var 0) int) (var 1)) (arg1 (mul_pp (sub_pp (var 0) int) (sub_pp (var 1) int))))))))))
theorem ok_grade_moves (T : Gl0 K mg base) : FnI P w K mg base "grade_moves" 2 ["grade"] (aOne cI) (cP (aCons (cP (aCons cI (aOne cI))) (aOne (cP (aCons cI (aOne cI)))))) m_grade_moves := by
  obtain ⟨fd, D⟩ := T.c.def_ di_grade_moves (d := d_grade_moves) rfl
  exact fni (fn_grade_moves T D) (T.glo gi_grade_moves) D.kp (D.bindsN fun _ _ _ _ _ _ us hl => match us, hl with | [_], _ => rfl)

theorem sc_grade_steps : FnScope ["grade", "rank"] ["grade", "rank"] (defScope s_grade_steps) := ⟨rfl, rfl, rfl, by decide +kernel, rfl, by decide +kernel, by decide +kernel⟩
theorem fn_grade_steps (T : Gl0 K mg base) {fd : FuncData} (D : FunD K d_grade_steps.name d_grade_steps.qual d_grade_steps.params d_grade_steps.body d_grade_steps.scope (d_grade_steps.dvs K) (d_grade_steps.kws K) (He.fAd K d_grade_steps.at_) fd) : FnOk P w K mg base (L2.CX P w) 1 (He.fAd K d_grade_steps.at_) fd ["grade", "rank"] (spF K (aCons cI (aOne cI)) cI (fun z => m_grade_steps z.1 z.2)) := by
  have sn := sc_grade_steps.nd
  refine fn_mk (ν := Empty) (κ := Empty) (eN := fun _ => []) (eK := fun _ => []) D sc_grade_steps rfl (by decide) (fun cdv A outer s H E hr hp hw z => ?_)
  obtain ⟨grade, rank⟩ := z
  show DS _ E true [.st Int cI grade, .st Int cI rank] _ _ _ _ (fun b => (.ret b : Out Int Empty Empty)) (m_grade_steps grade rank)
  unfold m_grade_steps
  exact (retF (mul_mp (mul_pp (var 0) (var 0)) (var 1)))
theorem ok_grade_steps (T : Gl0 K mg base) : FnI P w K mg base "grade_steps" 1 ["grade", "rank"] (aCons cI (aOne cI)) cI (fun z => m_grade_steps z.1 z.2) := by
  obtain ⟨fd, D⟩ := T.c.def_ di_grade_steps (d := d_grade_steps) rfl
  exact fni (fn_grade_steps T D) (T.glo gi_grade_steps) D.kp (D.bindsN fun _ _ _ _ _ _ us hl => match us, hl with | [_, _], _ => rfl)

theorem sc_law_told : FnScope ["k", "r", "told", "pair"] ["k", "r"] (defScope s__law_told) := ⟨rfl, rfl, rfl, by decide +kernel, rfl, by decide +kernel, by decide +kernel⟩
theorem fn_law_told (T : Gl0 K mg base) {fd : FuncData} (D : FunD K d__law_told.name d__law_told.qual d__law_told.params d__law_told.body d__law_told.scope (d__law_told.dvs K) (d__law_told.kws K) (He.fAd K d__law_told.at_) fd) : FnOk P w K mg base (L2.CX P w) 3 (He.fAd K d__law_told.at_) fd ["k", "r"] (spF K (aCons cI (aOne cI)) (cO (cH (aCons cI (aCons cI (aCons (cP (aCons (cP (aCons cI (aOne cI))) (aOne (cP (aCons cI (aOne cI)))))) (aCons (cP (aCons (cP (aCons cI (aOne cI))) (aOne (cP (aCons cI (aOne cI)))))) (aCons (cP (aCons cI (aOne cI))) (aOne (cP (aCons cI (aOne cI))))))))))) (fun z => m_law_told z.1 z.2)) := by
  have F_law_is_fraction := ok_law_is_fraction (P := P) (w := w) T
  have F_law_whole := ok_law_whole (P := P) (w := w) T
  have F_grade_factor := ok_grade_factor (P := P) (w := w) T
  have F_grade_fences := ok_grade_fences (P := P) (w := w) T
  have F_grade_gap := ok_grade_gap (P := P) (w := w) T
  have F_grade_moves := ok_grade_moves (P := P) (w := w) T
  have F_grade_steps := ok_grade_steps (P := P) (w := w) T
  have F_grade_unit := ok_grade_unit (P := P) (w := w) T
  have sn := sc_law_told.nd
  refine fn_mk (ν := Empty) (κ := Empty) (eN := fun _ => []) (eK := fun _ => []) D sc_law_told rfl (by decide) (fun cdv A outer s H E hr hp hw z => ?_)
  obtain ⟨k, r⟩ := z
  show DS _ E true [.st Int cI k, .st Int cI r, .none, .none] _ _ _ _ (fun b => (.ret b : Out (Option (Int × Int × ((Int × Int) × (Int × Int)) × ((Int × Int) × (Int × Int)) × (Int × Int) × (Int × Int))) Empty Empty)) (m_law_told k r)
  unfold m_law_told
  exact (asg 2 sn (lstH (argC_mm (callP F_grade_steps (hr.mono (by decide)) hp (argC_pp (var 0) (arg1 (var 1)))) (argC_mm (callP F_grade_unit (hr.mono (by decide)) hp (arg1 (var 0))) (argC_mm (callP F_grade_fences (hr.mono (by decide)) hp (argC_pp (var 0) (arg1 (var 1)))) (argC_mm (callP F_grade_moves (hr.mono (by decide)) hp (arg1 (var 0))) (argC_mm (callP F_grade_gap (hr.mono (by decide)) hp (arg1 (var 0))) (arg1 (callP F_grade_factor (hr.mono (by decide)) hp (arg1 (var 0)))))))))) fun told =>
  (ifA (dt_dw (orW (notT (val (callP F_law_whole (hr.mono (by decide)) hp (arg1 (ixh_0_6p (var 2)))))) (or1 (notT (val (callP F_law_whole (hr.mono (by decide)) hp (arg1 (ixh_1_6p (var 2)))))))))
    (retF none_)
    (forO (eL := fun (s12 : Unit) => [.st Int cI k, .st Int cI r, .st (Int × Int × ((Int × Int) × (Int × Int)) × ((Int × Int) × (Int × Int)) × (Int × Int) × (Int × Int)) (cH (aCons cI (aCons cI (aCons (cP (aCons (cP (aCons cI (aOne cI))) (aOne (cP (aCons cI (aOne cI)))))) (aCons (cP (aCons (cP (aCons cI (aOne cI))) (aOne (cP (aCons cI (aOne cI)))))) (aCons (cP (aCons cI (aOne cI))) (aOne (cP (aCons cI (aOne cI)))))))))) told, .none]) rfl hw (iterL (dl (lst (lcons_pp (ixh_2_6p (var 2)) (lcons_pp (ixh_3_6p (var 2)) lnil))))) (tgN 3 sn) (leS (leS (leS (leN leZ)))) (fun s12 pair => by
      unfold m_law_told_b1
      exact (ifA_p (dt_dw (orW_q (notT_p (val (isi_p (n := "tuple") (T := "tuple") (k := true) (by decide +kernel) (by decide +kernel) (T.free fi_isinstance) (T.free fi_tuple) (var 3)))) (or1 (neIT_pp (lenP_p (T.free fi_len) (var 3)) int))))
    (retO none_ rfl)
    (if2 (dt_dw (orW (notT (val (callP F_law_is_fraction (hr.mono (by decide)) hp (arg1 (ix_0_2p (var 3)))))) (or1 (notT (val (callP F_law_is_fraction (hr.mono (by decide)) hp (arg1 (ix_1_2p (var 3)))))))))
      (retO none_ rfl)
      (nil rfl (leS (leS (leS (leN leZ))))))))
    (fun s15 => (ifA (dt_dw (orW (notT (val (callP F_law_is_fraction (hr.mono (by decide)) hp (arg1 (ixh_4_6p (var 2)))))) (or1 (notT (val (callP F_law_is_fraction (hr.mono (by decide)) hp (arg1 (ixh_5_6p (var 2)))))))))
      (retF none_)
      (retF (some_ (var 2))))))))
theorem ok_law_told (T : Gl0 K mg base) : FnI P w K mg base "_law_told" 3 ["k", "r"] (aCons cI (aOne cI)) (cO (cH (aCons cI (aCons cI (aCons (cP (aCons (cP (aCons cI (aOne cI))) (aOne (cP (aCons cI (aOne cI)))))) (aCons (cP (aCons (cP (aCons cI (aOne cI))) (aOne (cP (aCons cI (aOne cI)))))) (aCons (cP (aCons cI (aOne cI))) (aOne (cP (aCons cI (aOne cI))))))))))) (fun z => m_law_told z.1 z.2) := by
  obtain ⟨fd, D⟩ := T.c.def_ di__law_told (d := d__law_told) rfl
  exact fni (fn_law_told T D) (T.glo gi__law_told) D.kp (D.bindsN fun _ _ _ _ _ _ us hl => match us, hl with | [_, _], _ => rfl)

theorem sc_law : FnScope ["script", "row", "asked", "pair", "told", "least", "most"] ["script"] (defScope s_law) := ⟨rfl, rfl, rfl, by decide +kernel, rfl, by decide +kernel, by decide +kernel⟩
theorem fn_law (T : Gl0 K mg base) {fd : FuncData} (D : FunD K d_law.name d_law.qual d_law.params d_law.body d_law.scope (d_law.dvs K) (d_law.kws K) (He.fAd K d_law.at_) fd) : FnOk P w K mg base (L2.CX P w) 5 (He.fAd K d_law.at_) fd ["script"] (spF K (aOne (cL cI)) cB m_law) := by
  have F_law_below := ok_law_below (P := P) (w := w) T
  have F_law_cell := ok_law_cell (P := P) (w := w) T
  have F_law_digits := ok_law_digits (P := P) (w := w) T
  have F_law_due := ok_law_due (P := P) (w := w) T
  have F_law_fits := ok_law_fits (P := P) (w := w) T
  have F_law_told := ok_law_told (P := P) (w := w) T
  have F_grade_factor := ok_grade_factor (P := P) (w := w) T
  have sn := sc_law.nd
  refine fn_mk (ν := Empty) (κ := Empty) (eN := fun _ => []) (eK := fun _ => []) D sc_law rfl (by decide) (fun cdv A outer s H E hr hp hw z => ?_)
  revert z; intro script
  show DS _ E true [.st (List Int) (cL cI) script, .none, .none, .none, .none, .none, .none] _ _ _ _ (fun b => (.ret b : Out Bool Empty Empty)) (m_law script)
  unfold m_law
  exact (asg 1 sn (call F_law_digits (hr.mono (by decide)) hp (argC_mp (callP F_law_cell (hr.mono (by decide)) hp (argC_pp (var 0) (arg1 int))) (arg1 (dl (lst (lcons_pp int (lcons_pp int (lcons_pp int (lcons_pp int lnil))))))))) fun row =>
  (asg 2 sn (dl (lst (lcons_mm (tupP (argC_mm (add_pm int (ixL_pp (var 1) int)) (arg1 (ixL_pp (var 1) int)))) (lcons_mm (tupP (argC_mm (add_pm int (ixL_pp (var 1) int)) (arg1 (ixL_pp (var 1) int)))) (lcons_mp (tupP (argC_mm (add_pm int (ixL_pp (var 1) int)) (arg1 (ixL_pp (var 1) int)))) lnil))))) fun asked =>
  (forO (eL := fun (s16 : Unit) => [.st (List Int) (cL cI) script, .st (List Int) (cL cI) row, .st (List (Int × Int)) (cL (cP (aCons cI (aOne cI)))) asked, .none, .none, .none, .none]) rfl hw (iterL (var 2)) (tgN 3 sn) (leS (leS (leS (leN (leN (leN (leN leZ))))))) (fun s16 pair => by
    unfold m_law_b1
    exact (asg 4 sn (callP F_law_told (hr.mono (by decide)) hp (argC_pp (ix_0_2p (var 3)) (arg1 (ix_1_2p (var 3))))) fun told =>
  (ifA (dt_dw (orW_p (isNT_p (var 4)) (or1 (neDT_mm hr.units (un_p (var 4)) (callP F_law_due (hr.mono (by decide)) hp (argC_pp (ix_0_2p (var 3)) (arg1 (ix_1_2p (var 3)))))))))
    (retO bool rfl)
    (narrow 4 rfl fun told =>
  (if2 (notT (val (callP F_law_fits (hr.mono (by decide)) hp (argC_pp (var 4) (argC_pp (ix_0_2p (var 3)) (arg1 (ix_1_2p (var 3))))))))
      (retO bool rfl)
      (nil rfl (leS (leS (leS (leN (leN (leN (leN leZ)))))))))))))
  (fun s21 => (asg 5 sn (add_pm int (min_m rfl (T.free fi_min) (ixL_pp (var 1) int) (ixL_pp (var 1) int))) fun least =>
  (asg 6 sn (add_pm int (max_m rfl (T.free fi_max) (ixL_pp (var 1) int) (ixL_pp (var 1) int))) fun most =>
  (retF (orV_p (eqI_pp (var 5) (var 6)) (or1V (call F_law_below (hr.mono (by decide)) hp (argC_mm (callP F_grade_factor (hr.mono (by decide)) hp (arg1 (var 6))) (arg1 (callP F_grade_factor (hr.mono (by decide)) hp (arg1 (var 5)))))))))))))))
theorem ok_law (T : Gl0 K mg base) : FnI P w K mg base "law" 5 ["script"] (aOne (cL cI)) cB m_law := by
  obtain ⟨fd, D⟩ := T.c.def_ di_law (d := d_law) rfl
  exact fni (fn_law T D) (T.glo gi_law) D.kp (D.bindsN fun _ _ _ _ _ _ us hl => match us, hl with | [_], _ => rfl)
end
end Lw
set_option maxHeartbeats 4000000
namespace Lw
open PySem PySem.Spec PyProof.Rows L2 Zk
theorem facts {P : Program} {w : World} {K : PySem.W.Frag} {h : Heap} {mg : Str → Option Value} {f : Addr} (X : K.In h) (G : h.Ns mainGlobals mg) (hfa : mg ("law" : Str) = some (.ref f)) (c : He.SaysD fa fn K) (e : heldB hv K = true) :
    ∃ fd : FuncData, (∀ (s : Shared) (v : Value), BindsTo s fd ⟨[v], []⟩ [("script", v)]) ∧ ∀ base : Heap, K.In base → base.Ns mainGlobals mg → FnOk P w K mg base (L2.CX P w) 5 f fd ["script"] (spF K (aOne (cL cI)) cB m_law) := by
  obtain ⟨fd, D⟩ := c.def_ di_law (d := d_law) rfl
  have e1 := hfa.symm.trans (He.glo_ok X G (c.fact gi_law (f := .glo "law") rfl))
  cases e1
  have b := FunD.bindsA (ps := ["script"]) D fun _ _ _ _ _ _ us hl => match us, hl with | [_], _ => rfl
  exact ⟨fd, fun s v => b s [v] rfl, fun base hK hG => fn_law (P := P) (w := w) (mg := mg) (base := base) ⟨hK, hG, c, e⟩ D⟩
end Lw
set_option maxHeartbeats 0
open PySem PySem.W PySem.Calls PyProof.Rows
theorem PySem.Challenge.cw_fourcords_k41_grades_holds : PySem.Challenge.rw_fourcords_k41_grades.Holds := by
  w_on; o_law
  refine HandSHeadRun.head_imp (r := OpenLaw.row PySem.Challenge.rw_fourcords_k41_grades) (q := view (OpenLaw.row PySem.Challenge.rw_fourcords_k41_grades).prog [0, 28]) (H := Lw.hk) (ob := Lw.ob) (M := 60000) (loose := Lw.loose) (d := HandSHeadRun.topDef (OpenLaw.row PySem.Challenge.rw_fourcords_k41_grades).prog 28) (kwd := []) Lw.ob_eq
    Lw.run (by kernel_rfl) (by kernel_rfl) (by kernel_rfl) (by rfl) (by first | assumption | decide +kernel) (by decide +kernel) ⟨rfl, rfl, rfl, rfl, rfl, by decide +kernel⟩ ?hw ?hc
  case hw => w_witness2
  case hc =>
    refine Zk.law_end (l := PySem.Challenge.rw_fourcords_k41_grades) (m := 63) (k := 5) (x := "script") rfl (by decide) (by kernel_rfl) ⟨rfl, by decide, by decide⟩ ?F
    intro w mg fa h Y G hmg0
    obtain ⟨K, KX, c, e⟩ := Y
    have hmg : mg ("law" : PySem.Str) = some (.ref fa) := by
      have e : (HandSHeadRun.topDef (OpenLaw.row PySem.Challenge.rw_fourcords_k41_grades).prog 28).name = ("law" : PySem.Str) := by kernel_rfl
      rw [← e]
      exact hmg0
    obtain ⟨fd, hb, hF⟩ := Lw.facts (P := (PySem.Challenge.rw_fourcords_k41_grades).prog) (w := w) KX G hmg c e
    exact ⟨K, fd, _, KX, hb, fun H a ns hl hS => Zk.law_sp (fun ns _ => Lw.law_ok ns) H a ns hl hS, hF⟩
