import PyProof.Rows.All
import Wide.All
import OpenK.AllK
import Wide.FinOn
import HandS.ForMost
import HandS.Exc
import HandS.ExcOwn
import HandS.WordsExc
import HandS.TryOnly
import HandS.Defaults
import HandS.Gcd
import HandS.Wide
import HandS.IsInst
import HandS.HeadHook1
import HandS.HeadHook2
import KE.KStateDown
import HandS.Head0
import HandS.Head1
import HandS.Head2
import HandS.Head3
import HandS.HeadEnd
import PySem.Challenge.RW_fourcords_k69_rounds_needed
set_option Elab.async false
set_option linter.all false
set_option maxRecDepth 100000
set_option maxHeartbeats 4000000
/-! # Zk: typed mirrors in a partial monad, and one judgement that pairs a derivation with its mirror -/
namespace Zk
open PySem PySem.Spec PyProof.Rows L2

/-! ### the partial monad -/
inductive Fld where
  | int (i : Int) | ints (l : List Int) | str (s : Str)
structure Exn where
  cls : Str
  fs : List (Str × Fld)
inductive R (α : Type) where
  | ok (a : α) | exn (x : Exn) | stuck
namespace R
variable {α β γ : Type}
@[reducible] def bind (m : R α) (f : α → R β) : R β := match m with
  | ok a => f a
  | exn x => exn x
  | stuck => stuck
@[reducible] instance : Monad R := { pure := R.ok, bind := R.bind }
theorem same_ (a b : R β) (h : a = b) : a = b := h
@[simp] theorem ok_bind (a : α) (f : α → R β) : ((ok a : R α) >>= f) = f a := same_ _ _ rfl
@[simp] theorem exn_bind (x : Exn) (f : α → R β) : ((exn x : R α) >>= f) = exn x := same_ _ _ rfl
@[simp] theorem stuck_bind (f : α → R β) : ((stuck : R α) >>= f) = stuck := same_ _ _ rfl
@[simp] theorem pure_eq (a : α) : (pure a : R α) = ok a := rfl
@[simp] theorem bind_ok (m : R α) : (m >>= ok) = m := by cases m <;> rfl
theorem bind_assoc (m : R α) (f : α → R β) (g : β → R γ) : ((m >>= f) >>= g) = (m >>= fun a => f a >>= g) := by cases m <;> rfl
def post (m : R α) (Q : α → Prop) (E : Exn → Prop) : Prop := match m with
  | ok a => Q a
  | exn x => E x
  | stuck => False
theorem post_bind {m : R α} {f : α → R β} {Q : β → Prop} {E : Exn → Prop} : (m >>= f).post Q E ↔ m.post (fun a => (f a).post Q E) E := by
  cases m <;> exact Iff.rfl
theorem post_mono {m : R α} {Q Q' : α → Prop} {E E' : Exn → Prop} (h : m.post Q E) (hq : ∀ a, Q a → Q' a) (he : ∀ x, E x → E' x) : m.post Q' E' := by
  cases m with
  | ok a => exact hq a h
  | exn x => exact he x h
  | stuck => exact h
/-- a guard -/
def guard (p : Prop) [Decidable p] (a : α) : R α := if p then ok a else stuck
theorem guard_post {p : Prop} [Decidable p] {a : α} {Q : α → Prop} {E : Exn → Prop} (h : (guard p a).post Q E) : p ∧ Q a := by
  unfold guard at h
  split at h
  · exact ⟨by assumption, h⟩
  · exact h.elim
@[simp] theorem guard_ok {p : Prop} [Decidable p] {a : α} (h : p) : guard p a = ok a := if_pos h
end R

/-! ### heaps that grow: S what is settled, H all -/
theorem _root_.L2.Same.tup {K : PySem.W.Frag} {H H' : Hp} {a : Addr} {xs : List V} (e : Same H H') (h : SqT K H a xs) : SqT K H' a xs := by
  rcases h with (h | ⟨o, h⟩) | h
  · exact .inl (.inl (e _ _ h))
  · exact .inl (.inr ⟨o, e _ _ h⟩)
  · exact .inr h
theorem _root_.L2.Same.new {H : Hp} {p : Addr} {o : HO} (h : H p = none) : Same H (upd H p o) := fun a u e => by
  rw [upd_ne (ne_of_none e h)]
  exact e
theorem _root_.L2.Same.mut {H H' : Hp} {p : Addr} {o : HO} (e : Same H H') (h : H p = none) : Same H (upd H' p o) := fun a u ha => by
  rw [upd_ne (ne_of_none ha h)]
  exact e a u ha
structure Grow (S H S' H' : Hp) : Prop where
  ex : Same H H'
  st : Same S S'
  inn : Same S' H'
  new : ∀ a, S a = none → S' a ≠ none → H a = none
theorem Grow.refl {S H : Hp} (h : Same S H) : Grow S H S H := ⟨.refl _, .refl _, h, fun a e n => (n e).elim⟩
theorem Grow.trans {S H S1 H1 S2 H2 : Hp} (a : Grow S H S1 H1) (b : Grow S1 H1 S2 H2) : Grow S H S2 H2 := by
  refine ⟨a.ex.trans b.ex, a.st.trans b.st, b.inn, fun x e n => ?_⟩
  cases q : S1 x with
  | none => exact a.ex.free (b.new x q n)
  | some o => exact a.new x e (by rw [q]; exact fun z => by cases z)
/-- a settled new object -/
theorem Grow.lay {S H : Hp} {p : Addr} {o : HO} (i : Same S H) (h : H p = none) : Grow S H (upd S p o) (upd H p o) := by
  have hs : S p = none := i.free h
  refine ⟨.new h, .new hs, fun a u e => ?_, fun a e n => ?_⟩
  · by_cases z : a = p
    · subst z
      rw [upd_same] at e ⊢
      exact e
    · rw [upd_ne z] at e ⊢
      exact i a u e
  · by_cases z : a = p
    · rw [z]; exact h
    · rw [upd_ne z] at n
      exact (n e).elim
/-- a new object that is not settled -/
theorem Grow.lay' {S H : Hp} {p : Addr} {o : HO} (i : Same S H) (h : H p = none) : Grow S H S (upd H p o) :=
  ⟨.new h, .refl _, i.mut (i.free h), fun a e n => (n e).elim⟩
theorem Grow.none {S H S' H' : Hp} (g : Grow S H S' H') {p : Addr} {o : HO} (h : H p = some o) (s : S p = none) : S' p = none := by
  cases q : S' p with
  | none => rfl
  | some u =>
    have z := g.new p s (by rw [q]; exact fun z => by cases z)
    rw [h] at z
    cases z

/-! ### codecs -/
structure Cd (α : Type) where
  rep : PySem.W.Frag → Hp → V → α → Prop
  mono : ∀ {K : PySem.W.Frag} {H H' : Hp} {v : V} {a : α}, Same H H' → rep K H v a → rep K H' v a
def Reps {α : Type} (c : Cd α) (K : PySem.W.Frag) (H : Hp) : List V → List α → Prop
  | [], [] => True
  | v :: vs, a :: as => c.rep K H v a ∧ Reps c K H vs as
  | _, _ => False
section
variable {α β : Type} {c : Cd α} {K : PySem.W.Frag} {H H' : Hp}
theorem Reps.mono (e : Same H H') : ∀ {vs : List V} {as : List α}, Reps c K H vs as → Reps c K H' vs as
  | [], [], _ => trivial
  | _ :: _, _ :: _, h => ⟨c.mono e h.1, Reps.mono e h.2⟩
  | [], _ :: _, h => h.elim
  | _ :: _, [], h => h.elim
theorem Reps.length : ∀ {vs : List V} {as : List α}, Reps c K H vs as → vs.length = as.length
  | [], [], _ => rfl
  | _ :: _, _ :: _, h => congrArg Nat.succ (Reps.length h.2)
  | [], _ :: _, h => h.elim
  | _ :: _, [], h => h.elim
theorem Reps.append : ∀ {vs : List V} {as : List α} {ws : List V} {bs : List α}, Reps c K H vs as → Reps c K H ws bs → Reps c K H (vs ++ ws) (as ++ bs)
  | [], [], _, _, _, k => k
  | _ :: _, _ :: _, _, _, h, k => ⟨h.1, Reps.append h.2 k⟩
  | [], _ :: _, _, _, h, _ => h.elim
  | _ :: _, [], _, _, h, _ => h.elim
theorem Reps.get : ∀ {vs : List V} {as : List α} {i : Nat} {a : α}, Reps c K H vs as → as[i]? = some a → ∃ v, vs[i]? = some v ∧ c.rep K H v a
  | v :: _, a' :: _, 0, a, h, e => by
    have e2 : a' = a := Option.some.inj e
    subst e2
    exact ⟨v, rfl, h.1⟩
  | _ :: vs, _ :: as, i + 1, a, h, e => Reps.get (vs := vs) (as := as) (i := i) h.2 e
  | [], [], i, a, _, e => by simp at e
  | [], _ :: _, _, _, h, _ => h.elim
  | _ :: _, [], _, _, h, _ => h.elim
theorem Reps.getV : ∀ {vs : List V} {as : List α} {i : Nat} {v : V}, Reps c K H vs as → vs[i]? = some v → ∃ a, as[i]? = some a ∧ c.rep K H v a
  | v' :: _, a :: _, 0, v, h, e => by
    have e2 : v' = v := Option.some.inj e
    subst e2
    exact ⟨a, rfl, h.1⟩
  | _ :: vs, _ :: as, i + 1, v, h, e => Reps.getV (vs := vs) (as := as) (i := i) h.2 e
  | [], [], i, v, _, e => by simp at e
  | [], _ :: _, _, _, h, _ => h.elim
  | _ :: _, [], _, _, h, _ => h.elim
theorem Reps.set {a : α} {v : V} (r : c.rep K H v a) : ∀ {vs : List V} {as : List α} (i : Nat), Reps c K H vs as → Reps c K H (vs.set i v) (as.set i a)
  | [], [], _, _ => trivial
  | _ :: _, _ :: _, 0, h => ⟨r, h.2⟩
  | _ :: _, _ :: _, i + 1, h => ⟨h.1, Reps.set r i h.2⟩
  | [], _ :: _, _, h => h.elim
  | _ :: _, [], _, h => h.elim
theorem Reps.take : ∀ {vs : List V} {as : List α} (n : Nat), Reps c K H vs as → Reps c K H (vs.take n) (as.take n)
  | _, _, 0, _ => by simp [Reps]
  | [], [], _ + 1, _ => trivial
  | _ :: _, _ :: _, n + 1, h => ⟨h.1, Reps.take n h.2⟩
  | [], _ :: _, _ + 1, h => h.elim
  | _ :: _, [], _ + 1, h => h.elim
theorem Reps.drop : ∀ {vs : List V} {as : List α} (n : Nat), Reps c K H vs as → Reps c K H (vs.drop n) (as.drop n)
  | _, _, 0, h => h
  | [], [], _ + 1, _ => trivial
  | _ :: _, _ :: _, n + 1, h => Reps.drop n h.2
  | [], _ :: _, _ + 1, h => h.elim
  | _ :: _, [], _ + 1, h => h.elim
end

def cI : Cd Int := ⟨fun _ _ v i => v = .int i, fun _ h => h⟩
def cB : Cd Bool := ⟨fun _ _ v b => v = .bl b, fun _ h => h⟩
def cN : Cd Unit := ⟨fun _ _ v _ => v = .non, fun _ h => h⟩
def cS : Cd Str := ⟨fun _ _ v x => v = .str x, fun _ h => h⟩
def cL {α : Type} (c : Cd α) : Cd (List α) :=
  ⟨fun K H v as => ∃ p vs, v = .ref p ∧ SqL K H p vs ∧ Reps c K H vs as, fun e ⟨p, vs, h1, h2, h3⟩ => ⟨p, vs, h1, Same.seq e h2, Reps.mono e h3⟩⟩
def cT {α : Type} (c : Cd α) : Cd (List α) :=
  ⟨fun K H v as => ∃ p vs, v = .ref p ∧ SqT K H p vs ∧ Reps c K H vs as, fun e ⟨p, vs, h1, h2, h3⟩ => ⟨p, vs, h1, Same.tup e h2, Reps.mono e h3⟩⟩
/-- a list or a tuple -/
def cLT {α : Type} (c : Cd α) : Cd (List α) :=
  ⟨fun K H v as => (cL c).rep K H v as ∨ (cT c).rep K H v as, fun e h => h.imp ((cL c).mono e) ((cT c).mono e)⟩
def cO {α : Type} (c : Cd α) : Cd (Option α) :=
  ⟨fun K H v o => match o with | none => v = .non | some a => v ≠ .non ∧ c.rep K H v a, fun {K H H' v o} e h => by
    cases o with
    | none => exact h
    | some a => exact ⟨h.1, c.mono e h.2⟩⟩
/-! ### slots -/
inductive SD : Type 1 where
  | none
  | st (α : Type) (c : Cd α) (a : α)
  | mu (α : Type) (c : Cd α) (as : List α)
abbrev Env := List SD
/-- slots that hold these values -/
def EnvV (K : PySem.W.Frag) (H : Hp) : Env → List V → Prop
  | [], [] => True
  | d :: ds, v :: vs => (∃ (α : Type) (c : Cd α) (a : α), d = .st α c a ∧ c.rep K H v a) ∧ EnvV K H ds vs
  | _, _ => False
/-- several values, their mirrors nested pairs -/
structure CA (τ : Type) where
  n : Nat
  rep : PySem.W.Frag → Hp → List V → τ → Prop
  env : τ → Env
  mono : ∀ {K : PySem.W.Frag} {H H' : Hp} {vs : List V} {a : τ}, Same H H' → rep K H vs a → rep K H' vs a
  len : ∀ {K : PySem.W.Frag} {H : Hp} {vs : List V} {a : τ}, rep K H vs a → vs.length = n
  sl : ∀ {K : PySem.W.Frag} {H : Hp} {vs : List V} {a : τ}, rep K H vs a → EnvV K H (env a) vs
def aNil : CA Unit := ⟨0, fun _ _ vs _ => vs = [], fun _ => [], fun _ h => h, fun h => by rw [h] <;> rfl, fun h => by rw [h]; trivial⟩
def aOne {α : Type} (c : Cd α) : CA α := ⟨1, fun K H vs a => ∃ v, vs = [v] ∧ c.rep K H v a, fun a => [.st α c a], fun e ⟨v, h1, h2⟩ => ⟨v, h1, c.mono e h2⟩, fun ⟨v, h1, _⟩ => by rw [h1] <;> rfl, fun ⟨v, h1, h2⟩ => by rw [h1]; exact ⟨⟨α, c, _, rfl, h2⟩, trivial⟩⟩
def aCons {α τ : Type} (c : Cd α) (r : CA τ) : CA (α × τ) :=
  ⟨r.n + 1, fun K H vs a => ∃ v ws, vs = v :: ws ∧ c.rep K H v a.1 ∧ r.rep K H ws a.2, fun a => .st α c a.1 :: r.env a.2, fun e ⟨v, ws, h1, h2, h3⟩ => ⟨v, ws, h1, c.mono e h2, r.mono e h3⟩,
    fun ⟨v, ws, h1, _, h3⟩ => by rw [h1, List.length_cons, r.len h3], fun ⟨v, ws, h1, h2, h3⟩ => by rw [h1]; exact ⟨⟨α, c, _, rfl, h2⟩, r.sl h3⟩⟩
/-- a tuple of so many values -/
def cP {τ : Type} (r : CA τ) : Cd τ :=
  ⟨fun K H v a => ∃ p vs, v = .ref p ∧ SqT K H p vs ∧ r.rep K H vs a, fun e ⟨p, vs, h1, h2, h3⟩ => ⟨p, vs, h1, Same.tup e h2, r.mono e h3⟩⟩

/-! ### exceptions -/
def repFs (K : PySem.W.Frag) (S : Hp) (d : Option Addr) (fs : List (Str × Fld)) : Prop := match fs with
  | [] => True
  | _ => False
def repX (K : PySem.W.Frag) (S : Hp) (cl : Value) (d : Option Addr) (x : Exn) : Prop := cl = .ref (He.ga K x.cls) ∧ repFs K S d x.fs

/-! ### places of slots -/
namespace Env
def get : Env → Nat → SD
  | [], _ => .none
  | d :: _, 0 => d
  | _ :: ds, i + 1 => get ds i
def put : Env → Nat → SD → Env
  | [], _, _ => []
  | _ :: ds, 0, x => x :: ds
  | d :: ds, i + 1, x => d :: put ds i x
theorem put_length : ∀ (ds : Env) (i : Nat) (x : SD), (put ds i x).length = ds.length
  | [], _, _ => rfl
  | _ :: _, 0, _ => rfl
  | _ :: ds, i + 1, x => congrArg Nat.succ (put_length ds i x)
theorem get_put_same : ∀ (ds : Env) (i : Nat) (x : SD), i < ds.length → get (put ds i x) i = x
  | [], _, _, h => by simp at h
  | _ :: _, 0, _, _ => rfl
  | _ :: ds, i + 1, x, h => get_put_same ds i x (by simpa using h)
theorem get_put_ne : ∀ (ds : Env) (i j : Nat) (x : SD), j ≠ i → get (put ds i x) j = get ds j
  | [], _, _, _, _ => rfl
  | _ :: _, 0, 0, _, h => (h rfl).elim
  | _ :: _, 0, _ + 1, _, _ => rfl
  | _ :: _, _ + 1, 0, _, _ => rfl
  | _ :: ds, i + 1, j + 1, x, h => get_put_ne ds i j x (fun e => h (congrArg Nat.succ e))
theorem put_out : ∀ (ds : Env) (i : Nat) (x : SD), ds.length ≤ i → put ds i x = ds
  | [], _, _, _ => rfl
  | _ :: _, 0, _, h => by simp at h
  | d :: ds, i + 1, x, h => congrArg (d :: ·) (put_out ds i x (by simpa using h))
end Env
def isMu : SD → Prop
  | .mu _ _ _ => True
  | _ => False
def SlotOk (K : PySem.W.Frag) (H0 S H : Hp) (d : SD) (s : Option (Option V)) : Prop := match d with
  | .none => True
  | .st _ c a => ∃ v, s = some (some v) ∧ c.rep K S v a
  | .mu _ c as => ∃ p vs, s = some (some (.ref p)) ∧ H0 p = none ∧ S p = none ∧ H p = some (.lst vs) ∧ Reps c K S vs as
structure EnvOk (K : PySem.W.Frag) (S0 H0 : Hp) (ds : Env) (σ : L2.St) (S H : Hp) : Prop where
  len : ds.length = σ.length
  at_ : ∀ i, SlotOk K H0 S H (ds.get i) σ[i]?
  sep : ∀ i j p, isMu (ds.get i) → isMu (ds.get j) → σ[i]? = some (some (.ref p)) → σ[j]? = some (some (.ref p)) → i = j
  grow : Grow S0 H0 S H
section
variable {K : PySem.W.Frag} {S0 H0 S H S' H' : Hp} {ds : Env} {σ : L2.St}
theorem EnvOk.inn (e : EnvOk K S0 H0 ds σ S H) : Same S H := e.grow.inn
theorem SlotOk.grow {d : SD} {s : Option (Option V)} (h : SlotOk K H0 S H d s) (g : Grow S H S' H') : SlotOk K H0 S' H' d s := by
  cases d with
  | none => trivial
  | st α c a =>
    obtain ⟨v, h1, h2⟩ := h
    exact ⟨v, h1, c.mono g.st h2⟩
  | mu α c as =>
    obtain ⟨p, vs, h1, h2, h3, h4, h5⟩ := h
    exact ⟨p, vs, h1, h2, g.none h4 h3, g.ex _ _ h4, Reps.mono g.st h5⟩
theorem EnvOk.step (e : EnvOk K S0 H0 ds σ S H) (g : Grow S H S' H') : EnvOk K S0 H0 ds σ S' H' :=
  ⟨e.len, fun i => (e.at_ i).grow g, e.sep, e.grow.trans g⟩
theorem EnvOk.var (e : EnvOk K S0 H0 ds σ S H) {i : Nat} {α : Type} {c : Cd α} {a : α} (h : ds.get i = .st α c a) : ∃ v, σ[i]? = some (some v) ∧ c.rep K S v a := by
  have q := e.at_ i
  rw [h] at q
  exact q
theorem EnvOk.muv (e : EnvOk K S0 H0 ds σ S H) {i : Nat} {α : Type} {c : Cd α} {as : List α} (h : ds.get i = .mu α c as) :
    ∃ p vs, σ[i]? = some (some (.ref p)) ∧ H0 p = none ∧ S p = none ∧ H p = some (.lst vs) ∧ Reps c K S vs as := by
  have q := e.at_ i
  rw [h] at q
  exact q
theorem get_set_self {σ : L2.St} {i : Nat} {x : Option V} (h : i < σ.length) : (σ.set i x)[i]? = some x := List.getElem?_set_self h
/-- a slot is stored -/
theorem EnvOk.put (e : EnvOk K S0 H0 ds σ S H) {i : Nat} {v : V} {d : SD} (hd : SlotOk K H0 S H d (some (some v))) (hm : isMu d → ∀ p, v = .ref p → ∀ j, j ≠ i → isMu (ds.get j) → σ[j]? ≠ some (some (.ref p))) :
    EnvOk K S0 H0 (ds.put i d) (σ.set i (some v)) S H := by
  by_cases hi : i < ds.length
  · have hs : i < σ.length := by rw [← e.len]; exact hi
    refine ⟨by rw [Env.put_length, List.length_set, e.len], fun j => ?_, fun j k p mj mk hj hk => ?_, e.grow⟩
    · by_cases z : j = i
      · subst z
        rw [Env.get_put_same _ _ _ hi, get_set_self hs]
        exact hd
      · rw [Env.get_put_ne _ _ _ _ z, List.getElem?_set_ne (Ne.symm z)]
        exact e.at_ j
    · by_cases zj : j = i
      · by_cases zk : k = i
        · rw [zj, zk]
        · subst zj
          rw [Env.get_put_same _ _ _ hi] at mj
          rw [Env.get_put_ne _ _ _ _ zk] at mk
          rw [get_set_self hs] at hj
          rw [List.getElem?_set_ne (Ne.symm zk)] at hk
          have ev : v = .ref p := Option.some.inj (Option.some.inj hj)
          exact (hm mj p ev k zk mk hk).elim
      · by_cases zk : k = i
        · subst zk
          rw [Env.get_put_same _ _ _ hi] at mk
          rw [Env.get_put_ne _ _ _ _ zj] at mj
          rw [get_set_self hs] at hk
          rw [List.getElem?_set_ne (Ne.symm zj)] at hj
          have ev : v = .ref p := Option.some.inj (Option.some.inj hk)
          exact (hm mk p ev j zj mj hj).elim
        · rw [Env.get_put_ne _ _ _ _ zj] at mj
          rw [Env.get_put_ne _ _ _ _ zk] at mk
          rw [List.getElem?_set_ne (Ne.symm zj)] at hj
          rw [List.getElem?_set_ne (Ne.symm zk)] at hk
          exact e.sep j k p mj mk hj hk
  · have h1 : ds.length ≤ i := Nat.le_of_not_lt hi
    have h2 : σ.length ≤ i := by rw [← e.len]; exact h1
    rw [Env.put_out _ _ _ h1, List.set_eq_of_length_le h2]
    exact e
theorem EnvOk.putS (e : EnvOk K S0 H0 ds σ S H) {i : Nat} {v : V} {α : Type} {c : Cd α} {a : α} (h : c.rep K S v a) : EnvOk K S0 H0 (ds.put i (.st α c a)) (σ.set i (some v)) S H :=
  e.put ⟨v, rfl, h⟩ (fun z => z.elim)
/-- a list that no slot holds yet -/
theorem EnvOk.putM (e : EnvOk K S0 H0 ds σ S H) {i : Nat} {p : Addr} {vs : List V} {α : Type} {c : Cd α} {as : List α} (h0 : H0 p = none) (hs : S p = none) (hp : H p = some (.lst vs)) (r : Reps c K S vs as)
    (hn : ∀ j, isMu (ds.get j) → σ[j]? ≠ some (some (.ref p))) : EnvOk K S0 H0 (ds.put i (.mu α c as)) (σ.set i (some (.ref p))) S H :=
  e.put ⟨p, vs, rfl, h0, hs, hp, r⟩ (fun _ q eq j _ mj => by cases eq; exact hn j mj)
/-- a slot's list changes -/
theorem EnvOk.mutate (e : EnvOk K S0 H0 ds σ S H) {i : Nat} {p : Addr} {vs : List V} {α β : Type} {c : Cd α} {c' : Cd β} {as : List α} {bs : List β} (h : ds.get i = .mu α c as) (hp : σ[i]? = some (some (.ref p))) (r : Reps c' K S vs bs) :
    EnvOk K S0 H0 (ds.put i (.mu β c' bs)) σ S (upd H p (.lst vs)) := by
  obtain ⟨p', vs', h1, h2, h3, h4, h5⟩ := e.muv h
  have ep : p' = p := by
    rw [hp] at h1
    cases h1
    rfl
  subst ep
  have hi : i < ds.length := by
    rw [e.len]
    exact (List.getElem?_eq_some_iff.mp hp).1
  have mi : isMu (ds.get i) := by rw [h]; trivial
  have mono : ∀ j, isMu ((ds.put i (.mu β c' bs)).get j) → isMu (ds.get j) := fun j m => by
    by_cases z : j = i
    · rw [z]; exact mi
    · rw [Env.get_put_ne _ _ _ _ z] at m
      exact m
  refine ⟨by rw [Env.put_length, e.len], fun j => ?_, fun j k q mj mk => e.sep j k q (mono j mj) (mono k mk), ⟨e.grow.ex.mut h2, e.grow.st, e.grow.inn.mut h3, e.grow.new⟩⟩
  by_cases z : j = i
  · subst z
    rw [Env.get_put_same _ _ _ hi]
    exact ⟨p', vs, h1, h2, h3, upd_same, r⟩
  · rw [Env.get_put_ne _ _ _ _ z]
    have q := e.at_ j
    cases hd : ds.get j with
    | none => trivial
    | st γ c2 a =>
      rw [hd] at q
      exact q
    | mu γ c2 cs =>
      rw [hd] at q
      obtain ⟨p2, ws, k1, k2, k3, k4, k5⟩ := q
      refine ⟨p2, ws, k1, k2, k3, ?_, k5⟩
      rw [upd_ne (fun ez => z (e.sep j i p' (by rw [hd]; trivial) mi (by rw [← ez]; exact k1) h1))]
      exact k4
/-- a slot's list settles -/
theorem EnvOk.freeze (e : EnvOk K S0 H0 ds σ S H) {i : Nat} {α : Type} {c : Cd α} {as : List α} (h : ds.get i = .mu α c as) : ∃ S', Same S S' ∧ EnvOk K S0 H0 (ds.put i (.st (List α) (cL c) as)) σ S' H := by
  obtain ⟨p, vs, h1, h2, h3, h4, h5⟩ := e.muv h
  have hi : i < ds.length := by
    rw [e.len]
    exact (List.getElem?_eq_some_iff.mp h1).1
  have hS : Same S (upd S p (.lst vs)) := .new h3
  refine ⟨upd S p (.lst vs), hS, ⟨by rw [Env.put_length, e.len], fun j => ?_, fun j k q mj mk hj hk => ?_, ⟨e.grow.ex, e.grow.st.trans hS, fun a u ea => ?_, fun a ea na => ?_⟩⟩⟩
  · by_cases z : j = i
    · subst z
      rw [Env.get_put_same _ _ _ hi]
      exact ⟨.ref p, h1, p, vs, rfl, SqL.of upd_same, Reps.mono hS h5⟩
    · rw [Env.get_put_ne _ _ _ _ z]
      have q := e.at_ j
      cases hd : ds.get j with
      | none => trivial
      | st γ c2 a =>
        rw [hd] at q
        obtain ⟨v, k1, k2⟩ := q
        exact ⟨v, k1, c2.mono hS k2⟩
      | mu γ c2 cs =>
        rw [hd] at q
        obtain ⟨p2, ws, k1, k2, k3, k4, k5⟩ := q
        refine ⟨p2, ws, k1, k2, ?_, k4, Reps.mono hS k5⟩
        rw [upd_ne (fun ez => z (e.sep j i p (by rw [hd]; trivial) (by rw [h]; trivial) (by rw [← ez]; exact k1) h1))]
        exact k3
  · by_cases zj : j = i
    · subst zj
      rw [Env.get_put_same _ _ _ hi] at mj
      exact mj.elim
    · by_cases zk : k = i
      · subst zk
        rw [Env.get_put_same _ _ _ hi] at mk
        exact mk.elim
      · rw [Env.get_put_ne _ _ _ _ zj] at mj
        rw [Env.get_put_ne _ _ _ _ zk] at mk
        exact e.sep j k q mj mk hj hk
  · by_cases z : a = p
    · subst z
      rw [upd_same] at ea
      cases ea
      exact h4
    · rw [upd_ne z] at ea
      exact e.grow.inn a u ea
  · by_cases z : a = p
    · rw [z]; exact h2
    · rw [upd_ne z] at na
      exact e.grow.new a ea na
/-- forgetting -/
def EnvLe : Env → Env → Prop
  | [], [] => True
  | a :: as, b :: bs => (b = .none ∨ a = b) ∧ EnvLe as bs
  | _, _ => False
theorem EnvLe.length : ∀ {as bs : Env}, EnvLe as bs → as.length = bs.length
  | [], [], _ => rfl
  | _ :: _, _ :: _, h => congrArg Nat.succ (EnvLe.length h.2)
  | [], _ :: _, h => h.elim
  | _ :: _, [], h => h.elim
theorem EnvLe.get : ∀ {as bs : Env} (i : Nat), EnvLe as bs → bs.get i = .none ∨ as.get i = bs.get i
  | [], [], _, _ => .inl rfl
  | _ :: _, _ :: _, 0, h => h.1
  | _ :: as, _ :: bs, i + 1, h => EnvLe.get (as := as) (bs := bs) i h.2
  | [], _ :: _, _, h => h.elim
  | _ :: _, [], _, h => h.elim
theorem EnvOk.le {ds' : Env} (e : EnvOk K S0 H0 ds σ S H) (l : EnvLe ds ds') : EnvOk K S0 H0 ds' σ S H := by
  refine ⟨l.length.symm.trans e.len, fun i => ?_, fun i j p mi mj => ?_, e.grow⟩
  · rcases l.get i with q | q
    · rw [q]; trivial
    · rw [← q]; exact e.at_ i
  · have hi : isMu (ds.get i) := by
      rcases l.get i with q | q
      · rw [q] at mi; exact mi.elim
      · rw [q]; exact mi
    have hj : isMu (ds.get j) := by
      rcases l.get j with q | q
      · rw [q] at mj; exact mj.elim
      · rw [q]; exact mj
    exact e.sep i j p hi hj
theorem EnvLe.refl : ∀ (as : Env), EnvLe as as
  | [] => trivial
  | _ :: as => ⟨.inr rfl, EnvLe.refl as⟩
/-- the slots at a def's entry -/
theorem EnvV.length : ∀ {ds : Env} {vs : List V}, EnvV K H ds vs → ds.length = vs.length
  | [], [], _ => rfl
  | _ :: _, _ :: _, h => congrArg Nat.succ (EnvV.length h.2)
  | [], _ :: _, h => h.elim
  | _ :: _, [], h => h.elim
theorem EnvV.slot {n : Nat} : ∀ {ds : Env} {vs : List V} (i : Nat), EnvV K S ds vs → SlotOk K H0 S H ((ds ++ List.replicate n SD.none).get i) (vs.map some ++ List.replicate n none)[i]? ∧ ¬ isMu ((ds ++ List.replicate n SD.none).get i)
  | [], [], i, _ => by
    have e : Env.get (List.replicate n SD.none) i = .none := by
      induction n generalizing i with
      | zero => rfl
      | succ n ih => cases i with
        | zero => rfl
        | succ i => exact ih i
    rw [List.nil_append, e]
    exact ⟨trivial, fun z => z⟩
  | _ :: _, v :: _, 0, h => by
    obtain ⟨⟨α, c, a, e, r⟩, _⟩ := h
    subst e
    exact ⟨⟨v, rfl, r⟩, fun z => z⟩
  | _ :: ds, _ :: vs, i + 1, h => EnvV.slot (ds := ds) (vs := vs) i h.2
  | [], _ :: _, _, h => h.elim
  | _ :: _, [], _, h => h.elim
theorem EnvOk.start {N : List Str} {vs : List V} (h : EnvV K S ds vs) (hl : vs.length ≤ N.length) (i : Same S H) : EnvOk K S H (ds ++ List.replicate (N.length - vs.length) .none) (L2.start N vs) S H := by
  refine ⟨?_, fun i => (EnvV.slot i h).1, fun i j p mi => ((EnvV.slot (K := K) (H0 := H) (S := S) (H := H) i h).2 mi).elim, .refl i⟩
  unfold L2.start
  rw [List.length_append, List.length_append, List.length_map, List.length_replicate, List.length_replicate, h.length]
end
end Zk
set_option maxHeartbeats 4000000
/-! # Zk: expressions -/
namespace Zk
open PySem PySem.Spec PyProof.Rows L2
/-! ### what follows a value -/
def PX {α : Type} (c : Cd α) (K : PySem.W.Frag) (S H : Hp) (m : R α) (Q : VK) (W : XK) : Prop :=
  m.post (fun a => ∀ v S' H', Grow S H S' H' → c.rep K S' v a → Q v H') (fun x => ∀ cl d S' H', Grow S H S' H' → repX K S' cl d x → W cl d H')
def PB (K : PySem.W.Frag) (S H : Hp) (m : R Bool) (Q : Bool → Hp → Prop) (W : XK) : Prop :=
  m.post (fun b => ∀ S' H', Grow S H S' H' → Q b H') (fun x => ∀ cl d S' H', Grow S H S' H' → repX K S' cl d x → W cl d H')
def PAx {τ : Type} (c : CA τ) (K : PySem.W.Frag) (S H : Hp) (m : R τ) (Q : List V → Hp → Prop) (W : XK) : Prop :=
  m.post (fun a => ∀ vs S' H', Grow S H S' H' → c.rep K S' vs a → Q vs H') (fun x => ∀ cl d S' H', Grow S H S' H' → repX K S' cl d x → W cl d H')
section
variable {α β τ : Type} {c : Cd α} {c2 : Cd β} {ca : CA τ} {K : PySem.W.Frag} {S H S1 H1 : Hp} {W : XK}
theorem PX.grow {m : R α} {Q : VK} (g : Grow S H S1 H1) (h : PX c K S H m Q W) : PX c K S1 H1 m Q W :=
  R.post_mono h (fun _ q v S' H' g' r => q v S' H' (g.trans g') r) (fun _ q cl d S' H' g' r => q cl d S' H' (g.trans g') r)
theorem PX.bind {m : R α} {f : α → R β} {Q Q1 : VK} (h : PX c2 K S H (m >>= f) Q W) (k : ∀ a v S1 H1, Grow S H S1 H1 → c.rep K S1 v a → PX c2 K S1 H1 (f a) Q W → Q1 v H1) : PX c K S H m Q1 W :=
  R.post_mono (R.post_bind.mp h) (fun a q v S1 H1 g r => k a v S1 H1 g r (PX.grow g q)) (fun _ q => q)
theorem PX.bindB {m : R Bool} {f : Bool → R β} {Q : VK} {Q1 : Bool → Hp → Prop} (h : PX c2 K S H (m >>= f) Q W) (k : ∀ a S1 H1, Grow S H S1 H1 → PX c2 K S1 H1 (f a) Q W → Q1 a H1) : PB K S H m Q1 W :=
  R.post_mono (R.post_bind.mp h) (fun a q S1 H1 g => k a S1 H1 g (PX.grow g q)) (fun _ q => q)
theorem PX.bindA {m : R τ} {f : τ → R β} {Q : VK} {Q1 : List V → Hp → Prop} (h : PX c2 K S H (m >>= f) Q W) (k : ∀ a vs S1 H1, Grow S H S1 H1 → ca.rep K S1 vs a → PX c2 K S1 H1 (f a) Q W → Q1 vs H1) : PAx ca K S H m Q1 W :=
  R.post_mono (R.post_bind.mp h) (fun a q vs S1 H1 g r => k a vs S1 H1 g r (PX.grow g q)) (fun _ q => q)
theorem PB.grow {m : R Bool} {Q : Bool → Hp → Prop} (g : Grow S H S1 H1) (h : PB K S H m Q W) : PB K S1 H1 m Q W :=
  R.post_mono h (fun _ q S' H' g' => q S' H' (g.trans g')) (fun _ q cl d S' H' g' r => q cl d S' H' (g.trans g') r)
theorem PB.bind {m : R α} {f : α → R Bool} {Q : Bool → Hp → Prop} {Q1 : VK} (h : PB K S H (m >>= f) Q W) (k : ∀ a v S1 H1, Grow S H S1 H1 → c.rep K S1 v a → PB K S1 H1 (f a) Q W → Q1 v H1) : PX c K S H m Q1 W :=
  R.post_mono (R.post_bind.mp h) (fun a q v S1 H1 g r => k a v S1 H1 g r (PB.grow g q)) (fun _ q => q)
theorem PB.bindB {m : R Bool} {f : Bool → R Bool} {Q Q1 : Bool → Hp → Prop} (h : PB K S H (m >>= f) Q W) (k : ∀ a S1 H1, Grow S H S1 H1 → PB K S1 H1 (f a) Q W → Q1 a H1) : PB K S H m Q1 W :=
  R.post_mono (R.post_bind.mp h) (fun a q S1 H1 g => k a S1 H1 g (PB.grow g q)) (fun _ q => q)
theorem PAx.grow {m : R τ} {Q : List V → Hp → Prop} (g : Grow S H S1 H1) (h : PAx ca K S H m Q W) : PAx ca K S1 H1 m Q W :=
  R.post_mono h (fun _ q v S' H' g' r => q v S' H' (g.trans g') r) (fun _ q cl d S' H' g' r => q cl d S' H' (g.trans g') r)
theorem PAx.bind {m : R α} {f : α → R τ} {Q : List V → Hp → Prop} {Q1 : VK} (h : PAx ca K S H (m >>= f) Q W) (k : ∀ a v S1 H1, Grow S H S1 H1 → c.rep K S1 v a → PAx ca K S1 H1 (f a) Q W → Q1 v H1) : PX c K S H m Q1 W :=
  R.post_mono (R.post_bind.mp h) (fun a q v S1 H1 g r => k a v S1 H1 g r (PAx.grow g q)) (fun _ q => q)
theorem PAx.bindA {τ' : Type} {ca' : CA τ'} {m : R τ'} {f : τ' → R τ} {Q : List V → Hp → Prop} {Q1 : List V → Hp → Prop} (h : PAx ca K S H (m >>= f) Q W) (k : ∀ a vs S1 H1, Grow S H S1 H1 → ca'.rep K S1 vs a → PAx ca K S1 H1 (f a) Q W → Q1 vs H1) : PAx ca' K S H m Q1 W :=
  R.post_mono (R.post_bind.mp h) (fun a q vs S1 H1 g r => k a vs S1 H1 g r (PAx.grow g q)) (fun _ q => q)
theorem PX.ok {a : α} {Q : VK} {v : V} (h : PX c K S H (.ok a) Q W) (i : Same S H) (r : c.rep K S v a) : Q v H := h v S H (.refl i) r
theorem PB.ok {b : Bool} {Q : Bool → Hp → Prop} (h : PB K S H (.ok b) Q W) (i : Same S H) : Q b H := h S H (.refl i)
theorem PAx.ok {a : τ} {Q : List V → Hp → Prop} {vs : List V} (h : PAx ca K S H (.ok a) Q W) (i : Same S H) (r : ca.rep K S vs a) : Q vs H := h vs S H (.refl i) r
end
/-! ### the judgements -/
def DE (X : Cx) (W : XK) (ds : Env) (e : Expr) {α : Type} (c : Cd α) (m : R α) : Prop :=
  ∃ t : TE, PE X e t ∧ ∀ S0 H0 σ S H Q, EnvOk X.K S0 H0 ds σ S H → PX c X.K S H m Q W → t σ H Q
def DT (X : Cx) (W : XK) (ds : Env) (e : Expr) (m : R Bool) : Prop :=
  ∃ t : TT, PT X e t ∧ ∀ S0 H0 σ S H Q, EnvOk X.K S0 H0 ds σ S H → PB X.K S H m Q W → t σ H Q
/-- a test within and, or -/
def DW (X : Cx) (W : XK) (ds : Env) (e : Expr) (m : R Bool) : Prop :=
  ∃ t : TT, PW X e t ∧ ∀ S0 H0 σ S H Q, EnvOk X.K S0 H0 ds σ S H → PB X.K S H m Q W → t σ H Q
def DA (X : Cx) (W : XK) (ds : Env) (es : List Expr) {τ : Type} (c : CA τ) (m : R τ) : Prop :=
  ∃ t : TA, PA X es t ∧ ∀ S0 H0 σ S H Q, EnvOk X.K S0 H0 ds σ S H → PAx c X.K S H m Q W → t σ H Q
section
variable {X : Cx} {W : XK} {ds : Env} {α β γ τ : Type} {a b : Expr} {es : List Expr} {pos : Pos}
/-! ### names, constants -/
theorem var (i : Nat) {c : Cd α} {x : Str} {z : α} (h : ds.get i = .st α c z := by rfl) (hN : X.N[i]? = some x := by rfl) (hv : Vis X.env.scope x := by first | exact Or.inl rfl | exact Or.inr (Or.inl rfl) | exact Or.inr (Or.inr rfl))
    (hd : (x == ("__debug__" : Str)) = false := by decide) (hcd : (x == ("__classdict__" : Str)) = false := by decide) : DE X W ds (.Name x pos) c (.ok z) :=
  ⟨tVar i, pe_var hN hv hd hcd, fun S0 H0 σ S H Q E P => by
    obtain ⟨v, h1, h2⟩ := E.var h
    exact ⟨v, h1, P.ok E.inn h2⟩⟩
theorem int {i : Int} {j : Nat} : DE X W ds (.Constant (.int i) j pos) cI (.ok i) := ⟨_, pe_int, fun _ _ _ _ _ _ E P => P.ok E.inn rfl⟩
theorem bool {i : Bool} {j : Nat} : DE X W ds (.Constant (.bool i) j pos) cB (.ok i) := ⟨_, pe_bl, fun _ _ _ _ _ _ E P => P.ok E.inn rfl⟩
theorem non {j : Nat} : DE X W ds (.Constant .none j pos) cN (.ok ()) := ⟨_, pe_non, fun _ _ _ _ _ _ E P => P.ok E.inn rfl⟩
theorem str {x : Str} {j : Nat} : DE X W ds (.Constant (.str x) j pos) cS (.ok x) := ⟨_, pe_str, fun _ _ _ _ _ _ E P => P.ok E.inn rfl⟩
/-- another reading of the same value -/
def Coe (c : Cd α) (c2 : Cd β) (f : α → β) : Prop := ∀ K H v a, c.rep K H v a → c2.rep K H v (f a)
theorem coe {c : Cd α} {c2 : Cd β} {f : α → β} {m : R α} (h : Coe c c2 f) (ha : DE X W ds a c m) : DE X W ds a c2 (m >>= fun x => .ok (f x)) := by
  obtain ⟨t, p, q⟩ := ha
  refine ⟨t, p, fun S0 H0 σ S H Q E P => q S0 H0 σ S H Q E (P.bind fun x v S1 H1 g r P1 => P1.ok g.inn (h _ _ _ _ r))⟩
/-! ### two operands -/
def BinSem (K : PySem.W.Frag) (W : XK) (r : R2) (c1 : Cd α) (c2 : Cd β) (c3 : Cd γ) (g : α → β → R γ) : Prop :=
  ∀ x y v u S H Q, Same S H → c1.rep K S v x → c2.rep K S u y → PX c3 K S H (g x y) Q W → r v u H Q
variable {c1 : Cd α} {c2 : Cd β} {c3 : Cd γ} {g : α → β → R γ} {m1 : R α} {m2 : R β} {r : R2} {x : α} {y : β}
theorem tOp_sem {ta tb : TE} (hs : BinSem X.K W r c1 c2 c3 g) (qa : ∀ S0 H0 σ S H Q, EnvOk X.K S0 H0 ds σ S H → PX c1 X.K S H m1 Q W → ta σ H Q) (qb : ∀ S0 H0 σ S H Q, EnvOk X.K S0 H0 ds σ S H → PX c2 X.K S H m2 Q W → tb σ H Q) :
    ∀ S0 H0 σ S H Q, EnvOk X.K S0 H0 ds σ S H → PX c3 X.K S H (m1 >>= fun x => m2 >>= fun y => g x y) Q W → tOp r ta tb σ H Q := fun S0 H0 σ S H Q E P =>
  qa S0 H0 σ S H _ E (P.bind fun x v S1 H1 g1 r1 P1 => qb S0 H0 σ S1 H1 _ (E.step g1) (P1.bind fun y u S2 H2 g2 r2 P2 => hs x y v u S2 H2 Q g2.inn (c1.mono g2.st r1) r2 P2))
theorem bin {op : Operator} (ho : OpR X (binaryOp op) r) (hs : BinSem X.K W r c1 c2 c3 g) (ha : DE X W ds a c1 m1) (hb : DE X W ds b c2 m2) : DE X W ds (.BinOp a op b pos) c3 (m1 >>= fun x => m2 >>= fun y => g x y) := by
  obtain ⟨ta, pa, qa⟩ := ha
  obtain ⟨tb, pb, qb⟩ := hb
  exact ⟨tOp r ta tb, pe_op ho pa pb, tOp_sem hs qa qb⟩
theorem cmpV {op : CmpOp} (ho : OpR X (compareOp op) r) (hm : behindInMarks op b = false) (hs : BinSem X.K W r c1 c2 c3 g) (ha : DE X W ds a c1 m1) (hb : DE X W ds b c2 m2) : DE X W ds (.Compare a [op] [b] pos) c3 (m1 >>= fun x => m2 >>= fun y => g x y) := by
  obtain ⟨ta, pa, qa⟩ := ha
  obtain ⟨tb, pb, qb⟩ := hb
  exact ⟨tOp r ta tb, pe_cmpR ho pa pb hm, tOp_sem hs qa qb⟩
theorem pb_of {m : R Bool} {K : PySem.W.Frag} {S H : Hp} {Q : Bool → Hp → Prop} (P : PB K S H m Q W) : PX cB K S H m (fun v H' => ∃ k, v = .bl k ∧ Q k H') W :=
  R.post_mono P (fun b q v S' H' gr e => ⟨b, e, q S' H' gr⟩) (fun _ q => q)
theorem cmpT {op : CmpOp} {g : α → β → R Bool} (ho : OpR X (compareOp op) r) (hm : behindInMarks op b = false) (hs : BinSem X.K W r c1 c2 cB g) (ha : DE X W ds a c1 m1) (hb : DE X W ds b c2 m2) : DT X W ds (.Compare a [op] [b] pos) (m1 >>= fun x => m2 >>= fun y => g x y) := by
  obtain ⟨ta, pa, qa⟩ := ha
  obtain ⟨tb, pb, qb⟩ := hb
  exact ⟨_, pt_cmpR ho pa pb hm, fun S0 H0 σ S H Q E P => tOp_sem hs qa qb S0 H0 σ S H _ E (pb_of P)⟩
theorem ix {r : R2} (ho : IxR X r) (hp : PlainIx b) (hs : BinSem X.K W r c1 c2 c3 g) (ha : DE X W ds a c1 m1) (hb : DE X W ds b c2 m2) : DE X W ds (.Subscript a b pos) c3 (m1 >>= fun x => m2 >>= fun y => g x y) := by
  obtain ⟨ta, pa, qa⟩ := ha
  obtain ⟨tb, pb, qb⟩ := hb
  exact ⟨tOp r ta tb, pe_ix ho pa pb hp, tOp_sem hs qa qb⟩
/-! ### numbers -/
def mulOk (x y : Int) : Bool := decide (x.natAbs.log2 + y.natAbs.log2 < 100000000)
def mulM (x y : Int) : R Int := R.guard (mulOk x y = true) (x * y)
def fdivM (x y : Int) : R Int := R.guard (y ≠ 0 ∧ Builtin.divisionGoesByPylong x y = false) (x.fdiv y)
def modM (x y : Int) : R Int := R.guard (y ≠ 0) (x.fmod y)
def powM (x y : Int) : R Int := R.guard (0 ≤ y ∧ y ≤ 1000000 ∧ x.natAbs < 2 ^ 64) (x ^ y.toNat)
theorem mulOk.ok {i j : Int} (h : mulOk i j = true) : IntMulOk i j := by
  have b : ∀ x : Int, Builtin.Int.intBits x ≤ x.natAbs.log2 + 1 := fun x => by
    unfold Builtin.Int.intBits
    split <;> omega
  have h1 := b i
  have h2 := b j
  have h3 : i.natAbs.log2 + j.natAbs.log2 < 100000000 := of_decide_eq_true h
  have e : bitsLine = 134217728 := by decide
  unfold IntMulOk
  intro z
  rw [Bool.and_eq_true] at z
  have z2 := z.2
  unfold Builtin.Int.intTooBig at z2
  have z3 := of_decide_eq_true z2
  rw [e] at z3
  omega
theorem op_mulZ : OpR X (binaryOp .Mult) (rI (fun i j => mulOk i j = true) fun i j => .int (i * j)) := opI fun _ _ _ _ _ _ _ hc q => mul_int q (mulOk.ok hc)
theorem op_fdivZ : OpR X (binaryOp .FloorDiv) (rI (fun i j => j ≠ 0 ∧ Builtin.divisionGoesByPylong i j = false) fun i j => .int (i.fdiv j)) := opI fun _ _ _ _ _ _ _ hc q => floordiv_int hc.1 q (.inl hc.2)
theorem sem_I0 {K : PySem.W.Frag} {f : Int → Int → Int} : BinSem K W (rI0 fun i j => .int (f i j)) cI cI cI (fun x y => .ok (f x y)) := fun x y v u S H Q i r1 r2 P => ⟨x, y, r1, r2, P.ok i rfl⟩
theorem sem_B0 {K : PySem.W.Frag} {f : Int → Int → Bool} : BinSem K W (rI0 fun i j => .bl (f i j)) cI cI cB (fun x y => .ok (f x y)) := fun x y v u S H Q i r1 r2 P => ⟨x, y, r1, r2, P.ok i rfl⟩
theorem PX.guard {p : Prop} [Decidable p] {z : γ} {K : PySem.W.Frag} {S H : Hp} {Q : VK} (P : PX c3 K S H (R.guard p z) Q W) : p ∧ PX c3 K S H (.ok z) Q W := by
  unfold R.guard at P
  split at P
  · exact ⟨by assumption, P⟩
  · exact False.elim P
theorem sem_I {K : PySem.W.Frag} {C : Int → Int → Prop} [h : ∀ i j, Decidable (C i j)] {f : Int → Int → Int} : BinSem K W (rI C fun i j => .int (f i j)) cI cI cI (fun x y => R.guard (C x y) (f x y)) := fun x y v u S H Q i r1 r2 P => by
  obtain ⟨h1, h2⟩ := P.guard
  exact ⟨x, y, r1, r2, h1, h2.ok i rfl⟩

theorem add_pp  {x : Int} {y : Int} (ha : DE X W ds a cI (.ok x)) (hb : DE X W ds b cI (.ok y)) : DE X W ds (.BinOp a .Add b pos) cI (.ok (x + y)) := bin op_add sem_I0 ha hb
theorem add_mp  {m1 : R Int} {y : Int} (ha : DE X W ds a cI m1) (hb : DE X W ds b cI (.ok y)) : DE X W ds (.BinOp a .Add b pos) cI (m1 >>= fun x => .ok (x + y)) := bin op_add sem_I0 ha hb
theorem add_pm  {x : Int} {m2 : R Int} (ha : DE X W ds a cI (.ok x)) (hb : DE X W ds b cI m2) : DE X W ds (.BinOp a .Add b pos) cI (m2 >>= fun y => .ok (x + y)) := bin op_add sem_I0 ha hb
theorem add_mm  {m1 : R Int} {m2 : R Int} (ha : DE X W ds a cI m1) (hb : DE X W ds b cI m2) : DE X W ds (.BinOp a .Add b pos) cI (m1 >>= fun x => m2 >>= fun y => .ok (x + y)) := bin op_add sem_I0 ha hb
theorem sub_pp  {x : Int} {y : Int} (ha : DE X W ds a cI (.ok x)) (hb : DE X W ds b cI (.ok y)) : DE X W ds (.BinOp a .Sub b pos) cI (.ok (x - y)) := bin op_sub sem_I0 ha hb
theorem sub_mp  {m1 : R Int} {y : Int} (ha : DE X W ds a cI m1) (hb : DE X W ds b cI (.ok y)) : DE X W ds (.BinOp a .Sub b pos) cI (m1 >>= fun x => .ok (x - y)) := bin op_sub sem_I0 ha hb
theorem sub_pm  {x : Int} {m2 : R Int} (ha : DE X W ds a cI (.ok x)) (hb : DE X W ds b cI m2) : DE X W ds (.BinOp a .Sub b pos) cI (m2 >>= fun y => .ok (x - y)) := bin op_sub sem_I0 ha hb
theorem sub_mm  {m1 : R Int} {m2 : R Int} (ha : DE X W ds a cI m1) (hb : DE X W ds b cI m2) : DE X W ds (.BinOp a .Sub b pos) cI (m1 >>= fun x => m2 >>= fun y => .ok (x - y)) := bin op_sub sem_I0 ha hb
theorem mul_pp  {x : Int} {y : Int} (ha : DE X W ds a cI (.ok x)) (hb : DE X W ds b cI (.ok y)) : DE X W ds (.BinOp a .Mult b pos) cI (mulM x y) := bin op_mulZ sem_I ha hb
theorem mul_mp  {m1 : R Int} {y : Int} (ha : DE X W ds a cI m1) (hb : DE X W ds b cI (.ok y)) : DE X W ds (.BinOp a .Mult b pos) cI (m1 >>= fun x => mulM x y) := bin op_mulZ sem_I ha hb
theorem mul_pm  {x : Int} {m2 : R Int} (ha : DE X W ds a cI (.ok x)) (hb : DE X W ds b cI m2) : DE X W ds (.BinOp a .Mult b pos) cI (m2 >>= fun y => mulM x y) := bin op_mulZ sem_I ha hb
theorem mul_mm  {m1 : R Int} {m2 : R Int} (ha : DE X W ds a cI m1) (hb : DE X W ds b cI m2) : DE X W ds (.BinOp a .Mult b pos) cI (m1 >>= fun x => m2 >>= fun y => mulM x y) := bin op_mulZ sem_I ha hb
theorem fdiv_pp  {x : Int} {y : Int} (ha : DE X W ds a cI (.ok x)) (hb : DE X W ds b cI (.ok y)) : DE X W ds (.BinOp a .FloorDiv b pos) cI (fdivM x y) := bin op_fdivZ sem_I ha hb
theorem fdiv_mp  {m1 : R Int} {y : Int} (ha : DE X W ds a cI m1) (hb : DE X W ds b cI (.ok y)) : DE X W ds (.BinOp a .FloorDiv b pos) cI (m1 >>= fun x => fdivM x y) := bin op_fdivZ sem_I ha hb
theorem fdiv_pm  {x : Int} {m2 : R Int} (ha : DE X W ds a cI (.ok x)) (hb : DE X W ds b cI m2) : DE X W ds (.BinOp a .FloorDiv b pos) cI (m2 >>= fun y => fdivM x y) := bin op_fdivZ sem_I ha hb
theorem fdiv_mm  {m1 : R Int} {m2 : R Int} (ha : DE X W ds a cI m1) (hb : DE X W ds b cI m2) : DE X W ds (.BinOp a .FloorDiv b pos) cI (m1 >>= fun x => m2 >>= fun y => fdivM x y) := bin op_fdivZ sem_I ha hb
theorem mod_pp  {x : Int} {y : Int} (ha : DE X W ds a cI (.ok x)) (hb : DE X W ds b cI (.ok y)) : DE X W ds (.BinOp a .Mod b pos) cI (modM x y) := bin op_modN sem_I ha hb
theorem mod_mp  {m1 : R Int} {y : Int} (ha : DE X W ds a cI m1) (hb : DE X W ds b cI (.ok y)) : DE X W ds (.BinOp a .Mod b pos) cI (m1 >>= fun x => modM x y) := bin op_modN sem_I ha hb
theorem mod_pm  {x : Int} {m2 : R Int} (ha : DE X W ds a cI (.ok x)) (hb : DE X W ds b cI m2) : DE X W ds (.BinOp a .Mod b pos) cI (m2 >>= fun y => modM x y) := bin op_modN sem_I ha hb
theorem mod_mm  {m1 : R Int} {m2 : R Int} (ha : DE X W ds a cI m1) (hb : DE X W ds b cI m2) : DE X W ds (.BinOp a .Mod b pos) cI (m1 >>= fun x => m2 >>= fun y => modM x y) := bin op_modN sem_I ha hb
instance {i j : Int} : Decidable (CPow i j) := by unfold CPow; infer_instance
theorem pow_pp  {x : Int} {y : Int} (ha : DE X W ds a cI (.ok x)) (hb : DE X W ds b cI (.ok y)) : DE X W ds (.BinOp a .Pow b pos) cI (powM x y) := bin op_pow sem_I ha hb
theorem pow_mp  {m1 : R Int} {y : Int} (ha : DE X W ds a cI m1) (hb : DE X W ds b cI (.ok y)) : DE X W ds (.BinOp a .Pow b pos) cI (m1 >>= fun x => powM x y) := bin op_pow sem_I ha hb
theorem pow_pm  {x : Int} {m2 : R Int} (ha : DE X W ds a cI (.ok x)) (hb : DE X W ds b cI m2) : DE X W ds (.BinOp a .Pow b pos) cI (m2 >>= fun y => powM x y) := bin op_pow sem_I ha hb
theorem pow_mm  {m1 : R Int} {m2 : R Int} (ha : DE X W ds a cI m1) (hb : DE X W ds b cI m2) : DE X W ds (.BinOp a .Pow b pos) cI (m1 >>= fun x => m2 >>= fun y => powM x y) := bin op_pow sem_I ha hb
theorem lt_pp  {x : Int} {y : Int} (ha : DE X W ds a cI (.ok x)) (hb : DE X W ds b cI (.ok y)) : DE X W ds (.Compare a [.Lt] [b] pos) cB (.ok (decide (x < y))) := cmpV op_lt (nomark _) sem_B0 ha hb
theorem lt_mp  {m1 : R Int} {y : Int} (ha : DE X W ds a cI m1) (hb : DE X W ds b cI (.ok y)) : DE X W ds (.Compare a [.Lt] [b] pos) cB (m1 >>= fun x => .ok (decide (x < y))) := cmpV op_lt (nomark _) sem_B0 ha hb
theorem lt_pm  {x : Int} {m2 : R Int} (ha : DE X W ds a cI (.ok x)) (hb : DE X W ds b cI m2) : DE X W ds (.Compare a [.Lt] [b] pos) cB (m2 >>= fun y => .ok (decide (x < y))) := cmpV op_lt (nomark _) sem_B0 ha hb
theorem lt_mm  {m1 : R Int} {m2 : R Int} (ha : DE X W ds a cI m1) (hb : DE X W ds b cI m2) : DE X W ds (.Compare a [.Lt] [b] pos) cB (m1 >>= fun x => m2 >>= fun y => .ok (decide (x < y))) := cmpV op_lt (nomark _) sem_B0 ha hb
theorem ltT_pp  {x : Int} {y : Int} (ha : DE X W ds a cI (.ok x)) (hb : DE X W ds b cI (.ok y)) : DT X W ds (.Compare a [.Lt] [b] pos) (.ok (decide (x < y))) := cmpT op_lt (nomark _) sem_B0 ha hb
theorem ltT_mp  {m1 : R Int} {y : Int} (ha : DE X W ds a cI m1) (hb : DE X W ds b cI (.ok y)) : DT X W ds (.Compare a [.Lt] [b] pos) (m1 >>= fun x => .ok (decide (x < y))) := cmpT op_lt (nomark _) sem_B0 ha hb
theorem ltT_pm  {x : Int} {m2 : R Int} (ha : DE X W ds a cI (.ok x)) (hb : DE X W ds b cI m2) : DT X W ds (.Compare a [.Lt] [b] pos) (m2 >>= fun y => .ok (decide (x < y))) := cmpT op_lt (nomark _) sem_B0 ha hb
theorem ltT_mm  {m1 : R Int} {m2 : R Int} (ha : DE X W ds a cI m1) (hb : DE X W ds b cI m2) : DT X W ds (.Compare a [.Lt] [b] pos) (m1 >>= fun x => m2 >>= fun y => .ok (decide (x < y))) := cmpT op_lt (nomark _) sem_B0 ha hb
theorem le_pp  {x : Int} {y : Int} (ha : DE X W ds a cI (.ok x)) (hb : DE X W ds b cI (.ok y)) : DE X W ds (.Compare a [.LtE] [b] pos) cB (.ok (decide (x ≤ y))) := cmpV op_le (nomark _) sem_B0 ha hb
theorem le_mp  {m1 : R Int} {y : Int} (ha : DE X W ds a cI m1) (hb : DE X W ds b cI (.ok y)) : DE X W ds (.Compare a [.LtE] [b] pos) cB (m1 >>= fun x => .ok (decide (x ≤ y))) := cmpV op_le (nomark _) sem_B0 ha hb
theorem le_pm  {x : Int} {m2 : R Int} (ha : DE X W ds a cI (.ok x)) (hb : DE X W ds b cI m2) : DE X W ds (.Compare a [.LtE] [b] pos) cB (m2 >>= fun y => .ok (decide (x ≤ y))) := cmpV op_le (nomark _) sem_B0 ha hb
theorem le_mm  {m1 : R Int} {m2 : R Int} (ha : DE X W ds a cI m1) (hb : DE X W ds b cI m2) : DE X W ds (.Compare a [.LtE] [b] pos) cB (m1 >>= fun x => m2 >>= fun y => .ok (decide (x ≤ y))) := cmpV op_le (nomark _) sem_B0 ha hb
theorem leT_pp  {x : Int} {y : Int} (ha : DE X W ds a cI (.ok x)) (hb : DE X W ds b cI (.ok y)) : DT X W ds (.Compare a [.LtE] [b] pos) (.ok (decide (x ≤ y))) := cmpT op_le (nomark _) sem_B0 ha hb
theorem leT_mp  {m1 : R Int} {y : Int} (ha : DE X W ds a cI m1) (hb : DE X W ds b cI (.ok y)) : DT X W ds (.Compare a [.LtE] [b] pos) (m1 >>= fun x => .ok (decide (x ≤ y))) := cmpT op_le (nomark _) sem_B0 ha hb
theorem leT_pm  {x : Int} {m2 : R Int} (ha : DE X W ds a cI (.ok x)) (hb : DE X W ds b cI m2) : DT X W ds (.Compare a [.LtE] [b] pos) (m2 >>= fun y => .ok (decide (x ≤ y))) := cmpT op_le (nomark _) sem_B0 ha hb
theorem leT_mm  {m1 : R Int} {m2 : R Int} (ha : DE X W ds a cI m1) (hb : DE X W ds b cI m2) : DT X W ds (.Compare a [.LtE] [b] pos) (m1 >>= fun x => m2 >>= fun y => .ok (decide (x ≤ y))) := cmpT op_le (nomark _) sem_B0 ha hb
theorem gt_pp  {x : Int} {y : Int} (ha : DE X W ds a cI (.ok x)) (hb : DE X W ds b cI (.ok y)) : DE X W ds (.Compare a [.Gt] [b] pos) cB (.ok (decide (y < x))) := cmpV op_gt (nomark _) sem_B0 ha hb
theorem gt_mp  {m1 : R Int} {y : Int} (ha : DE X W ds a cI m1) (hb : DE X W ds b cI (.ok y)) : DE X W ds (.Compare a [.Gt] [b] pos) cB (m1 >>= fun x => .ok (decide (y < x))) := cmpV op_gt (nomark _) sem_B0 ha hb
theorem gt_pm  {x : Int} {m2 : R Int} (ha : DE X W ds a cI (.ok x)) (hb : DE X W ds b cI m2) : DE X W ds (.Compare a [.Gt] [b] pos) cB (m2 >>= fun y => .ok (decide (y < x))) := cmpV op_gt (nomark _) sem_B0 ha hb
theorem gt_mm  {m1 : R Int} {m2 : R Int} (ha : DE X W ds a cI m1) (hb : DE X W ds b cI m2) : DE X W ds (.Compare a [.Gt] [b] pos) cB (m1 >>= fun x => m2 >>= fun y => .ok (decide (y < x))) := cmpV op_gt (nomark _) sem_B0 ha hb
theorem gtT_pp  {x : Int} {y : Int} (ha : DE X W ds a cI (.ok x)) (hb : DE X W ds b cI (.ok y)) : DT X W ds (.Compare a [.Gt] [b] pos) (.ok (decide (y < x))) := cmpT op_gt (nomark _) sem_B0 ha hb
theorem gtT_mp  {m1 : R Int} {y : Int} (ha : DE X W ds a cI m1) (hb : DE X W ds b cI (.ok y)) : DT X W ds (.Compare a [.Gt] [b] pos) (m1 >>= fun x => .ok (decide (y < x))) := cmpT op_gt (nomark _) sem_B0 ha hb
theorem gtT_pm  {x : Int} {m2 : R Int} (ha : DE X W ds a cI (.ok x)) (hb : DE X W ds b cI m2) : DT X W ds (.Compare a [.Gt] [b] pos) (m2 >>= fun y => .ok (decide (y < x))) := cmpT op_gt (nomark _) sem_B0 ha hb
theorem gtT_mm  {m1 : R Int} {m2 : R Int} (ha : DE X W ds a cI m1) (hb : DE X W ds b cI m2) : DT X W ds (.Compare a [.Gt] [b] pos) (m1 >>= fun x => m2 >>= fun y => .ok (decide (y < x))) := cmpT op_gt (nomark _) sem_B0 ha hb
theorem ge_pp  {x : Int} {y : Int} (ha : DE X W ds a cI (.ok x)) (hb : DE X W ds b cI (.ok y)) : DE X W ds (.Compare a [.GtE] [b] pos) cB (.ok (decide (y ≤ x))) := cmpV op_ge (nomark _) sem_B0 ha hb
theorem ge_mp  {m1 : R Int} {y : Int} (ha : DE X W ds a cI m1) (hb : DE X W ds b cI (.ok y)) : DE X W ds (.Compare a [.GtE] [b] pos) cB (m1 >>= fun x => .ok (decide (y ≤ x))) := cmpV op_ge (nomark _) sem_B0 ha hb
theorem ge_pm  {x : Int} {m2 : R Int} (ha : DE X W ds a cI (.ok x)) (hb : DE X W ds b cI m2) : DE X W ds (.Compare a [.GtE] [b] pos) cB (m2 >>= fun y => .ok (decide (y ≤ x))) := cmpV op_ge (nomark _) sem_B0 ha hb
theorem ge_mm  {m1 : R Int} {m2 : R Int} (ha : DE X W ds a cI m1) (hb : DE X W ds b cI m2) : DE X W ds (.Compare a [.GtE] [b] pos) cB (m1 >>= fun x => m2 >>= fun y => .ok (decide (y ≤ x))) := cmpV op_ge (nomark _) sem_B0 ha hb
theorem geT_pp  {x : Int} {y : Int} (ha : DE X W ds a cI (.ok x)) (hb : DE X W ds b cI (.ok y)) : DT X W ds (.Compare a [.GtE] [b] pos) (.ok (decide (y ≤ x))) := cmpT op_ge (nomark _) sem_B0 ha hb
theorem geT_mp  {m1 : R Int} {y : Int} (ha : DE X W ds a cI m1) (hb : DE X W ds b cI (.ok y)) : DT X W ds (.Compare a [.GtE] [b] pos) (m1 >>= fun x => .ok (decide (y ≤ x))) := cmpT op_ge (nomark _) sem_B0 ha hb
theorem geT_pm  {x : Int} {m2 : R Int} (ha : DE X W ds a cI (.ok x)) (hb : DE X W ds b cI m2) : DT X W ds (.Compare a [.GtE] [b] pos) (m2 >>= fun y => .ok (decide (y ≤ x))) := cmpT op_ge (nomark _) sem_B0 ha hb
theorem geT_mm  {m1 : R Int} {m2 : R Int} (ha : DE X W ds a cI m1) (hb : DE X W ds b cI m2) : DT X W ds (.Compare a [.GtE] [b] pos) (m1 >>= fun x => m2 >>= fun y => .ok (decide (y ≤ x))) := cmpT op_ge (nomark _) sem_B0 ha hb
end
end Zk
set_option maxHeartbeats 4000000
/-! # Zk: data, tests, displays, calls of built-ins -/
namespace Zk
open PySem PySem.Spec PyProof.Rows L2

/-! ### mirrors as data -/
class Dt {α : Type} (c : Cd α) where
  toD : α → PyData
  depth : Nat
  lay : ∀ a, (toD a).canLay0 = true
  le : ∀ a, (toD a).depth ≤ depth
  eqv : ∀ a b, PyData.eqv (toD a) (toD b) = true ↔ a = b
  rep : ∀ {K : PySem.W.Frag} {H : Hp} {v : V} {a : α}, c.rep K H v a → Dp K H v (toD a)
class DtA {τ : Type} (c : CA τ) where
  toDs : τ → List PyData
  depth : Nat
  lay : ∀ a, PyData.canLayAll0 (toDs a) = true
  le : ∀ a, PyData.depthAll (toDs a) ≤ depth
  eqv : ∀ a b, PyData.eqvAll (toDs a) (toDs b) = true ↔ a = b
  rep : ∀ {K : PySem.W.Frag} {H : Hp} {vs : List V} {a : τ}, c.rep K H vs a → DpAll K H vs (toDs a)
namespace Dt
variable {α τ : Type}
@[reducible] instance : Dt cI where
  toD := .int
  depth := 0
  lay _ := by simp only [PyData.canLay0]
  le _ := by simp only [PyData.depth]; exact Nat.le_refl _
  eqv a b := by simp only [PyData.eqv]; exact beq_iff_eq
  rep h := by
    have e : _ = V.int _ := h
    rw [e]
    exact .int _
@[reducible] instance : Dt cB where
  toD := .bool
  depth := 0
  lay _ := by simp only [PyData.canLay0]
  le _ := by simp only [PyData.depth]; exact Nat.le_refl _
  eqv a b := by simp only [PyData.eqv]; exact beq_iff_eq
  rep h := by
    have e : _ = V.bl _ := h
    rw [e]
    exact .bl _
@[reducible] instance : Dt cN where
  toD _ := .none
  depth := 0
  lay _ := by simp only [PyData.canLay0]
  le _ := by simp only [PyData.depth]; exact Nat.le_refl _
  eqv a b := by simp only [PyData.eqv]
  rep h := by
    have e : _ = V.non := h
    rw [e]
    exact .non
theorem lays {c : Cd α} [Dt c] : ∀ as : List α, PyData.canLayAll0 (as.map (toD c)) = true
  | [] => by simp only [List.map_nil, PyData.canLayAll0]
  | a :: as => by rw [List.map_cons, PyData.canLayAll0, lay a, lays as]; rfl
theorem les {c : Cd α} [Dt c] : ∀ as : List α, PyData.depthAll (as.map (toD c)) ≤ depth c
  | [] => by simp only [List.map_nil, PyData.depthAll]; exact Nat.zero_le _
  | a :: as => by rw [List.map_cons, PyData.depthAll]; exact Nat.max_le.mpr ⟨le a, les as⟩
theorem eqvs {c : Cd α} [Dt c] : ∀ as bs : List α, PyData.eqvAll (as.map (toD c)) (bs.map (toD c)) = true ↔ as = bs
  | [], [] => by simp [PyData.eqvAll]
  | [], _ :: _ => by simp [PyData.eqvAll]
  | _ :: _, [] => by simp [PyData.eqvAll]
  | a :: as, b :: bs => by rw [List.map_cons, List.map_cons, PyData.eqvAll, Bool.and_eq_true, eqv a b, eqvs as bs, List.cons.injEq]
theorem reps {c : Cd α} [Dt c] {K : PySem.W.Frag} {H : Hp} : ∀ {vs : List V} {as : List α}, Reps c K H vs as → DpAll K H vs (as.map (toD c))
  | [], [], _ => .nil
  | _ :: _, _ :: _, h => .cons (rep h.1) (reps h.2)
  | [], _ :: _, h => h.elim
  | _ :: _, [], h => h.elim
@[reducible] instance {c : Cd α} [Dt c] : Dt (cL c) where
  toD as := .list (as.map (toD c))
  depth := depth c + 1
  lay as := by simp only [PyData.canLay0]; exact lays as
  le as := by simp only [PyData.depth]; exact Nat.succ_le_succ (les as)
  eqv as bs := by simp only [PyData.eqv]; exact eqvs as bs
  rep h := by
    obtain ⟨p, vs, e, h1, h2⟩ := h
    rw [e]
    exact .lst h1 (reps h2)
@[reducible] instance {c : Cd α} [Dt c] : Dt (cT c) where
  toD as := .tuple (as.map (toD c))
  depth := depth c + 1
  lay as := by simp only [PyData.canLay0]; exact lays as
  le as := by simp only [PyData.depth]; exact Nat.succ_le_succ (les as)
  eqv as bs := by simp only [PyData.eqv]; exact eqvs as bs
  rep h := by
    obtain ⟨p, vs, e, h1, h2⟩ := h
    rw [e]
    exact .tup h1 (reps h2)
@[reducible] instance : DtA aNil where
  toDs _ := []
  depth := 0
  lay _ := by simp only [PyData.canLayAll0]
  le _ := by simp only [PyData.depthAll]; exact Nat.le_refl _
  eqv a b := by simp only [PyData.eqvAll]
  rep h := by
    have e : _ = ([] : List V) := h
    rw [e]
    exact .nil
@[reducible] instance {c : Cd α} [Dt c] : DtA (aOne c) where
  toDs a := [toD c a]
  depth := depth c
  lay a := by simp only [PyData.canLayAll0, lay a]; rfl
  le a := by simp only [PyData.depthAll]; exact Nat.max_le.mpr ⟨le a, Nat.zero_le _⟩
  eqv a b := by rw [PyData.eqvAll, Bool.and_eq_true, eqv a b]; simp [PyData.eqvAll]
  rep h := by
    obtain ⟨v, e, h1⟩ := h
    rw [e]
    exact .cons (rep h1) .nil
@[reducible] instance {c : Cd α} {r : CA τ} [Dt c] [DtA r] : DtA (aCons c r) where
  toDs a := toD c a.1 :: DtA.toDs r a.2
  depth := max (depth c) (DtA.depth r)
  lay a := by rw [PyData.canLayAll0, lay a.1, DtA.lay a.2]; rfl
  le a := by rw [PyData.depthAll]; exact Nat.max_le.mpr ⟨Nat.le_trans (le a.1) (Nat.le_max_left _ _), Nat.le_trans (DtA.le a.2) (Nat.le_max_right _ _)⟩
  eqv a b := by rw [PyData.eqvAll, Bool.and_eq_true, eqv a.1 b.1, DtA.eqv a.2 b.2]; exact ⟨fun h => Prod.ext h.1 h.2, fun h => by rw [h]; exact ⟨rfl, rfl⟩⟩
  rep h := by
    obtain ⟨v, ws, e, h1, h2⟩ := h
    rw [e]
    exact .cons (rep h1) (DtA.rep h2)
@[reducible] instance {r : CA τ} [DtA r] : Dt (cP r) where
  toD a := .tuple (DtA.toDs r a)
  depth := DtA.depth r + 1
  lay a := by simp only [PyData.canLay0]; exact DtA.lay a
  le a := by simp only [PyData.depth]; exact Nat.succ_le_succ (DtA.le a)
  eqv a b := by simp only [PyData.eqv]; exact DtA.eqv a b
  rep h := by
    obtain ⟨p, vs, e, h1, h2⟩ := h
    rw [e]
    exact .tup h1 (DtA.rep h2)
theorem shaped {c : Cd α} [Dt c] (h : depth c ≤ 64) (a : α) : SeqAt.shaped (toD c a) = true := by
  show ((toD c a).canLay0 && decide ((toD c a).depth ≤ 64)) = true
  rw [lay a, decide_eq_true (Nat.le_trans (le a) h)] <;> rfl
end Dt
section
variable {X : Cx} {W : XK} {ds : Env} {α β γ τ : Type} {a b : Expr} {e : Expr} {es : List Expr} {pos p : Pos} {c1 : Cd α} {c2 : Cd β} {c3 : Cd γ} {m1 : R α} {m2 : R β} {x : α} {y : β}
theorem decide_eqv {c : Cd α} [Dt c] [DecidableEq α] (a b : α) : PyData.eqv (Dt.toD c a) (Dt.toD c b) = decide (a = b) := by
  rw [Bool.eq_iff_iff, Dt.eqv, decide_eq_true_iff]
theorem sem_eqD {K : PySem.W.Frag} {c : Cd α} [Dt c] [DecidableEq α] (h : Dt.depth c ≤ 64) : BinSem K W (rEqD K) c c cB (fun x y => .ok (decide (x = y))) := fun x y v u S H Q i r1 r2 P =>
  ⟨_, _, Dt.rep (c.mono i r1), Dt.rep (c.mono i r2), Dt.shaped h _, Dt.shaped h _, by rw [decide_eqv]; exact P.ok i rfl⟩
theorem sem_neD {K : PySem.W.Frag} {c : Cd α} [Dt c] [DecidableEq α] (h : Dt.depth c ≤ 64) : BinSem K W (rNeD K) c c cB (fun x y => .ok (!decide (x = y))) := fun x y v u S H Q i r1 r2 P =>
  ⟨_, _, Dt.rep (c.mono i r1), Dt.rep (c.mono i r2), Dt.shaped h _, Dt.shaped h _, by rw [decide_eqv]; exact P.ok i rfl⟩
theorem sem_eqI {K : PySem.W.Frag} : BinSem K W rEq cI cI cB (fun x y => .ok (decide (x = y))) := fun x y v u S H Q i r1 r2 P => by
  have e1 : v = .int x := r1
  have e2 : u = .int y := r2
  subst e1 e2
  refine ⟨rfl, ?_⟩
  have e : decide (V.int x = V.int y) = decide (x = y) := by
    by_cases q : x = y
    · subst q; simp
    · rw [decide_eq_false q, decide_eq_false (fun z => q (V.int.inj z))]
  rw [e]
  exact P.ok i rfl
theorem sem_neI {K : PySem.W.Frag} : BinSem K W rNe cI cI cB (fun x y => .ok (!decide (x = y))) := fun x y v u S H Q i r1 r2 P => by
  have e1 : v = .int x := r1
  have e2 : u = .int y := r2
  subst e1 e2
  refine ⟨rfl, ?_⟩
  have e : decide (V.int x = V.int y) = decide (x = y) := by
    by_cases q : x = y
    · subst q; simp
    · rw [decide_eq_false q, decide_eq_false (fun z => q (V.int.inj z))]
  rw [e]
  exact P.ok i rfl
theorem sem_eqS {K : PySem.W.Frag} : BinSem K W rEq cS cS cB (fun x y => .ok (decide (x = y))) := fun x y v u S H Q i r1 r2 P => by
  have e1 : v = .str x := r1
  have e2 : u = .str y := r2
  subst e1 e2
  refine ⟨rfl, ?_⟩
  have e : decide (V.str x = V.str y) = decide (x = y) := by
    by_cases q : x = y
    · subst q; simp
    · rw [decide_eq_false q, decide_eq_false (fun z => q (V.str.inj z))]
  rw [e]
  exact P.ok i rfl
theorem sem_neS {K : PySem.W.Frag} : BinSem K W rNe cS cS cB (fun x y => .ok (!decide (x = y))) := fun x y v u S H Q i r1 r2 P => by
  have e1 : v = .str x := r1
  have e2 : u = .str y := r2
  subst e1 e2
  refine ⟨rfl, ?_⟩
  have e : decide (V.str x = V.str y) = decide (x = y) := by
    by_cases q : x = y
    · subst q; simp
    · rw [decide_eq_false q, decide_eq_false (fun z => q (V.str.inj z))]
  rw [e]
  exact P.ok i rfl

theorem eqI_pp  {x : Int} {y : Int} (ha : DE X W ds a cI (.ok x)) (hb : DE X W ds b cI (.ok y)) : DE X W ds (.Compare a [.Eq] [b] pos) cB (.ok (decide (x = y))) := cmpV op_eq (nomark _) sem_eqI ha hb
theorem eqI_mp  {m1 : R Int} {y : Int} (ha : DE X W ds a cI m1) (hb : DE X W ds b cI (.ok y)) : DE X W ds (.Compare a [.Eq] [b] pos) cB (m1 >>= fun x => .ok (decide (x = y))) := cmpV op_eq (nomark _) sem_eqI ha hb
theorem eqI_pm  {x : Int} {m2 : R Int} (ha : DE X W ds a cI (.ok x)) (hb : DE X W ds b cI m2) : DE X W ds (.Compare a [.Eq] [b] pos) cB (m2 >>= fun y => .ok (decide (x = y))) := cmpV op_eq (nomark _) sem_eqI ha hb
theorem eqI_mm  {m1 : R Int} {m2 : R Int} (ha : DE X W ds a cI m1) (hb : DE X W ds b cI m2) : DE X W ds (.Compare a [.Eq] [b] pos) cB (m1 >>= fun x => m2 >>= fun y => .ok (decide (x = y))) := cmpV op_eq (nomark _) sem_eqI ha hb
theorem eqIT_pp  {x : Int} {y : Int} (ha : DE X W ds a cI (.ok x)) (hb : DE X W ds b cI (.ok y)) : DT X W ds (.Compare a [.Eq] [b] pos) (.ok (decide (x = y))) := cmpT op_eq (nomark _) sem_eqI ha hb
theorem eqIT_mp  {m1 : R Int} {y : Int} (ha : DE X W ds a cI m1) (hb : DE X W ds b cI (.ok y)) : DT X W ds (.Compare a [.Eq] [b] pos) (m1 >>= fun x => .ok (decide (x = y))) := cmpT op_eq (nomark _) sem_eqI ha hb
theorem eqIT_pm  {x : Int} {m2 : R Int} (ha : DE X W ds a cI (.ok x)) (hb : DE X W ds b cI m2) : DT X W ds (.Compare a [.Eq] [b] pos) (m2 >>= fun y => .ok (decide (x = y))) := cmpT op_eq (nomark _) sem_eqI ha hb
theorem eqIT_mm  {m1 : R Int} {m2 : R Int} (ha : DE X W ds a cI m1) (hb : DE X W ds b cI m2) : DT X W ds (.Compare a [.Eq] [b] pos) (m1 >>= fun x => m2 >>= fun y => .ok (decide (x = y))) := cmpT op_eq (nomark _) sem_eqI ha hb
theorem eqS_pp  {x : Str} {y : Str} (ha : DE X W ds a cS (.ok x)) (hb : DE X W ds b cS (.ok y)) : DE X W ds (.Compare a [.Eq] [b] pos) cB (.ok (decide (x = y))) := cmpV op_eq (nomark _) sem_eqS ha hb
theorem eqS_mp  {m1 : R Str} {y : Str} (ha : DE X W ds a cS m1) (hb : DE X W ds b cS (.ok y)) : DE X W ds (.Compare a [.Eq] [b] pos) cB (m1 >>= fun x => .ok (decide (x = y))) := cmpV op_eq (nomark _) sem_eqS ha hb
theorem eqS_pm  {x : Str} {m2 : R Str} (ha : DE X W ds a cS (.ok x)) (hb : DE X W ds b cS m2) : DE X W ds (.Compare a [.Eq] [b] pos) cB (m2 >>= fun y => .ok (decide (x = y))) := cmpV op_eq (nomark _) sem_eqS ha hb
theorem eqS_mm  {m1 : R Str} {m2 : R Str} (ha : DE X W ds a cS m1) (hb : DE X W ds b cS m2) : DE X W ds (.Compare a [.Eq] [b] pos) cB (m1 >>= fun x => m2 >>= fun y => .ok (decide (x = y))) := cmpV op_eq (nomark _) sem_eqS ha hb
theorem eqST_pp  {x : Str} {y : Str} (ha : DE X W ds a cS (.ok x)) (hb : DE X W ds b cS (.ok y)) : DT X W ds (.Compare a [.Eq] [b] pos) (.ok (decide (x = y))) := cmpT op_eq (nomark _) sem_eqS ha hb
theorem eqST_mp  {m1 : R Str} {y : Str} (ha : DE X W ds a cS m1) (hb : DE X W ds b cS (.ok y)) : DT X W ds (.Compare a [.Eq] [b] pos) (m1 >>= fun x => .ok (decide (x = y))) := cmpT op_eq (nomark _) sem_eqS ha hb
theorem eqST_pm  {x : Str} {m2 : R Str} (ha : DE X W ds a cS (.ok x)) (hb : DE X W ds b cS m2) : DT X W ds (.Compare a [.Eq] [b] pos) (m2 >>= fun y => .ok (decide (x = y))) := cmpT op_eq (nomark _) sem_eqS ha hb
theorem eqST_mm  {m1 : R Str} {m2 : R Str} (ha : DE X W ds a cS m1) (hb : DE X W ds b cS m2) : DT X W ds (.Compare a [.Eq] [b] pos) (m1 >>= fun x => m2 >>= fun y => .ok (decide (x = y))) := cmpT op_eq (nomark _) sem_eqS ha hb
theorem eqD_pp {c : Cd α} [Dt c] [DecidableEq α] (hu : X.A.units + 64 < cLine)  {x : α} {y : α} (ha : DE X W ds a c (.ok x)) (hb : DE X W ds b c (.ok y)) (hd : Dt.depth c ≤ 64 := by decide) : DE X W ds (.Compare a [.Eq] [b] pos) cB (.ok (decide (x = y))) := cmpV (op_eqD hu) (nomark _) (sem_eqD hd) ha hb
theorem eqD_mp {c : Cd α} [Dt c] [DecidableEq α] (hu : X.A.units + 64 < cLine)  {m1 : R α} {y : α} (ha : DE X W ds a c m1) (hb : DE X W ds b c (.ok y)) (hd : Dt.depth c ≤ 64 := by decide) : DE X W ds (.Compare a [.Eq] [b] pos) cB (m1 >>= fun x => .ok (decide (x = y))) := cmpV (op_eqD hu) (nomark _) (sem_eqD hd) ha hb
theorem eqD_pm {c : Cd α} [Dt c] [DecidableEq α] (hu : X.A.units + 64 < cLine)  {x : α} {m2 : R α} (ha : DE X W ds a c (.ok x)) (hb : DE X W ds b c m2) (hd : Dt.depth c ≤ 64 := by decide) : DE X W ds (.Compare a [.Eq] [b] pos) cB (m2 >>= fun y => .ok (decide (x = y))) := cmpV (op_eqD hu) (nomark _) (sem_eqD hd) ha hb
theorem eqD_mm {c : Cd α} [Dt c] [DecidableEq α] (hu : X.A.units + 64 < cLine)  {m1 : R α} {m2 : R α} (ha : DE X W ds a c m1) (hb : DE X W ds b c m2) (hd : Dt.depth c ≤ 64 := by decide) : DE X W ds (.Compare a [.Eq] [b] pos) cB (m1 >>= fun x => m2 >>= fun y => .ok (decide (x = y))) := cmpV (op_eqD hu) (nomark _) (sem_eqD hd) ha hb
theorem eqDT_pp {c : Cd α} [Dt c] [DecidableEq α] (hu : X.A.units + 64 < cLine)  {x : α} {y : α} (ha : DE X W ds a c (.ok x)) (hb : DE X W ds b c (.ok y)) (hd : Dt.depth c ≤ 64 := by decide) : DT X W ds (.Compare a [.Eq] [b] pos) (.ok (decide (x = y))) := cmpT (op_eqD hu) (nomark _) (sem_eqD hd) ha hb
theorem eqDT_mp {c : Cd α} [Dt c] [DecidableEq α] (hu : X.A.units + 64 < cLine)  {m1 : R α} {y : α} (ha : DE X W ds a c m1) (hb : DE X W ds b c (.ok y)) (hd : Dt.depth c ≤ 64 := by decide) : DT X W ds (.Compare a [.Eq] [b] pos) (m1 >>= fun x => .ok (decide (x = y))) := cmpT (op_eqD hu) (nomark _) (sem_eqD hd) ha hb
theorem eqDT_pm {c : Cd α} [Dt c] [DecidableEq α] (hu : X.A.units + 64 < cLine)  {x : α} {m2 : R α} (ha : DE X W ds a c (.ok x)) (hb : DE X W ds b c m2) (hd : Dt.depth c ≤ 64 := by decide) : DT X W ds (.Compare a [.Eq] [b] pos) (m2 >>= fun y => .ok (decide (x = y))) := cmpT (op_eqD hu) (nomark _) (sem_eqD hd) ha hb
theorem eqDT_mm {c : Cd α} [Dt c] [DecidableEq α] (hu : X.A.units + 64 < cLine)  {m1 : R α} {m2 : R α} (ha : DE X W ds a c m1) (hb : DE X W ds b c m2) (hd : Dt.depth c ≤ 64 := by decide) : DT X W ds (.Compare a [.Eq] [b] pos) (m1 >>= fun x => m2 >>= fun y => .ok (decide (x = y))) := cmpT (op_eqD hu) (nomark _) (sem_eqD hd) ha hb
theorem neI_pp  {x : Int} {y : Int} (ha : DE X W ds a cI (.ok x)) (hb : DE X W ds b cI (.ok y)) : DE X W ds (.Compare a [.NotEq] [b] pos) cB (.ok (!decide (x = y))) := cmpV op_ne (nomark _) sem_neI ha hb
theorem neI_mp  {m1 : R Int} {y : Int} (ha : DE X W ds a cI m1) (hb : DE X W ds b cI (.ok y)) : DE X W ds (.Compare a [.NotEq] [b] pos) cB (m1 >>= fun x => .ok (!decide (x = y))) := cmpV op_ne (nomark _) sem_neI ha hb
theorem neI_pm  {x : Int} {m2 : R Int} (ha : DE X W ds a cI (.ok x)) (hb : DE X W ds b cI m2) : DE X W ds (.Compare a [.NotEq] [b] pos) cB (m2 >>= fun y => .ok (!decide (x = y))) := cmpV op_ne (nomark _) sem_neI ha hb
theorem neI_mm  {m1 : R Int} {m2 : R Int} (ha : DE X W ds a cI m1) (hb : DE X W ds b cI m2) : DE X W ds (.Compare a [.NotEq] [b] pos) cB (m1 >>= fun x => m2 >>= fun y => .ok (!decide (x = y))) := cmpV op_ne (nomark _) sem_neI ha hb
theorem neIT_pp  {x : Int} {y : Int} (ha : DE X W ds a cI (.ok x)) (hb : DE X W ds b cI (.ok y)) : DT X W ds (.Compare a [.NotEq] [b] pos) (.ok (!decide (x = y))) := cmpT op_ne (nomark _) sem_neI ha hb
theorem neIT_mp  {m1 : R Int} {y : Int} (ha : DE X W ds a cI m1) (hb : DE X W ds b cI (.ok y)) : DT X W ds (.Compare a [.NotEq] [b] pos) (m1 >>= fun x => .ok (!decide (x = y))) := cmpT op_ne (nomark _) sem_neI ha hb
theorem neIT_pm  {x : Int} {m2 : R Int} (ha : DE X W ds a cI (.ok x)) (hb : DE X W ds b cI m2) : DT X W ds (.Compare a [.NotEq] [b] pos) (m2 >>= fun y => .ok (!decide (x = y))) := cmpT op_ne (nomark _) sem_neI ha hb
theorem neIT_mm  {m1 : R Int} {m2 : R Int} (ha : DE X W ds a cI m1) (hb : DE X W ds b cI m2) : DT X W ds (.Compare a [.NotEq] [b] pos) (m1 >>= fun x => m2 >>= fun y => .ok (!decide (x = y))) := cmpT op_ne (nomark _) sem_neI ha hb
theorem neS_pp  {x : Str} {y : Str} (ha : DE X W ds a cS (.ok x)) (hb : DE X W ds b cS (.ok y)) : DE X W ds (.Compare a [.NotEq] [b] pos) cB (.ok (!decide (x = y))) := cmpV op_ne (nomark _) sem_neS ha hb
theorem neS_mp  {m1 : R Str} {y : Str} (ha : DE X W ds a cS m1) (hb : DE X W ds b cS (.ok y)) : DE X W ds (.Compare a [.NotEq] [b] pos) cB (m1 >>= fun x => .ok (!decide (x = y))) := cmpV op_ne (nomark _) sem_neS ha hb
theorem neS_pm  {x : Str} {m2 : R Str} (ha : DE X W ds a cS (.ok x)) (hb : DE X W ds b cS m2) : DE X W ds (.Compare a [.NotEq] [b] pos) cB (m2 >>= fun y => .ok (!decide (x = y))) := cmpV op_ne (nomark _) sem_neS ha hb
theorem neS_mm  {m1 : R Str} {m2 : R Str} (ha : DE X W ds a cS m1) (hb : DE X W ds b cS m2) : DE X W ds (.Compare a [.NotEq] [b] pos) cB (m1 >>= fun x => m2 >>= fun y => .ok (!decide (x = y))) := cmpV op_ne (nomark _) sem_neS ha hb
theorem neST_pp  {x : Str} {y : Str} (ha : DE X W ds a cS (.ok x)) (hb : DE X W ds b cS (.ok y)) : DT X W ds (.Compare a [.NotEq] [b] pos) (.ok (!decide (x = y))) := cmpT op_ne (nomark _) sem_neS ha hb
theorem neST_mp  {m1 : R Str} {y : Str} (ha : DE X W ds a cS m1) (hb : DE X W ds b cS (.ok y)) : DT X W ds (.Compare a [.NotEq] [b] pos) (m1 >>= fun x => .ok (!decide (x = y))) := cmpT op_ne (nomark _) sem_neS ha hb
theorem neST_pm  {x : Str} {m2 : R Str} (ha : DE X W ds a cS (.ok x)) (hb : DE X W ds b cS m2) : DT X W ds (.Compare a [.NotEq] [b] pos) (m2 >>= fun y => .ok (!decide (x = y))) := cmpT op_ne (nomark _) sem_neS ha hb
theorem neST_mm  {m1 : R Str} {m2 : R Str} (ha : DE X W ds a cS m1) (hb : DE X W ds b cS m2) : DT X W ds (.Compare a [.NotEq] [b] pos) (m1 >>= fun x => m2 >>= fun y => .ok (!decide (x = y))) := cmpT op_ne (nomark _) sem_neS ha hb
theorem neD_pp {c : Cd α} [Dt c] [DecidableEq α] (hu : X.A.units + 64 < cLine)  {x : α} {y : α} (ha : DE X W ds a c (.ok x)) (hb : DE X W ds b c (.ok y)) (hd : Dt.depth c ≤ 64 := by decide) : DE X W ds (.Compare a [.NotEq] [b] pos) cB (.ok (!decide (x = y))) := cmpV (op_neD hu) (nomark _) (sem_neD hd) ha hb
theorem neD_mp {c : Cd α} [Dt c] [DecidableEq α] (hu : X.A.units + 64 < cLine)  {m1 : R α} {y : α} (ha : DE X W ds a c m1) (hb : DE X W ds b c (.ok y)) (hd : Dt.depth c ≤ 64 := by decide) : DE X W ds (.Compare a [.NotEq] [b] pos) cB (m1 >>= fun x => .ok (!decide (x = y))) := cmpV (op_neD hu) (nomark _) (sem_neD hd) ha hb
theorem neD_pm {c : Cd α} [Dt c] [DecidableEq α] (hu : X.A.units + 64 < cLine)  {x : α} {m2 : R α} (ha : DE X W ds a c (.ok x)) (hb : DE X W ds b c m2) (hd : Dt.depth c ≤ 64 := by decide) : DE X W ds (.Compare a [.NotEq] [b] pos) cB (m2 >>= fun y => .ok (!decide (x = y))) := cmpV (op_neD hu) (nomark _) (sem_neD hd) ha hb
theorem neD_mm {c : Cd α} [Dt c] [DecidableEq α] (hu : X.A.units + 64 < cLine)  {m1 : R α} {m2 : R α} (ha : DE X W ds a c m1) (hb : DE X W ds b c m2) (hd : Dt.depth c ≤ 64 := by decide) : DE X W ds (.Compare a [.NotEq] [b] pos) cB (m1 >>= fun x => m2 >>= fun y => .ok (!decide (x = y))) := cmpV (op_neD hu) (nomark _) (sem_neD hd) ha hb
theorem neDT_pp {c : Cd α} [Dt c] [DecidableEq α] (hu : X.A.units + 64 < cLine)  {x : α} {y : α} (ha : DE X W ds a c (.ok x)) (hb : DE X W ds b c (.ok y)) (hd : Dt.depth c ≤ 64 := by decide) : DT X W ds (.Compare a [.NotEq] [b] pos) (.ok (!decide (x = y))) := cmpT (op_neD hu) (nomark _) (sem_neD hd) ha hb
theorem neDT_mp {c : Cd α} [Dt c] [DecidableEq α] (hu : X.A.units + 64 < cLine)  {m1 : R α} {y : α} (ha : DE X W ds a c m1) (hb : DE X W ds b c (.ok y)) (hd : Dt.depth c ≤ 64 := by decide) : DT X W ds (.Compare a [.NotEq] [b] pos) (m1 >>= fun x => .ok (!decide (x = y))) := cmpT (op_neD hu) (nomark _) (sem_neD hd) ha hb
theorem neDT_pm {c : Cd α} [Dt c] [DecidableEq α] (hu : X.A.units + 64 < cLine)  {x : α} {m2 : R α} (ha : DE X W ds a c (.ok x)) (hb : DE X W ds b c m2) (hd : Dt.depth c ≤ 64 := by decide) : DT X W ds (.Compare a [.NotEq] [b] pos) (m2 >>= fun y => .ok (!decide (x = y))) := cmpT (op_neD hu) (nomark _) (sem_neD hd) ha hb
theorem neDT_mm {c : Cd α} [Dt c] [DecidableEq α] (hu : X.A.units + 64 < cLine)  {m1 : R α} {m2 : R α} (ha : DE X W ds a c m1) (hb : DE X W ds b c m2) (hd : Dt.depth c ≤ 64 := by decide) : DT X W ds (.Compare a [.NotEq] [b] pos) (m1 >>= fun x => m2 >>= fun y => .ok (!decide (x = y))) := cmpT (op_neD hu) (nomark _) (sem_neD hd) ha hb
/-! ### None -/
theorem isN_p {j : Nat} {p2 : Pos} {o : Option α} {c : Cd α} (ha : DE X W ds a (cO c) (.ok o)) : DE X W ds (.Compare a [.Is] [.Constant .none j p2] pos) cB (.ok o.isNone) := by
  obtain ⟨t, p, q⟩ := ha
  refine ⟨_, pe_cmp (pc_isN p), fun S0 H0 σ S H Q E P => q S0 H0 σ S H _ E (fun v S' H' g r => ?_)⟩
  have e : decide (v = V.non) = o.isNone := by
    cases o with
    | none => exact decide_eq_true r
    | some z => exact decide_eq_false r.1
  rw [e]
  exact P _ S' H' g rfl
theorem notN_p {j : Nat} {p2 : Pos} {o : Option α} {c : Cd α} (ha : DE X W ds a (cO c) (.ok o)) : DE X W ds (.Compare a [.IsNot] [.Constant .none j p2] pos) cB (.ok o.isSome) := by
  obtain ⟨t, p, q⟩ := ha
  refine ⟨_, pe_cmp (pc_notN p), fun S0 H0 σ S H Q E P => q S0 H0 σ S H _ E (fun v S' H' g r => ?_)⟩
  have e : (!decide (v = V.non)) = o.isSome := by
    cases o with
    | none => rw [decide_eq_true (show v = V.non from r)] <;> rfl
    | some z => rw [decide_eq_false r.1] <;> rfl
  rw [e]
  exact P _ S' H' g rfl
/-! ### tests, and, or, not -/
theorem val {m : R Bool} (ha : DE X W ds a cB m) (he : ∀ whole, isTrue a X.env whole = (do let v ← whole; standAt a.pos; holding [v] (truthy v)) := by intro _; rfl) : DT X W ds a m := by
  obtain ⟨t, p, q⟩ := ha
  exact ⟨_, pt_val p he, fun S0 H0 σ S H Q E P => q S0 H0 σ S H _ E (pb_of P)⟩
/-- a comparison's value as a test -/
theorem valC {m : R Bool} {l : Expr} {op : CmpOp} {r : Expr} (ha : ∃ t, PC X op l r t ∧ ∀ S0 H0 σ S H Q, EnvOk X.K S0 H0 ds σ S H → PX cB X.K S H m Q W → t σ H Q) (h1 : behindInMarks op r = false) : DT X W ds (.Compare l [op] [r] pos) m := by
  obtain ⟨t, p, q⟩ := ha
  exact ⟨_, pt_cmp p h1, fun S0 H0 σ S H Q E P => q S0 H0 σ S H _ E (pb_of P)⟩
theorem isN_sem {j : Nat} {p2 : Pos} {o : Option α} {c : Cd α} (ha : DE X W ds a (cO c) (.ok o)) : ∃ t, PC X .Is a (.Constant .none j p2) t ∧ ∀ S0 H0 σ S H Q, EnvOk X.K S0 H0 ds σ S H → PX cB X.K S H (.ok o.isNone) Q W → t σ H Q := by
  obtain ⟨t, p, q⟩ := ha
  refine ⟨_, pc_isN p, fun S0 H0 σ S H Q E P => q S0 H0 σ S H _ E (fun v S' H' g r => ?_)⟩
  have e : decide (v = V.non) = o.isNone := by
    cases o with
    | none => exact decide_eq_true r
    | some z => exact decide_eq_false r.1
  rw [e]
  exact P _ S' H' g rfl
theorem notN_sem {j : Nat} {p2 : Pos} {o : Option α} {c : Cd α} (ha : DE X W ds a (cO c) (.ok o)) : ∃ t, PC X .IsNot a (.Constant .none j p2) t ∧ ∀ S0 H0 σ S H Q, EnvOk X.K S0 H0 ds σ S H → PX cB X.K S H (.ok o.isSome) Q W → t σ H Q := by
  obtain ⟨t, p, q⟩ := ha
  refine ⟨_, pc_notN p, fun S0 H0 σ S H Q E P => q S0 H0 σ S H _ E (fun v S' H' g r => ?_)⟩
  have e : (!decide (v = V.non)) = o.isSome := by
    cases o with
    | none => rw [decide_eq_true (show v = V.non from r)] <;> rfl
    | some z => rw [decide_eq_false r.1] <;> rfl
  rw [e]
  exact P _ S' H' g rfl
theorem isNT_p {j : Nat} {p2 : Pos} {o : Option α} {c : Cd α} (ha : DE X W ds a (cO c) (.ok o)) : DT X W ds (.Compare a [.Is] [.Constant .none j p2] pos) (.ok o.isNone) := valC (isN_sem ha) (nomark _)
theorem notNT_p {j : Nat} {p2 : Pos} {o : Option α} {c : Cd α} (ha : DE X W ds a (cO c) (.ok o)) : DT X W ds (.Compare a [.IsNot] [.Constant .none j p2] pos) (.ok o.isSome) := valC (notN_sem ha) (nomark _)
theorem dt_dw {m : R Bool} (h : DW X W ds a m) : DT X W ds a m := by
  obtain ⟨t, p, q⟩ := h
  exact ⟨t, p.pt, q⟩
theorem and1 {m : R Bool} (ha : DT X W ds a m) : DW X W ds (.BoolOp .And [a] pos) m := by
  obtain ⟨t, p, q⟩ := ha
  exact ⟨t, pw_and1 p, q⟩
theorem or1 {m : R Bool} (ha : DT X W ds a m) : DW X W ds (.BoolOp .Or [a] pos) m := by
  obtain ⟨t, p, q⟩ := ha
  exact ⟨t, pw_or1 p, q⟩
theorem andW {m n : R Bool} (ha : DT X W ds a m) (hb : DW X W ds (.BoolOp .And (b :: es) pos) n) : DW X W ds (.BoolOp .And (a :: b :: es) pos) (m >>= fun z => if z = true then n else .ok false) := by
  obtain ⟨t, p, q⟩ := ha
  obtain ⟨u, p2, q2⟩ := hb
  refine ⟨_, pw_and p p2, fun S0 H0 σ S H Q E P => q S0 H0 σ S H _ E (P.bindB fun z S1 H1 g P1 => ?_)⟩
  cases z with
  | true => exact q2 S0 H0 σ S1 H1 _ (E.step g) P1
  | false => exact P1.ok g.inn
theorem orW {m n : R Bool} (ha : DT X W ds a m) (hb : DW X W ds (.BoolOp .Or (b :: es) pos) n) : DW X W ds (.BoolOp .Or (a :: b :: es) pos) (m >>= fun z => if z = true then .ok true else n) := by
  obtain ⟨t, p, q⟩ := ha
  obtain ⟨u, p2, q2⟩ := hb
  refine ⟨_, pw_or p p2, fun S0 H0 σ S H Q E P => q S0 H0 σ S H _ E (P.bindB fun z S1 H1 g P1 => ?_)⟩
  cases z with
  | true => exact P1.ok g.inn
  | false => exact q2 S0 H0 σ S1 H1 _ (E.step g) P1
theorem andW_p {z : Bool} {n : R Bool} (ha : DT X W ds a (.ok z)) (hb : DW X W ds (.BoolOp .And (b :: es) pos) n) : DW X W ds (.BoolOp .And (a :: b :: es) pos) (if z = true then n else .ok false) := andW ha hb
theorem orW_p {z : Bool} {n : R Bool} (ha : DT X W ds a (.ok z)) (hb : DW X W ds (.BoolOp .Or (b :: es) pos) n) : DW X W ds (.BoolOp .Or (a :: b :: es) pos) (if z = true then .ok true else n) := orW ha hb
theorem notT {m : R Bool} (ha : DT X W ds a m) : DT X W ds (.UnaryOp .Not a pos) (m >>= fun z => .ok (!z)) := by
  obtain ⟨t, p, q⟩ := ha
  exact ⟨_, pt_not p, fun S0 H0 σ S H Q E P => q S0 H0 σ S H _ E (P.bindB fun z S1 H1 g P1 => P1.ok g.inn)⟩
theorem notT_p {z : Bool} (ha : DT X W ds a (.ok z)) : DT X W ds (.UnaryOp .Not a pos) (.ok (!z)) := notT ha
/-- as values -/
theorem and1V {m : R Bool} (ha : DE X W ds a cB m) : DE X W ds (.BoolOp .And [a] pos) cB m := by
  obtain ⟨t, p, q⟩ := ha
  exact ⟨t, pe_one p, q⟩
theorem or1V {m : R Bool} (ha : DE X W ds a cB m) : DE X W ds (.BoolOp .Or [a] pos) cB m := by
  obtain ⟨t, p, q⟩ := ha
  exact ⟨t, pe_one p, q⟩
theorem andV {m n : R Bool} (ha : DE X W ds a cB m) (hb : DE X W ds (.BoolOp .And (b :: es) pos) cB n) : DE X W ds (.BoolOp .And (a :: b :: es) pos) cB (m >>= fun z => if z = true then n else .ok false) := by
  obtain ⟨t, p, q⟩ := ha
  obtain ⟨u, p2, q2⟩ := hb
  refine ⟨_, pe_and p p2, fun S0 H0 σ S H Q E P => q S0 H0 σ S H _ E (P.bind fun z v S1 H1 g r P1 => ⟨z, r, ?_⟩)⟩
  cases z with
  | true => exact q2 S0 H0 σ S1 H1 _ (E.step g) P1
  | false => exact P1.ok g.inn rfl
theorem orV {m n : R Bool} (ha : DE X W ds a cB m) (hb : DE X W ds (.BoolOp .Or (b :: es) pos) cB n) : DE X W ds (.BoolOp .Or (a :: b :: es) pos) cB (m >>= fun z => if z = true then .ok true else n) := by
  obtain ⟨t, p, q⟩ := ha
  obtain ⟨u, p2, q2⟩ := hb
  refine ⟨_, pe_or p p2, fun S0 H0 σ S H Q E P => q S0 H0 σ S H _ E (P.bind fun z v S1 H1 g r P1 => ⟨z, r, ?_⟩)⟩
  cases z with
  | true => exact P1.ok g.inn rfl
  | false => exact q2 S0 H0 σ S1 H1 _ (E.step g) P1
theorem andV_p {z : Bool} {n : R Bool} (ha : DE X W ds a cB (.ok z)) (hb : DE X W ds (.BoolOp .And (b :: es) pos) cB n) : DE X W ds (.BoolOp .And (a :: b :: es) pos) cB (if z = true then n else .ok false) := andV ha hb
theorem orV_p {z : Bool} {n : R Bool} (ha : DE X W ds a cB (.ok z)) (hb : DE X W ds (.BoolOp .Or (b :: es) pos) cB n) : DE X W ds (.BoolOp .Or (a :: b :: es) pos) cB (if z = true then .ok true else n) := orV ha hb
theorem notV {m : R Bool} (ha : DE X W ds a cB m) : DE X W ds (.UnaryOp .Not a pos) cB (m >>= fun z => .ok (!z)) := by
  obtain ⟨t, p, q⟩ := ha
  exact ⟨_, pe_not p, fun S0 H0 σ S H Q E P => q S0 H0 σ S H _ E (P.bind fun z v S1 H1 g r P1 => ⟨z, r, P1.ok g.inn rfl⟩)⟩
theorem notV_p {z : Bool} (ha : DE X W ds a cB (.ok z)) : DE X W ds (.UnaryOp .Not a pos) cB (.ok (!z)) := notV ha
theorem ifE {m : R Bool} {n1 n2 : R γ} {t : Expr} (ht : DT X W ds t m) (ha : DE X W ds a c3 n1) (hb : DE X W ds b c3 n2) : DE X W ds (.IfExp t a b pos) c3 (m >>= fun z => if z = true then n1 else n2) := by
  obtain ⟨tt, p, q⟩ := ht
  obtain ⟨ta, p1, q1⟩ := ha
  obtain ⟨tb, p2, q2⟩ := hb
  refine ⟨_, pe_ifExp p p1 p2, fun S0 H0 σ S H Q E P => q S0 H0 σ S H _ E (P.bindB fun z S1 H1 g P1 => ?_)⟩
  cases z with
  | true => exact q1 S0 H0 σ S1 H1 _ (E.step g) P1
  | false => exact q2 S0 H0 σ S1 H1 _ (E.step g) P1
theorem ifE_p {z : Bool} {n1 n2 : R γ} {t : Expr} (ht : DT X W ds t (.ok z)) (ha : DE X W ds a c3 n1) (hb : DE X W ds b c3 n2) : DE X W ds (.IfExp t a b pos) c3 (if z = true then n1 else n2) := ifE ht ha hb
theorem neg {m : R Int} (ha : DE X W ds a cI m) : DE X W ds (.UnaryOp .USub a pos) cI (m >>= fun z => .ok (-z)) := by
  obtain ⟨t, p, q⟩ := ha
  exact ⟨_, pe_un un_neg p, fun S0 H0 σ S H Q E P => q S0 H0 σ S H _ E (P.bind fun z v S1 H1 g r P1 => ⟨z, r, P1.ok g.inn rfl⟩)⟩
theorem neg_p {z : Int} (ha : DE X W ds a cI (.ok z)) : DE X W ds (.UnaryOp .USub a pos) cI (.ok (-z)) := neg ha
/-- a op b op' c -/
theorem chain {op op' : CmpOp} {f g : Int → Int → Bool} {cc : Expr} {m n k : R Int} (ho : OpR X (compareOp op) (rI0 fun i j => .bl (f i j))) (ho' : OpR X (compareOp op') (rI0 fun i j => .bl (g i j))) (ha : DE X W ds a cI m) (hb : DE X W ds b cI n) (hc : DE X W ds cc cI k)
    (hm : lastMarks [op, op'] [b, cc] = false := by with_unfolding_all rfl) : DE X W ds (.Compare a [op, op'] [b, cc] pos) cB (m >>= fun x => n >>= fun y => if f x y = true then k >>= fun z => .ok (g y z) else .ok false) := by
  obtain ⟨ta, pa, qa⟩ := ha
  obtain ⟨tb, pb, qb⟩ := hb
  obtain ⟨tc, pc, qc⟩ := hc
  refine ⟨_, pe_chain ho ho' pa pb pc hm, fun S0 H0 σ S H Q E P => qa S0 H0 σ S H _ E (P.bind fun x v S1 H1 g1 r1 P1 => qb S0 H0 σ S1 H1 _ (E.step g1) (P1.bind fun y u S2 H2 g2 r2 P2 => ⟨x, y, r1, r2, f x y, rfl, ?_⟩))⟩
  cases hf : f x y with
  | true =>
    rw [hf, if_pos rfl] at P2
    exact qc S0 H0 σ S2 H2 _ ((E.step g1).step g2) (P2.bind fun z w S3 H3 g3 r3 P3 => ⟨y, z, r2, r3, P3.ok g3.inn rfl⟩)
  | false =>
    rw [hf, if_neg Bool.false_ne_true] at P2
    exact P2.ok g2.inn rfl
theorem chainT {op op' : CmpOp} {f g : Int → Int → Bool} {cc : Expr} {m n k : R Int} (ho : OpR X (compareOp op) (rI0 fun i j => .bl (f i j))) (ho' : OpR X (compareOp op') (rI0 fun i j => .bl (g i j))) (ha : DE X W ds a cI m) (hb : DE X W ds b cI n) (hc : DE X W ds cc cI k)
    (hm : lastMarks [op, op'] [b, cc] = false := by with_unfolding_all rfl) : DT X W ds (.Compare a [op, op'] [b, cc] pos) (m >>= fun x => n >>= fun y => if f x y = true then k >>= fun z => .ok (g y z) else .ok false) := by
  obtain ⟨ta, pa, qa⟩ := ha
  obtain ⟨tb, pb, qb⟩ := hb
  obtain ⟨tc, pc, qc⟩ := hc
  refine ⟨_, pt_chain ho ho' pa pb pc hm, fun S0 H0 σ S H Q E P => qa S0 H0 σ S H _ E ((pb_of P).bind fun x v S1 H1 g1 r1 P1 => qb S0 H0 σ S1 H1 _ (E.step g1) (P1.bind fun y u S2 H2 g2 r2 P2 => ⟨x, y, r1, r2, f x y, rfl, ?_⟩))⟩
  cases hf : f x y with
  | true =>
    rw [hf, if_pos rfl] at P2
    exact qc S0 H0 σ S2 H2 _ ((E.step g1).step g2) (P2.bind fun z w S3 H3 g3 r3 P3 => ⟨y, z, r2, r3, P3.ok g3.inn rfl⟩)
  | false =>
    rw [hf, if_neg Bool.false_ne_true] at P2
    exact P2.ok g2.inn rfl
/-! ### items -/
def getM (xs : List α) (i : Int) : R α := match atI xs i with
  | some z => .ok z
  | none => .stuck
theorem reps_at {c : Cd α} {K : PySem.W.Frag} {H : Hp} {vs : List V} {xs : List α} {i : Int} {z : α} (h : Reps c K H vs xs) (e : atI xs i = some z) : ∃ v, atI vs i = some v ∧ c.rep K H v z := by
  unfold atI at e ⊢
  rw [h.length]
  cases q : ixN xs.length i with
  | none =>
    rw [q] at e
    cases e
  | some j =>
    rw [q] at e
    exact h.get e
theorem sem_ixL {K : PySem.W.Frag} {c : Cd α} : BinSem K W (rIxL K) (cL c) cI c getM := fun x y v u S H Q i r1 r2 P => by
  obtain ⟨p, vs, e, h1, h2⟩ := r1
  unfold getM at P
  cases q : atI x y with
  | none =>
    rw [q] at P
    exact P.elim
  | some z =>
    rw [q] at P
    obtain ⟨w, k1, k2⟩ := reps_at h2 q
    exact ⟨p, vs, y, w, e, r2, Same.seq i h1, k1, P.ok i k2⟩
theorem sem_ixT {K : PySem.W.Frag} {c : Cd α} : BinSem K W (rIxT K) (cT c) cI c getM := fun x y v u S H Q i r1 r2 P => by
  obtain ⟨p, vs, e, h1, h2⟩ := r1
  unfold getM at P
  cases q : atI x y with
  | none =>
    rw [q] at P
    exact P.elim
  | some z =>
    rw [q] at P
    obtain ⟨w, k1, k2⟩ := reps_at h2 q
    exact ⟨p, vs, y, w, e, r2, Same.tup i h1, k1, P.ok i k2⟩
theorem sem_ixLT {K : PySem.W.Frag} {c : Cd α} : BinSem K W (rIx K) (cLT c) cI c getM := fun x y v u S H Q i r1 r2 P => by
  rcases r1 with r1 | r1
  · exact .inl (sem_ixL x y v u S H Q i r1 r2 P)
  · exact .inr (.inl (sem_ixT x y v u S H Q i r1 r2 P))

theorem ixL_pp {c : Cd α} {x : List α} {y : Int} (ha : DE X W ds a (cL c) (.ok x)) (hb : DE X W ds b cI (.ok y)) (hp : PlainIx b := by exact fun _ _ => rfl) : DE X W ds (.Subscript a b pos) c (getM x y) := ix ix_list hp sem_ixL ha hb
theorem ixL_mp {c : Cd α} {m1 : R (List α)} {y : Int} (ha : DE X W ds a (cL c) m1) (hb : DE X W ds b cI (.ok y)) (hp : PlainIx b := by exact fun _ _ => rfl) : DE X W ds (.Subscript a b pos) c (m1 >>= fun x => getM x y) := ix ix_list hp sem_ixL ha hb
theorem ixL_pm {c : Cd α} {x : List α} {m2 : R Int} (ha : DE X W ds a (cL c) (.ok x)) (hb : DE X W ds b cI m2) (hp : PlainIx b := by exact fun _ _ => rfl) : DE X W ds (.Subscript a b pos) c (m2 >>= fun y => getM x y) := ix ix_list hp sem_ixL ha hb
theorem ixL_mm {c : Cd α} {m1 : R (List α)} {m2 : R Int} (ha : DE X W ds a (cL c) m1) (hb : DE X W ds b cI m2) (hp : PlainIx b := by exact fun _ _ => rfl) : DE X W ds (.Subscript a b pos) c (m1 >>= fun x => m2 >>= fun y => getM x y) := ix ix_list hp sem_ixL ha hb
theorem ixT_pp {c : Cd α} {x : List α} {y : Int} (ha : DE X W ds a (cT c) (.ok x)) (hb : DE X W ds b cI (.ok y)) (hp : PlainIx b := by exact fun _ _ => rfl) : DE X W ds (.Subscript a b pos) c (getM x y) := ix ix_tup hp sem_ixT ha hb
theorem ixT_mp {c : Cd α} {m1 : R (List α)} {y : Int} (ha : DE X W ds a (cT c) m1) (hb : DE X W ds b cI (.ok y)) (hp : PlainIx b := by exact fun _ _ => rfl) : DE X W ds (.Subscript a b pos) c (m1 >>= fun x => getM x y) := ix ix_tup hp sem_ixT ha hb
theorem ixT_pm {c : Cd α} {x : List α} {m2 : R Int} (ha : DE X W ds a (cT c) (.ok x)) (hb : DE X W ds b cI m2) (hp : PlainIx b := by exact fun _ _ => rfl) : DE X W ds (.Subscript a b pos) c (m2 >>= fun y => getM x y) := ix ix_tup hp sem_ixT ha hb
theorem ixT_mm {c : Cd α} {m1 : R (List α)} {m2 : R Int} (ha : DE X W ds a (cT c) m1) (hb : DE X W ds b cI m2) (hp : PlainIx b := by exact fun _ _ => rfl) : DE X W ds (.Subscript a b pos) c (m1 >>= fun x => m2 >>= fun y => getM x y) := ix ix_tup hp sem_ixT ha hb
theorem ixLT_pp {c : Cd α} {x : List α} {y : Int} (ha : DE X W ds a (cLT c) (.ok x)) (hb : DE X W ds b cI (.ok y)) (hp : PlainIx b := by exact fun _ _ => rfl) : DE X W ds (.Subscript a b pos) c (getM x y) := ix ix_seq hp sem_ixLT ha hb
theorem ixLT_mp {c : Cd α} {m1 : R (List α)} {y : Int} (ha : DE X W ds a (cLT c) m1) (hb : DE X W ds b cI (.ok y)) (hp : PlainIx b := by exact fun _ _ => rfl) : DE X W ds (.Subscript a b pos) c (m1 >>= fun x => getM x y) := ix ix_seq hp sem_ixLT ha hb
theorem ixLT_pm {c : Cd α} {x : List α} {m2 : R Int} (ha : DE X W ds a (cLT c) (.ok x)) (hb : DE X W ds b cI m2) (hp : PlainIx b := by exact fun _ _ => rfl) : DE X W ds (.Subscript a b pos) c (m2 >>= fun y => getM x y) := ix ix_seq hp sem_ixLT ha hb
theorem ixLT_mm {c : Cd α} {m1 : R (List α)} {m2 : R Int} (ha : DE X W ds a (cLT c) m1) (hb : DE X W ds b cI m2) (hp : PlainIx b := by exact fun _ _ => rfl) : DE X W ds (.Subscript a b pos) c (m1 >>= fun x => m2 >>= fun y => getM x y) := ix ix_seq hp sem_ixLT ha hb
/-- an item of a tuple of so many: AIx r i c p: the i-th, c its codec, p the place in the mirror -/
def AIx (r : CA τ) (i : Int) (n : Nat) (c : Cd γ) (pr : τ → γ) : Prop := ∀ K H vs z, r.rep K H vs z → ∃ v, atI vs i = some v ∧ c.rep K H v (pr z)
theorem ixP {r : CA τ} {i : Int} {n : Nat} {pr : τ → γ} {m : R τ} {j : Nat} {p2 : Pos} (h : AIx r i n c3 pr) (ha : DE X W ds a (cP r) m) (hp : PlainIx (.Constant (.int i) j p2) := by exact fun _ _ => rfl) : DE X W ds (.Subscript a (.Constant (.int i) j p2) pos) c3 (m >>= fun z => .ok (pr z)) := by
  obtain ⟨ta, pa, qa⟩ := ha
  refine ⟨_, pe_ix ix_tup pa pe_int hp, fun S0 H0 σ S H Q E P => qa S0 H0 σ S H _ E (P.bind fun z v S1 H1 g r1 P1 => ?_)⟩
  obtain ⟨q, vs, e, h1, h2⟩ := r1
  obtain ⟨w, k1, k2⟩ := h _ _ _ _ h2
  exact ⟨q, vs, i, w, e, rfl, Same.tup g.inn h1, k1, P1.ok g.inn k2⟩

theorem aix_0_1 {t0 : Type} {d0 : Cd t0} : AIx (aOne d0) 0 1 d0 (fun z : t0 => z) := by
  intro K H vs z h
  obtain ⟨v0, e0, r0⟩ := h
  subst e0
  exact ⟨v0, by first | rfl | simp [atI, ixN], r0⟩
theorem ix_0_1p {t0 : Type} {d0 : Cd t0} {z : t0} {j : Nat} {p2 : Pos} (ha : DE X W ds a (cP (aOne d0)) (.ok z)) (hp : PlainIx (.Constant (.int 0) j p2) := by exact fun _ _ => rfl) : DE X W ds (.Subscript a (.Constant (.int 0) j p2) pos) d0 (.ok (z)) := ixP aix_0_1 ha hp
theorem ix_0_1m {t0 : Type} {d0 : Cd t0} {m : R (t0)} {j : Nat} {p2 : Pos} (ha : DE X W ds a (cP (aOne d0)) m) (hp : PlainIx (.Constant (.int 0) j p2) := by exact fun _ _ => rfl) : DE X W ds (.Subscript a (.Constant (.int 0) j p2) pos) d0 (m >>= fun z => .ok (z)) := ixP aix_0_1 ha hp
theorem aix_0_2 {t0 : Type} {t1 : Type} {d0 : Cd t0} {d1 : Cd t1} : AIx (aCons d0 (aOne d1)) 0 2 d0 (fun z : t0 × t1 => z.1) := by
  intro K H vs z h
  obtain ⟨v0, ws0, e0, r0, h0⟩ := h
  obtain ⟨v1, e1, r1⟩ := h0
  subst e1 e0
  exact ⟨v0, by first | rfl | simp [atI, ixN], r0⟩
theorem ix_0_2p {t0 : Type} {t1 : Type} {d0 : Cd t0} {d1 : Cd t1} {z : t0 × t1} {j : Nat} {p2 : Pos} (ha : DE X W ds a (cP (aCons d0 (aOne d1))) (.ok z)) (hp : PlainIx (.Constant (.int 0) j p2) := by exact fun _ _ => rfl) : DE X W ds (.Subscript a (.Constant (.int 0) j p2) pos) d0 (.ok (z.1)) := ixP aix_0_2 ha hp
theorem ix_0_2m {t0 : Type} {t1 : Type} {d0 : Cd t0} {d1 : Cd t1} {m : R (t0 × t1)} {j : Nat} {p2 : Pos} (ha : DE X W ds a (cP (aCons d0 (aOne d1))) m) (hp : PlainIx (.Constant (.int 0) j p2) := by exact fun _ _ => rfl) : DE X W ds (.Subscript a (.Constant (.int 0) j p2) pos) d0 (m >>= fun z => .ok (z.1)) := ixP aix_0_2 ha hp
theorem aix_1_2 {t0 : Type} {t1 : Type} {d0 : Cd t0} {d1 : Cd t1} : AIx (aCons d0 (aOne d1)) 1 2 d1 (fun z : t0 × t1 => z.2) := by
  intro K H vs z h
  obtain ⟨v0, ws0, e0, r0, h0⟩ := h
  obtain ⟨v1, e1, r1⟩ := h0
  subst e1 e0
  exact ⟨v1, by first | rfl | simp [atI, ixN], r1⟩
theorem ix_1_2p {t0 : Type} {t1 : Type} {d0 : Cd t0} {d1 : Cd t1} {z : t0 × t1} {j : Nat} {p2 : Pos} (ha : DE X W ds a (cP (aCons d0 (aOne d1))) (.ok z)) (hp : PlainIx (.Constant (.int 1) j p2) := by exact fun _ _ => rfl) : DE X W ds (.Subscript a (.Constant (.int 1) j p2) pos) d1 (.ok (z.2)) := ixP aix_1_2 ha hp
theorem ix_1_2m {t0 : Type} {t1 : Type} {d0 : Cd t0} {d1 : Cd t1} {m : R (t0 × t1)} {j : Nat} {p2 : Pos} (ha : DE X W ds a (cP (aCons d0 (aOne d1))) m) (hp : PlainIx (.Constant (.int 1) j p2) := by exact fun _ _ => rfl) : DE X W ds (.Subscript a (.Constant (.int 1) j p2) pos) d1 (m >>= fun z => .ok (z.2)) := ixP aix_1_2 ha hp
theorem aix_0_3 {t0 : Type} {t1 : Type} {t2 : Type} {d0 : Cd t0} {d1 : Cd t1} {d2 : Cd t2} : AIx (aCons d0 (aCons d1 (aOne d2))) 0 3 d0 (fun z : t0 × t1 × t2 => z.1) := by
  intro K H vs z h
  obtain ⟨v0, ws0, e0, r0, h0⟩ := h
  obtain ⟨v1, ws1, e1, r1, h1⟩ := h0
  obtain ⟨v2, e2, r2⟩ := h1
  subst e2 e1 e0
  exact ⟨v0, by first | rfl | simp [atI, ixN], r0⟩
theorem ix_0_3p {t0 : Type} {t1 : Type} {t2 : Type} {d0 : Cd t0} {d1 : Cd t1} {d2 : Cd t2} {z : t0 × t1 × t2} {j : Nat} {p2 : Pos} (ha : DE X W ds a (cP (aCons d0 (aCons d1 (aOne d2)))) (.ok z)) (hp : PlainIx (.Constant (.int 0) j p2) := by exact fun _ _ => rfl) : DE X W ds (.Subscript a (.Constant (.int 0) j p2) pos) d0 (.ok (z.1)) := ixP aix_0_3 ha hp
theorem ix_0_3m {t0 : Type} {t1 : Type} {t2 : Type} {d0 : Cd t0} {d1 : Cd t1} {d2 : Cd t2} {m : R (t0 × t1 × t2)} {j : Nat} {p2 : Pos} (ha : DE X W ds a (cP (aCons d0 (aCons d1 (aOne d2)))) m) (hp : PlainIx (.Constant (.int 0) j p2) := by exact fun _ _ => rfl) : DE X W ds (.Subscript a (.Constant (.int 0) j p2) pos) d0 (m >>= fun z => .ok (z.1)) := ixP aix_0_3 ha hp
theorem aix_1_3 {t0 : Type} {t1 : Type} {t2 : Type} {d0 : Cd t0} {d1 : Cd t1} {d2 : Cd t2} : AIx (aCons d0 (aCons d1 (aOne d2))) 1 3 d1 (fun z : t0 × t1 × t2 => z.2.1) := by
  intro K H vs z h
  obtain ⟨v0, ws0, e0, r0, h0⟩ := h
  obtain ⟨v1, ws1, e1, r1, h1⟩ := h0
  obtain ⟨v2, e2, r2⟩ := h1
  subst e2 e1 e0
  exact ⟨v1, by first | rfl | simp [atI, ixN], r1⟩
theorem ix_1_3p {t0 : Type} {t1 : Type} {t2 : Type} {d0 : Cd t0} {d1 : Cd t1} {d2 : Cd t2} {z : t0 × t1 × t2} {j : Nat} {p2 : Pos} (ha : DE X W ds a (cP (aCons d0 (aCons d1 (aOne d2)))) (.ok z)) (hp : PlainIx (.Constant (.int 1) j p2) := by exact fun _ _ => rfl) : DE X W ds (.Subscript a (.Constant (.int 1) j p2) pos) d1 (.ok (z.2.1)) := ixP aix_1_3 ha hp
theorem ix_1_3m {t0 : Type} {t1 : Type} {t2 : Type} {d0 : Cd t0} {d1 : Cd t1} {d2 : Cd t2} {m : R (t0 × t1 × t2)} {j : Nat} {p2 : Pos} (ha : DE X W ds a (cP (aCons d0 (aCons d1 (aOne d2)))) m) (hp : PlainIx (.Constant (.int 1) j p2) := by exact fun _ _ => rfl) : DE X W ds (.Subscript a (.Constant (.int 1) j p2) pos) d1 (m >>= fun z => .ok (z.2.1)) := ixP aix_1_3 ha hp
theorem aix_2_3 {t0 : Type} {t1 : Type} {t2 : Type} {d0 : Cd t0} {d1 : Cd t1} {d2 : Cd t2} : AIx (aCons d0 (aCons d1 (aOne d2))) 2 3 d2 (fun z : t0 × t1 × t2 => z.2.2) := by
  intro K H vs z h
  obtain ⟨v0, ws0, e0, r0, h0⟩ := h
  obtain ⟨v1, ws1, e1, r1, h1⟩ := h0
  obtain ⟨v2, e2, r2⟩ := h1
  subst e2 e1 e0
  exact ⟨v2, by first | rfl | simp [atI, ixN], r2⟩
theorem ix_2_3p {t0 : Type} {t1 : Type} {t2 : Type} {d0 : Cd t0} {d1 : Cd t1} {d2 : Cd t2} {z : t0 × t1 × t2} {j : Nat} {p2 : Pos} (ha : DE X W ds a (cP (aCons d0 (aCons d1 (aOne d2)))) (.ok z)) (hp : PlainIx (.Constant (.int 2) j p2) := by exact fun _ _ => rfl) : DE X W ds (.Subscript a (.Constant (.int 2) j p2) pos) d2 (.ok (z.2.2)) := ixP aix_2_3 ha hp
theorem ix_2_3m {t0 : Type} {t1 : Type} {t2 : Type} {d0 : Cd t0} {d1 : Cd t1} {d2 : Cd t2} {m : R (t0 × t1 × t2)} {j : Nat} {p2 : Pos} (ha : DE X W ds a (cP (aCons d0 (aCons d1 (aOne d2)))) m) (hp : PlainIx (.Constant (.int 2) j p2) := by exact fun _ _ => rfl) : DE X W ds (.Subscript a (.Constant (.int 2) j p2) pos) d2 (m >>= fun z => .ok (z.2.2)) := ixP aix_2_3 ha hp
theorem aix_0_4 {t0 : Type} {t1 : Type} {t2 : Type} {t3 : Type} {d0 : Cd t0} {d1 : Cd t1} {d2 : Cd t2} {d3 : Cd t3} : AIx (aCons d0 (aCons d1 (aCons d2 (aOne d3)))) 0 4 d0 (fun z : t0 × t1 × t2 × t3 => z.1) := by
  intro K H vs z h
  obtain ⟨v0, ws0, e0, r0, h0⟩ := h
  obtain ⟨v1, ws1, e1, r1, h1⟩ := h0
  obtain ⟨v2, ws2, e2, r2, h2⟩ := h1
  obtain ⟨v3, e3, r3⟩ := h2
  subst e3 e2 e1 e0
  exact ⟨v0, by first | rfl | simp [atI, ixN], r0⟩
theorem ix_0_4p {t0 : Type} {t1 : Type} {t2 : Type} {t3 : Type} {d0 : Cd t0} {d1 : Cd t1} {d2 : Cd t2} {d3 : Cd t3} {z : t0 × t1 × t2 × t3} {j : Nat} {p2 : Pos} (ha : DE X W ds a (cP (aCons d0 (aCons d1 (aCons d2 (aOne d3))))) (.ok z)) (hp : PlainIx (.Constant (.int 0) j p2) := by exact fun _ _ => rfl) : DE X W ds (.Subscript a (.Constant (.int 0) j p2) pos) d0 (.ok (z.1)) := ixP aix_0_4 ha hp
theorem ix_0_4m {t0 : Type} {t1 : Type} {t2 : Type} {t3 : Type} {d0 : Cd t0} {d1 : Cd t1} {d2 : Cd t2} {d3 : Cd t3} {m : R (t0 × t1 × t2 × t3)} {j : Nat} {p2 : Pos} (ha : DE X W ds a (cP (aCons d0 (aCons d1 (aCons d2 (aOne d3))))) m) (hp : PlainIx (.Constant (.int 0) j p2) := by exact fun _ _ => rfl) : DE X W ds (.Subscript a (.Constant (.int 0) j p2) pos) d0 (m >>= fun z => .ok (z.1)) := ixP aix_0_4 ha hp
theorem aix_1_4 {t0 : Type} {t1 : Type} {t2 : Type} {t3 : Type} {d0 : Cd t0} {d1 : Cd t1} {d2 : Cd t2} {d3 : Cd t3} : AIx (aCons d0 (aCons d1 (aCons d2 (aOne d3)))) 1 4 d1 (fun z : t0 × t1 × t2 × t3 => z.2.1) := by
  intro K H vs z h
  obtain ⟨v0, ws0, e0, r0, h0⟩ := h
  obtain ⟨v1, ws1, e1, r1, h1⟩ := h0
  obtain ⟨v2, ws2, e2, r2, h2⟩ := h1
  obtain ⟨v3, e3, r3⟩ := h2
  subst e3 e2 e1 e0
  exact ⟨v1, by first | rfl | simp [atI, ixN], r1⟩
theorem ix_1_4p {t0 : Type} {t1 : Type} {t2 : Type} {t3 : Type} {d0 : Cd t0} {d1 : Cd t1} {d2 : Cd t2} {d3 : Cd t3} {z : t0 × t1 × t2 × t3} {j : Nat} {p2 : Pos} (ha : DE X W ds a (cP (aCons d0 (aCons d1 (aCons d2 (aOne d3))))) (.ok z)) (hp : PlainIx (.Constant (.int 1) j p2) := by exact fun _ _ => rfl) : DE X W ds (.Subscript a (.Constant (.int 1) j p2) pos) d1 (.ok (z.2.1)) := ixP aix_1_4 ha hp
theorem ix_1_4m {t0 : Type} {t1 : Type} {t2 : Type} {t3 : Type} {d0 : Cd t0} {d1 : Cd t1} {d2 : Cd t2} {d3 : Cd t3} {m : R (t0 × t1 × t2 × t3)} {j : Nat} {p2 : Pos} (ha : DE X W ds a (cP (aCons d0 (aCons d1 (aCons d2 (aOne d3))))) m) (hp : PlainIx (.Constant (.int 1) j p2) := by exact fun _ _ => rfl) : DE X W ds (.Subscript a (.Constant (.int 1) j p2) pos) d1 (m >>= fun z => .ok (z.2.1)) := ixP aix_1_4 ha hp
theorem aix_2_4 {t0 : Type} {t1 : Type} {t2 : Type} {t3 : Type} {d0 : Cd t0} {d1 : Cd t1} {d2 : Cd t2} {d3 : Cd t3} : AIx (aCons d0 (aCons d1 (aCons d2 (aOne d3)))) 2 4 d2 (fun z : t0 × t1 × t2 × t3 => z.2.2.1) := by
  intro K H vs z h
  obtain ⟨v0, ws0, e0, r0, h0⟩ := h
  obtain ⟨v1, ws1, e1, r1, h1⟩ := h0
  obtain ⟨v2, ws2, e2, r2, h2⟩ := h1
  obtain ⟨v3, e3, r3⟩ := h2
  subst e3 e2 e1 e0
  exact ⟨v2, by first | rfl | simp [atI, ixN], r2⟩
theorem ix_2_4p {t0 : Type} {t1 : Type} {t2 : Type} {t3 : Type} {d0 : Cd t0} {d1 : Cd t1} {d2 : Cd t2} {d3 : Cd t3} {z : t0 × t1 × t2 × t3} {j : Nat} {p2 : Pos} (ha : DE X W ds a (cP (aCons d0 (aCons d1 (aCons d2 (aOne d3))))) (.ok z)) (hp : PlainIx (.Constant (.int 2) j p2) := by exact fun _ _ => rfl) : DE X W ds (.Subscript a (.Constant (.int 2) j p2) pos) d2 (.ok (z.2.2.1)) := ixP aix_2_4 ha hp
theorem ix_2_4m {t0 : Type} {t1 : Type} {t2 : Type} {t3 : Type} {d0 : Cd t0} {d1 : Cd t1} {d2 : Cd t2} {d3 : Cd t3} {m : R (t0 × t1 × t2 × t3)} {j : Nat} {p2 : Pos} (ha : DE X W ds a (cP (aCons d0 (aCons d1 (aCons d2 (aOne d3))))) m) (hp : PlainIx (.Constant (.int 2) j p2) := by exact fun _ _ => rfl) : DE X W ds (.Subscript a (.Constant (.int 2) j p2) pos) d2 (m >>= fun z => .ok (z.2.2.1)) := ixP aix_2_4 ha hp
theorem aix_3_4 {t0 : Type} {t1 : Type} {t2 : Type} {t3 : Type} {d0 : Cd t0} {d1 : Cd t1} {d2 : Cd t2} {d3 : Cd t3} : AIx (aCons d0 (aCons d1 (aCons d2 (aOne d3)))) 3 4 d3 (fun z : t0 × t1 × t2 × t3 => z.2.2.2) := by
  intro K H vs z h
  obtain ⟨v0, ws0, e0, r0, h0⟩ := h
  obtain ⟨v1, ws1, e1, r1, h1⟩ := h0
  obtain ⟨v2, ws2, e2, r2, h2⟩ := h1
  obtain ⟨v3, e3, r3⟩ := h2
  subst e3 e2 e1 e0
  exact ⟨v3, by first | rfl | simp [atI, ixN], r3⟩
theorem ix_3_4p {t0 : Type} {t1 : Type} {t2 : Type} {t3 : Type} {d0 : Cd t0} {d1 : Cd t1} {d2 : Cd t2} {d3 : Cd t3} {z : t0 × t1 × t2 × t3} {j : Nat} {p2 : Pos} (ha : DE X W ds a (cP (aCons d0 (aCons d1 (aCons d2 (aOne d3))))) (.ok z)) (hp : PlainIx (.Constant (.int 3) j p2) := by exact fun _ _ => rfl) : DE X W ds (.Subscript a (.Constant (.int 3) j p2) pos) d3 (.ok (z.2.2.2)) := ixP aix_3_4 ha hp
theorem ix_3_4m {t0 : Type} {t1 : Type} {t2 : Type} {t3 : Type} {d0 : Cd t0} {d1 : Cd t1} {d2 : Cd t2} {d3 : Cd t3} {m : R (t0 × t1 × t2 × t3)} {j : Nat} {p2 : Pos} (ha : DE X W ds a (cP (aCons d0 (aCons d1 (aCons d2 (aOne d3))))) m) (hp : PlainIx (.Constant (.int 3) j p2) := by exact fun _ _ => rfl) : DE X W ds (.Subscript a (.Constant (.int 3) j p2) pos) d3 (m >>= fun z => .ok (z.2.2.2)) := ixP aix_3_4 ha hp
theorem aix_0_5 {t0 : Type} {t1 : Type} {t2 : Type} {t3 : Type} {t4 : Type} {d0 : Cd t0} {d1 : Cd t1} {d2 : Cd t2} {d3 : Cd t3} {d4 : Cd t4} : AIx (aCons d0 (aCons d1 (aCons d2 (aCons d3 (aOne d4))))) 0 5 d0 (fun z : t0 × t1 × t2 × t3 × t4 => z.1) := by
  intro K H vs z h
  obtain ⟨v0, ws0, e0, r0, h0⟩ := h
  obtain ⟨v1, ws1, e1, r1, h1⟩ := h0
  obtain ⟨v2, ws2, e2, r2, h2⟩ := h1
  obtain ⟨v3, ws3, e3, r3, h3⟩ := h2
  obtain ⟨v4, e4, r4⟩ := h3
  subst e4 e3 e2 e1 e0
  exact ⟨v0, by first | rfl | simp [atI, ixN], r0⟩
theorem ix_0_5p {t0 : Type} {t1 : Type} {t2 : Type} {t3 : Type} {t4 : Type} {d0 : Cd t0} {d1 : Cd t1} {d2 : Cd t2} {d3 : Cd t3} {d4 : Cd t4} {z : t0 × t1 × t2 × t3 × t4} {j : Nat} {p2 : Pos} (ha : DE X W ds a (cP (aCons d0 (aCons d1 (aCons d2 (aCons d3 (aOne d4)))))) (.ok z)) (hp : PlainIx (.Constant (.int 0) j p2) := by exact fun _ _ => rfl) : DE X W ds (.Subscript a (.Constant (.int 0) j p2) pos) d0 (.ok (z.1)) := ixP aix_0_5 ha hp
theorem ix_0_5m {t0 : Type} {t1 : Type} {t2 : Type} {t3 : Type} {t4 : Type} {d0 : Cd t0} {d1 : Cd t1} {d2 : Cd t2} {d3 : Cd t3} {d4 : Cd t4} {m : R (t0 × t1 × t2 × t3 × t4)} {j : Nat} {p2 : Pos} (ha : DE X W ds a (cP (aCons d0 (aCons d1 (aCons d2 (aCons d3 (aOne d4)))))) m) (hp : PlainIx (.Constant (.int 0) j p2) := by exact fun _ _ => rfl) : DE X W ds (.Subscript a (.Constant (.int 0) j p2) pos) d0 (m >>= fun z => .ok (z.1)) := ixP aix_0_5 ha hp
theorem aix_1_5 {t0 : Type} {t1 : Type} {t2 : Type} {t3 : Type} {t4 : Type} {d0 : Cd t0} {d1 : Cd t1} {d2 : Cd t2} {d3 : Cd t3} {d4 : Cd t4} : AIx (aCons d0 (aCons d1 (aCons d2 (aCons d3 (aOne d4))))) 1 5 d1 (fun z : t0 × t1 × t2 × t3 × t4 => z.2.1) := by
  intro K H vs z h
  obtain ⟨v0, ws0, e0, r0, h0⟩ := h
  obtain ⟨v1, ws1, e1, r1, h1⟩ := h0
  obtain ⟨v2, ws2, e2, r2, h2⟩ := h1
  obtain ⟨v3, ws3, e3, r3, h3⟩ := h2
  obtain ⟨v4, e4, r4⟩ := h3
  subst e4 e3 e2 e1 e0
  exact ⟨v1, by first | rfl | simp [atI, ixN], r1⟩
theorem ix_1_5p {t0 : Type} {t1 : Type} {t2 : Type} {t3 : Type} {t4 : Type} {d0 : Cd t0} {d1 : Cd t1} {d2 : Cd t2} {d3 : Cd t3} {d4 : Cd t4} {z : t0 × t1 × t2 × t3 × t4} {j : Nat} {p2 : Pos} (ha : DE X W ds a (cP (aCons d0 (aCons d1 (aCons d2 (aCons d3 (aOne d4)))))) (.ok z)) (hp : PlainIx (.Constant (.int 1) j p2) := by exact fun _ _ => rfl) : DE X W ds (.Subscript a (.Constant (.int 1) j p2) pos) d1 (.ok (z.2.1)) := ixP aix_1_5 ha hp
theorem ix_1_5m {t0 : Type} {t1 : Type} {t2 : Type} {t3 : Type} {t4 : Type} {d0 : Cd t0} {d1 : Cd t1} {d2 : Cd t2} {d3 : Cd t3} {d4 : Cd t4} {m : R (t0 × t1 × t2 × t3 × t4)} {j : Nat} {p2 : Pos} (ha : DE X W ds a (cP (aCons d0 (aCons d1 (aCons d2 (aCons d3 (aOne d4)))))) m) (hp : PlainIx (.Constant (.int 1) j p2) := by exact fun _ _ => rfl) : DE X W ds (.Subscript a (.Constant (.int 1) j p2) pos) d1 (m >>= fun z => .ok (z.2.1)) := ixP aix_1_5 ha hp
theorem aix_2_5 {t0 : Type} {t1 : Type} {t2 : Type} {t3 : Type} {t4 : Type} {d0 : Cd t0} {d1 : Cd t1} {d2 : Cd t2} {d3 : Cd t3} {d4 : Cd t4} : AIx (aCons d0 (aCons d1 (aCons d2 (aCons d3 (aOne d4))))) 2 5 d2 (fun z : t0 × t1 × t2 × t3 × t4 => z.2.2.1) := by
  intro K H vs z h
  obtain ⟨v0, ws0, e0, r0, h0⟩ := h
  obtain ⟨v1, ws1, e1, r1, h1⟩ := h0
  obtain ⟨v2, ws2, e2, r2, h2⟩ := h1
  obtain ⟨v3, ws3, e3, r3, h3⟩ := h2
  obtain ⟨v4, e4, r4⟩ := h3
  subst e4 e3 e2 e1 e0
  exact ⟨v2, by first | rfl | simp [atI, ixN], r2⟩
theorem ix_2_5p {t0 : Type} {t1 : Type} {t2 : Type} {t3 : Type} {t4 : Type} {d0 : Cd t0} {d1 : Cd t1} {d2 : Cd t2} {d3 : Cd t3} {d4 : Cd t4} {z : t0 × t1 × t2 × t3 × t4} {j : Nat} {p2 : Pos} (ha : DE X W ds a (cP (aCons d0 (aCons d1 (aCons d2 (aCons d3 (aOne d4)))))) (.ok z)) (hp : PlainIx (.Constant (.int 2) j p2) := by exact fun _ _ => rfl) : DE X W ds (.Subscript a (.Constant (.int 2) j p2) pos) d2 (.ok (z.2.2.1)) := ixP aix_2_5 ha hp
theorem ix_2_5m {t0 : Type} {t1 : Type} {t2 : Type} {t3 : Type} {t4 : Type} {d0 : Cd t0} {d1 : Cd t1} {d2 : Cd t2} {d3 : Cd t3} {d4 : Cd t4} {m : R (t0 × t1 × t2 × t3 × t4)} {j : Nat} {p2 : Pos} (ha : DE X W ds a (cP (aCons d0 (aCons d1 (aCons d2 (aCons d3 (aOne d4)))))) m) (hp : PlainIx (.Constant (.int 2) j p2) := by exact fun _ _ => rfl) : DE X W ds (.Subscript a (.Constant (.int 2) j p2) pos) d2 (m >>= fun z => .ok (z.2.2.1)) := ixP aix_2_5 ha hp
theorem aix_3_5 {t0 : Type} {t1 : Type} {t2 : Type} {t3 : Type} {t4 : Type} {d0 : Cd t0} {d1 : Cd t1} {d2 : Cd t2} {d3 : Cd t3} {d4 : Cd t4} : AIx (aCons d0 (aCons d1 (aCons d2 (aCons d3 (aOne d4))))) 3 5 d3 (fun z : t0 × t1 × t2 × t3 × t4 => z.2.2.2.1) := by
  intro K H vs z h
  obtain ⟨v0, ws0, e0, r0, h0⟩ := h
  obtain ⟨v1, ws1, e1, r1, h1⟩ := h0
  obtain ⟨v2, ws2, e2, r2, h2⟩ := h1
  obtain ⟨v3, ws3, e3, r3, h3⟩ := h2
  obtain ⟨v4, e4, r4⟩ := h3
  subst e4 e3 e2 e1 e0
  exact ⟨v3, by first | rfl | simp [atI, ixN], r3⟩
theorem ix_3_5p {t0 : Type} {t1 : Type} {t2 : Type} {t3 : Type} {t4 : Type} {d0 : Cd t0} {d1 : Cd t1} {d2 : Cd t2} {d3 : Cd t3} {d4 : Cd t4} {z : t0 × t1 × t2 × t3 × t4} {j : Nat} {p2 : Pos} (ha : DE X W ds a (cP (aCons d0 (aCons d1 (aCons d2 (aCons d3 (aOne d4)))))) (.ok z)) (hp : PlainIx (.Constant (.int 3) j p2) := by exact fun _ _ => rfl) : DE X W ds (.Subscript a (.Constant (.int 3) j p2) pos) d3 (.ok (z.2.2.2.1)) := ixP aix_3_5 ha hp
theorem ix_3_5m {t0 : Type} {t1 : Type} {t2 : Type} {t3 : Type} {t4 : Type} {d0 : Cd t0} {d1 : Cd t1} {d2 : Cd t2} {d3 : Cd t3} {d4 : Cd t4} {m : R (t0 × t1 × t2 × t3 × t4)} {j : Nat} {p2 : Pos} (ha : DE X W ds a (cP (aCons d0 (aCons d1 (aCons d2 (aCons d3 (aOne d4)))))) m) (hp : PlainIx (.Constant (.int 3) j p2) := by exact fun _ _ => rfl) : DE X W ds (.Subscript a (.Constant (.int 3) j p2) pos) d3 (m >>= fun z => .ok (z.2.2.2.1)) := ixP aix_3_5 ha hp
theorem aix_4_5 {t0 : Type} {t1 : Type} {t2 : Type} {t3 : Type} {t4 : Type} {d0 : Cd t0} {d1 : Cd t1} {d2 : Cd t2} {d3 : Cd t3} {d4 : Cd t4} : AIx (aCons d0 (aCons d1 (aCons d2 (aCons d3 (aOne d4))))) 4 5 d4 (fun z : t0 × t1 × t2 × t3 × t4 => z.2.2.2.2) := by
  intro K H vs z h
  obtain ⟨v0, ws0, e0, r0, h0⟩ := h
  obtain ⟨v1, ws1, e1, r1, h1⟩ := h0
  obtain ⟨v2, ws2, e2, r2, h2⟩ := h1
  obtain ⟨v3, ws3, e3, r3, h3⟩ := h2
  obtain ⟨v4, e4, r4⟩ := h3
  subst e4 e3 e2 e1 e0
  exact ⟨v4, by first | rfl | simp [atI, ixN], r4⟩
theorem ix_4_5p {t0 : Type} {t1 : Type} {t2 : Type} {t3 : Type} {t4 : Type} {d0 : Cd t0} {d1 : Cd t1} {d2 : Cd t2} {d3 : Cd t3} {d4 : Cd t4} {z : t0 × t1 × t2 × t3 × t4} {j : Nat} {p2 : Pos} (ha : DE X W ds a (cP (aCons d0 (aCons d1 (aCons d2 (aCons d3 (aOne d4)))))) (.ok z)) (hp : PlainIx (.Constant (.int 4) j p2) := by exact fun _ _ => rfl) : DE X W ds (.Subscript a (.Constant (.int 4) j p2) pos) d4 (.ok (z.2.2.2.2)) := ixP aix_4_5 ha hp
theorem ix_4_5m {t0 : Type} {t1 : Type} {t2 : Type} {t3 : Type} {t4 : Type} {d0 : Cd t0} {d1 : Cd t1} {d2 : Cd t2} {d3 : Cd t3} {d4 : Cd t4} {m : R (t0 × t1 × t2 × t3 × t4)} {j : Nat} {p2 : Pos} (ha : DE X W ds a (cP (aCons d0 (aCons d1 (aCons d2 (aCons d3 (aOne d4)))))) m) (hp : PlainIx (.Constant (.int 4) j p2) := by exact fun _ _ => rfl) : DE X W ds (.Subscript a (.Constant (.int 4) j p2) pos) d4 (m >>= fun z => .ok (z.2.2.2.2)) := ixP aix_4_5 ha hp
theorem aix_0_6 {t0 : Type} {t1 : Type} {t2 : Type} {t3 : Type} {t4 : Type} {t5 : Type} {d0 : Cd t0} {d1 : Cd t1} {d2 : Cd t2} {d3 : Cd t3} {d4 : Cd t4} {d5 : Cd t5} : AIx (aCons d0 (aCons d1 (aCons d2 (aCons d3 (aCons d4 (aOne d5)))))) 0 6 d0 (fun z : t0 × t1 × t2 × t3 × t4 × t5 => z.1) := by
  intro K H vs z h
  obtain ⟨v0, ws0, e0, r0, h0⟩ := h
  obtain ⟨v1, ws1, e1, r1, h1⟩ := h0
  obtain ⟨v2, ws2, e2, r2, h2⟩ := h1
  obtain ⟨v3, ws3, e3, r3, h3⟩ := h2
  obtain ⟨v4, ws4, e4, r4, h4⟩ := h3
  obtain ⟨v5, e5, r5⟩ := h4
  subst e5 e4 e3 e2 e1 e0
  exact ⟨v0, by first | rfl | simp [atI, ixN], r0⟩
theorem ix_0_6p {t0 : Type} {t1 : Type} {t2 : Type} {t3 : Type} {t4 : Type} {t5 : Type} {d0 : Cd t0} {d1 : Cd t1} {d2 : Cd t2} {d3 : Cd t3} {d4 : Cd t4} {d5 : Cd t5} {z : t0 × t1 × t2 × t3 × t4 × t5} {j : Nat} {p2 : Pos} (ha : DE X W ds a (cP (aCons d0 (aCons d1 (aCons d2 (aCons d3 (aCons d4 (aOne d5))))))) (.ok z)) (hp : PlainIx (.Constant (.int 0) j p2) := by exact fun _ _ => rfl) : DE X W ds (.Subscript a (.Constant (.int 0) j p2) pos) d0 (.ok (z.1)) := ixP aix_0_6 ha hp
theorem ix_0_6m {t0 : Type} {t1 : Type} {t2 : Type} {t3 : Type} {t4 : Type} {t5 : Type} {d0 : Cd t0} {d1 : Cd t1} {d2 : Cd t2} {d3 : Cd t3} {d4 : Cd t4} {d5 : Cd t5} {m : R (t0 × t1 × t2 × t3 × t4 × t5)} {j : Nat} {p2 : Pos} (ha : DE X W ds a (cP (aCons d0 (aCons d1 (aCons d2 (aCons d3 (aCons d4 (aOne d5))))))) m) (hp : PlainIx (.Constant (.int 0) j p2) := by exact fun _ _ => rfl) : DE X W ds (.Subscript a (.Constant (.int 0) j p2) pos) d0 (m >>= fun z => .ok (z.1)) := ixP aix_0_6 ha hp
theorem aix_1_6 {t0 : Type} {t1 : Type} {t2 : Type} {t3 : Type} {t4 : Type} {t5 : Type} {d0 : Cd t0} {d1 : Cd t1} {d2 : Cd t2} {d3 : Cd t3} {d4 : Cd t4} {d5 : Cd t5} : AIx (aCons d0 (aCons d1 (aCons d2 (aCons d3 (aCons d4 (aOne d5)))))) 1 6 d1 (fun z : t0 × t1 × t2 × t3 × t4 × t5 => z.2.1) := by
  intro K H vs z h
  obtain ⟨v0, ws0, e0, r0, h0⟩ := h
  obtain ⟨v1, ws1, e1, r1, h1⟩ := h0
  obtain ⟨v2, ws2, e2, r2, h2⟩ := h1
  obtain ⟨v3, ws3, e3, r3, h3⟩ := h2
  obtain ⟨v4, ws4, e4, r4, h4⟩ := h3
  obtain ⟨v5, e5, r5⟩ := h4
  subst e5 e4 e3 e2 e1 e0
  exact ⟨v1, by first | rfl | simp [atI, ixN], r1⟩
theorem ix_1_6p {t0 : Type} {t1 : Type} {t2 : Type} {t3 : Type} {t4 : Type} {t5 : Type} {d0 : Cd t0} {d1 : Cd t1} {d2 : Cd t2} {d3 : Cd t3} {d4 : Cd t4} {d5 : Cd t5} {z : t0 × t1 × t2 × t3 × t4 × t5} {j : Nat} {p2 : Pos} (ha : DE X W ds a (cP (aCons d0 (aCons d1 (aCons d2 (aCons d3 (aCons d4 (aOne d5))))))) (.ok z)) (hp : PlainIx (.Constant (.int 1) j p2) := by exact fun _ _ => rfl) : DE X W ds (.Subscript a (.Constant (.int 1) j p2) pos) d1 (.ok (z.2.1)) := ixP aix_1_6 ha hp
theorem ix_1_6m {t0 : Type} {t1 : Type} {t2 : Type} {t3 : Type} {t4 : Type} {t5 : Type} {d0 : Cd t0} {d1 : Cd t1} {d2 : Cd t2} {d3 : Cd t3} {d4 : Cd t4} {d5 : Cd t5} {m : R (t0 × t1 × t2 × t3 × t4 × t5)} {j : Nat} {p2 : Pos} (ha : DE X W ds a (cP (aCons d0 (aCons d1 (aCons d2 (aCons d3 (aCons d4 (aOne d5))))))) m) (hp : PlainIx (.Constant (.int 1) j p2) := by exact fun _ _ => rfl) : DE X W ds (.Subscript a (.Constant (.int 1) j p2) pos) d1 (m >>= fun z => .ok (z.2.1)) := ixP aix_1_6 ha hp
theorem aix_2_6 {t0 : Type} {t1 : Type} {t2 : Type} {t3 : Type} {t4 : Type} {t5 : Type} {d0 : Cd t0} {d1 : Cd t1} {d2 : Cd t2} {d3 : Cd t3} {d4 : Cd t4} {d5 : Cd t5} : AIx (aCons d0 (aCons d1 (aCons d2 (aCons d3 (aCons d4 (aOne d5)))))) 2 6 d2 (fun z : t0 × t1 × t2 × t3 × t4 × t5 => z.2.2.1) := by
  intro K H vs z h
  obtain ⟨v0, ws0, e0, r0, h0⟩ := h
  obtain ⟨v1, ws1, e1, r1, h1⟩ := h0
  obtain ⟨v2, ws2, e2, r2, h2⟩ := h1
  obtain ⟨v3, ws3, e3, r3, h3⟩ := h2
  obtain ⟨v4, ws4, e4, r4, h4⟩ := h3
  obtain ⟨v5, e5, r5⟩ := h4
  subst e5 e4 e3 e2 e1 e0
  exact ⟨v2, by first | rfl | simp [atI, ixN], r2⟩
theorem ix_2_6p {t0 : Type} {t1 : Type} {t2 : Type} {t3 : Type} {t4 : Type} {t5 : Type} {d0 : Cd t0} {d1 : Cd t1} {d2 : Cd t2} {d3 : Cd t3} {d4 : Cd t4} {d5 : Cd t5} {z : t0 × t1 × t2 × t3 × t4 × t5} {j : Nat} {p2 : Pos} (ha : DE X W ds a (cP (aCons d0 (aCons d1 (aCons d2 (aCons d3 (aCons d4 (aOne d5))))))) (.ok z)) (hp : PlainIx (.Constant (.int 2) j p2) := by exact fun _ _ => rfl) : DE X W ds (.Subscript a (.Constant (.int 2) j p2) pos) d2 (.ok (z.2.2.1)) := ixP aix_2_6 ha hp
theorem ix_2_6m {t0 : Type} {t1 : Type} {t2 : Type} {t3 : Type} {t4 : Type} {t5 : Type} {d0 : Cd t0} {d1 : Cd t1} {d2 : Cd t2} {d3 : Cd t3} {d4 : Cd t4} {d5 : Cd t5} {m : R (t0 × t1 × t2 × t3 × t4 × t5)} {j : Nat} {p2 : Pos} (ha : DE X W ds a (cP (aCons d0 (aCons d1 (aCons d2 (aCons d3 (aCons d4 (aOne d5))))))) m) (hp : PlainIx (.Constant (.int 2) j p2) := by exact fun _ _ => rfl) : DE X W ds (.Subscript a (.Constant (.int 2) j p2) pos) d2 (m >>= fun z => .ok (z.2.2.1)) := ixP aix_2_6 ha hp
theorem aix_3_6 {t0 : Type} {t1 : Type} {t2 : Type} {t3 : Type} {t4 : Type} {t5 : Type} {d0 : Cd t0} {d1 : Cd t1} {d2 : Cd t2} {d3 : Cd t3} {d4 : Cd t4} {d5 : Cd t5} : AIx (aCons d0 (aCons d1 (aCons d2 (aCons d3 (aCons d4 (aOne d5)))))) 3 6 d3 (fun z : t0 × t1 × t2 × t3 × t4 × t5 => z.2.2.2.1) := by
  intro K H vs z h
  obtain ⟨v0, ws0, e0, r0, h0⟩ := h
  obtain ⟨v1, ws1, e1, r1, h1⟩ := h0
  obtain ⟨v2, ws2, e2, r2, h2⟩ := h1
  obtain ⟨v3, ws3, e3, r3, h3⟩ := h2
  obtain ⟨v4, ws4, e4, r4, h4⟩ := h3
  obtain ⟨v5, e5, r5⟩ := h4
  subst e5 e4 e3 e2 e1 e0
  exact ⟨v3, by first | rfl | simp [atI, ixN], r3⟩
theorem ix_3_6p {t0 : Type} {t1 : Type} {t2 : Type} {t3 : Type} {t4 : Type} {t5 : Type} {d0 : Cd t0} {d1 : Cd t1} {d2 : Cd t2} {d3 : Cd t3} {d4 : Cd t4} {d5 : Cd t5} {z : t0 × t1 × t2 × t3 × t4 × t5} {j : Nat} {p2 : Pos} (ha : DE X W ds a (cP (aCons d0 (aCons d1 (aCons d2 (aCons d3 (aCons d4 (aOne d5))))))) (.ok z)) (hp : PlainIx (.Constant (.int 3) j p2) := by exact fun _ _ => rfl) : DE X W ds (.Subscript a (.Constant (.int 3) j p2) pos) d3 (.ok (z.2.2.2.1)) := ixP aix_3_6 ha hp
theorem ix_3_6m {t0 : Type} {t1 : Type} {t2 : Type} {t3 : Type} {t4 : Type} {t5 : Type} {d0 : Cd t0} {d1 : Cd t1} {d2 : Cd t2} {d3 : Cd t3} {d4 : Cd t4} {d5 : Cd t5} {m : R (t0 × t1 × t2 × t3 × t4 × t5)} {j : Nat} {p2 : Pos} (ha : DE X W ds a (cP (aCons d0 (aCons d1 (aCons d2 (aCons d3 (aCons d4 (aOne d5))))))) m) (hp : PlainIx (.Constant (.int 3) j p2) := by exact fun _ _ => rfl) : DE X W ds (.Subscript a (.Constant (.int 3) j p2) pos) d3 (m >>= fun z => .ok (z.2.2.2.1)) := ixP aix_3_6 ha hp
theorem aix_4_6 {t0 : Type} {t1 : Type} {t2 : Type} {t3 : Type} {t4 : Type} {t5 : Type} {d0 : Cd t0} {d1 : Cd t1} {d2 : Cd t2} {d3 : Cd t3} {d4 : Cd t4} {d5 : Cd t5} : AIx (aCons d0 (aCons d1 (aCons d2 (aCons d3 (aCons d4 (aOne d5)))))) 4 6 d4 (fun z : t0 × t1 × t2 × t3 × t4 × t5 => z.2.2.2.2.1) := by
  intro K H vs z h
  obtain ⟨v0, ws0, e0, r0, h0⟩ := h
  obtain ⟨v1, ws1, e1, r1, h1⟩ := h0
  obtain ⟨v2, ws2, e2, r2, h2⟩ := h1
  obtain ⟨v3, ws3, e3, r3, h3⟩ := h2
  obtain ⟨v4, ws4, e4, r4, h4⟩ := h3
  obtain ⟨v5, e5, r5⟩ := h4
  subst e5 e4 e3 e2 e1 e0
  exact ⟨v4, by first | rfl | simp [atI, ixN], r4⟩
theorem ix_4_6p {t0 : Type} {t1 : Type} {t2 : Type} {t3 : Type} {t4 : Type} {t5 : Type} {d0 : Cd t0} {d1 : Cd t1} {d2 : Cd t2} {d3 : Cd t3} {d4 : Cd t4} {d5 : Cd t5} {z : t0 × t1 × t2 × t3 × t4 × t5} {j : Nat} {p2 : Pos} (ha : DE X W ds a (cP (aCons d0 (aCons d1 (aCons d2 (aCons d3 (aCons d4 (aOne d5))))))) (.ok z)) (hp : PlainIx (.Constant (.int 4) j p2) := by exact fun _ _ => rfl) : DE X W ds (.Subscript a (.Constant (.int 4) j p2) pos) d4 (.ok (z.2.2.2.2.1)) := ixP aix_4_6 ha hp
theorem ix_4_6m {t0 : Type} {t1 : Type} {t2 : Type} {t3 : Type} {t4 : Type} {t5 : Type} {d0 : Cd t0} {d1 : Cd t1} {d2 : Cd t2} {d3 : Cd t3} {d4 : Cd t4} {d5 : Cd t5} {m : R (t0 × t1 × t2 × t3 × t4 × t5)} {j : Nat} {p2 : Pos} (ha : DE X W ds a (cP (aCons d0 (aCons d1 (aCons d2 (aCons d3 (aCons d4 (aOne d5))))))) m) (hp : PlainIx (.Constant (.int 4) j p2) := by exact fun _ _ => rfl) : DE X W ds (.Subscript a (.Constant (.int 4) j p2) pos) d4 (m >>= fun z => .ok (z.2.2.2.2.1)) := ixP aix_4_6 ha hp
theorem aix_5_6 {t0 : Type} {t1 : Type} {t2 : Type} {t3 : Type} {t4 : Type} {t5 : Type} {d0 : Cd t0} {d1 : Cd t1} {d2 : Cd t2} {d3 : Cd t3} {d4 : Cd t4} {d5 : Cd t5} : AIx (aCons d0 (aCons d1 (aCons d2 (aCons d3 (aCons d4 (aOne d5)))))) 5 6 d5 (fun z : t0 × t1 × t2 × t3 × t4 × t5 => z.2.2.2.2.2) := by
  intro K H vs z h
  obtain ⟨v0, ws0, e0, r0, h0⟩ := h
  obtain ⟨v1, ws1, e1, r1, h1⟩ := h0
  obtain ⟨v2, ws2, e2, r2, h2⟩ := h1
  obtain ⟨v3, ws3, e3, r3, h3⟩ := h2
  obtain ⟨v4, ws4, e4, r4, h4⟩ := h3
  obtain ⟨v5, e5, r5⟩ := h4
  subst e5 e4 e3 e2 e1 e0
  exact ⟨v5, by first | rfl | simp [atI, ixN], r5⟩
theorem ix_5_6p {t0 : Type} {t1 : Type} {t2 : Type} {t3 : Type} {t4 : Type} {t5 : Type} {d0 : Cd t0} {d1 : Cd t1} {d2 : Cd t2} {d3 : Cd t3} {d4 : Cd t4} {d5 : Cd t5} {z : t0 × t1 × t2 × t3 × t4 × t5} {j : Nat} {p2 : Pos} (ha : DE X W ds a (cP (aCons d0 (aCons d1 (aCons d2 (aCons d3 (aCons d4 (aOne d5))))))) (.ok z)) (hp : PlainIx (.Constant (.int 5) j p2) := by exact fun _ _ => rfl) : DE X W ds (.Subscript a (.Constant (.int 5) j p2) pos) d5 (.ok (z.2.2.2.2.2)) := ixP aix_5_6 ha hp
theorem ix_5_6m {t0 : Type} {t1 : Type} {t2 : Type} {t3 : Type} {t4 : Type} {t5 : Type} {d0 : Cd t0} {d1 : Cd t1} {d2 : Cd t2} {d3 : Cd t3} {d4 : Cd t4} {d5 : Cd t5} {m : R (t0 × t1 × t2 × t3 × t4 × t5)} {j : Nat} {p2 : Pos} (ha : DE X W ds a (cP (aCons d0 (aCons d1 (aCons d2 (aCons d3 (aCons d4 (aOne d5))))))) m) (hp : PlainIx (.Constant (.int 5) j p2) := by exact fun _ _ => rfl) : DE X W ds (.Subscript a (.Constant (.int 5) j p2) pos) d5 (m >>= fun z => .ok (z.2.2.2.2.2)) := ixP aix_5_6 ha hp
/-! ### arguments, displays -/
theorem argN : DA X W ds [] aNil (.ok ()) := ⟨tNil, pa_nil, fun S0 H0 σ S H Q E P => P.ok E.inn rfl⟩
theorem arg1 {c : Cd α} {m : R α} (ha : DE X W ds a c m) (hs : starEach (a :: []) X.env = (false, eval a X.env) :: starEach [] X.env := by rfl) : DA X W ds [a] (aOne c) m := by
  obtain ⟨t, p, q⟩ := ha
  refine ⟨_, pa_cons p pa_nil hs, fun S0 H0 σ S H Q E P => q S0 H0 σ S H _ E ?_⟩
  refine R.post_mono P (fun z k v S1 H1 g r => k [v] S1 H1 g ⟨v, rfl, r⟩) (fun _ k => k)
theorem argC {c : Cd α} {r : CA τ} {m : R α} {n : R τ} (ha : DE X W ds a c m) (hr : DA X W ds es r n) (hs : starEach (a :: es) X.env = (false, eval a X.env) :: starEach es X.env := by rfl) : DA X W ds (a :: es) (aCons c r) (m >>= fun x => n >>= fun y => .ok (x, y)) := by
  obtain ⟨t, p, q⟩ := ha
  obtain ⟨u, p2, q2⟩ := hr
  refine ⟨_, pa_cons p p2 hs, fun S0 H0 σ S H Q E P => q S0 H0 σ S H _ E (P.bind fun x v S1 H1 g r1 P1 => q2 S0 H0 σ S1 H1 _ (E.step g) (P1.bindA fun y vs S2 H2 g2 r2 P2 => P2.ok g2.inn ⟨v, vs, rfl, c.mono g2.st r1, r2⟩))⟩
theorem argC_pp {c : Cd α} {r : CA τ} {x : α} {y : τ} (ha : DE X W ds a c (.ok x)) (hr : DA X W ds es r (.ok y)) (hs : starEach (a :: es) X.env = (false, eval a X.env) :: starEach es X.env := by rfl) : DA X W ds (a :: es) (aCons c r) (.ok (x, y)) := argC ha hr hs
theorem argC_mp {c : Cd α} {r : CA τ} {m : R α} {y : τ} (ha : DE X W ds a c m) (hr : DA X W ds es r (.ok y)) (hs : starEach (a :: es) X.env = (false, eval a X.env) :: starEach es X.env := by rfl) : DA X W ds (a :: es) (aCons c r) (m >>= fun x => .ok (x, y)) := argC ha hr hs
theorem argC_pm {c : Cd α} {r : CA τ} {x : α} {n : R τ} (ha : DE X W ds a c (.ok x)) (hr : DA X W ds es r n) (hs : starEach (a :: es) X.env = (false, eval a X.env) :: starEach es X.env := by rfl) : DA X W ds (a :: es) (aCons c r) (n >>= fun y => .ok (x, y)) := argC ha hr hs
theorem argC_mm {c : Cd α} {r : CA τ} {m : R α} {n : R τ} (ha : DE X W ds a c m) (hr : DA X W ds es r n) (hs : starEach (a :: es) X.env = (false, eval a X.env) :: starEach es X.env := by rfl) : DA X W ds (a :: es) (aCons c r) (m >>= fun x => n >>= fun y => .ok (x, y)) := argC ha hr hs
theorem tup {r : CA τ} {m : R τ} {k : Nat} (hn : r.n ≤ sizeLine) (ha : DA X W ds es r m) : DE X W ds (.Tuple es k pos) (cP r) m := by
  obtain ⟨t, p, q⟩ := ha
  refine ⟨_, pe_tup p, fun S0 H0 σ S H Q E P => q S0 H0 σ S H _ E ?_⟩
  refine R.post_mono P (fun z k vs S1 H1 g r1 => ⟨by rw [r.len r1]; exact hn, fun q hq => ?_⟩) (fun _ k => k)
  have g2 : Grow S1 H1 (upd S1 q (.tup vs)) (upd H1 q (.tup vs)) := .lay g.inn hq
  exact k _ _ _ (g.trans g2) ⟨q, vs, rfl, SqT.of upd_same, r.mono g2.st r1⟩
/-- a list of values of one kind: the mirrors as a list -/
structure DAL (X : Cx) (W : XK) (ds : Env) (es : List Expr) {α : Type} (c : Cd α) (m : R (List α)) : Prop where
  ex : ∃ t : TA, PA X es t ∧ ∀ S0 H0 σ S H (Q : List V → Hp → Prop), EnvOk X.K S0 H0 ds σ S H →
    m.post (fun as => ∀ vs S' H', Grow S H S' H' → vs.length = es.length → Reps c X.K S' vs as → Q vs H') (fun x => ∀ cl d S' H', Grow S H S' H' → repX X.K S' cl d x → W cl d H') → t σ H Q
theorem lnil {c : Cd α} : DAL X W ds [] c (.ok []) := ⟨tNil, pa_nil, fun S0 H0 σ S H Q E P => P [] S H (.refl E.inn) rfl trivial⟩
theorem lcons {c : Cd α} {m : R α} {n : R (List α)} (ha : DE X W ds a c m) (hr : DAL X W ds es c n) (hs : starEach (a :: es) X.env = (false, eval a X.env) :: starEach es X.env := by rfl) : DAL X W ds (a :: es) c (m >>= fun x => n >>= fun y => .ok (x :: y)) := by
  obtain ⟨t, p, q⟩ := ha
  obtain ⟨u, p2, q2⟩ := hr
  refine ⟨_, pa_cons p p2 hs, fun S0 H0 σ S H Q E P => q S0 H0 σ S H _ E ?_⟩
  refine R.post_mono (R.post_bind.mp P) (fun x k v S1 H1 g r1 => q2 S0 H0 σ S1 H1 _ (E.step g) ?_) (fun _ k => k)
  refine R.post_mono (R.post_bind.mp k) (fun y k2 vs S2 H2 g2 l2 r2 => ?_) (fun _ k2 cl d S' H' g' r => k2 cl d S' H' (g.trans g') r)
  exact k2 (v :: vs) S2 H2 (g.trans g2) (congrArg Nat.succ l2) ⟨c.mono g2.st r1, r2⟩
theorem lcons_pp {c : Cd α} {x : α} {y : List α} (ha : DE X W ds a c (.ok x)) (hr : DAL X W ds es c (.ok y)) (hs : starEach (a :: es) X.env = (false, eval a X.env) :: starEach es X.env := by rfl) : DAL X W ds (a :: es) c (.ok (x :: y)) := lcons ha hr hs
theorem lcons_mp {c : Cd α} {m : R α} {y : List α} (ha : DE X W ds a c m) (hr : DAL X W ds es c (.ok y)) (hs : starEach (a :: es) X.env = (false, eval a X.env) :: starEach es X.env := by rfl) : DAL X W ds (a :: es) c (m >>= fun x => .ok (x :: y)) := lcons ha hr hs
theorem lcons_pm {c : Cd α} {x : α} {n : R (List α)} (ha : DE X W ds a c (.ok x)) (hr : DAL X W ds es c n) (hs : starEach (a :: es) X.env = (false, eval a X.env) :: starEach es X.env := by rfl) : DAL X W ds (a :: es) c (n >>= fun y => .ok (x :: y)) := lcons ha hr hs
theorem lcons_mm {c : Cd α} {m : R α} {n : R (List α)} (ha : DE X W ds a c m) (hr : DAL X W ds es c n) (hs : starEach (a :: es) X.env = (false, eval a X.env) :: starEach es X.env := by rfl) : DAL X W ds (a :: es) c (m >>= fun x => n >>= fun y => .ok (x :: y)) := lcons ha hr hs
/-! ### new lists -/
/-- a new list that nothing else holds -/
def DL (X : Cx) (W : XK) (ds : Env) (e : Expr) {α : Type} (c : Cd α) (m : R (List α)) : Prop :=
  ∃ t : TE, PE X e t ∧ ∀ S0 H0 σ S H (Q : VK), EnvOk X.K S0 H0 ds σ S H →
    m.post (fun as => ∀ p vs S' H', Grow S H S' H' → H p = none → S' p = none → H' p = some (.lst vs) → Reps c X.K S' vs as → Q (.ref p) H') (fun x => ∀ cl d S' H', Grow S H S' H' → repX X.K S' cl d x → W cl d H') → t σ H Q
theorem dl {c : Cd α} {m : R (List α)} (h : DL X W ds e c m) : DE X W ds e (cL c) m := by
  obtain ⟨t, p, q⟩ := h
  refine ⟨t, p, fun S0 H0 σ S H Q E P => q S0 H0 σ S H Q E (R.post_mono P (fun as k p vs S' H' g h1 h2 h3 r => ?_) (fun _ k => k))⟩
  have hs : Same S' (upd S' p (.lst vs)) := .new h2
  refine k (.ref p) (upd S' p (.lst vs)) H' ⟨g.ex, g.st.trans hs, fun a u ea => ?_, fun a ea na => ?_⟩ ⟨p, vs, rfl, SqL.of upd_same, Reps.mono hs r⟩
  · by_cases z : a = p
    · subst z
      rw [upd_same] at ea
      cases ea
      exact h3
    · rw [upd_ne z] at ea
      exact g.inn a u ea
  · by_cases z : a = p
    · rw [z]; exact h1
    · rw [upd_ne z] at na
      exact g.new a ea na
theorem lst {c : Cd α} {m : R (List α)} (ha : DAL X W ds es c m) (hn : es.length ≤ 1000 := by exact Nat.le_of_ble_eq_true rfl) : DL X W ds (.List es pos) c m := by
  obtain ⟨t, p, q⟩ := ha
  refine ⟨_, pe_lst p, fun S0 H0 σ S H Q E P => q S0 H0 σ S H _ E ?_⟩
  refine R.post_mono P (fun as k vs S1 H1 g l1 r1 => ?_) (fun _ k => k)
  refine ⟨by rw [l1]; exact Nat.le_trans hn (by decide), fun q hq => ?_⟩
  have g2 : Grow S1 H1 S1 (upd H1 q (.lst vs)) := .lay' g.inn hq
  exact k q vs S1 _ (g.trans g2) (g.ex.free hq) (g.inn.free hq) upd_same r1
theorem lst0 {c : Cd α} : DL X W ds (.List [] pos) c (.ok []) := by
  refine ⟨_, pe_lst pa_nil, fun S0 H0 σ S H Q E P => ⟨Nat.zero_le _, fun q hq => ?_⟩⟩
  exact P q [] S _ (.lay' E.inn hq) hq (E.inn.free hq) upd_same trivial
end
end Zk
set_option maxHeartbeats 4000000
/-! # Zk: calls, statements, loops -/
namespace Zk
open PySem PySem.Spec PyProof.Rows L2
section
variable {X : Cx} {W : XK} {ds : Env} {α β γ τ : Type} {a b : Expr} {e : Expr} {es : List Expr} {pos p : Pos} {c1 : Cd α} {c2 : Cd β} {c3 : Cd γ} {m1 : R α} {m2 : R β} {x : α} {y : β}
/-! ### calls of built-ins -/
def CallSem (K : PySem.W.Frag) (W : XK) (r : List V → Hp → VK → Prop) (ca : CA τ) (c : Cd γ) (g : τ → R γ) : Prop :=
  ∀ z vs S H Q, Same S H → ca.rep K S vs z → PX c K S H (g z) Q W → r vs H Q
theorem callB {id : String} {r : List V → Hp → VK → Prop} {nm : Str} {ca : CA τ} {g : τ → R γ} {m : R τ} (hc : CallR X (.builtin id) r) (hs : CallSem X.K W r ca c3 g) (hv : bootBuiltins nm = some (.builtin id)) (hm : X.mg nm = none) (ha : DA X W ds (e :: es) ca m)
    (hg : Gl X nm := by rfl) (hn : nm ≠ "__name__" := by decide) (hdb : (nm == ("__debug__" : Str)) = false := by decide)
    (he : starEach (e :: es) X.env = (false, eval e X.env) :: starEach es X.env := by rfl) (hpl : (backTo pos (starEach es X.env)).any (·.1) = false := by rfl) : DE X W ds (.Call (.Name nm p) (e :: es) [] pos) c3 (m >>= g) := by
  obtain ⟨t, pa, q⟩ := ha
  exact ⟨_, pe_callB hc hg hm hv pa hn hdb he hpl, fun S0 H0 σ S H Q E P => q S0 H0 σ S H _ E (P.bindA fun z vs S1 H1 g1 r1 P1 => hs z vs S1 H1 Q g1.inn r1 P1)⟩
theorem callTy {T : String} {r : List V → Hp → VK → Prop} {nm : Str} {ca : CA τ} {g : τ → R γ} {m : R τ} (hc : CallR X (.type T) r) (hs : CallSem X.K W r ca c3 g) (hv : bootBuiltins nm = some (.type T)) (hm : X.mg nm = none) (ha : DA X W ds (e :: es) ca m)
    (hg : Gl X nm := by rfl) (hn : nm ≠ "__name__" := by decide) (hdb : (nm == ("__debug__" : Str)) = false := by decide)
    (he : starEach (e :: es) X.env = (false, eval e X.env) :: starEach es X.env := by rfl) (hpl : (backTo pos (starEach es X.env)).any (·.1) = false := by rfl) : DE X W ds (.Call (.Name nm p) (e :: es) [] pos) c3 (m >>= g) := by
  obtain ⟨t, pa, q⟩ := ha
  exact ⟨_, pe_callTy hc hg hm hv pa hn hdb he hpl, fun S0 H0 σ S H Q E P => q S0 H0 σ S H _ E (P.bindA fun z vs S1 H1 g1 r1 P1 => hs z vs S1 H1 Q g1.inn r1 P1)⟩
theorem callF {id : String} {r : List V → Hp → VK → Prop} {nm : Str} {ca : CA τ} {g : τ → R γ} {m : R τ} (hc : CallR X (.builtin id) r) (hs : CallSem X.K W r ca c3 g) (hm : X.mg nm = some (.builtin id)) (ha : DA X W ds (e :: es) ca m)
    (hg : Gl X nm := by rfl) (hdb : (nm == ("__debug__" : Str)) = false := by decide)
    (he : starEach (e :: es) X.env = (false, eval e X.env) :: starEach es X.env := by rfl) (hpl : (backTo pos (starEach es X.env)).any (·.1) = false := by rfl) : DE X W ds (.Call (.Name nm p) (e :: es) [] pos) c3 (m >>= g) := by
  obtain ⟨t, pa, q⟩ := ha
  exact ⟨_, pe_callBfun hc hg hm pa hdb he hpl, fun S0 H0 σ S H Q E P => q S0 H0 σ S H _ E (P.bindA fun z vs S1 H1 g1 r1 P1 => hs z vs S1 H1 Q g1.inn r1 P1)⟩
/-- the semantics of single built-ins -/
theorem cs_lenL {K : PySem.W.Frag} {c : Cd α} : CallSem K W (fun xs H Q => ∃ p ys, xs = [.ref p] ∧ (SqL K H p ys ∨ SqT K H p ys) ∧ Q (.int ys.length) H) (aOne (cL c)) cI (fun z => .ok (z.length : Int)) := fun z vs S H Q i r P => by
  obtain ⟨v, rfl, p, ws, e, h1, h2⟩ := r
  refine ⟨p, ws, by rw [e], .inl (Same.seq i h1), P.ok i ?_⟩
  show V.int _ = V.int _
  rw [h2.length]
theorem cs_lenT {K : PySem.W.Frag} {c : Cd α} : CallSem K W (fun xs H Q => ∃ p ys, xs = [.ref p] ∧ (SqL K H p ys ∨ SqT K H p ys) ∧ Q (.int ys.length) H) (aOne (cT c)) cI (fun z => .ok (z.length : Int)) := fun z vs S H Q i r P => by
  obtain ⟨v, rfl, p, ws, e, h1, h2⟩ := r
  refine ⟨p, ws, by rw [e], .inr (Same.tup i h1), P.ok i ?_⟩
  show V.int _ = V.int _
  rw [h2.length]
theorem cs_lenLT {K : PySem.W.Frag} {c : Cd α} : CallSem K W (fun xs H Q => ∃ p ys, xs = [.ref p] ∧ (SqL K H p ys ∨ SqT K H p ys) ∧ Q (.int ys.length) H) (aOne (cLT c)) cI (fun z => .ok (z.length : Int)) := fun z vs S H Q i r P => by
  obtain ⟨v, rfl, r⟩ := r
  rcases r with r | r
  · exact cs_lenL z _ S H Q i ⟨v, rfl, r⟩ P
  · exact cs_lenT z _ S H Q i ⟨v, rfl, r⟩ P
theorem cs_lenP {K : PySem.W.Frag} {ca : CA τ} : CallSem K W (fun xs H Q => ∃ p ys, xs = [.ref p] ∧ (SqL K H p ys ∨ SqT K H p ys) ∧ Q (.int ys.length) H) (aOne (cP ca)) cI (fun _ => .ok (ca.n : Int)) := fun z vs S H Q i r P => by
  obtain ⟨v, rfl, p, ws, e, h1, h2⟩ := r
  refine ⟨p, ws, by rw [e], .inr (Same.tup i h1), P.ok i ?_⟩
  show V.int _ = V.int _
  rw [ca.len h2]
theorem cs_int {K : PySem.W.Frag} : CallSem K W (fun xs H Q => (∃ i, xs = [.int i] ∧ Q (.int i) H) ∨ ∃ k, xs = [.bl k] ∧ Q (.int (if k then 1 else 0)) H) (aOne cI) cI (fun z => .ok z) := fun z vs S H Q i r P => by
  obtain ⟨v, rfl, e⟩ := r
  exact .inl ⟨z, by rw [show v = V.int z from e], P.ok i rfl⟩
theorem cs_intB {K : PySem.W.Frag} : CallSem K W (fun xs H Q => (∃ i, xs = [.int i] ∧ Q (.int i) H) ∨ ∃ k, xs = [.bl k] ∧ Q (.int (if k then 1 else 0)) H) (aOne cB) cI (fun z => .ok (if z = true then 1 else 0)) := fun z vs S H Q i r P => by
  obtain ⟨v, rfl, e⟩ := r
  exact .inr ⟨z, by rw [show v = V.bl z from e], P.ok i rfl⟩
theorem cs_abs {K : PySem.W.Frag} : CallSem K W (fun xs H Q => ∃ i, xs = [.int i] ∧ Q (.int (if i < 0 then -i else i)) H) (aOne cI) cI (fun z => .ok (if z < 0 then -z else z)) := fun z vs S H Q i r P => by
  obtain ⟨v, rfl, e⟩ := r
  exact ⟨z, by rw [show v = V.int z from e], P.ok i rfl⟩
theorem cs_max {K : PySem.W.Frag} : CallSem K W (fun xs H Q => ∃ i j, xs = [.int i, .int j] ∧ Q (.int (if j > i then j else i)) H) (aCons cI (aOne cI)) cI (fun z => .ok (if z.2 > z.1 then z.2 else z.1)) := fun z vs S H Q i r P => by
  obtain ⟨v, ws, rfl, e, u, rfl, e2⟩ := r
  exact ⟨z.1, z.2, by rw [show v = V.int z.1 from e, show u = V.int z.2 from e2], P.ok i rfl⟩
theorem cs_min {K : PySem.W.Frag} : CallSem K W (fun xs H Q => ∃ i j, xs = [.int i, .int j] ∧ Q (.int (if j < i then j else i)) H) (aCons cI (aOne cI)) cI (fun z => .ok (if z.2 < z.1 then z.2 else z.1)) := fun z vs S H Q i r P => by
  obtain ⟨v, ws, rfl, e, u, rfl, e2⟩ := r
  exact ⟨z.1, z.2, by rw [show v = V.int z.1 from e, show u = V.int z.2 from e2], P.ok i rfl⟩
theorem cs_gcd {K : PySem.W.Frag} : CallSem K W rGcd (aCons cI (aOne cI)) cI (fun z => .ok ((Int.gcd z.1 z.2 : Nat) : Int)) := fun z vs S H Q i r P => by
  obtain ⟨v, ws, rfl, e, u, rfl, e2⟩ := r
  exact ⟨z.1, z.2, by rw [show v = V.int z.1 from e, show u = V.int z.2 from e2], P.ok i rfl⟩
section
variable {m : R τ}
theorem lenL {nm : Str} {c : Cd α} {m : R (List α)} (hm : X.mg "len" = none) (ha : DE X W ds e (cL c) m) (hg : Gl X "len" := by rfl) (he : starEach (e :: []) X.env = (false, eval e X.env) :: starEach [] X.env := by rfl) (hpl : (backTo pos (starEach [] X.env)).any (·.1) = false := by rfl) :
    DE X W ds (.Call (.Name "len" p) [e] [] pos) cI (m >>= fun z => .ok (z.length : Int)) := callB (nm := "len") call_len_seq cs_lenL PySem.boot_len hm (arg1 ha he) hg (by decide) (by decide) he hpl
theorem lenT {nm : Str} {c : Cd α} {m : R (List α)} (hm : X.mg "len" = none) (ha : DE X W ds e (cT c) m) (hg : Gl X "len" := by rfl) (he : starEach (e :: []) X.env = (false, eval e X.env) :: starEach [] X.env := by rfl) (hpl : (backTo pos (starEach [] X.env)).any (·.1) = false := by rfl) :
    DE X W ds (.Call (.Name "len" p) [e] [] pos) cI (m >>= fun z => .ok (z.length : Int)) := callB (nm := "len") call_len_seq cs_lenT PySem.boot_len hm (arg1 ha he) hg (by decide) (by decide) he hpl
end
/-! ### calls of the program's own defs -/
def spF (K : PySem.W.Frag) (ca : CA τ) (c : Cd γ) (F : τ → R γ) : Sp := fun vs H Q E => ∃ S z, Same S H ∧ ca.rep K S vs z ∧ PX c K S H (F z) Q E
structure FnI (P : Program) (w : World) (K : PySem.W.Frag) (mg : Str → Option Value) (base : Heap) (x : Str) (k : Nat) (ps : List Str) (ca : CA τ) (c : Cd γ) (F : τ → R γ) : Prop where
  ex : ∃ f fd, FnOk P w K mg base (L2.CX P w) k f fd ps (spF K ca c F) ∧ mg x = some (.ref f) ∧ PySem.W.keepIn K (.ref f) = true ∧ Binds K fd ps []
/-- what this body lets out of a callee's exceptions -/
abbrev Lets (X : Cx) (W : XK) : Prop := Passes (L2.CX X.prog X.w) X W
theorem call {x : Str} {k : Nat} {ps : List Str} {ca : CA τ} {F : τ → R γ} {m : R τ} {n : R γ} (f : FnI X.prog X.w X.K X.mg X.base x k ps ca c3 F) (hr : Room k X.A) (hp : Lets X W) (ha : DA X W ds (e :: es) ca m) (hn : n = (m >>= F) := by rfl) (hg : Gl X x := by rfl)
    (hdb : (x == ("__debug__" : Str)) = false := by decide) (he : starEach (e :: es) X.env = (false, eval e X.env) :: starEach es X.env := by rfl) (hpl : (backTo pos (starEach es X.env)).any (·.1) = false := by rfl) : DE X W ds (.Call (.Name x p) (e :: es) [] pos) c3 n := by
  obtain ⟨f, fd, F1, h1, h2, h3⟩ := f.ex
  obtain ⟨t, pa, q⟩ := ha
  subst hn
  refine ⟨_, pe_call F1 hr hg h1 h2 h3 .nil hp pa hdb he hpl, fun S0 H0 σ S H Q E P => q S0 H0 σ S H _ E (P.bindA fun z vs S1 H1 g1 r1 P1 => ?_)⟩
  rw [List.append_nil]
  exact ⟨S1, z, g1.inn, r1, P1⟩
theorem callP {x : Str} {k : Nat} {ps : List Str} {ca : CA τ} {F : τ → R γ} {z : τ} {n : R γ} (f : FnI X.prog X.w X.K X.mg X.base x k ps ca c3 F) (hr : Room k X.A) (hp : Lets X W) (ha : DA X W ds (e :: es) ca (.ok z)) (hn : n = F z := by exact rfl) (hg : Gl X x := by rfl)
    (hdb : (x == ("__debug__" : Str)) = false := by decide) (he : starEach (e :: es) X.env = (false, eval e X.env) :: starEach es X.env := by rfl) (hpl : (backTo pos (starEach es X.env)).any (·.1) = false := by rfl) : DE X W ds (.Call (.Name x p) (e :: es) [] pos) c3 n := by
  rw [hn]
  exact call f hr hp ha rfl hg hdb he hpl
theorem call0 {x : Str} {k : Nat} {ps : List Str} {F : Unit → R γ} {n : R γ} (f : FnI X.prog X.w X.K X.mg X.base x k ps aNil c3 F) (hr : Room k X.A) (hp : Lets X W) (hn : n = F () := by rfl) (hg : Gl X x := by rfl)
    (hdb : (x == ("__debug__" : Str)) = false := by decide) : DE X W ds (.Call (.Name x p) [] [] pos) c3 n := by
  obtain ⟨f, fd, F1, h1, h2, h3⟩ := f.ex
  subst hn
  refine ⟨_, pe_call0 F1 hr hg h1 h2 h3 .nil hp hdb, fun S0 H0 σ S H Q E P => ⟨S, (), E.inn, rfl, P⟩⟩
end

/-! ### statements -/
inductive Out (β ν κ : Type) where
  | ret (b : β) | nxt (s : ν) | brk (s : κ) | ctn (s : κ)
section
variable {β ν κ ω : Type}
def OutP (K : PySem.W.Frag) (S0 H0 : Hp) (cb : Cd β) (eN : ν → Env) (eK : κ → Env) (D : Ends) (o : Out β ν κ) : Prop := match o with
  | .ret b => ∀ v S' H', Grow S0 H0 S' H' → cb.rep K S' v b → D.rt v H'
  | .nxt s => ∀ σ' S' H', EnvOk K S0 H0 (eN s) σ' S' H' → D.nx σ' H'
  | .brk s => ∀ σ' S' H', EnvOk K S0 H0 (eK s) σ' S' H' → D.bk σ' H'
  | .ctn s => ∀ σ' S' H', EnvOk K S0 H0 (eK s) σ' S' H' → D.ct σ' H'
def EX (K : PySem.W.Frag) (W : XK) (S0 H0 : Hp) (x : Exn) : Prop := ∀ cl d S' H', Grow S0 H0 S' H' → repX K S' cl d x → W cl d H'
theorem Grow.base {S0 H0 S1 H1 S2 H2 : Hp} (a : Grow S0 H0 S1 H1) (b : Grow S1 H0 S2 H2) : Grow S0 H0 S2 H2 := by
  refine ⟨b.ex, a.st.trans b.st, b.inn, fun x e n => ?_⟩
  cases q : S1 x with
  | none => exact b.new x q n
  | some o => exact a.new x e (by rw [q]; exact fun z => by cases z)
theorem EnvOk.rebase {K : PySem.W.Frag} {S0 H0 S H : Hp} {ds : Env} {σ : L2.St} (E : EnvOk K S0 H0 ds σ S H) : EnvOk K S H0 ds σ S H :=
  ⟨E.len, E.at_, E.sep, ⟨E.grow.ex, .refl _, E.grow.inn, fun a e n => (n e).elim⟩⟩
theorem EnvOk.unbase {K : PySem.W.Frag} {S0 H0 S1 H1 S H : Hp} {ds : Env} {σ : L2.St} (g : Grow S0 H0 S1 H1) (E : EnvOk K S1 H0 ds σ S H) : EnvOk K S0 H0 ds σ S H :=
  ⟨E.len, E.at_, E.sep, g.base E.grow⟩
theorem OutP.rebase {K : PySem.W.Frag} {S0 H0 S1 H1 : Hp} {cb : Cd β} {eN : ν → Env} {eK : κ → Env} {D : Ends} {o : Out β ν κ} (g : Grow S0 H0 S1 H1) (h : OutP K S0 H0 cb eN eK D o) : OutP K S1 H0 cb eN eK D o := by
  cases o with
  | ret b => exact fun v S' H' g' r => h v S' H' (g.base g') r
  | nxt s => exact fun σ' S' H' E => h σ' S' H' (E.unbase g)
  | brk s => exact fun σ' S' H' E => h σ' S' H' (E.unbase g)
  | ctn s => exact fun σ' S' H' E => h σ' S' H' (E.unbase g)
theorem EX.rebase {K : PySem.W.Frag} {W : XK} {S0 H0 S1 H1 : Hp} {x : Exn} (g : Grow S0 H0 S1 H1) (h : EX K W S0 H0 x) : EX K W S1 H0 x := fun cl d S' H' g' r => h cl d S' H' (g.base g') r
/-- a block's own reading: what must hold that it runs -/
def tS (X : Cx) (sts : List Stmt) : TS := fun D σ H => ∀ (pins : List (Addr × Obj)) (s : Shared), Inv X pins σ H s → wpAny (model X.prog X.w) X.A (execs sts X.env) (SP X pins D) X.xe s
theorem pss_tS {X : Cx} {sts : List Stmt} : PSs X sts (tS X sts) := ⟨fun pins s σ H D I h => h pins s I⟩
theorem PSs.to {X : Cx} {sts : List Stmt} {t : TS} (h : PSs X sts t) {D : Ends} {σ : L2.St} {H : Hp} (q : t D σ H) : tS X sts D σ H := fun pins s I => h.run pins s σ H D I q
/-- T: the block never comes to its end -/
def DS (X : Cx) (W : XK) (T : Bool) (ds : Env) (sts : List Stmt) (cb : Cd β) (eN : ν → Env) (eK : κ → Env) (I : ω → Out β ν κ) (m : R ω) : Prop :=
  ∀ S0 H0 σ S H (D : Ends) (nx : L2.St → Hp → Prop), (T = true ∨ nx = D.nx) → EnvOk X.K S0 H0 ds σ S H → m.post (fun w => OutP X.K S0 H0 cb eN eK D (I w)) (EX X.K W S0 H0) → tS X sts { D with nx := nx } σ H
end
section
variable {X : Cx} {W : XK} {T : Bool} {ds : Env} {α β γ τ ν κ ω : Type} {e : Expr} {st : Stmt} {sts rest : List Stmt} {pos p : Pos} {c : Cd α} {cb : Cd β} {eN : ν → Env} {eK : κ → Env} {I : ω → Out β ν κ} {m : R α} {k : α → R ω} {n : R ω}
/-- an expression within a statement -/
theorem stE {f : α → R ω} {S0 H0 S H : Hp} {σ : L2.St} {Q : VK} {D : Ends} (E : EnvOk X.K S0 H0 ds σ S H) (P : (m >>= f).post (fun w => OutP X.K S0 H0 cb eN eK D (I w)) (EX X.K W S0 H0))
    (h : ∀ a v S' H', EnvOk X.K S0 H0 ds σ S' H' → c.rep X.K S' v a → (f a).post (fun w => OutP X.K S0 H0 cb eN eK D (I w)) (EX X.K W S0 H0) → Q v H') : PX c X.K S H m Q W :=
  R.post_mono (R.post_bind.mp P) (fun a q v S' H' g r => h a v S' H' (E.step g) r q) (fun x q cl d S' H' g r => q cl d S' H' (E.grow.trans g) r)
theorem stT {m : R Bool} {f : Bool → R ω} {S0 H0 S H : Hp} {σ : L2.St} {Q : Bool → Hp → Prop} {D : Ends} (E : EnvOk X.K S0 H0 ds σ S H) (P : (m >>= f).post (fun w => OutP X.K S0 H0 cb eN eK D (I w)) (EX X.K W S0 H0))
    (h : ∀ a S' H', EnvOk X.K S0 H0 ds σ S' H' → (f a).post (fun w => OutP X.K S0 H0 cb eN eK D (I w)) (EX X.K W S0 H0) → Q a H') : PB X.K S H m Q W :=
  R.post_mono (R.post_bind.mp P) (fun a q S' H' g => h a S' H' (E.step g) q) (fun x q cl d S' H' g r => q cl d S' H' (E.grow.trans g) r)
theorem nil {w : ω} {s : ν} (hI : I w = .nxt s := by rfl) (l : EnvLe ds (eN s)) : DS X W false ds [] cb eN eK I (.ok w) := fun S0 H0 σ S H D nx h E P => by
  have e : nx = D.nx := h.resolve_left (by decide)
  subst e
  have P1 : OutP X.K S0 H0 cb eN eK D (I w) := P
  rw [hI] at P1
  exact PSs.to pss_nil (P1 σ S H (E.le l))
theorem never : DS X W T ds sts cb eN eK I .stuck := fun S0 H0 σ S H D nx h E P => False.elim P
/-- one statement ahead of the rest -/
theorem seq {t : TS} {D : Ends} {σ : L2.St} {H : Hp} (h : PS X st t) (q : t { D with nx := tS X rest D } σ H) : tS X (st :: rest) D σ H := PSs.to (pss_cons h pss_tS) q
/-- x = e -/
theorem asg {x : Str} {pos' : Pos} (i : Nat) (sn : X.N.Nodup) (he : DE X W ds e c m) (hr : ∀ z, DS X W T (ds.put i (.st α c z)) rest cb eN eK I (k z)) (hi : X.N[i]? = some x := by rfl) (hx : Loc X.env.scope x := by first | exact Or.inl rfl | exact Or.inr rfl)
    (hs : swapsWith e (some (.Name x pos')) pos.line X.env = pure false := by rfl) (hf : X.fn x = true ∨ X.env.scope.names.lookup x = some .local := by first | exact .inl rfl | exact .inr rfl) : DS X W T ds (.Assign [.Name x pos'] e pos :: rest) cb eN eK I (m >>= k) := fun S0 H0 σ S H D nx h E P => by
  obtain ⟨te, pe, qe⟩ := he
  exact seq (ps_set (i := i) sn hi hx pe hs hf) (qe S0 H0 σ S H _ E (stE E P fun z v S' H' E' r P' => hr z S0 H0 _ S' H' D nx h (E'.putS r) P'))
/-- x = a new list that will change -/
theorem asgM {x : Str} {pos' : Pos} {m : R (List α)} {k : List α → R ω} (i : Nat) (sn : X.N.Nodup) (he : DL X W ds e c m) (hr : ∀ z, DS X W T (ds.put i (.mu α c z)) rest cb eN eK I (k z)) (hi : X.N[i]? = some x := by rfl) (hx : Loc X.env.scope x := by first | exact Or.inl rfl | exact Or.inr rfl)
    (hs : swapsWith e (some (.Name x pos')) pos.line X.env = pure false := by rfl) (hf : X.fn x = true ∨ X.env.scope.names.lookup x = some .local := by first | exact .inl rfl | exact .inr rfl) : DS X W T ds (.Assign [.Name x pos'] e pos :: rest) cb eN eK I (m >>= k) := fun S0 H0 σ S H D nx h E P => by
  obtain ⟨te, pe, qe⟩ := he
  refine seq (ps_set (i := i) sn hi hx pe hs hf) (qe S0 H0 σ S H _ E (R.post_mono (R.post_bind.mp P) (fun z q p vs S' H' g h1 h2 h3 r => ?_) (fun x q cl d S' H' g r => q cl d S' H' (E.grow.trans g) r)))
  have E' := E.step g
  refine hr z S0 H0 _ S' H' D nx h (E'.putM (E.grow.ex.free h1) h2 h3 r (fun j mj ej => ?_)) q
  have q2 := E.at_ j
  cases hd : ds.get j with
  | none =>
    rw [hd] at mj
    exact mj.elim
  | st γ c2 a =>
    rw [hd] at mj
    exact mj.elim
  | mu γ c2 cs =>
    obtain ⟨p2, ws, k1, k2, k3, k4, k5⟩ := E.muv hd
    rw [ej] at k1
    cases k1
    rw [h1] at k4
    cases k4
/-- the list in slot i settles -/
theorem settle (i : Nat) {as : List α} (hd : ds.get i = .mu α c as := by rfl) (hr : DS X W T (ds.put i (.st (List α) (cL c) as)) sts cb eN eK I n) : DS X W T ds sts cb eN eK I n := fun S0 H0 σ S H D nx h E P => by
  obtain ⟨S', hs, E'⟩ := E.freeze hd
  exact hr S0 H0 σ S' H D nx h E' P
/-- return e -/
theorem ret {g : β → ω} {m : R β} (he : DE X W ds e cb m) (hI : ∀ b, I (g b) = .ret b) : DS X W T ds (.Return (some e) pos :: rest) cb eN eK I (m >>= fun b => .ok (g b)) := fun S0 H0 σ S H D nx h E P => by
  obtain ⟨te, pe, qe⟩ := he
  refine seq (ps_ret pe) (qe S0 H0 σ S H _ E (stE E P fun b v S' H' E' r P' => ?_))
  have P1 : OutP X.K S0 H0 cb eN eK D (I (g b)) := P'
  rw [hI] at P1
  exact P1 v S' H' E'.grow r
/-- return e, the mirror the value itself -/
theorem retF {m : R β} {I : β → Out β ν κ} (he : DE X W ds e cb m) (hI : ∀ b, I b = .ret b := by intro _; rfl) : DS X W T ds (.Return (some e) pos :: rest) cb eN eK I m := by
  have q := ret (T := T) (rest := rest) (pos := pos) (eN := eN) (eK := eK) (g := fun b => b) he hI
  rw [show (m >>= fun b => R.ok b) = m from R.bind_ok m] at q
  exact q
theorem retO {b : β} {I : ω → Out β ν κ} {w : ω} (he : DE X W ds e cb (.ok b)) (hI : I w = .ret b := by rfl) : DS X W T ds (.Return (some e) pos :: rest) cb eN eK I (.ok w) := fun S0 H0 σ S H D nx h E P => by
  obtain ⟨te, pe, qe⟩ := he
  refine seq (ps_ret pe) (qe S0 H0 σ S H _ E (fun v S' H' g r => ?_))
  have P1 : OutP X.K S0 H0 cb eN eK D (I w) := P
  rw [hI] at P1
  exact P1 v S' H' (E.grow.trans g) r
/-- break, continue -/
theorem brk {w : ω} {s : κ} (l : EnvLe ds (eK s)) (hI : I w = .brk s := by rfl) : DS X W T ds (.Break pos :: rest) cb eN eK I (.ok w) := fun S0 H0 σ S H D nx h E P => by
  have P1 : OutP X.K S0 H0 cb eN eK D (I w) := P
  rw [hI] at P1
  exact seq ps_break (P1 σ S H (E.le l))
theorem cont {w : ω} {s : κ} (l : EnvLe ds (eK s)) (hI : I w = .ctn s := by rfl) : DS X W T ds (.Continue pos :: rest) cb eN eK I (.ok w) := fun S0 H0 σ S H D nx h E P => by
  have P1 : OutP X.K S0 H0 cb eN eK D (I w) := P
  rw [hI] at P1
  exact seq ps_continue (P1 σ S H (E.le l))
theorem pass (hr : DS X W T ds rest cb eN eK I n) : DS X W T ds (.Pass pos :: rest) cb eN eK I n := fun S0 H0 σ S H D nx h E P => seq ps_pass (hr S0 H0 σ S H D nx h E P)
/-- e as a statement -/
theorem drop (he : DE X W ds e c m) (hr : ∀ z, DS X W T ds rest cb eN eK I (k z)) (hs : swapsWith e none pos.line X.env = pure false := by rfl) : DS X W T ds (.Expr e pos :: rest) cb eN eK I (m >>= k) := fun S0 H0 σ S H D nx h E P => by
  obtain ⟨te, pe, qe⟩ := he
  exact seq (ps_expr pe hs) (qe S0 H0 σ S H _ E (stE E P fun z v S' H' E' r P' => hr z S0 H0 _ S' H' D nx h E' P'))
/-! ### if -/
section
variable {t : Expr} {A B : List Stmt} {mt : R Bool} {nA nB : R ω}
/-- the last statement: both ends are the block's end -/
theorem if2 (ht : DT X W ds t mt) (hA : DS X W T ds A cb eN eK I nA) (hB : DS X W T ds B cb eN eK I nB) : DS X W T ds [.If t A B pos] cb eN eK I (mt >>= fun z => if z = true then nA else nB) := fun S0 H0 σ S H D nx h E P => by
  obtain ⟨tt, pt, qt⟩ := ht
  refine PSs.to (pss_one (ps_if pt pss_tS pss_tS)) (qt S0 H0 σ S H _ E (stT E P fun z S' H' E' P' => ?_))
  cases z with
  | true => exact hA S0 H0 σ S' H' D nx h E' P'
  | false => exact hB S0 H0 σ S' H' D nx h E' P'
/-- the first branch leaves -/
theorem ifA (ht : DT X W ds t mt) (hA : DS X W true ds A cb eN eK I nA) (hr : DS X W T ds rest cb eN eK I n) : DS X W T ds (.If t A [] pos :: rest) cb eN eK I (mt >>= fun z => if z = true then nA else n) := fun S0 H0 σ S H D nx h E P => by
  obtain ⟨tt, pt, qt⟩ := ht
  refine seq (ps_if pt pss_tS pss_nil) (qt S0 H0 σ S H _ E (stT E P fun z S' H' E' P' => ?_))
  cases z with
  | true => exact hA S0 H0 σ S' H' D _ (.inl rfl) E' P'
  | false => exact hr S0 H0 σ S' H' D nx h E' P'
theorem ifA_p {z : Bool} (ht : DT X W ds t (.ok z)) (hA : DS X W true ds A cb eN eK I nA) (hr : DS X W T ds rest cb eN eK I n) : DS X W T ds (.If t A [] pos :: rest) cb eN eK I (if z = true then nA else n) := ifA ht hA hr
theorem if2_p {z : Bool} (ht : DT X W ds t (.ok z)) (hA : DS X W T ds A cb eN eK I nA) (hB : DS X W T ds B cb eN eK I nB) : DS X W T ds [.If t A B pos] cb eN eK I (if z = true then nA else nB) := if2 ht hA hB
/-- both come to the rest: what they leave is joined -/
theorem ifJ {σ' : Type} {eJ : σ' → Env} {jA jB : R σ'} {kJ : σ' → R ω} (ht : DT X W ds t mt) (hA : DS X W false ds A cb eJ eK (fun s => (.nxt s : Out β σ' κ)) jA) (hB : DS X W false ds B cb eJ eK (fun s => (.nxt s : Out β σ' κ)) jB) (hr : ∀ s, DS X W T (eJ s) rest cb eN eK I (kJ s)) :
    DS X W T ds (.If t A B pos :: rest) cb eN eK I (mt >>= fun z => (if z = true then jA else jB) >>= kJ) := fun S0 H0 σ S H D nx h E P => by
  obtain ⟨tt, pt, qt⟩ := ht
  refine seq (ps_if pt pss_tS pss_tS) (qt S0 H0 σ S H _ E (stT E P fun z S' H' E' P' => ?_))
  cases z with
  | true => exact hA S0 H0 σ S' H' { D with nx := tS X rest { D with nx := nx } } _ (.inr rfl) E' (R.post_mono (R.post_bind.mp P') (fun s q σ2 S2 H2 E2 => hr s S0 H0 σ2 S2 H2 D nx h E2 q) (fun _ q => q))
  | false => exact hB S0 H0 σ S' H' { D with nx := tS X rest { D with nx := nx } } _ (.inr rfl) E' (R.post_mono (R.post_bind.mp P') (fun s q σ2 S2 H2 E2 => hr s S0 H0 σ2 S2 H2 D nx h E2 q) (fun _ q => q))
theorem ifJ_p {z : Bool} {σ' : Type} {eJ : σ' → Env} {jA jB : R σ'} {kJ : σ' → R ω} (ht : DT X W ds t (.ok z)) (hA : DS X W false ds A cb eJ eK (fun s => (.nxt s : Out β σ' κ)) jA) (hB : DS X W false ds B cb eJ eK (fun s => (.nxt s : Out β σ' κ)) jB) (hr : ∀ s, DS X W T (eJ s) rest cb eN eK I (kJ s)) :
    DS X W T ds (.If t A B pos :: rest) cb eN eK I ((if z = true then jA else jB) >>= kJ) := ifJ ht hA hB hr
/-- any branches -/
def Out.thn {σ' : Type} (I : ω → Out β ν κ) (o : Out β σ' κ) (kJ : σ' → R ω) (up : Out β Empty κ → ω) : R ω := match o with
  | .nxt s => kJ s
  | .ret b => .ok (up (.ret b))
  | .brk s => .ok (up (.brk s))
  | .ctn s => .ok (up (.ctn s))
end
/-! ### append, a store by place -/
def appM (xs : List α) (z : α) : R (List α) := R.guard (xs.length < 16000000) (xs ++ [z])
def setM (xs : List α) (i : Int) (z : α) : R (List α) := match ixN xs.length i with
  | some j => .ok (xs.set j z)
  | none => .stuck
/-- x.append(e), x's list still changes -/
theorem app {x : Str} {p1 p2 p3 : Pos} {as : List α} {k : List α → R ω} (i : Nat) (he : DE X W ds e c m) (hr : ∀ zs, DS X W T (ds.put i (.mu α c zs)) rest cb eN eK I (k zs)) (hd : ds.get i = .mu α c as := by rfl) (hN : X.N[i]? = some x := by rfl)
    (hv : Vis X.env.scope x := by first | exact Or.inl rfl | exact Or.inr (Or.inl rfl) | exact Or.inr (Or.inr rfl)) (hdb : (x == ("__debug__" : Str)) = false := by decide) (hcd : (x == ("__classdict__" : Str)) = false := by decide)
    (hs : swapsWith (.Call (.Attribute (.Name x p1) "append" p2) [e] [] p3) none pos.line X.env = pure false := by rfl)
    (ho : starEach [e] X.env = (false, eval e X.env) :: starEach [] X.env := by rfl)
    (pb : ∀ {te : TE}, PE X e te → PE X (.Call (.Attribute (.Name x p1) "append" p2) [e] [] p3) (tBM X.K "list" rAppend (tVar i) (tCons te tNil)) := by
      intro te pe; exact pe_bm PySem.F.plainAttrs_list PySem.F.slot_list_append PySem.F.type_list_append mt_append (pv _) (pa_cons pe pa_nil)) :
    DS X W T ds (.Expr (.Call (.Attribute (.Name x p1) "append" p2) [e] [] p3) pos :: rest) cb eN eK I (m >>= fun z => appM as z >>= k) := fun S0 H0 σ S H D nx h E P => by
  obtain ⟨te, pe, qe⟩ := he
  obtain ⟨l, vs, h1, h2, h3, h4, h5⟩ := E.muv hd
  refine seq (ps_expr (pb pe) hs) ⟨.ref l, h1, Or.inl ⟨rfl, vs, SqL.of h4⟩, qe S0 H0 σ S H _ E (stE E P fun z v S' H' E' r P' => ?_)⟩
  obtain ⟨l', vs', k1, k2, k3, k4, k5⟩ := E'.muv hd
  rw [h1] at k1
  cases k1
  obtain ⟨g1, g2⟩ : as.length < 16000000 ∧ (k (as ++ [z])).post (fun w => OutP X.K S0 H0 cb eN eK D (I w)) (EX X.K W S0 H0) := by
    unfold appM R.guard at P'
    split at P'
    · exact ⟨by assumption, P'⟩
    · exact False.elim P'
  refine ⟨l, vs', v, rfl, rfl, k4, ?_, ?_⟩
  · rw [k5.length]
    exact Nat.lt_of_lt_of_le g1 (by decide)
  · exact hr _ S0 H0 σ S' _ D nx h (E'.mutate (vs := vs' ++ [v]) hd h1 (k5.append (show Reps c X.K S' [v] [z] from ⟨r, trivial⟩))) g2
end
end Zk
set_option maxHeartbeats 4000000
/-! # Zk: what is walked, loops, comprehensions, defs -/
namespace Zk
open PySem PySem.Spec PyProof.Rows L2
/-! ### what is walked -/
/-- J gives the values of as, one a turn -/
def ItOk {α : Type} (J : It) (K : PySem.W.Frag) (S : Hp) (c : Cd α) (as : List α) : Prop :=
  ∀ (i : Nat) (S1 H1 : Hp), Same S S1 → Same S1 H1 → (as.length ≤ i → J.stop i H1) ∧ (∀ a, as[i]? = some a → J.go i H1 ∧ ∀ x H', J.yld i H1 x H' → ∃ S', Grow S1 H1 S' H' ∧ c.rep K S' x a)
def DI (X : Cx) (W : XK) (ds : Env) (tg iter : Expr) {α : Type} (c : Cd α) (m : R (List α)) : Prop :=
  ∃ wi : TI, PI X tg iter wi ∧ ∀ S0 H0 σ S H (Q : It → Hp → Prop), EnvOk X.K S0 H0 ds σ S H →
    m.post (fun as => ∀ J S' H', Grow S H S' H' → ItOk J X.K S' c as → Q J H') (fun x => ∀ cl d S' H', Grow S H S' H' → repX X.K S' cl d x → W cl d H') → wi σ H Q
/-- a target: the slots behind it -/
def DG (X : Cx) (tg : Expr) {α σ' : Type} (c : Cd α) (e0 : σ' → Env) (eB : σ' → α → Env) : Prop :=
  ∃ g : TG, PG X tg g ∧ ∀ s a v S0 H0 σ S H (Q : L2.St → Hp → Prop), EnvOk X.K S0 H0 (e0 s) σ S H → c.rep X.K S v a → (∀ σ', EnvOk X.K S0 H0 (eB s a) σ' S H → Q σ' H) → g v σ H Q
section
variable {X : Cx} {W : XK} {ds : Env} {α β γ τ : Type} {a b : Expr} {e : Expr} {es : List Expr} {pos p : Pos} {c : Cd α} {c2 : Cd β} {m : R (List α)} {tg : Expr}
theorem itl_ok {K : PySem.W.Frag} {S : Hp} {l : Addr} {vs : List V} {as : List α} (h : SqL K S l vs) (r : Reps c K S vs as) : ItOk (Itl K l) K S c as := fun i S1 H1 s1 s2 => by
  have h1 : SqL K H1 l vs := Same.seq s2 (Same.seq s1 h)
  refine ⟨fun hi => ⟨vs, h1, by rw [r.length]; exact hi⟩, fun a ha => ?_⟩
  obtain ⟨v, k1, k2⟩ := r.get ha
  refine ⟨⟨vs, v, h1, k1⟩, fun x H' y => ?_⟩
  obtain ⟨e, y⟩ := y
  subst e
  have ex := y vs h1
  rw [k1] at ex
  cases ex
  exact ⟨S1, .refl s2, c.mono s1 k2⟩
theorem itt_ok {K : PySem.W.Frag} {S : Hp} {l : Addr} {vs : List V} {as : List α} (h : SqT K S l vs) (r : Reps c K S vs as) : ItOk (Itt K l) K S c as := fun i S1 H1 s1 s2 => by
  have h1 : SqT K H1 l vs := Same.tup s2 (Same.tup s1 h)
  refine ⟨fun hi => ⟨vs, h1, by rw [r.length]; exact hi⟩, fun a ha => ?_⟩
  obtain ⟨v, k1, k2⟩ := r.get ha
  refine ⟨⟨vs, v, h1, k1⟩, fun x H' y => ?_⟩
  obtain ⟨e, y⟩ := y
  subst e
  have ex := y vs h1
  rw [k1] at ex
  cases ex
  exact ⟨S1, .refl s2, c.mono s1 k2⟩
theorem iterL (ha : DE X W ds a (cL c) m) : DI X W ds tg a c m := by
  obtain ⟨t, p, q⟩ := ha
  refine ⟨_, pi_list p, fun S0 H0 σ S H Q E P => q S0 H0 σ S H _ E (R.post_mono P (fun as k v S' H' g r => ?_) (fun _ k => k))⟩
  obtain ⟨l, vs, e, h1, h2⟩ := r
  exact ⟨l, e, ⟨vs, Same.seq g.inn h1⟩, k _ S' H' g (itl_ok h1 h2)⟩
theorem iterT (ha : DE X W ds a (cT c) m) : DI X W ds tg a c m := by
  obtain ⟨t, p, q⟩ := ha
  refine ⟨_, pi_tup p, fun S0 H0 σ S H Q E P => q S0 H0 σ S H _ E (R.post_mono P (fun as k v S' H' g r => ?_) (fun _ k => k))⟩
  obtain ⟨l, vs, e, h1, h2⟩ := r
  exact ⟨l, e, ⟨vs, Same.tup g.inn h1⟩, k _ S' H' g (itt_ok h1 h2)⟩
/-- a list or a tuple -/
def iSeq (K : PySem.W.Frag) (tl : TE) : TI := fun σ H R => tl σ H fun x H1 => ∃ a, x = .ref a ∧ (((∃ xs, SqL K H1 a xs) ∧ R (Itl K a) H1) ∨ ((∃ xs, SqT K H1 a xs) ∧ R (Itt K a) H1))
theorem pi_seq {l : Expr} {tl : TE} (hl : PE X l tl) : PI X tg l (iSeq X.K tl) := by
  refine ⟨fun pins s σ H R I h => ?_⟩
  refine thn (hl.run pins s σ H _ I h) fun v s1 ⟨x, H1, I1, r1, q1⟩ => ?_
  obtain ⟨a, e, q1⟩ := q1
  subst e
  cases r1
  rcases q1 with ⟨⟨xs, hq⟩, q⟩ | ⟨⟨xs, hq⟩, q⟩
  · obtain ⟨its, rv, p, hz⟩ := I1.list hq
    refine wpAny_pyIter_list p.isList ?_
    refine ⟨s1.heap.objs.size, [s1.heap.objs.size], _, _, H1, rfl, I1.kept (t' := s1.toks) fun b o e => Heap.get?_push_of_some _ e, turn_list a _, ⟨_, Heap.get?_push_size _ rfl, rfl, rfl⟩, fun b hb => ?_, q⟩
    have e : b = s1.heap.objs.size := by simpa using hb
    subst e
    exact I1.fpOk (Nat.le_refl _) (I1.hok.fresh (Nat.le_refl _))
  · obtain ⟨its, rv, p, hz⟩ := I1.tuple hq
    refine wpAny_pyIter_tuple (show s1.heap.IsTuple a its.toArray from p) ?_
    refine ⟨s1.heap.objs.size, [s1.heap.objs.size], _, _, H1, rfl, I1.kept (t' := s1.toks) fun b o e => Heap.get?_push_of_some _ e, turn_tuple a _, ⟨_, Heap.get?_push_size _ rfl, rfl, rfl⟩, fun b hb => ?_, q⟩
    have e : b = s1.heap.objs.size := by simpa using hb
    subst e
    exact I1.fpOk (Nat.le_refl _) (I1.hok.fresh (Nat.le_refl _))
theorem iterLT (ha : DE X W ds a (cLT c) m) : DI X W ds tg a c m := by
  obtain ⟨t, p, q⟩ := ha
  refine ⟨_, pi_seq p, fun S0 H0 σ S H Q E P => q S0 H0 σ S H _ E (R.post_mono P (fun as k v S' H' g r => ?_) (fun _ k => k))⟩
  rcases r with ⟨l, vs, e, h1, h2⟩ | ⟨l, vs, e, h1, h2⟩
  · exact ⟨l, e, .inl ⟨⟨vs, Same.seq g.inn h1⟩, k _ S' H' g (itl_ok h1 h2)⟩⟩
  · exact ⟨l, e, .inr ⟨⟨vs, Same.tup g.inn h1⟩, k _ S' H' g (itt_ok h1 h2)⟩⟩
/-- range -/
def rangeL (lo : Int) : Nat → List Int
  | 0 => []
  | n + 1 => lo :: rangeL (lo + 1) n
theorem rangeL_length : ∀ (lo : Int) (n : Nat), (rangeL lo n).length = n
  | _, 0 => rfl
  | lo, n + 1 => congrArg Nat.succ (rangeL_length (lo + 1) n)
theorem rangeL_get : ∀ (lo : Int) (n i : Nat), i < n → (rangeL lo n)[i]? = some (lo + (i : Int))
  | _, 0, _, h => absurd h (Nat.not_lt_zero _)
  | lo, n + 1, 0, _ => by
    show some lo = some (lo + ((0 : Nat) : Int))
    rw [show lo + ((0 : Nat) : Int) = lo from Int.add_zero lo]
  | lo, n + 1, i + 1, h => by
    show (rangeL (lo + 1) n)[i]? = _
    rw [rangeL_get (lo + 1) n i (Nat.lt_of_succ_lt_succ h)]
    congr 1
    omega
def rngM (lo hi : Int) : R (List Int) := R.guard (-(2 ^ 62) ≤ lo ∧ lo < 2 ^ 62 ∧ -(2 ^ 62) ≤ hi ∧ hi < 2 ^ 62) (rangeL lo (hi - lo).toNat)
theorem itr_ok {K : PySem.W.Frag} {S : Hp} {lo : Int} {n : Nat} : ItOk (Itr lo n) K S cI (rangeL lo n) := fun i S1 H1 s1 s2 => by
  refine ⟨fun hi => ?_, fun z hz => ?_⟩
  · rw [rangeL_length] at hi
    exact hi
  · by_cases hi : i < n
    · rw [rangeL_get lo n i hi] at hz
      have e : lo + (i : Int) = z := Option.some.inj hz
      subst e
      refine ⟨hi, fun x H' y => ?_⟩
      obtain ⟨e1, e2⟩ := y
      subst e1
      exact ⟨S1, .refl s2, e2⟩
    · rw [List.getElem?_eq_none (by rw [rangeL_length]; omega)] at hz
      cases hz
theorem iterR1 {m : R Int} (hm : X.mg "range" = none) (ha : DE X W ds a cI m) (hg : Gl X "range" := by rfl) (hs : starEach [a] X.env = [(false, eval a X.env)] := by rfl) : DI X W ds tg (.Call (.Name "range" p) [a] [] pos) cI (m >>= fun n => rngM 0 n) := by
  obtain ⟨t, pa, q⟩ := ha
  refine ⟨_, pi_range1 hg hm (pa_cons pa pa_nil hs) hs, fun S0 H0 σ S H Q E P => q S0 H0 σ S H _ E (R.post_mono (R.post_bind.mp P) (fun n k v S' H' g r => ?_) (fun _ k => k))⟩
  obtain ⟨k1, k2⟩ := R.guard_post k
  have ev : v = V.int n := r
  subst ev
  refine ⟨n, rfl, k1.2.2.1, k1.2.2.2, ?_⟩
  have e : n - 0 = n := by omega
  rw [e] at k2
  exact k2 _ S' H' g itr_ok
theorem iterR2 {m n : R Int} (hm : X.mg "range" = none) (ha : DE X W ds a cI m) (hb : DE X W ds b cI n) (hg : Gl X "range" := by rfl) (hs : starEach [a, b] X.env = [(false, eval a X.env), (false, eval b X.env)] := by rfl) (hs2 : starEach [b] X.env = [(false, eval b X.env)] := by rfl)
    (hs3 : starEach (a :: [b]) X.env = (false, eval a X.env) :: starEach [b] X.env := by rfl) (hs4 : starEach (b :: []) X.env = (false, eval b X.env) :: starEach [] X.env := by rfl) : DI X W ds tg (.Call (.Name "range" p) [a, b] [] pos) cI (m >>= fun lo => n >>= fun hi => rngM lo hi) := by
  obtain ⟨t, pa, q⟩ := ha
  obtain ⟨u, pb, q2⟩ := hb
  refine ⟨_, pi_range2 hg hm (pa_cons pa (pa_cons pb pa_nil hs4) hs3) hs hs2, fun S0 H0 σ S H Q E P => q S0 H0 σ S H _ E (R.post_mono (R.post_bind.mp P) (fun lo k v S' H' g r => ?_) (fun _ k => k))⟩
  have ev : v = V.int lo := r
  subst ev
  refine q2 S0 H0 σ S' H' _ (E.step g) (R.post_mono (R.post_bind.mp k) (fun hi k v S2 H2 g2 r => ?_) (fun _ k cl d S2 H2 g2 r => k cl d S2 H2 (g.trans g2) r))
  have ev : v = V.int hi := r
  subst ev
  obtain ⟨k1, k2⟩ := R.guard_post k
  exact ⟨lo, hi, rfl, ⟨k1.1, k1.2.1, k1.2.2.1, k1.2.2.2⟩, k2 _ S2 H2 (g.trans g2) itr_ok⟩
theorem iterR1_p {n : Int} (hm : X.mg "range" = none) (ha : DE X W ds a cI (.ok n)) (hg : Gl X "range" := by rfl) (hs : starEach [a] X.env = [(false, eval a X.env)] := by rfl) : DI X W ds tg (.Call (.Name "range" p) [a] [] pos) cI (rngM 0 n) := iterR1 hm ha hg hs
/-- targets -/
theorem tgN {σ' : Type} {e0 : σ' → Env} {x : Str} (i : Nat) (sn : X.N.Nodup) (hi : X.N[i]? = some x := by rfl) (hx : Loc X.env.scope x := by first | exact Or.inl rfl | exact Or.inr rfl)
    (hf : X.fn x = true ∨ X.env.scope.names.lookup x = some .local := by first | exact .inl rfl | exact .inr rfl) : DG X (.Name x pos) c e0 (fun s a => (e0 s).put i (.st α c a)) :=
  ⟨gName i, pg_name sn hi hx hf, fun s a v S0 H0 σ S H Q E r k => k _ (E.putS r)⟩
end
/-! ### loops -/
section
variable {α β S S' : Type}
def foldR (step : S → α → R S) : List α → S → R S
  | [], s => .ok s
  | x :: xs, s => step s x >>= fun s' => foldR step xs s'
inductive End (S β : Type) where
  | go (s : S) | out (b : β)
def loopR (step : S → α → R (Out β S S)) : List α → S → R (End S β)
  | [], s => .ok (.go s)
  | x :: xs, s => step s x >>= fun o => match o with
    | .nxt s' => loopR step xs s'
    | .ctn s' => loopR step xs s'
    | .brk s' => .ok (.go s')
    | .ret b => .ok (.out b)
@[simp] theorem foldR_nil (step : S → α → R S) (s : S) : foldR step [] s = .ok s := rfl
@[simp] theorem foldR_cons (step : S → α → R S) (x : α) (xs : List α) (s : S) : foldR step (x :: xs) s = (step s x >>= fun s' => foldR step xs s') := rfl
end
section
variable {X : Cx} {W : XK} {T : Bool} {ds : Env} {α β γ τ ν κ ω σ' : Type} {tg iter : Expr} {body rest : List Stmt} {pos p : Pos} {c : Cd α} {cb : Cd β} {eN : ν → Env} {eK : κ → Env} {I : ω → Out β ν κ} {mi : R (List α)}
/-- a loop in general: W' the word of what is left, by the state of the slots -/
theorem for_any {g : TG} {J : It} {D : Ends} {S0 H0 Sa : Hp} {σ : L2.St} {H : Hp} {as : List α} (eL : σ' → Env) (C : List α → σ' → Prop) (hJ : ItOk J X.K Sa c as)
    (s0 : σ') (S : Hp) (hs : Same Sa S) (E : EnvOk X.K S0 H0 (eL s0) σ S H) (h0 : C as s0)
    (turn : ∀ a r s σ2 S2 H2 v (N : L2.St → Hp → Prop), C (a :: r) s → EnvOk X.K S0 H0 (eL s) σ2 S2 H2 → c.rep X.K S2 v a → (∀ s' σ3 S3 H3, C r s' → Same S2 S3 → EnvOk X.K S0 H0 (eL s') σ3 S3 H3 → N σ3 H3) → g v σ2 H2 fun σ3 H3 => tS X body { D with nx := N, ct := N, bk := D.nx } σ3 H3)
    (done : ∀ s σ2 S2 H2, C [] s → EnvOk X.K S0 H0 (eL s) σ2 S2 H2 → D.nx σ2 H2) :
    ∃ W : Nat → Nat → L2.St → Hp → Prop, (∃ m, W 0 m σ H) ∧ ∀ i m σ H, W i m σ H →
      (J.stop i H ∧ D.nx σ H) ∨ (J.go i H ∧ ∃ N : L2.St → Hp → Prop, (∀ σ' H', N σ' H' → ∃ m', m' < m ∧ W (i + 1) m' σ' H') ∧ ∀ x H', J.yld i H x H' → g x σ H' fun σ2 H2 => tS X body { D with nx := N, ct := N, bk := D.nx } σ2 H2) := by
  refine ⟨fun i m σ H => m = as.length - i ∧ i ≤ as.length ∧ ∃ s S, Same Sa S ∧ EnvOk X.K S0 H0 (eL s) σ S H ∧ C (as.drop i) s, ⟨as.length, by simp, Nat.zero_le _, s0, S, hs, E, by simpa using h0⟩, ?_⟩
  rintro i m σ H ⟨rfl, hi, s, S, hs, E, h⟩
  obtain ⟨j1, j2⟩ := hJ i S H hs E.inn
  by_cases hlt : i < as.length
  · have ha : as[i]? = some as[i] := List.getElem?_eq_getElem hlt
    obtain ⟨k1, k2⟩ := j2 _ ha
    refine .inr ⟨k1, fun σ' H' => ∃ s S, Same Sa S ∧ EnvOk X.K S0 H0 (eL s) σ' S H' ∧ C (as.drop (i + 1)) s, fun σ2 H2 q => ⟨as.length - (i + 1), by omega, rfl, hlt, q⟩, fun x H' y => ?_⟩
    obtain ⟨S2, g2, r2⟩ := k2 x H' y
    rw [List.drop_eq_getElem_cons hlt] at h
    exact turn _ _ s σ S2 H' x _ h (E.step g2) r2 fun s' σ3 S3 H3 h3 s3 E3 => ⟨s', S3, hs.trans (g2.st.trans s3), E3, h3⟩
  · have e : i = as.length := by omega
    subst e
    rw [List.drop_length] at h
    exact .inl ⟨j1 (Nat.le_refl _), done s σ S H h E⟩
/-- for tg in iter: body; nothing in it but passes to the next turn -/
theorem forF {σ' : Type} {eL : σ' → Env} {eB : σ' → α → Env} {step : σ' → α → R σ'} {s0 : σ'} {k : σ' → R ω} (hc : X.calm = true) (hp : PassesOwn (model X.prog X.w) X.A X.env X.xe) (hi : DI X W ds tg iter c mi) (hg : DG X tg c eL eB) (l : EnvLe ds (eL s0))
    (hb : ∀ s a, DS X W false (eB s a) body cb eL eL (fun s => (.nxt s : Out β σ' σ')) (step s a)) (hr : ∀ s, DS X W T (eL s) rest cb eN eK I (k s)) (hs : ∀ x, foldedSetIterable iter X.env x = pure x := by intro _; rfl) :
    DS X W T ds (.For tg iter body [] pos :: rest) cb eN eK I (mi >>= fun as => foldR step as s0 >>= k) := fun S0 H0 σ S H D nx h E P => by
  obtain ⟨wi, pi, qi⟩ := hi
  obtain ⟨g, pg, qg⟩ := hg
  refine seq (ps_for hp hc pi pg pss_tS hs) (qi S0 H0 σ S H _ E (R.post_mono (R.post_bind.mp P) (fun as q J S' H' gr hJ => ?_) (fun x q cl d S' H' gr r => q cl d S' H' (E.grow.trans gr) r)))
  refine for_any eL (fun as s => (foldR step as s >>= k).post (fun w => OutP X.K S0 H0 cb eN eK D (I w)) (EX X.K W S0 H0)) hJ s0 S' (.refl _) ((E.step gr).le l) q (fun a r s σ2 S2 H2 v N hC E2 r2 hN => ?_) (fun s σ2 S2 H2 hC E2 => ?_)
  · refine qg s a v S0 H0 σ2 S2 H2 _ E2 r2 fun σ3 E3 => ?_
    have hC' : (step s a >>= fun s' => foldR step r s' >>= k).post (fun w => OutP X.K S0 H0 cb eN eK D (I w)) (EX X.K W S0 H0) := by rw [← R.bind_assoc]; exact hC
    refine hb s a S2 H0 σ3 S2 H2 { D with nx := N, ct := N, bk := tS X rest { D with nx := nx } } N (.inr rfl) E3.rebase (R.post_mono (R.post_bind.mp hC') (fun s' q' σ4 S4 H4 E4 => ?_) (fun _ q' => q'.rebase E3.grow))
    exact hN s' σ4 S4 H4 q' E4.grow.st (E4.unbase E3.grow)
  · exact hr s S0 H0 σ2 S2 H2 D nx h E2 hC
/-- for tg in iter: body, which may leave or return -/
theorem forO {σ' : Type} {eL : σ' → Env} {eB : σ' → α → Env} {step : σ' → α → R (Out β σ' σ')} {s0 : σ'} {k : End σ' β → R ω} (hc : X.calm = true) (hp : PassesOwn (model X.prog X.w) X.A X.env X.xe) (hi : DI X W ds tg iter c mi) (hg : DG X tg c eL eB) (l : EnvLe ds (eL s0))
    (hb : ∀ s a, DS X W false (eB s a) body cb eL eL (fun o => o) (step s a)) (hr : ∀ s, DS X W T (eL s) rest cb eN eK I (k (.go s))) (ho : ∀ b, ∃ w, k (.out b) = .ok w ∧ I w = .ret b := by intro b; exact ⟨_, rfl, rfl⟩) (hs : ∀ x, foldedSetIterable iter X.env x = pure x := by intro _; rfl) :
    DS X W T ds (.For tg iter body [] pos :: rest) cb eN eK I (mi >>= fun as => loopR step as s0 >>= k) := fun S0 H0 σ S H D nx h E P => by
  obtain ⟨wi, pi, qi⟩ := hi
  obtain ⟨g, pg, qg⟩ := hg
  refine seq (ps_for hp hc pi pg pss_tS hs) (qi S0 H0 σ S H _ E (R.post_mono (R.post_bind.mp P) (fun as q J S' H' gr hJ => ?_) (fun x q cl d S' H' gr r => q cl d S' H' (E.grow.trans gr) r)))
  refine for_any eL (fun as s => (loopR step as s >>= k).post (fun w => OutP X.K S0 H0 cb eN eK D (I w)) (EX X.K W S0 H0)) hJ s0 S' (.refl _) ((E.step gr).le l) q (fun a r s σ2 S2 H2 v N hC E2 r2 hN => ?_) (fun s σ2 S2 H2 hC E2 => ?_)
  · refine qg s a v S0 H0 σ2 S2 H2 _ E2 r2 fun σ3 E3 => ?_
    have hC' : (step s a >>= fun o => (match o with
      | .nxt s' => loopR step r s'
      | .ctn s' => loopR step r s'
      | .brk s' => .ok (.go s')
      | .ret b => .ok (.out b)) >>= k).post (fun w => OutP X.K S0 H0 cb eN eK D (I w)) (EX X.K W S0 H0) := by rw [← R.bind_assoc]; exact hC
    refine hb s a S2 H0 σ3 S2 H2 { D with nx := N, ct := N, bk := tS X rest { D with nx := nx } } N (.inr rfl) E3.rebase (R.post_mono (R.post_bind.mp hC') (fun o q' => ?_) (fun _ q' => q'.rebase E3.grow))
    cases o with
    | nxt s' => exact fun σ4 S4 H4 E4 => hN s' σ4 S4 H4 q' E4.grow.st (E4.unbase E3.grow)
    | ctn s' => exact fun σ4 S4 H4 E4 => hN s' σ4 S4 H4 q' E4.grow.st (E4.unbase E3.grow)
    | brk s' => exact fun σ4 S4 H4 E4 => hr s' S0 H0 σ4 S4 H4 D nx h (E4.unbase E3.grow) q'
    | ret b =>
      obtain ⟨w, e1, e2⟩ := ho b
      have q2 : (k (.out b)).post (fun w => OutP X.K S0 H0 cb eN eK D (I w)) (EX X.K W S0 H0) := q'
      rw [e1] at q2
      have q3 : OutP X.K S0 H0 cb eN eK D (I w) := q2
      rw [e2] at q3
      exact fun v S4 H4 g4 r4 => q3 v S4 H4 (E3.grow.base g4) r4
  · exact hr s S0 H0 σ2 S2 H2 D nx h E2 hC
/-! ### while -/
def whileR {S : Type} (n : Nat) (test : S → R Bool) (step : S → R S) (s : S) : R S := match n with
  | 0 => .stuck
  | n + 1 => test s >>= fun z => if z = true then step s >>= fun s' => whileR n test step s' else .ok s
theorem whileF {σ' : Type} {eL : σ' → Env} {test : σ' → R Bool} {step : σ' → R σ'} {s0 : σ'} {k : σ' → R ω} {t : Expr} {n : Nat} (hp : PassesOwn (model X.prog X.w) X.A X.env X.xe) (l : EnvLe ds (eL s0)) (ht : ∃ tt, PT X t tt ∧ ∀ s S0 H0 σ S H Q, EnvOk X.K S0 H0 (eL s) σ S H → PB X.K S H (test s) Q W → tt σ H Q)
    (hb : ∀ s, DS X W false (eL s) body cb eL eL (fun s => (.nxt s : Out β σ' σ')) (step s)) (hr : ∀ s, DS X W T (eL s) rest cb eN eK I (k s)) :
    DS X W T ds (.While t body [] pos :: rest) cb eN eK I (whileR n test step s0 >>= k) := fun S0 H0 σ S H D nx h E P => by
  obtain ⟨tt, pt, qt⟩ := ht
  refine seq (ps_while hp pt pss_tS) ⟨fun m σ H => ∃ s S, EnvOk X.K S0 H0 (eL s) σ S H ∧ (whileR m test step s >>= k).post (fun w => OutP X.K S0 H0 cb eN eK D (I w)) (EX X.K W S0 H0), ⟨n, s0, S, E.le l, P⟩, ?_⟩
  rintro m σ2 H2 ⟨s, S2, E2, C⟩
  cases m with
  | zero => exact False.elim C
  | succ m =>
    have C' : (test s >>= fun z => (if z = true then step s >>= fun s' => whileR m test step s' else .ok s) >>= k).post (fun w => OutP X.K S0 H0 cb eN eK D (I w)) (EX X.K W S0 H0) := by rw [← R.bind_assoc]; exact C
    refine qt s S0 H0 σ2 S2 H2 _ E2 (stT E2 C' fun z S3 H3 E3 C3 => ?_)
    cases z with
    | true =>
      have C4 : (step s >>= fun s' => whileR m test step s' >>= k).post (fun w => OutP X.K S0 H0 cb eN eK D (I w)) (EX X.K W S0 H0) := by rw [← R.bind_assoc]; exact C3
      rw [if_pos rfl]
      refine ⟨fun σ H => ∃ s S, EnvOk X.K S0 H0 (eL s) σ S H ∧ (whileR m test step s >>= k).post (fun w => OutP X.K S0 H0 cb eN eK D (I w)) (EX X.K W S0 H0), fun σ' H' q => ⟨m, Nat.lt_succ_self m, q⟩, ?_⟩
      exact hb s S0 H0 σ2 S3 H3 { D with nx := _, ct := _, bk := tS X rest { D with nx := nx } } _ (.inr rfl) E3 (R.post_mono (R.post_bind.mp C4) (fun s' q' σ4 S4 H4 E4 => ⟨s', S4, E4, q'⟩) (fun _ q' => q'))
    | false =>
      rw [if_neg Bool.false_ne_true]
      exact hr s S0 H0 σ2 S3 H3 D nx h E3 C3
end
/-! ### defs -/
section
variable {P : Program} {w : World} {K : PySem.W.Frag} {mg : Str → Option Value} {base : Heap} {τ γ ν κ : Type}
theorem fn_mk {x qual : Str} {prs : Arguments} {body : List Stmt} {scope : Scope} {dvs : List V} {kws : List (Str × V)} {f : Addr} {fd : FuncData} {N ps : List Str} {k : Nat} {ca : CA τ} {c : Cd γ} {F : τ → R γ} {eN : ν → Env} {eK : κ → Env}
    (D : FunD K x qual prs body scope dvs kws f fd) (S : FnScope N ps scope) (hn : ca.n = ps.length) (hl : ca.n ≤ N.length)
    (hb : ∀ (cdv : Value) (A : Around) (outer : List PySem.Env) (s : Shared) (H : Hp) (E : XK), Room k (A.deeper (envOfC qual scope s.heap.objs.size f cdv)) →
      Lets (cxOf (L2.CX P w) P w K mg base N qual scope f cdv A outer s H E) E → PassesOwn (model P w) (A.deeper (envOfC qual scope s.heap.objs.size f cdv)) (envOfC qual scope s.heap.objs.size f cdv) (cxOf (L2.CX P w) P w K mg base N qual scope f cdv A outer s H E).xe →
      ∀ z, DS (cxOf (L2.CX P w) P w K mg base N qual scope f cdv A outer s H E) E true (ca.env z ++ List.replicate (N.length - ca.n) .none) body c eN eK (fun b => (.ret b : Out γ ν κ)) (F z)) :
    FnOk P w K mg base (L2.CX P w) (k + 1) f fd ps (spF K ca c F) := by
  refine D.ok S (fun vs H Q E h => ?_) (fun cdv A outer s H vs Q E hr h => ?_)
  · obtain ⟨S, z, _, r, _⟩ := h
    rw [ca.len r, hn]
  · obtain ⟨S1, z, i, r, Px⟩ := h
    have tk : Takes (cxOf (L2.CX P w) P w K mg base N qual scope f cdv A outer s H E) (fun cl d _ H => E cl d H) := takes_of rfl rfl rfl rfl
    have e0 := EnvOk.start (N := N) (H := H) (ca.sl r) (by rw [ca.len r]; exact hl) i
    rw [ca.len r] at e0
    refine ⟨tS _ body, pss_tS, hb cdv A outer s H E hr (passes_call tk fun _ _ _ _ h => h) (passes_of rfl) z S1 H _ S1 H { nx := fun _ H' => Q .non H', rt := Q } (fun _ H' => Q .non H') (.inl rfl) e0 ?_⟩
    exact R.post_mono Px (fun b q v S' H' g r => q v S' H' g r) (fun x q cl d S' H' g r => q cl d S' H' g r)
/-- a def that hands back None at its end -/
theorem fn_mkN {x qual : Str} {prs : Arguments} {body : List Stmt} {scope : Scope} {dvs : List V} {kws : List (Str × V)} {f : Addr} {fd : FuncData} {N ps : List Str} {k : Nat} {ca : CA τ} {F : τ → R Unit} {eN : Unit → Env} {eK : κ → Env}
    (D : FunD K x qual prs body scope dvs kws f fd) (S : FnScope N ps scope) (hn : ca.n = ps.length) (hl : ca.n ≤ N.length)
    (hb : ∀ (cdv : Value) (A : Around) (outer : List PySem.Env) (s : Shared) (H : Hp) (E : XK), Room k (A.deeper (envOfC qual scope s.heap.objs.size f cdv)) →
      Lets (cxOf (L2.CX P w) P w K mg base N qual scope f cdv A outer s H E) E → PassesOwn (model P w) (A.deeper (envOfC qual scope s.heap.objs.size f cdv)) (envOfC qual scope s.heap.objs.size f cdv) (cxOf (L2.CX P w) P w K mg base N qual scope f cdv A outer s H E).xe →
      ∀ z, DS (cxOf (L2.CX P w) P w K mg base N qual scope f cdv A outer s H E) E false (ca.env z ++ List.replicate (N.length - ca.n) .none) body cN eN eK (fun b => (.nxt b : Out Unit Unit κ)) (F z)) :
    FnOk P w K mg base (L2.CX P w) (k + 1) f fd ps (spF K ca cN F) := by
  refine D.ok S (fun vs H Q E h => ?_) (fun cdv A outer s H vs Q E hr h => ?_)
  · obtain ⟨S, z, _, r, _⟩ := h
    rw [ca.len r, hn]
  · obtain ⟨S1, z, i, r, Px⟩ := h
    have tk : Takes (cxOf (L2.CX P w) P w K mg base N qual scope f cdv A outer s H E) (fun cl d _ H => E cl d H) := takes_of rfl rfl rfl rfl
    have e0 := EnvOk.start (N := N) (H := H) (ca.sl r) (by rw [ca.len r]; exact hl) i
    rw [ca.len r] at e0
    refine ⟨tS _ body, pss_tS, hb cdv A outer s H E hr (passes_call tk fun _ _ _ _ h => h) (passes_of rfl) z S1 H _ S1 H { nx := fun _ H' => Q .non H', rt := Q } (fun _ H' => Q .non H') (.inr rfl) e0 ?_⟩
    exact R.post_mono Px (fun b q σ' S' H' e => q .non S' H' e.grow rfl) (fun x q cl d S' H' g r => q cl d S' H' g r)
theorem fni {x : Str} {f : Addr} {fd : FuncData} {ps : List Str} {k : Nat} {ca : CA τ} {c : Cd γ} {F : τ → R γ} (h : FnOk P w K mg base (L2.CX P w) k f fd ps (spF K ca c F)) (hm : mg x = some (.ref f)) (hk : PySem.W.keepIn K (.ref f) = true) (hb : Binds K fd ps []) : FnI P w K mg base x k ps ca c F := ⟨⟨f, fd, h, hm, hk, hb⟩⟩
end
end Zk
set_option maxHeartbeats 4000000
/-! # Zk: lists of so many values, None or a value, isinstance, short words -/
namespace Zk
open PySem PySem.Spec PyProof.Rows L2
theorem leZ : EnvLe [] [] := trivial
theorem leN {a : SD} {as bs : Env} (h : EnvLe as bs) : EnvLe (a :: as) (.none :: bs) := ⟨.inl rfl, h⟩
theorem leS {a : SD} {as bs : Env} (h : EnvLe as bs) : EnvLe (a :: as) (a :: bs) := ⟨.inr rfl, h⟩
/-- a list of so many values -/
def cH {τ : Type} (r : CA τ) : Cd τ :=
  ⟨fun K H v a => ∃ p vs, v = .ref p ∧ SqL K H p vs ∧ r.rep K H vs a, fun e ⟨p, vs, h1, h2, h3⟩ => ⟨p, vs, h1, Same.seq e h2, r.mono e h3⟩⟩
@[reducible] instance {τ : Type} {r : CA τ} [DtA r] : Dt (cH r) where
  toD a := .list (DtA.toDs r a)
  depth := DtA.depth r + 1
  lay a := by simp only [PyData.canLay0]; exact DtA.lay a
  le a := by simp only [PyData.depth]; exact Nat.succ_le_succ (DtA.le a)
  eqv a b := by simp only [PyData.eqv]; exact DtA.eqv a b
  rep h := by
    obtain ⟨p, vs, e, h1, h2⟩ := h
    rw [e]
    exact .lst h1 (DtA.rep h2)
/-! ### not None -/
class NN {α : Type} (c : Cd α) : Prop where
  nn : ∀ {K : PySem.W.Frag} {H : Hp} {v : V} {a : α}, c.rep K H v a → v ≠ .non
namespace NN
variable {α τ : Type}
instance : NN cI := ⟨fun {K H v a} h => by
  have e : v = V.int a := h
  rw [e]; exact fun z => nomatch z⟩
instance : NN cB := ⟨fun {K H v a} h => by
  have e : v = V.bl a := h
  rw [e]; exact fun z => nomatch z⟩
instance : NN cS := ⟨fun {K H v a} h => by
  have e : v = V.str a := h
  rw [e]; exact fun z => nomatch z⟩
instance {c : Cd α} : NN (cL c) := ⟨fun ⟨p, vs, e, _⟩ => by rw [e]; exact fun z => nomatch z⟩
instance {c : Cd α} : NN (cT c) := ⟨fun ⟨p, vs, e, _⟩ => by rw [e]; exact fun z => nomatch z⟩
instance {c : Cd α} : NN (cLT c) := ⟨fun h => by
  rcases h with ⟨p, vs, e, _⟩ | ⟨p, vs, e, _⟩ <;> (rw [e]; exact fun z => nomatch z)⟩
instance {r : CA τ} : NN (cP r) := ⟨fun ⟨p, vs, e, _⟩ => by rw [e]; exact fun z => nomatch z⟩
instance {r : CA τ} : NN (cH r) := ⟨fun ⟨p, vs, e, _⟩ => by rw [e]; exact fun z => nomatch z⟩
end NN
section
variable {X : Cx} {W : XK} {ds : Env} {α β γ τ : Type} {a b : Expr} {e : Expr} {es : List Expr} {pos p : Pos} {c : Cd α} {c2 : Cd β} {m : R α} {x : α}
def unO (o : Option α) : R α := match o with
  | some z => .ok z
  | none => .stuck
theorem some_ (h : DE X W ds a c (.ok x)) [NN c] : DE X W ds a (cO c) (.ok (some x)) := coe (c2 := cO c) (f := some) (fun K H v a r => ⟨NN.nn r, r⟩) h
theorem some_m (h : DE X W ds a c m) [NN c] : DE X W ds a (cO c) (m >>= fun z => .ok (some z)) := coe (c2 := cO c) (f := some) (fun K H v a r => ⟨NN.nn r, r⟩) h
theorem none_ {j : Nat} : DE X W ds (.Constant .none j pos) (cO c) (.ok none) := coe (c := cN) (c2 := cO c) (f := fun _ => none) (fun K H v a r => r) (non (j := j))
theorem un_m {m : R (Option α)} (h : DE X W ds a (cO c) m) : DE X W ds a c (m >>= unO) := by
  obtain ⟨t, p, q⟩ := h
  refine ⟨t, p, fun S0 H0 σ S H Q E P => q S0 H0 σ S H Q E (P.bind fun o v S1 H1 g r P1 => ?_)⟩
  cases o with
  | none => exact False.elim P1
  | some z => exact P1.ok g.inn r.2
theorem un_p {o : Option α} (h : DE X W ds a (cO c) (.ok o)) : DE X W ds a c (unO o) := un_m h
theorem lt_L {xs : List α} (h : DE X W ds a (cL c) (.ok xs)) : DE X W ds a (cLT c) (.ok xs) := coe (c2 := cLT c) (f := fun z => z) (fun K H v a r => Or.inl r) h
theorem lt_T {xs : List α} (h : DE X W ds a (cT c) (.ok xs)) : DE X W ds a (cLT c) (.ok xs) := coe (c2 := cLT c) (f := fun z => z) (fun K H v a r => Or.inr r) h
theorem coe_id {m : R α} {c' : Cd α} (h : ∀ K H v a, c.rep K H v a → c'.rep K H v a) (ha : DE X W ds a c m) : DE X W ds a c' m := by
  have q := coe (f := fun z => z) h ha
  rw [show (m >>= fun z => R.ok z) = m from R.bind_ok m] at q
  exact q
theorem lt_Lm {m : R (List α)} (h : DE X W ds a (cL c) m) : DE X W ds a (cLT c) m := coe_id (c' := cLT c) (fun K H v a r => Or.inl r) h
theorem lt_Tm {m : R (List α)} (h : DE X W ds a (cT c) m) : DE X W ds a (cLT c) m := coe_id (c' := cLT c) (fun K H v a r => Or.inr r) h
/-! ### lists of so many values -/
theorem lstH {r : CA τ} {m : R τ} (ha : DA X W ds es r m) (hn : r.n ≤ 1000 := by exact Nat.le_of_ble_eq_true rfl) : DE X W ds (.List es pos) (cH r) m := by
  obtain ⟨t, p, q⟩ := ha
  refine ⟨_, pe_lst p, fun S0 H0 σ S H Q E P => q S0 H0 σ S H _ E ?_⟩
  refine R.post_mono P (fun z k vs S1 H1 g r1 => ⟨by rw [r.len r1]; exact Nat.le_trans hn (by decide), fun q hq => ?_⟩) (fun _ k => k)
  have g2 : Grow S1 H1 (upd S1 q (.lst vs)) (upd H1 q (.lst vs)) := .lay g.inn hq
  exact k _ _ _ (g.trans g2) ⟨q, vs, rfl, SqL.of upd_same, r.mono g2.st r1⟩
theorem tupP {r : CA τ} {m : R τ} {k : Nat} (ha : DA X W ds es r m) (hn : r.n ≤ 1000 := by exact Nat.le_of_ble_eq_true rfl) : DE X W ds (.Tuple es k pos) (cP r) m := tup (Nat.le_trans hn (by decide)) ha
theorem ixH {r : CA τ} {i : Int} {n : Nat} {c3 : Cd γ} {pr : τ → γ} {m : R τ} {j : Nat} {p2 : Pos} (h : AIx r i n c3 pr) (ha : DE X W ds a (cH r) m) (hp : PlainIx (.Constant (.int i) j p2) := by exact fun _ _ => rfl) : DE X W ds (.Subscript a (.Constant (.int i) j p2) pos) c3 (m >>= fun z => .ok (pr z)) := by
  obtain ⟨ta, pa, qa⟩ := ha
  refine ⟨_, pe_ix ix_list pa pe_int hp, fun S0 H0 σ S H Q E P => qa S0 H0 σ S H _ E (P.bind fun z v S1 H1 g r1 P1 => ?_)⟩
  obtain ⟨q, vs, e, h1, h2⟩ := r1
  obtain ⟨w, k1, k2⟩ := h _ _ _ _ h2
  exact ⟨q, vs, i, w, e, rfl, Same.seq g.inn h1, k1, P1.ok g.inn k2⟩

theorem ixh_0_1p {t0 : Type} {d0 : Cd t0} {z : t0} {j : Nat} {p2 : Pos} (ha : DE X W ds a (cH (aOne d0)) (.ok z)) (hp : PlainIx (.Constant (.int 0) j p2) := by exact fun _ _ => rfl) : DE X W ds (.Subscript a (.Constant (.int 0) j p2) pos) d0 (.ok (z)) := ixH aix_0_1 ha hp
theorem ixh_0_1m {t0 : Type} {d0 : Cd t0} {m : R (t0)} {j : Nat} {p2 : Pos} (ha : DE X W ds a (cH (aOne d0)) m) (hp : PlainIx (.Constant (.int 0) j p2) := by exact fun _ _ => rfl) : DE X W ds (.Subscript a (.Constant (.int 0) j p2) pos) d0 (m >>= fun z => .ok (z)) := ixH aix_0_1 ha hp
theorem ixh_0_2p {t0 : Type} {t1 : Type} {d0 : Cd t0} {d1 : Cd t1} {z : t0 × t1} {j : Nat} {p2 : Pos} (ha : DE X W ds a (cH (aCons d0 (aOne d1))) (.ok z)) (hp : PlainIx (.Constant (.int 0) j p2) := by exact fun _ _ => rfl) : DE X W ds (.Subscript a (.Constant (.int 0) j p2) pos) d0 (.ok (z.1)) := ixH aix_0_2 ha hp
theorem ixh_0_2m {t0 : Type} {t1 : Type} {d0 : Cd t0} {d1 : Cd t1} {m : R (t0 × t1)} {j : Nat} {p2 : Pos} (ha : DE X W ds a (cH (aCons d0 (aOne d1))) m) (hp : PlainIx (.Constant (.int 0) j p2) := by exact fun _ _ => rfl) : DE X W ds (.Subscript a (.Constant (.int 0) j p2) pos) d0 (m >>= fun z => .ok (z.1)) := ixH aix_0_2 ha hp
theorem ixh_1_2p {t0 : Type} {t1 : Type} {d0 : Cd t0} {d1 : Cd t1} {z : t0 × t1} {j : Nat} {p2 : Pos} (ha : DE X W ds a (cH (aCons d0 (aOne d1))) (.ok z)) (hp : PlainIx (.Constant (.int 1) j p2) := by exact fun _ _ => rfl) : DE X W ds (.Subscript a (.Constant (.int 1) j p2) pos) d1 (.ok (z.2)) := ixH aix_1_2 ha hp
theorem ixh_1_2m {t0 : Type} {t1 : Type} {d0 : Cd t0} {d1 : Cd t1} {m : R (t0 × t1)} {j : Nat} {p2 : Pos} (ha : DE X W ds a (cH (aCons d0 (aOne d1))) m) (hp : PlainIx (.Constant (.int 1) j p2) := by exact fun _ _ => rfl) : DE X W ds (.Subscript a (.Constant (.int 1) j p2) pos) d1 (m >>= fun z => .ok (z.2)) := ixH aix_1_2 ha hp
theorem ixh_0_3p {t0 : Type} {t1 : Type} {t2 : Type} {d0 : Cd t0} {d1 : Cd t1} {d2 : Cd t2} {z : t0 × t1 × t2} {j : Nat} {p2 : Pos} (ha : DE X W ds a (cH (aCons d0 (aCons d1 (aOne d2)))) (.ok z)) (hp : PlainIx (.Constant (.int 0) j p2) := by exact fun _ _ => rfl) : DE X W ds (.Subscript a (.Constant (.int 0) j p2) pos) d0 (.ok (z.1)) := ixH aix_0_3 ha hp
theorem ixh_0_3m {t0 : Type} {t1 : Type} {t2 : Type} {d0 : Cd t0} {d1 : Cd t1} {d2 : Cd t2} {m : R (t0 × t1 × t2)} {j : Nat} {p2 : Pos} (ha : DE X W ds a (cH (aCons d0 (aCons d1 (aOne d2)))) m) (hp : PlainIx (.Constant (.int 0) j p2) := by exact fun _ _ => rfl) : DE X W ds (.Subscript a (.Constant (.int 0) j p2) pos) d0 (m >>= fun z => .ok (z.1)) := ixH aix_0_3 ha hp
theorem ixh_1_3p {t0 : Type} {t1 : Type} {t2 : Type} {d0 : Cd t0} {d1 : Cd t1} {d2 : Cd t2} {z : t0 × t1 × t2} {j : Nat} {p2 : Pos} (ha : DE X W ds a (cH (aCons d0 (aCons d1 (aOne d2)))) (.ok z)) (hp : PlainIx (.Constant (.int 1) j p2) := by exact fun _ _ => rfl) : DE X W ds (.Subscript a (.Constant (.int 1) j p2) pos) d1 (.ok (z.2.1)) := ixH aix_1_3 ha hp
theorem ixh_1_3m {t0 : Type} {t1 : Type} {t2 : Type} {d0 : Cd t0} {d1 : Cd t1} {d2 : Cd t2} {m : R (t0 × t1 × t2)} {j : Nat} {p2 : Pos} (ha : DE X W ds a (cH (aCons d0 (aCons d1 (aOne d2)))) m) (hp : PlainIx (.Constant (.int 1) j p2) := by exact fun _ _ => rfl) : DE X W ds (.Subscript a (.Constant (.int 1) j p2) pos) d1 (m >>= fun z => .ok (z.2.1)) := ixH aix_1_3 ha hp
theorem ixh_2_3p {t0 : Type} {t1 : Type} {t2 : Type} {d0 : Cd t0} {d1 : Cd t1} {d2 : Cd t2} {z : t0 × t1 × t2} {j : Nat} {p2 : Pos} (ha : DE X W ds a (cH (aCons d0 (aCons d1 (aOne d2)))) (.ok z)) (hp : PlainIx (.Constant (.int 2) j p2) := by exact fun _ _ => rfl) : DE X W ds (.Subscript a (.Constant (.int 2) j p2) pos) d2 (.ok (z.2.2)) := ixH aix_2_3 ha hp
theorem ixh_2_3m {t0 : Type} {t1 : Type} {t2 : Type} {d0 : Cd t0} {d1 : Cd t1} {d2 : Cd t2} {m : R (t0 × t1 × t2)} {j : Nat} {p2 : Pos} (ha : DE X W ds a (cH (aCons d0 (aCons d1 (aOne d2)))) m) (hp : PlainIx (.Constant (.int 2) j p2) := by exact fun _ _ => rfl) : DE X W ds (.Subscript a (.Constant (.int 2) j p2) pos) d2 (m >>= fun z => .ok (z.2.2)) := ixH aix_2_3 ha hp
theorem ixh_0_4p {t0 : Type} {t1 : Type} {t2 : Type} {t3 : Type} {d0 : Cd t0} {d1 : Cd t1} {d2 : Cd t2} {d3 : Cd t3} {z : t0 × t1 × t2 × t3} {j : Nat} {p2 : Pos} (ha : DE X W ds a (cH (aCons d0 (aCons d1 (aCons d2 (aOne d3))))) (.ok z)) (hp : PlainIx (.Constant (.int 0) j p2) := by exact fun _ _ => rfl) : DE X W ds (.Subscript a (.Constant (.int 0) j p2) pos) d0 (.ok (z.1)) := ixH aix_0_4 ha hp
theorem ixh_0_4m {t0 : Type} {t1 : Type} {t2 : Type} {t3 : Type} {d0 : Cd t0} {d1 : Cd t1} {d2 : Cd t2} {d3 : Cd t3} {m : R (t0 × t1 × t2 × t3)} {j : Nat} {p2 : Pos} (ha : DE X W ds a (cH (aCons d0 (aCons d1 (aCons d2 (aOne d3))))) m) (hp : PlainIx (.Constant (.int 0) j p2) := by exact fun _ _ => rfl) : DE X W ds (.Subscript a (.Constant (.int 0) j p2) pos) d0 (m >>= fun z => .ok (z.1)) := ixH aix_0_4 ha hp
theorem ixh_1_4p {t0 : Type} {t1 : Type} {t2 : Type} {t3 : Type} {d0 : Cd t0} {d1 : Cd t1} {d2 : Cd t2} {d3 : Cd t3} {z : t0 × t1 × t2 × t3} {j : Nat} {p2 : Pos} (ha : DE X W ds a (cH (aCons d0 (aCons d1 (aCons d2 (aOne d3))))) (.ok z)) (hp : PlainIx (.Constant (.int 1) j p2) := by exact fun _ _ => rfl) : DE X W ds (.Subscript a (.Constant (.int 1) j p2) pos) d1 (.ok (z.2.1)) := ixH aix_1_4 ha hp
theorem ixh_1_4m {t0 : Type} {t1 : Type} {t2 : Type} {t3 : Type} {d0 : Cd t0} {d1 : Cd t1} {d2 : Cd t2} {d3 : Cd t3} {m : R (t0 × t1 × t2 × t3)} {j : Nat} {p2 : Pos} (ha : DE X W ds a (cH (aCons d0 (aCons d1 (aCons d2 (aOne d3))))) m) (hp : PlainIx (.Constant (.int 1) j p2) := by exact fun _ _ => rfl) : DE X W ds (.Subscript a (.Constant (.int 1) j p2) pos) d1 (m >>= fun z => .ok (z.2.1)) := ixH aix_1_4 ha hp
theorem ixh_2_4p {t0 : Type} {t1 : Type} {t2 : Type} {t3 : Type} {d0 : Cd t0} {d1 : Cd t1} {d2 : Cd t2} {d3 : Cd t3} {z : t0 × t1 × t2 × t3} {j : Nat} {p2 : Pos} (ha : DE X W ds a (cH (aCons d0 (aCons d1 (aCons d2 (aOne d3))))) (.ok z)) (hp : PlainIx (.Constant (.int 2) j p2) := by exact fun _ _ => rfl) : DE X W ds (.Subscript a (.Constant (.int 2) j p2) pos) d2 (.ok (z.2.2.1)) := ixH aix_2_4 ha hp
theorem ixh_2_4m {t0 : Type} {t1 : Type} {t2 : Type} {t3 : Type} {d0 : Cd t0} {d1 : Cd t1} {d2 : Cd t2} {d3 : Cd t3} {m : R (t0 × t1 × t2 × t3)} {j : Nat} {p2 : Pos} (ha : DE X W ds a (cH (aCons d0 (aCons d1 (aCons d2 (aOne d3))))) m) (hp : PlainIx (.Constant (.int 2) j p2) := by exact fun _ _ => rfl) : DE X W ds (.Subscript a (.Constant (.int 2) j p2) pos) d2 (m >>= fun z => .ok (z.2.2.1)) := ixH aix_2_4 ha hp
theorem ixh_3_4p {t0 : Type} {t1 : Type} {t2 : Type} {t3 : Type} {d0 : Cd t0} {d1 : Cd t1} {d2 : Cd t2} {d3 : Cd t3} {z : t0 × t1 × t2 × t3} {j : Nat} {p2 : Pos} (ha : DE X W ds a (cH (aCons d0 (aCons d1 (aCons d2 (aOne d3))))) (.ok z)) (hp : PlainIx (.Constant (.int 3) j p2) := by exact fun _ _ => rfl) : DE X W ds (.Subscript a (.Constant (.int 3) j p2) pos) d3 (.ok (z.2.2.2)) := ixH aix_3_4 ha hp
theorem ixh_3_4m {t0 : Type} {t1 : Type} {t2 : Type} {t3 : Type} {d0 : Cd t0} {d1 : Cd t1} {d2 : Cd t2} {d3 : Cd t3} {m : R (t0 × t1 × t2 × t3)} {j : Nat} {p2 : Pos} (ha : DE X W ds a (cH (aCons d0 (aCons d1 (aCons d2 (aOne d3))))) m) (hp : PlainIx (.Constant (.int 3) j p2) := by exact fun _ _ => rfl) : DE X W ds (.Subscript a (.Constant (.int 3) j p2) pos) d3 (m >>= fun z => .ok (z.2.2.2)) := ixH aix_3_4 ha hp
theorem ixh_0_5p {t0 : Type} {t1 : Type} {t2 : Type} {t3 : Type} {t4 : Type} {d0 : Cd t0} {d1 : Cd t1} {d2 : Cd t2} {d3 : Cd t3} {d4 : Cd t4} {z : t0 × t1 × t2 × t3 × t4} {j : Nat} {p2 : Pos} (ha : DE X W ds a (cH (aCons d0 (aCons d1 (aCons d2 (aCons d3 (aOne d4)))))) (.ok z)) (hp : PlainIx (.Constant (.int 0) j p2) := by exact fun _ _ => rfl) : DE X W ds (.Subscript a (.Constant (.int 0) j p2) pos) d0 (.ok (z.1)) := ixH aix_0_5 ha hp
theorem ixh_0_5m {t0 : Type} {t1 : Type} {t2 : Type} {t3 : Type} {t4 : Type} {d0 : Cd t0} {d1 : Cd t1} {d2 : Cd t2} {d3 : Cd t3} {d4 : Cd t4} {m : R (t0 × t1 × t2 × t3 × t4)} {j : Nat} {p2 : Pos} (ha : DE X W ds a (cH (aCons d0 (aCons d1 (aCons d2 (aCons d3 (aOne d4)))))) m) (hp : PlainIx (.Constant (.int 0) j p2) := by exact fun _ _ => rfl) : DE X W ds (.Subscript a (.Constant (.int 0) j p2) pos) d0 (m >>= fun z => .ok (z.1)) := ixH aix_0_5 ha hp
theorem ixh_1_5p {t0 : Type} {t1 : Type} {t2 : Type} {t3 : Type} {t4 : Type} {d0 : Cd t0} {d1 : Cd t1} {d2 : Cd t2} {d3 : Cd t3} {d4 : Cd t4} {z : t0 × t1 × t2 × t3 × t4} {j : Nat} {p2 : Pos} (ha : DE X W ds a (cH (aCons d0 (aCons d1 (aCons d2 (aCons d3 (aOne d4)))))) (.ok z)) (hp : PlainIx (.Constant (.int 1) j p2) := by exact fun _ _ => rfl) : DE X W ds (.Subscript a (.Constant (.int 1) j p2) pos) d1 (.ok (z.2.1)) := ixH aix_1_5 ha hp
theorem ixh_1_5m {t0 : Type} {t1 : Type} {t2 : Type} {t3 : Type} {t4 : Type} {d0 : Cd t0} {d1 : Cd t1} {d2 : Cd t2} {d3 : Cd t3} {d4 : Cd t4} {m : R (t0 × t1 × t2 × t3 × t4)} {j : Nat} {p2 : Pos} (ha : DE X W ds a (cH (aCons d0 (aCons d1 (aCons d2 (aCons d3 (aOne d4)))))) m) (hp : PlainIx (.Constant (.int 1) j p2) := by exact fun _ _ => rfl) : DE X W ds (.Subscript a (.Constant (.int 1) j p2) pos) d1 (m >>= fun z => .ok (z.2.1)) := ixH aix_1_5 ha hp
theorem ixh_2_5p {t0 : Type} {t1 : Type} {t2 : Type} {t3 : Type} {t4 : Type} {d0 : Cd t0} {d1 : Cd t1} {d2 : Cd t2} {d3 : Cd t3} {d4 : Cd t4} {z : t0 × t1 × t2 × t3 × t4} {j : Nat} {p2 : Pos} (ha : DE X W ds a (cH (aCons d0 (aCons d1 (aCons d2 (aCons d3 (aOne d4)))))) (.ok z)) (hp : PlainIx (.Constant (.int 2) j p2) := by exact fun _ _ => rfl) : DE X W ds (.Subscript a (.Constant (.int 2) j p2) pos) d2 (.ok (z.2.2.1)) := ixH aix_2_5 ha hp
theorem ixh_2_5m {t0 : Type} {t1 : Type} {t2 : Type} {t3 : Type} {t4 : Type} {d0 : Cd t0} {d1 : Cd t1} {d2 : Cd t2} {d3 : Cd t3} {d4 : Cd t4} {m : R (t0 × t1 × t2 × t3 × t4)} {j : Nat} {p2 : Pos} (ha : DE X W ds a (cH (aCons d0 (aCons d1 (aCons d2 (aCons d3 (aOne d4)))))) m) (hp : PlainIx (.Constant (.int 2) j p2) := by exact fun _ _ => rfl) : DE X W ds (.Subscript a (.Constant (.int 2) j p2) pos) d2 (m >>= fun z => .ok (z.2.2.1)) := ixH aix_2_5 ha hp
theorem ixh_3_5p {t0 : Type} {t1 : Type} {t2 : Type} {t3 : Type} {t4 : Type} {d0 : Cd t0} {d1 : Cd t1} {d2 : Cd t2} {d3 : Cd t3} {d4 : Cd t4} {z : t0 × t1 × t2 × t3 × t4} {j : Nat} {p2 : Pos} (ha : DE X W ds a (cH (aCons d0 (aCons d1 (aCons d2 (aCons d3 (aOne d4)))))) (.ok z)) (hp : PlainIx (.Constant (.int 3) j p2) := by exact fun _ _ => rfl) : DE X W ds (.Subscript a (.Constant (.int 3) j p2) pos) d3 (.ok (z.2.2.2.1)) := ixH aix_3_5 ha hp
theorem ixh_3_5m {t0 : Type} {t1 : Type} {t2 : Type} {t3 : Type} {t4 : Type} {d0 : Cd t0} {d1 : Cd t1} {d2 : Cd t2} {d3 : Cd t3} {d4 : Cd t4} {m : R (t0 × t1 × t2 × t3 × t4)} {j : Nat} {p2 : Pos} (ha : DE X W ds a (cH (aCons d0 (aCons d1 (aCons d2 (aCons d3 (aOne d4)))))) m) (hp : PlainIx (.Constant (.int 3) j p2) := by exact fun _ _ => rfl) : DE X W ds (.Subscript a (.Constant (.int 3) j p2) pos) d3 (m >>= fun z => .ok (z.2.2.2.1)) := ixH aix_3_5 ha hp
theorem ixh_4_5p {t0 : Type} {t1 : Type} {t2 : Type} {t3 : Type} {t4 : Type} {d0 : Cd t0} {d1 : Cd t1} {d2 : Cd t2} {d3 : Cd t3} {d4 : Cd t4} {z : t0 × t1 × t2 × t3 × t4} {j : Nat} {p2 : Pos} (ha : DE X W ds a (cH (aCons d0 (aCons d1 (aCons d2 (aCons d3 (aOne d4)))))) (.ok z)) (hp : PlainIx (.Constant (.int 4) j p2) := by exact fun _ _ => rfl) : DE X W ds (.Subscript a (.Constant (.int 4) j p2) pos) d4 (.ok (z.2.2.2.2)) := ixH aix_4_5 ha hp
theorem ixh_4_5m {t0 : Type} {t1 : Type} {t2 : Type} {t3 : Type} {t4 : Type} {d0 : Cd t0} {d1 : Cd t1} {d2 : Cd t2} {d3 : Cd t3} {d4 : Cd t4} {m : R (t0 × t1 × t2 × t3 × t4)} {j : Nat} {p2 : Pos} (ha : DE X W ds a (cH (aCons d0 (aCons d1 (aCons d2 (aCons d3 (aOne d4)))))) m) (hp : PlainIx (.Constant (.int 4) j p2) := by exact fun _ _ => rfl) : DE X W ds (.Subscript a (.Constant (.int 4) j p2) pos) d4 (m >>= fun z => .ok (z.2.2.2.2)) := ixH aix_4_5 ha hp
theorem ixh_0_6p {t0 : Type} {t1 : Type} {t2 : Type} {t3 : Type} {t4 : Type} {t5 : Type} {d0 : Cd t0} {d1 : Cd t1} {d2 : Cd t2} {d3 : Cd t3} {d4 : Cd t4} {d5 : Cd t5} {z : t0 × t1 × t2 × t3 × t4 × t5} {j : Nat} {p2 : Pos} (ha : DE X W ds a (cH (aCons d0 (aCons d1 (aCons d2 (aCons d3 (aCons d4 (aOne d5))))))) (.ok z)) (hp : PlainIx (.Constant (.int 0) j p2) := by exact fun _ _ => rfl) : DE X W ds (.Subscript a (.Constant (.int 0) j p2) pos) d0 (.ok (z.1)) := ixH aix_0_6 ha hp
theorem ixh_0_6m {t0 : Type} {t1 : Type} {t2 : Type} {t3 : Type} {t4 : Type} {t5 : Type} {d0 : Cd t0} {d1 : Cd t1} {d2 : Cd t2} {d3 : Cd t3} {d4 : Cd t4} {d5 : Cd t5} {m : R (t0 × t1 × t2 × t3 × t4 × t5)} {j : Nat} {p2 : Pos} (ha : DE X W ds a (cH (aCons d0 (aCons d1 (aCons d2 (aCons d3 (aCons d4 (aOne d5))))))) m) (hp : PlainIx (.Constant (.int 0) j p2) := by exact fun _ _ => rfl) : DE X W ds (.Subscript a (.Constant (.int 0) j p2) pos) d0 (m >>= fun z => .ok (z.1)) := ixH aix_0_6 ha hp
theorem ixh_1_6p {t0 : Type} {t1 : Type} {t2 : Type} {t3 : Type} {t4 : Type} {t5 : Type} {d0 : Cd t0} {d1 : Cd t1} {d2 : Cd t2} {d3 : Cd t3} {d4 : Cd t4} {d5 : Cd t5} {z : t0 × t1 × t2 × t3 × t4 × t5} {j : Nat} {p2 : Pos} (ha : DE X W ds a (cH (aCons d0 (aCons d1 (aCons d2 (aCons d3 (aCons d4 (aOne d5))))))) (.ok z)) (hp : PlainIx (.Constant (.int 1) j p2) := by exact fun _ _ => rfl) : DE X W ds (.Subscript a (.Constant (.int 1) j p2) pos) d1 (.ok (z.2.1)) := ixH aix_1_6 ha hp
theorem ixh_1_6m {t0 : Type} {t1 : Type} {t2 : Type} {t3 : Type} {t4 : Type} {t5 : Type} {d0 : Cd t0} {d1 : Cd t1} {d2 : Cd t2} {d3 : Cd t3} {d4 : Cd t4} {d5 : Cd t5} {m : R (t0 × t1 × t2 × t3 × t4 × t5)} {j : Nat} {p2 : Pos} (ha : DE X W ds a (cH (aCons d0 (aCons d1 (aCons d2 (aCons d3 (aCons d4 (aOne d5))))))) m) (hp : PlainIx (.Constant (.int 1) j p2) := by exact fun _ _ => rfl) : DE X W ds (.Subscript a (.Constant (.int 1) j p2) pos) d1 (m >>= fun z => .ok (z.2.1)) := ixH aix_1_6 ha hp
theorem ixh_2_6p {t0 : Type} {t1 : Type} {t2 : Type} {t3 : Type} {t4 : Type} {t5 : Type} {d0 : Cd t0} {d1 : Cd t1} {d2 : Cd t2} {d3 : Cd t3} {d4 : Cd t4} {d5 : Cd t5} {z : t0 × t1 × t2 × t3 × t4 × t5} {j : Nat} {p2 : Pos} (ha : DE X W ds a (cH (aCons d0 (aCons d1 (aCons d2 (aCons d3 (aCons d4 (aOne d5))))))) (.ok z)) (hp : PlainIx (.Constant (.int 2) j p2) := by exact fun _ _ => rfl) : DE X W ds (.Subscript a (.Constant (.int 2) j p2) pos) d2 (.ok (z.2.2.1)) := ixH aix_2_6 ha hp
theorem ixh_2_6m {t0 : Type} {t1 : Type} {t2 : Type} {t3 : Type} {t4 : Type} {t5 : Type} {d0 : Cd t0} {d1 : Cd t1} {d2 : Cd t2} {d3 : Cd t3} {d4 : Cd t4} {d5 : Cd t5} {m : R (t0 × t1 × t2 × t3 × t4 × t5)} {j : Nat} {p2 : Pos} (ha : DE X W ds a (cH (aCons d0 (aCons d1 (aCons d2 (aCons d3 (aCons d4 (aOne d5))))))) m) (hp : PlainIx (.Constant (.int 2) j p2) := by exact fun _ _ => rfl) : DE X W ds (.Subscript a (.Constant (.int 2) j p2) pos) d2 (m >>= fun z => .ok (z.2.2.1)) := ixH aix_2_6 ha hp
theorem ixh_3_6p {t0 : Type} {t1 : Type} {t2 : Type} {t3 : Type} {t4 : Type} {t5 : Type} {d0 : Cd t0} {d1 : Cd t1} {d2 : Cd t2} {d3 : Cd t3} {d4 : Cd t4} {d5 : Cd t5} {z : t0 × t1 × t2 × t3 × t4 × t5} {j : Nat} {p2 : Pos} (ha : DE X W ds a (cH (aCons d0 (aCons d1 (aCons d2 (aCons d3 (aCons d4 (aOne d5))))))) (.ok z)) (hp : PlainIx (.Constant (.int 3) j p2) := by exact fun _ _ => rfl) : DE X W ds (.Subscript a (.Constant (.int 3) j p2) pos) d3 (.ok (z.2.2.2.1)) := ixH aix_3_6 ha hp
theorem ixh_3_6m {t0 : Type} {t1 : Type} {t2 : Type} {t3 : Type} {t4 : Type} {t5 : Type} {d0 : Cd t0} {d1 : Cd t1} {d2 : Cd t2} {d3 : Cd t3} {d4 : Cd t4} {d5 : Cd t5} {m : R (t0 × t1 × t2 × t3 × t4 × t5)} {j : Nat} {p2 : Pos} (ha : DE X W ds a (cH (aCons d0 (aCons d1 (aCons d2 (aCons d3 (aCons d4 (aOne d5))))))) m) (hp : PlainIx (.Constant (.int 3) j p2) := by exact fun _ _ => rfl) : DE X W ds (.Subscript a (.Constant (.int 3) j p2) pos) d3 (m >>= fun z => .ok (z.2.2.2.1)) := ixH aix_3_6 ha hp
theorem ixh_4_6p {t0 : Type} {t1 : Type} {t2 : Type} {t3 : Type} {t4 : Type} {t5 : Type} {d0 : Cd t0} {d1 : Cd t1} {d2 : Cd t2} {d3 : Cd t3} {d4 : Cd t4} {d5 : Cd t5} {z : t0 × t1 × t2 × t3 × t4 × t5} {j : Nat} {p2 : Pos} (ha : DE X W ds a (cH (aCons d0 (aCons d1 (aCons d2 (aCons d3 (aCons d4 (aOne d5))))))) (.ok z)) (hp : PlainIx (.Constant (.int 4) j p2) := by exact fun _ _ => rfl) : DE X W ds (.Subscript a (.Constant (.int 4) j p2) pos) d4 (.ok (z.2.2.2.2.1)) := ixH aix_4_6 ha hp
theorem ixh_4_6m {t0 : Type} {t1 : Type} {t2 : Type} {t3 : Type} {t4 : Type} {t5 : Type} {d0 : Cd t0} {d1 : Cd t1} {d2 : Cd t2} {d3 : Cd t3} {d4 : Cd t4} {d5 : Cd t5} {m : R (t0 × t1 × t2 × t3 × t4 × t5)} {j : Nat} {p2 : Pos} (ha : DE X W ds a (cH (aCons d0 (aCons d1 (aCons d2 (aCons d3 (aCons d4 (aOne d5))))))) m) (hp : PlainIx (.Constant (.int 4) j p2) := by exact fun _ _ => rfl) : DE X W ds (.Subscript a (.Constant (.int 4) j p2) pos) d4 (m >>= fun z => .ok (z.2.2.2.2.1)) := ixH aix_4_6 ha hp
theorem ixh_5_6p {t0 : Type} {t1 : Type} {t2 : Type} {t3 : Type} {t4 : Type} {t5 : Type} {d0 : Cd t0} {d1 : Cd t1} {d2 : Cd t2} {d3 : Cd t3} {d4 : Cd t4} {d5 : Cd t5} {z : t0 × t1 × t2 × t3 × t4 × t5} {j : Nat} {p2 : Pos} (ha : DE X W ds a (cH (aCons d0 (aCons d1 (aCons d2 (aCons d3 (aCons d4 (aOne d5))))))) (.ok z)) (hp : PlainIx (.Constant (.int 5) j p2) := by exact fun _ _ => rfl) : DE X W ds (.Subscript a (.Constant (.int 5) j p2) pos) d5 (.ok (z.2.2.2.2.2)) := ixH aix_5_6 ha hp
theorem ixh_5_6m {t0 : Type} {t1 : Type} {t2 : Type} {t3 : Type} {t4 : Type} {t5 : Type} {d0 : Cd t0} {d1 : Cd t1} {d2 : Cd t2} {d3 : Cd t3} {d4 : Cd t4} {d5 : Cd t5} {m : R (t0 × t1 × t2 × t3 × t4 × t5)} {j : Nat} {p2 : Pos} (ha : DE X W ds a (cH (aCons d0 (aCons d1 (aCons d2 (aCons d3 (aCons d4 (aOne d5))))))) m) (hp : PlainIx (.Constant (.int 5) j p2) := by exact fun _ _ => rfl) : DE X W ds (.Subscript a (.Constant (.int 5) j p2) pos) d5 (m >>= fun z => .ok (z.2.2.2.2.2)) := ixH aix_5_6 ha hp
/-! ### isinstance against a built-in type, where the kind is known -/
class Ty {α : Type} (c : Cd α) (n : outParam String) : Prop where
  ty : ∀ {K : PySem.W.Frag} {H : Hp} {v : V} {a : α}, c.rep K H v a → TyX K H v (.type n)
theorem tyx_L {K : PySem.W.Frag} {H : Hp} {p : Addr} {vs : List V} (h : SqL K H p vs) : TyX K H (.ref p) (.type "list") := by
  rcases h with (h | ⟨o, h⟩) | ⟨o, its, n, h1, h2, _⟩
  · exact .base (.lst h)
  · exact .base (.frz h)
  · exact .kList h1 h2
theorem tyx_T {K : PySem.W.Frag} {H : Hp} {p : Addr} {vs : List V} (h : SqT K H p vs) : TyX K H (.ref p) (.type "tuple") := by
  rcases h with (h | ⟨o, h⟩) | ⟨o, its, n, h1, h2, _⟩
  · exact .base (.tup h)
  · exact .fTuple h
  · exact .kTuple h1 h2
instance : Ty cI "int" := ⟨fun {K H v a} h => by
  have e : v = V.int a := h
  rw [e]; exact .base (.int a)⟩
instance : Ty cB "bool" := ⟨fun {K H v a} h => by
  have e : v = V.bl a := h
  rw [e]; exact .base (.bl a)⟩
instance : Ty cS "str" := ⟨fun {K H v a} h => by
  have e : v = V.str a := h
  rw [e]; exact .base (.str a)⟩
instance : Ty cN "NoneType" := ⟨fun {K H v a} h => by
  have e : v = V.non := h
  rw [e]; exact .base .non⟩
instance {c : Cd α} : Ty (cL c) "list" := ⟨fun ⟨p, vs, e, h, _⟩ => by rw [e]; exact tyx_L h⟩
instance {c : Cd α} : Ty (cT c) "tuple" := ⟨fun ⟨p, vs, e, h, _⟩ => by rw [e]; exact tyx_T h⟩
instance {r : CA τ} : Ty (cP r) "tuple" := ⟨fun ⟨p, vs, e, h, _⟩ => by rw [e]; exact tyx_T h⟩
instance {r : CA τ} : Ty (cH r) "list" := ⟨fun ⟨p, vs, e, h, _⟩ => by rw [e]; exact tyx_L h⟩
theorem ty_mono {K : PySem.W.Frag} {H H' : Hp} {v : V} {t : Value} (s : Same H H') (h : TyX K H v t) : TyX K H' v t := by
  cases h with
  | base b =>
    cases b with
    | non => exact .base .non
    | bl x => exact .base (.bl x)
    | int i => exact .base (.int i)
    | str x => exact .base (.str x)
    | flt x => exact .base (.flt x)
    | lst e => exact .base (.lst (s _ _ e))
    | frz e => exact .base (.frz (s _ _ e))
    | tup e => exact .base (.tup (s _ _ e))
    | dK e => exact .base (.dK (s _ _ e))
    | dT e => exact .base (.dT (s _ _ e))
    | ins e cl ha hn htk hm => exact .base (.ins (s _ _ e) cl ha hn htk hm)
  | byt b => exact .byt b
  | set e => exact .set (s _ _ e)
  | kList e c => exact .kList e c
  | kTuple e c => exact .kTuple e c
  | kDict e c => exact .kDict e c
  | fTuple e => exact .fTuple (s _ _ e)
  | fDict e => exact .fDict (s _ _ e)
/-- isinstance(e, T) -/
theorem isi {n T : String} {nm : Str} {k : Bool} {m : R α} {p2 : Pos} (hk : kitB n T = some k) (hv : bootBuiltins nm = some (.type T)) (hm : X.mg "isinstance" = none) (hm2 : X.mg nm = none) (ha : DE X W ds e c m) [Ty c n] (hg : Gl X "isinstance" := by rfl) (hg2 : Gl X nm := by rfl) (hn : nm ≠ "__name__" := by decide) (hd : (nm == ("__debug__" : Str)) = false := by decide)
    (hs : starEach (e :: [.Name nm p2]) X.env = (false, eval e X.env) :: starEach [.Name nm p2] X.env := by rfl) (hs2 : starEach (.Name nm p2 :: []) X.env = (false, eval (.Name nm p2) X.env) :: starEach [] X.env := by rfl) (hpl : (backTo pos (starEach [.Name nm p2] X.env)).any (·.1) = false := by rfl) :
    DE X W ds (.Call (.Name "isinstance" p) [e, .Name nm p2] [] pos) cB (m >>= fun _ => .ok k) := by
  obtain ⟨t, pe, q⟩ := ha
  refine ⟨_, pe_callB call_isi hg hm boot_isinstance (pa_cons pe (pa_cons (pe_bltn (v := .ty T) hg2 hm2 hv rfl hn hd) pa_nil hs2) hs) (by decide) (by decide) hs hpl, fun S0 H0 σ S H Q E P => q S0 H0 σ S H _ E (P.bind fun z v S1 H1 g r P1 => ?_)⟩
  exact ⟨v, .ty T, .type n, .type T, k, rfl, .ty T, ty_mono g.inn (Ty.ty r), kit_ty hk, P1.ok g.inn rfl⟩
theorem isi_p {n T : String} {nm : Str} {k : Bool} {p2 : Pos} (hk : kitB n T = some k) (hv : bootBuiltins nm = some (.type T)) (hm : X.mg "isinstance" = none) (hm2 : X.mg nm = none) (ha : DE X W ds e c (.ok x)) [Ty c n] (hg : Gl X "isinstance" := by rfl) (hg2 : Gl X nm := by rfl) (hn : nm ≠ "__name__" := by decide) (hd : (nm == ("__debug__" : Str)) = false := by decide)
    (hs : starEach (e :: [.Name nm p2]) X.env = (false, eval e X.env) :: starEach [.Name nm p2] X.env := by rfl) (hs2 : starEach (.Name nm p2 :: []) X.env = (false, eval (.Name nm p2) X.env) :: starEach [] X.env := by rfl) (hpl : (backTo pos (starEach [.Name nm p2] X.env)).any (·.1) = false := by rfl) :
    DE X W ds (.Call (.Name "isinstance" p) [e, .Name nm p2] [] pos) cB (.ok k) := isi hk hv hm hm2 ha hg hg2 hn hd hs hs2 hpl
/-! ### len, int, abs, max, min, gcd -/
theorem lenL_m {c : Cd α} {m : R (List α)} (hm : X.mg "len" = none) (ha : DE X W ds e (cL c) m) (hg : Gl X "len" := by rfl) (he : starEach (e :: []) X.env = (false, eval e X.env) :: starEach [] X.env := by rfl) (hpl : (backTo pos (starEach [] X.env)).any (·.1) = false := by rfl) : DE X W ds (.Call (.Name "len" p) [e] [] pos) cI (m >>= fun z => .ok ((z.length : Nat) : Int)) := callB (nm := "len") call_len_seq cs_lenL boot_len hm (arg1 ha he) hg (by decide) (by decide) he hpl
theorem lenL_p {c : Cd α} {z : List α} (hm : X.mg "len" = none) (ha : DE X W ds e (cL c) (.ok z)) (hg : Gl X "len" := by rfl) (he : starEach (e :: []) X.env = (false, eval e X.env) :: starEach [] X.env := by rfl) (hpl : (backTo pos (starEach [] X.env)).any (·.1) = false := by rfl) : DE X W ds (.Call (.Name "len" p) [e] [] pos) cI (.ok ((z.length : Nat) : Int)) := lenL_m hm ha hg he hpl
theorem lenT_m {c : Cd α} {m : R (List α)} (hm : X.mg "len" = none) (ha : DE X W ds e (cT c) m) (hg : Gl X "len" := by rfl) (he : starEach (e :: []) X.env = (false, eval e X.env) :: starEach [] X.env := by rfl) (hpl : (backTo pos (starEach [] X.env)).any (·.1) = false := by rfl) : DE X W ds (.Call (.Name "len" p) [e] [] pos) cI (m >>= fun z => .ok ((z.length : Nat) : Int)) := callB (nm := "len") call_len_seq cs_lenT boot_len hm (arg1 ha he) hg (by decide) (by decide) he hpl
theorem lenT_p {c : Cd α} {z : List α} (hm : X.mg "len" = none) (ha : DE X W ds e (cT c) (.ok z)) (hg : Gl X "len" := by rfl) (he : starEach (e :: []) X.env = (false, eval e X.env) :: starEach [] X.env := by rfl) (hpl : (backTo pos (starEach [] X.env)).any (·.1) = false := by rfl) : DE X W ds (.Call (.Name "len" p) [e] [] pos) cI (.ok ((z.length : Nat) : Int)) := lenT_m hm ha hg he hpl
theorem lenLT_m {c : Cd α} {m : R (List α)} (hm : X.mg "len" = none) (ha : DE X W ds e (cLT c) m) (hg : Gl X "len" := by rfl) (he : starEach (e :: []) X.env = (false, eval e X.env) :: starEach [] X.env := by rfl) (hpl : (backTo pos (starEach [] X.env)).any (·.1) = false := by rfl) : DE X W ds (.Call (.Name "len" p) [e] [] pos) cI (m >>= fun z => .ok ((z.length : Nat) : Int)) := callB (nm := "len") call_len_seq cs_lenLT boot_len hm (arg1 ha he) hg (by decide) (by decide) he hpl
theorem lenLT_p {c : Cd α} {z : List α} (hm : X.mg "len" = none) (ha : DE X W ds e (cLT c) (.ok z)) (hg : Gl X "len" := by rfl) (he : starEach (e :: []) X.env = (false, eval e X.env) :: starEach [] X.env := by rfl) (hpl : (backTo pos (starEach [] X.env)).any (·.1) = false := by rfl) : DE X W ds (.Call (.Name "len" p) [e] [] pos) cI (.ok ((z.length : Nat) : Int)) := lenLT_m hm ha hg he hpl
theorem lenP_m {c : CA τ} {m : R (τ)} {n : Int} (hm : X.mg "len" = none) (ha : DE X W ds e (cP c) m) (hn : n = ((c.n : Nat) : Int) := by exact rfl) (hg : Gl X "len" := by rfl) (he : starEach (e :: []) X.env = (false, eval e X.env) :: starEach [] X.env := by rfl) (hpl : (backTo pos (starEach [] X.env)).any (·.1) = false := by rfl) : DE X W ds (.Call (.Name "len" p) [e] [] pos) cI (m >>= fun z => .ok n) := by rw [hn]; exact callB (nm := "len") call_len_seq cs_lenP boot_len hm (arg1 ha he) hg (by decide) (by decide) he hpl
theorem lenP_p {c : CA τ} {z : τ} {n : Int} (hm : X.mg "len" = none) (ha : DE X W ds e (cP c) (.ok z)) (hn : n = ((c.n : Nat) : Int) := by exact rfl) (hg : Gl X "len" := by rfl) (he : starEach (e :: []) X.env = (false, eval e X.env) :: starEach [] X.env := by rfl) (hpl : (backTo pos (starEach [] X.env)).any (·.1) = false := by rfl) : DE X W ds (.Call (.Name "len" p) [e] [] pos) cI (.ok n) := lenP_m hm ha hn hg he hpl
theorem intI_m  {m : R (Int)} (hm : X.mg "int" = none) (ha : DE X W ds e (cI) m) (hg : Gl X "int" := by rfl) (he : starEach (e :: []) X.env = (false, eval e X.env) :: starEach [] X.env := by rfl) (hpl : (backTo pos (starEach [] X.env)).any (·.1) = false := by rfl) : DE X W ds (.Call (.Name "int" p) [e] [] pos) cI (m >>= fun z => .ok z) := callTy (nm := "int") call_int1 cs_int PyProof.Rows.boot_int hm (arg1 ha he) hg (by decide) (by decide) he hpl
theorem intI_p  {z : Int} (hm : X.mg "int" = none) (ha : DE X W ds e (cI) (.ok z)) (hg : Gl X "int" := by rfl) (he : starEach (e :: []) X.env = (false, eval e X.env) :: starEach [] X.env := by rfl) (hpl : (backTo pos (starEach [] X.env)).any (·.1) = false := by rfl) : DE X W ds (.Call (.Name "int" p) [e] [] pos) cI (.ok z) := intI_m hm ha hg he hpl
theorem intB_m  {m : R (Bool)} (hm : X.mg "int" = none) (ha : DE X W ds e (cB) m) (hg : Gl X "int" := by rfl) (he : starEach (e :: []) X.env = (false, eval e X.env) :: starEach [] X.env := by rfl) (hpl : (backTo pos (starEach [] X.env)).any (·.1) = false := by rfl) : DE X W ds (.Call (.Name "int" p) [e] [] pos) cI (m >>= fun z => .ok (if z = true then 1 else 0)) := callTy (nm := "int") call_int1 cs_intB PyProof.Rows.boot_int hm (arg1 ha he) hg (by decide) (by decide) he hpl
theorem intB_p  {z : Bool} (hm : X.mg "int" = none) (ha : DE X W ds e (cB) (.ok z)) (hg : Gl X "int" := by rfl) (he : starEach (e :: []) X.env = (false, eval e X.env) :: starEach [] X.env := by rfl) (hpl : (backTo pos (starEach [] X.env)).any (·.1) = false := by rfl) : DE X W ds (.Call (.Name "int" p) [e] [] pos) cI (.ok (if z = true then 1 else 0)) := intB_m hm ha hg he hpl
theorem absI_m  {m : R (Int)} (hm : X.mg "abs" = none) (ha : DE X W ds e (cI) m) (hg : Gl X "abs" := by rfl) (he : starEach (e :: []) X.env = (false, eval e X.env) :: starEach [] X.env := by rfl) (hpl : (backTo pos (starEach [] X.env)).any (·.1) = false := by rfl) : DE X W ds (.Call (.Name "abs" p) [e] [] pos) cI (m >>= fun z => .ok (if z < 0 then -z else z)) := callB (nm := "abs") call_abs cs_abs boot_abs hm (arg1 ha he) hg (by decide) (by decide) he hpl
theorem absI_p  {z : Int} (hm : X.mg "abs" = none) (ha : DE X W ds e (cI) (.ok z)) (hg : Gl X "abs" := by rfl) (he : starEach (e :: []) X.env = (false, eval e X.env) :: starEach [] X.env := by rfl) (hpl : (backTo pos (starEach [] X.env)).any (·.1) = false := by rfl) : DE X W ds (.Call (.Name "abs" p) [e] [] pos) cI (.ok (if z < 0 then -z else z)) := absI_m hm ha hg he hpl
theorem max_p {x y : Int} (hc : X.calm = true) (hm : X.mg "max" = none) (ha : DE X W ds a cI (.ok x)) (hb : DE X W ds b cI (.ok y)) (hg : Gl X "max" := by rfl) (he : starEach (a :: [b]) X.env = (false, eval a X.env) :: starEach [b] X.env := by rfl) (he2 : starEach (b :: []) X.env = (false, eval b X.env) :: starEach [] X.env := by rfl) (hpl : (backTo pos (starEach [b] X.env)).any (·.1) = false := by rfl) : DE X W ds (.Call (.Name "max" p) [a, b] [] pos) cI (.ok (if y > x then y else x)) := callB (nm := "max") (call_max2 hc) cs_max PyProof.Rows.boot_max hm (argC_pp ha (arg1 hb he2) he) hg (by decide) (by decide) he hpl
theorem max_m {mx my : R Int} (hc : X.calm = true) (hm : X.mg "max" = none) (ha : DE X W ds a cI mx) (hb : DE X W ds b cI my) (hg : Gl X "max" := by rfl) (he : starEach (a :: [b]) X.env = (false, eval a X.env) :: starEach [b] X.env := by rfl) (he2 : starEach (b :: []) X.env = (false, eval b X.env) :: starEach [] X.env := by rfl) (hpl : (backTo pos (starEach [b] X.env)).any (·.1) = false := by rfl) : DE X W ds (.Call (.Name "max" p) [a, b] [] pos) cI ((mx >>= fun x => my >>= fun y => .ok (x, y)) >>= fun z => .ok (if z.2 > z.1 then z.2 else z.1)) := callB (nm := "max") (call_max2 hc) cs_max PyProof.Rows.boot_max hm (argC ha (arg1 hb he2) he) hg (by decide) (by decide) he hpl
theorem min_p {x y : Int} (hc : X.calm = true) (hm : X.mg "min" = none) (ha : DE X W ds a cI (.ok x)) (hb : DE X W ds b cI (.ok y)) (hg : Gl X "min" := by rfl) (he : starEach (a :: [b]) X.env = (false, eval a X.env) :: starEach [b] X.env := by rfl) (he2 : starEach (b :: []) X.env = (false, eval b X.env) :: starEach [] X.env := by rfl) (hpl : (backTo pos (starEach [b] X.env)).any (·.1) = false := by rfl) : DE X W ds (.Call (.Name "min" p) [a, b] [] pos) cI (.ok (if y < x then y else x)) := callB (nm := "min") (call_min2 hc) cs_min PyProof.Rows.boot_min hm (argC_pp ha (arg1 hb he2) he) hg (by decide) (by decide) he hpl
theorem min_m {mx my : R Int} (hc : X.calm = true) (hm : X.mg "min" = none) (ha : DE X W ds a cI mx) (hb : DE X W ds b cI my) (hg : Gl X "min" := by rfl) (he : starEach (a :: [b]) X.env = (false, eval a X.env) :: starEach [b] X.env := by rfl) (he2 : starEach (b :: []) X.env = (false, eval b X.env) :: starEach [] X.env := by rfl) (hpl : (backTo pos (starEach [b] X.env)).any (·.1) = false := by rfl) : DE X W ds (.Call (.Name "min" p) [a, b] [] pos) cI ((mx >>= fun x => my >>= fun y => .ok (x, y)) >>= fun z => .ok (if z.2 < z.1 then z.2 else z.1)) := callB (nm := "min") (call_min2 hc) cs_min PyProof.Rows.boot_min hm (argC ha (arg1 hb he2) he) hg (by decide) (by decide) he hpl
theorem gcd_p {x y : Int} (hm : X.mg "gcd" = some (.builtin "math.gcd")) (ha : DE X W ds a cI (.ok x)) (hb : DE X W ds b cI (.ok y)) (hg : Gl X "gcd" := by rfl) (he : starEach (a :: [b]) X.env = (false, eval a X.env) :: starEach [b] X.env := by rfl) (he2 : starEach (b :: []) X.env = (false, eval b X.env) :: starEach [] X.env := by rfl) (hpl : (backTo pos (starEach [b] X.env)).any (·.1) = false := by rfl) : DE X W ds (.Call (.Name "gcd" p) [a, b] [] pos) cI (.ok ((Int.gcd x y : Nat) : Int)) := callF (nm := "gcd") cr_gcd cs_gcd hm (argC_pp ha (arg1 hb he2) he) hg (by decide) he hpl
end
section
variable {X : Cx} {W : XK} {T : Bool} {ds : Env} {α β γ τ ν κ ω : Type} {e : Expr} {st : Stmt} {sts rest : List Stmt} {pos p : Pos} {c : Cd α} {cb : Cd β} {eN : ν → Env} {eK : κ → Env} {I : ω → Out β ν κ} {m : R α} {k : α → R ω} {n : R ω}
section
variable {t : Expr} {A B : List Stmt} {mt : R Bool} {nA nB : R ω}
/-- the first branch leaves, the second one comes to the rest -/
theorem ifAB {σ' : Type} {eJ : σ' → Env} {jB : R σ'} {kJ : σ' → R ω} (ht : DT X W ds t mt) (hA : DS X W true ds A cb eN eK I nA) (hB : DS X W false ds B cb eJ eK (fun s => (.nxt s : Out β σ' κ)) jB) (hr : ∀ s, DS X W T (eJ s) rest cb eN eK I (kJ s)) :
    DS X W T ds (.If t A B pos :: rest) cb eN eK I (mt >>= fun z => if z = true then nA else jB >>= kJ) := fun S0 H0 σ S H D nx h E P => by
  obtain ⟨tt, pt, qt⟩ := ht
  refine seq (ps_if pt pss_tS pss_tS) (qt S0 H0 σ S H _ E (stT E P fun z S' H' E' P' => ?_))
  cases z with
  | true => exact hA S0 H0 σ S' H' D _ (.inl rfl) E' P'
  | false => exact hB S0 H0 σ S' H' { D with nx := tS X rest { D with nx := nx } } _ (.inr rfl) E' (R.post_mono (R.post_bind.mp P') (fun s q σ2 S2 H2 E2 => hr s S0 H0 σ2 S2 H2 D nx h E2 q) (fun _ q => q))
theorem ifBA {σ' : Type} {eJ : σ' → Env} {jA : R σ'} {kJ : σ' → R ω} (ht : DT X W ds t mt) (hA : DS X W false ds A cb eJ eK (fun s => (.nxt s : Out β σ' κ)) jA) (hB : DS X W true ds B cb eN eK I nB) (hr : ∀ s, DS X W T (eJ s) rest cb eN eK I (kJ s)) :
    DS X W T ds (.If t A B pos :: rest) cb eN eK I (mt >>= fun z => if z = true then jA >>= kJ else nB) := fun S0 H0 σ S H D nx h E P => by
  obtain ⟨tt, pt, qt⟩ := ht
  refine seq (ps_if pt pss_tS pss_tS) (qt S0 H0 σ S H _ E (stT E P fun z S' H' E' P' => ?_))
  cases z with
  | true => exact hA S0 H0 σ S' H' { D with nx := tS X rest { D with nx := nx } } _ (.inr rfl) E' (R.post_mono (R.post_bind.mp P') (fun s q σ2 S2 H2 E2 => hr s S0 H0 σ2 S2 H2 D nx h E2 q) (fun _ q => q))
  | false => exact hB S0 H0 σ S' H' D _ (.inl rfl) E' P'
end
theorem app_p {x : Str} {p1 p2 p3 : Pos} {as : List α} {z : α} {k : List α → R ω} (i : Nat) (he : DE X W ds e c (.ok z)) (hr : ∀ zs, DS X W T (ds.put i (.mu α c zs)) rest cb eN eK I (k zs)) (hd : ds.get i = .mu α c as := by rfl) (hN : X.N[i]? = some x := by rfl)
    (hv : Vis X.env.scope x := by first | exact Or.inl rfl | exact Or.inr (Or.inl rfl) | exact Or.inr (Or.inr rfl)) (hdb : (x == ("__debug__" : Str)) = false := by decide) (hcd : (x == ("__classdict__" : Str)) = false := by decide)
    (hs : swapsWith (.Call (.Attribute (.Name x p1) "append" p2) [e] [] p3) none pos.line X.env = pure false := by rfl)
    (ho : starEach [e] X.env = (false, eval e X.env) :: starEach [] X.env := by rfl)
    (pb : ∀ {te : TE}, PE X e te → PE X (.Call (.Attribute (.Name x p1) "append" p2) [e] [] p3) (tBM X.K "list" rAppend (tVar i) (tCons te tNil)) := by
      intro te pe; exact pe_bm PySem.F.plainAttrs_list PySem.F.slot_list_append PySem.F.type_list_append mt_append (pv _) (pa_cons pe pa_nil)) :
    DS X W T ds (.Expr (.Call (.Attribute (.Name x p1) "append" p2) [e] [] p3) pos :: rest) cb eN eK I (appM as z >>= k) := app (m := .ok z) i he hr hd hN hv hdb hcd hs ho pb
end
end Zk
set_option maxHeartbeats 4000000
/-! # Zk: more statements, the head -/
namespace Zk
open PySem PySem.Spec PyProof.Rows L2
section
variable {X : Cx} {W : XK} {T : Bool} {ds : Env} {α β γ τ ν κ ω : Type} {a b : Expr} {e : Expr} {es : List Expr} {st : Stmt} {sts rest body : List Stmt} {pos p : Pos} {c : Cd α} {cb : Cd β} {eN : ν → Env} {eK : κ → Env} {I : ω → Out β ν κ} {m : R α} {k : α → R ω} {n : R ω} {tg iter : Expr} {mi : R (List α)}
/-- the slot's value is not None from here on -/
theorem narrow (i : Nat) {o : Option α} (hd : ds.get i = .st (Option α) (cO c) o := by rfl) (hr : ∀ z, DS X W T (ds.put i (.st α c z)) sts cb eN eK I (k z)) : DS X W T ds sts cb eN eK I (unO o >>= k) := fun S0 H0 σ S H D nx h E P => by
  cases o with
  | none => exact False.elim P
  | some z =>
    refine hr z S0 H0 σ S H D nx h ?_ P
    have hi : i < ds.length := by
      refine Nat.lt_of_not_le fun hl => ?_
      have e : ∀ (ds : Env) (i : Nat), ds.length ≤ i → ds.get i = .none := by
        intro ds
        induction ds with
        | nil => intro i _; rfl
        | cons d ds ih => intro i hi; cases i with
          | zero => exact absurd hi (by simp)
          | succ i => exact ih i (by simpa using hi)
      rw [e ds i hl] at hd
      cases hd
    obtain ⟨v, h1, h2⟩ := E.var hd
    refine ⟨by rw [Env.put_length, E.len], fun j => ?_, fun j k p mj mk => ?_, E.grow⟩
    · by_cases q : j = i
      · subst q
        rw [Env.get_put_same _ _ _ hi]
        exact ⟨v, h1, h2.2⟩
      · rw [Env.get_put_ne _ _ _ _ q]
        exact E.at_ j
    · have mm : ∀ j, isMu ((ds.put i (.st α c z)).get j) → isMu (ds.get j) := fun j m => by
        by_cases q : j = i
        · subst q
          rw [Env.get_put_same _ _ _ hi] at m
          exact m.elim
        · rw [Env.get_put_ne _ _ _ _ q] at m
          exact m
      exact E.sep j k p (mm j mj) (mm k mk)
/-! ### and, or of pure tests -/
theorem andW_q {x y : Bool} (ha : DT X W ds a (.ok x)) (hb : DW X W ds (.BoolOp .And (b :: es) pos) (.ok y)) : DW X W ds (.BoolOp .And (a :: b :: es) pos) (.ok (x && y)) := by
  have q := andW_p ha hb
  cases x <;> exact q
theorem orW_q {x y : Bool} (ha : DT X W ds a (.ok x)) (hb : DW X W ds (.BoolOp .Or (b :: es) pos) (.ok y)) : DW X W ds (.BoolOp .Or (a :: b :: es) pos) (.ok (x || y)) := by
  have q := orW_p ha hb
  cases x <;> exact q
theorem andV_q {x y : Bool} (ha : DE X W ds a cB (.ok x)) (hb : DE X W ds (.BoolOp .And (b :: es) pos) cB (.ok y)) : DE X W ds (.BoolOp .And (a :: b :: es) pos) cB (.ok (x && y)) := by
  have q := andV_p ha hb
  cases x <;> exact q
theorem orV_q {x y : Bool} (ha : DE X W ds a cB (.ok x)) (hb : DE X W ds (.BoolOp .Or (b :: es) pos) cB (.ok y)) : DE X W ds (.BoolOp .Or (a :: b :: es) pos) cB (.ok (x || y)) := by
  have q := orV_p ha hb
  cases x <;> exact q
/-! ### loops that may leave -/
def Out.up {β ν κ : Type} : Out Empty ν κ → Out β ν κ
  | .nxt s => .nxt s
  | .brk s => .brk s
  | .ctn s => .ctn s
  | .ret b => nomatch b
def loopB {S : Type} (step : S → α → R (Out Empty S S)) : List α → S → R S
  | [], s => .ok s
  | x :: xs, s => step s x >>= fun o => match o with
    | .nxt s' => loopB step xs s'
    | .ctn s' => loopB step xs s'
    | .brk s' => .ok s'
    | .ret b => nomatch b
theorem forB {σ' : Type} {eL : σ' → Env} {eB : σ' → α → Env} {step : σ' → α → R (Out Empty σ' σ')} {s0 : σ'} {k : σ' → R ω} (hc : X.calm = true) (hp : PassesOwn (model X.prog X.w) X.A X.env X.xe) (hi : DI X W ds tg iter c mi) (hg : DG X tg c eL eB) (l : EnvLe ds (eL s0))
    (hb : ∀ s a, DS X W false (eB s a) body cb eL eL (fun o => (Out.up o : Out β σ' σ')) (step s a)) (hr : ∀ s, DS X W T (eL s) rest cb eN eK I (k s)) (hs : ∀ x, foldedSetIterable iter X.env x = pure x := by intro _; rfl) :
    DS X W T ds (.For tg iter body [] pos :: rest) cb eN eK I (mi >>= fun as => loopB step as s0 >>= k) := fun S0 H0 σ S H D nx h E P => by
  obtain ⟨wi, pi, qi⟩ := hi
  obtain ⟨g, pg, qg⟩ := hg
  refine seq (ps_for hp hc pi pg pss_tS hs) (qi S0 H0 σ S H _ E (R.post_mono (R.post_bind.mp P) (fun as q J S' H' gr hJ => ?_) (fun x q cl d S' H' gr r => q cl d S' H' (E.grow.trans gr) r)))
  refine for_any eL (fun as s => (loopB step as s >>= k).post (fun w => OutP X.K S0 H0 cb eN eK D (I w)) (EX X.K W S0 H0)) hJ s0 S' (.refl _) ((E.step gr).le l) q (fun a r s σ2 S2 H2 v N hC E2 r2 hN => ?_) (fun s σ2 S2 H2 hC E2 => ?_)
  · refine qg s a v S0 H0 σ2 S2 H2 _ E2 r2 fun σ3 E3 => ?_
    have hC' : (step s a >>= fun o => (match o with
      | .nxt s' => loopB step r s'
      | .ctn s' => loopB step r s'
      | .brk s' => .ok s'
      | .ret b => nomatch b) >>= k).post (fun w => OutP X.K S0 H0 cb eN eK D (I w)) (EX X.K W S0 H0) := by rw [← R.bind_assoc]; exact hC
    refine hb s a S2 H0 σ3 S2 H2 { D with nx := N, ct := N, bk := tS X rest { D with nx := nx } } N (.inr rfl) E3.rebase (R.post_mono (R.post_bind.mp hC') (fun o q' => ?_) (fun _ q' => q'.rebase E3.grow))
    cases o with
    | nxt s' => exact fun σ4 S4 H4 E4 => hN s' σ4 S4 H4 q' E4.grow.st (E4.unbase E3.grow)
    | ctn s' => exact fun σ4 S4 H4 E4 => hN s' σ4 S4 H4 q' E4.grow.st (E4.unbase E3.grow)
    | brk s' => exact fun σ4 S4 H4 E4 => hr s' S0 H0 σ4 S4 H4 D nx h (E4.unbase E3.grow) q'
    | ret b => exact nomatch b
  · exact hr s S0 H0 σ2 S2 H2 D nx h E2 hC
@[reducible] def End.cs {S β ω : Type} (f : S → R ω) (g : β → R ω) : End S β → R ω
  | .go s => f s
  | .out b => g b
/-- items and length of a list that still changes -/
theorem lenMu {x : Str} {p1 : Pos} {as : List α} (i : Nat) (hm : X.mg "len" = none) (hd : ds.get i = .mu α c as := by rfl) (hN : X.N[i]? = some x := by rfl) (hv : Vis X.env.scope x := by first | exact Or.inl rfl | exact Or.inr (Or.inl rfl) | exact Or.inr (Or.inr rfl))
    (hdb : (x == ("__debug__" : Str)) = false := by decide) (hcd : (x == ("__classdict__" : Str)) = false := by decide) (hg : Gl X "len" := by rfl) (he : starEach (.Name x p1 :: []) X.env = (false, eval (.Name x p1) X.env) :: starEach [] X.env := by rfl) (hpl : (backTo pos (starEach [] X.env)).any (·.1) = false := by rfl) :
    DE X W ds (.Call (.Name "len" p) [.Name x p1] [] pos) cI (.ok ((as.length : Nat) : Int)) :=
  ⟨_, pe_callB call_len_seq hg hm PySem.boot_len (pa_cons (pe_var hN hv hdb hcd) pa_nil he) (by decide) (by decide) he hpl, fun S0 H0 σ S H Q E P => by
    obtain ⟨l, vs, h1, h2, h3, h4, h5⟩ := E.muv hd
    refine ⟨.ref l, h1, l, vs, rfl, .inl (SqL.of h4), P.ok E.inn ?_⟩
    show V.int _ = V.int _
    rw [h5.length]⟩
theorem ixMu {x : Str} {p1 : Pos} {as : List α} {mj : R Int} (i : Nat) (hb : DE X W ds b cI mj) (hd : ds.get i = .mu α c as := by rfl) (hN : X.N[i]? = some x := by rfl) (hv : Vis X.env.scope x := by first | exact Or.inl rfl | exact Or.inr (Or.inl rfl) | exact Or.inr (Or.inr rfl))
    (hdb : (x == ("__debug__" : Str)) = false := by decide) (hcd : (x == ("__classdict__" : Str)) = false := by decide) (hp : PlainIx b := by exact fun _ _ => rfl) :
    DE X W ds (.Subscript (.Name x p1) b pos) c (mj >>= fun j => getM as j) := by
  obtain ⟨tb, pb, qb⟩ := hb
  refine ⟨_, pe_ix ix_list (pe_var hN hv hdb hcd) pb hp, fun S0 H0 σ S H Q E P => ?_⟩
  obtain ⟨l, vs, h1, h2, h3, h4, h5⟩ := E.muv hd
  refine ⟨.ref l, h1, qb S0 H0 σ S H _ E (P.bind fun j u S1 H1 g r P1 => ?_)⟩
  unfold getM at P1
  cases q : atI as j with
  | none =>
    rw [q] at P1
    exact P1.elim
  | some z =>
    rw [q] at P1
    obtain ⟨w, k1, k2⟩ := reps_at h5 q
    exact ⟨l, vs, j, w, rfl, r, SqL.of (g.ex _ _ h4), k1, P1.ok g.inn (c.mono g.st k2)⟩
theorem ixMu_p {x : Str} {p1 : Pos} {as : List α} {j : Int} (i : Nat) (hb : DE X W ds b cI (.ok j)) (hd : ds.get i = .mu α c as := by rfl) (hN : X.N[i]? = some x := by rfl) (hv : Vis X.env.scope x := by first | exact Or.inl rfl | exact Or.inr (Or.inl rfl) | exact Or.inr (Or.inr rfl))
    (hdb : (x == ("__debug__" : Str)) = false := by decide) (hcd : (x == ("__classdict__" : Str)) = false := by decide) (hp : PlainIx b := by exact fun _ _ => rfl) :
    DE X W ds (.Subscript (.Name x p1) b pos) c (getM as j) := ixMu i hb hd hN hv hdb hcd hp
end
/-! ### the head -/
/-- names of the module that hold these very values -/
def heldB (vs : List (Str × Value)) (K : PySem.W.Frag) : Bool := vs.all fun q => He.eqO (PySem.W.nsIn K mainGlobals q.1) (some (some q.2))
def obsZ (n : Nat) (fa : List He.Fa) (fn : List He.DefD) (ex : PySem.W.Frag → Bool) (g : Addr → Option Obj) : He.AlD × Bool := (He.obsDG n fa fn g, ex (He.frG g (He.asD g n)))
def hookZ (n : Nat) (fa : List He.Fa) (fn : List He.DefD) (ex : PySem.W.Frag → Bool) : PySem.W.Hook where
  α := He.AlD × Bool
  obs := fun s => obsZ n fa fn ex s.heap.get?
  val := fun _ => (He.valD fn, true)
  says := fun _ h => ∃ K : PySem.W.Frag, K.In h ∧ He.SaysD fa fn K ∧ ex K = true
  of := fun _ _ e => ⟨_, He.frG_in, congrArg (fun z : He.AlD × Bool => z.1) e, congrArg (fun z : He.AlD × Bool => z.2) e⟩
  keeps := fun _ _ _ ⟨K, hK, c⟩ k => ⟨K, PySem.W.Frag.In.keeps hK k, c⟩
theorem obsZ_eq {n : Nat} {fa : List He.Fa} {fn : List He.DefD} {ex : PySem.W.Frag → Bool} {g : Addr → Option Obj} {s : Shared} (h : ∀ a, g a = s.heap.get? a) : obsZ n fa fn ex g = (hookZ n fa fn ex).obs s := by
  have e : g = s.heap.get? := funext h
  rw [e] <;> rfl
/-- what stands behind the top -/
structure Glb (fa : List He.Fa) (fn : List He.DefD) (ex : PySem.W.Frag → Bool) (K : PySem.W.Frag) (mg : Str → Option Value) (base : Heap) : Prop where
  X : K.In base
  G : base.Ns mainGlobals mg
  c : He.SaysD fa fn K
  e : ex K = true
section
variable {fa : List He.Fa} {fn : List He.DefD} {ex : PySem.W.Frag → Bool} {K : PySem.W.Frag} {mg : Str → Option Value} {base : Heap}
theorem Glb.free (T : Glb fa fn ex K mg base) (i : Nat) {x : Str} (h : fa[i]? = some (.free x) := by rfl) : mg x = none := He.free_ok T.X T.G (T.c.fact i h)
theorem Glb.glo (T : Glb fa fn ex K mg base) (i : Nat) {x : Str} (h : fa[i]? = some (.glo x) := by rfl) : mg x = some (.ref (He.ga K x)) := He.glo_ok T.X T.G (T.c.fact i h)
theorem Glb.held {vs : List (Str × Value)} (T : Glb fa fn (heldB vs) K mg base) (i : Nat) {x : Str} {v : Value} (h : vs[i]? = some (x, v) := by rfl) : mg x = some v :=
  PySem.W.mg_of T.X T.G (He.eqO_ok (List.all_eq_true.mp T.e (x, v) (List.mem_of_getElem? h)))
end
/-- a law's script -/
theorem reps_ints {K : PySem.W.Frag} {H : Hp} : ∀ ns : List Int, Reps cI K H (ns.map V.int) ns
  | [] => trivial
  | _ :: ns => ⟨rfl, reps_ints ns⟩
theorem law_sp {K : PySem.W.Frag} {F : List Int → R Bool} {n : Nat} (hF : ∀ ns : List Int, ns.length ≤ n → F ns = .ok true) (H : Hp) (a : Addr) (ns : List Int) (hl : ns.length ≤ n) (hS : SqL K H a (ns.map V.int)) : spF K (aOne (cL cI)) cB F [.ref a] H (fun v _ => v = .bl true) fun _ _ _ => False := by
  refine ⟨H, ns, .refl H, ⟨.ref a, rfl, a, ns.map V.int, rfl, hS, reps_ints ns⟩, ?_⟩
  rw [hF ns hl]
  exact fun v S' H' g r => r
/-- the end of a law whose defs may raise within -/
theorem law_end {l : PySem.W.OpenLaw} {m k : Nat} {q : Program} {loose : List Str} {XP : (Str → Option Value) → Heap → Prop} {YP : World → Heap → Prop} {d : DefRec} {x : Str} (h1 : l.most = some m) (h2 : m ≤ sizeLine) (h3 : d.params.defaults = []) (room : Room k callerA)
    (F : ∀ (w : World) (mg : Str → Option Value) (fa : Addr) (h : Heap), YP w h → h.Ns mainGlobals mg → mg d.name = some (.ref fa) → ∃ (K : PySem.W.Frag) (fd : FuncData) (sp : Sp), K.In h ∧ (∀ (s : Shared) (u : Value), BindsTo s fd ⟨[u], []⟩ [(x, u)]) ∧
      (∀ (H : Hp) (a : Addr) (ns : List Int), ns.length ≤ m → SqL K H a (ns.map V.int) → sp [.ref a] H (fun v _ => v = .bl true) fun _ _ _ => False) ∧ ∀ base : Heap, K.In base → base.Ns mainGlobals mg → FnOk l.prog w K mg base (L2.CX l.prog w) k fa fd [x] sp) :
    PySem.W.WalkO q loose XP YP l.row.toRowW d [] (fun f vs => PySem.call f vs) := by
  refine Att.attach_call h1 h3 fun w _ s mg _ fa _ _ _ _ a _ ns G Y _ _ _ named obj hin hlen glob => ?_
  obtain ⟨K, fd, sp, inK, binds, start, keeps⟩ := F w mg fa _ Y G.T.g named
  refine law_call inK G.T.g G.T.b G.T.builtins G.T.nolimit glob obj hin (Nat.le_trans hlen h2) room keeps binds (fun H _ hS => start H a ns hlen hS) fun H e s2 z => ?_
  obtain ⟨_, _, _, _, _, _, _, _, _, _, _, _, no⟩ := z
  exact no.elim
end Zk
set_option maxHeartbeats 4000000
/-! # Zk: the mathematics of the helpers that every law has -/
namespace Zk
open PySem
theorem log2_le {n a : Nat} (h : n < 2 ^ a) : n.log2 ≤ a := by
  by_cases h0 : n = 0
  · subst h0
    exact Nat.le_trans (by decide) (Nat.zero_le a)
  · exact Nat.le_of_lt ((Nat.log2_lt h0).mpr h)
theorem mulM_ok {x y : Int} (a b : Nat) (hx : x.natAbs < 2 ^ a) (hy : y.natAbs < 2 ^ b) (h : a + b < 100000000 := by decide) : mulM x y = .ok (x * y) := by
  have h1 := log2_le hx
  have h2 := log2_le hy
  unfold mulM
  refine R.guard_ok (decide_eq_true ?_)
  omega
theorem mulM_lt {x y : Int} (h1 : x.natAbs < 2 ^ 40000000) (h2 : y.natAbs < 2 ^ 40000000) : mulM x y = .ok (x * y) := mulM_ok _ _ h1 h2
theorem modM_ok {x y : Int} (h : y ≠ 0) : modM x y = .ok (x.fmod y) := R.guard_ok h
theorem fdivM_ok {x y : Int} (h : y ≠ 0) (hb : y.natAbs.log2 < 9000) : fdivM x y = .ok (x.fdiv y) := R.guard_ok ⟨h, PyProof.noPylong_of_log2 hb⟩
theorem fdivM_sm {x y : Int} (h : y ≠ 0) (hb : y.natAbs < 1073741824) : fdivM x y = .ok (x.fdiv y) := R.guard_ok ⟨h, PyProof.noPylong_small hb⟩
theorem appM_ok {α : Type} {xs : List α} {x : α} (h : xs.length < 16000000) : appM xs x = .ok (xs ++ [x]) := R.guard_ok h
theorem rngM_ok {lo hi : Int} (h1 : -(2 ^ 62) ≤ lo) (h2 : lo < 2 ^ 62) (h3 : -(2 ^ 62) ≤ hi) (h4 : hi < 2 ^ 62) : rngM lo hi = .ok (rangeL lo (hi - lo).toNat) := R.guard_ok ⟨h1, h2, h3, h4⟩
theorem atI_natZ {α : Type} {xs : List α} {i : Nat} {z : α} (h : xs[i]? = some z) : L2.atI xs (i : Int) = some z := L2.atI_nat h
theorem getM_nat {α : Type} {xs : List α} {i : Nat} {z : α} (h : xs[i]? = some z) : getM xs (i : Int) = .ok z := by
  unfold getM
  rw [L2.atI_nat h]
theorem getM_of {α : Type} {xs : List α} {j : Int} {i : Nat} {z : α} (e : j = (i : Int)) (h : xs[i]? = some z) : getM xs j = .ok z := by
  rw [e]; exact getM_nat h
theorem fmod_pos {x y : Int} (h : 0 < y) : 0 ≤ x.fmod y ∧ x.fmod y < y := by
  rw [Int.fmod_eq_emod_of_nonneg x (Int.le_of_lt h)]
  exact ⟨Int.emod_nonneg x (by omega), Int.emod_lt_of_pos x h⟩
/-! ### folds -/
theorem foldR_inv {α S : Type} {step : S → α → R S} (C : Nat → S → Prop) : ∀ (xs : List α) (i : Nat) (s : S), C i s → (∀ j s x, C j s → xs[j - i]? = some x → i ≤ j → ∃ s', step s x = .ok s' ∧ C (j + 1) s') → ∃ s', foldR step xs s = .ok s' ∧ C (i + xs.length) s'
  | [], i, s, h, _ => ⟨s, rfl, h⟩
  | x :: xs, i, s, h, st => by
    obtain ⟨s1, e1, c1⟩ := st i s x h (by rw [Nat.sub_self]; rfl) (Nat.le_refl _)
    obtain ⟨s2, e2, c2⟩ := foldR_inv C xs (i + 1) s1 c1 (fun j s y c hy hj => st j s y c (by
      have e : j - i = (j - (i + 1)) + 1 := by omega
      rw [e]
      exact hy) (by omega))
    refine ⟨s2, ?_, by rw [List.length_cons]; have e : i + (xs.length + 1) = i + 1 + xs.length := by omega
                       rw [e]; exact c2⟩
    show (step s x >>= fun s' => foldR step xs s') = _
    rw [e1]
    exact e2
/-! ### the helpers' mirrors -/
def law_cell (script : (List Int)) (k : Int) : R Int :=
  (if (decide (k < ((script.length : Nat) : Int))) = true then
    (getM script k)
  else
    R.ok (17 : Int) >>= fun (seed : Int) =>
    R.ok script >>= fun as => foldR (fun (s1 : Int) (cell : Int) => (((((mulM s1 (31 : Int)) >>= fun x2 => (modM cell (1000003 : Int)) >>= fun y3 => R.ok ((x2 + y3))) >>= fun z => R.ok z) >>= fun x4 => (modM x4 (1000003 : Int))) >>= fun (seed : Int) =>
      R.ok seed : R Int)) as seed >>= fun (s5 : Int) =>
    ((((mulM (s5 + (7 : Int)) (k + (3 : Int))) >>= fun x6 => (mulM x6 (69621 : Int))) >>= fun z => R.ok z) >>= fun x7 => (modM x7 (2147483647 : Int))))
def law_digits (cell : Int) (sizes : (List Int)) : R (List Int) :=
  R.ok ([] : List Int) >>= fun (row : List Int) =>
  R.ok cell >>= fun (rest : Int) =>
  (((powM (10 : Int) (18 : Int)) >>= fun y1 => R.ok ((decide (y1 ≤ rest)))) >>= fun z18 => if z18 = true then
    ((powM (10 : Int) (18 : Int)) >>= fun y2 => R.ok ((rest - y2))) >>= fun (rest : Int) =>
    R.ok sizes >>= fun as => foldR (fun (s3 : ((List Int) × Int)) (size : Int) => ((modM s3.2 size) >>= fun z4 => appM s3.1 z4 >>= fun (row : List Int) =>
      (fdivM s3.2 size) >>= fun (rest : Int) =>
      R.ok (row, rest) : R ((List Int) × Int))) as (row, rest) >>= fun (s5 : ((List Int) × Int)) =>
    R.ok s5.1
  else
    (modM rest (2147483629 : Int)) >>= fun (seed : Int) =>
    rngM 0 (((sizes.length : Nat) : Int)) >>= fun as => foldR (fun (s6 : (Int × (List Int))) (k : Int) => ((((((mulM s6.1 (48271 : Int)) >>= fun x7 => (mulM (974711 : Int) k) >>= fun y8 => R.ok ((x7 + y8))) >>= fun x9 => R.ok ((x9 + (12345 : Int)))) >>= fun z => R.ok z) >>= fun x10 => (modM x10 (2147483647 : Int))) >>= fun (seed : Int) =>
      (((((fdivM seed (65537 : Int)) >>= fun x11 => R.ok ((x11 + (3 : Int)))) >>= fun y12 => (mulM seed y12)) >>= fun z => R.ok z) >>= fun x13 => (modM x13 (2147483629 : Int))) >>= fun (twice : Int) =>
      ((fdivM twice (19 : Int)) >>= fun x14 => (getM sizes k) >>= fun y15 => (modM x14 y15)) >>= fun z16 => appM s6.2 z16 >>= fun (row : List Int) =>
      R.ok (seed, row) : R (Int × (List Int)))) as (seed, row) >>= fun (s17 : (Int × (List Int))) =>
    R.ok s17.2)
def law_gcd (one : Int) (two : Int) : R Int :=
  R.ok (if one < 0 then -one else one) >>= fun (one : Int) =>
  R.ok (if two < 0 then -two else two) >>= fun (two : Int) =>
  rngM 0 ((100000 : Int)) >>= fun as => loopB (fun (s1 : (Int × Int)) (turn : Int) => ((if (decide (s1.2 = (0 : Int))) = true then
      R.ok (.brk (s1.1, s1.2))
    else
      (modM s1.1 s1.2) >>= fun (rest : Int) =>
      R.ok s1.2 >>= fun (one : Int) =>
      R.ok rest >>= fun (two : Int) =>
      R.ok (.nxt (one, two))) : R (Out Empty (Int × Int) (Int × Int)))) as (one, two) >>= fun (s2 : (Int × Int)) =>
  R.ok s2.1
/-! ### a cell is some number -/
theorem law_cell_ok (script : List Int) (k : Nat) (hk : k ≤ 100000) : ∃ v, law_cell script (k : Int) = .ok v := by
  unfold law_cell
  by_cases h : (k : Int) < ((script.length : Nat) : Int)
  · rw [if_pos (decide_eq_true h)]
    have hk2 : k < script.length := by omega
    exact ⟨_, getM_nat (List.getElem?_eq_getElem hk2)⟩
  · rw [if_neg (by rw [decide_eq_false h]; exact Bool.false_ne_true)]
    obtain ⟨s, e, c⟩ := foldR_inv (step := fun (s1 : Int) (cell : Int) => (((((mulM s1 (31 : Int)) >>= fun x2 => (modM cell (1000003 : Int)) >>= fun y3 => R.ok ((x2 + y3))) >>= fun z => R.ok z) >>= fun x4 => (modM x4 (1000003 : Int))) >>= fun (seed : Int) => R.ok seed : R Int))
      (fun _ s => 0 ≤ s ∧ s < 1000003) script 0 17 ⟨by decide, by decide⟩ (fun j s x c _ _ => by
        have m1 : mulM s 31 = .ok (s * 31) := mulM_ok 20 5 (by omega) (by decide)
        have m2 : modM x 1000003 = .ok (x.fmod 1000003) := modM_ok (by decide)
        have m3 : modM (s * 31 + x.fmod 1000003) 1000003 = .ok ((s * 31 + x.fmod 1000003).fmod 1000003) := modM_ok (by decide)
        refine ⟨(s * 31 + x.fmod 1000003).fmod 1000003, ?_, fmod_pos (by decide)⟩
        simp only [m1, m2, m3, R.ok_bind])
    have m1 : mulM (s + 7) ((k : Int) + 3) = .ok ((s + 7) * ((k : Int) + 3)) := mulM_ok 21 20 (by omega) (by omega)
    have hb : ((s + 7) * ((k : Int) + 3)).natAbs < 2 ^ 41 := by
      have h1 : (s + 7).natAbs < 2 ^ 21 := by omega
      have h2 : ((k : Int) + 3).natAbs < 2 ^ 20 := by omega
      exact L2.wide_lt h1 h2
    have m2 : mulM ((s + 7) * ((k : Int) + 3)) 69621 = .ok ((s + 7) * ((k : Int) + 3) * 69621) := mulM_ok 41 17 hb (by decide)
    have m3 : modM ((s + 7) * ((k : Int) + 3) * 69621) 2147483647 = .ok (((s + 7) * ((k : Int) + 3) * 69621).fmod 2147483647) := modM_ok (by decide)
    refine ⟨((s + 7) * ((k : Int) + 3) * 69621).fmod 2147483647, ?_⟩
    simp only [R.ok_bind]
    rw [e]
    simp only [R.ok_bind, m1, m2, m3]
/-! ### digits: as many numbers as sizes, each below its size -/
def Digs (sizes row : List Int) : Prop := row.length = sizes.length ∧ ∀ (i : Nat) (s : Int), sizes[i]? = some s → ∃ d : Int, row[i]? = some d ∧ 0 ≤ d ∧ d < s
theorem digs_step {sizes row : List Int} {j : Nat} {s d : Int} (hl : row.length = j) (h : ∀ (i : Nat) (z : Int), i < j → sizes[i]? = some z → ∃ d : Int, row[i]? = some d ∧ 0 ≤ d ∧ d < z) (hs : sizes[j]? = some s) (hd : 0 ≤ d ∧ d < s) :
    (row ++ [d]).length = j + 1 ∧ ∀ (i : Nat) (z : Int), i < j + 1 → sizes[i]? = some z → ∃ d' : Int, (row ++ [d])[i]? = some d' ∧ 0 ≤ d' ∧ d' < z := by
  refine ⟨by rw [List.length_append, hl]; rfl, fun i z hi hz => ?_⟩
  by_cases e : i = j
  · subst e
    rw [hs] at hz
    cases hz
    refine ⟨d, ?_, hd⟩
    rw [List.getElem?_append_right (by omega), hl, Nat.sub_self]
    rfl
  · obtain ⟨d', e1, e2⟩ := h i z (by omega) hz
    refine ⟨d', ?_, e2⟩
    rw [List.getElem?_append_left (by omega)]
    exact e1
theorem law_digits_ok (cell : Int) (sizes : List Int) (hl : sizes.length ≤ 1000) (hs : ∀ z ∈ sizes, 0 < z ∧ z.natAbs.log2 < 9000) : ∃ row, law_digits cell sizes = .ok row ∧ Digs sizes row := by
  have p18 : powM (10 : Int) (18 : Int) = .ok 1000000000000000000 := R.guard_ok ⟨by decide, by decide, by decide⟩
  unfold law_digits
  simp only [R.ok_bind, p18]
  by_cases h : (1000000000000000000 : Int) ≤ cell
  · rw [if_pos (decide_eq_true h)]
    obtain ⟨s, e, c⟩ := foldR_inv (step := fun (s3 : ((List Int) × Int)) (size : Int) => ((modM s3.2 size) >>= fun z4 => appM s3.1 z4 >>= fun (row : List Int) => (fdivM s3.2 size) >>= fun (rest : Int) => R.ok (row, rest) : R ((List Int) × Int)))
      (fun j s => s.1.length = j ∧ j ≤ sizes.length ∧ ∀ (i : Nat) (z : Int), i < j → sizes[i]? = some z → ∃ d : Int, s.1[i]? = some d ∧ 0 ≤ d ∧ d < z) sizes 0 ([], cell - 1000000000000000000) ⟨rfl, Nat.zero_le _, fun i z hi => absurd hi (Nat.not_lt_zero i)⟩ (fun j s x c hx _ => by
        obtain ⟨c1, c2, c3⟩ := c
        rw [Nat.sub_zero] at hx
        obtain ⟨p1, p2⟩ := hs x (List.mem_of_getElem? hx)
        have hj : j < sizes.length := (List.getElem?_eq_some_iff.mp hx).1
        obtain ⟨k1, k2⟩ := digs_step c1 c3 hx (fmod_pos (x := s.2) p1)
        refine ⟨(s.1 ++ [s.2.fmod x], s.2.fdiv x), ?_, k1, hj, k2⟩
        rw [modM_ok (by omega)]
        simp only [R.ok_bind]
        rw [appM_ok (by omega)]
        simp only [R.ok_bind]
        rw [fdivM_ok (by omega) p2]
        rfl)
    refine ⟨s.1, ?_, ?_, ?_⟩
    · exact (congrArg (fun m : R (List Int × Int) => m >>= fun s5 => R.ok s5.1) e).trans rfl
    · rw [c.1, Nat.zero_add]
    · intro i z hz
      exact c.2.2 i z (by rw [Nat.zero_add]; exact (List.getElem?_eq_some_iff.mp hz).1) hz
  · rw [if_neg (by rw [decide_eq_false h]; exact Bool.false_ne_true)]
    rw [modM_ok (by decide)]
    simp only [R.ok_bind]
    rw [rngM_ok (by decide) (by decide) (by omega) (by omega)]
    simp only [R.ok_bind]
    have hn : (((sizes.length : Nat) : Int) - 0).toNat = sizes.length := by omega
    rw [hn]
    have h0 := fmod_pos (x := cell) (y := 2147483629) (by decide)
    obtain ⟨s, e, c⟩ := foldR_inv (step := fun (s6 : (Int × (List Int))) (k : Int) => ((((((mulM s6.1 (48271 : Int)) >>= fun x7 => (mulM (974711 : Int) k) >>= fun y8 => R.ok ((x7 + y8))) >>= fun x9 => R.ok ((x9 + (12345 : Int)))) >>= fun z => R.ok z) >>= fun x10 => (modM x10 (2147483647 : Int))) >>= fun (seed : Int) =>
      (((((fdivM seed (65537 : Int)) >>= fun x11 => R.ok ((x11 + (3 : Int)))) >>= fun y12 => (mulM seed y12)) >>= fun z => R.ok z) >>= fun x13 => (modM x13 (2147483629 : Int))) >>= fun (twice : Int) =>
      ((fdivM twice (19 : Int)) >>= fun x14 => (getM sizes k) >>= fun y15 => (modM x14 y15)) >>= fun z16 => appM s6.2 z16 >>= fun (row : List Int) =>
      R.ok (seed, row) : R (Int × (List Int))))
      (fun j s => (0 ≤ s.1 ∧ s.1 < 2147483647) ∧ s.2.length = j ∧ j ≤ sizes.length ∧ ∀ (i : Nat) (z : Int), i < j → sizes[i]? = some z → ∃ d : Int, s.2[i]? = some d ∧ 0 ≤ d ∧ d < z) (rangeL 0 sizes.length) 0 (cell.fmod 2147483629, []) ⟨⟨h0.1, by omega⟩, rfl, Nat.zero_le _, fun i z hi => absurd hi (Nat.not_lt_zero i)⟩ (fun j s x c hx _ => by
        obtain ⟨⟨b1, b2⟩, c1, c2, c3⟩ := c
        rw [Nat.sub_zero] at hx
        have hj : j < sizes.length := by
          have q := (List.getElem?_eq_some_iff.mp hx).1
          rw [rangeL_length] at q
          exact q
        rw [rangeL_get 0 sizes.length j hj] at hx
        have ex : x = (j : Int) := by
          have q := Option.some.inj hx
          omega
        subst ex
        have hz := List.getElem?_eq_getElem hj
        obtain ⟨p1, p2⟩ := hs sizes[j] (List.getElem_mem hj)
        have f1 := fmod_pos (x := s.1 * 48271 + 974711 * (j : Int) + 12345) (y := 2147483647) (by decide)
        have q1 : ((s.1 * 48271 + 974711 * (j : Int) + 12345).fmod 2147483647).natAbs < 2 ^ 31 := by omega
        have q2 : (((s.1 * 48271 + 974711 * (j : Int) + 12345).fmod 2147483647).fdiv 65537 + 3).natAbs < 2 ^ 32 := by
          rw [Int.fdiv_eq_ediv_of_nonneg _ (by decide)]
          omega
        obtain ⟨k1, k2⟩ := digs_step (d := ((((s.1 * 48271 + 974711 * (j : Int) + 12345).fmod 2147483647) * (((s.1 * 48271 + 974711 * (j : Int) + 12345).fmod 2147483647).fdiv 65537 + 3)).fmod 2147483629 |>.fdiv 19).fmod sizes[j]) c1 c3 hz (fmod_pos p1)
        refine ⟨((s.1 * 48271 + 974711 * (j : Int) + 12345).fmod 2147483647, s.2 ++ [((((s.1 * 48271 + 974711 * (j : Int) + 12345).fmod 2147483647) * (((s.1 * 48271 + 974711 * (j : Int) + 12345).fmod 2147483647).fdiv 65537 + 3)).fmod 2147483629 |>.fdiv 19).fmod sizes[j]]), ?_, ⟨f1.1, f1.2⟩, k1, hj, k2⟩
        rw [mulM_ok 31 16 (by omega) (by decide)]
        simp only [R.ok_bind]
        rw [mulM_ok 20 10 (by decide) (by omega)]
        simp only [R.ok_bind]
        rw [modM_ok (by decide)]
        simp only [R.ok_bind]
        rw [fdivM_sm (by decide) (by decide)]
        simp only [R.ok_bind]
        rw [mulM_ok 31 32 q1 q2]
        simp only [R.ok_bind]
        rw [modM_ok (by decide)]
        simp only [R.ok_bind]
        rw [fdivM_sm (by decide) (by decide)]
        simp only [R.ok_bind]
        rw [getM_nat hz]
        simp only [R.ok_bind]
        rw [modM_ok (by omega)]
        simp only [R.ok_bind]
        rw [appM_ok (by omega)]
        rfl)
    rw [rangeL_length] at c
    refine ⟨s.2, ?_, ?_, ?_⟩
    · exact (congrArg (fun m : R (Int × List Int) => m >>= fun s5 => R.ok s5.2) e).trans rfl
    · rw [c.2.1, Nat.zero_add]
    · intro i z hz
      exact c.2.2.2 i z (by rw [Nat.zero_add]; exact (List.getElem?_eq_some_iff.mp hz).1) hz
/-! ### gcd -/
def gstep (s1 : Int × Int) (turn : Int) : R (Out Empty (Int × Int) (Int × Int)) := ((if (decide (s1.2 = (0 : Int))) = true then
      R.ok (.brk (s1.1, s1.2))
    else
      (modM s1.1 s1.2) >>= fun (rest : Int) =>
      R.ok s1.2 >>= fun (one : Int) =>
      R.ok rest >>= fun (two : Int) =>
      R.ok (.nxt (one, two))) : R (Out Empty (Int × Int) (Int × Int)))
theorem gstop (x : Int) (as : List Int) (a : Int) : loopB gstep (x :: as) (a, 0) = .ok (a, 0) := rfl
theorem gturn (x : Int) (as : List Int) (a b : Nat) (hb : b ≠ 0) : loopB gstep (x :: as) ((a : Int), (b : Int)) = loopB gstep as ((b : Int), ((a % b : Nat) : Int)) := by
  have hb' : ¬ ((b : Int) = 0) := by omega
  have e : gstep ((a : Int), (b : Int)) x = .ok (.nxt ((b : Int), ((a % b : Nat) : Int))) := by
    unfold gstep
    simp only [decide_eq_false hb', Bool.false_eq_true, if_false]
    rw [modM_ok hb', Int.fmod_eq_emod_of_nonneg _ (Int.natCast_nonneg b)]
    rfl
  conv => lhs; unfold loopB
  rw [e]
  rfl
theorem gcd_loop : ∀ (n : Nat) (as : List Int) (a b : Nat), b < 2 ^ n → 2 * n + 1 ≤ as.length → loopB gstep as ((a : Int), (b : Int)) = .ok ((Nat.gcd a b : Int), 0) := by
  intro n
  induction n with
  | zero =>
    intro as a b hb hl
    match as, hl with
    | x :: as, _ =>
      have e : b = 0 := by omega
      subst e
      rw [Nat.gcd_zero_right]
      exact gstop x as a
  | succ n ih =>
    intro as a b hb hl
    match as, hl with
    | x :: y :: as, hl =>
      by_cases h0 : b = 0
      · subst h0
        rw [Nat.gcd_zero_right]
        exact gstop x _ a
      · rw [gturn x (y :: as) a b h0]
        by_cases h1 : a % b = 0
        · rw [h1]
          have e : Nat.gcd a b = b := by rw [Nat.gcd_comm, Nat.gcd_rec, h1, Nat.gcd_zero_left]
          rw [e]
          exact gstop y as b
        · rw [gturn y as b (a % b) h1]
          have h2 : b % (a % b) < 2 ^ n := by
            have l1 : a % b < b := Nat.mod_lt _ (by omega)
            have l2 : b % (a % b) < a % b := Nat.mod_lt _ (by omega)
            have l3 := Nat.div_add_mod b (a % b)
            have l4 : 1 ≤ b / (a % b) := (Nat.one_le_div_iff (by omega)).mpr (by omega)
            have l5 : a % b ≤ (a % b) * (b / (a % b)) := Nat.le_mul_of_pos_right _ (by omega)
            rw [Nat.pow_succ] at hb
            omega
          rw [ih as (a % b) (b % (a % b)) h2 (by simp only [List.length_cons] at hl; omega)]
          have e : Nat.gcd (a % b) (b % (a % b)) = Nat.gcd a b := by
            rw [Nat.gcd_comm (a % b), ← Nat.gcd_rec (a % b) b, Nat.gcd_comm a b, Nat.gcd_rec b a]
          rw [e]
theorem law_gcd_ok (one two : Int) (h : two.natAbs < 2 ^ 49999) : law_gcd one two = .ok ((Int.gcd one two : Nat) : Int) := by
  have ab : ∀ z : Int, (if z < 0 then -z else z) = ((z.natAbs : Nat) : Int) := fun z => by split <;> omega
  have e : law_gcd one two = ((rngM 0 100000) >>= fun as => loopB gstep as ((if one < 0 then -one else one), (if two < 0 then -two else two)) >>= fun s2 => R.ok s2.1) := rfl
  rw [e, ab, ab, rngM_ok (by decide) (by decide) (by decide) (by decide)]
  simp only [R.ok_bind]
  rw [gcd_loop 49999 _ _ _ h (by rw [rangeL_length]; decide)]
  rfl
end Zk
set_option maxHeartbeats 4000000
/-! # Zk: list comprehensions -/
namespace Zk
open PySem PySem.Spec PyProof.Rows L2
/-- an error within is no value -/
def R.nox {α : Type} : R α → R α
  | .ok a => .ok a
  | .exn _ => .stuck
  | .stuck => .stuck
/-- the values of f at those of as at which p is true -/
def compR {α β : Type} (p : α → R Bool) (f : α → R β) : List α → R (List β)
  | [] => .ok []
  | a :: as => R.nox (p a) >>= fun z => if z = true then R.nox (f a) >>= fun b => compR p f as >>= fun bs => .ok (b :: bs) else compR p f as
def mapR {α β : Type} (f : α → R β) : List α → R (List β)
  | [] => .ok []
  | a :: as => R.nox (f a) >>= fun b => mapR f as >>= fun bs => .ok (b :: bs)
def compM {α β : Type} (p : α → R Bool) (f : α → R β) (as : List α) : R (List β) := if as.length < 16000000 then compR p f as else .stuck
def mapM {α β : Type} (f : α → R β) (as : List α) : R (List β) := if as.length < 16000000 then mapR f as else .stuck
theorem compR_map {α β : Type} (f : α → R β) : ∀ as : List α, compR (fun _ => .ok true) f as = mapR f as
  | [] => rfl
  | a :: as => by
    show (R.nox (f a) >>= fun b => compR (fun _ => .ok true) f as >>= fun bs => .ok (b :: bs)) = _
    rw [compR_map f as]
    rfl
theorem compM_map {α β : Type} (f : α → R β) (as : List α) : compM (fun _ => .ok true) f as = mapM f as := by
  unfold compM mapM
  rw [compR_map]
theorem nox_post {α : Type} {m : R α} {Q : α → Prop} {E E' : Exn → Prop} (h : (R.nox m).post Q E) : m.post Q E' := by
  cases m with
  | ok a => exact h
  | exn x => exact False.elim h
  | stuck => exact h
/-! ### slots forgotten -/
theorem wipe_at (σ : L2.St) : ∀ (vs : List Nat) (j : Nat), (wipe σ vs)[j]? = if j ∈ vs then (if j < σ.length then some none else none) else σ[j]?
  | [], j => by simp [wipe]
  | v :: vs, j => by
    show ((wipe σ vs).set v none)[j]? = _
    by_cases e : j = v
    · subst e
      rw [if_pos List.mem_cons_self]
      by_cases h : j < σ.length
      · rw [if_pos h, List.getElem?_set_self (by rw [wipe_length]; exact h)]
      · rw [if_neg h, List.getElem?_eq_none (by rw [List.length_set, wipe_length]; omega)]
    · rw [List.getElem?_set_ne (Ne.symm e), wipe_at σ vs j]
      by_cases h : j ∈ vs
      · rw [if_pos h, if_pos (List.mem_cons_of_mem _ h)]
      · rw [if_neg h, if_neg (fun z => (List.mem_cons.mp z).elim e h)]
theorem wipe_eq {σ τ : L2.St} {vs : List Nat} (hl : τ.length = σ.length) (h : ∀ j, j ∉ vs → τ[j]? = (wipe σ vs)[j]?) : wipe τ vs = wipe σ vs := by
  refine List.ext_getElem? fun j => ?_
  by_cases e : j ∈ vs
  · rw [wipe_at, wipe_at, if_pos e, if_pos e, hl]
  · rw [← h j e, wipe_at, if_neg e]
def wipeD (ds : Env) : List Nat → Env
  | [] => ds
  | v :: vs => (wipeD ds vs).put v .none
theorem EnvOk.wipe {K : PySem.W.Frag} {S0 H0 S H : Hp} {ds : Env} {σ : L2.St} (E : EnvOk K S0 H0 ds σ S H) : ∀ vs : List Nat, EnvOk K S0 H0 (wipeD ds vs) (L2.wipe σ vs) S H
  | [] => E
  | v :: vs => by
    have E1 := EnvOk.wipe E vs
    show EnvOk K S0 H0 ((wipeD ds vs).put v .none) ((L2.wipe σ vs).set v none) S H
    have get : ∀ j, ((wipeD ds vs).put v .none).get j = .none ∨ (j ≠ v ∧ ((wipeD ds vs).put v .none).get j = (wipeD ds vs).get j) := fun j => by
      by_cases e : j = v
      · subst e
        by_cases h : j < (wipeD ds vs).length
        · exact .inl (Env.get_put_same _ _ _ h)
        · rw [Env.put_out _ _ _ (Nat.le_of_not_lt h)]
          have q := E1.at_ j
          refine .inl ?_
          cases hd : (wipeD ds vs).get j with
          | none => rfl
          | st α c a =>
            rw [hd] at q
            obtain ⟨w, h1, _⟩ := q
            rw [List.getElem?_eq_none (by rw [← E1.len]; omega)] at h1
            cases h1
          | mu α c a =>
            rw [hd] at q
            obtain ⟨w, _, h1, _⟩ := q
            rw [List.getElem?_eq_none (by rw [← E1.len]; omega)] at h1
            cases h1
      · exact .inr ⟨e, Env.get_put_ne _ _ _ _ e⟩
    refine ⟨by rw [Env.put_length, List.length_set, E1.len], fun j => ?_, fun j k p mj mk hj hk => ?_, E1.grow⟩
    · rcases get j with e | ⟨ne, e⟩
      · rw [e]; trivial
      · rw [e, List.getElem?_set_ne (Ne.symm ne)]
        exact E1.at_ j
    · rcases get j with e | ⟨n1, e1⟩
      · rw [e] at mj; exact mj.elim
      · rcases get k with e | ⟨n2, e2⟩
        · rw [e] at mk; exact mk.elim
        · rw [e1] at mj
          rw [e2] at mk
          rw [List.getElem?_set_ne (Ne.symm n1)] at hj
          rw [List.getElem?_set_ne (Ne.symm n2)] at hk
          exact E1.sep j k p mj mk hj hk
/-! ### canonical readings -/
def wE (X : Cx) (e : Expr) : TE := fun σ H Q => ∀ (pins : List (Addr × Obj)) (s : Shared), Inv X pins σ H s → wpAny (model X.prog X.w) X.A (eval e X.env) (EP X pins σ Q) X.xe s
def wT (X : Cx) (e : Expr) : TT := fun σ H Q => ∀ (pins : List (Addr × Obj)) (s : Shared), Inv X pins σ H s → wpAny (model X.prog X.w) X.A (isTrue e X.env (eval e X.env)) (TP X pins σ Q) X.xe s
theorem pe_wE {X : Cx} {e : Expr} : PE X e (wE X e) := ⟨fun pins s _ _ _ I h => h pins s I⟩
theorem pt_wT {X : Cx} {e : Expr} : PT X e (wT X e) := ⟨fun pins s _ _ _ I h => h pins s I⟩
section
variable {X : Cx} {W : XK} {ds : Env} {α β : Type} {e : Expr} {c : Cd α}
theorem DE.w {m : R α} (h : DE X W ds e c m) {S0 H0 S H : Hp} {σ : L2.St} {Q : VK} (E : EnvOk X.K S0 H0 ds σ S H) (P : PX c X.K S H m Q W) : wE X e σ H Q := by
  obtain ⟨t, p, q⟩ := h
  exact fun pins s I => p.run pins s σ H Q I (q S0 H0 σ S H Q E P)
theorem DT.w {m : R Bool} (h : DT X W ds e m) {S0 H0 S H : Hp} {σ : L2.St} {Q : Bool → Hp → Prop} (E : EnvOk X.K S0 H0 ds σ S H) (P : PB X.K S H m Q W) : wT X e σ H Q := by
  obtain ⟨t, p, q⟩ := h
  exact fun pins s I => p.run pins s σ H Q I (q S0 H0 σ S H Q E P)
end
/-! ### the comprehension -/
/-- the contexts in which a comprehension's block runs -/
abbrev Blk : Type := Shared × Hp × Addr × List (Str × Addr) × List Addr
abbrev blkX (X : Cx) (scope : Scope) (b : Blk) : Cx := X.blk b.1 b.2.1 scope (compEnvC scope b.2.2.2.1 b.2.2.1 X.env) b.2.2.2.2
/-- the target within the block: the slots behind it -/
def DGB (X : Cx) (scope : Scope) (tg : Expr) (vs : List Nat) {α : Type} (c : Cd α) (ds : Env) (eB : α → Env) : Prop :=
  ∃ g : TG, (∀ b : Blk, PG (blkX X scope b) tg g) ∧ ∀ a v S0 H0 σ S H (Q : L2.St → Hp → Prop), EnvOk X.K S0 H0 ds σ S H → c.rep X.K S v a → (∀ σ', σ'.length = σ.length → (∀ j, j ∉ vs → σ'[j]? = σ[j]?) → EnvOk X.K S0 H0 (eB a) σ' S H → Q σ' H) → g v σ H Q
def DLc (X : Cx) (W : XK) (ds : Env) (elt tg iter : Expr) (ifs : List Expr) (scope : Scope) {β : Type} (c : Cd β) (m : R (List β)) : Prop :=
  ∃ (wi : TI) (g : TG) (tt : TT) (te : TE) (own : List (Str × Nat)), PI X tg iter wi ∧ BlkOk X.N X.env.scope scope own ∧ (∀ b : Blk, PG (blkX X scope b) tg g) ∧ (∀ b : Blk, PTs (blkX X scope b) ifs tt) ∧ (∀ b : Blk, PE (blkX X scope b) elt te) ∧
    ∀ S0 H0 σ S H (Q : VK), EnvOk X.K S0 H0 ds σ S H → m.post (fun as => ∀ p vs S' H', Grow S H S' H' → H p = none → S' p = none → H' p = some (.lst vs) → Reps c X.K S' vs as → Q (.ref p) H') (fun x => ∀ cl d S' H', Grow S H S' H' → repX X.K S' cl d x → W cl d H') → tLc wi g tt te (own.map (·.2)) σ H Q
section
variable {X : Cx} {W : XK} {ds : Env} {α β : Type} {elt tg iter : Expr} {ifs : List Expr} {scope : Scope} {c : Cd α} {c2 : Cd β} {mi : R (List α)}
def tAnyT (X : Cx) (scope : Scope) (e : Expr) : TT := fun σ H Q => ∀ b : Blk, wT (blkX X scope b) e σ H Q
def tAnyE (X : Cx) (scope : Scope) (e : Expr) : TE := fun σ H Q => ∀ b : Blk, wE (blkX X scope b) e σ H Q
theorem lc_core_ {p : α → R Bool} {f : α → R β} (own : List (Str × Nat)) (ok : BlkOk X.N X.env.scope scope own) (hi : DI X W ds tg iter c mi) {eB : α → Env} (hg : DGB X scope tg (own.map (·.2)) c (wipeD ds (own.map (·.2))) eB)
    {tt : TT} (ht : ∀ b : Blk, PTs (blkX X scope b) ifs tt) (hts : ∀ a S0 H0 σ S H (Q : Bool → Hp → Prop), EnvOk X.K S0 H0 (eB a) σ S H → PB X.K S H (p a) Q E0 → tt σ H Q)
    (he : ∀ (b : Blk) a, DE (blkX X scope b) E0 (eB a) elt c2 (f a)) : DLc X W ds elt tg iter ifs scope c2 (mi >>= fun as => compM p f as) := by
  obtain ⟨wi, pi, qi⟩ := hi
  obtain ⟨g, pg, qg⟩ := hg
  refine ⟨wi, g, tt, tAnyE X scope elt, own, pi, ok, pg, ht, fun b => ⟨fun pins s σ H Q I h => h b pins s I⟩, fun S0 H0 σ S H Q E P => ?_⟩
  refine qi S0 H0 σ S H _ E (R.post_mono (R.post_bind.mp P) (fun as k J S1 H1 g1 hJ => ?_) (fun _ k => k))
  intro D hD
  have E1 := E.step g1
  have hlen : as.length < 16000000 := by
    unfold compM at k
    split at k
    · assumption
    · exact False.elim k
  have k' : (compR p f as).post (fun as => ∀ p vs S' H', Grow S H S' H' → H p = none → S' p = none → H' p = some (.lst vs) → Reps c2 X.K S' vs as → Q (.ref p) H') (fun x => ∀ cl d S' H', Grow S H S' H' → repX X.K S' cl d x → W cl d H') := by
    unfold compM at k
    rw [if_pos hlen] at k
    exact k
  refine ⟨fun i m H' => m = as.length - i ∧ i ≤ as.length ∧ ∃ S' vs bs, Grow S1 H1 S' H' ∧ H' D = some (.lst vs) ∧ S' D = none ∧ Reps c2 X.K S' vs bs ∧ bs.length ≤ i ∧
      (compR p f (as.drop i)).post (fun ys => ∀ p vs S' H', Grow S H S' H' → H p = none → S' p = none → H' p = some (.lst vs) → Reps c2 X.K S' vs (bs ++ ys) → Q (.ref p) H') (fun x => ∀ cl d S' H', Grow S H S' H' → repX X.K S' cl d x → W cl d H'),
    ⟨as.length, rfl, Nat.zero_le _, S1, [], [], .lay' g1.inn hD, upd_same, g1.inn.free hD, trivial, Nat.le_refl _, by simpa using k'⟩, ?_⟩
  rintro i m H2 ⟨rfl, hi, S2, vs, bs, g2, h2, h3, r2, hb, k2⟩
  obtain ⟨j1, j2⟩ := hJ i S2 H2 g2.st g2.inn
  by_cases hlt : i < as.length
  · have ha : as[i]? = some as[i] := List.getElem?_eq_getElem hlt
    obtain ⟨n1, n2⟩ := j2 _ ha
    rw [List.drop_eq_getElem_cons hlt] at k2
    refine .inr ⟨n1, fun H' => ∃ S' vs bs, Grow S1 H1 S' H' ∧ H' D = some (.lst vs) ∧ S' D = none ∧ Reps c2 X.K S' vs bs ∧ bs.length ≤ i + 1 ∧
      (compR p f (as.drop (i + 1))).post (fun ys => ∀ p vs S' H', Grow S H S' H' → H p = none → S' p = none → H' p = some (.lst vs) → Reps c2 X.K S' vs (bs ++ ys) → Q (.ref p) H') (fun x => ∀ cl d S' H', Grow S H S' H' → repX X.K S' cl d x → W cl d H'),
      fun H' q => ⟨as.length - (i + 1), by omega, rfl, hlt, q⟩, fun x H3 y => ?_⟩
    obtain ⟨S3, g3, r3⟩ := n2 x H3 y
    have E3 := ((E1.step (g2.trans g3)).wipe (own.map (·.2)))
    refine qg _ x S0 H0 _ S3 H3 _ E3 r3 fun σ' hl ho E4 => ⟨wipe_eq (by rw [hl, wipe_length]) ho, ?_⟩
    have k3 : (R.nox (p as[i]) >>= fun z => if z = true then R.nox (f as[i]) >>= fun b => compR p f (as.drop (i + 1)) >>= fun bs => .ok (b :: bs) else compR p f (as.drop (i + 1))).post (fun ys => ∀ p vs S' H', Grow S H S' H' → H p = none → S' p = none → H' p = some (.lst vs) → Reps c2 X.K S' vs (bs ++ ys) → Q (.ref p) H') (fun x => ∀ cl d S' H', Grow S H S' H' → repX X.K S' cl d x → W cl d H') := k2
    refine hts _ S0 H0 σ' S3 H3 _ E4 (nox_post (R.post_mono (R.post_bind.mp k3) (fun z k4 S5 H5 g5 => ?_) (fun _ k => k)))
    have d5 : H5 D = some (.lst vs) := g5.ex _ _ (g3.ex _ _ h2)
    have s5 : S5 D = none := (g3.trans g5).none h2 h3
    cases z with
    | false =>
      rw [if_neg Bool.false_ne_true] at k4
      refine iteF ?_
      exact ⟨S5, vs, bs, g2.trans (g3.trans g5), d5, s5, Reps.mono (g3.trans g5).st r2, Nat.le_succ_of_le hb, k4⟩
    | true =>
      rw [if_pos rfl] at k4
      refine iteT ?_
      intro b
      refine (he b as[i]).w (Q := fun y H4 => ∃ acc, H4 D = some (.lst acc) ∧ acc.length < sizeLine ∧ _) (E4.step g5) (nox_post (R.post_mono (R.post_bind.mp k4) (fun w k5 v S6 H6 g6 r6 => ?_) (fun _ k => k)))
      have d6 : H6 D = some (.lst vs) := g6.ex _ _ d5
      have s6 : S6 D = none := g6.none d5 s5
      have g16 : Grow S1 H1 S6 H6 := g2.trans (g3.trans (g5.trans g6))
      refine ⟨vs, d6, by rw [r2.length]; exact Nat.lt_of_le_of_lt hb (Nat.lt_of_lt_of_le (Nat.lt_trans hlt hlen) (by decide)), S6, vs ++ [v], bs ++ [w], ⟨g16.ex.mut hD, g16.st, g16.inn.mut s6, g16.new⟩, upd_same, s6, (Reps.mono (g3.trans (g5.trans g6)).st r2).append (show Reps c2 X.K S6 [v] [w] from ⟨r6, trivial⟩), by rw [List.length_append]; exact Nat.succ_le_succ hb, ?_⟩
      refine R.post_mono (R.post_bind.mp k5) (fun ys k6 p vs S' H' g' h1 h2 h3 r => k6 p vs S' H' g' h1 h2 h3 ?_) (fun _ k => k)
      rw [List.append_assoc] at r
      exact r
  · have e : i = as.length := by omega
    subst e
    rw [List.drop_length] at k2
    have q := k2 D vs S2 H2 (g1.trans g2) (g1.ex.free hD) h3 h2
    rw [List.append_nil] at q
    exact .inl ⟨j1 (Nat.le_refl _), q r2⟩
/-- [elt for tg in iter] -/
theorem lc0 {f : α → R β} (own : List (Str × Nat)) (ok : BlkOk X.N X.env.scope scope own) (hi : DI X W ds tg iter c mi) {eB : α → Env} (hg : DGB X scope tg (own.map (·.2)) c (wipeD ds (own.map (·.2))) eB)
    (he : ∀ (b : Blk) a, DE (blkX X scope b) E0 (eB a) elt c2 (f a)) : DLc X W ds elt tg iter [] scope c2 (mi >>= fun as => mapM f as) := by
  have q := lc_core_ (p := fun _ => .ok true) own ok hi hg (tt := tYes) (fun _ => pts_nil) (fun a S0 H0 σ S H Q E P => P.ok E.inn) he
  rw [show (fun as => compM (fun _ => .ok true) f as) = fun as => mapM f as from funext fun as => compM_map f as] at q
  exact q
/-- [elt for tg in iter if t] -/
theorem lc1 {t : Expr} {p : α → R Bool} {f : α → R β} (own : List (Str × Nat)) (ok : BlkOk X.N X.env.scope scope own) (hi : DI X W ds tg iter c mi) {eB : α → Env} (hg : DGB X scope tg (own.map (·.2)) c (wipeD ds (own.map (·.2))) eB)
    (ht : ∀ (b : Blk) a, DT (blkX X scope b) E0 (eB a) t (p a)) (he : ∀ (b : Blk) a, DE (blkX X scope b) E0 (eB a) elt c2 (f a)) : DLc X W ds elt tg iter [t] scope c2 (mi >>= fun as => compM p f as) :=
  lc_core_ own ok hi hg (tt := tAnyT X scope t) (fun b => pts_one ⟨fun pins s σ H Q I h => h b pins s I⟩) (fun a S0 H0 σ S H Q E P b => (ht b a).w E P) he
/-- a name of the block -/
theorem tgB {pos : Pos} {x : Str} {e0 : Env} {vs : List Nat} (i : Nat) (sn : X.N.Nodup) (hi : X.N[i]? = some x := by rfl) (hx : ∀ b : Blk, Loc (blkX X scope b).env.scope x := by first | exact fun _ => Or.inl rfl | exact fun _ => Or.inr rfl)
    (hf : ∀ b : Blk, (blkX X scope b).fn x = true ∨ (blkX X scope b).env.scope.names.lookup x = some .local := by first | exact fun _ => .inr rfl | exact fun _ => .inl rfl) (hm : i ∈ vs := by decide) : DGB X scope (.Name x pos) vs c e0 (fun a => e0.put i (.st α c a)) :=
  ⟨gName i, fun b => pg_name (X := blkX X scope b) sn hi (hx b) (hf b), fun a v S0 H0 σ S H Q E r k => k _ (List.length_set ..) (fun j hj => List.getElem?_set_ne (fun (z : i = j) => hj (by rw [← z]; exact hm))) (E.putS r)⟩
variable {pos : Pos} {m : R (List β)}
theorem dlc (sn : X.N.Nodup) (hc : X.calm = true) (h : DLc X W ds elt tg iter ifs scope c2 m) (hs : ∀ x, foldedSetIterable iter X.env x = pure x := by intro _; rfl) : DL X W ds (.ListComp elt [⟨tg, iter, ifs, 0⟩] scope pos) c2 m := by
  obtain ⟨wi, g, tt, te, own, pi, ok, pg, ht, he, q⟩ := h
  exact ⟨_, pe_lc hc sn pi ok (fun s H C cl fp => pg (s, H, C, cl, fp)) (fun s H C cl fp => ht (s, H, C, cl, fp)) (fun s H C cl fp => he (s, H, C, cl, fp)) hs, q⟩
end
section
variable {X : Cx} {W : XK} {T : Bool} {ds : Env} {α β γ τ ν κ ω : Type} {elt tg iter : Expr} {ifs : List Expr} {scope : Scope} {rest : List Stmt} {pos p : Pos} {c : Cd α} {cb : Cd β} {eN : ν → Env} {eK : κ → Env} {I : ω → Out β ν κ} {m : R (List α)} {k : List α → R ω}
/-- x = [..] on one line, x a local: the list may still change -/
theorem asgMc {y : Str} {py spos : Pos} (i : Nat) (sn : X.N.Nodup) (hc : X.calm = true) (he : DLc X W ds elt tg iter ifs scope c m) (hr : ∀ z, DS X W T (ds.put i (.mu α c z)) rest cb eN eK I (k z)) (hy : X.N[i]? = some y := by rfl) (hyl : X.env.scope.names.lookup y = some .local := by rfl)
    (hsw : swapsWith (.ListComp elt [⟨tg, iter, ifs, 0⟩] scope pos) (some (.Name y py)) spos.line X.env = pure true := by exact sw_true rfl rfl rfl (by decide +kernel)) (hs : ∀ x, foldedSetIterable iter X.env x = pure x := by intro _; rfl) :
    DS X W T ds (.Assign [.Name y py] (.ListComp elt [⟨tg, iter, ifs, 0⟩] scope pos) spos :: rest) cb eN eK I (m >>= k) := fun S0 H0 σ S H D nx h E P => by
  obtain ⟨wi, g, tt, te, own, pi, ok, pg, ht, hel, q⟩ := he
  refine seq (ps_setLc (i := i) hc sn hy hyl hsw pi ok (fun s H C cl fp => pg (s, H, C, cl, fp)) (fun s H C cl fp => ht (s, H, C, cl, fp)) (fun s H C cl fp => hel (s, H, C, cl, fp)) hs) ?_
  refine q S0 H0 σ S H _ E (R.post_mono (R.post_bind.mp P) (fun z q p vs S' H' g h1 h2 h3 r => ?_) (fun x q cl d S' H' g r => q cl d S' H' (E.grow.trans g) r))
  have E' := E.step g
  refine hr z S0 H0 _ S' H' D nx h (E'.putM (E.grow.ex.free h1) h2 h3 r (fun j mj ej => ?_)) q
  cases hd : ds.get j with
  | none =>
    rw [hd] at mj
    exact mj.elim
  | st γ c2 a =>
    rw [hd] at mj
    exact mj.elim
  | mu γ c2 cs =>
    obtain ⟨p2, ws, k1, k2, k3, k4, k5⟩ := E.muv hd
    rw [ej] at k1
    cases k1
    rw [h1] at k4
    cases k4
theorem put_put : ∀ (ds : Env) (i : Nat) (a b : SD), (ds.put i a).put i b = ds.put i b
  | [], _, _, _ => rfl
  | _ :: _, 0, _, _ => rfl
  | d :: ds, i + 1, a, b => congrArg (d :: ·) (put_put ds i a b)
theorem get_put_of {ds : Env} {i : Nat} {d : SD} (h : i < ds.length) : (ds.put i d).get i = d := Env.get_put_same ds i d h
/-- .. and does not -/
theorem asgc {y : Str} {py spos : Pos} (i : Nat) (sn : X.N.Nodup) (hc : X.calm = true) (he : DLc X W ds elt tg iter ifs scope c m) (hr : ∀ z, DS X W T (ds.put i (.st (List α) (cL c) z)) rest cb eN eK I (k z)) (hy : X.N[i]? = some y := by rfl) (hyl : X.env.scope.names.lookup y = some .local := by rfl)
    (hsw : swapsWith (.ListComp elt [⟨tg, iter, ifs, 0⟩] scope pos) (some (.Name y py)) spos.line X.env = pure true := by exact sw_true rfl rfl rfl (by decide +kernel)) (hs : ∀ x, foldedSetIterable iter X.env x = pure x := by intro _; rfl) (hi : i < ds.length := by decide) :
    DS X W T ds (.Assign [.Name y py] (.ListComp elt [⟨tg, iter, ifs, 0⟩] scope pos) spos :: rest) cb eN eK I (m >>= k) :=
  asgMc i sn hc he (fun z => settle i (get_put_of hi) (by rw [put_put]; exact hr z)) hy hyl hsw hs
end
end Zk
set_option maxHeartbeats 4000000
/-! # Zk: list(..), tuple(..), tuples of so many read as sequences, while, lists joined and repeated -/
namespace Zk
open PySem PySem.Spec PyProof.Rows L2
/-! ### sequences -/
class SqI {α : Type} (c : Cd (List α)) (d : outParam (Cd α)) : Prop where
  sq : ∀ {K : PySem.W.Frag} {H : Hp} {v : V} {a : List α}, c.rep K H v a → ∃ p vs, v = .ref p ∧ (SqL K H p vs ∨ SqT K H p vs) ∧ Reps d K H vs a
instance {α : Type} {d : Cd α} : SqI (cL d) d := ⟨fun ⟨p, vs, e, h1, h2⟩ => ⟨p, vs, e, .inl h1, h2⟩⟩
instance {α : Type} {d : Cd α} : SqI (cT d) d := ⟨fun ⟨p, vs, e, h1, h2⟩ => ⟨p, vs, e, .inr h1, h2⟩⟩
instance {α : Type} {d : Cd α} : SqI (cLT d) d := ⟨fun h => by
  rcases h with ⟨p, vs, e, h1, h2⟩ | ⟨p, vs, e, h1, h2⟩
  · exact ⟨p, vs, e, .inl h1, h2⟩
  · exact ⟨p, vs, e, .inr h1, h2⟩⟩
section
variable {X : Cx} {W : XK} {ds : Env} {α β γ τ : Type} {a b : Expr} {e : Expr} {es : List Expr} {pos p : Pos} {c : Cd α} {c2 : Cd β} {m : R α} {x : α}
/-- list(e) -/
theorem toL {d : Cd (List α)} [SqI d c] {m : R (List α)} (hm : X.mg "list" = none) (ha : DE X W ds e d m) (hg : Gl X "list" := by rfl)
    (he : starEach (e :: []) X.env = (false, eval e X.env) :: starEach [] X.env := by rfl) (hpl : (backTo pos (starEach [] X.env)).any (·.1) = false := by rfl) : DL X W ds (.Call (.Name "list" p) [e] [] pos) c m := by
  obtain ⟨t, pa, q⟩ := ha
  refine ⟨_, pe_callTy call_list_of hg hm (by decide +kernel) (pa_cons pa pa_nil he) (by decide) (by decide) he hpl, fun S0 H0 σ S H Q E P => q S0 H0 σ S H _ E (R.post_mono P (fun as k v S' H' g r => ?_) (fun _ k => k))⟩
  obtain ⟨l, vs, e1, h1, h2⟩ := SqI.sq (c := d) (d := c) r
  refine ⟨l, vs, by rw [e1], h1.imp (Same.seq g.inn) (Same.tup g.inn), fun l' hl => ?_⟩
  have g2 : Grow S' H' S' (upd H' l' (.lst vs)) := .lay' g.inn hl
  exact k l' vs S' _ (g.trans g2) (g.ex.free hl) (g.inn.free hl) upd_same h2
/-- tuple(e) -/
theorem toT {d : Cd (List α)} [SqI d c] {m : R (List α)} (hm : X.mg "tuple" = none) (ha : DE X W ds e d m) (hg : Gl X "tuple" := by rfl)
    (he : starEach (e :: []) X.env = (false, eval e X.env) :: starEach [] X.env := by rfl) (hpl : (backTo pos (starEach [] X.env)).any (·.1) = false := by rfl) : DE X W ds (.Call (.Name "tuple" p) [e] [] pos) (cT c) m := by
  obtain ⟨t, pa, q⟩ := ha
  refine ⟨_, pe_callTy call_tuple_of hg hm (by decide +kernel) (pa_cons pa pa_nil he) (by decide) (by decide) he hpl, fun S0 H0 σ S H Q E P => q S0 H0 σ S H _ E (R.post_mono P (fun as k v S' H' g r => ?_) (fun _ k => k))⟩
  obtain ⟨l, vs, e1, h1, h2⟩ := SqI.sq (c := d) (d := c) r
  refine ⟨l, vs, by rw [e1], ?_⟩
  rcases h1 with h1 | h1
  · refine .inl ⟨Same.seq g.inn h1, fun l' hl => ?_⟩
    have g2 : Grow S' H' (upd S' l' (.tup vs)) (upd H' l' (.tup vs)) := .lay g.inn hl
    exact k (.ref l') _ _ (g.trans g2) ⟨l', vs, rfl, .inl (.inl upd_same), Reps.mono g2.st h2⟩
  · exact .inr ⟨Same.tup g.inn h1, k (.ref l) S' H' g ⟨l, vs, rfl, h1, h2⟩⟩
/-! ### a tuple of so many as a sequence -/
def AUni (r : CA τ) (c : Cd α) (f : τ → List α) : Prop := ∀ K H vs z, r.rep K H vs z → Reps c K H vs (f z)
theorem auN : AUni aNil c (fun _ => []) := fun K H vs z h => by
  have e : vs = [] := h
  rw [e]
  trivial
theorem au1 : AUni (aOne c) c (fun z => [z]) := fun K H vs z ⟨v, e, r⟩ => by
  rw [e]
  exact ⟨r, trivial⟩
theorem auC {r : CA τ} {f : τ → List α} (h : AUni r c f) : AUni (aCons c r) c (fun z => z.1 :: f z.2) := fun K H vs z ⟨v, ws, e, r1, r2⟩ => by
  rw [e]
  exact ⟨r1, h _ _ _ _ r2⟩
theorem pT_p {r : CA τ} {z : τ} (f : τ → List α) (h : AUni r c f) (ha : DE X W ds a (cP r) (.ok z)) : DE X W ds a (cT c) (.ok (f z)) :=
  coe (c := cP r) (c2 := cT c) (f := f) (fun K H v a ⟨p, vs, e, h1, h2⟩ => ⟨p, vs, e, h1, h _ _ _ _ h2⟩) ha
theorem pT_m {r : CA τ} {m : R τ} (f : τ → List α) (h : AUni r c f) (ha : DE X W ds a (cP r) m) : DE X W ds a (cT c) (m >>= fun z => .ok (f z)) :=
  coe (c := cP r) (c2 := cT c) (f := f) (fun K H v a ⟨p, vs, e, h1, h2⟩ => ⟨p, vs, e, h1, h _ _ _ _ h2⟩) ha
theorem hL_p {r : CA τ} {z : τ} (f : τ → List α) (h : AUni r c f) (ha : DE X W ds a (cH r) (.ok z)) : DE X W ds a (cL c) (.ok (f z)) :=
  coe (c := cH r) (c2 := cL c) (f := f) (fun K H v a ⟨p, vs, e, h1, h2⟩ => ⟨p, vs, e, h1, h _ _ _ _ h2⟩) ha
theorem hL_m {r : CA τ} {m : R τ} (f : τ → List α) (h : AUni r c f) (ha : DE X W ds a (cH r) m) : DE X W ds a (cL c) (m >>= fun z => .ok (f z)) :=
  coe (c := cH r) (c2 := cL c) (f := f) (fun K H v a ⟨p, vs, e, h1, h2⟩ => ⟨p, vs, e, h1, h _ _ _ _ h2⟩) ha
/-- the elements read otherwise -/
theorem Reps.coe {f : α → β} (h : Coe c c2 f) {K : PySem.W.Frag} {H : Hp} : ∀ {vs : List V} {as : List α}, Reps c K H vs as → Reps c2 K H vs (as.map f)
  | [], [], _ => trivial
  | _ :: _, _ :: _, r => ⟨h _ _ _ _ r.1, Reps.coe h r.2⟩
  | [], _ :: _, r => r.elim
  | _ :: _, [], r => r.elim
/-! ### other readings -/
theorem coe_p {f : α → β} (h : Coe c c2 f) (ha : DE X W ds a c (.ok x)) : DE X W ds a c2 (.ok (f x)) := coe h ha
theorem coeI {c2 : Cd α} (h : Coe c c2 (fun z => z)) (ha : DE X W ds a c m) : DE X W ds a c2 m := coe_id h ha
theorem cId : Coe c c (fun z => z) := fun _ _ _ _ r => r
theorem cSome {f : α → β} [NN c] (h : Coe c c2 f) : Coe c (cO c2) (fun z => some (f z)) := fun K H v a r => ⟨NN.nn r, h _ _ _ _ r⟩
theorem cNone : Coe cN (cO c) (fun _ => none) := fun K H v a r => r
theorem cOO {f : α → β} (h : Coe c c2 f) : Coe (cO c) (cO c2) (Option.map f) := fun K H v a r => by
  cases a with
  | none => exact r
  | some z => exact ⟨r.1, h _ _ _ _ r.2⟩
theorem cLL {f : α → β} (h : Coe c c2 f) : Coe (cL c) (cL c2) (List.map f) := fun K H v a ⟨p, vs, e, h1, h2⟩ => ⟨p, vs, e, h1, Reps.coe h h2⟩
theorem cTT {f : α → β} (h : Coe c c2 f) : Coe (cT c) (cT c2) (List.map f) := fun K H v a ⟨p, vs, e, h1, h2⟩ => ⟨p, vs, e, h1, Reps.coe h h2⟩
theorem cLTLT {f : α → β} (h : Coe c c2 f) : Coe (cLT c) (cLT c2) (List.map f) := fun K H v a r => r.imp (cLL h K H v a) (cTT h K H v a)
theorem Reps.coeI {c2 : Cd α} (h : Coe c c2 (fun z => z)) {K : PySem.W.Frag} {H : Hp} {vs : List V} {as : List α} (r : Reps c K H vs as) : Reps c2 K H vs as := by
  have q := Reps.coe h r
  rw [List.map_id'] at q
  exact q
theorem cLLi {c2 : Cd α} (h : Coe c c2 (fun z => z)) : Coe (cL c) (cL c2) (fun z => z) := fun K H v a ⟨p, vs, e, h1, h2⟩ => ⟨p, vs, e, h1, Reps.coeI h h2⟩
theorem cTTi {c2 : Cd α} (h : Coe c c2 (fun z => z)) : Coe (cT c) (cT c2) (fun z => z) := fun K H v a ⟨p, vs, e, h1, h2⟩ => ⟨p, vs, e, h1, Reps.coeI h h2⟩
theorem cLTLTi {c2 : Cd α} (h : Coe c c2 (fun z => z)) : Coe (cLT c) (cLT c2) (fun z => z) := fun K H v a r => r.imp (cLLi h K H v a) (cTTi h K H v a)
theorem cOOi {c2 : Cd α} (h : Coe c c2 (fun z => z)) : Coe (cO c) (cO c2) (fun z => z) := fun K H v a r => by
  cases a with
  | none => exact r
  | some z => exact ⟨r.1, h _ _ _ _ r.2⟩
theorem cL_LT {f : List α → List β} (h : Coe (cL c) (cL c2) f) : Coe (cL c) (cLT c2) f := fun K H v a r => .inl (h K H v a r)
theorem cT_LT {f : List α → List β} (h : Coe (cT c) (cT c2) f) : Coe (cT c) (cLT c2) f := fun K H v a r => .inr (h K H v a r)
theorem au1c {f : β → α} (h : Coe c2 c f) : AUni (aOne c2) c (fun z => [f z]) := fun K H vs z ⟨v, e, r⟩ => by
  rw [e]
  exact ⟨h _ _ _ _ r, trivial⟩
theorem auCc {g : β → α} (hc : Coe c2 c g) {r : CA τ} {f : τ → List α} (h : AUni r c f) : AUni (aCons c2 r) c (fun z => g z.1 :: f z.2) := fun K H vs z ⟨v, ws, e, r1, r2⟩ => by
  rw [e]
  exact ⟨hc _ _ _ _ r1, h _ _ _ _ r2⟩
theorem cPT {r : CA τ} {f : τ → List α} (h : AUni r c f) : Coe (cP r) (cT c) f := fun K H v a ⟨p, vs, e, h1, h2⟩ => ⟨p, vs, e, h1, h _ _ _ _ h2⟩
theorem cPLT {r : CA τ} {f : τ → List α} (h : AUni r c f) : Coe (cP r) (cLT c) f := fun K H v a ⟨p, vs, e, h1, h2⟩ => .inr ⟨p, vs, e, h1, h _ _ _ _ h2⟩
theorem cHL {r : CA τ} {f : τ → List α} (h : AUni r c f) : Coe (cH r) (cL c) f := fun K H v a ⟨p, vs, e, h1, h2⟩ => ⟨p, vs, e, h1, h _ _ _ _ h2⟩
theorem cHLT {r : CA τ} {f : τ → List α} (h : AUni r c f) : Coe (cH r) (cLT c) f := fun K H v a ⟨p, vs, e, h1, h2⟩ => .inl ⟨p, vs, e, h1, h _ _ _ _ h2⟩
def ACoe {τ τ' : Type} (r : CA τ) (r' : CA τ') (f : τ → τ') : Prop := ∀ K H vs z, r.rep K H vs z → r'.rep K H vs (f z)
theorem ac1 {f : α → β} (h : Coe c c2 f) : ACoe (aOne c) (aOne c2) f := fun K H vs z ⟨v, e, r⟩ => ⟨v, e, h _ _ _ _ r⟩
theorem acC {τ' : Type} {f : α → β} (h : Coe c c2 f) {r : CA τ} {r' : CA τ'} {g : τ → τ'} (k : ACoe r r' g) : ACoe (aCons c r) (aCons c2 r') (fun z => (f z.1, g z.2)) := fun K H vs z ⟨v, ws, e, r1, r2⟩ => ⟨v, ws, e, h _ _ _ _ r1, k _ _ _ _ r2⟩
theorem cPP {τ' : Type} {r : CA τ} {r' : CA τ'} {g : τ → τ'} (k : ACoe r r' g) : Coe (cP r) (cP r') g := fun K H v a ⟨p, vs, e, h1, h2⟩ => ⟨p, vs, e, h1, k _ _ _ _ h2⟩
theorem cHH {τ' : Type} {r : CA τ} {r' : CA τ'} {g : τ → τ'} (k : ACoe r r' g) : Coe (cH r) (cH r') g := fun K H v a ⟨p, vs, e, h1, h2⟩ => ⟨p, vs, e, h1, k _ _ _ _ h2⟩
/-! ### joined, repeated -/
def catM (as bs : List α) : R (List α) := R.guard (as.length + bs.length < 16000000) (as ++ bs)
def repM (as : List α) (n : Int) : R (List α) := R.guard (n < 16000000 ∧ as.length * n.toNat < 16000000) (List.flatten (List.replicate n.toNat as))
end
/-! ### while -/
section
variable {X : Cx} {W : XK} {T : Bool} {ds : Env} {β ν κ ω : Type} {body rest : List Stmt} {pos : Pos} {cb : Cd β} {eN : ν → Env} {eK : κ → Env} {I : ω → Out β ν κ}
theorem whileG {σ' : Type} {eL : σ' → Env} {test : σ' → R Bool} {step : σ' → R σ'} {s0 : σ'} {k : σ' → R ω} {t : Expr} (n : Nat) (hp : PassesOwn (model X.prog X.w) X.A X.env X.xe) (ht : ∀ s, DT X W (eL s) t (test s)) (l : EnvLe ds (eL s0))
    (hb : ∀ s, DS X W false (eL s) body cb eL eL (fun s => (.nxt s : Out β σ' σ')) (step s)) (hr : ∀ s, DS X W T (eL s) rest cb eN eK I (k s)) :
    DS X W T ds (.While t body [] pos :: rest) cb eN eK I (whileR n test step s0 >>= k) :=
  whileF (n := n) hp l ⟨wT X t, pt_wT, fun s S0 H0 σ S H Q E P => (ht s).w E P⟩ hb hr
end
end Zk
set_option maxHeartbeats 40000000
set_option synthInstance.maxHeartbeats 400000
set_option synthInstance.maxSize 2000
/-! # the mirrors -/
namespace Lw
open PySem Zk
def m_law_cell_b1  (s1 : Int) (cell : Int) : R Int :=
  ((((mulM s1 (31 : Int)) >>= fun x2 => (modM cell (1000003 : Int)) >>= fun y3 => R.ok ((x2 + y3))) >>= fun z => R.ok z) >>= fun x4 => (modM x4 (1000003 : Int))) >>= fun (seed : Int) =>
  R.ok seed

@[irreducible] def m_law_cell (script : (List Int)) (k : Int) : R Int :=
  (if (decide (k < ((script.length : Nat) : Int))) = true then
    (getM script k)
  else
    R.ok (17 : Int) >>= fun (seed : Int) =>
    R.ok script >>= fun as => foldR m_law_cell_b1 as seed >>= fun (s5 : Int) =>
    ((((mulM (s5 + (7 : Int)) (k + (3 : Int))) >>= fun x6 => (mulM x6 (69621 : Int))) >>= fun z => R.ok z) >>= fun x7 => (modM x7 (2147483647 : Int))))

def m_law_digits_b1  (s3 : ((List Int) × Int)) (size : Int) : R ((List Int) × Int) :=
  (modM s3.2 size) >>= fun z4 => appM s3.1 z4 >>= fun (row : List Int) =>
  (fdivM s3.2 size) >>= fun (rest : Int) =>
  R.ok (row, rest)

def m_law_digits_b2 (sizes : (List Int)) (s6 : (Int × (List Int))) (k : Int) : R (Int × (List Int)) :=
  (((((mulM s6.1 (48271 : Int)) >>= fun x7 => (mulM (974711 : Int) k) >>= fun y8 => R.ok ((x7 + y8))) >>= fun x9 => R.ok ((x9 + (12345 : Int)))) >>= fun z => R.ok z) >>= fun x10 => (modM x10 (2147483647 : Int))) >>= fun (seed : Int) =>
  (((((fdivM seed (65537 : Int)) >>= fun x11 => R.ok ((x11 + (3 : Int)))) >>= fun y12 => (mulM seed y12)) >>= fun z => R.ok z) >>= fun x13 => (modM x13 (2147483629 : Int))) >>= fun (twice : Int) =>
  ((fdivM twice (19 : Int)) >>= fun x14 => (getM sizes k) >>= fun y15 => (modM x14 y15)) >>= fun z16 => appM s6.2 z16 >>= fun (row : List Int) =>
  R.ok (seed, row)

@[irreducible] def m_law_digits (cell : Int) (sizes : (List Int)) : R (List Int) :=
  R.ok ([] : List Int) >>= fun (row : List Int) =>
  R.ok cell >>= fun (rest : Int) =>
  (((powM (10 : Int) (18 : Int)) >>= fun y1 => R.ok ((decide (y1 ≤ rest)))) >>= fun z18 => if z18 = true then
    ((powM (10 : Int) (18 : Int)) >>= fun y2 => R.ok ((rest - y2))) >>= fun (rest : Int) =>
    R.ok sizes >>= fun as => foldR m_law_digits_b1 as (row, rest) >>= fun (s5 : ((List Int) × Int)) =>
    R.ok s5.1
  else
    (modM rest (2147483629 : Int)) >>= fun (seed : Int) =>
    rngM 0 (((sizes.length : Nat) : Int)) >>= fun as => foldR (m_law_digits_b2 sizes) as (seed, row) >>= fun (s17 : (Int × (List Int))) =>
    R.ok s17.2)

def m_law_due_b1 (share : (List Int)) (less : Int) (more : Int) (s1 : (Int × Int)) (turn : Int) : R (Out (Option Int) (Int × Int) (Int × Int)) :=
  ((((getM share (1 : Int)) >>= fun y2 => (mulM s1.1 y2)) >>= fun x4 => ((getM share (0 : Int)) >>= fun x3 => (mulM x3 s1.2)) >>= fun y5 => R.ok ((decide (x4 ≤ y5)))) >>= fun z8 => if z8 = true then
    R.ok (.ret ((some turn)))
  else
    ((mulM s1.1 less) >>= fun x6 => (mulM x6 less)) >>= fun (top : Int) =>
    ((mulM s1.2 more) >>= fun x7 => (mulM x7 more)) >>= fun (base' : Int) =>
    R.ok (.nxt (top, base')))

@[irreducible] def m_law_due (factor : (Int × Int)) (share : (List Int)) : R (Option Int) :=
  R.ok (factor.1 - factor.2) >>= fun (less : Int) =>
  R.ok (factor.1 + factor.2) >>= fun (more : Int) =>
  R.ok (1 : Int) >>= fun (top : Int) =>
  R.ok (1 : Int) >>= fun (base' : Int) =>
  rngM 0 ((201 : Int)) >>= fun as => loopR (m_law_due_b1 share less more) as (top, base') >>= End.cs (fun (s9 : (Int × Int)) =>
  R.ok (none : (Option Int))) (fun b => R.ok b)

def m_law_gcd_b1  (s1 : (Int × Int)) (turn : Int) : R (Out Empty (Int × Int) (Int × Int)) :=
  (if (decide (s1.2 = (0 : Int))) = true then
    R.ok (.brk (s1.1, s1.2))
  else
    (modM s1.1 s1.2) >>= fun (rest : Int) =>
    R.ok s1.2 >>= fun (one : Int) =>
    R.ok rest >>= fun (two : Int) =>
    R.ok (.nxt (one, two)))

@[irreducible] def m_law_gcd (one : Int) (two : Int) : R Int :=
  R.ok (if one < 0 then -one else one) >>= fun (one : Int) =>
  R.ok (if two < 0 then -two else two) >>= fun (two : Int) =>
  rngM 0 ((100000 : Int)) >>= fun as => loopB m_law_gcd_b1 as (one, two) >>= fun (s2 : (Int × Int)) =>
  R.ok s2.1

@[irreducible] def m_law_least (top : Int) (base' : Int) : R (Int × Int) :=
  ((if (decide (base' < (0 : Int))) = true then R.ok (-top) >>= fun (top : Int) =>
    R.ok (-base') >>= fun (base' : Int) =>
    R.ok (top, base') else R.ok (top, base')) : R (Int × Int)) >>= fun (j1 : (Int × Int)) =>
  (m_law_gcd j1.1 j1.2) >>= fun (shared : Int) =>
  ((fdivM j1.1 shared) >>= fun x2 => (fdivM j1.2 shared) >>= fun y3 => R.ok (x2, y3))

@[irreducible] def m_law_factor (kind : Int) (row : (List Int)) : R (Int × Int) :=
  ((getM row (0 : Int)) >>= fun y1 => R.ok (((1 : Int) + y1))) >>= fun (whole : Int) =>
  ((getM row (1 : Int)) >>= fun y2 => R.ok (((1 : Int) + y2))) >>= fun (base' : Int) =>
  (if (decide (kind = (0 : Int))) = true then
    R.ok ((1 : Int), (1 : Int))
  else
    (if (decide (kind = (1 : Int))) = true then
      ((getM row (5 : Int)) >>= fun y3 => R.ok (((2 : Int) + y3))) >>= fun (wanted : Int) =>
      (mulM (9 : Int) (wanted - (1 : Int))) >>= fun (n : Int) =>
      (((((mulM n (wanted + (1 : Int))) >>= fun x4 => R.ok ((x4 + wanted))) >>= fun y5 => (mulM (wanted + (1 : Int)) y5)) >>= fun x7 => ((mulM n (wanted - (1 : Int))) >>= fun x6 => (mulM x6 (wanted - (1 : Int)))) >>= fun y8 => R.ok (x7, y8)) >>= fun z => (m_law_least z.1 z.2))
    else
      (if ((decide (kind = (2 : Int))) || (decide (kind = (7 : Int)))) = true then
        R.ok (whole, (1 : Int))
      else
        (if (decide (kind = (4 : Int))) = true then
          (((powM (10 : Int) (12 : Int)) >>= fun x9 => (getM row (2 : Int)) >>= fun y10 => R.ok ((x9 + y10))) >>= fun x11 => (powM (10 : Int) (12 : Int)) >>= fun y12 => R.ok (x11, y12))
        else
          (if (decide (kind = (5 : Int))) = true then
            (((mulM (100 : Int) base') >>= fun x15 => (((getM row (2 : Int)) >>= fun z => R.ok z) >>= fun x13 => (mulM (5 : Int) base') >>= fun y14 => (modM x13 y14)) >>= fun y16 => R.ok ((x15 - y16))) >>= fun x17 => R.ok (x17, base'))
          else
            ((if (decide (kind = (6 : Int))) = true then (((powM (10 : Int) (20 : Int)) >>= fun x20 => ((getM row (4 : Int)) >>= fun x18 => (powM (10 : Int) (11 : Int)) >>= fun y19 => (mulM x18 y19)) >>= fun y21 => R.ok ((x20 + y21))) >>= fun x22 => (getM row (2 : Int)) >>= fun y23 => R.ok ((x22 + y23))) >>= fun (base' : Int) =>
              R.ok base' else R.ok base') : R Int) >>= fun (j24 : Int) =>
            (((((((getM row (2 : Int)) >>= fun x25 => (getM row (4 : Int)) >>= fun y26 => (mulM x25 y26)) >>= fun x27 => (getM row (4 : Int)) >>= fun y28 => R.ok ((x27 + y28))) >>= fun z => R.ok z) >>= fun x30 => ((mulM (99 : Int) j24) >>= fun x29 => R.ok ((x29 + (1 : Int)))) >>= fun y31 => (modM x30 y31)) >>= fun y32 => R.ok ((j24 + y32))) >>= fun x33 => R.ok (x33, j24)))))))

def m_law_power_b1 (less : Int) (more : Int) (s1 : (List Int)) (turn : Int) : R (List Int) :=
  (((((getM s1 (1 : Int)) >>= fun x2 => (mulM x2 more)) >>= fun x3 => (mulM x3 more)) >>= fun x6 => ((powM (10 : Int) (60 : Int)) >>= fun x4 => (powM (10 : Int) (30 : Int)) >>= fun y5 => (mulM x4 y5)) >>= fun y7 => R.ok ((decide (x6 ≤ y7)))) >>= fun z15 => if z15 = true then
    ((((getM s1 (0 : Int)) >>= fun x8 => (mulM x8 less)) >>= fun x9 => (mulM x9 less)) >>= fun x13 => ((((getM s1 (1 : Int)) >>= fun x10 => (mulM x10 more)) >>= fun x11 => (mulM x11 more)) >>= fun x12 => R.ok (x12 :: [])) >>= fun y14 => R.ok (x13 :: y14)) >>= fun (power : (List Int)) =>
    R.ok power
  else
    R.ok s1)

@[irreducible] def m_law_power (factor : (Int × Int)) (turns : Int) : R (List Int) :=
  R.ok (factor.1 - factor.2) >>= fun (less : Int) =>
  R.ok (factor.1 + factor.2) >>= fun (more : Int) =>
  R.ok ((1 : Int) :: ((1 : Int) :: [])) >>= fun (power : (List Int)) =>
  rngM 0 turns >>= fun as => foldR (m_law_power_b1 less more) as power >>= fun (s16 : (List Int)) =>
  R.ok s16

@[irreducible] def m_law_share (kind : Int) (factor : (Int × Int)) (row : (List Int)) : R (List Int) :=
  (((getM row (3 : Int)) >>= fun y1 => R.ok (factor, y1)) >>= fun z => (m_law_power z.1 z.2)) >>= fun (power : (List Int)) =>
  ((getM power (0 : Int)) >>= fun x2 => R.ok ((decide (x2 = (0 : Int))))) >>= fun z61 => ((if z61 = true then R.ok ((1 : Int) :: ((1 : Int) :: [])) >>= fun (power : (List Int)) =>
    R.ok power else R.ok power) : R (List Int)) >>= fun (j3 : (List Int)) =>
  (if (decide (kind = (0 : Int))) = true then
    ((((((((powM (10 : Int) (6 : Int)) >>= fun x11 => ((powM (10 : Int) (20 : Int)) >>= fun x9 => ((powM (10 : Int) (50 : Int)) >>= fun x7 => (((powM (10 : Int) (50 : Int)) >>= fun x4 => (powM (10 : Int) (50 : Int)) >>= fun y5 => (mulM x4 y5)) >>= fun x6 => R.ok (x6 :: [])) >>= fun y8 => R.ok (x7 :: y8)) >>= fun y10 => R.ok (x9 :: y10)) >>= fun y12 => R.ok (x11 :: y12)) >>= fun y13 => R.ok ((1000 : Int) :: y13)) >>= fun y14 => R.ok ((100 : Int) :: y14)) >>= fun y15 => R.ok ((10 : Int) :: y15)) >>= fun x17 => (((getM row (0 : Int)) >>= fun z => R.ok z) >>= fun x16 => (modM x16 (7 : Int))) >>= fun y18 => (getM x17 y18)) >>= fun x19 => R.ok (x19 :: [])) >>= fun y20 => R.ok ((1 : Int) :: y20))
  else
    (if (decide (kind = (1 : Int))) = true then
      (((((getM row (1 : Int)) >>= fun x21 => (getM row (2 : Int)) >>= fun y22 => R.ok (x21, y22)) >>= fun z => R.ok (if z.2 < z.1 then z.2 else z.1)) >>= fun y23 => R.ok (((1 : Int) + y23))) >>= fun x28 => (((((getM row (1 : Int)) >>= fun x24 => (getM row (2 : Int)) >>= fun y25 => R.ok (x24, y25)) >>= fun z => R.ok (if z.2 > z.1 then z.2 else z.1)) >>= fun y26 => R.ok (((1 : Int) + y26))) >>= fun x27 => R.ok (x27 :: [])) >>= fun y29 => R.ok (x28 :: y29))
    else
      ((if (decide (kind = (2 : Int))) = true then ((((getM row (0 : Int)) >>= fun z => R.ok z) >>= fun x30 => (modM x30 (2 : Int))) >>= fun x31 => R.ok ((decide (x31 = (0 : Int))))) else R.ok false) >>= fun z60 => if z60 = true then
        (((((getM row (1 : Int)) >>= fun x32 => (getM row (2 : Int)) >>= fun y33 => R.ok (x32, y33)) >>= fun z => R.ok (if z.2 > z.1 then z.2 else z.1)) >>= fun y34 => R.ok (((1 : Int) + y34))) >>= fun x39 => (((((getM row (1 : Int)) >>= fun x35 => (getM row (2 : Int)) >>= fun y36 => R.ok (x35, y36)) >>= fun z => R.ok (if z.2 < z.1 then z.2 else z.1)) >>= fun y37 => R.ok (((1 : Int) + y37))) >>= fun x38 => R.ok (x38 :: [])) >>= fun y40 => R.ok (x39 :: y40))
      else
        (if ((decide (kind = (3 : Int))) || (decide (kind = (7 : Int)))) = true then
          R.ok j3
        else
          (if (decide (kind = (4 : Int))) = true then
            (((getM j3 (0 : Int)) >>= fun x42 => ((powM (10 : Int) (20 : Int)) >>= fun x41 => R.ok ((x41 - (1 : Int)))) >>= fun y43 => (mulM x42 y43)) >>= fun x47 => (((getM j3 (1 : Int)) >>= fun x44 => (powM (10 : Int) (20 : Int)) >>= fun y45 => (mulM x44 y45)) >>= fun x46 => R.ok (x46 :: [])) >>= fun y48 => R.ok (x47 :: y48))
          else
            (if (decide (kind = (5 : Int))) = true then
              (((getM j3 (0 : Int)) >>= fun x50 => ((powM (10 : Int) (20 : Int)) >>= fun x49 => R.ok ((x49 + (1 : Int)))) >>= fun y51 => (mulM x50 y51)) >>= fun x55 => (((getM j3 (1 : Int)) >>= fun x52 => (powM (10 : Int) (20 : Int)) >>= fun y53 => (mulM x52 y53)) >>= fun x54 => R.ok (x54 :: [])) >>= fun y56 => R.ok (x55 :: y56))
            else
              ((((getM row (0 : Int)) >>= fun y57 => R.ok (((2 : Int) + y57))) >>= fun x58 => R.ok (x58 :: [])) >>= fun y59 => R.ok ((1 : Int) :: y59))))))))

@[irreducible] def m_law_whole (value : Int) : R Bool :=
  R.ok (true && (!false))

@[irreducible] def m_fraction (top : Int) (bottom : Int) : R (Int × Int) :=
  (if (decide (bottom = (0 : Int))) = true then
    R.stuck
  else
    R.ok ((Int.gcd top bottom : Nat) : Int) >>= fun (shared : Int) =>
    ((if (decide (bottom < (0 : Int))) = true then R.ok (-shared) >>= fun (shared : Int) =>
      R.ok shared else R.ok shared) : R Int) >>= fun (j1 : Int) =>
    ((fdivM top j1) >>= fun x2 => (fdivM bottom j1) >>= fun y3 => R.ok (x2, y3)))

def m_rounds_needed_b1 (fall : (Int × Int)) (s7 : (Int × Int × Int)) : R (Int × Int × Int) :=
  (mulM s7.1 fall.1) >>= fun (top : Int) =>
  (mulM s7.2.1 fall.2) >>= fun (bottom : Int) =>
  R.ok (s7.2.2 + (1 : Int)) >>= fun (needed : Int) =>
  R.ok (top, bottom, needed)

@[irreducible] def m_rounds_needed (factor : (List Int)) (share : (List Int)) : R Int :=
  ((getM factor (0 : Int)) >>= fun x1 => (getM factor (1 : Int)) >>= fun y2 => R.ok ((x1 - y2))) >>= fun (less : Int) =>
  ((getM factor (0 : Int)) >>= fun x3 => (getM factor (1 : Int)) >>= fun y4 => R.ok ((x3 + y4))) >>= fun (more : Int) =>
  (((mulM less less) >>= fun x5 => (mulM more more) >>= fun y6 => R.ok (x5, y6)) >>= fun z => (m_fraction z.1 z.2)) >>= fun (fall : (Int × Int)) =>
  R.ok (1 : Int) >>= fun (top : Int) =>
  R.ok (1 : Int) >>= fun (bottom : Int) =>
  R.ok (0 : Int) >>= fun (needed : Int) =>
  whileR 1000000000 (fun (s7 : (Int × Int × Int)) => (((getM share (1 : Int)) >>= fun y8 => (mulM s7.1 y8)) >>= fun x10 => ((getM share (0 : Int)) >>= fun x9 => (mulM x9 s7.2.1)) >>= fun y11 => R.ok ((decide (y11 < x10))))) (m_rounds_needed_b1 fall) (top, bottom, needed) >>= fun (s12 : (Int × Int × Int)) =>
  R.ok s12.2.2

@[irreducible] def m_law (script : (List Int)) : R Bool :=
  (((m_law_cell script ((0 : Int))) >>= fun x1 => R.ok (x1, ((16 : Int) :: ((8 : Int) :: ((5 : Int) :: ((7 : Int) :: [])))))) >>= fun z => (m_law_digits z.1 z.2)) >>= fun (marks : (List Int)) =>
  (((m_law_cell script ((1 : Int))) >>= fun x7 => ((((((powM (10 : Int) (9 : Int)) >>= fun x2 => R.ok (x2 :: ((9 : Int) :: []))) >>= fun y3 => R.ok ((60 : Int) :: y3)) >>= fun y4 => R.ok ((1000000 : Int) :: y4)) >>= fun y5 => R.ok ((1000 : Int) :: y5)) >>= fun y6 => R.ok ((100 : Int) :: y6)) >>= fun y8 => R.ok (x7, y8)) >>= fun z => (m_law_digits z.1 z.2)) >>= fun (row : (List Int)) =>
  (((m_law_cell script ((2 : Int))) >>= fun x9 => R.ok (x9, ((101 : Int) :: ((1000000 : Int) :: ((1000000 : Int) :: ((21 : Int) :: [])))))) >>= fun z => (m_law_digits z.1 z.2)) >>= fun (other : (List Int)) =>
  ((((getM marks (0 : Int)) >>= fun y10 => (getM ((0 : Int) :: ((1 : Int) :: ((5 : Int) :: ((3 : Int) :: ((4 : Int) :: ((5 : Int) :: ((6 : Int) :: ((7 : Int) :: ((1 : Int) :: ((2 : Int) :: ((3 : Int) :: ((3 : Int) :: ((2 : Int) :: ((3 : Int) :: ((1 : Int) :: ((3 : Int) :: [])))))))))))))))) y10)) >>= fun x11 => R.ok (x11, row)) >>= fun z => (m_law_factor z.1 z.2)) >>= fun (factor : (Int × Int)) =>
  (((getM marks (1 : Int)) >>= fun x12 => R.ok (x12, (factor, other))) >>= fun z => (m_law_share z.1 z.2.1 z.2.2)) >>= fun (share : (List Int)) =>
  (m_law_due factor share) >>= fun (due : (Option Int)) =>
  ((if due.isNone = true then R.ok ((1 : Int) :: ((1000 : Int) :: [])) >>= fun (share : (List Int)) =>
    (m_law_due factor share) >>= fun (due : (Option Int)) =>
    R.ok (share, due) else R.ok (share, due)) : R ((List Int) × (Option Int))) >>= fun (j13 : ((List Int) × (Option Int))) =>
  ((((((((powM (10 : Int) (60 : Int)) >>= fun x14 => R.ok ((x14 + (7 : Int)))) >>= fun x15 => R.ok (x15 :: [])) >>= fun y16 => R.ok ((10 : Int) :: y16)) >>= fun y17 => R.ok ((3 : Int) :: y17)) >>= fun y18 => R.ok ((2 : Int) :: y18)) >>= fun y19 => R.ok ((1 : Int) :: y19)) >>= fun x20 => (getM marks (2 : Int)) >>= fun y21 => (getM x20 y21)) >>= fun (times : Int) =>
  ((((((((((powM (10 : Int) (8 : Int)) >>= fun x22 => R.ok ((x22 + (9 : Int)))) >>= fun x23 => R.ok (x23 :: [])) >>= fun y24 => R.ok ((3 : Int) :: y24)) >>= fun y25 => R.ok ((1 : Int) :: y25)) >>= fun y26 => R.ok ((6 : Int) :: y26)) >>= fun y27 => R.ok ((5 : Int) :: y27)) >>= fun y28 => R.ok ((2 : Int) :: y28)) >>= fun y29 => R.ok ((1 : Int) :: y29)) >>= fun x30 => (getM marks (3 : Int)) >>= fun y31 => (getM x30 y31)) >>= fun (more : Int) =>
  (((mulM factor.1 times) >>= fun x33 => ((mulM factor.2 times) >>= fun x32 => R.ok (x32 :: [])) >>= fun y34 => R.ok (x33 :: y34)) >>= fun x41 => ((((getM j13.1 (0 : Int)) >>= fun x35 => (mulM x35 more)) >>= fun x38 => (((getM j13.1 (1 : Int)) >>= fun x36 => (mulM x36 more)) >>= fun x37 => R.ok (x37 :: [])) >>= fun y39 => R.ok (x38 :: y39)) >>= fun x40 => R.ok (x40 :: [])) >>= fun y42 => R.ok (x41 :: y42)) >>= fun (passed : (List (List Int))) =>
  ((getM passed (0 : Int)) >>= fun x44 => ((getM passed (1 : Int)) >>= fun x43 => R.ok (x43 :: [])) >>= fun y45 => R.ok (x44 :: y45)) >>= fun (kept : (List (List Int))) =>
  (((getM passed (0 : Int)) >>= fun x46 => (getM passed (1 : Int)) >>= fun y47 => R.ok (x46, y47)) >>= fun z => (m_rounds_needed z.1 z.2)) >>= fun (told : Int) =>
  ((((m_law_whole told) >>= fun z => R.ok (!z)) >>= fun z50 => if z50 = true then R.ok true else (((unO j13.2) >>= fun y48 => R.ok ((!decide (told = y48)))) >>= fun z49 => if z49 = true then R.ok true else R.ok (!decide (passed = kept)))) >>= fun z57 => if z57 = true then
    R.ok false
  else
    ((((m_law_least factor.1 factor.2) >>= fun z => R.ok ([z.1, z.2])) >>= fun x53 => ((((getM j13.1 (0 : Int)) >>= fun x51 => (getM j13.1 (1 : Int)) >>= fun y52 => R.ok (x51, y52)) >>= fun z => (m_law_least z.1 z.2)) >>= fun z => R.ok ([z.1, z.2])) >>= fun y54 => R.ok (x53, y54)) >>= fun z => (m_rounds_needed z.1 z.2)) >>= fun (again : Int) =>
    ((m_law_whole again) >>= fun z56 => if z56 = true then ((unO j13.2) >>= fun y55 => R.ok ((decide (again = y55)))) else R.ok false))
end Lw
set_option maxHeartbeats 4000000
set_option exponentiation.threshold 100000
/-! # law_k69_rounds_needed: what the mirrors answer -/
namespace Lw
open PySem Zk
theorem cell_is (s : List Int) (k : Int) : m_law_cell s k = law_cell s k := by unfold m_law_cell; rfl
theorem digits_is (c : Int) (s : List Int) : m_law_digits c s = law_digits c s := by unfold m_law_digits; rfl
theorem gcd_is (a b : Int) : m_law_gcd a b = law_gcd a b := by unfold m_law_gcd; rfl
theorem mulN {x y : Nat} (a b : Nat) (hx : x < 2 ^ a) (hy : y < 2 ^ b) (h : a + b < 100000000) : mulM (x : Int) (y : Int) = .ok ((x * y : Nat) : Int) := by
  rw [mulM_ok a b (by rw [Int.natAbs_natCast]; exact hx) (by rw [Int.natAbs_natCast]; exact hy) h]
  rw [Int.natCast_mul]
theorem powB {x n : Nat} (h : x ≤ 2 ^ n) (k : Nat) : x ^ k < 2 ^ (n * k + 1) := by
  have h1 : x ^ k ≤ (2 ^ n) ^ k := Nat.pow_le_pow_left h k
  rw [← Nat.pow_mul] at h1
  exact Nat.lt_of_le_of_lt h1 (Nat.pow_lt_pow_right (by decide) (Nat.lt_succ_self _))
theorem lt_up {x m n : Nat} (h : x < 2 ^ m) (hn : m ≤ n) : x < 2 ^ n := Nat.lt_of_lt_of_le h (Nat.pow_le_pow_right (by decide) hn)
theorem mul_lt2 {x y a b : Nat} (hx : x < 2 ^ a) (hy : y < 2 ^ b) : x * y < 2 ^ (a + b) := by
  rw [Nat.pow_add]
  exact Nat.mul_lt_mul_of_lt_of_lt hx hy
theorem dig {sizes row : List Int} (h : Digs sizes row) (i : Nat) (j : Int) (z : Int) (hz : sizes[i]? = some z) (e : j = (i : Int)) : ∃ d, getM row j = .ok d ∧ 0 ≤ d ∧ d < z := by
  obtain ⟨d, h1, h2⟩ := h.2 i z hz
  exact ⟨d, getM_of e h1, h2⟩
theorem getM_mem {α : Type} (xs : List α) (j : Int) (h0 : 0 ≤ j) (h1 : j < xs.length) : ∃ z, getM xs j = .ok z ∧ z ∈ xs := by
  have hl : j.toNat < xs.length := by omega
  exact ⟨xs[j.toNat], getM_of (i := j.toNat) (by omega) (List.getElem?_eq_getElem hl), List.getElem_mem hl⟩
/-! ### fractions -/
theorem divN (x y : Nat) (hy : 0 < y) (hl : y < 2 ^ 8000) : fdivM (x : Int) (y : Int) = .ok ((x / y : Nat) : Int) := by
  rw [fdivM_ok (by omega) (by rw [Int.natAbs_natCast]; exact Nat.lt_of_le_of_lt (log2_le hl) (by decide))]
  rw [Int.fdiv_eq_ediv_of_nonneg _ (Int.natCast_nonneg y)]
  rw [Int.natCast_ediv]
theorem least_ok (x y : Nat) (hy : 0 < y) (hl : y < 2 ^ 8000) : ∃ g A B : Nat, 0 < g ∧ x = g * A ∧ y = g * B ∧ m_law_least (x : Int) (y : Int) = .ok ((A : Int), (B : Int)) := by
  have hg : 0 < Nat.gcd x y := Nat.gcd_pos_of_pos_right x hy
  have hgl : Nat.gcd x y < 2 ^ 8000 := Nat.lt_of_le_of_lt (Nat.gcd_le_right x hy) hl
  refine ⟨Nat.gcd x y, x / Nat.gcd x y, y / Nat.gcd x y, hg, (Nat.mul_div_cancel' (Nat.gcd_dvd_left x y)).symm, (Nat.mul_div_cancel' (Nat.gcd_dvd_right x y)).symm, ?_⟩
  have hn : ¬ ((y : Int) < 0) := by omega
  have eg : m_law_gcd (x : Int) (y : Int) = .ok ((Nat.gcd x y : Nat) : Int) := by
    rw [gcd_is, law_gcd_ok _ _ (by rw [Int.natAbs_natCast]; exact lt_up hl (by decide))]
    rw [Int.gcd_natCast_natCast]
  unfold m_law_least
  simp only [decide_eq_false hn, Bool.false_eq_true, if_false, R.ok_bind]
  rw [eg]
  simp only [R.ok_bind]
  rw [divN x _ hg hgl]
  simp only [R.ok_bind]
  rw [divN y _ hg hgl]
  rfl
theorem fraction_ok (x y : Nat) (hy : 0 < y) (hl : y < 2 ^ 8000) : ∃ g A B : Nat, 0 < g ∧ x = g * A ∧ y = g * B ∧ m_fraction (x : Int) (y : Int) = .ok ((A : Int), (B : Int)) := by
  have hg : 0 < Nat.gcd x y := Nat.gcd_pos_of_pos_right x hy
  have hgl : Nat.gcd x y < 2 ^ 8000 := Nat.lt_of_le_of_lt (Nat.gcd_le_right x hy) hl
  refine ⟨Nat.gcd x y, x / Nat.gcd x y, y / Nat.gcd x y, hg, (Nat.mul_div_cancel' (Nat.gcd_dvd_left x y)).symm, (Nat.mul_div_cancel' (Nat.gcd_dvd_right x y)).symm, ?_⟩
  have hn : ¬ ((y : Int) < 0) := by omega
  have hz : ¬ ((y : Int) = 0) := by omega
  unfold m_fraction
  simp only [decide_eq_false hn, decide_eq_false hz, Bool.false_eq_true, if_false, R.ok_bind, Int.gcd_natCast_natCast]
  rw [divN x _ hg hgl]
  simp only [R.ok_bind]
  rw [divN y _ hg hgl]
  rfl
/-! ### the least round -/
def D (x y u v k : Nat) : Prop := x ^ k * v ≤ u * y ^ k
instance (x y u v k : Nat) : Decidable (D x y u v k) := inferInstanceAs (Decidable (x ^ k * v ≤ u * y ^ k))
theorem D_scale (g x y u v k : Nat) (hg : 0 < g) : D (g * x) (g * y) u v k ↔ D x y u v k := by
  unfold D
  rw [Nat.mul_pow, Nat.mul_pow]
  have hk : 0 < g ^ k := Nat.pow_pos hg
  rw [show g ^ k * x ^ k * v = g ^ k * (x ^ k * v) from Nat.mul_assoc _ _ _, show u * (g ^ k * y ^ k) = g ^ k * (u * y ^ k) from Nat.mul_left_comm _ _ _]
  exact ⟨fun h => Nat.le_of_mul_le_mul_left h hk, fun h => Nat.mul_le_mul_left _ h⟩
theorem D_scale2 (e x y u v k : Nat) (he : 0 < e) : D x y (e * u) (e * v) k ↔ D x y u v k := by
  unfold D
  rw [show x ^ k * (e * v) = e * (x ^ k * v) from Nat.mul_left_comm _ _ _, show e * u * y ^ k = e * (u * y ^ k) from Nat.mul_assoc _ _ _]
  exact ⟨fun h => Nat.le_of_mul_le_mul_left h he, fun h => Nat.mul_le_mul_left _ h⟩
def sqd (a b : Nat) : Nat := (a - b) * (a - b)
def sqs (a b : Nat) : Nat := (a + b) * (a + b)
theorem D_fac (t a b u v k : Nat) (ht : 0 < t) : D (sqd (t * a) (t * b)) (sqs (t * a) (t * b)) u v k ↔ D (sqd a b) (sqs a b) u v k := by
  have e1 : sqd (t * a) (t * b) = (t * t) * sqd a b := by
    unfold sqd
    rw [← Nat.mul_sub]
    exact Nat.mul_mul_mul_comm _ _ _ _
  have e2 : sqs (t * a) (t * b) = (t * t) * sqs a b := by
    unfold sqs
    rw [← Nat.mul_add]
    exact Nat.mul_mul_mul_comm _ _ _ _
  rw [e1, e2]
  exact D_scale _ _ _ _ _ _ (Nat.mul_pos ht ht)
theorem while_ok {A B u v k : Nat} {test : Int × Int × Int → R Bool} {step : Int × Int × Int → R (Int × Int × Int)}
    (ht : ∀ i, i ≤ k → test (((A ^ i : Nat) : Int), ((B ^ i : Nat) : Int), (i : Int)) = .ok (decide (u * B ^ i < A ^ i * v)))
    (hs : ∀ i : Nat, i < k → step (((A ^ i : Nat) : Int), ((B ^ i : Nat) : Int), (i : Int)) = .ok (((A ^ (i + 1) : Nat) : Int), ((B ^ (i + 1) : Nat) : Int), ((i + 1 : Nat) : Int)))
    (h1 : D A B u v k) (h2 : ∀ j, j < k → ¬ D A B u v j) : ∀ (n i : Nat), i ≤ k → k - i < n →
    whileR n test step (((A ^ i : Nat) : Int), ((B ^ i : Nat) : Int), (i : Int)) = .ok (((A ^ k : Nat) : Int), ((B ^ k : Nat) : Int), (k : Int)) := by
  intro n
  induction n with
  | zero => intro i _ h; omega
  | succ n ih =>
    intro i hi h
    unfold whileR
    rw [ht i hi]
    simp only [R.ok_bind]
    by_cases e : i = k
    · subst e
      have hd : ¬ (u * B ^ i < A ^ i * v) := Nat.not_lt.mpr h1
      rw [decide_eq_false hd]
      rfl
    · have hlt : i < k := by omega
      have hd : u * B ^ i < A ^ i * v := Nat.lt_of_not_le (h2 i hlt)
      rw [decide_eq_true hd, if_pos rfl, hs i hlt]
      simp only [R.ok_bind]
      exact ih (i + 1) hlt (by omega)
theorem rounds_ok (a b u v k : Nat) (hb : 1 ≤ b) (hab : b ≤ a) (ha : a < 2 ^ 400) (hu : u < 2 ^ 700) (hv : v < 2 ^ 700) (hk : k ≤ 200) (h1 : D (sqd a b) (sqs a b) u v k) (h2 : ∀ j, j < k → ¬ D (sqd a b) (sqs a b) u v j) :
    m_rounds_needed [(a : Int), (b : Int)] [(u : Int), (v : Int)] = .ok (k : Int) := by
  have g0 : getM [(a : Int), (b : Int)] 0 = .ok (a : Int) := rfl
  have g1 : getM [(a : Int), (b : Int)] 1 = .ok (b : Int) := rfl
  have s0 : getM [(u : Int), (v : Int)] 0 = .ok (u : Int) := rfl
  have s1 : getM [(u : Int), (v : Int)] 1 = .ok (v : Int) := rfl
  have el : (a : Int) - (b : Int) = ((a - b : Nat) : Int) := by omega
  have em : (a : Int) + (b : Int) = ((a + b : Nat) : Int) := by omega
  have hb2 : b < 2 ^ 400 := Nat.lt_of_le_of_lt hab ha
  have hm : a + b < 2 ^ 401 := by omega
  have hl : a - b < 2 ^ 401 := by omega
  have hss : sqs a b < 2 ^ 802 := mul_lt2 hm hm
  have hsd : sqd a b < 2 ^ 802 := mul_lt2 hl hl
  obtain ⟨g, A, B, hg, eA, eB, ef⟩ := fraction_ok (sqd a b) (sqs a b) (Nat.mul_pos (by omega) (by omega)) (lt_up hss (by decide))
  have hA : A ≤ 2 ^ 802 := by
    have : A ≤ g * A := Nat.le_mul_of_pos_left A hg
    omega
  have hB : B ≤ 2 ^ 802 := by
    have : B ≤ g * B := Nat.le_mul_of_pos_left B hg
    omega
  rw [eA, eB] at h1
  have h1' := (D_scale g A B u v k hg).mp h1
  have h2' : ∀ j, j < k → ¬ D A B u v j := fun j hj hd => h2 j hj (by rw [eA, eB]; exact (D_scale g A B u v j hg).mpr hd)
  unfold m_rounds_needed
  simp only [g0, g1, s0, s1, R.ok_bind, el, em]
  rw [mulN 401 401 hl hl (by decide)]
  simp only [R.ok_bind]
  rw [mulN 401 401 hm hm (by decide)]
  simp only [R.ok_bind]
  have ef' : m_fraction (((a - b) * (a - b) : Nat) : Int) (((a + b) * (a + b) : Nat) : Int) = .ok ((A : Int), (B : Int)) := ef
  rw [ef']
  simp only [R.ok_bind]
  have w := while_ok (A := A) (B := B) (u := u) (v := v) (k := k) (test := fun (s7 : (Int × Int × Int)) => ((mulM s7.1 (v : Int)) >>= fun x10 => (mulM (u : Int) s7.2.1) >>= fun y11 => R.ok ((decide (y11 < x10))))) (step := m_rounds_needed_b1 ((A : Int), (B : Int)))
    (fun i hi => by
      show (mulM ((A ^ i : Nat) : Int) (v : Int) >>= fun x10 => mulM (u : Int) ((B ^ i : Nat) : Int) >>= fun y11 => R.ok (decide (y11 < x10))) = _
      rw [mulN (802 * i + 1) 700 (powB hA i) hv (by omega)]
      simp only [R.ok_bind]
      rw [mulN 700 (802 * i + 1) hu (powB hB i) (by omega)]
      simp only [R.ok_bind]
      by_cases q : u * B ^ i < A ^ i * v
      · rw [decide_eq_true q, decide_eq_true (Int.ofNat_lt.mpr q)]
      · rw [decide_eq_false q, decide_eq_false (fun z => q (Int.ofNat_lt.mp z))])
    (fun i hi => by
      unfold m_rounds_needed_b1
      show (mulM ((A ^ i : Nat) : Int) (A : Int) >>= _) = _
      rw [mulN (802 * i + 1) 803 (powB hA i) (Nat.lt_of_le_of_lt hA (Nat.pow_lt_pow_right (by decide) (by decide))) (by omega)]
      simp only [R.ok_bind]
      rw [mulN (802 * i + 1) 803 (powB hB i) (Nat.lt_of_le_of_lt hB (Nat.pow_lt_pow_right (by decide) (by decide))) (by omega)]
      simp only [R.ok_bind]
      rw [← Nat.pow_succ, ← Nat.pow_succ]
      rfl)
    h1' h2' 1000000000 0 (Nat.zero_le _) (by omega)
  rw [Nat.pow_zero, Nat.pow_zero] at w
  have w' : whileR 1000000000 (fun (s7 : (Int × Int × Int)) => ((mulM s7.1 (v : Int)) >>= fun x10 => (mulM (u : Int) s7.2.1) >>= fun y11 => R.ok ((decide (y11 < x10))))) (m_rounds_needed_b1 ((A : Int), (B : Int))) ((1 : Int), (1 : Int), (0 : Int)) = .ok (((A ^ k : Nat) : Int), ((B ^ k : Nat) : Int), (k : Int)) := w
  rw [w']
  rfl
/-! ### the law's own count -/
theorem due_step (u v l m i : Nat) (t : Int) (hl : l < 2 ^ 401) (hm : m < 2 ^ 401) (hu : u < 2 ^ 700) (hv : v < 2 ^ 700) (hi : i ≤ 200) :
    m_law_due_b1 [(u : Int), (v : Int)] (l : Int) (m : Int) ((((l * l) ^ i : Nat) : Int), (((m * m) ^ i : Nat) : Int)) t =
      .ok (if D (l * l) (m * m) u v i then .ret (some t) else .nxt ((((l * l) ^ (i + 1) : Nat) : Int), (((m * m) ^ (i + 1) : Nat) : Int))) := by
  have s0 : getM [(u : Int), (v : Int)] 0 = .ok (u : Int) := rfl
  have s1 : getM [(u : Int), (v : Int)] 1 = .ok (v : Int) := rfl
  have h1 := powB (Nat.le_of_lt (mul_lt2 hl hl)) i
  have h2 := powB (Nat.le_of_lt (mul_lt2 hm hm)) i
  unfold m_law_due_b1
  simp only [s0, s1, R.ok_bind]
  rw [mulN _ 700 h1 hv (by omega)]
  simp only [R.ok_bind]
  rw [mulN 700 _ hu h2 (by omega)]
  simp only [R.ok_bind]
  by_cases q : D (l * l) (m * m) u v i
  · rw [decide_eq_true (Int.ofNat_le.mpr q), if_pos rfl, if_pos q]
  · rw [decide_eq_false (fun z => q (Int.ofNat_le.mp z)), if_neg Bool.false_ne_true, if_neg q]
    rw [mulN _ 401 h1 hl (by omega)]
    simp only [R.ok_bind]
    rw [mulN _ 401 (mul_lt2 h1 hl) hl (by omega)]
    simp only [R.ok_bind]
    rw [mulN _ 401 h2 hm (by omega)]
    simp only [R.ok_bind]
    rw [mulN _ 401 (mul_lt2 h2 hm) hm (by omega)]
    simp only [R.ok_bind]
    rw [Nat.mul_assoc, Nat.mul_assoc, ← Nat.pow_succ, ← Nat.pow_succ]
theorem due_loop (u v l m : Nat) (hl : l < 2 ^ 401) (hm : m < 2 ^ 401) (hu : u < 2 ^ 700) (hv : v < 2 ^ 700) : ∀ (n i : Nat), i + n ≤ 201 →
    (∃ k, i ≤ k ∧ k < i + n ∧ D (l * l) (m * m) u v k ∧ (∀ j, i ≤ j → j < k → ¬ D (l * l) (m * m) u v j) ∧ loopR (m_law_due_b1 [(u : Int), (v : Int)] (l : Int) (m : Int)) (rangeL (i : Int) n) ((((l * l) ^ i : Nat) : Int), (((m * m) ^ i : Nat) : Int)) = .ok (.out (some (k : Int)))) ∨
    ((∀ j, i ≤ j → j < i + n → ¬ D (l * l) (m * m) u v j) ∧ ∃ s, loopR (m_law_due_b1 [(u : Int), (v : Int)] (l : Int) (m : Int)) (rangeL (i : Int) n) ((((l * l) ^ i : Nat) : Int), (((m * m) ^ i : Nat) : Int)) = .ok (.go s)) := by
  intro n
  induction n with
  | zero => exact fun i _ => .inr ⟨fun j _ _ => by omega, _, rfl⟩
  | succ n ih =>
    intro i hi
    have st := due_step u v l m i (i : Int) hl hm hu hv (by omega)
    rw [show rangeL (i : Int) (n + 1) = (i : Int) :: rangeL ((i : Int) + 1) n from rfl]
    simp only [loopR]
    rw [st]
    simp only [R.ok_bind]
    by_cases q : D (l * l) (m * m) u v i
    · rw [if_pos q]
      exact .inl ⟨i, Nat.le_refl _, by omega, q, fun j h1 h2 => by omega, rfl⟩
    · rw [if_neg q]
      have hc : (i : Int) + 1 = ((i + 1 : Nat) : Int) := by omega
      rw [hc]
      rcases ih (i + 1) (by omega) with ⟨k, k1, k2, k3, k4, k5⟩ | ⟨k1, s, k2⟩
      · refine .inl ⟨k, by omega, by omega, k3, fun j h1 h2 => ?_, k5⟩
        by_cases z : j = i
        · rw [z]; exact q
        · exact k4 j (by omega) h2
      · refine .inr ⟨fun j h1 h2 => ?_, s, k2⟩
        by_cases z : j = i
        · rw [z]; exact q
        · exact k1 j (by omega) (by omega)
theorem due_ok (a b u v : Nat) (hab : b ≤ a) (ha : a < 2 ^ 400) (hu : u < 2 ^ 700) (hv : v < 2 ^ 700) :
    (∃ k, k ≤ 200 ∧ D (sqd a b) (sqs a b) u v k ∧ (∀ j, j < k → ¬ D (sqd a b) (sqs a b) u v j) ∧ m_law_due ((a : Int), (b : Int)) [(u : Int), (v : Int)] = .ok (some (k : Int))) ∨
    ((∀ j, j ≤ 200 → ¬ D (sqd a b) (sqs a b) u v j) ∧ m_law_due ((a : Int), (b : Int)) [(u : Int), (v : Int)] = .ok none) := by
  have el : (a : Int) - (b : Int) = ((a - b : Nat) : Int) := by omega
  have em : (a : Int) + (b : Int) = ((a + b : Nat) : Int) := by omega
  have r : rngM 0 201 = .ok (rangeL ((0 : Nat) : Int) 201) := rfl
  have e : m_law_due ((a : Int), (b : Int)) [(u : Int), (v : Int)] = (loopR (m_law_due_b1 [(u : Int), (v : Int)] ((a - b : Nat) : Int) ((a + b : Nat) : Int)) (rangeL ((0 : Nat) : Int) 201) (((((a - b) * (a - b)) ^ 0 : Nat) : Int), ((((a + b) * (a + b)) ^ 0 : Nat) : Int)) >>= End.cs (fun _ => R.ok none) (fun b => R.ok b)) := by
    unfold m_law_due
    simp only [el, em, r, R.ok_bind, Nat.pow_zero]
    rfl
  rcases due_loop u v (a - b) (a + b) (by omega) (by omega) hu hv 201 0 (by decide) with ⟨k, k1, k2, k3, k4, k5⟩ | ⟨k1, s, k2⟩
  · refine .inl ⟨k, by omega, k3, fun j h => k4 j (Nat.zero_le _) h, ?_⟩
    rw [e, k5]
    rfl
  · refine .inr ⟨fun j h => k1 j (Nat.zero_le _) (by omega), ?_⟩
    rw [e, k2]
    rfl
theorem base_pow : 99 ^ 400 * 1000 ≤ 101 ^ 400 := by decide +kernel
theorem D_1000 (a b : Nat) (hb : 1 ≤ b) (hab : b ≤ a) (h : a ≤ 100 * b) : D (sqd a b) (sqs a b) 1 1000 200 := by
  unfold D sqd sqs
  rw [← Nat.pow_two, ← Nat.pow_two, ← Nat.pow_mul, ← Nat.pow_mul, Nat.one_mul]
  have h1 : (a - b) * 101 ≤ (a + b) * 99 := by omega
  have h2 : ((a - b) * 101) ^ 400 ≤ ((a + b) * 99) ^ 400 := Nat.pow_le_pow_left h1 400
  rw [Nat.mul_pow, Nat.mul_pow] at h2
  have h3 : (a - b) ^ 400 * (99 ^ 400 * 1000) ≤ (a - b) ^ 400 * 101 ^ 400 := Nat.mul_le_mul_left _ base_pow
  have h4 : 99 ^ 400 * ((a - b) ^ 400 * 1000) ≤ 99 ^ 400 * (a + b) ^ 400 := by
    rw [Nat.mul_left_comm, Nat.mul_comm (99 ^ 400) ((a + b) ^ 400)]
    exact Nat.le_trans h3 h2
  exact Nat.le_of_mul_le_mul_left h4 (Nat.pow_pos (by decide))
theorem p6 : powM 10 6 = .ok 1000000 := rfl
theorem p8 : powM 10 8 = .ok 100000000 := rfl
theorem p9 : powM 10 9 = .ok 1000000000 := rfl
theorem p11 : powM 10 11 = .ok 100000000000 := rfl
theorem p12 : powM 10 12 = .ok 1000000000000 := rfl
theorem p20 : powM 10 20 = .ok 100000000000000000000 := rfl
theorem p30 : powM 10 30 = .ok 1000000000000000000000000000000 := rfl
theorem p50 : powM 10 50 = .ok 100000000000000000000000000000000000000000000000000 := rfl
theorem p60 : powM 10 60 = .ok 1000000000000000000000000000000000000000000000000000000000000 := rfl
theorem mulI {x y : Int} (a b : Nat) (hx : x.natAbs < 2 ^ a) (hy : y.natAbs < 2 ^ b) (h : a + b < 100000000 := by decide) : mulM x y = .ok (x * y) := mulM_ok a b hx hy h
def Fac (m : R (Int × Int)) : Prop := ∃ a b : Nat, m = .ok ((a : Int), (b : Int)) ∧ 1 ≤ b ∧ b ≤ a ∧ a ≤ 100 * b ∧ b < 2 ^ 70
theorem fac_of {x y : Int} (h1 : 1 ≤ y) (h2 : y ≤ x) (h3 : x ≤ 100 * y) (h4 : y < 2 ^ 70) : Fac (.ok (x, y)) := ⟨x.toNat, y.toNat, by rw [Int.toNat_of_nonneg (by omega), Int.toNat_of_nonneg (by omega)], by omega, by omega, by omega, by omega⟩
theorem fac_least (x y : Nat) (h1 : 1 ≤ y) (h2 : y ≤ x) (h3 : x ≤ 100 * y) (h4 : y < 2 ^ 70) : Fac (m_law_least (x : Int) (y : Int)) := by
  obtain ⟨g, A, B, hg, e1, e2, e3⟩ := least_ok x y h1 (lt_up h4 (by decide))
  rw [e3]
  refine ⟨A, B, rfl, ?_, ?_, ?_, ?_⟩
  · cases B with
    | zero => rw [Nat.mul_zero] at e2; omega
    | succ B => omega
  · rw [e1, e2] at h2
    exact Nat.le_of_mul_le_mul_left h2 hg
  · rw [e1, e2, Nat.mul_left_comm] at h3
    exact Nat.le_of_mul_le_mul_left h3 hg
  · have : B ≤ g * B := Nat.le_mul_of_pos_left B hg
    omega
theorem tail_ok (t j : Int) (h1 : 1 ≤ j) (h2 : j < 2 ^ 70) : Fac (((((mulM (99 : Int) j) >>= fun x29 => R.ok ((x29 + (1 : Int)))) >>= fun y31 => (modM t y31)) >>= fun y32 => R.ok ((j + y32))) >>= fun x33 => R.ok (x33, j)) := by
  rw [mulI 7 70 (by decide) (by omega)]
  simp only [R.ok_bind]
  rw [modM_ok (by omega)]
  simp only [R.ok_bind]
  have h := fmod_pos (x := t) (y := 99 * j + 1) (by omega)
  exact fac_of (by omega) (by omega) (by omega) (by omega)
theorem five_ok (t j : Int) (h1 : 1 ≤ j) (h2 : j < 2 ^ 40) : Fac (((mulM (100 : Int) j) >>= fun x15 => ((mulM (5 : Int) j) >>= fun y14 => (modM t y14)) >>= fun y16 => R.ok ((x15 - y16))) >>= fun x17 => R.ok (x17, j)) := by
  rw [mulI 7 40 (by decide) (by omega)]
  simp only [R.ok_bind]
  rw [mulI 3 40 (by decide) (by omega)]
  simp only [R.ok_bind]
  rw [modM_ok (by omega)]
  simp only [R.ok_bind]
  have h := fmod_pos (x := t) (y := 5 * j) (by omega)
  exact fac_of (by omega) (by omega) (by omega) (by omega)
theorem factor_ok (kind : Int) (row : List Int) (hk : 0 ≤ kind ∧ kind < 8) (hd : Digs [100, 1000, 1000000, 60, 1000000000, 9] row) : Fac (m_law_factor kind row) := by
  obtain ⟨r0, g0, b0⟩ := dig hd 0 0 100 rfl rfl
  obtain ⟨r1, g1, b1⟩ := dig hd 1 1 1000 rfl rfl
  obtain ⟨r2, g2, b2⟩ := dig hd 2 2 1000000 rfl rfl
  obtain ⟨r4, g4, b4⟩ := dig hd 4 4 1000000000 rfl rfl
  obtain ⟨r5, g5, b5⟩ := dig hd 5 5 9 rfl rfl
  have m24 : mulM r2 r4 = .ok (r2 * r4) := mulI 30 30 (by omega) (by omega)
  have hc : kind = 0 ∨ kind = 1 ∨ kind = 2 ∨ kind = 3 ∨ kind = 4 ∨ kind = 5 ∨ kind = 6 ∨ kind = 7 := by omega
  unfold m_law_factor
  simp only [g0, g1, g2, g4, g5, m24, p9, p11, p12, p20, R.ok_bind]
  rcases hc with e | e | e | e | e | e | e | e <;> subst e
  · exact fac_of (x := 1) (y := 1) (by decide) (by decide) (by decide) (by decide)
  · have h5 : r5 = 0 ∨ r5 = 1 ∨ r5 = 2 ∨ r5 = 3 ∨ r5 = 4 ∨ r5 = 5 ∨ r5 = 6 ∨ r5 = 7 ∨ r5 = 8 := by omega
    rcases h5 with e | e | e | e | e | e | e | e | e <;> subst e
    · exact fac_least 87 9 (by decide) (by decide) (by decide) (by decide)
    · exact fac_least 300 72 (by decide) (by decide) (by decide) (by decide)
    · exact fac_least 695 243 (by decide) (by decide) (by decide) (by decide)
    · exact fac_least 1326 576 (by decide) (by decide) (by decide) (by decide)
    · exact fac_least 2247 1125 (by decide) (by decide) (by decide) (by decide)
    · exact fac_least 3512 1944 (by decide) (by decide) (by decide) (by decide)
    · exact fac_least 5175 3087 (by decide) (by decide) (by decide) (by decide)
    · exact fac_least 7290 4608 (by decide) (by decide) (by decide) (by decide)
    · exact fac_least 9911 6561 (by decide) (by decide) (by decide) (by decide)
  · exact fac_of (x := 1 + r0) (y := 1) (by omega) (by omega) (by omega) (by decide)
  · exact tail_ok _ (1 + r1) (by omega) (by omega)
  · exact fac_of (x := 1000000000000 + r2) (y := 1000000000000) (by omega) (by omega) (by omega) (by decide)
  · exact five_ok _ (1 + r1) (by omega) (by omega)
  · have m4 : mulM r4 100000000000 = .ok (r4 * 100000000000) := mulI 30 37 (by omega) (by decide)
    rw [m4]
    exact tail_ok _ (100000000000000000000 + r4 * 100000000000 + r2) (by omega) (by omega)
  · exact fac_of (x := 1 + r0) (y := 1) (by omega) (by omega) (by omega) (by decide)
/-! ### the share -/
theorem power_ok (a b : Nat) (hb : 1 ≤ b) (hab : b ≤ a) (ha : a < 2 ^ 80) (t : Int) (h0 : 0 ≤ t) (h1 : t < 1000) : ∃ p q : Nat, m_law_power ((a : Int), (b : Int)) t = .ok [(p : Int), (q : Int)] ∧ 1 ≤ q ∧ q < 2 ^ 300 ∧ p ≤ q := by
  have el : (a : Int) - (b : Int) = ((a - b : Nat) : Int) := by omega
  have em : (a : Int) + (b : Int) = ((a + b : Nat) : Int) := by omega
  have hl : a - b < 2 ^ 81 := by omega
  have hm : a + b < 2 ^ 81 := by omega
  have hlm : a - b ≤ a + b := by omega
  have hm1 : 1 ≤ a + b := by omega
  obtain ⟨s, e, c⟩ := foldR_inv (step := m_law_power_b1 ((a - b : Nat) : Int) ((a + b : Nat) : Int)) (fun _ s => ∃ p q : Nat, s = [(p : Int), (q : Int)] ∧ 1 ≤ q ∧ q < 2 ^ 300 ∧ p ≤ q) (rangeL 0 (t - 0).toNat) 0 [(1 : Int), (1 : Int)] ⟨1, 1, rfl, Nat.le_refl _, by decide, Nat.le_refl _⟩ (fun j s x c hx hj => by
    obtain ⟨p, q, rfl, q1, q2, q3⟩ := c
    have g0 : getM [(p : Int), (q : Int)] 0 = .ok (p : Int) := rfl
    have g1 : getM [(p : Int), (q : Int)] 1 = .ok (q : Int) := rfl
    have hp : p < 2 ^ 300 := Nat.lt_of_le_of_lt q3 q2
    have n1 := mulN 300 81 q2 hm (by decide)
    have n2 := mulN 381 81 (mul_lt2 q2 hm) hm (by decide)
    have n3 := mulN 300 81 hp hl (by decide)
    have n4 := mulN 381 81 (mul_lt2 hp hl) hl (by decide)
    have n5 : mulM 1000000000000000000000000000000000000000000000000000000000000 1000000000000000000000000000000 = .ok 1000000000000000000000000000000000000000000000000000000000000000000000000000000000000000000 := rfl
    unfold m_law_power_b1
    simp only [g0, g1, n1, n2, n3, n4, n5, p60, p30, R.ok_bind]
    by_cases h : ((q * (a + b) * (a + b) : Nat) : Int) ≤ 1000000000000000000000000000000000000000000000000000000000000000000000000000000000000000000
    · rw [decide_eq_true h, if_pos rfl]
      refine ⟨_, rfl, p * (a - b) * (a - b), q * (a + b) * (a + b), rfl, ?_, ?_, ?_⟩
      · exact Nat.mul_pos (Nat.mul_pos q1 hm1) hm1
      · have h' : q * (a + b) * (a + b) ≤ 1000000000000000000000000000000000000000000000000000000000000000000000000000000000000000000 := by omega
        exact Nat.lt_of_le_of_lt h' (by decide)
      · exact Nat.mul_le_mul (Nat.mul_le_mul q3 hlm) hlm
    · rw [decide_eq_false h, if_neg Bool.false_ne_true]
      exact ⟨_, rfl, p, q, rfl, q1, q2, q3⟩)
  obtain ⟨p, q, es, c⟩ := c
  refine ⟨p, q, ?_, c⟩
  unfold m_law_power
  simp only [el, em, R.ok_bind]
  rw [rngM_ok (by decide) (by decide) (by omega) (by omega)]
  simp only [R.ok_bind]
  rw [e, es]
  rfl
def Shr (m : R (List Int)) : Prop := ∃ u v : Nat, m = .ok [(u : Int), (v : Int)] ∧ 1 ≤ u ∧ 1 ≤ v ∧ u < 2 ^ 400 ∧ v < 2 ^ 400
theorem shr_of {x y : Int} (h1 : 1 ≤ x) (h2 : 1 ≤ y) (h3 : x < 2 ^ 400) (h4 : y < 2 ^ 400) : Shr (.ok [x, y]) := ⟨x.toNat, y.toNat, by rw [Int.toNat_of_nonneg (by omega), Int.toNat_of_nonneg (by omega)], by omega, by omega, by omega, by omega⟩
def tens : List Int := [10, 100, 1000, 1000000, 100000000000000000000, 100000000000000000000000000000000000000000000000000, 100000000000000000000000000000000000000000000000000 * 100000000000000000000000000000000000000000000000000]
theorem tens_ok : ∀ z ∈ tens, 1 ≤ z ∧ z < 2 ^ 400 := by decide +kernel
theorem share_ok (kind : Int) (a b : Nat) (row : List Int) (hk : 0 ≤ kind ∧ kind < 8) (hb : 1 ≤ b) (hab : b ≤ a) (ha : a < 2 ^ 80) (hd : Digs [101, 1000000, 1000000, 21] row) : Shr (m_law_share kind ((a : Int), (b : Int)) row) := by
  obtain ⟨r0, g0, b0⟩ := dig hd 0 0 101 rfl rfl
  obtain ⟨r1, g1, b1⟩ := dig hd 1 1 1000000 rfl rfl
  obtain ⟨r2, g2, b2⟩ := dig hd 2 2 1000000 rfl rfl
  obtain ⟨r3, g3, b3⟩ := dig hd 3 3 21 rfl rfl
  obtain ⟨p, q, ep, q1, q2, q3⟩ := power_ok a b hb hab ha r3 b3.1 (by omega)
  obtain ⟨P, Q, e3, h1, h2, h3, h4⟩ : ∃ P Q : Nat, ((getM [(p : Int), (q : Int)] (0 : Int)) >>= fun x2 => R.ok ((decide (x2 = (0 : Int))))) >>= (fun z61 => ((if z61 = true then R.ok ((1 : Int) :: ((1 : Int) :: [])) else R.ok [(p : Int), (q : Int)]) : R (List Int))) = .ok [(P : Int), (Q : Int)] ∧ 1 ≤ P ∧ 1 ≤ Q ∧ P < 2 ^ 300 ∧ Q < 2 ^ 300 := by
    by_cases h : p = 0
    · subst h
      exact ⟨1, 1, rfl, Nat.le_refl _, Nat.le_refl _, by decide, by decide⟩
    · refine ⟨p, q, ?_, by omega, q1, Nat.lt_of_le_of_lt q3 q2, q2⟩
      have h' : ¬ ((p : Int) = 0) := by omega
      show (if decide ((p : Int) = 0) = true then _ else _) = _
      rw [decide_eq_false h', if_neg Bool.false_ne_true]
  have k0 : getM [(P : Int), (Q : Int)] 0 = .ok (P : Int) := rfl
  have k1 : getM [(P : Int), (Q : Int)] 1 = .ok (Q : Int) := rfl
  have m50 : mulM 100000000000000000000000000000000000000000000000000 100000000000000000000000000000000000000000000000000 = .ok (100000000000000000000000000000000000000000000000000 * 100000000000000000000000000000000000000000000000000) := rfl
  have md7 : modM r0 7 = .ok (r0.fmod 7) := modM_ok (by decide)
  have md2 : modM r0 2 = .ok (r0.fmod 2) := modM_ok (by decide)
  have f7 := fmod_pos (x := r0) (y := 7) (by decide)
  obtain ⟨z, ez, hz⟩ := getM_mem tens (r0.fmod 7) f7.1 f7.2
  have zb := tens_ok z hz
  have ez' : getM ((10 : Int) :: ((100 : Int) :: ((1000 : Int) :: ((1000000 : Int) :: ((100000000000000000000 : Int) :: ((100000000000000000000000000000000000000000000000000 : Int) :: ((100000000000000000000000000000000000000000000000000 * 100000000000000000000000000000000000000000000000000 : Int) :: []))))))) (r0.fmod 7) = .ok z := ez
  have n1 : mulM (P : Int) (100000000000000000000 - 1) = .ok ((P : Int) * (100000000000000000000 - 1)) := mulI 300 68 (by omega) (by decide)
  have n2 : mulM (P : Int) (100000000000000000000 + 1) = .ok ((P : Int) * (100000000000000000000 + 1)) := mulI 300 68 (by omega) (by decide)
  have n3 : mulM (Q : Int) 100000000000000000000 = .ok ((Q : Int) * 100000000000000000000) := mulI 300 68 (by omega) (by decide)
  have hc : kind = 0 ∨ kind = 1 ∨ kind = 2 ∨ kind = 3 ∨ kind = 4 ∨ kind = 5 ∨ kind = 6 ∨ kind = 7 := by omega
  unfold m_law_share
  rw [g3]
  simp only [R.ok_bind]
  rw [ep]
  simp only [R.ok_bind]
  rw [← R.bind_assoc, e3]
  simp only [g0, g1, g2, k0, k1, md7, md2, m50, ez', n1, n2, n3, p6, p20, p50, R.ok_bind]
  have fin : Shr (.ok [(1 : Int), 2 + r0]) := shr_of (by decide) (by omega) (by decide) (by omega)
  rcases hc with e | e | e | e | e | e | e | e <;> subst e
  · exact shr_of (x := 1) (y := z) (by decide) zb.1 (by decide) zb.2
  · refine shr_of (x := 1 + (if r2 < r1 then r2 else r1)) (y := 1 + (if r2 > r1 then r2 else r1)) ?_ ?_ ?_ ?_ <;> split <;> omega
  · by_cases h : r0.fmod 2 = 0
    · show Shr (if decide (r0.fmod 2 = 0) = true then _ else _)
      rw [decide_eq_true h, if_pos rfl]
      refine shr_of (x := 1 + (if r2 > r1 then r2 else r1)) (y := 1 + (if r2 < r1 then r2 else r1)) ?_ ?_ ?_ ?_ <;> split <;> omega
    · show Shr (if decide (r0.fmod 2 = 0) = true then _ else _)
      rw [decide_eq_false h, if_neg Bool.false_ne_true]
      exact fin
  · exact shr_of (x := P) (y := Q) (by omega) (by omega) (by omega) (by omega)
  · exact shr_of (x := P * (100000000000000000000 - 1)) (y := Q * 100000000000000000000) (by omega) (by omega) (by omega) (by omega)
  · exact shr_of (x := P * (100000000000000000000 + 1)) (y := Q * 100000000000000000000) (by omega) (by omega) (by omega) (by omega)
  · exact fin
  · exact shr_of (x := P) (y := Q) (by omega) (by omega) (by omega) (by omega)
theorem whole_ok (z : Int) : m_law_whole z = .ok true := by unfold m_law_whole; rfl
theorem pick (xs : List Int) (j : Int) (h0 : 0 ≤ j) (h1 : j < xs.length) (h : ∀ z ∈ xs, 1 ≤ z ∧ z < 2 ^ 200) : ∃ t : Nat, getM xs j = .ok (t : Int) ∧ 1 ≤ t ∧ t < 2 ^ 200 := by
  obtain ⟨z, ez, hz⟩ := getM_mem xs j h0 h1
  have := h z hz
  exact ⟨z.toNat, by rw [ez, Int.toNat_of_nonneg (by omega)], by omega, by omega⟩
theorem law_ok (ns : List Int) : m_law ns = .ok true := by
  obtain ⟨v0, hv0⟩ := law_cell_ok ns 0 (by decide)
  obtain ⟨v1, hv1⟩ := law_cell_ok ns 1 (by decide)
  obtain ⟨v2, hv2⟩ := law_cell_ok ns 2 (by decide)
  have hc0 : law_cell ns 0 = .ok v0 := hv0
  have hc1 : law_cell ns 1 = .ok v1 := hv1
  have hc2 : law_cell ns 2 = .ok v2 := hv2
  obtain ⟨marks, hr0, hd0⟩ := law_digits_ok v0 [16, 8, 5, 7] (by decide) (by decide)
  obtain ⟨row, hr1, hd1⟩ := law_digits_ok v1 [100, 1000, 1000000, 60, 1000000000, 9] (by decide) (by decide)
  obtain ⟨other, hr2, hd2⟩ := law_digits_ok v2 [101, 1000000, 1000000, 21] (by decide) (by decide)
  obtain ⟨m0, g0, b0⟩ := dig hd0 0 0 16 rfl rfl
  obtain ⟨m1, g1, b1⟩ := dig hd0 1 1 8 rfl rfl
  obtain ⟨m2, g2, b2⟩ := dig hd0 2 2 5 rfl rfl
  obtain ⟨m3, g3, b3⟩ := dig hd0 3 3 7 rfl rfl
  obtain ⟨kd, ek, hk⟩ := getM_mem [(0 : Int), 1, 5, 3, 4, 5, 6, 7, 1, 2, 3, 3, 2, 3, 1, 3] m0 b0.1 b0.2
  have hk' : 0 ≤ kd ∧ kd < 8 := (by decide : ∀ z ∈ [(0 : Int), 1, 5, 3, 4, 5, 6, 7, 1, 2, 3, 3, 2, 3, 1, 3], 0 ≤ z ∧ z < 8) kd hk
  obtain ⟨a, b, hF, hb, hab, ha, hb2⟩ := factor_ok kd row hk' hd1
  have ha2 : a < 2 ^ 80 := by omega
  have ha3 : a < 2 ^ 400 := lt_up ha2 (by decide)
  obtain ⟨u0, v0', hS, hu1, hv1', hu2, hv2'⟩ := share_ok m1 a b other b1 hb hab ha2 hd2
  obtain ⟨u, v, k, hJ, hu1, hv1, hu, hv, hk2, hD, hn⟩ : ∃ u v k : Nat, (m_law_due ((a : Int), (b : Int)) [(u0 : Int), (v0' : Int)] >>= fun (due : (Option Int)) =>
      ((if due.isNone = true then (m_law_due ((a : Int), (b : Int)) [(1 : Int), (1000 : Int)]) >>= fun (due : (Option Int)) =>
        R.ok ([(1 : Int), (1000 : Int)], due) else R.ok ([(u0 : Int), (v0' : Int)], due)) : R ((List Int) × (Option Int)))) = .ok ([(u : Int), (v : Int)], some (k : Int)) ∧ 1 ≤ u ∧ 1 ≤ v ∧ u < 2 ^ 400 ∧ v < 2 ^ 400 ∧ k ≤ 200 ∧ D (sqd a b) (sqs a b) u v k ∧ ∀ j, j < k → ¬ D (sqd a b) (sqs a b) u v j := by
    rcases due_ok a b u0 v0' hab ha3 (lt_up hu2 (by decide)) (lt_up hv2' (by decide)) with ⟨k, k1, k2, k3, e⟩ | ⟨_, e⟩
    · exact ⟨u0, v0', k, by rw [e] <;> rfl, hu1, hv1', hu2, hv2', k1, k2, k3⟩
    · rcases due_ok a b 1 1000 hab ha3 (by decide) (by decide) with ⟨k, k1, k2, k3, e2⟩ | ⟨no, _⟩
      · have e2' : m_law_due ((a : Int), (b : Int)) [(1 : Int), (1000 : Int)] = .ok (some (k : Int)) := e2
        exact ⟨1, 1000, k, by rw [e]; simp only [R.ok_bind]; rw [e2'] <;> rfl, by decide, by decide, by decide, by decide, k1, k2, k3⟩
      · exact absurd (D_1000 a b hb hab ha) (no 200 (Nat.le_refl _))
  obtain ⟨t, et, ht1, ht2⟩ := pick [(1 : Int), 2, 3, 10, 1000000000000000000000000000000000000000000000000000000000000 + 7] m2 b2.1 b2.2 (by decide)
  obtain ⟨w, ew, hw1, hw2⟩ := pick [(1 : Int), 2, 5, 6, 1, 3, 100000000 + 9] m3 b3.1 b3.2 (by decide)
  have s0 : getM [(u : Int), (v : Int)] 0 = .ok (u : Int) := rfl
  have s1 : getM [(u : Int), (v : Int)] 1 = .ok (v : Int) := rfl
  have n1 := mulN 80 200 ha2 ht2 (by decide)
  have n2 := mulN 80 200 (lt_up hb2 (by decide)) ht2 (by decide)
  have n3 := mulN 400 200 hu hw2 (by decide)
  have n4 := mulN 400 200 hv hw2 (by decide)
  have q0 : ∀ x y : List Int, getM [x, y] 0 = .ok x := fun _ _ => rfl
  have q1 : ∀ x y : List Int, getM [x, y] 1 = .ok y := fun _ _ => rfl
  have T1 : m_rounds_needed [((a * t : Nat) : Int), ((b * t : Nat) : Int)] [((u * w : Nat) : Int), ((v * w : Nat) : Int)] = .ok (k : Int) := by
    have h : ∀ j, D (sqd (a * t) (b * t)) (sqs (a * t) (b * t)) (u * w) (v * w) j ↔ D (sqd a b) (sqs a b) u v j := fun j => by
      rw [Nat.mul_comm a t, Nat.mul_comm b t, Nat.mul_comm u w, Nat.mul_comm v w]
      exact (D_scale2 w _ _ u v j hw1).trans (D_fac t a b u v j ht1)
    exact rounds_ok (a * t) (b * t) (u * w) (v * w) k (Nat.mul_pos hb ht1) (Nat.mul_le_mul_right t hab) (lt_up (mul_lt2 ha2 ht2) (by decide)) (lt_up (mul_lt2 hu hw2) (by decide)) (lt_up (mul_lt2 hv hw2) (by decide)) hk2 ((h k).mpr hD) (fun j hj z => hn j hj ((h j).mp z))
  obtain ⟨g, A, B, hg, eA, eB, el1⟩ := least_ok a b hb (lt_up hb2 (by decide))
  obtain ⟨g', U, V, hg', eU, eV, el2⟩ := least_ok u v hv1 (lt_up hv (by decide))
  have T2 : m_rounds_needed [(A : Int), (B : Int)] [(U : Int), (V : Int)] = .ok (k : Int) := by
    have h : ∀ j, D (sqd a b) (sqs a b) u v j ↔ D (sqd A B) (sqs A B) U V j := fun j => by
      rw [eA, eB, eU, eV]
      exact (D_scale2 g' _ _ U V j hg').trans (D_fac g A B U V j hg)
    have lA : A ≤ g * A := Nat.le_mul_of_pos_left A hg
    have lU : U ≤ g' * U := Nat.le_mul_of_pos_left U hg'
    have lV : V ≤ g' * V := Nat.le_mul_of_pos_left V hg'
    refine rounds_ok A B U V k ?_ ?_ (by omega) (lt_up (m := 400) (by omega) (by decide)) (lt_up (m := 400) (by omega) (by decide)) hk2 ((h k).mp hD) (fun j hj z => hn j hj ((h j).mpr z))
    · cases B with
      | zero => rw [Nat.mul_zero] at eB; omega
      | succ B => omega
    · rw [eA, eB] at hab
      exact Nat.le_of_mul_le_mul_left hab hg
  unfold m_law
  simp only [cell_is, digits_is, hc0, hc1, hc2, hr0, p9, R.ok_bind]
  rw [hr1]
  simp only [R.ok_bind]
  rw [hr2]
  simp only [g0, g1, g2, g3, R.ok_bind]
  rw [ek]
  simp only [R.ok_bind]
  rw [hF]
  simp only [R.ok_bind]
  rw [hS]
  simp only [R.ok_bind]
  rw [← R.bind_assoc, hJ]
  simp only [p60, p8, s0, s1, R.ok_bind]
  rw [et]
  simp only [R.ok_bind]
  rw [ew]
  simp only [n1, n2, n3, n4, q0, q1, T1, whole_ok, unO, R.ok_bind, decide_true, Bool.not_true, Bool.false_eq_true, if_false, el1, el2, T2, if_true, ite_self]
end Lw
set_option maxHeartbeats 0
/-! # law_k69_rounds_needed: the text's places, the head -/
namespace Lw
open PySem PySem.Spec PyProof.Rows L2 Zk
def top (i : Nat) : Stmt := PySem.Challenge.pw_fourcords_k69_rounds_needed.main.body.getD i (.Pass ⟨0, 0, 0, 0⟩)
abbrev s__law_cell : Stmt := top 10
def d__law_cell : He.DefD := ⟨("_law_cell", none), "_law_cell", "_law_cell", defArgs s__law_cell, defBody s__law_cell, defScope s__law_cell, [], []⟩
abbrev di__law_cell : Nat := 0
abbrev gi__law_cell : Nat := 0
abbrev s__law_digits : Stmt := top 11
def d__law_digits : He.DefD := ⟨("_law_digits", none), "_law_digits", "_law_digits", defArgs s__law_digits, defBody s__law_digits, defScope s__law_digits, [], []⟩
abbrev di__law_digits : Nat := 1
abbrev gi__law_digits : Nat := 1
abbrev s__law_due : Stmt := top 17
def d__law_due : He.DefD := ⟨("_law_due", none), "_law_due", "_law_due", defArgs s__law_due, defBody s__law_due, defScope s__law_due, [], []⟩
abbrev di__law_due : Nat := 2
abbrev gi__law_due : Nat := 2
abbrev s__law_gcd : Stmt := top 12
def d__law_gcd : He.DefD := ⟨("_law_gcd", none), "_law_gcd", "_law_gcd", defArgs s__law_gcd, defBody s__law_gcd, defScope s__law_gcd, [], []⟩
abbrev di__law_gcd : Nat := 3
abbrev gi__law_gcd : Nat := 3
abbrev s__law_least : Stmt := top 13
def d__law_least : He.DefD := ⟨("_law_least", none), "_law_least", "_law_least", defArgs s__law_least, defBody s__law_least, defScope s__law_least, [], []⟩
abbrev di__law_least : Nat := 4
abbrev gi__law_least : Nat := 4
abbrev s__law_factor : Stmt := top 14
def d__law_factor : He.DefD := ⟨("_law_factor", none), "_law_factor", "_law_factor", defArgs s__law_factor, defBody s__law_factor, defScope s__law_factor, [], []⟩
abbrev di__law_factor : Nat := 5
abbrev gi__law_factor : Nat := 5
abbrev s__law_power : Stmt := top 15
def d__law_power : He.DefD := ⟨("_law_power", none), "_law_power", "_law_power", defArgs s__law_power, defBody s__law_power, defScope s__law_power, [], []⟩
abbrev di__law_power : Nat := 6
abbrev gi__law_power : Nat := 6
abbrev s__law_share : Stmt := top 16
def d__law_share : He.DefD := ⟨("_law_share", none), "_law_share", "_law_share", defArgs s__law_share, defBody s__law_share, defScope s__law_share, [], []⟩
abbrev di__law_share : Nat := 7
abbrev gi__law_share : Nat := 7
abbrev s__law_whole : Stmt := top 9
def d__law_whole : He.DefD := ⟨("_law_whole", none), "_law_whole", "_law_whole", defArgs s__law_whole, defBody s__law_whole, defScope s__law_whole, [], []⟩
abbrev di__law_whole : Nat := 8
abbrev gi__law_whole : Nat := 8
abbrev s_fraction : Stmt := top 5
def d_fraction : He.DefD := ⟨("fraction", none), "fraction", "fraction", defArgs s_fraction, defBody s_fraction, defScope s_fraction, [], []⟩
abbrev di_fraction : Nat := 9
abbrev gi_fraction : Nat := 9
abbrev s_rounds_needed : Stmt := top 7
def d_rounds_needed : He.DefD := ⟨("rounds_needed", none), "rounds_needed", "rounds_needed", defArgs s_rounds_needed, defBody s_rounds_needed, defScope s_rounds_needed, [], []⟩
abbrev di_rounds_needed : Nat := 10
abbrev gi_rounds_needed : Nat := 10
abbrev s_law : Stmt := top 18
def d_law : He.DefD := ⟨("law", none), "law", "law", defArgs s_law, defBody s_law, defScope s_law, [], []⟩
abbrev di_law : Nat := 11
abbrev gi_law : Nat := 11
abbrev fi_len : Nat := 12
abbrev fi_int : Nat := 13
abbrev fi_range : Nat := 14
abbrev fi_abs : Nat := 15
abbrev fi_min : Nat := 16
abbrev fi_max : Nat := 17
abbrev fi_isinstance : Nat := 18
abbrev fi_bool : Nat := 19
abbrev fi_list : Nat := 20
def fn : List He.DefD := [d__law_cell, d__law_digits, d__law_due, d__law_gcd, d__law_least, d__law_factor, d__law_power, d__law_share, d__law_whole, d_fraction, d_rounds_needed, d_law]
def fa : List He.Fa := [.glo "_law_cell", .glo "_law_digits", .glo "_law_due", .glo "_law_gcd", .glo "_law_least", .glo "_law_factor", .glo "_law_power", .glo "_law_share", .glo "_law_whole", .glo "fraction", .glo "rounds_needed", .glo "law", .free "len", .free "int", .free "range", .free "abs", .free "min", .free "max", .free "isinstance", .free "bool", .free "list"]
def hv : List (Str × Value) := [("gcd", .builtin "math.gcd")]
abbrev Gl0 (K : PySem.W.Frag) (mg : Str → Option Value) (base : Heap) : Prop := Glb fa fn (heldB hv) K mg base
abbrev Rw : PySem.W.OpenRow := PySem.W.OpenLaw.row PySem.Challenge.rw_fourcords_k69_rounds_needed
abbrev hk : PySem.W.Hook := hookZ 4 fa fn (heldB hv)
def ob (s : PySem.W.SharedT) : He.AlD × Bool := obsZ 4 fa fn (heldB hv) (HandSHeadRun.getT s)
theorem ob_eq (s : PySem.W.SharedT) : ob s = hk.obs s.abs := obsZ_eq (HandSHeadRun.getT_eq s)
def loose : List PySem.Str := (["gcd", "CordError", "ZeroBottom", "fraction", "rounds_needed", "_law_whole", "_law_cell", "_law_digits", "_law_gcd", "_law_least", "_law_factor", "_law_power", "_law_share", "_law_due"] : List PySem.Str)
theorem run (w : World) : HandSHeadRun.RunEqI Rw (PySem.W.view Rw.prog [0, 18]) hk ob 60000 loose w := by
  unfold HandSHeadRun.RunEqI
  kernel_rfl
end Lw
set_option maxHeartbeats 40000000
set_option synthInstance.maxHeartbeats 400000
set_option synthInstance.maxSize 2000
/-! # each def keeps its mirror -/
namespace Lw
open PySem PySem.Spec PyProof.Rows L2 Zk
section
variable {P : Program} {w : World} {K : PySem.W.Frag} {mg : Str → Option Value} {base : Heap}
theorem sc_law_cell : FnScope ["script", "k", "seed", "cell"] ["script", "k"] (defScope s__law_cell) := ⟨rfl, rfl, rfl, by decide +kernel, rfl, by decide +kernel, by decide +kernel⟩
theorem fn_law_cell (T : Gl0 K mg base) {fd : FuncData} (D : FunD K d__law_cell.name d__law_cell.qual d__law_cell.params d__law_cell.body d__law_cell.scope (d__law_cell.dvs K) (d__law_cell.kws K) (He.fAd K d__law_cell.at_) fd) : FnOk P w K mg base (L2.CX P w) 1 (He.fAd K d__law_cell.at_) fd ["script", "k"] (spF K (aCons (cL cI) (aOne cI)) cI (fun z => m_law_cell z.1 z.2)) := by
  have sn := sc_law_cell.nd
  refine fn_mk (ν := Empty) (κ := Empty) (eN := fun _ => []) (eK := fun _ => []) D sc_law_cell rfl (by decide) (fun cdv A outer s H E hr hp hw z => ?_)
  obtain ⟨script, k⟩ := z
  show DS _ E true [.st (List Int) (cL cI) script, .st Int cI k, .none, .none] _ _ _ _ (fun b => (.ret b : Out Int Empty Empty)) (m_law_cell script k)
  unfold m_law_cell
  exact (ifA_p (ltT_pp (var 1) (lenL_p (T.free fi_len) (var 0)))
    (retF (ixL_pp (var 0) (var 1)))
    (asg 2 sn int fun seed =>
    (forF (eL := fun (s1 : Int) => [.st (List Int) (cL cI) script, .st Int cI k, .st Int cI s1, .none]) rfl hw (iterL (var 0)) (tgN 3 sn) (leS (leS (leS (leN leZ)))) (fun s1 cell => by
      unfold m_law_cell_b1
      exact (asg 2 sn (mod_mp (intI_m (T.free fi_int) (add_mm (mul_pp (var 2) int) (mod_pp (intI_p (T.free fi_int) (var 3)) int))) int) fun seed =>
  (nil rfl (leS (leS (leS (leN leZ)))))))
    fun s5 => (retF (mod_mp (intI_m (T.free fi_int) (mul_mp (mul_pp (add_pp (var 2) int) (add_pp (var 1) int)) int)) int)))))
theorem ok_law_cell (T : Gl0 K mg base) : FnI P w K mg base "_law_cell" 1 ["script", "k"] (aCons (cL cI) (aOne cI)) cI (fun z => m_law_cell z.1 z.2) := by
  obtain ⟨fd, D⟩ := T.c.def_ di__law_cell (d := d__law_cell) rfl
  exact fni (fn_law_cell T D) (T.glo gi__law_cell) D.kp (D.bindsN fun _ _ _ _ _ _ us hl => match us, hl with | [_, _], _ => rfl)

theorem sc_law_digits : FnScope ["cell", "sizes", "row", "rest", "size", "seed", "k", "twice"] ["cell", "sizes"] (defScope s__law_digits) := ⟨rfl, rfl, rfl, by decide +kernel, rfl, by decide +kernel, by decide +kernel⟩
theorem fn_law_digits (T : Gl0 K mg base) {fd : FuncData} (D : FunD K d__law_digits.name d__law_digits.qual d__law_digits.params d__law_digits.body d__law_digits.scope (d__law_digits.dvs K) (d__law_digits.kws K) (He.fAd K d__law_digits.at_) fd) : FnOk P w K mg base (L2.CX P w) 1 (He.fAd K d__law_digits.at_) fd ["cell", "sizes"] (spF K (aCons cI (aOne (cL cI))) (cL cI) (fun z => m_law_digits z.1 z.2)) := by
  have sn := sc_law_digits.nd
  refine fn_mk (ν := Empty) (κ := Empty) (eN := fun _ => []) (eK := fun _ => []) D sc_law_digits rfl (by decide) (fun cdv A outer s H E hr hp hw z => ?_)
  obtain ⟨cell, sizes⟩ := z
  show DS _ E true [.st Int cI cell, .st (List Int) (cL cI) sizes, .none, .none, .none, .none, .none, .none] _ _ _ _ (fun b => (.ret b : Out (List Int) Empty Empty)) (m_law_digits cell sizes)
  unfold m_law_digits
  exact (asgM 2 sn (lst0 (c := cI)) fun row =>
  (asg 3 sn (intI_p (T.free fi_int) (var 0)) fun rest =>
  (ifA (geT_pm (var 3) (pow_pp int int))
    (asg 3 sn (sub_pm (var 3) (pow_pp int int)) fun rest =>
    (forF (eL := fun (s3 : ((List Int) × Int)) => [.st Int cI cell, .st (List Int) (cL cI) sizes, .mu Int cI s3.1, .st Int cI s3.2, .none, .none, .none, .none]) rfl hw (iterL (var 1)) (tgN 4 sn) (leS (leS (leS (leS (leN (leN (leN (leN leZ)))))))) (fun s3 size => by
      unfold m_law_digits_b1
      exact (app 2 (mod_pp (intI_p (T.free fi_int) (var 3)) (var 4)) fun row =>
  (asg 3 sn (fdiv_pp (intI_p (T.free fi_int) (var 3)) (var 4)) fun rest =>
  (nil rfl (leS (leS (leS (leS (leN (leN (leN (leN leZ))))))))))))
    fun s5 => (settle 2 rfl (retF (var 2)))))
    (asg 5 sn (mod_pp (intI_p (T.free fi_int) (var 3)) int) fun seed =>
    (forF (eL := fun (s6 : (Int × (List Int))) => [.st Int cI cell, .st (List Int) (cL cI) sizes, .mu Int cI s6.2, .st Int cI rest, .none, .st Int cI s6.1, .none, .none]) rfl hw (iterR1_p (T.free fi_range) (lenL_p (T.free fi_len) (var 1))) (tgN 6 sn) (leS (leS (leS (leS (leN (leS (leN (leN leZ)))))))) (fun s6 k => by
      unfold m_law_digits_b2
      exact (asg 5 sn (mod_mp (intI_m (T.free fi_int) (add_mp (add_mm (mul_pp (var 5) int) (mul_pp int (var 6))) int)) int) fun seed =>
  (asg 7 sn (mod_mp (intI_m (T.free fi_int) (mul_pm (var 5) (add_mp (fdiv_pp (var 5) int) int))) int) fun twice =>
  (app 2 (mod_mm (fdiv_pp (var 7) int) (ixL_pp (var 1) (var 6))) fun row =>
  (nil rfl (leS (leS (leS (leS (leN (leS (leN (leN leZ)))))))))))))
    fun s17 => (settle 2 rfl (retF (var 2))))))))
theorem ok_law_digits (T : Gl0 K mg base) : FnI P w K mg base "_law_digits" 1 ["cell", "sizes"] (aCons cI (aOne (cL cI))) (cL cI) (fun z => m_law_digits z.1 z.2) := by
  obtain ⟨fd, D⟩ := T.c.def_ di__law_digits (d := d__law_digits) rfl
  exact fni (fn_law_digits T D) (T.glo gi__law_digits) D.kp (D.bindsN fun _ _ _ _ _ _ us hl => match us, hl with | [_, _], _ => rfl)

theorem sc_law_due : FnScope ["factor", "share", "less", "more", "top", "base", "turn"] ["factor", "share"] (defScope s__law_due) := ⟨rfl, rfl, rfl, by decide +kernel, rfl, by decide +kernel, by decide +kernel⟩
theorem fn_law_due (T : Gl0 K mg base) {fd : FuncData} (D : FunD K d__law_due.name d__law_due.qual d__law_due.params d__law_due.body d__law_due.scope (d__law_due.dvs K) (d__law_due.kws K) (He.fAd K d__law_due.at_) fd) : FnOk P w K mg base (L2.CX P w) 1 (He.fAd K d__law_due.at_) fd ["factor", "share"] (spF K (aCons (cP (aCons cI (aOne cI))) (aOne (cL cI))) (cO cI) (fun z => m_law_due z.1 z.2)) := by
  have sn := sc_law_due.nd
  refine fn_mk (ν := Empty) (κ := Empty) (eN := fun _ => []) (eK := fun _ => []) D sc_law_due rfl (by decide) (fun cdv A outer s H E hr hp hw z => ?_)
  obtain ⟨factor, share⟩ := z
  show DS _ E true [.st (Int × Int) (cP (aCons cI (aOne cI))) factor, .st (List Int) (cL cI) share, .none, .none, .none, .none, .none] _ _ _ _ (fun b => (.ret b : Out (Option Int) Empty Empty)) (m_law_due factor share)
  unfold m_law_due
  exact (asg 2 sn (sub_pp (ix_0_2p (var 0)) (ix_1_2p (var 0))) fun less =>
  (asg 3 sn (add_pp (ix_0_2p (var 0)) (ix_1_2p (var 0))) fun more =>
  (asg 4 sn int fun top =>
  (asg 5 sn int fun base' =>
  (forO (eL := fun (s1 : (Int × Int)) => [.st (Int × Int) (cP (aCons cI (aOne cI))) factor, .st (List Int) (cL cI) share, .st Int cI less, .st Int cI more, .st Int cI s1.1, .st Int cI s1.2, .none]) rfl hw (iterR1_p (T.free fi_range) int) (tgN 6 sn) (leS (leS (leS (leS (leS (leS (leN leZ))))))) (fun s1 turn => by
    unfold m_law_due_b1
    exact (ifA (leT_mm (mul_pm (var 4) (ixL_pp (var 1) int)) (mul_mp (ixL_pp (var 1) int) (var 5)))
    (retO (coe_p (f := fun (z : Int) => (some z)) (x := turn) (cSome cId) (var 6)) rfl)
    (asg 4 sn (mul_mp (mul_pp (var 4) (var 2)) (var 2)) fun top =>
    (asg 5 sn (mul_mp (mul_pp (var 5) (var 3)) (var 3)) fun base' =>
    (nil rfl (leS (leS (leS (leS (leS (leS (leN leZ))))))))))))
  (fun s9 => (retF none_)))))))
theorem ok_law_due (T : Gl0 K mg base) : FnI P w K mg base "_law_due" 1 ["factor", "share"] (aCons (cP (aCons cI (aOne cI))) (aOne (cL cI))) (cO cI) (fun z => m_law_due z.1 z.2) := by
  obtain ⟨fd, D⟩ := T.c.def_ di__law_due (d := d__law_due) rfl
  exact fni (fn_law_due T D) (T.glo gi__law_due) D.kp (D.bindsN fun _ _ _ _ _ _ us hl => match us, hl with | [_, _], _ => rfl)

theorem sc_law_gcd : FnScope ["one", "two", "turn", "rest"] ["one", "two"] (defScope s__law_gcd) := ⟨rfl, rfl, rfl, by decide +kernel, rfl, by decide +kernel, by decide +kernel⟩
theorem fn_law_gcd (T : Gl0 K mg base) {fd : FuncData} (D : FunD K d__law_gcd.name d__law_gcd.qual d__law_gcd.params d__law_gcd.body d__law_gcd.scope (d__law_gcd.dvs K) (d__law_gcd.kws K) (He.fAd K d__law_gcd.at_) fd) : FnOk P w K mg base (L2.CX P w) 1 (He.fAd K d__law_gcd.at_) fd ["one", "two"] (spF K (aCons cI (aOne cI)) cI (fun z => m_law_gcd z.1 z.2)) := by
  have sn := sc_law_gcd.nd
  refine fn_mk (ν := Empty) (κ := Empty) (eN := fun _ => []) (eK := fun _ => []) D sc_law_gcd rfl (by decide) (fun cdv A outer s H E hr hp hw z => ?_)
  obtain ⟨one, two⟩ := z
  show DS _ E true [.st Int cI one, .st Int cI two, .none, .none] _ _ _ _ (fun b => (.ret b : Out Int Empty Empty)) (m_law_gcd one two)
  unfold m_law_gcd
  exact (asg 0 sn (absI_p (T.free fi_abs) (var 0)) fun one =>
  (asg 1 sn (absI_p (T.free fi_abs) (var 1)) fun two =>
  (forB (eL := fun (s1 : (Int × Int)) => [.st Int cI s1.1, .st Int cI s1.2, .none, .none]) rfl hw (iterR1_p (T.free fi_range) int) (tgN 2 sn) (leS (leS (leN (leN leZ)))) (fun s1 turn => by
    unfold m_law_gcd_b1
    exact (ifA_p (eqIT_pp (var 1) int)
    (brk (leS (leS (leN (leN leZ)))) rfl)
    (asg 3 sn (mod_pp (intI_p (T.free fi_int) (var 0)) (var 1)) fun rest =>
    (asg 0 sn (var 1) fun one =>
    (asg 1 sn (var 3) fun two =>
    (nil rfl (leS (leS (leN (leN leZ))))))))))
  fun s2 => (retF (var 0)))))
theorem ok_law_gcd (T : Gl0 K mg base) : FnI P w K mg base "_law_gcd" 1 ["one", "two"] (aCons cI (aOne cI)) cI (fun z => m_law_gcd z.1 z.2) := by
  obtain ⟨fd, D⟩ := T.c.def_ di__law_gcd (d := d__law_gcd) rfl
  exact fni (fn_law_gcd T D) (T.glo gi__law_gcd) D.kp (D.bindsN fun _ _ _ _ _ _ us hl => match us, hl with | [_, _], _ => rfl)

theorem sc_law_least : FnScope ["top", "base", "shared"] ["top", "base"] (defScope s__law_least) := ⟨rfl, rfl, rfl, by decide +kernel, rfl, by decide +kernel, by decide +kernel⟩
theorem fn_law_least (T : Gl0 K mg base) {fd : FuncData} (D : FunD K d__law_least.name d__law_least.qual d__law_least.params d__law_least.body d__law_least.scope (d__law_least.dvs K) (d__law_least.kws K) (He.fAd K d__law_least.at_) fd) : FnOk P w K mg base (L2.CX P w) 2 (He.fAd K d__law_least.at_) fd ["top", "base"] (spF K (aCons cI (aOne cI)) (cP (aCons cI (aOne cI))) (fun z => m_law_least z.1 z.2)) := by
  have F_law_gcd := ok_law_gcd (P := P) (w := w) T
  have sn := sc_law_least.nd
  refine fn_mk (ν := Empty) (κ := Empty) (eN := fun _ => []) (eK := fun _ => []) D sc_law_least rfl (by decide) (fun cdv A outer s H E hr hp hw z => ?_)
  obtain ⟨top, base'⟩ := z
  show DS _ E true [.st Int cI top, .st Int cI base', .none] _ _ _ _ (fun b => (.ret b : Out (Int × Int) Empty Empty)) (m_law_least top base')
  unfold m_law_least
  exact (ifJ_p (eJ := fun (j1 : (Int × Int)) => [.st Int cI j1.1, .st Int cI j1.2, .none]) (ltT_pp (var 1) int)
    (asg 0 sn (neg_p (var 0)) fun top =>
    (asg 1 sn (neg_p (var 1)) fun base' =>
    (nil rfl (leS (leS (leN leZ))))))
    (nil rfl (leS (leS (leN leZ)))) fun j1 =>
  (asg 2 sn (callP F_law_gcd (hr.mono (by decide)) hp (argC_pp (var 0) (arg1 (var 1)))) fun shared =>
  (retF (tupP (argC_mm (fdiv_pp (var 0) (var 2)) (arg1 (fdiv_pp (var 1) (var 2))))))))
theorem ok_law_least (T : Gl0 K mg base) : FnI P w K mg base "_law_least" 2 ["top", "base"] (aCons cI (aOne cI)) (cP (aCons cI (aOne cI))) (fun z => m_law_least z.1 z.2) := by
  obtain ⟨fd, D⟩ := T.c.def_ di__law_least (d := d__law_least) rfl
  exact fni (fn_law_least T D) (T.glo gi__law_least) D.kp (D.bindsN fun _ _ _ _ _ _ us hl => match us, hl with | [_, _], _ => rfl)

theorem sc_law_factor : FnScope ["kind", "row", "whole", "base", "wanted", "n"] ["kind", "row"] (defScope s__law_factor) := ⟨rfl, rfl, rfl, by decide +kernel, rfl, by decide +kernel, by decide +kernel⟩
theorem fn_law_factor (T : Gl0 K mg base) {fd : FuncData} (D : FunD K d__law_factor.name d__law_factor.qual d__law_factor.params d__law_factor.body d__law_factor.scope (d__law_factor.dvs K) (d__law_factor.kws K) (He.fAd K d__law_factor.at_) fd) : FnOk P w K mg base (L2.CX P w) 3 (He.fAd K d__law_factor.at_) fd ["kind", "row"] (spF K (aCons cI (aOne (cL cI))) (cP (aCons cI (aOne cI))) (fun z => m_law_factor z.1 z.2)) := by
  have F_law_least := ok_law_least (P := P) (w := w) T
  have sn := sc_law_factor.nd
  refine fn_mk (ν := Empty) (κ := Empty) (eN := fun _ => []) (eK := fun _ => []) D sc_law_factor rfl (by decide) (fun cdv A outer s H E hr hp hw z => ?_)
  obtain ⟨kind, row⟩ := z
  show DS _ E true [.st Int cI kind, .st (List Int) (cL cI) row, .none, .none, .none, .none] _ _ _ _ (fun b => (.ret b : Out (Int × Int) Empty Empty)) (m_law_factor kind row)
  unfold m_law_factor
  exact (asg 2 sn (add_pm int (ixL_pp (var 1) int)) fun whole =>
  (asg 3 sn (add_pm int (ixL_pp (var 1) int)) fun base' =>
  (ifA_p (eqIT_pp (var 0) int)
    (retF (tupP (argC_pp int (arg1 int))))
    (ifA_p (eqIT_pp (var 0) int)
      (asg 4 sn (add_pm int (ixL_pp (var 1) int)) fun wanted =>
      (asg 5 sn (mul_pp int (sub_pp (var 4) int)) fun n =>
      (retF (call F_law_least (hr.mono (by decide)) hp (argC_mm (mul_pm (add_pp (var 4) int) (add_mp (mul_pp (var 5) (add_pp (var 4) int)) (var 4))) (arg1 (mul_mp (mul_pp (var 5) (sub_pp (var 4) int)) (sub_pp (var 4) int))))))))
      (ifA_p (dt_dw (orW_q (eqIT_pp (var 0) int) (or1 (eqIT_pp (var 0) int))))
        (retF (tupP (argC_pp (var 2) (arg1 int))))
        (ifA_p (eqIT_pp (var 0) int)
          (retF (tupP (argC_mm (add_mm (pow_pp int int) (ixL_pp (var 1) int)) (arg1 (pow_pp int int)))))
          (ifA_p (eqIT_pp (var 0) int)
            (retF (tupP (argC_mp (sub_mm (mul_pp int (var 3)) (mod_mm (intI_m (T.free fi_int) (ixL_pp (var 1) int)) (mul_pp int (var 3)))) (arg1 (var 3)))))
            (ifJ_p (eJ := fun (j24 : Int) => [.st Int cI kind, .st (List Int) (cL cI) row, .st Int cI whole, .st Int cI j24, .none, .none]) (eqIT_pp (var 0) int)
              (asg 3 sn (add_mm (add_mm (pow_pp int int) (mul_mm (ixL_pp (var 1) int) (pow_pp int int))) (ixL_pp (var 1) int)) fun base' =>
              (nil rfl (leS (leS (leS (leS (leN (leN leZ))))))))
              (nil rfl (leS (leS (leS (leS (leN (leN leZ))))))) fun j24 =>
            (retF (tupP (argC_mp (add_pm (var 3) (mod_mm (intI_m (T.free fi_int) (add_mm (mul_mm (ixL_pp (var 1) int) (ixL_pp (var 1) int)) (ixL_pp (var 1) int))) (add_mp (mul_pp int (var 3)) int))) (arg1 (var 3)))))))))))))
theorem ok_law_factor (T : Gl0 K mg base) : FnI P w K mg base "_law_factor" 3 ["kind", "row"] (aCons cI (aOne (cL cI))) (cP (aCons cI (aOne cI))) (fun z => m_law_factor z.1 z.2) := by
  obtain ⟨fd, D⟩ := T.c.def_ di__law_factor (d := d__law_factor) rfl
  exact fni (fn_law_factor T D) (T.glo gi__law_factor) D.kp (D.bindsN fun _ _ _ _ _ _ us hl => match us, hl with | [_, _], _ => rfl)

theorem sc_law_power : FnScope ["factor", "turns", "less", "more", "power", "turn"] ["factor", "turns"] (defScope s__law_power) := ⟨rfl, rfl, rfl, by decide +kernel, rfl, by decide +kernel, by decide +kernel⟩
theorem fn_law_power (T : Gl0 K mg base) {fd : FuncData} (D : FunD K d__law_power.name d__law_power.qual d__law_power.params d__law_power.body d__law_power.scope (d__law_power.dvs K) (d__law_power.kws K) (He.fAd K d__law_power.at_) fd) : FnOk P w K mg base (L2.CX P w) 1 (He.fAd K d__law_power.at_) fd ["factor", "turns"] (spF K (aCons (cP (aCons cI (aOne cI))) (aOne cI)) (cL cI) (fun z => m_law_power z.1 z.2)) := by
  have sn := sc_law_power.nd
  refine fn_mk (ν := Empty) (κ := Empty) (eN := fun _ => []) (eK := fun _ => []) D sc_law_power rfl (by decide) (fun cdv A outer s H E hr hp hw z => ?_)
  obtain ⟨factor, turns⟩ := z
  show DS _ E true [.st (Int × Int) (cP (aCons cI (aOne cI))) factor, .st Int cI turns, .none, .none, .none, .none] _ _ _ _ (fun b => (.ret b : Out (List Int) Empty Empty)) (m_law_power factor turns)
  unfold m_law_power
  exact (asg 2 sn (sub_pp (ix_0_2p (var 0)) (ix_1_2p (var 0))) fun less =>
  (asg 3 sn (add_pp (ix_0_2p (var 0)) (ix_1_2p (var 0))) fun more =>
  (asg 4 sn (dl (lst (lcons_pp int (lcons_pp int lnil)))) fun power =>
  (forF (eL := fun (s1 : (List Int)) => [.st (Int × Int) (cP (aCons cI (aOne cI))) factor, .st Int cI turns, .st Int cI less, .st Int cI more, .st (List Int) (cL cI) s1, .none]) rfl hw (iterR1_p (T.free fi_range) (var 1)) (tgN 5 sn) (leS (leS (leS (leS (leS (leN leZ)))))) (fun s1 turn => by
    unfold m_law_power_b1
    exact (if2 (leT_mm (mul_mp (mul_mp (ixL_pp (var 4) int) (var 3)) (var 3)) (mul_mm (pow_pp int int) (pow_pp int int)))
    (asg 4 sn (dl (lst (lcons_mm (mul_mp (mul_mp (ixL_pp (var 4) int) (var 2)) (var 2)) (lcons_mp (mul_mp (mul_mp (ixL_pp (var 4) int) (var 3)) (var 3)) lnil)))) fun power =>
    (nil rfl (leS (leS (leS (leS (leS (leN leZ))))))))
    (nil rfl (leS (leS (leS (leS (leS (leN leZ)))))))))
  fun s16 => (retF (var 4))))))
theorem ok_law_power (T : Gl0 K mg base) : FnI P w K mg base "_law_power" 1 ["factor", "turns"] (aCons (cP (aCons cI (aOne cI))) (aOne cI)) (cL cI) (fun z => m_law_power z.1 z.2) := by
  obtain ⟨fd, D⟩ := T.c.def_ di__law_power (d := d__law_power) rfl
  exact fni (fn_law_power T D) (T.glo gi__law_power) D.kp (D.bindsN fun _ _ _ _ _ _ us hl => match us, hl with | [_, _], _ => rfl)

theorem sc_law_share : FnScope ["kind", "factor", "row", "power"] ["kind", "factor", "row"] (defScope s__law_share) := ⟨rfl, rfl, rfl, by decide +kernel, rfl, by decide +kernel, by decide +kernel⟩
theorem fn_law_share (T : Gl0 K mg base) {fd : FuncData} (D : FunD K d__law_share.name d__law_share.qual d__law_share.params d__law_share.body d__law_share.scope (d__law_share.dvs K) (d__law_share.kws K) (He.fAd K d__law_share.at_) fd) : FnOk P w K mg base (L2.CX P w) 2 (He.fAd K d__law_share.at_) fd ["kind", "factor", "row"] (spF K (aCons cI (aCons (cP (aCons cI (aOne cI))) (aOne (cL cI)))) (cL cI) (fun z => m_law_share z.1 z.2.1 z.2.2)) := by
  have F_law_power := ok_law_power (P := P) (w := w) T
  have sn := sc_law_share.nd
  refine fn_mk (ν := Empty) (κ := Empty) (eN := fun _ => []) (eK := fun _ => []) D sc_law_share rfl (by decide) (fun cdv A outer s H E hr hp hw z => ?_)
  obtain ⟨kind, factor, row⟩ := z
  show DS _ E true [.st Int cI kind, .st (Int × Int) (cP (aCons cI (aOne cI))) factor, .st (List Int) (cL cI) row, .none] _ _ _ _ (fun b => (.ret b : Out (List Int) Empty Empty)) (m_law_share kind factor row)
  unfold m_law_share
  exact (asg 3 sn (call F_law_power (hr.mono (by decide)) hp (argC_pm (var 1) (arg1 (ixL_pp (var 2) int)))) fun power =>
  (ifJ (eJ := fun (j3 : (List Int)) => [.st Int cI kind, .st (Int × Int) (cP (aCons cI (aOne cI))) factor, .st (List Int) (cL cI) row, .st (List Int) (cL cI) j3]) (eqIT_mp (ixL_pp (var 3) int) int)
    (asg 3 sn (dl (lst (lcons_pp int (lcons_pp int lnil)))) fun power =>
    (nil rfl (leS (leS (leS (leS leZ))))))
    (nil rfl (leS (leS (leS (leS leZ))))) fun j3 =>
  (ifA_p (eqIT_pp (var 0) int)
    (retF (dl (lst (lcons_pm int (lcons_mp (ixL_mm (dl (lst (lcons_pm int (lcons_pm int (lcons_pm int (lcons_mm (pow_pp int int) (lcons_mm (pow_pp int int) (lcons_mm (pow_pp int int) (lcons_mp (mul_mm (pow_pp int int) (pow_pp int int)) lnil))))))))) (mod_mp (intI_m (T.free fi_int) (ixL_pp (var 2) int)) int)) lnil)))))
    (ifA_p (eqIT_pp (var 0) int)
      (retF (dl (lst (lcons_mm (add_pm int (min_m rfl (T.free fi_min) (ixL_pp (var 2) int) (ixL_pp (var 2) int))) (lcons_mp (add_pm int (max_m rfl (T.free fi_max) (ixL_pp (var 2) int) (ixL_pp (var 2) int))) lnil)))))
      (ifA (dt_dw (andW_p (eqIT_pp (var 0) int) (and1 (eqIT_mp (mod_mp (intI_m (T.free fi_int) (ixL_pp (var 2) int)) int) int))))
        (retF (dl (lst (lcons_mm (add_pm int (max_m rfl (T.free fi_max) (ixL_pp (var 2) int) (ixL_pp (var 2) int))) (lcons_mp (add_pm int (min_m rfl (T.free fi_min) (ixL_pp (var 2) int) (ixL_pp (var 2) int))) lnil)))))
        (ifA_p (dt_dw (orW_q (eqIT_pp (var 0) int) (or1 (eqIT_pp (var 0) int))))
          (retF (var 3))
          (ifA_p (eqIT_pp (var 0) int)
            (retF (dl (lst (lcons_mm (mul_mm (ixL_pp (var 3) int) (sub_mp (pow_pp int int) int)) (lcons_mp (mul_mm (ixL_pp (var 3) int) (pow_pp int int)) lnil)))))
            (ifA_p (eqIT_pp (var 0) int)
              (retF (dl (lst (lcons_mm (mul_mm (ixL_pp (var 3) int) (add_mp (pow_pp int int) int)) (lcons_mp (mul_mm (ixL_pp (var 3) int) (pow_pp int int)) lnil)))))
              (retF (dl (lst (lcons_pm int (lcons_mp (add_pm int (ixL_pp (var 2) int)) lnil)))))))))))))
theorem ok_law_share (T : Gl0 K mg base) : FnI P w K mg base "_law_share" 2 ["kind", "factor", "row"] (aCons cI (aCons (cP (aCons cI (aOne cI))) (aOne (cL cI)))) (cL cI) (fun z => m_law_share z.1 z.2.1 z.2.2) := by
  obtain ⟨fd, D⟩ := T.c.def_ di__law_share (d := d__law_share) rfl
  exact fni (fn_law_share T D) (T.glo gi__law_share) D.kp (D.bindsN fun _ _ _ _ _ _ us hl => match us, hl with | [_, _, _], _ => rfl)

theorem sc_law_whole : FnScope ["value"] ["value"] (defScope s__law_whole) := ⟨rfl, rfl, rfl, by decide +kernel, rfl, by decide +kernel, by decide +kernel⟩
theorem fn_law_whole (T : Gl0 K mg base) {fd : FuncData} (D : FunD K d__law_whole.name d__law_whole.qual d__law_whole.params d__law_whole.body d__law_whole.scope (d__law_whole.dvs K) (d__law_whole.kws K) (He.fAd K d__law_whole.at_) fd) : FnOk P w K mg base (L2.CX P w) 1 (He.fAd K d__law_whole.at_) fd ["value"] (spF K (aOne cI) cB m_law_whole) := by
  have sn := sc_law_whole.nd
  refine fn_mk (ν := Empty) (κ := Empty) (eN := fun _ => []) (eK := fun _ => []) D sc_law_whole rfl (by decide) (fun cdv A outer s H E hr hp hw z => ?_)
  revert z; intro value
  show DS _ E true [.st Int cI value] _ _ _ _ (fun b => (.ret b : Out Bool Empty Empty)) (m_law_whole value)
  unfold m_law_whole
  exact (retF (andV_q (isi_p (n := "int") (T := "int") (k := true) (by decide +kernel) (by decide +kernel) (T.free fi_isinstance) (T.free fi_int) (var 0)) (and1V (notV_p (isi_p (n := "int") (T := "bool") (k := false) (by decide +kernel) (by decide +kernel) (T.free fi_isinstance) (T.free fi_bool) (var 0))))))
theorem ok_law_whole (T : Gl0 K mg base) : FnI P w K mg base "_law_whole" 1 ["value"] (aOne cI) cB m_law_whole := by
  obtain ⟨fd, D⟩ := T.c.def_ di__law_whole (d := d__law_whole) rfl
  exact fni (fn_law_whole T D) (T.glo gi__law_whole) D.kp (D.bindsN fun _ _ _ _ _ _ us hl => match us, hl with | [_], _ => rfl)

theorem sc_fraction : FnScope ["top", "bottom", "shared"] ["top", "bottom"] (defScope s_fraction) := ⟨rfl, rfl, rfl, by decide +kernel, rfl, by decide +kernel, by decide +kernel⟩
theorem fn_fraction (T : Gl0 K mg base) {fd : FuncData} (D : FunD K d_fraction.name d_fraction.qual d_fraction.params d_fraction.body d_fraction.scope (d_fraction.dvs K) (d_fraction.kws K) (He.fAd K d_fraction.at_) fd) : FnOk P w K mg base (L2.CX P w) 1 (He.fAd K d_fraction.at_) fd ["top", "bottom"] (spF K (aCons cI (aOne cI)) (cP (aCons cI (aOne cI))) (fun z => m_fraction z.1 z.2)) := by
  have sn := sc_fraction.nd
  refine fn_mk (ν := Empty) (κ := Empty) (eN := fun _ => []) (eK := fun _ => []) D sc_fraction rfl (by decide) (fun cdv A outer s H E hr hp hw z => ?_)
  obtain ⟨top, bottom⟩ := z
  show DS _ E true [.st Int cI top, .st Int cI bottom, .none] _ _ _ _ (fun b => (.ret b : Out (Int × Int) Empty Empty)) (m_fraction top bottom)
  unfold m_fraction
  exact (ifA_p (eqIT_pp (var 1) int)
    never
    (asg 2 sn (gcd_p (T.held 0) (var 0) (var 1)) fun shared =>
    (ifJ_p (eJ := fun (j1 : Int) => [.st Int cI top, .st Int cI bottom, .st Int cI j1]) (ltT_pp (var 1) int)
      (asg 2 sn (neg_p (var 2)) fun shared =>
      (nil rfl (leS (leS (leS leZ)))))
      (nil rfl (leS (leS (leS leZ)))) fun j1 =>
    (retF (tupP (argC_mm (fdiv_pp (var 0) (var 2)) (arg1 (fdiv_pp (var 1) (var 2)))))))))
theorem ok_fraction (T : Gl0 K mg base) : FnI P w K mg base "fraction" 1 ["top", "bottom"] (aCons cI (aOne cI)) (cP (aCons cI (aOne cI))) (fun z => m_fraction z.1 z.2) := by
  obtain ⟨fd, D⟩ := T.c.def_ di_fraction (d := d_fraction) rfl
  exact fni (fn_fraction T D) (T.glo gi_fraction) D.kp (D.bindsN fun _ _ _ _ _ _ us hl => match us, hl with | [_, _], _ => rfl)

theorem sc_rounds_needed : FnScope ["factor", "share", "less", "more", "fall", "top", "bottom", "needed"] ["factor", "share"] (defScope s_rounds_needed) := ⟨rfl, rfl, rfl, by decide +kernel, rfl, by decide +kernel, by decide +kernel⟩
theorem fn_rounds_needed (T : Gl0 K mg base) {fd : FuncData} (D : FunD K d_rounds_needed.name d_rounds_needed.qual d_rounds_needed.params d_rounds_needed.body d_rounds_needed.scope (d_rounds_needed.dvs K) (d_rounds_needed.kws K) (He.fAd K d_rounds_needed.at_) fd) : FnOk P w K mg base (L2.CX P w) 2 (He.fAd K d_rounds_needed.at_) fd ["factor", "share"] (spF K (aCons (cLT cI) (aOne (cLT cI))) cI (fun z => m_rounds_needed z.1 z.2)) := by
  have F_fraction := ok_fraction (P := P) (w := w) T
  have sn := sc_rounds_needed.nd
  refine fn_mk (ν := Empty) (κ := Empty) (eN := fun _ => []) (eK := fun _ => []) D sc_rounds_needed rfl (by decide) (fun cdv A outer s H E hr hp hw z => ?_)
  obtain ⟨factor, share⟩ := z
  show DS _ E true [.st (List Int) (cLT cI) factor, .st (List Int) (cLT cI) share, .none, .none, .none, .none, .none, .none] _ _ _ _ (fun b => (.ret b : Out Int Empty Empty)) (m_rounds_needed factor share)
  unfold m_rounds_needed
  exact (asg 2 sn (sub_mm (ixLT_pp (var 0) int) (ixLT_pp (var 0) int)) fun less =>
  (asg 3 sn (add_mm (ixLT_pp (var 0) int) (ixLT_pp (var 0) int)) fun more =>
  (asg 4 sn (call F_fraction (hr.mono (by decide)) hp (argC_mm (mul_pp (var 2) (var 2)) (arg1 (mul_pp (var 3) (var 3))))) fun fall =>
  (asg 5 sn int fun top =>
  (asg 6 sn int fun bottom =>
  (asg 7 sn int fun needed =>
  (whileG (eL := fun (s7 : (Int × Int × Int)) => [.st (List Int) (cLT cI) factor, .st (List Int) (cLT cI) share, .st Int cI less, .st Int cI more, .st (Int × Int) (cP (aCons cI (aOne cI))) fall, .st Int cI s7.1, .st Int cI s7.2.1, .st Int cI s7.2.2]) (test := (fun (s7 : (Int × Int × Int)) => (((getM share (1 : Int)) >>= fun y8 => (mulM s7.1 y8)) >>= fun x10 => ((getM share (0 : Int)) >>= fun x9 => (mulM x9 s7.2.1)) >>= fun y11 => R.ok ((decide (y11 < x10)))))) 1000000000 hw (fun s7 => (gtT_mm (mul_pm (var 5) (ixLT_pp (var 1) int)) (mul_mp (ixLT_pp (var 1) int) (var 6)))) (leS (leS (leS (leS (leS (leS (leS (leS leZ)))))))) (fun s7 => by
    unfold m_rounds_needed_b1
    exact (asg 5 sn (mul_pp (var 5) (ix_0_2p (var 4))) fun top =>
  (asg 6 sn (mul_pp (var 6) (ix_1_2p (var 4))) fun bottom =>
  (asg 7 sn (add_pp (var 7) int) fun needed =>
  (nil rfl (leS (leS (leS (leS (leS (leS (leS (leS leZ))))))))))))) fun s12 =>
  (retF (var 7)))))))))
theorem ok_rounds_needed (T : Gl0 K mg base) : FnI P w K mg base "rounds_needed" 2 ["factor", "share"] (aCons (cLT cI) (aOne (cLT cI))) cI (fun z => m_rounds_needed z.1 z.2) := by
  obtain ⟨fd, D⟩ := T.c.def_ di_rounds_needed (d := d_rounds_needed) rfl
  exact fni (fn_rounds_needed T D) (T.glo gi_rounds_needed) D.kp (D.bindsN fun _ _ _ _ _ _ us hl => match us, hl with | [_, _], _ => rfl)

theorem sc_law : FnScope ["script", "marks", "row", "other", "factor", "share", "due", "times", "more", "passed", "kept", "told", "again"] ["script"] (defScope s_law) := ⟨rfl, rfl, rfl, by decide +kernel, rfl, by decide +kernel, by decide +kernel⟩
theorem fn_law (T : Gl0 K mg base) {fd : FuncData} (D : FunD K d_law.name d_law.qual d_law.params d_law.body d_law.scope (d_law.dvs K) (d_law.kws K) (He.fAd K d_law.at_) fd) : FnOk P w K mg base (L2.CX P w) 4 (He.fAd K d_law.at_) fd ["script"] (spF K (aOne (cL cI)) cB m_law) := by
  have F_law_cell := ok_law_cell (P := P) (w := w) T
  have F_law_digits := ok_law_digits (P := P) (w := w) T
  have F_law_due := ok_law_due (P := P) (w := w) T
  have F_law_factor := ok_law_factor (P := P) (w := w) T
  have F_law_least := ok_law_least (P := P) (w := w) T
  have F_law_share := ok_law_share (P := P) (w := w) T
  have F_law_whole := ok_law_whole (P := P) (w := w) T
  have F_rounds_needed := ok_rounds_needed (P := P) (w := w) T
  have sn := sc_law.nd
  refine fn_mk (ν := Empty) (κ := Empty) (eN := fun _ => []) (eK := fun _ => []) D sc_law rfl (by decide) (fun cdv A outer s H E hr hp hw z => ?_)
  revert z; intro script
  show DS _ E true [.st (List Int) (cL cI) script, .none, .none, .none, .none, .none, .none, .none, .none, .none, .none, .none, .none] _ _ _ _ (fun b => (.ret b : Out Bool Empty Empty)) (m_law script)
  unfold m_law
  exact (asg 1 sn (call F_law_digits (hr.mono (by decide)) hp (argC_mp (callP F_law_cell (hr.mono (by decide)) hp (argC_pp (var 0) (arg1 int))) (arg1 (dl (lst (lcons_pp int (lcons_pp int (lcons_pp int (lcons_pp int lnil))))))))) fun marks =>
  (asg 2 sn (call F_law_digits (hr.mono (by decide)) hp (argC_mm (callP F_law_cell (hr.mono (by decide)) hp (argC_pp (var 0) (arg1 int))) (arg1 (dl (lst (lcons_pm int (lcons_pm int (lcons_pm int (lcons_pm int (lcons_mp (pow_pp int int) (lcons_pp int lnil))))))))))) fun row =>
  (asg 3 sn (call F_law_digits (hr.mono (by decide)) hp (argC_mp (callP F_law_cell (hr.mono (by decide)) hp (argC_pp (var 0) (arg1 int))) (arg1 (dl (lst (lcons_pp int (lcons_pp int (lcons_pp int (lcons_pp int lnil))))))))) fun other =>
  (asg 4 sn (call F_law_factor (hr.mono (by decide)) hp (argC_mp (ixL_pm (dl (lst (lcons_pp int (lcons_pp int (lcons_pp int (lcons_pp int (lcons_pp int (lcons_pp int (lcons_pp int (lcons_pp int (lcons_pp int (lcons_pp int (lcons_pp int (lcons_pp int (lcons_pp int (lcons_pp int (lcons_pp int (lcons_pp int lnil)))))))))))))))))) (ixL_pp (var 1) int)) (arg1 (var 2)))) fun factor =>
  (asg 5 sn (call F_law_share (hr.mono (by decide)) hp (argC_mp (ixL_pp (var 1) int) (argC_pp (var 4) (arg1 (var 3))))) fun share =>
  (asg 6 sn (callP F_law_due (hr.mono (by decide)) hp (argC_pp (var 4) (arg1 (var 5)))) fun due =>
  (ifJ_p (eJ := fun (j13 : ((List Int) × (Option Int))) => [.st (List Int) (cL cI) script, .st (List Int) (cL cI) marks, .st (List Int) (cL cI) row, .st (List Int) (cL cI) other, .st (Int × Int) (cP (aCons cI (aOne cI))) factor, .st (List Int) (cL cI) j13.1, .st (Option Int) (cO cI) j13.2, .none, .none, .none, .none, .none, .none]) (isNT_p (var 6))
    (asg 5 sn (dl (lst (lcons_pp int (lcons_pp int lnil)))) fun share =>
    (asg 6 sn (callP F_law_due (hr.mono (by decide)) hp (argC_pp (var 4) (arg1 (var 5)))) fun due =>
    (nil rfl (leS (leS (leS (leS (leS (leS (leS (leN (leN (leN (leN (leN (leN leZ))))))))))))))))
    (nil rfl (leS (leS (leS (leS (leS (leS (leS (leN (leN (leN (leN (leN (leN leZ)))))))))))))) fun j13 =>
  (asg 7 sn (ixL_mm (dl (lst (lcons_pm int (lcons_pm int (lcons_pm int (lcons_pm int (lcons_mp (add_mp (pow_pp int int) int) lnil))))))) (ixL_pp (var 1) int)) fun times =>
  (asg 8 sn (ixL_mm (dl (lst (lcons_pm int (lcons_pm int (lcons_pm int (lcons_pm int (lcons_pm int (lcons_pm int (lcons_mp (add_mp (pow_pp int int) int) lnil))))))))) (ixL_pp (var 1) int)) fun more =>
  (asg 9 sn (dl (lst (lcons_mm (dl (lst (lcons_mm (mul_pp (ix_0_2p (var 4)) (var 7)) (lcons_mp (mul_pp (ix_1_2p (var 4)) (var 7)) lnil)))) (lcons_mp (dl (lst (lcons_mm (mul_mp (ixL_pp (var 5) int) (var 8)) (lcons_mp (mul_mp (ixL_pp (var 5) int) (var 8)) lnil)))) lnil)))) fun passed =>
  (asg 10 sn (dl (lst (lcons_mm (dl (toL (T.free fi_list) (ixL_pp (var 9) int))) (lcons_mp (dl (toL (T.free fi_list) (ixL_pp (var 9) int))) lnil)))) fun kept =>
  (asg 11 sn (call F_rounds_needed (hr.mono (by decide)) hp (argC_mm (coeI (cL_LT cId) (ixL_pp (var 9) int)) (arg1 (coeI (cL_LT cId) (ixL_pp (var 9) int))))) fun told =>
  (ifA (dt_dw (orW (notT (val (callP F_law_whole (hr.mono (by decide)) hp (arg1 (var 11))))) (orW (neIT_pm (var 11) (un_p (var 6))) (or1 (neDT_pp (c := (cL (cL cI))) hr.units (var 9) (var 10))))))
    (retF bool)
    (asg 12 sn (call F_rounds_needed (hr.mono (by decide)) hp (argC_mm (coe (f := fun (z : (Int × Int)) => [z.1, z.2]) (cPLT (auCc cId (au1c cId))) (callP F_law_least (hr.mono (by decide)) hp (argC_pp (ix_0_2p (var 4)) (arg1 (ix_1_2p (var 4)))))) (arg1 (coe (f := fun (z : (Int × Int)) => [z.1, z.2]) (cPLT (auCc cId (au1c cId))) (call F_law_least (hr.mono (by decide)) hp (argC_mm (ixL_pp (var 5) int) (arg1 (ixL_pp (var 5) int)))))))) fun again =>
    (retF (andV (callP F_law_whole (hr.mono (by decide)) hp (arg1 (var 12))) (and1V (eqI_pm (var 12) (un_p (var 6))))))))))))))))))))
theorem ok_law (T : Gl0 K mg base) : FnI P w K mg base "law" 4 ["script"] (aOne (cL cI)) cB m_law := by
  obtain ⟨fd, D⟩ := T.c.def_ di_law (d := d_law) rfl
  exact fni (fn_law T D) (T.glo gi_law) D.kp (D.bindsN fun _ _ _ _ _ _ us hl => match us, hl with | [_], _ => rfl)
end
end Lw
set_option maxHeartbeats 4000000
namespace Lw
open PySem PySem.Spec PyProof.Rows L2 Zk
theorem facts {P : Program} {w : World} {K : PySem.W.Frag} {h : Heap} {mg : Str → Option Value} {f : Addr} (X : K.In h) (G : h.Ns mainGlobals mg) (hfa : mg ("law" : Str) = some (.ref f)) (c : He.SaysD fa fn K) (e : heldB hv K = true) :
    ∃ fd : FuncData, (∀ (s : Shared) (v : Value), BindsTo s fd ⟨[v], []⟩ [("script", v)]) ∧ ∀ base : Heap, K.In base → base.Ns mainGlobals mg → FnOk P w K mg base (L2.CX P w) 4 f fd ["script"] (spF K (aOne (cL cI)) cB m_law) := by
  obtain ⟨fd, D⟩ := c.def_ di_law (d := d_law) rfl
  have e1 := hfa.symm.trans (He.glo_ok X G (c.fact gi_law (f := .glo "law") rfl))
  cases e1
  have b := FunD.bindsA (ps := ["script"]) D fun _ _ _ _ _ _ us hl => match us, hl with | [_], _ => rfl
  exact ⟨fd, fun s v => b s [v] rfl, fun base hK hG => fn_law (P := P) (w := w) (mg := mg) (base := base) ⟨hK, hG, c, e⟩ D⟩
end Lw
set_option maxHeartbeats 0
open PySem PySem.W PySem.Calls PyProof.Rows
theorem PySem.Challenge.cw_fourcords_k69_rounds_needed_holds : PySem.Challenge.rw_fourcords_k69_rounds_needed.Holds := by
  w_on; o_law
  refine HandSHeadRun.head_imp (r := OpenLaw.row PySem.Challenge.rw_fourcords_k69_rounds_needed) (q := view (OpenLaw.row PySem.Challenge.rw_fourcords_k69_rounds_needed).prog [0, 18]) (H := Lw.hk) (ob := Lw.ob) (M := 60000) (loose := Lw.loose) (d := HandSHeadRun.topDef (OpenLaw.row PySem.Challenge.rw_fourcords_k69_rounds_needed).prog 18) (kwd := []) Lw.ob_eq
    Lw.run (by kernel_rfl) (by kernel_rfl) (by kernel_rfl) (by rfl) (by first | assumption | decide +kernel) (by decide +kernel) ⟨rfl, rfl, rfl, rfl, rfl, by decide +kernel⟩ ?hw ?hc
  case hw => w_witness2
  case hc =>
    refine Zk.law_end (l := PySem.Challenge.rw_fourcords_k69_rounds_needed) (m := 63) (k := 4) (x := "script") rfl (by decide) (by kernel_rfl) ⟨rfl, by decide, by decide⟩ ?F
    intro w mg fa h Y G hmg0
    obtain ⟨K, KX, c, e⟩ := Y
    have hmg : mg ("law" : PySem.Str) = some (.ref fa) := by
      have e : (HandSHeadRun.topDef (OpenLaw.row PySem.Challenge.rw_fourcords_k69_rounds_needed).prog 18).name = ("law" : PySem.Str) := by kernel_rfl
      rw [← e]
      exact hmg0
    obtain ⟨fd, hb, hF⟩ := Lw.facts (P := (PySem.Challenge.rw_fourcords_k69_rounds_needed).prog) (w := w) KX G hmg c e
    exact ⟨K, fd, _, KX, hb, fun H a ns hl hS => Zk.law_sp (fun ns _ => Lw.law_ok ns) H a ns hl hS, hF⟩
