import PyProof.Rows.All
import Wide.All
import OpenK.AllK
import Wide.FinOn
import HandS.ForMost
import HandS.TupAny
import HandS.Conv
import HandS.IsInst
import HandS.Flow
import HandS.Small
import KE.KDictDisplayH
import PyProof.MaxThree
import HandS.NoneIn
import HandS.Walk
import HandS.Text
import HandS.StrMore
import HandS.Style
import HandS.CallLocal
import HandS.Codes
import HandS.Deep
import HandS.TupMul
import PyProof.WalkInts
import PySem.Challenge.RW_landandwater_k47_judge_of_soaking_papers
set_option Elab.async false
set_option maxRecDepth 100000
set_option linter.all false
set_option maxHeartbeats 4000000
/-! Worlds (a heap, what is frozen in it, how many draws), their growth; data; weakest conditions as models of code. -/
namespace Y
open PySem L2

/-! ### models -/
structure WP (α : Type) where
  run : Nat → (Nat → α → Prop) → Prop
  mono : ∀ {n : Nat} {Q Q' : Nat → α → Prop}, (∀ m a, Q m a → Q' m a) → run n Q → run n Q'
namespace WP
variable {α β γ s : Type}
def pure (a : α) : WP α := ⟨fun n Q => Q n a, fun h => h _ _⟩
def bind (w : WP α) (f : α → WP β) : WP β := ⟨fun n Q => w.run n fun m a => (f a).run m Q, fun h => w.mono fun m a => (f a).mono h⟩
def req (P : Prop) (a : α) : WP α := ⟨fun n Q => P ∧ Q n a, fun h q => ⟨q.1, h _ _ q.2⟩⟩
def any (P : α → Prop) : WP α := ⟨fun n Q => ∀ a, P a → Q n a, fun h q a p => h _ _ (q a p)⟩
def take (many : Int) : WP Int := ⟨fun n Q => n < 1000000 ∧ 0 < many ∧ ∀ x, 0 ≤ x → x < many → Q (n + 1) x, fun h q => ⟨q.1, q.2.1, fun x a b => h _ _ (q.2.2 x a b)⟩⟩
def cond (b : Bool) (A B : WP α) : WP α := match b with | true => A | false => B
end WP
inductive Ctl (s γ : Type) where
  | nx (a : s)
  | bk (a : s)
  | rt (r : γ)
namespace WP
variable {α β γ s : Type}
def fold (body : α → s → WP s) : List α → s → WP s
  | [], x => pure x
  | a :: as, x => (body a x).bind fun y => fold body as y
def loop (body : α → s → WP (Ctl s γ)) : List α → s → WP (Ctl s γ)
  | [], x => pure (.nx x)
  | a :: as, x => (body a x).bind fun c => match c with | .nx y => loop body as y | .bk y => pure (.nx y) | .rt r => pure (.rt r)
def whilst (t : s → WP Bool) (body : s → WP (Ctl s γ)) (x : s) : WP (Ctl s γ) :=
  ⟨fun n Q => ∃ I : Nat → Nat → s → Prop, (∃ m, I m n x) ∧ ∀ m n y, I m n y → (t y).run n fun n' b => match b with
    | true => (body y).run n' fun n2 c => match c with | .nx z => ∃ m', m' < m ∧ I m' n2 z | .bk z => Q n2 (.nx z) | .rt r => Q n2 (.rt r)
    | false => Q n' (.nx y), fun {n Q Q'} h ⟨I, i0, hs⟩ => ⟨I, i0, fun m n y hi => (t y).mono (fun n' b => by
      cases b with
      | true => exact (body y).mono (fun n2 c => (match c with
          | .nx z => id
          | .bk z => h _ _
          | .rt r => h _ _))
      | false => exact h _ _) (hs m n y hi)⟩⟩
@[simp] theorem run_pure {a : α} {n : Nat} {Q : Nat → α → Prop} : (pure a).run n Q = Q n a := rfl
@[simp] theorem run_bind {w : WP α} {f : α → WP β} {n : Nat} {Q : Nat → β → Prop} : (w.bind f).run n Q = w.run n (fun m a => (f a).run m Q) := rfl
@[simp] theorem run_req {P : Prop} {a : α} {n : Nat} {Q : Nat → α → Prop} : (req P a).run n Q = (P ∧ Q n a) := rfl
@[simp] theorem run_any {P : α → Prop} {n : Nat} {Q : Nat → α → Prop} : (any P).run n Q = (∀ a, P a → Q n a) := rfl
@[simp] theorem run_take {many : Int} {n : Nat} {Q : Nat → Int → Prop} : (take many).run n Q = (n < 1000000 ∧ 0 < many ∧ ∀ x, 0 ≤ x → x < many → Q (n + 1) x) := rfl
@[simp] theorem cond_true {A B : WP α} : cond true A B = A := rfl
@[simp] theorem cond_false {A B : WP α} : cond false A B = B := rfl
/-- a fold by an invariant -/
theorem fold_inv {body : α → s → WP s} {xs : List α} {x : s} {n : Nat} {Q : Nat → s → Prop} (I : Nat → Nat → s → Prop) (h0 : I 0 n x)
    (hs : ∀ i m a y, xs[i]? = some a → I i m y → (body a y).run m fun m' z => I (i + 1) m' z) (hd : ∀ m y, I xs.length m y → Q m y) : (fold body xs x).run n Q := by
  induction xs generalizing x n I with
  | nil => exact hd n x h0
  | cons a as ih =>
    refine (body a x).mono (fun m y hy => ?_) (hs 0 n a x rfl h0)
    exact ih (fun i => I (i + 1)) hy (fun i m b z hb hi => hs (i + 1) m b z hb hi) hd
theorem loop_inv {body : α → s → WP (Ctl s γ)} {xs : List α} {x : s} {n : Nat} {Q : Nat → Ctl s γ → Prop} (I : Nat → Nat → s → Prop) (h0 : I 0 n x)
    (hs : ∀ i m a y, xs[i]? = some a → I i m y → (body a y).run m fun m' c => match c with | .nx z => I (i + 1) m' z | .bk z => Q m' (.nx z) | .rt r => Q m' (.rt r)) (hd : ∀ m y, I xs.length m y → Q m (.nx y)) : (loop body xs x).run n Q := by
  induction xs generalizing x n I with
  | nil => exact hd n x h0
  | cons a as ih =>
    refine (body a x).mono (fun m c hy => ?_) (hs 0 n a x rfl h0)
    cases c with
    | nx z => exact ih (fun i => I (i + 1)) hy (fun i m b z hb hi => hs (i + 1) m b z hb hi) hd
    | bk z => exact hy
    | rt r => exact hy
end WP

/-! ### worlds -/
structure Wo where
  H : Hp
  F : Addr → Prop
  n : Nat
def Tg (H H' : Hp) : Prop := ∀ a xs, H a = some (.tup xs) → H' a = some (.tup xs)
/-- what is told of W stays told -/
structure St (W W' : Wo) : Prop where
  t : Tg W.H W'.H
  f : ∀ a, W.F a → W'.F a
  c : ∀ a o, W.F a → W.H a = some o → W'.H a = some o
theorem St.refl (W : Wo) : St W W := ⟨fun _ _ h => h, fun _ h => h, fun _ _ _ h => h⟩
theorem St.trans {W W1 W2 : Wo} (a : St W W1) (b : St W1 W2) : St W W2 := ⟨fun x o h => b.t x o (a.t x o h), fun x h => b.f x (a.f x h), fun x o f h => b.c x o (a.f x f) (a.c x o f h)⟩
/-- a kind of effect: what may change, what is kept true, how draws are counted -/
structure Ef where
  S : Addr → Prop
  T : Addr → Prop
  ok : Hp → Nat → Prop
  num : Nat → Nat → Prop
  num_refl : ∀ n, num n n
  num_trans : ∀ {a b c}, num a b → num b c → num a c
  ok_T : ∀ {H H' n}, ok H n → (∀ a o, T a → H a = some o → H' a = some o) → ok H' n
  ok_live : ∀ {H n a}, ok H n → T a → H a ≠ none
structure Good (e : Ef) (W : Wo) : Prop where
  F : ∀ a, W.F a → ¬ e.S a ∧ W.H a ≠ none
  S : ∀ a, e.S a → W.H a ≠ none
  ok : e.ok W.H W.n
structure Gw (e : Ef) (W W' : Wo) : Prop where
  keep : ∀ a o, W.H a = some o → ¬ e.S a → W'.H a = some o
  st : St W W'
  new : ∀ a, W'.F a → W.F a ∨ W.H a = none
  live : ∀ a, W'.H a = none → W.H a = none
  n : e.num W.n W'.n
  ok : Good e W'
theorem Gw.refl {e : Ef} {W : Wo} (g : Good e W) : Gw e W W := ⟨fun _ _ h _ => h, St.refl W, fun _ h => .inl h, fun _ h => h, e.num_refl _, g⟩
theorem Gw.trans {e : Ef} {W W1 W2 : Wo} (a : Gw e W W1) (b : Gw e W1 W2) : Gw e W W2 :=
  ⟨fun x o h n => b.keep x o (a.keep x o h n) n, a.st.trans b.st, fun x h => (b.new x h).elim (fun h => a.new x h) fun h => .inr (a.live x h), fun x h => a.live x (b.live x h), e.num_trans a.n b.n, b.ok⟩
theorem ne_of {H : Hp} {a b : Addr} {o : HO} (h : H a = some o) (n : H b = none) : a ≠ b := fun z => by rw [z, n] at h; cases h
theorem some_of {H : Hp} {a : Addr} (h : H a ≠ none) : ∃ o, H a = some o := by
  cases q : H a with
  | none => exact absurd q h
  | some o => exact ⟨o, rfl⟩
theorem some_ne {H : Hp} {a : Addr} {o : HO} (h : H a = some o) : H a ≠ none := fun z => by rw [z] at h; cases h
/-- a new object -/
theorem Gw.alloc {e : Ef} {W : Wo} {p : Addr} {o : HO} (g : Good e W) (hp : W.H p = none) : Gw e W ⟨upd W.H p o, W.F, W.n⟩ := by
  have k : ∀ a u, W.H a = some u → (upd W.H p o) a = some u := fun a u h => by rw [upd_ne (ne_of h hp)]; exact h
  have l : ∀ a, W.H a ≠ none → (upd W.H p o) a ≠ none := fun a h => by
    obtain ⟨u, hu⟩ := some_of h
    exact some_ne (k a u hu)
  exact ⟨fun a u h _ => k a u h, ⟨fun a xs h => k a _ h, fun _ h => h, fun a u _ h => k a u h⟩, fun _ h => .inl h, fun a h => by
    cases q : W.H a with
    | none => rfl
    | some u => exact absurd h (some_ne (k a u q)), e.num_refl _, ⟨fun a f => ⟨(g.F a f).1, l a (g.F a f).2⟩, fun a f => l a (g.S a f), e.ok_T g.ok fun a u _ h => k a u h⟩⟩
/-- all kept but what is new: the heap of another world -/
theorem Gw.same {e : Ef} {W : Wo} {H' : Hp} (g : Good e W) (s : Same W.H H') : Gw e W ⟨H', W.F, W.n⟩ := by
  have l : ∀ a, W.H a ≠ none → H' a ≠ none := fun a h => by
    obtain ⟨u, hu⟩ := some_of h
    exact some_ne (s a u hu)
  exact ⟨fun a u h _ => s a u h, ⟨fun a xs h => s a _ h, fun _ h => h, fun a u _ h => s a u h⟩, fun _ h => .inl h, fun a h => by
    cases q : W.H a with
    | none => rfl
    | some u => exact absurd h (some_ne (s a u q)), e.num_refl _, ⟨fun a f => ⟨(g.F a f).1, l a (g.F a f).2⟩, fun a f => l a (g.S a f), e.ok_T g.ok fun a u _ h => s a u h⟩⟩
/-- an object of our own changed -/
theorem St.mut {W : Wo} {l : Addr} {o u : HO} (h : W.H l = some o) (ht : ∀ xs, o ≠ .tup xs) (hF : ¬ W.F l) : St W ⟨upd W.H l u, W.F, W.n⟩ :=
  ⟨fun a xs q => by
    have : a ≠ l := fun z => by rw [z, h] at q; exact ht xs (Option.some.inj q)
    show (upd W.H l u) a = _
    rw [upd_ne this]; exact q, fun _ f => f, fun a x f q => by
    have : a ≠ l := fun z => hF (z ▸ f)
    show (upd W.H l u) a = _
    rw [upd_ne this]; exact q⟩
theorem Gw.mut {e : Ef} {W0 W : Wo} {l : Addr} {o u : HO} (g0 : Good e W0) (g : Gw e W0 W) (h0 : W0.H l = none) (h : W.H l = some o) (ht : ∀ xs, o ≠ .tup xs) (hF : ¬ W.F l) : Gw e W0 ⟨upd W.H l u, W.F, W.n⟩ := by
  have s := St.mut (u := u) h ht hF
  have l' : ∀ a, W.H a ≠ none → (upd W.H l u) a ≠ none := fun a h => by
    by_cases e1 : a = l
    · subst e1; rw [upd_same]; exact fun z => by cases z
    · rw [upd_ne e1]; exact h
  refine ⟨fun a x q n => ?_, g.st.trans s, g.new, fun a q => ?_, g.n, ⟨fun a f => ⟨(g.ok.F a f).1, l' a (g.ok.F a f).2⟩, fun a f => l' a (g.ok.S a f), ?_⟩⟩
  · show (upd W.H l u) a = _
    rw [upd_ne (ne_of q h0)]; exact g.keep a x q n
  · cases q' : W.H a with
    | none => exact g.live a q'
    | some x => exact absurd q (l' a (some_ne q'))
  · refine e.ok_T g.ok.ok fun a x t q => ?_
    have : a ≠ l := fun z => e.ok_live g0.ok t (z ▸ h0)
    show (upd W.H l u) a = _
    rw [upd_ne this]; exact q
/-- objects of our own frozen -/
def Wo.frz (W : Wo) (fp : List Addr) : Wo := ⟨W.H, fun a => W.F a ∨ a ∈ fp, W.n⟩
theorem St.frz {W : Wo} {fp : List Addr} : St W (W.frz fp) := ⟨fun _ _ h => h, fun _ h => .inl h, fun _ _ _ h => h⟩
theorem Gw.frz {e : Ef} {W0 W : Wo} {fp : List Addr} (g0 : Good e W0) (g : Gw e W0 W) (h0 : ∀ a ∈ fp, W0.H a = none) (h : ∀ a ∈ fp, W.H a ≠ none) : Gw e W0 (W.frz fp) :=
  ⟨g.keep, g.st.trans St.frz, fun a f => f.elim (g.new a) fun m => .inr (h0 a m), g.live, g.n, ⟨fun a f => f.elim (g.ok.F a) fun m => ⟨fun z => g0.S a z (h0 a m), h a m⟩, g.ok.S, g.ok.ok⟩⟩
/-- nothing changes -/
def ef0 : Ef where
  S := fun _ => False
  T := fun _ => False
  ok := fun _ _ => True
  num := fun a b => a = b
  num_refl := fun _ => rfl
  num_trans := fun a b => a.trans b
  ok_T := fun _ _ => True.intro
  ok_live := fun _ z => z.elim
theorem Good.z {e : Ef} {W : Wo} (g : Good e W) : Good ef0 W := ⟨fun a f => ⟨fun z => z, (g.F a f).2⟩, fun _ z => z.elim, True.intro⟩
theorem Gw.up {e : Ef} {W W' : Wo} (g : Good e W) (h : Gw ef0 W W') : Gw e W W' := by
  have hl : ∀ a, W.H a ≠ none → W'.H a ≠ none := fun a h' z => h' (h.live a z)
  refine ⟨fun a o q _ => h.keep a o q id, h.st, h.new, h.live, (show W.n = W'.n from h.n) ▸ e.num_refl _, ⟨fun a f => ?_, fun a s => hl a (g.S a s), ?_⟩⟩
  · refine ⟨fun s => ?_, (h.ok.F a f).2⟩
    rcases h.new a f with f | f
    · exact (g.F a f).1 s
    · exact g.S a s f
  · rw [← (show W.n = W'.n from h.n)]
    exact e.ok_T g.ok fun a o _ q => h.keep a o q id

/-! ### data that never changes -/
class PyI (α : Type) where
  rep : Wo → α → V → Prop
  st : ∀ {W W' : Wo} {a : α} {v : V}, St W W' → rep W a v → rep W' a v
abbrev Rp {α : Type} [PyI α] (W : Wo) (a : α) (v : V) : Prop := PyI.rep W a v
instance : PyI Int := ⟨fun _ i v => v = .int i, fun _ h => h⟩
instance : PyI Bool := ⟨fun _ i v => v = .bl i, fun _ h => h⟩
instance : PyI Str := ⟨fun _ i v => v = .str i, fun _ h => h⟩
instance : PyI Unit := ⟨fun _ _ v => v = .non, fun _ h => h⟩
instance {α : Type} [PyI α] : PyI (Option α) := ⟨fun W o v => match o with | none => v = .non | some a => v ≠ .non ∧ Rp W a v, fun {_ _ o _} t h => by
  cases o with
  | none => exact h
  | some a => exact ⟨h.1, PyI.st t h.2⟩⟩
instance {α β : Type} [PyI α] [PyI β] : PyI (α × β) := ⟨fun W c v => ∃ p x y, v = .ref p ∧ W.H p = some (.tup [x, y]) ∧ Rp W c.1 x ∧ Rp W c.2 y, fun t ⟨p, x, y, h1, h2, h3, h4⟩ => ⟨p, x, y, h1, t.t _ _ h2, PyI.st t h3, PyI.st t h4⟩⟩
structure Tri (α β γ : Type) where
  a : α
  b : β
  c : γ
instance {α β γ : Type} [PyI α] [PyI β] [PyI γ] : PyI (Tri α β γ) := ⟨fun W c v => ∃ p x y z, v = .ref p ∧ W.H p = some (.tup [x, y, z]) ∧ Rp W c.a x ∧ Rp W c.b y ∧ Rp W c.c z, fun t ⟨p, x, y, z, h1, h2, h3, h4, h5⟩ => ⟨p, x, y, z, h1, t.t _ _ h2, PyI.st t h3, PyI.st t h4, PyI.st t h5⟩⟩
theorem Paired.imp {α β : Type} {F G : α → β → Prop} (f : ∀ a b, F a b → G a b) : ∀ {l1 : List α} {l2 : List β}, Paired F l1 l2 → Paired G l1 l2
  | _, _, .nil => .nil
  | _, _, .cons r t => .cons (f _ _ r) (Paired.imp f t)
abbrev Rps {α : Type} [PyI α] (W : Wo) (xs : List α) (vs : List V) : Prop := Paired (fun a v => Rp W a v) xs vs
theorem Rps.st {α : Type} [PyI α] {W W' : Wo} {xs : List α} {vs : List V} (t : St W W') (h : Rps W xs vs) : Rps W' xs vs := Paired.imp (fun _ _ => PyI.st t) h
/-- a tuple of any length, all of one kind -/
instance {α : Type} [PyI α] : PyI (List α) := ⟨fun W xs v => ∃ p vs, v = .ref p ∧ W.H p = some (.tup vs) ∧ Rps W xs vs, fun t ⟨p, vs, h1, h2, h3⟩ => ⟨p, vs, h1, t.t _ _ h2, Rps.st t h3⟩⟩
/-- a frozen list -/
structure Ls (α : Type) where
  l : List α
instance {α : Type} [PyI α] : PyI (Ls α) := ⟨fun W xs v => ∃ p vs, v = .ref p ∧ W.F p ∧ W.H p = some (.lst vs) ∧ Rps W xs.l vs, fun t ⟨p, vs, h1, h2, h3, h4⟩ => ⟨p, vs, h1, t.f _ h2, t.c _ _ h2 h3, Rps.st t h4⟩⟩
section
variable {α β : Type}
theorem _root_.PySem.Paired.getA {F : α → β → Prop} {xs : List α} {vs : List β} {i : Nat} {a : α} (h : Paired F xs vs) (e : xs[i]? = some a) : ∃ v, vs[i]? = some v ∧ F a v := by
  induction h generalizing i with
  | nil => simp at e
  | cons r t ih =>
    cases i with
    | zero => simp at e; subst e; exact ⟨_, rfl, r⟩
    | succ i => exact ih (by simpa using e)
theorem _root_.PySem.Paired.getV {F : α → β → Prop} {xs : List α} {vs : List β} {i : Nat} {v : β} (h : Paired F xs vs) (e : vs[i]? = some v) : ∃ a, xs[i]? = some a ∧ F a v := by
  induction h generalizing i with
  | nil => simp at e
  | cons r t ih =>
    cases i with
    | zero => simp at e; subst e; exact ⟨_, rfl, r⟩
    | succ i => exact ih (by simpa using e)
theorem _root_.PySem.Paired.appA {F : α → β → Prop} {xs ys : List α} {vs ws : List β} (h : Paired F xs vs) (r : Paired F ys ws) : Paired F (xs ++ ys) (vs ++ ws) := by
  induction h with
  | nil => exact r
  | cons a t ih => exact .cons a ih
theorem _root_.PySem.Paired.takeA {F : α → β → Prop} {xs : List α} {vs : List β} (n : Nat) (h : Paired F xs vs) : Paired F (xs.take n) (vs.take n) := by
  induction h generalizing n with
  | nil => simp; exact .nil
  | cons a t ih => cases n with
    | zero => exact .nil
    | succ n => exact .cons a (ih n)
theorem _root_.PySem.Paired.dropA {F : α → β → Prop} {xs : List α} {vs : List β} (n : Nat) (h : Paired F xs vs) : Paired F (xs.drop n) (vs.drop n) := by
  induction h generalizing n with
  | nil => simp; exact .nil
  | cons a t ih => cases n with
    | zero => exact .cons a t
    | succ n => exact ih n
theorem _root_.PySem.Paired.setA {F : α → β → Prop} {xs : List α} {vs : List β} {a : α} {v : β} (n : Nat) (h : Paired F xs vs) (r : F a v) : Paired F (xs.set n a) (vs.set n v) := by
  induction h generalizing n with
  | nil => exact .nil
  | cons b t ih => cases n with
    | zero => exact .cons r t
    | succ n => exact .cons b (ih n)
theorem _root_.PySem.Paired.revA {F : α → β → Prop} {xs : List α} {vs : List β} (h : Paired F xs vs) : Paired F xs.reverse vs.reverse := by
  induction h with
  | nil => exact .nil
  | cons a t ih => rw [List.reverse_cons, List.reverse_cons]; exact ih.appA (.cons a .nil)
end
theorem rps_ints {W : Wo} {ns : List Int} {vs : List V} (h : Rps W ns vs) : vs = ns.map V.int := by
  induction h with
  | nil => rfl
  | cons r t ih => rw [show _ = _ from r, ih]; rfl
theorem rps_ints' (W : Wo) : ∀ ns : List Int, Rps W ns (ns.map V.int)
  | [] => .nil
  | _ :: r => .cons rfl (rps_ints' W r)
theorem rps_strs {W : Wo} {ns : List Str} {vs : List V} (h : Rps W ns vs) : vs = ns.map V.str := by
  induction h with
  | nil => rfl
  | cons r t ih => rw [show _ = _ from r, ih]; rfl
theorem rps_strs' (W : Wo) : ∀ ns : List Str, Rps W ns (ns.map V.str)
  | [] => .nil
  | _ :: r => .cons rfl (rps_strs' W r)

/-! ### things that change: a kind of them, its footprint -/
structure Kd (κ : Type) where
  own : Wo → List Addr → κ → V → Prop
  st : ∀ {W W' : Wo} {fp : List Addr} {x : κ} {v : V}, St W W' → (∀ a ∈ fp, ∀ o, W.H a = some o → W'.H a = some o) → own W fp x v → own W' fp x v
  live : ∀ {W : Wo} {fp : List Addr} {x : κ} {v : V}, own W fp x v → ∀ a ∈ fp, W.H a ≠ none
/-- a list -/
def kL (α : Type) [PyI α] : Kd (List α) where
  own := fun W fp xs v => ∃ p vs, fp = [p] ∧ v = .ref p ∧ W.H p = some (.lst vs) ∧ Rps W xs vs
  st := fun s c ⟨p, vs, h1, h2, h3, h4⟩ => ⟨p, vs, h1, h2, c p (by rw [h1]; exact List.mem_singleton.mpr rfl) _ h3, Rps.st s h4⟩
  live := fun ⟨p, vs, h1, h2, h3, h4⟩ a ha => by
    rw [h1] at ha
    cases List.mem_singleton.mp ha
    exact some_ne h3
/-- a list of lists -/
def Row {α : Type} [PyI α] (W : Wo) (xs : List α) (a : Addr) : Prop := ∃ vs, W.H a = some (.lst vs) ∧ Rps W xs vs
theorem rows_st {α : Type} [PyI α] {W W' : Wo} (s : St W W') : ∀ {xss : List (List α)} {ps : List Addr}, (∀ a ∈ ps, ∀ o, W.H a = some o → W'.H a = some o) → Paired (Row W) xss ps → Paired (Row W') xss ps
  | _, _, _, .nil => .nil
  | _, _, c, .cons ⟨vs, q1, q2⟩ t => .cons ⟨vs, c _ List.mem_cons_self _ q1, Rps.st s q2⟩ (rows_st s (fun a m => c a (List.mem_cons_of_mem _ m)) t)
def kG (α : Type) [PyI α] : Kd (List (List α)) where
  own := fun W fp xss v => ∃ p ps, fp = p :: ps ∧ (p :: ps).Nodup ∧ v = .ref p ∧ W.H p = some (.lst (ps.map V.ref)) ∧ Paired (Row W) xss ps
  st := fun s c ⟨p, ps, h1, h2, h3, h4, h5⟩ => ⟨p, ps, h1, h2, h3, c p (by rw [h1]; exact List.mem_cons_self) _ h4, rows_st s (fun a m => c a (by rw [h1]; exact List.mem_cons_of_mem _ m)) h5⟩
  live := fun ⟨p, ps, h1, h2, h3, h4, h5⟩ a ha => by
    rw [h1] at ha
    rcases List.mem_cons.mp ha with rfl | ha
    · exact some_ne h4
    · obtain ⟨i, hi⟩ := List.getElem?_of_mem ha
      obtain ⟨xs, _, vs, q1, _⟩ := h5.getV hi
      exact some_ne q1
/-- of our own: new since W0, not frozen -/
structure Var {κ : Type} (k : Kd κ) (W0 W : Wo) (fp : List Addr) (x : κ) (v : V) : Prop where
  own : k.own W fp x v
  fr : ∀ a ∈ fp, W0.H a = none
  nF : ∀ a ∈ fp, ¬ W.F a
theorem Kd.go {κ : Type} {k : Kd κ} {e : Ef} {W W' : Wo} {fp : List Addr} {x : κ} {v : V} (g : Gw e W W') (hS : ∀ a ∈ fp, ¬ e.S a) (h : k.own W fp x v) : k.own W' fp x v := k.st g.st (fun a m o q => g.keep a o q (hS a m)) h
theorem Var.go {κ : Type} {k : Kd κ} {e : Ef} {W0 W W' : Wo} {fp : List Addr} {x : κ} {v : V} (g0 : Good e W0) (g : Gw e W W') (h : Var k W0 W fp x v) : Var k W0 W' fp x v :=
  ⟨Kd.go g (fun a m s => g0.S a s (h.fr a m)) h.own, h.fr, fun a m f => (g.new a f).elim (h.nF a m) (k.live h.own a m)⟩
end Y

/-! What a reading evaluates to, by its model. -/
namespace Y
open PySem L2
/-- how a result lies in the heap -/
structure Rs (e : Ef) (α : Type) where
  post : Wo → Wo → α → V → Prop
  back : ∀ {W W1 W2 : Wo} {a : α} {v : V}, Gw e W W1 → post W1 W2 a v → post W W2 a v
  stay : ∀ {W1 W2 W3 : Wo} {a : α} {v : V}, Gw e W2 W3 → post W1 W2 a v → post W1 W3 a v
def sI {e : Ef} {α : Type} [PyI α] : Rs e α := ⟨fun _ W2 a v => Rp W2 a v, fun _ h => h, fun g h => PyI.st g.st h⟩
def sR {e : Ef} {κ : Type} (k : Kd κ) : Rs e κ := ⟨fun _ W2 x v => ∃ fp, k.own W2 fp x v ∧ ∀ a ∈ fp, ¬ e.S a, fun _ h => h, fun g ⟨fp, h1, h2⟩ => ⟨fp, Kd.go g h2 h1, h2⟩⟩
def sN {e : Ef} {κ : Type} (k : Kd κ) : Rs e κ := ⟨fun W1 W2 x v => ∃ fp, k.own W2 fp x v ∧ ∀ a ∈ fp, W1.H a = none ∧ ¬ e.S a ∧ ¬ W2.F a,
  fun g ⟨fp, h1, h2⟩ => ⟨fp, h1, fun a m => ⟨g.live a (h2 a m).1, (h2 a m).2⟩⟩,
  fun g ⟨fp, h1, h2⟩ => ⟨fp, Kd.go g (fun a m => (h2 a m).2.1) h1, fun a m => ⟨(h2 a m).1, (h2 a m).2.1, fun f => (g.new a f).elim (h2 a m).2.2 (k.live h1 a m)⟩⟩⟩
def EvW {α : Type} (e : Ef) (te : TE) (σ : L2.St) (W : Wo) (ρ : Rs e α) (w : WP α) : Prop :=
  ∀ W1, Gw e W W1 → ∀ Q : VK, w.run W1.n (fun n a => ∀ v W2, Gw e W1 W2 → W2.n = n → ρ.post W1 W2 a v → Q v W2.H) → te σ W1.H Q
def EvT (e : Ef) (t : TT) (σ : L2.St) (W : Wo) (w : WP Bool) : Prop :=
  ∀ W1, Gw e W W1 → ∀ Q : Bool → Hp → Prop, w.run W1.n (fun n b => ∀ W2, Gw e W1 W2 → W2.n = n → Q b W2.H) → t σ W1.H Q
namespace WP
variable {α β γ δ : Type}
abbrev b2 (a : WP α) (b : WP β) (f : α → β → WP γ) : WP γ := a.bind fun x => b.bind fun y => f x y
abbrev b3 (a : WP α) (b : WP β) (c : WP γ) (f : α → β → γ → WP δ) : WP δ := a.bind fun x => b.bind fun y => c.bind fun z => f x y z
abbrev add (a b : WP Int) : WP Int := b2 a b fun x y => pure (x + y)
abbrev sub (a b : WP Int) : WP Int := b2 a b fun x y => pure (x - y)
abbrev mul (a b : WP Int) : WP Int := b2 a b fun x y => req (CMul x y) (x * y)
abbrev fdiv (a b : WP Int) : WP Int := b2 a b fun x y => req (CDiv x y) (x / y)
abbrev mod (a b : WP Int) : WP Int := b2 a b fun x y => req (0 < y) (x % y)
abbrev pow (a b : WP Int) : WP Int := b2 a b fun x y => req (CPow x y) (x ^ y.toNat)
abbrev lt (a b : WP Int) : WP Bool := b2 a b fun x y => pure (decide (x < y))
abbrev le (a b : WP Int) : WP Bool := b2 a b fun x y => pure (decide (x ≤ y))
abbrev gt (a b : WP Int) : WP Bool := b2 a b fun x y => pure (decide (y < x))
abbrev ge (a b : WP Int) : WP Bool := b2 a b fun x y => pure (decide (y ≤ x))
abbrev eq [DecidableEq α] (a b : WP α) : WP Bool := b2 a b fun x y => pure (decide (x = y))
abbrev ne [DecidableEq α] (a b : WP α) : WP Bool := b2 a b fun x y => pure (!decide (x = y))
abbrev not (a : WP Bool) : WP Bool := a.bind fun b => pure (!b)
abbrev neg (a : WP Int) : WP Int := a.bind fun b => pure (-b)
abbrev and (a b : WP Bool) : WP Bool := a.bind fun x => cond x b (pure false)
abbrev or (a b : WP Bool) : WP Bool := a.bind fun x => cond x (pure true) b
abbrev ite (c : WP Bool) (a b : WP α) : WP α := c.bind fun x => cond x a b
/-- a < b < c -/
abbrev chain (C C' : Int → Int → Bool) (a b c : WP Int) : WP Bool := a.bind fun x => b.bind fun y => cond (C x y) (c.bind fun z => pure (C' y z)) (pure false)
end WP
section
variable {α β γ δ : Type} {K : PySem.W.Frag} {e : Ef} {σ : L2.St} {W : Wo} {ta tb te tc : TE} {t u : TT} {i j k m n : Nat} {v : V}
theorem ew_int {x : Int} : EvW e (tC (.int x)) σ W sI (WP.pure x) := fun W1 g Q q => q _ W1 (Gw.refl g.ok) rfl rfl
theorem ew_str {x : Str} : EvW e (tC (.str x)) σ W sI (WP.pure x) := fun W1 g Q q => q _ W1 (Gw.refl g.ok) rfl rfl
theorem ew_bl {x : Bool} : EvW e (tC (.bl x)) σ W sI (WP.pure x) := fun W1 g Q q => q _ W1 (Gw.refl g.ok) rfl rfl
theorem ew_non : EvW e (tC .non) σ W sI (WP.pure ()) := fun W1 g Q q => q _ W1 (Gw.refl g.ok) rfl rfl
theorem ew_nonO [PyI α] : EvW e (tC .non) σ W sI (WP.pure (none : Option α)) := fun W1 g Q q => q _ W1 (Gw.refl g.ok) rfl rfl
theorem ew_var [PyI α] {a : α} {i : Nat} (h : σ[i]? = some (some v)) (r : Rp W a v) : EvW e (tVar i) σ W sI (WP.pure a) := fun W1 g Q q => ⟨v, h, q v W1 (Gw.refl g.ok) rfl (PyI.st g.st r)⟩
theorem ew_varR {κ : Type} {kd : Kd κ} {fp : List Addr} {x : κ} {i : Nat} (h : σ[i]? = some (some v)) (hS : ∀ a ∈ fp, ¬ e.S a) (r : kd.own W fp x v) : EvW e (tVar i) σ W (sR kd) (WP.pure x) := fun W1 g Q q => ⟨v, h, q v W1 (Gw.refl g.ok) rfl ⟨fp, Kd.go g hS r, hS⟩⟩
/-- what is new may be read -/
theorem ew_rd {κ : Type} {kd : Kd κ} {w : WP κ} (h : EvW e te σ W (sN kd) w) : EvW e te σ W (sR kd) w := fun W1 g Q q => h W1 g Q (w.mono (fun n a hq v W2 g2 hn ⟨fp, h1, h2⟩ => hq v W2 g2 hn ⟨fp, h1, fun a m => (h2 a m).2.1⟩) q)
theorem ew_op {r : R2} {ρ1 : Rs e α} {ρ2 : Rs e β} {ρ : Rs e γ} {w1 : WP α} {w2 : WP β} {f : α → β → WP γ} (ha : EvW e ta σ W ρ1 w1) (hb : EvW e tb σ W ρ2 w2)
    (hr : ∀ W1 W2 a b x y, Gw e W1 W2 → ρ1.post W1 W2 a x → ρ2.post W1 W2 b y → ∀ Q : VK, (f a b).run W2.n (fun n c => ∀ v W3, Gw e W2 W3 → W3.n = n → ρ.post W2 W3 c v → Q v W3.H) → r x y W2.H Q) : EvW e (tOp r ta tb) σ W ρ (WP.b2 w1 w2 f) := fun W1 g Q hw =>
  ha W1 g _ (w1.mono (fun n a h x W2 g2 hn r1 => hb W2 (g.trans g2) _ (by
    subst hn
    exact w2.mono (fun n b h y W3 g3 hn r2 => hr W1 W3 a b x y (g2.trans g3) (ρ1.stay g3 r1) (ρ2.back g2 r2) Q (by
      subst hn
      exact (f a b).mono (fun n c h v W4 g4 hn r4 => h v W4 ((g2.trans g3).trans g4) hn (ρ.back (g2.trans g3) r4)) h)) h)) hw)
/-- both of them read as they are -/
theorem ew_op2 [PyI α] [PyI β] [PyI γ] {r : R2} {w1 : WP α} {w2 : WP β} {C : α → β → Prop} {f : α → β → γ} (ha : EvW e ta σ W sI w1) (hb : EvW e tb σ W sI w2)
    (hr : ∀ W2 a b x y, Rp W2 a x → Rp W2 b y → C a b → ∀ Q : VK, (∀ v H3, Same W2.H H3 → Rp ⟨H3, W2.F, W2.n⟩ (f a b) v → Q v H3) → r x y W2.H Q) : EvW e (tOp r ta tb) σ W sI (WP.b2 w1 w2 fun a b => WP.req (C a b) (f a b)) :=
  ew_op ha hb fun W1 W2 a b x y g r1 r2 Q q => hr W2 a b x y r1 r2 q.1 Q fun v H3 s r => q.2 v ⟨H3, W2.F, W2.n⟩ (Gw.same g.ok s) rfl r
theorem ew_op20 [PyI α] [PyI β] [PyI γ] {r : R2} {w1 : WP α} {w2 : WP β} {f : α → β → γ} (ha : EvW e ta σ W sI w1) (hb : EvW e tb σ W sI w2)
    (hr : ∀ W2 a b x y, Rp W2 a x → Rp W2 b y → ∀ Q : VK, (∀ v H3, Same W2.H H3 → Rp ⟨H3, W2.F, W2.n⟩ (f a b) v → Q v H3) → r x y W2.H Q) : EvW e (tOp r ta tb) σ W sI (WP.b2 w1 w2 fun a b => WP.pure (f a b)) :=
  ew_op ha hb fun W1 W2 a b x y g r1 r2 Q q => hr W2 a b x y r1 r2 Q fun v H3 s r => q v ⟨H3, W2.F, W2.n⟩ (Gw.same g.ok s) rfl r
section
variable {w1 w2 : WP Int} (ha : EvW e ta σ W sI w1) (hb : EvW e tb σ W sI w2)
include ha hb
theorem ew_iop [PyI γ] {C : Int → Int → Prop} {f : Int → Int → V} {g : Int → Int → γ} (hv : ∀ W x y, Rp W (g x y) (f x y)) : EvW e (tOp (rI C f) ta tb) σ W sI (WP.b2 w1 w2 fun a b => WP.req (C a b) (g a b)) :=
  ew_op2 ha hb fun W2 a b x y r1 r2 hc Q q => by cases r1; cases r2; exact ⟨a, b, rfl, rfl, hc, q _ _ (Same.refl _) (hv _ _ _)⟩
theorem ew_iop0 [PyI γ] {f : Int → Int → V} {g : Int → Int → γ} (hv : ∀ W x y, Rp W (g x y) (f x y)) : EvW e (tOp (rI0 f) ta tb) σ W sI (WP.b2 w1 w2 fun a b => WP.pure (g a b)) :=
  ew_op20 ha hb fun W2 a b x y r1 r2 Q q => by cases r1; cases r2; exact ⟨a, b, rfl, rfl, q _ _ (Same.refl _) (hv _ _ _)⟩
theorem ew_add : EvW e (tOp (rI0 fun i j => .int (i + j)) ta tb) σ W sI (WP.add w1 w2) := ew_iop0 ha hb fun _ _ _ => rfl
theorem ew_sub : EvW e (tOp (rI0 fun i j => .int (i - j)) ta tb) σ W sI (WP.sub w1 w2) := ew_iop0 ha hb fun _ _ _ => rfl
theorem ew_mul : EvW e (tOp (rI CMul fun i j => .int (i * j)) ta tb) σ W sI (WP.mul w1 w2) := ew_iop ha hb fun _ _ _ => rfl
theorem ew_fdiv : EvW e (tOp (rI CDiv fun i j => .int (i / j)) ta tb) σ W sI (WP.fdiv w1 w2) := ew_iop ha hb fun _ _ _ => rfl
theorem ew_mod : EvW e (tOp (rI (fun _ j => 0 < j) fun i j => .int (i % j)) ta tb) σ W sI (WP.mod w1 w2) := ew_iop ha hb fun _ _ _ => rfl
theorem ew_pow : EvW e (tOp (rI CPow fun i j => .int (i ^ j.toNat)) ta tb) σ W sI (WP.pow w1 w2) := ew_iop ha hb fun _ _ _ => rfl
theorem ew_lt : EvW e (tOp (rI0 fun i j => .bl (decide (i < j))) ta tb) σ W sI (WP.lt w1 w2) := ew_iop0 ha hb fun _ _ _ => rfl
theorem ew_le : EvW e (tOp (rI0 fun i j => .bl (decide (i ≤ j))) ta tb) σ W sI (WP.le w1 w2) := ew_iop0 ha hb fun _ _ _ => rfl
theorem ew_gt : EvW e (tOp (rI0 fun i j => .bl (decide (j < i))) ta tb) σ W sI (WP.gt w1 w2) := ew_iop0 ha hb fun _ _ _ => rfl
theorem ew_ge : EvW e (tOp (rI0 fun i j => .bl (decide (j ≤ i))) ta tb) σ W sI (WP.ge w1 w2) := ew_iop0 ha hb fun _ _ _ => rfl
end
theorem ew_neg {w : WP Int} (ha : EvW e ta σ W sI w) : EvW e (tUn (rU fun i => .int (-i)) ta) σ W sI (WP.neg w) := fun W1 g Q q => ha W1 g _ (w.mono (fun n a h v W2 g2 hn r => by
  cases r
  exact ⟨a, rfl, h _ W2 g2 hn rfl⟩) q)
/-- values told by == -/
class Scal (α : Type) [PyI α] [DecidableEq α] where
  toV : α → V
  rv : ∀ {W : Wo} {a : α} {v : V}, Rp W a v → v = toV a
  inj : ∀ a b : α, toV a = toV b ↔ a = b
  sc : ∀ a b : α, scal (toV a) (toV b) = true
instance : Scal Int := ⟨V.int, fun h => h, fun a b => ⟨fun h => by injection h, fun h => by rw [h]⟩, fun _ _ => rfl⟩
instance : Scal Bool := ⟨V.bl, fun h => h, fun a b => ⟨fun h => by injection h, fun h => by rw [h]⟩, fun _ _ => rfl⟩
instance : Scal Str := ⟨V.str, fun h => h, fun a b => ⟨fun h => by injection h, fun h => by rw [h]⟩, fun _ _ => rfl⟩
theorem scal_dec [PyI α] [DecidableEq α] [Scal α] (a b : α) : decide (Scal.toV a = Scal.toV b) = decide (a = b) := by
  by_cases h : a = b
  · rw [decide_eq_true h, decide_eq_true ((Scal.inj a b).mpr h)]
  · rw [decide_eq_false h, decide_eq_false (fun z => h ((Scal.inj a b).mp z))]
theorem ew_eq [PyI α] [DecidableEq α] [Scal α] {w1 w2 : WP α} (ha : EvW e ta σ W sI w1) (hb : EvW e tb σ W sI w2) : EvW e (tOp rEq ta tb) σ W sI (WP.eq w1 w2) :=
  ew_op20 ha hb fun W2 a b x y r1 r2 Q q => by
    rw [Scal.rv r1, Scal.rv r2]
    exact ⟨Scal.sc a b, q _ _ (Same.refl _) (by rw [scal_dec]; exact (rfl : _ = V.bl _))⟩
theorem ew_ne [PyI α] [DecidableEq α] [Scal α] {w1 w2 : WP α} (ha : EvW e ta σ W sI w1) (hb : EvW e tb σ W sI w2) : EvW e (tOp rNe ta tb) σ W sI (WP.ne w1 w2) :=
  ew_op20 ha hb fun W2 a b x y r1 r2 Q q => by
    rw [Scal.rv r1, Scal.rv r2]
    exact ⟨Scal.sc a b, q _ _ (Same.refl _) (by rw [scal_dec]; exact (rfl : _ = V.bl _))⟩
/-- tests -/
theorem et_t {w : WP Bool} (h : EvW e te σ W sI w) : EvT e (tTest te) σ W w := fun W1 g Q q => h W1 g _ (w.mono (fun n b h v W2 g2 hn r => ⟨b, r, h W2 g2 hn⟩) q)
theorem et_B {w : WP Bool} (h : EvW e te σ W sI w) : EvT e (tB te) σ W w := fun W1 g Q q => h W1 g _ (w.mono (fun n b h v W2 g2 hn r => ⟨b, r, h W2 g2 hn⟩) q)
theorem et_not {w : WP Bool} (h : EvT e t σ W w) : EvT e (tNot t) σ W (WP.not w) := fun W1 g Q q => h W1 g _ (w.mono (fun n b h W2 g2 hn => h W2 g2 hn) q)
theorem et_and {w1 w2 : WP Bool} (h1 : EvT e t σ W w1) (h2 : EvT e u σ W w2) : EvT e (tAnd t u) σ W (WP.and w1 w2) := fun W1 g Q q => h1 W1 g _ (w1.mono (fun n b h W2 g2 hn => by
  subst hn
  cases b with
  | true => exact h2 W2 (g.trans g2) _ (w2.mono (fun n c h W3 g3 hn => h W3 (g2.trans g3) hn) h)
  | false => exact h W2 g2 rfl) q)
theorem et_or {w1 w2 : WP Bool} (h1 : EvT e t σ W w1) (h2 : EvT e u σ W w2) : EvT e (tOr t u) σ W (WP.or w1 w2) := fun W1 g Q q => h1 W1 g _ (w1.mono (fun n b h W2 g2 hn => by
  subst hn
  cases b with
  | false => exact h2 W2 (g.trans g2) _ (w2.mono (fun n c h W3 g3 hn => h W3 (g2.trans g3) hn) h)
  | true => exact h W2 g2 rfl) q)
theorem ew_andV {w1 w2 : WP Bool} (h1 : EvW e ta σ W sI w1) (h2 : EvW e tb σ W sI w2) : EvW e (tAndV ta tb) σ W sI (WP.and w1 w2) := fun W1 g Q q => h1 W1 g _ (w1.mono (fun n b h v W2 g2 hn r => ⟨b, r, by
  subst hn
  cases b with
  | true => exact h2 W2 (g.trans g2) _ (w2.mono (fun n c h v W3 g3 hn r => h v W3 (g2.trans g3) hn r) h)
  | false => exact h _ W2 g2 rfl rfl⟩) q)
theorem ew_orV {w1 w2 : WP Bool} (h1 : EvW e ta σ W sI w1) (h2 : EvW e tb σ W sI w2) : EvW e (tOrV ta tb) σ W sI (WP.or w1 w2) := fun W1 g Q q => h1 W1 g _ (w1.mono (fun n b h v W2 g2 hn r => ⟨b, r, by
  subst hn
  cases b with
  | false => exact h2 W2 (g.trans g2) _ (w2.mono (fun n c h v W3 g3 hn r => h v W3 (g2.trans g3) hn r) h)
  | true => exact h _ W2 g2 rfl rfl⟩) q)
theorem ew_notV {w : WP Bool} (h1 : EvW e ta σ W sI w) : EvW e (tNotV ta) σ W sI (WP.not w) := fun W1 g Q q => h1 W1 g _ (w.mono (fun n b h v W2 g2 hn r => ⟨b, r, h _ W2 g2 hn rfl⟩) q)
theorem ew_ifE {ρ : Rs e α} {c : WP Bool} {wa wb : WP α} (h : EvT e t σ W c) (h1 : EvW e ta σ W ρ wa) (h2 : EvW e tb σ W ρ wb) : EvW e (tIf t ta tb) σ W ρ (WP.ite c wa wb) := fun W1 g Q q => h W1 g _ (c.mono (fun n b h W2 g2 hn => by
  subst hn
  cases b with
  | true => exact h1 W2 (g.trans g2) _ (wa.mono (fun n c h v W3 g3 hn r => h v W3 (g2.trans g3) hn (ρ.back g2 r)) h)
  | false => exact h2 W2 (g.trans g2) _ (wb.mono (fun n c h v W3 g3 hn r => h v W3 (g2.trans g3) hn (ρ.back g2 r)) h)) q)
theorem ew_chain {C C' : Int → Int → Bool} {w1 w2 w3 : WP Int} (h1 : EvW e ta σ W sI w1) (h2 : EvW e tb σ W sI w2) (h3 : EvW e tc σ W sI w3) :
    EvW e (tChain (rI0 fun i j => .bl (C i j)) (rI0 fun i j => .bl (C' i j)) ta tb tc) σ W sI (WP.chain C C' w1 w2 w3) := fun W1 g Q q => h1 W1 g _ (w1.mono (fun n a h x W2 g2 hn r1 => by
  subst hn
  refine h2 W2 (g.trans g2) _ (w2.mono (fun n b h y W3 g3 hn r2 => ?_) h)
  subst hn
  cases r1; cases r2
  refine ⟨a, b, rfl, rfl, C a b, rfl, ?_⟩
  cases hC : C a b with
  | true =>
    simp only [hC, WP.cond_true] at h
    refine h3 W3 ((g.trans g2).trans g3) _ (w3.mono (fun n c h z W4 g4 hn r3 => ?_) h)
    cases r3
    exact ⟨b, c, rfl, rfl, h _ W4 ((g2.trans g3).trans g4) hn rfl⟩
  | false =>
    simp only [hC, WP.cond_false] at h
    exact h _ W3 (g2.trans g3) rfl rfl) q)
/-! arguments -/
def EvA (e : Ef) (ta : TA) (σ : L2.St) (W : Wo) {α : Type} (ψ : Wo → Wo → α → List V → Prop) (w : WP α) : Prop :=
  ∀ W1, Gw e W W1 → ∀ Q : List V → Hp → Prop, w.run W1.n (fun n a => ∀ vs W2, Gw e W1 W2 → W2.n = n → ψ W1 W2 a vs → Q vs W2.H) → ta σ W1.H Q
theorem ea1 {ρ : Rs e α} {w : WP α} (h : EvW e ta σ W ρ w) : EvA e (tCons ta tNil) σ W (fun W1 W2 a vs => ∃ v, vs = [v] ∧ ρ.post W1 W2 a v) w := fun W1 g Q q => h W1 g _ (w.mono (fun n a h v W2 g2 hn r => h _ W2 g2 hn ⟨v, rfl, r⟩) q)
theorem ea_nil : EvA e tNil σ W (fun _ _ (_ : Unit) vs => vs = []) (WP.pure ()) := fun W1 g Q q => q [] W1 (Gw.refl g.ok) rfl rfl
theorem ea_cons {ρ : Rs e α} {w : WP α} {tr : TA} {ψ : Wo → Wo → β → List V → Prop} {wr : WP β} (hb : ∀ {W W1 W2 a v}, Gw e W W1 → ψ W1 W2 a v → ψ W W2 a v) (h : EvW e ta σ W ρ w) (hr : EvA e tr σ W ψ wr) :
    EvA e (tCons ta tr) σ W (fun W1 W2 (c : α × β) vs => ∃ v r, vs = v :: r ∧ ρ.post W1 W2 c.1 v ∧ ψ W1 W2 c.2 r) (WP.b2 w wr fun a b => WP.pure (a, b)) := fun W1 g Q q => h W1 g _ (w.mono (fun n a h v W2 g2 hn r => by
  subst hn
  exact hr W2 (g.trans g2) _ (wr.mono (fun n b h vs W3 g3 hn r3 => h _ W3 (g2.trans g3) hn ⟨v, vs, rfl, ρ.stay g3 r, hb g2 r3⟩) h)) q)
theorem ea2 {ρ1 : Rs e α} {ρ2 : Rs e β} {w1 : WP α} {w2 : WP β} (h1 : EvW e ta σ W ρ1 w1) (h2 : EvW e tb σ W ρ2 w2) : EvA e (tCons ta (tCons tb tNil)) σ W (fun W1 W2 (c : α × β) vs => ∃ v1 v2, vs = [v1, v2] ∧ ρ1.post W1 W2 c.1 v1 ∧ ρ2.post W1 W2 c.2 v2) (WP.b2 w1 w2 fun a b => WP.pure (a, b)) := fun W1 g Q q =>
  h1 W1 g _ (w1.mono (fun n a h x W2 g2 hn r1 => by
    subst hn
    exact h2 W2 (g.trans g2) _ (w2.mono (fun n b h y W3 g3 hn r2 => h _ W3 (g2.trans g3) hn ⟨x, y, rfl, ρ1.stay g3 r1, ρ2.back g2 r2⟩) h)) q)
/-- what is done with evaluated arguments: a spec of a def, or of a thing built in -/
def Does (e : Ef) (f : List V → Hp → VK → Prop) {α β : Type} (ψ : Wo → α → List V → Prop) (ρ : Rs e β) (m : α → WP β) : Prop :=
  ∀ W a vs, Good e W → ψ W a vs → ∀ Q : VK, (m a).run W.n (fun n b => ∀ v W2, Gw e W W2 → W2.n = n → ρ.post W W2 b v → Q v W2.H) → f vs W.H Q
abbrev ψ1 {ρ : Rs e α} (_ : Rs e α := ρ) : Wo → α → List V → Prop := fun W a vs => ∃ v, vs = [v] ∧ ρ.post W W a v
theorem ew_cb1 {r : List V → Hp → VK → Prop} {ρ1 : Rs e α} {ρ : Rs e γ} {w1 : WP α} {m : α → WP γ} (h1 : EvW e ta σ W ρ1 w1)
    (hm : ∀ W1 W2 a x, Gw e W1 W2 → ρ1.post W1 W2 a x → ∀ Q : VK, (m a).run W2.n (fun n b => ∀ v W3, Gw e W2 W3 → W3.n = n → ρ.post W2 W3 b v → Q v W3.H) → r [x] W2.H Q) : EvW e (tCB r (tCons ta tNil)) σ W ρ (w1.bind m) := fun W1 g Q q =>
  h1 W1 g _ (w1.mono (fun n a h x W2 g2 hn r1 => by
    subst hn
    exact hm W1 W2 a x g2 r1 Q ((m a).mono (fun n b h v W3 g3 hn r3 => h v W3 (g2.trans g3) hn (ρ.back g2 r3)) h)) q)
theorem ew_cb2 {r : List V → Hp → VK → Prop} {ρ1 : Rs e α} {ρ2 : Rs e β} {ρ : Rs e γ} {w1 : WP α} {w2 : WP β} {m : α → β → WP γ} (h1 : EvW e ta σ W ρ1 w1) (h2 : EvW e tb σ W ρ2 w2)
    (hm : ∀ W1 W2 a b x y, Gw e W1 W2 → ρ1.post W1 W2 a x → ρ2.post W1 W2 b y → ∀ Q : VK, (m a b).run W2.n (fun n b => ∀ v W3, Gw e W2 W3 → W3.n = n → ρ.post W2 W3 b v → Q v W3.H) → r [x, y] W2.H Q) : EvW e (tCB r (tCons ta (tCons tb tNil))) σ W ρ (WP.b2 w1 w2 m) := fun W1 g Q q =>
  h1 W1 g _ (w1.mono (fun n a h x W2 g2 hn r1 => by
    subst hn
    refine h2 W2 (g.trans g2) _ (w2.mono (fun n b h y W3 g3 hn r2 => ?_) h)
    subst hn
    exact hm W1 W3 a b x y (g2.trans g3) (ρ1.stay g3 r1) (ρ2.back g2 r2) Q ((m a b).mono (fun n b h v W4 g4 hn r3 => h v W4 ((g2.trans g3).trans g4) hn (ρ.back (g2.trans g3) r3)) h)) q)
/-! calls: of defs that keep their promise -/
abbrev Sp' := List V → Hp → VK → XK → Prop
theorem ew_call1 {sp : Sp} {E : XK} {ρ1 : Rs e α} {ρ : Rs e γ} {w1 : WP α} {m : α → WP γ} (h1 : EvW e ta σ W ρ1 w1)
    (hm : ∀ W2 a x, Good e W2 → ρ1.post W2 W2 a x → ∀ Q : VK, (m a).run W2.n (fun n b => ∀ v W3, Gw e W2 W3 → W3.n = n → ρ.post W2 W3 b v → Q v W3.H) → ∀ E, sp [x] W2.H Q E) (hnow : ∀ {W1 W2 a x}, ρ1.post W1 W2 a x → ρ1.post W2 W2 a x := by intros; assumption) : EvW e (tCall sp [] E (tCons ta tNil)) σ W ρ (w1.bind m) := fun W1 g Q q =>
  h1 W1 g _ (w1.mono (fun n a h x W2 g2 hn r1 => by
    subst hn
    exact hm W2 a x g2.ok (hnow r1) Q ((m a).mono (fun n b h v W3 g3 hn r3 => h v W3 (g2.trans g3) hn (ρ.back g2 r3)) h) E) q)
theorem ew_call2 {sp : Sp} {E : XK} {ρ1 : Rs e α} {ρ2 : Rs e β} {ρ : Rs e γ} {w1 : WP α} {w2 : WP β} {m : α → β → WP γ} (h1 : EvW e ta σ W ρ1 w1) (h2 : EvW e tb σ W ρ2 w2)
    (hm : ∀ W2 a b x y, Good e W2 → ρ1.post W2 W2 a x → ρ2.post W2 W2 b y → ∀ Q : VK, (m a b).run W2.n (fun n b => ∀ v W3, Gw e W2 W3 → W3.n = n → ρ.post W2 W3 b v → Q v W3.H) → ∀ E, sp [x, y] W2.H Q E)
    (hn1 : ∀ {W1 W2 a x}, ρ1.post W1 W2 a x → ρ1.post W2 W2 a x := by intros; assumption) (hn2 : ∀ {W1 W2 a x}, ρ2.post W1 W2 a x → ρ2.post W2 W2 a x := by intros; assumption) : EvW e (tCall sp [] E (tCons ta (tCons tb tNil))) σ W ρ (WP.b2 w1 w2 m) := fun W1 g Q q =>
  h1 W1 g _ (w1.mono (fun n a h x W2 g2 hn r1 => by
    subst hn
    refine h2 W2 (g.trans g2) _ (w2.mono (fun n b h y W3 g3 hn r2 => ?_) h)
    subst hn
    exact hm W3 a b x y g3.ok (hn1 (ρ1.stay g3 r1)) (hn2 r2) Q ((m a b).mono (fun n b h v W4 g4 hn r3 => h v W4 ((g2.trans g3).trans g4) hn (ρ.back (g2.trans g3) r3)) h) E) q)
theorem ew_call3 {sp : Sp} {E : XK} {ρ1 : Rs e α} {ρ2 : Rs e β} {ρ3 : Rs e δ} {ρ : Rs e γ} {w1 : WP α} {w2 : WP β} {w3 : WP δ} {m : α → β → δ → WP γ} (h1 : EvW e ta σ W ρ1 w1) (h2 : EvW e tb σ W ρ2 w2) (h3 : EvW e tc σ W ρ3 w3)
    (hm : ∀ W2 a b c x y z, Good e W2 → ρ1.post W2 W2 a x → ρ2.post W2 W2 b y → ρ3.post W2 W2 c z → ∀ Q : VK, (m a b c).run W2.n (fun n b => ∀ v W3, Gw e W2 W3 → W3.n = n → ρ.post W2 W3 b v → Q v W3.H) → ∀ E, sp [x, y, z] W2.H Q E)
    (hn1 : ∀ {W1 W2 a x}, ρ1.post W1 W2 a x → ρ1.post W2 W2 a x := by intros; assumption) (hn2 : ∀ {W1 W2 a x}, ρ2.post W1 W2 a x → ρ2.post W2 W2 a x := by intros; assumption) (hn3 : ∀ {W1 W2 a x}, ρ3.post W1 W2 a x → ρ3.post W2 W2 a x := by intros; assumption) :
    EvW e (tCall sp [] E (tCons ta (tCons tb (tCons tc tNil)))) σ W ρ (WP.b3 w1 w2 w3 m) := fun W1 g Q q =>
  h1 W1 g _ (w1.mono (fun n a h x W2 g2 hn r1 => by
    subst hn
    refine h2 W2 (g.trans g2) _ (w2.mono (fun n b h y W3 g3 hn r2 => ?_) h)
    subst hn
    refine h3 W3 ((g.trans g2).trans g3) _ (w3.mono (fun n c h z W4 g4 hn r3 => ?_) h)
    subst hn
    exact hm W4 a b c x y z g4.ok (hn1 (ρ1.stay g4 (ρ1.stay g3 r1))) (hn2 (ρ2.stay g4 r2)) (hn3 r3) Q ((m a b c).mono (fun n b h v W5 g5 hn r5 => h v W5 (((g2.trans g3).trans g4).trans g5) hn (ρ.back ((g2.trans g3).trans g4) r5)) h) E) q)
end
end Y

namespace Y
open PySem PySem.Spec PyProof.Rows L2
theorem sz_le {n : Nat} (h : n ≤ 100000) : n ≤ sizeLine := Nat.le_trans h (by decide)
theorem sz_lt {n : Nat} (h : n < 100000) : n < sizeLine := Nat.lt_of_lt_of_le h (by decide)
/-- items, by total functions -/
def ixD {α : Type} [Inhabited α] (xs : List α) (i : Int) : α := (atI xs i).getD default
def okI (n : Nat) (i : Int) : Prop := -(n : Int) ≤ i ∧ i < n
theorem atI_ok {α : Type} [Inhabited α] {xs : List α} {i : Int} (h : okI xs.length i) : atI xs i = some (ixD xs i) := by
  have : ∃ a, atI xs i = some a := by
    unfold atI ixN
    obtain ⟨h1, h2⟩ := h
    by_cases h0 : 0 ≤ i
    · rw [if_pos h0, if_pos h2]
      have : i.toNat < xs.length := by omega
      exact ⟨xs[i.toNat], by simp [this]⟩
    · rw [if_neg h0, if_pos h1]
      have : (i + xs.length).toNat < xs.length := by omega
      exact ⟨xs[(i + xs.length).toNat], by simp [this]⟩
  obtain ⟨a, ha⟩ := this
  unfold ixD
  rw [ha]; rfl
theorem ixD_nat {α : Type} [Inhabited α] {xs : List α} {i : Nat} (h : i < xs.length) : ixD xs (i : Int) = xs[i] := by
  unfold ixD atI ixN
  rw [if_pos (by omega), if_pos (by omega)]
  simp [h]
theorem atI_pair {α β : Type} {F : α → β → Prop} {xs : List α} {vs : List β} {i : Int} {a : α} (h : Paired F xs vs) (e : atI xs i = some a) : ∃ v, atI vs i = some v ∧ F a v := by
  unfold atI at e ⊢
  rw [← Paired.length h]
  cases q : ixN xs.length i with
  | none => rw [q] at e; cases e
  | some n => rw [q] at e; exact h.getA e
def sgn (z : Str) (i : Int) : Str := ⟨#[ixD z.cps.toList i]⟩
instance : Inhabited Str := ⟨⟨#[]⟩⟩
def cutL {α : Type} (xs : List α) (lo hi : Option Int) : List α := (xs.drop (HT.sIx xs.length 0 lo)).take (HT.sIx xs.length xs.length hi - HT.sIx xs.length 0 lo)
namespace WP
variable {α β γ : Type}
abbrev ix [Inhabited α] (a : WP (List α)) (b : WP Int) : WP α := b2 a b fun xs x => req (okI xs.length x) (ixD xs x)
abbrev ixS (a : WP Str) (b : WP Int) : WP Str := b2 a b fun z x => req (z.length ≤ 100000 ∧ okI z.length x) (sgn z x)
abbrev fst (a : WP (α × β)) : WP α := a.bind fun c => pure c.1
abbrev snd (a : WP (α × β)) : WP β := a.bind fun c => pure c.2
abbrev cat (a b : WP (List α)) : WP (List α) := b2 a b fun xs ys => req (xs.length + ys.length ≤ 100000) (xs ++ ys)
abbrev catS (a b : WP Str) : WP Str := b2 a b fun z w => req (z.length + w.length ≤ 100000) (z ++ w)
abbrev pair (a : WP α) (b : WP β) : WP (α × β) := b2 a b fun x y => pure (x, y)
abbrev tri (a : WP α) (b : WP β) (c : WP γ) : WP (Tri α β γ) := b3 a b c fun x y z => pure ⟨x, y, z⟩
abbrev consE (a : WP α) (b : WP (List α)) : WP (List α) := b2 a b fun x xs => pure (x :: xs)
abbrev row (a : WP (List α)) : WP (List α) := a.bind fun xs => req (xs.length ≤ 100000) xs
abbrev len (a : WP (List α)) : WP Int := a.bind fun xs => pure ((xs.length : Nat) : Int)
abbrev lenS (a : WP Str) : WP Int := a.bind fun z => req (z.length ≤ 100000) ((z.length : Nat) : Int)
abbrev abs (a : WP Int) : WP Int := a.bind fun i => pure (if i < 0 then -i else i)
abbrev min2 (a b : WP Int) : WP Int := b2 a b fun i j => pure (if j < i then j else i)
abbrev max2 (a b : WP Int) : WP Int := b2 a b fun i j => pure (if j > i then j else i)
abbrev sum (a : WP (List Int)) : WP Int := a.bind fun xs => pure xs.sum
abbrev cut (a : WP (List α)) (l h : WP (Option Int)) : WP (List α) := b3 a l h fun xs x y => pure (cutL xs x y)
abbrev cutS' (a : WP Str) (l h : WP (Option Int)) : WP Str := b3 a l h fun z x y => req (z.length ≤ 100000) (cutS z x y)
end WP
section
variable {α β γ δ : Type} {K : PySem.W.Frag} {e : Ef} {σ : L2.St} {W : Wo} {ta tb te tc : TE} {t u : TT} {i j k m n : Nat} {v : V}
theorem ew_ixT [PyI α] [Inhabited α] {w1 : WP (List α)} {w2 : WP Int} (ha : EvW e ta σ W sI w1) (hb : EvW e tb σ W sI w2) : EvW e (tOp (rIxT K) ta tb) σ W sI (WP.ix w1 w2) :=
  ew_op2 ha hb fun W2 xs x _ _ ⟨p, vs, h1, h2, h3⟩ r2 hc Q q => by
    cases r2
    obtain ⟨v, hv, rv⟩ := atI_pair h3 (atI_ok hc)
    exact ⟨p, vs, x, v, h1, rfl, SqT.of h2, hv, q _ _ (Same.refl _) rv⟩
theorem ew_fst [PyI α] [PyI β] {w : WP (α × β)} (ha : EvW e ta σ W sI w) : EvW e (tOp (rIxT K) ta (tC (.int 0))) σ W sI (WP.fst w) := fun W1 g Q q => ha W1 g _ (w.mono (fun n c h v W2 g2 hn ⟨p, x, y, h1, h2, h3, h4⟩ => ⟨p, _, 0, x, h1, rfl, SqT.of h2, rfl, h _ W2 g2 hn h3⟩) q)
theorem ew_snd [PyI α] [PyI β] {w : WP (α × β)} (ha : EvW e ta σ W sI w) : EvW e (tOp (rIxT K) ta (tC (.int 1))) σ W sI (WP.snd w) := fun W1 g Q q => ha W1 g _ (w.mono (fun n c h v W2 g2 hn ⟨p, x, y, h1, h2, h3, h4⟩ => ⟨p, _, 1, y, h1, rfl, SqT.of h2, rfl, h _ W2 g2 hn h4⟩) q)
theorem ew_ixS {w1 : WP Str} {w2 : WP Int} (ha : EvW e ta σ W sI w1) (hb : EvW e tb σ W sI w2) : EvW e (tOp rIxS ta tb) σ W sI (WP.ixS w1 w2) :=
  ew_op2 ha hb fun W2 z x _ _ r1 r2 hc Q q => by
    cases r1; cases r2
    exact ⟨z, x, _, rfl, rfl, sz_le hc.1, atI_ok (xs := z.cps.toList) (by rw [Array.length_toList]; exact hc.2), q _ _ (Same.refl _) rfl⟩
theorem ew_ixL [PyI α] [Inhabited α] {w1 : WP (List α)} {w2 : WP Int} (ha : EvW e ta σ W (sR (kL α)) w1) (hb : EvW e tb σ W sI w2) : EvW e (tOp (rIxL K) ta tb) σ W sI (WP.ix w1 w2) :=
  ew_op ha hb fun W1 W2 xs x _ _ g ⟨fp, ⟨p, vs, _, h1, h2, h3⟩, _⟩ r2 Q q => by
    cases r2
    obtain ⟨v, hv, rv⟩ := atI_pair h3 (atI_ok q.1)
    exact ⟨p, vs, x, v, h1, rfl, SqL.of h2, hv, q.2 _ W2 (Gw.refl g.ok) rfl rv⟩
theorem ew_ixG [PyI α] {w1 : WP (List (List α))} {w2 : WP Int} (ha : EvW e ta σ W (sR (kG α)) w1) (hb : EvW e tb σ W sI w2) : EvW e (tOp (rIxL K) ta tb) σ W (sR (kL α)) (WP.ix w1 w2) :=
  ew_op ha hb fun W1 W2 xs x _ _ g ⟨fp, ⟨p, ps, hf, _, h1, h2, h3⟩, hS⟩ r2 Q q => by
    cases r2
    obtain ⟨a, ha', ⟨vs, ra, rv⟩⟩ := atI_pair h3 (atI_ok q.1)
    have hm : a ∈ ps := by
      unfold atI at ha'
      cases hx : ixN ps.length x with
      | none => rw [hx] at ha'; cases ha'
      | some n => rw [hx] at ha'; exact List.mem_of_getElem? ha'
    have hv : atI (ps.map V.ref) x = some (.ref a) := by
      unfold atI at ha' ⊢
      rw [List.length_map]
      cases hx : ixN ps.length x with
      | none => rw [hx] at ha'; cases ha'
      | some n =>
        rw [hx] at ha'
        show (ps.map V.ref)[n]? = _
        rw [List.getElem?_map]
        have : ps[n]? = some a := ha'
        rw [this]; rfl
    exact ⟨p, _, x, _, h1, rfl, SqL.of h2, hv, q.2 _ W2 (Gw.refl g.ok) rfl ⟨[a], ⟨a, vs, rfl, rfl, ra, rv⟩, fun b m => by cases List.mem_singleton.mp m; exact hS a (by rw [hf]; exact List.mem_cons_of_mem _ hm)⟩⟩
/-- a frozen list may be read -/
theorem ew_ls [PyI α] {w : WP (Ls α)} (h : EvW e te σ W sI w) : EvW e te σ W (sR (kL α)) (w.bind fun x => WP.pure x.l) := fun W1 g Q q => h W1 g _ (w.mono (fun n a hq v W2 g2 hn ⟨p, vs, h1, h2, h3, h4⟩ => hq v W2 g2 hn ⟨[p], ⟨p, vs, rfl, h1, h3, h4⟩, fun b m => by cases List.mem_singleton.mp m; exact (g2.ok.F p h2).1⟩) q)
theorem ew_catS {w1 w2 : WP Str} (ha : EvW e ta σ W sI w1) (hb : EvW e tb σ W sI w2) : EvW e (tOp (fun x y H Q => ∃ i j, x = .str i ∧ y = .str j ∧ i.length + j.length ≤ sizeLine ∧ Q (.str (i ++ j)) H) ta tb) σ W sI (WP.catS w1 w2) :=
  ew_op2 ha hb fun W2 z x _ _ r1 r2 hc Q q => by
    cases r1; cases r2
    exact ⟨z, x, rfl, rfl, sz_le hc, q _ _ (Same.refl _) rfl⟩
/-- t + u of tuples -/
theorem ew_catA [PyI α] {w1 w2 : WP (List α)} (ha : EvW e ta σ W sI w1) (hb : EvW e tb σ W sI w2) : EvW e (tOp (rCatA K) ta tb) σ W sI (WP.cat w1 w2) :=
  ew_op2 ha hb fun W2 xs ys _ _ ⟨p, vs, h1, h2, h3⟩ ⟨p', ws, h1', h2', h3'⟩ hl Q q => by
    refine ⟨p, p', vs, ws, h1, h1', SqT.of h2, SqT.of h2', by rw [← Paired.length h3, ← Paired.length h3']; exact sz_le hl, fun z => ?_, fun _ z => ?_, fun _ _ l hl' => ?_⟩
    · subst z
      cases h3
      exact q _ _ (Same.refl _) ⟨p', ws, rfl, h2', h3'⟩
    · subst z
      cases h3'
      refine q _ _ (Same.refl _) ⟨p, vs, rfl, h2, ?_⟩
      show Rps W2 (xs ++ []) vs
      rw [List.append_nil]; exact h3
    · have s := L2.Same.trans (Same.refl W2.H) (fun b o h => by rw [upd_ne (ne_of h hl')]; exact h : Same W2.H (upd W2.H l (.tup (vs ++ ws))))
      have s2 : St W2 ⟨upd W2.H l (.tup (vs ++ ws)), W2.F, W2.n⟩ := ⟨fun a xs h => s a _ h, fun _ h => h, fun a u _ h => s a u h⟩
      refine q _ _ s ⟨l, _, rfl, upd_same, Paired.appA (Rps.st s2 h3) (Rps.st s2 h3')⟩
/-- a new object at hand -/
theorem Gw.al {e : Ef} {W W2 : Wo} (g : Gw e W W2) {p : Addr} {o : HO} (hp : W2.H p = none) : Gw e W ⟨upd W2.H p o, W2.F, W2.n⟩ := g.trans (Gw.alloc g.ok hp)
theorem new_L [PyI α] {e : Ef} {W1 W2 : Wo} {p : Addr} {xs : List α} {vs : List V} (g : Gw e W1 W2) (hp : W2.H p = none) (r : Rps W2 xs vs) : (sN (e := e) (kL α)).post W1 ⟨upd W2.H p (.lst vs), W2.F, W2.n⟩ xs (.ref p) :=
  ⟨[p], ⟨p, vs, rfl, rfl, upd_same, Rps.st (Gw.alloc (o := .lst vs) g.ok hp).st r⟩, fun a m => by
    cases List.mem_singleton.mp m
    exact ⟨g.live p hp, fun s => g.ok.S p s hp, fun f => (g.ok.F p f).2 hp⟩⟩
/-- a + b of lists -/
theorem ew_cat [PyI α] {w1 w2 : WP (List α)} (ha : EvW e ta σ W (sR (kL α)) w1) (hb : EvW e tb σ W (sR (kL α)) w2) : EvW e (tOp rCat ta tb) σ W (sN (kL α)) (WP.cat w1 w2) :=
  ew_op ha hb fun W1 W2 xs ys _ _ g ⟨_, ⟨p1, vs, _, h1, h2, h3⟩, _⟩ ⟨_, ⟨p2, ws, _, q1, q2, q3⟩, _⟩ Q q => by
    subst h1; subst q1
    refine ⟨p1, p2, vs, ws, rfl, rfl, h2, q2, by rw [← Paired.length h3, ← Paired.length q3]; exact sz_le q.1, fun p hp => q.2 _ _ (Gw.alloc g.ok hp) rfl (new_L (Gw.refl g.ok) hp (Paired.appA h3 q3))⟩
/-- bounds of slices -/
def EvO (e : Ef) (to : TO) (σ : L2.St) (W : Wo) (w : WP (Option Int)) : Prop := ∀ W1, Gw e W W1 → ∀ Q : Option Int → Hp → Prop, w.run W1.n (fun n o => ∀ W2, Gw e W1 W2 → W2.n = n → Q o W2.H) → to σ W1.H Q
theorem eo_none : EvO e tNoPart σ W (WP.pure none) := fun W1 g Q q => q W1 (Gw.refl g.ok) rfl
theorem eo_some {w : WP Int} (h : EvW e te σ W sI w) : EvO e (tPart te) σ W (w.bind fun x => WP.pure (some x)) := fun W1 g Q q => h W1 g _ (w.mono (fun n x hq v W2 g2 hn r => by
  cases r
  exact ⟨x, rfl, hq W2 g2 hn⟩) q)
theorem ew_slA [PyI α] {w : WP (List α)} {wl wh : WP (Option Int)} {tl th : TO} (ha : EvW e ta σ W sI w) (h1 : EvO e tl σ W wl) (h2 : EvO e th σ W wh) : EvW e (tSl (rSlA K) ta tl th) σ W sI (WP.cut w wl wh) := fun W1 g Q q =>
  ha W1 g _ (w.mono (fun n xs hq v W2 g2 hn r => by
    subst hn
    refine h1 W2 (g.trans g2) _ (wl.mono (fun n lo hq W3 g3 hn => ?_) hq)
    subst hn
    refine h2 W3 ((g.trans g2).trans g3) _ (wh.mono (fun n hi hq W4 g4 hn => ?_) hq)
    subst hn
    obtain ⟨p, vs, e1, e2, e3⟩ := PyI.st (g3.trans g4).st r
    have gg := (g2.trans g3).trans g4
    have el := Paired.length e3
    refine ⟨p, vs, e1, SqT.of e2, fun ⟨z1, z2⟩ => ?_, fun _ q' hq' => ?_⟩
    · subst e1
      refine hq _ W4 gg rfl ⟨p, vs, rfl, e2, ?_⟩
      have : cutL xs lo hi = xs := by
        unfold cutL
        rw [el, z1, z2, Nat.sub_zero, List.drop_zero, ← el, List.take_length]
      rw [this]; exact e3
    · refine hq _ _ (gg.al hq') rfl ⟨q', _, rfl, upd_same, ?_⟩
      have := Rps.st (Gw.alloc (o := .tup (cutV vs lo hi)) gg.ok hq').st ((e3.dropA (HT.sIx vs.length 0 lo)).takeA (HT.sIx vs.length vs.length hi - HT.sIx vs.length 0 lo))
      unfold cutL
      rw [el]
      exact this) q)
theorem ew_slS {w : WP Str} {wl wh : WP (Option Int)} {tl th : TO} (ha : EvW e ta σ W sI w) (h1 : EvO e tl σ W wl) (h2 : EvO e th σ W wh) : EvW e (tSl rSlS ta tl th) σ W sI (WP.cutS' w wl wh) := fun W1 g Q q =>
  ha W1 g _ (w.mono (fun n xs hq v W2 g2 hn r => by
    subst hn
    refine h1 W2 (g.trans g2) _ (wl.mono (fun n lo hq W3 g3 hn => ?_) hq)
    subst hn
    refine h2 W3 ((g.trans g2).trans g3) _ (wh.mono (fun n hi hq W4 g4 hn => ?_) hq)
    cases r
    exact ⟨xs, rfl, sz_le hq.1, hq.2 _ W4 ((g2.trans g3).trans g4) hn rfl⟩) q)
theorem ew_slL [PyI α] {w : WP (List α)} {wl wh : WP (Option Int)} {tl th : TO} (ha : EvW e ta σ W (sR (kL α)) w) (h1 : EvO e tl σ W wl) (h2 : EvO e th σ W wh) : EvW e (tSl (rSlL K) ta tl th) σ W (sN (kL α)) (WP.cut w wl wh) := fun W1 g Q q =>
  ha W1 g _ (w.mono (fun n xs hq v W2 g2 hn r => by
    subst hn
    refine h1 W2 (g.trans g2) _ (wl.mono (fun n lo hq W3 g3 hn => ?_) hq)
    subst hn
    refine h2 W3 ((g.trans g2).trans g3) _ (wh.mono (fun n hi hq W4 g4 hn => ?_) hq)
    subst hn
    obtain ⟨fp, ⟨p, vs, _, e1, e2, e3⟩, _⟩ := (sR (kL α)).stay (g3.trans g4) r
    have gg := (g2.trans g3).trans g4
    have el := Paired.length e3
    refine ⟨p, vs, e1, SqL.of e2, fun q' hq' => hq _ _ (gg.al hq') rfl ?_⟩
    have := new_L gg hq' ((e3.dropA (HT.sIx vs.length 0 lo)).takeA (HT.sIx vs.length vs.length hi - HT.sIx vs.length 0 lo))
    unfold cutL
    rw [el]
    exact this) q)
/-- displays -/
theorem ew_pair [PyI α] [PyI β] {w1 : WP α} {w2 : WP β} (ha : EvW e ta σ W sI w1) (hb : EvW e tb σ W sI w2) : EvW e (tTup (tCons ta (tCons tb tNil))) σ W sI (WP.pair w1 w2) := fun W1 g Q q =>
  ea2 ha hb W1 g _ (WP.mono _ (fun n c h vs W2 g2 hn ⟨v, w, hv, r1, r2⟩ => by
    subst hv
    exact ⟨sz_le (n := 2) (by decide), fun p hp => h _ _ (g2.al hp) hn ⟨p, v, w, rfl, upd_same, PyI.st (Gw.alloc g2.ok hp).st r1, PyI.st (Gw.alloc g2.ok hp).st r2⟩⟩) q)
theorem ew_tri [PyI α] [PyI β] [PyI γ] {w1 : WP α} {w2 : WP β} {w3 : WP γ} (ha : EvW e ta σ W sI w1) (hb : EvW e tb σ W sI w2) (hc : EvW e tc σ W sI w3) : EvW e (tTup (tCons ta (tCons tb (tCons tc tNil)))) σ W sI (WP.tri w1 w2 w3) := fun W1 g Q q =>
  ha W1 g _ (w1.mono (fun n a h x W2 g2 hn r1 => by
    subst hn
    refine hb W2 (g.trans g2) _ (w2.mono (fun n b h y W3 g3 hn r2 => ?_) h)
    subst hn
    refine hc W3 ((g.trans g2).trans g3) _ (w3.mono (fun n c h z W4 g4 hn r3 => ?_) h)
    refine ⟨sz_le (n := 3) (by decide), fun p hp => ?_⟩
    have s := (Gw.alloc (o := .tup [x, y, z]) g4.ok hp).st
    exact h _ _ (((g2.trans g3).trans g4).al hp) hn ⟨p, x, y, z, rfl, upd_same, PyI.st ((g3.trans g4).st.trans s) r1, PyI.st (g4.st.trans s) r2, PyI.st s r3⟩) q)
def EAs [PyI α] (e : Ef) (ta : TA) (σ : L2.St) (W : Wo) (w : WP (List α)) : Prop := EvA e ta σ W (fun _ W2 xs vs => Rps W2 xs vs) w
theorem eas_nil [PyI α] : EAs e tNil σ W (WP.pure ([] : List α)) := fun W1 g Q q => q [] W1 (Gw.refl g.ok) rfl .nil
theorem eas_cons [PyI α] {w : WP α} {wr : WP (List α)} {tr : TA} (h : EvW e te σ W sI w) (hr : EAs e tr σ W wr) : EAs e (tCons te tr) σ W (WP.consE w wr) := fun W1 g Q q =>
  h W1 g _ (w.mono (fun n a h v W2 g2 hn r => by
    subst hn
    exact hr W2 (g.trans g2) _ (wr.mono (fun n xs h vs W3 g3 hn r3 => h _ W3 (g2.trans g3) hn (.cons (PyI.st g3.st r) r3)) h)) q)
theorem ew_lst [PyI α] {w : WP (List α)} {tr : TA} (h : EAs e tr σ W w) : EvW e (tLst tr) σ W (sN (kL α)) (WP.row w) := fun W1 g Q q =>
  h W1 g _ (w.mono (fun n xs h vs W2 g2 hn r => ⟨by rw [← Paired.length r]; exact sz_le h.1, fun p hp => h.2 _ _ (g2.al hp) hn (new_L g2 hp r)⟩) q)
theorem ew_tup [PyI α] {w : WP (List α)} {tr : TA} (h : EAs e tr σ W w) : EvW e (tTup tr) σ W sI (WP.row w) := fun W1 g Q q =>
  h W1 g _ (w.mono (fun n xs h vs W2 g2 hn r => ⟨by rw [← Paired.length r]; exact sz_le h.1, fun p hp => h.2 _ _ (g2.al hp) hn ⟨p, vs, rfl, upd_same, Rps.st (Gw.alloc g2.ok hp).st r⟩⟩) q)
/-- things built in -/
abbrev rLenS (K : PySem.W.Frag) : List V → Hp → VK → Prop := fun xs H Q => ∃ p ys, xs = [.ref p] ∧ (SqL K H p ys ∨ SqT K H p ys) ∧ Q (.int ys.length) H
theorem ew_lenT [PyI α] {w : WP (List α)} (ha : EvW e ta σ W sI w) : EvW e (tCB (rLenS K) (tCons ta tNil)) σ W sI (WP.len w) := ew_cb1 ha fun W1 W2 xs x g ⟨p, vs, h1, h2, h3⟩ Q q => by
  subst h1
  exact ⟨p, vs, rfl, .inr (SqT.of h2), q _ W2 (Gw.refl g.ok) rfl (by rw [← Paired.length h3]; exact rfl)⟩
theorem ew_lenL [PyI α] {w : WP (List α)} (ha : EvW e ta σ W (sR (kL α)) w) : EvW e (tCB (rLenS K) (tCons ta tNil)) σ W sI (WP.len w) := ew_cb1 ha fun W1 W2 xs x g ⟨_, ⟨p, vs, _, h1, h2, h3⟩, _⟩ Q q => by
  subst h1
  exact ⟨p, vs, rfl, .inl (SqL.of h2), q _ W2 (Gw.refl g.ok) rfl (by rw [← Paired.length h3]; exact rfl)⟩
theorem ew_lenG [PyI α] {w : WP (List (List α))} (ha : EvW e ta σ W (sR (kG α)) w) : EvW e (tCB (rLenS K) (tCons ta tNil)) σ W sI (WP.len w) := ew_cb1 ha fun W1 W2 xs x g ⟨_, ⟨p, ps, _, _, h1, h2, h3⟩, _⟩ Q q => by
  subst h1
  exact ⟨p, _, rfl, .inl (SqL.of h2), q _ W2 (Gw.refl g.ok) rfl (by rw [List.length_map, ← Paired.length h3]; exact rfl)⟩
abbrev rLenZ : List V → Hp → VK → Prop := fun xs H Q => ∃ z, xs = [.str z] ∧ z.length ≤ sizeLine ∧ Q (.int z.length) H
theorem ew_lenS {w : WP Str} (ha : EvW e ta σ W sI w) : EvW e (tCB rLenZ (tCons ta tNil)) σ W sI (WP.lenS w) := ew_cb1 ha fun W1 W2 z x g r Q q => by
  cases r
  exact ⟨z, rfl, sz_le q.1, q.2 _ W2 (Gw.refl g.ok) rfl rfl⟩
abbrev rAbs : List V → Hp → VK → Prop := fun xs H Q => ∃ i, xs = [.int i] ∧ Q (.int (if i < 0 then -i else i)) H
theorem ew_abs {w : WP Int} (ha : EvW e ta σ W sI w) : EvW e (tCB rAbs (tCons ta tNil)) σ W sI (WP.abs w) := ew_cb1 ha fun W1 W2 z x g r Q q => by
  cases r
  exact ⟨z, rfl, q _ W2 (Gw.refl g.ok) rfl rfl⟩
abbrev rInt1 : List V → Hp → VK → Prop := fun xs H Q => (∃ i, xs = [.int i] ∧ Q (.int i) H) ∨ ∃ k, xs = [.bl k] ∧ Q (.int (if k then 1 else 0)) H
theorem ew_int1 {w : WP Int} (ha : EvW e ta σ W sI w) : EvW e (tCB rInt1 (tCons ta tNil)) σ W sI (w.bind WP.pure) := ew_cb1 ha fun W1 W2 z x g r Q q => by
  cases r
  exact .inl ⟨z, rfl, q _ W2 (Gw.refl g.ok) rfl rfl⟩
abbrev rMin2 : List V → Hp → VK → Prop := fun xs H Q => ∃ i j, xs = [.int i, .int j] ∧ Q (.int (if j < i then j else i)) H
theorem ew_min2 {w1 w2 : WP Int} (ha : EvW e ta σ W sI w1) (hb : EvW e tb σ W sI w2) : EvW e (tCB rMin2 (tCons ta (tCons tb tNil))) σ W sI (WP.min2 w1 w2) := ew_cb2 ha hb fun W1 W2 a b x y g r1 r2 Q q => by
  cases r1; cases r2
  exact ⟨a, b, rfl, q _ W2 (Gw.refl g.ok) rfl rfl⟩
abbrev rMax2 : List V → Hp → VK → Prop := fun xs H Q => ∃ i j, xs = [.int i, .int j] ∧ Q (.int (if j > i then j else i)) H
theorem ew_max2 {w1 w2 : WP Int} (ha : EvW e ta σ W sI w1) (hb : EvW e tb σ W sI w2) : EvW e (tCB rMax2 (tCons ta (tCons tb tNil))) σ W sI (WP.max2 w1 w2) := ew_cb2 ha hb fun W1 W2 a b x y g r1 r2 Q q => by
  cases r1; cases r2
  exact ⟨a, b, rfl, q _ W2 (Gw.refl g.ok) rfl rfl⟩
theorem ew_sum {w : WP (List Int)} (ha : EvW e ta σ W (sR (kL Int)) w) : EvW e (tCB (rSum K) (tCons ta tNil)) σ W sI (WP.sum w) := ew_cb1 ha fun W1 W2 xs x g ⟨_, ⟨p, vs, _, h1, h2, h3⟩, _⟩ Q q => by
  subst h1
  cases rps_ints h3
  exact ⟨p, xs, rfl, SqL.of h2, q _ W2 (Gw.refl g.ok) rfl rfl⟩
abbrev rTupOf (K : PySem.W.Frag) : List V → Hp → VK → Prop := fun xs H Q => ∃ p ys, xs = [.ref p] ∧ ((SqL K H p ys ∧ ∀ l, H l = none → Q (.ref l) (upd H l (.tup ys))) ∨ (SqT K H p ys ∧ Q (.ref p) H))
theorem ew_tuple [PyI α] {w : WP (List α)} (h : EvW e te σ W (sR (kL α)) w) : EvW e (tCB (rTupOf K) (tCons te tNil)) σ W sI (w.bind fun xs => WP.pure (α := List α) xs) := ew_cb1 h fun W1 W2 xs x g ⟨_, ⟨p, vs, _, h1, h2, h3⟩, _⟩ Q q => by
  subst h1
  exact ⟨p, vs, rfl, .inl ⟨SqL.of h2, fun l hl => q _ _ (Gw.alloc g.ok hl) rfl ⟨l, vs, rfl, upd_same, Rps.st (Gw.alloc g.ok hl).st h3⟩⟩⟩
end
end Y

namespace Y
open PySem PySem.Spec PyProof.Rows L2
/-- a def of the module that keeps its promise -/
def Has (P : Program) (w : World) (K : PySem.W.Frag) (mg : Str → Option Value) (base : Heap) (x : Str) (k : Nat) (ps : List Str) (sp : Sp) : Prop :=
  ∃ f fd, mg x = some (.ref f) ∧ PySem.W.keepIn K (.ref f) = true ∧ Binds K fd ps [] ∧ FnOk P w K mg base CX0 k f fd ps sp
/-- a def as the top left it -/
def At (K : PySem.W.Frag) (mg : Str → Option Value) (x : Str) (st : Stmt) (ps : List Str) : Prop :=
  ∃ f fd, mg x = some (.ref f) ∧ Fun K x x st f fd ∧ Binds K fd ps []
section
variable {X : Cx}
theorem pe_user {x : Str} {k : Nat} {ps : List Str} {sp : Sp} {a : Expr} {es : List Expr} {t : TA} {p pos : Pos} (h : Has X.prog X.w X.K X.mg X.base x k ps sp) (hr : Room k X.A) (hg : Gl X x) (ha : PA X (a :: es) t)
    (hdb : (x == ("__debug__" : Str)) = false := by decide) (he : starEach (a :: es) X.env = (false, eval a X.env) :: starEach es X.env := by rfl) (hpl : (backTo pos (starEach es X.env)).any (·.1) = false := by rfl) :
    PE X (.Call (.Name x p) (a :: es) [] pos) (tCall sp [] E0 t) := by
  obtain ⟨f, fd, hm, hk, hb, hF⟩ := h
  exact pe_call hF hr hg hm hk hb .nil pass0 ha hdb he hpl
end
theorem Has.of {P : Program} {w : World} {K : PySem.W.Frag} {mg : Str → Option Value} {base : Heap} {x : Str} {st : Stmt} {N ps : List Str} {k : Nat} {sp : Sp} (F : At K mg x st ps) (S : FnScope N ps (defScope st)) (len : ∀ vs H Q E, sp vs H Q E → vs.length = ps.length)
    (hbody : ∀ (f : Addr) (cdv : Value) (A : Around) (outer : List Env) (s : Shared) (H : Hp) (vs : List V) (Q : VK) (E : XK), Room k (A.deeper (envOfC x (defScope st) s.heap.objs.size f cdv)) → sp vs H Q E →
      ∃ t, PSs (cxOf CX0 P w K mg base N x (defScope st) f cdv A outer s H E).nox (defBody st) t ∧ t { nx := fun _ H' => Q .non H', rt := Q } (start N vs) H) : Has P w K mg base x (k + 1) ps sp := by
  obtain ⟨f, fd, hm, hF, hb⟩ := F
  exact ⟨f, fd, hm, hF.kp, hb, hF.ok S len fun cdv A outer s H vs Q E => hbody f cdv A outer s H vs Q E⟩
/-! ### models of loops -/
/-- contents kept -/
def Kp (fp : List Addr) (W W' : Wo) : Prop := ∀ a ∈ fp, ∀ o, W.H a = some o → W'.H a = some o
theorem Kp.refl {fp : List Addr} {W : Wo} : Kp fp W W := fun _ _ _ h => h
theorem Kp.trans {fp : List Addr} {W W1 W2 : Wo} (a : Kp fp W W1) (b : Kp fp W1 W2) : Kp fp W W2 := fun x m o h => b x m o (a x m o h)
theorem Kp.gw {e : Ef} {fp : List Addr} {W W' : Wo} (g : Gw e W W') (hS : ∀ a ∈ fp, ¬ e.S a) : Kp fp W W' := fun a m o h => g.keep a o h (hS a m)
theorem Kp.upd {fp : List Addr} {W W' : Wo} {l : Addr} {u : HO} (h : Kp fp W W') (hl : ∀ a ∈ fp, a ≠ l) : Kp fp W ⟨upd W'.H l u, W'.F, W'.n⟩ := fun a m o q => by
  show (L2.upd W'.H l u) a = _
  rw [upd_ne (hl a m)]; exact h a m o q
def rangeL (lo hi : Int) : List Int := (List.range (hi - lo).toNat).map fun i : Nat => lo + (i : Int)
theorem rangeL_get {lo hi : Int} {i : Nat} (h : i < (hi - lo).toNat) : (rangeL lo hi)[i]? = some (lo + (i : Int)) := by
  unfold rangeL
  rw [List.getElem?_map, List.getElem?_range h]; rfl
theorem rangeL_len {lo hi : Int} : (rangeL lo hi).length = (hi - lo).toNat := by unfold rangeL; rw [List.length_map, List.length_range]
theorem mem_rangeL {lo hi x : Int} (h : x ∈ rangeL lo hi) : lo ≤ x ∧ x < hi := by
  unfold rangeL at h
  rw [List.mem_map] at h
  obtain ⟨i, hi, e⟩ := h
  rw [List.mem_range] at hi
  omega
namespace WP
variable {α β γ s ρ : Type}
/-- what follows a loop -/
def after (w : WP (Ctl s γ)) (f : s → WP ρ) (r : γ → WP ρ) : WP ρ := w.bind fun c => match c with | .nx y => f y | .bk y => f y | .rt x => r x
def range1 (w : WP Int) : WP (List Int) := w.bind fun n => req (-100000000 ≤ n ∧ n ≤ 100000000) (rangeL 0 n)
def range2 (a b : WP Int) : WP (List Int) := b2 a b fun x y => req (-100000000 ≤ x ∧ x ≤ 100000000 ∧ -100000000 ≤ y ∧ y ≤ 100000000) (rangeL x y)
def comp (c : α → WP Bool) (f : α → WP β) : List α → WP (List β)
  | [] => pure []
  | a :: as => (c a).bind fun b => cond b ((f a).bind fun y => (comp c f as).bind fun ys => pure (y :: ys)) (comp c f as)
theorem run_after {w : WP (Ctl s γ)} {f : s → WP ρ} {r : γ → WP ρ} {n : Nat} {Q : Nat → ρ → Prop} : (after w f r).run n Q = w.run n fun m c => (match c with | .nx y => f y | .bk y => f y | .rt x => r x).run m Q := rfl
end WP
/-! ### statements -/
section
variable {α β γ δ s ρ' : Type} {K : PySem.W.Frag} {e : Ef} {σ : L2.St} {W : Wo} {ta tb te tc tl : TE} {t u : TT} {i j k m n : Nat} {v : V} {D : Ends} {tu tw tz : TS} {ρ : Rs e α} {w : WP α} {R : Nat → β → Prop}
theorem st_asg {f : α → WP β} (h : EvW e te σ W ρ w) (g : Good e W) (hm : (w.bind f).run W.n R) (q : ∀ a v W1, Gw e W W1 → ρ.post W W1 a v → (f a).run W1.n R → D.nx (σ.set i (some v)) W1.H) : tAsg te (gName i) D σ W.H :=
  h W (Gw.refl g) _ (w.mono (fun n a r v W1 g1 hn p => q a v W1 g1 p (hn ▸ r)) hm)
theorem q_asg {f : α → WP β} (h : EvW e te σ W ρ w) (g : Good e W) (hm : (w.bind f).run W.n R) (q : ∀ a v W1, Gw e W W1 → ρ.post W W1 a v → (f a).run W1.n R → tz D (σ.set i (some v)) W1.H) : tSeq (tAsg te (gName i)) tz D σ W.H := st_asg (D := { D with nx := tz D }) h g hm q
theorem st_drop {f : α → WP β} (h : EvW e te σ W ρ w) (g : Good e W) (hm : (w.bind f).run W.n R) (q : ∀ a v W1, Gw e W W1 → ρ.post W W1 a v → (f a).run W1.n R → D.nx σ W1.H) : tDrop te D σ W.H :=
  h W (Gw.refl g) _ (w.mono (fun n a r v W1 g1 hn p => q a v W1 g1 p (hn ▸ r)) hm)
theorem q_drop {f : α → WP β} (h : EvW e te σ W ρ w) (g : Good e W) (hm : (w.bind f).run W.n R) (q : ∀ a v W1, Gw e W W1 → ρ.post W W1 a v → (f a).run W1.n R → tz D σ W1.H) : tSeq (tDrop te) tz D σ W.H := st_drop (D := { D with nx := tz D }) h g hm q
/-- return e -/
theorem st_ret {f : α → WP β} (h : EvW e te σ W ρ w) (g : Good e W) (hm : (w.bind f).run W.n R) (q : ∀ a v W1, Gw e W W1 → ρ.post W W1 a v → (f a).run W1.n R → D.rt v W1.H) : tRet te D σ W.H :=
  h W (Gw.refl g) _ (w.mono (fun n a r v W1 g1 hn p => q a v W1 g1 p (hn ▸ r)) hm)
/-- a, b = e -/
theorem st_un2 [PyI α] [PyI γ] {w : WP (α × γ)} {f : α × γ → WP β} (h : EvW e te σ W sI w) (g : Good e W) (hm : (w.bind f).run W.n R) (q : ∀ c x y W1, Gw e W W1 → Rp W1 (Prod.fst c) x → Rp W1 (Prod.snd c) y → (f c).run W1.n R → D.nx ((σ.set i (some x)).set j (some y)) W1.H) :
    tAsg te (gTup K 2 (gCons (gName i) (gCons (gName j) gNil))) D σ W.H :=
  h W (Gw.refl g) _ (w.mono (fun n c r v W1 g1 hn ⟨p, x, y, h1, h2, h3, h4⟩ => ⟨p, [x, y], h1, SqT.of h2, rfl, x, [y], rfl, y, [], rfl, rfl, q c x y W1 g1 h3 h4 (hn ▸ r)⟩) hm)
theorem q_un2 [PyI α] [PyI γ] {w : WP (α × γ)} {f : α × γ → WP β} (h : EvW e te σ W sI w) (g : Good e W) (hm : (w.bind f).run W.n R) (q : ∀ c x y W1, Gw e W W1 → Rp W1 (Prod.fst c) x → Rp W1 (Prod.snd c) y → (f c).run W1.n R → tz D ((σ.set i (some x)).set j (some y)) W1.H) :
    tSeq (tAsg te (gTup K 2 (gCons (gName i) (gCons (gName j) gNil)))) tz D σ W.H := st_un2 (D := { D with nx := tz D }) h g hm q
/-- if, each branch its own model -/
theorem st_if {c : WP Bool} {A B : WP β} (h : EvT e t σ W c) (g : Good e W) (hm : (c.bind fun b => WP.cond b A B).run W.n R) (h1 : ∀ W1, Gw e W W1 → A.run W1.n R → tu D σ W1.H) (h2 : ∀ W1, Gw e W W1 → B.run W1.n R → tw D σ W1.H) : tIfS t tu tw D σ W.H :=
  h W (Gw.refl g) _ (c.mono (fun n b r W1 g1 hn => by
    subst hn
    cases b with
    | true => exact h1 W1 g1 r
    | false => exact h2 W1 g1 r) hm)
theorem q_if {c : WP Bool} {A B : WP β} (h : EvT e t σ W c) (g : Good e W) (hm : (c.bind fun b => WP.cond b A B).run W.n R) (h1 : ∀ W1, Gw e W W1 → A.run W1.n R → tu { D with nx := tz D } σ W1.H) (h2 : ∀ W1, Gw e W W1 → B.run W1.n R → tw { D with nx := tz D } σ W1.H) : tSeq (tIfS t tu tw) tz D σ W.H := st_if (D := { D with nx := tz D }) h g hm h1 h2
/-- if, the branches joined -/
theorem st_join {c : WP Bool} {A B : WP s} {f : s → WP β} (INV : s → L2.St → Wo → Prop) (h : EvT e t σ W c) (g : Good e W) (hm : ((c.bind fun b => WP.cond b A B).bind f).run W.n R) (after : ∀ y σ' W', INV y σ' W' → (f y).run W'.n R → D.nx σ' W'.H)
    (h1 : ∀ W1 R', Gw e W W1 → A.run W1.n R' → (∀ y σ' W', INV y σ' W' → R' W'.n y → D.nx σ' W'.H) → tu D σ W1.H) (h2 : ∀ W1 R', Gw e W W1 → B.run W1.n R' → (∀ y σ' W', INV y σ' W' → R' W'.n y → D.nx σ' W'.H) → tw D σ W1.H) : tIfS t tu tw D σ W.H :=
  h W (Gw.refl g) _ (c.mono (fun n b r W1 g1 hn => by
    subst hn
    cases b with
    | true => exact h1 W1 _ g1 r after
    | false => exact h2 W1 _ g1 r after) hm)
theorem q_join {c : WP Bool} {A B : WP s} {f : s → WP β} (INV : s → L2.St → Wo → Prop) (h : EvT e t σ W c) (g : Good e W) (hm : ((c.bind fun b => WP.cond b A B).bind f).run W.n R) (after : ∀ y σ' W', INV y σ' W' → (f y).run W'.n R → tz D σ' W'.H)
    (h1 : ∀ W1 R', Gw e W W1 → A.run W1.n R' → (∀ y σ' W', INV y σ' W' → R' W'.n y → tz D σ' W'.H) → tu { D with nx := tz D } σ W1.H) (h2 : ∀ W1 R', Gw e W W1 → B.run W1.n R' → (∀ y σ' W', INV y σ' W' → R' W'.n y → tz D σ' W'.H) → tw { D with nx := tz D } σ W1.H) : tSeq (tIfS t tu tw) tz D σ W.H :=
  st_join (D := { D with nx := tz D }) INV h g hm after h1 h2
theorem st_next (h : D.nx σ W.H) : tNext D σ W.H := h
/-- x += e -/
theorem st_aug {h0 : Int → Int → Int} {a0 : Int} {v0 : V} {w : WP Int} {f : Int → WP β} (hx : σ[i]? = some (some v0)) (r0 : Rp W a0 v0) (h : EvW e te σ W sI w) (g : Good e W) (hm : ((w.bind fun b => WP.pure (h0 a0 b)).bind f).run W.n R) (q : ∀ a v W1, Gw e W W1 → Rp W1 a v → (f a).run W1.n R → D.nx (σ.set i (some v)) W1.H) : tAug i te (ipI h0) D σ W.H :=
  ⟨v0, hx, h W (Gw.refl g) _ (w.mono (fun n b r y W1 g1 hn p => by
    cases p; cases r0
    exact ⟨a0, b, rfl, rfl, q _ _ W1 g1 rfl (hn ▸ r)⟩) hm)⟩
theorem q_aug {h0 : Int → Int → Int} {a0 : Int} {v0 : V} {w : WP Int} {f : Int → WP β} (hx : σ[i]? = some (some v0)) (r0 : Rp W a0 v0) (h : EvW e te σ W sI w) (g : Good e W) (hm : ((w.bind fun b => WP.pure (h0 a0 b)).bind f).run W.n R) (q : ∀ a v W1, Gw e W W1 → Rp W1 a v → (f a).run W1.n R → tz D (σ.set i (some v)) W1.H) : tSeq (tAug i te (ipI h0)) tz D σ W.H :=
  st_aug (D := { D with nx := tz D }) hx r0 h g hm q
/-! changes of what is our own -/
/-- the world behind a change of the object at l -/
def Wo.set (W : Wo) (l : Addr) (u : HO) : Wo := ⟨upd W.H l u, W.F, W.n⟩
/-- xs.append(e) -/
theorem st_app [PyI α] {W0 : Wo} {fp : List Addr} {xs : List α} {vx : V} {iv : Nat} {w : WP α} {f : List α → WP β} (g00 : Good e W0) (g0 : Gw e W0 W) (hv : σ[iv]? = some (some vx)) (ho : Var (kL α) W0 W fp xs vx) (h : EvW e te σ W sI w)
    (hm : ((w.bind fun a => WP.req (xs.length < 100000) (xs ++ [a])).bind f).run W.n R)
    (q : ∀ ys W1 W2 l, fp = [l] → Gw e W W1 → St W1 W2 → Gw e W0 W2 → (∀ fp' W9, Kp fp' W9 W1 → (∀ b ∈ fp', b ∉ fp) → Kp fp' W9 W2) → (∀ b, W2.F b → W1.F b) → Var (kL α) W0 W2 fp ys vx → (f ys).run W2.n R → D.nx σ W2.H) : tDrop (tBM K "list" rAppend (tVar iv) (tCons te tNil)) D σ W.H := by
  obtain ⟨⟨l, vs, h1, h2, h3, h4⟩, fr, nF⟩ := ho
  subst h1; subst h2
  have m0 : l ∈ [l] := List.mem_singleton.mpr rfl
  refine ⟨_, hv, .inl ⟨rfl, vs, SqL.of h3⟩, h W (Gw.refl g0.ok) _ (w.mono (fun n a r y W1 g1 hn p => ?_) hm)⟩
  subst hn
  have hl1 : W1.H l = some (.lst vs) := g1.keep _ _ h3 fun s => g00.S l s (fr l m0)
  have hF1 : ¬ W1.F l := fun f => (g1.new l f).elim (nF l m0) (some_ne h3)
  have s12 := St.mut (u := .lst (vs ++ [y])) hl1 (fun _ z => by cases z) hF1
  refine ⟨l, vs, y, rfl, rfl, hl1, by rw [← Paired.length h4]; exact sz_lt r.1, ?_⟩
  refine q (xs ++ [a]) W1 (W1.set l (.lst (vs ++ [y]))) l rfl g1 s12 (Gw.mut g00 (g0.trans g1) (fr l m0) hl1 (fun _ z => by cases z) hF1) (fun fp' W9 k d => k.upd fun b m z => d b m (by rw [z]; exact m0)) (fun _ f => f) ⟨⟨l, _, rfl, rfl, upd_same, ?_⟩, fr, fun b m => by cases List.mem_singleton.mp m; exact hF1⟩ r.2
  exact Paired.snoc (Rps.st (g1.st.trans s12) h4) (PyI.st s12 p)
theorem q_app [PyI α] {W0 : Wo} {fp : List Addr} {xs : List α} {vx : V} {iv : Nat} {w : WP α} {f : List α → WP β} (g00 : Good e W0) (g0 : Gw e W0 W) (hv : σ[iv]? = some (some vx)) (ho : Var (kL α) W0 W fp xs vx) (h : EvW e te σ W sI w)
    (hm : ((w.bind fun a => WP.req (xs.length < 100000) (xs ++ [a])).bind f).run W.n R)
    (q : ∀ ys W1 W2 l, fp = [l] → Gw e W W1 → St W1 W2 → Gw e W0 W2 → (∀ fp' W9, Kp fp' W9 W1 → (∀ b ∈ fp', b ∉ fp) → Kp fp' W9 W2) → (∀ b, W2.F b → W1.F b) → Var (kL α) W0 W2 fp ys vx → (f ys).run W2.n R → tz D σ W2.H) : tSeq (tDrop (tBM K "list" rAppend (tVar iv) (tCons te tNil))) tz D σ W.H :=
  st_app (D := { D with nx := tz D }) g00 g0 hv ho h hm q
/-- another thing of our own stays -/
theorem Var.kept {κ : Type} {kd : Kd κ} {W0 W1 W2 : Wo} {fp fq : List Addr} {x : κ} (h : Var kd W0 W1 fq x v) (s : St W1 W2) (k : ∀ fp' W9, Kp fp' W9 W1 → (∀ b ∈ fp', b ∉ fp) → Kp fp' W9 W2) (f : ∀ b, W2.F b → W1.F b) (d : ∀ b ∈ fq, b ∉ fp) : Var kd W0 W2 fq x v :=
  ⟨kd.st s (k fq W1 Kp.refl d) h.own, h.fr, fun a m z => h.nF a m (f a z)⟩
/-! loops -/
/-- the walk of a loop, by an invariant over the state that its model carries; abstract in how items come -/
theorem pv_loop {xs : List α} {body : α → s → WP (Ctl s γ)} {f : s → WP β} {r : γ → WP β} (INV : s → L2.St → Wo → Prop) {x0 : s} (h0 : INV x0 σ W) (hm : (WP.after (WP.loop body xs x0) f r).run W.n R)
    (hd : ∀ y σ' W', INV y σ' W' → (f y).run W'.n R → D.nx σ' W'.H) :
    ∃ Pv : Nat → L2.St → Hp → Prop, Pv 0 σ W.H ∧ (∀ i σ' H', Pv i σ' H' → ∃ y W', W'.H = H' ∧ INV y σ' W') ∧
      (∀ i σ' H' a, xs[i]? = some a → Pv i σ' H' → ∃ y W' R', W'.H = H' ∧ INV y σ' W' ∧ (body a y).run W'.n R' ∧ (∀ y' σ'' W'', INV y' σ'' W'' → R' W''.n (.nx y') → Pv (i + 1) σ'' W''.H) ∧ (∀ y' σ'' W'', INV y' σ'' W'' → R' W''.n (.bk y') → D.nx σ'' W''.H) ∧ (∀ n x, R' n (.rt x) → (r x).run n R)) ∧
      (∀ σ' H', Pv xs.length σ' H' → D.nx σ' H') := by
  refine ⟨fun i σ' H' => ∃ y W', W'.H = H' ∧ INV y σ' W' ∧ (WP.after (WP.loop body (xs.drop i) y) f r).run W'.n R, ⟨x0, W, rfl, h0, hm⟩, fun i σ' H' ⟨y, W', e1, p, _⟩ => ⟨y, W', e1, p⟩, fun i σ' H' a ha ⟨y, W', e1, p, q⟩ => ?_, fun σ' H' ⟨y, W', e1, p, q⟩ => ?_⟩
  · have hl : i < xs.length := (List.getElem?_eq_some_iff.mp ha).1
    have ed : xs.drop i = a :: xs.drop (i + 1) := by
      rw [List.drop_eq_getElem_cons hl, (List.getElem?_eq_some_iff.mp ha).2]
    rw [ed] at q
    exact ⟨y, W', _, e1, p, q, fun y' σ'' W'' p' q' => ⟨y', W'', rfl, p', q'⟩, fun y' σ'' W'' p' q' => hd y' σ'' W'' p' q', fun n x q' => q'⟩
  · rw [List.drop_length] at q
    subst e1
    exact hd y σ' W' p q
/-- a loop's target takes an item -/
def TkN {α : Type} [PyI α] (j : Nat) : α → Wo → L2.St → L2.St → Prop := fun a W σ s2 => ∃ x, s2 = σ.set j (some x) ∧ Rp W a x
def TkP {α β : Type} [PyI α] [PyI β] (j k : Nat) : α × β → Wo → L2.St → L2.St → Prop := fun a W σ s2 => ∃ x y, s2 = (σ.set j (some x)).set k (some y) ∧ Rp W a.1 x ∧ Rp W a.2 y
def Tk {α : Type} [PyI α] (g : TG) (T : α → Wo → L2.St → L2.St → Prop) : Prop := ∀ a x W' σ' Q, Rp W' a x → (∀ s2, T a W' σ' s2 → Q s2 W'.H) → g x σ' W'.H Q
theorem tk_N {α : Type} [PyI α] {j : Nat} : Tk (gName j) (TkN (α := α) j) := fun a x W' σ' Q r q => q _ ⟨x, rfl, r⟩
theorem tk_P {α β : Type} [PyI α] [PyI β] {K : PySem.W.Frag} {j k : Nat} : Tk (gTup K 2 (gCons (gName j) (gCons (gName k) gNil))) (TkP (α := α) (β := β) j k) := fun a x W' σ' Q ⟨p, x1, x2, h1, h2, h3, h4⟩ q =>
  ⟨p, [x1, x2], h1, SqT.of h2, rfl, x1, [x2], rfl, x2, [], rfl, rfl, q _ ⟨x1, x2, rfl, h3, h4⟩⟩
abbrev Turn {α β γ s : Type} (INV : s → L2.St → Wo → Prop) (body : α → s → WP (Ctl s γ)) (r : γ → WP β) (R : Nat → β → Prop) (D : Ends) (tu : TS) (T : α → Wo → L2.St → L2.St → Prop) : Prop :=
  ∀ a y σ' s2 W' R' (nx : L2.St → Hp → Prop), T a W' σ' s2 → INV y σ' W' → (body a y).run W'.n R' → (∀ y' σ'' W'', INV y' σ'' W'' → R' W''.n (.nx y') → nx σ'' W''.H) → (∀ y' σ'' W'', INV y' σ'' W'' → R' W''.n (.bk y') → D.nx σ'' W''.H) → (∀ n x, R' n (.rt x) → (r x).run n R) →
    tu { D with nx := nx, ct := nx, bk := D.nx } s2 W'.H
/-- over a list that is there already -/
theorem st_forV [PyI α] {g : TG} {T : α → Wo → L2.St → L2.St → Prop} (ht : Tk g T) {xs : List α} {body : α → s → WP (Ctl s γ)} {f : s → WP β} {r : γ → WP β} {x0 : s} {p : Addr} {vs : List V} (hv : σ[i]? = some (some (.ref p))) (hp : W.H p = some (.lst vs)) (hr : Rps W xs vs) (hm : (WP.after (WP.loop body xs x0) f r).run W.n R)
    (INV : s → L2.St → Wo → Prop) (h0 : INV x0 σ W) (keep : ∀ y σ' W', INV y σ' W' → St W W' ∧ W'.H p = some (.lst vs)) (step : Turn INV body r R D tu T) (hd : ∀ y σ' W', INV y σ' W' → (f y).run W'.n R → D.nx σ' W'.H) : tFor (iList K (tVar i)) g tu D σ W.H := by
  obtain ⟨Pv, p0, pk, ps, pd⟩ := pv_loop INV h0 hm hd
  refine ⟨_, hv, p, rfl, ⟨vs, SqL.of hp⟩, for_list (xs := vs) Pv p0 (fun i σ' H' _ q => ?_) (fun i x σ' H' hi q => ?_) (by rw [← Paired.length hr]; exact pd)⟩
  · obtain ⟨y, W', e1, q'⟩ := pk i σ' H' q
    subst e1
    exact SqL.of (keep y σ' W' q').2
  · obtain ⟨a, ha, ra⟩ := hr.getV hi
    obtain ⟨y, W', R', e1, q1, q2, q3, q4, q5⟩ := ps i σ' H' a ha q
    subst e1
    exact ht a x W' σ' _ (PyI.st (keep y σ' W' q1).1 ra) fun s2 h2 => step a y σ' s2 W' R' _ h2 q1 q2 q3 q4 q5
/-- over a new list -/
theorem st_forN [PyI α] {gt : TG} {T : α → Wo → L2.St → L2.St → Prop} (ht : Tk gt T) {w : WP (List α)} {body : α → s → WP (Ctl s γ)} {f : s → WP β} {r : γ → WP β} {x0 : s} (h : EvW e tl σ W (sN (kL α)) w) (g : Good e W) (hm : (w.bind fun xs => WP.after (WP.loop body xs x0) f r).run W.n R)
    (q : ∀ (xs : List α) p vs W1, Gw e W W1 → W.H p = none → ¬ W1.F p → W1.H p = some (.lst vs) → Rps W1 xs vs → ∃ INV : s → L2.St → Wo → Prop, INV x0 σ W1 ∧ (∀ y σ' W', INV y σ' W' → St W1 W' ∧ W'.H p = some (.lst vs)) ∧ Turn INV body r R D tu T ∧ ∀ y σ' W', INV y σ' W' → (f y).run W'.n R → D.nx σ' W'.H) : tFor (iList K tl) gt tu D σ W.H :=
  h W (Gw.refl g) _ (w.mono (fun n xs hm v W1 g1 hn ⟨fp, ⟨p, vs, e1, e2, hp, hr⟩, hf⟩ => by
    subst hn; subst e1; subst e2
    have hm0 := hf p (List.mem_singleton.mpr rfl)
    obtain ⟨INV, h0, keep, step, hd⟩ := q xs p vs W1 g1 hm0.1 hm0.2.2 hp hr
    obtain ⟨Pv, p0, pk, ps, pd⟩ := pv_loop (D := D) INV h0 hm hd
    refine ⟨p, rfl, ⟨vs, SqL.of hp⟩, for_list (xs := vs) Pv p0 (fun i σ' H' _ q => ?_) (fun i x σ' H' hi q => ?_) (by rw [← Paired.length hr]; exact pd)⟩
    · obtain ⟨y, W', e1, q'⟩ := pk i σ' H' q
      subst e1
      exact SqL.of (keep y σ' W' q').2
    · obtain ⟨a, ha, ra⟩ := hr.getV hi
      obtain ⟨y, W', R', e1, q1, q2, q3, q4, q5⟩ := ps i σ' H' a ha q
      subst e1
      exact ht a x W' σ' _ (PyI.st (keep y σ' W' q1).1 ra) fun s2 h2 => step a y σ' s2 W' R' _ h2 q1 q2 q3 q4 q5) hm)
/-- over a tuple -/
theorem st_forT [PyI α] {gt : TG} {T : α → Wo → L2.St → L2.St → Prop} (ht : Tk gt T) {w : WP (List α)} {body : α → s → WP (Ctl s γ)} {f : s → WP β} {r : γ → WP β} {x0 : s} (h : EvW e tl σ W sI w) (g : Good e W) (hm : (w.bind fun xs => WP.after (WP.loop body xs x0) f r).run W.n R)
    (q : ∀ (xs : List α) W1, Gw e W W1 → ∃ INV : s → L2.St → Wo → Prop, INV x0 σ W1 ∧ (∀ y σ' W', INV y σ' W' → St W1 W') ∧ Turn INV body r R D tu T ∧ ∀ y σ' W', INV y σ' W' → (f y).run W'.n R → D.nx σ' W'.H) : tFor (iTup K tl) gt tu D σ W.H :=
  h W (Gw.refl g) _ (w.mono (fun n xs hm v W1 g1 hn ⟨p, vs, e2, hp, hr⟩ => by
    subst hn; subst e2
    obtain ⟨INV, h0, keep, step, hd⟩ := q xs W1 g1
    obtain ⟨Pv, p0, pk, ps, pd⟩ := pv_loop (D := D) INV h0 hm hd
    refine ⟨p, rfl, ⟨vs, SqT.of hp⟩, for_tup (xs := vs) Pv p0 (fun i σ' H' _ q => ?_) (fun i x σ' H' hi q => ?_) (by rw [← Paired.length hr]; exact pd)⟩
    · obtain ⟨y, W', e1, q'⟩ := pk i σ' H' q
      subst e1
      exact SqT.of ((keep y σ' W' q').t _ _ hp)
    · obtain ⟨a, ha, ra⟩ := hr.getV hi
      obtain ⟨y, W', R', e1, q1, q2, q3, q4, q5⟩ := ps i σ' H' a ha q
      subst e1
      exact ht a x W' σ' _ (PyI.st (keep y σ' W' q1) ra) fun s2 h2 => step a y σ' s2 W' R' _ h2 q1 q2 q3 q4 q5) hm)
theorem st_forR1 {w : WP Int} {body : Int → s → WP (Ctl s γ)} {f : s → WP β} {r : γ → WP β} {x0 : s} (h : EvW e te σ W sI w) (g : Good e W) (hm : ((WP.range1 w).bind fun xs => WP.after (WP.loop body xs x0) f r).run W.n R)
    (q : ∀ W1, Gw e W W1 → ∃ INV : s → L2.St → Wo → Prop, INV x0 σ W1 ∧ Turn INV body r R D tu (TkN j) ∧ ∀ y σ' W', INV y σ' W' → (f y).run W'.n R → D.nx σ' W'.H) : tFor (iRng1 (tCons te tNil)) (gName j) tu D σ W.H :=
  h W (Gw.refl g) _ (w.mono (fun n k hm v W1 g1 hn r => by
    subst hn; cases r
    obtain ⟨INV, h0, step, hd⟩ := q W1 g1
    obtain ⟨⟨b1, b2⟩, hm⟩ := hm
    obtain ⟨Pv, p0, pk, ps, pd⟩ := pv_loop (D := D) INV h0 hm hd
    have el : (rangeL 0 k).length = k.toNat := by rw [rangeL_len, Int.sub_zero]
    refine ⟨k, rfl, by omega, by omega, for_range (lo := 0) (n := k.toNat) Pv p0 (fun i σ' H' hi q => ?_) (by rw [← el]; exact pd)⟩
    obtain ⟨y, W', R', e1, q1, q2, q3, q4, q5⟩ := ps i σ' H' _ (rangeL_get (by rw [Int.sub_zero]; exact hi)) q
    subst e1
    exact step _ y σ' _ W' R' _ ⟨_, rfl, rfl⟩ q1 q2 q3 q4 q5) hm)
theorem st_while {c : s → WP Bool} {body : s → WP (Ctl s γ)} {f : s → WP β} {r : γ → WP β} {x0 : s} (g : Good e W) (hm : (WP.after (WP.whilst c body x0) f r).run W.n R) (INV : s → L2.St → Wo → Prop) (h0 : INV x0 σ W)
    (hs : ∀ y σ' W', INV y σ' W' → Good e W' ∧ EvT e t σ' W' (c y) ∧ ∀ W1, Gw e W' W1 →
      (∀ R' (nx : L2.St → Hp → Prop), (body y).run W1.n R' → (∀ y' σ'' W'', INV y' σ'' W'' → R' W''.n (.nx y') → nx σ'' W''.H) → (∀ y' σ'' W'', INV y' σ'' W'' → R' W''.n (.bk y') → D.nx σ'' W''.H) → (∀ n x, R' n (.rt x) → (r x).run n R) → tu { D with nx := nx, ct := nx, bk := D.nx } σ' W1.H) ∧ INV y σ' W1)
    (hd : ∀ y σ' W', INV y σ' W' → (f y).run W'.n R → D.nx σ' W'.H) : tWhile t tu D σ W.H := by
  obtain ⟨I, ⟨m0, i0⟩, hI⟩ := hm
  refine ⟨fun m σ' H' => ∃ y W', W'.H = H' ∧ INV y σ' W' ∧ I m W'.n y, ⟨m0, x0, W, rfl, h0, i0⟩, fun m σ' H' ⟨y, W', e1, p, hi⟩ => ?_⟩
  subst e1
  obtain ⟨g', hc, hb⟩ := hs y σ' W' p
  refine hc W' (Gw.refl g') _ ((c y).mono (fun n b hq W1 g1 hn => ?_) (hI m W'.n y hi))
  subst hn
  obtain ⟨hb, hi1⟩ := hb W1 g1
  cases b with
  | true => exact ⟨_, fun _ _ h => h, hb _ _ hq (fun y' σ'' W'' p' ⟨m', lt, q'⟩ => ⟨m', lt, y', W'', rfl, p', q'⟩) (fun y' σ'' W'' p' q' => hd y' σ'' W'' p' q') fun n x q' => q'⟩
  | false => exact hd y σ' W1 hi1 hq
end
end Y

/-! comprehensions -/
namespace Y
open PySem PySem.Spec PyProof.Rows L2
/-- what a comprehension's target leaves -/
def TgN {α : Type} [PyI α] (σ : L2.St) (vs0 : List Nat) (j : Nat) : α → Wo → L2.St → Prop := fun a W s2 => ∃ x, s2 = (wipe σ vs0).set j (some x) ∧ Rp W a x
def TgP {α β : Type} [PyI α] [PyI β] (σ : L2.St) (vs0 : List Nat) (j k : Nat) : α × β → Wo → L2.St → Prop := fun a W s2 => ∃ x y, s2 = ((wipe σ vs0).set j (some x)).set k (some y) ∧ Rp W a.1 x ∧ Rp W a.2 y
section
variable {α β γ : Type} {K : PySem.W.Frag} {e : Ef} {σ : L2.St} {W W2 : Wo} {ta tb te tc tl : TE} {t u : TT} {i j k m n : Nat} {v : V} {g : TG} {vs0 : List Nat}
/-- the target takes an item -/
def Takes (val : Wo → α → V → Prop) (g : TG) (σ : L2.St) (vs0 : List Nat) (T : α → Wo → L2.St → Prop) : Prop := ∀ a x W' Q, val W' a x → (∀ s2, T a W' s2 → Q s2 W'.H) → g x (wipe σ vs0) W'.H Q
theorem takes_N [PyI α] : Takes (fun W a x => Rp W a x) (gName j) σ vs0 (TgN (α := α) σ vs0 j) := fun a x W' Q r q => q _ ⟨x, rfl, r⟩
theorem takes_P [PyI α] [PyI β] : Takes (fun W a x => Rp W a x) (gTup K 2 (gCons (gName j) (gCons (gName k) gNil))) σ vs0 (TgP (α := α) (β := β) σ vs0 j k) := fun a x W' Q ⟨p, x1, x2, h1, h2, h3, h4⟩ q =>
  ⟨p, [x1, x2], h1, SqT.of h2, rfl, x1, [x2], rfl, x2, [], rfl, rfl, q _ ⟨x1, x2, rfl, h3, h4⟩⟩
theorem pv_comp {val : Wo → α → V → Prop} [PyI β] {Dl : Addr} {xs : List α} {T : α → Wo → L2.St → Prop} {c : α → WP Bool} {f : α → WP β} {Qd : Hp → Prop} {QQ : Nat → List β → Prop} (hg : Good e W2) (hD : W2.H Dl = none) (hz : xs.length ≤ 100000)
    (ht : Takes val g σ vs0 T) (hw : ∀ a W' s2, T a W' s2 → wipe s2 vs0 = wipe σ vs0) (hc : ∀ a W1 s2, Gw e W2 W1 → T a W1 s2 → EvT e t s2 W1 (c a)) (he : ∀ a W1 s2, Gw e W2 W1 → T a W1 s2 → EvW e te s2 W1 sI (f a))
    (hm : (WP.comp c f xs).run W2.n QQ) (hend : ∀ W' ys vs', Gw e W2 W' → W'.H Dl = some (.lst vs') → ¬ W'.F Dl → Rps W' ys vs' → QQ W'.n ys → Qd W'.H) :
    ∃ Pv : Nat → Hp → Prop, Pv 0 (upd W2.H Dl (.lst [])) ∧ (∀ i H, Pv i H → ∃ W', W'.H = H ∧ Gw e W2 W') ∧
      (∀ i x H a, xs[i]? = some a → (∀ W', Gw e W2 W' → val W' a x) → Pv i H → g x (wipe σ vs0) H fun σ2 H2 => wipe σ2 vs0 = wipe σ vs0 ∧ t σ2 H2 fun b H3 =>
        if b = true then te σ2 H3 fun y H4 => ∃ acc, H4 Dl = some (.lst acc) ∧ acc.length < sizeLine ∧ Pv (i + 1) (upd H4 Dl (.lst (acc ++ [y]))) else Pv (i + 1) H3) ∧ (∀ H, Pv xs.length H → Qd H) := by
  have nS : ¬ e.S Dl := fun s => hg.S Dl s hD
  refine ⟨fun i H => ∃ W' ys vs', W'.H = H ∧ Gw e W2 W' ∧ W'.H Dl = some (.lst vs') ∧ ¬ W'.F Dl ∧ Rps W' ys vs' ∧ ys.length ≤ i ∧ (WP.comp c f (xs.drop i)).run W'.n (fun n zs => QQ n (ys ++ zs)),
    ⟨_, [], [], rfl, Gw.alloc hg hD, upd_same, fun z => (hg.F Dl z).2 hD, .nil, Nat.le_refl _, by rw [List.drop_zero]; exact hm⟩, fun i H ⟨W', ys, vs', e1, q, _⟩ => ⟨W', e1, q⟩, fun i x H a ha hv ⟨W', ys, vs', e1, gw, hl, hF, hr, hlen, q⟩ => ?_, fun H ⟨W', ys, vs', e1, gw, hl, hF, hr, hlen, q⟩ => ?_⟩
  · subst e1
    have hil : i < xs.length := (List.getElem?_eq_some_iff.mp ha).1
    have ed : xs.drop i = a :: xs.drop (i + 1) := by rw [List.drop_eq_getElem_cons hil, (List.getElem?_eq_some_iff.mp ha).2]
    rw [ed] at q
    refine ht a x W' _ (hv W' gw) fun s2 hs2 => ⟨hw a W' s2 hs2, ?_⟩
    refine hc a W' s2 gw hs2 W' (Gw.refl gw.ok) _ ((c a).mono (fun n b hq W3 g3 hn => ?_) q)
    subst hn
    have hl3 := g3.keep _ _ hl nS
    have hF3 : ¬ W3.F Dl := fun z => (g3.new Dl z).elim hF (some_ne hl)
    cases b with
    | true =>
      refine he a W' s2 gw hs2 W3 g3 _ ((f a).mono (fun n y hq v W4 g4 hn r => ?_) hq)
      subst hn
      have hl4 := g4.keep _ _ hl3 nS
      have hF4 : ¬ W4.F Dl := fun z => (g4.new Dl z).elim hF3 (some_ne hl3)
      have s45 := St.mut (u := .lst (vs' ++ [v])) hl4 (fun _ z => by cases z) hF4
      refine ⟨vs', hl4, by rw [← Paired.length hr]; exact sz_lt (by omega), W4.set Dl (.lst (vs' ++ [v])), ys ++ [y], vs' ++ [v], rfl, Gw.mut hg ((gw.trans g3).trans g4) hD hl4 (fun _ z => by cases z) hF4, upd_same, hF4, Paired.snoc (Rps.st ((g3.st.trans g4.st).trans s45) hr) (PyI.st s45 r), by rw [List.length_append, List.length_singleton]; omega, ?_⟩
      exact (WP.comp c f _).mono (fun n zs hq => by rw [List.append_assoc]; exact hq) hq
    | false => exact ⟨W3, ys, vs', rfl, gw.trans g3, hl3, hF3, Rps.st g3.st hr, by omega, hq⟩
  · subst e1
    rw [List.drop_length] at q
    have q : QQ W'.n (ys ++ []) := q
    rw [List.append_nil] at q
    exact hend W' ys vs' gw hl hF hr q
namespace WP
abbrev lc (w : WP (List α)) (c : α → WP Bool) (f : α → WP β) : WP (List β) := w.bind fun xs => (req (xs.length ≤ 100000) xs).bind fun xs => comp c f xs
end WP
theorem et_yes : EvT e tYes σ W (WP.pure true) := fun W1 g Q q => q W1 (Gw.refl g.ok) rfl
/-- over a list -/
theorem ew_lcL [PyI α] [PyI β] {w : WP (List α)} {T : α → Wo → L2.St → Prop} {c : α → WP Bool} {f : α → WP β} (h : EvW e tl σ W (sR (kL α)) w) (ht : Takes (fun W a x => Rp W a x) g σ vs0 T) (hw : ∀ a W' s2, T a W' s2 → wipe s2 vs0 = wipe σ vs0)
    (hc : ∀ a W1 s2, Gw e W W1 → T a W1 s2 → EvT e t s2 W1 (c a)) (he : ∀ a W1 s2, Gw e W W1 → T a W1 s2 → EvW e te s2 W1 sI (f a)) : EvW e (tLc (iList K tl) g t te vs0) σ W (sN (kL β)) (WP.lc w c f) := fun W1 g1 Q q =>
  h W1 g1 _ (w.mono (fun n xs hq v W2 g2 hn ⟨fp, ⟨p, vs, e1, e2, hp, hr⟩, hS⟩ => by
    subst hn; subst e1; subst e2
    refine ⟨p, rfl, ⟨vs, SqL.of hp⟩, fun Dl hD => ?_⟩
    have hSp := hS p (List.mem_singleton.mpr rfl)
    obtain ⟨Pv, p0, pk, ps, pd⟩ := pv_comp (val := fun W a x => Rp W a x) (T := T) (t := t) (te := te) (g := g) (σ := σ) (vs0 := vs0) (Qd := fun H => Q (.ref Dl) H) g2.ok hD hq.1 ht hw (fun a W3 s2 g3 => hc a W3 s2 ((g1.trans g2).trans g3)) (fun a W3 s2 g3 => he a W3 s2 ((g1.trans g2).trans g3)) hq.2 fun W' ys vs' gw hl hF hr' hqq => hqq _ W' (g2.trans gw) rfl ⟨[Dl], ⟨Dl, vs', rfl, rfl, hl, hr'⟩, fun b mb => by
      cases List.mem_singleton.mp mb
      exact ⟨g2.live _ hD, fun s => g2.ok.S _ s hD, hF⟩⟩
    exact lc_list (xs := vs) Pv p0 (fun i H _ pp => by
      obtain ⟨W', e1, gw⟩ := pk i H pp
      subst e1
      exact SqL.of (gw.keep _ _ hp hSp)) (fun i x H hi pp => by
      obtain ⟨a, ha, ra⟩ := hr.getV hi
      exact ps i x H a ha (fun W' gw => PyI.st gw.st ra) pp) (by rw [← Paired.length hr]; exact pd)) q)
/-- over a tuple -/
theorem ew_lcT [PyI α] [PyI β] {w : WP (List α)} {T : α → Wo → L2.St → Prop} {c : α → WP Bool} {f : α → WP β} (h : EvW e tl σ W sI w) (ht : Takes (fun W a x => Rp W a x) g σ vs0 T) (hw : ∀ a W' s2, T a W' s2 → wipe s2 vs0 = wipe σ vs0)
    (hc : ∀ a W1 s2, Gw e W W1 → T a W1 s2 → EvT e t s2 W1 (c a)) (he : ∀ a W1 s2, Gw e W W1 → T a W1 s2 → EvW e te s2 W1 sI (f a)) : EvW e (tLc (iTup K tl) g t te vs0) σ W (sN (kL β)) (WP.lc w c f) := fun W1 g1 Q q =>
  h W1 g1 _ (w.mono (fun n xs hq v W2 g2 hn ⟨p, vs, e2, hp, hr⟩ => by
    subst hn; subst e2
    refine ⟨p, rfl, ⟨vs, SqT.of hp⟩, fun Dl hD => ?_⟩
    obtain ⟨Pv, p0, pk, ps, pd⟩ := pv_comp (val := fun W a x => Rp W a x) (T := T) (t := t) (te := te) (g := g) (σ := σ) (vs0 := vs0) (Qd := fun H => Q (.ref Dl) H) g2.ok hD hq.1 ht hw (fun a W3 s2 g3 => hc a W3 s2 ((g1.trans g2).trans g3)) (fun a W3 s2 g3 => he a W3 s2 ((g1.trans g2).trans g3)) hq.2 fun W' ys vs' gw hl hF hr' hqq => hqq _ W' (g2.trans gw) rfl ⟨[Dl], ⟨Dl, vs', rfl, rfl, hl, hr'⟩, fun b mb => by
      cases List.mem_singleton.mp mb
      exact ⟨g2.live _ hD, fun s => g2.ok.S _ s hD, hF⟩⟩
    exact lc_tup (xs := vs) Pv p0 (fun i H _ pp => by
      obtain ⟨W', e1, gw⟩ := pk i H pp
      subst e1
      exact SqT.of (gw.st.t _ _ hp)) (fun i x H hi pp => by
      obtain ⟨a, ha, ra⟩ := hr.getV hi
      exact ps i x H a ha (fun W' gw => PyI.st gw.st ra) pp) (by rw [← Paired.length hr]; exact pd)) q)
/-- over range(n) -/
theorem ew_lcR [PyI β] {w : WP Int} {T : Int → Wo → L2.St → Prop} {c : Int → WP Bool} {f : Int → WP β} (h : EvW e ta σ W sI w) (ht : Takes (fun W a x => Rp W a x) g σ vs0 T) (hw : ∀ a W' s2, T a W' s2 → wipe s2 vs0 = wipe σ vs0)
    (hc : ∀ a W1 s2, Gw e W W1 → T a W1 s2 → EvT e t s2 W1 (c a)) (he : ∀ a W1 s2, Gw e W W1 → T a W1 s2 → EvW e te s2 W1 sI (f a)) : EvW e (tLc (iRng1 (tCons ta tNil)) g t te vs0) σ W (sN (kL β)) (WP.lc (WP.range1 w) c f) := fun W1 g1 Q q =>
  h W1 g1 _ (w.mono (fun n k hq v W2 g2 hn r => by
    subst hn; cases r
    obtain ⟨⟨b1, b2⟩, hz, hq⟩ := hq
    refine ⟨k, rfl, by omega, by omega, fun Dl hD => ?_⟩
    obtain ⟨Pv, p0, pk, ps, pd⟩ := pv_comp (val := fun W a x => Rp W a x) (T := T) (t := t) (te := te) (g := g) (σ := σ) (vs0 := vs0) (Qd := fun H => Q (.ref Dl) H) g2.ok hD hz ht hw (fun a W3 s2 g3 => hc a W3 s2 ((g1.trans g2).trans g3)) (fun a W3 s2 g3 => he a W3 s2 ((g1.trans g2).trans g3)) hq fun W' ys vs' gw hl hF hr' hqq => hqq _ W' (g2.trans gw) rfl ⟨[Dl], ⟨Dl, vs', rfl, rfl, hl, hr'⟩, fun b mb => by
      cases List.mem_singleton.mp mb
      exact ⟨g2.live _ hD, fun s => g2.ok.S _ s hD, hF⟩⟩
    have el : (rangeL 0 k).length = k.toNat := by rw [rangeL_len, Int.sub_zero]
    exact lc_range (lo := 0) (n := k.toNat) Pv p0 (fun i H hi pp => by
      have e0 : (0 : Int) + (i : Int) = (i : Int) := Int.zero_add _
      exact ps i _ H _ (rangeL_get (by rw [Int.sub_zero]; exact hi)) (fun W' gw => rfl) pp) (by rw [← el]; exact pd)) q)
end
end Y

/-! deals -/
namespace Y
open PySem PySem.Spec PyProof.Rows L2
structure Dl where
  p : Addr
  l1 : Addr
  l2 : Addr
  row : List Int
  tot : Int
structure Dl.At (d : Dl) (H : Hp) (n : Nat) : Prop where
  p : H d.p = some (.lst [.ref d.l1, .ref d.l2, .int d.tot])
  l1 : H d.l1 = some (.lst (d.row.map V.int))
  n : H d.l2 = some (.lst [.int (n : Int)])
  np : d.p ≠ d.l2
  n1 : d.l1 ≠ d.l2
def efD (d : Dl) : Ef where
  S := fun a => a = d.l2
  T := fun a => a = d.p ∨ a = d.l1 ∨ a = d.l2
  ok := d.At
  num := fun a b => a ≤ b
  num_refl := fun _ => Nat.le_refl _
  num_trans := fun a b => Nat.le_trans a b
  ok_T := fun h k => ⟨k _ _ (.inl rfl) h.p, k _ _ (.inr (.inl rfl)) h.l1, k _ _ (.inr (.inr rfl)) h.n, h.np, h.n1⟩
  ok_live := fun h t => by
    rcases t with t | t | t
    · subst t; exact some_ne h.p
    · subst t; exact some_ne h.l1
    · subst t; exact some_ne h.n
/-- the deal itself as an argument -/
def sD {e : Ef} (d : Dl) : Rs e Unit := ⟨fun _ _ _ v => v = .ref d.p, fun _ h => h, fun _ h => h⟩
section
variable {α β γ δ : Type} {K : PySem.W.Frag} {e : Ef} {d : Dl} {σ : L2.St} {W : Wo} {ta tb te tc t0 t1 : TE} {t u : TT} {i j k m n : Nat} {v : V} {E : XK}
theorem ew_deal {i : Nat} (h : σ[i]? = some (some (.ref d.p))) : EvW e (tVar i) σ W (sD d) (WP.pure ()) := fun W1 g Q q => ⟨_, h, q _ W1 (Gw.refl g.ok) rfl rfl⟩
def sp_take : Sp := fun vs H Q _ => ∃ (d : Dl) (W : Wo) (many : Int), vs = [.ref d.p, .int many] ∧ W.H = H ∧ Good (efD d) W ∧ (WP.take many).run W.n (fun n x => ∀ v W', Gw (efD d) W W' → W'.n = n → v = .int x → Q v W'.H)
/-- a draw -/
abbrev m_take (_ : Unit) (x : Int) : WP Int := WP.take x
theorem ev_take {w0 : WP Unit} {w : WP Int} (h0 : EvW (efD d) t0 σ W (sD d) w0) (h1 : EvW (efD d) t1 σ W sI w) : EvW (efD d) (tCall sp_take [] E (tCons t0 (tCons t1 tNil))) σ W sI (WP.b2 w0 w m_take) :=
  ew_call2 h0 h1 fun W2 a b x y g2 r1 r2 Q q E => by
    cases r1; cases r2
    exact ⟨d, W2, b, rfl, rfl, g2, (WP.take b).mono (fun n x h v W' g' hn r => h v W' g' hn r) q⟩
/-- the world behind a draw -/
theorem drawn {d : Dl} {W : Wo} (g : Good (efD d) W) : Gw (efD d) W ⟨upd W.H d.l2 (.lst [.int ((W.n : Int) + 1)]), W.F, W.n + 1⟩ := by
  have hn := g.ok.n
  have keep : ∀ a o, W.H a = some o → a ≠ d.l2 → (upd W.H d.l2 (.lst [.int ((W.n : Int) + 1)])) a = some o := fun a o h n => by rw [upd_ne n]; exact h
  have live : ∀ a, W.H a ≠ none → (upd W.H d.l2 (.lst [.int ((W.n : Int) + 1)])) a ≠ none := fun a h => by
    by_cases e1 : a = d.l2
    · subst e1; rw [upd_same]; exact fun z => by cases z
    · rw [upd_ne e1]; exact h
  refine ⟨keep, ⟨fun a xs h => keep a _ h (fun z => by rw [z, hn] at h; cases h), fun _ h => h, fun a o f h => keep a o h (g.F a f).1⟩, fun _ f => .inl f, fun a h => ?_, Nat.le_succ _, ⟨fun a f => ⟨(g.F a f).1, live a (g.F a f).2⟩, fun a s => live a (g.S a s), ⟨keep _ _ g.ok.p g.ok.np, keep _ _ g.ok.l1 g.ok.n1, ?_, g.ok.np, g.ok.n1⟩⟩⟩
  · cases q : W.H a with
    | none => rfl
    | some o => exact absurd h (live a (some_ne q))
  · show (upd W.H d.l2 _) d.l2 = _
    rw [upd_same]; rfl
end
/-! ### dicts, their keys squares -/
abbrev Sq := Int × Int
def kSq (q : Sq) : List Key := [.inl q.1, .inl q.2]
theorem kSq_inj {p q : Sq} : kSq p = kSq q ↔ p = q := by
  unfold kSq
  constructor
  · intro h
    injection h with h1 h2
    injection h2 with h2 _
    injection h1 with h1
    injection h2 with h2
    exact Prod.ext h1 h2
  · intro h; rw [h]
section
variable {β : Type}
def lookK (kvs : List (Sq × β)) (q : Sq) : Option β := (kvs.find? fun p => decide (p.1 = q)).map (·.2)
def hasK (kvs : List (Sq × β)) (q : Sq) : Bool := (lookK kvs q).isSome
def getK [Inhabited β] (kvs : List (Sq × β)) (q : Sq) : β := (lookK kvs q).getD default
def putQ (kvs : List (Sq × β)) (q : Sq) (b : β) : List (Sq × β) := if hasK kvs q then kvs.map (fun p => if p.1 = q then (p.1, b) else p) else kvs ++ [(q, b)]
end
def Kv {β : Type} [PyI β] (W : Wo) (kv : Sq × β) (k : List Key × V) : Prop := k.1 = kSq kv.1 ∧ Rp W kv.2 k.2
/-- a dict from squares -/
def kD (β : Type) [PyI β] : Kd (List (Sq × β)) where
  own := fun W fp kvs v => ∃ p ks, fp = [p] ∧ v = .ref p ∧ W.H p = some (.dT ks) ∧ Paired (Kv W) kvs ks
  st := fun s c ⟨p, ks, h1, h2, h3, h4⟩ => ⟨p, ks, h1, h2, c p (by rw [h1]; exact List.mem_singleton.mpr rfl) _ h3, Paired.imp (fun a b h => ⟨h.1, PyI.st s h.2⟩) h4⟩
  live := fun ⟨p, ks, h1, h2, h3, h4⟩ a ha => by
    rw [h1] at ha
    cases List.mem_singleton.mp ha
    exact some_ne h3
theorem Rd.kp {H H' : Hp} {p : Addr} {u : HO} (c : ∀ o, H p = some o → H' p = some o) (h : Rd H p u) : Rd H' p u := h.elim (fun h => .inl (c _ h)) fun ⟨o, h⟩ => .inr ⟨o, c _ h⟩
theorem DGet.r {H : Hp} {a b : Addr} {kvs : List (List Key × V)} {k : List Key} (e : Rd H a (.dT kvs)) (eb : H b = some (.tup (k.map kV))) : DGet H a (.ref b) (valV kvs k) := .inr ⟨kvs, k, b, e, rfl, eb, rfl⟩
/-- a dict from squares that is read alone -/
def kDr (β : Type) [PyI β] : Kd (List (Sq × β)) where
  own := fun W fp kvs v => ∃ p ks, fp = [p] ∧ v = .ref p ∧ Rd W.H p (.dT ks) ∧ Paired (Kv W) kvs ks
  st := fun s c ⟨p, ks, h1, h2, h3, h4⟩ => ⟨p, ks, h1, h2, Rd.kp (c p (by rw [h1]; exact List.mem_singleton.mpr rfl)) h3, Paired.imp (fun a b h => ⟨h.1, PyI.st s h.2⟩) h4⟩
  live := fun ⟨p, ks, h1, h2, h3, h4⟩ a ha => by
    rw [h1] at ha
    cases List.mem_singleton.mp ha
    rcases h3 with h3 | ⟨_, h3⟩
    · exact some_ne h3
    · exact some_ne h3
section
variable {α β γ δ : Type} [PyI β] {K : PySem.W.Frag} {e : Ef} {σ : L2.St} {W : Wo} {ta tb te tc td ty tx tk tv : TE} {t u : TT} {i j k m n : Nat} {v : V} {D : Ends} {tz : TS} {R : Nat → γ → Prop}
theorem look_kv {kvs : List (Sq × β)} {ks : List (List Key × V)} (h : Paired (Kv W) kvs ks) (q : Sq) : (lookK kvs q = none ∧ valV ks (kSq q) = none) ∨ ∃ b v, lookK kvs q = some b ∧ valV ks (kSq q) = some v ∧ Rp W b v := by
  unfold lookK valV
  induction h with
  | nil => exact .inl ⟨rfl, rfl⟩
  | @cons a b as bs r t ih =>
    obtain ⟨r1, r2⟩ := r
    by_cases hq : a.1 = q
    · refine .inr ⟨a.2, b.2, ?_, ?_, r2⟩
      · rw [List.find?_cons_of_pos (by simpa using hq)]; rfl
      · rw [List.find?_cons_of_pos (by rw [r1, hq]; simp)]; rfl
    · rw [List.find?_cons_of_neg (by simpa using hq), List.find?_cons_of_neg (by rw [r1]; simpa using fun z => hq (kSq_inj.mp z))]
      exact ih
theorem rp_key {q : Sq} {x : V} (h : Rp W q x) : ∃ b, x = .ref b ∧ W.H b = some (.tup ((kSq q).map kV)) := by
  obtain ⟨p, a, b, h1, h2, h3, h4⟩ := h
  cases h3; cases h4
  exact ⟨p, h1, h2⟩
theorem has_kv {kvs : List (Sq × β)} {q : Sq} : (kvs.any fun kv => decide (kv.1 = q)) = hasK kvs q := by
  unfold hasK lookK
  induction kvs with
  | nil => rfl
  | cons a as ih =>
    rw [List.any_cons, ih]
    by_cases hq : a.1 = q
    · rw [List.find?_cons_of_pos (by simpa using hq)]; simp [hq]
    · rw [List.find?_cons_of_neg (by simpa using hq)]; simp [hq]
theorem put_kv {kvs : List (Sq × β)} {ks : List (List Key × V)} {b : β} (h : Paired (Kv W) kvs ks) (q : Sq) (r : Rp W b v) : Paired (Kv W) (putQ kvs q b) (putK ks (kSq q) v) := by
  have e1 : (ks.any fun kv => decide (kv.1 = kSq q)) = hasK kvs q := by
    rw [← has_kv]
    clear r
    induction h with
    | nil => rfl
    | @cons a b as bs r t ih =>
      rw [List.any_cons, List.any_cons, ih, r.1]
      by_cases hq : a.1 = q
      · simp [hq]
      · rw [decide_eq_false hq, decide_eq_false (fun z => hq (kSq_inj.mp z))]
  unfold putQ putK
  rw [e1]
  clear e1
  cases hasK kvs q with
  | true =>
    rw [if_pos rfl, if_pos rfl]
    induction h with
    | nil => exact .nil
    | @cons a c as cs r2 t ih =>
      refine .cons ?_ ih
      obtain ⟨r3, r4⟩ := r2
      by_cases hq : a.1 = q
      · show Kv W (if a.1 = q then (a.1, b) else a) (if c.1 = kSq q then (c.1, v) else c)
        rw [if_pos hq, if_pos (by rw [r3, hq])]
        exact ⟨r3, r⟩
      · show Kv W (if a.1 = q then (a.1, b) else a) (if c.1 = kSq q then (c.1, v) else c)
        rw [if_neg hq, if_neg (fun z => hq (kSq_inj.mp (r3.symm.trans z)))]
        exact ⟨r3, r4⟩
  | false =>
    rw [if_neg Bool.false_ne_true, if_neg Bool.false_ne_true]
    exact Paired.snoc h ⟨rfl, r⟩
namespace WP
abbrev din (q : WP Sq) (kvs : WP (List (Sq × β))) : WP Bool := b2 q kvs fun x d => pure (hasK d x)
abbrev dget [Inhabited β] (kvs : WP (List (Sq × β))) (q : WP Sq) : WP β := b2 kvs q fun d x => req (hasK d x = true) (getK d x)
end WP
theorem ew_din {w1 : WP Sq} {w2 : WP (List (Sq × β))} (hk : EvW e ty σ W sI w1) (hd : EvW e td σ W (sR (kDr β)) w2) : EvW e (tDIn ty td) σ W sI (WP.din w1 w2) := fun W1 g Q q =>
  hk W1 g _ (w1.mono (fun n x hq y W2 g2 hn r => by
    subst hn
    refine hd W2 (g.trans g2) _ (w2.mono (fun n d hq v W3 g3 hn r2 => ?_) hq)
    obtain ⟨fp, ⟨p, ks, _, h2, h3, h4⟩, _⟩ := r2
    obtain ⟨b, e1, e2⟩ := rp_key (PyI.st g3.st r)
    subst e1; subst h2
    refine ⟨p, _, rfl, DGet.r h3 e2, hq _ W3 (g2.trans g3) hn ?_⟩
    show V.bl _ = V.bl _
    unfold hasK
    rcases look_kv h4 x with ⟨a1, a2⟩ | ⟨b1, v1, a1, a2, _⟩
    · rw [a1, a2]; rfl
    · rw [a1, a2]; rfl) q)
theorem ew_dnotin {w1 : WP Sq} {w2 : WP (List (Sq × β))} (hk : EvW e ty σ W sI w1) (hd : EvW e td σ W (sR (kDr β)) w2) : EvW e (tDNotIn ty td) σ W sI (WP.not (WP.din w1 w2)) := fun W1 g Q q =>
  hk W1 g _ (w1.mono (fun n x hq y W2 g2 hn r => by
    subst hn
    refine hd W2 (g.trans g2) _ (w2.mono (fun n d hq v W3 g3 hn r2 => ?_) hq)
    obtain ⟨fp, ⟨p, ks, _, h2, h3, h4⟩, _⟩ := r2
    obtain ⟨b, e1, e2⟩ := rp_key (PyI.st g3.st r)
    subst e1; subst h2
    refine ⟨p, _, rfl, DGet.r h3 e2, hq _ W3 (g2.trans g3) hn ?_⟩
    show V.bl _ = V.bl _
    unfold hasK
    rcases look_kv h4 x with ⟨a1, a2⟩ | ⟨b1, v1, a1, a2, _⟩
    · rw [a1, a2]; rfl
    · rw [a1, a2]; rfl) q)
theorem ew_dget [Inhabited β] {w1 : WP Sq} {w2 : WP (List (Sq × β))} (hd : EvW e td σ W (sR (kDr β)) w2) (hk : EvW e ty σ W sI w1) : EvW e (tDGet td ty) σ W sI (WP.dget w2 w1) := fun W1 g Q q =>
  hd W1 g _ (w2.mono (fun n d hq v W2 g2 hn r2 => by
    subst hn
    refine hk W2 (g.trans g2) _ (w1.mono (fun n x hq y W3 g3 hn r => ?_) hq)
    obtain ⟨fp, ⟨p, ks, _, h2, h3, h4⟩, _⟩ := (sR (kDr β)).stay g3 r2
    obtain ⟨b, e1, e2⟩ := rp_key r
    subst e1; subst h2
    rcases look_kv h4 x with ⟨a1, a2⟩ | ⟨b1, v1, a1, a2, rv⟩
    · have := hq.1
      unfold hasK at this
      rw [a1] at this
      cases this
    · have hg := DGet.r h3 e2
      rw [a2] at hg
      refine ⟨p, v1, rfl, hg, hq.2 _ W3 (g2.trans g3) hn ?_⟩
      unfold getK
      rw [a1]; exact rv) q)
/-- d[k] = v -/
theorem st_dput {W0 : Wo} {fp : List Addr} {kvs : List (Sq × β)} {vx : V} {iv : Nat} {w1 : WP β} {w2 : WP Sq} {f : List (Sq × β) → WP γ} (g00 : Good e W0) (g0 : Gw e W0 W) (hv : σ[iv]? = some (some vx)) (ho : Var (kD β) W0 W fp kvs vx) (h1 : EvW e tv σ W sI w1) (h2 : EvW e ty σ W sI w2)
    (hm : ((WP.b2 w1 w2 fun b q => WP.req (kvs.length < 100000) (putQ kvs q b)).bind f).run W.n R)
    (q : ∀ ys W1 W2 l, fp = [l] → Gw e W W1 → St W1 W2 → Gw e W0 W2 → (∀ fp' W9, Kp fp' W9 W1 → (∀ b ∈ fp', b ∉ fp) → Kp fp' W9 W2) → (∀ b, W2.F b → W1.F b) → Var (kD β) W0 W2 fp ys vx → (f ys).run W2.n R → D.nx σ W2.H) : sDPut (tVar iv) ty tv D σ W.H := by
  obtain ⟨⟨l, vs, e1, e2, h3, h4⟩, fr, nF⟩ := ho
  subst e1; subst e2
  have m0 : l ∈ [l] := List.mem_singleton.mpr rfl
  refine h1 W (Gw.refl g0.ok) _ (w1.mono (fun n b r x W1 g1 hn p1 => ?_) hm)
  subst hn
  refine ⟨_, hv, h2 W1 g1 _ (w2.mono (fun n k r y W2 g2 hn p2 => ?_) r)⟩
  subst hn
  have g12 := g1.trans g2
  have hl1 : W2.H l = some (.dT vs) := g12.keep _ _ h3 fun s => g00.S l s (fr l m0)
  have hF1 : ¬ W2.F l := fun f => (g12.new l f).elim (nF l m0) (some_ne h3)
  obtain ⟨bk, f1, f2⟩ := rp_key p2
  subst f1
  have s12 := St.mut (u := .dT (putK vs (kSq k) x)) hl1 (fun _ z => by cases z) hF1
  refine ⟨l, _, rfl, DPut.t hl1 f2 (by rw [← Paired.length h4]; exact sz_lt r.1), ?_⟩
  refine q (putQ kvs k b) W2 (W2.set l (.dT (putK vs (kSq k) x))) l rfl g12 s12 (Gw.mut g00 (g0.trans g12) (fr l m0) hl1 (fun _ z => by cases z) hF1) (fun fp' W9 kk d => kk.upd fun b m z => d b m (by rw [z]; exact m0)) (fun _ f => f) ⟨⟨l, _, rfl, rfl, upd_same, ?_⟩, fr, fun b m => by cases List.mem_singleton.mp m; exact hF1⟩ r.2
  have h5 : Paired (Kv (W2.set l (.dT (putK vs (kSq k) x)))) kvs vs := Paired.imp (fun a b h => ⟨h.1, PyI.st (g12.st.trans s12) h.2⟩) h4
  exact put_kv h5 k (PyI.st (g2.st.trans s12) p1)
theorem q_dput {W0 : Wo} {fp : List Addr} {kvs : List (Sq × β)} {vx : V} {iv : Nat} {w1 : WP β} {w2 : WP Sq} {f : List (Sq × β) → WP γ} (g00 : Good e W0) (g0 : Gw e W0 W) (hv : σ[iv]? = some (some vx)) (ho : Var (kD β) W0 W fp kvs vx) (h1 : EvW e tv σ W sI w1) (h2 : EvW e ty σ W sI w2)
    (hm : ((WP.b2 w1 w2 fun b q => WP.req (kvs.length < 100000) (putQ kvs q b)).bind f).run W.n R)
    (q : ∀ ys W1 W2 l, fp = [l] → Gw e W W1 → St W1 W2 → Gw e W0 W2 → (∀ fp' W9, Kp fp' W9 W1 → (∀ b ∈ fp', b ∉ fp) → Kp fp' W9 W2) → (∀ b, W2.F b → W1.F b) → Var (kD β) W0 W2 fp ys vx → (f ys).run W2.n R → tz D σ W2.H) : tSeq (sDPut (tVar iv) ty tv) tz D σ W.H := st_dput (D := { D with nx := tz D }) g00 g0 hv ho h1 h2 hm q
/-- {} and {k: v} -/
theorem ew_dnew : EvW e tDNewT σ W (sN (kD β)) (WP.pure ([] : List (Sq × β))) := fun W1 g Q q p hp =>
  q _ _ (Gw.alloc g.ok hp) rfl ⟨[p], ⟨p, [], rfl, rfl, upd_same, .nil⟩, fun a m => by
    cases List.mem_singleton.mp m
    exact ⟨hp, fun s => g.ok.S p s hp, fun f => (g.ok.F p f).2 hp⟩⟩
def tDisp1 (tk tv : TE) : TE := fun σ H Q => ∀ p, H p = none → tk σ (upd H p (.dT [])) fun x H1 => tv σ H1 fun y H2 => ∃ b key, x = .ref b ∧ H2 b = some (.tup (key.map kV)) ∧ H2 p = some (.dT []) ∧ Q (.ref p) (upd H2 p (.dT [(key, y)]))
theorem ew_disp1 {w1 : WP Sq} {w2 : WP β} (hk : EvW e tk σ W sI w1) (hv : EvW e tv σ W sI w2) : EvW e (tDisp1 tk tv) σ W (sN (kD β)) (WP.b2 w1 w2 fun x b => WP.pure [(x, b)]) := fun W1 g Q q p hp => by
  have ga := Gw.alloc (o := .dT []) g.ok hp
  have nS : ¬ e.S p := fun s => g.ok.S p s hp
  refine hk ⟨upd W1.H p (.dT []), W1.F, W1.n⟩ (g.trans ga) _ (w1.mono (fun n x hq vx W2 g2 hn rx => ?_) q)
  subst hn
  refine hv W2 ((g.trans ga).trans g2) _ (w2.mono (fun n b hq vy W3 g3 hn ry => ?_) hq)
  obtain ⟨kb, e1, e2⟩ := rp_key (PyI.st g3.st rx)
  subst e1
  have hp3 : W3.H p = some (.dT []) := (g2.trans g3).keep _ _ upd_same nS
  have hF : ¬ W3.F p := fun f => ((g2.trans g3).new p f).elim (fun f => (g.ok.F p f).2 hp) fun z => by
    have : (upd W1.H p (.dT [])) p = none := z
    rw [upd_same] at this
    cases this
  have s := St.mut (u := .dT [(kSq x, vy)]) hp3 (fun _ z => by cases z) hF
  refine ⟨kb, kSq x, rfl, e2, hp3, hq _ (W3.set p (.dT [(kSq x, vy)])) (Gw.mut g.ok ((ga.trans g2).trans g3) hp hp3 (fun _ z => by cases z) hF) hn ⟨[p], ⟨p, _, rfl, rfl, upd_same, .cons ⟨rfl, PyI.st s ry⟩ .nil⟩, fun a m => ?_⟩⟩
  cases List.mem_singleton.mp m
  exact ⟨hp, nS, hF⟩
end
theorem pe_disp1T {X : Cx} {pos : Pos} {k v : Expr} {tk tv : TE} (hu : X.A.units + 1 < cLine) (hk : PE X k tk) (hv : PE X v tv) : PE X (.Dict [some k] [v] pos) (tDisp1 tk tv) := by
  refine ⟨fun pins s σ H Q I q => ?_⟩
  have hn := I.hok.fresh (Nat.le_refl s.heap.objs.size)
  have I1 := I.laid (a := s.heap.objs.size) (o := .dT []) (h' := s.heap.push { cls := .type "dict", data := .dict #[] }) (t' := s.toks) (fun _ _ q => Heap.get?_push_of_some _ q) (Nat.le_refl _) (dt_empty s.heap I.big)
  have hshape : (evalEachOpt [some k] X.env).zip ((evalEach [v] X.env).map fun v => do let x ← v; standAt pos; pure x) = (pairTrees [some k] [v] X.env pos).map fun p => (some p.1, p.2) := rfl
  have hl1 : (pairTrees [some k] [v] X.env pos).length = 1 := rfl
  have h0 : pairTrees [some k] [v] X.env pos ≠ [] := fun z => by rw [z] at hl1; cases hl1
  rw [arm_eval_Dict, hshape, dictDisplay_pairs (pairTrees [some k] [v] X.env pos) h0 (by omega)]
  refine wpAny_bind (wpAny_standAt (wpAny_bind (wpAny_subDictH (knd := tupleKind (mixKind X.prog X.w)) (Q := fun d s' => wpAny (model X.prog X.w) X.A (pure (Value.ref d)) (EP X pins σ Q) X.xe s') (show X.A.units < cLine by omega) (by omega) ?_)))
  refine thn ((pps_cons hk hv (pps_nil (pos := pos))).run pins _ σ _ (fun ps H2 => match ps with
    | [(x, y)] => ∃ b key, x = .ref b ∧ H2 b = some (.tup (key.map kV)) ∧ H2 s.heap.objs.size = some (.dT []) ∧ Q (.ref s.heap.objs.size) (upd H2 s.heap.objs.size (.dT [(key, y)]))
    | _ => False) I1 (q _ hn)) fun vs s2 ⟨ps, H2, I2, rel, hq⟩ => ?_
  cases rel with
  | nil => exact hq.elim
  | @cons p pv ps vs h t =>
    cases t with
    | cons _ _ => exact hq.elim
    | nil =>
      obtain ⟨x, y⟩ := p
      obtain ⟨u, r⟩ := pv
      obtain ⟨r1, r2⟩ := h
      obtain ⟨b, key, hx, hb, hp, hq⟩ := hq
      cases hx
      cases (show u = Value.ref b from r1)
      obtain ⟨z, hd, xs, kt, dd⟩ := dt_of I2.hok hp
      cases kt
      refine ⟨[(key, b, r)], ⟨rfl, rfl, key_of I2.hok hb, True.intro⟩, dd, fun h' tk dd' hs => wpAny_pure ⟨.ref s.heap.objs.size, _, ?_, rfl, hq⟩⟩
      obtain ⟨q, es, ep, hq', h2, h3, h4, _, h5⟩ := dd'
      refine d_write I2 (by rw [hp]; exact True.intro) hs ⟨q, hq'⟩ ⟨by show 1 ≤ sizeLine; decide, hd, [(key, b, r)], .cons ⟨rfl, ?_, r2⟩ .nil, q, es, ep, hq', h2, h3, h4, h5⟩
      rw [upd_ne (L2.ne_of hb hp (fun z => nomatch z))]
      exact hb
end Y

namespace Y
open PySem PySem.Spec PyProof.Rows L2
namespace WP
abbrev b4 {α0 α1 α2 α3 γ : Type} (w0 : WP α0) (w1 : WP α1) (w2 : WP α2) (w3 : WP α3) (m : α0 → α1 → α2 → α3 → WP γ) : WP γ := w0.bind fun y0 => w1.bind fun y1 => w2.bind fun y2 => w3.bind fun y3 => m y0 y1 y2 y3
abbrev b5 {α0 α1 α2 α3 α4 γ : Type} (w0 : WP α0) (w1 : WP α1) (w2 : WP α2) (w3 : WP α3) (w4 : WP α4) (m : α0 → α1 → α2 → α3 → α4 → WP γ) : WP γ := w0.bind fun y0 => w1.bind fun y1 => w2.bind fun y2 => w3.bind fun y3 => w4.bind fun y4 => m y0 y1 y2 y3 y4
abbrev b6 {α0 α1 α2 α3 α4 α5 γ : Type} (w0 : WP α0) (w1 : WP α1) (w2 : WP α2) (w3 : WP α3) (w4 : WP α4) (w5 : WP α5) (m : α0 → α1 → α2 → α3 → α4 → α5 → WP γ) : WP γ := w0.bind fun y0 => w1.bind fun y1 => w2.bind fun y2 => w3.bind fun y3 => w4.bind fun y4 => w5.bind fun y5 => m y0 y1 y2 y3 y4 y5
abbrev b7 {α0 α1 α2 α3 α4 α5 α6 γ : Type} (w0 : WP α0) (w1 : WP α1) (w2 : WP α2) (w3 : WP α3) (w4 : WP α4) (w5 : WP α5) (w6 : WP α6) (m : α0 → α1 → α2 → α3 → α4 → α5 → α6 → WP γ) : WP γ := w0.bind fun y0 => w1.bind fun y1 => w2.bind fun y2 => w3.bind fun y3 => w4.bind fun y4 => w5.bind fun y5 => w6.bind fun y6 => m y0 y1 y2 y3 y4 y5 y6
abbrev b8 {α0 α1 α2 α3 α4 α5 α6 α7 γ : Type} (w0 : WP α0) (w1 : WP α1) (w2 : WP α2) (w3 : WP α3) (w4 : WP α4) (w5 : WP α5) (w6 : WP α6) (w7 : WP α7) (m : α0 → α1 → α2 → α3 → α4 → α5 → α6 → α7 → WP γ) : WP γ := w0.bind fun y0 => w1.bind fun y1 => w2.bind fun y2 => w3.bind fun y3 => w4.bind fun y4 => w5.bind fun y5 => w6.bind fun y6 => w7.bind fun y7 => m y0 y1 y2 y3 y4 y5 y6 y7
abbrev b1 {α γ : Type} (w : WP α) (m : α → WP γ) : WP γ := w.bind m
end WP
theorem ew_call1N {α0 γ : Type} {e : Ef} {σ : L2.St} {W : Wo} {t0 : TE} {sp : Sp} {E : XK} {ρ0 : Rs e α0} {ρ : Rs e γ} {w0 : WP α0} {m : α0 → WP γ} (h0 : EvW e t0 σ W ρ0 w0)
    (hm : ∀ W2 a0 x0, Good e W2 → ρ0.post W2 W2 a0 x0 → ∀ Q : VK, (m a0).run W2.n (fun n b => ∀ v W3, Gw e W2 W3 → W3.n = n → ρ.post W2 W3 b v → Q v W3.H) → ∀ E, sp [x0] W2.H Q E)
    (n0 : ∀ {W1 W2 a x}, ρ0.post W1 W2 a x → ρ0.post W2 W2 a x := by intros; assumption)
    : EvW e (tCall sp [] E (tCons t0 tNil)) σ W ρ (WP.b1 w0 m) := fun W1 g Q q => by
  refine h0 W1 g _ (w0.mono (fun n a0 q x0 V0 g0 hn r0 => ?_) q)
  subst hn
  have gg1 := g0
  exact hm V0 a0 x0 gg1.ok (n0 r0) Q ((m a0).mono (fun n b h v W5 g5 hn r5 => h v W5 (gg1.trans g5) hn (ρ.back gg1 r5)) q) E
theorem ew_call2N {α0 α1 γ : Type} {e : Ef} {σ : L2.St} {W : Wo} {t0 t1 : TE} {sp : Sp} {E : XK} {ρ0 : Rs e α0} {ρ1 : Rs e α1} {ρ : Rs e γ} {w0 : WP α0} {w1 : WP α1} {m : α0 → α1 → WP γ} (h0 : EvW e t0 σ W ρ0 w0) (h1 : EvW e t1 σ W ρ1 w1)
    (hm : ∀ W2 a0 a1 x0 x1, Good e W2 → ρ0.post W2 W2 a0 x0 → ρ1.post W2 W2 a1 x1 → ∀ Q : VK, (m a0 a1).run W2.n (fun n b => ∀ v W3, Gw e W2 W3 → W3.n = n → ρ.post W2 W3 b v → Q v W3.H) → ∀ E, sp [x0, x1] W2.H Q E)
    (n0 : ∀ {W1 W2 a x}, ρ0.post W1 W2 a x → ρ0.post W2 W2 a x := by intros; assumption) (n1 : ∀ {W1 W2 a x}, ρ1.post W1 W2 a x → ρ1.post W2 W2 a x := by intros; assumption)
    : EvW e (tCall sp [] E (tCons t0 (tCons t1 tNil))) σ W ρ (WP.b2 w0 w1 m) := fun W1 g Q q => by
  refine h0 W1 g _ (w0.mono (fun n a0 q x0 V0 g0 hn r0 => ?_) q)
  subst hn
  have gg1 := g0
  refine h1 V0 (g.trans gg1) _ (w1.mono (fun n a1 q x1 V1 g1 hn r1 => ?_) q)
  subst hn
  have gg2 := gg1.trans g1
  have r0 := ρ0.stay g1 r0
  exact hm V1 a0 a1 x0 x1 gg2.ok (n0 r0) (n1 r1) Q ((m a0 a1).mono (fun n b h v W5 g5 hn r5 => h v W5 (gg2.trans g5) hn (ρ.back gg2 r5)) q) E
theorem ew_call3N {α0 α1 α2 γ : Type} {e : Ef} {σ : L2.St} {W : Wo} {t0 t1 t2 : TE} {sp : Sp} {E : XK} {ρ0 : Rs e α0} {ρ1 : Rs e α1} {ρ2 : Rs e α2} {ρ : Rs e γ} {w0 : WP α0} {w1 : WP α1} {w2 : WP α2} {m : α0 → α1 → α2 → WP γ} (h0 : EvW e t0 σ W ρ0 w0) (h1 : EvW e t1 σ W ρ1 w1) (h2 : EvW e t2 σ W ρ2 w2)
    (hm : ∀ W2 a0 a1 a2 x0 x1 x2, Good e W2 → ρ0.post W2 W2 a0 x0 → ρ1.post W2 W2 a1 x1 → ρ2.post W2 W2 a2 x2 → ∀ Q : VK, (m a0 a1 a2).run W2.n (fun n b => ∀ v W3, Gw e W2 W3 → W3.n = n → ρ.post W2 W3 b v → Q v W3.H) → ∀ E, sp [x0, x1, x2] W2.H Q E)
    (n0 : ∀ {W1 W2 a x}, ρ0.post W1 W2 a x → ρ0.post W2 W2 a x := by intros; assumption) (n1 : ∀ {W1 W2 a x}, ρ1.post W1 W2 a x → ρ1.post W2 W2 a x := by intros; assumption) (n2 : ∀ {W1 W2 a x}, ρ2.post W1 W2 a x → ρ2.post W2 W2 a x := by intros; assumption)
    : EvW e (tCall sp [] E (tCons t0 (tCons t1 (tCons t2 tNil)))) σ W ρ (WP.b3 w0 w1 w2 m) := fun W1 g Q q => by
  refine h0 W1 g _ (w0.mono (fun n a0 q x0 V0 g0 hn r0 => ?_) q)
  subst hn
  have gg1 := g0
  refine h1 V0 (g.trans gg1) _ (w1.mono (fun n a1 q x1 V1 g1 hn r1 => ?_) q)
  subst hn
  have gg2 := gg1.trans g1
  have r0 := ρ0.stay g1 r0
  refine h2 V1 (g.trans gg2) _ (w2.mono (fun n a2 q x2 V2 g2 hn r2 => ?_) q)
  subst hn
  have gg3 := gg2.trans g2
  have r0 := ρ0.stay g2 r0
  have r1 := ρ1.stay g2 r1
  exact hm V2 a0 a1 a2 x0 x1 x2 gg3.ok (n0 r0) (n1 r1) (n2 r2) Q ((m a0 a1 a2).mono (fun n b h v W5 g5 hn r5 => h v W5 (gg3.trans g5) hn (ρ.back gg3 r5)) q) E
theorem ew_call4N {α0 α1 α2 α3 γ : Type} {e : Ef} {σ : L2.St} {W : Wo} {t0 t1 t2 t3 : TE} {sp : Sp} {E : XK} {ρ0 : Rs e α0} {ρ1 : Rs e α1} {ρ2 : Rs e α2} {ρ3 : Rs e α3} {ρ : Rs e γ} {w0 : WP α0} {w1 : WP α1} {w2 : WP α2} {w3 : WP α3} {m : α0 → α1 → α2 → α3 → WP γ} (h0 : EvW e t0 σ W ρ0 w0) (h1 : EvW e t1 σ W ρ1 w1) (h2 : EvW e t2 σ W ρ2 w2) (h3 : EvW e t3 σ W ρ3 w3)
    (hm : ∀ W2 a0 a1 a2 a3 x0 x1 x2 x3, Good e W2 → ρ0.post W2 W2 a0 x0 → ρ1.post W2 W2 a1 x1 → ρ2.post W2 W2 a2 x2 → ρ3.post W2 W2 a3 x3 → ∀ Q : VK, (m a0 a1 a2 a3).run W2.n (fun n b => ∀ v W3, Gw e W2 W3 → W3.n = n → ρ.post W2 W3 b v → Q v W3.H) → ∀ E, sp [x0, x1, x2, x3] W2.H Q E)
    (n0 : ∀ {W1 W2 a x}, ρ0.post W1 W2 a x → ρ0.post W2 W2 a x := by intros; assumption) (n1 : ∀ {W1 W2 a x}, ρ1.post W1 W2 a x → ρ1.post W2 W2 a x := by intros; assumption) (n2 : ∀ {W1 W2 a x}, ρ2.post W1 W2 a x → ρ2.post W2 W2 a x := by intros; assumption) (n3 : ∀ {W1 W2 a x}, ρ3.post W1 W2 a x → ρ3.post W2 W2 a x := by intros; assumption)
    : EvW e (tCall sp [] E (tCons t0 (tCons t1 (tCons t2 (tCons t3 tNil))))) σ W ρ (WP.b4 w0 w1 w2 w3 m) := fun W1 g Q q => by
  refine h0 W1 g _ (w0.mono (fun n a0 q x0 V0 g0 hn r0 => ?_) q)
  subst hn
  have gg1 := g0
  refine h1 V0 (g.trans gg1) _ (w1.mono (fun n a1 q x1 V1 g1 hn r1 => ?_) q)
  subst hn
  have gg2 := gg1.trans g1
  have r0 := ρ0.stay g1 r0
  refine h2 V1 (g.trans gg2) _ (w2.mono (fun n a2 q x2 V2 g2 hn r2 => ?_) q)
  subst hn
  have gg3 := gg2.trans g2
  have r0 := ρ0.stay g2 r0
  have r1 := ρ1.stay g2 r1
  refine h3 V2 (g.trans gg3) _ (w3.mono (fun n a3 q x3 V3 g3 hn r3 => ?_) q)
  subst hn
  have gg4 := gg3.trans g3
  have r0 := ρ0.stay g3 r0
  have r1 := ρ1.stay g3 r1
  have r2 := ρ2.stay g3 r2
  exact hm V3 a0 a1 a2 a3 x0 x1 x2 x3 gg4.ok (n0 r0) (n1 r1) (n2 r2) (n3 r3) Q ((m a0 a1 a2 a3).mono (fun n b h v W5 g5 hn r5 => h v W5 (gg4.trans g5) hn (ρ.back gg4 r5)) q) E
theorem ew_call5N {α0 α1 α2 α3 α4 γ : Type} {e : Ef} {σ : L2.St} {W : Wo} {t0 t1 t2 t3 t4 : TE} {sp : Sp} {E : XK} {ρ0 : Rs e α0} {ρ1 : Rs e α1} {ρ2 : Rs e α2} {ρ3 : Rs e α3} {ρ4 : Rs e α4} {ρ : Rs e γ} {w0 : WP α0} {w1 : WP α1} {w2 : WP α2} {w3 : WP α3} {w4 : WP α4} {m : α0 → α1 → α2 → α3 → α4 → WP γ} (h0 : EvW e t0 σ W ρ0 w0) (h1 : EvW e t1 σ W ρ1 w1) (h2 : EvW e t2 σ W ρ2 w2) (h3 : EvW e t3 σ W ρ3 w3) (h4 : EvW e t4 σ W ρ4 w4)
    (hm : ∀ W2 a0 a1 a2 a3 a4 x0 x1 x2 x3 x4, Good e W2 → ρ0.post W2 W2 a0 x0 → ρ1.post W2 W2 a1 x1 → ρ2.post W2 W2 a2 x2 → ρ3.post W2 W2 a3 x3 → ρ4.post W2 W2 a4 x4 → ∀ Q : VK, (m a0 a1 a2 a3 a4).run W2.n (fun n b => ∀ v W3, Gw e W2 W3 → W3.n = n → ρ.post W2 W3 b v → Q v W3.H) → ∀ E, sp [x0, x1, x2, x3, x4] W2.H Q E)
    (n0 : ∀ {W1 W2 a x}, ρ0.post W1 W2 a x → ρ0.post W2 W2 a x := by intros; assumption) (n1 : ∀ {W1 W2 a x}, ρ1.post W1 W2 a x → ρ1.post W2 W2 a x := by intros; assumption) (n2 : ∀ {W1 W2 a x}, ρ2.post W1 W2 a x → ρ2.post W2 W2 a x := by intros; assumption) (n3 : ∀ {W1 W2 a x}, ρ3.post W1 W2 a x → ρ3.post W2 W2 a x := by intros; assumption) (n4 : ∀ {W1 W2 a x}, ρ4.post W1 W2 a x → ρ4.post W2 W2 a x := by intros; assumption)
    : EvW e (tCall sp [] E (tCons t0 (tCons t1 (tCons t2 (tCons t3 (tCons t4 tNil)))))) σ W ρ (WP.b5 w0 w1 w2 w3 w4 m) := fun W1 g Q q => by
  refine h0 W1 g _ (w0.mono (fun n a0 q x0 V0 g0 hn r0 => ?_) q)
  subst hn
  have gg1 := g0
  refine h1 V0 (g.trans gg1) _ (w1.mono (fun n a1 q x1 V1 g1 hn r1 => ?_) q)
  subst hn
  have gg2 := gg1.trans g1
  have r0 := ρ0.stay g1 r0
  refine h2 V1 (g.trans gg2) _ (w2.mono (fun n a2 q x2 V2 g2 hn r2 => ?_) q)
  subst hn
  have gg3 := gg2.trans g2
  have r0 := ρ0.stay g2 r0
  have r1 := ρ1.stay g2 r1
  refine h3 V2 (g.trans gg3) _ (w3.mono (fun n a3 q x3 V3 g3 hn r3 => ?_) q)
  subst hn
  have gg4 := gg3.trans g3
  have r0 := ρ0.stay g3 r0
  have r1 := ρ1.stay g3 r1
  have r2 := ρ2.stay g3 r2
  refine h4 V3 (g.trans gg4) _ (w4.mono (fun n a4 q x4 V4 g4 hn r4 => ?_) q)
  subst hn
  have gg5 := gg4.trans g4
  have r0 := ρ0.stay g4 r0
  have r1 := ρ1.stay g4 r1
  have r2 := ρ2.stay g4 r2
  have r3 := ρ3.stay g4 r3
  exact hm V4 a0 a1 a2 a3 a4 x0 x1 x2 x3 x4 gg5.ok (n0 r0) (n1 r1) (n2 r2) (n3 r3) (n4 r4) Q ((m a0 a1 a2 a3 a4).mono (fun n b h v W5 g5 hn r5 => h v W5 (gg5.trans g5) hn (ρ.back gg5 r5)) q) E
theorem ew_call6N {α0 α1 α2 α3 α4 α5 γ : Type} {e : Ef} {σ : L2.St} {W : Wo} {t0 t1 t2 t3 t4 t5 : TE} {sp : Sp} {E : XK} {ρ0 : Rs e α0} {ρ1 : Rs e α1} {ρ2 : Rs e α2} {ρ3 : Rs e α3} {ρ4 : Rs e α4} {ρ5 : Rs e α5} {ρ : Rs e γ} {w0 : WP α0} {w1 : WP α1} {w2 : WP α2} {w3 : WP α3} {w4 : WP α4} {w5 : WP α5} {m : α0 → α1 → α2 → α3 → α4 → α5 → WP γ} (h0 : EvW e t0 σ W ρ0 w0) (h1 : EvW e t1 σ W ρ1 w1) (h2 : EvW e t2 σ W ρ2 w2) (h3 : EvW e t3 σ W ρ3 w3) (h4 : EvW e t4 σ W ρ4 w4) (h5 : EvW e t5 σ W ρ5 w5)
    (hm : ∀ W2 a0 a1 a2 a3 a4 a5 x0 x1 x2 x3 x4 x5, Good e W2 → ρ0.post W2 W2 a0 x0 → ρ1.post W2 W2 a1 x1 → ρ2.post W2 W2 a2 x2 → ρ3.post W2 W2 a3 x3 → ρ4.post W2 W2 a4 x4 → ρ5.post W2 W2 a5 x5 → ∀ Q : VK, (m a0 a1 a2 a3 a4 a5).run W2.n (fun n b => ∀ v W3, Gw e W2 W3 → W3.n = n → ρ.post W2 W3 b v → Q v W3.H) → ∀ E, sp [x0, x1, x2, x3, x4, x5] W2.H Q E)
    (n0 : ∀ {W1 W2 a x}, ρ0.post W1 W2 a x → ρ0.post W2 W2 a x := by intros; assumption) (n1 : ∀ {W1 W2 a x}, ρ1.post W1 W2 a x → ρ1.post W2 W2 a x := by intros; assumption) (n2 : ∀ {W1 W2 a x}, ρ2.post W1 W2 a x → ρ2.post W2 W2 a x := by intros; assumption) (n3 : ∀ {W1 W2 a x}, ρ3.post W1 W2 a x → ρ3.post W2 W2 a x := by intros; assumption) (n4 : ∀ {W1 W2 a x}, ρ4.post W1 W2 a x → ρ4.post W2 W2 a x := by intros; assumption) (n5 : ∀ {W1 W2 a x}, ρ5.post W1 W2 a x → ρ5.post W2 W2 a x := by intros; assumption)
    : EvW e (tCall sp [] E (tCons t0 (tCons t1 (tCons t2 (tCons t3 (tCons t4 (tCons t5 tNil))))))) σ W ρ (WP.b6 w0 w1 w2 w3 w4 w5 m) := fun W1 g Q q => by
  refine h0 W1 g _ (w0.mono (fun n a0 q x0 V0 g0 hn r0 => ?_) q)
  subst hn
  have gg1 := g0
  refine h1 V0 (g.trans gg1) _ (w1.mono (fun n a1 q x1 V1 g1 hn r1 => ?_) q)
  subst hn
  have gg2 := gg1.trans g1
  have r0 := ρ0.stay g1 r0
  refine h2 V1 (g.trans gg2) _ (w2.mono (fun n a2 q x2 V2 g2 hn r2 => ?_) q)
  subst hn
  have gg3 := gg2.trans g2
  have r0 := ρ0.stay g2 r0
  have r1 := ρ1.stay g2 r1
  refine h3 V2 (g.trans gg3) _ (w3.mono (fun n a3 q x3 V3 g3 hn r3 => ?_) q)
  subst hn
  have gg4 := gg3.trans g3
  have r0 := ρ0.stay g3 r0
  have r1 := ρ1.stay g3 r1
  have r2 := ρ2.stay g3 r2
  refine h4 V3 (g.trans gg4) _ (w4.mono (fun n a4 q x4 V4 g4 hn r4 => ?_) q)
  subst hn
  have gg5 := gg4.trans g4
  have r0 := ρ0.stay g4 r0
  have r1 := ρ1.stay g4 r1
  have r2 := ρ2.stay g4 r2
  have r3 := ρ3.stay g4 r3
  refine h5 V4 (g.trans gg5) _ (w5.mono (fun n a5 q x5 V5 g5 hn r5 => ?_) q)
  subst hn
  have gg6 := gg5.trans g5
  have r0 := ρ0.stay g5 r0
  have r1 := ρ1.stay g5 r1
  have r2 := ρ2.stay g5 r2
  have r3 := ρ3.stay g5 r3
  have r4 := ρ4.stay g5 r4
  exact hm V5 a0 a1 a2 a3 a4 a5 x0 x1 x2 x3 x4 x5 gg6.ok (n0 r0) (n1 r1) (n2 r2) (n3 r3) (n4 r4) (n5 r5) Q ((m a0 a1 a2 a3 a4 a5).mono (fun n b h v W5 g5 hn r5 => h v W5 (gg6.trans g5) hn (ρ.back gg6 r5)) q) E
theorem ew_call7N {α0 α1 α2 α3 α4 α5 α6 γ : Type} {e : Ef} {σ : L2.St} {W : Wo} {t0 t1 t2 t3 t4 t5 t6 : TE} {sp : Sp} {E : XK} {ρ0 : Rs e α0} {ρ1 : Rs e α1} {ρ2 : Rs e α2} {ρ3 : Rs e α3} {ρ4 : Rs e α4} {ρ5 : Rs e α5} {ρ6 : Rs e α6} {ρ : Rs e γ} {w0 : WP α0} {w1 : WP α1} {w2 : WP α2} {w3 : WP α3} {w4 : WP α4} {w5 : WP α5} {w6 : WP α6} {m : α0 → α1 → α2 → α3 → α4 → α5 → α6 → WP γ} (h0 : EvW e t0 σ W ρ0 w0) (h1 : EvW e t1 σ W ρ1 w1) (h2 : EvW e t2 σ W ρ2 w2) (h3 : EvW e t3 σ W ρ3 w3) (h4 : EvW e t4 σ W ρ4 w4) (h5 : EvW e t5 σ W ρ5 w5) (h6 : EvW e t6 σ W ρ6 w6)
    (hm : ∀ W2 a0 a1 a2 a3 a4 a5 a6 x0 x1 x2 x3 x4 x5 x6, Good e W2 → ρ0.post W2 W2 a0 x0 → ρ1.post W2 W2 a1 x1 → ρ2.post W2 W2 a2 x2 → ρ3.post W2 W2 a3 x3 → ρ4.post W2 W2 a4 x4 → ρ5.post W2 W2 a5 x5 → ρ6.post W2 W2 a6 x6 → ∀ Q : VK, (m a0 a1 a2 a3 a4 a5 a6).run W2.n (fun n b => ∀ v W3, Gw e W2 W3 → W3.n = n → ρ.post W2 W3 b v → Q v W3.H) → ∀ E, sp [x0, x1, x2, x3, x4, x5, x6] W2.H Q E)
    (n0 : ∀ {W1 W2 a x}, ρ0.post W1 W2 a x → ρ0.post W2 W2 a x := by intros; assumption) (n1 : ∀ {W1 W2 a x}, ρ1.post W1 W2 a x → ρ1.post W2 W2 a x := by intros; assumption) (n2 : ∀ {W1 W2 a x}, ρ2.post W1 W2 a x → ρ2.post W2 W2 a x := by intros; assumption) (n3 : ∀ {W1 W2 a x}, ρ3.post W1 W2 a x → ρ3.post W2 W2 a x := by intros; assumption) (n4 : ∀ {W1 W2 a x}, ρ4.post W1 W2 a x → ρ4.post W2 W2 a x := by intros; assumption) (n5 : ∀ {W1 W2 a x}, ρ5.post W1 W2 a x → ρ5.post W2 W2 a x := by intros; assumption) (n6 : ∀ {W1 W2 a x}, ρ6.post W1 W2 a x → ρ6.post W2 W2 a x := by intros; assumption)
    : EvW e (tCall sp [] E (tCons t0 (tCons t1 (tCons t2 (tCons t3 (tCons t4 (tCons t5 (tCons t6 tNil)))))))) σ W ρ (WP.b7 w0 w1 w2 w3 w4 w5 w6 m) := fun W1 g Q q => by
  refine h0 W1 g _ (w0.mono (fun n a0 q x0 V0 g0 hn r0 => ?_) q)
  subst hn
  have gg1 := g0
  refine h1 V0 (g.trans gg1) _ (w1.mono (fun n a1 q x1 V1 g1 hn r1 => ?_) q)
  subst hn
  have gg2 := gg1.trans g1
  have r0 := ρ0.stay g1 r0
  refine h2 V1 (g.trans gg2) _ (w2.mono (fun n a2 q x2 V2 g2 hn r2 => ?_) q)
  subst hn
  have gg3 := gg2.trans g2
  have r0 := ρ0.stay g2 r0
  have r1 := ρ1.stay g2 r1
  refine h3 V2 (g.trans gg3) _ (w3.mono (fun n a3 q x3 V3 g3 hn r3 => ?_) q)
  subst hn
  have gg4 := gg3.trans g3
  have r0 := ρ0.stay g3 r0
  have r1 := ρ1.stay g3 r1
  have r2 := ρ2.stay g3 r2
  refine h4 V3 (g.trans gg4) _ (w4.mono (fun n a4 q x4 V4 g4 hn r4 => ?_) q)
  subst hn
  have gg5 := gg4.trans g4
  have r0 := ρ0.stay g4 r0
  have r1 := ρ1.stay g4 r1
  have r2 := ρ2.stay g4 r2
  have r3 := ρ3.stay g4 r3
  refine h5 V4 (g.trans gg5) _ (w5.mono (fun n a5 q x5 V5 g5 hn r5 => ?_) q)
  subst hn
  have gg6 := gg5.trans g5
  have r0 := ρ0.stay g5 r0
  have r1 := ρ1.stay g5 r1
  have r2 := ρ2.stay g5 r2
  have r3 := ρ3.stay g5 r3
  have r4 := ρ4.stay g5 r4
  refine h6 V5 (g.trans gg6) _ (w6.mono (fun n a6 q x6 V6 g6 hn r6 => ?_) q)
  subst hn
  have gg7 := gg6.trans g6
  have r0 := ρ0.stay g6 r0
  have r1 := ρ1.stay g6 r1
  have r2 := ρ2.stay g6 r2
  have r3 := ρ3.stay g6 r3
  have r4 := ρ4.stay g6 r4
  have r5 := ρ5.stay g6 r5
  exact hm V6 a0 a1 a2 a3 a4 a5 a6 x0 x1 x2 x3 x4 x5 x6 gg7.ok (n0 r0) (n1 r1) (n2 r2) (n3 r3) (n4 r4) (n5 r5) (n6 r6) Q ((m a0 a1 a2 a3 a4 a5 a6).mono (fun n b h v W5 g5 hn r5 => h v W5 (gg7.trans g5) hn (ρ.back gg7 r5)) q) E
theorem ew_call8N {α0 α1 α2 α3 α4 α5 α6 α7 γ : Type} {e : Ef} {σ : L2.St} {W : Wo} {t0 t1 t2 t3 t4 t5 t6 t7 : TE} {sp : Sp} {E : XK} {ρ0 : Rs e α0} {ρ1 : Rs e α1} {ρ2 : Rs e α2} {ρ3 : Rs e α3} {ρ4 : Rs e α4} {ρ5 : Rs e α5} {ρ6 : Rs e α6} {ρ7 : Rs e α7} {ρ : Rs e γ} {w0 : WP α0} {w1 : WP α1} {w2 : WP α2} {w3 : WP α3} {w4 : WP α4} {w5 : WP α5} {w6 : WP α6} {w7 : WP α7} {m : α0 → α1 → α2 → α3 → α4 → α5 → α6 → α7 → WP γ} (h0 : EvW e t0 σ W ρ0 w0) (h1 : EvW e t1 σ W ρ1 w1) (h2 : EvW e t2 σ W ρ2 w2) (h3 : EvW e t3 σ W ρ3 w3) (h4 : EvW e t4 σ W ρ4 w4) (h5 : EvW e t5 σ W ρ5 w5) (h6 : EvW e t6 σ W ρ6 w6) (h7 : EvW e t7 σ W ρ7 w7)
    (hm : ∀ W2 a0 a1 a2 a3 a4 a5 a6 a7 x0 x1 x2 x3 x4 x5 x6 x7, Good e W2 → ρ0.post W2 W2 a0 x0 → ρ1.post W2 W2 a1 x1 → ρ2.post W2 W2 a2 x2 → ρ3.post W2 W2 a3 x3 → ρ4.post W2 W2 a4 x4 → ρ5.post W2 W2 a5 x5 → ρ6.post W2 W2 a6 x6 → ρ7.post W2 W2 a7 x7 → ∀ Q : VK, (m a0 a1 a2 a3 a4 a5 a6 a7).run W2.n (fun n b => ∀ v W3, Gw e W2 W3 → W3.n = n → ρ.post W2 W3 b v → Q v W3.H) → ∀ E, sp [x0, x1, x2, x3, x4, x5, x6, x7] W2.H Q E)
    (n0 : ∀ {W1 W2 a x}, ρ0.post W1 W2 a x → ρ0.post W2 W2 a x := by intros; assumption) (n1 : ∀ {W1 W2 a x}, ρ1.post W1 W2 a x → ρ1.post W2 W2 a x := by intros; assumption) (n2 : ∀ {W1 W2 a x}, ρ2.post W1 W2 a x → ρ2.post W2 W2 a x := by intros; assumption) (n3 : ∀ {W1 W2 a x}, ρ3.post W1 W2 a x → ρ3.post W2 W2 a x := by intros; assumption) (n4 : ∀ {W1 W2 a x}, ρ4.post W1 W2 a x → ρ4.post W2 W2 a x := by intros; assumption) (n5 : ∀ {W1 W2 a x}, ρ5.post W1 W2 a x → ρ5.post W2 W2 a x := by intros; assumption) (n6 : ∀ {W1 W2 a x}, ρ6.post W1 W2 a x → ρ6.post W2 W2 a x := by intros; assumption) (n7 : ∀ {W1 W2 a x}, ρ7.post W1 W2 a x → ρ7.post W2 W2 a x := by intros; assumption)
    : EvW e (tCall sp [] E (tCons t0 (tCons t1 (tCons t2 (tCons t3 (tCons t4 (tCons t5 (tCons t6 (tCons t7 tNil))))))))) σ W ρ (WP.b8 w0 w1 w2 w3 w4 w5 w6 w7 m) := fun W1 g Q q => by
  refine h0 W1 g _ (w0.mono (fun n a0 q x0 V0 g0 hn r0 => ?_) q)
  subst hn
  have gg1 := g0
  refine h1 V0 (g.trans gg1) _ (w1.mono (fun n a1 q x1 V1 g1 hn r1 => ?_) q)
  subst hn
  have gg2 := gg1.trans g1
  have r0 := ρ0.stay g1 r0
  refine h2 V1 (g.trans gg2) _ (w2.mono (fun n a2 q x2 V2 g2 hn r2 => ?_) q)
  subst hn
  have gg3 := gg2.trans g2
  have r0 := ρ0.stay g2 r0
  have r1 := ρ1.stay g2 r1
  refine h3 V2 (g.trans gg3) _ (w3.mono (fun n a3 q x3 V3 g3 hn r3 => ?_) q)
  subst hn
  have gg4 := gg3.trans g3
  have r0 := ρ0.stay g3 r0
  have r1 := ρ1.stay g3 r1
  have r2 := ρ2.stay g3 r2
  refine h4 V3 (g.trans gg4) _ (w4.mono (fun n a4 q x4 V4 g4 hn r4 => ?_) q)
  subst hn
  have gg5 := gg4.trans g4
  have r0 := ρ0.stay g4 r0
  have r1 := ρ1.stay g4 r1
  have r2 := ρ2.stay g4 r2
  have r3 := ρ3.stay g4 r3
  refine h5 V4 (g.trans gg5) _ (w5.mono (fun n a5 q x5 V5 g5 hn r5 => ?_) q)
  subst hn
  have gg6 := gg5.trans g5
  have r0 := ρ0.stay g5 r0
  have r1 := ρ1.stay g5 r1
  have r2 := ρ2.stay g5 r2
  have r3 := ρ3.stay g5 r3
  have r4 := ρ4.stay g5 r4
  refine h6 V5 (g.trans gg6) _ (w6.mono (fun n a6 q x6 V6 g6 hn r6 => ?_) q)
  subst hn
  have gg7 := gg6.trans g6
  have r0 := ρ0.stay g6 r0
  have r1 := ρ1.stay g6 r1
  have r2 := ρ2.stay g6 r2
  have r3 := ρ3.stay g6 r3
  have r4 := ρ4.stay g6 r4
  have r5 := ρ5.stay g6 r5
  refine h7 V6 (g.trans gg7) _ (w7.mono (fun n a7 q x7 V7 g7 hn r7 => ?_) q)
  subst hn
  have gg8 := gg7.trans g7
  have r0 := ρ0.stay g7 r0
  have r1 := ρ1.stay g7 r1
  have r2 := ρ2.stay g7 r2
  have r3 := ρ3.stay g7 r3
  have r4 := ρ4.stay g7 r4
  have r5 := ρ5.stay g7 r5
  have r6 := ρ6.stay g7 r6
  exact hm V7 a0 a1 a2 a3 a4 a5 a6 a7 x0 x1 x2 x3 x4 x5 x6 x7 gg8.ok (n0 r0) (n1 r1) (n2 r2) (n3 r3) (n4 r4) (n5 r5) (n6 r6) (n7 r7) Q ((m a0 a1 a2 a3 a4 a5 a6 a7).mono (fun n b h v W5 g5 hn r5 => h v W5 (gg8.trans g5) hn (ρ.back gg8 r5)) q) E

theorem Var.nS {κ : Type} {k : Kd κ} {e : Ef} {W0 W : Wo} {fp : List Addr} {x : κ} {v : V} (g : Good e W0) (h : Var k W0 W fp x v) : ∀ a ∈ fp, ¬ e.S a := fun a m s => g.S a s (h.fr a m)
/-- the result of a pure def, told where more may happen -/
theorem sN_up {κ : Type} {k : Kd κ} {e : Ef} {W W' : Wo} {x : κ} {v : V} (g : Good e W) (h : (sN (e := ef0) k).post W W' x v) : (sN (e := e) k).post W W' x v := by
  obtain ⟨fp, h1, h2⟩ := h
  exact ⟨fp, h1, fun a m => ⟨(h2 a m).1, fun s => g.S a s (h2 a m).1, (h2 a m).2.2⟩⟩
end Y

namespace Y
open PySem PySem.Spec PyProof.Rows L2
section
variable {α β γ δ s ρ' : Type} {K : PySem.W.Frag} {e : Ef} {σ : L2.St} {W : Wo} {ta tb te tc tl : TE} {t u : TT} {i j k m n : Nat} {v : V} {D : Ends} {tu tw tz : TS} {ρ : Rs e α} {w : WP α} {R : Nat → β → Prop}
theorem q_forV [PyI α] {g : TG} {T : α → Wo → L2.St → L2.St → Prop} (ht : Tk g T) {xs : List α} {body : α → s → WP (Ctl s γ)} {f : s → WP β} {r : γ → WP β} {x0 : s} {p : Addr} {vs : List V} (hv : σ[i]? = some (some (.ref p))) (hp : W.H p = some (.lst vs)) (hr : Rps W xs vs) (hm : (WP.after (WP.loop body xs x0) f r).run W.n R)
    (INV : s → L2.St → Wo → Prop) (h0 : INV x0 σ W) (keep : ∀ y σ' W', INV y σ' W' → St W W' ∧ W'.H p = some (.lst vs)) (step : Turn INV body r R { D with nx := tz D } tu T) (hd : ∀ y σ' W', INV y σ' W' → (f y).run W'.n R → tz D σ' W'.H) : tSeq (tFor (iList K (tVar i)) g tu) tz D σ W.H := st_forV (D := { D with nx := tz D }) ht hv hp hr hm INV h0 keep step hd
theorem q_forN [PyI α] {gt : TG} {T : α → Wo → L2.St → L2.St → Prop} (ht : Tk gt T) {w : WP (List α)} {body : α → s → WP (Ctl s γ)} {f : s → WP β} {r : γ → WP β} {x0 : s} (h : EvW e tl σ W (sN (kL α)) w) (g : Good e W) (hm : (w.bind fun xs => WP.after (WP.loop body xs x0) f r).run W.n R)
    (q : ∀ (xs : List α) p vs W1, Gw e W W1 → W.H p = none → ¬ W1.F p → W1.H p = some (.lst vs) → Rps W1 xs vs → ∃ INV : s → L2.St → Wo → Prop, INV x0 σ W1 ∧ (∀ y σ' W', INV y σ' W' → St W1 W' ∧ W'.H p = some (.lst vs)) ∧ Turn INV body r R { D with nx := tz D } tu T ∧ ∀ y σ' W', INV y σ' W' → (f y).run W'.n R → tz D σ' W'.H) : tSeq (tFor (iList K tl) gt tu) tz D σ W.H := st_forN (D := { D with nx := tz D }) ht h g hm q
theorem q_forT [PyI α] {gt : TG} {T : α → Wo → L2.St → L2.St → Prop} (ht : Tk gt T) {w : WP (List α)} {body : α → s → WP (Ctl s γ)} {f : s → WP β} {r : γ → WP β} {x0 : s} (h : EvW e tl σ W sI w) (g : Good e W) (hm : (w.bind fun xs => WP.after (WP.loop body xs x0) f r).run W.n R)
    (q : ∀ (xs : List α) W1, Gw e W W1 → ∃ INV : s → L2.St → Wo → Prop, INV x0 σ W1 ∧ (∀ y σ' W', INV y σ' W' → St W1 W') ∧ Turn INV body r R { D with nx := tz D } tu T ∧ ∀ y σ' W', INV y σ' W' → (f y).run W'.n R → tz D σ' W'.H) : tSeq (tFor (iTup K tl) gt tu) tz D σ W.H := st_forT (D := { D with nx := tz D }) ht h g hm q
theorem q_forR1 {w : WP Int} {body : Int → s → WP (Ctl s γ)} {f : s → WP β} {r : γ → WP β} {x0 : s} (h : EvW e te σ W sI w) (g : Good e W) (hm : ((WP.range1 w).bind fun xs => WP.after (WP.loop body xs x0) f r).run W.n R)
    (q : ∀ W1, Gw e W W1 → ∃ INV : s → L2.St → Wo → Prop, INV x0 σ W1 ∧ Turn INV body r R { D with nx := tz D } tu (TkN j) ∧ ∀ y σ' W', INV y σ' W' → (f y).run W'.n R → tz D σ' W'.H) : tSeq (tFor (iRng1 (tCons te tNil)) (gName j) tu) tz D σ W.H := st_forR1 (D := { D with nx := tz D }) h g hm q
theorem q_while {c : s → WP Bool} {body : s → WP (Ctl s γ)} {f : s → WP β} {r : γ → WP β} {x0 : s} (g : Good e W) (hm : (WP.after (WP.whilst c body x0) f r).run W.n R) (INV : s → L2.St → Wo → Prop) (h0 : INV x0 σ W)
    (hs : ∀ y σ' W', INV y σ' W' → Good e W' ∧ EvT e t σ' W' (c y) ∧ ∀ W1, Gw e W' W1 →
      (∀ R' (nx : L2.St → Hp → Prop), (body y).run W1.n R' → (∀ y' σ'' W'', INV y' σ'' W'' → R' W''.n (.nx y') → nx σ'' W''.H) → (∀ y' σ'' W'', INV y' σ'' W'' → R' W''.n (.bk y') → tz D σ'' W''.H) → (∀ n x, R' n (.rt x) → (r x).run n R) → tu { D with nx := nx, ct := nx, bk := tz D } σ' W1.H) ∧ INV y σ' W1)
    (hd : ∀ y σ' W', INV y σ' W' → (f y).run W'.n R → tz D σ' W'.H) : tSeq (tWhile t tu) tz D σ W.H := st_while (D := { D with nx := tz D }) g hm INV h0 hs hd
theorem st_retV {i : Nat} (hv : σ[i]? = some (some v)) (q : D.rt v W.H) : tRet (tVar i) D σ W.H := ⟨v, hv, q⟩
theorem st_break (h : D.bk σ W.H) : tBreak D σ W.H := h
theorem st_cont (h : D.ct σ W.H) : tCont D σ W.H := h
theorem own_list [PyI α] {fp : List Addr} {xs : List α} (h : (kL α).own W fp xs v) : ∃ p vs, fp = [p] ∧ v = .ref p ∧ W.H p = some (.lst vs) ∧ Rps W xs vs := h
theorem mem_one {a p : Addr} (h : a ∈ [p]) : a = p := List.mem_singleton.mp h
theorem ew_some [PyI α] {w : WP Int} (h : EvW e te σ W sI w) : EvW e te σ W sI (w.bind fun x => WP.pure (some x)) := fun W1 g Q q => h W1 g Q (w.mono (fun n a hq v W2 g2 hn r => hq v W2 g2 hn (by cases r; exact ⟨(fun z => by cases z), rfl⟩)) q)
end
end Y
/-! lists of lists, texts joined, more things built in -/
namespace Y
open PySem PySem.Spec PyProof.Rows L2
def VRow {α : Type} [PyI α] (e : Ef) (W : Wo) (xs : List α) (x : V) : Prop := ∃ fp, (kL α).own W fp xs x ∧ ∀ b ∈ fp, ¬ e.S b
def TgR {α : Type} [PyI α] (e : Ef) (σ : L2.St) (vs0 : List Nat) (j : Nat) : List α → Wo → L2.St → Prop := fun a W s2 => ∃ x fp, s2 = (wipe σ vs0).set j (some x) ∧ (kL α).own W fp a x ∧ ∀ b ∈ fp, ¬ e.S b
/-- a list of lists changed by place -/
def setL {α : Type} (xs : List α) (r : Int) (v : α) : List α := match ixN xs.length r with | some i => xs.set i v | none => xs
def setG {α : Type} (xss : List (List α)) (r c : Int) (v : α) : List (List α) := setL xss r (setL (ixD xss r) c v)
theorem ixN_ok {n : Nat} {x : Int} (h : okI n x) : ∃ i, ixN n x = some i ∧ i < n := by
  unfold ixN
  obtain ⟨h1, h2⟩ := h
  by_cases h0 : 0 ≤ x
  · rw [if_pos h0, if_pos h2]; exact ⟨_, rfl, by omega⟩
  · rw [if_neg h0, if_pos h1]; exact ⟨_, rfl, by omega⟩
theorem setL_ok {α : Type} {xs : List α} {r : Int} {i : Nat} {v : α} (h : ixN xs.length r = some i) : setL xs r v = xs.set i v := by unfold setL; rw [h]
theorem ixD_ok {α : Type} [Inhabited α] {xs : List α} {r : Int} {i : Nat} (h : ixN xs.length r = some i) (hl : i < xs.length) : ixD xs r = xs[i] := by
  unfold ixD atI
  rw [h]
  show xs[i]?.getD default = _
  rw [List.getElem?_eq_getElem hl]; rfl
theorem paired_get {α β : Type} {F : α → β → Prop} : ∀ {l1 : List α} {l2 : List β}, l1.length = l2.length → (∀ (i : Nat) a b, l1[i]? = some a → l2[i]? = some b → F a b) → Paired F l1 l2
  | [], [], _, _ => .nil
  | [], _ :: _, h, _ => by simp at h
  | _ :: _, [], h, _ => by simp at h
  | a :: as, b :: bs, h, f => .cons (f 0 a b rfl rfl) (paired_get (by simpa using h) fun i x y hx hy => f (i + 1) x y hx hy)
namespace WP
variable {α β γ : Type}
def none {β : Type} {b : β} : WP α := ⟨fun _ _ => False, fun _ h => h⟩
abbrev join (s : WP Str) (xs : WP (List Str)) : WP Str := b2 s xs fun a ys => req ((ys.map (·.length)).sum + ys.length * a.length ≤ 1000000) (Txt.join a ys)
abbrev gset [Inhabited α] (xss : List (List α)) (a : WP α) (b c : WP Int) : WP (List (List α)) := a.bind fun v => b.bind fun r => (req (okI xss.length r) r).bind fun r => c.bind fun k => req (okI (ixD xss r).length k) (setG xss r k v)
abbrev min4 (a b c d : WP Int) : WP Int := b4 a b c d fun x y z w => pure (min (min x y) (min z w))
abbrev inI (a : WP Int) (b : WP (List Int)) : WP Bool := b2 a b fun x xs => pure (decide (x ∈ xs))
end WP
section
variable {α β γ δ : Type} {K : PySem.W.Frag} {e : Ef} {σ : L2.St} {W : Wo} {ta tb te tc td tl to : TE} {t u : TT} {i j k m n : Nat} {v : V} {vs0 : List Nat} {D : Ends} {tz : TS} {R : Nat → γ → Prop} {g : TG}
theorem takes_R [PyI α] : Takes (fun W (a : List α) x => VRow e W a x) (gName j) σ vs0 (TgR e σ vs0 j) := fun a x W' Q ⟨fp, h1, h2⟩ q => q _ ⟨x, fp, rfl, h1, h2⟩
theorem row_at [PyI α] {W' : Wo} {xss : List (List α)} {ps : List Addr} {x : V} {i : Nat} (h : Paired (Row W) xss ps) (hi : (ps.map V.ref)[i]? = some x) (hS : ∀ b ∈ ps, ¬ e.S b) : ∃ xs, xss[i]? = some xs ∧ VRow e W xs x := by
  rw [List.getElem?_map] at hi
  obtain ⟨a, ha, rfl⟩ := Option.map_eq_some_iff.mp hi
  obtain ⟨xs, hxs, vs, r1, r2⟩ := h.getV ha
  exact ⟨xs, hxs, [a], ⟨a, vs, rfl, rfl, r1, r2⟩, fun b m => by cases List.mem_singleton.mp m; exact hS a (List.mem_of_getElem? ha)⟩
theorem VRow.go [PyI α] {W W' : Wo} {xs : List α} {x : V} (g : Gw e W W') (h : VRow e W xs x) : VRow e W' xs x := by
  obtain ⟨fp, h1, h2⟩ := h
  exact ⟨fp, Kd.go g h2 h1, h2⟩
/-- a comprehension over a list of lists -/
theorem ew_lcG [PyI α] [PyI β] {w : WP (List (List α))} {T : List α → Wo → L2.St → Prop} {c : List α → WP Bool} {f : List α → WP β} (h : EvW e tl σ W (sR (kG α)) w) (ht : Takes (fun W (a : List α) x => VRow e W a x) g σ vs0 T) (hw : ∀ a W' s2, T a W' s2 → wipe s2 vs0 = wipe σ vs0)
    (hc : ∀ a W1 s2, Gw e W W1 → T a W1 s2 → EvT e t s2 W1 (c a)) (he : ∀ a W1 s2, Gw e W W1 → T a W1 s2 → EvW e te s2 W1 sI (f a)) : EvW e (tLc (iList K tl) g t te vs0) σ W (sN (kL β)) (WP.lc w c f) := fun W1 g1 Q q =>
  h W1 g1 _ (w.mono (fun n xs hq v W2 g2 hn ⟨fp, ⟨p, ps, e1, nd, e2, hp, hr⟩, hS⟩ => by
    subst hn; subst e1; subst e2
    refine ⟨p, rfl, ⟨_, SqL.of hp⟩, fun Dl hD => ?_⟩
    have hSp := hS p List.mem_cons_self
    have hSr : ∀ b ∈ ps, ¬ e.S b := fun b m => hS b (List.mem_cons_of_mem _ m)
    obtain ⟨Pv, p0, pk, pst, pd⟩ := pv_comp (val := fun W (a : List α) x => VRow e W a x) (T := T) (t := t) (te := te) (g := g) (σ := σ) (vs0 := vs0) (Qd := fun H => Q (.ref Dl) H) g2.ok hD hq.1 ht hw (fun a W3 s2 g3 => hc a W3 s2 ((g1.trans g2).trans g3)) (fun a W3 s2 g3 => he a W3 s2 ((g1.trans g2).trans g3)) hq.2 fun W' ys vs' gw hl hF hr' hqq => hqq _ W' (g2.trans gw) rfl ⟨[Dl], ⟨Dl, vs', rfl, rfl, hl, hr'⟩, fun b mb => by
      cases List.mem_singleton.mp mb
      exact ⟨g2.live _ hD, fun s => g2.ok.S _ s hD, hF⟩⟩
    exact lc_list (xs := ps.map V.ref) Pv p0 (fun i H _ pp => by
      obtain ⟨W', e1, gw⟩ := pk i H pp
      subst e1
      exact SqL.of (gw.keep _ _ hp hSp)) (fun i x H hi pp => by
      obtain ⟨a, ha, ra⟩ := row_at (W' := W2) hr hi hSr
      exact pst i x H a ha (fun W' gw => VRow.go gw ra) pp) (by rw [List.length_map, ← Paired.length hr]; exact pd)) q)
abbrev rJoin (K : PySem.W.Frag) : V → List V → Hp → VK → Prop := fun x xs H Q => ∃ a p, ∃ ys : List Str, x = .str a ∧ xs = [.ref p] ∧ (SqL K H p (ys.map V.str) ∨ SqT K H p (ys.map V.str)) ∧
      (ys.map (·.length)).sum + ys.length * a.length ≤ 16777216 ∧ Q (.str (Txt.join a ys)) H
theorem ew_join {w1 : WP Str} {w2 : WP (List Str)} (ho : EvW e to σ W sI w1) (h : EvW e te σ W (sR (kL Str)) w2) : EvW e (tM1 (rJoin K) to te) σ W sI (WP.join w1 w2) := fun W1 g Q q =>
  ho W1 g _ (w1.mono (fun n a hq x W2 g2 hn r1 => by
    subst hn; cases r1
    refine ⟨⟨a, rfl⟩, h W2 (g.trans g2) _ (w2.mono (fun n ys hq y W3 g3 hn ⟨fp, ⟨p, vs, _, h1, h2, h3⟩, _⟩ => ?_) hq)⟩
    subst h1
    cases rps_strs h3
    exact ⟨a, p, ys, rfl, rfl, .inl (SqL.of h2), Nat.le_trans hq.1 (by decide), hq.2 _ W3 (g2.trans g3) hn rfl⟩) q)
theorem ew_joinT {w1 : WP Str} {w2 : WP (List Str)} (ho : EvW e to σ W sI w1) (h : EvW e te σ W sI w2) : EvW e (tM1 (rJoin K) to te) σ W sI (WP.join w1 w2) := fun W1 g Q q =>
  ho W1 g _ (w1.mono (fun n a hq x W2 g2 hn r1 => by
    subst hn; cases r1
    refine ⟨⟨a, rfl⟩, h W2 (g.trans g2) _ (w2.mono (fun n ys hq y W3 g3 hn ⟨p, vs, h1, h2, h3⟩ => ?_) hq)⟩
    subst h1
    cases rps_strs h3
    exact ⟨a, p, ys, rfl, rfl, .inr (SqT.of h2), Nat.le_trans hq.1 (by decide), hq.2 _ W3 (g2.trans g3) hn rfl⟩) q)
abbrev rMin4 : List V → Hp → VK → Prop := fun xs H Q => ∃ i j k l, xs = [.int i, .int j, .int k, .int l] ∧ Q (.int (min (min i j) (min k l))) H
theorem ew_min4 {w1 w2 w3 w4 : WP Int} (h1 : EvW e ta σ W sI w1) (h2 : EvW e tb σ W sI w2) (h3 : EvW e tc σ W sI w3) (h4 : EvW e td σ W sI w4) : EvW e (tCB rMin4 (tCons ta (tCons tb (tCons tc (tCons td tNil))))) σ W sI (WP.min4 w1 w2 w3 w4) := fun W1 g Q q =>
  h1 W1 g _ (w1.mono (fun n a q x V1 g1 hn r1 => by
    subst hn
    refine h2 V1 (g.trans g1) _ (w2.mono (fun n b q y V2 g2 hn r2 => ?_) q)
    subst hn
    have gg2 := g1.trans g2
    refine h3 V2 (g.trans gg2) _ (w3.mono (fun n c q z V3 g3 hn r3 => ?_) q)
    subst hn
    have gg3 := gg2.trans g3
    refine h4 V3 (g.trans gg3) _ (w4.mono (fun n d q w V4 g4 hn r4 => ?_) q)
    cases r1; cases r2; cases r3; cases r4
    exact ⟨a, b, c, d, rfl, q _ V4 (gg3.trans g4) hn rfl⟩) q)
theorem inV_sc [PyI α] [DecidableEq α] [Scal α] (h : ∀ a b : α, eqV (Scal.toV a) (Scal.toV b) = decide (a = b)) (a : α) (xs : List α) : inV (Scal.toV a) (xs.map Scal.toV) = decide (a ∈ xs) := by
  unfold inV
  induction xs with
  | nil => simp
  | cons x xs ih =>
    rw [List.map_cons, List.any_cons, ih, h x a]
    by_cases e : x = a
    · subst e; simp
    · by_cases e2 : a ∈ xs
      · simp [e, e2, Ne.symm e]
      · have e3 : ¬ a = x := fun z => e z.symm
        simp [e, e2, e3]
theorem ew_inI {w1 : WP Int} {w2 : WP (List Int)} (ha : EvW e ta σ W sI w1) (hb : EvW e tb σ W sI w2) : EvW e (tOp (rIn K false) ta tb) σ W sI (WP.inI w1 w2) :=
  ew_op20 ha hb fun W2 x xs _ _ r ⟨p, vs, h1, h2, h3⟩ Q q => by
    cases r
    have e1 := rps_ints h3
    subst e1
    refine ⟨p, _, h1, .inr (SqT.of h2), rfl, by simp [flatV], ?_⟩
    have := inV_sc (α := Int) (fun a b => by show (a == b) = _; rw [Bool.beq_eq_decide_eq]) x xs
    refine q _ _ (Same.refl _) ?_
    show V.bl (if false = true then _ else inV (V.int x) (xs.map V.int)) = _
    rw [if_neg Bool.false_ne_true]
    exact congrArg V.bl this
/-- grid.append(row) -/
theorem st_gapp [PyI α] {W0 : Wo} {fg fr : List Addr} {xss : List (List α)} {xs : List α} {vg vr : V} {ig ir : Nat} {f : List (List α) → WP γ} (g00 : Good e W0) (g0 : Gw e W0 W) (hg : σ[ig]? = some (some vg)) (hr : σ[ir]? = some (some vr)) (og : Var (kG α) W0 W fg xss vg) (or : Var (kL α) W0 W fr xs vr) (dj : ∀ b ∈ fg, b ∉ fr)
    (hm : ((WP.req (xss.length < 100000) (xss ++ [xs])).bind f).run W.n R)
    (q : ∀ ys W2 f2, (∀ b ∈ f2, b ∈ fg ∨ b ∈ fr) → St W W2 → Gw e W0 W2 → (∀ fp' W9, Kp fp' W9 W → (∀ b ∈ fp', b ∉ fg) → Kp fp' W9 W2) → (∀ b, W2.F b → W.F b) → Var (kG α) W0 W2 f2 ys vg → (f ys).run W2.n R → D.nx σ W2.H) : tDrop (tBM K "list" rAppend (tVar ig) (tCons (tVar ir) tNil)) D σ W.H := by
  obtain ⟨⟨p, ps, e1, nd, e2, hp, hrow⟩, frg, nFg⟩ := og
  obtain ⟨⟨r, vs, e3, e4, hrr, hrs⟩, frr, nFr⟩ := or
  subst e1; subst e2; subst e3; subst e4
  have mp : p ∈ p :: ps := List.mem_cons_self
  have mr : r ∈ [r] := List.mem_singleton.mpr rfl
  have s12 := St.mut (u := .lst (ps.map V.ref ++ [V.ref r])) hp (fun _ z => by cases z) (nFg p mp)
  refine ⟨_, hg, .inl ⟨rfl, _, SqL.of hp⟩, .ref r, hr, p, _, .ref r, rfl, rfl, hp, by rw [List.length_map, ← Paired.length hrow]; exact sz_lt hm.1, ?_⟩
  have npr : p ≠ r := fun z => dj p mp (by rw [z]; exact mr)
  refine q (xss ++ [xs]) (W.set p (.lst (ps.map V.ref ++ [V.ref r]))) (p :: (ps ++ [r])) (fun b m => ?_) s12 (Gw.mut g00 g0 (frg p mp) hp (fun _ z => by cases z) (nFg p mp)) (fun fp' W9 kk d => kk.upd fun b m z => d b m (by rw [z]; exact mp)) (fun _ f => f) ⟨⟨p, ps ++ [r], rfl, ?_, rfl, ?_, ?_⟩, fun b m => ?_, fun b m => ?_⟩ hm.2
  · rcases List.mem_cons.mp m with m | m
    · exact .inl (by rw [m]; exact mp)
    · rcases List.mem_append.mp m with m | m
      · exact .inl (List.mem_cons_of_mem _ m)
      · exact .inr m
  · have h1 := List.nodup_cons.mp nd
    refine List.nodup_cons.mpr ⟨fun m => ?_, ?_⟩
    · rcases List.mem_append.mp m with m | m
      · exact h1.1 m
      · exact npr (List.mem_singleton.mp m)
    · rw [List.nodup_append]
      exact ⟨h1.2, by simp, fun a ma b mb z => dj a (List.mem_cons_of_mem _ ma) (by rw [z]; exact mb)⟩
  · show (upd W.H p _) p = _
    rw [upd_same, List.map_append]; rfl
  · have k : ∀ a ∈ ps, ∀ o, W.H a = some o → (W.set p (.lst (ps.map V.ref ++ [V.ref r]))).H a = some o := fun a m o h => by
      show (upd W.H p _) a = _
      rw [upd_ne (fun z => (List.nodup_cons.mp nd).1 (by rw [← z]; exact m))]; exact h
    refine (rows_st s12 k hrow).appA (.cons ⟨vs, ?_, Rps.st s12 hrs⟩ .nil)
    show (upd W.H p _) r = _
    rw [upd_ne npr.symm]; exact hrr
  · rcases List.mem_cons.mp m with m | m
    · rw [m]; exact frg p mp
    · rcases List.mem_append.mp m with m | m
      · exact frg b (List.mem_cons_of_mem _ m)
      · exact frr b m
  · rcases List.mem_cons.mp m with m | m
    · rw [m]; exact nFg p mp
    · rcases List.mem_append.mp m with m | m
      · exact nFg b (List.mem_cons_of_mem _ m)
      · exact nFr b m
theorem q_gapp [PyI α] {W0 : Wo} {fg fr : List Addr} {xss : List (List α)} {xs : List α} {vg vr : V} {ig ir : Nat} {f : List (List α) → WP γ} (g00 : Good e W0) (g0 : Gw e W0 W) (hg : σ[ig]? = some (some vg)) (hr : σ[ir]? = some (some vr)) (og : Var (kG α) W0 W fg xss vg) (or : Var (kL α) W0 W fr xs vr) (dj : ∀ b ∈ fg, b ∉ fr)
    (hm : ((WP.req (xss.length < 100000) (xss ++ [xs])).bind f).run W.n R)
    (q : ∀ ys W2 f2, (∀ b ∈ f2, b ∈ fg ∨ b ∈ fr) → St W W2 → Gw e W0 W2 → (∀ fp' W9, Kp fp' W9 W → (∀ b ∈ fp', b ∉ fg) → Kp fp' W9 W2) → (∀ b, W2.F b → W.F b) → Var (kG α) W0 W2 f2 ys vg → (f ys).run W2.n R → tz D σ W2.H) : tSeq (tDrop (tBM K "list" rAppend (tVar ig) (tCons (tVar ir) tNil))) tz D σ W.H :=
  st_gapp (D := { D with nx := tz D }) g00 g0 hg hr og or dj hm q
/-- grid[r][c] = e -/
theorem st_gset [PyI α] [Inhabited α] {W0 : Wo} {fg : List Addr} {xss : List (List α)} {vg : V} {ig : Nat} {w1 : WP α} {w2 w3 : WP Int} {f : List (List α) → WP γ} (g00 : Good e W0) (g0 : Gw e W0 W) (hg : σ[ig]? = some (some vg)) (og : Var (kG α) W0 W fg xss vg) (hv : EvW e tc σ W sI w1) (ha : EvW e ta σ W sI w2) (hb : EvW e tb σ W sI w3)
    (hm : ((WP.gset xss w1 w2 w3).bind f).run W.n R)
    (q : ∀ ys W1 W2, Gw e W W1 → St W1 W2 → Gw e W0 W2 → (∀ fp' W9, Kp fp' W9 W1 → (∀ b ∈ fp', b ∉ fg) → Kp fp' W9 W2) → (∀ b, W2.F b → W1.F b) → Var (kG α) W0 W2 fg ys vg → (f ys).run W2.n R → D.nx σ W2.H) : tAsg tc (gSub (tOp (rIxL K) (tVar ig) ta) tb rSetL) D σ W.H := by
  refine hv W (Gw.refl g0.ok) _ (w1.mono (fun n v hq x W1 g1 hn r1 => ?_) hm)
  subst hn
  refine ⟨_, hg, ha W1 g1 _ (w2.mono (fun n r hq y W2 g2 hn r2 => ?_) hq)⟩
  subst hn
  cases r2
  obtain ⟨⟨p, ps, e1, nd, e2, hp, hrow⟩, frg, nFg⟩ := og.go g00 (g1.trans g2)
  subst e1; subst e2
  have hSg : ∀ b ∈ p :: ps, ¬ e.S b := fun b m s => g00.S b s (frg b m)
  have key : ∀ {i : Nat} {a : Addr}, ps[i]? = some a → (ps.map V.ref)[i]? = some (.ref a) := fun h => by rw [List.getElem?_map, h]; rfl
  obtain ⟨hr, hq⟩ := hq
  · obtain ⟨i, hi, hil⟩ := ixN_ok hr
    have hlp := Paired.length hrow
    have hip : i < ps.length := by omega
    have hpi : ps[i]? = some ps[i] := List.getElem?_eq_getElem hip
    have hat : atI (ps.map V.ref) r = some (.ref ps[i]) := by
      unfold atI
      rw [List.length_map, ← hlp, hi]
      exact key hpi
    refine ⟨p, _, r, _, rfl, rfl, SqL.of hp, hat, hb W2 (g1.trans g2) _ (w3.mono (fun n c hq z W3 g3 hn r3 => ?_) hq)⟩
    subst hn
    cases r3
    obtain ⟨hc, hq⟩ := hq
    obtain ⟨j, hj, hjl⟩ := ixN_ok hc
    have hxi : ixD xss r = xss[i] := ixD_ok hi hil
    have mi : ps[i] ∈ p :: ps := List.mem_cons_of_mem _ (List.getElem_mem hip)
    have g13 := g1.trans (g2.trans g3)
    have hrow3 : Paired (Row W3) xss ps := rows_st g3.st (fun a m o h => g3.keep a o h (hSg a (List.mem_cons_of_mem _ m))) hrow
    have hp3 := g3.keep _ _ hp (hSg p List.mem_cons_self)
    obtain ⟨a, ha', vs, ra, rv⟩ := hrow3.getA (List.getElem?_eq_getElem hil)
    rw [hpi] at ha'
    cases ha'
    have hF : ¬ W3.F ps[i] := fun z => (g3.new _ z).elim (nFg _ mi) (fun n => by
      obtain ⟨a, ha', vs, ra, rv⟩ := hrow.getA (List.getElem?_eq_getElem hil)
      rw [hpi] at ha'
      cases ha'
      exact some_ne ra n)
    have s34 := St.mut (u := .lst (vs.set j x)) ra (fun _ z => by cases z) hF
    rw [hxi] at hj hc
    have hjv : ixN vs.length c = some j := by rw [← Paired.length rv]; exact hj
    have npi : ps[i] ≠ p := fun z => (List.nodup_cons.mp nd).1 (by rw [← z]; exact List.getElem_mem hip)
    refine ⟨ps[i], vs, c, j, rfl, rfl, ra, hjv, q (setG xss r c v) W3 (W3.set ps[i] (.lst (vs.set j x))) g13 s34 (Gw.mut g00 (g0.trans g13) (frg _ mi) ra (fun _ z => by cases z) hF) (fun fp' W9 kk d => kk.upd fun b m z => d b m (by rw [z]; exact mi)) (fun _ f => f) ⟨⟨p, ps, rfl, nd, rfl, ?_, ?_⟩, frg, fun b m z => ?_⟩ hq⟩
    · show (upd W3.H ps[i] _) p = _
      rw [upd_ne npi.symm]; exact hp3
    · have es : setG xss r c v = xss.set i (xss[i].set j v) := by
        unfold setG
        rw [hxi, setL_ok hi, setL_ok hj]
      rw [es]
      refine paired_get (by rw [List.length_set]; exact hlp) fun k a b hka hkb => ?_
      by_cases hki : k = i
      · subst hki
        rw [List.getElem?_set_self hil] at hka
        rw [hpi] at hkb
        cases hka; cases hkb
        exact ⟨_, upd_same, (Rps.st s34 rv).setA j (PyI.st ((g2.trans g3).st.trans s34) r1)⟩
      · rw [List.getElem?_set_ne (fun z => hki z.symm)] at hka
        obtain ⟨b', hb', vs', r1', r2'⟩ := hrow3.getA hka
        rw [hkb] at hb'
        cases hb'
        refine ⟨vs', ?_, Rps.st s34 r2'⟩
        show (upd W3.H ps[i] _) b = _
        have : b ≠ ps[i] := fun z => hki (by
          have hk : k < ps.length := (List.getElem?_eq_some_iff.mp hkb).1
          have e5 : ps[k] = b := (List.getElem?_eq_some_iff.mp hkb).2
          exact (List.getElem_inj (List.nodup_cons.mp nd).2).mp (e5.trans z))
        rw [upd_ne this]; exact r1'
    · have : W3.F b := z
      exact (g3.new b this).elim (nFg b m) (fun n => (kG α).live (W := W2) ⟨p, ps, rfl, nd, rfl, hp, hrow⟩ b m n)
theorem q_gset [PyI α] {W0 : Wo} {fg : List Addr} {xss : List (List α)} {vg : V} {ig : Nat} {w1 : WP α} {w2 w3 : WP Int} {f : List (List α) → WP γ} [Inhabited α] (g00 : Good e W0) (g0 : Gw e W0 W) (hg : σ[ig]? = some (some vg)) (og : Var (kG α) W0 W fg xss vg) (hv : EvW e tc σ W sI w1) (ha : EvW e ta σ W sI w2) (hb : EvW e tb σ W sI w3)
    (hm : ((WP.gset xss w1 w2 w3).bind f).run W.n R)
    (q : ∀ ys W1 W2, Gw e W W1 → St W1 W2 → Gw e W0 W2 → (∀ fp' W9, Kp fp' W9 W1 → (∀ b ∈ fp', b ∉ fg) → Kp fp' W9 W2) → (∀ b, W2.F b → W1.F b) → Var (kG α) W0 W2 fg ys vg → (f ys).run W2.n R → tz D σ W2.H) : tSeq (tAsg tc (gSub (tOp (rIxL K) (tVar ig) ta) tb rSetL)) tz D σ W.H := st_gset (D := { D with nx := tz D }) g00 g0 hg og hv ha hb hm q
/-- [] for a list of lists -/
theorem ew_gnil [PyI α] : EvW e (tLst tNil) σ W (sN (kG α)) (WP.row (WP.pure ([] : List (List α)))) := fun W1 g Q q => ⟨sz_le (n := 0) (by decide), fun p hp => q.2 _ _ (Gw.alloc g.ok hp) rfl ⟨[p], ⟨p, [], rfl, by simp, rfl, upd_same, .nil⟩, fun a m => by
  cases List.mem_singleton.mp m
  exact ⟨hp, fun s => g.ok.S p s hp, fun f => (g.ok.F p f).2 hp⟩⟩⟩
end
section
variable {X : Cx} {K : PySem.W.Frag}
theorem pe_joinK {o e : Expr} {to te : TE} {apos pos : Pos} (hK : X.K = K) (ho : PE X o to) (he : PE X e te) (hs : starEach [e] X.env = [(false, eval e X.env)] := by rfl) (hbase : attributeBase o "join" X.env (eval o X.env) = eval o X.env := by rfl) (hline : (apos.endLine == pos.line) = true := by rfl) :
    PE X (.Call (.Attribute o "join" apos) [e] [] pos) (tM1 (rJoin K) to te) := hK ▸ pe_join ho he hs hbase hline
end
open Sem (wp)
section
variable {prog : Program} {w : World} {A : Around} {E : Value → Shared → Prop} {s : Shared}
theorem args_min4 (a b c d : Value) : argsOk "min" ⟨[a, b, c, d], []⟩ := by unfold argsOk; kernel_rfl
theorem call_min_four {a b c d : Value} {Q : Value → Shared → Prop}
    (h : wpAny (model prog w) A.in1 (pyIter (.ref s.heap.objs.size)) (fun it s₂ => ∃ I fp wr n P St bt, it = .ref I ∧ Walks prog w A.in1 I fp wr n P St ∧ St 0 s₂.heap ∧ (∀ b ∈ fp, b < s₂.heap.objs.size) ∧ 0 < n ∧ CmpOf prog w A.in1 .Lt P bt ∧
      ∀ v h' tk, P (argBest bt (n - 1)) v → (∀ b o, b ∉ wr → s₂.heap.get? b = some o → h'.get? b = some o) → Q v { s₂ with heap := h', toks := tk }) E
      { s with heap := s.heap.push { cls := .type "tuple", data := .seq #[a, b, c, d] } }) :
    wpAny (model prog w) A (call (.builtin "min") [a, b, c, d]) Q E s := by
  have hname : (toString "min" ++ toString ".loop" : String) = "min.loop" := by decide
  refine call_function_tree F.kind_min F.plain_min F.entry_min (args_min4 _ _ _ _) ?_
  show wpAny _ A.in1 (Builtin.Builtins.bindParams "min" ["key", "default"] 0 ⟨[], []⟩ >>= _) _ _ s
  refine wpAny_bind (wpAny_of_eq (show Builtin.Builtins.bindParams "min" ["key", "default"] 0 ⟨[], []⟩ = pure [none, none] from rfl) ?_)
  show wpAny _ A.in1 (newTuple [a, b, c, d] >>= _) _ _ s
  refine wpAny_bind (wpAny_newObj_type ?_)
  refine wpAny_bind (wpAny_mono h (fun it s₂ h₂ => ?_) fun _ _ e => e)
  obtain ⟨I, fp, wr, n, P, St, bt, rfl, W, hst, hfp, hn, hcmp, hQ⟩ := h₂
  refine wpAny_bind (wpAny_newObj_type ?_)
  have hSf : s₂.heap.objs.size ∉ fp := fun hm => Nat.lt_irrefl _ (hfp _ hm)
  rw [hname]
  refine wpAny_pure ⟨plainId_quiet F.plain_min_loop _, codeAny_min_loop_first W bt hcmp s₂.heap.objs.size hSf hn (W.frame _ _ _ hst fun b _ o e => Heap.get?_push_of_some _ e) (Heap.get?_push_size _ rfl) fun v h' tk hP hk => ?_⟩
  exact hQ v h' tk hP fun b o hbw e => hk b o hbw (Nat.ne_of_lt (Heap.lt_size e)) (Heap.get?_push_of_some _ e)
def pick4 (a b c d : Int) (t u x y : Tok) : Value := if b < a then (if c < b then (if d < c then .int d y else .int c x) else (if d < b then .int d y else .int b u)) else (if c < a then (if d < c then .int d y else .int c x) else (if d < a then .int d y else .int a t))
theorem pick4_min (a b c d : Int) (t u x y : Tok) : ∃ z, pick4 a b c d t u x y = .int (min (min a b) (min c d)) z := by
  unfold pick4
  have m : ∀ p q : Int, min p q = if p ≤ q then p else q := fun p q => rfl
  simp only [m]
  split <;> (split <;> (split <;> (first
    | exact ⟨_, congrArg (fun z => Value.int z _) (by repeat' split <;> omega)⟩
    | omega)))
theorem min_four_ints {a b c d : Int} {t u x y : Tok} {Q : Value → Shared → Prop} (hh : A.handled = none)
    (h : ∀ h' tk, (∀ d o, s.heap.get? d = some o → h'.get? d = some o) → Q (pick4 a b c d t u x y) { s with heap := h', toks := tk }) :
    wpAny (model prog w) A (call (.builtin "min") [.int a t, .int b u, .int c x, .int d y]) Q E s := by
  have hT : (s.heap.push { cls := .type "tuple", data := .seq #[.int a t, .int b u, .int c x, .int d y] }).IsTuple s.heap.objs.size (intItems #[(a, t), (b, u), (c, x), (d, y)]) := ⟨_, Heap.get?_push_size _ rfl, rfl, 0, by simp [intItems]⟩
  refine call_min_four (wpAny_pyIter_tuple hT ?_)
  have hsz : (s.heap.push { cls := .type "tuple", data := .seq #[.int a t, .int b u, .int c x, .int d y] }).objs.size = s.heap.objs.size + 1 := Heap.size_push ..
  refine ⟨_, [_, s.heap.objs.size], [_], _, _, _, _, rfl, Walks.tuple (A := A.in1) hh _ s.heap.objs.size (by rw [hsz]; exact Nat.ne_of_lt (Nat.lt_succ_self _)) (intItems #[(a, t), (b, u), (c, x), (d, y)]),
    ⟨⟨_, Heap.get?_push_size _ rfl, rfl, rfl⟩, hT.push _⟩, fun d hd => ?_, by simp [intItems], CmpOf.ints_lt (numAt #[(a, t), (b, u), (c, x), (d, y)]) (fun _ _ => intItems_at), fun v h' tk hP hk => ?_⟩
  · show d < ((s.heap.push _).push _).objs.size
    rw [Heap.size_push, hsz]
    rcases List.mem_cons.mp hd with rfl | hd
    · rw [hsz]; exact Nat.lt_succ_self _
    · rcases List.mem_cons.mp hd with rfl | hd
      · exact Nat.lt_succ_of_lt (Nat.lt_succ_self _)
      · cases hd
  · have hold : ∀ d o, s.heap.get? d = some o → h'.get? d = some o := fun d o e => by
      refine hk d o (fun hm => ?_) (Heap.get?_push_of_some _ (Heap.get?_push_of_some _ e))
      rcases List.mem_cons.mp hm with e1 | hm
      · have := Heap.lt_size e; rw [e1, hsz] at this; exact Nat.lt_irrefl _ (Nat.lt_of_succ_lt this)
      · cases hm
    have := h h' tk hold
    have hv : v = pick4 a b c d t u x y := by
      have hP' : (intItems #[(a, t), (b, u), (c, x), (d, y)])[argBest (fun i j => decide (numAt #[(a, t), (b, u), (c, x), (d, y)] i < numAt #[(a, t), (b, u), (c, x), (d, y)] j)) 3]? = some v := by
        have hsz2 : (intItems #[(a, t), (b, u), (c, x), (d, y)]).size - 1 = 3 := by simp [intItems]
        rw [← hsz2]; exact hP
      unfold pick4
      by_cases h1 : b < a
      · by_cases h2 : c < b
        · by_cases h3 : d < c
          · have e : argBest (fun i j => decide (numAt #[(a, t), (b, u), (c, x), (d, y)] i < numAt #[(a, t), (b, u), (c, x), (d, y)] j)) 3 = 3 := by simp [argBest, numAt, h1, h2, h3]
            rw [e] at hP'
            simpa [intItems, h1, h2, h3] using hP'.symm
          · have e : argBest (fun i j => decide (numAt #[(a, t), (b, u), (c, x), (d, y)] i < numAt #[(a, t), (b, u), (c, x), (d, y)] j)) 3 = 2 := by simp [argBest, numAt, h1, h2, h3]
            rw [e] at hP'
            simpa [intItems, h1, h2, h3] using hP'.symm
        · by_cases h3 : d < b
          · have e : argBest (fun i j => decide (numAt #[(a, t), (b, u), (c, x), (d, y)] i < numAt #[(a, t), (b, u), (c, x), (d, y)] j)) 3 = 3 := by simp [argBest, numAt, h1, h2, h3]
            rw [e] at hP'
            simpa [intItems, h1, h2, h3] using hP'.symm
          · have e : argBest (fun i j => decide (numAt #[(a, t), (b, u), (c, x), (d, y)] i < numAt #[(a, t), (b, u), (c, x), (d, y)] j)) 3 = 1 := by simp [argBest, numAt, h1, h2, h3]
            rw [e] at hP'
            simpa [intItems, h1, h2, h3] using hP'.symm
      · by_cases h2 : c < a
        · by_cases h3 : d < c
          · have e : argBest (fun i j => decide (numAt #[(a, t), (b, u), (c, x), (d, y)] i < numAt #[(a, t), (b, u), (c, x), (d, y)] j)) 3 = 3 := by simp [argBest, numAt, h1, h2, h3]
            rw [e] at hP'
            simpa [intItems, h1, h2, h3] using hP'.symm
          · have e : argBest (fun i j => decide (numAt #[(a, t), (b, u), (c, x), (d, y)] i < numAt #[(a, t), (b, u), (c, x), (d, y)] j)) 3 = 2 := by simp [argBest, numAt, h1, h2, h3]
            rw [e] at hP'
            simpa [intItems, h1, h2, h3] using hP'.symm
        · by_cases h3 : d < a
          · have e : argBest (fun i j => decide (numAt #[(a, t), (b, u), (c, x), (d, y)] i < numAt #[(a, t), (b, u), (c, x), (d, y)] j)) 3 = 3 := by simp [argBest, numAt, h1, h2, h3]
            rw [e] at hP'
            simpa [intItems, h1, h2, h3] using hP'.symm
          · have e : argBest (fun i j => decide (numAt #[(a, t), (b, u), (c, x), (d, y)] i < numAt #[(a, t), (b, u), (c, x), (d, y)] j)) 3 = 0 := by simp [argBest, numAt, h1, h2, h3]
            rw [e] at hP'
            simpa [intItems, h1, h2, h3] using hP'.symm
    rw [hv]; exact this
end
theorem call_min4 {X : Cx} (hc : X.calm = true) : CallR X (.builtin "min") rMin4 := by
  intro pins s σ H xs us Q I r h
  obtain ⟨i, j, k, l, rfl, q⟩ := h
  cases r with
  | cons r1 r => cases r with
    | cons r2 r => cases r with
      | cons r3 r => cases r with
        | cons r4 r =>
          cases r
          obtain ⟨t1, rfl⟩ := r1
          obtain ⟨t2, rfl⟩ := r2
          obtain ⟨t3, rfl⟩ := r3
          obtain ⟨t4, rfl⟩ := r4
          exact min_four_ints (I.ok.hd hc) fun h1 tk k1 => ⟨.int (min (min i j) (min k l)), H, I.kept k1, pick4_min _ _ _ _ _ _ _ _, q⟩
end Y

/-! the script, a new deal, the law itself -/
namespace Y
open PySem PySem.Spec PyProof.Rows L2
section
variable {α β γ : Type} {K : PySem.W.Frag} {σ : L2.St} {W W0 : Wo} {ta tb te : TE} {i j k n : Nat} {v : V} {D : Ends} {R : Nat → β → Prop}
theorem sqL_g {a : Addr} {xs : List V} (g : Gw ef0 W0 W) (h : SqL K W0.H a xs) : SqL K W.H a xs := Same.seq (fun b o q => g.keep b o q id) h
theorem ew_lenQ {a : Addr} {ns : List Int} (hv : σ[i]? = some (some (.ref a))) (h : SqL K W.H a (ns.map V.int)) : EvW ef0 (tCB (rLenS K) (tCons (tVar i) tNil)) σ W sI (WP.len (WP.pure ns)) := fun W1 g Q q =>
  ⟨_, hv, a, _, rfl, .inl (sqL_g g h), q _ W1 (Gw.refl g.ok) rfl (by rw [List.length_map]; exact rfl)⟩
theorem ew_ixQ {a : Addr} {ns : List Int} {w : WP Int} (hv : σ[i]? = some (some (.ref a))) (h : SqL K W.H a (ns.map V.int)) (hb : EvW ef0 tb σ W sI w) : EvW ef0 (tOp (rIxL K) (tVar i) tb) σ W sI (WP.ix (WP.pure ns) w) := fun W1 g Q q =>
  ⟨_, hv, hb W1 g _ (w.mono (fun n x hq y W2 g2 hn r => by
    cases r
    obtain ⟨v, hv', rv⟩ := atI_pair (rps_ints' W2 ns) (atI_ok hq.1)
    exact ⟨a, _, x, v, rfl, rfl, sqL_g (g.trans g2) h, hv', hq.2 _ W2 g2 hn rv⟩) q)⟩
/-- a new deal -/
def NewDeal (W W' : Wo) (v : V) : Prop := ∃ d : Dl, v = .ref d.p ∧ W.H d.p = none ∧ W.H d.l1 = none ∧ W.H d.l2 = none ∧ ¬ W'.F d.l2 ∧ d.At W'.H 0
theorem NewDeal.good {W W' : Wo} (h : NewDeal W W' v) (g : Good ef0 W') (hn : W'.n = 0) : ∃ d : Dl, v = .ref d.p ∧ Good (efD d) W' := by
  obtain ⟨d, e1, _, _, _, hF, hA⟩ := h
  refine ⟨d, e1, ⟨fun a f => ⟨fun (s : a = d.l2) => hF (s ▸ f), (g.F a f).2⟩, fun a (s : a = d.l2) => ?_, ?_⟩⟩
  · rw [s]; exact some_ne hA.n
  · show d.At W'.H W'.n
    rw [hn]; exact hA
/-- return [row, [0], total] -/
theorem st_retdeal {fp : List Addr} {ns : List Int} {vx : V} {w : WP Int} {f : Int → WP β} (g00 : Good ef0 W0) (g0 : Gw ef0 W0 W) (hv : σ[i]? = some (some vx)) (ho : Var (kL Int) W0 W fp ns vx) (ht : EvW ef0 tb σ W sI w) (hm : (w.bind f).run W.n R)
    (q : ∀ t v W1, Gw ef0 W0 W1 → W1.n = W0.n → NewDeal W0 W1 v → (f t).run W1.n R → D.rt v W1.H) : tRet (tLst (tCons (tVar i) (tCons (tLst (tCons (tC (.int 0)) tNil)) (tCons tb tNil)))) D σ W.H := by
  obtain ⟨⟨p, vs, e1, e2, hp, hr⟩, fr, nF⟩ := ho
  subst e1; subst e2
  have mp : p ∈ [p] := List.mem_singleton.mpr rfl
  refine ⟨_, hv, ⟨sz_le (n := 1) (by decide), fun l2 hl2 => ?_⟩⟩
  have ga := Gw.alloc (o := .lst [.int 0]) g0.ok hl2
  refine ht ⟨upd W.H l2 (.lst [.int 0]), W.F, W.n⟩ ga _ (w.mono (fun n t hq x W2 g2 hn r => ?_) hm)
  subst hn; cases r
  refine ⟨sz_le (n := 3) (by decide), fun p0 hp0 => ?_⟩
  have gb := Gw.alloc (o := .lst [.ref p, .ref l2, .int t]) g2.ok hp0
  have h2 : W2.H l2 = some (.lst [.int 0]) := g2.keep _ _ upd_same id
  have hp2 : W2.H p = some (.lst vs) := (ga.trans g2).keep _ _ hp id
  have n1 : p ≠ l2 := ne_of hp hl2
  have m1 : l2 ≠ p0 := ne_of h2 hp0
  have m2 : p ≠ p0 := ne_of hp2 hp0
  have h0 : W.H p0 = none := ga.live p0 (g2.live p0 hp0)
  have gg := g0.trans ((ga.trans g2).trans gb)
  refine q t (.ref p0) _ gg (show W0.n = _ from gg.n).symm ⟨⟨p0, p, l2, ns, t⟩, rfl, g0.live _ h0, fr p mp, g0.live _ hl2, fun z => ?_, ⟨upd_same, ?_, ?_, m1.symm, n1⟩⟩ hq
  · rcases g2.new l2 z with f | e5
    · exact (g0.ok.F l2 f).2 hl2
    · have : (upd W.H l2 (.lst [.int 0])) l2 = none := e5
      rw [upd_same] at this
      cases this
  · show (upd W2.H p0 _) p = _
    rw [upd_ne m2, hp2, rps_ints hr]
  · show (upd W2.H p0 _) l2 = _
    rw [upd_ne m1]; exact h2
end
def sp_deal (K : PySem.W.Frag) : Sp := fun vs H Q _ => ∃ (a : Addr) (ns : List Int) (W : Wo), vs = [.ref a] ∧ W.H = H ∧ Good ef0 W ∧ SqL K H a (ns.map V.int) ∧ ns.length ≤ 63 ∧ ∀ v W', Gw ef0 W W' → W'.n = W.n → NewDeal W W' v → Q v W'.H
def sp_law (K : PySem.W.Frag) : Sp := fun vs H Q _ => ∃ (a : Addr) (ns : List Int), vs = [.ref a] ∧ SqL K H a (ns.map V.int) ∧ ns.length ≤ 63 ∧ ∀ H', Q (.bl true) H'
theorem cast_n {α : Type} {w : WP α} {n : Nat} {Q : Nat → α → Prop} (e : n = 0) (h : w.run 0 Q) : w.run n Q := e ▸ h
/-- deal = _law_deal(script) -/
theorem q_deal {K : PySem.W.Frag} {σ : L2.St} {W : Wo} {E : XK} {i j : Nat} {a : Addr} {ns : List Int} {D : Ends} {tz : TS} (hv : σ[i]? = some (some (.ref a))) (h : SqL K W.H a (ns.map V.int)) (hl : ns.length ≤ 63) (g : Good ef0 W) (hn : W.n = 0)
    (q : ∀ d W1, Good (efD d) W1 → W1.n = 0 → tz D (σ.set j (some (.ref d.p))) W1.H) : tSeq (tAsg (tCall (sp_deal K) [] E (tCons (tVar i) tNil)) (gName j)) tz D σ W.H :=
  ⟨_, hv, a, ns, W, rfl, rfl, g, h, hl, fun v W' g' hn' nd => by
    obtain ⟨d, e1, gd⟩ := nd.good g'.ok (hn'.trans hn)
    subst e1
    exact q d W' gd (hn'.trans hn)⟩
end Y

/-! lists and tuples of things of different kinds; freezing -/
namespace Y
open PySem PySem.Spec PyProof.Rows L2
@[ext] structure HL2 (α0 α1 : Type) where
  a : α0
  b : α1
instance {α0 α1 : Type} [PyI α0] [PyI α1] : PyI (HL2 α0 α1) := ⟨fun W c v => ∃ p x0 x1, v = .ref p ∧ W.F p ∧ W.H p = some (.lst [x0, x1]) ∧ Rp W c.a x0 ∧ Rp W c.b x1, fun t ⟨p, x0, x1, e1, f, e2, h0, h1⟩ => ⟨p, x0, x1, e1, t.f _ f, t.c _ _ f e2, PyI.st t h0, PyI.st t h1⟩⟩
instance {α0 α1 : Type} [Inhabited α0] [Inhabited α1] : Inhabited (HL2 α0 α1) := ⟨⟨default, default⟩⟩
theorem ew_HL2 {α0 α1 : Type} [PyI α0] [PyI α1] {e : Ef} {σ : L2.St} {W : Wo} {t0 t1 : TE} {w0 : WP α0} {w1 : WP α1} (h0 : EvW e t0 σ W sI w0) (h1 : EvW e t1 σ W sI w1) : EvW e (tLst (tCons t0 (tCons t1 tNil))) σ W sI (WP.b2 w0 w1 fun a b => WP.pure (⟨a, b⟩ : HL2 α0 α1)) := fun W1 g Q q => by
  refine h0 W1 g _ (w0.mono (fun n a q x0 V0 g0 hn r0 => ?_) q)
  subst hn
  have gg1 := g0
  refine h1 V0 (g.trans gg1) _ (w1.mono (fun n b q x1 V1 g1 hn r1 => ?_) q)
  subst hn
  have gg2 := gg1.trans g1
  have r0 := PyI.st g1.st r0
  refine ⟨sz_le (n := 2) (by decide), fun p hp => ?_⟩
  have ga := Gw.alloc (o := .lst [x0, x1]) gg2.ok hp
  have gf := Gw.frz (fp := [p]) gg2.ok ga (fun a m => by cases mem_one m; exact hp) (fun a m => by cases mem_one m; exact some_ne upd_same)
  exact q _ _ (gg2.trans gf) rfl ⟨p, x0, x1, rfl, .inr (List.mem_singleton.mpr rfl), upd_same, PyI.st gf.st r0, PyI.st gf.st r1⟩
theorem ew_HL2_0 {α0 α1 : Type} [PyI α0] [PyI α1] {e : Ef} {σ : L2.St} {W : Wo} {K : PySem.W.Frag} {ta : TE} {w : WP (HL2 α0 α1)} (ha : EvW e ta σ W sI w) : EvW e (tOp (rIxL K) ta (tC (.int 0))) σ W sI (w.bind fun c => WP.pure c.a) := fun W1 g Q q => ha W1 g _ (w.mono (fun n c h v W2 g2 hn ⟨p, x0, x1, h1, _, h2, h00, h01⟩ => ⟨p, _, 0, x0, h1, rfl, SqL.of h2, rfl, h _ W2 g2 hn h00⟩) q)
theorem ew_HL2_1 {α0 α1 : Type} [PyI α0] [PyI α1] {e : Ef} {σ : L2.St} {W : Wo} {K : PySem.W.Frag} {ta : TE} {w : WP (HL2 α0 α1)} (ha : EvW e ta σ W sI w) : EvW e (tOp (rIxL K) ta (tC (.int 1))) σ W sI (w.bind fun c => WP.pure c.b) := fun W1 g Q q => ha W1 g _ (w.mono (fun n c h v W2 g2 hn ⟨p, x0, x1, h1, _, h2, h00, h01⟩ => ⟨p, _, 1, x1, h1, rfl, SqL.of h2, rfl, h _ W2 g2 hn h01⟩) q)
theorem st_unHL2 {α0 α1 : Type} [PyI α0] [PyI α1] {e : Ef} {σ : L2.St} {W : Wo} {β : Type} {K : PySem.W.Frag} {te : TE} {i0 i1 : Nat} {D : Ends} {tz : TS} {R : Nat → β → Prop} {w : WP (HL2 α0 α1)} {f : HL2 α0 α1 → WP β} (h : EvW e te σ W sI w) (g : Good e W) (hm : (w.bind f).run W.n R) (q : ∀ (c : HL2 α0 α1) x0 x1 W1, Gw e W W1 → Rp W1 c.a x0 → Rp W1 c.b x1 → (f c).run W1.n R → D.nx ((σ.set i0 (some x0)).set i1 (some x1)) W1.H) : tAsg te (gUnl K 2 (gCons (gName i0) (gCons (gName i1) gNil))) D σ W.H :=
  h W (Gw.refl g) _ (w.mono (fun n c r v W1 g1 hn ⟨p, x0, x1, h1, _, h2, h00, h01⟩ => ⟨p, [x0, x1], h1, SqL.of h2, rfl, x0, [x1], rfl, x1, [], rfl, rfl, q c x0 x1 W1 g1 h00 h01 (hn ▸ r)⟩) hm)
theorem q_unHL2 {α0 α1 : Type} [PyI α0] [PyI α1] {e : Ef} {σ : L2.St} {W : Wo} {β : Type} {K : PySem.W.Frag} {te : TE} {i0 i1 : Nat} {D : Ends} {tz : TS} {R : Nat → β → Prop} {w : WP (HL2 α0 α1)} {f : HL2 α0 α1 → WP β} (h : EvW e te σ W sI w) (g : Good e W) (hm : (w.bind f).run W.n R) (q : ∀ (c : HL2 α0 α1) x0 x1 W1, Gw e W W1 → Rp W1 c.a x0 → Rp W1 c.b x1 → (f c).run W1.n R → tz D ((σ.set i0 (some x0)).set i1 (some x1)) W1.H) : tSeq (tAsg te (gUnl K 2 (gCons (gName i0) (gCons (gName i1) gNil)))) tz D σ W.H :=
  h W (Gw.refl g) _ (w.mono (fun n c r v W1 g1 hn ⟨p, x0, x1, h1, _, h2, h00, h01⟩ => ⟨p, [x0, x1], h1, SqL.of h2, rfl, x0, [x1], rfl, x1, [], rfl, rfl, q c x0 x1 W1 g1 h00 h01 (hn ▸ r)⟩) hm)
@[ext] structure HL3 (α0 α1 α2 : Type) where
  a : α0
  b : α1
  c : α2
instance {α0 α1 α2 : Type} [PyI α0] [PyI α1] [PyI α2] : PyI (HL3 α0 α1 α2) := ⟨fun W c v => ∃ p x0 x1 x2, v = .ref p ∧ W.F p ∧ W.H p = some (.lst [x0, x1, x2]) ∧ Rp W c.a x0 ∧ Rp W c.b x1 ∧ Rp W c.c x2, fun t ⟨p, x0, x1, x2, e1, f, e2, h0, h1, h2⟩ => ⟨p, x0, x1, x2, e1, t.f _ f, t.c _ _ f e2, PyI.st t h0, PyI.st t h1, PyI.st t h2⟩⟩
instance {α0 α1 α2 : Type} [Inhabited α0] [Inhabited α1] [Inhabited α2] : Inhabited (HL3 α0 α1 α2) := ⟨⟨default, default, default⟩⟩
theorem ew_HL3 {α0 α1 α2 : Type} [PyI α0] [PyI α1] [PyI α2] {e : Ef} {σ : L2.St} {W : Wo} {t0 t1 t2 : TE} {w0 : WP α0} {w1 : WP α1} {w2 : WP α2} (h0 : EvW e t0 σ W sI w0) (h1 : EvW e t1 σ W sI w1) (h2 : EvW e t2 σ W sI w2) : EvW e (tLst (tCons t0 (tCons t1 (tCons t2 tNil)))) σ W sI (WP.b3 w0 w1 w2 fun a b c => WP.pure (⟨a, b, c⟩ : HL3 α0 α1 α2)) := fun W1 g Q q => by
  refine h0 W1 g _ (w0.mono (fun n a q x0 V0 g0 hn r0 => ?_) q)
  subst hn
  have gg1 := g0
  refine h1 V0 (g.trans gg1) _ (w1.mono (fun n b q x1 V1 g1 hn r1 => ?_) q)
  subst hn
  have gg2 := gg1.trans g1
  have r0 := PyI.st g1.st r0
  refine h2 V1 (g.trans gg2) _ (w2.mono (fun n c q x2 V2 g2 hn r2 => ?_) q)
  subst hn
  have gg3 := gg2.trans g2
  have r0 := PyI.st g2.st r0
  have r1 := PyI.st g2.st r1
  refine ⟨sz_le (n := 3) (by decide), fun p hp => ?_⟩
  have ga := Gw.alloc (o := .lst [x0, x1, x2]) gg3.ok hp
  have gf := Gw.frz (fp := [p]) gg3.ok ga (fun a m => by cases mem_one m; exact hp) (fun a m => by cases mem_one m; exact some_ne upd_same)
  exact q _ _ (gg3.trans gf) rfl ⟨p, x0, x1, x2, rfl, .inr (List.mem_singleton.mpr rfl), upd_same, PyI.st gf.st r0, PyI.st gf.st r1, PyI.st gf.st r2⟩
theorem ew_HL3_0 {α0 α1 α2 : Type} [PyI α0] [PyI α1] [PyI α2] {e : Ef} {σ : L2.St} {W : Wo} {K : PySem.W.Frag} {ta : TE} {w : WP (HL3 α0 α1 α2)} (ha : EvW e ta σ W sI w) : EvW e (tOp (rIxL K) ta (tC (.int 0))) σ W sI (w.bind fun c => WP.pure c.a) := fun W1 g Q q => ha W1 g _ (w.mono (fun n c h v W2 g2 hn ⟨p, x0, x1, x2, h1, _, h2, h00, h01, h02⟩ => ⟨p, _, 0, x0, h1, rfl, SqL.of h2, rfl, h _ W2 g2 hn h00⟩) q)
theorem ew_HL3_1 {α0 α1 α2 : Type} [PyI α0] [PyI α1] [PyI α2] {e : Ef} {σ : L2.St} {W : Wo} {K : PySem.W.Frag} {ta : TE} {w : WP (HL3 α0 α1 α2)} (ha : EvW e ta σ W sI w) : EvW e (tOp (rIxL K) ta (tC (.int 1))) σ W sI (w.bind fun c => WP.pure c.b) := fun W1 g Q q => ha W1 g _ (w.mono (fun n c h v W2 g2 hn ⟨p, x0, x1, x2, h1, _, h2, h00, h01, h02⟩ => ⟨p, _, 1, x1, h1, rfl, SqL.of h2, rfl, h _ W2 g2 hn h01⟩) q)
theorem ew_HL3_2 {α0 α1 α2 : Type} [PyI α0] [PyI α1] [PyI α2] {e : Ef} {σ : L2.St} {W : Wo} {K : PySem.W.Frag} {ta : TE} {w : WP (HL3 α0 α1 α2)} (ha : EvW e ta σ W sI w) : EvW e (tOp (rIxL K) ta (tC (.int 2))) σ W sI (w.bind fun c => WP.pure c.c) := fun W1 g Q q => ha W1 g _ (w.mono (fun n c h v W2 g2 hn ⟨p, x0, x1, x2, h1, _, h2, h00, h01, h02⟩ => ⟨p, _, 2, x2, h1, rfl, SqL.of h2, rfl, h _ W2 g2 hn h02⟩) q)
theorem st_unHL3 {α0 α1 α2 : Type} [PyI α0] [PyI α1] [PyI α2] {e : Ef} {σ : L2.St} {W : Wo} {β : Type} {K : PySem.W.Frag} {te : TE} {i0 i1 i2 : Nat} {D : Ends} {tz : TS} {R : Nat → β → Prop} {w : WP (HL3 α0 α1 α2)} {f : HL3 α0 α1 α2 → WP β} (h : EvW e te σ W sI w) (g : Good e W) (hm : (w.bind f).run W.n R) (q : ∀ (c : HL3 α0 α1 α2) x0 x1 x2 W1, Gw e W W1 → Rp W1 c.a x0 → Rp W1 c.b x1 → Rp W1 c.c x2 → (f c).run W1.n R → D.nx (((σ.set i0 (some x0)).set i1 (some x1)).set i2 (some x2)) W1.H) : tAsg te (gUnl K 3 (gCons (gName i0) (gCons (gName i1) (gCons (gName i2) gNil)))) D σ W.H :=
  h W (Gw.refl g) _ (w.mono (fun n c r v W1 g1 hn ⟨p, x0, x1, x2, h1, _, h2, h00, h01, h02⟩ => ⟨p, [x0, x1, x2], h1, SqL.of h2, rfl, x0, [x1, x2], rfl, x1, [x2], rfl, x2, [], rfl, rfl, q c x0 x1 x2 W1 g1 h00 h01 h02 (hn ▸ r)⟩) hm)
theorem q_unHL3 {α0 α1 α2 : Type} [PyI α0] [PyI α1] [PyI α2] {e : Ef} {σ : L2.St} {W : Wo} {β : Type} {K : PySem.W.Frag} {te : TE} {i0 i1 i2 : Nat} {D : Ends} {tz : TS} {R : Nat → β → Prop} {w : WP (HL3 α0 α1 α2)} {f : HL3 α0 α1 α2 → WP β} (h : EvW e te σ W sI w) (g : Good e W) (hm : (w.bind f).run W.n R) (q : ∀ (c : HL3 α0 α1 α2) x0 x1 x2 W1, Gw e W W1 → Rp W1 c.a x0 → Rp W1 c.b x1 → Rp W1 c.c x2 → (f c).run W1.n R → tz D (((σ.set i0 (some x0)).set i1 (some x1)).set i2 (some x2)) W1.H) : tSeq (tAsg te (gUnl K 3 (gCons (gName i0) (gCons (gName i1) (gCons (gName i2) gNil))))) tz D σ W.H :=
  h W (Gw.refl g) _ (w.mono (fun n c r v W1 g1 hn ⟨p, x0, x1, x2, h1, _, h2, h00, h01, h02⟩ => ⟨p, [x0, x1, x2], h1, SqL.of h2, rfl, x0, [x1, x2], rfl, x1, [x2], rfl, x2, [], rfl, rfl, q c x0 x1 x2 W1 g1 h00 h01 h02 (hn ▸ r)⟩) hm)
@[ext] structure HL4 (α0 α1 α2 α3 : Type) where
  a : α0
  b : α1
  c : α2
  d : α3
instance {α0 α1 α2 α3 : Type} [PyI α0] [PyI α1] [PyI α2] [PyI α3] : PyI (HL4 α0 α1 α2 α3) := ⟨fun W c v => ∃ p x0 x1 x2 x3, v = .ref p ∧ W.F p ∧ W.H p = some (.lst [x0, x1, x2, x3]) ∧ Rp W c.a x0 ∧ Rp W c.b x1 ∧ Rp W c.c x2 ∧ Rp W c.d x3, fun t ⟨p, x0, x1, x2, x3, e1, f, e2, h0, h1, h2, h3⟩ => ⟨p, x0, x1, x2, x3, e1, t.f _ f, t.c _ _ f e2, PyI.st t h0, PyI.st t h1, PyI.st t h2, PyI.st t h3⟩⟩
instance {α0 α1 α2 α3 : Type} [Inhabited α0] [Inhabited α1] [Inhabited α2] [Inhabited α3] : Inhabited (HL4 α0 α1 α2 α3) := ⟨⟨default, default, default, default⟩⟩
theorem ew_HL4 {α0 α1 α2 α3 : Type} [PyI α0] [PyI α1] [PyI α2] [PyI α3] {e : Ef} {σ : L2.St} {W : Wo} {t0 t1 t2 t3 : TE} {w0 : WP α0} {w1 : WP α1} {w2 : WP α2} {w3 : WP α3} (h0 : EvW e t0 σ W sI w0) (h1 : EvW e t1 σ W sI w1) (h2 : EvW e t2 σ W sI w2) (h3 : EvW e t3 σ W sI w3) : EvW e (tLst (tCons t0 (tCons t1 (tCons t2 (tCons t3 tNil))))) σ W sI (WP.b4 w0 w1 w2 w3 fun a b c d => WP.pure (⟨a, b, c, d⟩ : HL4 α0 α1 α2 α3)) := fun W1 g Q q => by
  refine h0 W1 g _ (w0.mono (fun n a q x0 V0 g0 hn r0 => ?_) q)
  subst hn
  have gg1 := g0
  refine h1 V0 (g.trans gg1) _ (w1.mono (fun n b q x1 V1 g1 hn r1 => ?_) q)
  subst hn
  have gg2 := gg1.trans g1
  have r0 := PyI.st g1.st r0
  refine h2 V1 (g.trans gg2) _ (w2.mono (fun n c q x2 V2 g2 hn r2 => ?_) q)
  subst hn
  have gg3 := gg2.trans g2
  have r0 := PyI.st g2.st r0
  have r1 := PyI.st g2.st r1
  refine h3 V2 (g.trans gg3) _ (w3.mono (fun n d q x3 V3 g3 hn r3 => ?_) q)
  subst hn
  have gg4 := gg3.trans g3
  have r0 := PyI.st g3.st r0
  have r1 := PyI.st g3.st r1
  have r2 := PyI.st g3.st r2
  refine ⟨sz_le (n := 4) (by decide), fun p hp => ?_⟩
  have ga := Gw.alloc (o := .lst [x0, x1, x2, x3]) gg4.ok hp
  have gf := Gw.frz (fp := [p]) gg4.ok ga (fun a m => by cases mem_one m; exact hp) (fun a m => by cases mem_one m; exact some_ne upd_same)
  exact q _ _ (gg4.trans gf) rfl ⟨p, x0, x1, x2, x3, rfl, .inr (List.mem_singleton.mpr rfl), upd_same, PyI.st gf.st r0, PyI.st gf.st r1, PyI.st gf.st r2, PyI.st gf.st r3⟩
theorem ew_HL4_0 {α0 α1 α2 α3 : Type} [PyI α0] [PyI α1] [PyI α2] [PyI α3] {e : Ef} {σ : L2.St} {W : Wo} {K : PySem.W.Frag} {ta : TE} {w : WP (HL4 α0 α1 α2 α3)} (ha : EvW e ta σ W sI w) : EvW e (tOp (rIxL K) ta (tC (.int 0))) σ W sI (w.bind fun c => WP.pure c.a) := fun W1 g Q q => ha W1 g _ (w.mono (fun n c h v W2 g2 hn ⟨p, x0, x1, x2, x3, h1, _, h2, h00, h01, h02, h03⟩ => ⟨p, _, 0, x0, h1, rfl, SqL.of h2, rfl, h _ W2 g2 hn h00⟩) q)
theorem ew_HL4_1 {α0 α1 α2 α3 : Type} [PyI α0] [PyI α1] [PyI α2] [PyI α3] {e : Ef} {σ : L2.St} {W : Wo} {K : PySem.W.Frag} {ta : TE} {w : WP (HL4 α0 α1 α2 α3)} (ha : EvW e ta σ W sI w) : EvW e (tOp (rIxL K) ta (tC (.int 1))) σ W sI (w.bind fun c => WP.pure c.b) := fun W1 g Q q => ha W1 g _ (w.mono (fun n c h v W2 g2 hn ⟨p, x0, x1, x2, x3, h1, _, h2, h00, h01, h02, h03⟩ => ⟨p, _, 1, x1, h1, rfl, SqL.of h2, rfl, h _ W2 g2 hn h01⟩) q)
theorem ew_HL4_2 {α0 α1 α2 α3 : Type} [PyI α0] [PyI α1] [PyI α2] [PyI α3] {e : Ef} {σ : L2.St} {W : Wo} {K : PySem.W.Frag} {ta : TE} {w : WP (HL4 α0 α1 α2 α3)} (ha : EvW e ta σ W sI w) : EvW e (tOp (rIxL K) ta (tC (.int 2))) σ W sI (w.bind fun c => WP.pure c.c) := fun W1 g Q q => ha W1 g _ (w.mono (fun n c h v W2 g2 hn ⟨p, x0, x1, x2, x3, h1, _, h2, h00, h01, h02, h03⟩ => ⟨p, _, 2, x2, h1, rfl, SqL.of h2, rfl, h _ W2 g2 hn h02⟩) q)
theorem ew_HL4_3 {α0 α1 α2 α3 : Type} [PyI α0] [PyI α1] [PyI α2] [PyI α3] {e : Ef} {σ : L2.St} {W : Wo} {K : PySem.W.Frag} {ta : TE} {w : WP (HL4 α0 α1 α2 α3)} (ha : EvW e ta σ W sI w) : EvW e (tOp (rIxL K) ta (tC (.int 3))) σ W sI (w.bind fun c => WP.pure c.d) := fun W1 g Q q => ha W1 g _ (w.mono (fun n c h v W2 g2 hn ⟨p, x0, x1, x2, x3, h1, _, h2, h00, h01, h02, h03⟩ => ⟨p, _, 3, x3, h1, rfl, SqL.of h2, rfl, h _ W2 g2 hn h03⟩) q)
theorem st_unHL4 {α0 α1 α2 α3 : Type} [PyI α0] [PyI α1] [PyI α2] [PyI α3] {e : Ef} {σ : L2.St} {W : Wo} {β : Type} {K : PySem.W.Frag} {te : TE} {i0 i1 i2 i3 : Nat} {D : Ends} {tz : TS} {R : Nat → β → Prop} {w : WP (HL4 α0 α1 α2 α3)} {f : HL4 α0 α1 α2 α3 → WP β} (h : EvW e te σ W sI w) (g : Good e W) (hm : (w.bind f).run W.n R) (q : ∀ (c : HL4 α0 α1 α2 α3) x0 x1 x2 x3 W1, Gw e W W1 → Rp W1 c.a x0 → Rp W1 c.b x1 → Rp W1 c.c x2 → Rp W1 c.d x3 → (f c).run W1.n R → D.nx ((((σ.set i0 (some x0)).set i1 (some x1)).set i2 (some x2)).set i3 (some x3)) W1.H) : tAsg te (gUnl K 4 (gCons (gName i0) (gCons (gName i1) (gCons (gName i2) (gCons (gName i3) gNil))))) D σ W.H :=
  h W (Gw.refl g) _ (w.mono (fun n c r v W1 g1 hn ⟨p, x0, x1, x2, x3, h1, _, h2, h00, h01, h02, h03⟩ => ⟨p, [x0, x1, x2, x3], h1, SqL.of h2, rfl, x0, [x1, x2, x3], rfl, x1, [x2, x3], rfl, x2, [x3], rfl, x3, [], rfl, rfl, q c x0 x1 x2 x3 W1 g1 h00 h01 h02 h03 (hn ▸ r)⟩) hm)
theorem q_unHL4 {α0 α1 α2 α3 : Type} [PyI α0] [PyI α1] [PyI α2] [PyI α3] {e : Ef} {σ : L2.St} {W : Wo} {β : Type} {K : PySem.W.Frag} {te : TE} {i0 i1 i2 i3 : Nat} {D : Ends} {tz : TS} {R : Nat → β → Prop} {w : WP (HL4 α0 α1 α2 α3)} {f : HL4 α0 α1 α2 α3 → WP β} (h : EvW e te σ W sI w) (g : Good e W) (hm : (w.bind f).run W.n R) (q : ∀ (c : HL4 α0 α1 α2 α3) x0 x1 x2 x3 W1, Gw e W W1 → Rp W1 c.a x0 → Rp W1 c.b x1 → Rp W1 c.c x2 → Rp W1 c.d x3 → (f c).run W1.n R → tz D ((((σ.set i0 (some x0)).set i1 (some x1)).set i2 (some x2)).set i3 (some x3)) W1.H) : tSeq (tAsg te (gUnl K 4 (gCons (gName i0) (gCons (gName i1) (gCons (gName i2) (gCons (gName i3) gNil)))))) tz D σ W.H :=
  h W (Gw.refl g) _ (w.mono (fun n c r v W1 g1 hn ⟨p, x0, x1, x2, x3, h1, _, h2, h00, h01, h02, h03⟩ => ⟨p, [x0, x1, x2, x3], h1, SqL.of h2, rfl, x0, [x1, x2, x3], rfl, x1, [x2, x3], rfl, x2, [x3], rfl, x3, [], rfl, rfl, q c x0 x1 x2 x3 W1 g1 h00 h01 h02 h03 (hn ▸ r)⟩) hm)
@[ext] structure T4 (α0 α1 α2 α3 : Type) where
  a : α0
  b : α1
  c : α2
  d : α3
instance {α0 α1 α2 α3 : Type} [PyI α0] [PyI α1] [PyI α2] [PyI α3] : PyI (T4 α0 α1 α2 α3) := ⟨fun W c v => ∃ p x0 x1 x2 x3, v = .ref p ∧ W.H p = some (.tup [x0, x1, x2, x3]) ∧ Rp W c.a x0 ∧ Rp W c.b x1 ∧ Rp W c.c x2 ∧ Rp W c.d x3, fun t ⟨p, x0, x1, x2, x3, e1, e2, h0, h1, h2, h3⟩ => ⟨p, x0, x1, x2, x3, e1, t.t _ _ e2, PyI.st t h0, PyI.st t h1, PyI.st t h2, PyI.st t h3⟩⟩
instance {α0 α1 α2 α3 : Type} [Inhabited α0] [Inhabited α1] [Inhabited α2] [Inhabited α3] : Inhabited (T4 α0 α1 α2 α3) := ⟨⟨default, default, default, default⟩⟩
theorem ew_T4 {α0 α1 α2 α3 : Type} [PyI α0] [PyI α1] [PyI α2] [PyI α3] {e : Ef} {σ : L2.St} {W : Wo} {t0 t1 t2 t3 : TE} {w0 : WP α0} {w1 : WP α1} {w2 : WP α2} {w3 : WP α3} (h0 : EvW e t0 σ W sI w0) (h1 : EvW e t1 σ W sI w1) (h2 : EvW e t2 σ W sI w2) (h3 : EvW e t3 σ W sI w3) : EvW e (tTup (tCons t0 (tCons t1 (tCons t2 (tCons t3 tNil))))) σ W sI (WP.b4 w0 w1 w2 w3 fun a b c d => WP.pure (⟨a, b, c, d⟩ : T4 α0 α1 α2 α3)) := fun W1 g Q q => by
  refine h0 W1 g _ (w0.mono (fun n a q x0 V0 g0 hn r0 => ?_) q)
  subst hn
  have gg1 := g0
  refine h1 V0 (g.trans gg1) _ (w1.mono (fun n b q x1 V1 g1 hn r1 => ?_) q)
  subst hn
  have gg2 := gg1.trans g1
  have r0 := PyI.st g1.st r0
  refine h2 V1 (g.trans gg2) _ (w2.mono (fun n c q x2 V2 g2 hn r2 => ?_) q)
  subst hn
  have gg3 := gg2.trans g2
  have r0 := PyI.st g2.st r0
  have r1 := PyI.st g2.st r1
  refine h3 V2 (g.trans gg3) _ (w3.mono (fun n d q x3 V3 g3 hn r3 => ?_) q)
  subst hn
  have gg4 := gg3.trans g3
  have r0 := PyI.st g3.st r0
  have r1 := PyI.st g3.st r1
  have r2 := PyI.st g3.st r2
  refine ⟨sz_le (n := 4) (by decide), fun p hp => ?_⟩
  have ga := Gw.alloc (o := .tup [x0, x1, x2, x3]) gg4.ok hp
  exact q _ _ (gg4.trans ga) rfl ⟨p, x0, x1, x2, x3, rfl, upd_same, PyI.st ga.st r0, PyI.st ga.st r1, PyI.st ga.st r2, PyI.st ga.st r3⟩
theorem ew_T4_0 {α0 α1 α2 α3 : Type} [PyI α0] [PyI α1] [PyI α2] [PyI α3] {e : Ef} {σ : L2.St} {W : Wo} {K : PySem.W.Frag} {ta : TE} {w : WP (T4 α0 α1 α2 α3)} (ha : EvW e ta σ W sI w) : EvW e (tOp (rIxT K) ta (tC (.int 0))) σ W sI (w.bind fun c => WP.pure c.a) := fun W1 g Q q => ha W1 g _ (w.mono (fun n c h v W2 g2 hn ⟨p, x0, x1, x2, x3, h1, h2, h00, h01, h02, h03⟩ => ⟨p, _, 0, x0, h1, rfl, SqT.of h2, rfl, h _ W2 g2 hn h00⟩) q)
theorem ew_T4_1 {α0 α1 α2 α3 : Type} [PyI α0] [PyI α1] [PyI α2] [PyI α3] {e : Ef} {σ : L2.St} {W : Wo} {K : PySem.W.Frag} {ta : TE} {w : WP (T4 α0 α1 α2 α3)} (ha : EvW e ta σ W sI w) : EvW e (tOp (rIxT K) ta (tC (.int 1))) σ W sI (w.bind fun c => WP.pure c.b) := fun W1 g Q q => ha W1 g _ (w.mono (fun n c h v W2 g2 hn ⟨p, x0, x1, x2, x3, h1, h2, h00, h01, h02, h03⟩ => ⟨p, _, 1, x1, h1, rfl, SqT.of h2, rfl, h _ W2 g2 hn h01⟩) q)
theorem ew_T4_2 {α0 α1 α2 α3 : Type} [PyI α0] [PyI α1] [PyI α2] [PyI α3] {e : Ef} {σ : L2.St} {W : Wo} {K : PySem.W.Frag} {ta : TE} {w : WP (T4 α0 α1 α2 α3)} (ha : EvW e ta σ W sI w) : EvW e (tOp (rIxT K) ta (tC (.int 2))) σ W sI (w.bind fun c => WP.pure c.c) := fun W1 g Q q => ha W1 g _ (w.mono (fun n c h v W2 g2 hn ⟨p, x0, x1, x2, x3, h1, h2, h00, h01, h02, h03⟩ => ⟨p, _, 2, x2, h1, rfl, SqT.of h2, rfl, h _ W2 g2 hn h02⟩) q)
theorem ew_T4_3 {α0 α1 α2 α3 : Type} [PyI α0] [PyI α1] [PyI α2] [PyI α3] {e : Ef} {σ : L2.St} {W : Wo} {K : PySem.W.Frag} {ta : TE} {w : WP (T4 α0 α1 α2 α3)} (ha : EvW e ta σ W sI w) : EvW e (tOp (rIxT K) ta (tC (.int 3))) σ W sI (w.bind fun c => WP.pure c.d) := fun W1 g Q q => ha W1 g _ (w.mono (fun n c h v W2 g2 hn ⟨p, x0, x1, x2, x3, h1, h2, h00, h01, h02, h03⟩ => ⟨p, _, 3, x3, h1, rfl, SqT.of h2, rfl, h _ W2 g2 hn h03⟩) q)
theorem st_unT4 {α0 α1 α2 α3 : Type} [PyI α0] [PyI α1] [PyI α2] [PyI α3] {e : Ef} {σ : L2.St} {W : Wo} {β : Type} {K : PySem.W.Frag} {te : TE} {i0 i1 i2 i3 : Nat} {D : Ends} {tz : TS} {R : Nat → β → Prop} {w : WP (T4 α0 α1 α2 α3)} {f : T4 α0 α1 α2 α3 → WP β} (h : EvW e te σ W sI w) (g : Good e W) (hm : (w.bind f).run W.n R) (q : ∀ (c : T4 α0 α1 α2 α3) x0 x1 x2 x3 W1, Gw e W W1 → Rp W1 c.a x0 → Rp W1 c.b x1 → Rp W1 c.c x2 → Rp W1 c.d x3 → (f c).run W1.n R → D.nx ((((σ.set i0 (some x0)).set i1 (some x1)).set i2 (some x2)).set i3 (some x3)) W1.H) : tAsg te (gTup K 4 (gCons (gName i0) (gCons (gName i1) (gCons (gName i2) (gCons (gName i3) gNil))))) D σ W.H :=
  h W (Gw.refl g) _ (w.mono (fun n c r v W1 g1 hn ⟨p, x0, x1, x2, x3, h1, h2, h00, h01, h02, h03⟩ => ⟨p, [x0, x1, x2, x3], h1, SqT.of h2, rfl, x0, [x1, x2, x3], rfl, x1, [x2, x3], rfl, x2, [x3], rfl, x3, [], rfl, rfl, q c x0 x1 x2 x3 W1 g1 h00 h01 h02 h03 (hn ▸ r)⟩) hm)
theorem q_unT4 {α0 α1 α2 α3 : Type} [PyI α0] [PyI α1] [PyI α2] [PyI α3] {e : Ef} {σ : L2.St} {W : Wo} {β : Type} {K : PySem.W.Frag} {te : TE} {i0 i1 i2 i3 : Nat} {D : Ends} {tz : TS} {R : Nat → β → Prop} {w : WP (T4 α0 α1 α2 α3)} {f : T4 α0 α1 α2 α3 → WP β} (h : EvW e te σ W sI w) (g : Good e W) (hm : (w.bind f).run W.n R) (q : ∀ (c : T4 α0 α1 α2 α3) x0 x1 x2 x3 W1, Gw e W W1 → Rp W1 c.a x0 → Rp W1 c.b x1 → Rp W1 c.c x2 → Rp W1 c.d x3 → (f c).run W1.n R → tz D ((((σ.set i0 (some x0)).set i1 (some x1)).set i2 (some x2)).set i3 (some x3)) W1.H) : tSeq (tAsg te (gTup K 4 (gCons (gName i0) (gCons (gName i1) (gCons (gName i2) (gCons (gName i3) gNil)))))) tz D σ W.H :=
  h W (Gw.refl g) _ (w.mono (fun n c r v W1 g1 hn ⟨p, x0, x1, x2, x3, h1, h2, h00, h01, h02, h03⟩ => ⟨p, [x0, x1, x2, x3], h1, SqT.of h2, rfl, x0, [x1, x2, x3], rfl, x1, [x2, x3], rfl, x2, [x3], rfl, x3, [], rfl, rfl, q c x0 x1 x2 x3 W1 g1 h00 h01 h02 h03 (hn ▸ r)⟩) hm)
@[ext] structure T5 (α0 α1 α2 α3 α4 : Type) where
  a : α0
  b : α1
  c : α2
  d : α3
  e : α4
instance {α0 α1 α2 α3 α4 : Type} [PyI α0] [PyI α1] [PyI α2] [PyI α3] [PyI α4] : PyI (T5 α0 α1 α2 α3 α4) := ⟨fun W c v => ∃ p x0 x1 x2 x3 x4, v = .ref p ∧ W.H p = some (.tup [x0, x1, x2, x3, x4]) ∧ Rp W c.a x0 ∧ Rp W c.b x1 ∧ Rp W c.c x2 ∧ Rp W c.d x3 ∧ Rp W c.e x4, fun t ⟨p, x0, x1, x2, x3, x4, e1, e2, h0, h1, h2, h3, h4⟩ => ⟨p, x0, x1, x2, x3, x4, e1, t.t _ _ e2, PyI.st t h0, PyI.st t h1, PyI.st t h2, PyI.st t h3, PyI.st t h4⟩⟩
instance {α0 α1 α2 α3 α4 : Type} [Inhabited α0] [Inhabited α1] [Inhabited α2] [Inhabited α3] [Inhabited α4] : Inhabited (T5 α0 α1 α2 α3 α4) := ⟨⟨default, default, default, default, default⟩⟩
theorem ew_T5 {α0 α1 α2 α3 α4 : Type} [PyI α0] [PyI α1] [PyI α2] [PyI α3] [PyI α4] {e : Ef} {σ : L2.St} {W : Wo} {t0 t1 t2 t3 t4 : TE} {w0 : WP α0} {w1 : WP α1} {w2 : WP α2} {w3 : WP α3} {w4 : WP α4} (h0 : EvW e t0 σ W sI w0) (h1 : EvW e t1 σ W sI w1) (h2 : EvW e t2 σ W sI w2) (h3 : EvW e t3 σ W sI w3) (h4 : EvW e t4 σ W sI w4) : EvW e (tTup (tCons t0 (tCons t1 (tCons t2 (tCons t3 (tCons t4 tNil)))))) σ W sI (WP.b5 w0 w1 w2 w3 w4 fun a b c d e => WP.pure (⟨a, b, c, d, e⟩ : T5 α0 α1 α2 α3 α4)) := fun W1 g Q q => by
  refine h0 W1 g _ (w0.mono (fun n a q x0 V0 g0 hn r0 => ?_) q)
  subst hn
  have gg1 := g0
  refine h1 V0 (g.trans gg1) _ (w1.mono (fun n b q x1 V1 g1 hn r1 => ?_) q)
  subst hn
  have gg2 := gg1.trans g1
  have r0 := PyI.st g1.st r0
  refine h2 V1 (g.trans gg2) _ (w2.mono (fun n c q x2 V2 g2 hn r2 => ?_) q)
  subst hn
  have gg3 := gg2.trans g2
  have r0 := PyI.st g2.st r0
  have r1 := PyI.st g2.st r1
  refine h3 V2 (g.trans gg3) _ (w3.mono (fun n d q x3 V3 g3 hn r3 => ?_) q)
  subst hn
  have gg4 := gg3.trans g3
  have r0 := PyI.st g3.st r0
  have r1 := PyI.st g3.st r1
  have r2 := PyI.st g3.st r2
  refine h4 V3 (g.trans gg4) _ (w4.mono (fun n e q x4 V4 g4 hn r4 => ?_) q)
  subst hn
  have gg5 := gg4.trans g4
  have r0 := PyI.st g4.st r0
  have r1 := PyI.st g4.st r1
  have r2 := PyI.st g4.st r2
  have r3 := PyI.st g4.st r3
  refine ⟨sz_le (n := 5) (by decide), fun p hp => ?_⟩
  have ga := Gw.alloc (o := .tup [x0, x1, x2, x3, x4]) gg5.ok hp
  exact q _ _ (gg5.trans ga) rfl ⟨p, x0, x1, x2, x3, x4, rfl, upd_same, PyI.st ga.st r0, PyI.st ga.st r1, PyI.st ga.st r2, PyI.st ga.st r3, PyI.st ga.st r4⟩
theorem ew_T5_0 {α0 α1 α2 α3 α4 : Type} [PyI α0] [PyI α1] [PyI α2] [PyI α3] [PyI α4] {e : Ef} {σ : L2.St} {W : Wo} {K : PySem.W.Frag} {ta : TE} {w : WP (T5 α0 α1 α2 α3 α4)} (ha : EvW e ta σ W sI w) : EvW e (tOp (rIxT K) ta (tC (.int 0))) σ W sI (w.bind fun c => WP.pure c.a) := fun W1 g Q q => ha W1 g _ (w.mono (fun n c h v W2 g2 hn ⟨p, x0, x1, x2, x3, x4, h1, h2, h00, h01, h02, h03, h04⟩ => ⟨p, _, 0, x0, h1, rfl, SqT.of h2, rfl, h _ W2 g2 hn h00⟩) q)
theorem ew_T5_1 {α0 α1 α2 α3 α4 : Type} [PyI α0] [PyI α1] [PyI α2] [PyI α3] [PyI α4] {e : Ef} {σ : L2.St} {W : Wo} {K : PySem.W.Frag} {ta : TE} {w : WP (T5 α0 α1 α2 α3 α4)} (ha : EvW e ta σ W sI w) : EvW e (tOp (rIxT K) ta (tC (.int 1))) σ W sI (w.bind fun c => WP.pure c.b) := fun W1 g Q q => ha W1 g _ (w.mono (fun n c h v W2 g2 hn ⟨p, x0, x1, x2, x3, x4, h1, h2, h00, h01, h02, h03, h04⟩ => ⟨p, _, 1, x1, h1, rfl, SqT.of h2, rfl, h _ W2 g2 hn h01⟩) q)
theorem ew_T5_2 {α0 α1 α2 α3 α4 : Type} [PyI α0] [PyI α1] [PyI α2] [PyI α3] [PyI α4] {e : Ef} {σ : L2.St} {W : Wo} {K : PySem.W.Frag} {ta : TE} {w : WP (T5 α0 α1 α2 α3 α4)} (ha : EvW e ta σ W sI w) : EvW e (tOp (rIxT K) ta (tC (.int 2))) σ W sI (w.bind fun c => WP.pure c.c) := fun W1 g Q q => ha W1 g _ (w.mono (fun n c h v W2 g2 hn ⟨p, x0, x1, x2, x3, x4, h1, h2, h00, h01, h02, h03, h04⟩ => ⟨p, _, 2, x2, h1, rfl, SqT.of h2, rfl, h _ W2 g2 hn h02⟩) q)
theorem ew_T5_3 {α0 α1 α2 α3 α4 : Type} [PyI α0] [PyI α1] [PyI α2] [PyI α3] [PyI α4] {e : Ef} {σ : L2.St} {W : Wo} {K : PySem.W.Frag} {ta : TE} {w : WP (T5 α0 α1 α2 α3 α4)} (ha : EvW e ta σ W sI w) : EvW e (tOp (rIxT K) ta (tC (.int 3))) σ W sI (w.bind fun c => WP.pure c.d) := fun W1 g Q q => ha W1 g _ (w.mono (fun n c h v W2 g2 hn ⟨p, x0, x1, x2, x3, x4, h1, h2, h00, h01, h02, h03, h04⟩ => ⟨p, _, 3, x3, h1, rfl, SqT.of h2, rfl, h _ W2 g2 hn h03⟩) q)
theorem ew_T5_4 {α0 α1 α2 α3 α4 : Type} [PyI α0] [PyI α1] [PyI α2] [PyI α3] [PyI α4] {e : Ef} {σ : L2.St} {W : Wo} {K : PySem.W.Frag} {ta : TE} {w : WP (T5 α0 α1 α2 α3 α4)} (ha : EvW e ta σ W sI w) : EvW e (tOp (rIxT K) ta (tC (.int 4))) σ W sI (w.bind fun c => WP.pure c.e) := fun W1 g Q q => ha W1 g _ (w.mono (fun n c h v W2 g2 hn ⟨p, x0, x1, x2, x3, x4, h1, h2, h00, h01, h02, h03, h04⟩ => ⟨p, _, 4, x4, h1, rfl, SqT.of h2, rfl, h _ W2 g2 hn h04⟩) q)
theorem st_unT5 {α0 α1 α2 α3 α4 : Type} [PyI α0] [PyI α1] [PyI α2] [PyI α3] [PyI α4] {e : Ef} {σ : L2.St} {W : Wo} {β : Type} {K : PySem.W.Frag} {te : TE} {i0 i1 i2 i3 i4 : Nat} {D : Ends} {tz : TS} {R : Nat → β → Prop} {w : WP (T5 α0 α1 α2 α3 α4)} {f : T5 α0 α1 α2 α3 α4 → WP β} (h : EvW e te σ W sI w) (g : Good e W) (hm : (w.bind f).run W.n R) (q : ∀ (c : T5 α0 α1 α2 α3 α4) x0 x1 x2 x3 x4 W1, Gw e W W1 → Rp W1 c.a x0 → Rp W1 c.b x1 → Rp W1 c.c x2 → Rp W1 c.d x3 → Rp W1 c.e x4 → (f c).run W1.n R → D.nx (((((σ.set i0 (some x0)).set i1 (some x1)).set i2 (some x2)).set i3 (some x3)).set i4 (some x4)) W1.H) : tAsg te (gTup K 5 (gCons (gName i0) (gCons (gName i1) (gCons (gName i2) (gCons (gName i3) (gCons (gName i4) gNil)))))) D σ W.H :=
  h W (Gw.refl g) _ (w.mono (fun n c r v W1 g1 hn ⟨p, x0, x1, x2, x3, x4, h1, h2, h00, h01, h02, h03, h04⟩ => ⟨p, [x0, x1, x2, x3, x4], h1, SqT.of h2, rfl, x0, [x1, x2, x3, x4], rfl, x1, [x2, x3, x4], rfl, x2, [x3, x4], rfl, x3, [x4], rfl, x4, [], rfl, rfl, q c x0 x1 x2 x3 x4 W1 g1 h00 h01 h02 h03 h04 (hn ▸ r)⟩) hm)
theorem q_unT5 {α0 α1 α2 α3 α4 : Type} [PyI α0] [PyI α1] [PyI α2] [PyI α3] [PyI α4] {e : Ef} {σ : L2.St} {W : Wo} {β : Type} {K : PySem.W.Frag} {te : TE} {i0 i1 i2 i3 i4 : Nat} {D : Ends} {tz : TS} {R : Nat → β → Prop} {w : WP (T5 α0 α1 α2 α3 α4)} {f : T5 α0 α1 α2 α3 α4 → WP β} (h : EvW e te σ W sI w) (g : Good e W) (hm : (w.bind f).run W.n R) (q : ∀ (c : T5 α0 α1 α2 α3 α4) x0 x1 x2 x3 x4 W1, Gw e W W1 → Rp W1 c.a x0 → Rp W1 c.b x1 → Rp W1 c.c x2 → Rp W1 c.d x3 → Rp W1 c.e x4 → (f c).run W1.n R → tz D (((((σ.set i0 (some x0)).set i1 (some x1)).set i2 (some x2)).set i3 (some x3)).set i4 (some x4)) W1.H) : tSeq (tAsg te (gTup K 5 (gCons (gName i0) (gCons (gName i1) (gCons (gName i2) (gCons (gName i3) (gCons (gName i4) gNil))))))) tz D σ W.H :=
  h W (Gw.refl g) _ (w.mono (fun n c r v W1 g1 hn ⟨p, x0, x1, x2, x3, x4, h1, h2, h00, h01, h02, h03, h04⟩ => ⟨p, [x0, x1, x2, x3, x4], h1, SqT.of h2, rfl, x0, [x1, x2, x3, x4], rfl, x1, [x2, x3, x4], rfl, x2, [x3, x4], rfl, x3, [x4], rfl, x4, [], rfl, rfl, q c x0 x1 x2 x3 x4 W1 g1 h00 h01 h02 h03 h04 (hn ▸ r)⟩) hm)

/-- a new list frozen at once -/
theorem ew_frz {α : Type} [PyI α] {e : Ef} {σ : L2.St} {W : Wo} {te : TE} {w : WP (List α)} (h : EvW e te σ W (sN (kL α)) w) : EvW e te σ W sI (w.bind fun xs => WP.pure (⟨xs⟩ : Ls α)) := fun W1 g Q q => h W1 g Q (w.mono (fun n xs hq v W2 g2 hn ⟨fp, ⟨p, vs, e1, e2, hp, hr⟩, hf⟩ => by
  subst e1
  have m := hf p (List.mem_singleton.mpr rfl)
  have gf := Gw.frz (fp := [p]) g.ok g2 (fun a ma => by cases mem_one ma; exact m.1) (fun a ma => by cases mem_one ma; exact some_ne hp)
  exact hq v (W2.frz [p]) gf hn ⟨p, vs, e2, .inr (List.mem_singleton.mpr rfl), hp, Rps.st St.frz hr⟩) q)
/-- a list of our own frozen -/
theorem frz_own {α : Type} [PyI α] {e : Ef} {W0 W : Wo} {fp : List Addr} {xs : List α} {v : V} (g00 : Good e W0) (g0 : Gw e W0 W) (h : Var (kL α) W0 W fp xs v) : Gw e W0 (W.frz fp) ∧ St W (W.frz fp) ∧ Rp (W.frz fp) (⟨xs⟩ : Ls α) v :=
  ⟨Gw.frz g00 g0 h.fr ((kL α).live h.own), St.frz, by
    obtain ⟨⟨p, vs, e1, e2, hp, hr⟩, _, _⟩ := h
    exact ⟨p, vs, e2, .inr (by rw [e1]; exact List.mem_singleton.mpr rfl), hp, Rps.st St.frz hr⟩⟩
theorem Var.frzd {κ : Type} {k : Kd κ} {W0 W : Wo} {fp fq : List Addr} {x : κ} {v : V} (h : Var k W0 W fq x v) (d : ∀ b ∈ fq, b ∉ fp) : Var k W0 (W.frz fp) fq x v :=
  ⟨k.st St.frz (fun _ _ _ q => q) h.own, h.fr, fun a m f => f.elim (h.nF a m) (d a m)⟩
end Y

/-! None or a value; dicts asked; isinstance -/
namespace Y
open PySem PySem.Spec PyProof.Rows L2
/-- never None -/
class NN (α : Type) [PyI α] : Prop where
  nn : ∀ {W : Wo} {a : α} {v : V}, Rp W a v → v ≠ .non
instance : NN Int := ⟨fun h z => by cases h; cases z⟩
instance : NN Bool := ⟨fun h z => by cases h; cases z⟩
instance : NN Str := ⟨fun h z => by cases h; cases z⟩
instance {α β : Type} [PyI α] [PyI β] : NN (α × β) := ⟨fun ⟨p, x, y, h1, _⟩ z => by rw [h1] at z; cases z⟩
instance {α : Type} [PyI α] : NN (List α) := ⟨fun ⟨p, vs, h1, _⟩ z => by rw [h1] at z; cases z⟩
instance {α : Type} [PyI α] : NN (Ls α) := ⟨fun ⟨p, vs, h1, _⟩ z => by rw [h1] at z; cases z⟩
instance {α β γ : Type} [PyI α] [PyI β] [PyI γ] : NN (Tri α β γ) := ⟨fun ⟨p, x, y, w, h1, _⟩ z => by rw [h1] at z; cases z⟩
instance {α β : Type} [PyI α] [PyI β] : NN (HL2 α β) := ⟨fun ⟨p, x, y, h1, _⟩ z => by rw [h1] at z; cases z⟩
namespace WP
variable {α β γ : Type}
abbrev some' (w : WP α) : WP (Option α) := w.bind fun x => pure (some x)
abbrev isN (w : WP (Option α)) : WP Bool := w.bind fun o => pure o.isNone
abbrev notN (w : WP (Option α)) : WP Bool := w.bind fun o => pure o.isSome
abbrev the (w : WP (Option α)) [Inhabited α] : WP α := w.bind fun o => req (o.isSome = true) (o.getD default)
abbrev look (d : WP (List (Sq × β))) (q : WP Sq) : WP (Option β) := b2 d q fun d x => pure (lookK d x)
abbrev look2 (d : WP (List (Sq × β))) (q : WP Sq) (z : WP β) : WP β := b3 d q z fun d x z => pure ((lookK d x).getD z)
abbrev keys (d : WP (List (Sq × β))) : WP (List Sq) := d.bind fun d => pure (d.map (·.1))
abbrev eqO [DecidableEq α] (a b : WP (Option α)) : WP Bool := b2 a b fun x y => req (x.isSome = true ∧ y.isSome = true) (decide (x = y))
end WP
section
variable {α β γ : Type} {K : PySem.W.Frag} {e : Ef} {σ : L2.St} {W : Wo} {ta tb te tc td ty tx : TE} {t u : TT} {i j k m n : Nat} {v : V}
theorem ew_some' [PyI α] [NN α] {w : WP α} (h : EvW e te σ W sI w) : EvW e te σ W sI (WP.some' w) := fun W1 g Q q => h W1 g Q (w.mono (fun n a hq v W2 g2 hn r => hq v W2 g2 hn ⟨NN.nn r, r⟩) q)
theorem ew_isN [PyI α] {w : WP (Option α)} (h : EvW e te σ W sI w) : EvW e (tIsN te) σ W sI (WP.isN w) := fun W1 g Q q => h W1 g _ (w.mono (fun n o hq v W2 g2 hn r => by
  cases o with
  | none => cases r; exact hq _ W2 g2 hn rfl
  | some a => exact hq _ W2 g2 hn (by rw [decide_eq_false r.1]; exact rfl)) q)
theorem ew_notN [PyI α] {w : WP (Option α)} (h : EvW e te σ W sI w) : EvW e (tNotN te) σ W sI (WP.notN w) := fun W1 g Q q => h W1 g _ (w.mono (fun n o hq v W2 g2 hn r => by
  cases o with
  | none => cases r; exact hq _ W2 g2 hn rfl
  | some a => exact hq _ W2 g2 hn (by rw [decide_eq_false r.1]; exact rfl)) q)
/-- what is surely there -/
theorem ew_the [PyI α] [Inhabited α] {w : WP (Option α)} (h : EvW e te σ W sI w) : EvW e te σ W sI (WP.the w) := fun W1 g Q q => h W1 g Q (w.mono (fun n o hq v W2 g2 hn r => by
  cases o with
  | none => cases hq.1
  | some a => exact hq.2 v W2 g2 hn r.2) q)
theorem ew_look [PyI β] [NN β] {w1 : WP (List (Sq × β))} {w2 : WP Sq} (hd : EvW e td σ W (sR (kDr β)) w1) (hk : EvW e ty σ W sI w2) : EvW e (tDGet1 td ty) σ W sI (WP.look w1 w2) := fun W1 g Q q =>
  hd W1 g _ (w1.mono (fun n d hq v W2 g2 hn r2 => by
    subst hn
    obtain ⟨fp, ⟨p, ks, ef, h2, h3, h4⟩, hS⟩ := r2
    subst h2
    refine ⟨p, rfl, .inr ⟨_, h3⟩, hk W2 (g.trans g2) _ (w2.mono (fun n x hq y W3 g3 hn r => ?_) hq)⟩
    obtain ⟨b, e1, e2⟩ := rp_key r
    subst e1
    have h3' := Rd.kp (fun o h => g3.keep _ _ h (hS p (by rw [ef]; exact List.mem_singleton.mpr rfl))) h3
    refine ⟨_, DGet.r h3' e2, hq _ W3 (g2.trans g3) hn ?_⟩
    rcases look_kv h4 x with ⟨a1, a2⟩ | ⟨b1, v1, a1, a2, rv⟩
    · rw [a1, a2]; exact rfl
    · rw [a1, a2]; exact ⟨NN.nn rv, PyI.st g3.st rv⟩) q)
theorem ew_look2 [PyI β] {w1 : WP (List (Sq × β))} {w2 : WP Sq} {w3 : WP β} (hd : EvW e td σ W (sR (kDr β)) w1) (hk : EvW e ty σ W sI w2) (hx : EvW e tx σ W sI w3) : EvW e (tDGet2 td ty tx) σ W sI (WP.look2 w1 w2 w3) := fun W1 g Q q =>
  hd W1 g _ (w1.mono (fun n d hq v W2 g2 hn r2 => by
    subst hn
    obtain ⟨fp, ⟨p, ks, ef, h2, h3, h4⟩, hS⟩ := r2
    subst h2
    refine ⟨p, rfl, .inr ⟨_, h3⟩, hk W2 (g.trans g2) _ (w2.mono (fun n x hq y W3 g3 hn r => ?_) hq)⟩
    subst hn
    refine hx W3 ((g.trans g2).trans g3) _ (w3.mono (fun n z hq vz W4 g4 hn rz => ?_) hq)
    obtain ⟨b, e1, e2⟩ := rp_key (PyI.st g4.st r)
    subst e1
    have h3' := Rd.kp (fun o h => (g3.trans g4).keep _ _ h (hS p (by rw [ef]; exact List.mem_singleton.mpr rfl))) h3
    refine ⟨_, DGet.r h3' e2, hq _ W4 ((g2.trans g3).trans g4) hn ?_⟩
    rcases look_kv h4 x with ⟨a1, a2⟩ | ⟨b1, v1, a1, a2, rv⟩
    · rw [a1, a2]; exact rz
    · rw [a1, a2]; exact PyI.st (g3.trans g4).st rv) q)
abbrev rListT : List V → Hp → VK → Prop := fun xs H Q => ∃ d kvs, xs = [V.ref d] ∧ Rd H d (.dT kvs) ∧ ∀ p bs, H p = none → IsKeys H kvs bs → Q (.ref p) (upd H p (.lst (bs.map V.ref)))
theorem rps_keys [PyI β] {W W' : Wo} : ∀ {kvs : List (Sq × β)} {ks : List (List Key × V)} {bs : List Addr}, Paired (Kv W') kvs ks → IsKeys W.H ks bs → Rps W (kvs.map (·.1)) (bs.map V.ref)
  | [], _, _, .nil, h => by cases h; exact .nil
  | (q, b) :: kvs, (k, x) :: ks, _, .cons r t, h => by
    cases h with
    | @cons a b as bs h' t' =>
      refine .cons ⟨b, _, _, rfl, ?_, rfl, rfl⟩ (rps_keys t t')
      have e1 : k = kSq q := r.1
      rw [e1] at h'
      exact h'
theorem ew_keys [PyI β] {w : WP (List (Sq × β))} (hd : EvW e td σ W (sR (kDr β)) w) : EvW e (tCB rListT (tCons td tNil)) σ W (sN (kL Sq)) (WP.keys w) := ew_cb1 hd fun W1 W2 d x g ⟨fp, ⟨p, ks, _, h2, h3, h4⟩, _⟩ Q q => by
  subst h2
  exact ⟨p, ks, rfl, h3, fun l bs hl hk => q _ _ (Gw.alloc g.ok hl) rfl (new_L (Gw.refl g.ok) hl (rps_keys h4 hk))⟩
theorem ew_eqO [PyI α] [DecidableEq α] [Scal α] {w1 w2 : WP (Option α)} (ha : EvW e ta σ W sI w1) (hb : EvW e tb σ W sI w2) : EvW e (tOp rEq ta tb) σ W sI (WP.eqO w1 w2) :=
  ew_op2 ha hb fun W2 a b x y r1 r2 hc Q q => by
    cases a with
    | none => cases hc.1
    | some a => cases b with
      | none => cases hc.2
      | some b =>
        rw [Scal.rv r1.2, Scal.rv r2.2]
        refine ⟨Scal.sc a b, q _ _ (Same.refl _) ?_⟩
        rw [scal_dec]
        have : decide (some a = some b) = decide (a = b) := by simp
        rw [this]
        exact (rfl : _ = V.bl _)
/-- isinstance -/
theorem ew_isi_int {w : WP Int} (h : EvW e te σ W sI w) : EvW e (tCB (rIsi K) (tCons te (tCons (tC (.ty "int")) tNil))) σ W sI (w.bind fun _ => WP.pure true) := fun W1 g Q q => h W1 g _ (w.mono (fun n z hq v W2 g2 hn r => by
  cases r
  exact ⟨_, _, _, _, true, rfl, .ty _, .base (.int z), kit_ty (by decide +kernel), hq _ W2 g2 hn rfl⟩) q)
theorem ew_isi_bool {w : WP Int} (h : EvW e te σ W sI w) : EvW e (tCB (rIsi K) (tCons te (tCons (tC (.ty "bool")) tNil))) σ W sI (w.bind fun _ => WP.pure false) := fun W1 g Q q => h W1 g _ (w.mono (fun n z hq v W2 g2 hn r => by
  cases r
  exact ⟨_, _, _, _, false, rfl, .ty _, .base (.int z), kit_ty (by decide +kernel), hq _ W2 g2 hn rfl⟩) q)
theorem ew_isib_bool {w : WP Bool} (h : EvW e te σ W sI w) : EvW e (tCB (rIsi K) (tCons te (tCons (tC (.ty "bool")) tNil))) σ W sI (w.bind fun _ => WP.pure true) := fun W1 g Q q => h W1 g _ (w.mono (fun n z hq v W2 g2 hn r => by
  cases r
  exact ⟨_, _, _, _, true, rfl, .ty _, .base (.bl z), kit_ty (by decide +kernel), hq _ W2 g2 hn rfl⟩) q)
theorem ew_isiO_int {w : WP (Option Int)} (h : EvW e te σ W sI w) : EvW e (tCB (rIsi K) (tCons te (tCons (tC (.ty "int")) tNil))) σ W sI (WP.notN w) := fun W1 g Q q => h W1 g _ (w.mono (fun n z hq v W2 g2 hn r => by
  cases z with
  | none =>
    cases r
    exact ⟨_, _, _, _, false, rfl, .ty _, .base .non, kit_ty (by decide +kernel), hq _ W2 g2 hn rfl⟩
  | some d =>
    cases r.2
    exact ⟨_, _, _, _, true, rfl, .ty _, .base (.int d), kit_ty (by decide +kernel), hq _ W2 g2 hn rfl⟩) q)
theorem ew_isiO_bool {w : WP (Option Int)} (h : EvW e te σ W sI w) : EvW e (tCB (rIsi K) (tCons te (tCons (tC (.ty "bool")) tNil))) σ W sI (w.bind fun _ => WP.pure false) := fun W1 g Q q => h W1 g _ (w.mono (fun n z hq v W2 g2 hn r => by
  cases z with
  | none =>
    cases r
    exact ⟨_, _, _, _, false, rfl, .ty _, .base .non, kit_ty (by decide +kernel), hq _ W2 g2 hn rfl⟩
  | some d =>
    cases r.2
    exact ⟨_, _, _, _, false, rfl, .ty _, .base (.int d), kit_ty (by decide +kernel), hq _ W2 g2 hn rfl⟩) q)
end
end Y

/-! texts gone through, written and read numbers, all and any, least and greatest of a list, copies -/
namespace Y
open PySem PySem.Spec PyProof.Rows L2
theorem rps_bls {W : Wo} {ns : List Bool} {vs : List V} (h : Rps W ns vs) : vs = ns.map V.bl := by
  induction h with
  | nil => rfl
  | cons r t ih => rw [show _ = _ from r, ih]; rfl
def signs (z : Str) : List Str := z.cps.toList.map fun c => ⟨#[c]⟩
namespace WP
variable {α β γ : Type}
abbrev int' (w : WP Str) : WP Int := w.bind fun a => req ((PySem.intText? a).isSome = true ∧ a.length ≤ 640) ((PySem.intText? a).getD 0)
abbrev str' (w : WP Int) : WP Str := w.bind fun i => req (i.natAbs.log2 < 1920) (toString i : Str)
abbrev index (w z : WP Str) : WP Int := b2 w z fun a b => req ((Txt.index0 a b).isSome = true) (((Txt.index0 a b).getD 0 : Nat) : Int)
abbrev all (w : WP (List Bool)) : WP Bool := w.bind fun bs => pure (bs.all id)
abbrev anyB (w : WP (List Bool)) : WP Bool := w.bind fun bs => pure (bs.any id)
abbrev signs (w : WP Str) : WP (List Str) := w.bind fun z => pure (Y.signs z)
abbrev minL (w : WP (List Int)) : WP Int := w.bind fun ns => (req (0 < ns.length) ns).bind fun ns => any fun m => m ∈ ns ∧ ∀ y ∈ ns, m ≤ y
abbrev maxL (w : WP (List Int)) : WP Int := w.bind fun ns => (req (0 < ns.length) ns).bind fun ns => any fun m => m ∈ ns ∧ ∀ y ∈ ns, y ≤ m
end WP
section
variable {α β γ s : Type} {X : Cx} {K : PySem.W.Frag} {e : Ef} {σ : L2.St} {W : Wo} {ta tb te tc tl to : TE} {t u : TT} {i j k m n : Nat} {v : V} {vs0 : List Nat} {g : TG} {D : Ends} {tu tz : TS} {R : Nat → β → Prop}
theorem ew_int' {w : WP Str} (ha : EvW e ta σ W sI w) : EvW e (tCB (fun xs H Q => ∃ a n, xs = [.str a] ∧ PySem.intText? a = some n ∧ a.length ≤ 640 ∧ Q (.int n) H) (tCons ta tNil)) σ W sI (WP.int' w) := ew_cb1 ha fun W1 W2 z x g r Q q => by
  cases r
  obtain ⟨⟨h1, h2⟩, q⟩ := q
  obtain ⟨n, hn⟩ := Option.isSome_iff_exists.mp h1
  exact ⟨z, n, rfl, hn, h2, q _ W2 (Gw.refl g.ok) rfl (by rw [hn]; exact rfl)⟩
theorem ew_str' {w : WP Int} (ha : EvW e ta σ W sI w) : EvW e (tCB (fun xs H Q => ∃ i, xs = [.int i] ∧ i.natAbs.log2 < 1920 ∧ Q (.str (toString i)) H) (tCons ta tNil)) σ W sI (WP.str' w) := ew_cb1 ha fun W1 W2 z x g r Q q => by
  cases r
  exact ⟨z, rfl, q.1, q.2 _ W2 (Gw.refl g.ok) rfl rfl⟩
theorem ew_all {w : WP (List Bool)} (ha : EvW e ta σ W (sR (kL Bool)) w) : EvW e (tCB (rAll K) (tCons ta tNil)) σ W sI (WP.all w) := ew_cb1 ha fun W1 W2 bs x g ⟨_, ⟨p, vs, _, h1, h2, h3⟩, _⟩ Q q => by
  subst h1
  cases rps_bls h3
  exact ⟨p, bs, rfl, SqL.of h2, q _ W2 (Gw.refl g.ok) rfl rfl⟩
theorem ew_any {w : WP (List Bool)} (ha : EvW e ta σ W (sR (kL Bool)) w) : EvW e (tCB (rAny K) (tCons ta tNil)) σ W sI (WP.anyB w) := ew_cb1 ha fun W1 W2 bs x g ⟨_, ⟨p, vs, _, h1, h2, h3⟩, _⟩ Q q => by
  subst h1
  cases rps_bls h3
  exact ⟨p, bs, rfl, SqL.of h2, q _ W2 (Gw.refl g.ok) rfl rfl⟩
theorem ew_minL {w : WP (List Int)} (ha : EvW e ta σ W (sR (kL Int)) w) : EvW e (tCB (rMin K) (tCons ta tNil)) σ W sI (WP.minL w) := ew_cb1 ha fun W1 W2 ns x g ⟨_, ⟨p, vs, _, h1, h2, h3⟩, _⟩ Q q => by
  subst h1
  cases rps_ints h3
  exact ⟨p, ns, rfl, SqL.of h2, q.1, fun m h4 h5 => q.2 m ⟨h4, h5⟩ _ W2 (Gw.refl g.ok) rfl rfl⟩
theorem ew_maxL {w : WP (List Int)} (ha : EvW e ta σ W (sR (kL Int)) w) : EvW e (tCB (rMax K) (tCons ta tNil)) σ W sI (WP.maxL w) := ew_cb1 ha fun W1 W2 ns x g ⟨_, ⟨p, vs, _, h1, h2, h3⟩, _⟩ Q q => by
  subst h1
  cases rps_ints h3
  exact ⟨p, ns, rfl, SqL.of h2, q.1, fun m h4 h5 => q.2 m ⟨h4, h5⟩ _ W2 (Gw.refl g.ok) rfl rfl⟩
/-- list(xs) -/
abbrev rListOf (K : PySem.W.Frag) : List V → Hp → VK → Prop := fun xs H Q => ∃ p ys, xs = [.ref p] ∧ (SqL K H p ys ∨ SqT K H p ys) ∧ ∀ l, H l = none → Q (.ref l) (upd H l (.lst ys))
theorem ew_copy [PyI α] {w : WP (List α)} (ha : EvW e ta σ W (sR (kL α)) w) : EvW e (tCB (rListOf K) (tCons ta tNil)) σ W (sN (kL α)) (w.bind fun xs => WP.pure (α := List α) xs) := ew_cb1 ha fun W1 W2 xs x g ⟨_, ⟨p, vs, _, h1, h2, h3⟩, _⟩ Q q => by
  subst h1
  exact ⟨p, vs, rfl, .inl (SqL.of h2), fun l hl => q _ _ (Gw.alloc g.ok hl) rfl (new_L (Gw.refl g.ok) hl h3)⟩
theorem ew_copyT [PyI α] {w : WP (List α)} (ha : EvW e ta σ W sI w) : EvW e (tCB (rListOf K) (tCons ta tNil)) σ W (sN (kL α)) (w.bind fun xs => WP.pure (α := List α) xs) := ew_cb1 ha fun W1 W2 xs x g ⟨p, vs, h1, h2, h3⟩ Q q => by
  subst h1
  exact ⟨p, vs, rfl, .inr (SqT.of h2), fun l hl => q _ _ (Gw.alloc g.ok hl) rfl (new_L (Gw.refl g.ok) hl h3)⟩
/-- xs[::-1] -/
theorem ew_revL [PyI α] {w : WP (List α)} (ha : EvW e ta σ W (sR (kL α)) w) : EvW e (tRevL K ta) σ W (sN (kL α)) (w.bind fun xs => WP.pure xs.reverse) := fun W1 g Q q => ha W1 g _ (w.mono (fun n xs hq v W2 g2 hn ⟨_, ⟨p, vs, _, h1, h2, h3⟩, _⟩ => by
  subst h1; subst hn
  exact ⟨p, vs, rfl, SqL.of h2, fun l hl => hq _ _ (g2.al hl) rfl (new_L g2 hl h3.revA)⟩) q)
/-- a comprehension over a text -/
theorem ew_lcS [PyI β] {w : WP Str} {T : Str → Wo → L2.St → Prop} {c : Str → WP Bool} {f : Str → WP β} (h : EvW e tl σ W sI w) (ht : Takes (fun W a x => Rp W a x) g σ vs0 T) (hw : ∀ a W' s2, T a W' s2 → wipe s2 vs0 = wipe σ vs0)
    (hc : ∀ a W1 s2, Gw e W W1 → T a W1 s2 → EvT e t s2 W1 (c a)) (he : ∀ a W1 s2, Gw e W W1 → T a W1 s2 → EvW e te s2 W1 sI (f a)) : EvW e (tLc (iStr tl) g t te vs0) σ W (sN (kL β)) (WP.lc (WP.signs w) c f) := fun W1 g1 Q q =>
  h W1 g1 _ (w.mono (fun n z hq v W2 g2 hn r => by
    subst hn; cases r
    refine ⟨z, rfl, fun Dl hD => ?_⟩
    obtain ⟨Pv, p0, pk, ps, pd⟩ := pv_comp (val := fun W a x => Rp W a x) (T := T) (t := t) (te := te) (g := g) (σ := σ) (vs0 := vs0) (Qd := fun H => Q (.ref Dl) H) g2.ok hD hq.1 ht hw (fun a W3 s2 g3 => hc a W3 s2 ((g1.trans g2).trans g3)) (fun a W3 s2 g3 => he a W3 s2 ((g1.trans g2).trans g3)) hq.2 fun W' ys vs' gw hl hF hr' hqq => hqq _ W' (g2.trans gw) rfl ⟨[Dl], ⟨Dl, vs', rfl, rfl, hl, hr'⟩, fun b mb => by
      cases List.mem_singleton.mp mb
      exact ⟨g2.live _ hD, fun s => g2.ok.S _ s hD, hF⟩⟩
    have el : (Y.signs z).length = z.cps.size := by unfold Y.signs; rw [List.length_map, Array.length_toList]
    exact lc_it (n := z.cps.size) (G := fun _ => True) (Y := fun i H x H' => H' = H ∧ ∃ c, z.cps[i]? = some c ∧ x = .str ⟨#[c]⟩) ⟨fun i H hi _ => hi, fun H _ => Nat.le_refl _, fun i H x H' hi _ y => y⟩ Pv p0 (fun _ _ _ _ => trivial) (fun i x H H' hi pp y => by
      obtain ⟨e1, c, hc, e2⟩ := y
      subst e1; subst e2
      refine ps i _ H' ⟨#[c]⟩ ?_ (fun W' gw => rfl) pp
      unfold Y.signs
      rw [List.getElem?_map, Array.getElem?_toList, hc]; rfl) (by rw [← el]; exact pd)) q)
/-- over a text -/
theorem st_forS {gt : TG} {T : Str → Wo → L2.St → L2.St → Prop} (ht : Tk gt T) {w : WP Str} {body : Str → s → WP (Ctl s γ)} {f : s → WP β} {r : γ → WP β} {x0 : s} (h : EvW e tl σ W sI w) (g : Good e W) (hm : ((WP.signs w).bind fun xs => WP.after (WP.loop body xs x0) f r).run W.n R)
    (q : ∀ (xs : List Str) W1, Gw e W W1 → ∃ INV : s → L2.St → Wo → Prop, INV x0 σ W1 ∧ (∀ y σ' W', INV y σ' W' → St W1 W') ∧ Turn INV body r R D tu T ∧ ∀ y σ' W', INV y σ' W' → (f y).run W'.n R → D.nx σ' W'.H) : tFor (iStr tl) gt tu D σ W.H :=
  h W (Gw.refl g) _ (w.mono (fun n z hm v W1 g1 hn e2 => by
    subst hn; cases e2
    obtain ⟨INV, h0, keep, step, hd⟩ := q (Y.signs z) W1 g1
    obtain ⟨Pv, p0, pk, ps, pd⟩ := pv_loop (D := D) INV h0 hm hd
    have el : (Y.signs z).length = z.cps.size := by unfold Y.signs; rw [List.length_map, Array.length_toList]
    refine ⟨z, rfl, for_it (n := z.cps.size) (G := fun _ => True) (Y := fun i H x H' => H' = H ∧ ∃ c, z.cps[i]? = some c ∧ x = .str ⟨#[c]⟩) ⟨fun i H hi _ => hi, fun H _ => Nat.le_refl _, fun i H x H' hi _ y => y⟩ Pv p0 (fun _ _ _ _ _ => trivial) (fun i x σ' H' H'' hi q y => ?_) (by rw [← el]; exact pd)⟩
    obtain ⟨e1, c, hc, e2⟩ := y
    subst e1; subst e2
    obtain ⟨y, W', R', e1, q1, q2, q3, q4, q5⟩ := ps i σ' H'' ⟨#[c]⟩ (by unfold Y.signs; rw [List.getElem?_map, Array.getElem?_toList, hc]; rfl) q
    subst e1
    exact ht ⟨#[c]⟩ _ W' σ' _ rfl fun s2 h2 => step ⟨#[c]⟩ y σ' s2 W' R' _ h2 q1 q2 q3 q4 q5) hm)
theorem q_forS {gt : TG} {T : Str → Wo → L2.St → L2.St → Prop} (ht : Tk gt T) {w : WP Str} {body : Str → s → WP (Ctl s γ)} {f : s → WP β} {r : γ → WP β} {x0 : s} (h : EvW e tl σ W sI w) (g : Good e W) (hm : ((WP.signs w).bind fun xs => WP.after (WP.loop body xs x0) f r).run W.n R)
    (q : ∀ (xs : List Str) W1, Gw e W W1 → ∃ INV : s → L2.St → Wo → Prop, INV x0 σ W1 ∧ (∀ y σ' W', INV y σ' W' → St W1 W') ∧ Turn INV body r R { D with nx := tz D } tu T ∧ ∀ y σ' W', INV y σ' W' → (f y).run W'.n R → tz D σ' W'.H) : tSeq (tFor (iStr tl) gt tu) tz D σ W.H := st_forS (D := { D with nx := tz D }) ht h g hm q
/-- s.index(y) -/
abbrev rIndex0 : V → List V → Hp → VK → Prop := fun x xs H Q => ∃ (a b : Str) (k : Nat), x = .str a ∧ xs = [.str b] ∧ Txt.index0 a b = some k ∧ Q (.int (k : Nat)) H
theorem mt_index : MtR X "str.index" rIndex0 := by
  intro pins s σ H x xs v us Q I rx rs h
  obtain ⟨a, b, k, rfl, rfl, hk, hq⟩ := h
  obtain ⟨t, rfl⟩ := rx
  cases rs with
  | cons r1 rs =>
    cases rs
    obtain ⟨u, rfl⟩ := r1
    cases q : Builtin.Str.occurrences a b 0 a.length 1 with
    | nil =>
      unfold Txt.index0 at hk
      rw [q] at hk
      cases hk
    | cons k' rest =>
      have e1 : k' = k := by
        unfold Txt.index0 at hk
        rw [q] at hk
        exact Option.some.inj hk
      subst e1
      exact PySem.SC.index q ⟨.int (k' : Nat), H, I.tok _, ⟨_, rfl⟩, hq⟩
theorem ew_index {w1 w2 : WP Str} (ho : EvW e to σ W sI w1) (h : EvW e te σ W sI w2) : EvW e (tM1 rIndex0 to te) σ W sI (WP.index w1 w2) := fun W1 g Q q =>
  ho W1 g _ (w1.mono (fun n a hq x W2 g2 hn r1 => by
    subst hn; cases r1
    refine ⟨⟨a, rfl⟩, h W2 (g.trans g2) _ (w2.mono (fun n b hq y W3 g3 hn r => ?_) hq)⟩
    cases r
    obtain ⟨k, hk⟩ := Option.isSome_iff_exists.mp hq.1
    exact ⟨a, b, k, rfl, rfl, hk, hq.2 _ W3 (g2.trans g3) hn (by rw [hk]; exact rfl)⟩) q)
end
end Y

/-! defs handed over as arguments -/
namespace Y
open PySem PySem.Spec PyProof.Rows L2
/-- a def at its address that keeps its promise -/
structure CalAt (P : Program) (w : World) (K : PySem.W.Frag) (mg : Str → Option Value) (base : Heap) (k : Nat) (f : Addr) (sp : Sp) : Prop where
  ex : ∃ (fd : FuncData) (ps : List Str), FnOk P w K mg base CX0 k f fd ps sp ∧ PySem.W.keepIn K (.ref f) = true ∧ Binds K fd ps []
def spFn2 {α β γ : Type} [PyI α] [PyI β] (ρ : Rs ef0 γ) (m : α → β → WP γ) : Sp := fun vs H Q _ => ∃ (W : Wo) (a0 : α) (a1 : β) (v0 v1 : V), vs = [v0, v1] ∧ W.H = H ∧ Good ef0 W ∧ Rp W a0 v0 ∧ Rp W a1 v1 ∧ (m a0 a1).run W.n fun n r => ∀ v W', Gw ef0 W W' → W'.n = n → ρ.post W W' r v → Q v W'.H
def sFn {e : Ef} {φ : Type} (f : Addr) (m : φ) : Rs e φ := ⟨fun _ _ a v => v = .ref f ∧ a = m, fun _ h => h, fun _ h => h⟩
section
variable {α β γ φ : Type} {K : PySem.W.Frag} {e : Ef} {σ : L2.St} {W : Wo} {E : XK} {t0 t1 : TE} {ta : TA} {i : Nat} {f : Addr} {sp : Sp}
theorem ew_fn {m : φ} : EvW e (tC (.ref f)) σ W (sFn f m) (WP.pure m) := fun W1 g Q q => q _ W1 (Gw.refl g.ok) rfl ⟨rfl, rfl⟩
theorem ew_callL {ρ : Rs e γ} {w : WP γ} (hv : σ[i]? = some (some (.ref f))) (h : EvW e (tCall sp [] E ta) σ W ρ w) : EvW e (tCallL i f sp [] E ta) σ W ρ w := fun W1 g Q q => ⟨hv, h W1 g Q q⟩
theorem ev_fn2N [PyI α] [PyI β] {k : Kd γ} {m : α → β → WP γ} {w0 : WP α} {w1 : WP β} (h0 : EvW e t0 σ W sI w0) (h1 : EvW e t1 σ W sI w1) : EvW e (tCall (spFn2 (sN k) m) [] E (tCons t0 (tCons t1 tNil))) σ W (sN k) (WP.b2 w0 w1 m) := ew_call2N h0 h1 fun W2 b0 b1 x0 x1 g2 r0 r1 Q q E =>
  ⟨W2, b0, b1, x0, x1, rfl, rfl, g2.z, r0, r1, WP.mono _ (fun n c h v W3 g3 hn p => h v W3 (Gw.up g2 g3) hn (sN_up g2 p)) q⟩
theorem ev_fn2I [PyI α] [PyI β] [PyI γ] {m : α → β → WP γ} {w0 : WP α} {w1 : WP β} (h0 : EvW e t0 σ W sI w0) (h1 : EvW e t1 σ W sI w1) : EvW e (tCall (spFn2 sI m) [] E (tCons t0 (tCons t1 tNil))) σ W sI (WP.b2 w0 w1 m) := ew_call2N h0 h1 fun W2 b0 b1 x0 x1 g2 r0 r1 Q q E =>
  ⟨W2, b0, b1, x0, x1, rfl, rfl, g2.z, r0, r1, WP.mono _ (fun n c h v W3 g3 hn p => h v W3 (Gw.up g2 g3) hn p) q⟩
end
section
variable {α β γ s : Type} {K : PySem.W.Frag} {e : Ef} {σ : L2.St} {W : Wo} {tl : TE} {D : Ends} {tu tz : TS} {R : Nat → β → Prop}
theorem st_forF [PyI α] {gt : TG} {T : α → Wo → L2.St → L2.St → Prop} (ht : Tk gt T) {w : WP (Ls α)} {body : α → s → WP (Ctl s γ)} {f : s → WP β} {r : γ → WP β} {x0 : s} (h : EvW e tl σ W sI w) (g : Good e W) (hm : ((w.bind fun x => WP.pure x.l).bind fun xs => WP.after (WP.loop body xs x0) f r).run W.n R)
    (q : ∀ (xs : List α) W1, Gw e W W1 → ∃ INV : s → L2.St → Wo → Prop, INV x0 σ W1 ∧ (∀ y σ' W', INV y σ' W' → St W1 W') ∧ Turn INV body r R D tu T ∧ ∀ y σ' W', INV y σ' W' → (f y).run W'.n R → D.nx σ' W'.H) : tFor (iList K tl) gt tu D σ W.H :=
  h W (Gw.refl g) _ (w.mono (fun n xs hm v W1 g1 hn ⟨p, vs, e2, hF, hp, hr⟩ => by
    subst hn; subst e2
    obtain ⟨INV, h0, keep, step, hd⟩ := q xs.l W1 g1
    obtain ⟨Pv, p0, pk, ps, pd⟩ := pv_loop (D := D) INV h0 hm hd
    refine ⟨p, rfl, ⟨vs, SqL.of hp⟩, for_list (xs := vs) Pv p0 (fun i σ' H' _ q => ?_) (fun i x σ' H' hi q => ?_) (by rw [← Paired.length hr]; exact pd)⟩
    · obtain ⟨y, W', e1, q'⟩ := pk i σ' H' q
      subst e1
      exact SqL.of ((keep y σ' W' q').c _ _ hF hp)
    · obtain ⟨a, ha, ra⟩ := hr.getV hi
      obtain ⟨y, W', R', e1, q1, q2, q3, q4, q5⟩ := ps i σ' H' a ha q
      subst e1
      exact ht a x W' σ' _ (PyI.st (keep y σ' W' q1) ra) fun s2 h2 => step a y σ' s2 W' R' _ h2 q1 q2 q3 q4 q5) hm)
theorem q_forF [PyI α] {gt : TG} {T : α → Wo → L2.St → L2.St → Prop} (ht : Tk gt T) {w : WP (Ls α)} {body : α → s → WP (Ctl s γ)} {f : s → WP β} {r : γ → WP β} {x0 : s} (h : EvW e tl σ W sI w) (g : Good e W) (hm : ((w.bind fun x => WP.pure x.l).bind fun xs => WP.after (WP.loop body xs x0) f r).run W.n R)
    (q : ∀ (xs : List α) W1, Gw e W W1 → ∃ INV : s → L2.St → Wo → Prop, INV x0 σ W1 ∧ (∀ y σ' W', INV y σ' W' → St W1 W') ∧ Turn INV body r R { D with nx := tz D } tu T ∧ ∀ y σ' W', INV y σ' W' → (f y).run W'.n R → tz D σ' W'.H) : tSeq (tFor (iList K tl) gt tu) tz D σ W.H := st_forF (D := { D with nx := tz D }) ht h g hm q
end
end Y

/-! rules that name the written part, for blocks of comprehensions -/
namespace Y
open PySem PySem.Spec PyProof.Rows L2
section
variable {X : Cx} {K : PySem.W.Frag}
theorem ix_tupK (h : X.K = K) : IxR X (rIxT K) := h ▸ ix_tup
theorem ix_listK (h : X.K = K) : IxR X (rIxL K) := h ▸ ix_list
theorem call_len_seqK (h : X.K = K) : CallR X (Value.builtin "len") (rLenS K) := h ▸ call_len_seq
theorem sl_tupAK (h : X.K = K) : SlR X (rSlA K) := h ▸ sl_tupA
theorem sl_listK (h : X.K = K) : SlR X (rSlL K) := h ▸ sl_list
theorem op_in_seqK (h : X.K = K) : OpR X (compareOp CmpOp.In) (rIn K false) := h ▸ op_in_seq
theorem op_catAK (h : X.K = K) : OpR X (binaryOp Operator.Add) (rCatA K) := h ▸ op_catA
theorem call_tuple_ofK (h : X.K = K) : CallR X (Value.type "tuple") (rTupOf K) := h ▸ call_tuple_of
theorem cr_sumK (h : X.K = K) (c : X.calm = true) : CallR X (Value.builtin "sum") (rSum K) := h ▸ cr_sum c
theorem cr_allK (h : X.K = K) (c : X.calm = true) : CallR X (Value.builtin "all") (rAll K) := h ▸ cr_all c
theorem cr_anyK (h : X.K = K) (c : X.calm = true) : CallR X (Value.builtin "any") (rAny K) := h ▸ cr_any c
theorem cr_minK' (h : X.K = K) (c : X.calm = true) : CallR X (Value.builtin "min") (rMin K) := h ▸ cr_min c
theorem cr_maxK' (h : X.K = K) (c : X.calm = true) : CallR X (Value.builtin "max") (rMax K) := h ▸ cr_max c
theorem call_isiK (h : X.K = K) : CallR X (Value.builtin "isinstance") (rIsi K) := h ▸ call_isi
theorem call_list_ofK (h : X.K = K) : CallR X (Value.type "list") (rListOf K) := h ▸ call_list_of
theorem pi_listK {tg l : Expr} {tl : TE} (h : X.K = K) (hl : PE X l tl) : PI X tg l (iList K tl) := h ▸ pi_list hl
theorem pi_tupK {tg l : Expr} {tl : TE} (h : X.K = K) (hl : PE X l tl) : PI X tg l (iTup K tl) := h ▸ pi_tup hl
theorem pe_revLK {e : Expr} {te : TE} {k : Nat} {p1 p2 p3 pos : Pos} (h : X.K = K) (he : PE X e te) : PE X (.Subscript e (.Slice none none (some (.UnaryOp .USub (.Constant (.int 1) k p1) p2)) p3) pos) (tRevL K te) := h ▸ pe_revL he
end
end Y

/-! == of data of any depth -/
namespace Y
open PySem PySem.Spec PyProof.Rows L2
class Dat (α : Type) [PyI α] where
  dat : α → PyData
  dp : ∀ {K : PySem.W.Frag} {W : Wo} {a : α} {v : V}, Rp W a v → Dp K W.H v (dat a)
open Dat (dat)
instance : Dat Int := ⟨fun i => .int i, fun h => by cases h; exact .int _⟩
instance : Dat Bool := ⟨fun i => .bool i, fun h => by cases h; exact .bl _⟩
instance : Dat Str := ⟨fun i => .str i, fun h => by cases h; exact .str _⟩
instance : Dat Unit := ⟨fun _ => .none, fun h => by cases h; exact .non⟩
instance {α : Type} [PyI α] [Dat α] : Dat (Option α) := ⟨fun o => match o with | none => .none | some a => dat a, fun {K W o v} h => by
  cases o with
  | none => cases h; exact .non
  | some a => exact Dat.dp h.2⟩
instance {α β : Type} [PyI α] [PyI β] [Dat α] [Dat β] : Dat (α × β) := ⟨fun c => .tuple [dat c.1, dat c.2], fun ⟨p, x, y, h1, h2, h3, h4⟩ => by subst h1; exact .tup (SqT.of h2) (.cons (Dat.dp h3) (.cons (Dat.dp h4) .nil))⟩
theorem dpAll {α : Type} [PyI α] [Dat α] {K : PySem.W.Frag} {W : Wo} {xs : List α} {vs : List V} (h : Rps W xs vs) : DpAll K W.H vs (xs.map dat) := by
  induction h with
  | nil => exact .nil
  | cons r t ih => exact .cons (Dat.dp r) ih
instance {α : Type} [PyI α] [Dat α] : Dat (List α) := ⟨fun xs => .tuple (xs.map dat), fun ⟨p, vs, h1, h2, h3⟩ => by subst h1; exact .tup (SqT.of h2) (dpAll h3)⟩
instance {α : Type} [PyI α] [Dat α] : Dat (Ls α) := ⟨fun xs => .list (xs.l.map dat), fun ⟨p, vs, h1, _, h2, h3⟩ => by subst h1; exact .lst (SqL.of h2) (dpAll h3)⟩
namespace WP
variable {α β : Type}
abbrev eqD [PyI α] [PyI β] [Dat α] [Dat β] (a : WP α) (b : WP β) : WP Bool := b2 a b fun x y => req (SeqAt.shaped (dat x) = true ∧ SeqAt.shaped (dat y) = true) (PyData.eqv (dat x) (dat y))
abbrev neD [PyI α] [PyI β] [Dat α] [Dat β] (a : WP α) (b : WP β) : WP Bool := b2 a b fun x y => req (SeqAt.shaped (dat x) = true ∧ SeqAt.shaped (dat y) = true) (!PyData.eqv (dat x) (dat y))
abbrev eqLD [PyI α] [PyI β] [Dat α] [Dat β] (a : WP (List α)) (b : WP (List β)) : WP Bool := b2 a b fun x y => req (SeqAt.shaped (.list (x.map dat)) = true ∧ SeqAt.shaped (.list (y.map dat)) = true) (PyData.eqv (.list (x.map dat)) (.list (y.map dat)))
abbrev neLD [PyI α] [PyI β] [Dat α] [Dat β] (a : WP (List α)) (b : WP (List β)) : WP Bool := b2 a b fun x y => req (SeqAt.shaped (.list (x.map dat)) = true ∧ SeqAt.shaped (.list (y.map dat)) = true) (!PyData.eqv (.list (x.map dat)) (.list (y.map dat)))
end WP
section
variable {α β : Type} [PyI α] [PyI β] [Dat α] [Dat β] {K : PySem.W.Frag} {e : Ef} {σ : L2.St} {W : Wo} {ta tb : TE}
theorem ew_eqD {w1 : WP α} {w2 : WP β} (ha : EvW e ta σ W sI w1) (hb : EvW e tb σ W sI w2) : EvW e (tOp (rEqD K) ta tb) σ W sI (WP.eqD w1 w2) :=
  ew_op2 ha hb fun W2 a b x y r1 r2 hc Q q => ⟨_, _, Dat.dp r1, Dat.dp r2, hc.1, hc.2, q _ _ (Same.refl _) rfl⟩
theorem ew_neD {w1 : WP α} {w2 : WP β} (ha : EvW e ta σ W sI w1) (hb : EvW e tb σ W sI w2) : EvW e (tOp (rNeD K) ta tb) σ W sI (WP.neD w1 w2) :=
  ew_op2 ha hb fun W2 a b x y r1 r2 hc Q q => ⟨_, _, Dat.dp r1, Dat.dp r2, hc.1, hc.2, q _ _ (Same.refl _) rfl⟩
/-- of lists that may be read -/
theorem ew_eqLD {w1 : WP (List α)} {w2 : WP (List β)} (ha : EvW e ta σ W (sR (kL α)) w1) (hb : EvW e tb σ W (sR (kL β)) w2) : EvW e (tOp (rEqD K) ta tb) σ W sI (WP.eqLD w1 w2) :=
  ew_op ha hb fun W1 W2 xs ys x y g ⟨_, ⟨p, vs, _, h1, h2, h3⟩, _⟩ ⟨_, ⟨p', ws, _, q1, q2, q3⟩, _⟩ Q q => by
    subst h1; subst q1
    exact ⟨_, _, .lst (SqL.of h2) (dpAll h3), .lst (SqL.of q2) (dpAll q3), q.1.1, q.1.2, q.2 _ W2 (Gw.refl g.ok) rfl rfl⟩
theorem ew_neLD {w1 : WP (List α)} {w2 : WP (List β)} (ha : EvW e ta σ W (sR (kL α)) w1) (hb : EvW e tb σ W (sR (kL β)) w2) : EvW e (tOp (rNeD K) ta tb) σ W sI (WP.neLD w1 w2) :=
  ew_op ha hb fun W1 W2 xs ys x y g ⟨_, ⟨p, vs, _, h1, h2, h3⟩, _⟩ ⟨_, ⟨p', ws, _, q1, q2, q3⟩, _⟩ Q q => by
    subst h1; subst q1
    exact ⟨_, _, .lst (SqL.of h2) (dpAll h3), .lst (SqL.of q2) (dpAll q3), q.1.1, q.1.2, q.2 _ W2 (Gw.refl g.ok) rfl rfl⟩
end
section
variable {X : Cx} {K : PySem.W.Frag}
theorem op_eqDK (h : X.K = K) (hu : X.A.units + 64 < cLine) : OpR X (compareOp .Eq) (rEqD K) := h ▸ op_eqD hu
theorem op_neDK (h : X.K = K) (hu : X.A.units + 64 < cLine) : OpR X (compareOp .NotEq) (rNeD K) := h ▸ op_neD hu
end
end Y

/-! sources of items, and comprehensions of two clauses -/
namespace Y
open PySem PySem.Spec PyProof.Rows L2
/-- J gives xs, one after another, and changes nothing, as long as what lies at fp stays -/
def Iter {α : Type} (W2 : Wo) (fp : List Addr) (J : It) (xs : List α) (val : Wo → α → V → Prop) : Prop := ∀ W', St W2 W' → Kp fp W2 W' → (∀ i, i < xs.length → J.go i W'.H) ∧ J.stop xs.length W'.H ∧ ∀ i x H', i < xs.length → J.yld i W'.H x H' → H' = W'.H ∧ ∃ a, xs[i]? = some a ∧ val W' a x
/-- what wi goes through; fp is new, or of old addresses that are told -/
def Src {α : Type} (e : Ef) (wi : TI) (σ : L2.St) (W : Wo) (Bs : Addr → Prop) (val : Wo → α → V → Prop) (w : WP (List α)) : Prop :=
  ∀ W1, Gw e W W1 → ∀ R : It → Hp → Prop, w.run W1.n (fun n xs => ∀ W2 J fp, Gw e W1 W2 → W2.n = n → (∀ a ∈ fp, (W1.H a = none ∨ Bs a) ∧ ¬ e.S a ∧ W2.H a ≠ none) → Iter W2 fp J xs val → R J W2.H) → wi σ W1.H R
section
variable {α β γ : Type} {K : PySem.W.Frag} {e : Ef} {σ : L2.St} {W W2 : Wo} {Bs : Addr → Prop} {ta tb te tl : TE} {t u : TT} {i j k m n : Nat} {v : V} {g g1 : TG} {vs0 vs1 : List Nat}
theorem iter_L [PyI α] {p : Addr} {vs : List V} {xs : List α} (hp : W2.H p = some (.lst vs)) (hr : Rps W2 xs vs) : Iter W2 [p] (Itl K p) xs (fun W a x => Rp W a x) := fun W' s kp => by
  have hp' := SqL.of (K := K) (kp p (List.mem_singleton.mpr rfl) _ hp)
  have el := Paired.length hr
  refine ⟨fun i hi => ⟨vs, vs[i], hp', by simp [el ▸ hi]⟩, ⟨vs, hp', by omega⟩, fun i x H' hi y => ⟨y.1, ?_⟩⟩
  obtain ⟨a, ha, ra⟩ := hr.getV (y.2 vs hp')
  exact ⟨a, ha, PyI.st s ra⟩
theorem src_N [PyI α] {w : WP (List α)} (h : EvW e tl σ W (sN (kL α)) w) : Src e (iList K tl) σ W Bs (fun W a x => Rp W a x) w := fun W1 g R hm => h W1 g _ (w.mono (fun n xs hq v W2 g2 hn ⟨fp, ⟨p, vs, e1, e2, hp, hr⟩, hS⟩ => by
  subst hn; subst e2; subst e1
  exact ⟨p, rfl, ⟨vs, SqL.of hp⟩, hq W2 _ [p] g2 rfl (fun a m => by cases mem_one m; exact ⟨.inl (hS p m).1, (hS p m).2.1, some_ne hp⟩) (iter_L hp hr)⟩) hm)
theorem src_V [PyI α] {fp : List Addr} {xs : List α} (hv : σ[i]? = some (some v)) (ho : (kL α).own W fp xs v) (hS : ∀ a ∈ fp, ¬ e.S a) (hB : ∀ a ∈ fp, Bs a) : Src e (iList K (tVar i)) σ W Bs (fun W a x => Rp W a x) (WP.pure xs) := fun W1 g R hm => by
  obtain ⟨p, vs, e1, e2, hp, hr⟩ := Kd.go g hS ho
  subst e1; subst e2
  exact ⟨_, hv, p, rfl, ⟨vs, SqL.of hp⟩, hm W1 _ [p] (Gw.refl g.ok) rfl (fun a m => by cases mem_one m; exact ⟨.inr (hB p m), hS p m, some_ne hp⟩) (iter_L hp hr)⟩
theorem src_F [PyI α] {w : WP (Ls α)} (h : EvW e tl σ W sI w) : Src e (iList K tl) σ W Bs (fun W a x => Rp W a x) (w.bind fun x => WP.pure x.l) := fun W1 g R hm => h W1 g _ (w.mono (fun n xs hq v W2 g2 hn ⟨p, vs, e2, hF, hp, hr⟩ => by
  subst hn; subst e2
  exact ⟨p, rfl, ⟨vs, SqL.of hp⟩, hq W2 _ [] g2 rfl (fun _ m => nomatch m) fun W' s _ => iter_L hp hr W' s fun a m o ho => by cases mem_one m; exact s.c _ _ hF ho⟩) hm)
theorem src_T [PyI α] {w : WP (List α)} (h : EvW e tl σ W sI w) : Src e (iTup K tl) σ W Bs (fun W a x => Rp W a x) w := fun W1 g R hm => h W1 g _ (w.mono (fun n xs hq v W2 g2 hn ⟨p, vs, e2, hp, hr⟩ => by
  subst hn; subst e2
  refine ⟨p, rfl, ⟨vs, SqT.of hp⟩, hq W2 _ [] g2 rfl (fun _ m => nomatch m) fun W' s _ => ?_⟩
  have hp' := SqT.of (K := K) (s.t _ _ hp)
  have el := Paired.length hr
  refine ⟨fun i hi => ⟨vs, vs[i], hp', by simp [el ▸ hi]⟩, ⟨vs, hp', by omega⟩, fun i x H' hi y => ⟨y.1, ?_⟩⟩
  obtain ⟨a, ha, ra⟩ := hr.getV (y.2 vs hp')
  exact ⟨a, ha, PyI.st s ra⟩) hm)
theorem src_R {w : WP Int} (h : EvW e ta σ W sI w) : Src e (iRng1 (tCons ta tNil)) σ W Bs (fun W a x => Rp W a x) (WP.range1 w) := fun W1 g R hm => h W1 g _ (w.mono (fun n k hq v W2 g2 hn r => by
  subst hn; cases r
  obtain ⟨⟨b1, b2⟩, hq⟩ := hq
  have el : (rangeL 0 k).length = k.toNat := by rw [rangeL_len, Int.sub_zero]
  refine ⟨k, rfl, by omega, by omega, hq W2 _ [] g2 rfl (fun _ m => nomatch m) fun W' _ _ => ⟨fun i hi => by rw [el] at hi; exact hi, by rw [el]; exact Nat.le_refl _, fun i x H' hi y => ⟨y.1, _, rangeL_get (by rw [el] at hi; rw [Int.sub_zero]; exact hi), y.2⟩⟩⟩) hm)
end
theorem wipe1 {s : L2.St} {j : Nat} {x : V} : wipe ((wipe s [j]).set j (some x)) [j] = wipe s [j] := by simp [wipe]
namespace WP
variable {α β γ : Type}
def comp1 (c : β → WP Bool) (f : β → WP γ) : Nat → List β → WP (List γ)
  | _, [] => pure []
  | k, b :: bs => (c b).bind fun t => cond t ((f b).bind fun y => (req (k < 100000) y).bind fun y => (comp1 c f (k + 1) bs).bind fun ys => pure (y :: ys)) (comp1 c f k bs)
def comp2 (c : α → WP Bool) (w : α → WP (List β)) (c1 : α → β → WP Bool) (f : α → β → WP γ) : Nat → List α → WP (List γ)
  | _, [] => pure []
  | k, a :: as => (c a).bind fun t => cond t ((w a).bind fun bs => (comp1 (c1 a) (f a) k bs).bind fun zs => (comp2 c w c1 f (k + zs.length) as).bind fun r => pure (zs ++ r)) (comp2 c w c1 f k as)
abbrev lc2 (w : WP (List α)) (c : α → WP Bool) (w1 : α → WP (List β)) (c1 : α → β → WP Bool) (f : α → β → WP γ) : WP (List γ) := w.bind fun xs => comp2 c w1 c1 f 0 xs
end WP
/-- the new list at Dl holds ys, all else has grown since W2 -/
structure Acc {γ : Type} [PyI γ] (e : Ef) (Dl : Addr) (W2 W' : Wo) (ys : List γ) : Prop where
  g : Gw e W2 W'
  h : ∃ vs', W'.H Dl = some (.lst vs') ∧ Rps W' ys vs'
  f : ¬ W'.F Dl
theorem Acc.go {γ : Type} [PyI γ] {e : Ef} {Dl : Addr} {W2 W' W3 : Wo} {ys : List γ} (o : Acc e Dl W2 W' ys) (nS : ¬ e.S Dl) (g : Gw e W' W3) : Acc e Dl W2 W3 ys := by
  obtain ⟨vs', h1, h2⟩ := o.h
  exact ⟨o.g.trans g, ⟨vs', g.keep _ _ h1 nS, Rps.st g.st h2⟩, fun z => (g.new Dl z).elim o.f (some_ne h1)⟩
theorem Acc.snoc {γ : Type} [PyI γ] {e : Ef} {Dl : Addr} {W2 W' : Wo} {ys : List γ} {y : γ} {v : V} (o : Acc e Dl W2 W' ys) (hg : Good e W2) (hD : W2.H Dl = none) (r : Rp W' y v) : ∃ vs', W'.H Dl = some (.lst vs') ∧ vs'.length = ys.length ∧ Acc e Dl W2 (W'.set Dl (.lst (vs' ++ [v]))) (ys ++ [y]) ∧ St W' (W'.set Dl (.lst (vs' ++ [v]))) := by
  obtain ⟨vs', h1, h2⟩ := o.h
  have s := St.mut (u := .lst (vs' ++ [v])) h1 (fun _ z => by cases z) o.f
  exact ⟨vs', h1, (Paired.length h2).symm, ⟨Gw.mut hg o.g hD h1 (fun _ z => by cases z) o.f, ⟨_, upd_same, Paired.snoc (Rps.st s h2) (PyI.st s r)⟩, o.f⟩, s⟩
section
variable {α β γ : Type} [PyI γ] {K : PySem.W.Frag} {e : Ef} {σ : L2.St} {W W2 : Wo} {ta tb te tl : TE} {t t1 : TT} {i j k m n : Nat} {v : V} {g g1 : TG} {vs0 vs1 : List Nat} {wi wi1 : TI}
/-- the inner clause -/
theorem inner {val1 : Wo → β → V → Prop} {T1 : β → Wo → L2.St → Prop} {c1 : β → WP Bool} {f : β → WP γ} {s2 : L2.St} {Dl : Addr} {W4 : Wo} {J1 : It} {bs : List β} {fp : List Addr} {Nx : Hp → Prop} {QQ1 : Nat → List γ → Prop} {ys : List γ}
    (hg : Good e W2) (hD : W2.H Dl = none) (ht1 : Takes val1 g1 s2 vs1 T1) (hw1 : ∀ b W' s3, T1 b W' s3 → wipe s3 vs1 = wipe s2 vs1)
    (hc1 : ∀ b W3 s3, Gw e W2 W3 → St W4 W3 → T1 b W3 s3 → EvT e t1 s3 W3 (c1 b)) (he : ∀ b W3 s3, Gw e W2 W3 → St W4 W3 → T1 b W3 s3 → EvW e te s3 W3 sI (f b))
    (ok : Acc e Dl W2 W4 ys) (hJ : Iter W4 fp J1 bs val1) (hfp : ∀ a ∈ fp, a ≠ Dl ∧ ¬ e.S a) (hm : (WP.comp1 c1 f ys.length bs).run W4.n fun n r => QQ1 n (ys ++ r)) (hend : ∀ W5 zs, Acc e Dl W2 W5 zs → Kp fp W4 W5 → QQ1 W5.n zs → Nx W5.H) :
    ∃ W1 : Nat → Nat → Hp → Prop, (∃ m, W1 0 m W4.H) ∧ ∀ j k H, W1 j k H → (J1.stop j H ∧ Nx H) ∨ (J1.go j H ∧ ∃ Nx1 : Hp → Prop, (∀ H', Nx1 H' → ∃ k', k' < k ∧ W1 (j + 1) k' H') ∧ ∀ x H', J1.yld j H x H' → g1 x (wipe s2 vs1) H' fun σ3 H5 => wipe σ3 vs1 = wipe s2 vs1 ∧ t1 σ3 H5 fun b H6 =>
      if b = true then te σ3 H6 fun y H7 => ∃ acc, H7 Dl = some (.lst acc) ∧ acc.length < sizeLine ∧ Nx1 (upd H7 Dl (.lst (acc ++ [y]))) else Nx1 H6) := by
  have nS : ¬ e.S Dl := fun s => hg.S Dl s hD
  let Pv : Nat → Hp → Prop := fun j H => ∃ W5 zs, W5.H = H ∧ Acc e Dl W2 W5 zs ∧ St W4 W5 ∧ Kp fp W4 W5 ∧ (WP.comp1 c1 f zs.length (bs.drop j)).run W5.n (fun n r => QQ1 n (zs ++ r))
  refine ⟨fun j m H => m = bs.length - j ∧ j ≤ bs.length ∧ Pv j H, ⟨bs.length, by simp, Nat.zero_le _, W4, ys, rfl, ok, St.refl _, Kp.refl, by rw [List.drop_zero]; exact hm⟩, ?_⟩
  rintro j m H ⟨rfl, hj, W5, zs, rfl, ok5, s45, k45, hr⟩
  obtain ⟨j1, j2, j3⟩ := hJ W5 s45 k45
  by_cases hlt : j < bs.length
  · refine .inr ⟨j1 j hlt, Pv (j + 1), fun H' p' => ⟨bs.length - (j + 1), by omega, rfl, hlt, p'⟩, fun x H' hy => ?_⟩
    obtain ⟨e1, b, hb, vb⟩ := j3 j x H' hlt hy
    subst e1
    have ed : bs.drop j = b :: bs.drop (j + 1) := by rw [List.drop_eq_getElem_cons hlt, (List.getElem?_eq_some_iff.mp hb).2]
    rw [ed] at hr
    refine ht1 b x W5 _ vb fun s3 hs3 => ⟨hw1 b W5 s3 hs3, ?_⟩
    refine hc1 b W5 s3 ok5.g s45 hs3 W5 (Gw.refl ok5.g.ok) _ ((c1 b).mono (fun n t hq W6 g6 hn => ?_) hr)
    subst hn
    have ok6 := ok5.go nS g6
    have k46 : Kp fp W4 W6 := k45.trans (Kp.gw g6 fun a m => (hfp a m).2)
    cases t with
    | false => exact ⟨W6, zs, rfl, ok6, s45.trans g6.st, k46, hq⟩
    | true =>
      refine he b W5 s3 ok5.g s45 hs3 W6 g6 _ ((f b).mono (fun n y hq v W7 g7 hn r => ?_) hq)
      subst hn
      have ok7 := ok6.go nS g7
      obtain ⟨vs', q1, q2, q3, q4⟩ := ok7.snoc hg hD r
      refine ⟨vs', q1, by rw [q2]; exact sz_lt hq.1, W7.set Dl (.lst (vs' ++ [v])), zs ++ [y], rfl, q3, ((s45.trans g6.st).trans g7.st).trans q4, (k46.trans (Kp.gw g7 fun a m => (hfp a m).2)).upd (fun a m => (hfp a m).1), ?_⟩
      rw [List.length_append, List.length_singleton]
      exact (WP.comp1 c1 f _ _).mono (fun n r hq => by rw [List.append_assoc]; exact hq) hq.2
  · have e2 : j = bs.length := by omega
    subst e2
    rw [List.drop_length] at hr
    have hr : QQ1 W5.n (zs ++ []) := hr
    rw [List.append_nil] at hr
    exact .inl ⟨j2, hend W5 zs ok5 k45 hr⟩
/-- [f(a, b) for a in .. if c for b in .. if c1] -/
theorem ew_lc2 {val : Wo → α → V → Prop} {val1 : Wo → β → V → Prop} {w : WP (List α)} {T : α → Wo → L2.St → Prop} {T1 : L2.St → β → Wo → L2.St → Prop} {c : α → WP Bool} {w1 : α → WP (List β)} {c1 : α → β → WP Bool} {f : α → β → WP γ}
    (h : Src e wi σ W (fun a => W.H a ≠ none) val w) (ht : Takes val g σ vs0 T) (hw : ∀ a W' s2, T a W' s2 → wipe s2 vs0 = wipe σ vs0) (hc : ∀ a W1 s2, Gw e W W1 → T a W1 s2 → EvT e t s2 W1 (c a))
    (h1 : ∀ a W1 s2, Gw e W W1 → T a W1 s2 → Src e wi1 s2 W1 (fun a => W.H a ≠ none) val1 (w1 a)) (ht1 : ∀ s2, Takes val1 g1 s2 vs1 (T1 s2)) (hw1 : ∀ s2 b W' s3, T1 s2 b W' s3 → wipe s3 vs1 = wipe s2 vs1)
    (hc1 : ∀ a W1 s2 b W3 s3, Gw e W W1 → T a W1 s2 → Gw e W W3 → St W1 W3 → T1 s2 b W3 s3 → EvT e t1 s3 W3 (c1 a b)) (he : ∀ a W1 s2 b W3 s3, Gw e W W1 → T a W1 s2 → Gw e W W3 → St W1 W3 → T1 s2 b W3 s3 → EvW e te s3 W3 sI (f a b)) :
    EvW e (tLc2 wi g t wi1 g1 t1 te vs0 vs1) σ W (sN (kL γ)) (WP.lc2 w c w1 c1 f) := fun W1 gW Q q =>
  h W1 gW _ (w.mono (fun n xs hq W2 J fp g2 hn hfp hJ => by
    subst hn
    intro Dl hD
    have hg := g2.ok
    have nS : ¬ e.S Dl := fun s => hg.S Dl s hD
    have gW2 := gW.trans g2
    have hWD : W.H Dl = none := gW2.live Dl hD
    have fD : ∀ a ∈ fp, a ≠ Dl := fun a m z => (hfp a m).2.2 (z ▸ hD)
    let QQ : Nat → List γ → Prop := fun n ys => ∀ v W3, Gw e W1 W3 → W3.n = n → (sN (e := e) (kL γ)).post W1 W3 ys v → Q v W3.H
    let Pv : Nat → Hp → Prop := fun i H => ∃ W' ys, W'.H = H ∧ Acc e Dl W2 W' ys ∧ Kp fp W2 W' ∧ (WP.comp2 c w1 c1 f ys.length (xs.drop i)).run W'.n (fun n r => QQ n (ys ++ r))
    refine ⟨fun i m H => m = xs.length - i ∧ i ≤ xs.length ∧ Pv i H, ⟨xs.length, by simp, Nat.zero_le _, ⟨upd W2.H Dl (.lst []), W2.F, W2.n⟩, [], rfl, ⟨Gw.alloc hg hD, ⟨[], upd_same, .nil⟩, fun z => (hg.F Dl z).2 hD⟩, Kp.gw (Gw.alloc hg hD) (fun a m => (hfp a m).2.1), by rw [List.drop_zero]; exact hq⟩, ?_⟩
    rintro i m H ⟨rfl, hi, W', ys, rfl, ok, kp, hr⟩
    obtain ⟨j1, j2, j3⟩ := hJ W' ok.g.st kp
    by_cases hlt : i < xs.length
    · refine .inr ⟨j1 i hlt, Pv (i + 1), fun H' p' => ⟨xs.length - (i + 1), by omega, rfl, hlt, p'⟩, fun x H' hy => ?_⟩
      obtain ⟨e1, a, ha, va⟩ := j3 i x H' hlt hy
      subst e1
      have ed : xs.drop i = a :: xs.drop (i + 1) := by rw [List.drop_eq_getElem_cons hlt, (List.getElem?_eq_some_iff.mp ha).2]
      rw [ed] at hr
      have gWW := gW2.trans ok.g
      refine ht a x W' _ va fun s2 hs2 => ⟨hw a W' s2 hs2, ?_⟩
      refine hc a W' s2 gWW hs2 W' (Gw.refl ok.g.ok) _ ((c a).mono (fun n b hq W3 g3 hn => ?_) hr)
      subst hn
      have ok3 := ok.go nS g3
      have k3 := kp.trans (Kp.gw g3 fun a m => (hfp a m).2.1)
      cases b with
      | false => exact ⟨W3, ys, rfl, ok3, k3, hq⟩
      | true =>
        refine h1 a W' s2 gWW hs2 W3 g3 _ ((w1 a).mono (fun n bs hq W4 J1 fq g4 hn hfq hJ1 => ?_) hq)
        subst hn
        have ok4 := ok3.go nS g4
        have k4 := k3.trans (Kp.gw g4 fun a m => (hfp a m).2.1)
        have hD3 : W3.H Dl ≠ none := by obtain ⟨vs', q1, _⟩ := ok3.h; exact some_ne q1
        have s14 : St W' W4 := g3.st.trans g4.st
        refine inner (val1 := val1) (T1 := T1 s2) (c1 := c1 a) (f := f a) (W2 := W2) (ys := ys) (fp := fq ++ fp) (QQ1 := fun n l => (WP.comp2 c w1 c1 f l.length (xs.drop (i + 1))).run n fun n r => QQ n (l ++ r)) hg hD (ht1 s2) (hw1 s2)
          (fun b V3 s3 gv sv tv => hc1 a W' s2 b V3 s3 gWW hs2 (gW2.trans gv) (s14.trans sv) tv) (fun b V3 s3 gv sv tv => he a W' s2 b V3 s3 gWW hs2 (gW2.trans gv) (s14.trans sv) tv) ok4 (fun V sv kv => hJ1 V sv fun x m o hx => kv x (List.mem_append_left _ m) o hx) (fun x m => ?_) ?_ (fun W5 zs ok5 k5 hq5 => ?_)
        · rcases List.mem_append.mp m with m | m
          · refine ⟨fun z => ?_, (hfq x m).2.1⟩
            subst z
            rcases (hfq x m).1 with z | z
            · exact hD3 z
            · exact z hWD
          · exact ⟨fD x m, (hfp x m).2.1⟩
        · refine (WP.comp1 (c1 a) (f a) _ _).mono (fun n zs hq => ?_) hq
          rw [List.length_append]
          exact (WP.comp2 c w1 c1 f _ _).mono (fun n r hq => by rw [List.append_assoc]; exact hq) hq
        · exact ⟨W5, zs, rfl, ok5, k4.trans fun x m o hx => k5 x (List.mem_append_right _ m) o hx, hq5⟩
    · have e2 : i = xs.length := by omega
      subst e2
      rw [List.drop_length] at hr
      have hr : QQ W'.n (ys ++ []) := hr
      rw [List.append_nil] at hr
      obtain ⟨vs', o2, o3⟩ := ok.h
      exact .inl ⟨j2, hr _ W' (g2.trans ok.g) rfl ⟨[Dl], ⟨Dl, vs', rfl, rfl, o2, o3⟩, fun b mb => by
        cases List.mem_singleton.mp mb
        exact ⟨g2.live _ hD, nS, ok.f⟩⟩⟩) q)
end
end Y

/-! comprehensions whose items are new lists -/
namespace Y
open PySem PySem.Spec PyProof.Rows L2
section
variable {α β γ : Type} {K : PySem.W.Frag} {e : Ef} {σ : L2.St} {W W2 : Wo} {ta tb te tc tl : TE} {t u : TT} {i j k m n : Nat} {v : V} {g : TG} {vs0 : List Nat} {wi : TI}
theorem rows_live [PyI β] {W : Wo} {yss : List (List β)} {ps : List Addr} (h : Paired (Row W) yss ps) : ∀ a ∈ ps, W.H a ≠ none := fun a m => by
  obtain ⟨i, hi⟩ := List.getElem?_of_mem m
  obtain ⟨xs, _, vs, q1, _⟩ := h.getV hi
  exact some_ne q1
theorem ew_lcGr [PyI β] {val : Wo → α → V → Prop} {w : WP (List α)} {T : α → Wo → L2.St → Prop} {c : α → WP Bool} {f : α → WP (List β)} (h : Src e wi σ W (fun a => W.H a ≠ none) val w) (ht : Takes val g σ vs0 T) (hw : ∀ a W' s2, T a W' s2 → wipe s2 vs0 = wipe σ vs0)
    (hc : ∀ a W1 s2, Gw e W W1 → T a W1 s2 → EvT e t s2 W1 (c a)) (he : ∀ a W1 s2, Gw e W W1 → T a W1 s2 → EvW e te s2 W1 (sN (kL β)) (f a)) : EvW e (tLc wi g t te vs0) σ W (sN (kG β)) (WP.lc w c f) := fun W1 gW Q q =>
  h W1 gW _ (w.mono (fun n xs hq W2 J fp g2 hn hfp hJ => by
    subst hn
    have hz : xs.length ≤ 100000 := hq.1
    intro Dl hD
    have hg := g2.ok
    have nS : ¬ e.S Dl := fun s => hg.S Dl s hD
    have gW2 := gW.trans g2
    let QQ : Nat → List (List β) → Prop := fun n ys => ∀ v W3, Gw e W1 W3 → W3.n = n → (sN (e := e) (kG β)).post W1 W3 ys v → Q v W3.H
    let Ac : Wo → List (List β) → List Addr → Prop := fun W' yss ps => Gw e W2 W' ∧ W'.H Dl = some (.lst (ps.map V.ref)) ∧ (Dl :: ps).Nodup ∧ ¬ W'.F Dl ∧ (∀ a ∈ ps, W2.H a = none ∧ ¬ W'.F a) ∧ Paired (Row W') yss ps
    have acGo : ∀ {W' W3 yss ps}, Ac W' yss ps → Gw e W' W3 → Ac W3 yss ps := fun {W' W3 yss ps} ⟨o1, o2, o3, o4, o5, o6⟩ g3 =>
      ⟨o1.trans g3, g3.keep _ _ o2 nS, o3, fun z => (g3.new Dl z).elim o4 (some_ne o2), fun a m => ⟨(o5 a m).1, fun z => (g3.new a z).elim (o5 a m).2 (rows_live o6 a m)⟩, rows_st g3.st (fun a m o h => g3.keep a o h fun s => hg.S a s (o5 a m).1) o6⟩
    let Pv : Nat → Hp → Prop := fun i H => ∃ W' yss ps, W'.H = H ∧ Ac W' yss ps ∧ Kp fp W2 W' ∧ yss.length ≤ i ∧ (WP.comp c f (xs.drop i)).run W'.n (fun n r => QQ n (yss ++ r))
    refine ⟨fun i m H => m = xs.length - i ∧ i ≤ xs.length ∧ Pv i H, ⟨xs.length, by simp, Nat.zero_le _, ⟨upd W2.H Dl (.lst []), W2.F, W2.n⟩, [], [], rfl, ⟨Gw.alloc hg hD, upd_same, by simp, fun z => (hg.F Dl z).2 hD, (fun _ m => nomatch m), .nil⟩, Kp.gw (Gw.alloc hg hD) (fun a m => (hfp a m).2.1), Nat.le_refl _, by rw [List.drop_zero]; exact hq.2⟩, ?_⟩
    rintro i m H ⟨rfl, hi, W', yss, ps, rfl, ok, kp, hlen, hr⟩
    obtain ⟨j1, j2, j3⟩ := hJ W' ok.1.st kp
    by_cases hlt : i < xs.length
    · refine .inr ⟨j1 i hlt, Pv (i + 1), fun H' p' => ⟨xs.length - (i + 1), by omega, rfl, hlt, p'⟩, fun x H' hy => ?_⟩
      obtain ⟨e1, a, ha, va⟩ := j3 i x H' hlt hy
      subst e1
      have ed : xs.drop i = a :: xs.drop (i + 1) := by rw [List.drop_eq_getElem_cons hlt, (List.getElem?_eq_some_iff.mp ha).2]
      rw [ed] at hr
      have gWW := gW2.trans ok.1
      refine ht a x W' _ va fun s2 hs2 => ⟨hw a W' s2 hs2, ?_⟩
      refine hc a W' s2 gWW hs2 W' (Gw.refl ok.1.ok) _ ((c a).mono (fun n b hq W3 g3 hn => ?_) hr)
      subst hn
      have ok3 := acGo ok g3
      have k3 := kp.trans (Kp.gw g3 fun a m => (hfp a m).2.1)
      cases b with
      | false => exact ⟨W3, yss, ps, rfl, ok3, k3, by omega, hq⟩
      | true =>
        refine he a W' s2 gWW hs2 W3 g3 _ ((f a).mono (fun n y hq v W4 g4 hn ⟨fr, ⟨r, vs, er, ev, hr4, hrs⟩, hfr⟩ => ?_) hq)
        subst hn; subst er; subst ev
        obtain ⟨f1, f2, f3⟩ := hfr r (List.mem_singleton.mpr rfl)
        obtain ⟨o1, o2, o3, o4, o5, o6⟩ := acGo ok3 g4
        have o63 := ok3.2.2.2.2.2
        have nrD : r ≠ Dl := fun z => by rw [z] at f1; exact some_ne ok3.2.1 f1
        have nrp : r ∉ ps := fun m => rows_live o63 r m f1
        have s45 := St.mut (u := .lst (ps.map V.ref ++ [V.ref r])) o2 (fun _ z => by cases z) o4
        have o7 := List.nodup_cons.mp o3
        have hl : (ps.map V.ref).length < sizeLine := by rw [List.length_map, ← Paired.length o6]; exact sz_lt (by omega)
        refine ⟨ps.map V.ref, o2, hl, W4.set Dl (.lst (ps.map V.ref ++ [V.ref r])), yss ++ [y], ps ++ [r], rfl, ⟨Gw.mut hg o1 hD o2 (fun _ z => by cases z) o4, ?_, ?_, o4, fun b m => ?_, ?_⟩, (k3.trans (Kp.gw g4 fun a m => (hfp a m).2.1)).upd (fun b m z => (hfp b m).2.2 (z ▸ hD)), by rw [List.length_append, List.length_singleton]; omega, ?_⟩
        · show (upd W4.H Dl _) Dl = _
          rw [upd_same, List.map_append]; rfl
        · refine List.nodup_cons.mpr ⟨fun m => ?_, ?_⟩
          · rcases List.mem_append.mp m with m | m
            · exact o7.1 m
            · exact nrD (List.mem_singleton.mp m).symm
          · rw [List.nodup_append]
            exact ⟨o7.2, by simp, fun a ma b mb z => nrp (by rw [← List.mem_singleton.mp mb, ← z]; exact ma)⟩
        · rcases List.mem_append.mp m with m | m
          · exact o5 b m
          · cases List.mem_singleton.mp m
            exact ⟨ok3.1.live r f1, f3⟩
        · have kk : ∀ b ∈ ps, ∀ o, W4.H b = some o → (W4.set Dl (.lst (ps.map V.ref ++ [V.ref r]))).H b = some o := fun b m o h => by
            show (upd W4.H Dl _) b = _
            rw [upd_ne (fun z => o7.1 (by rw [← z]; exact m))]; exact h
          refine (rows_st s45 kk o6).appA (.cons ⟨vs, ?_, Rps.st s45 hrs⟩ .nil)
          show (upd W4.H Dl _) r = _
          rw [upd_ne nrD]; exact hr4
        · exact (WP.comp c f _).mono (fun n zs hq => by rw [List.append_assoc]; exact hq) hq
    · have e2 : i = xs.length := by omega
      subst e2
      rw [List.drop_length] at hr
      have hr : QQ W'.n (yss ++ []) := hr
      rw [List.append_nil] at hr
      obtain ⟨o1, o2, o3, o4, o5, o6⟩ := ok
      exact .inl ⟨j2, hr _ W' (g2.trans o1) rfl ⟨Dl :: ps, ⟨Dl, ps, rfl, o3, rfl, o2, o6⟩, fun b mb => by
        rcases List.mem_cons.mp mb with mb | mb
        · subst mb; exact ⟨g2.live _ hD, nS, o4⟩
        · exact ⟨g2.live _ (o5 b mb).1, fun s => hg.S b s (o5 b mb).1, (o5 b mb).2⟩⟩⟩) q)
/-- a new list of lists frozen at once -/
theorem rows_ls [PyI α] {W : Wo} : ∀ {xss : List (List α)} {ps : List Addr}, Paired (Row W) xss ps → (∀ a ∈ ps, W.F a) → Rps W (xss.map fun xs => (⟨xs⟩ : Ls α)) (ps.map V.ref)
  | _, _, .nil, _ => .nil
  | _, _, .cons ⟨vs, q1, q2⟩ t, hF => .cons ⟨_, vs, rfl, hF _ List.mem_cons_self, q1, q2⟩ (rows_ls t fun a m => hF a (List.mem_cons_of_mem _ m))
theorem ew_frzG [PyI α] {w : WP (List (List α))} (h : EvW e te σ W (sN (kG α)) w) : EvW e te σ W sI (w.bind fun xss => WP.pure (⟨xss.map fun xs => ⟨xs⟩⟩ : Ls (Ls α))) := fun W1 g Q q => h W1 g Q (w.mono (fun n xss hq v W2 g2 hn ⟨fp, ⟨p, ps, e1, nd, e2, hp, hr⟩, hf⟩ => by
  subst e1
  have gf := Gw.frz (fp := p :: ps) g.ok g2 (fun a ma => (hf a ma).1) (fun a ma => by
    rcases List.mem_cons.mp ma with m | m
    · rw [m]; exact some_ne hp
    · exact rows_live hr a m)
  exact hq v (W2.frz (p :: ps)) gf hn ⟨p, _, e2, .inr List.mem_cons_self, hp, rows_ls (rows_st St.frz (fun _ _ _ h => h) hr) fun a m => .inr (List.mem_cons_of_mem _ m)⟩) q)
theorem frz_ownG [PyI α] {W0 W : Wo} {fp : List Addr} {xss : List (List α)} {v : V} (g00 : Good e W0) (g0 : Gw e W0 W) (h : Var (kG α) W0 W fp xss v) : Gw e W0 (W.frz fp) ∧ St W (W.frz fp) ∧ Rp (W.frz fp) (⟨xss.map fun xs => ⟨xs⟩⟩ : Ls (Ls α)) v :=
  ⟨Gw.frz g00 g0 h.fr ((kG α).live h.own), St.frz, by
    obtain ⟨⟨p, ps, e1, nd, e2, hp, hr⟩, _, _⟩ := h
    subst e1
    exact ⟨p, _, e2, .inr List.mem_cons_self, hp, rows_ls (rows_st St.frz (fun _ _ _ h => h) hr) fun a m => .inr (List.mem_cons_of_mem _ m)⟩⟩
end
end Y

/-! data in lists; lists and tuples repeated -/
namespace Y
open PySem PySem.Spec PyProof.Rows L2
open Dat (dat)
theorem hu65 {A : Around} {k : Nat} (hr : Room k A) : A.units + 65 < cLine := by have := hr.un; omega
namespace WP
variable {α β : Type}
abbrev inD [PyI α] [PyI β] [Dat α] [Dat β] (a : WP α) (b : WP (List β)) : WP Bool := b2 a b fun x ys => req (SeqAt.shaped (dat x) = true ∧ SeqAt.shaped (.list (ys.map dat)) = true) ((ys.map dat).any fun z => PyData.eqv z (dat x))
abbrev rep (a : WP (List α)) (b : WP Int) : WP (List α) := b2 a b fun xs k => req (-1000000 ≤ k ∧ k ≤ 1000000 ∧ xs.length * k.toNat ≤ 100000) (List.replicate k.toNat xs).flatten
abbrev repT (a : WP (List α)) (b : WP Int) : WP (List α) := b2 a b fun xs k => req (xs ≠ [] ∧ 2 ≤ k ∧ k ≤ 1000 ∧ xs.length ≤ 1000) (List.replicate k.toNat xs).flatten
end WP
section
variable {α β : Type} [PyI α] [PyI β] {K : PySem.W.Frag} {e : Ef} {σ : L2.St} {W : Wo} {ta tb : TE}
theorem ew_inD [Dat α] [Dat β] {w1 : WP α} {w2 : WP (List β)} (ha : EvW e ta σ W sI w1) (hb : EvW e tb σ W (sR (kL β)) w2) : EvW e (tOp (rInD K) ta tb) σ W sI (WP.inD w1 w2) :=
  ew_op ha hb fun W1 W2 a ys x y g r1 ⟨_, ⟨p, vs, _, h1, h2, h3⟩, _⟩ Q q => by
    subst h1
    exact ⟨_, _, Dat.dp r1, .lst (SqL.of h2) (dpAll h3), q.1.1, q.1.2, q.2 _ W2 (Gw.refl g.ok) rfl rfl⟩
theorem ew_notInD [Dat α] [Dat β] {w1 : WP α} {w2 : WP (List β)} (ha : EvW e ta σ W sI w1) (hb : EvW e tb σ W (sR (kL β)) w2) : EvW e (tOp (rNotInD K) ta tb) σ W sI (WP.not (WP.inD w1 w2)) := fun W1 g Q q =>
  ew_op (ρ1 := sI) (ρ2 := sR (kL β)) (ρ := sI) (w1 := w1) (w2 := w2) (f := fun (x : α) (ys : List β) => (WP.req (SeqAt.shaped (dat x) = true ∧ SeqAt.shaped (.list (ys.map dat)) = true) ((ys.map dat).any fun z => PyData.eqv z (dat x))).bind fun b => WP.pure (!b)) ha hb (fun W1 W2 a ys x y g r1 ⟨_, ⟨p, vs, _, h1, h2, h3⟩, _⟩ Q q => by
    subst h1
    exact ⟨_, _, Dat.dp r1, .lst (SqL.of h2) (dpAll h3), q.1.1, q.1.2, q.2 _ W2 (Gw.refl g.ok) rfl rfl⟩) W1 g Q q
theorem reps_pair {F : α → V → Prop} {xs : List α} {vs : List V} (h : Paired F xs vs) : ∀ n : Nat, Paired F (List.replicate n xs).flatten (List.replicate n vs).flatten
  | 0 => .nil
  | n + 1 => by
    rw [List.replicate_succ, List.replicate_succ, List.flatten_cons, List.flatten_cons]
    exact h.appA (reps_pair h n)
theorem ew_rep {w1 : WP (List α)} {w2 : WP Int} (ha : EvW e ta σ W (sR (kL α)) w1) (hb : EvW e tb σ W sI w2) : EvW e (tOp rRep ta tb) σ W (sN (kL α)) (WP.rep w1 w2) :=
  ew_op ha hb fun W1 W2 xs k x y g ⟨_, ⟨p, vs, _, h1, h2, h3⟩, _⟩ r2 Q q => by
    subst h1; cases r2
    obtain ⟨⟨q1, q2, q3⟩, q⟩ := q
    exact ⟨p, k, vs, rfl, rfl, h2, by omega, by omega, by rw [← Paired.length h3]; exact sz_le q3, fun l hl => q _ _ (Gw.alloc g.ok hl) rfl (new_L (Gw.refl g.ok) hl (reps_pair h3 k.toNat))⟩
theorem ew_repT {w1 : WP (List α)} {w2 : WP Int} (ha : EvW e ta σ W sI w1) (hb : EvW e tb σ W sI w2) : EvW e (tOp (rRepT K) ta tb) σ W sI (WP.repT w1 w2) :=
  ew_op ha hb fun W1 W2 xs k x y g ⟨p, vs, h1, h2, h3⟩ r2 Q q => by
    subst h1; cases r2
    obtain ⟨⟨q1, q2, q3, q4⟩, q⟩ := q
    refine ⟨p, k, vs, rfl, rfl, SqT.of h2, fun z => ?_, q2, q3, by rw [← Paired.length h3]; exact q4, fun l hl => q _ _ (Gw.alloc g.ok hl) rfl ⟨l, _, rfl, upd_same, Rps.st (Gw.alloc g.ok hl).st (reps_pair h3 k.toNat)⟩⟩
    subst z
    cases h3
    exact q1 rfl
end
section
variable {X : Cx} {K : PySem.W.Frag}
theorem op_inDK (h : X.K = K) (hu : X.A.units + 65 < cLine) : OpR X (compareOp .In) (rInD K) := h ▸ op_inD hu
theorem op_notInDK (h : X.K = K) (hu : X.A.units + 65 < cLine) : OpR X (compareOp .NotIn) (rNotInD K) := h ▸ op_notInD hu
theorem op_repTK (h : X.K = K) : OpR X (binaryOp .Mult) (rRepT K) := h ▸ op_repT
end
end Y

namespace Y
open PySem PySem.Spec PyProof.Rows L2
open Sem (wp)
section
variable {prog : Program} {w : World} {A : Around} {E : Value → Shared → Prop} {s : Shared}
theorem max_intTup {l : Addr} {xs : Array (Int × Tok)} {Q : Value → Shared → Prop} (hh : A.handled = none) (hT : s.heap.IsTuple l (intItems xs)) (hne : 0 < xs.size)
    (h : ∀ v h' tk, (intItems xs)[argBest (fun i j => decide (numAt xs i > numAt xs j)) (xs.size - 1)]? = some v → (∀ b o, s.heap.get? b = some o → h'.get? b = some o) → Q v { s with heap := h', toks := tk }) :
    wpAny (model prog w) A (call (.builtin "max") [.ref l]) Q E s := by
  refine call_max_walk (wpAny_pyIter_tuple hT ?_)
  have hl : l < s.heap.objs.size := by
    obtain ⟨o, ho, _⟩ := hT
    exact Heap.lt_size ho
  refine ⟨_, [_, l], [_], _, _, _, _, rfl, Walks.tuple (A := A.in1) hh _ l (Nat.ne_of_lt hl) (intItems xs), ⟨⟨_, Heap.get?_push_size _ rfl, rfl, rfl⟩, hT.push _⟩, fun d hd => ?_, by simpa [intItems] using hne, CmpOf.ints_gt (numAt xs) (fun _ _ => intItems_at), fun v h' tk hP hk => ?_⟩
  · show d < (s.heap.push _).objs.size
    rw [Heap.size_push]
    rcases List.mem_cons.mp hd with rfl | hd
    · exact Nat.lt_succ_self _
    · rw [List.mem_singleton.mp hd]; exact Nat.lt_succ_of_lt hl
  · refine h v h' tk (by simpa [intItems] using hP) fun b o e => hk b o (fun hm => ?_) (Heap.get?_push_of_some _ e)
    have := Heap.lt_size e
    rw [List.mem_singleton.mp hm] at this
    exact Nat.lt_irrefl _ this
end
section
variable {X : Cx}
/-- max of a tuple of ints -/
def rMaxT (K : PySem.W.Frag) : List V → Hp → VK → Prop := fun vs H Q => ∃ (a : Addr) (ns : List Int), vs = [V.ref a] ∧ SqT K H a (ns.map V.int) ∧ 0 < ns.length ∧ ∀ m, m ∈ ns → (∀ y, y ∈ ns → y ≤ m) → Q (.int m) H
theorem cr_maxT (hc : X.calm = true) : CallR X (.builtin "max") (rMaxT X.K) := by
  intro pins s σ H vs us Q I r h
  obtain ⟨a, ns, rfl, hs, hne, q⟩ := h
  obtain ⟨its, rv, hl, _⟩ := I.tuple hs
  rw [Vals.ref1 r]
  have hi := rv.ints
  obtain ⟨xs, e⟩ := hi.allInts.items
  have hn : numsOf (intItems xs).toList = ns := by rw [← e]; exact hi.numsOf
  rw [nums_intItems] at hn
  subst hn
  rw [e] at hl
  have hsz : 0 < xs.size := by simpa using hne
  refine max_intTup (I.ok.hd hc) hl hsz fun v h' tk hv hk => ?_
  obtain ⟨t, rfl⟩ := intItems_at hv
  obtain ⟨h1, h2⟩ := argBest_gt (numAt xs) (xs.size - 1)
  refine ⟨.int _, H, I.kept hk, ⟨_, rfl⟩, q _ ?_ fun a ha => ?_⟩
  · rw [numAt_eq]; exact PySem.getD_mem (by rw [List.length_map, Array.length_toList]; omega)
  · obtain ⟨j, hj, rfl⟩ := mem_getD ha
    rw [List.length_map, Array.length_toList] at hj
    rw [← numAt_eq]; exact h2 j (by omega)
theorem cr_maxTK {K : PySem.W.Frag} (h : X.K = K) (hc : X.calm = true) : CallR X (.builtin "max") (rMaxT K) := h ▸ cr_maxT hc
theorem ew_maxT {K : PySem.W.Frag} {e : Ef} {σ : L2.St} {W : Wo} {ta : TE} {w : WP (List Int)} (ha : EvW e ta σ W sI w) : EvW e (tCB (rMaxT K) (tCons ta tNil)) σ W sI (WP.maxL w) := ew_cb1 ha fun W1 W2 ns x g ⟨p, vs, h1, h2, h3⟩ Q q => by
  subst h1
  cases rps_ints h3
  exact ⟨p, ns, rfl, SqT.of h2, q.1, fun m h4 h5 => q.2 m ⟨h4, h5⟩ _ W2 (Gw.refl g.ok) rfl rfl⟩
end
end Y

/-! range(a, b) -/
namespace Y
open PySem PySem.Spec PyProof.Rows L2
section
variable {α β γ s : Type} {K : PySem.W.Frag} {e : Ef} {σ : L2.St} {W : Wo} {ta tb : TE} {j : Nat} {D : Ends} {tu tz : TS} {R : Nat → β → Prop} {Bs : Addr → Prop}
theorem st_forR2 {w1 w2 : WP Int} {body : Int → s → WP (Ctl s γ)} {f : s → WP β} {r : γ → WP β} {x0 : s} (h1 : EvW e ta σ W sI w1) (h2 : EvW e tb σ W sI w2) (g : Good e W) (hm : ((WP.range2 w1 w2).bind fun xs => WP.after (WP.loop body xs x0) f r).run W.n R)
    (q : ∀ W1, Gw e W W1 → ∃ INV : s → L2.St → Wo → Prop, INV x0 σ W1 ∧ Turn INV body r R D tu (TkN j) ∧ ∀ y σ' W', INV y σ' W' → (f y).run W'.n R → D.nx σ' W'.H) : tFor (iRng2 (tCons ta (tCons tb tNil))) (gName j) tu D σ W.H :=
  h1 W (Gw.refl g) _ (w1.mono (fun n a hm v W1 g1 hn r1 => by
    subst hn; cases r1
    refine h2 W1 g1 _ (w2.mono (fun n b hm v W2 g2 hn r2 => ?_) hm)
    subst hn; cases r2
    obtain ⟨INV, h0, step, hd⟩ := q W2 (g1.trans g2)
    obtain ⟨⟨b1, b2, b3, b4⟩, hm⟩ := hm
    obtain ⟨Pv, p0, pk, ps, pd⟩ := pv_loop (D := D) INV h0 hm hd
    have el : (rangeL a b).length = (b - a).toNat := rangeL_len
    refine ⟨a, b, rfl, ⟨by omega, by omega, by omega, by omega⟩, for_range (lo := a) (n := (b - a).toNat) Pv p0 (fun i σ' H' hi q => ?_) (by rw [← el]; exact pd)⟩
    obtain ⟨y, W', R', e1, q1, q2, q3, q4, q5⟩ := ps i σ' H' _ (rangeL_get hi) q
    subst e1
    exact step _ y σ' _ W' R' _ ⟨_, rfl, rfl⟩ q1 q2 q3 q4 q5) hm)
theorem q_forR2 {w1 w2 : WP Int} {body : Int → s → WP (Ctl s γ)} {f : s → WP β} {r : γ → WP β} {x0 : s} (h1 : EvW e ta σ W sI w1) (h2 : EvW e tb σ W sI w2) (g : Good e W) (hm : ((WP.range2 w1 w2).bind fun xs => WP.after (WP.loop body xs x0) f r).run W.n R)
    (q : ∀ W1, Gw e W W1 → ∃ INV : s → L2.St → Wo → Prop, INV x0 σ W1 ∧ Turn INV body r R { D with nx := tz D } tu (TkN j) ∧ ∀ y σ' W', INV y σ' W' → (f y).run W'.n R → tz D σ' W'.H) : tSeq (tFor (iRng2 (tCons ta (tCons tb tNil))) (gName j) tu) tz D σ W.H := st_forR2 (D := { D with nx := tz D }) h1 h2 g hm q
theorem src_R2 {w1 w2 : WP Int} (h1 : EvW e ta σ W sI w1) (h2 : EvW e tb σ W sI w2) : Src e (iRng2 (tCons ta (tCons tb tNil))) σ W Bs (fun W a x => Rp W a x) (WP.range2 w1 w2) := fun W1 g R hm => h1 W1 g _ (w1.mono (fun n a hq v W2 g2 hn r => by
  subst hn; cases r
  refine h2 W2 (g.trans g2) _ (w2.mono (fun n b hq v W3 g3 hn r => ?_) hq)
  subst hn; cases r
  obtain ⟨⟨b1, b2, b3, b4⟩, hq⟩ := hq
  have el : (rangeL a b).length = (b - a).toNat := rangeL_len
  refine ⟨a, b, rfl, ⟨by omega, by omega, by omega, by omega⟩, hq W3 _ [] (g2.trans g3) rfl (fun _ m => nomatch m) fun W' _ _ => ⟨fun i hi => by rw [el] at hi; exact hi, by rw [el]; exact Nat.le_refl _, fun i x H' hi y => ⟨y.1, _, rangeL_get (by rw [el] at hi; exact hi), y.2⟩⟩⟩) hm)
end
end Y

/-! texts repeated, a sign in a text, isinstance of any data, defs of no argument -/
namespace Y
open PySem PySem.Spec PyProof.Rows L2
namespace WP
abbrev mulS (a : WP Str) (b : WP Int) : WP Str := b2 a b fun z k => req (0 ≤ k ∧ k ≤ 1000 ∧ z.length ≤ 1000) (Txt.mul z k)
abbrev inSg (a b : WP Str) : WP Bool := b2 a b fun x y => req (x.cps.size = 1) (decide (ixD x.cps.toList 0 ∈ y.cps.toList))
abbrev b0 {γ : Type} (m : WP γ) : WP γ := m
end WP
def rMulS : R2 := fun x y H Q => ∃ z n, x = .str z ∧ y = .int n ∧ MulOk z n ∧ Q (.str (Txt.mul z n)) H
theorem op_mulS {X : Cx} : OpR X (binaryOp .Mult) rMulS := by
  intro pins s σ H x y v u Q I rx ry h
  obtain ⟨z, n, rfl, rfl, hm, q⟩ := h
  obtain ⟨t, rfl⟩ := rx
  obtain ⟨t', rfl⟩ := ry
  exact SB.mul hm fun t' tk => ⟨.str (Txt.mul z n), H, I.tok _, ⟨_, rfl⟩, q⟩
theorem mulOk {z : Str} {k : Int} (h : 0 ≤ k ∧ k ≤ 1000 ∧ z.length ≤ 1000) : MulOk z k := by
  obtain ⟨h0, h1, h2⟩ := h
  have hm := Nat.mul_le_mul h2 (show k.toNat ≤ 1000 by omega)
  refine ⟨?_, fun h3 _ h4 => ?_, fun _ _ => ?_⟩
  · have a : ¬ k < -(2 ^ 63 : Int) := by omega
    have b : ¬ k ≥ (2 ^ 63 : Int) := by omega
    rw [decide_eq_false a, decide_eq_false b]; rfl
  · have : (2 ^ 63 - 1 : Int) / k ≥ 1000 := by
      rw [ge_iff_le, Int.le_ediv_iff_mul_le (by omega)]
      omega
    omega
  · have hs : z.length * k.toNat ≤ 1000000 := hm
    show decide (z.length * k.toNat > sizeLine) = false
    refine decide_eq_false ?_
    have : (1000000 : Nat) ≤ sizeLine := by decide
    omega
section
variable {α β γ s : Type} {K : PySem.W.Frag} {e : Ef} {σ : L2.St} {W : Wo} {ta tb te : TE}
theorem ew_mulS {a : WP Str} {b : WP Int} (ha : EvW e ta σ W sI a) (hb : EvW e tb σ W sI b) : EvW e (tOp rMulS ta tb) σ W sI (WP.mulS a b) :=
  ew_op2 ha hb fun W2 a b x y r1 r2 hc Q q => by
    cases r1; cases r2
    exact ⟨a, b, rfl, rfl, mulOk hc, q _ _ (Same.refl _) rfl⟩
theorem ew_inSg {a b : WP Str} (ha : EvW e ta σ W sI a) (hb : EvW e tb σ W sI b) : EvW e (tOp (fun x y H Q => ∃ (c : Nat) (z : Str), x = .str ⟨#[c]⟩ ∧ y = .str z ∧ Q (.bl (decide (c ∈ z.cps.toList))) H) ta tb) σ W sI (WP.inSg a b) :=
  ew_op2 ha hb fun W2 a b x y r1 r2 hc Q q => by
    cases r1; cases r2
    obtain ⟨⟨l⟩⟩ := a
    match l, hc with
    | [c], _ => exact ⟨c, b, rfl, rfl, q _ _ (Same.refl _) rfl⟩
theorem ew_notInSg {a b : WP Str} (ha : EvW e ta σ W sI a) (hb : EvW e tb σ W sI b) : EvW e (tOp (fun x y H Q => ∃ (c : Nat) (z : Str), x = .str ⟨#[c]⟩ ∧ y = .str z ∧ Q (.bl (!decide (c ∈ z.cps.toList))) H) ta tb) σ W sI (WP.not (WP.inSg a b)) :=
  ew_op (ρ := sI) (f := fun x y => (WP.req (x.cps.size = 1) (decide (ixD x.cps.toList 0 ∈ y.cps.toList))).bind fun b => WP.pure (!b)) ha hb fun W1 W2 a b x y g r1 r2 Q q => by
    cases r1; cases r2
    obtain ⟨hc, q⟩ := q
    obtain ⟨⟨l⟩⟩ := a
    match l, hc with
    | [c], _ => exact ⟨c, b, rfl, rfl, q _ W2 (Gw.refl g.ok) rfl rfl⟩
/-- the class of data -/
class TyN (α : Type) [PyI α] where
  nm : String
  ty : ∀ {K : PySem.W.Frag} {W : Wo} {a : α} {v : V}, Rp W a v → TyX K W.H v (.type nm)
instance : TyN Int := ⟨"int", fun h => by cases h; exact .base (.int _)⟩
instance : TyN Bool := ⟨"bool", fun h => by cases h; exact .base (.bl _)⟩
instance : TyN Str := ⟨"str", fun h => by cases h; exact .base (.str _)⟩
instance : TyN Unit := ⟨"NoneType", fun h => by cases h; exact .base .non⟩
instance {α β : Type} [PyI α] [PyI β] : TyN (α × β) := ⟨"tuple", fun ⟨p, x, y, h1, h2, _⟩ => by subst h1; exact .base (.tup h2)⟩
instance {α β γ : Type} [PyI α] [PyI β] [PyI γ] : TyN (Tri α β γ) := ⟨"tuple", fun ⟨p, x, y, z, h1, h2, _⟩ => by subst h1; exact .base (.tup h2)⟩
instance {α : Type} [PyI α] : TyN (List α) := ⟨"tuple", fun ⟨p, vs, h1, h2, _⟩ => by subst h1; exact .base (.tup h2)⟩
instance {α : Type} [PyI α] : TyN (Ls α) := ⟨"list", fun ⟨p, vs, h1, _, h2, _⟩ => by subst h1; exact .base (.lst h2)⟩
theorem ew_isiD [PyI α] [TyN α] {w : WP α} (T : String) (b : Bool) (hk : kitB (TyN.nm α) T = some b) (h : EvW e te σ W sI w) : EvW e (tCB (rIsi K) (tCons te (tCons (tC (.ty T)) tNil))) σ W sI (w.bind fun _ => WP.pure b) := fun W1 g Q q => h W1 g _ (w.mono (fun n z hq v W2 g2 hn r =>
  ⟨_, _, _, _, b, rfl, .ty _, TyN.ty r, kit_ty hk, hq _ W2 g2 hn rfl⟩) q)
theorem ew_isiL [PyI α] {w : WP (List α)} (T : String) (b : Bool) (hk : kitB "list" T = some b) (h : EvW e te σ W (sR (kL α)) w) : EvW e (tCB (rIsi K) (tCons te (tCons (tC (.ty T)) tNil))) σ W sI (w.bind fun _ => WP.pure b) := fun W1 g Q q => h W1 g _ (w.mono (fun n z hq v W2 g2 hn r => by
  obtain ⟨fp, ⟨p, vs, _, h1, h2, h3⟩, _⟩ := r
  subst h1
  exact ⟨_, _, _, _, b, rfl, .ty _, .base (.lst h2), kit_ty hk, hq _ W2 g2 hn rfl⟩) q)
theorem ew_call0N {γ : Type} {sp : Sp} {E : XK} {ρ : Rs e γ} {m : WP γ}
    (hm : ∀ W2, Good e W2 → ∀ Q : VK, m.run W2.n (fun n b => ∀ v W3, Gw e W2 W3 → W3.n = n → ρ.post W2 W3 b v → Q v W3.H) → ∀ E, sp [] W2.H Q E)
    : EvW e (tCall sp [] E tNil) σ W ρ (WP.b0 m) := fun W1 g Q q => hm W1 g.ok Q q E
end
section
variable {X : Cx}
theorem pe_user0 {x : Str} {k : Nat} {ps : List Str} {sp : Sp} {p pos : Pos} (h : Has X.prog X.w X.K X.mg X.base x k ps sp) (hr : Room k X.A) (hg : Gl X x) (hdb : (x == ("__debug__" : Str)) = false := by decide) :
    PE X (.Call (.Name x p) [] [] pos) (tCall sp [] E0 tNil) := by
  obtain ⟨f, fd, hm, hk, hb, hF⟩ := h
  exact pe_call0 hF hr hg hm hk hb .nil pass0 hdb
end
end Y

/-! dicts gone through: they are frozen for good; defs that return a dict or None; comprehensions of one clause over any source -/
namespace Y
open PySem PySem.Spec PyProof.Rows L2
/-- a frozen dict, as data -/
structure Fd (β : Type) where
  kvs : List (Sq × β)
instance {β : Type} [PyI β] : PyI (Fd β) := ⟨fun W d v => ∃ p ks od, v = .ref p ∧ W.F p ∧ W.H p = some (.frz od (.dT ks)) ∧ Paired (Kv W) d.kvs ks, fun t ⟨p, ks, od, h1, h2, h3, h4⟩ => ⟨p, ks, od, h1, t.f p h2, t.c p _ h2 h3, Paired.imp (fun a b h => ⟨h.1, PyI.st t h.2⟩) h4⟩⟩
instance {β : Type} [PyI β] : NN (Fd β) := ⟨fun ⟨p, ks, od, h1, _⟩ z => by rw [h1] at z; cases z⟩
def kOD (β : Type) [PyI β] : Kd (Option (List (Sq × β))) where
  own := fun W fp o v => match o with | none => v = .non ∧ fp = [] | some x => (kD β).own W fp x v
  st := fun {W W' fp o v} s c h => by
    cases o with
    | none => exact h
    | some x => exact (kD β).st s c h
  live := fun {W fp o v} h => by
    cases o with
    | none => rw [h.2]; exact fun _ m => nomatch m
    | some x => exact (kD β).live h
def tFrz (t : TS) : TS := fun D σ H => ∃ d u, H d = some u ∧ Mut (some u) ∧ ∀ od, t D σ (upd H d (.frz od u))
theorem ps_frz {X : Cx} {st : Stmt} {t : TS} (h : PS X st t) : PS X st (tFrz t) := by
  refine ⟨fun pins s σ H D I hw => ?_⟩
  obtain ⟨d, u, hd, mu, hw⟩ := hw
  obtain ⟨od, I1⟩ := I.lock hd mu
  exact h.run pins s σ _ _ I1 (hw od)
/-- the keys of a dict that is locked now, for good -/
def iKeysF (td : TE) : TI := fun σ H R => td σ H fun x H1 => ∃ d kvs, x = .ref d ∧ H1 d = some (.dT kvs) ∧ ∀ od, R (Itkt d od kvs) (upd H1 d (.frz od (.dT kvs)))
theorem pi_keysF {X : Cx} {tg e : Expr} {td : TE} (he : PE X e td) : PI X tg e (iKeysF td) := by
  refine ⟨fun pins s σ H R I h => ?_⟩
  refine thn (he.run pins s σ H _ I h) fun u s1 ⟨x, H1, I1, rx, d, kvs, ex, hd, q⟩ => ?_
  subst ex
  obtain rfl : u = Value.ref d := rx
  obtain ⟨od, I2⟩ := I1.lock hd trivial
  have hd2 : (upd H1 d (.frz od (.dT kvs))) d = some (.frz od (.dT kvs)) := upd_same
  obtain ⟨hs, hgd, hx, es, ep, hdt, hsz, ent⟩ := I2.frzT hd2
  refine iter_keys hs hgd hx hdt (pi_one (tk := s1.toks) I2 _ (turn_keysT _ hdt) ⟨_, Heap.get?_push_size _ rfl, rfl, ?_⟩ (q od))
  rw [hsz] <;> rfl
section
variable {α β γ s : Type} [PyI β] {K : PySem.W.Frag} {e : Ef} {σ : L2.St} {W W0 : Wo} {ta tb te tl td : TE} {t : TS} {tt : TT} {i j k m n : Nat} {v : V} {D : Ends} {tz tu : TS} {R : Nat → γ → Prop} {g : TG} {vs0 : List Nat} {wi : TI} {fp : List Addr} {Bs : Addr → Prop}
theorem ew_fd {w : WP (Fd β)} (h : EvW e te σ W sI w) : EvW e te σ W (sR (kDr β)) (w.bind fun x => WP.pure x.kvs) := fun W1 g Q q => h W1 g Q (w.mono (fun n d hq v W2 g2 hn ⟨p, ks, od, h1, h2, h3, h4⟩ => hq v W2 g2 hn ⟨[p], ⟨p, ks, rfl, h1, .inr ⟨od, h3⟩, h4⟩, fun a m => by
  cases List.mem_singleton.mp m
  exact (g2.ok.F p h2).1⟩) q)
theorem ew_dr {w : WP (List (Sq × β))} (h : EvW e te σ W (sR (kD β)) w) : EvW e te σ W (sR (kDr β)) w := fun W1 g Q q => h W1 g Q (w.mono (fun n d hq v W2 g2 hn ⟨fp, ⟨p, ks, h1, h2, h3, h4⟩, hS⟩ => hq v W2 g2 hn ⟨fp, ⟨p, ks, h1, h2, .inl h3, h4⟩, hS⟩) q)
theorem ew_nonD : EvW e (tC .non) σ W (sN (kOD β)) (WP.pure (none : Option (List (Sq × β)))) := fun W1 g Q q => q _ W1 (Gw.refl g.ok) rfl ⟨[], ⟨rfl, rfl⟩, fun _ m => nomatch m⟩
theorem ew_someD {w : WP (List (Sq × β))} (h : EvW e te σ W (sN (kD β)) w) : EvW e te σ W (sN (kOD β)) (w.bind fun x => WP.pure (some x)) := fun W1 g Q q => h W1 g Q (w.mono (fun n d hq v W2 g2 hn ⟨fp, h1, h2⟩ => hq v W2 g2 hn ⟨fp, h1, h2⟩) q)
theorem ew_isND {w : WP (Option (List (Sq × β)))} (h : EvW e te σ W (sR (kOD β)) w) : EvW e (tIsN te) σ W sI (WP.isN w) := fun W1 g Q q => h W1 g _ (w.mono (fun n o hq v W2 g2 hn ⟨fp, r, _⟩ => by
  cases o with
  | none =>
    cases r.1
    exact hq _ W2 g2 hn rfl
  | some a =>
    obtain ⟨p, ks, _, h2, _⟩ := r
    subst h2
    exact hq _ W2 g2 hn rfl) q)
theorem ew_notND {w : WP (Option (List (Sq × β)))} (h : EvW e te σ W (sR (kOD β)) w) : EvW e (tNotN te) σ W sI (WP.notN w) := fun W1 g Q q => h W1 g _ (w.mono (fun n o hq v W2 g2 hn ⟨fp, r, _⟩ => by
  cases o with
  | none =>
    cases r.1
    exact hq _ W2 g2 hn rfl
  | some a =>
    obtain ⟨p, ks, _, h2, _⟩ := r
    subst h2
    exact hq _ W2 g2 hn rfl) q)
namespace WP
abbrev theD (w : WP (Option (List (Sq × β)))) : WP (List (Sq × β)) := w.bind fun o => req (o.isSome = true) (o.getD [])
end WP
theorem ew_theD {w : WP (Option (List (Sq × β)))} (h : EvW e te σ W (sR (kOD β)) w) : EvW e te σ W (sR (kD β)) (WP.theD w) := fun W1 g Q q => h W1 g Q (w.mono (fun n o hq v W2 g2 hn ⟨fp, r, hS⟩ => by
  cases o with
  | none => cases hq.1
  | some a => exact hq.2 v W2 g2 hn ⟨fp, r, hS⟩) q)
/-- a dict of our own frozen for good -/
theorem frz_dict {fp : List Addr} {kvs : List (Sq × β)} (g00 : Good e W0) (g0 : Gw e W0 W) (ho : Var (kD β) W0 W fp kvs v) : ∃ p ks, fp = [p] ∧ v = .ref p ∧ W.H p = some (.dT ks) ∧ ∀ od, ∃ W1 : Wo, W1.H = upd W.H p (.frz od (.dT ks)) ∧ W1.n = W.n ∧ St W W1 ∧ Gw e W0 W1 ∧ (∀ fp' W9, Kp fp' W9 W → (∀ b ∈ fp', b ∉ fp) → Kp fp' W9 W1) ∧
    (∀ {κ : Type} {k : Kd κ} {fq : List Addr} {y : κ} {vy : V}, Var k W0 W fq y vy → (∀ b ∈ fq, b ∉ fp) → Var k W0 W1 fq y vy) ∧ Rp W1 (⟨kvs⟩ : Fd β) v := by
  obtain ⟨⟨p, ks, e1, e2, h3, h4⟩, fr, nF⟩ := ho
  subst e1; subst e2
  have m0 : p ∈ [p] := List.mem_singleton.mpr rfl
  refine ⟨p, ks, rfl, rfl, h3, fun od => ⟨(W.set p (.frz od (.dT ks))).frz [p], rfl, rfl, ?_, ?_, ?_, ?_, ?_⟩⟩
  · exact (St.mut h3 (fun _ z => by cases z) (nF p m0)).trans St.frz
  · refine Gw.frz g00 (Gw.mut g00 g0 (fr p m0) h3 (fun _ z => by cases z) (nF p m0)) fr fun a ma => ?_
    cases List.mem_singleton.mp ma
    show (upd W.H p _) p ≠ none
    rw [upd_same]; exact fun z => by cases z
  · exact fun fp' W9 kk d => kk.upd fun b m z => d b m (by rw [z]; exact m0)
  · intro κ k fq y vy hy d
    have s := St.mut (u := .frz od (.dT ks)) h3 (fun _ z => by cases z) (nF p m0)
    exact (hy.kept (fp := [p]) s (fun fp' W9 kk d => kk.upd fun b m z => d b m (by rw [z]; exact m0)) (fun _ f => f) d).frzd d
  · have s := (St.mut (u := .frz od (.dT ks)) h3 (fun _ z => by cases z) (nF p m0)).trans (St.frz (fp := [p]))
    exact ⟨p, ks, od, rfl, .inr m0, upd_same, Paired.imp (fun a b h => ⟨h.1, PyI.st s h.2⟩) h4⟩
theorem st_frzd {kvs : List (Sq × β)} (g00 : Good e W0) (g0 : Gw e W0 W) (ho : Var (kD β) W0 W fp kvs v) (hm : (WP.pure (⟨kvs⟩ : Fd β)).bind f |>.run W.n R)
    (q : ∀ a W1, St W W1 → Gw e W0 W1 → (∀ fp' W9, Kp fp' W9 W → (∀ b ∈ fp', b ∉ fp) → Kp fp' W9 W1) → (∀ {κ : Type} {k : Kd κ} {fq : List Addr} {y : κ} {vy : V}, Var k W0 W fq y vy → (∀ b ∈ fq, b ∉ fp) → Var k W0 W1 fq y vy) → Rp W1 (a : Fd β) v → (f a).run W1.n R → t D σ W1.H) : tFrz t D σ W.H := by
  obtain ⟨p, ks, e1, e2, h3, hW⟩ := frz_dict g00 g0 ho
  refine ⟨p, _, h3, trivial, fun od => ?_⟩
  obtain ⟨W1, h1, hn, s, g1, kk, kv, r⟩ := hW od
  rw [← h1]
  exact q _ W1 s g1 kk kv r (by rw [hn]; exact hm)
theorem q_frzd {kvs : List (Sq × β)} (g00 : Good e W0) (g0 : Gw e W0 W) (ho : Var (kD β) W0 W fp kvs v) (hm : (WP.pure (⟨kvs⟩ : Fd β)).bind f |>.run W.n R)
    (q : ∀ a W1, St W W1 → Gw e W0 W1 → (∀ fp' W9, Kp fp' W9 W → (∀ b ∈ fp', b ∉ fp) → Kp fp' W9 W1) → (∀ {κ : Type} {k : Kd κ} {fq : List Addr} {y : κ} {vy : V}, Var k W0 W fq y vy → (∀ b ∈ fq, b ∉ fp) → Var k W0 W1 fq y vy) → Rp W1 (a : Fd β) v → (f a).run W1.n R → tSeq t tz D σ W1.H) : tSeq (tFrz t) tz D σ W.H :=
  st_frzd (D := { D with nx := tz D }) g00 g0 ho hm q
theorem st_frzdO {o : Option (List (Sq × β))} (g00 : Good e W0) (g0 : Gw e W0 W) (ho : Var (kOD β) W0 W fp o v) (hm : (WP.req (o.isSome = true) (⟨o.getD []⟩ : Fd β)).bind f |>.run W.n R)
    (q : ∀ a W1, St W W1 → Gw e W0 W1 → (∀ fp' W9, Kp fp' W9 W → (∀ b ∈ fp', b ∉ fp) → Kp fp' W9 W1) → (∀ {κ : Type} {k : Kd κ} {fq : List Addr} {y : κ} {vy : V}, Var k W0 W fq y vy → (∀ b ∈ fq, b ∉ fp) → Var k W0 W1 fq y vy) → Rp W1 (a : Fd β) v → (f a).run W1.n R → t D σ W1.H) : tFrz t D σ W.H := by
  cases o with
  | none => cases hm.1
  | some kvs => exact st_frzd (kvs := kvs) g00 g0 ⟨ho.own, ho.fr, ho.nF⟩ hm.2 q
theorem q_frzdO {o : Option (List (Sq × β))} (g00 : Good e W0) (g0 : Gw e W0 W) (ho : Var (kOD β) W0 W fp o v) (hm : (WP.req (o.isSome = true) (⟨o.getD []⟩ : Fd β)).bind f |>.run W.n R)
    (q : ∀ a W1, St W W1 → Gw e W0 W1 → (∀ fp' W9, Kp fp' W9 W → (∀ b ∈ fp', b ∉ fp) → Kp fp' W9 W1) → (∀ {κ : Type} {k : Kd κ} {fq : List Addr} {y : κ} {vy : V}, Var k W0 W fq y vy → (∀ b ∈ fq, b ∉ fp) → Var k W0 W1 fq y vy) → Rp W1 (a : Fd β) v → (f a).run W1.n R → tSeq t tz D σ W1.H) : tSeq (tFrz t) tz D σ W.H :=
  st_frzdO (D := { D with nx := tz D }) g00 g0 ho hm q
/-- sources with no list of their own -/
def Src0 {α : Type} (e : Ef) (wi : TI) (σ : L2.St) (W : Wo) (val : Wo → α → V → Prop) (w : WP (List α)) : Prop :=
  ∀ W1, Gw e W W1 → ∀ R : It → Hp → Prop, w.run W1.n (fun n xs => ∀ W2 J, Gw e W1 W2 → W2.n = n → Iter W2 [] J xs val → R J W2.H) → wi σ W1.H R
theorem Src0.src {val : Wo → α → V → Prop} {w : WP (List α)} (h : Src0 e wi σ W val w) : Src e wi σ W Bs val w := fun W1 g R hm => h W1 g R (w.mono (fun n xs hq W2 J g2 hn hi => hq W2 J [] g2 hn (fun _ m => nomatch m) hi) hm)
theorem iter_K {p : Addr} {ks : List (List Key × V)} {od : Obj} {kvs : List (Sq × β)} (hF : W.F p) (hp : W.H p = some (.frz od (.dT ks))) (hr : Paired (Kv W) kvs ks) : Iter W [] (Itkt p od ks) (kvs.map (·.1)) (fun W a x => Rp W a x) := fun W' s _ => by
  have hp' := s.c p _ hF hp
  have el := Paired.length hr
  have el2 : (kvs.map (·.1)).length = ks.length := by rw [List.length_map]; exact el
  refine ⟨fun i hi => ⟨hp', by omega⟩, ⟨hp', by omega⟩, fun i x H' hi y => ⟨y.1, ?_⟩⟩
  obtain ⟨_, k, v, q, h1, h2, h3⟩ := y
  obtain ⟨kv, hkv, r1, _⟩ := hr.getV h1
  refine ⟨kv.1, by rw [List.getElem?_map, hkv]; rfl, ?_⟩
  have r1 : k = kSq kv.1 := r1
  rw [r1] at h3
  exact ⟨q, .int kv.1.1, .int kv.1.2, h2, h3, rfl, rfl⟩
theorem src_K {w : WP (Fd β)} (h : EvW e td σ W sI w) : Src0 e (iKeys td) σ W (fun W a x => Rp W a x) (w.bind fun x => WP.pure (x.kvs.map (·.1))) := fun W1 g R hm => h W1 g _ (w.mono (fun n d hq v W2 g2 hn ⟨p, ks, od, h1, h2, h3, h4⟩ => by
  subst h1
  exact ⟨p, od, rfl, .inr ⟨ks, h3, hq W2 _ g2 hn (iter_K h2 h3 h4)⟩⟩) hm)
theorem src_KN {w : WP (List (Sq × β))} (h : EvW e td σ W (sN (kD β)) w) : Src0 e (iKeysF td) σ W (fun W a x => Rp W a x) (w.bind fun x => WP.pure (x.map (·.1))) := fun W1 g R hm => h W1 g _ (w.mono (fun n d hq v W2 g2 hn ⟨fp, h1, h2⟩ => by
  obtain ⟨p, ks, e1, e2, h3, hW⟩ := frz_dict (v := v) g.ok g2 (⟨h1, fun a m => (h2 a m).1, fun a m => (h2 a m).2.2⟩ : Var (kD β) W1 W2 fp d v)
  refine ⟨p, ks, e2, h3, fun od => ?_⟩
  obtain ⟨W3, q1, qn, s, g3, kk, kv, r⟩ := hW od
  rw [← q1]
  obtain ⟨p', ks', od', z1, z2, z3, z4⟩ := r
  have z3' : W3.H p = some (.frz od (.dT ks)) := by rw [q1]; exact upd_same
  rw [e2] at z1
  cases z1
  rw [z3'] at z3
  cases z3
  exact hq W3 _ g3 (qn.trans hn) (iter_K z2 z3' z4)) hm)
/-- for over such a source -/
theorem st_for0 [PyI α] {gt : TG} {T : α → Wo → L2.St → L2.St → Prop} (ht : Tk gt T) {w : WP (List α)} {body : α → s → WP (Ctl s δ)} {f : s → WP γ} {r : δ → WP γ} {x0 : s} (h : Src0 e wi σ W (fun W a x => Rp W a x) w) (g : Good e W) (hm : (w.bind fun xs => WP.after (WP.loop body xs x0) f r).run W.n R)
    (q : ∀ (xs : List α) W1, Gw e W W1 → ∃ INV : s → L2.St → Wo → Prop, INV x0 σ W1 ∧ (∀ y σ' W', INV y σ' W' → St W1 W') ∧ Turn INV body r R D tu T ∧ ∀ y σ' W', INV y σ' W' → (f y).run W'.n R → D.nx σ' W'.H) : tFor wi gt tu D σ W.H :=
  h W (Gw.refl g) _ (w.mono (fun n xs hm W1 J g1 hn hi => by
    subst hn
    obtain ⟨INV, h0, keep, step, hd⟩ := q xs W1 g1
    obtain ⟨Pv, p0, pk, ps, pd⟩ := pv_loop (D := D) INV h0 hm hd
    have wk : Walk J xs.length (fun H => ∃ W', W'.H = H ∧ St W1 W') (fun i H x H' => H' = H ∧ ∃ a, xs[i]? = some a ∧ ∀ W', W'.H = H → St W1 W' → Rp W' a x) := by
      refine ⟨fun i H hi' ⟨W', e1, s1⟩ => ?_, fun H ⟨W', e1, s1⟩ => ?_, fun i H x H' hi' ⟨W', e1, s1⟩ y => ?_⟩
      · subst e1; exact (hi W' s1 (fun _ m => nomatch m)).1 i hi'
      · subst e1; exact (hi W' s1 (fun _ m => nomatch m)).2.1
      · subst e1
        obtain ⟨q1, a, q2, _⟩ := (hi W' s1 (fun _ m => nomatch m)).2.2 i x H' hi' y
        refine ⟨q1, a, q2, fun W'' e2 s2 => ?_⟩
        obtain ⟨_, a', q4, q5⟩ := (hi W'' s2 (fun _ m => nomatch m)).2.2 i x H' hi' (by rw [e2]; exact y)
        rw [q2] at q4
        cases q4
        exact q5
    refine for_it wk Pv p0 (fun i σ H _ q => ?_) (fun i x σ H H' hi' q y => ?_) pd
    · obtain ⟨y, W', e1, q'⟩ := pk i σ H q
      exact ⟨W', e1, keep y σ W' q'⟩
    · obtain ⟨rfl, a, ha, ra⟩ := y
      obtain ⟨y, W', R', e1, q1, q2, q3, q4, q5⟩ := ps i σ _ a ha q
      subst e1
      exact ht a x W' σ _ (ra W' rfl (keep y σ W' q1)) fun s2 h2 => step a y σ s2 W' R' _ h2 q1 q2 q3 q4 q5) hm)
theorem q_for0 [PyI α] {gt : TG} {T : α → Wo → L2.St → L2.St → Prop} (ht : Tk gt T) {w : WP (List α)} {body : α → s → WP (Ctl s δ)} {f : s → WP γ} {r : δ → WP γ} {x0 : s} (h : Src0 e wi σ W (fun W a x => Rp W a x) w) (g : Good e W) (hm : (w.bind fun xs => WP.after (WP.loop body xs x0) f r).run W.n R)
    (q : ∀ (xs : List α) W1, Gw e W W1 → ∃ INV : s → L2.St → Wo → Prop, INV x0 σ W1 ∧ (∀ y σ' W', INV y σ' W' → St W1 W') ∧ Turn INV body r R { D with nx := tz D } tu T ∧ ∀ y σ' W', INV y σ' W' → (f y).run W'.n R → tz D σ' W'.H) : tSeq (tFor wi gt tu) tz D σ W.H :=
  st_for0 (D := { D with nx := tz D }) ht h g hm q
end
section
variable {α β γ : Type} {K : PySem.W.Frag} {e : Ef} {σ : L2.St} {W W2 : Wo} {ta tb te tc tl : TE} {t u : TT} {i j k m n : Nat} {v : V} {g : TG} {vs0 : List Nat} {wi : TI}
theorem ew_lcX [PyI β] {val : Wo → α → V → Prop} {w : WP (List α)} {T : α → Wo → L2.St → Prop} {c : α → WP Bool} {f : α → WP β} (h : Src e wi σ W (fun a => W.H a ≠ none) val w) (ht : Takes val g σ vs0 T) (hw : ∀ a W' s2, T a W' s2 → wipe s2 vs0 = wipe σ vs0)
    (hc : ∀ a W1 s2, Gw e W W1 → T a W1 s2 → EvT e t s2 W1 (c a)) (he : ∀ a W1 s2, Gw e W W1 → T a W1 s2 → EvW e te s2 W1 sI (f a)) : EvW e (tLc wi g t te vs0) σ W (sN (kL β)) (WP.lc w c f) := fun W1 gW Q q =>
  h W1 gW _ (w.mono (fun n xs hq W2 J fp g2 hn hfp hJ => by
    subst hn
    have hz : xs.length ≤ 100000 := hq.1
    intro Dl hD
    have hg := g2.ok
    have nS : ¬ e.S Dl := fun s => hg.S Dl s hD
    have gW2 := gW.trans g2
    let QQ : Nat → List β → Prop := fun n ys => ∀ v W3, Gw e W1 W3 → W3.n = n → (sN (e := e) (kL β)).post W1 W3 ys v → Q v W3.H
    let Pv : Nat → Hp → Prop := fun i H => ∃ W' ys, W'.H = H ∧ Acc e Dl W2 W' ys ∧ Kp fp W2 W' ∧ ys.length ≤ i ∧ (WP.comp c f (xs.drop i)).run W'.n (fun n r => QQ n (ys ++ r))
    refine ⟨fun i m H => m = xs.length - i ∧ i ≤ xs.length ∧ Pv i H, ⟨xs.length, by simp, Nat.zero_le _, ⟨upd W2.H Dl (.lst []), W2.F, W2.n⟩, [], rfl, ⟨Gw.alloc hg hD, ⟨[], upd_same, .nil⟩, fun z => (hg.F Dl z).2 hD⟩, Kp.gw (Gw.alloc hg hD) (fun a m => (hfp a m).2.1), Nat.le_refl _, by rw [List.drop_zero]; exact hq.2⟩, ?_⟩
    rintro i m H ⟨rfl, hi, W', ys, rfl, ok, kp, hlen, hr⟩
    obtain ⟨j1, j2, j3⟩ := hJ W' ok.g.st kp
    by_cases hlt : i < xs.length
    · refine .inr ⟨j1 i hlt, Pv (i + 1), fun H' p' => ⟨xs.length - (i + 1), by omega, rfl, hlt, p'⟩, fun x H' hy => ?_⟩
      obtain ⟨e1, a, ha, va⟩ := j3 i x H' hlt hy
      subst e1
      have ed : xs.drop i = a :: xs.drop (i + 1) := by rw [List.drop_eq_getElem_cons hlt, (List.getElem?_eq_some_iff.mp ha).2]
      rw [ed] at hr
      have gWW := gW2.trans ok.g
      refine ht a x W' _ va fun s2 hs2 => ⟨hw a W' s2 hs2, ?_⟩
      refine hc a W' s2 gWW hs2 W' (Gw.refl ok.g.ok) _ ((c a).mono (fun n b hq W3 g3 hn => ?_) hr)
      subst hn
      have ok3 := ok.go nS g3
      have k3 := kp.trans (Kp.gw g3 fun a m => (hfp a m).2.1)
      cases b with
      | false => exact ⟨W3, ys, rfl, ok3, k3, by omega, hq⟩
      | true =>
        refine he a W' s2 gWW hs2 W3 g3 _ ((f a).mono (fun n y hq v W4 g4 hn r => ?_) hq)
        subst hn
        have ok4 := ok3.go nS g4
        obtain ⟨vs', q1, q2, q3, q4⟩ := ok4.snoc hg hD r
        refine ⟨vs', q1, by rw [q2]; exact sz_lt (by omega), W4.set Dl (.lst (vs' ++ [v])), ys ++ [y], rfl, q3, (k3.trans (Kp.gw g4 fun a m => (hfp a m).2.1)).upd (fun b m z => (hfp b m).2.2 (z ▸ hD)), by rw [List.length_append, List.length_singleton]; omega, ?_⟩
        exact (WP.comp c f _).mono (fun n zs hq => by rw [List.append_assoc]; exact hq) hq
    · have e2 : i = xs.length := by omega
      subst e2
      rw [List.drop_length] at hr
      have hr : QQ W'.n (ys ++ []) := hr
      rw [List.append_nil] at hr
      obtain ⟨vs', h1, h2⟩ := ok.h
      exact .inl ⟨j2, hr _ W' (g2.trans ok.g) rfl ⟨[Dl], ⟨Dl, vs', rfl, rfl, h1, h2⟩, fun b mb => by
        cases List.mem_singleton.mp mb
        exact ⟨g2.live _ hD, nS, ok.f⟩⟩⟩) q)
end
end Y

/-! list of a text, extend, xs[i] = v, len of a pair -/
namespace Y
open PySem PySem.Spec PyProof.Rows L2
def rListStr : List V → Hp → VK → Prop := fun xs H Q => ∃ z : Str, xs = [.str z] ∧ z.length ≤ sizeLine ∧ ∀ l, H l = none → Q (.ref l) (upd H l (.lst ((Y.signs z).map V.str)))
theorem cr_listStr {X : Cx} (hc : X.calm = true) : CallR X (.type "list") rListStr := by
  intro pins s σ H xs us Q I r h
  obtain ⟨z, rfl, hz, q⟩ := h
  obtain ⟨u, rfl, rx⟩ := vals1 r
  obtain ⟨t, rfl⟩ := rx
  refine PySem.call_list_str (I.ok.hd hc) z t (hn := hz) fun h' tk acc' c' hk hS' hacc => ?_
  have hl : acc'.toList.length = z.cps.toList.length := by
    rw [Array.length_toList, hacc.1, Array.length_toList]
  have rv : Vals ((Y.signs z).map V.str) acc'.toList := by
    have h1 := vals_of_get acc'.toList (fun j => V.str (((Y.signs z)[j]?).getD ⟨#[]⟩)) fun j u hj => by
      obtain ⟨c, v, hc', rfl⟩ := hacc.2 j u (by simpa using hj)
      refine ⟨v, ?_⟩
      have : (Y.signs z)[j]? = some ⟨#[c]⟩ := by
        unfold Y.signs
        rw [List.getElem?_map, Array.getElem?_toList, hc']; rfl
      rw [this]; rfl
    have e : ((List.range acc'.toList.length).map fun j => V.str (((Y.signs z)[j]?).getD ⟨#[]⟩)) = (Y.signs z).map V.str := by
      have hs : (Y.signs z).length = acc'.toList.length := by
        unfold Y.signs
        rw [List.length_map, hl]
      apply List.ext_getElem?
      intro j
      rw [List.getElem?_map, List.getElem?_map]
      by_cases hj : j < acc'.toList.length
      · rw [List.getElem?_range hj]
        have : j < (Y.signs z).length := by omega
        simp [List.getElem?_eq_getElem this]
      · rw [List.getElem?_eq_none (by rw [List.length_range]; omega), List.getElem?_eq_none (by omega)]; rfl
    rw [e] at h1
    exact h1
  have hsz : ((Y.signs z).map V.str).length ≤ sizeLine := by
    unfold Y.signs
    rw [List.length_map, List.length_map, Array.length_toList]
    exact hz
  exact ⟨.ref s.heap.objs.size, _, I.laid (t' := tk) hk (Nat.le_refl _) (show ObjOk X.prog X.w _ h' _ (.lst ((Y.signs z).map V.str)) from ⟨hsz, acc'.toList, c', rv, by simpa using hS'⟩), rfl, q _ (I.hok.fresh (Nat.le_refl _))⟩
section
variable {α β γ s : Type} {K : PySem.W.Frag} {e : Ef} {σ : L2.St} {W W0 : Wo} {ta tb te tc tl : TE} {i j k m n : Nat} {v : V} {D : Ends} {tz : TS} {R : Nat → γ → Prop} {fp : List Addr}
theorem rps_strsV {W : Wo} : ∀ ns : List Str, Rps W ns (ns.map V.str)
  | [] => .nil
  | _ :: ns => .cons rfl (rps_strsV ns)
namespace WP
abbrev listS (w : WP Str) : WP (List Str) := w.bind fun z => req (z.length ≤ 100000) (Y.signs z)
abbrev len2 (w : WP (α × β)) : WP Int := w.bind fun _ => pure (2 : Int)
end WP
theorem ew_listS {w : WP Str} (h : EvW e te σ W sI w) : EvW e (tCB rListStr (tCons te tNil)) σ W (sN (kL Str)) (WP.listS w) := ew_cb1 h fun W1 W2 z x g r Q q => by
  cases r
  exact ⟨z, rfl, Nat.le_trans q.1 (by decide), fun l hl => q.2 _ _ (Gw.alloc g.ok hl) rfl ⟨[l], ⟨l, _, rfl, rfl, upd_same, rps_strsV _⟩, fun a m => by
    cases List.mem_singleton.mp m
    exact ⟨hl, fun s => g.ok.S l s hl, fun f => (g.ok.F l f).2 hl⟩⟩⟩
theorem ew_len2 [PyI α] [PyI β] {w : WP (α × β)} (h : EvW e te σ W sI w) : EvW e (tCB (rLenS K) (tCons te tNil)) σ W sI (WP.len2 w) := ew_cb1 h fun W1 W2 z x g r Q q => by
  obtain ⟨p, x1, x2, h1, h2, _⟩ := r
  subst h1
  exact ⟨p, [x1, x2], rfl, .inr (SqT.of h2), q _ W2 (Gw.refl g.ok) rfl rfl⟩
/-- xs.extend(ys) -/
theorem st_ext [PyI α] {xs : List α} {vx : V} {iv : Nat} {w : WP (List α)} {f : List α → WP γ} (g00 : Good e W0) (g0 : Gw e W0 W) (hv : σ[iv]? = some (some vx)) (ho : Var (kL α) W0 W fp xs vx) (h : EvW e te σ W (sR (kL α)) w)
    (hm : ((w.bind fun a => WP.req (xs.length + a.length ≤ 100000) (xs ++ a)).bind f).run W.n R)
    (q : ∀ ys W1 W2 l, fp = [l] → Gw e W W1 → St W1 W2 → Gw e W0 W2 → (∀ fp' W9, Kp fp' W9 W1 → (∀ b ∈ fp', b ∉ fp) → Kp fp' W9 W2) → (∀ b, W2.F b → W1.F b) → Var (kL α) W0 W2 fp ys vx → (f ys).run W2.n R → D.nx σ W2.H) : tDrop (tBM K "list" rExtend (tVar iv) (tCons te tNil)) D σ W.H := by
  obtain ⟨⟨l, vs, h1, h2, h3, h4⟩, fr, nF⟩ := ho
  subst h1; subst h2
  have m0 : l ∈ [l] := List.mem_singleton.mpr rfl
  refine ⟨_, hv, .inl ⟨rfl, vs, SqL.of h3⟩, h W (Gw.refl g0.ok) _ (w.mono (fun n a r y W1 g1 hn p => ?_) hm)⟩
  subst hn
  obtain ⟨fq, ⟨b, zs, b1, b2, b3, b4⟩, _⟩ := p
  subst b2
  have hl1 : W1.H l = some (.lst vs) := g1.keep _ _ h3 fun s => g00.S l s (fr l m0)
  have hF1 : ¬ W1.F l := fun f => (g1.new l f).elim (nF l m0) (some_ne h3)
  have s12 := St.mut (u := .lst (vs ++ zs)) hl1 (fun _ z => by cases z) hF1
  refine ⟨l, b, vs, zs, rfl, rfl, hl1, b3, Nat.le_trans (m := 100000) ?_ (by decide), ?_⟩
  · rw [← Paired.length h4, ← Paired.length b4]
    exact r.1
  refine q (xs ++ a) W1 (W1.set l (.lst (vs ++ zs))) l rfl g1 s12 (Gw.mut g00 (g0.trans g1) (fr l m0) hl1 (fun _ z => by cases z) hF1) (fun fp' W9 k d => k.upd fun b m z => d b m (by rw [z]; exact m0)) (fun _ f => f) ⟨⟨l, _, rfl, rfl, upd_same, ?_⟩, fr, fun b m => by cases List.mem_singleton.mp m; exact hF1⟩ r.2
  exact (Rps.st (g1.st.trans s12) h4).appA (Rps.st s12 b4)
theorem q_ext [PyI α] {xs : List α} {vx : V} {iv : Nat} {w : WP (List α)} {f : List α → WP γ} (g00 : Good e W0) (g0 : Gw e W0 W) (hv : σ[iv]? = some (some vx)) (ho : Var (kL α) W0 W fp xs vx) (h : EvW e te σ W (sR (kL α)) w)
    (hm : ((w.bind fun a => WP.req (xs.length + a.length ≤ 100000) (xs ++ a)).bind f).run W.n R)
    (q : ∀ ys W1 W2 l, fp = [l] → Gw e W W1 → St W1 W2 → Gw e W0 W2 → (∀ fp' W9, Kp fp' W9 W1 → (∀ b ∈ fp', b ∉ fp) → Kp fp' W9 W2) → (∀ b, W2.F b → W1.F b) → Var (kL α) W0 W2 fp ys vx → (f ys).run W2.n R → tz D σ W2.H) : tSeq (tDrop (tBM K "list" rExtend (tVar iv) (tCons te tNil))) tz D σ W.H :=
  st_ext (D := { D with nx := tz D }) g00 g0 hv ho h hm q
/-- xs[i] = v -/
theorem rps_set [PyI α] {W : Wo} {xs : List α} {vs : List V} (h : Rps W xs vs) {a : α} {x : V} (r : Rp W a x) : ∀ j : Nat, Rps W (xs.set j a) (vs.set j x) := by
  induction h with
  | nil => intro j; exact .nil
  | cons p t ih =>
    intro j
    cases j with
    | zero => exact .cons r t
    | succ j => exact .cons p (ih j)
namespace WP
abbrev lset (xs : List α) (a : WP α) (b : WP Int) : WP (List α) := a.bind fun v => b.bind fun k => req (okI xs.length k) (setL xs k v)
end WP
theorem st_lset [PyI α] {xs : List α} {vx : V} {iv : Nat} {w1 : WP α} {w2 : WP Int} {f : List α → WP γ} (g00 : Good e W0) (g0 : Gw e W0 W) (hv : σ[iv]? = some (some vx)) (ho : Var (kL α) W0 W fp xs vx) (h1 : EvW e tc σ W sI w1) (h2 : EvW e tb σ W sI w2)
    (hm : ((WP.lset xs w1 w2).bind f).run W.n R)
    (q : ∀ ys W1 W2 l, fp = [l] → Gw e W W1 → St W1 W2 → Gw e W0 W2 → (∀ fp' W9, Kp fp' W9 W1 → (∀ b ∈ fp', b ∉ fp) → Kp fp' W9 W2) → (∀ b, W2.F b → W1.F b) → Var (kL α) W0 W2 fp ys vx → (f ys).run W2.n R → D.nx σ W2.H) : tAsg tc (gSub (tVar iv) tb rSetL) D σ W.H := by
  obtain ⟨⟨l, vs, q1, q2, h3, h4⟩, fr, nF⟩ := ho
  subst q1; subst q2
  have m0 : l ∈ [l] := List.mem_singleton.mpr rfl
  refine h1 W (Gw.refl g0.ok) _ (w1.mono (fun n a r x W1 g1 hn p1 => ?_) hm)
  subst hn
  refine ⟨_, hv, h2 W1 g1 _ (w2.mono (fun n k r y W2 g2 hn p2 => ?_) r)⟩
  subst hn
  cases p2
  have g12 := g1.trans g2
  have hl1 : W2.H l = some (.lst vs) := g12.keep _ _ h3 fun s => g00.S l s (fr l m0)
  have hF1 : ¬ W2.F l := fun f => (g12.new l f).elim (nF l m0) (some_ne h3)
  obtain ⟨⟨o1, o2⟩, r⟩ := r
  have hlen := Paired.length h4
  obtain ⟨j, hj⟩ : ∃ j, ixN xs.length k = some j := by
    unfold ixN
    by_cases z : 0 ≤ k
    · exact ⟨k.toNat, by rw [if_pos z, if_pos o2]⟩
    · exact ⟨(k + xs.length).toNat, by rw [if_neg z, if_pos o1]⟩
  have s12 := St.mut (u := .lst (vs.set j x)) hl1 (fun _ z => by cases z) hF1
  refine ⟨l, vs, k, j, rfl, rfl, hl1, by rw [← hlen]; exact hj, ?_⟩
  have e : setL xs k a = xs.set j a := by unfold setL; rw [hj]
  rw [e] at r
  refine q (xs.set j a) W2 (W2.set l (.lst (vs.set j x))) l rfl g12 s12 (Gw.mut g00 (g0.trans g12) (fr l m0) hl1 (fun _ z => by cases z) hF1) (fun fp' W9 kk d => kk.upd fun b m z => d b m (by rw [z]; exact m0)) (fun _ f => f) ⟨⟨l, _, rfl, rfl, upd_same, ?_⟩, fr, fun b m => by cases List.mem_singleton.mp m; exact hF1⟩ r
  exact rps_set (Rps.st (g12.st.trans s12) h4) (PyI.st (g2.st.trans s12) p1) j
theorem q_lset [PyI α] {xs : List α} {vx : V} {iv : Nat} {w1 : WP α} {w2 : WP Int} {f : List α → WP γ} (g00 : Good e W0) (g0 : Gw e W0 W) (hv : σ[iv]? = some (some vx)) (ho : Var (kL α) W0 W fp xs vx) (h1 : EvW e tc σ W sI w1) (h2 : EvW e tb σ W sI w2)
    (hm : ((WP.lset xs w1 w2).bind f).run W.n R)
    (q : ∀ ys W1 W2 l, fp = [l] → Gw e W W1 → St W1 W2 → Gw e W0 W2 → (∀ fp' W9, Kp fp' W9 W1 → (∀ b ∈ fp', b ∉ fp) → Kp fp' W9 W2) → (∀ b, W2.F b → W1.F b) → Var (kL α) W0 W2 fp ys vx → (f ys).run W2.n R → tz D σ W2.H) : tSeq (tAsg tc (gSub (tVar iv) tb rSetL)) tz D σ W.H :=
  st_lset (D := { D with nx := tz D }) g00 g0 hv ho h1 h2 hm q
end
end Y

/-! working with models -/
namespace Y
open PySem L2
namespace WP
variable {α β γ s : Type}
theorem run_cond {b : Bool} {A B : WP α} {n : Nat} {Q : Nat → α → Prop} : (cond b A B).run n Q = ((b = true → A.run n Q) ∧ (b = false → B.run n Q)) := by
  cases b with
  | true => exact propext ⟨fun h => ⟨fun _ => h, (fun z => by cases z)⟩, fun h => h.1 rfl⟩
  | false => exact propext ⟨fun h => ⟨(fun z => by cases z), fun _ => h⟩, fun h => h.2 rfl⟩
theorem run_range1 {w : WP Int} {n : Nat} {Q : Nat → List Int → Prop} : (range1 w).run n Q = w.run n (fun m k => (-100000000 ≤ k ∧ k ≤ 100000000) ∧ Q m (rangeL 0 k)) := rfl
theorem run_range2 {a b : WP Int} {n : Nat} {Q : Nat → List Int → Prop} : (range2 a b).run n Q = a.run n (fun m x => b.run m fun m y => (-100000000 ≤ x ∧ x ≤ 100000000 ∧ -100000000 ≤ y ∧ y ≤ 100000000) ∧ Q m (rangeL x y)) := rfl
theorem run_none {b : β} {n : Nat} {Q : Nat → α → Prop} : (none (b := b) : WP α).run n Q = False := rfl
def afterQ {ρ : Type} (f : s → WP ρ) (r : γ → WP ρ) (Q : Nat → ρ → Prop) : Nat → Ctl s γ → Prop
  | m, .nx y => (f y).run m Q
  | m, .bk y => (f y).run m Q
  | m, .rt q => (r q).run m Q
theorem after_of {ρ : Type} {w : WP (Ctl s γ)} {n : Nat} {f : s → WP ρ} {r : γ → WP ρ} {Q : Nat → ρ → Prop} (h : w.run n (afterQ f r Q)) : (after w f r).run n Q := w.mono (fun m c hc => by
  cases c with
  | nx z => exact hc
  | bk z => exact hc
  | rt q => exact hc) h
/-- what a turn may do: I for the next one, or the end -/
def turnQ {ρ : Type} (J : Nat → s → Prop) (f : s → WP ρ) (r : γ → WP ρ) (Q : Nat → ρ → Prop) : Nat → Ctl s γ → Prop
  | m, .nx y => J m y
  | m, .bk y => (f y).run m Q
  | m, .rt q => (r q).run m Q
/-- a loop, then what follows it -/
theorem after_inv {ρ : Type} {body : α → s → WP (Ctl s γ)} {xs : List α} {x : s} {n : Nat} {f : s → WP ρ} {r : γ → WP ρ} {Q : Nat → ρ → Prop} (I : Nat → Nat → s → Prop) (h0 : I 0 n x)
    (hs : ∀ i m a y, xs[i]? = some a → I i m y → (body a y).run m (turnQ (I (i + 1)) f r Q)) (hd : ∀ m y, I xs.length m y → (f y).run m Q) : (after (loop body xs x) f r).run n Q :=
  after_of (loop_inv I h0 (fun i m a y ha hi => (body a y).mono (fun m' c hc => by
    cases c with
    | nx z => exact hc
    | bk z => exact hc
    | rt q => exact hc) (hs i m a y ha hi)) hd)
end WP
/-- the weakest condition of a model, one step after another -/

theorem rangeL0_len {k : Int} : (rangeL 0 k).length = k.toNat := by rw [rangeL_len, Int.sub_zero]
theorem rangeL0_get {k a : Int} {i : Nat} (h : (rangeL 0 k)[i]? = some a) : a = (i : Int) ∧ (i : Int) < k := by
  have hl : i < (rangeL 0 k).length := (List.getElem?_eq_some_iff.mp h).1
  rw [rangeL0_len] at hl
  rw [rangeL_get (by rw [Int.sub_zero]; exact hl)] at h
  have := Option.some.inj h
  omega
end Y

/-! plain facts: charts, breadth first search -/
namespace Y
open PySem L2
/-- the model's value is a, without a draw -/
def Is {α : Type} (w : WP α) (a : α) : Prop := ∀ n Q, Q n a → w.run n Q
/-- the model's value keeps P, without a draw -/
def Gives {α : Type} (w : WP α) (P : α → Prop) : Prop := ∀ n Q, (∀ b, P b → Q n b) → w.run n Q
/-- the model's value keeps P, with at most k draws -/
def Draws {α : Type} (w : WP α) (k : Nat) (P : α → Prop) : Prop := ∀ n Q, n + k ≤ 1000000 → (∀ m b, n ≤ m → m ≤ n + k → P b → Q m b) → w.run n Q
def wid (ch : List Str) : Nat := (ixD ch 0).length
structure Ch (ch : List Str) : Prop where
  ne : 0 < ch.length
  hl : ch.length ≤ 300
  w : ∀ s ∈ ch, s.length = wid ch
  w0 : 0 < wid ch
  wl : wid ch ≤ 300
def isSq (ch : List Str) (q : Sq) : Bool := (decide (0 ≤ q.1) && decide (q.1 < (ch.length : Int))) && (decide (0 ≤ q.2) && decide (q.2 < (wid ch : Int)))
def isLd (ch : List Str) (q : Sq) : Bool := isSq ch q && decide (sgn (ixD ch q.1) q.2 = "x")
theorem isSq_iff {ch : List Str} {q : Sq} : isSq ch q = true ↔ 0 ≤ q.1 ∧ q.1 < (ch.length : Int) ∧ 0 ≤ q.2 ∧ q.2 < (wid ch : Int) := by
  unfold isSq
  simp only [Bool.and_eq_true, decide_eq_true_eq]
  exact ⟨fun ⟨⟨a, b⟩, c, d⟩ => ⟨a, b, c, d⟩, fun ⟨a, b, c, d⟩ => ⟨⟨a, b⟩, c, d⟩⟩
theorem isLd_iff {ch : List Str} {q : Sq} : isLd ch q = true ↔ isSq ch q = true ∧ sgn (ixD ch q.1) q.2 = "x" := by
  unfold isLd
  rw [Bool.and_eq_true, decide_eq_true_eq]
theorem isLd_sq {ch : List Str} {q : Sq} (h : isLd ch q = true) : isSq ch q = true := (isLd_iff.mp h).1
theorem ixD_get {α : Type} [Inhabited α] {xs : List α} {i : Int} (h0 : 0 ≤ i) (h : i < xs.length) : ∃ hl : i.toNat < xs.length, ixD xs i = xs[i.toNat] := by
  have hl : i.toNat < xs.length := by omega
  refine ⟨hl, ?_⟩
  have e : ixD xs ((i.toNat : Nat) : Int) = xs[i.toNat] := ixD_nat hl
  have e2 : ((i.toNat : Nat) : Int) = i := by omega
  rw [e2] at e
  exact e
theorem ixD_mem {α : Type} [Inhabited α] {xs : List α} {i : Int} (h0 : 0 ≤ i) (h : i < xs.length) : ixD xs i ∈ xs := by
  obtain ⟨hl, e⟩ := ixD_get h0 h
  rw [e]; exact List.getElem_mem hl
theorem ixD_of {α : Type} [Inhabited α] {xs : List α} {i : Nat} {a : α} (h : xs[i]? = some a) : ixD xs (i : Int) = a := by
  obtain ⟨hl, e⟩ := List.getElem?_eq_some_iff.mp h
  rw [ixD_nat hl, e]
section
variable {ch : List Str} {q : Sq} (c : Ch ch)
include c
theorem Ch.ok0 : okI ch.length 0 := ⟨by have := c.ne; omega, by have := c.ne; omega⟩
theorem Ch.wl0 : (ixD ch 0).length ≤ 100000 := by have := c.wl; unfold wid at this; omega
theorem Ch.ok1 (h : isSq ch q = true) : okI ch.length q.1 := by
  have := isSq_iff.mp h
  exact ⟨by omega, by omega⟩
theorem Ch.len1 (h : isSq ch q = true) : (ixD ch q.1).length = wid ch := by
  have := isSq_iff.mp h
  exact c.w _ (ixD_mem this.1 this.2.1)
theorem Ch.wl1 (h : isSq ch q = true) : (ixD ch q.1).length ≤ 100000 := by
  rw [c.len1 h]; have := c.wl; omega
theorem Ch.ok2 (h : isSq ch q = true) : okI (ixD ch q.1).length q.2 := by
  have := isSq_iff.mp h
  rw [c.len1 h]
  exact ⟨by omega, by omega⟩
end
def sides (q : Sq) : List Sq := [(q.1 - 1, q.2), (q.1, q.2 - 1), (q.1, q.2 + 1), (q.1 + 1, q.2)]
def ldBeside (ch : List Str) (q : Sq) : List Sq := (sides q).filter (isLd ch)
theorem sides_symm {p q : Sq} (h : q ∈ sides p) : p ∈ sides q := by
  obtain ⟨a, b⟩ := p
  obtain ⟨c, d⟩ := q
  simp only [sides, List.mem_cons, Prod.mk.injEq, List.not_mem_nil, or_false] at h ⊢
  omega
/-- every square of a chart -/
def allSq (ch : List Str) : List Sq := (List.range ch.length).flatMap fun (r : Nat) => (List.range (wid ch)).map fun (c : Nat) => (((r : Int), (c : Int)) : Sq)
theorem mem_allSq {ch : List Str} {q : Sq} : q ∈ allSq ch ↔ isSq ch q = true := by
  rw [isSq_iff]
  unfold allSq
  simp only [List.mem_flatMap, List.mem_map, List.mem_range]
  constructor
  · rintro ⟨r, hr, c, hc, rfl⟩
    exact ⟨by simp, by simpa using hr, by simp, by simpa using hc⟩
  · rintro ⟨h1, h2, h3, h4⟩
    exact ⟨q.1.toNat, by omega, q.2.toNat, by omega, by apply Prod.ext <;> simp <;> omega⟩
theorem flatMap_len {α β : Type} (xs : List α) (f : α → List β) (n : Nat) (h : ∀ x ∈ xs, (f x).length = n) : (xs.flatMap f).length = xs.length * n := by
  induction xs with
  | nil => simp
  | cons x xs ih =>
    rw [List.flatMap_cons, List.length_append, h x List.mem_cons_self, ih fun y hy => h y (List.mem_cons_of_mem _ hy), List.length_cons, Nat.succ_mul, Nat.add_comm]
theorem allSq_len (ch : List Str) : (allSq ch).length = ch.length * wid ch := by
  unfold allSq
  rw [flatMap_len _ _ (wid ch) (fun x _ => by simp), List.length_range]
theorem Ch.area {ch : List Str} (c : Ch ch) : (allSq ch).length ≤ 90000 := by
  rw [allSq_len]
  exact Nat.mul_le_mul c.hl c.wl
/-- no list without repeats in U is longer -/
theorem nodup_le {α : Type} [DecidableEq α] {xs U : List α} (nd : xs.Nodup) (h : ∀ x ∈ xs, x ∈ U) : xs.length ≤ U.length := by
  induction xs generalizing U with
  | nil => exact Nat.zero_le _
  | cons x xs ih =>
    have hx : x ∈ U := h x List.mem_cons_self
    have h1 : ∀ y ∈ xs, y ∈ U.erase x := fun y hy => by
      have : y ≠ x := fun z => (List.nodup_cons.mp nd).1 (z ▸ hy)
      exact (List.mem_erase_of_ne this).mpr (h y (List.mem_cons_of_mem _ hy))
    have h2 := ih (List.nodup_cons.mp nd).2 h1
    rw [List.length_erase_of_mem hx] at h2
    have : 0 < U.length := List.length_pos_of_mem hx
    rw [List.length_cons]; omega

/-! ### what steps lead to -/
inductive Rch (st : Sq → List Sq) (s : Sq) : Sq → Prop where
  | refl : Rch st s s
  | step {p q : Sq} : Rch st s p → q ∈ st p → Rch st s q
theorem Rch.trans {st : Sq → List Sq} {a b c : Sq} (h : Rch st a b) (h' : Rch st b c) : Rch st a c := by
  induction h' with
  | refl => exact h
  | step _ hq ih => exact .step ih hq
theorem Rch.one {st : Sq → List Sq} {a b : Sq} (h : b ∈ st a) : Rch st a b := .step .refl h
theorem Rch.mono {st st' : Sq → List Sq} {a b : Sq} (h : ∀ p q, q ∈ st p → q ∈ st' p) (r : Rch st a b) : Rch st' a b := by
  induction r with
  | refl => exact .refl
  | step _ hq ih => exact .step ih (h _ _ hq)
def Wk (st : Sq → List Sq) : Nat → Sq → Sq → Prop
  | 0, s, q => s = q
  | n + 1, s, q => ∃ p, Wk st n s p ∧ q ∈ st p
theorem Wk.rch {st : Sq → List Sq} : ∀ {n : Nat} {s q : Sq}, Wk st n s q → Rch st s q
  | 0, _, _, w => by cases w; exact .refl
  | _ + 1, _, _, ⟨_, w, h⟩ => .step w.rch h
theorem Rch.wk {st : Sq → List Sq} {s q : Sq} (r : Rch st s q) : ∃ n, Wk st n s q := by
  induction r with
  | refl => exact ⟨0, rfl⟩
  | step _ h ih => exact ⟨ih.choose + 1, _, ih.choose_spec, h⟩
/-! dicts -/
section
variable {β : Type}
theorem lookK_some {kvs : List (Sq × β)} {q : Sq} {d : β} (h : lookK kvs q = some d) : (q, d) ∈ kvs := by
  unfold lookK at h
  obtain ⟨p, hp, rfl⟩ := Option.map_eq_some_iff.mp h
  have h1 := List.find?_some hp
  have h2 := List.mem_of_find?_eq_some hp
  have : p.1 = q := of_decide_eq_true h1
  rw [← this]; exact h2
theorem lookK_none {kvs : List (Sq × β)} {q : Sq} (h : lookK kvs q = none) : q ∉ kvs.map (·.1) := by
  unfold lookK at h
  rw [Option.map_eq_none_iff, List.find?_eq_none] at h
  intro hm
  obtain ⟨p, hp, e⟩ := List.mem_map.mp hm
  exact h p hp (decide_eq_true e)
theorem hasK_iff {kvs : List (Sq × β)} {q : Sq} : hasK kvs q = true ↔ q ∈ kvs.map (·.1) := by
  unfold hasK
  constructor
  · intro h
    obtain ⟨d, hd⟩ := Option.isSome_iff_exists.mp h
    exact List.mem_map.mpr ⟨_, lookK_some hd, rfl⟩
  · intro h
    cases e : lookK kvs q with
    | none => exact absurd h (lookK_none e)
    | some d => rfl
theorem hasK_false {kvs : List (Sq × β)} {q : Sq} : hasK kvs q = false ↔ q ∉ kvs.map (·.1) := by
  rw [← hasK_iff, Bool.not_eq_true]
theorem lookK_mem {kvs : List (Sq × β)} (nd : (kvs.map (·.1)).Nodup) {q : Sq} {d : β} (h : (q, d) ∈ kvs) : lookK kvs q = some d := by
  cases e : lookK kvs q with
  | none => exact absurd (List.mem_map.mpr ⟨(q, d), h, rfl⟩) (lookK_none e)
  | some d' =>
    have h' := lookK_some e
    obtain ⟨i, hi, ei⟩ := List.mem_iff_getElem.mp h
    obtain ⟨j, hj, ej⟩ := List.mem_iff_getElem.mp h'
    have : i = j := by
      have hi' : i < (kvs.map (·.1)).length := by rw [List.length_map]; exact hi
      have hj' : j < (kvs.map (·.1)).length := by rw [List.length_map]; exact hj
      have : (kvs.map (·.1))[i] = (kvs.map (·.1))[j] := by simp [ei, ej]
      exact (List.getElem_inj nd).mp this
    subst this
    rw [ei] at ej
    injection ej with _ e2
    rw [e2]
theorem putQ_new {kvs : List (Sq × β)} {q : Sq} {b : β} (h : hasK kvs q = false) : putQ kvs q b = kvs ++ [(q, b)] := by
  unfold putQ
  rw [h]; rfl
theorem putQ_old {kvs : List (Sq × β)} {q : Sq} {b : β} (h : hasK kvs q = true) : putQ kvs q b = kvs.map (fun p => if p.1 = q then (p.1, b) else p) := by
  unfold putQ
  rw [h]; rfl
end
theorem get_snoc {α : Type} {xs : List α} {x y : α} {i : Nat} (h : (xs ++ [x])[i]? = some y) : xs[i]? = some y ∨ (i = xs.length ∧ y = x) := by
  by_cases hi : i < xs.length
  · rw [List.getElem?_append_left hi] at h
    exact .inl h
  · rw [List.getElem?_append_right (by omega)] at h
    have : i - xs.length = 0 := by
      cases e : i - xs.length with
      | zero => rfl
      | succ k => rw [e] at h; simp at h
    rw [this] at h
    simp at h
    exact .inr ⟨by omega, h.symm⟩
/-! ### a breadth first search with ghost distances: gs, at the place a -/
structure Bfs (st : Sq → List Sq) (s : Sq) (gs : List (Sq × Nat)) (a : Nat) : Prop where
  nd : (gs.map (·.1)).Nodup
  le : a ≤ gs.length
  pos : 0 < gs.length
  hd : gs[0]? = some (s, 0)
  wk : ∀ p ∈ gs, Wk st p.2 s p.1
  srt : ∀ (i j : Nat) (p q : Sq × Nat), i ≤ j → gs[i]? = some p → gs[j]? = some q → p.2 ≤ q.2
  top : ∀ (p : Sq × Nat), gs[a]? = some p → ∀ q ∈ gs, q.2 ≤ p.2 + 1
  don : ∀ (i : Nat) (p : Sq × Nat), i < a → gs[i]? = some p → ∀ q ∈ st p.1, ∃ r ∈ gs, r.1 = q ∧ r.2 ≤ p.2 + 1
/-- within the turn of the place a, i of the candidates L looked at -/
structure BfsI (st : Sq → List Sq) (s : Sq) (gs : List (Sq × Nat)) (a : Nat) (c : Sq) (d : Nat) (L : List Sq) (i : Nat) : Prop extends Bfs st s gs a where
  cur : gs[a]? = some (c, d)
  nb : ∀ q ∈ L.take i, ∃ r ∈ gs, r.1 = q ∧ r.2 ≤ d + 1
section
variable {st : Sq → List Sq} {s : Sq} {gs : List (Sq × Nat)} {a : Nat} {c : Sq} {d : Nat} {L : List Sq} {i : Nat} {q : Sq}
theorem Bfs.start : Bfs st s [(s, 0)] 0 where
  nd := by simp
  le := Nat.zero_le _
  pos := by simp
  hd := rfl
  wk := by intro p hp; simp at hp; subst hp; rfl
  srt := by
    intro i j p q _ h1 h2
    have e1 : p = (s, 0) := by
      cases i with
      | zero => simpa using h1.symm
      | succ i => simp at h1
    rw [e1]; exact Nat.zero_le _
  top := by intro p hp q hq; simp at hp hq; subst hp; subst hq; show 0 ≤ 0 + 1; decide
  don := by intro i p hi; omega
theorem Bfs.open (b : Bfs st s gs a) (h : gs[a]? = some (c, d)) : BfsI st s gs a c d L 0 :=
  { b with cur := h, nb := by intro q hq; simp at hq }
theorem BfsI.old (b : BfsI st s gs a c d L i) (h : L[i]? = some q) (hh : q ∈ gs.map (·.1)) : BfsI st s gs a c d L (i + 1) :=
  ⟨b.toBfs, b.cur, fun r hr => by
      rw [List.take_add_one, h] at hr
      rcases List.mem_append.mp hr with hr | hr
      · exact b.nb r hr
      · have : r = q := by simpa using hr
        subst this
        obtain ⟨p, hp, e⟩ := List.mem_map.mp hh
        exact ⟨p, hp, e, b.top _ b.cur p hp⟩⟩
theorem BfsI.new (b : BfsI st s gs a c d L i) (h : L[i]? = some q) (hs : q ∈ st c) (hnk : q ∉ gs.map (·.1)) : BfsI st s (gs ++ [(q, d + 1)]) a c d L (i + 1) := by
  have hal : a < gs.length := (List.getElem?_eq_some_iff.mp b.cur).1
  have top : ∀ p ∈ gs, p.2 ≤ d + 1 := fun p hp => b.top _ b.cur p hp
  refine { nd := ?_, le := ?_, pos := ?_, hd := ?_, wk := ?_, srt := ?_, top := ?_, don := ?_, cur := ?_, nb := ?_ }
  · rw [List.map_append, List.nodup_append]
    refine ⟨b.nd, by simp, fun x hx y hy => ?_⟩
    have : y = q := by simpa using hy
    subst this
    exact fun z => hnk (z ▸ hx)
  · rw [List.length_append]; have := b.le; omega
  · rw [List.length_append]; have := b.pos; omega
  · rw [List.getElem?_append_left b.pos]; exact b.hd
  · intro p hp
    rcases List.mem_append.mp hp with hp | hp
    · exact b.wk p hp
    · have : p = (q, d + 1) := by simpa using hp
      subst this
      exact ⟨c, b.wk _ (List.mem_of_getElem? b.cur), hs⟩
  · intro i j p r hij h1 h2
    rcases get_snoc h1 with h1 | ⟨e1, f1⟩
    · rcases get_snoc h2 with h2 | ⟨e2, f2⟩
      · exact b.srt i j p r hij h1 h2
      · rw [f2]; exact top p (List.mem_of_getElem? h1)
    · rcases get_snoc h2 with h2 | ⟨e2, f2⟩
      · have := (List.getElem?_eq_some_iff.mp h2).1
        omega
      · rw [f1, f2]; exact Nat.le_refl _
  · intro p hp r hr
    rw [List.getElem?_append_left hal, b.cur] at hp
    have := Option.some.inj hp
    subst this
    rcases List.mem_append.mp hr with hr | hr
    · exact top r hr
    · have : r = (q, d + 1) := by simpa using hr
      subst this; exact Nat.le_refl _
  · intro i p hi hp r hr
    rw [List.getElem?_append_left (by omega)] at hp
    obtain ⟨x, hx, e1, e2⟩ := b.don i p hi hp r hr
    exact ⟨x, List.mem_append_left _ hx, e1, e2⟩
  · rw [List.getElem?_append_left hal]; exact b.cur
  · intro r hr
    rw [List.take_add_one, h] at hr
    rcases List.mem_append.mp hr with hr | hr
    · obtain ⟨x, hx, e1, e2⟩ := b.nb r hr
      exact ⟨x, List.mem_append_left _ hx, e1, e2⟩
    · have : r = q := by simpa using hr
      subst this
      exact ⟨(r, d + 1), List.mem_append_right _ (by simp), rfl, Nat.le_refl _⟩
theorem BfsI.close (b : BfsI st s gs a c d (st c) (st c).length) : Bfs st s gs (a + 1) := by
  have hal : a < gs.length := (List.getElem?_eq_some_iff.mp b.cur).1
  refine { b.toBfs with le := by omega, top := ?_, don := ?_ }
  · intro p hp q hq
    have h1 := b.top _ b.cur q hq
    have h2 := b.srt a (a + 1) _ p (by omega) b.cur hp
    have h3 : d ≤ p.2 := h2
    have h4 : q.2 ≤ d + 1 := h1
    omega
  · intro i p hi hp q hq
    by_cases e : i = a
    · subst e
      rw [b.cur] at hp
      have := Option.some.inj hp
      subst this
      exact b.nb q (by rw [List.take_length]; exact hq)
    · exact b.don i p (by omega) hp q hq
end
/-- what a search has found in the end -/
structure Far (st : Sq → List Sq) (s : Sq) (gs : List (Sq × Nat)) : Prop where
  nd : (gs.map (·.1)).Nodup
  hd : gs[0]? = some (s, 0)
  wk : ∀ p ∈ gs, Wk st p.2 s p.1
  srt : ∀ (i j : Nat) (p q : Sq × Nat), i ≤ j → gs[i]? = some p → gs[j]? = some q → p.2 ≤ q.2
  all : ∀ (n : Nat) (q : Sq), Wk st n s q → ∃ r ∈ gs, r.1 = q ∧ r.2 ≤ n
theorem Bfs.far {st : Sq → List Sq} {s : Sq} {gs : List (Sq × Nat)} {a : Nat} (b : Bfs st s gs a) (h : gs.length ≤ a) : Far st s gs := by
  refine ⟨b.nd, b.hd, b.wk, b.srt, fun n => ?_⟩
  induction n with
  | zero =>
    intro q w
    cases w
    exact ⟨(s, 0), List.mem_of_getElem? b.hd, rfl, Nat.le_refl _⟩
  | succ n ih =>
    rintro q ⟨p, w, hq⟩
    obtain ⟨r, hr, e1, e2⟩ := ih p w
    obtain ⟨i, hi, ei⟩ := List.mem_iff_getElem.mp hr
    obtain ⟨x, hx, f1, f2⟩ := b.don i r (by omega) (by rw [List.getElem?_eq_getElem hi, ei]) q (by rw [e1]; exact hq)
    exact ⟨x, hx, f1, by omega⟩
/-- the dict of met_from beside the ghost -/
structure Par (st : Sq → List Sq) (s : Sq) (kvs : List (Sq × Option Sq)) (gs : List (Sq × Nat)) : Prop where
  keys : kvs.map (·.1) = gs.map (·.1)
  hd : kvs[0]? = some (s, none)
  non : ∀ q, (q, none) ∈ kvs → q = s
  par : ∀ q p, (q, some p) ∈ kvs → q ∈ st p ∧ ∃ d, (p, d) ∈ gs ∧ (q, d + 1) ∈ gs
/-- what met_from returns -/
structure Met (st : Sq → List Sq) (s : Sq) (kvs : List (Sq × Option Sq)) : Prop where
  ex : ∃ gs, Far st s gs ∧ Par st s kvs gs
section
variable {st : Sq → List Sq} {s : Sq} {kvs : List (Sq × Option Sq)} (m : Met st s kvs)
include m
theorem Met.nd : (kvs.map (·.1)).Nodup := by
  obtain ⟨gs, f, p⟩ := m.ex
  rw [p.keys]; exact f.nd
theorem Met.mem {q : Sq} : q ∈ kvs.map (·.1) ↔ Rch st s q := by
  obtain ⟨gs, f, p⟩ := m.ex
  rw [p.keys]
  constructor
  · intro h
    obtain ⟨r, hr, e⟩ := List.mem_map.mp h
    rw [← e]; exact (f.wk r hr).rch
  · intro h
    obtain ⟨n, w⟩ := h.wk
    obtain ⟨r, hr, e, _⟩ := f.all n q w
    exact List.mem_map.mpr ⟨r, hr, e⟩
theorem Met.has {q : Sq} : hasK kvs q = true ↔ Rch st s q := by rw [hasK_iff, m.mem]
end
/-! ### values without draws -/
section
variable {α β γ δ : Type}
theorem Is.pure {a : α} : Is (WP.pure a) a := fun _ _ q => q
theorem Is.bind {w : WP α} {a : α} {f : α → WP β} {b : β} (h : Is w a) (k : Is (f a) b) : Is (w.bind f) b := fun n Q q => h n _ (k n Q q)
theorem Is.req {P : Prop} {a : α} (p : P) : Is (WP.req P a) a := fun _ _ q => ⟨p, q⟩
theorem Is.eq {w : WP α} {a b : α} (h : Is w a) (e : a = b) : Is w b := e ▸ h
theorem Is.cond {b : Bool} {A B : WP α} {x : α} (h : b = true → Is A x) (k : b = false → Is B x) : Is (WP.cond b A B) x := by
  cases b with
  | true => exact h rfl
  | false => exact k rfl
theorem Is.and {a b : WP Bool} {x y : Bool} (h : Is a x) (k : x = true → Is b y) : Is (WP.and a b) (x && y) := h.bind (by
  cases x with
  | true => exact k rfl
  | false => exact Is.pure)
theorem Is.or {a b : WP Bool} {x y : Bool} (h : Is a x) (k : x = false → Is b y) : Is (WP.or a b) (x || y) := h.bind (by
  cases x with
  | true => exact Is.pure
  | false => exact k rfl)
theorem Is.not {a : WP Bool} {x : Bool} (h : Is a x) : Is (WP.not a) (!x) := h.bind Is.pure
theorem Is.ite {c : WP Bool} {a b : WP α} {x : Bool} {y z : α} (h : Is c x) (ha : x = true → Is a y) (hb : x = false → Is b z) : Is (WP.ite c a b) (if x then y else z) := h.bind (by
  cases x with
  | true => exact ha rfl
  | false => exact hb rfl)
theorem Is.b1 {a : WP α} {x : α} {f : α → WP β} {z : β} (h : Is a x) (k : Is (f x) z) : Is (WP.b1 a f) z := h.bind k
theorem Is.b2 {a : WP α} {b : WP β} {x : α} {y : β} {f : α → β → WP γ} {z : γ} (h : Is a x) (h' : Is b y) (k : Is (f x y) z) : Is (WP.b2 a b f) z := h.bind (h'.bind k)
theorem Is.b3 {a : WP α} {b : WP β} {c : WP γ} {x : α} {y : β} {z : γ} {f : α → β → γ → WP δ} {u : δ} (h : Is a x) (h' : Is b y) (h2 : Is c z) (k : Is (f x y z) u) : Is (WP.b3 a b c f) u := h.bind (h'.bind (h2.bind k))
theorem Is.chain {C C' : Int → Int → Bool} {a b c : WP Int} {x y z : Int} (h : Is a x) (h' : Is b y) (h2 : C x y = true → Is c z) : Is (WP.chain C C' a b c) (C x y && C' y z) := h.bind (h'.bind (by
  cases e : C x y with
  | true => exact (h2 e).bind Is.pure
  | false => exact Is.pure))
theorem Is.ret {w : WP α} {a : α} (h : Is w a) : Is (w.bind fun r => WP.pure r) a := h.bind Is.pure
theorem Is.comp {c : α → WP Bool} {f : α → WP β} {p : α → Bool} {g : α → β} : ∀ {xs : List α}, (∀ x ∈ xs, Is (c x) (p x)) → (∀ x ∈ xs, p x = true → Is (f x) (g x)) → Is (WP.comp c f xs) ((xs.filter p).map g)
  | [], _, _ => Is.pure
  | x :: xs, h, k => (h x List.mem_cons_self).bind (by
    have ih := Is.comp (xs := xs) (fun y m => h y (List.mem_cons_of_mem _ m)) (fun y m => k y (List.mem_cons_of_mem _ m))
    rw [List.filter_cons]
    cases e : p x with
    | true => exact (k x List.mem_cons_self e).bind (ih.bind Is.pure)
    | false => exact ih)
theorem Is.lc {w : WP (List α)} {xs : List α} {c : α → WP Bool} {f : α → WP β} {p : α → Bool} {g : α → β} (hw : Is w xs) (hl : xs.length ≤ 100000) (h : ∀ x ∈ xs, Is (c x) (p x)) (k : ∀ x ∈ xs, p x = true → Is (f x) (g x)) : Is (WP.lc w c f) ((xs.filter p).map g) :=
  hw.bind ((Is.req hl).bind (Is.comp h k))
theorem Is.lcM {w : WP (List α)} {xs : List α} {f : α → WP β} {g : α → β} (hw : Is w xs) (hl : xs.length ≤ 100000) (k : ∀ x ∈ xs, Is (f x) (g x)) : Is (WP.lc w (fun _ => WP.pure true) f) (xs.map g) := by
  have h := Is.lc (p := fun _ => true) hw hl (fun _ _ => Is.pure) (fun x m _ => k x m)
  rwa [List.filter_eq_self.mpr (fun _ _ => rfl)] at h
theorem Is.lcF {w : WP (List α)} {xs : List α} {c : α → WP Bool} {p : α → Bool} (hw : Is w xs) (hl : xs.length ≤ 100000) (h : ∀ x ∈ xs, Is (c x) (p x)) : Is (WP.lc w c fun x => WP.pure x) (xs.filter p) := by
  have h := Is.lc (g := id) hw hl h (fun x m _ => Is.pure)
  rwa [List.map_id] at h
/-- a loop by an invariant, then what follows -/
theorem Is.loop {s ρ : Type} {body : α → s → WP (Ctl s γ)} {xs : List α} {x : s} {f : s → WP ρ} {r : γ → WP ρ} (g : Nat → s) (h0 : g 0 = x) (hs : ∀ i a, xs[i]? = some a → Is (body a (g i)) (.nx (g (i + 1)))) {z : ρ} (hd : Is (f (g xs.length)) z) : Is (WP.after (WP.loop body xs x) f r) z := by
  intro n Q q
  refine WP.after_inv (fun i m y => m = n ∧ y = g i) ⟨rfl, h0.symm⟩ (fun i m a y ha hi => ?_) (fun m y hy => ?_)
  · obtain ⟨rfl, rfl⟩ := hi
    exact hs i a ha _ _ ⟨rfl, rfl⟩
  · obtain ⟨rfl, rfl⟩ := hy
    exact hd _ _ q
/-! values with draws -/
theorem Is.draws {w : WP α} {a : α} {k : Nat} (h : Is w a) : Draws w k (· = a) := fun n Q _ q => h n Q (q n a (Nat.le_refl _) (Nat.le_add_right _ _) rfl)
theorem Draws.bind {w : WP α} {k k' : Nat} {P : α → Prop} {P' : β → Prop} {f : α → WP β} (h : Draws w k P) (h' : ∀ a, P a → Draws (f a) k' P') : Draws (w.bind f) (k + k') P' := fun n Q hn q =>
  h n _ (by omega) fun m b h1 h2 hb => h' b hb m Q (by omega) fun m' c h3 h4 hc => q m' c (by omega) (by omega) hc
theorem Draws.pure {a : α} {P : α → Prop} (h : P a) : Draws (WP.pure a) 0 P := fun n Q _ q => q n a (Nat.le_refl _) (Nat.le_refl _) h
theorem Draws.imp {w : WP α} {k k' : Nat} {P P' : α → Prop} (h : Draws w k P) (hk : k ≤ k') (hp : ∀ a, P a → P' a) : Draws w k' P' := fun n Q hn q =>
  h n Q (by omega) fun m b h1 h2 hb => q m b h1 (by omega) (hp b hb)
theorem Draws.take {many : Int} (h : 0 < many) : Draws (WP.take many) 1 (fun x => 0 ≤ x ∧ x < many) := fun n Q hn q => ⟨by omega, h, fun x h1 h2 => q _ x (by omega) (by omega) ⟨h1, h2⟩⟩
end
namespace WP
variable {s γ ρ : Type}
/-- a while, then what follows it -/
theorem after_whilst {t : s → WP Bool} {body : s → WP (Ctl s γ)} {x : s} {n : Nat} {f : s → WP ρ} {r : γ → WP ρ} {Q : Nat → ρ → Prop} (I : Nat → Nat → s → Prop) (h0 : ∃ m, I m n x)
    (hs : ∀ m n y, I m n y → (t y).run n fun n' b => (b = true → (body y).run n' (turnQ (fun n2 z => ∃ m', m' < m ∧ I m' n2 z) f r Q)) ∧ (b = false → (f y).run n' Q)) : (after (whilst t body x) f r).run n Q :=
  after_of ⟨I, h0, fun m n y hi => (t y).mono (fun n' b h => by
    cases b with
    | true => exact (body y).mono (fun n2 c hc => by
        cases c with
        | nx z => exact hc
        | bk z => exact hc
        | rt q => exact hc) (h.1 rfl)
    | false => exact h.2 rfl) (hs m n y hi)⟩
end WP
theorem Par.new {st : Sq → List Sq} {s : Sq} {kvs : List (Sq × Option Sq)} {gs : List (Sq × Nat)} {q c : Sq} {d : Nat} (p : Par st s kvs gs) (hq : q ∈ st c) (hc : (c, d) ∈ gs) : Par st s (kvs ++ [(q, some c)]) (gs ++ [(q, d + 1)]) := by
  have h0 : 0 < kvs.length := (List.getElem?_eq_some_iff.mp p.hd).1
  refine ⟨by rw [List.map_append, List.map_append, p.keys]; rfl, by rw [List.getElem?_append_left h0]; exact p.hd, fun r hr => ?_, fun r o hr => ?_⟩
  · rcases List.mem_append.mp hr with hr | hr
    · exact p.non r hr
    · simp at hr
  · rcases List.mem_append.mp hr with hr | hr
    · obtain ⟨a, e, b, c⟩ := p.par r o hr
      exact ⟨a, e, List.mem_append_left _ b, List.mem_append_left _ c⟩
    · simp at hr
      obtain ⟨rfl, rfl⟩ := hr
      exact ⟨hq, d, List.mem_append_left _ hc, List.mem_append_right _ (by simp)⟩
def met_fromM (a_chart : (List Str)) (a_start : Sq) (a_steps : ((List Str) → Sq → WP (List Sq))) : WP (List (Sq × (Option Sq))) := (WP.b2 (WP.pure a_start) (WP.pure (none : (Option Sq))) fun x b => WP.pure [(x, b)]).bind fun a1_before => (WP.row (WP.consE (WP.pure a_start) (WP.pure ([] : List Sq)))).bind fun a2_queue => (WP.pure (0 : Int)).bind fun a3_at => WP.after (WP.whilst (γ := (List (Sq × (Option Sq)))) (fun (y4 : (List (Sq × (Option Sq))) × (List Sq) × Int) => (WP.lt (WP.pure y4.2.2) (WP.len (WP.pure y4.2.1)))) (fun (y4 : (List (Sq × (Option Sq))) × (List Sq) × Int) => (WP.b2 (WP.pure a_chart) (WP.ix (WP.pure y4.2.1) (WP.pure y4.2.2)) a_steps).bind fun xs5 => WP.after (WP.loop (γ := (List (Sq × (Option Sq)))) (fun c5 (y5 : (List (Sq × (Option Sq))) × (List Sq)) => ((WP.not (WP.din (WP.pure c5) (WP.pure y5.1))).bind fun b => WP.cond b ((WP.b2 (WP.some' (WP.ix (WP.pure y5.2) (WP.pure y4.2.2))) (WP.pure c5) fun b q => WP.req (y5.1.length < 100000) (putQ y5.1 q b)).bind fun a7_before => ((WP.pure c5).bind fun a => WP.req (y5.2.length < 100000) (y5.2 ++ [a])).bind fun a8_queue => (WP.pure (a7_before, a8_queue))) ((WP.pure (y5.1, y5.2)))).bind fun (y6 : (List (Sq × (Option Sq))) × (List Sq)) => (WP.pure (.nx (y6.1, y6.2)))) xs5 (y4.1, y4.2.1)) (fun (z5 : (List (Sq × (Option Sq))) × (List Sq)) => ((WP.pure (1 : Int)).bind fun b => WP.pure (y4.2.2 + b)).bind fun a9_at => (WP.pure (.nx (z5.1, z5.2, a9_at)))) (fun r => (WP.pure (.rt r)))) (a1_before, a2_queue, a3_at)) (fun (z4 : (List (Sq × (Option Sq))) × (List Sq) × Int) => (WP.pure z4.1)) (fun r => (WP.pure r))
theorem gets_map {gs : List (Sq × Nat)} {i : Nat} {c : Sq} {d : Nat} (h : gs[i]? = some (c, d)) : (gs.map (·.1))[i]? = some c := by
  rw [List.getElem?_map, h]; rfl
theorem met_gives {ch : List Str} {s : Sq} {steps : List Str → Sq → WP (List Sq)} {st : Sq → List Sq} {U : List Sq} (hst : ∀ q, Rch st s q → Is (steps ch q) (st q)) (hU : ∀ q, Rch st s q → q ∈ U) (hl : U.length < 100000) : Gives (met_fromM ch s steps) (Met st s) := by
  intro n Q hQ
  unfold met_fromM
  simp only [WP.run_bind, WP.run_pure, WP.run_req, WP.run_any, WP.run_take, WP.run_cond, WP.run_range1, WP.run_range2, decide_eq_true_eq, decide_eq_false_iff_not, Bool.not_eq_true', Bool.not_eq_false']
  refine ⟨by simp, ?_⟩
  have bnd : ∀ {gs : List (Sq × Nat)} {a : Nat}, Bfs st s gs a → gs.length ≤ U.length := fun {gs a} b => by
    have := nodup_le (U := U) b.nd fun x hx => by
      obtain ⟨p, hp, e⟩ := List.mem_map.mp hx
      rw [← e]; exact hU _ (b.wk p hp).rch
    rwa [List.length_map] at this
  refine WP.after_whilst (fun m n' y => n' = n ∧ ∃ gs a, Bfs st s gs a ∧ Par st s y.1 gs ∧ y.2.1 = gs.map (·.1) ∧ y.2.2 = (a : Int) ∧ m = U.length - a)
    ⟨U.length, rfl, [(s, 0)], 0, Bfs.start, ⟨rfl, rfl, by simp, by simp⟩, rfl, rfl, rfl⟩ ?_
  rintro m n' ⟨kvs, queue, at'⟩ ⟨rfl, gs, a, b, p, e1, e2, e3⟩
  dsimp only at e1 e2 e3 p
  subst e1; subst e2; subst e3
  simp only [WP.run_bind, WP.run_pure, WP.run_req, WP.run_any, WP.run_take, WP.run_cond, WP.run_range1, WP.run_range2, decide_eq_true_eq, decide_eq_false_iff_not, Bool.not_eq_true', Bool.not_eq_false']
  refine ⟨fun hlt => ?_, fun hge => hQ _ ⟨gs, b.far (by rw [List.length_map] at hge; omega), p⟩⟩
  rw [List.length_map] at hlt
  have hal : a < gs.length := by omega
  have hcur : gs[a]? = some (gs[a].1, gs[a].2) := List.getElem?_eq_getElem hal
  have ec : ixD (gs.map (·.1)) (a : Int) = gs[a].1 := ixD_of (gets_map hcur)
  refine ⟨⟨by omega, by rw [List.length_map]; omega⟩, ?_⟩
  rw [ec]
  refine hst _ (b.wk _ (List.getElem_mem hal)).rch _ _ ?_
  refine WP.after_inv (fun i m y => m = n' ∧ ∃ gs', BfsI st s gs' a gs[a].1 gs[a].2 (st gs[a].1) i ∧ Par st s y.1 gs' ∧ y.2 = gs'.map (·.1)) ⟨rfl, gs, b.open hcur, p, rfl⟩ ?_ ?_
  · rintro i m q ⟨kv, qu⟩ hq ⟨rfl, gs', b', p', e⟩
    dsimp only at e p'
    subst e
    simp only [WP.run_bind, WP.run_pure, WP.run_req, WP.run_any, WP.run_take, WP.run_cond, WP.run_range1, WP.run_range2, decide_eq_true_eq, decide_eq_false_iff_not, Bool.not_eq_true', Bool.not_eq_false']
    have hq' : q ∈ st gs[a].1 := List.mem_of_getElem? hq
    refine ⟨fun hn => ?_, fun hy => ?_⟩
    · have hnk : q ∉ gs'.map (·.1) := by
        rw [← p'.keys]; exact hasK_false.mp hn
      have b2 := b'.new hq hq' hnk
      have hb := bnd b2.toBfs
      rw [List.length_append, List.length_singleton] at hb
      have hkl : kv.length = gs'.length := by
        have := congrArg List.length p'.keys
        rwa [List.length_map, List.length_map] at this
      have hal' : a < gs'.length := (List.getElem?_eq_some_iff.mp b'.cur).1
      refine ⟨⟨by omega, by rw [List.length_map]; omega⟩, by omega, by rw [List.length_map]; omega, ?_⟩
      show _ ∧ _
      refine ⟨rfl, _, b2, ?_, by rw [List.map_append]; rfl⟩
      show Par st s (putQ kv q (some (ixD (gs'.map (·.1)) (a : Int)))) _
      rw [putQ_new hn, ixD_of (gets_map b'.cur)]
      exact p'.new hq' (List.mem_of_getElem? b'.cur)
    · have hk : q ∈ gs'.map (·.1) := by
        rw [← p'.keys]; exact hasK_iff.mp hy
      exact ⟨rfl, gs', b'.old hq hk, p', rfl⟩
  · rintro m ⟨kv, qu⟩ ⟨rfl, gs', b', p', e⟩
    simp only [WP.run_bind, WP.run_pure, WP.run_req, WP.run_any, WP.run_take, WP.run_cond, WP.run_range1, WP.run_range2, decide_eq_true_eq, decide_eq_false_iff_not, Bool.not_eq_true', Bool.not_eq_false']
    have b2 := b'.close
    have := bnd b2
    refine ⟨U.length - (a + 1), ?_, rfl, gs', a + 1, b2, p', e, by simp, rfl⟩
    have := b2.le
    omega
/-! ### the chart's functions -/
def is_squareM (ch : List Str) (q : Sq) : WP Bool := (WP.pure q).bind fun x => (WP.and (WP.chain (fun i j => decide (i ≤ j)) (fun i j => decide (i < j)) (WP.pure (0 : Int)) (WP.pure x.1) (WP.len (WP.pure ch))) (WP.chain (fun i j => decide (i ≤ j)) (fun i j => decide (i < j)) (WP.pure (0 : Int)) (WP.pure x.2) (WP.lenS (WP.ix (WP.pure ch) (WP.pure (0 : Int)))))).bind fun r2 => (WP.pure r2)
theorem Is.len {α : Type} {w : WP (List α)} {xs : List α} (h : Is w xs) : Is (WP.len w) ((xs.length : Nat) : Int) := h.bind Is.pure
theorem Is.wid0 {ch : List Str} (c : Ch ch) : Is (WP.lenS (WP.ix (WP.pure ch) (WP.pure (0 : Int)))) ((wid ch : Nat) : Int) := fun n Q q => by
  simp only [WP.run_bind, WP.run_pure, WP.run_req, WP.run_any, WP.run_take, WP.run_cond, WP.run_range1, WP.run_range2, decide_eq_true_eq, decide_eq_false_iff_not, Bool.not_eq_true', Bool.not_eq_false']
  exact ⟨c.ok0, c.wl0, q⟩
theorem is_square_is {ch : List Str} (c : Ch ch) (q : Sq) : Is (is_squareM ch q) (isSq ch q) :=
  Is.pure.bind (Is.ret (Is.and (Is.chain Is.pure Is.pure fun _ => Is.len Is.pure) fun _ => Is.chain Is.pure Is.pure fun _ => Is.wid0 c))
def is_landM (a_chart : (List Str)) (a_square : Sq) : WP Bool := (WP.and (WP.b2 (WP.pure a_chart) (WP.pure a_square) is_squareM) (WP.eq (WP.ixS (WP.ix (WP.pure a_chart) (WP.fst (WP.pure a_square))) (WP.snd (WP.pure a_square))) (WP.pure ("x" : Str)))).bind fun r1 => (WP.pure r1)
theorem Is.sign {ch : List Str} (c : Ch ch) {q : Sq} (h : isSq ch q = true) : Is (WP.ixS (WP.ix (WP.pure ch) (WP.fst (WP.pure q))) (WP.snd (WP.pure q))) (sgn (ixD ch q.1) q.2) := fun n Q z => by
  simp only [WP.run_bind, WP.run_pure, WP.run_req, WP.run_any, WP.run_take, WP.run_cond, WP.run_range1, WP.run_range2, decide_eq_true_eq, decide_eq_false_iff_not, Bool.not_eq_true', Bool.not_eq_false']
  exact ⟨c.ok1 h, ⟨c.wl1 h, c.ok2 h⟩, z⟩
theorem is_land_is {ch : List Str} (c : Ch ch) (q : Sq) : Is (is_landM ch q) (isLd ch q) :=
  Is.ret (Is.and (Is.b2 Is.pure Is.pure (is_square_is c q)) fun h => Is.b2 (Is.sign c h) Is.pure Is.pure)
def side_neighboursM (a_square : Sq) : WP (List Sq) := (WP.pure a_square).bind fun a1_row_column => (WP.row (WP.consE (WP.pair (WP.sub (WP.pure a1_row_column.1) (WP.pure (1 : Int))) (WP.pure a1_row_column.2)) (WP.consE (WP.pair (WP.pure a1_row_column.1) (WP.sub (WP.pure a1_row_column.2) (WP.pure (1 : Int)))) (WP.consE (WP.pair (WP.pure a1_row_column.1) (WP.add (WP.pure a1_row_column.2) (WP.pure (1 : Int)))) (WP.consE (WP.pair (WP.add (WP.pure a1_row_column.1) (WP.pure (1 : Int))) (WP.pure a1_row_column.2)) (WP.pure ([] : List Sq))))))).bind fun r2 => (WP.pure r2)
theorem side_neighbours_is (q : Sq) : Is (side_neighboursM q) (sides q) := fun n Q z => ⟨by simp, z⟩
def land_stepsM (a_chart : (List Str)) (a_square : Sq) : WP (List Sq) := (WP.lc (WP.b1 (WP.pure a_square) side_neighboursM) (fun c1 => (WP.b2 (WP.pure a_chart) (WP.pure c1) is_landM)) (fun c1 => (WP.pure c1))).bind fun r1 => (WP.pure r1)
theorem land_steps_is {ch : List Str} (c : Ch ch) (q : Sq) : Is (land_stepsM ch q) (ldBeside ch q) :=
  Is.ret (Is.lcF (Is.b1 Is.pure (side_neighbours_is q)) (by simp [sides]) fun x _ => Is.b2 Is.pure Is.pure (is_land_is c x))
def are_joinedM (a_chart : (List Str)) (a_a : Sq) (a_b : Sq) : WP Bool := (WP.din (WP.pure a_b) (WP.b3 (WP.pure a_chart) (WP.pure a_a) (WP.pure land_stepsM) met_fromM)).bind fun r1 => (WP.pure r1)
theorem rch_land {ch : List Str} {s q : Sq} (h : Rch (ldBeside ch) s q) : q = s ∨ isLd ch q = true := by
  induction h with
  | refl => exact .inl rfl
  | step _ h _ => exact .inr (List.mem_filter.mp h).2
theorem are_joined_gives {ch : List Str} (c : Ch ch) (a b : Sq) : Gives (are_joinedM ch a b) (fun x => x = true ↔ Rch (ldBeside ch) a b) := by
  intro n Q q
  refine met_gives (U := a :: allSq ch) (fun q _ => land_steps_is c q) (fun q hq => ?_) (by have := c.area; rw [List.length_cons]; omega) n _ fun kvs m => ?_
  · rcases rch_land hq with rfl | h
    · exact List.mem_cons_self
    · exact List.mem_cons_of_mem _ (mem_allSq.mpr (isLd_sq h))
  · exact q _ m.has
end Y

/-! == of data is equality -/
namespace Y
open PySem L2
open Dat (dat)
class EqD (α : Type) [PyI α] [Dat α] where
  ok : α → Prop
  dep : Nat
  lay : ∀ a : α, ok a → PyData.canLay0 (dat a) = true
  depth : ∀ a : α, PyData.depth (dat a) ≤ dep
  eqv : ∀ a b : α, PyData.eqv (dat a) (dat b) = true ↔ a = b
instance : EqD Int := ⟨fun _ => True, 0, fun _ _ => by simp only [dat, PyData.canLay0], fun _ => by simp only [dat, PyData.depth]; exact Nat.le_refl _, fun a b => by simp only [dat, PyData.eqv]; exact beq_iff_eq⟩
instance : EqD Bool := ⟨fun _ => True, 0, fun _ _ => by simp only [dat, PyData.canLay0], fun _ => by simp only [dat, PyData.depth]; exact Nat.le_refl _, fun a b => by simp only [dat, PyData.eqv]; exact beq_iff_eq⟩
theorem str_beq {a b : Str} : (a == b) = true ↔ a = b := by
  first
    | exact beq_iff_eq
    | simp
instance : EqD Str := ⟨fun s => PyData.canLay0 (.str s) = true, 0, fun _ h => h, fun _ => by simp only [dat, PyData.depth]; exact Nat.le_refl _, fun a b => by simp only [dat, PyData.eqv]; exact str_beq⟩
section
variable {α β : Type} [PyI α] [PyI β] [Dat α] [Dat β] [EqD α] [EqD β]
instance : EqD (α × β) := ⟨fun c => EqD.ok c.1 ∧ EqD.ok c.2, max (EqD.dep α) (EqD.dep β) + 1, fun c h => by
  simp only [dat, PyData.canLay0, PyData.canLayAll0, Bool.and_true]
  rw [Bool.and_eq_true]
  exact ⟨EqD.lay _ h.1, EqD.lay _ h.2⟩, fun c => by
  have h1 := EqD.depth c.1
  have h2 := EqD.depth c.2
  simp only [dat, PyData.depth, PyData.depthAll] at h1 h2 ⊢
  omega, fun a b => by
  have h1 := EqD.eqv a.1 b.1
  have h2 := EqD.eqv a.2 b.2
  obtain ⟨a1, a2⟩ := a
  obtain ⟨b1, b2⟩ := b
  simp only [dat, PyData.eqv, PyData.eqvAll, Bool.and_true] at h1 h2 ⊢
  rw [Bool.and_eq_true, h1, h2, Prod.mk.injEq]⟩
theorem lay_all {xs : List α} (h : ∀ a ∈ xs, EqD.ok a) : PyData.canLayAll0 (xs.map dat) = true := by
  induction xs with
  | nil => simp only [List.map_nil, PyData.canLayAll0]
  | cons x xs ih =>
    simp only [List.map_cons, PyData.canLayAll0]
    rw [Bool.and_eq_true]
    exact ⟨EqD.lay x (h x List.mem_cons_self), ih fun a m => h a (List.mem_cons_of_mem _ m)⟩
theorem depth_all (xs : List α) : PyData.depthAll (xs.map dat) ≤ EqD.dep α := by
  induction xs with
  | nil => simp only [List.map_nil, PyData.depthAll]; exact Nat.zero_le _
  | cons x xs ih =>
    have := EqD.depth x
    simp only [List.map_cons, PyData.depthAll]
    omega
theorem eqv_all : ∀ xs ys : List α, PyData.eqvAll (xs.map dat) (ys.map dat) = true ↔ xs = ys
  | [], [] => by simp [PyData.eqvAll]
  | [], _ :: _ => by simp [PyData.eqvAll]
  | _ :: _, [] => by simp [PyData.eqvAll]
  | x :: xs, y :: ys => by
    simp only [List.map_cons, PyData.eqvAll]
    rw [Bool.and_eq_true, EqD.eqv, eqv_all xs ys, List.cons.injEq]
instance : EqD (List α) := ⟨fun xs => ∀ a ∈ xs, EqD.ok a, EqD.dep α + 1, fun xs h => by
  simp only [dat, PyData.canLay0]
  exact lay_all h, fun xs => by
  have := depth_all xs
  simp only [dat, PyData.depth] at this ⊢
  omega, fun a b => by
  have := eqv_all a b
  simp only [dat, PyData.eqv] at this ⊢
  exact this⟩
instance : EqD (Ls α) := ⟨fun xs => ∀ a ∈ xs.l, EqD.ok a, EqD.dep α + 1, fun xs h => by
  simp only [dat, PyData.canLay0]
  exact lay_all h, fun xs => by
  have := depth_all xs.l
  simp only [dat, PyData.depth] at this ⊢
  omega, fun a b => by
  have := eqv_all a.l b.l
  obtain ⟨a⟩ := a
  obtain ⟨b⟩ := b
  simp only [dat, PyData.eqv] at this ⊢
  rw [this, Ls.mk.injEq]⟩
theorem shaped_of {a : α} (h : EqD.ok a) (hd : EqD.dep α ≤ 64 := by decide) : SeqAt.shaped (dat a) = true := by
  show ((dat a).canLay0 && decide ((dat a).depth ≤ 64)) = true
  rw [Bool.and_eq_true]
  exact ⟨EqD.lay a h, decide_eq_true (Nat.le_trans (EqD.depth a) hd)⟩
theorem shaped_L {xs : List α} (h : ∀ a ∈ xs, EqD.ok a) (hd : EqD.dep α ≤ 63 := by decide) : SeqAt.shaped (.list (xs.map dat)) = true := by
  show (PyData.canLay0 (.list (xs.map dat)) && decide (PyData.depth (.list (xs.map dat)) ≤ 64)) = true
  rw [Bool.and_eq_true]
  have := depth_all xs
  exact ⟨by simp only [PyData.canLay0]; exact lay_all h, decide_eq_true (by simp only [PyData.depth]; omega)⟩
theorem eqv_dec [DecidableEq α] (a b : α) : PyData.eqv (dat a) (dat b) = decide (a = b) := by
  have := EqD.eqv a b
  by_cases h : a = b
  · rw [decide_eq_true h]; exact this.mpr h
  · rw [decide_eq_false h]
    cases e : PyData.eqv (dat a) (dat b) with
    | true => exact absurd (this.mp e) h
    | false => rfl
theorem eqv_decL [DecidableEq α] (a b : List α) : PyData.eqv (.list (a.map dat)) (.list (b.map dat)) = decide (a = b) := by
  have := eqv_all a b
  have e : PyData.eqv (.list (a.map dat)) (.list (b.map dat)) = PyData.eqvAll (a.map dat) (b.map dat) := by simp only [PyData.eqv]
  rw [e]
  by_cases h : a = b
  · rw [decide_eq_true h]; exact this.mpr h
  · rw [decide_eq_false h]
    cases e : PyData.eqvAll (a.map dat) (b.map dat) with
    | true => exact absurd (this.mp e) h
    | false => rfl
theorem Is.eqD [DecidableEq α] {a b : WP α} {x y : α} (ha : Is a x) (hb : Is b y) (hx : EqD.ok x) (hy : EqD.ok y) (hd : EqD.dep α ≤ 64 := by decide) : Is (WP.eqD a b) (decide (x = y)) := ha.bind (hb.bind ((Is.req ⟨shaped_of hx hd, shaped_of hy hd⟩).eq (eqv_dec x y)))
theorem Is.neD [DecidableEq α] {a b : WP α} {x y : α} (ha : Is a x) (hb : Is b y) (hx : EqD.ok x) (hy : EqD.ok y) (hd : EqD.dep α ≤ 64 := by decide) : Is (WP.neD a b) (!decide (x = y)) := ha.bind (hb.bind ((Is.req ⟨shaped_of hx hd, shaped_of hy hd⟩).eq (by rw [eqv_dec])))
theorem Is.eqLD [DecidableEq α] {a b : WP (List α)} {x y : List α} (ha : Is a x) (hb : Is b y) (hx : ∀ z ∈ x, EqD.ok z) (hy : ∀ z ∈ y, EqD.ok z) (hd : EqD.dep α ≤ 63 := by decide) : Is (WP.eqLD a b) (decide (x = y)) := ha.bind (hb.bind ((Is.req ⟨shaped_L hx hd, shaped_L hy hd⟩).eq (eqv_decL x y)))
end
theorem ok_sq (q : Sq) : EqD.ok q := ⟨trivial, trivial⟩
end Y

/-! plain facts: texts of signs, reliefs -/
namespace Y
open PySem L2
theorem join_nil (ys : List Str) : (Txt.join (Str.ofString "") ys).cps.toList = (ys.map fun y => y.cps.toList).flatten := by
  show (Builtin.Str.glued (Str.ofString "") ys).cps.toList = _
  rw [StrLaws.glued_eq_join]
  have := TL.tl_join (Str.ofString "") ys
  have e0 : TL.tl (Str.ofString "") = [] := by decide +kernel
  rw [e0] at this
  have e1 : ∀ l : List (List Nat), TL.joinL [] l = l.flatten := fun l => by
    induction l with
    | nil => rfl
    | cons a l ih => cases l with
      | nil => simp [TL.joinL]
      | cons b l =>
        show a ++ ([] ++ TL.joinL [] (b :: l)) = _
        rw [ih]; simp
  rw [e1] at this
  exact this
def mkS (cs : List Nat) : Str := ⟨cs.toArray⟩
theorem str_ext {a b : Str} (h : a.cps.toList = b.cps.toList) : a = b := by
  obtain ⟨a⟩ := a
  obtain ⟨b⟩ := b
  have : a = b := by
    have h' : a.toList = b.toList := h
    exact Array.toList_inj.mp h'
  rw [this]
theorem mkS_tl (s : Str) : mkS s.cps.toList = s := by
  obtain ⟨a⟩ := s
  unfold mkS
  simp
theorem tl_mkS (cs : List Nat) : (mkS cs).cps.toList = cs := by unfold mkS; simp
theorem mkS_len (cs : List Nat) : (mkS cs).length = cs.length := by
  show (mkS cs).cps.size = _
  unfold mkS; simp
theorem tl_len (s : Str) : s.cps.toList.length = s.length := Array.length_toList
theorem join1 (cs : List Nat) : Txt.join (Str.ofString "") (cs.map fun c => (⟨#[c]⟩ : Str)) = mkS cs := by
  apply str_ext
  rw [join_nil, tl_mkS, List.map_map]
  induction cs with
  | nil => rfl
  | cons c cs ih => rw [List.map_cons, List.flatten_cons, ih]; rfl
theorem ones (cs : List Nat) : ((cs.map fun c => (⟨#[c]⟩ : Str)).map (·.length)).sum = cs.length := by
  induction cs with
  | nil => rfl
  | cons c cs ih =>
    rw [List.map_cons, List.map_cons, List.sum_cons, ih, List.length_cons]
    have : (⟨#[c]⟩ : Str).length = 1 := rfl
    omega
theorem join1_is {w : WP (List Str)} {cs : List Nat} (h : Is w (cs.map fun c => (⟨#[c]⟩ : Str))) (hl : cs.length ≤ 100000) : Is (WP.join (WP.pure (Str.ofString "")) w) (mkS cs) := Is.pure.bind (h.bind ((Is.req (by
  rw [ones, List.length_map]
  have : (Str.ofString "").length = 0 := by decide +kernel
  rw [this]; omega)).eq (join1 cs)))
/-! digits -/
def DG : Str := "0123456789"
theorem dig_cases {P : Nat → Prop} {c : Nat} (h1 : 48 ≤ c) (h2 : c ≤ 57) (h : P 48 ∧ P 49 ∧ P 50 ∧ P 51 ∧ P 52 ∧ P 53 ∧ P 54 ∧ P 55 ∧ P 56 ∧ P 57) : P c := by
  have : c = 48 ∨ c = 49 ∨ c = 50 ∨ c = 51 ∨ c = 52 ∨ c = 53 ∨ c = 54 ∨ c = 55 ∨ c = 56 ∨ c = 57 := by omega
  rcases this with e | e | e | e | e | e | e | e | e | e <;> subst e <;> simp only [h]
theorem dig_int {c : Nat} (h1 : 48 ≤ c) (h2 : c ≤ 57) : PySem.intText? ⟨#[c]⟩ = some ((c : Int) - 48) :=
  dig_cases (P := fun c => PySem.intText? ⟨#[c]⟩ = some ((c : Int) - 48)) h1 h2 (by decide +kernel)
theorem dig_ix {c : Nat} (h1 : 48 ≤ c) (h2 : c ≤ 57) : Txt.index0 ("0123456789" : Str) ⟨#[c]⟩ = some (c - 48) :=
  dig_cases (P := fun c => Txt.index0 ("0123456789" : Str) ⟨#[c]⟩ = some (c - 48)) h1 h2 (by decide +kernel)
theorem dig_str {d : Int} (h1 : 0 ≤ d) (h2 : d ≤ 9) : (toString d : Str) = ⟨#[48 + d.toNat]⟩ := by
  have := dig_cases (c := 48 + d.toNat) (P := fun c => (toString ((c : Int) - 48) : Str) = ⟨#[c]⟩) (by omega) (by omega) (by decide +kernel)
  have e : (((48 + d.toNat : Nat) : Int) - 48) = d := by omega
  rw [e] at this
  exact this
structure Rel (rel : List Str) : Prop where
  ch : Ch rel
  dg : ∀ s ∈ rel, ∀ c ∈ s.cps.toList, 48 ≤ c ∧ c ≤ 57
def hg (rel : List Str) (q : Sq) : Int := ((ixD (ixD rel q.1).cps.toList q.2 : Nat) : Int) - 48
section
variable {rel : List Str} {q : Sq} (r : Rel rel)
include r
theorem Rel.at (h : isSq rel q = true) : 48 ≤ ixD (ixD rel q.1).cps.toList q.2 ∧ ixD (ixD rel q.1).cps.toList q.2 ≤ 57 := by
  have hh := isSq_iff.mp h
  refine r.dg _ (ixD_mem hh.1 hh.2.1) _ (ixD_mem hh.2.2.1 ?_)
  rw [tl_len, r.ch.len1 h]; exact hh.2.2.2
theorem Rel.hg (h : isSq rel q = true) : 0 ≤ hg rel q ∧ hg rel q ≤ 9 := by
  have := r.at h
  unfold Y.hg
  omega
theorem Rel.sgn (h : isSq rel q = true) : sgn (ixD rel q.1) q.2 = ⟨#[(48 + (Y.hg rel q).toNat)]⟩ := by
  have := r.at h
  unfold Y.sgn Y.hg
  congr 3
  omega
end
def heightM (a_relief : (List Str)) (a_square : Sq) : WP Int := (WP.index (WP.pure ("0123456789" : Str)) (WP.ixS (WP.ix (WP.pure a_relief) (WP.fst (WP.pure a_square))) (WP.snd (WP.pure a_square)))).bind fun r1 => (WP.pure r1)
theorem height_is {rel : List Str} {q : Sq} (r : Rel rel) (h : isSq rel q = true) : Is (heightM rel q) (hg rel q) := by
  have hb := r.hg h
  refine Is.ret (Is.pure.bind ((Is.sign r.ch h).bind ?_))
  rw [r.sgn h]
  show Is (WP.req ((Txt.index0 ("0123456789" : Str) _).isSome = true) _) _
  rw [dig_ix (by omega) (by omega)]
  refine (Is.req rfl).eq ?_
  show (((48 + (hg rel q).toNat - 48 : Nat)) : Int) = _
  omega
def law_highM (a_relief : (List Str)) (a_square : Sq) : WP Int := (WP.int' (WP.ixS (WP.ix (WP.pure a_relief) (WP.fst (WP.pure a_square))) (WP.snd (WP.pure a_square)))).bind fun r1 => (WP.pure r1)
theorem law_high_is {rel : List Str} {q : Sq} (r : Rel rel) (h : isSq rel q = true) : Is (law_highM rel q) (hg rel q) := by
  have hb := r.hg h
  refine Is.ret ((Is.sign r.ch h).bind ?_)
  rw [r.sgn h, dig_int (by omega) (by omega)]
  refine (Is.req ⟨rfl, by show 1 ≤ 640; decide⟩).eq ?_
  show ((48 + (hg rel q).toNat : Nat) : Int) - 48 = _
  omega
/-! the chart at a level -/
def lvS (L : Int) (s : Str) : Str := mkS (s.cps.toList.map fun (c : Nat) => if L ≤ (c : Int) - 48 then 120 else 46)
def lvl (rel : List Str) (L : Int) : List Str := rel.map (lvS L)
theorem lvS_len (L : Int) (s : Str) : (lvS L s).length = s.length := by
  unfold lvS
  rw [mkS_len, List.length_map, tl_len]
theorem ixD_map {α β : Type} [Inhabited α] [Inhabited β] {xs : List α} {f : α → β} {i : Int} (h0 : 0 ≤ i) (h : i < xs.length) : ixD (xs.map f) i = f (ixD xs i) := by
  obtain ⟨h1, e1⟩ := ixD_get h0 h
  obtain ⟨h2, e2⟩ := ixD_get (xs := xs.map f) h0 (by rw [List.length_map]; exact h)
  rw [e1, e2, List.getElem_map]
theorem lvl_wid {rel : List Str} (c : Ch rel) (L : Int) : wid (lvl rel L) = wid rel := by
  unfold wid lvl
  rw [ixD_map (by omega) (by have := c.ne; omega), lvS_len]
theorem lvl_sq {rel : List Str} (c : Ch rel) (L : Int) (q : Sq) : isSq (lvl rel L) q = isSq rel q := by
  unfold isSq
  rw [lvl_wid c]
  unfold lvl
  rw [List.length_map]
theorem lvl_ch {rel : List Str} (c : Ch rel) (L : Int) : Ch (lvl rel L) := by
  refine ⟨by unfold lvl; rw [List.length_map]; exact c.ne, by unfold lvl; rw [List.length_map]; exact c.hl, fun s hs => ?_, by rw [lvl_wid c]; exact c.w0, by rw [lvl_wid c]; exact c.wl⟩
  obtain ⟨t, ht, rfl⟩ := List.mem_map.mp hs
  rw [lvS_len, lvl_wid c]; exact c.w t ht
theorem lvl_ld {rel : List Str} (r : Ch rel) (L : Int) (q : Sq) : isLd (lvl rel L) q = (isSq rel q && decide (L ≤ hg rel q)) := by
  unfold isLd
  rw [lvl_sq r]
  cases h : isSq rel q with
  | false => rfl
  | true =>
    have hh := isSq_iff.mp h
    rw [Bool.true_and, Bool.true_and]
    have e : sgn (ixD (lvl rel L) q.1) q.2 = ⟨#[if L ≤ hg rel q then 120 else 46]⟩ := by
      unfold lvl
      rw [ixD_map hh.1 hh.2.1]
      unfold sgn lvS hg
      rw [tl_mkS, ixD_map hh.2.2.1 (by rw [tl_len, r.len1 h]; exact hh.2.2.2)]
    rw [e]
    by_cases g : L ≤ hg rel q
    · rw [if_pos g, decide_eq_true g]; decide +kernel
    · rw [if_neg g, decide_eq_false g]; decide +kernel
def chart_atM (a_relief : (List Str)) (a_level : Int) : WP (List Str) := (WP.row (WP.pure ([] : List Str))).bind fun a1_rows => (WP.pure a_relief).bind fun xs2 => WP.after (WP.loop (γ := (List Str)) (fun c2 (y2 : (List Str)) => ((WP.join (WP.pure (Str.ofString "")) (WP.lc (WP.signs (WP.pure c2)) (fun c1 => (WP.pure true)) (fun c1 => (WP.ite (WP.ge (WP.index (WP.pure ("0123456789" : Str)) (WP.pure c1)) (WP.pure a_level)) (WP.pure ("x" : Str)) (WP.pure ("." : Str)))))).bind fun a => WP.req (y2.length < 100000) (y2 ++ [a])).bind fun a3_rows => (WP.pure (.nx a3_rows))) xs2 a1_rows) (fun (z2 : (List Str)) => ((WP.pure z2).bind fun xs => WP.pure (α := List _) xs).bind fun r4 => (WP.pure r4)) (fun r => (WP.pure r))
theorem signs_map (s : Str) : signs s = s.cps.toList.map fun c => (⟨#[c]⟩ : Str) := rfl
theorem chart_at_is {rel : List Str} (r : Rel rel) (L : Int) : Is (chart_atM rel L) (lvl rel L) := by
  refine (Is.req (by simp)).bind (Is.pure.bind ?_)
  refine Is.loop (fun i => (rel.take i).map (lvS L)) rfl (fun i s hs => ?_) ?_
  · have hm := List.mem_of_getElem? hs
    have hil : i < rel.length := (List.getElem?_eq_some_iff.mp hs).1
    have hhl := r.ch.hl
    have hw := r.ch.w s hm
    have hwl := r.ch.wl
    refine Is.bind (a := (rel.take (i + 1)).map (lvS L)) (Is.bind (a := lvS L s) ?_ ((Is.req (by rw [List.length_map, List.length_take]; omega)).eq ?_)) Is.pure
    · refine join1_is (h := ?_) (by rw [List.length_map, tl_len]; omega)
      rw [List.map_map]
      have e : Is (WP.lc (WP.signs (WP.pure s)) (fun c1 => (WP.pure true)) (fun c1 => (WP.ite (WP.ge (WP.index (WP.pure ("0123456789" : Str)) (WP.pure c1)) (WP.pure L)) (WP.pure ("x" : Str)) (WP.pure ("." : Str))))) ((signs s).map fun z => if L ≤ (((Txt.index0 ("0123456789" : Str) z).getD 0 : Nat) : Int) then ("x" : Str) else ("." : Str)) :=
        Is.lcM (Is.pure.bind Is.pure) (by rw [signs_map, List.length_map, tl_len]; omega) fun x hx => by
          rw [signs_map] at hx
          obtain ⟨c, hc, rfl⟩ := List.mem_map.mp hx
          obtain ⟨h1, h2⟩ := r.dg s hm c hc
          refine Is.eq (Is.ite (x := decide (L ≤ _)) (Is.b2 (Is.b2 Is.pure Is.pure (Is.req ?_)) Is.pure Is.pure) (fun _ => Is.pure) (fun _ => Is.pure)) ?_
          · rw [dig_ix h1 h2]; rfl
          · simp only [decide_eq_true_eq]
      refine e.eq ?_
      rw [signs_map, List.map_map]
      refine List.map_congr_left fun c hc => ?_
      obtain ⟨h1, h2⟩ := r.dg s hm c hc
      show (if L ≤ (((Txt.index0 ("0123456789" : Str) ⟨#[c]⟩).getD 0 : Nat) : Int) then ("x" : Str) else ("." : Str)) = (⟨#[if L ≤ (c : Int) - 48 then 120 else 46]⟩ : Str)
      rw [dig_ix h1 h2]
      show (if L ≤ ((c - 48 : Nat) : Int) then ("x" : Str) else ("." : Str)) = _
      have e : ((c - 48 : Nat) : Int) = (c : Int) - 48 := by omega
      rw [e]
      by_cases g : L ≤ (c : Int) - 48
      · rw [if_pos g, if_pos g]; decide +kernel
      · rw [if_neg g, if_neg g]; decide +kernel
    · rw [List.take_add_one, hs]
      simp
  · rw [List.take_length]
    exact Is.pure
/-! joined at a level -/
def Jn (rel : List Str) (L : Int) (a b : Sq) : Prop := Rch (ldBeside (lvl rel L)) a b
theorem mem_ldB {ch : List Str} {p q : Sq} : q ∈ ldBeside ch p ↔ q ∈ sides p ∧ isLd ch q = true := by
  unfold ldBeside
  rw [List.mem_filter]
theorem rch_symm {ch : List Str} {a b : Sq} (ha : isLd ch a = true) (h : Rch (ldBeside ch) a b) : Rch (ldBeside ch) b a := by
  induction h with
  | refl => exact .refl
  | @step p q hp hq ih =>
    have hp' : isLd ch p = true := by
      rcases rch_land hp with e | e
      · rw [e]; exact ha
      · exact e
    exact (Rch.one (mem_ldB.mpr ⟨sides_symm (mem_ldB.mp hq).1, hp'⟩)).trans ih
theorem Jn.mono {rel : List Str} {L L' : Int} {a b : Sq} (r : Rel rel) (hl : L ≤ L') (h : Jn rel L' a b) : Jn rel L a b :=
  Rch.mono (fun p q hq => by
    obtain ⟨h1, h2⟩ := mem_ldB.mp hq
    rw [lvl_ld r.ch, Bool.and_eq_true, decide_eq_true_eq] at h2
    refine mem_ldB.mpr ⟨h1, ?_⟩
    rw [lvl_ld r.ch, Bool.and_eq_true, decide_eq_true_eq]
    exact ⟨h2.1, by omega⟩) h
theorem Jn.symm {rel : List Str} {L : Int} {a b : Sq} (r : Rel rel) (ha : isSq rel a = true) (hl : L ≤ hg rel a) (h : Jn rel L a b) : Jn rel L b a :=
  rch_symm (by rw [lvl_ld r.ch, ha, decide_eq_true hl]; rfl) h
/-- in a chart that is all land all is joined -/
theorem rch_full {ch : List Str} (h : ∀ q, isSq ch q = true → isLd ch q = true) {a b : Sq} (ha : isSq ch a = true) (hb : isSq ch b = true) : Rch (ldBeside ch) a b := by
  have step : ∀ {p q : Sq}, isSq ch q = true → q ∈ sides p → Rch (ldBeside ch) p q := fun hq hs => Rch.one (mem_ldB.mpr ⟨hs, h _ hq⟩)
  have rows : ∀ n : Nat, ∀ c : Int, isSq ch ((n : Int), c) = true → Rch (ldBeside ch) (0, c) ((n : Int), c) := fun n => by
    induction n with
    | zero => intro c _; exact .refl
    | succ n ih =>
      intro c hc
      have hh := isSq_iff.mp hc
      have : isSq ch ((n : Int), c) = true := isSq_iff.mpr ⟨by show (0 : Int) ≤ n; omega, by have := hh.2.1; simp only at this ⊢; omega, hh.2.2⟩
      refine (ih c this).trans (step hc ?_)
      simp [sides]
  have cols : ∀ n : Nat, isSq ch (0, (n : Int)) = true → Rch (ldBeside ch) (0, 0) (0, (n : Int)) := fun n => by
    induction n with
    | zero => intro _; exact .refl
    | succ n ih =>
      intro hc
      have hh := isSq_iff.mp hc
      have : isSq ch (0, (n : Int)) = true := isSq_iff.mpr ⟨hh.1, hh.2.1, by show (0 : Int) ≤ n; omega, by have := hh.2.2.2; simp only at this ⊢; omega⟩
      refine (ih this).trans (step hc ?_)
      simp [sides]
  have zero : ∀ q : Sq, isSq ch q = true → isSq ch (0, 0) = true ∧ Rch (ldBeside ch) (0, 0) q := fun q hq => by
    have hh := isSq_iff.mp hq
    obtain ⟨r, c⟩ := q
    simp only at hh
    have h0 : isSq ch (0, c) = true := isSq_iff.mpr ⟨Int.le_refl _, by show (0 : Int) < _; omega, hh.2.2⟩
    have h00 : isSq ch (0, 0) = true := isSq_iff.mpr ⟨Int.le_refl _, by show (0 : Int) < _; omega, Int.le_refl _, by show (0 : Int) < _; omega⟩
    have e1 : ((r.toNat : Nat) : Int) = r := by omega
    have e2 : ((c.toNat : Nat) : Int) = c := by omega
    have g1 := cols c.toNat (by rw [e2]; exact h0)
    have g2 := rows r.toNat c (by rw [e1]; exact hq)
    rw [e2] at g1
    rw [e1] at g2
    exact ⟨h00, g1.trans g2⟩
  have g := zero a ha
  exact (rch_symm (h _ g.1) g.2).trans (zero b hb).2
theorem Jn.zero {rel : List Str} (r : Rel rel) {a b : Sq} (ha : isSq rel a = true) (hb : isSq rel b = true) : Jn rel 0 a b := by
  refine rch_full (fun q hq => ?_) (by rw [lvl_sq r.ch]; exact ha) (by rw [lvl_sq r.ch]; exact hb)
  rw [lvl_sq r.ch] at hq
  rw [lvl_ld r.ch, hq, decide_eq_true (r.hg hq).1]; rfl
structure Sad (rel : List Str) (a b : Sq) (L : Int) : Prop where
  lo : 0 ≤ L
  la : L ≤ hg rel a
  lb : L ≤ hg rel b
  j : Jn rel L a b
  top : ∀ L', L < L' → L' ≤ hg rel a → L' ≤ hg rel b → ¬ Jn rel L' a b
theorem Sad.inj {rel : List Str} {a b : Sq} {L L' : Int} (h : Sad rel a b L) (h' : Sad rel a b L') : L = L' := by
  rcases Int.lt_trichotomy L L' with g | g | g
  · exact absurd h'.j (h.top L' g h'.la h'.lb)
  · exact g
  · exact absurd h.j (h'.top L g h.la h.lb)
theorem Sad.symm {rel : List Str} (r : Rel rel) {a b : Sq} (ha : isSq rel a = true) (hb : isSq rel b = true) {L : Int} (h : Sad rel a b L) : Sad rel b a L :=
  ⟨h.lo, h.lb, h.la, h.j.symm r ha h.la, fun L' h1 h2 h3 h4 => h.top L' h1 h3 h2 (h4.symm r hb h2)⟩
def saddleM (a_relief : (List Str)) (a_a : Sq) (a_b : Sq) : WP Int := (WP.min2 (WP.b2 (WP.pure a_relief) (WP.pure a_a) heightM) (WP.b2 (WP.pure a_relief) (WP.pure a_b) heightM)).bind fun a1_level => WP.after (WP.whilst (γ := Int) (fun (y2 : Int) => (WP.not (WP.b3 (WP.b2 (WP.pure a_relief) (WP.pure y2) chart_atM) (WP.pure a_a) (WP.pure a_b) are_joinedM))) (fun (y2 : Int) => (WP.sub (WP.pure y2) (WP.pure (1 : Int))).bind fun a3_level => (WP.pure (.nx a3_level))) a1_level) (fun (z2 : Int) => (WP.pure z2).bind fun r4 => (WP.pure r4)) (fun r => (WP.pure r))
theorem saddle_gives {rel : List Str} (r : Rel rel) {a b : Sq} (ha : isSq rel a = true) (hb : isSq rel b = true) : Gives (saddleM rel a b) (Sad rel a b) := by
  intro n Q q
  refine height_is r ha _ _ (height_is r hb _ _ ?_)
  have ga := r.hg ha
  have gb := r.hg hb
  refine WP.after_whilst (fun m n' y => n' = n ∧ m = y.toNat ∧ 0 ≤ y ∧ y ≤ hg rel a ∧ y ≤ hg rel b ∧ ∀ L', y < L' → L' ≤ hg rel a → L' ≤ hg rel b → ¬ Jn rel L' a b) ⟨_, rfl, rfl, ?_, ?_, ?_, fun L' h1 h2 h3 => ?_⟩ ?_
  · split <;> omega
  · split <;> omega
  · split <;> omega
  · split at h1 <;> omega
  · rintro m n' y ⟨rfl, rfl, h0, h1, h2, h3⟩
    refine chart_at_is r y _ _ (are_joined_gives (lvl_ch r.ch y) a b _ _ fun x hx => ?_)
    simp only [WP.run_bind, WP.run_pure, WP.run_req, WP.run_any, WP.run_take, WP.run_cond, WP.run_range1, WP.run_range2, decide_eq_true_eq, decide_eq_false_iff_not, Bool.not_eq_true', Bool.not_eq_false']
    refine ⟨fun hf => ?_, fun ht => q _ ⟨h0, h1, h2, hx.mp (by simpa using ht), h3⟩⟩
    have hn : ¬ Jn rel y a b := fun z => by rw [hx.mpr z] at hf; cases hf
    have : y ≠ 0 := fun e => hn (e ▸ Jn.zero r ha hb)
    refine ⟨(y - 1).toNat, by omega, rfl, rfl, by omega, by omega, by omega, fun L' g1 g2 g3 => ?_⟩
    by_cases e : L' = y
    · subst e; exact hn
    · exact h3 L' (by omega) g2 g3
end Y

/-! plain facts: draws, drawn reliefs, tables over all squares -/
namespace Y
open PySem L2
/-! all squares, gone through -/
def colsTo (r j : Nat) : List Sq := (List.range j).map fun (c : Nat) => (((r : Int), (c : Int)) : Sq)
def rowsTo (ch : List Str) (i : Nat) : List Sq := (List.range i).flatMap fun (r : Nat) => colsTo r (wid ch)
theorem colsTo_succ (r j : Nat) : colsTo r (j + 1) = colsTo r j ++ [((r : Int), (j : Int))] := by
  unfold colsTo
  rw [List.range_succ, List.map_append]; rfl
theorem rowsTo_succ {ch : List Str} {i : Nat} : rowsTo ch i ++ colsTo i (wid ch) = rowsTo ch (i + 1) := by
  unfold rowsTo
  rw [List.range_succ, List.flatMap_append]
  simp
theorem rowsTo_all (ch : List Str) : rowsTo ch ch.length = allSq ch := rfl
theorem rowsTo_len (ch : List Str) (i : Nat) : (rowsTo ch i).length = i * wid ch := by
  unfold rowsTo
  rw [flatMap_len _ _ (wid ch) (fun x _ => by unfold colsTo; simp), List.length_range]
theorem all_small {ch : List Str} (c : Ch ch) {i j : Nat} (hi : i < ch.length) (hj : j < wid ch) : (rowsTo ch i ++ colsTo i j).length < 100000 := by
  have h2 : (colsTo i j).length = j := by unfold colsTo; simp
  rw [List.length_append, rowsTo_len, h2]
  have := Nat.mul_le_mul (show i ≤ 300 by have := c.hl; omega) c.wl
  have := c.wl
  omega
def law_allM (a_relief : (List Str)) : WP (List Sq) := (WP.row (WP.pure ([] : List Sq))).bind fun a1_found => (WP.range1 (WP.len (WP.pure a_relief))).bind fun xs2 => WP.after (WP.loop (γ := (List Sq)) (fun c2 (y2 : (List Sq)) => (WP.range1 (WP.lenS (WP.ix (WP.pure a_relief) (WP.pure (0 : Int))))).bind fun xs3 => WP.after (WP.loop (γ := (List Sq)) (fun c3 (y3 : (List Sq)) => ((WP.pair (WP.pure c2) (WP.pure c3)).bind fun a => WP.req (y3.length < 100000) (y3 ++ [a])).bind fun a4_found => (WP.pure (.nx a4_found))) xs3 y2) (fun (z3 : (List Sq)) => (WP.pure (.nx z3))) (fun r => (WP.pure (.rt r)))) xs2 a1_found) (fun (z2 : (List Sq)) => (WP.pure z2)) (fun r => (WP.pure r))
theorem Is.range1 {w : WP Int} {k : Nat} (h : Is w (k : Int)) (hk : k ≤ 100000) : Is (WP.range1 w) (rangeL 0 (k : Int)) := h.bind (Is.req ⟨by omega, by omega⟩)
theorem law_all_is {ch : List Str} (c : Ch ch) : Is (law_allM ch) (allSq ch) := by
  have hh := c.hl
  have hw := c.wl
  refine (Is.req (by simp)).bind ((Is.range1 (Is.len Is.pure) (by omega)).bind ?_)
  refine Is.loop (fun i => rowsTo ch i) rfl (fun i a ha => ?_) ?_
  · obtain ⟨rfl, hi⟩ := rangeL0_get ha
    refine (Is.range1 (Is.wid0 c) (by omega)).bind ?_
    refine Is.loop (fun j => rowsTo ch i ++ colsTo i j) (by simp [colsTo]) (fun j b hb => ?_) ?_
    · obtain ⟨rfl, hj⟩ := rangeL0_get hb
      refine Is.bind (a := rowsTo ch i ++ colsTo i (j + 1)) (Is.bind (Is.b2 Is.pure Is.pure Is.pure) ((Is.req (all_small c (by omega) (by omega))).eq ?_)) Is.pure
      rw [colsTo_succ, List.append_assoc]
    · rw [rangeL0_len, Int.toNat_natCast, rowsTo_succ]
      exact Is.pure
  · rw [rangeL0_len, Int.toNat_natCast, rowsTo_all]
    exact Is.pure
/-! tables -/
section
variable {β : Type}
def tab (U : List Sq) (f : Sq → β) : List (Sq × β) := U.map fun q => (q, f q)
def updF (f : Sq → β) (q : Sq) (v : β) : Sq → β := fun p => if p = q then v else f p
theorem tab_keys (U : List Sq) (f : Sq → β) : (tab U f).map (·.1) = U := by
  unfold tab
  rw [List.map_map]
  exact List.map_id _
theorem tab_len (U : List Sq) (f : Sq → β) : (tab U f).length = U.length := by unfold tab; rw [List.length_map]
theorem hasK_tab {U : List Sq} {f : Sq → β} {q : Sq} : hasK (tab U f) q = true ↔ q ∈ U := by rw [hasK_iff, tab_keys]
theorem getK_tab [Inhabited β] {U : List Sq} {f : Sq → β} {q : Sq} (h : q ∈ U) : getK (tab U f) q = f q := by
  unfold getK
  cases e : lookK (tab U f) q with
  | none =>
    have := lookK_none e
    rw [tab_keys] at this
    exact absurd h this
  | some v =>
    have := lookK_some e
    unfold tab at this
    obtain ⟨p, _, hp⟩ := List.mem_map.mp this
    injection hp with h1 h2
    subst h1
    exact h2.symm
theorem putQ_tab {U : List Sq} {f : Sq → β} {q : Sq} {v : β} (h : q ∈ U) : putQ (tab U f) q v = tab U (updF f q v) := by
  rw [putQ_old (hasK_tab.mpr h)]
  unfold tab
  rw [List.map_map]
  refine List.map_congr_left fun p _ => ?_
  unfold updF
  show (if p = q then (p, v) else (p, f p)) = _
  split <;> rfl
theorem putQ_tabN {U : List Sq} {f : Sq → β} {q : Sq} (h : q ∉ U) : putQ (tab U f) q (f q) = tab (U ++ [q]) f := by
  rw [putQ_new (by rw [hasK_false, tab_keys]; exact h)]
  unfold tab
  rw [List.map_append]; rfl
end
theorem allSq_nodup (ch : List Str) : (allSq ch).Nodup := by
  unfold allSq
  have : ∀ n : Nat, ((List.range n).flatMap fun (r : Nat) => (List.range (wid ch)).map fun (c : Nat) => (((r : Int), (c : Int)) : Sq)).Nodup := fun n => by
    induction n with
    | zero => simp
    | succ n ih =>
      rw [List.range_succ, List.flatMap_append, List.nodup_append]
      refine ⟨ih, ?_, fun x hx y hy => ?_⟩
      · simp only [List.flatMap_cons, List.flatMap_nil, List.append_nil]
        refine List.Pairwise.map _ (fun a b hab => ?_) (List.nodup_range (n := wid ch))
        intro z
        injection z with _ z2
        omega
      · simp only [List.mem_flatMap, List.mem_map, List.mem_range] at hx
        simp only [List.flatMap_cons, List.flatMap_nil, List.append_nil, List.mem_map, List.mem_range] at hy
        obtain ⟨r, hr, c, _, rfl⟩ := hx
        obtain ⟨c', _, rfl⟩ := hy
        intro z
        injection z with z1 _
        omega
  exact this ch.length
theorem take_nodup {α : Type} {xs : List α} {i : Nat} {a : α} (nd : xs.Nodup) (h : xs[i]? = some a) : a ∉ xs.take i := by
  intro hm
  obtain ⟨j, hj, e⟩ := List.mem_iff_getElem.mp hm
  rw [List.length_take] at hj
  rw [List.getElem_take] at e
  obtain ⟨hi, e2⟩ := List.getElem?_eq_some_iff.mp h
  have : j = i := (List.getElem_inj nd).mp (e.trans e2.symm)
  omega
/-! ### the widest ways, by raising -/
theorem filter_lt {α : Type} {U : List α} {p p' : α → Bool} (h : ∀ x ∈ U, p x = true → p' x = true) {x0 : α} (h0 : x0 ∈ U) (h1 : p x0 = false) (h2 : p' x0 = true) : (U.filter p).length < (U.filter p').length := by
  have le : ∀ V : List α, (∀ x ∈ V, p x = true → p' x = true) → (V.filter p).length ≤ (V.filter p').length := fun V => by
    induction V with
    | nil => intro _; exact Nat.le_refl _
    | cons x V ih =>
      intro hV
      have ih := ih fun y hy => hV y (List.mem_cons_of_mem _ hy)
      rw [List.filter_cons, List.filter_cons]
      cases e : p x with
      | true =>
        rw [if_pos rfl, if_pos (hV x List.mem_cons_self e), List.length_cons, List.length_cons]; omega
      | false =>
        rw [if_neg (by decide)]
        split
        · rw [List.length_cons]; omega
        · exact ih
  induction U with
  | nil => cases h0
  | cons x U ih =>
    have hU : ∀ y ∈ U, p y = true → p' y = true := fun y hy => h y (List.mem_cons_of_mem _ hy)
    rw [List.filter_cons, List.filter_cons]
    rcases List.mem_cons.mp h0 with e | e
    · subst e
      rw [h1, h2, if_neg (by decide), if_pos rfl, List.length_cons]
      have := le U hU
      omega
    · have ih := ih hU e
      cases e : p x with
      | true => rw [if_pos rfl, if_pos (h x List.mem_cons_self e), List.length_cons, List.length_cons]; omega
      | false =>
        rw [if_neg (by decide)]
        split
        · rw [List.length_cons]; omega
        · exact ih
/-- a step at which a property is lost -/
theorem rch_edge {st : Sq → List Sq} {s q : Sq} (h : Rch st s q) {P : Sq → Prop} (h0 : P s) (h1 : ¬ P q) : ∃ a b, Rch st s a ∧ P a ∧ ¬ P b ∧ b ∈ st a := by
  induction h with
  | refl => exact absurd h0 h1
  | @step p q hp hq ih =>
    by_cases hP : P p
    · exact ⟨p, q, hp, hP, h1, hq⟩
    · exact ih hP
structure Snd (rel : List Str) (s : Sq) (f : Sq → Int) : Prop where
  at' : f s = hg rel s
  all : ∀ q, isSq rel q = true → f q = -1 ∨ (0 ≤ f q ∧ f q ≤ hg rel q ∧ f q ≤ hg rel s ∧ Jn rel (f q) s q)
def Cpl (rel : List Str) (s : Sq) (f : Sq → Int) (L : Int) : Prop := ∀ q, isSq rel q = true → Jn rel L s q → L ≤ f q
def cnt (rel : List Str) (f : Sq → Int) (L : Int) : Nat := ((allSq rel).filter fun q => decide (L ≤ f q)).length
/-- a round gone through: each square looked at its sides -/
def Rnd (rel : List Str) (f f' : Sq → Int) (q : Sq) : Prop := ∀ p ∈ sides q, isSq rel p = true → hg rel q ≤ f' q ∨ f p ≤ f' q
theorem Cpl.fix {rel : List Str} (r : Rel rel) {s : Sq} {f : Sq → Int} (h : Snd rel s f) (hr : ∀ q, isSq rel q = true → Rnd rel f f q) (hs : isSq rel s = true) {L : Int} (hL : L ≤ hg rel s) : Cpl rel s f L := by
  intro q hq hj
  by_cases hb : L ≤ f q
  · exact hb
  · obtain ⟨a, b, h1, h2, h3, h4⟩ := rch_edge hj (P := fun q => L ≤ f q) (by rw [h.at']; exact hL) hb
    obtain ⟨g1, g2⟩ := mem_ldB.mp h4
    rw [lvl_ld r.ch, Bool.and_eq_true, decide_eq_true_eq] at g2
    have ha : isSq rel a = true := by
      rcases rch_land h1 with e | e
      · rw [e]; exact hs
      · have := isLd_sq e
        rwa [lvl_sq r.ch] at this
    have := hr b g2.1 a (sides_symm g1) ha
    omega
theorem cnt_step {rel : List Str} (r : Rel rel) {s : Sq} {f f' : Sq → Int} (h : Snd rel s f) (hs : isSq rel s = true) (hle : ∀ q, isSq rel q = true → f q ≤ f' q) (hr : ∀ q, isSq rel q = true → Rnd rel f f' q) {L : Int} (hL : L ≤ hg rel s) : Cpl rel s f' L ∨ cnt rel f L < cnt rel f' L := by
  by_cases hc : Cpl rel s f L
  · exact .inl fun q hq hj => Int.le_trans (hc q hq hj) (hle q hq)
  · right
    have : ∃ q, isSq rel q = true ∧ Jn rel L s q ∧ ¬ L ≤ f q := by
      refine Classical.byContradiction fun z => hc fun q hq hj => Classical.byContradiction fun y => z ⟨q, hq, hj, y⟩
    obtain ⟨q, hq, hj, hb⟩ := this
    obtain ⟨a, b, h1, h2, h3, h4⟩ := rch_edge hj (P := fun q => L ≤ f q) (by rw [h.at']; exact hL) hb
    obtain ⟨g1, g2⟩ := mem_ldB.mp h4
    rw [lvl_ld r.ch, Bool.and_eq_true, decide_eq_true_eq] at g2
    have ha : isSq rel a = true := by
      rcases rch_land h1 with e | e
      · rw [e]; exact hs
      · have := isLd_sq e
        rwa [lvl_sq r.ch] at this
    have hb' := hr b g2.1 a (sides_symm g1) ha
    refine filter_lt (fun x hx hp => ?_) (mem_allSq.mpr g2.1) (decide_eq_false h3) (decide_eq_true ?_)
    · have := of_decide_eq_true hp
      have := hle x (mem_allSq.mp hx)
      exact decide_eq_true (by omega)
    · omega
def law_sidesM (a_square : Sq) : WP (List Sq) := side_neighboursM a_square
def law_widestM (a_relief : (List Str)) (a_start : Sq) : WP (List (Sq × Int)) := (WP.b1 (WP.pure a_relief) law_allM).bind fun a1_squares => (WP.pure ([] : (List (Sq × Int)))).bind fun a2_best => WP.after (WP.loop (γ := (List (Sq × Int))) (fun c3 (y3 : (List (Sq × Int))) => (WP.b2 (WP.sub (WP.pure (0 : Int)) (WP.pure (1 : Int))) (WP.pure c3) fun b q => WP.req (y3.length < 100000) (putQ y3 q b)).bind fun a4_best => (WP.pure (.nx a4_best))) a1_squares a2_best) (fun (z3 : (List (Sq × Int))) => (WP.b2 (WP.b2 (WP.pure a_relief) (WP.pure a_start) law_highM) (WP.pure a_start) fun b q => WP.req (z3.length < 100000) (putQ z3 q b)).bind fun a5_best => (WP.range1 (WP.len (WP.pure a1_squares))).bind fun xs6 => WP.after (WP.loop (γ := (List (Sq × Int))) (fun c6 (y6 : (List (Sq × Int))) => (WP.pure false).bind fun a7_changed => WP.after (WP.loop (γ := (List (Sq × Int))) (fun c8 (y8 : (List (Sq × Int)) × Bool) => (WP.b1 (WP.pure c8) law_sidesM).bind fun xs9 => WP.after (WP.loop (γ := (List (Sq × Int))) (fun c9 (y9 : (List (Sq × Int)) × Bool) => ((WP.and (WP.din (WP.pure c9) (WP.pure y9.1)) (WP.gt (WP.min2 (WP.b2 (WP.pure a_relief) (WP.pure c8) law_highM) (WP.dget (WP.pure y9.1) (WP.pure c9))) (WP.dget (WP.pure y9.1) (WP.pure c8)))).bind fun b => WP.cond b ((WP.b2 (WP.min2 (WP.b2 (WP.pure a_relief) (WP.pure c8) law_highM) (WP.dget (WP.pure y9.1) (WP.pure c9))) (WP.pure c8) fun b q => WP.req (y9.1.length < 100000) (putQ y9.1 q b)).bind fun a11_best => (WP.pure true).bind fun a12_changed => (WP.pure (a11_best, a12_changed))) ((WP.pure (y9.1, y9.2)))).bind fun (y10 : (List (Sq × Int)) × Bool) => (WP.pure (.nx (y10.1, y10.2)))) xs9 (y8.1, y8.2)) (fun (z9 : (List (Sq × Int)) × Bool) => (WP.pure (.nx (z9.1, z9.2)))) (fun r => (WP.pure (.rt r)))) a1_squares (y6, a7_changed)) (fun (z8 : (List (Sq × Int)) × Bool) => (WP.not (WP.pure z8.2)).bind fun b => WP.cond b (((WP.pure z8.1).bind fun r => WP.pure (.rt r))) ((WP.pure (.nx z8.1)))) (fun r => (WP.pure (.rt r)))) xs6 a5_best) (fun (z6 : (List (Sq × Int))) => (WP.pure z6)) (fun r => (WP.pure r))) (fun r => (WP.pure r))
/-- within a round -/
structure Rn (rel : List Str) (s : Sq) (f f' : Sq → Int) (c : Bool) : Prop where
  snd : Snd rel s f'
  le : ∀ q, isSq rel q = true → f q ≤ f' q
  same : c = false → f' = f
theorem widest_gives {rel : List Str} (r : Rel rel) {s : Sq} (hs : isSq rel s = true) : Gives (law_widestM rel s) (fun kvs => ∃ f, kvs = tab (allSq rel) f ∧ ∀ q, isSq rel q = true → Sad rel s q (f q)) := by
  intro n Q hQ
  have har := r.ch.area
  refine law_all_is r.ch _ _ ?_
  refine WP.after_inv (fun i m y => m = n ∧ y = tab ((allSq rel).take i) fun _ => (-1 : Int)) ⟨rfl, rfl⟩ ?_ ?_
  · rintro i m a y ha ⟨rfl, rfl⟩
    simp only [WP.run_bind, WP.run_pure, WP.run_req, WP.run_any, WP.run_take, WP.run_cond, WP.run_range1, WP.run_range2, decide_eq_true_eq, decide_eq_false_iff_not, Bool.not_eq_true', Bool.not_eq_false']
    refine ⟨by rw [tab_len, List.length_take]; omega, rfl, ?_⟩
    show putQ _ a (0 - 1) = _
    have := putQ_tabN (f := fun _ : Sq => (-1 : Int)) (take_nodup (allSq_nodup rel) ha)
    rw [show (0 : Int) - 1 = -1 by decide, this, List.take_add_one, ha]; rfl
  rintro m y ⟨rfl, rfl⟩
  rw [List.take_length]
  refine law_high_is r hs _ _ ?_
  simp only [WP.run_bind, WP.run_pure, WP.run_req, WP.run_any, WP.run_take, WP.run_cond, WP.run_range1, WP.run_range2, decide_eq_true_eq, decide_eq_false_iff_not, Bool.not_eq_true', Bool.not_eq_false']
  refine ⟨by rw [tab_len]; omega, ⟨by omega, by omega⟩, ?_⟩
  rw [putQ_tab (mem_allSq.mpr hs)]
  have hgs := r.hg hs
  have fin : ∀ f, Snd rel s f → (∀ L, L ≤ hg rel s → Cpl rel s f L) → Q m (tab (allSq rel) f) := fun f h1 h2 => hQ _ ⟨f, rfl, fun q hq => by
    have h0 := h2 0 hgs.1 q hq (Jn.zero r hs hq)
    rcases h1.all q hq with e | ⟨e1, e2, e3, e4⟩
    · omega
    · refine ⟨e1, e3, e2, e4, fun L' g1 g2 g3 g4 => ?_⟩
      have := h2 L' g2 q hq g4
      omega⟩
  refine WP.after_inv (fun i m' y => m' = m ∧ ∃ f, y = tab (allSq rel) f ∧ Snd rel s f ∧ ∀ L, L ≤ hg rel s → Cpl rel s f L ∨ i + 1 ≤ cnt rel f L) ⟨rfl, _, rfl, ⟨?_, ?_⟩, ?_⟩ ?_ ?_
  · unfold updF; rw [if_pos rfl]
  · intro q hq
    unfold updF
    by_cases e : q = s
    · subst e
      rw [if_pos rfl]
      exact .inr ⟨hgs.1, Int.le_refl _, Int.le_refl _, .refl⟩
    · rw [if_neg e]; exact .inl rfl
  · intro L hL
    right
    refine List.length_pos_of_mem (List.mem_filter.mpr ⟨mem_allSq.mpr hs, decide_eq_true ?_⟩)
    unfold updF; rw [if_pos rfl]; exact hL
  · rintro i m' a y ha ⟨rfl, f, rfl, hsn, hcn⟩
    rw [WP.run_bind, WP.run_pure]
    refine WP.after_inv (fun j m'' (y : List (Sq × Int) × Bool) => m'' = m' ∧ ∃ f', y.1 = tab (allSq rel) f' ∧ Rn rel s f f' y.2 ∧ ∀ j' q, j' < j → (allSq rel)[j']? = some q → Rnd rel f f' q) (by exact ⟨rfl, f, rfl, ⟨hsn, fun _ _ => Int.le_refl _, fun _ => rfl⟩, fun j' q hj => by omega⟩) ?_ ?_
    · rintro j m'' q ⟨y1, ch⟩ hq ⟨rfl, f', e, hR, hdone⟩
      dsimp only at e hR
      subst e
      have hsq := mem_allSq.mp (List.mem_of_getElem? hq)
      rw [WP.run_bind]
      refine side_neighbours_is q _ _ ?_
      refine WP.after_inv (fun k m3 (y : List (Sq × Int) × Bool) => m3 = m'' ∧ ∃ f3, y.1 = tab (allSq rel) f3 ∧ Rn rel s f f3 y.2 ∧ (∀ p, isSq rel p = true → f' p ≤ f3 p) ∧ ∀ k' p, k' < k → (sides q)[k']? = some p → isSq rel p = true → hg rel q ≤ f3 q ∨ f p ≤ f3 q) ?_ ?_ ?_
      · exact ⟨rfl, f', rfl, hR, fun _ _ => Int.le_refl _, fun k' p hk => by omega⟩
      · rintro k m3 p ⟨y1, ch3⟩ hp ⟨rfl, f3, e, hR3, hle3, hk3⟩
        dsimp only at e hR3
        subst e
        simp only [WP.run_bind, WP.run_pure, WP.run_req, WP.run_any, WP.run_take, WP.run_cond, WP.run_range1, WP.run_range2, decide_eq_true_eq, decide_eq_false_iff_not, Bool.not_eq_true', Bool.not_eq_false']
        have hps : p ∈ sides q := List.mem_of_getElem? hp
        refine ⟨fun hin => ?_, fun hno => ⟨(by intro z; cases z), fun _ => ⟨rfl, f3, rfl, hR3, hle3, fun k' p' hk' hp' hsp => ?_⟩⟩⟩
        · have hinU := hasK_tab.mp hin
          have hpsq := mem_allSq.mp hinU
          refine law_high_is r hsq _ _ ?_
          refine ⟨hin, hasK_tab.mpr (mem_allSq.mpr hsq), fun hgt => law_high_is r hsq _ _ ⟨hin, by rw [tab_len]; omega, ?_⟩, fun hng => ⟨rfl, f3, rfl, hR3, hle3, fun k' p' hk' hp' hsp => ?_⟩⟩
          · rw [getK_tab hinU, getK_tab (mem_allSq.mpr hsq)] at hgt
            rw [getK_tab hinU]
            refine ⟨rfl, _, putQ_tab (mem_allSq.mpr hsq), ?_, ?_, ?_⟩
            · have hqf := hR3.le q hsq
              refine ⟨⟨?_, fun q' hq' => ?_⟩, fun q' hq' => ?_, fun z => by cases z⟩
              · unfold updF
                split
                · rename_i e
                  subst e
                  have := hR3.snd.at'
                  split at hgt <;> omega
                · exact hR3.snd.at'
              · unfold updF
                by_cases e : q' = q
                · subst e
                  rw [if_pos rfl]
                  have h1 := hR3.snd.all p hpsq
                  have h2 := hR3.snd.all q' hsq
                  have hgq := r.hg hsq
                  right
                  have hv : ∀ v : Int, 0 ≤ v → v ≤ hg rel q' → v ≤ f3 p → 0 ≤ f3 p → v ≤ hg rel s ∧ Jn rel v s q' := fun v v0 v1 v2 v3 => by
                    rcases h1 with e | ⟨e1, e2, e3, e4⟩
                    · omega
                    · refine ⟨by omega, .step (e4.mono r v2) (mem_ldB.mpr ⟨sides_symm hps, ?_⟩)⟩
                      rw [lvl_ld r.ch, hsq, decide_eq_true v1]; rfl
                  have h3 : 0 ≤ f3 p := by
                    rcases h1 with e | e
                    · rcases h2 with z | z <;> split at hgt <;> omega
                    · exact e.1
                  split
                  · rename_i g
                    obtain ⟨a1, a2⟩ := hv (f3 p) h3 (by omega) (Int.le_refl _) h3
                    exact ⟨h3, by omega, a1, a2⟩
                  · rename_i g
                    obtain ⟨a1, a2⟩ := hv (hg rel q') hgq.1 (Int.le_refl _) (by omega) h3
                    exact ⟨hgq.1, Int.le_refl _, a1, a2⟩
                · rw [if_neg e]
                  exact hR3.snd.all q' hq'
              · unfold updF
                split
                · rename_i e
                  subst e
                  split at hgt <;> split <;> omega
                · exact hR3.le q' hq'
            · intro p' hp'
              have := hle3 p' hp'
              unfold updF
              split
              · rename_i e
                subst e
                split at hgt <;> split <;> omega
              · exact this
            · intro k' p' hk' hp' hsp
              have hfp := hR3.le p hpsq
              by_cases e : k' = k
              · subst e
                rw [hp] at hp'
                cases hp'
                unfold updF
                rw [if_pos rfl]
                split <;> omega
              · have := hk3 k' p' (by omega) hp' hsp
                unfold updF
                rw [if_pos rfl]
                split at hgt <;> split <;> omega
          · rw [getK_tab hinU, getK_tab (mem_allSq.mpr hsq)] at hng
            by_cases e : k' = k
            · subst e
              rw [hp] at hp'
              cases hp'
              have hfp := hR3.le p hpsq
              split at hng <;> omega
            · exact hk3 k' p' (by omega) hp' hsp
        · by_cases e : k' = k
          · subst e
            rw [hp] at hp'
            cases hp'
            exact absurd (hasK_tab.mpr (mem_allSq.mpr hsp)) (by rw [hno]; decide)
          · exact hk3 k' p' (by omega) hp' hsp
      · rintro m3 ⟨y1, ch3⟩ ⟨rfl, f3, e, hR3, hle3, hk3⟩
        dsimp only at e hR3
        subst e
        refine ⟨rfl, f3, rfl, hR3, fun j' q' hj' hq' => ?_⟩
        by_cases e : j' = j
        · subst e
          rw [hq] at hq'
          cases hq'
          intro p hp hsp
          obtain ⟨k', hk', e'⟩ := List.mem_iff_getElem.mp hp
          exact hk3 k' p hk' (by rw [List.getElem?_eq_getElem hk', e']) hsp
        · have h1 := hdone j' q' (by omega) hq'
          intro p hp hsp
          have h2 := h1 p hp hsp
          have := hle3 q' (mem_allSq.mp (List.mem_of_getElem? hq'))
          omega
    · rintro m'' ⟨y1, ch⟩ ⟨rfl, f', e, hR, hdone⟩
      dsimp only at e hR
      subst e
      have hall : ∀ q, isSq rel q = true → Rnd rel f f' q := fun q hq => by
        obtain ⟨j, hj, e⟩ := List.mem_iff_getElem.mp (mem_allSq.mpr hq)
        exact hdone j q hj (by rw [List.getElem?_eq_getElem hj, e])
      simp only [WP.run_bind, WP.run_pure, WP.run_req, WP.run_any, WP.run_take, WP.run_cond, WP.run_range1, WP.run_range2, decide_eq_true_eq, decide_eq_false_iff_not, Bool.not_eq_true', Bool.not_eq_false']
      refine ⟨fun hf => ?_, fun ht => ⟨rfl, f', rfl, hR.snd, fun L hL => ?_⟩⟩
      · have := hR.same hf
        subst this
        exact fin f' hR.snd fun L hL => Cpl.fix r hR.snd hall hs hL
      · rcases hcn L hL with h | h
        · exact .inl fun q hq hj => Int.le_trans (h q hq hj) (hR.le q hq)
        · rcases cnt_step r hsn hs hR.le hall hL with g | g
          · exact .inl g
          · exact .inr (by omega)
  · rintro m' y ⟨rfl, f, rfl, hsn, hcn⟩
    refine fin f hsn fun L hL => ?_
    rcases hcn L hL with h | h
    · exact h
    · rw [rangeL0_len, Int.toNat_natCast] at h
      have : cnt rel f L ≤ (allSq rel).length := List.length_filter_le _ _
      omega
end Y

/-! plain facts: what laws draw -/
namespace Y
open PySem L2
def law_pickM (_ : Unit) (a_row : (List Sq)) : WP Sq := (WP.ix (WP.pure a_row) (WP.mod (WP.add (WP.mul (WP.b2 (WP.pure ()) (WP.pure (1009 : Int)) m_take) (WP.pure (1009 : Int))) (WP.b2 (WP.pure ()) (WP.pure (1009 : Int)) m_take)) (WP.len (WP.pure a_row)))).bind fun r1 => (WP.pure r1)
def law_heightM (_ : Unit) (a_style : Int) (a_span : Int) (a_r : Int) (a_c : Int) (a_rows : Int) (a_columns : Int) : WP Int := (WP.min4 (WP.pure a_r) (WP.pure a_c) (WP.sub (WP.sub (WP.pure a_rows) (WP.pure (1 : Int))) (WP.pure a_r)) (WP.sub (WP.sub (WP.pure a_columns) (WP.pure (1 : Int))) (WP.pure a_c))).bind fun a1_edge => (WP.b2 (WP.pure ()) (WP.pure a_span) m_take).bind fun a2_drawn => (WP.eq (WP.pure a_style) (WP.pure (1 : Int))).bind fun b => WP.cond b ((WP.min2 (WP.sub (WP.pure a_span) (WP.pure (1 : Int))) (WP.add (WP.pure a1_edge) (WP.mod (WP.pure a2_drawn) (WP.pure (2 : Int))))).bind fun r4 => (WP.pure r4)) ((WP.eq (WP.pure a_style) (WP.pure (2 : Int))).bind fun b => WP.cond b ((WP.max2 (WP.pure (0 : Int)) (WP.sub (WP.sub (WP.sub (WP.pure a_span) (WP.pure (1 : Int))) (WP.pure a1_edge)) (WP.mod (WP.pure a2_drawn) (WP.pure (2 : Int))))).bind fun r6 => (WP.pure r6)) ((WP.eq (WP.pure a_style) (WP.pure (3 : Int))).bind fun b => WP.cond b ((WP.ite (WP.eq (WP.mod (WP.pure a1_edge) (WP.pure (2 : Int))) (WP.pure (0 : Int))) (WP.pure a2_drawn) (WP.fdiv (WP.pure a2_drawn) (WP.pure (3 : Int)))).bind fun r8 => (WP.pure r8)) ((WP.eq (WP.pure a_style) (WP.pure (4 : Int))).bind fun b => WP.cond b ((WP.ite (WP.or (WP.eq (WP.mod (WP.pure a_r) (WP.pure (2 : Int))) (WP.pure (0 : Int))) (WP.eq (WP.pure a_c) (WP.ix (WP.row (WP.consE (WP.pure (0 : Int)) (WP.consE (WP.sub (WP.pure a_columns) (WP.pure (1 : Int))) (WP.pure ([] : List Int))))) (WP.mod (WP.fdiv (WP.pure a_r) (WP.pure (2 : Int))) (WP.pure (2 : Int)))))) (WP.sub (WP.pure a_span) (WP.pure (1 : Int))) (WP.fdiv (WP.pure a2_drawn) (WP.pure (2 : Int)))).bind fun r10 => (WP.pure r10)) ((WP.eq (WP.pure a_style) (WP.pure (5 : Int))).bind fun b => WP.cond b ((WP.ite (WP.or (WP.eq (WP.mod (WP.pure a_r) (WP.pure (2 : Int))) (WP.pure (0 : Int))) (WP.eq (WP.pure a_c) (WP.ix (WP.row (WP.consE (WP.pure (0 : Int)) (WP.consE (WP.sub (WP.pure a_columns) (WP.pure (1 : Int))) (WP.pure ([] : List Int))))) (WP.mod (WP.fdiv (WP.pure a_r) (WP.pure (2 : Int))) (WP.pure (2 : Int)))))) (WP.fdiv (WP.pure a2_drawn) (WP.pure (2 : Int))) (WP.sub (WP.pure a_span) (WP.pure (1 : Int)))).bind fun r12 => (WP.pure r12)) ((WP.eq (WP.pure a_style) (WP.pure (6 : Int))).bind fun b => WP.cond b ((WP.ite (WP.eq (WP.mod (WP.add (WP.pure a_r) (WP.pure a_c)) (WP.pure (2 : Int))) (WP.pure (0 : Int))) (WP.pure a2_drawn) (WP.sub (WP.sub (WP.pure a_span) (WP.pure (1 : Int))) (WP.fdiv (WP.pure a2_drawn) (WP.pure (3 : Int))))).bind fun r14 => (WP.pure r14)) ((WP.eq (WP.pure a_style) (WP.pure (7 : Int))).bind fun b => WP.cond b ((WP.mod (WP.add (WP.fdiv (WP.pure a_r) (WP.pure (2 : Int))) (WP.mul (WP.fdiv (WP.pure a_c) (WP.pure (2 : Int))) (WP.pure (2 : Int)))) (WP.pure a_span)).bind fun r16 => (WP.pure r16)) ((WP.pure a2_drawn).bind fun r17 => (WP.pure r17))))))))
def law_reliefM (_ : Unit) (a_rows : Int) (a_columns : Int) : WP (List Str) := (WP.ix (WP.row (WP.consE (WP.pure (2 : Int)) (WP.consE (WP.pure (3 : Int)) (WP.consE (WP.pure (5 : Int)) (WP.consE (WP.pure (10 : Int)) (WP.pure ([] : List Int))))))) (WP.b2 (WP.pure ()) (WP.pure (4 : Int)) m_take)).bind fun a1_span => (WP.b2 (WP.pure ()) (WP.sub (WP.pure (11 : Int)) (WP.pure a1_span)) m_take).bind fun a2_base => (WP.b2 (WP.pure ()) (WP.pure (10 : Int)) m_take).bind fun a3_style => (WP.row (WP.pure ([] : List (List Int)))).bind fun a4_grid => (WP.range1 (WP.pure a_rows)).bind fun xs5 => WP.after (WP.loop (γ := (List Str)) (fun c5 (y5 : (List (List Int))) => (WP.row (WP.pure ([] : List Int))).bind fun a6_row => (WP.range1 (WP.pure a_columns)).bind fun xs7 => WP.after (WP.loop (γ := (List Str)) (fun c7 (y7 : (List Int)) => ((WP.add (WP.pure a2_base) (WP.b7 (WP.pure ()) (WP.pure a3_style) (WP.pure a1_span) (WP.pure c5) (WP.pure c7) (WP.pure a_rows) (WP.pure a_columns) law_heightM)).bind fun a => WP.req (y7.length < 100000) (y7 ++ [a])).bind fun a8_row => (WP.pure (.nx a8_row))) xs7 a6_row) (fun (z7 : (List Int)) => (WP.req (y5.length < 100000) (y5 ++ [z7])).bind fun a9_grid => (WP.pure (.nx a9_grid))) (fun r => (WP.pure (.rt r)))) xs5 a4_grid) (fun (z5 : (List (List Int))) => (WP.range1 (WP.b2 (WP.pure ()) (WP.pure (5 : Int)) m_take)).bind fun xs10 => WP.after (WP.loop (γ := (List Str)) (fun c10 (y10 : (List (List Int))) => (WP.b2 (WP.pure ()) (WP.pure a_rows) m_take).bind fun a11_r => (WP.b2 (WP.pure ()) (WP.pure a_columns) m_take).bind fun a12_c => (WP.gset y10 (WP.add (WP.pure a2_base) (WP.b2 (WP.pure ()) (WP.pure a1_span) m_take)) (WP.pure a11_r) (WP.pure a12_c)).bind fun a13_grid => (WP.pure (.nx a13_grid))) xs10 z5) (fun (z10 : (List (List Int))) => ((WP.lc (WP.pure z10) (fun c1 => (WP.pure true)) (fun c1 => (WP.join (WP.pure (Str.ofString "")) (WP.lc (WP.pure c1) (fun c2 => (WP.pure true)) (fun c2 => (WP.str' (WP.pure c2))))))).bind fun xs => WP.pure (α := List _) xs).bind fun r14 => (WP.pure r14)) (fun r => (WP.pure r))) (fun r => (WP.pure r))
def law_sizesM (_ : Unit) (a_most : Int) : WP Sq := (WP.add (WP.pure (1 : Int)) (WP.b2 (WP.pure ()) (WP.pure a_most) m_take)).bind fun a1_rows => (WP.add (WP.pure (1 : Int)) (WP.b2 (WP.pure ()) (WP.pure a_most) m_take)).bind fun a2_columns => (WP.b2 (WP.pure ()) (WP.pure (16 : Int)) m_take).bind fun a3_kind => ((WP.eq (WP.pure a3_kind) (WP.pure (1 : Int))).bind fun b => WP.cond b ((WP.add (WP.pure (1 : Int)) (WP.b2 (WP.pure ()) (WP.mul (WP.pure (2 : Int)) (WP.pure a_most)) m_take)).bind fun a12_rows => (WP.add (WP.pure (1 : Int)) (WP.b2 (WP.pure ()) (WP.mul (WP.pure (2 : Int)) (WP.pure a_most)) m_take)).bind fun a13_columns => (WP.pure (a12_rows, a13_columns))) ((WP.pure (a1_rows, a2_columns)))).bind fun (y4 : Int × Int) => ((WP.eq (WP.pure a3_kind) (WP.pure (2 : Int))).bind fun b => WP.cond b ((WP.add (WP.pure (1 : Int)) (WP.b2 (WP.pure ()) (WP.pure (40 : Int)) m_take)).bind fun a10_rows => (WP.add (WP.pure (1 : Int)) (WP.b2 (WP.pure ()) (WP.pure (2 : Int)) m_take)).bind fun a11_columns => (WP.pure (a10_rows, a11_columns))) ((WP.pure (y4.1, y4.2)))).bind fun (y5 : Int × Int) => ((WP.eq (WP.pure a3_kind) (WP.pure (3 : Int))).bind fun b => WP.cond b ((WP.add (WP.pure (1 : Int)) (WP.b2 (WP.pure ()) (WP.pure (2 : Int)) m_take)).bind fun a8_rows => (WP.add (WP.pure (1 : Int)) (WP.b2 (WP.pure ()) (WP.pure (40 : Int)) m_take)).bind fun a9_columns => (WP.pure (a8_rows, a9_columns))) ((WP.pure (y5.1, y5.2)))).bind fun (y6 : Int × Int) => (WP.pair (WP.pure y6.1) (WP.pure y6.2)).bind fun r7 => (WP.pure r7)
theorem Draws.comp {α β : Type} {f : α → WP β} {k : Nat} {P : β → Prop} : ∀ {xs : List α}, (∀ x ∈ xs, Draws (f x) k P) → Draws (WP.comp (fun _ => WP.pure true) f xs) (xs.length * k) (fun ys => ys.length = xs.length ∧ ∀ y ∈ ys, P y)
  | [], _ => fun n Q _ q => q n [] (Nat.le_refl _) (by omega) ⟨rfl, fun _ h => by cases h⟩
  | x :: xs, h => fun n Q hn q => by
    have e : (x :: xs).length * k = xs.length * k + k := by rw [List.length_cons, Nat.succ_mul]
    refine h x List.mem_cons_self n _ (by omega) fun m y h1 h2 hy => ?_
    refine Draws.comp (fun z m => h z (List.mem_cons_of_mem _ m)) m _ (by omega) fun m' ys h3 h4 ⟨hl, hys⟩ => ?_
    refine q m' (y :: ys) (by omega) (by omega) ⟨by rw [List.length_cons, List.length_cons, hl], fun z hz => ?_⟩
    rcases List.mem_cons.mp hz with e | hz
    · rw [e]; exact hy
    · exact hys z hz
theorem Draws.lcM {α β : Type} {w : WP (List α)} {xs : List α} {f : α → WP β} {k : Nat} {P : β → Prop} (hw : Is w xs) (hl : xs.length ≤ 100000) (h : ∀ x ∈ xs, Draws (f x) k P) : Draws (WP.lc w (fun _ => WP.pure true) f) (xs.length * k) (fun ys => ys.length = xs.length ∧ ∀ y ∈ ys, P y) := fun n Q hn q =>
  hw n _ ⟨hl, Draws.comp h n Q hn q⟩
theorem draw_pick {row : List Sq} (h : 0 < row.length) (hl : row.length ≤ 100000) : Draws (law_pickM () row) 2 (· ∈ row) := by
  intro n Q hn q
  unfold law_pickM
  simp only [WP.run_bind, WP.run_pure, WP.run_req, WP.run_any, WP.run_take, WP.run_cond, WP.run_range1, WP.run_range2, decide_eq_true_eq, decide_eq_false_iff_not, Bool.not_eq_true', Bool.not_eq_false']
  refine ⟨by omega, by decide, fun x h1 h2 => ⟨.inl ⟨by omega, by omega⟩, by omega, by decide, fun y h3 h4 => ⟨by omega, ?_, ?_⟩⟩⟩
  · have := Int.emod_nonneg (x * 1009 + y) (show ((row.length : Nat) : Int) ≠ 0 by omega)
    have := Int.emod_lt_of_pos (x * 1009 + y) (show 0 < ((row.length : Nat) : Int) by omega)
    exact ⟨by omega, by omega⟩
  · have g1 := Int.emod_nonneg (x * 1009 + y) (show ((row.length : Nat) : Int) ≠ 0 by omega)
    have g2 := Int.emod_lt_of_pos (x * 1009 + y) (show 0 < ((row.length : Nat) : Int) by omega)
    exact q _ _ (by omega) (by omega) (ixD_mem g1 g2)
theorem draw_height {style span r c rows columns : Int} (hs : 2 ≤ span) (hs2 : span ≤ 10) (hr : 0 ≤ r) (hr2 : r < rows) (hc : 0 ≤ c) (hc2 : c < columns) (hC : columns ≤ 40) : Draws (law_heightM () style span r c rows columns) 1 (fun v => 0 ≤ v ∧ v ≤ span - 1) := by
  intro n Q hn q
  unfold law_heightM
  simp only [WP.run_bind, WP.run_pure, WP.run_req, WP.run_any, WP.run_take, WP.run_cond, WP.run_range1, WP.run_range2, decide_eq_true_eq, decide_eq_false_iff_not, Bool.not_eq_true', Bool.not_eq_false']
  refine ⟨by omega, by omega, fun x h1 h2 => ?_⟩
  have h3 : ∀ v : Int, 0 ≤ v → v ≤ span - 1 → Q (n + 1) v := fun v a b => q _ _ (by omega) (by omega) ⟨a, b⟩
  have e1 := Int.emod_nonneg (r / 2 + c / 2 * 2) (show span ≠ 0 by omega)
  have e2 := Int.emod_lt_of_pos (r / 2 + c / 2 * 2) (show 0 < span by omega)
  have e3 : ([0, columns - 1] : List Int).length = 2 := rfl
  repeat' (first | apply And.intro | intro _)
  all_goals first
    | omega
    | contradiction
    | exact .inl ⟨by omega, by omega⟩
    | (refine h3 _ ?_ ?_ <;> (try split) <;> omega)
/-- what a grid of numbers is -/
structure NGrid (G : List (List Int)) (k m : Nat) : Prop where
  len : G.length = k
  row : ∀ r ∈ G, r.length = m ∧ ∀ d ∈ r, 0 ≤ d ∧ d ≤ 9
def rowT (r : List Int) : Str := mkS (r.map fun d => 48 + d.toNat)
theorem rowT_is {r : List Int} (h : ∀ d ∈ r, 0 ≤ d ∧ d ≤ 9) (hl : r.length ≤ 100000) : Is (WP.join (WP.pure (Str.ofString "")) (WP.lc (WP.pure r) (fun c2 => (WP.pure true)) (fun c2 => (WP.str' (WP.pure c2))))) (rowT r) := by
  refine join1_is (h := ?_) (by rw [List.length_map]; exact hl)
  refine (Is.lcM (g := fun d => (toString d : Str)) Is.pure hl fun d hd => Is.pure.bind (Is.req ?_)).eq ?_
  · have := h d hd
    have e : d.natAbs < 10 := by omega
    by_cases z : d.natAbs = 0
    · rw [z]; decide
    · have : d.natAbs.log2 < 4 := (Nat.log2_lt z).mpr (by omega)
      omega
  · rw [List.map_map]
    exact List.map_congr_left fun d hd => dig_str (h d hd).1 (h d hd).2
theorem rel_of {G : List (List Int)} {k m : Nat} (g : NGrid G k m) (hk : 0 < k) (hk2 : k ≤ 300) (hm : 0 < m) (hm2 : m ≤ 300) : Rel (G.map rowT) ∧ (G.map rowT).length = k ∧ wid (G.map rowT) = m := by
  have hw : ∀ s ∈ G.map rowT, s.length = m := fun s hs => by
    obtain ⟨r, hr, rfl⟩ := List.mem_map.mp hs
    unfold rowT
    rw [mkS_len, List.length_map]
    exact (g.row r hr).1
  have hl : (G.map rowT).length = k := by rw [List.length_map]; exact g.len
  have hwid : wid (G.map rowT) = m := hw _ (ixD_mem (by omega) (by omega))
  refine ⟨⟨⟨by omega, by omega, fun s hs => by rw [hwid]; exact hw s hs, by omega, by omega⟩, fun s hs c hc => ?_⟩, hl, hwid⟩
  obtain ⟨r, hr, rfl⟩ := List.mem_map.mp hs
  unfold rowT at hc
  rw [tl_mkS] at hc
  obtain ⟨d, hd, rfl⟩ := List.mem_map.mp hc
  have := (g.row r hr).2 d hd
  omega
theorem setL_mem {α : Type} {xs : List α} {r : Int} {v x : α} (h : x ∈ setL xs r v) : x ∈ xs ∨ x = v := by
  unfold setL at h
  split at h
  · exact (List.mem_or_eq_of_mem_set h)
  · exact .inl h
theorem setL_len {α : Type} (xs : List α) (r : Int) (v : α) : (setL xs r v).length = xs.length := by
  unfold setL
  split
  · rw [List.length_set]
  · rfl
theorem NGrid.set {G : List (List Int)} {k m : Nat} (g : NGrid G k m) {r c v : Int} (hr : 0 ≤ r) (hr2 : r < k) (h0 : 0 ≤ v) (h9 : v ≤ 9) : NGrid (setG G r c v) k m := by
  unfold setG
  refine ⟨by rw [setL_len]; exact g.len, fun x hx => ?_⟩
  rcases setL_mem hx with hx | rfl
  · exact g.row x hx
  · have hm := ixD_mem (xs := G) hr (by rw [g.len]; exact hr2)
    refine ⟨by rw [setL_len]; exact (g.row _ hm).1, fun d hd => ?_⟩
    rcases setL_mem hd with hd | rfl
    · exact (g.row _ hm).2 d hd
    · exact ⟨h0, h9⟩
theorem Draws.loop {s α γ ρ : Type} {body : α → s → WP (Ctl s γ)} {xs : List α} {x : s} {f : s → WP ρ} {r : γ → WP ρ} (I : Nat → s → Prop) (k : Nat) {k' : Nat} {P : ρ → Prop} (h0 : I 0 x) (hs : ∀ i a y, xs[i]? = some a → I i y → Draws (body a y) k fun c => ∃ z, c = .nx z ∧ I (i + 1) z) (hd : ∀ y, I xs.length y → Draws (f y) k' P) : Draws (WP.after (WP.loop body xs x) f r) (xs.length * k + k') P := by
  intro n Q hn q
  refine WP.after_inv (fun i m y => i ≤ xs.length ∧ n ≤ m ∧ m ≤ n + i * k ∧ I i y) ⟨Nat.zero_le _, Nat.le_refl _, by omega, h0⟩ (fun i m a y ha hi => ?_) (fun m y hy => ?_)
  · obtain ⟨_, h1, h2, h3⟩ := hi
    have hil : i < xs.length := (List.getElem?_eq_some_iff.mp ha).1
    have := Nat.mul_le_mul_right k (show i + 1 ≤ xs.length from hil)
    have e : (i + 1) * k = i * k + k := Nat.succ_mul i k
    refine hs i a y ha h3 m _ (by omega) fun m' c g1 g2 ⟨z, hz, hI⟩ => ?_
    subst hz
    exact ⟨hil, by omega, by omega, hI⟩
  · obtain ⟨_, h1, h2, h3⟩ := hy
    exact hd y h3 m Q (by omega) fun m' b g1 g2 hb => q m' b (by omega) (by omega) hb
theorem draw_relief {rows columns : Int} (hr : 1 ≤ rows) (hr2 : rows ≤ 40) (hc : 1 ≤ columns) (hc2 : columns ≤ 40) : Draws (law_reliefM () rows columns) 2000 (fun rel => Rel rel ∧ (rel.length : Int) = rows ∧ (wid rel : Int) = columns) := by
  intro n Q hn q
  unfold law_reliefM
  simp only [WP.run_bind, WP.run_pure, WP.run_req, WP.run_any, WP.run_take, WP.run_cond, WP.run_range1, WP.run_range2, decide_eq_true_eq, decide_eq_false_iff_not, Bool.not_eq_true', Bool.not_eq_false']
  refine ⟨by simp, by omega, by decide, fun sp s1 s2 => ?_⟩
  have hsp : 2 ≤ ixD ([2, 3, 5, 10] : List Int) sp ∧ ixD ([2, 3, 5, 10] : List Int) sp ≤ 10 := by
    have : sp = 0 ∨ sp = 1 ∨ sp = 2 ∨ sp = 3 := by omega
    rcases this with rfl | rfl | rfl | rfl <;> decide
  have e3 : ([2, 3, 5, 10] : List Int).length = 4 := rfl
  generalize hS : (ixD ([2, 3, 5, 10] : List Int) sp : Int) = S at hsp
  refine ⟨⟨by omega, by omega⟩, by omega, by omega, fun base b1 b2 => ⟨by omega, by decide, fun style t1 t2 => ⟨by simp, ⟨by omega, by omega⟩, ?_⟩⟩⟩
  refine WP.after_inv (fun i m y => n ≤ m ∧ m ≤ n + 3 + i * columns.toNat ∧ i ≤ rows.toNat ∧ NGrid y i columns.toNat) ⟨by omega, by omega, by omega, rfl, fun _ h => by cases h⟩ (fun i m a y ha hi => ?_) (fun m y hy => ?_)
  · obtain ⟨hm1, hm2, hi1, hg⟩ := hi
    obtain ⟨rfl, hi2⟩ := rangeL0_get ha
    have hin : i * columns.toNat ≤ 40 * 40 := Nat.mul_le_mul (by omega) (by omega)
    have es : (i + 1) * columns.toNat = i * columns.toNat + columns.toNat := Nat.succ_mul _ _
    simp only [WP.run_bind, WP.run_pure, WP.run_req, WP.run_any, WP.run_take, WP.run_cond, WP.run_range1, WP.run_range2, decide_eq_true_eq, decide_eq_false_iff_not, Bool.not_eq_true', Bool.not_eq_false']
    refine ⟨by simp, ⟨by omega, by omega⟩, ?_⟩
    refine WP.after_inv (fun j m' y => n ≤ m' ∧ m' ≤ n + 3 + i * columns.toNat + j ∧ y.length = j ∧ ∀ d ∈ y, 0 ≤ d ∧ d ≤ 9) ⟨hm1, hm2, rfl, fun _ h => by cases h⟩ (fun j m b y hb hj => ?_) (fun m y hy => ?_)
    · obtain ⟨hj0, hj, hj1, hj2⟩ := hj
      obtain ⟨rfl, hj3⟩ := rangeL0_get hb
      refine draw_height (by omega) (by omega) (by omega) hi2 (by omega) hj3 hc2 _ _ (by omega) fun m' v g1 g2 hv => ?_
      refine ⟨by omega, by omega, by omega, by rw [List.length_append, hj1]; rfl, fun d hd => ?_⟩
      rcases List.mem_append.mp hd with hd | hd
      · exact hj2 d hd
      · have : d = base + v := by simpa using hd
        omega
    · obtain ⟨hj0, hj, hj1, hj2⟩ := hy
      rw [rangeL0_len] at hj hj1
      refine ⟨by have := hg.len; omega, by omega, by omega, by omega, by rw [List.length_append, hg.len]; rfl, fun r hr => ?_⟩
      rcases List.mem_append.mp hr with hr | hr
      · exact hg.row r hr
      · have : r = y := by simpa using hr
        subst this
        exact ⟨hj1, hj2⟩
  · obtain ⟨hm1, hm2, hi1, hg⟩ := hy
    rw [rangeL0_len] at hm2 hg
    have hin : rows.toNat * columns.toNat ≤ 40 * 40 := Nat.mul_le_mul (by omega) (by omega)
    simp only [WP.run_bind, WP.run_pure, WP.run_req, WP.run_any, WP.run_take, WP.run_cond, WP.run_range1, WP.run_range2, decide_eq_true_eq, decide_eq_false_iff_not, Bool.not_eq_true', Bool.not_eq_false']
    refine ⟨by omega, by decide, fun u u1 u2 => ⟨⟨by omega, by omega⟩, ?_⟩⟩
    refine WP.after_inv (fun j m' y => n ≤ m' ∧ m' ≤ n + 1650 + 3 * j ∧ NGrid y rows.toNat columns.toNat) ⟨by omega, by omega, hg⟩ (fun j m b y hb hj => ?_) (fun m y hy => ?_)
    · obtain ⟨hj0, hj, hg'⟩ := hj
      obtain ⟨rfl, hj3⟩ := rangeL0_get hb
      simp only [WP.run_bind, WP.run_pure, WP.run_req, WP.run_any, WP.run_take, WP.run_cond, WP.run_range1, WP.run_range2, decide_eq_true_eq, decide_eq_false_iff_not, Bool.not_eq_true', Bool.not_eq_false']
      refine ⟨by omega, by omega, fun r r1 r2 => ⟨by omega, by omega, fun c c1 c2 => ⟨by omega, by omega, fun v v1 v2 => ?_⟩⟩⟩
      have hl := hg'.len
      have hrow := (hg'.row _ (ixD_mem r1 (by omega))).1
      refine ⟨⟨by omega, by omega⟩, ⟨by omega, by omega⟩, by omega, by omega, hg'.set r1 (by omega) (by omega) (by omega)⟩
    · obtain ⟨hj0, hj, hg'⟩ := hy
      rw [rangeL0_len] at hj
      refine Is.lcM (g := rowT) Is.pure (by have := hg'.len; omega) (fun r hr => rowT_is (hg'.row r hr).2 (by have := (hg'.row r hr).1; omega)) _ _ ?_
      obtain ⟨h1, h2, h3⟩ := rel_of hg' (by omega) (by omega) (by omega) (by omega)
      exact q _ _ (by omega) (by omega) ⟨h1, by omega, by omega⟩
theorem draw_sizes {most : Int} (h : 1 ≤ most) (h2 : most ≤ 20) : Draws (law_sizesM () most) 20 (fun q => 1 ≤ q.1 ∧ q.1 ≤ 40 ∧ 1 ≤ q.2 ∧ q.2 ≤ 40) := by
  intro n Q hn q
  unfold law_sizesM
  simp only [WP.run_bind, WP.run_pure, WP.run_req, WP.run_any, WP.run_take, WP.run_cond, WP.run_range1, WP.run_range2, decide_eq_true_eq, decide_eq_false_iff_not, Bool.not_eq_true', Bool.not_eq_false']
  have h3 : ∀ (m : Nat) (a b : Int), n ≤ m → m ≤ n + 20 → 1 ≤ a → a ≤ 40 → 1 ≤ b → b ≤ 40 → Q m (a, b) := fun m a b g1 g2 a1 a2 b1 b2 => q m _ g1 g2 ⟨a1, a2, b1, b2⟩
  repeat' (first | apply And.intro | intro _)
  all_goals first
    | omega
    | exact .inl ⟨by omega, by omega⟩
    | (apply h3 <;> omega)
end Y

/-! plain facts: loops that look at all, comprehensions of two clauses, more of the charts -/
namespace Y
open PySem L2
section
variable {α β γ ρ : Type}
theorem Is.loopAll {body : α → Unit → WP (Ctl Unit γ)} {xs : List α} {p : α → Bool} {no : γ} (h : ∀ x ∈ xs, Is (body x ()) (if p x then .nx () else .rt no)) : Is (WP.loop body xs ()) (if xs.all p then .nx () else .rt no) := by
  induction xs with
  | nil => exact Is.pure
  | cons x xs ih =>
    have ih := ih fun y m => h y (List.mem_cons_of_mem _ m)
    refine (h x List.mem_cons_self).bind ?_
    rw [List.all_cons]
    cases e : p x with
    | true => exact ih
    | false => exact Is.pure
theorem Is.afterAll {w : WP (Ctl Unit γ)} {b : Bool} {no : γ} {f : Unit → WP ρ} {r : γ → WP ρ} {z : ρ} (h : Is w (if b then .nx () else .rt no)) (h1 : b = true → Is (f ()) z) (h2 : b = false → Is (r no) z) : Is (WP.after w f r) z := by
  refine h.bind ?_
  cases b with
  | true => exact h1 rfl
  | false => exact h2 rfl
theorem Is.comp1 {c : β → WP Bool} {f : β → WP γ} {p : β → Bool} {g : β → γ} : ∀ {xs : List β} {k : Nat}, k + xs.length ≤ 100000 → (∀ x ∈ xs, Is (c x) (p x)) → (∀ x ∈ xs, p x = true → Is (f x) (g x)) → Is (WP.comp1 c f k xs) ((xs.filter p).map g)
  | [], _, _, _, _ => Is.pure
  | x :: xs, k, hk, h, h' => (h x List.mem_cons_self).bind (by
    rw [List.length_cons] at hk
    rw [List.filter_cons]
    cases e : p x with
    | true => exact (h' x List.mem_cons_self e).bind ((Is.req (by omega)).bind ((Is.comp1 (by omega) (fun y m => h y (List.mem_cons_of_mem _ m)) (fun y m => h' y (List.mem_cons_of_mem _ m))).bind Is.pure))
    | false => exact Is.comp1 (by omega) (fun y m => h y (List.mem_cons_of_mem _ m)) (fun y m => h' y (List.mem_cons_of_mem _ m)))
theorem Is.comp2 {c : α → WP Bool} {w : α → WP (List β)} {c1 : α → β → WP Bool} {f : α → β → WP γ} {ys : α → List β} {g : α → β → γ} : ∀ {xs : List α} {k : Nat}, k + (xs.flatMap fun x => (ys x).map (g x)).length ≤ 100000 → (∀ x ∈ xs, Is (c x) true) → (∀ x ∈ xs, Is (w x) (ys x)) → (∀ x ∈ xs, ∀ y ∈ ys x, Is (c1 x y) true) → (∀ x ∈ xs, ∀ y ∈ ys x, Is (f x y) (g x y)) → Is (WP.comp2 c w c1 f k xs) (xs.flatMap fun x => (ys x).map (g x))
  | [], _, _, _, _, _, _ => Is.pure
  | x :: xs, k, hk, h1, h2, h3, h4 => (h1 x List.mem_cons_self).bind ((h2 x List.mem_cons_self).bind (by
    rw [List.flatMap_cons, List.length_append, List.length_map] at hk
    have e : Is (WP.comp1 (c1 x) (f x) k (ys x)) ((ys x).map (g x)) := by
      have := Is.comp1 (k := k) (p := fun _ => true) (g := g x) (by omega) (fun y m => h3 x List.mem_cons_self y m) (fun y m _ => h4 x List.mem_cons_self y m)
      rwa [List.filter_eq_self.mpr (fun _ _ => rfl)] at this
    refine e.bind ((Is.comp2 (by rw [List.length_map]; omega) (fun y m => h1 y (List.mem_cons_of_mem _ m)) (fun y m => h2 y (List.mem_cons_of_mem _ m)) (fun y m => h3 y (List.mem_cons_of_mem _ m)) (fun y m => h4 y (List.mem_cons_of_mem _ m))).bind ?_)
    rw [List.flatMap_cons]
    exact Is.pure))
theorem Is.ne {α : Type} [DecidableEq α] {a b : WP α} {x y : α} (h : Is a x) (h' : Is b y) : Is (WP.ne a b) (!decide (x = y)) := h.bind (h'.bind Is.pure)
theorem Is.eqv {α : Type} [DecidableEq α] {a b : WP α} {x y : α} (h : Is a x) (h' : Is b y) : Is (WP.eq a b) (decide (x = y)) := h.bind (h'.bind Is.pure)
theorem Is.lenS {w : WP Str} {z : Str} (h : Is w z) (hz : z.length ≤ 100000) : Is (WP.lenS w) ((z.length : Nat) : Int) := h.bind (Is.req hz)
theorem Is.ix [Inhabited α] {w : WP (List α)} {k : WP Int} {xs : List α} {i : Int} (h : Is w xs) (h' : Is k i) (ho : okI xs.length i) : Is (WP.ix w k) (ixD xs i) := h.bind (h'.bind (Is.req ho))
/-- if no: return, else go on -/
theorem Is.guard {s : Type} {t : WP Bool} {b : Bool} {no : γ} {w : WP (Ctl s γ)} {x : Ctl s γ} (h : Is t (!b)) (h1 : b = true → Is w x) : Is (t.bind fun b => WP.cond b ((WP.pure no).bind fun r => WP.pure (.rt r)) w) (if b then x else .rt no) := h.bind (by
  cases b with
  | true => exact h1 rfl
  | false => exact Is.pure)
end
theorem Is.wid1 {ch : List Str} (h : 0 < ch.length) (hw : wid ch ≤ 100000) : Is (WP.lenS (WP.ix (WP.pure ch) (WP.pure (0 : Int)))) ((wid ch : Nat) : Int) := Is.lenS (Is.ix Is.pure Is.pure ⟨by omega, by omega⟩) hw
def is_chartM (a_rows : (List Str)) : WP Bool := (WP.or (WP.not (WP.chain (fun i j => decide (i ≤ j)) (fun i j => decide (i ≤ j)) (WP.pure (1 : Int)) (WP.len (WP.pure a_rows)) (WP.pure (40 : Int)))) (WP.not (WP.chain (fun i j => decide (i ≤ j)) (fun i j => decide (i ≤ j)) (WP.pure (1 : Int)) (WP.lenS (WP.ix (WP.pure a_rows) (WP.pure (0 : Int)))) (WP.pure (40 : Int))))).bind fun b => WP.cond b ((WP.pure false).bind fun r2 => (WP.pure r2)) ((WP.pure a_rows).bind fun xs3 => WP.after (WP.loop (γ := Bool) (fun c3 (y3 : Unit) => (WP.ne (WP.lenS (WP.pure c3)) (WP.lenS (WP.ix (WP.pure a_rows) (WP.pure (0 : Int))))).bind fun b => WP.cond b ((WP.pure false).bind fun r5 => (WP.pure (.rt r5))) ((WP.signs (WP.pure c3)).bind fun xs6 => WP.after (WP.loop (γ := Bool) (fun c6 (y6 : Unit) => (WP.and (WP.ne (WP.pure c6) (WP.pure ("x" : Str))) (WP.ne (WP.pure c6) (WP.pure ("." : Str)))).bind fun b => WP.cond b ((WP.pure false).bind fun r8 => (WP.pure (.rt r8))) ((WP.pure (.nx ())))) xs6 ()) (fun (z6 : Unit) => (WP.pure (.nx ()))) (fun r => (WP.pure (.rt r))))) xs3 ()) (fun (z3 : Unit) => (WP.pure true).bind fun r9 => (WP.pure r9)) (fun r => (WP.pure r)))
def is_reliefM (a_rows : (List Str)) : WP Bool := (WP.or (WP.not (WP.chain (fun i j => decide (i ≤ j)) (fun i j => decide (i ≤ j)) (WP.pure (1 : Int)) (WP.len (WP.pure a_rows)) (WP.pure (40 : Int)))) (WP.not (WP.chain (fun i j => decide (i ≤ j)) (fun i j => decide (i ≤ j)) (WP.pure (1 : Int)) (WP.lenS (WP.ix (WP.pure a_rows) (WP.pure (0 : Int)))) (WP.pure (40 : Int))))).bind fun b => WP.cond b ((WP.pure false).bind fun r2 => (WP.pure r2)) ((WP.pure a_rows).bind fun xs3 => WP.after (WP.loop (γ := Bool) (fun c3 (y3 : Unit) => (WP.ne (WP.lenS (WP.pure c3)) (WP.lenS (WP.ix (WP.pure a_rows) (WP.pure (0 : Int))))).bind fun b => WP.cond b ((WP.pure false).bind fun r5 => (WP.pure (.rt r5))) ((WP.signs (WP.pure c3)).bind fun xs6 => WP.after (WP.loop (γ := Bool) (fun c6 (y6 : Unit) => (WP.not (WP.inSg (WP.pure c6) (WP.pure ("0123456789" : Str)))).bind fun b => WP.cond b ((WP.pure false).bind fun r8 => (WP.pure (.rt r8))) ((WP.pure (.nx ())))) xs6 ()) (fun (z6 : Unit) => (WP.pure (.nx ()))) (fun r => (WP.pure (.rt r))))) xs3 ()) (fun (z3 : Unit) => (WP.pure true).bind fun r9 => (WP.pure r9)) (fun r => (WP.pure r)))
def squares_ofM (a_chart : (List Str)) : WP (List Sq) := (WP.lc2 (WP.range1 (WP.len (WP.pure a_chart))) (fun c1 => (WP.pure true)) (fun c1 => (WP.range1 (WP.lenS (WP.ix (WP.pure a_chart) (WP.pure (0 : Int)))))) (fun c1 d1 => (WP.pure true)) (fun c1 d1 => (WP.pair (WP.pure c1) (WP.pure d1)))).bind fun r1 => (WP.pure r1)
def land_squaresM (a_chart : (List Str)) : WP (List Sq) := (WP.lc (WP.b1 (WP.pure a_chart) squares_ofM) (fun c1 => (WP.b2 (WP.pure a_chart) (WP.pure c1) is_landM)) (fun c1 => (WP.pure c1))).bind fun r1 => (WP.pure r1)
def is_withinM (a_chart : (List Str)) (a_other : (List Str)) : WP Bool := (WP.eq (WP.len (WP.lc (WP.b1 (WP.pure a_chart) land_squaresM) (fun c1 => (WP.not (WP.b2 (WP.pure a_other) (WP.pure c1) is_landM))) (fun c1 => (WP.pure c1)))) (WP.pure (0 : Int))).bind fun r1 => (WP.pure r1)
def law_levelM (a_relief : (List Str)) (a_level : Int) : WP (List Str) := ((WP.lc (WP.pure a_relief) (fun c1 => (WP.pure true)) (fun c1 => (WP.join (WP.pure (Str.ofString "")) (WP.lc (WP.signs (WP.pure c1)) (fun c2 => (WP.pure true)) (fun c2 => (WP.ite (WP.ge (WP.int' (WP.pure c2)) (WP.pure a_level)) (WP.pure (Str.ofString "x")) (WP.pure (Str.ofString ".")))))))).bind fun xs => WP.pure (α := List _) xs).bind fun r1 => (WP.pure r1)
theorem squares_of_is {ch : List Str} (c : Ch ch) : Is (squares_ofM ch) (allSq ch) := by
  have hh := c.hl
  have hw := c.wl
  have e : allSq ch = (rangeL 0 (ch.length : Int)).flatMap fun r => (rangeL 0 (wid ch : Int)).map fun c => (r, c) := by
    unfold allSq rangeL
    simp [List.flatMap_map]
    rfl
  refine Is.ret ((Is.range1 (Is.len Is.pure) (by omega)).bind ?_)
  rw [e]
  refine Is.comp2 (by rw [← e]; have := c.area; omega) (fun _ _ => Is.pure) (fun _ _ => Is.range1 (Is.wid0 c) (by omega)) (fun _ _ _ _ => Is.pure) (fun _ _ _ _ => Is.b2 Is.pure Is.pure Is.pure)
theorem land_squares_is {ch : List Str} (c : Ch ch) : Is (land_squaresM ch) ((allSq ch).filter (isLd ch)) :=
  Is.ret (Is.lcF (Is.b1 Is.pure (squares_of_is c)) (by have := c.area; omega) fun x _ => Is.b2 Is.pure Is.pure (is_land_is c x))
theorem is_within_is {ch o : List Str} (c : Ch ch) (c' : Ch o) : Is (is_withinM ch o) (decide ((((((allSq ch).filter (isLd ch)).filter fun q => !isLd o q).length : Nat) : Int) = 0)) :=
  Is.ret (Is.eqv (Is.len (Is.lcF (Is.b1 Is.pure (land_squares_is c)) (Nat.le_trans (List.length_filter_le _ _) (by have := c.area; omega)) fun x _ => Is.not (Is.b2 Is.pure Is.pure (is_land_is c' x)))) Is.pure)
def sgB (p : Nat → Bool) (rows : List Str) : Bool := (decide (1 ≤ rows.length) && decide (rows.length ≤ 40)) && (decide (1 ≤ wid rows) && decide (wid rows ≤ 40)) && rows.all fun s => decide (s.length = wid rows) && s.cps.toList.all p
theorem sizes_is {rows : List Str} (hl : ∀ s ∈ rows, s.length ≤ 100000) : Is (WP.or (WP.not (WP.chain (fun i j => decide (i ≤ j)) (fun i j => decide (i ≤ j)) (WP.pure (1 : Int)) (WP.len (WP.pure rows)) (WP.pure (40 : Int)))) (WP.not (WP.chain (fun i j => decide (i ≤ j)) (fun i j => decide (i ≤ j)) (WP.pure (1 : Int)) (WP.lenS (WP.ix (WP.pure rows) (WP.pure (0 : Int)))) (WP.pure (40 : Int)))))
    (!((decide (1 ≤ rows.length) && decide (rows.length ≤ 40)) && (decide (1 ≤ wid rows) && decide (wid rows ≤ 40)))) := by
  have e : ∀ n : Nat, decide ((1 : Int) ≤ (n : Int)) = decide (1 ≤ n) := fun n => by simp; omega
  have e2 : ∀ n : Nat, decide ((n : Int) ≤ (40 : Int)) = decide (n ≤ 40) := fun n => by simp; omega
  rw [Bool.not_and]
  refine Is.or ?_ fun h => ?_
  · rw [← e, ← e2]
    exact Is.not (Is.chain Is.pure (Is.len Is.pure) fun _ => Is.pure)
  · have h' : 0 < rows.length := by
      simp only [Bool.not_eq_false', Bool.and_eq_true, decide_eq_true_eq] at h
      omega
    rw [← e, ← e2]
    exact Is.not (Is.chain Is.pure (Is.wid1 h' (hl _ (ixD_mem (by omega) (by omega)))) fun _ => Is.pure)
theorem dec_le (P : Prop) [Decidable P] : decide P = decide P := rfl
theorem dig_mem (c : Nat) : decide (ixD (⟨#[c]⟩ : Str).cps.toList 0 ∈ ("0123456789" : Str).cps.toList) = (decide (48 ≤ c) && decide (c ≤ 57)) := by
  have e : ("0123456789" : Str).cps.toList = [48, 49, 50, 51, 52, 53, 54, 55, 56, 57] := by decide +kernel
  have e0 : ixD (⟨#[c]⟩ : Str).cps.toList 0 = c := rfl
  simp only [e0, e]
  rw [Bool.eq_iff_iff]
  simp
  omega
theorem is_relief_is {rows : List Str} (hl : ∀ s ∈ rows, s.length ≤ 100000) : Is (is_reliefM rows) (sgB (fun c => decide (48 ≤ c) && decide (c ≤ 57)) rows) := by
  unfold is_reliefM sgB
  refine (sizes_is hl).bind ?_
  cases e : ((decide (1 ≤ rows.length) && decide (rows.length ≤ 40)) && (decide (1 ≤ wid rows) && decide (wid rows ≤ 40))) with
  | false => exact Is.pure
  | true =>
    rw [Bool.true_and]
    have h' : 0 < rows.length := by
      simp only [Bool.and_eq_true, decide_eq_true_eq] at e
      omega
    have hw := hl _ (ixD_mem (xs := rows) (i := 0) (by omega) (by omega))
    refine Is.pure.bind ?_
    refine Is.afterAll (no := false) (Is.loopAll (p := fun s => decide (s.length = wid rows) && s.cps.toList.all fun c => decide (48 ≤ c) && decide (c ≤ 57)) fun s hs => ?_) (fun h => ?_) (fun h => ?_)
    · refine Is.eq (Is.guard (b := decide (s.length = wid rows)) ?_ (x := if (s.cps.toList.all fun c => decide (48 ≤ c) && decide (c ≤ 57)) then .nx () else .rt false) fun _ => ?_) ?_
      · refine (Is.ne (Is.lenS Is.pure (hl s hs)) (Is.wid1 h' hw)).eq ?_
        have : ((s.length : Int) = (wid rows : Int)) ↔ s.length = wid rows := by omega
        simp only [this]
      · refine (Is.pure.bind Is.pure).bind ?_
        refine Is.afterAll (no := false) (Is.loopAll (p := fun z => z.cps.toList.all fun c => decide (48 ≤ c) && decide (c ≤ 57)) fun z hz => ?_) (fun h => ?_) (fun h => ?_)
        · rw [signs_map] at hz
          obtain ⟨c, hc, rfl⟩ := List.mem_map.mp hz
          have := Is.guard (s := Unit) (b := decide (48 ≤ c) && decide (c ≤ 57)) (no := false) (t := WP.not (WP.inSg (WP.pure ⟨#[c]⟩) (WP.pure ("0123456789" : Str)))) (w := WP.pure (.nx ())) (x := .nx ()) (Is.not (Is.b2 Is.pure Is.pure ((Is.req rfl).eq ?_))) (fun _ => Is.pure)
          · refine this.eq ?_
            simp
          · exact dig_mem c
        · have e : (s.cps.toList.all fun c => decide (48 ≤ c) && decide (c ≤ 57)) = true := by
            rw [signs_map, List.all_map] at h
            rw [← h]; congr 1; funext c; simp
          rw [if_pos e]; exact Is.pure
        · have e : (s.cps.toList.all fun c => decide (48 ≤ c) && decide (c ≤ 57)) = false := by
            rw [signs_map, List.all_map] at h
            rw [← h]; congr 1; funext c; simp
          rw [e]; exact Is.pure
      · cases decide (s.length = wid rows) <;> rfl
    · rw [h]; exact Is.pure.bind Is.pure
    · rw [h]; exact Is.pure
theorem one_eq {c d : Nat} : ((⟨#[c]⟩ : Str) = ⟨#[d]⟩) ↔ c = d := by
  constructor
  · intro h
    injection h with h
    have := congrArg Array.toList h
    simpa using this
  · intro h; rw [h]
theorem x_str : ("x" : Str) = ⟨#[120]⟩ := by decide +kernel
theorem dot_str : ("." : Str) = ⟨#[46]⟩ := by decide +kernel
def chB (c : Nat) : Bool := decide (c = 120) || decide (c = 46)
theorem is_chart_is {rows : List Str} (hl : ∀ s ∈ rows, s.length ≤ 100000) : Is (is_chartM rows) (sgB chB rows) := by
  unfold is_chartM sgB
  refine (sizes_is hl).bind ?_
  cases e : ((decide (1 ≤ rows.length) && decide (rows.length ≤ 40)) && (decide (1 ≤ wid rows) && decide (wid rows ≤ 40))) with
  | false => exact Is.pure
  | true =>
    rw [Bool.true_and]
    have h' : 0 < rows.length := by
      simp only [Bool.and_eq_true, decide_eq_true_eq] at e
      omega
    have hw := hl _ (ixD_mem (xs := rows) (i := 0) (by omega) (by omega))
    refine Is.pure.bind ?_
    refine Is.afterAll (no := false) (Is.loopAll (p := fun s => decide (s.length = wid rows) && s.cps.toList.all chB) fun s hs => ?_) (fun h => ?_) (fun h => ?_)
    · refine Is.eq (Is.guard (b := decide (s.length = wid rows)) ?_ (x := if (s.cps.toList.all chB) then .nx () else .rt false) fun _ => ?_) ?_
      · refine (Is.ne (Is.lenS Is.pure (hl s hs)) (Is.wid1 h' hw)).eq ?_
        have : ((s.length : Int) = (wid rows : Int)) ↔ s.length = wid rows := by omega
        simp only [this]
      · refine (Is.pure.bind Is.pure).bind ?_
        refine Is.afterAll (no := false) (Is.loopAll (p := fun z => z.cps.toList.all chB) fun z hz => ?_) (fun h => ?_) (fun h => ?_)
        · rw [signs_map] at hz
          obtain ⟨c, hc, rfl⟩ := List.mem_map.mp hz
          have := Is.guard (s := Unit) (b := chB c) (no := false) (t := WP.and (WP.ne (WP.pure (⟨#[c]⟩ : Str)) (WP.pure ("x" : Str))) (WP.ne (WP.pure (⟨#[c]⟩ : Str)) (WP.pure ("." : Str)))) (w := WP.pure (.nx ())) (x := .nx ()) ((Is.and (Is.ne Is.pure Is.pure) (fun _ => Is.ne Is.pure Is.pure)).eq ?_) (fun _ => Is.pure)
          · refine this.eq ?_
            simp
          · rw [x_str, dot_str]
            simp only [one_eq, chB, Bool.not_or]
        · have e : s.cps.toList.all chB = true := by
            rw [signs_map, List.all_map] at h
            rw [← h]; congr 1; funext c; simp
          rw [if_pos e]; exact Is.pure
        · have e : s.cps.toList.all chB = false := by
            rw [signs_map, List.all_map] at h
            rw [← h]; congr 1; funext c; simp
          rw [e]; exact Is.pure
      · cases decide (s.length = wid rows) <;> rfl
    · rw [h]; exact Is.pure.bind Is.pure
    · rw [h]; exact Is.pure
theorem lvl_chart {rel : List Str} (c : Ch rel) (h1 : rel.length ≤ 40) (h2 : wid rel ≤ 40) (L : Int) : sgB chB (lvl rel L) = true := by
  unfold sgB
  have hl : (lvl rel L).length = rel.length := by unfold lvl; rw [List.length_map]
  rw [lvl_wid c, hl, decide_eq_true (show 1 ≤ rel.length from c.ne), decide_eq_true h1, decide_eq_true (show 1 ≤ wid rel from c.w0), decide_eq_true h2]
  simp only [Bool.true_and]
  rw [List.all_eq_true]
  intro s hs
  rw [Bool.and_eq_true, decide_eq_true_eq, List.all_eq_true]
  refine ⟨by have := (lvl_ch c L).w s hs; rwa [lvl_wid c] at this, fun x hx => ?_⟩
  obtain ⟨t, ht, rfl⟩ := List.mem_map.mp hs
  unfold lvS at hx
  rw [tl_mkS] at hx
  obtain ⟨k, hk, rfl⟩ := List.mem_map.mp hx
  split <;> decide
theorem law_level_is {rel : List Str} (r : Rel rel) (L : Int) : Is (law_levelM rel L) (lvl rel L) := by
  have hhl := r.ch.hl
  have hwl := r.ch.wl
  refine Is.ret ((Is.lcM (g := lvS L) Is.pure (by omega) fun s hm => ?_).bind Is.pure)
  have hw := r.ch.w s hm
  refine join1_is (h := ?_) (by rw [List.length_map, tl_len]; omega)
  rw [List.map_map]
  refine (Is.lcM (g := fun z => if L ≤ (PySem.intText? z).getD 0 then ("x" : Str) else ("." : Str)) (Is.pure.bind Is.pure) (by rw [signs_map, List.length_map, tl_len]; omega) fun x hx => ?_).eq ?_
  · rw [signs_map] at hx
    obtain ⟨c, hc, rfl⟩ := List.mem_map.mp hx
    obtain ⟨h1, h2⟩ := r.dg s hm c hc
    refine Is.eq (Is.ite (x := decide (L ≤ _)) (Is.b2 (Is.pure.bind (Is.req ?_)) Is.pure Is.pure) (fun _ => Is.pure) (fun _ => Is.pure)) ?_
    · rw [dig_int h1 h2]; exact ⟨rfl, by show 1 ≤ 640; decide⟩
    · simp only [decide_eq_true_eq]
  · rw [signs_map, List.map_map]
    refine List.map_congr_left fun c hc => ?_
    obtain ⟨h1, h2⟩ := r.dg s hm c hc
    show (if L ≤ (PySem.intText? ⟨#[c]⟩).getD 0 then ("x" : Str) else ("." : Str)) = (⟨#[if L ≤ (c : Int) - 48 then 120 else 46]⟩ : Str)
    rw [dig_int h1 h2]
    show (if L ≤ (c : Int) - 48 then ("x" : Str) else ("." : Str)) = _
    by_cases g : L ≤ (c : Int) - 48
    · rw [if_pos g, if_pos g]; decide +kernel
    · rw [if_neg g, if_neg g]; decide +kernel
end Y

/-! plain facts: parts of texts and rows -/
namespace Y
open PySem L2
theorem sIx_nat' {n d : Nat} {i : Int} (h0 : 0 ≤ i) (h : i ≤ n) : HT.sIx n d (some i) = i.toNat := by
  have e : i = ((i.toNat : Nat) : Int) := by omega
  rw [e, HT.sIx_nat]
  omega
theorem cutL_lo {α : Type} {xs : List α} {i : Int} (h0 : 0 ≤ i) (h : i ≤ xs.length) : cutL xs none (some i) = xs.take i.toNat := by
  unfold cutL
  rw [HT.sIx_none, sIx_nat' h0 h, Nat.sub_zero, List.drop_zero]
theorem cutL_hi {α : Type} {xs : List α} {i : Int} (h0 : 0 ≤ i) (h : i ≤ xs.length) : cutL xs (some i) none = xs.drop i.toNat := by
  unfold cutL
  rw [HT.sIx_none, sIx_nat' h0 h]
  exact List.take_of_length_le (by rw [List.length_drop]; omega)
theorem cutS_lo {z : Str} {i : Int} (h0 : 0 ≤ i) (h : i ≤ z.length) : cutS z none (some i) = mkS (z.cps.toList.take i.toNat) := by
  unfold cutS mkS
  rw [HT.sIx_none, sIx_nat' h0 h, Nat.sub_zero, List.drop_zero]
theorem cutS_hi {z : Str} {i : Int} (h0 : 0 ≤ i) (h : i ≤ z.length) : cutS z (some i) none = mkS (z.cps.toList.drop i.toNat) := by
  unfold cutS mkS
  rw [HT.sIx_none, sIx_nat' h0 h]
  rw [List.take_of_length_le (by rw [List.length_drop, Array.length_toList]; exact Nat.le_refl _)]
theorem tl_app (a b : Str) : (a ++ b).cps.toList = a.cps.toList ++ b.cps.toList := by
  show (a.cps ++ b.cps).toList = _
  simp
theorem len_appS (a b : Str) : (a ++ b).length = a.length + b.length := by
  rw [← tl_len, tl_app, List.length_append, tl_len, tl_len]
theorem foldl_reps (c : Array Nat) (n : Nat) : ∀ acc : Array Nat, ((List.replicate n c).foldl (· ++ ·) acc).toList = acc.toList ++ (List.replicate n c.toList).flatten := by
  induction n with
  | zero => intro acc; simp
  | succ n ih => intro acc; rw [List.replicate_succ, List.foldl_cons, ih, List.replicate_succ, List.flatten_cons]; simp
theorem mul_tl {z : Str} {n : Int} (h : 0 ≤ n) : (Txt.mul z n).cps.toList = (List.replicate n.toNat z.cps.toList).flatten := by
  unfold Txt.mul
  by_cases h1 : n < 1
  · have : n.toNat = 0 := by omega
    rw [if_pos h1, this]; rfl
  · rw [if_neg h1]
    by_cases h2 : (n == 1 || z.length == 0) = true
    · rw [if_pos h2]
      rw [Bool.or_eq_true, beq_iff_eq, beq_iff_eq] at h2
      rcases h2 with e | e
      · subst e
        show z.cps.toList = (List.replicate 1 z.cps.toList).flatten
        simp
      · have : z.cps.toList = [] := List.eq_nil_of_length_eq_zero (by rw [tl_len]; exact e)
        rw [this]
        simp
    · rw [if_neg h2, foldl_reps]
      simp
theorem mul_one {c : Nat} {n : Int} (h : 0 ≤ n) : (Txt.mul ⟨#[c]⟩ n).cps.toList = List.replicate n.toNat c := by
  rw [mul_tl h]
  show (List.replicate n.toNat [c]).flatten = _
  induction n.toNat with
  | zero => rfl
  | succ k ih => rw [List.replicate_succ, List.flatten_cons, ih, List.replicate_succ]; rfl
theorem sgB_iff {p : Nat → Bool} {rows : List Str} : sgB p rows = true ↔ (1 ≤ rows.length ∧ rows.length ≤ 40) ∧ (1 ≤ wid rows ∧ wid rows ≤ 40) ∧ ∀ s ∈ rows, s.length = wid rows ∧ ∀ c ∈ s.cps.toList, p c = true := by
  unfold sgB
  simp only [Bool.and_eq_true, decide_eq_true_eq, List.all_eq_true]
  exact ⟨fun ⟨⟨a, b⟩, c⟩ => ⟨a, b, c⟩, fun ⟨a, b, c⟩ => ⟨⟨a, b⟩, c⟩⟩
theorem sgB_no {p : Nat → Bool} {rows : List Str} (h : ¬ ((1 ≤ rows.length ∧ rows.length ≤ 40) ∧ (1 ≤ wid rows ∧ wid rows ≤ 40) ∧ ∀ s ∈ rows, s.length = wid rows ∧ ∀ c ∈ s.cps.toList, p c = true)) : sgB p rows = false := by
  cases e : sgB p rows with
  | true => exact absurd (sgB_iff.mp e) h
  | false => rfl
theorem wid_cons (s : Str) (l : List Str) : wid (s :: l) = s.length := by
  unfold wid
  have : ixD (s :: l) ((0 : Nat) : Int) = s := ixD_of rfl
  exact congrArg Str.length this
theorem wid_app {l m : List Str} (h : 0 < l.length) : wid (l ++ m) = wid l := by
  cases l with
  | nil => cases h
  | cons a l => rw [List.cons_append, wid_cons, wid_cons]
theorem take_drop_set {α : Type} {xs : List α} {n : Nat} {a : α} (h : n < xs.length) : xs.take n ++ [a] ++ xs.drop (n + 1) = xs.set n a := by
  rw [List.set_eq_take_append_cons_drop, if_pos h, List.append_assoc]; rfl
end Y

/-! plain facts: drawn charts, squares set -/
namespace Y
open PySem L2
def law_grid9M (_ : Unit) (a_rows : Int) (a_columns : Int) : WP (List Str) := (WP.b2 (WP.pure ()) (WP.pure (9 : Int)) m_take).bind fun a1_style => (WP.add (WP.pure (2 : Int)) (WP.b2 (WP.pure ()) (WP.pure (4 : Int)) m_take)).bind fun a2_chance => (WP.row (WP.pure ([] : List (List Str)))).bind fun a3_grid => (WP.range1 (WP.pure a_rows)).bind fun xs4 => WP.after (WP.loop (γ := (List Str)) (fun c4 (y4 : (List (List Str))) => (WP.row (WP.pure ([] : List Str))).bind fun a5_row => (WP.range1 (WP.pure a_columns)).bind fun xs6 => WP.after (WP.loop (γ := (List Str)) (fun c6 (y6 : (List Str)) => (WP.gt (WP.b2 (WP.pure ()) (WP.pure a2_chance) m_take) (WP.pure (0 : Int))).bind fun a7_land => ((WP.inI (WP.pure a1_style) (WP.row (WP.consE (WP.pure (1 : Int)) (WP.consE (WP.pure (2 : Int)) (WP.pure []))))).bind fun b => WP.cond b ((WP.not (WP.pure a7_land)).bind fun a20_land => (WP.pure a20_land)) ((WP.pure a7_land))).bind fun (y8 : Bool) => ((WP.eq (WP.pure a1_style) (WP.pure (3 : Int))).bind fun b => WP.cond b ((WP.eq (WP.mod (WP.min4 (WP.pure c4) (WP.pure c6) (WP.sub (WP.sub (WP.pure a_rows) (WP.pure (1 : Int))) (WP.pure c4)) (WP.sub (WP.sub (WP.pure a_columns) (WP.pure (1 : Int))) (WP.pure c6))) (WP.pure (2 : Int))) (WP.pure (0 : Int))).bind fun a19_land => (WP.pure a19_land)) ((WP.pure y8))).bind fun (y9 : Bool) => ((WP.eq (WP.pure a1_style) (WP.pure (4 : Int))).bind fun b => WP.cond b ((WP.or (WP.eq (WP.mod (WP.pure c4) (WP.pure (2 : Int))) (WP.pure (0 : Int))) (WP.eq (WP.pure c6) (WP.ix (WP.row (WP.consE (WP.pure (0 : Int)) (WP.consE (WP.sub (WP.pure a_columns) (WP.pure (1 : Int))) (WP.pure ([] : List Int))))) (WP.mod (WP.fdiv (WP.pure c4) (WP.pure (2 : Int))) (WP.pure (2 : Int)))))).bind fun a18_land => (WP.pure a18_land)) ((WP.pure y9))).bind fun (y10 : Bool) => ((WP.eq (WP.pure a1_style) (WP.pure (5 : Int))).bind fun b => WP.cond b ((WP.eq (WP.mod (WP.pure c6) (WP.pure (4 : Int))) (WP.pure (0 : Int))).bind fun a17_land => (WP.pure a17_land)) ((WP.pure y10))).bind fun (y11 : Bool) => ((WP.eq (WP.pure a1_style) (WP.pure (6 : Int))).bind fun b => WP.cond b ((WP.pure true).bind fun a16_land => (WP.pure a16_land)) ((WP.pure y11))).bind fun (y12 : Bool) => ((WP.eq (WP.pure a1_style) (WP.pure (7 : Int))).bind fun b => WP.cond b ((WP.pure false).bind fun a15_land => (WP.pure a15_land)) ((WP.pure y12))).bind fun (y13 : Bool) => ((WP.ite (WP.pure y13) (WP.pure (Str.ofString "x")) (WP.pure (Str.ofString "."))).bind fun a => WP.req (y6.length < 100000) (y6 ++ [a])).bind fun a14_row => (WP.pure (.nx a14_row))) xs6 a5_row) (fun (z6 : (List Str)) => (WP.req (y4.length < 100000) (y4 ++ [z6])).bind fun a21_grid => (WP.pure (.nx a21_grid))) (fun r => (WP.pure (.rt r)))) xs4 a3_grid) (fun (z4 : (List (List Str))) => (WP.range1 (WP.b2 (WP.pure ()) (WP.pure (5 : Int)) m_take)).bind fun xs22 => WP.after (WP.loop (γ := (List Str)) (fun c22 (y22 : (List (List Str))) => (WP.b2 (WP.pure ()) (WP.pure a_rows) m_take).bind fun a23_r => (WP.b2 (WP.pure ()) (WP.pure a_columns) m_take).bind fun a24_c => (WP.gset y22 (WP.ite (WP.eq (WP.ix (WP.ix (WP.pure y22) (WP.pure a23_r)) (WP.pure a24_c)) (WP.pure (Str.ofString "x"))) (WP.pure (Str.ofString ".")) (WP.pure (Str.ofString "x"))) (WP.pure a23_r) (WP.pure a24_c)).bind fun a25_grid => (WP.pure (.nx a25_grid))) xs22 z4) (fun (z22 : (List (List Str))) => ((WP.lc (WP.pure z22) (fun c1 => (WP.pure true)) (fun c1 => (WP.join (WP.pure (Str.ofString "")) (WP.pure c1)))).bind fun xs => WP.pure (α := List _) xs).bind fun r26 => (WP.pure r26)) (fun r => (WP.pure r))) (fun r => (WP.pure r))
def law_placeM (_ : Unit) (a_chart : (List Str)) : WP Sq := (WP.pair (WP.b2 (WP.pure ()) (WP.len (WP.pure a_chart)) m_take) (WP.b2 (WP.pure ()) (WP.lenS (WP.ix (WP.pure a_chart) (WP.pure (0 : Int)))) m_take)).bind fun r1 => (WP.pure r1)
def law_setM (a_chart : (List Str)) (a_spot : Sq) (a_sign : Str) : WP (List Str) := (WP.pure a_spot).bind fun a1_r_c => (WP.cat (WP.cat (WP.cut (WP.pure a_chart) (WP.pure none) ((WP.pure a1_r_c.1).bind fun x => WP.pure (some x))) (WP.row (WP.consE (WP.catS (WP.catS (WP.cutS' (WP.ix (WP.pure a_chart) (WP.pure a1_r_c.1)) (WP.pure none) ((WP.pure a1_r_c.2).bind fun x => WP.pure (some x))) (WP.pure a_sign)) (WP.cutS' (WP.ix (WP.pure a_chart) (WP.pure a1_r_c.1)) ((WP.add (WP.pure a1_r_c.2) (WP.pure (1 : Int))).bind fun x => WP.pure (some x)) (WP.pure none))) (WP.pure [])))) (WP.cut (WP.pure a_chart) ((WP.add (WP.pure a1_r_c.1) (WP.pure (1 : Int))).bind fun x => WP.pure (some x)) (WP.pure none))).bind fun r2 => (WP.pure r2)
def law_scene9M (_ : Unit) (a_most : Int) : WP (HL3 (List Str) Sq Sq) := (WP.add (WP.pure (1 : Int)) (WP.b2 (WP.pure ()) (WP.pure a_most) m_take)).bind fun a1_rows => (WP.add (WP.pure (1 : Int)) (WP.b2 (WP.pure ()) (WP.pure a_most) m_take)).bind fun a2_columns => (WP.b3 (WP.pure ()) (WP.pure a1_rows) (WP.pure a2_columns) law_grid9M).bind fun a3_chart => (WP.b2 (WP.pure ()) (WP.pure a3_chart) law_placeM).bind fun a4_a => (WP.b2 (WP.pure ()) (WP.pure a3_chart) law_placeM).bind fun a5_b => (WP.b2 (WP.pure ()) (WP.pure a3_chart) law_placeM).bind fun a6_other => ((WP.and (WP.gt (WP.b2 (WP.pure ()) (WP.pure (3 : Int)) m_take) (WP.pure (0 : Int))) (WP.gt (WP.add (WP.abs (WP.sub (WP.fst (WP.pure a6_other)) (WP.fst (WP.pure a4_a)))) (WP.abs (WP.sub (WP.snd (WP.pure a6_other)) (WP.snd (WP.pure a4_a))))) (WP.add (WP.abs (WP.sub (WP.fst (WP.pure a5_b)) (WP.fst (WP.pure a4_a)))) (WP.abs (WP.sub (WP.snd (WP.pure a5_b)) (WP.snd (WP.pure a4_a))))))).bind fun b => WP.cond b ((WP.pure a6_other).bind fun a9_b => (WP.pure a9_b)) ((WP.pure a5_b))).bind fun (y7 : Sq) => (WP.b3 (WP.b3 (WP.b3 (WP.pure a3_chart) (WP.pure a4_a) (WP.pure (Str.ofString "x")) law_setM) (WP.pure y7) (WP.pure (Str.ofString "x")) law_setM) (WP.pure a4_a) (WP.pure y7) fun a b c => WP.pure (⟨a, b, c⟩ : (HL3 (List Str) Sq Sq))).bind fun r8 => (WP.pure r8)
def law_inM (a_chart : (List Str)) (a_spot : Sq) : WP Bool := (WP.and (WP.chain (fun i j => decide (i ≤ j)) (fun i j => decide (i < j)) (WP.pure (0 : Int)) (WP.fst (WP.pure a_spot)) (WP.len (WP.pure a_chart))) (WP.chain (fun i j => decide (i ≤ j)) (fun i j => decide (i < j)) (WP.pure (0 : Int)) (WP.snd (WP.pure a_spot)) (WP.lenS (WP.ix (WP.pure a_chart) (WP.pure (0 : Int)))))).bind fun r1 => (WP.pure r1)
def law_atM (a_chart : (List Str)) (a_spot : Sq) : WP Bool := (WP.and (WP.b2 (WP.pure a_chart) (WP.pure a_spot) law_inM) (WP.eq (WP.ixS (WP.ix (WP.pure a_chart) (WP.fst (WP.pure a_spot))) (WP.snd (WP.pure a_spot))) (WP.pure (Str.ofString "x")))).bind fun r1 => (WP.pure r1)
def law_mixedM (_ : Unit) (a_things : (List (Sq × Int))) : WP (List (Sq × Int)) := (WP.b2 (WP.pure ()) (WP.add (WP.len (WP.pure a_things)) (WP.pure (1 : Int))) m_take).bind fun a1_start => (WP.cat (WP.cut (WP.pure a_things) ((WP.pure a1_start).bind fun x => WP.pure (some x)) (WP.pure none)) (WP.cut (WP.pure a_things) (WP.pure none) ((WP.pure a1_start).bind fun x => WP.pure (some x)))).bind fun a2_turned => ((WP.eq (WP.b2 (WP.pure ()) (WP.pure (2 : Int)) m_take) (WP.pure (0 : Int))).bind fun b => WP.cond b (((WP.pure a2_turned).bind fun xs => WP.pure xs.reverse).bind fun a4_turned => (WP.pure a4_turned)) ((WP.pure a2_turned))).bind fun (y3 : (List (Sq × Int))) => (WP.pure y3)
def law_pick1M (_ : Unit) (a_things : (List Sq)) : WP Sq := (WP.ix (WP.pure a_things) (WP.b2 (WP.pure ()) (WP.len (WP.pure a_things)) m_take)).bind fun r1 => (WP.pure r1)
def law_pick1qM (_ : Unit) (a_things : (List (Sq × Int))) : WP (Sq × Int) := (WP.ix (WP.pure a_things) (WP.b2 (WP.pure ()) (WP.len (WP.pure a_things)) m_take)).bind fun r1 => (WP.pure r1)
structure ChO (n m : Int) (ch : List Str) : Prop where
  good : Ch ch
  len : (ch.length : Int) = n
  wd : (wid ch : Int) = m
  sg : ∀ s ∈ ch, ∀ c ∈ s.cps.toList, c = 120 ∨ c = 46
/-- a grid of signs -/
structure SGrid (G : List (List Str)) (k m : Nat) : Prop where
  len : G.length = k
  row : ∀ r ∈ G, r.length = m ∧ ∀ d ∈ r, d = ⟨#[120]⟩ ∨ d = ⟨#[46]⟩
theorem SGrid.set {G : List (List Str)} {k m : Nat} (g : SGrid G k m) {r c : Int} {v : Str} (hr : 0 ≤ r) (hr2 : r < k) (hv : v = ⟨#[120]⟩ ∨ v = ⟨#[46]⟩) : SGrid (setG G r c v) k m := by
  unfold setG
  refine ⟨by rw [setL_len]; exact g.len, fun x hx => ?_⟩
  rcases setL_mem hx with hx | rfl
  · exact g.row x hx
  · have hm := ixD_mem (xs := G) hr (by rw [g.len]; exact hr2)
    refine ⟨by rw [setL_len]; exact (g.row _ hm).1, fun d hd => ?_⟩
    rcases setL_mem hd with hd | rfl
    · exact (g.row _ hm).2 d hd
    · exact hv
def cod (s : Str) : Nat := ixD s.cps.toList 0
theorem cod_one {s : Str} (h : s = ⟨#[120]⟩ ∨ s = ⟨#[46]⟩) : s = ⟨#[cod s]⟩ ∧ (cod s = 120 ∨ cod s = 46) := by
  rcases h with h | h <;> subst h <;> exact ⟨by decide, by decide⟩
theorem rowC_is {r : List Str} (h : ∀ d ∈ r, d = ⟨#[120]⟩ ∨ d = ⟨#[46]⟩) (hl : r.length ≤ 100000) : Is (WP.join (WP.pure (Str.ofString "")) (WP.pure r)) (mkS (r.map cod)) := by
  refine join1_is (h := ?_) (by rw [List.length_map]; exact hl)
  have : r = (r.map cod).map fun c => (⟨#[c]⟩ : Str) := by
    rw [List.map_map]
    conv => lhs; rw [← List.map_id r]
    exact List.map_congr_left fun d hd => (cod_one (h d hd)).1
  rw [← this]
  exact Is.pure
theorem chO_of {G : List (List Str)} {k m : Nat} (g : SGrid G k m) (hk : 0 < k) (hk2 : k ≤ 300) (hm : 0 < m) (hm2 : m ≤ 300) : ChO (k : Int) (m : Int) (G.map fun r => mkS (r.map cod)) := by
  have hw : ∀ s ∈ G.map (fun r => mkS (r.map cod)), s.length = m := fun s hs => by
    obtain ⟨r, hr, rfl⟩ := List.mem_map.mp hs
    rw [mkS_len, List.length_map]
    exact (g.row r hr).1
  have hl : (G.map fun r => mkS (r.map cod)).length = k := by rw [List.length_map]; exact g.len
  have hwid : wid (G.map fun r => mkS (r.map cod)) = m := hw _ (ixD_mem (by omega) (by omega))
  refine ⟨⟨by omega, by omega, fun s hs => by rw [hwid]; exact hw s hs, by omega, by omega⟩, by rw [hl], by rw [hwid], fun s hs c hc => ?_⟩
  obtain ⟨r, hr, rfl⟩ := List.mem_map.mp hs
  rw [tl_mkS] at hc
  obtain ⟨d, hd, rfl⟩ := List.mem_map.mp hc
  exact (cod_one ((g.row r hr).2 d hd)).2
theorem x_of : (Str.ofString "x") = ⟨#[120]⟩ := by decide +kernel
theorem dot_of : (Str.ofString ".") = ⟨#[46]⟩ := by decide +kernel
theorem Gives.bind {α β : Type} {w : WP α} {P : α → Prop} {f : α → WP β} {P' : β → Prop} (h : Gives w P) (h' : ∀ a, P a → Gives (f a) P') : Gives (w.bind f) P' := fun n Q q => h n _ fun a ha => h' a ha n Q q
theorem Gives.pure {α : Type} {a : α} {P : α → Prop} (h : P a) : Gives (WP.pure a) P := fun n Q q => q a h
theorem Is.gives {α : Type} {w : WP α} {a : α} {P : α → Prop} (h : Is w a) (hp : P a) : Gives w P := fun n Q q => h n Q (q a hp)
theorem Gives.draws {α : Type} {w : WP α} {P : α → Prop} {k : Nat} (h : Gives w P) : Draws w k P := fun n Q _ q => h n Q fun a ha => q n a (Nat.le_refl _) (by omega) ha
theorem Gives.cond {α : Type} {b : Bool} {A B : WP α} {P : α → Prop} (h : b = true → Gives A P) (k : b = false → Gives B P) : Gives (WP.cond b A B) P := by
  cases b with
  | true => exact h rfl
  | false => exact k rfl
theorem Draws.cond {α : Type} {b : Bool} {A B : WP α} {k : Nat} {P : α → Prop} (h : b = true → Draws A k P) (h' : b = false → Draws B k P) : Draws (WP.cond b A B) k P := by
  cases b with
  | true => exact h rfl
  | false => exact h' rfl
abbrev tt {α : Type} : α → Prop := fun _ => True
/-- a sign put behind a row -/
theorem sign_app {y : List Str} {j : Nat} (b : Bool) (hl : y.length = j) (hj : j < 300) (h : ∀ d ∈ y, d = (⟨#[120]⟩ : Str) ∨ d = ⟨#[46]⟩) : Gives (((WP.ite (WP.pure b) (WP.pure (Str.ofString "x")) (WP.pure (Str.ofString "."))).bind fun a => WP.req (y.length < 100000) (y ++ [a])).bind fun a14_row => (WP.pure (α := Ctl (List Str) (List Str)) (.nx a14_row))) (fun c => ∃ z, c = .nx z ∧ z.length = j + 1 ∧ ∀ d ∈ z, d = (⟨#[120]⟩ : Str) ∨ d = ⟨#[46]⟩) := by
  have fin : ∀ v : Str, (v = ⟨#[120]⟩ ∨ v = ⟨#[46]⟩) → (y ++ [v]).length = j + 1 ∧ ∀ d ∈ y ++ [v], d = (⟨#[120]⟩ : Str) ∨ d = ⟨#[46]⟩ := fun v hv => by
    refine ⟨by rw [List.length_append, hl]; rfl, fun d hd => ?_⟩
    rcases List.mem_append.mp hd with hd | hd
    · exact h d hd
    · rw [List.mem_singleton.mp hd]; exact hv
  intro n Q q
  simp only [WP.run_bind, WP.run_pure, WP.run_req, WP.run_any, WP.run_take, WP.run_cond, WP.run_range1, WP.run_range2, decide_eq_true_eq, decide_eq_false_iff_not, Bool.not_eq_true', Bool.not_eq_false']
  exact ⟨fun _ => ⟨by omega, q _ ⟨_, rfl, fin _ (.inl x_of)⟩⟩, fun _ => ⟨by omega, q _ ⟨_, rfl, fin _ (.inr dot_of)⟩⟩⟩
theorem grid_end {G : List (List Str)} {k m : Nat} (g : SGrid G k m) (hk : 0 < k) (hk2 : k ≤ 300) (hm : 0 < m) (hm2 : m ≤ 300) : Gives (((WP.lc (WP.pure G) (fun c1 => (WP.pure true)) (fun c1 => (WP.join (WP.pure (Str.ofString "")) (WP.pure c1)))).bind fun xs => WP.pure (α := List _) xs).bind fun r26 => (WP.pure r26)) (ChO (k : Int) (m : Int)) :=
  Is.gives (Is.ret (Is.bind (Is.lcM (g := fun r => mkS (r.map cod)) Is.pure (by rw [g.len]; omega) fun r hr => rowC_is (g.row r hr).2 (by rw [(g.row r hr).1]; omega)) Is.pure)) (chO_of g hk hk2 hm hm2)
/-- a sign turned -/
theorem grid_turn {G : List (List Str)} {k m : Nat} (g : SGrid G k m) {rows columns : Int} (hr : rows = (k : Int)) (hc : columns = (m : Int)) (hk : 0 < k) (hk2 : k ≤ 300) (hm : 0 < m) (hm2 : m ≤ 300) : Draws ((WP.b2 (WP.pure ()) (WP.pure rows) m_take).bind fun a23_r => (WP.b2 (WP.pure ()) (WP.pure columns) m_take).bind fun a24_c => (WP.gset G (WP.ite (WP.eq (WP.ix (WP.ix (WP.pure G) (WP.pure a23_r)) (WP.pure a24_c)) (WP.pure (Str.ofString "x"))) (WP.pure (Str.ofString ".")) (WP.pure (Str.ofString "x"))) (WP.pure a23_r) (WP.pure a24_c)).bind fun a25_grid => (WP.pure (α := Ctl (List (List Str)) (List Str)) (.nx a25_grid))) 2 (fun c => ∃ z, c = .nx z ∧ SGrid z k m) := by
  intro n Q hn q
  simp only [WP.run_bind, WP.run_pure, WP.run_req, WP.run_any, WP.run_take, WP.run_cond, WP.run_range1, WP.run_range2, decide_eq_true_eq, decide_eq_false_iff_not, Bool.not_eq_true', Bool.not_eq_false']
  refine ⟨by omega, by omega, fun r r1 r2 => ⟨by omega, by omega, fun c c1 c2 => ?_⟩⟩
  have hl := g.len
  have hrow := (g.row _ (ixD_mem r1 (by omega))).1
  have o1 : okI G.length r := ⟨by omega, by omega⟩
  have o2 : okI (ixD G r).length c := ⟨by omega, by omega⟩
  refine ⟨o1, o2, fun _ => ⟨o1, o2, ?_⟩, fun _ => ⟨o1, o2, ?_⟩⟩
  · exact q _ _ (by omega) (by omega) ⟨_, rfl, g.set r1 (by omega) (.inr dot_of)⟩
  · exact q _ _ (by omega) (by omega) ⟨_, rfl, g.set r1 (by omega) (.inl x_of)⟩
theorem edge_ok {rows columns r c : Int} : Gives (WP.eq (WP.mod (WP.min4 (WP.pure r) (WP.pure c) (WP.sub (WP.sub (WP.pure rows) (WP.pure (1 : Int))) (WP.pure r)) (WP.sub (WP.sub (WP.pure columns) (WP.pure (1 : Int))) (WP.pure c))) (WP.pure (2 : Int))) (WP.pure (0 : Int))) tt := by
  intro n Q q
  simp only [WP.run_bind, WP.run_pure, WP.run_req, WP.run_any, WP.run_take, WP.run_cond, WP.run_range1, WP.run_range2, decide_eq_true_eq, decide_eq_false_iff_not, Bool.not_eq_true', Bool.not_eq_false']
  exact ⟨by decide, q _ trivial⟩
theorem wind_ok {columns r c : Int} : Gives (WP.or (WP.eq (WP.mod (WP.pure r) (WP.pure (2 : Int))) (WP.pure (0 : Int))) (WP.eq (WP.pure c) (WP.ix (WP.row (WP.consE (WP.pure (0 : Int)) (WP.consE (WP.sub (WP.pure columns) (WP.pure (1 : Int))) (WP.pure ([] : List Int))))) (WP.mod (WP.fdiv (WP.pure r) (WP.pure (2 : Int))) (WP.pure (2 : Int)))))) tt := by
  intro n Q q
  simp only [WP.run_bind, WP.run_pure, WP.run_req, WP.run_any, WP.run_take, WP.run_cond, WP.run_range1, WP.run_range2, decide_eq_true_eq, decide_eq_false_iff_not, Bool.not_eq_true', Bool.not_eq_false']
  have e3 : ([0, columns - 1] : List Int).length = 2 := rfl
  refine ⟨by decide, fun _ => q _ trivial, fun _ => ⟨by rw [e3]; decide, ⟨by decide, by decide⟩, by decide, ⟨by omega, by omega⟩, q _ trivial⟩⟩
theorem style_if {t : WP Bool} {A : WP Bool} {y : Bool} (ht : Gives t tt) (hA : Gives A tt) : Gives (t.bind fun b => WP.cond b (A.bind fun a => (WP.pure a)) (WP.pure y)) tt := ht.bind fun b _ => Gives.cond (fun _ => hA.bind fun _ _ => Gives.pure trivial) fun _ => Gives.pure trivial
theorem eq_ok {a b : Int} : Gives (WP.eq (WP.pure a) (WP.pure b)) tt := fun _ _ q => q _ trivial
theorem draw_grid9 {rows columns : Int} (hr : 1 ≤ rows) (hr2 : rows ≤ 40) (hc : 1 ≤ columns) (hc2 : columns ≤ 40) : Draws (law_grid9M () rows columns) 2000 (ChO rows columns) := by
  have er : ((rows.toNat : Nat) : Int) = rows := by omega
  have ec : ((columns.toNat : Nat) : Int) = columns := by omega
  have hmul : rows.toNat * columns.toNat ≤ 40 * 40 := Nat.mul_le_mul (by omega) (by omega)
  have tk : ∀ many : Int, 0 < many → Draws (WP.b2 (WP.pure ()) (WP.pure many) m_take) 1 (fun x => 0 ≤ x ∧ x < many) := fun many h => Draws.take h
  unfold law_grid9M
  refine Draws.imp (k := 1 + (1 + (0 + (0 + ((rangeL 0 rows).length * (columns.toNat) + 9))))) ?_ (by rw [rangeL0_len]; omega) (fun _ h => h)
  refine Draws.bind (tk 9 (by decide)) fun style hs => Draws.bind (k := 1) (P := fun x => 2 ≤ x) (fun n Q hn q => ⟨by omega, by decide, fun x x0 x1 => q _ _ (by omega) (by omega) (by omega)⟩) fun ch hch => ?_
  refine Draws.bind (Is.draws (Is.req (by simp))) fun G0 hG0 => ?_
  subst hG0
  refine Draws.bind (P := fun xs => xs = rangeL 0 rows) (Is.draws (by rw [← er]; exact Is.range1 (k := rows.toNat) Is.pure (by omega))) fun xs hxs => ?_
  subst hxs
  refine Draws.loop (fun i y => SGrid y i columns.toNat) columns.toNat ⟨rfl, fun _ h => by cases h⟩ (fun i a y ha hg => ?_) (fun y hg => ?_)
  · obtain ⟨rfl, hi⟩ := rangeL0_get ha
    refine Draws.imp (k := 0 + (0 + ((rangeL 0 columns).length * 1 + 0))) ?_ (by rw [rangeL0_len]; omega) (fun _ h => h)
    refine Draws.bind (Is.draws (Is.req (by simp))) fun G0 hG0 => ?_
    subst hG0
    refine Draws.bind (P := fun xs => xs = rangeL 0 columns) (Is.draws (by rw [← ec]; exact Is.range1 (k := columns.toNat) Is.pure (by omega))) fun xs hxs => ?_
    subst hxs
    refine Draws.loop (fun j r => r.length = j ∧ ∀ d ∈ r, d = (⟨#[120]⟩ : Str) ∨ d = ⟨#[46]⟩) 1 ⟨rfl, fun _ h => by cases h⟩ (fun j b r hb hr' => ?_) (fun r hr' => ?_)
    · obtain ⟨rfl, hj⟩ := rangeL0_get hb
      refine Draws.imp (k := 1 + 0) ?_ (by omega) (fun _ h => h)
      refine Draws.bind (P := tt) (fun n Q hn q => ⟨by omega, by omega, fun x x0 x1 => q _ _ (by omega) (by omega) trivial⟩) fun b _ => Gives.draws ?_
      refine Gives.bind (P := tt) ((Is.gives (P := tt) (Is.b2 (f := fun x xs => WP.pure (decide (x ∈ xs))) Is.pure (Is.req (by simp)) Is.pure) trivial).bind fun b _ => Gives.cond (fun _ => Gives.pure trivial) fun _ => Gives.pure trivial) fun _ _ => ?_
      refine Gives.bind (style_if eq_ok edge_ok) fun _ _ => ?_
      refine Gives.bind (style_if eq_ok wind_ok) fun _ _ => ?_
      refine Gives.bind (style_if eq_ok (fun n Q q => by simp only [WP.run_bind, WP.run_pure, WP.run_req, WP.run_any, WP.run_take, WP.run_cond, WP.run_range1, WP.run_range2, decide_eq_true_eq, decide_eq_false_iff_not, Bool.not_eq_true', Bool.not_eq_false']; exact ⟨by decide, q _ trivial⟩)) fun _ _ => ?_
      refine Gives.bind (style_if eq_ok (Gives.pure trivial)) fun _ _ => ?_
      refine Gives.bind (style_if eq_ok (Gives.pure trivial)) fun _ _ => ?_
      exact sign_app _ hr'.1 (by omega) hr'.2
    · refine Gives.draws (Is.gives (Is.bind (Is.req (by have := hg.len; omega)) Is.pure) ⟨_, rfl, by rw [List.length_append, hg.len]; rfl, fun r2 hr2 => ?_⟩)
      rcases List.mem_append.mp hr2 with h | h
      · exact hg.row r2 h
      · rw [List.mem_singleton.mp h]
        refine ⟨by rw [hr'.1, rangeL0_len], hr'.2⟩
  · rw [rangeL0_len] at hg
    refine Draws.imp (k := 1 + 8) ?_ (by omega) (fun _ h => h)
    refine Draws.bind (P := fun xs => xs.length ≤ 4) (fun n Q hn q => ⟨by omega, by decide, fun x x0 x1 => ⟨⟨by omega, by omega⟩, q _ _ (by omega) (by omega) (by show (rangeL 0 x).length ≤ 4; rw [rangeL0_len]; omega)⟩⟩) fun xs hxs => ?_
    refine Draws.imp (k := xs.length * 2 + 0) ?_ (by omega) (fun _ h => h)
    refine Draws.loop (fun _ G => SGrid G rows.toNat columns.toNat) 2 hg (fun i a G ha hG => grid_turn hG er.symm ec.symm (by omega) (by omega) (by omega) (by omega)) (fun G hG => ?_)
    refine Draws.imp (Gives.draws (grid_end hG (by omega) (by omega) (by omega) (by omega))) (Nat.le_refl _) fun ch h => ?_
    rw [er, ec] at h
    exact h
/-! squares drawn and set -/
theorem draw_place {ch : List Str} (c : Ch ch) : Draws (law_placeM () ch) 2 (fun q => isSq ch q = true) := by
  intro n Q hn q
  have h0 := c.ne
  have h1 := c.w0
  unfold law_placeM
  simp only [WP.run_bind, WP.run_pure, WP.run_req, WP.run_any, WP.run_take, WP.run_cond, WP.run_range1, WP.run_range2, decide_eq_true_eq, decide_eq_false_iff_not, Bool.not_eq_true', Bool.not_eq_false']
  refine ⟨by omega, by omega, fun x x0 x1 => ⟨c.ok0, c.wl0, by omega, by show 0 < ((wid ch : Nat) : Int); omega, fun y y0 y1 => q _ _ (by omega) (by omega) (isSq_iff.mpr ⟨x0, x1, y0, y1⟩)⟩⟩
theorem law_in_is {ch : List Str} (c : Ch ch) (q : Sq) : Is (law_inM ch q) (isSq ch q) :=
  Is.ret (Is.and (Is.chain Is.pure (Is.pure.bind Is.pure) fun _ => Is.len Is.pure) fun _ => Is.chain Is.pure (Is.pure.bind Is.pure) fun _ => Is.wid0 c)
theorem law_at_is {ch : List Str} (c : Ch ch) (q : Sq) : Is (law_atM ch q) (isLd ch q) :=
  Is.ret (Is.and (Is.b2 Is.pure Is.pure (law_in_is c q)) fun h => Is.b2 (Is.sign c h) Is.pure Is.pure)
def setCh (ch : List Str) (q : Sq) (k : Nat) : List Str := ch.set q.1.toNat (mkS ((ixD ch q.1).cps.toList.set q.2.toNat k))
theorem law_set_is {ch : List Str} (c : Ch ch) {q : Sq} (h : isSq ch q = true) (k : Nat) : Is (law_setM ch q ⟨#[k]⟩) (setCh ch q k) := by
  intro n Q hQ
  have hh := isSq_iff.mp h
  have hl := c.len1 h
  have hw := c.wl
  have hhl := c.hl
  have tlo := tl_len (ixD ch q.1)
  unfold law_setM
  simp only [WP.run_bind, WP.run_pure, WP.run_req, WP.run_any, WP.run_take, WP.run_cond, WP.run_range1, WP.run_range2, decide_eq_true_eq, decide_eq_false_iff_not, Bool.not_eq_true', Bool.not_eq_false']
  rw [cutS_lo hh.2.2.1 (by omega), cutS_hi (by omega) (by omega), cutL_lo hh.1 (by omega), cutL_hi (by omega) (by omega)]
  have one : (⟨#[k]⟩ : Str).length = 1 := rfl
  simp only [mkS_len, len_appS, List.length_append, List.length_cons, List.length_nil, List.length_take, List.length_drop, one, tlo]
  refine ⟨c.ok1 h, by omega, by omega, c.ok1 h, by omega, by omega, by omega, by omega, by omega, ?_⟩
  have e : ch.take q.1.toNat ++ [mkS ((ixD ch q.1).cps.toList.take q.2.toNat) ++ ⟨#[k]⟩ ++ mkS ((ixD ch q.1).cps.toList.drop (q.2 + 1).toNat)] ++ ch.drop (q.1 + 1).toNat = setCh ch q k := by
    have e1 : (q.1 + 1).toNat = q.1.toNat + 1 := by omega
    have e2 : (q.2 + 1).toNat = q.2.toNat + 1 := by omega
    have e3 : mkS ((ixD ch q.1).cps.toList.take q.2.toNat) ++ ⟨#[k]⟩ ++ mkS ((ixD ch q.1).cps.toList.drop (q.2.toNat + 1)) = mkS ((ixD ch q.1).cps.toList.set q.2.toNat k) := by
      apply str_ext
      rw [tl_app, tl_app, tl_mkS, tl_mkS, tl_mkS]
      exact take_drop_set (by omega)
    rw [e1, e2, e3, take_drop_set (by omega)]
    rfl
  rw [e]
  exact hQ
theorem ixD_set {α : Type} [Inhabited α] {xs : List α} {n : Nat} {a : α} {i : Int} (h0 : 0 ≤ i) (h : i < xs.length) : ixD (xs.set n a) i = if n = i.toNat then a else ixD xs i := by
  obtain ⟨h1, e1⟩ := ixD_get h0 h
  obtain ⟨h2, e2⟩ := ixD_get (xs := xs.set n a) h0 (by rw [List.length_set]; exact h)
  rw [e1, e2, List.getElem_set]
section
variable {ch : List Str} {q : Sq} (c : Ch ch) (h : isSq ch q = true) (k : Nat)
include c h
theorem setCh_wid : wid (setCh ch q k) = wid ch := by
  unfold wid setCh
  rw [ixD_set (by omega) (by have := c.ne; omega)]
  split
  · rw [mkS_len, List.length_set, tl_len, c.len1 h]; rfl
  · rfl
theorem setCh_sq (p : Sq) : isSq (setCh ch q k) p = isSq ch p := by
  unfold isSq
  rw [setCh_wid c h k]
  unfold setCh
  rw [List.length_set]
theorem setCh_ch : Ch (setCh ch q k) := by
  have hl : (setCh ch q k).length = ch.length := by unfold setCh; rw [List.length_set]
  refine ⟨by rw [hl]; exact c.ne, by rw [hl]; exact c.hl, fun s hs => ?_, by rw [setCh_wid c h]; exact c.w0, by rw [setCh_wid c h]; exact c.wl⟩
  rw [setCh_wid c h]
  rcases List.mem_or_eq_of_mem_set hs with hs | hs
  · exact c.w s hs
  · rw [hs, mkS_len, List.length_set, tl_len, c.len1 h]
theorem setCh_ld (p : Sq) : isLd (setCh ch q k) p = if p = q then decide (k = 120) else isLd ch p := by
  have hh := isSq_iff.mp h
  unfold isLd
  rw [setCh_sq c h k]
  cases e : isSq ch p with
  | false =>
    rw [Bool.false_and]
    split
    · rename_i g; subst g; rw [e] at h; cases h
    · rfl
  | true =>
    have hp := isSq_iff.mp e
    rw [Bool.true_and, Bool.true_and]
    have e1 : ixD (setCh ch q k) p.1 = if q.1.toNat = p.1.toNat then mkS ((ixD ch q.1).cps.toList.set q.2.toNat k) else ixD ch p.1 := by
      unfold setCh
      exact ixD_set hp.1 hp.2.1
    rw [e1]
    by_cases g1 : q.1.toNat = p.1.toNat
    · rw [if_pos g1]
      have g1' : q.1 = p.1 := by omega
      have e2 : sgn (mkS ((ixD ch q.1).cps.toList.set q.2.toNat k)) p.2 = ⟨#[if q.2.toNat = p.2.toNat then k else ixD (ixD ch q.1).cps.toList p.2]⟩ := by
        unfold sgn
        rw [tl_mkS, ixD_set hp.2.2.1 (by rw [tl_len, c.len1 h]; exact hp.2.2.2)]
      rw [e2]
      by_cases g2 : q.2.toNat = p.2.toNat
      · have : p = q := by apply Prod.ext <;> omega
        rw [if_pos g2, if_pos this, x_str]
        simp only [one_eq]
      · have : p ≠ q := fun z => g2 (by rw [z])
        rw [if_neg g2, if_neg this, g1']
        rfl
    · have : p ≠ q := fun z => g1 (by rw [z])
      rw [if_neg g1, if_neg this]
theorem setCh_sg (hs : ∀ s ∈ ch, ∀ c ∈ s.cps.toList, c = 120 ∨ c = 46) (hk : k = 120 ∨ k = 46) : ∀ s ∈ setCh ch q k, ∀ c ∈ s.cps.toList, c = 120 ∨ c = 46 := by
  intro s hm x hx
  have hh := isSq_iff.mp h
  rcases List.mem_or_eq_of_mem_set hm with hm | hm
  · exact hs s hm x hx
  · rw [hm, tl_mkS] at hx
    rcases List.mem_or_eq_of_mem_set hx with hx | hx
    · exact hs _ (ixD_mem hh.1 hh.2.1) x hx
    · rw [hx]; exact hk
end
theorem draw_pick1 {row : List Sq} (h : 0 < row.length) (hl : row.length ≤ 100000) : Draws (law_pick1M () row) 1 (· ∈ row) := by
  intro n Q hn q
  unfold law_pick1M
  simp only [WP.run_bind, WP.run_pure, WP.run_req, WP.run_any, WP.run_take, WP.run_cond, WP.run_range1, WP.run_range2, decide_eq_true_eq, decide_eq_false_iff_not, Bool.not_eq_true', Bool.not_eq_false']
  exact ⟨by omega, by omega, fun x h1 h2 => ⟨⟨by omega, by omega⟩, q _ _ (by omega) (by omega) (ixD_mem h1 h2)⟩⟩
theorem draw_pick1q {row : List (Sq × Int)} (h : 0 < row.length) (hl : row.length ≤ 100000) : Draws (law_pick1qM () row) 1 (· ∈ row) := by
  intro n Q hn q
  unfold law_pick1qM
  simp only [WP.run_bind, WP.run_pure, WP.run_req, WP.run_any, WP.run_take, WP.run_cond, WP.run_range1, WP.run_range2, decide_eq_true_eq, decide_eq_false_iff_not, Bool.not_eq_true', Bool.not_eq_false']
  exact ⟨by omega, by omega, fun x h1 h2 => ⟨⟨by omega, by omega⟩, q _ _ (by omega) (by omega) (ixD_mem h1 h2)⟩⟩
/-- a row begun elsewhere, perhaps turned -/
theorem draw_mixed {row : List (Sq × Int)} (hl : row.length ≤ 50000) : Draws (law_mixedM () row) 2 (fun r => r.Perm row) := by
  intro n Q hn q
  unfold law_mixedM
  simp only [WP.run_bind, WP.run_pure, WP.run_req, WP.run_any, WP.run_take, WP.run_cond, WP.run_range1, WP.run_range2, decide_eq_true_eq, decide_eq_false_iff_not, Bool.not_eq_true', Bool.not_eq_false']
  refine ⟨by omega, by omega, fun x x0 x1 => ?_⟩
  rw [cutL_hi x0 (by omega), cutL_lo x0 (by omega)]
  have hp : (row.drop x.toNat ++ row.take x.toNat).Perm row := by
    have := List.perm_append_comm (l₁ := row.drop x.toNat) (l₂ := row.take x.toNat)
    rwa [List.take_append_drop] at this
  refine ⟨by rw [List.length_drop, List.length_take]; omega, by omega, by decide, fun y y0 y1 => ⟨fun _ => q _ _ (by omega) (by omega) ((List.reverse_perm _).trans hp), fun _ => q _ _ (by omega) (by omega) hp⟩⟩
theorem draw_scene9 {most : Int} (h : 1 ≤ most) (h2 : most ≤ 20) : Draws (law_scene9M () most) 2100 (fun s => Ch s.a ∧ s.a.length ≤ 20 ∧ wid s.a ≤ 20 ∧ isLd s.a s.b = true ∧ isLd s.a s.c = true) := by
  intro n Q hn q
  unfold law_scene9M
  simp only [WP.run_bind, WP.run_pure, WP.run_req, WP.run_any, WP.run_take, WP.run_cond, WP.run_range1, WP.run_range2, decide_eq_true_eq, decide_eq_false_iff_not, Bool.not_eq_true', Bool.not_eq_false']
  refine ⟨by omega, by omega, fun x x0 x1 => ⟨by omega, by omega, fun y y0 y1 => ?_⟩⟩
  refine draw_grid9 (rows := 1 + x) (columns := 1 + y) (by omega) (by omega) (by omega) (by omega) _ _ (by omega) fun m ch h1 h2 hc => ?_
  have c := hc.good
  refine draw_place c _ _ (by omega) fun m2 a h3 h4 ha => ?_
  refine draw_place c _ _ (by omega) fun m3 b h5 h6 hb => ?_
  refine draw_place c _ _ (by omega) fun m4 o h7 h8 ho => ?_
  have hlen := hc.len
  have hwd := hc.wd
  have fin : ∀ p, isSq ch p = true → ∀ m', n ≤ m' → m' ≤ n + 2100 → (law_setM ch a (Str.ofString "x")).run m' (fun m1 c1 => (law_setM c1 p (Str.ofString "x")).run m1 fun m2 c2 => Q m2 (⟨c2, a, p⟩ : HL3 (List Str) Sq Sq)) := fun p hp m' g1 g2 => by
    rw [x_of]
    refine law_set_is c ha 120 _ _ ?_
    have c1 := setCh_ch c ha 120
    have hp1 : isSq (setCh ch a 120) p = true := by rw [setCh_sq c ha]; exact hp
    refine law_set_is c1 hp1 120 _ _ ?_
    refine q _ _ g1 g2 ⟨setCh_ch c1 hp1 120, ?_, ?_, ?_, ?_⟩
    · show (setCh (setCh ch a 120) p 120).length ≤ 20
      unfold setCh
      rw [List.length_set, List.length_set]; omega
    · show wid (setCh (setCh ch a 120) p 120) ≤ 20
      rw [setCh_wid c1 hp1, setCh_wid c ha]; omega
    · show isLd (setCh (setCh ch a 120) p 120) a = true
      rw [setCh_ld c1 hp1]
      split
      · decide
      · rw [setCh_ld c ha, if_pos rfl]; decide
    · show isLd (setCh (setCh ch a 120) p 120) p = true
      rw [setCh_ld c1 hp1, if_pos rfl]; decide
  refine ⟨by omega, by decide, fun z z0 z1 => ⟨fun _ => ⟨fun _ => fin o ho _ (by omega) (by omega), fun _ => fin b hb _ (by omega) (by omega)⟩, fun _ => ⟨(fun z => by cases z), fun _ => fin b hb _ (by omega) (by omega)⟩⟩⟩
end Y

/-! plain facts: papers of heights -/
namespace Y
open PySem L2
abbrev HP := List (Sq × Int)
def ht (p : HP) (q : Sq) : Int := (lookK p q).getD 0
structure OkP (p : HP) : Prop where
  nd : (p.map (·.1)).Nodup
  nn : ∀ x ∈ p, 0 ≤ x.2
def Shows (dom : Sq → Bool) (inc : Sq → Int) (a b : Sq) (n : Int) (p : HP) : Prop := OkP p ∧ n ≤ ht p a ∧ ht p b = 0 ∧ (∀ x ∈ p, dom x.1 = true) ∧ ∀ x ∈ p, ∀ o ∈ sides x.1, dom o = true → x.2 ≤ ht p o + inc o
theorem ht_mem {p : HP} (nd : (p.map (·.1)).Nodup) {q : Sq} {h : Int} (m : (q, h) ∈ p) : ht p q = h := by
  unfold ht
  rw [lookK_mem nd m]; rfl
theorem ht_none {p : HP} {q : Sq} (h : q ∉ p.map (·.1)) : ht p q = 0 := by
  unfold ht
  cases e : lookK p q with
  | none => rfl
  | some d => exact absurd (List.mem_map.mpr ⟨_, lookK_some e, rfl⟩) h
theorem ht_cases (p : HP) (q : Sq) : (q, ht p q) ∈ p ∨ (q ∉ p.map (·.1) ∧ ht p q = 0) := by
  cases e : lookK p q with
  | none => exact .inr ⟨lookK_none e, by unfold ht; rw [e]; rfl⟩
  | some d =>
    left
    have := lookK_some e
    unfold ht
    rw [e]; exact this
theorem OkP.nneg {p : HP} (h : OkP p) (q : Sq) : 0 ≤ ht p q := by
  rcases ht_cases p q with m | ⟨_, e⟩
  · exact h.nn _ m
  · rw [e]; exact Int.le_refl _
theorem getK_ht {p : HP} {q : Sq} : getK p q = ht p q := rfl
/-- the same pairs in another order -/
theorem ht_perm {p r : HP} (h : p.Perm r) (nd : (p.map (·.1)).Nodup) (q : Sq) : ht p q = ht r q := by
  have nd' : (r.map (·.1)).Nodup := (h.map _).nodup nd
  rcases ht_cases p q with m | ⟨m, e⟩
  · exact (ht_mem nd' (h.mem_iff.mp m)).symm
  · rw [e, ht_none fun z => m ((h.map _).mem_iff.mpr z)]
theorem Shows.perm {dom : Sq → Bool} {inc : Sq → Int} {a b : Sq} {n : Int} {p r : HP} (h : Shows dom inc a b n p) (e : p.Perm r) : Shows dom inc a b n r := by
  obtain ⟨h1, h2, h3, h4, h5⟩ := h
  have hh := ht_perm e h1.nd
  refine ⟨⟨(e.map _).nodup h1.nd, fun x m => h1.nn x (e.mem_iff.mpr m)⟩, by rw [← hh]; exact h2, by rw [← hh]; exact h3, fun x m => h4 x (e.mem_iff.mpr m), fun x m o ho hd => ?_⟩
  rw [← hh]; exact h5 x (e.mem_iff.mpr m) o ho hd
/-- heights of 0 left out -/
theorem nodup_filter {p : HP} (f : Sq × Int → Bool) (nd : (p.map (·.1)).Nodup) : ((p.filter f).map (·.1)).Nodup := nd.sublist (List.filter_sublist.map _)
theorem ht_pos {p : HP} (h : OkP p) (q : Sq) : ht (p.filter fun x => decide (0 < x.2)) q = ht p q := by
  rcases ht_cases p q with m | ⟨m, e⟩
  · by_cases z : 0 < ht p q
    · exact ht_mem (nodup_filter _ h.nd) (List.mem_filter.mpr ⟨m, decide_eq_true z⟩)
    · have h0 := h.nneg q
      rw [ht_none, show ht p q = 0 by omega]
      intro w
      obtain ⟨x, hx, e⟩ := List.mem_map.mp w
      obtain ⟨h1, h2⟩ := List.mem_filter.mp hx
      have h3 := of_decide_eq_true h2
      have : ht p q = x.2 := ht_mem h.nd (by rw [← e]; exact h1)
      omega
  · rw [e, ht_none]
    intro w
    obtain ⟨x, hx, e⟩ := List.mem_map.mp w
    exact m (List.mem_map.mpr ⟨x, (List.mem_filter.mp hx).1, e⟩)
theorem Shows.pos {dom : Sq → Bool} {inc : Sq → Int} {a b : Sq} {n : Int} {p : HP} (h : Shows dom inc a b n p) : Shows dom inc a b n (p.filter fun x => decide (0 < x.2)) := by
  obtain ⟨h1, h2, h3, h4, h5⟩ := h
  have hh := ht_pos h1
  exact ⟨⟨nodup_filter _ h1.nd, fun x m => h1.nn x (List.mem_filter.mp m).1⟩, by rw [hh]; exact h2, by rw [hh]; exact h3, fun x m => h4 x (List.mem_filter.mp m).1, fun x m o ho hd => by rw [hh]; exact h5 x (List.mem_filter.mp m).1 o ho hd⟩
theorem Shows.num {dom : Sq → Bool} {inc : Sq → Int} {a b : Sq} {n : Int} {p : HP} (h : Shows dom inc a b n p) {k : Int} : Shows dom inc a b k p ↔ k ≤ ht p a := ⟨fun z => z.2.1, fun z => ⟨h.1, z, h.2.2⟩⟩
theorem shows_nil {dom : Sq → Bool} {inc : Sq → Int} {a b : Sq} {n : Int} : Shows dom inc a b n [] ↔ n ≤ 0 :=
  ⟨fun z => z.2.1, fun z => ⟨⟨by simp, fun _ m => by cases m⟩, z, rfl, (fun _ m => by cases m), fun _ m => by cases m⟩⟩
/-- a square raised as far as it goes -/
def rest (p : HP) (s : Sq) : HP := p.filter fun x => !decide (x.1 = s)
theorem rest_keys {p : HP} {s : Sq} : s ∉ (rest p s).map (·.1) := by
  intro w
  obtain ⟨x, hx, e⟩ := List.mem_map.mp w
  have := (List.mem_filter.mp hx).2
  rw [e] at this
  simp at this
theorem raise_nd {p : HP} (nd : (p.map (·.1)).Nodup) {s : Sq} {v : Int} : ((rest p s ++ [(s, v)]).map (·.1)).Nodup := by
  rw [List.map_append, List.nodup_append]
  refine ⟨nodup_filter _ nd, by simp, fun x hx y hy z => ?_⟩
  have : y = s := by simpa using hy
  subst this
  exact rest_keys (z ▸ hx)
theorem ht_raise {p : HP} (nd : (p.map (·.1)).Nodup) {s : Sq} {v : Int} (q : Sq) : ht (rest p s ++ [(s, v)]) q = if q = s then v else ht p q := by
  have nd2 := raise_nd nd (s := s) (v := v)
  by_cases e : q = s
  · subst e
    rw [if_pos rfl]
    exact ht_mem nd2 (List.mem_append_right _ (by simp))
  · rw [if_neg e]
    rcases ht_cases p q with m | ⟨m, e2⟩
    · refine ht_mem nd2 (List.mem_append_left _ (List.mem_filter.mpr ⟨m, ?_⟩))
      rw [decide_eq_false e]; rfl
    · rw [e2, ht_none]
      intro w
      obtain ⟨x, hx, e3⟩ := List.mem_map.mp w
      rcases List.mem_append.mp hx with hx | hx
      · exact m (List.mem_map.mpr ⟨x, (List.mem_filter.mp hx).1, e3⟩)
      · have : x = (s, v) := by simpa using hx
        rw [this] at e3
        exact e e3.symm
theorem sides_ne {s o : Sq} (h : o ∈ sides s) : o ≠ s := by
  obtain ⟨a, b⟩ := s
  obtain ⟨c, d⟩ := o
  simp only [sides, List.mem_cons, Prod.mk.injEq, List.not_mem_nil, or_false] at h
  intro z
  injection z with z1 z2
  omega
theorem Shows.raise {dom : Sq → Bool} {inc : Sq → Int} {a b s : Sq} {n v : Int} {p : HP} (h : Shows dom inc a b n p) (hs : dom s = true) (hb : s ≠ b) (hv : 0 ≤ v) (hi : ∀ o, 0 ≤ inc o) (hm : ∀ o ∈ sides s, dom o = true → v ≤ ht p o + inc o) (he : ∃ o ∈ sides s, dom o = true ∧ v = ht p o + inc o) : Shows dom inc a b n (rest p s ++ [(s, v)]) := by
  obtain ⟨h1, h2, h3, h4, h5⟩ := h
  have hh := ht_raise h1.nd (s := s) (v := v)
  have up : ht p s ≤ v := by
    rcases ht_cases p s with m | ⟨_, e⟩
    · obtain ⟨o, ho, hd, e⟩ := he
      have := h5 _ m o ho hd
      have : ht p s ≤ ht p o + inc o := this
      omega
    · omega
  have ge : ∀ q, ht p q ≤ ht (rest p s ++ [(s, v)]) q := fun q => by
    rw [hh]
    split
    · rename_i e; rw [e]; exact up
    · exact Int.le_refl _
  refine ⟨⟨raise_nd h1.nd, fun x m => ?_⟩, Int.le_trans h2 (ge a), ?_, fun x m => ?_, fun x m o ho hd => ?_⟩
  · rcases List.mem_append.mp m with m | m
    · exact h1.nn x (List.mem_filter.mp m).1
    · have : x = (s, v) := by simpa using m
      rw [this]; exact hv
  · rw [hh, if_neg (fun z => hb z.symm)]; exact h3
  · rcases List.mem_append.mp m with m | m
    · exact h4 x (List.mem_filter.mp m).1
    · have : x = (s, v) := by simpa using m
      rw [this]; exact hs
  · rcases List.mem_append.mp m with m | m
    · have := h5 x (List.mem_filter.mp m).1 o ho hd
      have := ge o
      omega
    · have e : x = (s, v) := by simpa using m
      rw [e] at ho ⊢
      have := hm o ho hd
      have := ge o
      show v ≤ _
      omega
theorem Shows.too {dom : Sq → Bool} {inc : Sq → Int} {a b s : Sq} {n v : Int} {p : HP} (nd : (p.map (·.1)).Nodup) (he : ∃ o ∈ sides s, dom o = true ∧ ht p o + inc o < v) : ¬ Shows dom inc a b n (rest p s ++ [(s, v)]) := fun ⟨_, _, _, _, h5⟩ => by
  obtain ⟨o, ho, hd, hlt⟩ := he
  have := h5 (s, v) (List.mem_append_right _ (by simp)) o ho hd
  rw [ht_raise nd, if_neg (sides_ne ho)] at this
  have : v ≤ ht p o + inc o := this
  omega
theorem shows_dom {dom : Sq → Bool} {inc : Sq → Int} {a b : Sq} {n : Int} {p : HP} {x : Sq × Int} (m : x ∈ p) (hd : dom x.1 = false) : ¬ Shows dom inc a b n p := fun ⟨_, _, _, h4, _⟩ => by
  have := h4 x m
  rw [hd] at this; cases this
theorem shows_dup {dom : Sq → Bool} {inc : Sq → Int} {a b : Sq} {n : Int} {p : HP} {x : Sq × Int} (m : x ∈ p) : ¬ Shows dom inc a b n (p ++ [x]) := fun ⟨h1, _⟩ => by
  have := h1.nd
  rw [List.map_append, List.nodup_append] at this
  exact this.2.2 x.1 (List.mem_map.mpr ⟨x, m, rfl⟩) x.1 (by simp) rfl
theorem shows_goal {dom : Sq → Bool} {inc : Sq → Int} {a b : Sq} {n v : Int} {p : HP} (m : (b, v) ∈ p) (hv : v ≠ 0) : ¬ Shows dom inc a b n p := fun ⟨h1, _, h3, _⟩ => hv (by rw [← ht_mem h1.nd m]; exact h3)
/-! ### the models -/
def heights_ofM (a_pairs : (List (Sq × Int))) : WP (Option (List (Sq × Int))) := (WP.pure ([] : (List (Sq × Int)))).bind fun a1_heights => WP.after (WP.loop (γ := (Option (List (Sq × Int)))) (fun c2 (y2 : (List (Sq × Int))) => (WP.or (WP.din (WP.pure c2.1) (WP.pure y2)) (WP.lt (WP.pure c2.2) (WP.pure (0 : Int)))).bind fun b => WP.cond b ((WP.pure (none : (Option (List (Sq × Int))))).bind fun r4 => (WP.pure (.rt r4))) ((WP.b2 (WP.pure c2.2) (WP.pure c2.1) fun b q => WP.req (y2.length < 100000) (putQ y2 q b)).bind fun a5_heights => (WP.pure (.nx a5_heights)))) a_pairs a1_heights) (fun (z2 : (List (Sq × Int))) => (WP.pure (some z2))) (fun r => (WP.pure r))
theorem take_snoc {α : Type} {xs : List α} {i : Nat} {a : α} (h : xs[i]? = some a) : xs.take (i + 1) = xs.take i ++ [a] := by
  rw [List.take_add_one, h]; rfl
theorem has_take {p : HP} {i : Nat} {c : Sq × Int} (h : p[i]? = some c) (hk : hasK (p.take i) c.1 = true) : ¬ (p.map (·.1)).Nodup := fun nd => by
  have h2 : (p.map (·.1))[i]? = some c.1 := by rw [List.getElem?_map, h]; rfl
  refine take_nodup nd h2 ?_
  rw [← List.map_take]
  exact hasK_iff.mp hk
theorem ok_snoc {p : HP} {i : Nat} {c : Sq × Int} (h : p[i]? = some c) (ok : OkP (p.take i)) (hk : hasK (p.take i) c.1 = false) (hc : 0 ≤ c.2) : OkP (p.take (i + 1)) := by
  rw [take_snoc h]
  refine ⟨?_, fun x m => ?_⟩
  · rw [List.map_append, List.nodup_append]
    refine ⟨ok.nd, by simp, fun x hx y hy z => ?_⟩
    have : y = c.1 := by simpa using hy
    subst this
    exact hasK_false.mp hk (z ▸ hx)
  · rcases List.mem_append.mp m with m | m
    · exact ok.nn x m
    · rw [List.mem_singleton.mp m]; exact hc
theorem heights_of_gives {p : HP} (hl : p.length < 100000) : Gives (heights_ofM p) (fun o => (OkP p ∧ o = some p) ∨ (¬ OkP p ∧ o = none)) := by
  intro n Q q
  unfold heights_ofM
  simp only [WP.run_bind, WP.run_pure, WP.run_req, WP.run_any, WP.run_take, WP.run_cond, WP.run_range1, WP.run_range2, decide_eq_true_eq, decide_eq_false_iff_not, Bool.not_eq_true', Bool.not_eq_false']
  refine WP.after_inv (fun i m y => m = n ∧ y = p.take i ∧ OkP (p.take i)) ⟨rfl, rfl, ⟨by simp, fun _ m => by cases m⟩⟩ (fun i m c y hc hi => ?_) (fun m y hy => ?_)
  · obtain ⟨rfl, rfl, ok⟩ := hi
    simp only [WP.run_bind, WP.run_pure, WP.run_req, WP.run_any, WP.run_take, WP.run_cond, WP.run_range1, WP.run_range2, decide_eq_true_eq, decide_eq_false_iff_not, Bool.not_eq_true', Bool.not_eq_false']
    refine ⟨fun hk => ⟨fun _ => q _ (.inr ⟨fun z => has_take hc hk z.nd, rfl⟩), (fun z => by cases z)⟩, fun hk => ⟨fun hn => q _ (.inr ⟨fun z => ?_, rfl⟩), fun hn => ⟨by rw [List.length_take]; omega, rfl, ?_, ok_snoc hc ok hk (by omega)⟩⟩⟩
    · have := z.nn c (List.mem_of_getElem? hc)
      omega
    · show putQ _ c.1 c.2 = _
      rw [putQ_new hk, take_snoc hc]
  · obtain ⟨rfl, rfl, ok⟩ := hy
    rw [List.take_length] at ok ⊢
    exact q _ (.inl ⟨ok, rfl⟩)
/-- a dict made of a paper that has no square twice -/
theorem loop_dict {ρ γ : Type} {p : HP} (nd : (p.map (·.1)).Nodup) (hl : p.length < 100000) {f : HP → WP ρ} {r : γ → WP ρ} {n : Nat} {Q : Nat → ρ → Prop} (q : (f p).run n Q) : (WP.after (WP.loop (γ := γ) (fun c2 (y2 : HP) => (WP.b2 (WP.pure c2.2) (WP.pure c2.1) fun b q => WP.req (y2.length < 100000) (putQ y2 q b)).bind fun a => (WP.pure (.nx a))) p []) f r).run n Q := by
  refine WP.after_inv (fun i m y => m = n ∧ y = p.take i) ⟨rfl, rfl⟩ (fun i m c y hc hi => ?_) (fun m y hy => ?_)
  · obtain ⟨rfl, rfl⟩ := hi
    simp only [WP.run_bind, WP.run_pure, WP.run_req, WP.run_any, WP.run_take, WP.run_cond, WP.run_range1, WP.run_range2, decide_eq_true_eq, decide_eq_false_iff_not, Bool.not_eq_true', Bool.not_eq_false']
    have hk : hasK (p.take i) c.1 = false := by
      cases e : hasK (p.take i) c.1 with
      | false => rfl
      | true => exact absurd nd (has_take hc e)
    refine ⟨by rw [List.length_take]; omega, rfl, ?_⟩
    show putQ _ c.1 c.2 = _
    rw [putQ_new hk, take_snoc hc]
  · obtain ⟨rfl, rfl⟩ := hy
    rw [List.take_length]
    exact q
theorem Is.compM {α β : Type} {xs : List α} {f : α → WP β} {g : α → β} (k : ∀ x ∈ xs, Is (f x) (g x)) : Is (WP.comp (fun _ => WP.pure true) f xs) (xs.map g) := by
  have h := Is.comp (p := fun _ => true) (fun _ _ => Is.pure) (fun x m _ => k x m)
  rwa [List.filter_eq_self.mpr (fun _ _ => rfl)] at h
end Y

/-! plain facts: the deal -/
namespace Y
open PySem L2
def law_dealM (a_script : List Int) : WP Unit := (WP.row (WP.pure ([] : List Int))).bind fun a1_row => (WP.range1 (WP.min2 (WP.len (WP.pure a_script)) (WP.pure (63 : Int)))).bind fun xs2 => WP.after (WP.loop (γ := Unit) (fun c2 (y2 : (List Int)) => (WP.abs ((WP.ix (WP.pure a_script) (WP.pure c2)).bind WP.pure)).bind fun a3_cell => ((WP.ge (WP.pure a3_cell) (WP.pow (WP.pure (10 : Int)) (WP.pure (18 : Int)))).bind fun b => WP.cond b ((WP.range1 (WP.pure (40 : Int))).bind fun xs5 => WP.after (WP.loop (γ := Unit) (fun c5 (y5 : (List Int) × Int) => ((WP.gt (WP.pure y5.2) (WP.pure (0 : Int))).bind fun b => WP.cond b (((WP.mod (WP.pure y5.2) (WP.pure (1009 : Int))).bind fun a => WP.req (y5.1.length < 100000) (y5.1 ++ [a])).bind fun a7_row => (WP.fdiv (WP.pure y5.2) (WP.pure (1009 : Int))).bind fun a8_cell => (WP.pure (a7_row, a8_cell))) ((WP.pure (y5.1, y5.2)))).bind fun (y6 : (List Int) × Int) => (WP.pure (.nx (y6.1, y6.2)))) xs5 (y2, a3_cell)) (fun (z5 : (List Int) × Int) => (WP.pure (z5.1, z5.2))) (fun r => (WP.none (b := r)))) ((WP.add (WP.add (WP.mul (WP.mod (WP.pure a3_cell) (WP.pure (2147483629 : Int))) (WP.pure (48271 : Int))) (WP.mul (WP.pure c2) (WP.pure (69621 : Int)))) (WP.pure (11 : Int))).bind fun a9_cell => (WP.range1 (WP.pure (5 : Int))).bind fun xs10 => WP.after (WP.loop (γ := Unit) (fun c10 (y10 : (List Int) × Int) => (WP.mod (WP.add (WP.add (WP.mul (WP.pure y10.2) (WP.pure (16807 : Int))) (WP.pure (12345 : Int))) (WP.pure c10)) (WP.pure (2147483647 : Int))).bind fun a11_cell => ((WP.mod (WP.fdiv (WP.pure a11_cell) (WP.pure (7 : Int))) (WP.pure (1009 : Int))).bind fun a => WP.req (y10.1.length < 100000) (y10.1 ++ [a])).bind fun a12_row => (WP.pure (.nx (a12_row, a11_cell)))) xs10 (y2, a9_cell)) (fun (z10 : (List Int) × Int) => (WP.pure (z10.1, z10.2))) (fun r => (WP.none (b := r))))).bind fun (y4 : (List Int) × Int) => (WP.pure (.nx y4.1))) xs2 a1_row) (fun (z2 : (List Int)) => (WP.add (WP.sum (WP.pure z2)) (WP.len (WP.pure a_script))).bind fun a13_total => (WP.pure a13_total).bind fun _ => WP.pure ()) (fun r => (WP.pure r))
theorem len_app {a : Int} {xs : List Int} : (xs ++ [a]).length = xs.length + 1 := by simp
theorem deal_plain (ns : List Int) (hl : ns.length ≤ 63) (n : Nat) : (law_dealM ns).run n fun _ _ => True := by
  unfold law_dealM
  simp only [WP.run_bind, WP.run_pure, WP.run_req, WP.run_any, WP.run_take, WP.run_cond, WP.run_range1, WP.run_range2, decide_eq_true_eq, decide_eq_false_iff_not, Bool.not_eq_true', Bool.not_eq_false']
  refine ⟨by decide, ⟨by split <;> omega, by split <;> omega⟩, ?_⟩
  refine WP.after_inv (fun i m row => row.length ≤ 40 * i) (by simp) (fun i m k row hk hrow => ?_) (fun m row hrow => ?_)
  · obtain ⟨ek, hk'⟩ := rangeL0_get hk
    have hi : i < 63 := by split at hk' <;> omega
    have hi2 : i < ns.length := by split at hk' <;> omega
    subst ek
    simp only [WP.run_bind, WP.run_pure, WP.run_req, WP.run_any, WP.run_take, WP.run_cond, WP.run_range1, WP.run_range2, decide_eq_true_eq, decide_eq_false_iff_not, Bool.not_eq_true', Bool.not_eq_false']
    refine ⟨⟨by omega, by omega⟩, ⟨by decide, by decide, by decide⟩, fun _ => ⟨⟨by decide, by decide⟩, ?_⟩, fun _ => ?_⟩
    · refine WP.after_inv (fun j m y => y.1.length ≤ 40 * i + j) (by simpa using hrow) (fun j m t y ht hy => ?_) (fun m y hy => ?_)
      · obtain ⟨et, ht'⟩ := rangeL0_get ht
        simp only [WP.run_bind, WP.run_pure, WP.run_req, WP.run_any, WP.run_take, WP.run_cond, WP.run_range1, WP.run_range2, decide_eq_true_eq, decide_eq_false_iff_not, Bool.not_eq_true', Bool.not_eq_false']
        refine ⟨fun _ => ⟨by decide, by omega, ⟨by decide, by decide⟩, ?_⟩, fun _ => ?_⟩
        · show (y.1 ++ _).length ≤ _
          rw [len_app]; omega
        · show y.1.length ≤ _
          omega
      · rw [rangeL0_len] at hy
        show y.1.length ≤ 40 * (i + 1)
        have : (40 : Int).toNat = 40 := rfl
        omega
    · refine ⟨by decide, .inr ⟨by decide, by decide⟩, .inr ⟨by decide, by decide⟩, ⟨by decide, by decide⟩, ?_⟩
      refine WP.after_inv (fun j m y => y.1.length ≤ 40 * i + j) (by simpa using hrow) (fun j m t y ht hy => ?_) (fun m y hy => ?_)
      · obtain ⟨et, ht'⟩ := rangeL0_get ht
        simp only [WP.run_bind, WP.run_pure, WP.run_req, WP.run_any, WP.run_take, WP.run_cond, WP.run_range1, WP.run_range2, decide_eq_true_eq, decide_eq_false_iff_not, Bool.not_eq_true', Bool.not_eq_false']
        refine ⟨.inr ⟨by decide, by decide⟩, by decide, ⟨by decide, by decide⟩, by decide, by omega, ?_⟩
        show (y.1 ++ _).length ≤ _
        rw [len_app]; omega
      · rw [rangeL0_len] at hy
        show y.1.length ≤ 40 * (i + 1)
        have : (5 : Int).toNat = 5 := rfl
        omega
  · simp only [WP.run_bind, WP.run_pure, WP.run_req, WP.run_any, WP.run_take, WP.run_cond, WP.run_range1, WP.run_range2, decide_eq_true_eq, decide_eq_false_iff_not, Bool.not_eq_true', Bool.not_eq_false']
end Y

/-! plain facts: charts whose signs are told, squares filled one after another -/
namespace Y
open PySem L2
structure GC (ch : List Str) : Prop where
  good : Ch ch
  sg : ∀ s ∈ ch, ∀ c ∈ s.cps.toList, c = 120 ∨ c = 46
theorem GC.of {n m : Int} {c : List Str} (h : ChO n m c) : GC c := ⟨h.good, h.sg⟩
theorem GC.ok {c : List Str} (h : GC c) : EqD.ok c := fun s hs => by
  show PyData.canLay0 (.str s) = true
  simp only [PyData.canLay0]
  unfold PyData.strOk
  rw [Array.all_eq_true_iff_forall_mem]
  intro x hx
  have := h.sg s hs x (by simpa using hx)
  rcases this with e | e <;> rw [e] <;> decide
/-- the sign of a square -/
def sgn' (ch : List Str) (q : Sq) : Nat := ixD (ixD ch q.1).cps.toList q.2
theorem isLd_at {ch : List Str} {q : Sq} : isLd ch q = (isSq ch q && decide (sgn' ch q = 120)) := by
  unfold isLd sgn' sgn
  rw [x_str]
  simp only [one_eq]
/-- the same size -/
structure Sz (a b : List Str) : Prop where
  l : a.length = b.length
  w : wid a = wid b
theorem Sz.sq {a b : List Str} (h : Sz a b) (q : Sq) : isSq a q = isSq b q := by unfold isSq; rw [h.l, h.w]
theorem Sz.all {a b : List Str} (h : Sz a b) : allSq a = allSq b := by unfold allSq; rw [h.l, h.w]
theorem Sz.refl (a : List Str) : Sz a a := ⟨rfl, rfl⟩
theorem Sz.symm {a b : List Str} (h : Sz a b) : Sz b a := ⟨h.l.symm, h.w.symm⟩
theorem Sz.trans {a b c : List Str} (h : Sz a b) (h' : Sz b c) : Sz a c := ⟨h.l.trans h'.l, h.w.trans h'.w⟩
theorem sz_set {ch : List Str} {q : Sq} (c : Ch ch) (h : isSq ch q = true) (k : Nat) : Sz (setCh ch q k) ch := ⟨by unfold setCh; rw [List.length_set], setCh_wid c h k⟩
theorem gc_set {ch : List Str} {q : Sq} (c : GC ch) (h : isSq ch q = true) {k : Nat} (hk : k = 120 ∨ k = 46) : GC (setCh ch q k) := ⟨setCh_ch c.good h k, setCh_sg c.good h k c.sg hk⟩
/-- charts of one size with the same land are one chart -/
theorem gc_ext {a b : List Str} (ha : GC a) (hb : GC b) (hs : Sz a b) (h : ∀ q, isLd a q = isLd b q) : a = b := by
  apply List.ext_getElem hs.l
  intro r hr hr'
  apply str_ext
  have la : a[r].cps.toList.length = wid a := by rw [tl_len]; exact ha.good.w _ (List.getElem_mem hr)
  have lb : b[r].cps.toList.length = wid b := by rw [tl_len]; exact hb.good.w _ (List.getElem_mem hr')
  apply List.ext_getElem (by rw [la, lb, hs.w])
  intro c hc hc'
  have hsq : isSq a ((r : Int), (c : Int)) = true := isSq_iff.mpr ⟨by show (0 : Int) ≤ r; omega, by show (r : Int) < _; omega, by show (0 : Int) ≤ c; omega, by show (c : Int) < _; omega⟩
  have ea : sgn' a ((r : Int), (c : Int)) = a[r].cps.toList[c] := by
    unfold sgn'
    rw [ixD_nat hr, ixD_nat hc]
  have eb : sgn' b ((r : Int), (c : Int)) = b[r].cps.toList[c] := by
    unfold sgn'
    rw [ixD_nat hr', ixD_nat hc']
  have hh := h ((r : Int), (c : Int))
  rw [isLd_at, isLd_at, ← hs.sq, hsq, ea, eb, Bool.true_and, Bool.true_and] at hh
  have g1 := ha.sg _ (List.getElem_mem hr) _ (List.getElem_mem hc)
  have g2 := hb.sg _ (List.getElem_mem hr') _ (List.getElem_mem hc')
  rcases g1 with e1 | e1 <;> rcases g2 with e2 | e2 <;> rw [e1, e2] <;> rw [e1, e2] at hh <;> simp at hh
/-! ### squares that lie between -/
def btwB (ch : List Str) (q : Sq) : Bool := ((rangeL 0 q.2).any (fun c => isLd ch (q.1, c)) && (rangeL (q.2 + 1) (wid ch : Int)).any (fun c => isLd ch (q.1, c))) || ((rangeL 0 q.1).any (fun r => isLd ch (r, q.2)) && (rangeL (q.1 + 1) (ch.length : Int)).any (fun r => isLd ch (r, q.2)))
theorem any_len {α : Type} (xs : List α) (p : α → Bool) : decide ((0 : Int) < (((xs.filter p).length : Nat) : Int)) = xs.any p := by
  rw [Bool.eq_iff_iff, decide_eq_true_eq, List.any_eq_true]
  constructor
  · intro h
    obtain ⟨x, hx⟩ := List.exists_mem_of_length_pos (show 0 < (xs.filter p).length by omega)
    exact ⟨x, (List.mem_filter.mp hx).1, (List.mem_filter.mp hx).2⟩
  · rintro ⟨x, h1, h2⟩
    have := List.length_pos_of_mem (List.mem_filter.mpr ⟨h1, h2⟩)
    omega
theorem Is.range2 {a b : WP Int} {x y : Int} (h : Is a x) (h' : Is b y) (hx : -1000 ≤ x) (hx' : x ≤ 1000) (hy : -1000 ≤ y) (hy' : y ≤ 1000) : Is (WP.range2 a b) (rangeL x y) := Is.b2 h h' (Is.req ⟨by omega, by omega, by omega, by omega⟩)
theorem Is.range1' {w : WP Int} {k : Int} (h : Is w k) (h0 : -1000 ≤ k) (h1 : k ≤ 1000) : Is (WP.range1 w) (rangeL 0 k) := h.bind (Is.req ⟨by omega, by omega⟩)
theorem rangeL_small {a b : Int} (h : b - a ≤ 1000) : (rangeL a b).length ≤ 100000 := by rw [rangeL_len]; omega
def Sub (a b : List Str) : Prop := ∀ q, isLd a q = true → isLd b q = true
theorem btw_mono {a b : List Str} (hs : Sz a b) (h : Sub a b) {q : Sq} (hb : btwB a q = true) : btwB b q = true := by
  unfold btwB at hb ⊢
  rw [← hs.l, ← hs.w]
  have mono : ∀ (xs : List Int) (f : Int → Sq), xs.any (fun c => isLd a (f c)) = true → xs.any (fun c => isLd b (f c)) = true := fun xs f hx => by
    rw [List.any_eq_true] at hx ⊢
    obtain ⟨x, h1, h2⟩ := hx
    exact ⟨x, h1, h _ h2⟩
  rw [Bool.or_eq_true, Bool.and_eq_true, Bool.and_eq_true] at hb ⊢
  rcases hb with ⟨h1, h2⟩ | ⟨h1, h2⟩
  · exact .inl ⟨mono _ (fun c => (q.1, c)) h1, mono _ (fun c => (q.1, c)) h2⟩
  · exact .inr ⟨mono _ (fun r => (r, q.2)) h1, mono _ (fun r => (r, q.2)) h2⟩
def opens (ch : List Str) : List Sq := (allSq ch).filter fun q => !isLd ch q && btwB ch q
theorem mem_opens {ch : List Str} {q : Sq} : q ∈ opens ch ↔ isSq ch q = true ∧ isLd ch q = false ∧ btwB ch q = true := by
  unfold opens
  rw [List.mem_filter, mem_allSq, Bool.and_eq_true, Bool.not_eq_true']
/-! ### one after another -/
def Val : List Str → List Sq → Prop
  | _, [] => True
  | ch, q :: qs => (isSq ch q = true ∧ isLd ch q = false ∧ btwB ch q = true) ∧ Val (setCh ch q 120) qs
def Fin' (ch : List Str) (qs : List Sq) : List Str := qs.foldl (fun c q => setCh c q 120) ch
theorem Fin_app (ch : List Str) (qs rs : List Sq) : Fin' ch (qs ++ rs) = Fin' (Fin' ch qs) rs := List.foldl_append
theorem Val_app : ∀ {qs : List Sq} {ch : List Str} {rs : List Sq}, Val ch qs → Val (Fin' ch qs) rs → Val ch (qs ++ rs)
  | [], _, _, _, h => h
  | _ :: _, _, _, ⟨h, h1⟩, h2 => ⟨h, Val_app h1 h2⟩
theorem sub_set {ch : List Str} {q : Sq} (c : Ch ch) (h : isSq ch q = true) : Sub ch (setCh ch q 120) := fun p hp => by
  rw [setCh_ld c h]
  split
  · decide
  · exact hp
/-- what stays through squares of the chart set -/
theorem fin_gc : ∀ {qs : List Sq} {ch : List Str}, GC ch → (∀ q ∈ qs, isSq ch q = true) → GC (Fin' ch qs) ∧ Sz (Fin' ch qs) ch
  | [], ch, c, _ => ⟨c, Sz.refl ch⟩
  | q :: qs, ch, c, h => by
    have hq := h q List.mem_cons_self
    have z := sz_set c.good hq 120
    obtain ⟨g1, g2⟩ := fin_gc (qs := qs) (gc_set c hq (.inl rfl)) fun p hp => by rw [z.sq]; exact h p (List.mem_cons_of_mem _ hp)
    exact ⟨g1, g2.trans z⟩
theorem val_sq : ∀ {qs : List Sq} {ch : List Str}, Ch ch → Val ch qs → ∀ q ∈ qs, isSq ch q = true
  | [], _, _, _, _, h => by cases h
  | p :: ps, ch, c, ⟨h, hv⟩, q, hq => by
    rcases List.mem_cons.mp hq with e | e
    · rw [e]; exact h.1
    · have := val_sq (setCh_ch c h.1 120) hv q e
      rwa [setCh_sq c h.1] at this
/-- open squares, each once, can be filled in any order -/
theorem batch : ∀ {qs : List Sq} {ch : List Str}, Ch ch → qs.Nodup → (∀ q ∈ qs, q ∈ opens ch) → Val ch qs
  | [], _, _, _, _ => trivial
  | q :: qs, ch, c, nd, h => by
    have hq := mem_opens.mp (h q List.mem_cons_self)
    refine ⟨hq, batch (setCh_ch c hq.1 120) (List.nodup_cons.mp nd).2 fun p hp => ?_⟩
    have hp' := mem_opens.mp (h p (List.mem_cons_of_mem _ hp))
    have z := sz_set c hq.1 120
    refine mem_opens.mpr ⟨by rw [z.sq]; exact hp'.1, ?_, btw_mono z.symm (sub_set c hq.1) hp'.2.2⟩
    have hne : p ≠ q := fun e => (List.nodup_cons.mp nd).1 (by rw [← e]; exact hp)
    rw [setCh_ld c hq.1, if_neg hne]
    exact hp'.2.1
/-- what is filled lies within every closed chart around -/
theorem within : ∀ {qs : List Sq} {ch D : List Str}, Ch ch → Sz ch D → Val ch qs → Sub ch D → opens D = [] → Sub (Fin' ch qs) D
  | [], _, _, _, _, _, h, _ => h
  | q :: qs, ch, D, c, z, ⟨hq, hv⟩, h, ho => by
    show Sub (Fin' (setCh ch q 120) qs) D
    refine within (setCh_ch c hq.1 120) ((sz_set c hq.1 120).trans z) hv (fun p hp => ?_) ho
    rw [setCh_ld c hq.1] at hp
    split at hp
    · rename_i e
      subst e
      cases e : isLd D p with
      | true => rfl
      | false =>
        have : p ∈ opens D := mem_opens.mpr ⟨by rw [← z.sq]; exact hq.1, e, btw_mono z h hq.2.2⟩
        rw [ho] at this
        cases this
    · exact h p hp
theorem fin_sub : ∀ {qs : List Sq} {ch : List Str}, Ch ch → Val ch qs → Sub ch (Fin' ch qs)
  | [], _, _, _ => fun _ h => h
  | q :: qs, ch, c, ⟨hq, hv⟩ => fun p hp => fin_sub (setCh_ch c hq.1 120) hv p (sub_set c hq.1 p hp)
/-- two ways to fill end alike -/
theorem confluent {ch : List Str} {qs rs : List Sq} (c : GC ch) (hq : Val ch qs) (hr : Val ch rs) (h1 : opens (Fin' ch qs) = []) (h2 : opens (Fin' ch rs) = []) : Fin' ch qs = Fin' ch rs := by
  obtain ⟨g1, z1⟩ := fin_gc c (val_sq c.good hq)
  obtain ⟨g2, z2⟩ := fin_gc c (val_sq c.good hr)
  refine gc_ext g1 g2 (z1.trans z2.symm) fun q => ?_
  have a := within c.good z2.symm hq (fin_sub c.good hr) h2 q
  have b := within c.good z1.symm hr (fin_sub c.good hq) h1 q
  rw [Bool.eq_iff_iff]
  exact ⟨a, b⟩
def cntW (ch : List Str) : Nat := ((allSq ch).filter fun q => !isLd ch q).length
theorem cntW_set {ch : List Str} {q : Sq} (c : Ch ch) (h : isSq ch q = true) (hw : isLd ch q = false) : cntW (setCh ch q 120) < cntW ch := by
  unfold cntW
  rw [(sz_set c h 120).all]
  refine filter_lt (fun x _ hx => ?_) (mem_allSq.mpr h) ?_ ?_
  · rw [Bool.not_eq_true'] at hx ⊢
    rw [setCh_ld c h] at hx
    split at hx
    · cases hx
    · exact hx
  · rw [setCh_ld c h, if_pos rfl]; decide
  · rw [hw]; rfl
theorem val_len : ∀ {qs : List Sq} {ch : List Str}, Ch ch → Val ch qs → qs.length + cntW (Fin' ch qs) ≤ cntW ch
  | [], ch, _, _ => by show 0 + cntW ch ≤ _; omega
  | q :: qs, ch, c, ⟨hq, hv⟩ => by
    have h1 := val_len (setCh_ch c hq.1 120) hv
    have h2 := cntW_set c hq.1 hq.2.1
    rw [List.length_cons]
    show qs.length + 1 + cntW (Fin' (setCh ch q 120) qs) ≤ _
    omega
theorem cntW_le (ch : List Str) : cntW ch ≤ (allSq ch).length := List.length_filter_le _ _
theorem opens_nil {ch : List Str} (h : cntW ch = 0) : opens ch = [] := by
  unfold opens
  rw [List.filter_eq_nil_iff]
  intro q hq hp
  rw [Bool.and_eq_true] at hp
  have : q ∈ (allSq ch).filter fun q => !isLd ch q := List.mem_filter.mpr ⟨hq, hp.1⟩
  have := List.length_pos_of_mem this
  unfold cntW at h
  omega
/-- the judge, as a plain function -/
def shB (other : List Str) : List Str → List Sq → Bool
  | ch, [] => decide (ch = other) && decide ((((opens ch).length : Nat) : Int) = 0)
  | ch, q :: qs => if isSq ch q && (!isLd ch q && btwB ch q) then shB other (setCh ch q 120) qs else false
theorem shB_iff {other : List Str} : ∀ {qs : List Sq} {ch : List Str}, shB other ch qs = true ↔ Val ch qs ∧ Fin' ch qs = other ∧ opens (Fin' ch qs) = []
  | [], ch => by
    unfold shB
    rw [Bool.and_eq_true, decide_eq_true_eq, decide_eq_true_eq]
    constructor
    · rintro ⟨h1, h2⟩
      have h3 : opens ch = [] := List.eq_nil_of_length_eq_zero (by omega)
      exact ⟨trivial, h1, h3⟩
    · rintro ⟨_, h1, h2⟩
      refine ⟨h1, ?_⟩
      have : opens ch = [] := h2
      rw [this]; rfl
  | q :: qs, ch => by
    unfold shB
    constructor
    · intro h
      split at h
      · rename_i g
        rw [Bool.and_eq_true, Bool.and_eq_true, Bool.not_eq_true'] at g
        obtain ⟨h1, h2, h3⟩ := (shB_iff (qs := qs)).mp h
        exact ⟨⟨⟨g.1, g.2.1, g.2.2⟩, h1⟩, h2, h3⟩
      · cases h
    · rintro ⟨⟨g, h1⟩, h2, h3⟩
      rw [if_pos (by rw [g.1, g.2.1, g.2.2]; rfl)]
      exact (shB_iff (qs := qs)).mpr ⟨h1, h2, h3⟩
theorem Is.loopNx {s α γ ρ : Type} {body : α → s → WP (Ctl s γ)} {a : α} {as : List α} {x y : s} {f : s → WP ρ} {r : γ → WP ρ} {z : ρ} (h : Is (body a x) (.nx y)) (h' : Is (WP.after (WP.loop body as y) f r) z) : Is (WP.after (WP.loop body (a :: as) x) f r) z := fun n Q q => h n _ (h' n Q q)
theorem Is.loopRt {s α γ ρ : Type} {body : α → s → WP (Ctl s γ)} {a : α} {as : List α} {x : s} {g : γ} {f : s → WP ρ} {r : γ → WP ρ} {z : ρ} (h : Is (body a x) (.rt g)) (h' : Is (r g) z) : Is (WP.after (WP.loop body (a :: as) x) f r) z := fun n Q q => h n _ (h' n Q q)
theorem Is.loopNil {s α γ ρ : Type} {body : α → s → WP (Ctl s γ)} {x : s} {f : s → WP ρ} {r : γ → WP ρ} {z : ρ} (h : Is (f x) z) : Is (WP.after (WP.loop body [] x) f r) z := fun n Q q => h n Q q
/-! grids of signs of a chart -/
theorem signs_set (l : List Nat) (n k : Nat) : signs (mkS (l.set n k)) = (signs (mkS l)).set n ⟨#[k]⟩ := by
  rw [signs_map, signs_map, tl_mkS, tl_mkS, List.map_set]
theorem setL_nat {α : Type} {xs : List α} {i : Int} {v : α} (h0 : 0 ≤ i) (h : i < xs.length) : setL xs i v = xs.set i.toNat v := by
  unfold setL ixN
  rw [if_pos h0, if_pos h]
theorem grid_set {ch : List Str} {q : Sq} (c : Ch ch) (h : isSq ch q = true) (k : Nat) : setG (ch.map signs) q.1 q.2 ⟨#[k]⟩ = (setCh ch q k).map signs := by
  have hh := isSq_iff.mp h
  unfold setG setCh
  rw [ixD_map hh.1 hh.2.1]
  have hl : (signs (ixD ch q.1)).length = wid ch := by rw [signs_map, List.length_map, tl_len, c.len1 h]
  rw [setL_nat hh.1 (by rw [List.length_map]; exact hh.2.1), setL_nat hh.2.2.1 (by rw [hl]; exact hh.2.2.2), List.map_set, signs_set, mkS_tl]
theorem joinS_is {s : Str} (hl : s.length ≤ 100000) : Is (WP.join (WP.pure (Str.ofString "")) (WP.pure (signs s))) s :=
  (join1_is (cs := s.cps.toList) Is.pure (by rw [tl_len]; exact hl)).eq (mkS_tl s)
end Y

/-! plain facts: squares of land soaked one after another -/
namespace Y
open PySem L2
def wets (ch : List Str) (q : Sq) : List Sq := (sides q).filter fun p => isSq ch p && !isLd ch p
def softB (ch : List Str) (q : Sq) : Bool := isLd ch q && decide (2 ≤ (wets ch q).length)
def softs (ch : List Str) : List Sq := (allSq ch).filter (softB ch)
theorem mem_softs {ch : List Str} {q : Sq} : q ∈ softs ch ↔ softB ch q = true := by
  unfold softs
  rw [List.mem_filter, mem_allSq]
  refine ⟨fun h => h.2, fun h => ⟨?_, h⟩⟩
  unfold softB at h
  rw [Bool.and_eq_true] at h
  exact isLd_sq h.1
theorem softB_iff {ch : List Str} {q : Sq} : softB ch q = true ↔ isLd ch q = true ∧ 2 ≤ (wets ch q).length := by
  unfold softB
  rw [Bool.and_eq_true, decide_eq_true_eq]
/-- b is wetter than a -/
def Wetter (a b : List Str) : Prop := ∀ q, isLd b q = true → isLd a q = true
theorem len_filter_mono {α : Type} {p r : α → Bool} : ∀ {xs : List α}, (∀ x ∈ xs, p x = true → r x = true) → (xs.filter p).length ≤ (xs.filter r).length
  | [], _ => Nat.le_refl _
  | x :: xs, h => by
    have ih := len_filter_mono (xs := xs) fun y hy => h y (List.mem_cons_of_mem _ hy)
    have hx := h x List.mem_cons_self
    cases e : p x <;> cases e2 : r x
    · rw [List.filter_cons_of_neg (by rw [e]; decide), List.filter_cons_of_neg (by rw [e2]; decide)]; exact ih
    · rw [List.filter_cons_of_neg (by rw [e]; decide), List.filter_cons_of_pos e2, List.length_cons]; omega
    · rw [hx e] at e2; cases e2
    · rw [List.filter_cons_of_pos e, List.filter_cons_of_pos e2, List.length_cons, List.length_cons]; omega
theorem wets_mono {a b : List Str} (hs : Sz a b) (h : Wetter a b) (q : Sq) : (wets a q).length ≤ (wets b q).length := by
  unfold wets
  refine len_filter_mono fun p _ hp => ?_
  rw [Bool.and_eq_true, Bool.not_eq_true'] at hp ⊢
  refine ⟨by rw [← hs.sq]; exact hp.1, ?_⟩
  cases e : isLd b p with
  | false => rfl
  | true => rw [h p e] at hp; exact hp.2
def ValS : List Str → List Sq → Prop
  | _, [] => True
  | ch, q :: qs => softB ch q = true ∧ ValS (setCh ch q 46) qs
def FinS (ch : List Str) (qs : List Sq) : List Str := qs.foldl (fun c q => setCh c q 46) ch
theorem FinS_app (ch : List Str) (qs rs : List Sq) : FinS ch (qs ++ rs) = FinS (FinS ch qs) rs := List.foldl_append
theorem ValS_app : ∀ {qs : List Sq} {ch : List Str} {rs : List Sq}, ValS ch qs → ValS (FinS ch qs) rs → ValS ch (qs ++ rs)
  | [], _, _, _, h => h
  | _ :: _, _, _, ⟨h, h1⟩, h2 => ⟨h, ValS_app h1 h2⟩
theorem set46_ld {ch : List Str} {q : Sq} (c : Ch ch) (h : isSq ch q = true) (p : Sq) : isLd (setCh ch q 46) p = if p = q then false else isLd ch p := by
  rw [setCh_ld c h]
  rfl
theorem wetter_set {ch : List Str} {q : Sq} (c : Ch ch) (h : isSq ch q = true) : Wetter ch (setCh ch q 46) := fun p hp => by
  rw [set46_ld c h] at hp
  split at hp
  · cases hp
  · exact hp
theorem finS_gc : ∀ {qs : List Sq} {ch : List Str}, GC ch → (∀ q ∈ qs, isSq ch q = true) → GC (FinS ch qs) ∧ Sz (FinS ch qs) ch
  | [], ch, c, _ => ⟨c, Sz.refl ch⟩
  | q :: qs, ch, c, h => by
    have hq := h q List.mem_cons_self
    have z := sz_set c.good hq 46
    obtain ⟨g1, g2⟩ := finS_gc (qs := qs) (gc_set c hq (.inr rfl)) fun p hp => by rw [z.sq]; exact h p (List.mem_cons_of_mem _ hp)
    exact ⟨g1, g2.trans z⟩
theorem softB_sq {ch : List Str} {q : Sq} (h : softB ch q = true) : isSq ch q = true := isLd_sq (softB_iff.mp h).1
theorem valS_sq : ∀ {qs : List Sq} {ch : List Str}, Ch ch → ValS ch qs → ∀ q ∈ qs, isSq ch q = true
  | [], _, _, _, _, h => by cases h
  | p :: ps, ch, c, ⟨h, hv⟩, q, hq => by
    rcases List.mem_cons.mp hq with e | e
    · rw [e]; exact softB_sq h
    · have := valS_sq (setCh_ch c (softB_sq h) 46) hv q e
      rwa [setCh_sq c (softB_sq h)] at this
theorem batchS : ∀ {qs : List Sq} {ch : List Str}, Ch ch → qs.Nodup → (∀ q ∈ qs, softB ch q = true) → ValS ch qs
  | [], _, _, _, _ => trivial
  | q :: qs, ch, c, nd, h => by
    have hq := h q List.mem_cons_self
    have sq := softB_sq hq
    refine ⟨hq, batchS (setCh_ch c sq 46) (List.nodup_cons.mp nd).2 fun p hp => ?_⟩
    have hp' := softB_iff.mp (h p (List.mem_cons_of_mem _ hp))
    have hne : p ≠ q := fun e => (List.nodup_cons.mp nd).1 (by rw [← e]; exact hp)
    refine softB_iff.mpr ⟨by rw [set46_ld c sq, if_neg hne]; exact hp'.1, Nat.le_trans hp'.2 (wets_mono (sz_set c sq 46).symm (wetter_set c sq) p)⟩
theorem withinS : ∀ {qs : List Sq} {ch D : List Str}, Ch ch → Sz ch D → ValS ch qs → Wetter ch D → softs D = [] → Wetter (FinS ch qs) D
  | [], _, _, _, _, _, h, _ => h
  | q :: qs, ch, D, c, z, ⟨hq, hv⟩, h, ho => by
    have sq := softB_sq hq
    show Wetter (FinS (setCh ch q 46) qs) D
    refine withinS (setCh_ch c sq 46) ((sz_set c sq 46).trans z) hv (fun p hp => ?_) ho
    rw [set46_ld c sq]
    split
    · rename_i e
      subst e
      have : p ∈ softs D := mem_softs.mpr (softB_iff.mpr ⟨hp, Nat.le_trans (softB_iff.mp hq).2 (wets_mono z h p)⟩)
      rw [ho] at this
      cases this
    · exact h p hp
theorem finS_wetter : ∀ {qs : List Sq} {ch : List Str}, Ch ch → ValS ch qs → Wetter ch (FinS ch qs)
  | [], _, _, _ => fun _ h => h
  | q :: qs, ch, c, ⟨hq, hv⟩ => fun p hp => wetter_set c (softB_sq hq) p (finS_wetter (setCh_ch c (softB_sq hq) 46) hv p hp)
theorem confluentS {ch : List Str} {qs rs : List Sq} (c : GC ch) (hq : ValS ch qs) (hr : ValS ch rs) (h1 : softs (FinS ch qs) = []) (h2 : softs (FinS ch rs) = []) : FinS ch qs = FinS ch rs := by
  obtain ⟨g1, z1⟩ := finS_gc c (valS_sq c.good hq)
  obtain ⟨g2, z2⟩ := finS_gc c (valS_sq c.good hr)
  refine gc_ext g1 g2 (z1.trans z2.symm) fun q => ?_
  have a := withinS c.good z2.symm hq (finS_wetter c.good hr) h2 q
  have b := withinS c.good z1.symm hr (finS_wetter c.good hq) h1 q
  rw [Bool.eq_iff_iff]
  exact ⟨b, a⟩
def cntL (ch : List Str) : Nat := ((allSq ch).filter (isLd ch)).length
theorem cntL_set {ch : List Str} {q : Sq} (c : Ch ch) (h : isLd ch q = true) : cntL (setCh ch q 46) < cntL ch := by
  have sq := isLd_sq h
  unfold cntL
  rw [(sz_set c sq 46).all]
  exact filter_lt (fun x _ hx => wetter_set c sq x hx) (mem_allSq.mpr sq) (by rw [set46_ld c sq, if_pos rfl]) h
theorem valS_len : ∀ {qs : List Sq} {ch : List Str}, Ch ch → ValS ch qs → qs.length + cntL (FinS ch qs) ≤ cntL ch
  | [], ch, _, _ => by show 0 + cntL ch ≤ _; omega
  | q :: qs, ch, c, ⟨hq, hv⟩ => by
    have h1 := valS_len (setCh_ch c (softB_sq hq) 46) hv
    have h2 := cntL_set c (softB_iff.mp hq).1
    rw [List.length_cons]
    show qs.length + 1 + cntL (FinS (setCh ch q 46) qs) ≤ _
    omega
theorem cntL_le (ch : List Str) : cntL ch ≤ (allSq ch).length := List.length_filter_le _ _
theorem softs_nil {ch : List Str} (h : cntL ch = 0) : softs ch = [] := by
  unfold softs
  rw [List.filter_eq_nil_iff]
  intro q hq hp
  have : q ∈ (allSq ch).filter (isLd ch) := List.mem_filter.mpr ⟨hq, (softB_iff.mp hp).1⟩
  have := List.length_pos_of_mem this
  unfold cntL at h
  omega
def shS (other : List Str) : List Str → List Sq → Bool
  | ch, [] => decide (ch = other) && decide ((((softs ch).length : Nat) : Int) = 0)
  | ch, q :: qs => if softB ch q then shS other (setCh ch q 46) qs else false
theorem shS_iff {other : List Str} : ∀ {qs : List Sq} {ch : List Str}, shS other ch qs = true ↔ ValS ch qs ∧ FinS ch qs = other ∧ softs (FinS ch qs) = []
  | [], ch => by
    unfold shS
    rw [Bool.and_eq_true, decide_eq_true_eq, decide_eq_true_eq]
    constructor
    · rintro ⟨h1, h2⟩
      have h3 : softs ch = [] := List.eq_nil_of_length_eq_zero (by omega)
      exact ⟨trivial, h1, h3⟩
    · rintro ⟨_, h1, h2⟩
      refine ⟨h1, ?_⟩
      have : softs ch = [] := h2
      rw [this]; rfl
  | q :: qs, ch => by
    unfold shS
    constructor
    · intro h
      split at h
      · rename_i g
        obtain ⟨h1, h2, h3⟩ := (shS_iff (qs := qs)).mp h
        exact ⟨⟨g, h1⟩, h2, h3⟩
      · cases h
    · rintro ⟨⟨g, h1⟩, h2, h3⟩
      rw [if_pos g]
      exact (shS_iff (qs := qs)).mpr ⟨h1, h2, h3⟩
theorem softs_nodup (ch : List Str) : (softs ch).Nodup := (allSq_nodup ch).sublist List.filter_sublist
theorem softs_len (ch : List Str) : (softs ch).length ≤ (allSq ch).length := List.length_filter_le _ _
/-- what becomes soft lies beside -/
theorem soft_new {ch : List Str} {q p : Sq} (c : Ch ch) (h : isSq ch q = true) (hp : softB (setCh ch q 46) p = true) : softB ch p = true ∨ (p ∈ sides q ∧ isLd (setCh ch q 46) p = true) := by
  obtain ⟨h1, h2⟩ := softB_iff.mp hp
  by_cases hs : p ∈ sides q
  · exact .inr ⟨hs, h1⟩
  · refine .inl (softB_iff.mpr ⟨wetter_set c h p h1, ?_⟩)
    have e : wets (setCh ch q 46) p = wets ch p := by
      unfold wets
      refine List.filter_congr fun x hx => ?_
      rw [setCh_sq c h, set46_ld c h, if_neg fun e => hs (sides_symm (by rw [← e]; exact hx))]
    rw [← e]; exact h2
/-! the wet rim -/
def rimOf (ch : List Str) (q : Sq) : Int := if isLd ch q then 0 else 4 - (((wets ch q).length : Nat) : Int)
def rim (ch : List Str) : Int := ((allSq ch).map (rimOf ch)).sum
theorem sum_zero {α : Type} {xs : List α} {f : α → Int} (h : ∀ x ∈ xs, f x = 0) : (xs.map f).sum = 0 := by
  induction xs with
  | nil => rfl
  | cons x xs ih => rw [List.map_cons, List.sum_cons, h x List.mem_cons_self, ih fun y m => h y (List.mem_cons_of_mem _ m)]; rfl
theorem sum_add {α : Type} (xs : List α) (f g : α → Int) : (xs.map fun x => f x + g x).sum = (xs.map f).sum + (xs.map g).sum := by
  induction xs with
  | nil => rfl
  | cons x xs ih => simp only [List.map_cons, List.sum_cons, ih]; omega
theorem sum_ind {α : Type} (xs : List α) (p : α → Bool) : (xs.map fun x => if p x then (1 : Int) else 0).sum = (((xs.filter p).length : Nat) : Int) := by
  induction xs with
  | nil => rfl
  | cons x xs ih =>
    rw [List.map_cons, List.sum_cons, ih]
    cases e : p x
    · rw [List.filter_cons_of_neg (by rw [e]; decide)]; simp
    · rw [List.filter_cons_of_pos e, List.length_cons]; simp; omega
theorem sum_one {α : Type} [DecidableEq α] {xs : List α} (nd : xs.Nodup) {q : α} (hq : q ∈ xs) (k : Int) : (xs.map fun x => if x = q then k else 0).sum = k := by
  induction xs with
  | nil => cases hq
  | cons x xs ih =>
    rw [List.map_cons, List.sum_cons]
    obtain ⟨h1, h2⟩ := List.nodup_cons.mp nd
    by_cases e : x = q
    · rw [if_pos e, sum_zero fun y hy => if_neg fun e2 => h1 (by rw [e, ← e2]; exact hy)]; omega
    · rw [if_neg e, ih h2 ((List.mem_cons.mp hq).resolve_left fun e2 => e e2.symm)]; omega
theorem sides_nd (q : Sq) : (sides q).Nodup := by
  obtain ⟨r, c⟩ := q
  unfold sides
  simp only [List.nodup_cons, List.mem_cons, List.not_mem_nil, or_false, Prod.mk.injEq, not_or, List.nodup_nil, and_true, not_false_eq_true]
  omega
theorem sides_self (q : Sq) : q ∉ sides q := by
  unfold sides
  simp only [List.mem_cons, List.not_mem_nil, or_false]
  rintro (e | e | e | e)
  · have : q.1 = q.1 - 1 := congrArg Prod.fst e; omega
  · have : q.2 = q.2 - 1 := congrArg Prod.snd e; omega
  · have : q.2 = q.2 + 1 := congrArg Prod.snd e; omega
  · have : q.1 = q.1 + 1 := congrArg Prod.fst e; omega
theorem filter_one_more {α : Type} [DecidableEq α] {xs : List α} {r r' : α → Bool} {q : α} (nd : xs.Nodup) (hq : q ∈ xs) (h0 : r q = false) (h1 : r' q = true) (he : ∀ x, x ≠ q → r' x = r x) : (xs.filter r').length = (xs.filter r).length + 1 := by
  induction xs with
  | nil => cases hq
  | cons x xs ih =>
    obtain ⟨n1, n2⟩ := List.nodup_cons.mp nd
    by_cases e : x = q
    · subst e
      rw [List.filter_cons_of_pos h1, List.filter_cons_of_neg (by rw [h0]; decide), List.length_cons, List.filter_congr fun y hy => he y fun e => n1 (by rw [← e]; exact hy)]
    · have ih := ih n2 ((List.mem_cons.mp hq).resolve_left fun e2 => e e2.symm)
      have hx := he x e
      cases e2 : r x
      · rw [List.filter_cons_of_neg (by rw [hx, e2]; decide), List.filter_cons_of_neg (by rw [e2]; decide), ih]
      · rw [List.filter_cons_of_pos (by rw [hx, e2]), List.filter_cons_of_pos e2, List.length_cons, List.length_cons, ih]
theorem mem_wets {ch : List Str} {p q : Sq} : p ∈ wets ch q ↔ p ∈ sides q ∧ isSq ch p = true ∧ isLd ch p = false := by
  unfold wets
  rw [List.mem_filter, Bool.and_eq_true, Bool.not_eq_true']
theorem rim_falls {ch : List Str} (c : Ch ch) {q : Sq} (h : softB ch q = true) : rim (setCh ch q 46) ≤ rim ch := by
  have sq := softB_sq h
  obtain ⟨hl, hw⟩ := softB_iff.mp h
  have key : ∀ p ∈ allSq ch, rimOf (setCh ch q 46) p + (if decide (p ∈ wets ch q) then (1 : Int) else 0) = rimOf ch p + (if p = q then 4 - (((wets ch q).length : Nat) : Int) else 0) := fun p hp => by
    have hp := mem_allSq.mp hp
    by_cases e : p = q
    · subst e
      have ew : wets (setCh ch p 46) p = wets ch p := by
        unfold wets
        exact List.filter_congr fun x hx => by rw [setCh_sq c sq, set46_ld c sq, if_neg (fun e : x = p => sides_self p (e ▸ hx))]
      unfold rimOf
      rw [set46_ld c sq, if_pos rfl, hl, ew, if_pos rfl, decide_eq_false fun hh => sides_self p (mem_wets.mp hh).1]
      simp
    · unfold rimOf
      rw [set46_ld c sq, if_neg e, if_neg e]
      cases el : isLd ch p with
      | true =>
        rw [decide_eq_false fun hh => by rw [(mem_wets.mp hh).2.2] at el; cases el]; rfl
      | false =>
        by_cases hm : p ∈ sides q
        · have e1 : (wets (setCh ch q 46) p).length = (wets ch p).length + 1 := by
            unfold wets
            refine filter_one_more (q := q) (sides_nd p) (sides_symm hm) (by rw [hl, Bool.not_true, Bool.and_false]) (by rw [setCh_sq c sq, sq, set46_ld c sq, if_pos rfl]; rfl) fun x hx => by rw [setCh_sq c sq, set46_ld c sq, if_neg hx]
          rw [decide_eq_true (mem_wets.mpr ⟨hm, hp, el⟩), e1]
          simp; omega
        · have ew : wets (setCh ch q 46) p = wets ch p := by
            unfold wets
            exact List.filter_congr fun x hx => by rw [setCh_sq c sq, set46_ld c sq, if_neg fun e => hm (sides_symm (by rw [← e]; exact hx))]
          rw [decide_eq_false fun hh => hm (mem_wets.mp hh).1, ew]; rfl
  have s1 := congrArg List.sum (List.map_congr_left key)
  rw [sum_add, sum_add, sum_one (allSq_nodup ch) (mem_allSq.mpr sq), sum_ind] at s1
  have hlen : (wets ch q).length ≤ ((allSq ch).filter fun p => decide (p ∈ wets ch q)).length := by
    refine nodup_le (List.filter_sublist.nodup (sides_nd q)) fun p hp => ?_
    exact List.mem_filter.mpr ⟨mem_allSq.mpr (mem_wets.mp hp).2.1, decide_eq_true hp⟩
  have er : rim (setCh ch q 46) = ((allSq ch).map (rimOf (setCh ch q 46))).sum := by
    unfold rim
    rw [(sz_set c sq 46).all]
  rw [er]
  unfold rim
  omega
end Y

namespace W
open PySem PySem.Spec L2 Y
def top (i : Nat) : Stmt := PySem.Challenge.pw_landandwater_k47_judge_of_soaking_papers.main.body.getD i (.Pass ⟨0, 0, 0, 0⟩)
structure Glb (mg : Str → Option Value) : Prop where
  len : mg "len" = none
  range : mg "range" = none
  abs : mg "abs" = none
  int : mg "int" = none
  bool : mg "bool" = none
  sum : mg "sum" = none
  min : mg "min" = none
  max : mg "max" = none
  tuple : mg "tuple" = none
  isinstance : mg "isinstance" = none
  str : mg "str" = none
  list : mg "list" = none
  all : mg "all" = none
  any : mg "any" = none
  c_LAND : ∃ t, mg "LAND" = some (.str "x" t)
  c_WATER : ∃ t, mg "WATER" = some (.str "." t)
  c_ENOUGH : ∃ t, mg "ENOUGH" = some (.int 2 t)

section
variable {P : Program} {w : World} {K : PySem.W.Frag} {mg : Str → Option Value} {base : Heap}
abbrev s__law_take : Stmt := top 18
abbrev N__law_take : List Str := ["deal", "many", "at"]
abbrev P__law_take : List Str := ["deal", "many"]
theorem sc__law_take : FnScope N__law_take P__law_take (defScope s__law_take) := ⟨rfl, rfl, rfl, by decide +kernel, rfl, by decide +kernel, by decide +kernel⟩
theorem ok__law_take (F : At K mg "_law_take" s__law_take P__law_take) (G : Glb mg) : Has P w K mg base "_law_take" 1 P__law_take sp_take := by
  refine Has.of F sc__law_take (fun vs H Q E h => ?_) (fun f cdv A outer s H0 vs Q E hr h => ?_)
  · obtain ⟨d, W, many, rfl, _⟩ := h
    rfl
  · obtain ⟨d, W, many, rfl, rfl, hG, hlim, hpos, kk⟩ := h
    have sc := sc__law_take
    have hA := hG.ok
    have hn := hA.n
    have hp := hA.p
    have h1 := hA.l1
    have hb : (W.n : Int) ≤ 2 ^ 60 := by omega
    generalize hnn : W.n = n at *
    refine ⟨_, pss_cons (ps_set (i := 2) sc.nd rfl (Or.inl rfl) (pe_ix ix_list (pe_ix ix_list (pv 0) pe_int (fun _ _ => rfl)) pe_int (fun _ _ => rfl)))
      (pss_cons (ps_asg (pe_op op_add (pv 2) pe_int) (pg_sub (pe_ix ix_list (pv 0) pe_int (fun _ _ => rfl)) pe_int set_list))
      (pss_cons (ps_if (pt_cmpR op_lt (pv 2) (pe_callB call_len_seq (by rfl) G.len PySem.boot_len (pa_cons (pe_ix ix_list (pv 0) pe_int (fun _ _ => rfl)) pa_nil)) (nomark _))
        (pss_one (ps_ret (pe_op op_mod (pe_ix ix_list (pe_ix ix_list (pv 0) pe_int (fun _ _ => rfl)) (pv 2) (fun _ _ => rfl)) (pv 1)))) pss_nil)
      (pss_one (ps_ret (pe_op op_mod (pe_op op_fdiv (pe_op op_add (pe_op op_add (pe_op op_mul (pv 2) pe_int) (pe_op op_mul (pe_ix ix_list (pv 0) pe_int (fun _ _ => rfl)) pe_int)) (pe_op op_mul (pe_op op_mul (pv 2) (pv 2)) pe_int)) pe_int) (pv 1)))))), ?_⟩
    refine ⟨_, rfl, d.p, _, 1, .ref d.l2, rfl, rfl, SqL.of hp, rfl, d.l2, _, 0, .int (n : Int), rfl, rfl, SqL.of hn, rfl, ?_⟩
    refine ⟨_, rfl, (n : Int), 1, rfl, rfl, ?_⟩
    refine ⟨_, rfl, d.p, _, 1, .ref d.l2, rfl, rfl, SqL.of hp, rfl, d.l2, _, 0, 0, rfl, rfl, hn, rfl, ?_⟩
    have hp' : (upd W.H d.l2 (.lst [.int ((n : Int) + 1)])) d.p = some (.lst [.ref d.l1, .ref d.l2, .int d.tot]) := by rw [upd_ne hA.np]; exact hp
    have h1' : (upd W.H d.l2 (.lst [.int ((n : Int) + 1)])) d.l1 = some (.lst (d.row.map V.int)) := by rw [upd_ne hA.n1]; exact h1
    have gg := drawn hG
    rw [hnn] at gg
    have fin : ∀ x : Int, Q (.int (x % many)) (upd W.H d.l2 (.lst [.int ((n : Int) + 1)])) := fun x => kk (x % many) (Int.emod_nonneg _ (by omega)) (Int.emod_lt_of_pos _ hpos) _ ⟨upd W.H d.l2 (.lst [.int ((n : Int) + 1)]), W.F, n + 1⟩ gg rfl rfl
    refine ⟨_, rfl, _, rfl, d.p, _, 0, .ref d.l1, rfl, rfl, SqL.of hp', rfl, d.l1, _, rfl, .inl (SqL.of h1'), (n : Int), _, rfl, rfl, _, rfl, ?_⟩
    refine ite2 (fun hc => ?_) (fun hc => ?_)
    · have hlt : n < d.row.length := by
        have := of_decide_eq_true hc
        rw [List.length_map] at this
        omega
      have hx : atI (d.row.map V.int) (n : Int) = some (.int d.row[n]) := by
        refine atI_nat ?_
        rw [List.getElem?_map, List.getElem?_eq_getElem hlt]; rfl
      refine ⟨_, rfl, d.p, _, 0, .ref d.l1, rfl, rfl, SqL.of hp', rfl, _, rfl, d.l1, _, (n : Int), .int d.row[n], rfl, rfl, SqL.of h1', hx, _, rfl, d.row[n], many, rfl, rfl, hpos, ?_⟩
      exact fin _
    · have big : -(2 ^ 64 : Int) < (n : Int) ∧ (n : Int) < 2 ^ 64 := ⟨by omega, by omega⟩
      refine ⟨_, rfl, _, _, rfl, rfl, .inl big, ?_⟩
      refine ⟨_, rfl, d.p, _, 2, .int d.tot, rfl, rfl, SqL.of hp', rfl, _, _, rfl, rfl, .inr ⟨by decide, by decide⟩, _, _, rfl, rfl, ?_⟩
      refine ⟨_, rfl, _, rfl, _, _, rfl, rfl, .inl big, _, _, rfl, rfl, .inr ⟨by decide, by decide⟩, _, _, rfl, rfl, _, _, rfl, rfl, ⟨by decide, by decide⟩, _, rfl, _, many, rfl, rfl, hpos, ?_⟩
      exact fin _

abbrev s__law_deal : Stmt := top 17
abbrev N__law_deal : List Str := ["script", "row", "k", "cell", "turn", "total"]
abbrev P__law_deal : List Str := ["script"]
theorem sc__law_deal : FnScope N__law_deal P__law_deal (defScope s__law_deal) := ⟨rfl, rfl, rfl, by decide +kernel, rfl, by decide +kernel, by decide +kernel⟩
def m__law_deal (a_script : List Int) : WP Unit := (WP.row (WP.pure ([] : List Int))).bind fun a1_row => (WP.range1 (WP.min2 (WP.len (WP.pure a_script)) (WP.pure (63 : Int)))).bind fun xs2 => WP.after (WP.loop (γ := Unit) (fun c2 (y2 : (List Int)) => (WP.abs ((WP.ix (WP.pure a_script) (WP.pure c2)).bind WP.pure)).bind fun a3_cell => ((WP.ge (WP.pure a3_cell) (WP.pow (WP.pure (10 : Int)) (WP.pure (18 : Int)))).bind fun b => WP.cond b ((WP.range1 (WP.pure (40 : Int))).bind fun xs5 => WP.after (WP.loop (γ := Unit) (fun c5 (y5 : (List Int) × Int) => ((WP.gt (WP.pure y5.2) (WP.pure (0 : Int))).bind fun b => WP.cond b (((WP.mod (WP.pure y5.2) (WP.pure (1009 : Int))).bind fun a => WP.req (y5.1.length < 100000) (y5.1 ++ [a])).bind fun a7_row => (WP.fdiv (WP.pure y5.2) (WP.pure (1009 : Int))).bind fun a8_cell => (WP.pure (a7_row, a8_cell))) ((WP.pure (y5.1, y5.2)))).bind fun (y6 : (List Int) × Int) => (WP.pure (.nx (y6.1, y6.2)))) xs5 (y2, a3_cell)) (fun (z5 : (List Int) × Int) => (WP.pure (z5.1, z5.2))) (fun r => (WP.none (b := r)))) ((WP.add (WP.add (WP.mul (WP.mod (WP.pure a3_cell) (WP.pure (2147483629 : Int))) (WP.pure (48271 : Int))) (WP.mul (WP.pure c2) (WP.pure (69621 : Int)))) (WP.pure (11 : Int))).bind fun a9_cell => (WP.range1 (WP.pure (5 : Int))).bind fun xs10 => WP.after (WP.loop (γ := Unit) (fun c10 (y10 : (List Int) × Int) => (WP.mod (WP.add (WP.add (WP.mul (WP.pure y10.2) (WP.pure (16807 : Int))) (WP.pure (12345 : Int))) (WP.pure c10)) (WP.pure (2147483647 : Int))).bind fun a11_cell => ((WP.mod (WP.fdiv (WP.pure a11_cell) (WP.pure (7 : Int))) (WP.pure (1009 : Int))).bind fun a => WP.req (y10.1.length < 100000) (y10.1 ++ [a])).bind fun a12_row => (WP.pure (.nx (a12_row, a11_cell)))) xs10 (y2, a9_cell)) (fun (z10 : (List Int) × Int) => (WP.pure (z10.1, z10.2))) (fun r => (WP.none (b := r))))).bind fun (y4 : (List Int) × Int) => (WP.pure (.nx y4.1))) xs2 a1_row) (fun (z2 : (List Int)) => (WP.add (WP.sum (WP.pure z2)) (WP.len (WP.pure a_script))).bind fun a13_total => (WP.pure a13_total).bind fun _ => WP.pure ()) (fun r => (WP.pure r))
theorem ok__law_deal (LT : ∀ ns : List Int, ns.length ≤ 63 → ∀ n, (m__law_deal ns).run n fun _ _ => True) (F : At K mg "_law_deal" s__law_deal P__law_deal) (G : Glb mg)  : Has P w K mg base "_law_deal" 1 P__law_deal (sp_deal K) := by
  refine Has.of F sc__law_deal (fun vs H Q E h => ?_) (fun f cdv A outer s Hent vs Q E hr h => ?_)
  · obtain ⟨v_script, a_script, W0, rfl, _⟩ := h
    rfl
  · obtain ⟨v_script, a_script, W0, rfl, rfl, g00, h_script, hlen, kk⟩ := h
    have hm := LT a_script hlen W0.n
    have sc := sc__law_deal
    have g0 := Gw.refl g00
    unfold m__law_deal at hm
    refine ⟨_, (pss_cons (ps_set (i := 1) sc.nd rfl (Or.inl rfl) (pe_lst pa_nil))
      (pss_cons (ps_for PassesOwn.never rfl (pi_range1 rfl G.range (pa_cons (pe_callB (call_min2 rfl) (by rfl) G.min (by decide +kernel) (pa_cons (pe_callB call_len_seq (by rfl) G.len PySem.boot_len (pa_cons (pv 0) pa_nil)) (pa_cons pe_int pa_nil))) pa_nil)) (pg_name (i := 2) sc.nd rfl (Or.inl rfl))
      (pss_cons (ps_set (i := 3) sc.nd rfl (Or.inl rfl) (pe_callB call_abs (by rfl) G.abs (by decide +kernel) (pa_cons (pe_callTy call_int1 (by rfl) G.int (by decide +kernel) (pa_cons (pe_ix ix_list (pv 0) (pv 2) (fun _ _ => rfl)) pa_nil)) pa_nil)))
      (pss_one (ps_if (pt_cmpR op_ge (pv 3) (pe_op op_pow pe_int pe_int) (nomark _)) (pss_one (ps_for PassesOwn.never rfl (pi_range1 rfl G.range (pa_cons pe_int pa_nil)) (pg_name (i := 4) sc.nd rfl (Or.inl rfl))
      (pss_one (ps_if (pt_cmpR op_gt (pv 3) pe_int (nomark _)) (pss_cons (ps_expr (pe_bm PySem.F.plainAttrs_list PySem.F.slot_list_append PySem.F.type_list_append mt_append (pv 1) (pa_cons (pe_op op_mod (pv 3) pe_int) pa_nil)))
      (pss_one (ps_set (i := 3) sc.nd rfl (Or.inl rfl) (pe_op op_fdiv (pv 3) pe_int)))) pss_nil)))) (pss_cons (ps_set (i := 3) sc.nd rfl (Or.inl rfl) (pe_op op_add (pe_op op_add (pe_op op_mul (pe_op op_mod (pv 3) pe_int) pe_int) (pe_op op_mul (pv 2) pe_int)) pe_int))
      (pss_one (ps_for PassesOwn.never rfl (pi_range1 rfl G.range (pa_cons pe_int pa_nil)) (pg_name (i := 4) sc.nd rfl (Or.inl rfl))
      (pss_cons (ps_set (i := 3) sc.nd rfl (Or.inl rfl) (pe_op op_mod (pe_op op_add (pe_op op_add (pe_op op_mul (pv 3) pe_int) pe_int) (pv 4)) pe_int))
      (pss_one (ps_expr (pe_bm PySem.F.plainAttrs_list PySem.F.slot_list_append PySem.F.type_list_append mt_append (pv 1) (pa_cons (pe_op op_mod (pe_op op_fdiv (pv 3) pe_int) pe_int) pa_nil))))))))))))
      (pss_cons (ps_set (i := 5) sc.nd rfl (Or.inl rfl) (pe_op op_add (pe_callB (cr_sum rfl) (by rfl) G.sum (by decide +kernel) (pa_cons (pv 1) pa_nil)) (pe_callB call_len_seq (by rfl) G.len PySem.boot_len (pa_cons (pv 0) pa_nil))))
      (pss_one (ps_ret (pe_lst (pa_cons (pv 1) (pa_cons (pe_lst (pa_cons pe_int pa_nil)) (pa_cons (pv 5) pa_nil))))))))), ?_⟩
    refine q_asg (W := W0) (ew_lst (eas_nil (α := Int))) g0.ok hm fun a1_row v_row W1 g1 ⟨fp_row, ho0_row, hf_row⟩ hm => ?_
    have hz_row : ∀ a ∈ fp_row, W0.H a = none := fun a m => g0.live a (hf_row a m).1
    have g0 := g0.trans g1
    have ho_row : Var (kL Int) W0 W1 fp_row a1_row v_row := ⟨ho0_row, hz_row, fun b m => (hf_row b m).2.2⟩
    refine q_forR1 (W := W1) (ew_min2 (ew_lenQ rfl (sqL_g g0 h_script)) ew_int) g0.ok hm fun W2 g2 => ?_
    have ho_row := ho_row.go g00 g2
    have g0 := g0.trans g2
    refine ⟨fun y σ' W' => ∃ (v_row : V) (fp_row : List Addr) (o_k : Option V) (o_cell : Option V) (o_turn : Option V), σ' = [some (.ref v_script), some v_row, o_k, o_cell, o_turn, none] ∧ Gw ef0 W0 W' ∧ St W2 W' ∧ Var (kL Int) W0 W' fp_row y v_row, ⟨v_row, fp_row, _, _, _, rfl, g0, (St.refl _), ho_row⟩, fun c2 y2 σi s2 Wi2 R2 nx2 ht hI hm kn2 kb2 kr2 => ?_, fun z2 σi Wi2 hI hm => ?_⟩
    ·
      obtain ⟨v_row, fp_row, o_k, o_cell, o_turn, rfl, g0, sl2, ho_row⟩ := hI
      obtain ⟨v_k, rfl, h_k⟩ := ht
      refine q_asg (W := Wi2) (ew_abs (ew_int1 (ew_ixQ rfl (sqL_g g0 h_script) (ew_var rfl h_k)))) g0.ok hm fun a3_cell v_cell W3 g3 h_cell hm => ?_
      have ho_row := ho_row.go g00 g3
      have h_k := PyI.st g3.st h_k
      have sl2 := sl2.trans g3.st
      have g0 := g0.trans g3
      refine st_join (W := W3) (s := (List Int) × Int) (fun y σ' W' => ∃ (v_cell : V) (v_row : V) (fp_row : List Addr) (o_turn : Option V), σ' = [some (.ref v_script), some v_row, some v_k, some v_cell, o_turn, none] ∧ Gw ef0 W0 W' ∧ St W3 W' ∧ Var (kL Int) W0 W' fp_row y.1 v_row ∧ Rp W' y.2 v_cell) (et_t (ew_ge (ew_var rfl h_cell) (ew_pow ew_int ew_int))) g0.ok hm (fun y4 σj Wj4 hI hm => ?_) (fun W4 R4 g4 hm kj => ?_) (fun W4 R4 g4 hm kj => ?_)
      ·
        obtain ⟨v_cell, v_row, fp_row, o_turn, rfl, g0, sj4, ho_row, h_cell⟩ := hI
        have h_k := PyI.st sj4 h_k
        have sl2 := sl2.trans sj4
        exact kn2 y4.1 _ Wj4 ⟨v_row, fp_row, _, _, _, rfl, g0, sl2, ho_row⟩ hm
      ·
        have ho_row := ho_row.go g00 g4
        have h_k := PyI.st g4.st h_k
        have h_cell := PyI.st g4.st h_cell
        have sl2 := sl2.trans g4.st
        have g0 := g0.trans g4
        have sj4 := g4.st
        refine st_forR1 (W := W4) ew_int g0.ok hm fun W5 g5 => ?_
        have ho_row := ho_row.go g00 g5
        have h_k := PyI.st g5.st h_k
        have h_cell := PyI.st g5.st h_cell
        have sl2 := sl2.trans g5.st
        have sj4 := sj4.trans g5.st
        have g0 := g0.trans g5
        refine ⟨fun y σ' W' => ∃ (v_cell : V) (v_row : V) (fp_row : List Addr) (o_turn : Option V), σ' = [some (.ref v_script), some v_row, some v_k, some v_cell, o_turn, none] ∧ Gw ef0 W0 W' ∧ St W5 W' ∧ Var (kL Int) W0 W' fp_row y.1 v_row ∧ Rp W' y.2 v_cell, ⟨v_cell, v_row, fp_row, _, rfl, g0, (St.refl _), ho_row, h_cell⟩, fun c5 y5 σi s2 Wi5 R5 nx5 ht hI hm kn5 kb5 kr5 => ?_, fun z5 σi Wi5 hI hm => ?_⟩
        ·
          obtain ⟨v_cell, v_row, fp_row, o_turn, rfl, g0, sl5, ho_row, h_cell⟩ := hI
          have h_k := PyI.st sl5 h_k
          have sl2 := sl2.trans sl5
          have sj4 := sj4.trans sl5
          obtain ⟨v_turn, rfl, h_turn⟩ := ht
          refine st_join (W := Wi5) (s := (List Int) × Int) (fun y σ' W' => ∃ (v_cell : V) (v_row : V) (fp_row : List Addr), σ' = [some (.ref v_script), some v_row, some v_k, some v_cell, some v_turn, none] ∧ Gw ef0 W0 W' ∧ St Wi5 W' ∧ Var (kL Int) W0 W' fp_row y.1 v_row ∧ Rp W' y.2 v_cell) (et_t (ew_gt (ew_var rfl h_cell) ew_int)) g0.ok hm (fun y6 σj Wj6 hI hm => ?_) (fun W6 R6 g6 hm kj => ?_) (fun W6 R6 g6 hm kj => ?_)
          ·
            obtain ⟨v_cell, v_row, fp_row, rfl, g0, sj6, ho_row, h_cell⟩ := hI
            have h_k := PyI.st sj6 h_k
            have h_turn := PyI.st sj6 h_turn
            have sl2 := sl2.trans sj6
            have sj4 := sj4.trans sj6
            have sl5 := sl5.trans sj6
            exact kn5 (y6.1, y6.2) _ Wj6 ⟨v_cell, v_row, fp_row, _, rfl, g0, sl5, ho_row, h_cell⟩ hm
          ·
            have ho_row := ho_row.go g00 g6
            have h_k := PyI.st g6.st h_k
            have h_cell := PyI.st g6.st h_cell
            have h_turn := PyI.st g6.st h_turn
            have sl2 := sl2.trans g6.st
            have sj4 := sj4.trans g6.st
            have sl5 := sl5.trans g6.st
            have g0 := g0.trans g6
            have sj6 := g6.st
            refine q_app (W := W6) g00 g0 rfl ho_row (ew_mod (ew_var rfl h_cell) ew_int) hm fun a7_row W7_ W7 l_row el_row g7 s g02 kk ff ho_row hm => ?_
            have h_k := PyI.st g7.st h_k
            have h_cell := PyI.st g7.st h_cell
            have h_turn := PyI.st g7.st h_turn
            have sl2 := sl2.trans g7.st
            have sj4 := sj4.trans g7.st
            have sl5 := sl5.trans g7.st
            have sj6 := sj6.trans g7.st
            have g0 := g0.trans g7
            have h_k := PyI.st s h_k
            have h_cell := PyI.st s h_cell
            have h_turn := PyI.st s h_turn
            have sl2 := sl2.trans s
            have sj4 := sj4.trans s
            have sl5 := sl5.trans s
            have sj6 := sj6.trans s
            have g0 := g02
            refine st_asg (W := W7) (ew_fdiv (ew_var rfl h_cell) ew_int) g0.ok hm fun a8_cell v_cell W8 g8 h_cell hm => ?_
            have ho_row := ho_row.go g00 g8
            have h_k := PyI.st g8.st h_k
            have h_turn := PyI.st g8.st h_turn
            have sl2 := sl2.trans g8.st
            have sj4 := sj4.trans g8.st
            have sl5 := sl5.trans g8.st
            have sj6 := sj6.trans g8.st
            have g0 := g0.trans g8
            exact kj (a7_row, a8_cell) _ W8 ⟨v_cell, v_row, fp_row, rfl, g0, sj6, ho_row, h_cell⟩ hm
          ·
            have ho_row := ho_row.go g00 g6
            have h_k := PyI.st g6.st h_k
            have h_cell := PyI.st g6.st h_cell
            have h_turn := PyI.st g6.st h_turn
            have sl2 := sl2.trans g6.st
            have sj4 := sj4.trans g6.st
            have sl5 := sl5.trans g6.st
            have g0 := g0.trans g6
            have sj6 := g6.st
            refine st_next ?_
            exact kj (y5.1, y5.2) _ W6 ⟨v_cell, v_row, fp_row, rfl, g0, sj6, ho_row, h_cell⟩ hm
        ·
          obtain ⟨v_cell, v_row, fp_row, o_turn, rfl, g0, sl5, ho_row, h_cell⟩ := hI
          have h_k := PyI.st sl5 h_k
          have sl2 := sl2.trans sl5
          have sj4 := sj4.trans sl5
          exact kj (z5.1, z5.2) _ Wi5 ⟨v_cell, v_row, fp_row, _, rfl, g0, sj4, ho_row, h_cell⟩ hm
      ·
        have ho_row := ho_row.go g00 g4
        have h_k := PyI.st g4.st h_k
        have h_cell := PyI.st g4.st h_cell
        have sl2 := sl2.trans g4.st
        have g0 := g0.trans g4
        have sj4 := g4.st
        refine q_asg (W := W4) (ew_add (ew_add (ew_mul (ew_mod (ew_var rfl h_cell) ew_int) ew_int) (ew_mul (ew_var rfl h_k) ew_int)) ew_int) g0.ok hm fun a9_cell v_cell W9 g9 h_cell hm => ?_
        have ho_row := ho_row.go g00 g9
        have h_k := PyI.st g9.st h_k
        have sl2 := sl2.trans g9.st
        have sj4 := sj4.trans g9.st
        have g0 := g0.trans g9
        refine st_forR1 (W := W9) ew_int g0.ok hm fun W10 g10 => ?_
        have ho_row := ho_row.go g00 g10
        have h_k := PyI.st g10.st h_k
        have h_cell := PyI.st g10.st h_cell
        have sl2 := sl2.trans g10.st
        have sj4 := sj4.trans g10.st
        have g0 := g0.trans g10
        refine ⟨fun y σ' W' => ∃ (v_cell : V) (v_row : V) (fp_row : List Addr) (o_turn : Option V), σ' = [some (.ref v_script), some v_row, some v_k, some v_cell, o_turn, none] ∧ Gw ef0 W0 W' ∧ St W10 W' ∧ Var (kL Int) W0 W' fp_row y.1 v_row ∧ Rp W' y.2 v_cell, ⟨v_cell, v_row, fp_row, _, rfl, g0, (St.refl _), ho_row, h_cell⟩, fun c10 y10 σi s2 Wi10 R10 nx10 ht hI hm kn10 kb10 kr10 => ?_, fun z10 σi Wi10 hI hm => ?_⟩
        ·
          obtain ⟨v_cell, v_row, fp_row, o_turn, rfl, g0, sl10, ho_row, h_cell⟩ := hI
          have h_k := PyI.st sl10 h_k
          have sl2 := sl2.trans sl10
          have sj4 := sj4.trans sl10
          obtain ⟨v_turn, rfl, h_turn⟩ := ht
          refine q_asg (W := Wi10) (ew_mod (ew_add (ew_add (ew_mul (ew_var rfl h_cell) ew_int) ew_int) (ew_var rfl h_turn)) ew_int) g0.ok hm fun a11_cell v_cell W11 g11 h_cell hm => ?_
          have ho_row := ho_row.go g00 g11
          have h_k := PyI.st g11.st h_k
          have h_turn := PyI.st g11.st h_turn
          have sl2 := sl2.trans g11.st
          have sj4 := sj4.trans g11.st
          have sl10 := sl10.trans g11.st
          have g0 := g0.trans g11
          refine st_app (W := W11) g00 g0 rfl ho_row (ew_mod (ew_fdiv (ew_var rfl h_cell) ew_int) ew_int) hm fun a12_row W12_ W12 l_row el_row g12 s g02 kk ff ho_row hm => ?_
          have h_k := PyI.st g12.st h_k
          have h_cell := PyI.st g12.st h_cell
          have h_turn := PyI.st g12.st h_turn
          have sl2 := sl2.trans g12.st
          have sj4 := sj4.trans g12.st
          have sl10 := sl10.trans g12.st
          have g0 := g0.trans g12
          have h_k := PyI.st s h_k
          have h_cell := PyI.st s h_cell
          have h_turn := PyI.st s h_turn
          have sl2 := sl2.trans s
          have sj4 := sj4.trans s
          have sl10 := sl10.trans s
          have g0 := g02
          exact kn10 (a12_row, a11_cell) _ W12 ⟨v_cell, v_row, fp_row, _, rfl, g0, sl10, ho_row, h_cell⟩ hm
        ·
          obtain ⟨v_cell, v_row, fp_row, o_turn, rfl, g0, sl10, ho_row, h_cell⟩ := hI
          have h_k := PyI.st sl10 h_k
          have sl2 := sl2.trans sl10
          have sj4 := sj4.trans sl10
          exact kj (z10.1, z10.2) _ Wi10 ⟨v_cell, v_row, fp_row, _, rfl, g0, sj4, ho_row, h_cell⟩ hm
    ·
      obtain ⟨v_row, fp_row, o_k, o_cell, o_turn, rfl, g0, sl2, ho_row⟩ := hI
      refine q_asg (W := Wi2) (ew_add (ew_sum (ew_varR rfl (Var.nS g00 ho_row) ho_row.own)) (ew_lenQ rfl (sqL_g g0 h_script))) g0.ok hm fun a13_total v_total W13 g13 h_total hm => ?_
      have ho_row := ho_row.go g00 g13
      have g0 := g0.trans g13
      exact st_retdeal g00 g0 rfl ho_row (ew_var rfl h_total) hm fun t v W1 g hn nd hm => kk v W1 g hn nd
abbrev s_is_square : Stmt := top 3
abbrev N_is_square : List Str := ["chart", "square", "row", "column"]
abbrev P_is_square : List Str := ["chart", "square"]
theorem sc_is_square : FnScope N_is_square P_is_square (defScope s_is_square) := ⟨rfl, rfl, rfl, by decide +kernel, rfl, by decide +kernel, by decide +kernel⟩
def m_is_square (a_chart : (List Str)) (a_square : Sq) : WP Bool := (WP.pure a_square).bind fun a1_row_column => (WP.and (WP.chain (fun i j => decide (i ≤ j)) (fun i j => decide (i < j)) (WP.pure (0 : Int)) (WP.pure a1_row_column.1) (WP.len (WP.pure a_chart))) (WP.chain (fun i j => decide (i ≤ j)) (fun i j => decide (i < j)) (WP.pure (0 : Int)) (WP.pure a1_row_column.2) (WP.lenS (WP.ix (WP.pure a_chart) (WP.pure (0 : Int)))))).bind fun r2 => (WP.pure r2)
def sp_is_square : Sp := fun vs H Q _ => ∃ (W : Wo) (a_chart : (List Str)) (a_square : Sq) (v_chart v_square : V), vs = [v_chart, v_square] ∧ W.H = H ∧ Good ef0 W ∧ Rp W a_chart v_chart ∧ Rp W a_square v_square ∧ (m_is_square a_chart a_square).run W.n fun n r => ∀ v W', Gw ef0 W W' → W'.n = n → (sI (e := ef0) (α := Bool)).post W W' r v → Q v W'.H
theorem ev_is_square {e : Ef} {σ : L2.St} {W : Wo} {E : XK} {t0 t1 : TE} {w0 : WP (List Str)} {w1 : WP Sq} (h0 : EvW e t0 σ W sI w0) (h1 : EvW e t1 σ W sI w1) : EvW e (tCall sp_is_square [] E (tCons t0 (tCons t1 tNil))) σ W (sI (α := Bool)) (WP.b2 w0 w1 m_is_square) := ew_call2N h0 h1 fun W2 b0 b1 x0 x1 g2 r0 r1 Q q E => by
  exact ⟨W2, b0, b1, x0, x1, rfl, rfl, g2.z, r0, r1, WP.mono _ (fun n c h v W3 g3 hn p => h v W3 (Gw.up g2 g3) hn p) q⟩
theorem ok_is_square (F : At K mg "is_square" s_is_square P_is_square) (G : Glb mg)  : Has P w K mg base "is_square" 1 P_is_square sp_is_square := by
  refine Has.of F sc_is_square (fun vs H Q E h => ?_) (fun f cdv A outer s H0 vs Q E hr h => ?_)
  · obtain ⟨W0, a_chart, a_square, v_chart, v_square, rfl, _⟩ := h
    rfl
  · obtain ⟨W0, a_chart, a_square, v_chart, v_square, rfl, rfl, g00, h_chart, h_square, hm⟩ := h
    have sc := sc_is_square
    have g0 := Gw.refl g00
    unfold m_is_square at hm
    refine ⟨_, (pss_cons (ps_asg (pv 1) (pg_tup rfl (pgs_cons (pg_name (i := 2) sc.nd rfl (Or.inl rfl)) (pgs_cons (pg_name (i := 3) sc.nd rfl (Or.inl rfl)) pgs_nil))))
      (pss_one (ps_ret (pe_and (pe_chain op_le op_lt pe_int (pv 2) (pe_callB call_len_seq (by rfl) G.len PySem.boot_len (pa_cons (pv 0) pa_nil))) (pe_one (pe_chain op_le op_lt pe_int (pv 3) (pe_callB call_len_str (by rfl) G.len PySem.boot_len (pa_cons (pe_ix ix_tup (pv 0) pe_int (fun _ _ => rfl)) pa_nil)))))))), ?_⟩
    refine q_un2 (W := W0) (ew_var rfl h_square) g0.ok hm fun a1_row_column v_row v_column W1 g1 h_row h_column hm => ?_
    have h_chart := PyI.st g1.st h_chart
    have h_square := PyI.st g1.st h_square
    have g0 := g0.trans g1
    refine st_ret (W := W1) (ew_andV (ew_chain (C := fun i j => decide (i ≤ j)) (C' := fun i j => decide (i < j)) ew_int (ew_var rfl h_row) (ew_lenT (ew_var rfl h_chart))) (ew_chain (C := fun i j => decide (i ≤ j)) (C' := fun i j => decide (i < j)) ew_int (ew_var rfl h_column) (ew_lenS (ew_ixT (ew_var rfl h_chart) ew_int)))) g0.ok hm fun r2 v_ret W2 g2 hp hm => ?_
    exact hm v_ret W2 (g0.trans g2) rfl hp
abbrev s_is_land : Stmt := top 4
abbrev N_is_land : List Str := ["chart", "square"]
abbrev P_is_land : List Str := ["chart", "square"]
theorem sc_is_land : FnScope N_is_land P_is_land (defScope s_is_land) := ⟨rfl, rfl, rfl, by decide +kernel, rfl, by decide +kernel, by decide +kernel⟩
def m_is_land (a_chart : (List Str)) (a_square : Sq) : WP Bool := (WP.and (WP.b2 (WP.pure a_chart) (WP.pure a_square) m_is_square) (WP.eq (WP.ixS (WP.ix (WP.pure a_chart) (WP.fst (WP.pure a_square))) (WP.snd (WP.pure a_square))) (WP.pure ("x" : Str)))).bind fun r1 => (WP.pure r1)
def sp_is_land : Sp := fun vs H Q _ => ∃ (W : Wo) (a_chart : (List Str)) (a_square : Sq) (v_chart v_square : V), vs = [v_chart, v_square] ∧ W.H = H ∧ Good ef0 W ∧ Rp W a_chart v_chart ∧ Rp W a_square v_square ∧ (m_is_land a_chart a_square).run W.n fun n r => ∀ v W', Gw ef0 W W' → W'.n = n → (sI (e := ef0) (α := Bool)).post W W' r v → Q v W'.H
theorem ev_is_land {e : Ef} {σ : L2.St} {W : Wo} {E : XK} {t0 t1 : TE} {w0 : WP (List Str)} {w1 : WP Sq} (h0 : EvW e t0 σ W sI w0) (h1 : EvW e t1 σ W sI w1) : EvW e (tCall sp_is_land [] E (tCons t0 (tCons t1 tNil))) σ W (sI (α := Bool)) (WP.b2 w0 w1 m_is_land) := ew_call2N h0 h1 fun W2 b0 b1 x0 x1 g2 r0 r1 Q q E => by
  exact ⟨W2, b0, b1, x0, x1, rfl, rfl, g2.z, r0, r1, WP.mono _ (fun n c h v W3 g3 hn p => h v W3 (Gw.up g2 g3) hn p) q⟩
theorem ok_is_land (F : At K mg "is_land" s_is_land P_is_land) (G : Glb mg) (H_is_square : Has P w K mg base "is_square" 1 P_is_square sp_is_square) : Has P w K mg base "is_land" 2 P_is_land sp_is_land := by
  refine Has.of F sc_is_land (fun vs H Q E h => ?_) (fun f cdv A outer s H0 vs Q E hr h => ?_)
  · obtain ⟨W0, a_chart, a_square, v_chart, v_square, rfl, _⟩ := h
    rfl
  · obtain ⟨W0, a_chart, a_square, v_chart, v_square, rfl, rfl, g00, h_chart, h_square, hm⟩ := h
    have sc := sc_is_land
    have g0 := Gw.refl g00
    unfold m_is_land at hm
    refine ⟨_, (pss_one (ps_ret (pe_and (pe_user H_is_square (hr.mono (by decide)) rfl (pa_cons (pv 0) (pa_cons (pv 1) pa_nil))) (pe_one (pe_cmpR op_eq (pe_ix ix_str (pe_ix ix_tup (pv 0) (pe_ix ix_tup (pv 1) pe_int (fun _ _ => rfl)) (fun _ _ => rfl)) (pe_ix ix_tup (pv 1) pe_int (fun _ _ => rfl)) (fun _ _ => rfl)) (pe_glob (v := .str "x") rfl G.c_LAND.choose_spec ⟨_, rfl⟩) (nomark _)))))), ?_⟩
    refine st_ret (W := W0) (ew_andV (ev_is_square (ew_var rfl h_chart) (ew_var rfl h_square)) (ew_eq (ew_ixS (ew_ixT (ew_var rfl h_chart) (ew_fst (ew_var rfl h_square))) (ew_snd (ew_var rfl h_square))) ew_str)) g0.ok hm fun r1 v_ret W1 g1 hp hm => ?_
    exact hm v_ret W1 (g0.trans g1) rfl hp
abbrev s_squares_of : Stmt := top 5
abbrev N_squares_of : List Str := ["chart", "row", "column"]
abbrev P_squares_of : List Str := ["chart"]
theorem sc_squares_of : FnScope N_squares_of P_squares_of (defScope s_squares_of) := ⟨rfl, rfl, rfl, by decide +kernel, rfl, by decide +kernel, by decide +kernel⟩
def m_squares_of (a_chart : (List Str)) : WP (List Sq) := (WP.lc2 (WP.range1 (WP.len (WP.pure a_chart))) (fun c1 => (WP.pure true)) (fun c1 => (WP.range1 (WP.lenS (WP.ix (WP.pure a_chart) (WP.pure (0 : Int)))))) (fun c1 d1 => (WP.pure true)) (fun c1 d1 => (WP.pair (WP.pure c1) (WP.pure d1)))).bind fun r1 => (WP.pure r1)
def sp_squares_of : Sp := fun vs H Q _ => ∃ (W : Wo) (a_chart : (List Str)) (v_chart : V), vs = [v_chart] ∧ W.H = H ∧ Good ef0 W ∧ Rp W a_chart v_chart ∧ (m_squares_of a_chart).run W.n fun n r => ∀ v W', Gw ef0 W W' → W'.n = n → (sN (e := ef0) (kL Sq)).post W W' r v → Q v W'.H
theorem ev_squares_of {e : Ef} {σ : L2.St} {W : Wo} {E : XK} {t0 : TE} {w0 : WP (List Str)} (h0 : EvW e t0 σ W sI w0) : EvW e (tCall sp_squares_of [] E (tCons t0 tNil)) σ W (sN (kL Sq)) (WP.b1 w0 m_squares_of) := ew_call1N h0 fun W2 b0 x0 g2 r0 Q q E => by
  exact ⟨W2, b0, x0, rfl, rfl, g2.z, r0, WP.mono _ (fun n c h v W3 g3 hn p => h v W3 (Gw.up g2 g3) hn (sN_up g2 p)) q⟩
theorem ok_squares_of (F : At K mg "squares_of" s_squares_of P_squares_of) (G : Glb mg)  : Has P w K mg base "squares_of" 1 P_squares_of sp_squares_of := by
  refine Has.of F sc_squares_of (fun vs H Q E h => ?_) (fun f cdv A outer s H0 vs Q E hr h => ?_)
  · obtain ⟨W0, a_chart, v_chart, rfl, _⟩ := h
    rfl
  · obtain ⟨W0, a_chart, v_chart, rfl, rfl, g00, h_chart, hm⟩ := h
    have sc := sc_squares_of
    have g0 := Gw.refl g00
    unfold m_squares_of at hm
    refine ⟨_, (pss_one (ps_ret (pe_lc2 (own := [("row", 1), ("column", 2)]) (vs1 := [2]) (g := gName 1) (g1 := gName 2) (tt := tYes) (tt1 := tYes) rfl sc.nd (pi_range1 rfl G.range (pa_cons (pe_callB call_len_seq (by rfl) G.len PySem.boot_len (pa_cons (pv 0) pa_nil)) pa_nil)) (blkOk_by (N := N_squares_of) (sc := defScope s_squares_of) (by decide +kernel)) (by decide) (fun _ _ _ _ _ => (pg_name (i := 1) sc.nd rfl (Or.inl rfl))) (fun _ _ _ _ _ => pts_nil) (fun _ _ _ _ _ => (pi_range1 rfl G.range (pa_cons (pe_callB call_len_str (by rfl) G.len PySem.boot_len (pa_cons (pe_ix (ix_tupK (K := K) rfl) (pv 0) pe_int (fun _ _ => rfl)) pa_nil)) pa_nil))) (fun _ _ _ _ _ => (pg_name (i := 2) sc.nd rfl (Or.inl rfl))) (fun _ _ _ _ _ => pts_nil) (fun _ _ _ _ _ => (pe_tup (pa_cons (pv 1) (pa_cons (pv 2) pa_nil))))))), ?_⟩
    refine st_ret (W := W0) (ew_lc2 (src_R (ew_lenT (ew_var rfl h_chart))) takes_N (fun _ _ _ h => by obtain ⟨v_row, ec, h_row⟩ := h; subst ec; rfl) (fun c1 Wc s2 gc h => by obtain ⟨v_row, ec, h_row⟩ := h; subst ec; have h_chart := PyI.st gc.st h_chart; exact et_yes) (fun c1 Wc s2 gc h => by obtain ⟨v_row, ec, h_row⟩ := h; subst ec;  have h_chart := PyI.st gc.st h_chart; exact (src_R (ew_lenS (ew_ixT (ew_var rfl h_chart) ew_int)))) (fun s2 => takes_N) (fun s2 _ _ _ h => by obtain ⟨v, ec, _⟩ := h; subst ec; exact wipe1) (fun c1 Wc s2 d1 Wd s3 gc h gd sd h2 => by obtain ⟨v_row, ec, h_row⟩ := h; subst ec; obtain ⟨v_column, ed, h_column⟩ := h2; subst ed; have h_row := PyI.st sd h_row; have h_chart := PyI.st gd.st h_chart; exact et_yes) (fun c1 Wc s2 d1 Wd s3 gc h gd sd h2 => by obtain ⟨v_row, ec, h_row⟩ := h; subst ec; obtain ⟨v_column, ed, h_column⟩ := h2; subst ed; have h_row := PyI.st sd h_row; have h_chart := PyI.st gd.st h_chart; exact (ew_pair (ew_var rfl h_row) (ew_var rfl h_column)))) g0.ok hm fun r1 v_ret W1 g1 hp hm => ?_
    exact hm v_ret W1 (g0.trans g1) rfl ((sN (kL Sq)).back g0 hp)
abbrev s_land_squares : Stmt := top 6
abbrev N_land_squares : List Str := ["chart", "square"]
abbrev P_land_squares : List Str := ["chart"]
theorem sc_land_squares : FnScope N_land_squares P_land_squares (defScope s_land_squares) := ⟨rfl, rfl, rfl, by decide +kernel, rfl, by decide +kernel, by decide +kernel⟩
def m_land_squares (a_chart : (List Str)) : WP (List Sq) := (WP.lc (WP.b1 (WP.pure a_chart) m_squares_of) (fun c1 => (WP.b2 (WP.pure a_chart) (WP.pure c1) m_is_land)) (fun c1 => (WP.pure c1))).bind fun r1 => (WP.pure r1)
def sp_land_squares : Sp := fun vs H Q _ => ∃ (W : Wo) (a_chart : (List Str)) (v_chart : V), vs = [v_chart] ∧ W.H = H ∧ Good ef0 W ∧ Rp W a_chart v_chart ∧ (m_land_squares a_chart).run W.n fun n r => ∀ v W', Gw ef0 W W' → W'.n = n → (sN (e := ef0) (kL Sq)).post W W' r v → Q v W'.H
theorem ev_land_squares {e : Ef} {σ : L2.St} {W : Wo} {E : XK} {t0 : TE} {w0 : WP (List Str)} (h0 : EvW e t0 σ W sI w0) : EvW e (tCall sp_land_squares [] E (tCons t0 tNil)) σ W (sN (kL Sq)) (WP.b1 w0 m_land_squares) := ew_call1N h0 fun W2 b0 x0 g2 r0 Q q E => by
  exact ⟨W2, b0, x0, rfl, rfl, g2.z, r0, WP.mono _ (fun n c h v W3 g3 hn p => h v W3 (Gw.up g2 g3) hn (sN_up g2 p)) q⟩
theorem ok_land_squares (F : At K mg "land_squares" s_land_squares P_land_squares) (G : Glb mg) (H_is_land : Has P w K mg base "is_land" 2 P_is_land sp_is_land) (H_squares_of : Has P w K mg base "squares_of" 1 P_squares_of sp_squares_of) : Has P w K mg base "land_squares" 3 P_land_squares sp_land_squares := by
  refine Has.of F sc_land_squares (fun vs H Q E h => ?_) (fun f cdv A outer s H0 vs Q E hr h => ?_)
  · obtain ⟨W0, a_chart, v_chart, rfl, _⟩ := h
    rfl
  · obtain ⟨W0, a_chart, v_chart, rfl, rfl, g00, h_chart, hm⟩ := h
    have sc := sc_land_squares
    have g0 := Gw.refl g00
    unfold m_land_squares at hm
    refine ⟨_, (pss_one (ps_ret (pe_lc (own := [("square", 1)]) (g := gName 1) rfl sc.nd (pi_list (pe_user H_squares_of (hr.mono (by decide)) rfl (pa_cons (pv 0) pa_nil))) (blkOk_by (N := N_land_squares) (sc := defScope s_land_squares) (by decide +kernel)) (fun _ _ _ _ _ => (pg_name (i := 1) sc.nd rfl (Or.inl rfl))) (fun _ _ _ _ _ => (pts_one (pt_val (pe_user H_is_land (hr.mono (by decide)) rfl (pa_cons (pv 0) (pa_cons (pv 1) pa_nil)))))) (fun _ _ _ _ _ => (pv 1))))), ?_⟩
    refine st_ret (W := W0) (ew_lcL (ew_rd (ev_squares_of (ew_var rfl h_chart))) takes_N (fun _ _ _ h => by obtain ⟨v_square, ec, h_square⟩ := h; subst ec; rfl) (fun c1 Wc1 s2 gc1 h => by obtain ⟨v_square, ec, h_square⟩ := h; subst ec; have h_chart := PyI.st gc1.st h_chart; exact (et_B (ev_is_land (ew_var rfl h_chart) (ew_var rfl h_square)))) (fun c1 Wc1 s2 gc1 h => by obtain ⟨v_square, ec, h_square⟩ := h; subst ec; have h_chart := PyI.st gc1.st h_chart; exact (ew_var rfl h_square))) g0.ok hm fun r1 v_ret W1 g1 hp hm => ?_
    exact hm v_ret W1 (g0.trans g1) rfl ((sN (kL Sq)).back g0 hp)
abbrev s_side_neighbours : Stmt := top 7
abbrev N_side_neighbours : List Str := ["square", "row", "column"]
abbrev P_side_neighbours : List Str := ["square"]
theorem sc_side_neighbours : FnScope N_side_neighbours P_side_neighbours (defScope s_side_neighbours) := ⟨rfl, rfl, rfl, by decide +kernel, rfl, by decide +kernel, by decide +kernel⟩
def m_side_neighbours (a_square : Sq) : WP (List Sq) := (WP.pure a_square).bind fun a1_row_column => (WP.row (WP.consE (WP.pair (WP.sub (WP.pure a1_row_column.1) (WP.pure (1 : Int))) (WP.pure a1_row_column.2)) (WP.consE (WP.pair (WP.pure a1_row_column.1) (WP.sub (WP.pure a1_row_column.2) (WP.pure (1 : Int)))) (WP.consE (WP.pair (WP.pure a1_row_column.1) (WP.add (WP.pure a1_row_column.2) (WP.pure (1 : Int)))) (WP.consE (WP.pair (WP.add (WP.pure a1_row_column.1) (WP.pure (1 : Int))) (WP.pure a1_row_column.2)) (WP.pure ([] : List Sq))))))).bind fun r2 => (WP.pure r2)
def sp_side_neighbours : Sp := fun vs H Q _ => ∃ (W : Wo) (a_square : Sq) (v_square : V), vs = [v_square] ∧ W.H = H ∧ Good ef0 W ∧ Rp W a_square v_square ∧ (m_side_neighbours a_square).run W.n fun n r => ∀ v W', Gw ef0 W W' → W'.n = n → (sN (e := ef0) (kL Sq)).post W W' r v → Q v W'.H
theorem ev_side_neighbours {e : Ef} {σ : L2.St} {W : Wo} {E : XK} {t0 : TE} {w0 : WP Sq} (h0 : EvW e t0 σ W sI w0) : EvW e (tCall sp_side_neighbours [] E (tCons t0 tNil)) σ W (sN (kL Sq)) (WP.b1 w0 m_side_neighbours) := ew_call1N h0 fun W2 b0 x0 g2 r0 Q q E => by
  exact ⟨W2, b0, x0, rfl, rfl, g2.z, r0, WP.mono _ (fun n c h v W3 g3 hn p => h v W3 (Gw.up g2 g3) hn (sN_up g2 p)) q⟩
theorem ok_side_neighbours (F : At K mg "side_neighbours" s_side_neighbours P_side_neighbours) (G : Glb mg)  : Has P w K mg base "side_neighbours" 1 P_side_neighbours sp_side_neighbours := by
  refine Has.of F sc_side_neighbours (fun vs H Q E h => ?_) (fun f cdv A outer s H0 vs Q E hr h => ?_)
  · obtain ⟨W0, a_square, v_square, rfl, _⟩ := h
    rfl
  · obtain ⟨W0, a_square, v_square, rfl, rfl, g00, h_square, hm⟩ := h
    have sc := sc_side_neighbours
    have g0 := Gw.refl g00
    unfold m_side_neighbours at hm
    refine ⟨_, (pss_cons (ps_asg (pv 0) (pg_tup rfl (pgs_cons (pg_name (i := 1) sc.nd rfl (Or.inl rfl)) (pgs_cons (pg_name (i := 2) sc.nd rfl (Or.inl rfl)) pgs_nil))))
      (pss_one (ps_ret (pe_lst (pa_cons (pe_tup (pa_cons (pe_op op_sub (pv 1) pe_int) (pa_cons (pv 2) pa_nil))) (pa_cons (pe_tup (pa_cons (pv 1) (pa_cons (pe_op op_sub (pv 2) pe_int) pa_nil))) (pa_cons (pe_tup (pa_cons (pv 1) (pa_cons (pe_op op_add (pv 2) pe_int) pa_nil))) (pa_cons (pe_tup (pa_cons (pe_op op_add (pv 1) pe_int) (pa_cons (pv 2) pa_nil))) pa_nil)))))))), ?_⟩
    refine q_un2 (W := W0) (ew_var rfl h_square) g0.ok hm fun a1_row_column v_row v_column W1 g1 h_row h_column hm => ?_
    have h_square := PyI.st g1.st h_square
    have g0 := g0.trans g1
    refine st_ret (W := W1) (ew_lst (eas_cons (ew_pair (ew_sub (ew_var rfl h_row) ew_int) (ew_var rfl h_column)) (eas_cons (ew_pair (ew_var rfl h_row) (ew_sub (ew_var rfl h_column) ew_int)) (eas_cons (ew_pair (ew_var rfl h_row) (ew_add (ew_var rfl h_column) ew_int)) (eas_cons (ew_pair (ew_add (ew_var rfl h_row) ew_int) (ew_var rfl h_column)) (eas_nil (α := Sq))))))) g0.ok hm fun r2 v_ret W2 g2 hp hm => ?_
    exact hm v_ret W2 (g0.trans g2) rfl ((sN (kL Sq)).back g0 hp)
abbrev s_with_squares : Stmt := top 8
abbrev N_with_squares : List Str := ["chart", "squares", "land", "grid", "square", "row"]
abbrev P_with_squares : List Str := ["chart", "squares", "land"]
theorem sc_with_squares : FnScope N_with_squares P_with_squares (defScope s_with_squares) := ⟨rfl, rfl, rfl, by decide +kernel, rfl, by decide +kernel, by decide +kernel⟩
def m_with_squares (a_chart : (List Str)) (a_squares : (List Sq)) (a_land : Bool) : WP (List Str) := (WP.lc (WP.pure a_chart) (fun c1 => (WP.pure true)) (fun c1 => (WP.listS (WP.pure c1)))).bind fun a1_grid => WP.after (WP.loop (γ := (List Str)) (fun c2 (y2 : (List (List Str))) => ((WP.b2 (WP.pure a_chart) (WP.pure c2) m_is_square).bind fun b => WP.cond b ((WP.gset y2 (WP.ite (WP.pure a_land) (WP.pure ("x" : Str)) (WP.pure ("." : Str))) (WP.fst (WP.pure c2)) (WP.snd (WP.pure c2))).bind fun a4_grid => (WP.pure a4_grid)) ((WP.pure y2))).bind fun (y3 : (List (List Str))) => (WP.pure (.nx y3))) a_squares a1_grid) (fun (z2 : (List (List Str))) => ((WP.lc (WP.pure z2) (fun c2 => (WP.pure true)) (fun c2 => (WP.join (WP.pure (Str.ofString "")) (WP.pure c2)))).bind fun xs => WP.pure (α := List _) xs).bind fun r5 => (WP.pure r5)) (fun r => (WP.pure r))
def sp_with_squares : Sp := fun vs H Q _ => ∃ (W : Wo) (a_chart : (List Str)) (a_squares : (List Sq)) (a_land : Bool) (v_chart v_squares v_land : V) (fp_squares : List Addr), vs = [v_chart, v_squares, v_land] ∧ W.H = H ∧ Good ef0 W ∧ Rp W a_chart v_chart ∧ (kL Sq).own W fp_squares a_squares v_squares ∧ (∀ a ∈ fp_squares, ¬ ef0.S a) ∧ Rp W a_land v_land ∧ (m_with_squares a_chart a_squares a_land).run W.n fun n r => ∀ v W', Gw ef0 W W' → W'.n = n → (sI (e := ef0) (α := (List Str))).post W W' r v → Q v W'.H
theorem ev_with_squares {e : Ef} {σ : L2.St} {W : Wo} {E : XK} {t0 t1 t2 : TE} {w0 : WP (List Str)} {w1 : WP (List Sq)} {w2 : WP Bool} (h0 : EvW e t0 σ W sI w0) (h1 : EvW e t1 σ W (sR (kL Sq)) w1) (h2 : EvW e t2 σ W sI w2) : EvW e (tCall sp_with_squares [] E (tCons t0 (tCons t1 (tCons t2 tNil)))) σ W (sI (α := (List Str))) (WP.b3 w0 w1 w2 m_with_squares) := ew_call3N h0 h1 h2 fun W2 b0 b1 b2 x0 x1 x2 g2 r0 ⟨fp1, r1, s1⟩ r2 Q q E => by
  exact ⟨W2, b0, b1, b2, x0, x1, x2, fp1, rfl, rfl, g2.z, r0, r1, fun _ _ z => z, r2, WP.mono _ (fun n c h v W3 g3 hn p => h v W3 (Gw.up g2 g3) hn p) q⟩
theorem ok_with_squares (F : At K mg "with_squares" s_with_squares P_with_squares) (G : Glb mg) (H_is_square : Has P w K mg base "is_square" 1 P_is_square sp_is_square) : Has P w K mg base "with_squares" 2 P_with_squares sp_with_squares := by
  refine Has.of F sc_with_squares (fun vs H Q E h => ?_) (fun f cdv A outer s H0 vs Q E hr h => ?_)
  · obtain ⟨W0, a_chart, a_squares, a_land, v_chart, v_squares, v_land, fp_squares, rfl, _⟩ := h
    rfl
  · obtain ⟨W0, a_chart, a_squares, a_land, v_chart, v_squares, v_land, fp_squares, rfl, rfl, g00, h_chart, hb_squares, hS_squares, h_land, hm⟩ := h
    have sc := sc_with_squares
    have g0 := Gw.refl g00
    have hl_squares := (kL Sq).live hb_squares
    have hb0_squares := hb_squares
    unfold m_with_squares at hm
    refine ⟨_, (pss_cons (ps_setLc (i := 3) (own := [("row", 5)]) (g := gName 5) (tt := tYes) rfl sc.nd rfl rfl (sw_true rfl rfl rfl (by decide +kernel)) (pi_tup (pv 0)) (blkOk_by (N := N_with_squares) (sc := defScope s_with_squares) (by decide +kernel)) (fun _ _ _ _ _ => (pg_name (i := 5) sc.nd rfl (Or.inl rfl))) (fun _ _ _ _ _ => pts_nil) (fun _ _ _ _ _ => (pe_callTy (cr_listStr rfl) (by rfl) G.list (by decide +kernel) (pa_cons (pv 5) pa_nil))))
      (pss_cons (ps_for PassesOwn.never rfl (pi_list (pv 1)) (pg_name (i := 4) sc.nd rfl (Or.inl rfl))
      (pss_one (ps_if (pt_val (pe_user H_is_square (hr.mono (by decide)) rfl (pa_cons (pv 0) (pa_cons (pv 4) pa_nil)))) (pss_one (ps_asg (pe_ifExp (pt_val (pv 2)) (pe_glob (v := .str "x") rfl G.c_LAND.choose_spec ⟨_, rfl⟩) (pe_glob (v := .str ".") rfl G.c_WATER.choose_spec ⟨_, rfl⟩)) (pg_sub (pe_ix ix_list (pv 3) (pe_ix ix_tup (pv 4) pe_int (fun _ _ => rfl)) (fun _ _ => rfl)) (pe_ix ix_tup (pv 4) pe_int (fun _ _ => rfl)) set_list))) pss_nil)))
      (pss_one (ps_ret (pe_callTy call_tuple_of (by rfl) G.tuple (by decide +kernel) (pa_cons (pe_lc (own := [("row", 5)]) (g := gName 5) (tt := tYes) rfl sc.nd (pi_list (pv 3)) (blkOk_by (N := N_with_squares) (sc := defScope s_with_squares) (by decide +kernel)) (fun _ _ _ _ _ => (pg_name (i := 5) sc.nd rfl (Or.inl rfl))) (fun _ _ _ _ _ => pts_nil) (fun _ _ _ _ _ => (pe_joinK (K := K) rfl pe_str (pv 5)))) pa_nil)))))), ?_⟩
    refine q_asg (W := W0) (ew_lcGr (src_T (ew_var rfl h_chart)) takes_N (fun _ _ _ h => by obtain ⟨v_row, ec, h_row⟩ := h; subst ec; rfl) (fun c1 Wc1 s2 gc1 h => by obtain ⟨v_row, ec, h_row⟩ := h; subst ec; have h_chart := PyI.st gc1.st h_chart; exact et_yes) (fun c1 Wc1 s2 gc1 h => by obtain ⟨v_row, ec, h_row⟩ := h; subst ec; have h_chart := PyI.st gc1.st h_chart; exact (ew_listS (ew_var rfl h_row)))) g0.ok hm fun a1_grid v_grid W1 g1 ⟨fp_grid, ho0_grid, hf_grid⟩ hm => ?_
    have hz_grid : ∀ a ∈ fp_grid, W0.H a = none := fun a m => g0.live a (hf_grid a m).1
    have h_chart := PyI.st g1.st h_chart
    have hb_squares := Kd.go g1 hS_squares hb_squares
    have h_land := PyI.st g1.st h_land
    have g0 := g0.trans g1
    have ho_grid : Var (kG Str) W0 W1 fp_grid a1_grid v_grid := ⟨ho0_grid, hz_grid, fun b m => (hf_grid b m).2.2⟩
    obtain ⟨p_it2, vs_it2, ef_it2, ev_it2, hp_it2, hr_it2⟩ := own_list hb_squares
    have nS_it2 := hS_squares p_it2 (by rw [ef_it2]; exact List.mem_singleton.mpr rfl)
    have dj_it2_grid : ∀ b ∈ [p_it2], b ∉ fp_grid := fun b m z => hl_squares b (by rw [ef_it2]; exact m) (ho_grid.fr b z)
    refine q_forV (W := W1) tk_N (by rw [← ev_it2]; rfl) hp_it2 hr_it2 hm (fun y σ' W' => ∃ (v_grid : V) (fp_grid : List Addr) (o_square : Option V), σ' = [some v_chart, some v_squares, some v_land, some v_grid, o_square, none] ∧ Gw ef0 W0 W' ∧ St W1 W' ∧ Var (kG Str) W0 W' fp_grid y v_grid ∧ W'.H p_it2 = some (.lst vs_it2) ∧ (∀ b ∈ [p_it2], b ∉ fp_grid)) ⟨v_grid, fp_grid, _, rfl, g0, (St.refl _), ho_grid, hp_it2, dj_it2_grid⟩ (fun _ _ _ hI => ?_) (fun c2 y2 σi s2 Wi2 R2 nx2 ht hI hm kn2 kb2 kr2 => ?_) (fun z2 σi Wi2 hI hm => ?_)
    · obtain ⟨v_grid, fp_grid, o_square, rfl, g0, sl2, ho_grid, hp_it2, dj_it2_grid⟩ := hI
      exact ⟨sl2, hp_it2⟩
    ·
      obtain ⟨v_grid, fp_grid, o_square, rfl, g0, sl2, ho_grid, hp_it2, dj_it2_grid⟩ := hI
      have h_chart := PyI.st sl2 h_chart
      have hb_squares := Kd.go g0 hS_squares hb0_squares
      have h_land := PyI.st sl2 h_land
      obtain ⟨v_square, rfl, h_square⟩ := ht
      refine st_join (W := Wi2) (s := (List (List Str))) (fun y σ' W' => ∃ (v_grid : V) (fp_grid : List Addr), σ' = [some v_chart, some v_squares, some v_land, some v_grid, some v_square, none] ∧ Gw ef0 W0 W' ∧ St Wi2 W' ∧ Var (kG Str) W0 W' fp_grid y v_grid ∧ W'.H p_it2 = some (.lst vs_it2) ∧ (∀ b ∈ [p_it2], b ∉ fp_grid)) (et_B (ev_is_square (ew_var rfl h_chart) (ew_var rfl h_square))) g0.ok hm (fun y3 σj Wj3 hI hm => ?_) (fun W3 R3 g3 hm kj => ?_) (fun W3 R3 g3 hm kj => ?_)
      ·
        obtain ⟨v_grid, fp_grid, rfl, g0, sj3, ho_grid, hp_it2, dj_it2_grid⟩ := hI
        have h_chart := PyI.st sj3 h_chart
        have hb_squares := Kd.go g0 hS_squares hb0_squares
        have h_land := PyI.st sj3 h_land
        have h_square := PyI.st sj3 h_square
        have sl2 := sl2.trans sj3
        exact kn2 y3 _ Wj3 ⟨v_grid, fp_grid, _, rfl, g0, sl2, ho_grid, hp_it2, dj_it2_grid⟩ hm
      ·
        have h_chart := PyI.st g3.st h_chart
        have hb_squares := Kd.go g3 hS_squares hb_squares
        have h_land := PyI.st g3.st h_land
        have ho_grid := ho_grid.go g00 g3
        have h_square := PyI.st g3.st h_square
        have sl2 := sl2.trans g3.st
        have hp_it2 := g3.keep _ _ hp_it2 nS_it2
        have g0 := g0.trans g3
        have sj3 := g3.st
        refine st_gset (W := W3) g00 g0 rfl ho_grid (ew_ifE (et_B (ew_var rfl h_land)) ew_str ew_str) (ew_fst (ew_var rfl h_square)) (ew_snd (ew_var rfl h_square)) hm fun a4_grid W4_ W4 g4 s g02 kk ff ho_grid hm => ?_
        have h_chart := PyI.st g4.st h_chart
        have hb_squares := Kd.go g4 hS_squares hb_squares
        have h_land := PyI.st g4.st h_land
        have h_square := PyI.st g4.st h_square
        have sl2 := sl2.trans g4.st
        have sj3 := sj3.trans g4.st
        have hp_it2 := g4.keep _ _ hp_it2 nS_it2
        have g0 := g0.trans g4
        have h_chart := PyI.st s h_chart
        have hb_squares := Kd.st _ s (kk fp_squares _ Kp.refl fun b m z => hl_squares b m (ho_grid.fr b z)) hb_squares
        have h_land := PyI.st s h_land
        have h_square := PyI.st s h_square
        have sl2 := sl2.trans s
        have sj3 := sj3.trans s
        have hp_it2 := kk [p_it2] _ Kp.refl dj_it2_grid _ (List.mem_singleton.mpr rfl) _ hp_it2
        have g0 := g02
        exact kj a4_grid _ W4 ⟨v_grid, fp_grid, rfl, g0, sj3, ho_grid, hp_it2, dj_it2_grid⟩ hm
      ·
        have h_chart := PyI.st g3.st h_chart
        have hb_squares := Kd.go g3 hS_squares hb_squares
        have h_land := PyI.st g3.st h_land
        have ho_grid := ho_grid.go g00 g3
        have h_square := PyI.st g3.st h_square
        have sl2 := sl2.trans g3.st
        have hp_it2 := g3.keep _ _ hp_it2 nS_it2
        have g0 := g0.trans g3
        have sj3 := g3.st
        refine st_next ?_
        exact kj y2 _ W3 ⟨v_grid, fp_grid, rfl, g0, sj3, ho_grid, hp_it2, dj_it2_grid⟩ hm
    ·
      obtain ⟨v_grid, fp_grid, o_square, rfl, g0, sl2, ho_grid, hp_it2, dj_it2_grid⟩ := hI
      have h_chart := PyI.st sl2 h_chart
      have hb_squares := Kd.go g0 hS_squares hb0_squares
      have h_land := PyI.st sl2 h_land
      refine st_ret (W := Wi2) (ew_tuple (ew_rd (ew_lcG (ew_varR rfl (Var.nS g00 ho_grid) ho_grid.own) takes_R (fun _ _ _ h => by obtain ⟨v_row, fp_row, ec, hb_row, hS_row⟩ := h; subst ec; rfl) (fun c2 Wc2 s2 gc2 h => by obtain ⟨v_row, fp_row, ec, hb_row, hS_row⟩ := h; subst ec; have ho_grid := ho_grid.go g00 gc2; exact et_yes) (fun c2 Wc2 s2 gc2 h => by obtain ⟨v_row, fp_row, ec, hb_row, hS_row⟩ := h; subst ec; have ho_grid := ho_grid.go g00 gc2; exact (ew_join ew_str (ew_varR rfl hS_row hb_row)))))) g0.ok hm fun r5 v_ret W5 g5 hp hm => ?_
      exact hm v_ret W5 (g0.trans g5) rfl hp
abbrev s_wet_beside : Stmt := top 11
abbrev N_wet_beside : List Str := ["chart", "square", "other"]
abbrev P_wet_beside : List Str := ["chart", "square"]
theorem sc_wet_beside : FnScope N_wet_beside P_wet_beside (defScope s_wet_beside) := ⟨rfl, rfl, rfl, by decide +kernel, rfl, by decide +kernel, by decide +kernel⟩
def m_wet_beside (a_chart : (List Str)) (a_square : Sq) : WP (List Sq) := (WP.lc (WP.b1 (WP.pure a_square) m_side_neighbours) (fun c1 => (WP.and (WP.b2 (WP.pure a_chart) (WP.pure c1) m_is_square) (WP.not (WP.b2 (WP.pure a_chart) (WP.pure c1) m_is_land)))) (fun c1 => (WP.pure c1))).bind fun r1 => (WP.pure r1)
def sp_wet_beside : Sp := fun vs H Q _ => ∃ (W : Wo) (a_chart : (List Str)) (a_square : Sq) (v_chart v_square : V), vs = [v_chart, v_square] ∧ W.H = H ∧ Good ef0 W ∧ Rp W a_chart v_chart ∧ Rp W a_square v_square ∧ (m_wet_beside a_chart a_square).run W.n fun n r => ∀ v W', Gw ef0 W W' → W'.n = n → (sN (e := ef0) (kL Sq)).post W W' r v → Q v W'.H
theorem ev_wet_beside {e : Ef} {σ : L2.St} {W : Wo} {E : XK} {t0 t1 : TE} {w0 : WP (List Str)} {w1 : WP Sq} (h0 : EvW e t0 σ W sI w0) (h1 : EvW e t1 σ W sI w1) : EvW e (tCall sp_wet_beside [] E (tCons t0 (tCons t1 tNil))) σ W (sN (kL Sq)) (WP.b2 w0 w1 m_wet_beside) := ew_call2N h0 h1 fun W2 b0 b1 x0 x1 g2 r0 r1 Q q E => by
  exact ⟨W2, b0, b1, x0, x1, rfl, rfl, g2.z, r0, r1, WP.mono _ (fun n c h v W3 g3 hn p => h v W3 (Gw.up g2 g3) hn (sN_up g2 p)) q⟩
theorem ok_wet_beside (F : At K mg "wet_beside" s_wet_beside P_wet_beside) (G : Glb mg) (H_is_land : Has P w K mg base "is_land" 2 P_is_land sp_is_land) (H_is_square : Has P w K mg base "is_square" 1 P_is_square sp_is_square) (H_side_neighbours : Has P w K mg base "side_neighbours" 1 P_side_neighbours sp_side_neighbours) : Has P w K mg base "wet_beside" 3 P_wet_beside sp_wet_beside := by
  refine Has.of F sc_wet_beside (fun vs H Q E h => ?_) (fun f cdv A outer s H0 vs Q E hr h => ?_)
  · obtain ⟨W0, a_chart, a_square, v_chart, v_square, rfl, _⟩ := h
    rfl
  · obtain ⟨W0, a_chart, a_square, v_chart, v_square, rfl, rfl, g00, h_chart, h_square, hm⟩ := h
    have sc := sc_wet_beside
    have g0 := Gw.refl g00
    unfold m_wet_beside at hm
    refine ⟨_, (pss_one (ps_ret (pe_lc (own := [("other", 2)]) (g := gName 2) rfl sc.nd (pi_list (pe_user H_side_neighbours (hr.mono (by decide)) rfl (pa_cons (pv 1) pa_nil))) (blkOk_by (N := N_wet_beside) (sc := defScope s_wet_beside) (by decide +kernel)) (fun _ _ _ _ _ => (pg_name (i := 2) sc.nd rfl (Or.inl rfl))) (fun _ _ _ _ _ => (pts_one (PW.pt (pw_and (pt_val (pe_user H_is_square (hr.mono (by decide)) rfl (pa_cons (pv 0) (pa_cons (pv 2) pa_nil)))) (pw_and1 (pt_not (pt_val (pe_user H_is_land (hr.mono (by decide)) rfl (pa_cons (pv 0) (pa_cons (pv 2) pa_nil)))))))))) (fun _ _ _ _ _ => (pv 2))))), ?_⟩
    refine st_ret (W := W0) (ew_lcL (ew_rd (ev_side_neighbours (ew_var rfl h_square))) takes_N (fun _ _ _ h => by obtain ⟨v_other, ec, h_other⟩ := h; subst ec; rfl) (fun c1 Wc1 s2 gc1 h => by obtain ⟨v_other, ec, h_other⟩ := h; subst ec; have h_chart := PyI.st gc1.st h_chart; have h_square := PyI.st gc1.st h_square; exact (et_and (et_B (ev_is_square (ew_var rfl h_chart) (ew_var rfl h_other))) (et_not (et_B (ev_is_land (ew_var rfl h_chart) (ew_var rfl h_other)))))) (fun c1 Wc1 s2 gc1 h => by obtain ⟨v_other, ec, h_other⟩ := h; subst ec; have h_chart := PyI.st gc1.st h_chart; have h_square := PyI.st gc1.st h_square; exact (ew_var rfl h_other))) g0.ok hm fun r1 v_ret W1 g1 hp hm => ?_
    exact hm v_ret W1 (g0.trans g1) rfl ((sN (kL Sq)).back g0 hp)
abbrev s_soaking_paper : Stmt := top 12
abbrev N_soaking_paper : List Str := ["chart", "found", "queue", "at", "square", "other"]
abbrev P_soaking_paper : List Str := ["chart"]
theorem sc_soaking_paper : FnScope N_soaking_paper P_soaking_paper (defScope s_soaking_paper) := ⟨rfl, rfl, rfl, by decide +kernel, rfl, by decide +kernel, by decide +kernel⟩
def m_soaking_paper (a_chart : (List Str)) : WP (List Sq) := (WP.row (WP.pure ([] : List Sq))).bind fun a1_found => (WP.b1 (WP.pure a_chart) m_land_squares).bind fun a2_queue => (WP.pure (0 : Int)).bind fun a3_at => WP.after (WP.whilst (γ := (List Sq)) (fun (y4 : (List Str) × (List Sq) × (List Sq) × Int) => (WP.lt (WP.pure y4.2.2.2) (WP.len (WP.pure y4.2.2.1)))) (fun (y4 : (List Str) × (List Sq) × (List Sq) × Int) => (WP.ix (WP.pure y4.2.2.1) (WP.pure y4.2.2.2)).bind fun a5_square => ((WP.and (WP.b2 (WP.pure y4.1) (WP.pure a5_square) m_is_land) (WP.ge (WP.len (WP.b2 (WP.pure y4.1) (WP.pure a5_square) m_wet_beside)) (WP.pure (2 : Int)))).bind fun b => WP.cond b ((WP.b3 (WP.pure y4.1) (WP.row (WP.consE (WP.pure a5_square) (WP.pure ([] : List Sq)))) (WP.pure false) m_with_squares).bind fun a8_chart => ((WP.pure a5_square).bind fun a => WP.req (y4.2.1.length < 100000) (y4.2.1 ++ [a])).bind fun a9_found => ((WP.lc (WP.b1 (WP.pure a5_square) m_side_neighbours) (fun c1 => (WP.b2 (WP.pure a8_chart) (WP.pure c1) m_is_land)) (fun c1 => (WP.pure c1))).bind fun a => WP.req (y4.2.2.1.length + a.length ≤ 100000) (y4.2.2.1 ++ a)).bind fun a10_queue => (WP.pure (a8_chart, a9_found, a10_queue))) ((WP.pure (y4.1, y4.2.1, y4.2.2.1)))).bind fun (y6 : (List Str) × (List Sq) × (List Sq)) => (WP.add (WP.pure y4.2.2.2) (WP.pure (1 : Int))).bind fun a7_at => (WP.pure (.nx (y6.1, y6.2.1, y6.2.2, a7_at)))) (a_chart, a1_found, a2_queue, a3_at)) (fun (z4 : (List Str) × (List Sq) × (List Sq) × Int) => (WP.pure z4.2.1)) (fun r => (WP.pure r))
def sp_soaking_paper : Sp := fun vs H Q _ => ∃ (W : Wo) (a_chart : (List Str)) (v_chart : V), vs = [v_chart] ∧ W.H = H ∧ Good ef0 W ∧ Rp W a_chart v_chart ∧ (m_soaking_paper a_chart).run W.n fun n r => ∀ v W', Gw ef0 W W' → W'.n = n → (sN (e := ef0) (kL Sq)).post W W' r v → Q v W'.H
theorem ev_soaking_paper {e : Ef} {σ : L2.St} {W : Wo} {E : XK} {t0 : TE} {w0 : WP (List Str)} (h0 : EvW e t0 σ W sI w0) : EvW e (tCall sp_soaking_paper [] E (tCons t0 tNil)) σ W (sN (kL Sq)) (WP.b1 w0 m_soaking_paper) := ew_call1N h0 fun W2 b0 x0 g2 r0 Q q E => by
  exact ⟨W2, b0, x0, rfl, rfl, g2.z, r0, WP.mono _ (fun n c h v W3 g3 hn p => h v W3 (Gw.up g2 g3) hn (sN_up g2 p)) q⟩
theorem ok_soaking_paper (F : At K mg "soaking_paper" s_soaking_paper P_soaking_paper) (G : Glb mg) (H_is_land : Has P w K mg base "is_land" 2 P_is_land sp_is_land) (H_land_squares : Has P w K mg base "land_squares" 3 P_land_squares sp_land_squares) (H_side_neighbours : Has P w K mg base "side_neighbours" 1 P_side_neighbours sp_side_neighbours) (H_wet_beside : Has P w K mg base "wet_beside" 3 P_wet_beside sp_wet_beside) (H_with_squares : Has P w K mg base "with_squares" 2 P_with_squares sp_with_squares) : Has P w K mg base "soaking_paper" 4 P_soaking_paper sp_soaking_paper := by
  refine Has.of F sc_soaking_paper (fun vs H Q E h => ?_) (fun f cdv A outer s H0 vs Q E hr h => ?_)
  · obtain ⟨W0, a_chart, v_chart, rfl, _⟩ := h
    rfl
  · obtain ⟨W0, a_chart, v_chart, rfl, rfl, g00, h_chart, hm⟩ := h
    have sc := sc_soaking_paper
    have g0 := Gw.refl g00
    unfold m_soaking_paper at hm
    refine ⟨_, (pss_cons (ps_set (i := 1) sc.nd rfl (Or.inl rfl) (pe_lst pa_nil))
      (pss_cons (ps_set (i := 2) sc.nd rfl (Or.inl rfl) (pe_user H_land_squares (hr.mono (by decide)) rfl (pa_cons (pv 0) pa_nil)))
      (pss_cons (ps_set (i := 3) sc.nd rfl (Or.inl rfl) pe_int)
      (pss_cons (ps_while PassesOwn.never (pt_cmpR op_lt (pv 3) (pe_callB call_len_seq (by rfl) G.len PySem.boot_len (pa_cons (pv 2) pa_nil)) (nomark _))
      (pss_cons (ps_set (i := 4) sc.nd rfl (Or.inl rfl) (pe_ix ix_list (pv 2) (pv 3) (fun _ _ => rfl)))
      (pss_cons (ps_if (PW.pt (pw_and (pt_val (pe_user H_is_land (hr.mono (by decide)) rfl (pa_cons (pv 0) (pa_cons (pv 4) pa_nil)))) (pw_and1 (pt_cmpR op_ge (pe_callB call_len_seq (by rfl) G.len PySem.boot_len (pa_cons (pe_user H_wet_beside (hr.mono (by decide)) rfl (pa_cons (pv 0) (pa_cons (pv 4) pa_nil))) pa_nil)) (pe_glob (v := .int 2) rfl G.c_ENOUGH.choose_spec ⟨_, rfl⟩) (nomark _))))) (pss_cons (ps_set (i := 0) sc.nd rfl (Or.inr rfl) (pe_user H_with_squares (hr.mono (by decide)) rfl (pa_cons (pv 0) (pa_cons (pe_lst (pa_cons (pv 4) pa_nil)) (pa_cons pe_bl pa_nil)))))
      (pss_cons (ps_expr (pe_bm PySem.F.plainAttrs_list PySem.F.slot_list_append PySem.F.type_list_append mt_append (pv 1) (pa_cons (pv 4) pa_nil)))
      (pss_one (ps_expr (pe_bm PySem.F.plainAttrs_list PySem.F.slot_list_extend PySem.F.type_list_extend mt_extend (pv 2) (pa_cons (pe_lc (own := [("other", 5)]) (g := gName 5) rfl sc.nd (pi_list (pe_user H_side_neighbours (hr.mono (by decide)) rfl (pa_cons (pv 4) pa_nil))) (blkOk_by (N := N_soaking_paper) (sc := defScope s_soaking_paper) (by decide +kernel)) (fun _ _ _ _ _ => (pg_name (i := 5) sc.nd rfl (Or.inl rfl))) (fun _ _ _ _ _ => (pts_one (pt_val (pe_user H_is_land (hr.mono (by decide)) rfl (pa_cons (pv 0) (pa_cons (pv 5) pa_nil)))))) (fun _ _ _ _ _ => (pv 5))) pa_nil)))))) pss_nil)
      (pss_one (ps_set (i := 3) sc.nd rfl (Or.inl rfl) (pe_op op_add (pv 3) pe_int))))))
      (pss_one (ps_ret (pv 1))))))), ?_⟩
    refine q_asg (W := W0) (ew_lst (eas_nil (α := Sq))) g0.ok hm fun a1_found v_found W1 g1 ⟨fp_found, ho0_found, hf_found⟩ hm => ?_
    have hz_found : ∀ a ∈ fp_found, W0.H a = none := fun a m => g0.live a (hf_found a m).1
    have h_chart := PyI.st g1.st h_chart
    have g0 := g0.trans g1
    have ho_found : Var (kL Sq) W0 W1 fp_found a1_found v_found := ⟨ho0_found, hz_found, fun b m => (hf_found b m).2.2⟩
    refine q_asg (W := W1) (ev_land_squares (ew_var rfl h_chart)) g0.ok hm fun a2_queue v_queue W2 g2 ⟨fp_queue, ho0_queue, hf_queue⟩ hm => ?_
    have dj_found_queue : ∀ b ∈ fp_found, b ∉ fp_queue := fun b m z => (kL Sq).live ho_found.own b m (hf_queue b z).1
    have hz_queue : ∀ a ∈ fp_queue, W0.H a = none := fun a m => g0.live a (hf_queue a m).1
    have h_chart := PyI.st g2.st h_chart
    have ho_found := ho_found.go g00 g2
    have g0 := g0.trans g2
    have ho_queue : Var (kL Sq) W0 W2 fp_queue a2_queue v_queue := ⟨ho0_queue, hz_queue, fun b m => (hf_queue b m).2.2⟩
    refine q_asg (W := W2) ew_int g0.ok hm fun a3_at v_at W3 g3 h_at hm => ?_
    have h_chart := PyI.st g3.st h_chart
    have ho_found := ho_found.go g00 g3
    have ho_queue := ho_queue.go g00 g3
    have g0 := g0.trans g3
    refine q_while (W := W3) g0.ok hm (fun y σ' W' => ∃ (v_chart : V) (v_at : V) (v_found : V) (fp_found : List Addr) (v_queue : V) (fp_queue : List Addr) (o_square : Option V), σ' = [some v_chart, some v_found, some v_queue, some v_at, o_square, none] ∧ Gw ef0 W0 W' ∧ St W3 W' ∧ Rp W' y.1 v_chart ∧ Var (kL Sq) W0 W' fp_found y.2.1 v_found ∧ Var (kL Sq) W0 W' fp_queue y.2.2.1 v_queue ∧ Rp W' y.2.2.2 v_at ∧ (∀ b ∈ fp_found, b ∉ fp_queue)) ⟨v_chart, v_at, v_found, fp_found, v_queue, fp_queue, _, rfl, g0, (St.refl _), h_chart, ho_found, ho_queue, h_at, dj_found_queue⟩ (fun y4 σi Wi4 hI => ?_) (fun z4 σi Wi4 hI hm => ?_)
    ·
      obtain ⟨v_chart, v_at, v_found, fp_found, v_queue, fp_queue, o_square, rfl, g0, sl4, h_chart, ho_found, ho_queue, h_at, dj_found_queue⟩ := hI
      refine ⟨g0.ok, (et_t (ew_lt (ew_var rfl h_at) (ew_lenL (ew_varR rfl (Var.nS g00 ho_queue) ho_queue.own)))), fun W4 g4 => ?_⟩
      have h_chart := PyI.st g4.st h_chart
      have ho_found := ho_found.go g00 g4
      have ho_queue := ho_queue.go g00 g4
      have h_at := PyI.st g4.st h_at
      have sl4 := sl4.trans g4.st
      have g0 := g0.trans g4
      refine ⟨fun R4 nx4 hm kn4 kb4 kr4 => ?_, ⟨v_chart, v_at, v_found, fp_found, v_queue, fp_queue, _, rfl, g0, sl4, h_chart, ho_found, ho_queue, h_at, dj_found_queue⟩⟩
      refine q_asg (W := W4) (ew_ixL (ew_varR rfl (Var.nS g00 ho_queue) ho_queue.own) (ew_var rfl h_at)) g0.ok hm fun a5_square v_square W5 g5 h_square hm => ?_
      have h_chart := PyI.st g5.st h_chart
      have ho_found := ho_found.go g00 g5
      have ho_queue := ho_queue.go g00 g5
      have h_at := PyI.st g5.st h_at
      have sl4 := sl4.trans g5.st
      have g0 := g0.trans g5
      refine q_join (W := W5) (s := (List Str) × (List Sq) × (List Sq)) (fun y σ' W' => ∃ (v_chart : V) (v_found : V) (fp_found : List Addr) (v_queue : V) (fp_queue : List Addr), σ' = [some v_chart, some v_found, some v_queue, some v_at, some v_square, none] ∧ Gw ef0 W0 W' ∧ St W5 W' ∧ Rp W' y.1 v_chart ∧ Var (kL Sq) W0 W' fp_found y.2.1 v_found ∧ Var (kL Sq) W0 W' fp_queue y.2.2 v_queue ∧ (∀ b ∈ fp_found, b ∉ fp_queue)) (et_and (et_B (ev_is_land (ew_var rfl h_chart) (ew_var rfl h_square))) (et_t (ew_ge (ew_lenL (ew_rd (ev_wet_beside (ew_var rfl h_chart) (ew_var rfl h_square)))) ew_int))) g0.ok hm (fun y6 σj Wj6 hI hm => ?_) (fun W6 R6 g6 hm kj => ?_) (fun W6 R6 g6 hm kj => ?_)
      ·
        obtain ⟨v_chart, v_found, fp_found, v_queue, fp_queue, rfl, g0, sj6, h_chart, ho_found, ho_queue, dj_found_queue⟩ := hI
        have h_at := PyI.st sj6 h_at
        have h_square := PyI.st sj6 h_square
        have sl4 := sl4.trans sj6
        refine st_asg (W := Wj6) (ew_add (ew_var rfl h_at) ew_int) g0.ok hm fun a7_at v_at W7 g7 h_at hm => ?_
        have h_chart := PyI.st g7.st h_chart
        have ho_found := ho_found.go g00 g7
        have ho_queue := ho_queue.go g00 g7
        have h_square := PyI.st g7.st h_square
        have sl4 := sl4.trans g7.st
        have g0 := g0.trans g7
        exact kn4 (y6.1, y6.2.1, y6.2.2, a7_at) _ W7 ⟨v_chart, v_at, v_found, fp_found, v_queue, fp_queue, _, rfl, g0, sl4, h_chart, ho_found, ho_queue, h_at, dj_found_queue⟩ hm
      ·
        have h_chart := PyI.st g6.st h_chart
        have ho_found := ho_found.go g00 g6
        have ho_queue := ho_queue.go g00 g6
        have h_at := PyI.st g6.st h_at
        have h_square := PyI.st g6.st h_square
        have sl4 := sl4.trans g6.st
        have g0 := g0.trans g6
        have sj6 := g6.st
        refine q_asg (W := W6) (ev_with_squares (ew_var rfl h_chart) (ew_rd (ew_lst (eas_cons (ew_var rfl h_square) (eas_nil (α := Sq))))) ew_bl) g0.ok hm fun a8_chart v_chart W8 g8 h_chart hm => ?_
        have ho_found := ho_found.go g00 g8
        have ho_queue := ho_queue.go g00 g8
        have h_at := PyI.st g8.st h_at
        have h_square := PyI.st g8.st h_square
        have sl4 := sl4.trans g8.st
        have sj6 := sj6.trans g8.st
        have g0 := g0.trans g8
        refine q_app (W := W8) g00 g0 rfl ho_found (ew_var rfl h_square) hm fun a9_found W9_ W9 l_found el_found g9 s g02 kk ff ho_found hm => ?_
        have h_chart := PyI.st g9.st h_chart
        have ho_queue := ho_queue.go g00 g9
        have h_at := PyI.st g9.st h_at
        have h_square := PyI.st g9.st h_square
        have sl4 := sl4.trans g9.st
        have sj6 := sj6.trans g9.st
        have g0 := g0.trans g9
        have h_chart := PyI.st s h_chart
        have ho_queue := ho_queue.kept s kk ff (fun b m z => dj_found_queue b z m)
        have h_at := PyI.st s h_at
        have h_square := PyI.st s h_square
        have sl4 := sl4.trans s
        have sj6 := sj6.trans s
        have g0 := g02
        refine st_ext (W := W9) g00 g0 rfl ho_queue (ew_rd (ew_lcL (ew_rd (ev_side_neighbours (ew_var rfl h_square))) takes_N (fun _ _ _ h => by obtain ⟨v_other, ec, h_other⟩ := h; subst ec; rfl) (fun c1 Wc1 s2 gc1 h => by obtain ⟨v_other, ec, h_other⟩ := h; subst ec; have h_chart := PyI.st gc1.st h_chart; have h_square := PyI.st gc1.st h_square; exact (et_B (ev_is_land (ew_var rfl h_chart) (ew_var rfl h_other)))) (fun c1 Wc1 s2 gc1 h => by obtain ⟨v_other, ec, h_other⟩ := h; subst ec; have h_chart := PyI.st gc1.st h_chart; have h_square := PyI.st gc1.st h_square; exact (ew_var rfl h_other)))) hm fun a10_queue W10_ W10 l_queue el_queue g10 s g02 kk ff ho_queue hm => ?_
        have h_chart := PyI.st g10.st h_chart
        have ho_found := ho_found.go g00 g10
        have h_at := PyI.st g10.st h_at
        have h_square := PyI.st g10.st h_square
        have sl4 := sl4.trans g10.st
        have sj6 := sj6.trans g10.st
        have g0 := g0.trans g10
        have h_chart := PyI.st s h_chart
        have ho_found := ho_found.kept s kk ff dj_found_queue
        have h_at := PyI.st s h_at
        have h_square := PyI.st s h_square
        have sl4 := sl4.trans s
        have sj6 := sj6.trans s
        have g0 := g02
        exact kj (a8_chart, a9_found, a10_queue) _ W10 ⟨v_chart, v_found, fp_found, v_queue, fp_queue, rfl, g0, sj6, h_chart, ho_found, ho_queue, dj_found_queue⟩ hm
      ·
        have h_chart := PyI.st g6.st h_chart
        have ho_found := ho_found.go g00 g6
        have ho_queue := ho_queue.go g00 g6
        have h_at := PyI.st g6.st h_at
        have h_square := PyI.st g6.st h_square
        have sl4 := sl4.trans g6.st
        have g0 := g0.trans g6
        have sj6 := g6.st
        refine st_next ?_
        exact kj (y4.1, y4.2.1, y4.2.2.1) _ W6 ⟨v_chart, v_found, fp_found, v_queue, fp_queue, rfl, g0, sj6, h_chart, ho_found, ho_queue, dj_found_queue⟩ hm
    ·
      obtain ⟨v_chart, v_at, v_found, fp_found, v_queue, fp_queue, o_square, rfl, g0, sl4, h_chart, ho_found, ho_queue, h_at, dj_found_queue⟩ := hI
      exact ⟨_, rfl, hm _ Wi4 g0 rfl ⟨fp_found, ho_found.own, fun b m => ⟨ho_found.fr b m, Var.nS g00 ho_found b m, ho_found.nF b m⟩⟩⟩
abbrev s_soaked : Stmt := top 13
abbrev N_soaked : List Str := ["chart"]
abbrev P_soaked : List Str := ["chart"]
theorem sc_soaked : FnScope N_soaked P_soaked (defScope s_soaked) := ⟨rfl, rfl, rfl, by decide +kernel, rfl, by decide +kernel, by decide +kernel⟩
def m_soaked (a_chart : (List Str)) : WP (List Str) := (WP.b3 (WP.pure a_chart) (WP.b1 (WP.pure a_chart) m_soaking_paper) (WP.pure false) m_with_squares).bind fun r1 => (WP.pure r1)
def sp_soaked : Sp := fun vs H Q _ => ∃ (W : Wo) (a_chart : (List Str)) (v_chart : V), vs = [v_chart] ∧ W.H = H ∧ Good ef0 W ∧ Rp W a_chart v_chart ∧ (m_soaked a_chart).run W.n fun n r => ∀ v W', Gw ef0 W W' → W'.n = n → (sI (e := ef0) (α := (List Str))).post W W' r v → Q v W'.H
theorem ev_soaked {e : Ef} {σ : L2.St} {W : Wo} {E : XK} {t0 : TE} {w0 : WP (List Str)} (h0 : EvW e t0 σ W sI w0) : EvW e (tCall sp_soaked [] E (tCons t0 tNil)) σ W (sI (α := (List Str))) (WP.b1 w0 m_soaked) := ew_call1N h0 fun W2 b0 x0 g2 r0 Q q E => by
  exact ⟨W2, b0, x0, rfl, rfl, g2.z, r0, WP.mono _ (fun n c h v W3 g3 hn p => h v W3 (Gw.up g2 g3) hn p) q⟩
theorem ok_soaked (F : At K mg "soaked" s_soaked P_soaked) (G : Glb mg) (H_soaking_paper : Has P w K mg base "soaking_paper" 4 P_soaking_paper sp_soaking_paper) (H_with_squares : Has P w K mg base "with_squares" 2 P_with_squares sp_with_squares) : Has P w K mg base "soaked" 5 P_soaked sp_soaked := by
  refine Has.of F sc_soaked (fun vs H Q E h => ?_) (fun f cdv A outer s H0 vs Q E hr h => ?_)
  · obtain ⟨W0, a_chart, v_chart, rfl, _⟩ := h
    rfl
  · obtain ⟨W0, a_chart, v_chart, rfl, rfl, g00, h_chart, hm⟩ := h
    have sc := sc_soaked
    have g0 := Gw.refl g00
    unfold m_soaked at hm
    refine ⟨_, (pss_one (ps_ret (pe_user H_with_squares (hr.mono (by decide)) rfl (pa_cons (pv 0) (pa_cons (pe_user H_soaking_paper (hr.mono (by decide)) rfl (pa_cons (pv 0) pa_nil)) (pa_cons pe_bl pa_nil)))))), ?_⟩
    refine st_ret (W := W0) (ev_with_squares (ew_var rfl h_chart) (ew_rd (ev_soaking_paper (ew_var rfl h_chart))) ew_bl) g0.ok hm fun r1 v_ret W1 g1 hp hm => ?_
    exact hm v_ret W1 (g0.trans g1) rfl hp
abbrev s_wet_rim : Stmt := top 14
abbrev N_wet_rim : List Str := ["chart", "number", "square"]
abbrev P_wet_rim : List Str := ["chart"]
theorem sc_wet_rim : FnScope N_wet_rim P_wet_rim (defScope s_wet_rim) := ⟨rfl, rfl, rfl, by decide +kernel, rfl, by decide +kernel, by decide +kernel⟩
def m_wet_rim (a_chart : (List Str)) : WP Int := (WP.pure (0 : Int)).bind fun a1_number => (WP.b1 (WP.pure a_chart) m_squares_of).bind fun xs2 => WP.after (WP.loop (γ := Int) (fun c2 (y2 : Int) => ((WP.not (WP.b2 (WP.pure a_chart) (WP.pure c2) m_is_land)).bind fun b => WP.cond b ((WP.sub (WP.add (WP.pure y2) (WP.len (WP.b1 (WP.pure c2) m_side_neighbours))) (WP.len (WP.b2 (WP.pure a_chart) (WP.pure c2) m_wet_beside))).bind fun a4_number => (WP.pure a4_number)) ((WP.pure y2))).bind fun (y3 : Int) => (WP.pure (.nx y3))) xs2 a1_number) (fun (z2 : Int) => (WP.pure z2).bind fun r5 => (WP.pure r5)) (fun r => (WP.pure r))
def sp_wet_rim : Sp := fun vs H Q _ => ∃ (W : Wo) (a_chart : (List Str)) (v_chart : V), vs = [v_chart] ∧ W.H = H ∧ Good ef0 W ∧ Rp W a_chart v_chart ∧ (m_wet_rim a_chart).run W.n fun n r => ∀ v W', Gw ef0 W W' → W'.n = n → (sI (e := ef0) (α := Int)).post W W' r v → Q v W'.H
theorem ev_wet_rim {e : Ef} {σ : L2.St} {W : Wo} {E : XK} {t0 : TE} {w0 : WP (List Str)} (h0 : EvW e t0 σ W sI w0) : EvW e (tCall sp_wet_rim [] E (tCons t0 tNil)) σ W (sI (α := Int)) (WP.b1 w0 m_wet_rim) := ew_call1N h0 fun W2 b0 x0 g2 r0 Q q E => by
  exact ⟨W2, b0, x0, rfl, rfl, g2.z, r0, WP.mono _ (fun n c h v W3 g3 hn p => h v W3 (Gw.up g2 g3) hn p) q⟩
theorem ok_wet_rim (F : At K mg "wet_rim" s_wet_rim P_wet_rim) (G : Glb mg) (H_is_land : Has P w K mg base "is_land" 2 P_is_land sp_is_land) (H_side_neighbours : Has P w K mg base "side_neighbours" 1 P_side_neighbours sp_side_neighbours) (H_squares_of : Has P w K mg base "squares_of" 1 P_squares_of sp_squares_of) (H_wet_beside : Has P w K mg base "wet_beside" 3 P_wet_beside sp_wet_beside) : Has P w K mg base "wet_rim" 4 P_wet_rim sp_wet_rim := by
  refine Has.of F sc_wet_rim (fun vs H Q E h => ?_) (fun f cdv A outer s H0 vs Q E hr h => ?_)
  · obtain ⟨W0, a_chart, v_chart, rfl, _⟩ := h
    rfl
  · obtain ⟨W0, a_chart, v_chart, rfl, rfl, g00, h_chart, hm⟩ := h
    have sc := sc_wet_rim
    have g0 := Gw.refl g00
    unfold m_wet_rim at hm
    refine ⟨_, (pss_cons (ps_set (i := 1) sc.nd rfl (Or.inl rfl) pe_int)
      (pss_cons (ps_for PassesOwn.never rfl (pi_list (pe_user H_squares_of (hr.mono (by decide)) rfl (pa_cons (pv 0) pa_nil))) (pg_name (i := 2) sc.nd rfl (Or.inl rfl))
      (pss_one (ps_if (pt_not (pt_val (pe_user H_is_land (hr.mono (by decide)) rfl (pa_cons (pv 0) (pa_cons (pv 2) pa_nil))))) (pss_one (ps_set (i := 1) sc.nd rfl (Or.inl rfl) (pe_op op_sub (pe_op op_add (pv 1) (pe_callB call_len_seq (by rfl) G.len PySem.boot_len (pa_cons (pe_user H_side_neighbours (hr.mono (by decide)) rfl (pa_cons (pv 2) pa_nil)) pa_nil))) (pe_callB call_len_seq (by rfl) G.len PySem.boot_len (pa_cons (pe_user H_wet_beside (hr.mono (by decide)) rfl (pa_cons (pv 0) (pa_cons (pv 2) pa_nil))) pa_nil))))) pss_nil)))
      (pss_one (ps_ret (pv 1))))), ?_⟩
    refine q_asg (W := W0) ew_int g0.ok hm fun a1_number v_number W1 g1 h_number hm => ?_
    have h_chart := PyI.st g1.st h_chart
    have g0 := g0.trans g1
    refine q_forN (W := W1) tk_N (ev_squares_of (ew_var rfl h_chart)) g0.ok hm fun xs2 p_it2 vs_it2 W2 g2 hn_it2 hF_it2 hp_it2 hr_it2 => ?_
    have nS_it2 : ¬ ef0.S p_it2 := fun z => g0.ok.S _ z hn_it2
    have h_chart := PyI.st g2.st h_chart
    have h_number := PyI.st g2.st h_number
    have g0 := g0.trans g2
    refine ⟨fun y σ' W' => ∃ (v_number : V) (o_square : Option V), σ' = [some v_chart, some v_number, o_square] ∧ Gw ef0 W0 W' ∧ St W2 W' ∧ Rp W' y v_number ∧ W'.H p_it2 = some (.lst vs_it2), ⟨v_number, _, rfl, g0, (St.refl _), h_number, hp_it2⟩, fun _ _ _ hI => ?_, fun c2 y2 σi s2 Wi2 R2 nx2 ht hI hm kn2 kb2 kr2 => ?_, fun z2 σi Wi2 hI hm => ?_⟩
    · obtain ⟨v_number, o_square, rfl, g0, sl2, h_number, hp_it2⟩ := hI
      exact ⟨sl2, hp_it2⟩
    ·
      obtain ⟨v_number, o_square, rfl, g0, sl2, h_number, hp_it2⟩ := hI
      have h_chart := PyI.st sl2 h_chart
      obtain ⟨v_square, rfl, h_square⟩ := ht
      refine st_join (W := Wi2) (s := Int) (fun y σ' W' => ∃ (v_number : V), σ' = [some v_chart, some v_number, some v_square] ∧ Gw ef0 W0 W' ∧ St Wi2 W' ∧ Rp W' y v_number ∧ W'.H p_it2 = some (.lst vs_it2)) (et_not (et_B (ev_is_land (ew_var rfl h_chart) (ew_var rfl h_square)))) g0.ok hm (fun y3 σj Wj3 hI hm => ?_) (fun W3 R3 g3 hm kj => ?_) (fun W3 R3 g3 hm kj => ?_)
      ·
        obtain ⟨v_number, rfl, g0, sj3, h_number, hp_it2⟩ := hI
        have h_chart := PyI.st sj3 h_chart
        have h_square := PyI.st sj3 h_square
        have sl2 := sl2.trans sj3
        exact kn2 y3 _ Wj3 ⟨v_number, _, rfl, g0, sl2, h_number, hp_it2⟩ hm
      ·
        have h_chart := PyI.st g3.st h_chart
        have h_number := PyI.st g3.st h_number
        have h_square := PyI.st g3.st h_square
        have sl2 := sl2.trans g3.st
        have hp_it2 := g3.keep _ _ hp_it2 nS_it2
        have g0 := g0.trans g3
        have sj3 := g3.st
        refine st_asg (W := W3) (ew_sub (ew_add (ew_var rfl h_number) (ew_lenL (ew_rd (ev_side_neighbours (ew_var rfl h_square))))) (ew_lenL (ew_rd (ev_wet_beside (ew_var rfl h_chart) (ew_var rfl h_square))))) g0.ok hm fun a4_number v_number W4 g4 h_number hm => ?_
        have h_chart := PyI.st g4.st h_chart
        have h_square := PyI.st g4.st h_square
        have sl2 := sl2.trans g4.st
        have sj3 := sj3.trans g4.st
        have hp_it2 := g4.keep _ _ hp_it2 nS_it2
        have g0 := g0.trans g4
        exact kj a4_number _ W4 ⟨v_number, rfl, g0, sj3, h_number, hp_it2⟩ hm
      ·
        have h_chart := PyI.st g3.st h_chart
        have h_number := PyI.st g3.st h_number
        have h_square := PyI.st g3.st h_square
        have sl2 := sl2.trans g3.st
        have hp_it2 := g3.keep _ _ hp_it2 nS_it2
        have g0 := g0.trans g3
        have sj3 := g3.st
        refine st_next ?_
        exact kj y2 _ W3 ⟨v_number, rfl, g0, sj3, h_number, hp_it2⟩ hm
    ·
      obtain ⟨v_number, o_square, rfl, g0, sl2, h_number, hp_it2⟩ := hI
      have h_chart := PyI.st sl2 h_chart
      refine st_ret (W := Wi2) (ew_var rfl h_number) g0.ok hm fun r5 v_ret W5 g5 hp hm => ?_
      exact hm v_ret W5 (g0.trans g5) rfl hp
abbrev s_shows_soaking : Stmt := top 15
abbrev N_shows_soaking : List Str := ["chart", "other", "squares", "square"]
abbrev P_shows_soaking : List Str := ["chart", "other", "squares"]
theorem sc_shows_soaking : FnScope N_shows_soaking P_shows_soaking (defScope s_shows_soaking) := ⟨rfl, rfl, rfl, by decide +kernel, rfl, by decide +kernel, by decide +kernel⟩
def m_shows_soaking (a_chart : (List Str)) (a_other : (List Str)) (a_squares : (List Sq)) : WP Bool := WP.after (WP.loop (γ := Bool) (fun c1 (y1 : (List Str)) => (WP.or (WP.not (WP.b2 (WP.pure y1) (WP.pure c1) m_is_land)) (WP.lt (WP.len (WP.b2 (WP.pure y1) (WP.pure c1) m_wet_beside)) (WP.pure (2 : Int)))).bind fun b => WP.cond b ((WP.pure false).bind fun r3 => (WP.pure (.rt r3))) ((WP.b3 (WP.pure y1) (WP.row (WP.consE (WP.pure c1) (WP.pure ([] : List Sq)))) (WP.pure false) m_with_squares).bind fun a4_chart => (WP.pure (.nx a4_chart)))) a_squares a_chart) (fun (z1 : (List Str)) => (WP.and (WP.eqD (WP.pure z1) (WP.pure a_other)) (WP.eq (WP.len (WP.b1 (WP.pure z1) m_soaking_paper)) (WP.pure (0 : Int)))).bind fun r5 => (WP.pure r5)) (fun r => (WP.pure r))
def sp_shows_soaking : Sp := fun vs H Q _ => ∃ (W : Wo) (a_chart : (List Str)) (a_other : (List Str)) (a_squares : (List Sq)) (v_chart v_other v_squares : V) (fp_squares : List Addr), vs = [v_chart, v_other, v_squares] ∧ W.H = H ∧ Good ef0 W ∧ Rp W a_chart v_chart ∧ Rp W a_other v_other ∧ (kL Sq).own W fp_squares a_squares v_squares ∧ (∀ a ∈ fp_squares, ¬ ef0.S a) ∧ (m_shows_soaking a_chart a_other a_squares).run W.n fun n r => ∀ v W', Gw ef0 W W' → W'.n = n → (sI (e := ef0) (α := Bool)).post W W' r v → Q v W'.H
theorem ev_shows_soaking {e : Ef} {σ : L2.St} {W : Wo} {E : XK} {t0 t1 t2 : TE} {w0 : WP (List Str)} {w1 : WP (List Str)} {w2 : WP (List Sq)} (h0 : EvW e t0 σ W sI w0) (h1 : EvW e t1 σ W sI w1) (h2 : EvW e t2 σ W (sR (kL Sq)) w2) : EvW e (tCall sp_shows_soaking [] E (tCons t0 (tCons t1 (tCons t2 tNil)))) σ W (sI (α := Bool)) (WP.b3 w0 w1 w2 m_shows_soaking) := ew_call3N h0 h1 h2 fun W2 b0 b1 b2 x0 x1 x2 g2 r0 r1 ⟨fp2, r2, s2⟩ Q q E => by
  exact ⟨W2, b0, b1, b2, x0, x1, x2, fp2, rfl, rfl, g2.z, r0, r1, r2, fun _ _ z => z, WP.mono _ (fun n c h v W3 g3 hn p => h v W3 (Gw.up g2 g3) hn p) q⟩
theorem ok_shows_soaking (F : At K mg "shows_soaking" s_shows_soaking P_shows_soaking) (G : Glb mg) (H_is_land : Has P w K mg base "is_land" 2 P_is_land sp_is_land) (H_soaking_paper : Has P w K mg base "soaking_paper" 4 P_soaking_paper sp_soaking_paper) (H_wet_beside : Has P w K mg base "wet_beside" 3 P_wet_beside sp_wet_beside) (H_with_squares : Has P w K mg base "with_squares" 2 P_with_squares sp_with_squares) : Has P w K mg base "shows_soaking" 5 P_shows_soaking sp_shows_soaking := by
  refine Has.of F sc_shows_soaking (fun vs H Q E h => ?_) (fun f cdv A outer s H0 vs Q E hr h => ?_)
  · obtain ⟨W0, a_chart, a_other, a_squares, v_chart, v_other, v_squares, fp_squares, rfl, _⟩ := h
    rfl
  · obtain ⟨W0, a_chart, a_other, a_squares, v_chart, v_other, v_squares, fp_squares, rfl, rfl, g00, h_chart, h_other, hb_squares, hS_squares, hm⟩ := h
    have sc := sc_shows_soaking
    have g0 := Gw.refl g00
    have hl_squares := (kL Sq).live hb_squares
    have hb0_squares := hb_squares
    unfold m_shows_soaking at hm
    refine ⟨_, (pss_cons (ps_for PassesOwn.never rfl (pi_list (pv 2)) (pg_name (i := 3) sc.nd rfl (Or.inl rfl))
      (pss_cons (ps_if (PW.pt (pw_or (pt_not (pt_val (pe_user H_is_land (hr.mono (by decide)) rfl (pa_cons (pv 0) (pa_cons (pv 3) pa_nil))))) (pw_or1 (pt_cmpR op_lt (pe_callB call_len_seq (by rfl) G.len PySem.boot_len (pa_cons (pe_user H_wet_beside (hr.mono (by decide)) rfl (pa_cons (pv 0) (pa_cons (pv 3) pa_nil))) pa_nil)) (pe_glob (v := .int 2) rfl G.c_ENOUGH.choose_spec ⟨_, rfl⟩) (nomark _))))) (pss_one (ps_ret pe_bl)) pss_nil)
      (pss_one (ps_set (i := 0) sc.nd rfl (Or.inl rfl) (pe_user H_with_squares (hr.mono (by decide)) rfl (pa_cons (pv 0) (pa_cons (pe_lst (pa_cons (pv 3) pa_nil)) (pa_cons pe_bl pa_nil))))))))
      (pss_one (ps_ret (pe_and (pe_cmpR (op_eqD hr.units) (pv 0) (pv 1) (nomark _)) (pe_one (pe_cmpR op_eq (pe_callB call_len_seq (by rfl) G.len PySem.boot_len (pa_cons (pe_user H_soaking_paper (hr.mono (by decide)) rfl (pa_cons (pv 0) pa_nil)) pa_nil)) pe_int (nomark _))))))), ?_⟩
    obtain ⟨p_it1, vs_it1, ef_it1, ev_it1, hp_it1, hr_it1⟩ := own_list hb_squares
    have nS_it1 := hS_squares p_it1 (by rw [ef_it1]; exact List.mem_singleton.mpr rfl)
    refine q_forV (W := W0) tk_N (by rw [← ev_it1]; rfl) hp_it1 hr_it1 hm (fun y σ' W' => ∃ (v_chart : V) (o_square : Option V), σ' = [some v_chart, some v_other, some v_squares, o_square] ∧ Gw ef0 W0 W' ∧ St W0 W' ∧ Rp W' y v_chart ∧ W'.H p_it1 = some (.lst vs_it1)) ⟨v_chart, _, rfl, g0, (St.refl _), h_chart, hp_it1⟩ (fun _ _ _ hI => ?_) (fun c1 y1 σi s2 Wi1 R1 nx1 ht hI hm kn1 kb1 kr1 => ?_) (fun z1 σi Wi1 hI hm => ?_)
    · obtain ⟨v_chart, o_square, rfl, g0, sl1, h_chart, hp_it1⟩ := hI
      exact ⟨sl1, hp_it1⟩
    ·
      obtain ⟨v_chart, o_square, rfl, g0, sl1, h_chart, hp_it1⟩ := hI
      have h_other := PyI.st sl1 h_other
      have hb_squares := Kd.go g0 hS_squares hb0_squares
      obtain ⟨v_square, rfl, h_square⟩ := ht
      refine q_if (W := Wi1) (et_or (et_not (et_B (ev_is_land (ew_var rfl h_chart) (ew_var rfl h_square)))) (et_t (ew_lt (ew_lenL (ew_rd (ev_wet_beside (ew_var rfl h_chart) (ew_var rfl h_square)))) ew_int))) g0.ok hm (fun W2 g2 hm => ?_) (fun W2 g2 hm => ?_)
      ·
        have h_chart := PyI.st g2.st h_chart
        have h_other := PyI.st g2.st h_other
        have hb_squares := Kd.go g2 hS_squares hb_squares
        have h_square := PyI.st g2.st h_square
        have sl1 := sl1.trans g2.st
        have hp_it1 := g2.keep _ _ hp_it1 nS_it1
        have g0 := g0.trans g2
        refine st_ret (W := W2) ew_bl g0.ok hm fun r3 v_ret W3 g3 hp hm => ?_
        have hm := kr1 _ _ hm
        exact hm v_ret W3 (g0.trans g3) rfl hp
      ·
        have h_chart := PyI.st g2.st h_chart
        have h_other := PyI.st g2.st h_other
        have hb_squares := Kd.go g2 hS_squares hb_squares
        have h_square := PyI.st g2.st h_square
        have sl1 := sl1.trans g2.st
        have hp_it1 := g2.keep _ _ hp_it1 nS_it1
        have g0 := g0.trans g2
        refine st_next ?_
        refine st_asg (W := W2) (ev_with_squares (ew_var rfl h_chart) (ew_rd (ew_lst (eas_cons (ew_var rfl h_square) (eas_nil (α := Sq))))) ew_bl) g0.ok hm fun a4_chart v_chart W4 g4 h_chart hm => ?_
        have h_other := PyI.st g4.st h_other
        have hb_squares := Kd.go g4 hS_squares hb_squares
        have h_square := PyI.st g4.st h_square
        have sl1 := sl1.trans g4.st
        have hp_it1 := g4.keep _ _ hp_it1 nS_it1
        have g0 := g0.trans g4
        exact kn1 a4_chart _ W4 ⟨v_chart, _, rfl, g0, sl1, h_chart, hp_it1⟩ hm
    ·
      obtain ⟨v_chart, o_square, rfl, g0, sl1, h_chart, hp_it1⟩ := hI
      have h_other := PyI.st sl1 h_other
      have hb_squares := Kd.go g0 hS_squares hb0_squares
      refine st_ret (W := Wi1) (ew_andV (ew_eqD (ew_var rfl h_chart) (ew_var rfl h_other)) (ew_eq (ew_lenL (ew_rd (ev_soaking_paper (ew_var rfl h_chart)))) ew_int)) g0.ok hm fun r5 v_ret W5 g5 hp hm => ?_
      exact hm v_ret W5 (g0.trans g5) rfl hp
abbrev s__law_pick : Stmt := top 19
abbrev N__law_pick : List Str := ["deal", "row"]
abbrev P__law_pick : List Str := ["deal", "row"]
theorem sc__law_pick : FnScope N__law_pick P__law_pick (defScope s__law_pick) := ⟨rfl, rfl, rfl, by decide +kernel, rfl, by decide +kernel, by decide +kernel⟩
def m__law_pick (_ : Unit) (a_row : (List Sq)) : WP Sq := (WP.ix (WP.pure a_row) (WP.mod (WP.add (WP.mul (WP.b2 (WP.pure ()) (WP.pure (1009 : Int)) m_take) (WP.pure (1009 : Int))) (WP.b2 (WP.pure ()) (WP.pure (1009 : Int)) m_take)) (WP.len (WP.pure a_row)))).bind fun r1 => (WP.pure r1)
def sp__law_pick : Sp := fun vs H Q _ => ∃ (d : Dl) (W : Wo) (a_row : (List Sq)) (v_row : V) (fp_row : List Addr), vs = [.ref d.p, v_row] ∧ W.H = H ∧ Good (efD d) W ∧ (kL Sq).own W fp_row a_row v_row ∧ (∀ a ∈ fp_row, ¬ (efD d).S a) ∧ (m__law_pick () a_row).run W.n fun n r => ∀ v W', Gw (efD d) W W' → W'.n = n → (sI (e := (efD d)) (α := Sq)).post W W' r v → Q v W'.H
theorem ev__law_pick {d : Dl} {σ : L2.St} {W : Wo} {E : XK} {t0 t1 : TE} {w0 : WP Unit} {w1 : WP (List Sq)} (h0 : EvW (efD d) t0 σ W (sD d) w0) (h1 : EvW (efD d) t1 σ W (sR (kL Sq)) w1) : EvW (efD d) (tCall sp__law_pick [] E (tCons t0 (tCons t1 tNil))) σ W (sI (α := Sq)) (WP.b2 w0 w1 m__law_pick) := ew_call2N h0 h1 fun W2 b0 b1 x0 x1 g2 r0 ⟨fp1, r1, s1⟩ Q q E => by
  cases r0
  exact ⟨d, W2, b1, x1, fp1, rfl, rfl, g2, r1, s1, WP.mono _ (fun n c h v W3 g3 hn p => h v W3 g3 hn p) q⟩
theorem ok__law_pick (F : At K mg "_law_pick" s__law_pick P__law_pick) (G : Glb mg) (H__law_take : Has P w K mg base "_law_take" 1 P__law_take sp_take) : Has P w K mg base "_law_pick" 2 P__law_pick sp__law_pick := by
  refine Has.of F sc__law_pick (fun vs H Q E h => ?_) (fun f cdv A outer s H0 vs Q E hr h => ?_)
  · obtain ⟨d, W0, a_row, v_row, fp_row, rfl, _⟩ := h
    rfl
  · obtain ⟨d, W0, a_row, v_row, fp_row, rfl, rfl, g00, hb_row, hS_row, hm⟩ := h
    have sc := sc__law_pick
    have g0 := Gw.refl g00
    have hl_row := (kL Sq).live hb_row
    have hb0_row := hb_row
    unfold m__law_pick at hm
    refine ⟨_, (pss_one (ps_ret (pe_ix ix_list (pv 1) (pe_op op_mod (pe_op op_add (pe_op op_mul (pe_user H__law_take (hr.mono (by decide)) rfl (pa_cons (pv 0) (pa_cons pe_int pa_nil))) pe_int) (pe_user H__law_take (hr.mono (by decide)) rfl (pa_cons (pv 0) (pa_cons pe_int pa_nil)))) (pe_callB call_len_seq (by rfl) G.len PySem.boot_len (pa_cons (pv 1) pa_nil))) (fun _ _ => rfl)))), ?_⟩
    refine st_ret (W := W0) (ew_ixL (ew_varR rfl hS_row hb_row) (ew_mod (ew_add (ew_mul (ev_take (ew_deal rfl) ew_int) ew_int) (ev_take (ew_deal rfl) ew_int)) (ew_lenL (ew_varR rfl hS_row hb_row)))) g0.ok hm fun r1 v_ret W1 g1 hp hm => ?_
    exact hm v_ret W1 (g0.trans g1) rfl hp
abbrev s__law_yes : Stmt := top 20
abbrev N__law_yes : List Str := ["told", "due"]
abbrev P__law_yes : List Str := ["told", "due"]
theorem sc__law_yes : FnScope N__law_yes P__law_yes (defScope s__law_yes) := ⟨rfl, rfl, rfl, by decide +kernel, rfl, by decide +kernel, by decide +kernel⟩
def m__law_yes (a_told : Bool) (a_due : Bool) : WP Bool := (WP.and ((WP.pure a_told).bind fun _ => WP.pure true) (WP.eq (WP.pure a_told) (WP.pure a_due))).bind fun r1 => (WP.pure r1)
def sp__law_yes : Sp := fun vs H Q _ => ∃ (W : Wo) (a_told : Bool) (a_due : Bool) (v_told v_due : V), vs = [v_told, v_due] ∧ W.H = H ∧ Good ef0 W ∧ Rp W a_told v_told ∧ Rp W a_due v_due ∧ (m__law_yes a_told a_due).run W.n fun n r => ∀ v W', Gw ef0 W W' → W'.n = n → (sI (e := ef0) (α := Bool)).post W W' r v → Q v W'.H
theorem ev__law_yes {e : Ef} {σ : L2.St} {W : Wo} {E : XK} {t0 t1 : TE} {w0 : WP Bool} {w1 : WP Bool} (h0 : EvW e t0 σ W sI w0) (h1 : EvW e t1 σ W sI w1) : EvW e (tCall sp__law_yes [] E (tCons t0 (tCons t1 tNil))) σ W (sI (α := Bool)) (WP.b2 w0 w1 m__law_yes) := ew_call2N h0 h1 fun W2 b0 b1 x0 x1 g2 r0 r1 Q q E => by
  exact ⟨W2, b0, b1, x0, x1, rfl, rfl, g2.z, r0, r1, WP.mono _ (fun n c h v W3 g3 hn p => h v W3 (Gw.up g2 g3) hn p) q⟩
theorem ok__law_yes (F : At K mg "_law_yes" s__law_yes P__law_yes) (G : Glb mg)  : Has P w K mg base "_law_yes" 1 P__law_yes sp__law_yes := by
  refine Has.of F sc__law_yes (fun vs H Q E h => ?_) (fun f cdv A outer s H0 vs Q E hr h => ?_)
  · obtain ⟨W0, a_told, a_due, v_told, v_due, rfl, _⟩ := h
    rfl
  · obtain ⟨W0, a_told, a_due, v_told, v_due, rfl, rfl, g00, h_told, h_due, hm⟩ := h
    have sc := sc__law_yes
    have g0 := Gw.refl g00
    unfold m__law_yes at hm
    refine ⟨_, (pss_one (ps_ret (pe_and (pe_callB call_isi (by rfl) G.isinstance (by decide +kernel) (pa_cons (pv 0) (pa_cons (pe_bltn (v := .ty "bool") (u := .type "bool") rfl G.bool (by decide +kernel) rfl) pa_nil))) (pe_one (pe_cmpR op_eq (pv 0) (pv 1) (nomark _)))))), ?_⟩
    refine st_ret (W := W0) (ew_andV (ew_isib_bool (ew_var rfl h_told)) (ew_eq (ew_var rfl h_told) (ew_var rfl h_due))) g0.ok hm fun r1 v_ret W1 g1 hp hm => ?_
    exact hm v_ret W1 (g0.trans g1) rfl hp
abbrev s__law_number : Stmt := top 21
abbrev N__law_number : List Str := ["told"]
abbrev P__law_number : List Str := ["told"]
theorem sc__law_number : FnScope N__law_number P__law_number (defScope s__law_number) := ⟨rfl, rfl, rfl, by decide +kernel, rfl, by decide +kernel, by decide +kernel⟩
def m__law_number (a_told : Int) : WP Bool := (WP.and ((WP.pure a_told).bind fun _ => WP.pure true) (WP.not ((WP.pure a_told).bind fun _ => WP.pure false))).bind fun r1 => (WP.pure r1)
def sp__law_number : Sp := fun vs H Q _ => ∃ (W : Wo) (a_told : Int) (v_told : V), vs = [v_told] ∧ W.H = H ∧ Good ef0 W ∧ Rp W a_told v_told ∧ (m__law_number a_told).run W.n fun n r => ∀ v W', Gw ef0 W W' → W'.n = n → (sI (e := ef0) (α := Bool)).post W W' r v → Q v W'.H
theorem ev__law_number {e : Ef} {σ : L2.St} {W : Wo} {E : XK} {t0 : TE} {w0 : WP Int} (h0 : EvW e t0 σ W sI w0) : EvW e (tCall sp__law_number [] E (tCons t0 tNil)) σ W (sI (α := Bool)) (WP.b1 w0 m__law_number) := ew_call1N h0 fun W2 b0 x0 g2 r0 Q q E => by
  exact ⟨W2, b0, x0, rfl, rfl, g2.z, r0, WP.mono _ (fun n c h v W3 g3 hn p => h v W3 (Gw.up g2 g3) hn p) q⟩
theorem ok__law_number (F : At K mg "_law_number" s__law_number P__law_number) (G : Glb mg)  : Has P w K mg base "_law_number" 1 P__law_number sp__law_number := by
  refine Has.of F sc__law_number (fun vs H Q E h => ?_) (fun f cdv A outer s H0 vs Q E hr h => ?_)
  · obtain ⟨W0, a_told, v_told, rfl, _⟩ := h
    rfl
  · obtain ⟨W0, a_told, v_told, rfl, rfl, g00, h_told, hm⟩ := h
    have sc := sc__law_number
    have g0 := Gw.refl g00
    unfold m__law_number at hm
    refine ⟨_, (pss_one (ps_ret (pe_and (pe_callB call_isi (by rfl) G.isinstance (by decide +kernel) (pa_cons (pv 0) (pa_cons (pe_bltn (v := .ty "int") (u := .type "int") rfl G.int (by decide +kernel) rfl) pa_nil))) (pe_one (pe_not (pe_callB call_isi (by rfl) G.isinstance (by decide +kernel) (pa_cons (pv 0) (pa_cons (pe_bltn (v := .ty "bool") (u := .type "bool") rfl G.bool (by decide +kernel) rfl) pa_nil)))))))), ?_⟩
    refine st_ret (W := W0) (ew_andV (ew_isi_int (ew_var rfl h_told)) (ew_notV (ew_isi_bool (ew_var rfl h_told)))) g0.ok hm fun r1 v_ret W1 g1 hp hm => ?_
    exact hm v_ret W1 (g0.trans g1) rfl hp
abbrev s__law_spot : Stmt := top 22
abbrev N__law_spot : List Str := ["told"]
abbrev P__law_spot : List Str := ["told"]
theorem sc__law_spot : FnScope N__law_spot P__law_spot (defScope s__law_spot) := ⟨rfl, rfl, rfl, by decide +kernel, rfl, by decide +kernel, by decide +kernel⟩
def m__law_spot (a_told : Sq) : WP Bool := (WP.and ((WP.pure a_told).bind fun _ => WP.pure true) (WP.and (WP.eq (WP.len2 (WP.pure a_told)) (WP.pure (2 : Int))) (WP.and (WP.b1 (WP.fst (WP.pure a_told)) m__law_number) (WP.b1 (WP.snd (WP.pure a_told)) m__law_number)))).bind fun r1 => (WP.pure r1)
def sp__law_spot : Sp := fun vs H Q _ => ∃ (W : Wo) (a_told : Sq) (v_told : V), vs = [v_told] ∧ W.H = H ∧ Good ef0 W ∧ Rp W a_told v_told ∧ (m__law_spot a_told).run W.n fun n r => ∀ v W', Gw ef0 W W' → W'.n = n → (sI (e := ef0) (α := Bool)).post W W' r v → Q v W'.H
theorem ev__law_spot {e : Ef} {σ : L2.St} {W : Wo} {E : XK} {t0 : TE} {w0 : WP Sq} (h0 : EvW e t0 σ W sI w0) : EvW e (tCall sp__law_spot [] E (tCons t0 tNil)) σ W (sI (α := Bool)) (WP.b1 w0 m__law_spot) := ew_call1N h0 fun W2 b0 x0 g2 r0 Q q E => by
  exact ⟨W2, b0, x0, rfl, rfl, g2.z, r0, WP.mono _ (fun n c h v W3 g3 hn p => h v W3 (Gw.up g2 g3) hn p) q⟩
theorem ok__law_spot (F : At K mg "_law_spot" s__law_spot P__law_spot) (G : Glb mg) (H__law_number : Has P w K mg base "_law_number" 1 P__law_number sp__law_number) : Has P w K mg base "_law_spot" 2 P__law_spot sp__law_spot := by
  refine Has.of F sc__law_spot (fun vs H Q E h => ?_) (fun f cdv A outer s H0 vs Q E hr h => ?_)
  · obtain ⟨W0, a_told, v_told, rfl, _⟩ := h
    rfl
  · obtain ⟨W0, a_told, v_told, rfl, rfl, g00, h_told, hm⟩ := h
    have sc := sc__law_spot
    have g0 := Gw.refl g00
    unfold m__law_spot at hm
    refine ⟨_, (pss_one (ps_ret (pe_and (pe_callB call_isi (by rfl) G.isinstance (by decide +kernel) (pa_cons (pv 0) (pa_cons (pe_bltn (v := .ty "tuple") (u := .type "tuple") rfl G.tuple (by decide +kernel) rfl) pa_nil))) (pe_and (pe_cmpR op_eq (pe_callB call_len_seq (by rfl) G.len PySem.boot_len (pa_cons (pv 0) pa_nil)) pe_int (nomark _)) (pe_and (pe_user H__law_number (hr.mono (by decide)) rfl (pa_cons (pe_ix ix_tup (pv 0) pe_int (fun _ _ => rfl)) pa_nil)) (pe_one (pe_user H__law_number (hr.mono (by decide)) rfl (pa_cons (pe_ix ix_tup (pv 0) pe_int (fun _ _ => rfl)) pa_nil)))))))), ?_⟩
    refine st_ret (W := W0) (ew_andV (ew_isiD "tuple" true (by decide +kernel) (ew_var rfl h_told)) (ew_andV (ew_eq (ew_len2 (ew_var rfl h_told)) ew_int) (ew_andV (ev__law_number (ew_fst (ew_var rfl h_told))) (ev__law_number (ew_snd (ew_var rfl h_told)))))) g0.ok hm fun r1 v_ret W1 g1 hp hm => ?_
    exact hm v_ret W1 (g0.trans g1) rfl hp
abbrev s__law_spots : Stmt := top 23
abbrev N__law_spots : List Str := ["told", "spot"]
abbrev P__law_spots : List Str := ["told"]
theorem sc__law_spots : FnScope N__law_spots P__law_spots (defScope s__law_spots) := ⟨rfl, rfl, rfl, by decide +kernel, rfl, by decide +kernel, by decide +kernel⟩
def m__law_spots (a_told : (List Sq)) : WP Bool := (WP.and ((WP.pure a_told).bind fun _ => WP.pure true) (WP.eq (WP.len (WP.lc (WP.pure a_told) (fun c1 => (WP.not (WP.b1 (WP.pure c1) m__law_spot))) (fun c1 => (WP.pure (1 : Int))))) (WP.pure (0 : Int)))).bind fun r1 => (WP.pure r1)
def sp__law_spots : Sp := fun vs H Q _ => ∃ (W : Wo) (a_told : (List Sq)) (v_told : V) (fp_told : List Addr), vs = [v_told] ∧ W.H = H ∧ Good ef0 W ∧ (kL Sq).own W fp_told a_told v_told ∧ (∀ a ∈ fp_told, ¬ ef0.S a) ∧ (m__law_spots a_told).run W.n fun n r => ∀ v W', Gw ef0 W W' → W'.n = n → (sI (e := ef0) (α := Bool)).post W W' r v → Q v W'.H
theorem ev__law_spots {e : Ef} {σ : L2.St} {W : Wo} {E : XK} {t0 : TE} {w0 : WP (List Sq)} (h0 : EvW e t0 σ W (sR (kL Sq)) w0) : EvW e (tCall sp__law_spots [] E (tCons t0 tNil)) σ W (sI (α := Bool)) (WP.b1 w0 m__law_spots) := ew_call1N h0 fun W2 b0 x0 g2 ⟨fp0, r0, s0⟩ Q q E => by
  exact ⟨W2, b0, x0, fp0, rfl, rfl, g2.z, r0, fun _ _ z => z, WP.mono _ (fun n c h v W3 g3 hn p => h v W3 (Gw.up g2 g3) hn p) q⟩
theorem ok__law_spots (F : At K mg "_law_spots" s__law_spots P__law_spots) (G : Glb mg) (H__law_spot : Has P w K mg base "_law_spot" 2 P__law_spot sp__law_spot) : Has P w K mg base "_law_spots" 3 P__law_spots sp__law_spots := by
  refine Has.of F sc__law_spots (fun vs H Q E h => ?_) (fun f cdv A outer s H0 vs Q E hr h => ?_)
  · obtain ⟨W0, a_told, v_told, fp_told, rfl, _⟩ := h
    rfl
  · obtain ⟨W0, a_told, v_told, fp_told, rfl, rfl, g00, hb_told, hS_told, hm⟩ := h
    have sc := sc__law_spots
    have g0 := Gw.refl g00
    have hl_told := (kL Sq).live hb_told
    have hb0_told := hb_told
    unfold m__law_spots at hm
    refine ⟨_, (pss_one (ps_ret (pe_and (pe_callB call_isi (by rfl) G.isinstance (by decide +kernel) (pa_cons (pv 0) (pa_cons (pe_bltn (v := .ty "list") (u := .type "list") rfl G.list (by decide +kernel) rfl) pa_nil))) (pe_one (pe_cmpR op_eq (pe_callB call_len_seq (by rfl) G.len PySem.boot_len (pa_cons (pe_lc (own := [("spot", 1)]) (g := gName 1) rfl sc.nd (pi_list (pv 0)) (blkOk_by (N := N__law_spots) (sc := defScope s__law_spots) (by decide +kernel)) (fun _ _ _ _ _ => (pg_name (i := 1) sc.nd rfl (Or.inl rfl))) (fun _ _ _ _ _ => (pts_one (pt_not (pt_val (pe_user H__law_spot (hr.mono (by decide)) rfl (pa_cons (pv 1) pa_nil)))))) (fun _ _ _ _ _ => pe_int)) pa_nil)) pe_int (nomark _)))))), ?_⟩
    refine st_ret (W := W0) (ew_andV (ew_isiL "list" true (by decide +kernel) (ew_varR rfl hS_told hb_told)) (ew_eq (ew_lenL (ew_rd (ew_lcL (ew_varR rfl hS_told hb_told) takes_N (fun _ _ _ h => by obtain ⟨v_spot, ec, h_spot⟩ := h; subst ec; rfl) (fun c1 Wc1 s2 gc1 h => by obtain ⟨v_spot, ec, h_spot⟩ := h; subst ec; have hb_told := Kd.go gc1 hS_told hb_told; exact (et_not (et_B (ev__law_spot (ew_var rfl h_spot))))) (fun c1 Wc1 s2 gc1 h => by obtain ⟨v_spot, ec, h_spot⟩ := h; subst ec; have hb_told := Kd.go gc1 hS_told hb_told; exact ew_int)))) ew_int)) g0.ok hm fun r1 v_ret W1 g1 hp hm => ?_
    exact hm v_ret W1 (g0.trans g1) rfl hp
abbrev s__law_grid : Stmt := top 24
abbrev N__law_grid : List Str := ["deal", "rows", "columns", "style", "chance", "grid", "r", "row", "c", "land", "k"]
abbrev P__law_grid : List Str := ["deal", "rows", "columns"]
theorem sc__law_grid : FnScope N__law_grid P__law_grid (defScope s__law_grid) := ⟨rfl, rfl, rfl, by decide +kernel, rfl, by decide +kernel, by decide +kernel⟩
def m__law_grid (_ : Unit) (a_rows : Int) (a_columns : Int) : WP (List Str) := (WP.b2 (WP.pure ()) (WP.pure (10 : Int)) m_take).bind fun a1_style => (WP.add (WP.pure (2 : Int)) (WP.b2 (WP.pure ()) (WP.pure (4 : Int)) m_take)).bind fun a2_chance => (WP.row (WP.pure ([] : List (List Str)))).bind fun a3_grid => (WP.range1 (WP.pure a_rows)).bind fun xs4 => WP.after (WP.loop (γ := (List Str)) (fun c4 (y4 : (List (List Str))) => (WP.row (WP.pure ([] : List Str))).bind fun a5_row => (WP.range1 (WP.pure a_columns)).bind fun xs6 => WP.after (WP.loop (γ := (List Str)) (fun c6 (y6 : (List Str)) => (WP.gt (WP.b2 (WP.pure ()) (WP.pure a2_chance) m_take) (WP.pure (0 : Int))).bind fun a7_land => ((WP.inI (WP.pure a1_style) (WP.row (WP.consE (WP.pure (1 : Int)) (WP.consE (WP.pure (2 : Int)) (WP.pure []))))).bind fun b => WP.cond b ((WP.not (WP.pure a7_land)).bind fun a20_land => (WP.pure a20_land)) ((WP.pure a7_land))).bind fun (y8 : Bool) => ((WP.eq (WP.pure a1_style) (WP.pure (3 : Int))).bind fun b => WP.cond b ((WP.eq (WP.mod (WP.min4 (WP.pure c4) (WP.pure c6) (WP.sub (WP.sub (WP.pure a_rows) (WP.pure (1 : Int))) (WP.pure c4)) (WP.sub (WP.sub (WP.pure a_columns) (WP.pure (1 : Int))) (WP.pure c6))) (WP.pure (2 : Int))) (WP.pure (0 : Int))).bind fun a19_land => (WP.pure a19_land)) ((WP.pure y8))).bind fun (y9 : Bool) => ((WP.eq (WP.pure a1_style) (WP.pure (4 : Int))).bind fun b => WP.cond b ((WP.or (WP.eq (WP.mod (WP.pure c4) (WP.pure (2 : Int))) (WP.pure (0 : Int))) (WP.eq (WP.pure c6) (WP.ix (WP.row (WP.consE (WP.pure (0 : Int)) (WP.consE (WP.sub (WP.pure a_columns) (WP.pure (1 : Int))) (WP.pure ([] : List Int))))) (WP.mod (WP.fdiv (WP.pure c4) (WP.pure (2 : Int))) (WP.pure (2 : Int)))))).bind fun a18_land => (WP.pure a18_land)) ((WP.pure y9))).bind fun (y10 : Bool) => ((WP.eq (WP.pure a1_style) (WP.pure (5 : Int))).bind fun b => WP.cond b ((WP.eq (WP.mod (WP.add (WP.pure c4) (WP.pure c6)) (WP.pure (2 : Int))) (WP.pure (0 : Int))).bind fun a17_land => (WP.pure a17_land)) ((WP.pure y10))).bind fun (y11 : Bool) => ((WP.eq (WP.pure a1_style) (WP.pure (6 : Int))).bind fun b => WP.cond b ((WP.or (WP.eq (WP.mod (WP.pure c4) (WP.pure (2 : Int))) (WP.pure (0 : Int))) (WP.eq (WP.mod (WP.pure c6) (WP.pure (2 : Int))) (WP.pure (0 : Int)))).bind fun a16_land => (WP.pure a16_land)) ((WP.pure y11))).bind fun (y12 : Bool) => ((WP.eq (WP.pure a1_style) (WP.pure (7 : Int))).bind fun b => WP.cond b ((WP.pure true).bind fun a15_land => (WP.pure a15_land)) ((WP.pure y12))).bind fun (y13 : Bool) => ((WP.ite (WP.pure y13) (WP.pure (Str.ofString "x")) (WP.pure (Str.ofString "."))).bind fun a => WP.req (y6.length < 100000) (y6 ++ [a])).bind fun a14_row => (WP.pure (.nx a14_row))) xs6 a5_row) (fun (z6 : (List Str)) => (WP.req (y4.length < 100000) (y4 ++ [z6])).bind fun a21_grid => (WP.pure (.nx a21_grid))) (fun r => (WP.pure (.rt r)))) xs4 a3_grid) (fun (z4 : (List (List Str))) => (WP.range1 (WP.b2 (WP.pure ()) (WP.pure (5 : Int)) m_take)).bind fun xs22 => WP.after (WP.loop (γ := (List Str)) (fun c22 (y22 : (List (List Str))) => (WP.b2 (WP.pure ()) (WP.pure a_rows) m_take).bind fun a23_r => (WP.b2 (WP.pure ()) (WP.pure a_columns) m_take).bind fun a24_c => (WP.gset y22 (WP.ite (WP.eq (WP.ix (WP.ix (WP.pure y22) (WP.pure a23_r)) (WP.pure a24_c)) (WP.pure (Str.ofString "x"))) (WP.pure (Str.ofString ".")) (WP.pure (Str.ofString "x"))) (WP.pure a23_r) (WP.pure a24_c)).bind fun a25_grid => (WP.pure (.nx a25_grid))) xs22 z4) (fun (z22 : (List (List Str))) => ((WP.lc (WP.pure z22) (fun c1 => (WP.pure true)) (fun c1 => (WP.join (WP.pure (Str.ofString "")) (WP.pure c1)))).bind fun xs => WP.pure (α := List _) xs).bind fun r26 => (WP.pure r26)) (fun r => (WP.pure r))) (fun r => (WP.pure r))
def sp__law_grid : Sp := fun vs H Q _ => ∃ (d : Dl) (W : Wo) (a_rows : Int) (a_columns : Int) (v_rows v_columns : V), vs = [.ref d.p, v_rows, v_columns] ∧ W.H = H ∧ Good (efD d) W ∧ Rp W a_rows v_rows ∧ Rp W a_columns v_columns ∧ (m__law_grid () a_rows a_columns).run W.n fun n r => ∀ v W', Gw (efD d) W W' → W'.n = n → (sI (e := (efD d)) (α := (List Str))).post W W' r v → Q v W'.H
theorem ev__law_grid {d : Dl} {σ : L2.St} {W : Wo} {E : XK} {t0 t1 t2 : TE} {w0 : WP Unit} {w1 : WP Int} {w2 : WP Int} (h0 : EvW (efD d) t0 σ W (sD d) w0) (h1 : EvW (efD d) t1 σ W sI w1) (h2 : EvW (efD d) t2 σ W sI w2) : EvW (efD d) (tCall sp__law_grid [] E (tCons t0 (tCons t1 (tCons t2 tNil)))) σ W (sI (α := (List Str))) (WP.b3 w0 w1 w2 m__law_grid) := ew_call3N h0 h1 h2 fun W2 b0 b1 b2 x0 x1 x2 g2 r0 r1 r2 Q q E => by
  cases r0
  exact ⟨d, W2, b1, b2, x1, x2, rfl, rfl, g2, r1, r2, WP.mono _ (fun n c h v W3 g3 hn p => h v W3 g3 hn p) q⟩
theorem ok__law_grid (F : At K mg "_law_grid" s__law_grid P__law_grid) (G : Glb mg) (H__law_take : Has P w K mg base "_law_take" 1 P__law_take sp_take) : Has P w K mg base "_law_grid" 2 P__law_grid sp__law_grid := by
  refine Has.of F sc__law_grid (fun vs H Q E h => ?_) (fun f cdv A outer s H0 vs Q E hr h => ?_)
  · obtain ⟨d, W0, a_rows, a_columns, v_rows, v_columns, rfl, _⟩ := h
    rfl
  · obtain ⟨d, W0, a_rows, a_columns, v_rows, v_columns, rfl, rfl, g00, h_rows, h_columns, hm⟩ := h
    have sc := sc__law_grid
    have g0 := Gw.refl g00
    unfold m__law_grid at hm
    refine ⟨_, (pss_cons (ps_set (i := 3) sc.nd rfl (Or.inl rfl) (pe_user H__law_take (hr.mono (by decide)) rfl (pa_cons (pv 0) (pa_cons pe_int pa_nil))))
      (pss_cons (ps_set (i := 4) sc.nd rfl (Or.inl rfl) (pe_op op_add pe_int (pe_user H__law_take (hr.mono (by decide)) rfl (pa_cons (pv 0) (pa_cons pe_int pa_nil)))))
      (pss_cons (ps_set (i := 5) sc.nd rfl (Or.inl rfl) (pe_lst pa_nil))
      (pss_cons (ps_for PassesOwn.never rfl (pi_range1 rfl G.range (pa_cons (pv 1) pa_nil)) (pg_name (i := 6) sc.nd rfl (Or.inl rfl))
      (pss_cons (ps_set (i := 7) sc.nd rfl (Or.inl rfl) (pe_lst pa_nil))
      (pss_cons (ps_for PassesOwn.never rfl (pi_range1 rfl G.range (pa_cons (pv 2) pa_nil)) (pg_name (i := 8) sc.nd rfl (Or.inl rfl))
      (pss_cons (ps_set (i := 9) sc.nd rfl (Or.inl rfl) (pe_cmpR op_gt (pe_user H__law_take (hr.mono (by decide)) rfl (pa_cons (pv 0) (pa_cons (pv 4) pa_nil))) pe_int (nomark _)))
      (pss_cons (ps_if (pt_cmpR op_in_seq (pv 3) (pe_tup (pa_cons pe_int (pa_cons pe_int pa_nil))) (by rfl)) (pss_one (ps_set (i := 9) sc.nd rfl (Or.inl rfl) (pe_not (pv 9)))) pss_nil)
      (pss_cons (ps_if (pt_cmpR op_eq (pv 3) pe_int (nomark _)) (pss_one (ps_set (i := 9) sc.nd rfl (Or.inl rfl) (pe_cmpR op_eq (pe_op op_mod (pe_callB (call_min4 rfl) (by rfl) G.min (by decide +kernel) (pa_cons (pv 6) (pa_cons (pv 8) (pa_cons (pe_op op_sub (pe_op op_sub (pv 1) pe_int) (pv 6)) (pa_cons (pe_op op_sub (pe_op op_sub (pv 2) pe_int) (pv 8)) pa_nil))))) pe_int) pe_int (nomark _)))) pss_nil)
      (pss_cons (ps_if (pt_cmpR op_eq (pv 3) pe_int (nomark _)) (pss_one (ps_set (i := 9) sc.nd rfl (Or.inl rfl) (pe_or (pe_cmpR op_eq (pe_op op_mod (pv 6) pe_int) pe_int (nomark _)) (pe_one (pe_cmpR op_eq (pv 8) (pe_ix ix_list (pe_lst (pa_cons pe_int (pa_cons (pe_op op_sub (pv 2) pe_int) pa_nil))) (pe_op op_mod (pe_op op_fdiv (pv 6) pe_int) pe_int) (fun _ _ => rfl)) (nomark _)))))) pss_nil)
      (pss_cons (ps_if (pt_cmpR op_eq (pv 3) pe_int (nomark _)) (pss_one (ps_set (i := 9) sc.nd rfl (Or.inl rfl) (pe_cmpR op_eq (pe_op op_mod (pe_op op_add (pv 6) (pv 8)) pe_int) pe_int (nomark _)))) pss_nil)
      (pss_cons (ps_if (pt_cmpR op_eq (pv 3) pe_int (nomark _)) (pss_one (ps_set (i := 9) sc.nd rfl (Or.inl rfl) (pe_or (pe_cmpR op_eq (pe_op op_mod (pv 6) pe_int) pe_int (nomark _)) (pe_one (pe_cmpR op_eq (pe_op op_mod (pv 8) pe_int) pe_int (nomark _)))))) pss_nil)
      (pss_cons (ps_if (pt_cmpR op_eq (pv 3) pe_int (nomark _)) (pss_one (ps_set (i := 9) sc.nd rfl (Or.inl rfl) pe_bl)) pss_nil)
      (pss_one (ps_expr (pe_bm PySem.F.plainAttrs_list PySem.F.slot_list_append PySem.F.type_list_append mt_append (pv 7) (pa_cons (pe_ifExp (pt_val (pv 9)) pe_str pe_str) pa_nil))))))))))))
      (pss_one (ps_expr (pe_bm PySem.F.plainAttrs_list PySem.F.slot_list_append PySem.F.type_list_append mt_append (pv 5) (pa_cons (pv 7) pa_nil)))))))
      (pss_cons (ps_for PassesOwn.never rfl (pi_range1 rfl G.range (pa_cons (pe_user H__law_take (hr.mono (by decide)) rfl (pa_cons (pv 0) (pa_cons pe_int pa_nil))) pa_nil)) (pg_name (i := 10) sc.nd rfl (Or.inl rfl))
      (pss_cons (ps_set (i := 6) sc.nd rfl (Or.inl rfl) (pe_user H__law_take (hr.mono (by decide)) rfl (pa_cons (pv 0) (pa_cons (pv 1) pa_nil))))
      (pss_cons (ps_set (i := 8) sc.nd rfl (Or.inl rfl) (pe_user H__law_take (hr.mono (by decide)) rfl (pa_cons (pv 0) (pa_cons (pv 2) pa_nil))))
      (pss_one (ps_asg (pe_ifExp (pt_cmpR op_eq (pe_ix ix_list (pe_ix ix_list (pv 5) (pv 6) (fun _ _ => rfl)) (pv 8) (fun _ _ => rfl)) pe_str (nomark _)) pe_str pe_str) (pg_sub (pe_ix ix_list (pv 5) (pv 6) (fun _ _ => rfl)) (pv 8) set_list))))))
      (pss_one (ps_ret (pe_callTy call_tuple_of (by rfl) G.tuple (by decide +kernel) (pa_cons (pe_lc (own := [("row", 7)]) (g := gName 7) (tt := tYes) rfl sc.nd (pi_list (pv 5)) (blkOk_by (N := N__law_grid) (sc := defScope s__law_grid) (by decide +kernel)) (fun _ _ _ _ _ => (pg_name (i := 7) sc.nd rfl (Or.inl rfl))) (fun _ _ _ _ _ => pts_nil) (fun _ _ _ _ _ => (pe_joinK (K := K) rfl pe_str (pv 7)))) pa_nil))))))))), ?_⟩
    refine q_asg (W := W0) (ev_take (ew_deal rfl) ew_int) g0.ok hm fun a1_style v_style W1 g1 h_style hm => ?_
    have h_rows := PyI.st g1.st h_rows
    have h_columns := PyI.st g1.st h_columns
    have g0 := g0.trans g1
    refine q_asg (W := W1) (ew_add ew_int (ev_take (ew_deal rfl) ew_int)) g0.ok hm fun a2_chance v_chance W2 g2 h_chance hm => ?_
    have h_rows := PyI.st g2.st h_rows
    have h_columns := PyI.st g2.st h_columns
    have h_style := PyI.st g2.st h_style
    have g0 := g0.trans g2
    refine q_asg (W := W2) (ew_gnil (α := Str)) g0.ok hm fun a3_grid v_grid W3 g3 ⟨fp_grid, ho0_grid, hf_grid⟩ hm => ?_
    have hz_grid : ∀ a ∈ fp_grid, W0.H a = none := fun a m => g0.live a (hf_grid a m).1
    have h_rows := PyI.st g3.st h_rows
    have h_columns := PyI.st g3.st h_columns
    have h_style := PyI.st g3.st h_style
    have h_chance := PyI.st g3.st h_chance
    have g0 := g0.trans g3
    have ho_grid : Var (kG Str) W0 W3 fp_grid a3_grid v_grid := ⟨ho0_grid, hz_grid, fun b m => (hf_grid b m).2.2⟩
    refine q_forR1 (W := W3) (ew_var rfl h_rows) g0.ok hm fun W4 g4 => ?_
    have h_rows := PyI.st g4.st h_rows
    have h_columns := PyI.st g4.st h_columns
    have h_style := PyI.st g4.st h_style
    have h_chance := PyI.st g4.st h_chance
    have ho_grid := ho_grid.go g00 g4
    have g0 := g0.trans g4
    refine ⟨fun y σ' W' => ∃ (v_grid : V) (fp_grid : List Addr) (o_r : Option V) (o_row : Option V) (o_c : Option V) (o_land : Option V), σ' = [some (.ref d.p), some v_rows, some v_columns, some v_style, some v_chance, some v_grid, o_r, o_row, o_c, o_land, none] ∧ Gw (efD d) W0 W' ∧ St W4 W' ∧ Var (kG Str) W0 W' fp_grid y v_grid, ⟨v_grid, fp_grid, _, _, _, _, rfl, g0, (St.refl _), ho_grid⟩, fun c4 y4 σi s2 Wi4 R4 nx4 ht hI hm kn4 kb4 kr4 => ?_, fun z4 σi Wi4 hI hm => ?_⟩
    ·
      obtain ⟨v_grid, fp_grid, o_r, o_row, o_c, o_land, rfl, g0, sl4, ho_grid⟩ := hI
      have h_rows := PyI.st sl4 h_rows
      have h_columns := PyI.st sl4 h_columns
      have h_style := PyI.st sl4 h_style
      have h_chance := PyI.st sl4 h_chance
      obtain ⟨v_r, rfl, h_r⟩ := ht
      refine q_asg (W := Wi4) (ew_lst (eas_nil (α := Str))) g0.ok hm fun a5_row v_row W5 g5 ⟨fp_row, ho0_row, hf_row⟩ hm => ?_
      have dj_grid_row : ∀ b ∈ fp_grid, b ∉ fp_row := fun b m z => (kG Str).live ho_grid.own b m (hf_row b z).1
      have hz_row : ∀ a ∈ fp_row, W0.H a = none := fun a m => g0.live a (hf_row a m).1
      have h_rows := PyI.st g5.st h_rows
      have h_columns := PyI.st g5.st h_columns
      have h_style := PyI.st g5.st h_style
      have h_chance := PyI.st g5.st h_chance
      have ho_grid := ho_grid.go g00 g5
      have h_r := PyI.st g5.st h_r
      have sl4 := sl4.trans g5.st
      have g0 := g0.trans g5
      have ho_row : Var (kL Str) W0 W5 fp_row a5_row v_row := ⟨ho0_row, hz_row, fun b m => (hf_row b m).2.2⟩
      refine q_forR1 (W := W5) (ew_var rfl h_columns) g0.ok hm fun W6 g6 => ?_
      have h_rows := PyI.st g6.st h_rows
      have h_columns := PyI.st g6.st h_columns
      have h_style := PyI.st g6.st h_style
      have h_chance := PyI.st g6.st h_chance
      have ho_grid := ho_grid.go g00 g6
      have h_r := PyI.st g6.st h_r
      have ho_row := ho_row.go g00 g6
      have sl4 := sl4.trans g6.st
      have g0 := g0.trans g6
      refine ⟨fun y σ' W' => ∃ (v_row : V) (fp_row : List Addr) (o_c : Option V) (o_land : Option V), σ' = [some (.ref d.p), some v_rows, some v_columns, some v_style, some v_chance, some v_grid, some v_r, some v_row, o_c, o_land, none] ∧ Gw (efD d) W0 W' ∧ St W6 W' ∧ Var (kL Str) W0 W' fp_row y v_row ∧ Var (kG Str) W0 W' fp_grid y4 v_grid ∧ (∀ b ∈ fp_grid, b ∉ fp_row), ⟨v_row, fp_row, _, _, rfl, g0, (St.refl _), ho_row, ho_grid, dj_grid_row⟩, fun c6 y6 σi s2 Wi6 R6 nx6 ht hI hm kn6 kb6 kr6 => ?_, fun z6 σi Wi6 hI hm => ?_⟩
      ·
        obtain ⟨v_row, fp_row, o_c, o_land, rfl, g0, sl6, ho_row, ho_grid, dj_grid_row⟩ := hI
        have h_rows := PyI.st sl6 h_rows
        have h_columns := PyI.st sl6 h_columns
        have h_style := PyI.st sl6 h_style
        have h_chance := PyI.st sl6 h_chance
        have h_r := PyI.st sl6 h_r
        have sl4 := sl4.trans sl6
        obtain ⟨v_c, rfl, h_c⟩ := ht
        refine q_asg (W := Wi6) (ew_gt (ev_take (ew_deal rfl) (ew_var rfl h_chance)) ew_int) g0.ok hm fun a7_land v_land W7 g7 h_land hm => ?_
        have h_rows := PyI.st g7.st h_rows
        have h_columns := PyI.st g7.st h_columns
        have h_style := PyI.st g7.st h_style
        have h_chance := PyI.st g7.st h_chance
        have ho_grid := ho_grid.go g00 g7
        have h_r := PyI.st g7.st h_r
        have ho_row := ho_row.go g00 g7
        have h_c := PyI.st g7.st h_c
        have sl4 := sl4.trans g7.st
        have sl6 := sl6.trans g7.st
        have g0 := g0.trans g7
        refine q_join (W := W7) (s := Bool) (fun y σ' W' => ∃ (v_land : V), σ' = [some (.ref d.p), some v_rows, some v_columns, some v_style, some v_chance, some v_grid, some v_r, some v_row, some v_c, some v_land, none] ∧ Gw (efD d) W0 W' ∧ St W7 W' ∧ Rp W' y v_land ∧ Var (kG Str) W0 W' fp_grid y4 v_grid ∧ Var (kL Str) W0 W' fp_row y6 v_row) (et_t (ew_inI (ew_var rfl h_style) (ew_tup (eas_cons ew_int (eas_cons ew_int eas_nil))))) g0.ok hm (fun y8 σj Wj8 hI hm => ?_) (fun W8 R8 g8 hm kj => ?_) (fun W8 R8 g8 hm kj => ?_)
        ·
          obtain ⟨v_land, rfl, g0, sj8, h_land, ho_grid, ho_row⟩ := hI
          have h_rows := PyI.st sj8 h_rows
          have h_columns := PyI.st sj8 h_columns
          have h_style := PyI.st sj8 h_style
          have h_chance := PyI.st sj8 h_chance
          have h_r := PyI.st sj8 h_r
          have h_c := PyI.st sj8 h_c
          have sl4 := sl4.trans sj8
          have sl6 := sl6.trans sj8
          refine q_join (W := Wj8) (s := Bool) (fun y σ' W' => ∃ (v_land : V), σ' = [some (.ref d.p), some v_rows, some v_columns, some v_style, some v_chance, some v_grid, some v_r, some v_row, some v_c, some v_land, none] ∧ Gw (efD d) W0 W' ∧ St Wj8 W' ∧ Rp W' y v_land ∧ Var (kG Str) W0 W' fp_grid y4 v_grid ∧ Var (kL Str) W0 W' fp_row y6 v_row) (et_t (ew_eq (ew_var rfl h_style) ew_int)) g0.ok hm (fun y9 σj Wj9 hI hm => ?_) (fun W9 R9 g9 hm kj => ?_) (fun W9 R9 g9 hm kj => ?_)
          ·
            obtain ⟨v_land, rfl, g0, sj9, h_land, ho_grid, ho_row⟩ := hI
            have h_rows := PyI.st sj9 h_rows
            have h_columns := PyI.st sj9 h_columns
            have h_style := PyI.st sj9 h_style
            have h_chance := PyI.st sj9 h_chance
            have h_r := PyI.st sj9 h_r
            have h_c := PyI.st sj9 h_c
            have sl4 := sl4.trans sj9
            have sl6 := sl6.trans sj9
            refine q_join (W := Wj9) (s := Bool) (fun y σ' W' => ∃ (v_land : V), σ' = [some (.ref d.p), some v_rows, some v_columns, some v_style, some v_chance, some v_grid, some v_r, some v_row, some v_c, some v_land, none] ∧ Gw (efD d) W0 W' ∧ St Wj9 W' ∧ Rp W' y v_land ∧ Var (kG Str) W0 W' fp_grid y4 v_grid ∧ Var (kL Str) W0 W' fp_row y6 v_row) (et_t (ew_eq (ew_var rfl h_style) ew_int)) g0.ok hm (fun y10 σj Wj10 hI hm => ?_) (fun W10 R10 g10 hm kj => ?_) (fun W10 R10 g10 hm kj => ?_)
            ·
              obtain ⟨v_land, rfl, g0, sj10, h_land, ho_grid, ho_row⟩ := hI
              have h_rows := PyI.st sj10 h_rows
              have h_columns := PyI.st sj10 h_columns
              have h_style := PyI.st sj10 h_style
              have h_chance := PyI.st sj10 h_chance
              have h_r := PyI.st sj10 h_r
              have h_c := PyI.st sj10 h_c
              have sl4 := sl4.trans sj10
              have sl6 := sl6.trans sj10
              refine q_join (W := Wj10) (s := Bool) (fun y σ' W' => ∃ (v_land : V), σ' = [some (.ref d.p), some v_rows, some v_columns, some v_style, some v_chance, some v_grid, some v_r, some v_row, some v_c, some v_land, none] ∧ Gw (efD d) W0 W' ∧ St Wj10 W' ∧ Rp W' y v_land ∧ Var (kG Str) W0 W' fp_grid y4 v_grid ∧ Var (kL Str) W0 W' fp_row y6 v_row) (et_t (ew_eq (ew_var rfl h_style) ew_int)) g0.ok hm (fun y11 σj Wj11 hI hm => ?_) (fun W11 R11 g11 hm kj => ?_) (fun W11 R11 g11 hm kj => ?_)
              ·
                obtain ⟨v_land, rfl, g0, sj11, h_land, ho_grid, ho_row⟩ := hI
                have h_rows := PyI.st sj11 h_rows
                have h_columns := PyI.st sj11 h_columns
                have h_style := PyI.st sj11 h_style
                have h_chance := PyI.st sj11 h_chance
                have h_r := PyI.st sj11 h_r
                have h_c := PyI.st sj11 h_c
                have sl4 := sl4.trans sj11
                have sl6 := sl6.trans sj11
                refine q_join (W := Wj11) (s := Bool) (fun y σ' W' => ∃ (v_land : V), σ' = [some (.ref d.p), some v_rows, some v_columns, some v_style, some v_chance, some v_grid, some v_r, some v_row, some v_c, some v_land, none] ∧ Gw (efD d) W0 W' ∧ St Wj11 W' ∧ Rp W' y v_land ∧ Var (kG Str) W0 W' fp_grid y4 v_grid ∧ Var (kL Str) W0 W' fp_row y6 v_row) (et_t (ew_eq (ew_var rfl h_style) ew_int)) g0.ok hm (fun y12 σj Wj12 hI hm => ?_) (fun W12 R12 g12 hm kj => ?_) (fun W12 R12 g12 hm kj => ?_)
                ·
                  obtain ⟨v_land, rfl, g0, sj12, h_land, ho_grid, ho_row⟩ := hI
                  have h_rows := PyI.st sj12 h_rows
                  have h_columns := PyI.st sj12 h_columns
                  have h_style := PyI.st sj12 h_style
                  have h_chance := PyI.st sj12 h_chance
                  have h_r := PyI.st sj12 h_r
                  have h_c := PyI.st sj12 h_c
                  have sl4 := sl4.trans sj12
                  have sl6 := sl6.trans sj12
                  refine q_join (W := Wj12) (s := Bool) (fun y σ' W' => ∃ (v_land : V), σ' = [some (.ref d.p), some v_rows, some v_columns, some v_style, some v_chance, some v_grid, some v_r, some v_row, some v_c, some v_land, none] ∧ Gw (efD d) W0 W' ∧ St Wj12 W' ∧ Rp W' y v_land ∧ Var (kG Str) W0 W' fp_grid y4 v_grid ∧ Var (kL Str) W0 W' fp_row y6 v_row) (et_t (ew_eq (ew_var rfl h_style) ew_int)) g0.ok hm (fun y13 σj Wj13 hI hm => ?_) (fun W13 R13 g13 hm kj => ?_) (fun W13 R13 g13 hm kj => ?_)
                  ·
                    obtain ⟨v_land, rfl, g0, sj13, h_land, ho_grid, ho_row⟩ := hI
                    have h_rows := PyI.st sj13 h_rows
                    have h_columns := PyI.st sj13 h_columns
                    have h_style := PyI.st sj13 h_style
                    have h_chance := PyI.st sj13 h_chance
                    have h_r := PyI.st sj13 h_r
                    have h_c := PyI.st sj13 h_c
                    have sl4 := sl4.trans sj13
                    have sl6 := sl6.trans sj13
                    refine st_app (W := Wj13) g00 g0 rfl ho_row (ew_ifE (et_B (ew_var rfl h_land)) ew_str ew_str) hm fun a14_row W14_ W14 l_row el_row g14 s g02 kk ff ho_row hm => ?_
                    have h_rows := PyI.st g14.st h_rows
                    have h_columns := PyI.st g14.st h_columns
                    have h_style := PyI.st g14.st h_style
                    have h_chance := PyI.st g14.st h_chance
                    have ho_grid := ho_grid.go g00 g14
                    have h_r := PyI.st g14.st h_r
                    have h_c := PyI.st g14.st h_c
                    have h_land := PyI.st g14.st h_land
                    have sl4 := sl4.trans g14.st
                    have sl6 := sl6.trans g14.st
                    have g0 := g0.trans g14
                    have h_rows := PyI.st s h_rows
                    have h_columns := PyI.st s h_columns
                    have h_style := PyI.st s h_style
                    have h_chance := PyI.st s h_chance
                    have ho_grid := ho_grid.kept s kk ff dj_grid_row
                    have h_r := PyI.st s h_r
                    have h_c := PyI.st s h_c
                    have h_land := PyI.st s h_land
                    have sl4 := sl4.trans s
                    have sl6 := sl6.trans s
                    have g0 := g02
                    exact kn6 a14_row _ W14 ⟨v_row, fp_row, _, _, rfl, g0, sl6, ho_row, ho_grid, dj_grid_row⟩ hm
                  ·
                    have h_rows := PyI.st g13.st h_rows
                    have h_columns := PyI.st g13.st h_columns
                    have h_style := PyI.st g13.st h_style
                    have h_chance := PyI.st g13.st h_chance
                    have ho_grid := ho_grid.go g00 g13
                    have h_r := PyI.st g13.st h_r
                    have ho_row := ho_row.go g00 g13
                    have h_c := PyI.st g13.st h_c
                    have h_land := PyI.st g13.st h_land
                    have sl4 := sl4.trans g13.st
                    have sl6 := sl6.trans g13.st
                    have g0 := g0.trans g13
                    have sj13 := g13.st
                    refine st_asg (W := W13) ew_bl g0.ok hm fun a15_land v_land W15 g15 h_land hm => ?_
                    have h_rows := PyI.st g15.st h_rows
                    have h_columns := PyI.st g15.st h_columns
                    have h_style := PyI.st g15.st h_style
                    have h_chance := PyI.st g15.st h_chance
                    have ho_grid := ho_grid.go g00 g15
                    have h_r := PyI.st g15.st h_r
                    have ho_row := ho_row.go g00 g15
                    have h_c := PyI.st g15.st h_c
                    have sl4 := sl4.trans g15.st
                    have sl6 := sl6.trans g15.st
                    have sj13 := sj13.trans g15.st
                    have g0 := g0.trans g15
                    exact kj a15_land _ W15 ⟨v_land, rfl, g0, sj13, h_land, ho_grid, ho_row⟩ hm
                  ·
                    have h_rows := PyI.st g13.st h_rows
                    have h_columns := PyI.st g13.st h_columns
                    have h_style := PyI.st g13.st h_style
                    have h_chance := PyI.st g13.st h_chance
                    have ho_grid := ho_grid.go g00 g13
                    have h_r := PyI.st g13.st h_r
                    have ho_row := ho_row.go g00 g13
                    have h_c := PyI.st g13.st h_c
                    have h_land := PyI.st g13.st h_land
                    have sl4 := sl4.trans g13.st
                    have sl6 := sl6.trans g13.st
                    have g0 := g0.trans g13
                    have sj13 := g13.st
                    refine st_next ?_
                    exact kj y12 _ W13 ⟨v_land, rfl, g0, sj13, h_land, ho_grid, ho_row⟩ hm
                ·
                  have h_rows := PyI.st g12.st h_rows
                  have h_columns := PyI.st g12.st h_columns
                  have h_style := PyI.st g12.st h_style
                  have h_chance := PyI.st g12.st h_chance
                  have ho_grid := ho_grid.go g00 g12
                  have h_r := PyI.st g12.st h_r
                  have ho_row := ho_row.go g00 g12
                  have h_c := PyI.st g12.st h_c
                  have h_land := PyI.st g12.st h_land
                  have sl4 := sl4.trans g12.st
                  have sl6 := sl6.trans g12.st
                  have g0 := g0.trans g12
                  have sj12 := g12.st
                  refine st_asg (W := W12) (ew_orV (ew_eq (ew_mod (ew_var rfl h_r) ew_int) ew_int) (ew_eq (ew_mod (ew_var rfl h_c) ew_int) ew_int)) g0.ok hm fun a16_land v_land W16 g16 h_land hm => ?_
                  have h_rows := PyI.st g16.st h_rows
                  have h_columns := PyI.st g16.st h_columns
                  have h_style := PyI.st g16.st h_style
                  have h_chance := PyI.st g16.st h_chance
                  have ho_grid := ho_grid.go g00 g16
                  have h_r := PyI.st g16.st h_r
                  have ho_row := ho_row.go g00 g16
                  have h_c := PyI.st g16.st h_c
                  have sl4 := sl4.trans g16.st
                  have sl6 := sl6.trans g16.st
                  have sj12 := sj12.trans g16.st
                  have g0 := g0.trans g16
                  exact kj a16_land _ W16 ⟨v_land, rfl, g0, sj12, h_land, ho_grid, ho_row⟩ hm
                ·
                  have h_rows := PyI.st g12.st h_rows
                  have h_columns := PyI.st g12.st h_columns
                  have h_style := PyI.st g12.st h_style
                  have h_chance := PyI.st g12.st h_chance
                  have ho_grid := ho_grid.go g00 g12
                  have h_r := PyI.st g12.st h_r
                  have ho_row := ho_row.go g00 g12
                  have h_c := PyI.st g12.st h_c
                  have h_land := PyI.st g12.st h_land
                  have sl4 := sl4.trans g12.st
                  have sl6 := sl6.trans g12.st
                  have g0 := g0.trans g12
                  have sj12 := g12.st
                  refine st_next ?_
                  exact kj y11 _ W12 ⟨v_land, rfl, g0, sj12, h_land, ho_grid, ho_row⟩ hm
              ·
                have h_rows := PyI.st g11.st h_rows
                have h_columns := PyI.st g11.st h_columns
                have h_style := PyI.st g11.st h_style
                have h_chance := PyI.st g11.st h_chance
                have ho_grid := ho_grid.go g00 g11
                have h_r := PyI.st g11.st h_r
                have ho_row := ho_row.go g00 g11
                have h_c := PyI.st g11.st h_c
                have h_land := PyI.st g11.st h_land
                have sl4 := sl4.trans g11.st
                have sl6 := sl6.trans g11.st
                have g0 := g0.trans g11
                have sj11 := g11.st
                refine st_asg (W := W11) (ew_eq (ew_mod (ew_add (ew_var rfl h_r) (ew_var rfl h_c)) ew_int) ew_int) g0.ok hm fun a17_land v_land W17 g17 h_land hm => ?_
                have h_rows := PyI.st g17.st h_rows
                have h_columns := PyI.st g17.st h_columns
                have h_style := PyI.st g17.st h_style
                have h_chance := PyI.st g17.st h_chance
                have ho_grid := ho_grid.go g00 g17
                have h_r := PyI.st g17.st h_r
                have ho_row := ho_row.go g00 g17
                have h_c := PyI.st g17.st h_c
                have sl4 := sl4.trans g17.st
                have sl6 := sl6.trans g17.st
                have sj11 := sj11.trans g17.st
                have g0 := g0.trans g17
                exact kj a17_land _ W17 ⟨v_land, rfl, g0, sj11, h_land, ho_grid, ho_row⟩ hm
              ·
                have h_rows := PyI.st g11.st h_rows
                have h_columns := PyI.st g11.st h_columns
                have h_style := PyI.st g11.st h_style
                have h_chance := PyI.st g11.st h_chance
                have ho_grid := ho_grid.go g00 g11
                have h_r := PyI.st g11.st h_r
                have ho_row := ho_row.go g00 g11
                have h_c := PyI.st g11.st h_c
                have h_land := PyI.st g11.st h_land
                have sl4 := sl4.trans g11.st
                have sl6 := sl6.trans g11.st
                have g0 := g0.trans g11
                have sj11 := g11.st
                refine st_next ?_
                exact kj y10 _ W11 ⟨v_land, rfl, g0, sj11, h_land, ho_grid, ho_row⟩ hm
            ·
              have h_rows := PyI.st g10.st h_rows
              have h_columns := PyI.st g10.st h_columns
              have h_style := PyI.st g10.st h_style
              have h_chance := PyI.st g10.st h_chance
              have ho_grid := ho_grid.go g00 g10
              have h_r := PyI.st g10.st h_r
              have ho_row := ho_row.go g00 g10
              have h_c := PyI.st g10.st h_c
              have h_land := PyI.st g10.st h_land
              have sl4 := sl4.trans g10.st
              have sl6 := sl6.trans g10.st
              have g0 := g0.trans g10
              have sj10 := g10.st
              refine st_asg (W := W10) (ew_orV (ew_eq (ew_mod (ew_var rfl h_r) ew_int) ew_int) (ew_eq (ew_var rfl h_c) (ew_ixL (ew_rd (ew_lst (eas_cons ew_int (eas_cons (ew_sub (ew_var rfl h_columns) ew_int) (eas_nil (α := Int)))))) (ew_mod (ew_fdiv (ew_var rfl h_r) ew_int) ew_int)))) g0.ok hm fun a18_land v_land W18 g18 h_land hm => ?_
              have h_rows := PyI.st g18.st h_rows
              have h_columns := PyI.st g18.st h_columns
              have h_style := PyI.st g18.st h_style
              have h_chance := PyI.st g18.st h_chance
              have ho_grid := ho_grid.go g00 g18
              have h_r := PyI.st g18.st h_r
              have ho_row := ho_row.go g00 g18
              have h_c := PyI.st g18.st h_c
              have sl4 := sl4.trans g18.st
              have sl6 := sl6.trans g18.st
              have sj10 := sj10.trans g18.st
              have g0 := g0.trans g18
              exact kj a18_land _ W18 ⟨v_land, rfl, g0, sj10, h_land, ho_grid, ho_row⟩ hm
            ·
              have h_rows := PyI.st g10.st h_rows
              have h_columns := PyI.st g10.st h_columns
              have h_style := PyI.st g10.st h_style
              have h_chance := PyI.st g10.st h_chance
              have ho_grid := ho_grid.go g00 g10
              have h_r := PyI.st g10.st h_r
              have ho_row := ho_row.go g00 g10
              have h_c := PyI.st g10.st h_c
              have h_land := PyI.st g10.st h_land
              have sl4 := sl4.trans g10.st
              have sl6 := sl6.trans g10.st
              have g0 := g0.trans g10
              have sj10 := g10.st
              refine st_next ?_
              exact kj y9 _ W10 ⟨v_land, rfl, g0, sj10, h_land, ho_grid, ho_row⟩ hm
          ·
            have h_rows := PyI.st g9.st h_rows
            have h_columns := PyI.st g9.st h_columns
            have h_style := PyI.st g9.st h_style
            have h_chance := PyI.st g9.st h_chance
            have ho_grid := ho_grid.go g00 g9
            have h_r := PyI.st g9.st h_r
            have ho_row := ho_row.go g00 g9
            have h_c := PyI.st g9.st h_c
            have h_land := PyI.st g9.st h_land
            have sl4 := sl4.trans g9.st
            have sl6 := sl6.trans g9.st
            have g0 := g0.trans g9
            have sj9 := g9.st
            refine st_asg (W := W9) (ew_eq (ew_mod (ew_min4 (ew_var rfl h_r) (ew_var rfl h_c) (ew_sub (ew_sub (ew_var rfl h_rows) ew_int) (ew_var rfl h_r)) (ew_sub (ew_sub (ew_var rfl h_columns) ew_int) (ew_var rfl h_c))) ew_int) ew_int) g0.ok hm fun a19_land v_land W19 g19 h_land hm => ?_
            have h_rows := PyI.st g19.st h_rows
            have h_columns := PyI.st g19.st h_columns
            have h_style := PyI.st g19.st h_style
            have h_chance := PyI.st g19.st h_chance
            have ho_grid := ho_grid.go g00 g19
            have h_r := PyI.st g19.st h_r
            have ho_row := ho_row.go g00 g19
            have h_c := PyI.st g19.st h_c
            have sl4 := sl4.trans g19.st
            have sl6 := sl6.trans g19.st
            have sj9 := sj9.trans g19.st
            have g0 := g0.trans g19
            exact kj a19_land _ W19 ⟨v_land, rfl, g0, sj9, h_land, ho_grid, ho_row⟩ hm
          ·
            have h_rows := PyI.st g9.st h_rows
            have h_columns := PyI.st g9.st h_columns
            have h_style := PyI.st g9.st h_style
            have h_chance := PyI.st g9.st h_chance
            have ho_grid := ho_grid.go g00 g9
            have h_r := PyI.st g9.st h_r
            have ho_row := ho_row.go g00 g9
            have h_c := PyI.st g9.st h_c
            have h_land := PyI.st g9.st h_land
            have sl4 := sl4.trans g9.st
            have sl6 := sl6.trans g9.st
            have g0 := g0.trans g9
            have sj9 := g9.st
            refine st_next ?_
            exact kj y8 _ W9 ⟨v_land, rfl, g0, sj9, h_land, ho_grid, ho_row⟩ hm
        ·
          have h_rows := PyI.st g8.st h_rows
          have h_columns := PyI.st g8.st h_columns
          have h_style := PyI.st g8.st h_style
          have h_chance := PyI.st g8.st h_chance
          have ho_grid := ho_grid.go g00 g8
          have h_r := PyI.st g8.st h_r
          have ho_row := ho_row.go g00 g8
          have h_c := PyI.st g8.st h_c
          have h_land := PyI.st g8.st h_land
          have sl4 := sl4.trans g8.st
          have sl6 := sl6.trans g8.st
          have g0 := g0.trans g8
          have sj8 := g8.st
          refine st_asg (W := W8) (ew_notV (ew_var rfl h_land)) g0.ok hm fun a20_land v_land W20 g20 h_land hm => ?_
          have h_rows := PyI.st g20.st h_rows
          have h_columns := PyI.st g20.st h_columns
          have h_style := PyI.st g20.st h_style
          have h_chance := PyI.st g20.st h_chance
          have ho_grid := ho_grid.go g00 g20
          have h_r := PyI.st g20.st h_r
          have ho_row := ho_row.go g00 g20
          have h_c := PyI.st g20.st h_c
          have sl4 := sl4.trans g20.st
          have sl6 := sl6.trans g20.st
          have sj8 := sj8.trans g20.st
          have g0 := g0.trans g20
          exact kj a20_land _ W20 ⟨v_land, rfl, g0, sj8, h_land, ho_grid, ho_row⟩ hm
        ·
          have h_rows := PyI.st g8.st h_rows
          have h_columns := PyI.st g8.st h_columns
          have h_style := PyI.st g8.st h_style
          have h_chance := PyI.st g8.st h_chance
          have ho_grid := ho_grid.go g00 g8
          have h_r := PyI.st g8.st h_r
          have ho_row := ho_row.go g00 g8
          have h_c := PyI.st g8.st h_c
          have h_land := PyI.st g8.st h_land
          have sl4 := sl4.trans g8.st
          have sl6 := sl6.trans g8.st
          have g0 := g0.trans g8
          have sj8 := g8.st
          refine st_next ?_
          exact kj a7_land _ W8 ⟨v_land, rfl, g0, sj8, h_land, ho_grid, ho_row⟩ hm
      ·
        obtain ⟨v_row, fp_row, o_c, o_land, rfl, g0, sl6, ho_row, ho_grid, dj_grid_row⟩ := hI
        have h_rows := PyI.st sl6 h_rows
        have h_columns := PyI.st sl6 h_columns
        have h_style := PyI.st sl6 h_style
        have h_chance := PyI.st sl6 h_chance
        have h_r := PyI.st sl6 h_r
        have sl4 := sl4.trans sl6
        refine st_gapp (W := Wi6) g00 g0 rfl rfl ho_grid ho_row dj_grid_row hm fun a21_grid W21 fp_grid hsub s g02 kk ff ho_grid hm => ?_
        have h_rows := PyI.st s h_rows
        have h_columns := PyI.st s h_columns
        have h_style := PyI.st s h_style
        have h_chance := PyI.st s h_chance
        have h_r := PyI.st s h_r
        have sl4 := sl4.trans s
        have g0 := g02
        exact kn4 a21_grid _ W21 ⟨v_grid, fp_grid, _, _, _, _, rfl, g0, sl4, ho_grid⟩ hm
    ·
      obtain ⟨v_grid, fp_grid, o_r, o_row, o_c, o_land, rfl, g0, sl4, ho_grid⟩ := hI
      have h_rows := PyI.st sl4 h_rows
      have h_columns := PyI.st sl4 h_columns
      have h_style := PyI.st sl4 h_style
      have h_chance := PyI.st sl4 h_chance
      refine q_forR1 (W := Wi4) (ev_take (ew_deal rfl) ew_int) g0.ok hm fun W22 g22 => ?_
      have h_rows := PyI.st g22.st h_rows
      have h_columns := PyI.st g22.st h_columns
      have h_style := PyI.st g22.st h_style
      have h_chance := PyI.st g22.st h_chance
      have ho_grid := ho_grid.go g00 g22
      have g0 := g0.trans g22
      refine ⟨fun y σ' W' => ∃ (v_grid : V) (fp_grid : List Addr) (o_r : Option V) (o_c : Option V) (o_k : Option V), σ' = [some (.ref d.p), some v_rows, some v_columns, some v_style, some v_chance, some v_grid, o_r, o_row, o_c, o_land, o_k] ∧ Gw (efD d) W0 W' ∧ St W22 W' ∧ Var (kG Str) W0 W' fp_grid y v_grid, ⟨v_grid, fp_grid, _, _, _, rfl, g0, (St.refl _), ho_grid⟩, fun c22 y22 σi s2 Wi22 R22 nx22 ht hI hm kn22 kb22 kr22 => ?_, fun z22 σi Wi22 hI hm => ?_⟩
      ·
        obtain ⟨v_grid, fp_grid, o_r, o_c, o_k, rfl, g0, sl22, ho_grid⟩ := hI
        have h_rows := PyI.st sl22 h_rows
        have h_columns := PyI.st sl22 h_columns
        have h_style := PyI.st sl22 h_style
        have h_chance := PyI.st sl22 h_chance
        obtain ⟨v_k, rfl, h_k⟩ := ht
        refine q_asg (W := Wi22) (ev_take (ew_deal rfl) (ew_var rfl h_rows)) g0.ok hm fun a23_r v_r W23 g23 h_r hm => ?_
        have h_rows := PyI.st g23.st h_rows
        have h_columns := PyI.st g23.st h_columns
        have h_style := PyI.st g23.st h_style
        have h_chance := PyI.st g23.st h_chance
        have ho_grid := ho_grid.go g00 g23
        have h_k := PyI.st g23.st h_k
        have sl22 := sl22.trans g23.st
        have g0 := g0.trans g23
        refine q_asg (W := W23) (ev_take (ew_deal rfl) (ew_var rfl h_columns)) g0.ok hm fun a24_c v_c W24 g24 h_c hm => ?_
        have h_rows := PyI.st g24.st h_rows
        have h_columns := PyI.st g24.st h_columns
        have h_style := PyI.st g24.st h_style
        have h_chance := PyI.st g24.st h_chance
        have ho_grid := ho_grid.go g00 g24
        have h_r := PyI.st g24.st h_r
        have h_k := PyI.st g24.st h_k
        have sl22 := sl22.trans g24.st
        have g0 := g0.trans g24
        refine st_gset (W := W24) g00 g0 rfl ho_grid (ew_ifE (et_t (ew_eq (ew_ixL (ew_ixG (ew_varR rfl (Var.nS g00 ho_grid) ho_grid.own) (ew_var rfl h_r)) (ew_var rfl h_c)) ew_str)) ew_str ew_str) (ew_var rfl h_r) (ew_var rfl h_c) hm fun a25_grid W25_ W25 g25 s g02 kk ff ho_grid hm => ?_
        have h_rows := PyI.st g25.st h_rows
        have h_columns := PyI.st g25.st h_columns
        have h_style := PyI.st g25.st h_style
        have h_chance := PyI.st g25.st h_chance
        have h_r := PyI.st g25.st h_r
        have h_c := PyI.st g25.st h_c
        have h_k := PyI.st g25.st h_k
        have sl22 := sl22.trans g25.st
        have g0 := g0.trans g25
        have h_rows := PyI.st s h_rows
        have h_columns := PyI.st s h_columns
        have h_style := PyI.st s h_style
        have h_chance := PyI.st s h_chance
        have h_r := PyI.st s h_r
        have h_c := PyI.st s h_c
        have h_k := PyI.st s h_k
        have sl22 := sl22.trans s
        have g0 := g02
        exact kn22 a25_grid _ W25 ⟨v_grid, fp_grid, _, _, _, rfl, g0, sl22, ho_grid⟩ hm
      ·
        obtain ⟨v_grid, fp_grid, o_r, o_c, o_k, rfl, g0, sl22, ho_grid⟩ := hI
        have h_rows := PyI.st sl22 h_rows
        have h_columns := PyI.st sl22 h_columns
        have h_style := PyI.st sl22 h_style
        have h_chance := PyI.st sl22 h_chance
        refine st_ret (W := Wi22) (ew_tuple (ew_rd (ew_lcG (ew_varR rfl (Var.nS g00 ho_grid) ho_grid.own) takes_R (fun _ _ _ h => by obtain ⟨v_row, fp_row, ec, hb_row, hS_row⟩ := h; subst ec; rfl) (fun c1 Wc1 s2 gc1 h => by obtain ⟨v_row, fp_row, ec, hb_row, hS_row⟩ := h; subst ec; have ho_grid := ho_grid.go g00 gc1; exact et_yes) (fun c1 Wc1 s2 gc1 h => by obtain ⟨v_row, fp_row, ec, hb_row, hS_row⟩ := h; subst ec; have ho_grid := ho_grid.go g00 gc1; exact (ew_join ew_str (ew_varR rfl hS_row hb_row)))))) g0.ok hm fun r26 v_ret W26 g26 hp hm => ?_
        exact hm v_ret W26 (g0.trans g26) rfl hp
abbrev s__law_sizes : Stmt := top 25
abbrev N__law_sizes : List Str := ["deal", "most", "rows", "columns", "kind"]
abbrev P__law_sizes : List Str := ["deal", "most"]
theorem sc__law_sizes : FnScope N__law_sizes P__law_sizes (defScope s__law_sizes) := ⟨rfl, rfl, rfl, by decide +kernel, rfl, by decide +kernel, by decide +kernel⟩
def m__law_sizes (_ : Unit) (a_most : Int) : WP Sq := (WP.add (WP.pure (1 : Int)) (WP.b2 (WP.pure ()) (WP.pure a_most) m_take)).bind fun a1_rows => (WP.add (WP.pure (1 : Int)) (WP.b2 (WP.pure ()) (WP.pure a_most) m_take)).bind fun a2_columns => (WP.b2 (WP.pure ()) (WP.pure (16 : Int)) m_take).bind fun a3_kind => ((WP.eq (WP.pure a3_kind) (WP.pure (1 : Int))).bind fun b => WP.cond b ((WP.add (WP.pure a_most) (WP.b2 (WP.pure ()) (WP.pure (3 : Int)) m_take)).bind fun a12_rows => (WP.add (WP.pure a_most) (WP.b2 (WP.pure ()) (WP.pure (3 : Int)) m_take)).bind fun a13_columns => (WP.pure (a12_rows, a13_columns))) ((WP.pure (a1_rows, a2_columns)))).bind fun (y4 : Int × Int) => ((WP.eq (WP.pure a3_kind) (WP.pure (2 : Int))).bind fun b => WP.cond b ((WP.add (WP.pure (1 : Int)) (WP.b2 (WP.pure ()) (WP.pure (40 : Int)) m_take)).bind fun a10_rows => (WP.add (WP.pure (1 : Int)) (WP.b2 (WP.pure ()) (WP.pure (2 : Int)) m_take)).bind fun a11_columns => (WP.pure (a10_rows, a11_columns))) ((WP.pure (y4.1, y4.2)))).bind fun (y5 : Int × Int) => ((WP.eq (WP.pure a3_kind) (WP.pure (3 : Int))).bind fun b => WP.cond b ((WP.add (WP.pure (1 : Int)) (WP.b2 (WP.pure ()) (WP.pure (2 : Int)) m_take)).bind fun a8_rows => (WP.add (WP.pure (1 : Int)) (WP.b2 (WP.pure ()) (WP.pure (40 : Int)) m_take)).bind fun a9_columns => (WP.pure (a8_rows, a9_columns))) ((WP.pure (y5.1, y5.2)))).bind fun (y6 : Int × Int) => (WP.pair (WP.pure y6.1) (WP.pure y6.2)).bind fun r7 => (WP.pure r7)
def sp__law_sizes : Sp := fun vs H Q _ => ∃ (d : Dl) (W : Wo) (a_most : Int) (v_most : V), vs = [.ref d.p, v_most] ∧ W.H = H ∧ Good (efD d) W ∧ Rp W a_most v_most ∧ (m__law_sizes () a_most).run W.n fun n r => ∀ v W', Gw (efD d) W W' → W'.n = n → (sI (e := (efD d)) (α := Sq)).post W W' r v → Q v W'.H
theorem ev__law_sizes {d : Dl} {σ : L2.St} {W : Wo} {E : XK} {t0 t1 : TE} {w0 : WP Unit} {w1 : WP Int} (h0 : EvW (efD d) t0 σ W (sD d) w0) (h1 : EvW (efD d) t1 σ W sI w1) : EvW (efD d) (tCall sp__law_sizes [] E (tCons t0 (tCons t1 tNil))) σ W (sI (α := Sq)) (WP.b2 w0 w1 m__law_sizes) := ew_call2N h0 h1 fun W2 b0 b1 x0 x1 g2 r0 r1 Q q E => by
  cases r0
  exact ⟨d, W2, b1, x1, rfl, rfl, g2, r1, WP.mono _ (fun n c h v W3 g3 hn p => h v W3 g3 hn p) q⟩
theorem ok__law_sizes (F : At K mg "_law_sizes" s__law_sizes P__law_sizes) (G : Glb mg) (H__law_take : Has P w K mg base "_law_take" 1 P__law_take sp_take) : Has P w K mg base "_law_sizes" 2 P__law_sizes sp__law_sizes := by
  refine Has.of F sc__law_sizes (fun vs H Q E h => ?_) (fun f cdv A outer s H0 vs Q E hr h => ?_)
  · obtain ⟨d, W0, a_most, v_most, rfl, _⟩ := h
    rfl
  · obtain ⟨d, W0, a_most, v_most, rfl, rfl, g00, h_most, hm⟩ := h
    have sc := sc__law_sizes
    have g0 := Gw.refl g00
    unfold m__law_sizes at hm
    refine ⟨_, (pss_cons (ps_set (i := 2) sc.nd rfl (Or.inl rfl) (pe_op op_add pe_int (pe_user H__law_take (hr.mono (by decide)) rfl (pa_cons (pv 0) (pa_cons (pv 1) pa_nil)))))
      (pss_cons (ps_set (i := 3) sc.nd rfl (Or.inl rfl) (pe_op op_add pe_int (pe_user H__law_take (hr.mono (by decide)) rfl (pa_cons (pv 0) (pa_cons (pv 1) pa_nil)))))
      (pss_cons (ps_set (i := 4) sc.nd rfl (Or.inl rfl) (pe_user H__law_take (hr.mono (by decide)) rfl (pa_cons (pv 0) (pa_cons pe_int pa_nil))))
      (pss_cons (ps_if (pt_cmpR op_eq (pv 4) pe_int (nomark _)) (pss_cons (ps_set (i := 2) sc.nd rfl (Or.inl rfl) (pe_op op_add (pv 1) (pe_user H__law_take (hr.mono (by decide)) rfl (pa_cons (pv 0) (pa_cons pe_int pa_nil)))))
      (pss_one (ps_set (i := 3) sc.nd rfl (Or.inl rfl) (pe_op op_add (pv 1) (pe_user H__law_take (hr.mono (by decide)) rfl (pa_cons (pv 0) (pa_cons pe_int pa_nil))))))) pss_nil)
      (pss_cons (ps_if (pt_cmpR op_eq (pv 4) pe_int (nomark _)) (pss_cons (ps_set (i := 2) sc.nd rfl (Or.inl rfl) (pe_op op_add pe_int (pe_user H__law_take (hr.mono (by decide)) rfl (pa_cons (pv 0) (pa_cons pe_int pa_nil)))))
      (pss_one (ps_set (i := 3) sc.nd rfl (Or.inl rfl) (pe_op op_add pe_int (pe_user H__law_take (hr.mono (by decide)) rfl (pa_cons (pv 0) (pa_cons pe_int pa_nil))))))) pss_nil)
      (pss_cons (ps_if (pt_cmpR op_eq (pv 4) pe_int (nomark _)) (pss_cons (ps_set (i := 2) sc.nd rfl (Or.inl rfl) (pe_op op_add pe_int (pe_user H__law_take (hr.mono (by decide)) rfl (pa_cons (pv 0) (pa_cons pe_int pa_nil)))))
      (pss_one (ps_set (i := 3) sc.nd rfl (Or.inl rfl) (pe_op op_add pe_int (pe_user H__law_take (hr.mono (by decide)) rfl (pa_cons (pv 0) (pa_cons pe_int pa_nil))))))) pss_nil)
      (pss_one (ps_ret (pe_tup (pa_cons (pv 2) (pa_cons (pv 3) pa_nil))))))))))), ?_⟩
    refine q_asg (W := W0) (ew_add ew_int (ev_take (ew_deal rfl) (ew_var rfl h_most))) g0.ok hm fun a1_rows v_rows W1 g1 h_rows hm => ?_
    have h_most := PyI.st g1.st h_most
    have g0 := g0.trans g1
    refine q_asg (W := W1) (ew_add ew_int (ev_take (ew_deal rfl) (ew_var rfl h_most))) g0.ok hm fun a2_columns v_columns W2 g2 h_columns hm => ?_
    have h_most := PyI.st g2.st h_most
    have h_rows := PyI.st g2.st h_rows
    have g0 := g0.trans g2
    refine q_asg (W := W2) (ev_take (ew_deal rfl) ew_int) g0.ok hm fun a3_kind v_kind W3 g3 h_kind hm => ?_
    have h_most := PyI.st g3.st h_most
    have h_rows := PyI.st g3.st h_rows
    have h_columns := PyI.st g3.st h_columns
    have g0 := g0.trans g3
    refine q_join (W := W3) (s := Int × Int) (fun y σ' W' => ∃ (v_rows : V) (v_columns : V), σ' = [some (.ref d.p), some v_most, some v_rows, some v_columns, some v_kind] ∧ Gw (efD d) W0 W' ∧ St W3 W' ∧ Rp W' y.1 v_rows ∧ Rp W' y.2 v_columns) (et_t (ew_eq (ew_var rfl h_kind) ew_int)) g0.ok hm (fun y4 σj Wj4 hI hm => ?_) (fun W4 R4 g4 hm kj => ?_) (fun W4 R4 g4 hm kj => ?_)
    ·
      obtain ⟨v_rows, v_columns, rfl, g0, sj4, h_rows, h_columns⟩ := hI
      have h_most := PyI.st sj4 h_most
      have h_kind := PyI.st sj4 h_kind
      refine q_join (W := Wj4) (s := Int × Int) (fun y σ' W' => ∃ (v_rows : V) (v_columns : V), σ' = [some (.ref d.p), some v_most, some v_rows, some v_columns, some v_kind] ∧ Gw (efD d) W0 W' ∧ St Wj4 W' ∧ Rp W' y.1 v_rows ∧ Rp W' y.2 v_columns) (et_t (ew_eq (ew_var rfl h_kind) ew_int)) g0.ok hm (fun y5 σj Wj5 hI hm => ?_) (fun W5 R5 g5 hm kj => ?_) (fun W5 R5 g5 hm kj => ?_)
      ·
        obtain ⟨v_rows, v_columns, rfl, g0, sj5, h_rows, h_columns⟩ := hI
        have h_most := PyI.st sj5 h_most
        have h_kind := PyI.st sj5 h_kind
        refine q_join (W := Wj5) (s := Int × Int) (fun y σ' W' => ∃ (v_rows : V) (v_columns : V), σ' = [some (.ref d.p), some v_most, some v_rows, some v_columns, some v_kind] ∧ Gw (efD d) W0 W' ∧ St Wj5 W' ∧ Rp W' y.1 v_rows ∧ Rp W' y.2 v_columns) (et_t (ew_eq (ew_var rfl h_kind) ew_int)) g0.ok hm (fun y6 σj Wj6 hI hm => ?_) (fun W6 R6 g6 hm kj => ?_) (fun W6 R6 g6 hm kj => ?_)
        ·
          obtain ⟨v_rows, v_columns, rfl, g0, sj6, h_rows, h_columns⟩ := hI
          have h_most := PyI.st sj6 h_most
          have h_kind := PyI.st sj6 h_kind
          refine st_ret (W := Wj6) (ew_pair (ew_var rfl h_rows) (ew_var rfl h_columns)) g0.ok hm fun r7 v_ret W7 g7 hp hm => ?_
          exact hm v_ret W7 (g0.trans g7) rfl hp
        ·
          have h_most := PyI.st g6.st h_most
          have h_rows := PyI.st g6.st h_rows
          have h_columns := PyI.st g6.st h_columns
          have h_kind := PyI.st g6.st h_kind
          have g0 := g0.trans g6
          have sj6 := g6.st
          refine q_asg (W := W6) (ew_add ew_int (ev_take (ew_deal rfl) ew_int)) g0.ok hm fun a8_rows v_rows W8 g8 h_rows hm => ?_
          have h_most := PyI.st g8.st h_most
          have h_columns := PyI.st g8.st h_columns
          have h_kind := PyI.st g8.st h_kind
          have sj6 := sj6.trans g8.st
          have g0 := g0.trans g8
          refine st_asg (W := W8) (ew_add ew_int (ev_take (ew_deal rfl) ew_int)) g0.ok hm fun a9_columns v_columns W9 g9 h_columns hm => ?_
          have h_most := PyI.st g9.st h_most
          have h_rows := PyI.st g9.st h_rows
          have h_kind := PyI.st g9.st h_kind
          have sj6 := sj6.trans g9.st
          have g0 := g0.trans g9
          exact kj (a8_rows, a9_columns) _ W9 ⟨v_rows, v_columns, rfl, g0, sj6, h_rows, h_columns⟩ hm
        ·
          have h_most := PyI.st g6.st h_most
          have h_rows := PyI.st g6.st h_rows
          have h_columns := PyI.st g6.st h_columns
          have h_kind := PyI.st g6.st h_kind
          have g0 := g0.trans g6
          have sj6 := g6.st
          refine st_next ?_
          exact kj (y5.1, y5.2) _ W6 ⟨v_rows, v_columns, rfl, g0, sj6, h_rows, h_columns⟩ hm
      ·
        have h_most := PyI.st g5.st h_most
        have h_rows := PyI.st g5.st h_rows
        have h_columns := PyI.st g5.st h_columns
        have h_kind := PyI.st g5.st h_kind
        have g0 := g0.trans g5
        have sj5 := g5.st
        refine q_asg (W := W5) (ew_add ew_int (ev_take (ew_deal rfl) ew_int)) g0.ok hm fun a10_rows v_rows W10 g10 h_rows hm => ?_
        have h_most := PyI.st g10.st h_most
        have h_columns := PyI.st g10.st h_columns
        have h_kind := PyI.st g10.st h_kind
        have sj5 := sj5.trans g10.st
        have g0 := g0.trans g10
        refine st_asg (W := W10) (ew_add ew_int (ev_take (ew_deal rfl) ew_int)) g0.ok hm fun a11_columns v_columns W11 g11 h_columns hm => ?_
        have h_most := PyI.st g11.st h_most
        have h_rows := PyI.st g11.st h_rows
        have h_kind := PyI.st g11.st h_kind
        have sj5 := sj5.trans g11.st
        have g0 := g0.trans g11
        exact kj (a10_rows, a11_columns) _ W11 ⟨v_rows, v_columns, rfl, g0, sj5, h_rows, h_columns⟩ hm
      ·
        have h_most := PyI.st g5.st h_most
        have h_rows := PyI.st g5.st h_rows
        have h_columns := PyI.st g5.st h_columns
        have h_kind := PyI.st g5.st h_kind
        have g0 := g0.trans g5
        have sj5 := g5.st
        refine st_next ?_
        exact kj (y4.1, y4.2) _ W5 ⟨v_rows, v_columns, rfl, g0, sj5, h_rows, h_columns⟩ hm
    ·
      have h_most := PyI.st g4.st h_most
      have h_rows := PyI.st g4.st h_rows
      have h_columns := PyI.st g4.st h_columns
      have h_kind := PyI.st g4.st h_kind
      have g0 := g0.trans g4
      have sj4 := g4.st
      refine q_asg (W := W4) (ew_add (ew_var rfl h_most) (ev_take (ew_deal rfl) ew_int)) g0.ok hm fun a12_rows v_rows W12 g12 h_rows hm => ?_
      have h_most := PyI.st g12.st h_most
      have h_columns := PyI.st g12.st h_columns
      have h_kind := PyI.st g12.st h_kind
      have sj4 := sj4.trans g12.st
      have g0 := g0.trans g12
      refine st_asg (W := W12) (ew_add (ew_var rfl h_most) (ev_take (ew_deal rfl) ew_int)) g0.ok hm fun a13_columns v_columns W13 g13 h_columns hm => ?_
      have h_most := PyI.st g13.st h_most
      have h_rows := PyI.st g13.st h_rows
      have h_kind := PyI.st g13.st h_kind
      have sj4 := sj4.trans g13.st
      have g0 := g0.trans g13
      exact kj (a12_rows, a13_columns) _ W13 ⟨v_rows, v_columns, rfl, g0, sj4, h_rows, h_columns⟩ hm
    ·
      have h_most := PyI.st g4.st h_most
      have h_rows := PyI.st g4.st h_rows
      have h_columns := PyI.st g4.st h_columns
      have h_kind := PyI.st g4.st h_kind
      have g0 := g0.trans g4
      have sj4 := g4.st
      refine st_next ?_
      exact kj (a1_rows, a2_columns) _ W4 ⟨v_rows, v_columns, rfl, g0, sj4, h_rows, h_columns⟩ hm
abbrev s__law_in : Stmt := top 26
abbrev N__law_in : List Str := ["chart", "spot"]
abbrev P__law_in : List Str := ["chart", "spot"]
theorem sc__law_in : FnScope N__law_in P__law_in (defScope s__law_in) := ⟨rfl, rfl, rfl, by decide +kernel, rfl, by decide +kernel, by decide +kernel⟩
def m__law_in (a_chart : (List Str)) (a_spot : Sq) : WP Bool := (WP.and (WP.chain (fun i j => decide (i ≤ j)) (fun i j => decide (i < j)) (WP.pure (0 : Int)) (WP.fst (WP.pure a_spot)) (WP.len (WP.pure a_chart))) (WP.chain (fun i j => decide (i ≤ j)) (fun i j => decide (i < j)) (WP.pure (0 : Int)) (WP.snd (WP.pure a_spot)) (WP.lenS (WP.ix (WP.pure a_chart) (WP.pure (0 : Int)))))).bind fun r1 => (WP.pure r1)
def sp__law_in : Sp := fun vs H Q _ => ∃ (W : Wo) (a_chart : (List Str)) (a_spot : Sq) (v_chart v_spot : V), vs = [v_chart, v_spot] ∧ W.H = H ∧ Good ef0 W ∧ Rp W a_chart v_chart ∧ Rp W a_spot v_spot ∧ (m__law_in a_chart a_spot).run W.n fun n r => ∀ v W', Gw ef0 W W' → W'.n = n → (sI (e := ef0) (α := Bool)).post W W' r v → Q v W'.H
theorem ev__law_in {e : Ef} {σ : L2.St} {W : Wo} {E : XK} {t0 t1 : TE} {w0 : WP (List Str)} {w1 : WP Sq} (h0 : EvW e t0 σ W sI w0) (h1 : EvW e t1 σ W sI w1) : EvW e (tCall sp__law_in [] E (tCons t0 (tCons t1 tNil))) σ W (sI (α := Bool)) (WP.b2 w0 w1 m__law_in) := ew_call2N h0 h1 fun W2 b0 b1 x0 x1 g2 r0 r1 Q q E => by
  exact ⟨W2, b0, b1, x0, x1, rfl, rfl, g2.z, r0, r1, WP.mono _ (fun n c h v W3 g3 hn p => h v W3 (Gw.up g2 g3) hn p) q⟩
theorem ok__law_in (F : At K mg "_law_in" s__law_in P__law_in) (G : Glb mg)  : Has P w K mg base "_law_in" 1 P__law_in sp__law_in := by
  refine Has.of F sc__law_in (fun vs H Q E h => ?_) (fun f cdv A outer s H0 vs Q E hr h => ?_)
  · obtain ⟨W0, a_chart, a_spot, v_chart, v_spot, rfl, _⟩ := h
    rfl
  · obtain ⟨W0, a_chart, a_spot, v_chart, v_spot, rfl, rfl, g00, h_chart, h_spot, hm⟩ := h
    have sc := sc__law_in
    have g0 := Gw.refl g00
    unfold m__law_in at hm
    refine ⟨_, (pss_one (ps_ret (pe_and (pe_chain op_le op_lt pe_int (pe_ix ix_tup (pv 1) pe_int (fun _ _ => rfl)) (pe_callB call_len_seq (by rfl) G.len PySem.boot_len (pa_cons (pv 0) pa_nil))) (pe_one (pe_chain op_le op_lt pe_int (pe_ix ix_tup (pv 1) pe_int (fun _ _ => rfl)) (pe_callB call_len_str (by rfl) G.len PySem.boot_len (pa_cons (pe_ix ix_tup (pv 0) pe_int (fun _ _ => rfl)) pa_nil))))))), ?_⟩
    refine st_ret (W := W0) (ew_andV (ew_chain (C := fun i j => decide (i ≤ j)) (C' := fun i j => decide (i < j)) ew_int (ew_fst (ew_var rfl h_spot)) (ew_lenT (ew_var rfl h_chart))) (ew_chain (C := fun i j => decide (i ≤ j)) (C' := fun i j => decide (i < j)) ew_int (ew_snd (ew_var rfl h_spot)) (ew_lenS (ew_ixT (ew_var rfl h_chart) ew_int)))) g0.ok hm fun r1 v_ret W1 g1 hp hm => ?_
    exact hm v_ret W1 (g0.trans g1) rfl hp
abbrev s__law_at : Stmt := top 27
abbrev N__law_at : List Str := ["chart", "spot"]
abbrev P__law_at : List Str := ["chart", "spot"]
theorem sc__law_at : FnScope N__law_at P__law_at (defScope s__law_at) := ⟨rfl, rfl, rfl, by decide +kernel, rfl, by decide +kernel, by decide +kernel⟩
def m__law_at (a_chart : (List Str)) (a_spot : Sq) : WP Bool := (WP.and (WP.b2 (WP.pure a_chart) (WP.pure a_spot) m__law_in) (WP.eq (WP.ixS (WP.ix (WP.pure a_chart) (WP.fst (WP.pure a_spot))) (WP.snd (WP.pure a_spot))) (WP.pure (Str.ofString "x")))).bind fun r1 => (WP.pure r1)
def sp__law_at : Sp := fun vs H Q _ => ∃ (W : Wo) (a_chart : (List Str)) (a_spot : Sq) (v_chart v_spot : V), vs = [v_chart, v_spot] ∧ W.H = H ∧ Good ef0 W ∧ Rp W a_chart v_chart ∧ Rp W a_spot v_spot ∧ (m__law_at a_chart a_spot).run W.n fun n r => ∀ v W', Gw ef0 W W' → W'.n = n → (sI (e := ef0) (α := Bool)).post W W' r v → Q v W'.H
theorem ev__law_at {e : Ef} {σ : L2.St} {W : Wo} {E : XK} {t0 t1 : TE} {w0 : WP (List Str)} {w1 : WP Sq} (h0 : EvW e t0 σ W sI w0) (h1 : EvW e t1 σ W sI w1) : EvW e (tCall sp__law_at [] E (tCons t0 (tCons t1 tNil))) σ W (sI (α := Bool)) (WP.b2 w0 w1 m__law_at) := ew_call2N h0 h1 fun W2 b0 b1 x0 x1 g2 r0 r1 Q q E => by
  exact ⟨W2, b0, b1, x0, x1, rfl, rfl, g2.z, r0, r1, WP.mono _ (fun n c h v W3 g3 hn p => h v W3 (Gw.up g2 g3) hn p) q⟩
theorem ok__law_at (F : At K mg "_law_at" s__law_at P__law_at) (G : Glb mg) (H__law_in : Has P w K mg base "_law_in" 1 P__law_in sp__law_in) : Has P w K mg base "_law_at" 2 P__law_at sp__law_at := by
  refine Has.of F sc__law_at (fun vs H Q E h => ?_) (fun f cdv A outer s H0 vs Q E hr h => ?_)
  · obtain ⟨W0, a_chart, a_spot, v_chart, v_spot, rfl, _⟩ := h
    rfl
  · obtain ⟨W0, a_chart, a_spot, v_chart, v_spot, rfl, rfl, g00, h_chart, h_spot, hm⟩ := h
    have sc := sc__law_at
    have g0 := Gw.refl g00
    unfold m__law_at at hm
    refine ⟨_, (pss_one (ps_ret (pe_and (pe_user H__law_in (hr.mono (by decide)) rfl (pa_cons (pv 0) (pa_cons (pv 1) pa_nil))) (pe_one (pe_cmpR op_eq (pe_ix ix_str (pe_ix ix_tup (pv 0) (pe_ix ix_tup (pv 1) pe_int (fun _ _ => rfl)) (fun _ _ => rfl)) (pe_ix ix_tup (pv 1) pe_int (fun _ _ => rfl)) (fun _ _ => rfl)) pe_str (nomark _)))))), ?_⟩
    refine st_ret (W := W0) (ew_andV (ev__law_in (ew_var rfl h_chart) (ew_var rfl h_spot)) (ew_eq (ew_ixS (ew_ixT (ew_var rfl h_chart) (ew_fst (ew_var rfl h_spot))) (ew_snd (ew_var rfl h_spot))) ew_str)) g0.ok hm fun r1 v_ret W1 g1 hp hm => ?_
    exact hm v_ret W1 (g0.trans g1) rfl hp
abbrev s__law_all : Stmt := top 28
abbrev N__law_all : List Str := ["chart", "found", "r", "c"]
abbrev P__law_all : List Str := ["chart"]
theorem sc__law_all : FnScope N__law_all P__law_all (defScope s__law_all) := ⟨rfl, rfl, rfl, by decide +kernel, rfl, by decide +kernel, by decide +kernel⟩
def m__law_all (a_chart : (List Str)) : WP (List Sq) := (WP.row (WP.pure ([] : List Sq))).bind fun a1_found => (WP.range1 (WP.len (WP.pure a_chart))).bind fun xs2 => WP.after (WP.loop (γ := (List Sq)) (fun c2 (y2 : (List Sq)) => (WP.range1 (WP.lenS (WP.ix (WP.pure a_chart) (WP.pure (0 : Int))))).bind fun xs3 => WP.after (WP.loop (γ := (List Sq)) (fun c3 (y3 : (List Sq)) => ((WP.pair (WP.pure c2) (WP.pure c3)).bind fun a => WP.req (y3.length < 100000) (y3 ++ [a])).bind fun a4_found => (WP.pure (.nx a4_found))) xs3 y2) (fun (z3 : (List Sq)) => (WP.pure (.nx z3))) (fun r => (WP.pure (.rt r)))) xs2 a1_found) (fun (z2 : (List Sq)) => (WP.pure z2)) (fun r => (WP.pure r))
def sp__law_all : Sp := fun vs H Q _ => ∃ (W : Wo) (a_chart : (List Str)) (v_chart : V), vs = [v_chart] ∧ W.H = H ∧ Good ef0 W ∧ Rp W a_chart v_chart ∧ (m__law_all a_chart).run W.n fun n r => ∀ v W', Gw ef0 W W' → W'.n = n → (sN (e := ef0) (kL Sq)).post W W' r v → Q v W'.H
theorem ev__law_all {e : Ef} {σ : L2.St} {W : Wo} {E : XK} {t0 : TE} {w0 : WP (List Str)} (h0 : EvW e t0 σ W sI w0) : EvW e (tCall sp__law_all [] E (tCons t0 tNil)) σ W (sN (kL Sq)) (WP.b1 w0 m__law_all) := ew_call1N h0 fun W2 b0 x0 g2 r0 Q q E => by
  exact ⟨W2, b0, x0, rfl, rfl, g2.z, r0, WP.mono _ (fun n c h v W3 g3 hn p => h v W3 (Gw.up g2 g3) hn (sN_up g2 p)) q⟩
theorem ok__law_all (F : At K mg "_law_all" s__law_all P__law_all) (G : Glb mg)  : Has P w K mg base "_law_all" 1 P__law_all sp__law_all := by
  refine Has.of F sc__law_all (fun vs H Q E h => ?_) (fun f cdv A outer s H0 vs Q E hr h => ?_)
  · obtain ⟨W0, a_chart, v_chart, rfl, _⟩ := h
    rfl
  · obtain ⟨W0, a_chart, v_chart, rfl, rfl, g00, h_chart, hm⟩ := h
    have sc := sc__law_all
    have g0 := Gw.refl g00
    unfold m__law_all at hm
    refine ⟨_, (pss_cons (ps_set (i := 1) sc.nd rfl (Or.inl rfl) (pe_lst pa_nil))
      (pss_cons (ps_for PassesOwn.never rfl (pi_range1 rfl G.range (pa_cons (pe_callB call_len_seq (by rfl) G.len PySem.boot_len (pa_cons (pv 0) pa_nil)) pa_nil)) (pg_name (i := 2) sc.nd rfl (Or.inl rfl))
      (pss_one (ps_for PassesOwn.never rfl (pi_range1 rfl G.range (pa_cons (pe_callB call_len_str (by rfl) G.len PySem.boot_len (pa_cons (pe_ix ix_tup (pv 0) pe_int (fun _ _ => rfl)) pa_nil)) pa_nil)) (pg_name (i := 3) sc.nd rfl (Or.inl rfl))
      (pss_one (ps_expr (pe_bm PySem.F.plainAttrs_list PySem.F.slot_list_append PySem.F.type_list_append mt_append (pv 1) (pa_cons (pe_tup (pa_cons (pv 2) (pa_cons (pv 3) pa_nil))) pa_nil)))))))
      (pss_one (ps_ret (pv 1))))), ?_⟩
    refine q_asg (W := W0) (ew_lst (eas_nil (α := Sq))) g0.ok hm fun a1_found v_found W1 g1 ⟨fp_found, ho0_found, hf_found⟩ hm => ?_
    have hz_found : ∀ a ∈ fp_found, W0.H a = none := fun a m => g0.live a (hf_found a m).1
    have h_chart := PyI.st g1.st h_chart
    have g0 := g0.trans g1
    have ho_found : Var (kL Sq) W0 W1 fp_found a1_found v_found := ⟨ho0_found, hz_found, fun b m => (hf_found b m).2.2⟩
    refine q_forR1 (W := W1) (ew_lenT (ew_var rfl h_chart)) g0.ok hm fun W2 g2 => ?_
    have h_chart := PyI.st g2.st h_chart
    have ho_found := ho_found.go g00 g2
    have g0 := g0.trans g2
    refine ⟨fun y σ' W' => ∃ (v_found : V) (fp_found : List Addr) (o_r : Option V) (o_c : Option V), σ' = [some v_chart, some v_found, o_r, o_c] ∧ Gw ef0 W0 W' ∧ St W2 W' ∧ Var (kL Sq) W0 W' fp_found y v_found, ⟨v_found, fp_found, _, _, rfl, g0, (St.refl _), ho_found⟩, fun c2 y2 σi s2 Wi2 R2 nx2 ht hI hm kn2 kb2 kr2 => ?_, fun z2 σi Wi2 hI hm => ?_⟩
    ·
      obtain ⟨v_found, fp_found, o_r, o_c, rfl, g0, sl2, ho_found⟩ := hI
      have h_chart := PyI.st sl2 h_chart
      obtain ⟨v_r, rfl, h_r⟩ := ht
      refine st_forR1 (W := Wi2) (ew_lenS (ew_ixT (ew_var rfl h_chart) ew_int)) g0.ok hm fun W3 g3 => ?_
      have h_chart := PyI.st g3.st h_chart
      have ho_found := ho_found.go g00 g3
      have h_r := PyI.st g3.st h_r
      have sl2 := sl2.trans g3.st
      have g0 := g0.trans g3
      refine ⟨fun y σ' W' => ∃ (v_found : V) (fp_found : List Addr) (o_c : Option V), σ' = [some v_chart, some v_found, some v_r, o_c] ∧ Gw ef0 W0 W' ∧ St W3 W' ∧ Var (kL Sq) W0 W' fp_found y v_found, ⟨v_found, fp_found, _, rfl, g0, (St.refl _), ho_found⟩, fun c3 y3 σi s2 Wi3 R3 nx3 ht hI hm kn3 kb3 kr3 => ?_, fun z3 σi Wi3 hI hm => ?_⟩
      ·
        obtain ⟨v_found, fp_found, o_c, rfl, g0, sl3, ho_found⟩ := hI
        have h_chart := PyI.st sl3 h_chart
        have h_r := PyI.st sl3 h_r
        have sl2 := sl2.trans sl3
        obtain ⟨v_c, rfl, h_c⟩ := ht
        refine st_app (W := Wi3) g00 g0 rfl ho_found (ew_pair (ew_var rfl h_r) (ew_var rfl h_c)) hm fun a4_found W4_ W4 l_found el_found g4 s g02 kk ff ho_found hm => ?_
        have h_chart := PyI.st g4.st h_chart
        have h_r := PyI.st g4.st h_r
        have h_c := PyI.st g4.st h_c
        have sl2 := sl2.trans g4.st
        have sl3 := sl3.trans g4.st
        have g0 := g0.trans g4
        have h_chart := PyI.st s h_chart
        have h_r := PyI.st s h_r
        have h_c := PyI.st s h_c
        have sl2 := sl2.trans s
        have sl3 := sl3.trans s
        have g0 := g02
        exact kn3 a4_found _ W4 ⟨v_found, fp_found, _, rfl, g0, sl3, ho_found⟩ hm
      ·
        obtain ⟨v_found, fp_found, o_c, rfl, g0, sl3, ho_found⟩ := hI
        have h_chart := PyI.st sl3 h_chart
        have h_r := PyI.st sl3 h_r
        have sl2 := sl2.trans sl3
        exact kn2 z3 _ Wi3 ⟨v_found, fp_found, _, _, rfl, g0, sl2, ho_found⟩ hm
    ·
      obtain ⟨v_found, fp_found, o_r, o_c, rfl, g0, sl2, ho_found⟩ := hI
      have h_chart := PyI.st sl2 h_chart
      exact ⟨_, rfl, hm _ Wi2 g0 rfl ⟨fp_found, ho_found.own, fun b m => ⟨ho_found.fr b m, Var.nS g00 ho_found b m, ho_found.nF b m⟩⟩⟩
abbrev s__law_dry : Stmt := top 29
abbrev N__law_dry : List Str := ["chart", "spot"]
abbrev P__law_dry : List Str := ["chart"]
theorem sc__law_dry : FnScope N__law_dry P__law_dry (defScope s__law_dry) := ⟨rfl, rfl, rfl, by decide +kernel, rfl, by decide +kernel, by decide +kernel⟩
def m__law_dry (a_chart : (List Str)) : WP (List Sq) := (WP.lc (WP.b1 (WP.pure a_chart) m__law_all) (fun c1 => (WP.b2 (WP.pure a_chart) (WP.pure c1) m__law_at)) (fun c1 => (WP.pure c1))).bind fun r1 => (WP.pure r1)
def sp__law_dry : Sp := fun vs H Q _ => ∃ (W : Wo) (a_chart : (List Str)) (v_chart : V), vs = [v_chart] ∧ W.H = H ∧ Good ef0 W ∧ Rp W a_chart v_chart ∧ (m__law_dry a_chart).run W.n fun n r => ∀ v W', Gw ef0 W W' → W'.n = n → (sN (e := ef0) (kL Sq)).post W W' r v → Q v W'.H
theorem ev__law_dry {e : Ef} {σ : L2.St} {W : Wo} {E : XK} {t0 : TE} {w0 : WP (List Str)} (h0 : EvW e t0 σ W sI w0) : EvW e (tCall sp__law_dry [] E (tCons t0 tNil)) σ W (sN (kL Sq)) (WP.b1 w0 m__law_dry) := ew_call1N h0 fun W2 b0 x0 g2 r0 Q q E => by
  exact ⟨W2, b0, x0, rfl, rfl, g2.z, r0, WP.mono _ (fun n c h v W3 g3 hn p => h v W3 (Gw.up g2 g3) hn (sN_up g2 p)) q⟩
theorem ok__law_dry (F : At K mg "_law_dry" s__law_dry P__law_dry) (G : Glb mg) (H__law_all : Has P w K mg base "_law_all" 1 P__law_all sp__law_all) (H__law_at : Has P w K mg base "_law_at" 2 P__law_at sp__law_at) : Has P w K mg base "_law_dry" 3 P__law_dry sp__law_dry := by
  refine Has.of F sc__law_dry (fun vs H Q E h => ?_) (fun f cdv A outer s H0 vs Q E hr h => ?_)
  · obtain ⟨W0, a_chart, v_chart, rfl, _⟩ := h
    rfl
  · obtain ⟨W0, a_chart, v_chart, rfl, rfl, g00, h_chart, hm⟩ := h
    have sc := sc__law_dry
    have g0 := Gw.refl g00
    unfold m__law_dry at hm
    refine ⟨_, (pss_one (ps_ret (pe_lc (own := [("spot", 1)]) (g := gName 1) rfl sc.nd (pi_list (pe_user H__law_all (hr.mono (by decide)) rfl (pa_cons (pv 0) pa_nil))) (blkOk_by (N := N__law_dry) (sc := defScope s__law_dry) (by decide +kernel)) (fun _ _ _ _ _ => (pg_name (i := 1) sc.nd rfl (Or.inl rfl))) (fun _ _ _ _ _ => (pts_one (pt_val (pe_user H__law_at (hr.mono (by decide)) rfl (pa_cons (pv 0) (pa_cons (pv 1) pa_nil)))))) (fun _ _ _ _ _ => (pv 1))))), ?_⟩
    refine st_ret (W := W0) (ew_lcL (ew_rd (ev__law_all (ew_var rfl h_chart))) takes_N (fun _ _ _ h => by obtain ⟨v_spot, ec, h_spot⟩ := h; subst ec; rfl) (fun c1 Wc1 s2 gc1 h => by obtain ⟨v_spot, ec, h_spot⟩ := h; subst ec; have h_chart := PyI.st gc1.st h_chart; exact (et_B (ev__law_at (ew_var rfl h_chart) (ew_var rfl h_spot)))) (fun c1 Wc1 s2 gc1 h => by obtain ⟨v_spot, ec, h_spot⟩ := h; subst ec; have h_chart := PyI.st gc1.st h_chart; exact (ew_var rfl h_spot))) g0.ok hm fun r1 v_ret W1 g1 hp hm => ?_
    exact hm v_ret W1 (g0.trans g1) rfl ((sN (kL Sq)).back g0 hp)
abbrev s__law_set : Stmt := top 30
abbrev N__law_set : List Str := ["chart", "spot", "sign", "r", "c"]
abbrev P__law_set : List Str := ["chart", "spot", "sign"]
theorem sc__law_set : FnScope N__law_set P__law_set (defScope s__law_set) := ⟨rfl, rfl, rfl, by decide +kernel, rfl, by decide +kernel, by decide +kernel⟩
def m__law_set (a_chart : (List Str)) (a_spot : Sq) (a_sign : Str) : WP (List Str) := (WP.pure a_spot).bind fun a1_r_c => (WP.cat (WP.cat (WP.cut (WP.pure a_chart) (WP.pure none) ((WP.pure a1_r_c.1).bind fun x => WP.pure (some x))) (WP.row (WP.consE (WP.catS (WP.catS (WP.cutS' (WP.ix (WP.pure a_chart) (WP.pure a1_r_c.1)) (WP.pure none) ((WP.pure a1_r_c.2).bind fun x => WP.pure (some x))) (WP.pure a_sign)) (WP.cutS' (WP.ix (WP.pure a_chart) (WP.pure a1_r_c.1)) ((WP.add (WP.pure a1_r_c.2) (WP.pure (1 : Int))).bind fun x => WP.pure (some x)) (WP.pure none))) (WP.pure [])))) (WP.cut (WP.pure a_chart) ((WP.add (WP.pure a1_r_c.1) (WP.pure (1 : Int))).bind fun x => WP.pure (some x)) (WP.pure none))).bind fun r2 => (WP.pure r2)
def sp__law_set : Sp := fun vs H Q _ => ∃ (W : Wo) (a_chart : (List Str)) (a_spot : Sq) (a_sign : Str) (v_chart v_spot v_sign : V), vs = [v_chart, v_spot, v_sign] ∧ W.H = H ∧ Good ef0 W ∧ Rp W a_chart v_chart ∧ Rp W a_spot v_spot ∧ Rp W a_sign v_sign ∧ (m__law_set a_chart a_spot a_sign).run W.n fun n r => ∀ v W', Gw ef0 W W' → W'.n = n → (sI (e := ef0) (α := (List Str))).post W W' r v → Q v W'.H
theorem ev__law_set {e : Ef} {σ : L2.St} {W : Wo} {E : XK} {t0 t1 t2 : TE} {w0 : WP (List Str)} {w1 : WP Sq} {w2 : WP Str} (h0 : EvW e t0 σ W sI w0) (h1 : EvW e t1 σ W sI w1) (h2 : EvW e t2 σ W sI w2) : EvW e (tCall sp__law_set [] E (tCons t0 (tCons t1 (tCons t2 tNil)))) σ W (sI (α := (List Str))) (WP.b3 w0 w1 w2 m__law_set) := ew_call3N h0 h1 h2 fun W2 b0 b1 b2 x0 x1 x2 g2 r0 r1 r2 Q q E => by
  exact ⟨W2, b0, b1, b2, x0, x1, x2, rfl, rfl, g2.z, r0, r1, r2, WP.mono _ (fun n c h v W3 g3 hn p => h v W3 (Gw.up g2 g3) hn p) q⟩
theorem ok__law_set (F : At K mg "_law_set" s__law_set P__law_set) (G : Glb mg)  : Has P w K mg base "_law_set" 1 P__law_set sp__law_set := by
  refine Has.of F sc__law_set (fun vs H Q E h => ?_) (fun f cdv A outer s H0 vs Q E hr h => ?_)
  · obtain ⟨W0, a_chart, a_spot, a_sign, v_chart, v_spot, v_sign, rfl, _⟩ := h
    rfl
  · obtain ⟨W0, a_chart, a_spot, a_sign, v_chart, v_spot, v_sign, rfl, rfl, g00, h_chart, h_spot, h_sign, hm⟩ := h
    have sc := sc__law_set
    have g0 := Gw.refl g00
    unfold m__law_set at hm
    refine ⟨_, (pss_cons (ps_asg (pv 1) (pg_tup rfl (pgs_cons (pg_name (i := 3) sc.nd rfl (Or.inl rfl)) (pgs_cons (pg_name (i := 4) sc.nd rfl (Or.inl rfl)) pgs_nil))))
      (pss_one (ps_ret (pe_op op_catA (pe_op op_catA (pe_slice sl_tupA (pv 0) po_none (po_some (pv 3))) (pe_tup (pa_cons (pe_op op_add_str (pe_op op_add_str (pe_slice sl_str (pe_ix ix_tup (pv 0) (pv 3) (fun _ _ => rfl)) po_none (po_some (pv 4))) (pv 2)) (pe_slice sl_str (pe_ix ix_tup (pv 0) (pv 3) (fun _ _ => rfl)) (po_some (pe_op op_add (pv 4) pe_int)) po_none)) pa_nil))) (pe_slice sl_tupA (pv 0) (po_some (pe_op op_add (pv 3) pe_int)) po_none))))), ?_⟩
    refine q_un2 (W := W0) (ew_var rfl h_spot) g0.ok hm fun a1_r_c v_r v_c W1 g1 h_r h_c hm => ?_
    have h_chart := PyI.st g1.st h_chart
    have h_spot := PyI.st g1.st h_spot
    have h_sign := PyI.st g1.st h_sign
    have g0 := g0.trans g1
    refine st_ret (W := W1) (ew_catA (ew_catA (ew_slA (ew_var rfl h_chart) eo_none (eo_some (ew_var rfl h_r))) (ew_tup (eas_cons (ew_catS (ew_catS (ew_slS (ew_ixT (ew_var rfl h_chart) (ew_var rfl h_r)) eo_none (eo_some (ew_var rfl h_c))) (ew_var rfl h_sign)) (ew_slS (ew_ixT (ew_var rfl h_chart) (ew_var rfl h_r)) (eo_some (ew_add (ew_var rfl h_c) ew_int)) eo_none)) eas_nil))) (ew_slA (ew_var rfl h_chart) (eo_some (ew_add (ew_var rfl h_r) ew_int)) eo_none)) g0.ok hm fun r2 v_ret W2 g2 hp hm => ?_
    exact hm v_ret W2 (g0.trans g2) rfl hp
abbrev s__law_sides : Stmt := top 31
abbrev N__law_sides : List Str := ["spot", "r", "c"]
abbrev P__law_sides : List Str := ["spot"]
theorem sc__law_sides : FnScope N__law_sides P__law_sides (defScope s__law_sides) := ⟨rfl, rfl, rfl, by decide +kernel, rfl, by decide +kernel, by decide +kernel⟩
def m__law_sides (a_spot : Sq) : WP (List Sq) := (WP.pure a_spot).bind fun a1_r_c => (WP.row (WP.consE (WP.pair (WP.sub (WP.pure a1_r_c.1) (WP.pure (1 : Int))) (WP.pure a1_r_c.2)) (WP.consE (WP.pair (WP.pure a1_r_c.1) (WP.sub (WP.pure a1_r_c.2) (WP.pure (1 : Int)))) (WP.consE (WP.pair (WP.pure a1_r_c.1) (WP.add (WP.pure a1_r_c.2) (WP.pure (1 : Int)))) (WP.consE (WP.pair (WP.add (WP.pure a1_r_c.1) (WP.pure (1 : Int))) (WP.pure a1_r_c.2)) (WP.pure ([] : List Sq))))))).bind fun r2 => (WP.pure r2)
def sp__law_sides : Sp := fun vs H Q _ => ∃ (W : Wo) (a_spot : Sq) (v_spot : V), vs = [v_spot] ∧ W.H = H ∧ Good ef0 W ∧ Rp W a_spot v_spot ∧ (m__law_sides a_spot).run W.n fun n r => ∀ v W', Gw ef0 W W' → W'.n = n → (sN (e := ef0) (kL Sq)).post W W' r v → Q v W'.H
theorem ev__law_sides {e : Ef} {σ : L2.St} {W : Wo} {E : XK} {t0 : TE} {w0 : WP Sq} (h0 : EvW e t0 σ W sI w0) : EvW e (tCall sp__law_sides [] E (tCons t0 tNil)) σ W (sN (kL Sq)) (WP.b1 w0 m__law_sides) := ew_call1N h0 fun W2 b0 x0 g2 r0 Q q E => by
  exact ⟨W2, b0, x0, rfl, rfl, g2.z, r0, WP.mono _ (fun n c h v W3 g3 hn p => h v W3 (Gw.up g2 g3) hn (sN_up g2 p)) q⟩
theorem ok__law_sides (F : At K mg "_law_sides" s__law_sides P__law_sides) (G : Glb mg)  : Has P w K mg base "_law_sides" 1 P__law_sides sp__law_sides := by
  refine Has.of F sc__law_sides (fun vs H Q E h => ?_) (fun f cdv A outer s H0 vs Q E hr h => ?_)
  · obtain ⟨W0, a_spot, v_spot, rfl, _⟩ := h
    rfl
  · obtain ⟨W0, a_spot, v_spot, rfl, rfl, g00, h_spot, hm⟩ := h
    have sc := sc__law_sides
    have g0 := Gw.refl g00
    unfold m__law_sides at hm
    refine ⟨_, (pss_cons (ps_asg (pv 0) (pg_tup rfl (pgs_cons (pg_name (i := 1) sc.nd rfl (Or.inl rfl)) (pgs_cons (pg_name (i := 2) sc.nd rfl (Or.inl rfl)) pgs_nil))))
      (pss_one (ps_ret (pe_lst (pa_cons (pe_tup (pa_cons (pe_op op_sub (pv 1) pe_int) (pa_cons (pv 2) pa_nil))) (pa_cons (pe_tup (pa_cons (pv 1) (pa_cons (pe_op op_sub (pv 2) pe_int) pa_nil))) (pa_cons (pe_tup (pa_cons (pv 1) (pa_cons (pe_op op_add (pv 2) pe_int) pa_nil))) (pa_cons (pe_tup (pa_cons (pe_op op_add (pv 1) pe_int) (pa_cons (pv 2) pa_nil))) pa_nil)))))))), ?_⟩
    refine q_un2 (W := W0) (ew_var rfl h_spot) g0.ok hm fun a1_r_c v_r v_c W1 g1 h_r h_c hm => ?_
    have h_spot := PyI.st g1.st h_spot
    have g0 := g0.trans g1
    refine st_ret (W := W1) (ew_lst (eas_cons (ew_pair (ew_sub (ew_var rfl h_r) ew_int) (ew_var rfl h_c)) (eas_cons (ew_pair (ew_var rfl h_r) (ew_sub (ew_var rfl h_c) ew_int)) (eas_cons (ew_pair (ew_var rfl h_r) (ew_add (ew_var rfl h_c) ew_int)) (eas_cons (ew_pair (ew_add (ew_var rfl h_r) ew_int) (ew_var rfl h_c)) (eas_nil (α := Sq))))))) g0.ok hm fun r2 v_ret W2 g2 hp hm => ?_
    exact hm v_ret W2 (g0.trans g2) rfl ((sN (kL Sq)).back g0 hp)
abbrev s__law_moist : Stmt := top 32
abbrev N__law_moist : List Str := ["deal", "rows", "columns", "chart", "k", "c", "turn", "r"]
abbrev P__law_moist : List Str := ["deal", "rows", "columns"]
theorem sc__law_moist : FnScope N__law_moist P__law_moist (defScope s__law_moist) := ⟨rfl, rfl, rfl, by decide +kernel, rfl, by decide +kernel, by decide +kernel⟩
def m__law_moist (_ : Unit) (a_rows : Int) (a_columns : Int) : WP (List Str) := ((WP.lc (WP.range1 (WP.pure a_rows)) (fun c1 => (WP.pure true)) (fun c1 => (WP.mulS (WP.pure (Str.ofString "x")) (WP.pure a_columns)))).bind fun xs => WP.pure (α := List _) xs).bind fun a1_chart => (WP.eq (WP.b2 (WP.pure ()) (WP.pure (3 : Int)) m_take) (WP.pure (0 : Int))).bind fun b => WP.cond b ((WP.range1 (WP.sub (WP.min2 (WP.pure a_rows) (WP.pure a_columns)) (WP.b2 (WP.pure ()) (WP.pure (2 : Int)) m_take))).bind fun xs3 => WP.after (WP.loop (γ := (List Str)) (fun c3 (y3 : (List Str)) => (WP.ix (WP.row (WP.consE (WP.pure c3) (WP.consE (WP.sub (WP.sub (WP.pure a_columns) (WP.pure (1 : Int))) (WP.pure c3)) (WP.pure ([] : List Int))))) (WP.b2 (WP.pure ()) (WP.pure (2 : Int)) m_take)).bind fun a4_c => (WP.b3 (WP.pure y3) (WP.pair (WP.pure c3) (WP.pure a4_c)) (WP.pure (Str.ofString ".")) m__law_set).bind fun a5_chart => (WP.pure (.nx a5_chart))) xs3 a1_chart) (fun (z3 : (List Str)) => (WP.pure z3).bind fun r6 => (WP.pure r6)) (fun r => (WP.pure r))) ((WP.range1 (WP.b2 (WP.pure ()) (WP.pure (7 : Int)) m_take)).bind fun xs7 => WP.after (WP.loop (γ := (List Str)) (fun c7 (y7 : (List Str)) => (WP.b3 (WP.pure y7) (WP.pair (WP.b2 (WP.pure ()) (WP.pure a_rows) m_take) (WP.b2 (WP.pure ()) (WP.pure a_columns) m_take)) (WP.pure (Str.ofString ".")) m__law_set).bind fun a8_chart => (WP.pure (.nx a8_chart))) xs7 a1_chart) (fun (z7 : (List Str)) => (WP.pure z7).bind fun r9 => (WP.pure r9)) (fun r => (WP.pure r)))
def sp__law_moist : Sp := fun vs H Q _ => ∃ (d : Dl) (W : Wo) (a_rows : Int) (a_columns : Int) (v_rows v_columns : V), vs = [.ref d.p, v_rows, v_columns] ∧ W.H = H ∧ Good (efD d) W ∧ Rp W a_rows v_rows ∧ Rp W a_columns v_columns ∧ (m__law_moist () a_rows a_columns).run W.n fun n r => ∀ v W', Gw (efD d) W W' → W'.n = n → (sI (e := (efD d)) (α := (List Str))).post W W' r v → Q v W'.H
theorem ev__law_moist {d : Dl} {σ : L2.St} {W : Wo} {E : XK} {t0 t1 t2 : TE} {w0 : WP Unit} {w1 : WP Int} {w2 : WP Int} (h0 : EvW (efD d) t0 σ W (sD d) w0) (h1 : EvW (efD d) t1 σ W sI w1) (h2 : EvW (efD d) t2 σ W sI w2) : EvW (efD d) (tCall sp__law_moist [] E (tCons t0 (tCons t1 (tCons t2 tNil)))) σ W (sI (α := (List Str))) (WP.b3 w0 w1 w2 m__law_moist) := ew_call3N h0 h1 h2 fun W2 b0 b1 b2 x0 x1 x2 g2 r0 r1 r2 Q q E => by
  cases r0
  exact ⟨d, W2, b1, b2, x1, x2, rfl, rfl, g2, r1, r2, WP.mono _ (fun n c h v W3 g3 hn p => h v W3 g3 hn p) q⟩
theorem ok__law_moist (F : At K mg "_law_moist" s__law_moist P__law_moist) (G : Glb mg) (H__law_set : Has P w K mg base "_law_set" 1 P__law_set sp__law_set) (H__law_take : Has P w K mg base "_law_take" 1 P__law_take sp_take) : Has P w K mg base "_law_moist" 2 P__law_moist sp__law_moist := by
  refine Has.of F sc__law_moist (fun vs H Q E h => ?_) (fun f cdv A outer s H0 vs Q E hr h => ?_)
  · obtain ⟨d, W0, a_rows, a_columns, v_rows, v_columns, rfl, _⟩ := h
    rfl
  · obtain ⟨d, W0, a_rows, a_columns, v_rows, v_columns, rfl, rfl, g00, h_rows, h_columns, hm⟩ := h
    have sc := sc__law_moist
    have g0 := Gw.refl g00
    unfold m__law_moist at hm
    refine ⟨_, (pss_cons (ps_set (i := 3) sc.nd rfl (Or.inl rfl) (pe_callTy call_tuple_of (by rfl) G.tuple (by decide +kernel) (pa_cons (pe_lc (own := [("r", 7)]) (g := gName 7) (tt := tYes) rfl sc.nd (pi_range1 rfl G.range (pa_cons (pv 1) pa_nil)) (blkOk_by (N := N__law_moist) (sc := defScope s__law_moist) (by decide +kernel)) (fun _ _ _ _ _ => (pg_name (i := 7) sc.nd rfl (Or.inl rfl))) (fun _ _ _ _ _ => pts_nil) (fun _ _ _ _ _ => (pe_op op_mulS pe_str (pv 2)))) pa_nil)))
      (pss_cons (ps_if (pt_cmpR op_eq (pe_user H__law_take (hr.mono (by decide)) rfl (pa_cons (pv 0) (pa_cons pe_int pa_nil))) pe_int (nomark _)) (pss_cons (ps_for PassesOwn.never rfl (pi_range1 rfl G.range (pa_cons (pe_op op_sub (pe_callB (call_min2 rfl) (by rfl) G.min (by decide +kernel) (pa_cons (pv 1) (pa_cons (pv 2) pa_nil))) (pe_user H__law_take (hr.mono (by decide)) rfl (pa_cons (pv 0) (pa_cons pe_int pa_nil)))) pa_nil)) (pg_name (i := 4) sc.nd rfl (Or.inl rfl))
      (pss_cons (ps_set (i := 5) sc.nd rfl (Or.inl rfl) (pe_ix ix_list (pe_lst (pa_cons (pv 4) (pa_cons (pe_op op_sub (pe_op op_sub (pv 2) pe_int) (pv 4)) pa_nil))) (pe_user H__law_take (hr.mono (by decide)) rfl (pa_cons (pv 0) (pa_cons pe_int pa_nil))) (fun _ _ => rfl)))
      (pss_one (ps_set (i := 3) sc.nd rfl (Or.inl rfl) (pe_user H__law_set (hr.mono (by decide)) rfl (pa_cons (pv 3) (pa_cons (pe_tup (pa_cons (pv 4) (pa_cons (pv 5) pa_nil))) (pa_cons pe_str pa_nil))))))))
      (pss_one (ps_ret (pv 3)))) pss_nil)
      (pss_cons (ps_for PassesOwn.never rfl (pi_range1 rfl G.range (pa_cons (pe_user H__law_take (hr.mono (by decide)) rfl (pa_cons (pv 0) (pa_cons pe_int pa_nil))) pa_nil)) (pg_name (i := 6) sc.nd rfl (Or.inl rfl))
      (pss_one (ps_set (i := 3) sc.nd rfl (Or.inl rfl) (pe_user H__law_set (hr.mono (by decide)) rfl (pa_cons (pv 3) (pa_cons (pe_tup (pa_cons (pe_user H__law_take (hr.mono (by decide)) rfl (pa_cons (pv 0) (pa_cons (pv 1) pa_nil))) (pa_cons (pe_user H__law_take (hr.mono (by decide)) rfl (pa_cons (pv 0) (pa_cons (pv 2) pa_nil))) pa_nil))) (pa_cons pe_str pa_nil)))))))
      (pss_one (ps_ret (pv 3)))))), ?_⟩
    refine q_asg (W := W0) (ew_tuple (ew_rd (ew_lcR (ew_var rfl h_rows) takes_N (fun _ _ _ h => by obtain ⟨v_r, ec, h_r⟩ := h; subst ec; rfl) (fun c1 Wc1 s2 gc1 h => by obtain ⟨v_r, ec, h_r⟩ := h; subst ec; have h_rows := PyI.st gc1.st h_rows; have h_columns := PyI.st gc1.st h_columns; exact et_yes) (fun c1 Wc1 s2 gc1 h => by obtain ⟨v_r, ec, h_r⟩ := h; subst ec; have h_rows := PyI.st gc1.st h_rows; have h_columns := PyI.st gc1.st h_columns; exact (ew_mulS ew_str (ew_var rfl h_columns)))))) g0.ok hm fun a1_chart v_chart W1 g1 h_chart hm => ?_
    have h_rows := PyI.st g1.st h_rows
    have h_columns := PyI.st g1.st h_columns
    have g0 := g0.trans g1
    refine q_if (W := W1) (et_t (ew_eq (ev_take (ew_deal rfl) ew_int) ew_int)) g0.ok hm (fun W2 g2 hm => ?_) (fun W2 g2 hm => ?_)
    ·
      have h_rows := PyI.st g2.st h_rows
      have h_columns := PyI.st g2.st h_columns
      have h_chart := PyI.st g2.st h_chart
      have g0 := g0.trans g2
      refine q_forR1 (W := W2) (ew_sub (ew_min2 (ew_var rfl h_rows) (ew_var rfl h_columns)) (ev_take (ew_deal rfl) ew_int)) g0.ok hm fun W3 g3 => ?_
      have h_rows := PyI.st g3.st h_rows
      have h_columns := PyI.st g3.st h_columns
      have h_chart := PyI.st g3.st h_chart
      have g0 := g0.trans g3
      refine ⟨fun y σ' W' => ∃ (v_chart : V) (o_k : Option V) (o_c : Option V), σ' = [some (.ref d.p), some v_rows, some v_columns, some v_chart, o_k, o_c, none, none] ∧ Gw (efD d) W0 W' ∧ St W3 W' ∧ Rp W' y v_chart, ⟨v_chart, _, _, rfl, g0, (St.refl _), h_chart⟩, fun c3 y3 σi s2 Wi3 R3 nx3 ht hI hm kn3 kb3 kr3 => ?_, fun z3 σi Wi3 hI hm => ?_⟩
      ·
        obtain ⟨v_chart, o_k, o_c, rfl, g0, sl3, h_chart⟩ := hI
        have h_rows := PyI.st sl3 h_rows
        have h_columns := PyI.st sl3 h_columns
        obtain ⟨v_k, rfl, h_k⟩ := ht
        refine q_asg (W := Wi3) (ew_ixL (ew_rd (ew_lst (eas_cons (ew_var rfl h_k) (eas_cons (ew_sub (ew_sub (ew_var rfl h_columns) ew_int) (ew_var rfl h_k)) (eas_nil (α := Int)))))) (ev_take (ew_deal rfl) ew_int)) g0.ok hm fun a4_c v_c W4 g4 h_c hm => ?_
        have h_rows := PyI.st g4.st h_rows
        have h_columns := PyI.st g4.st h_columns
        have h_chart := PyI.st g4.st h_chart
        have h_k := PyI.st g4.st h_k
        have sl3 := sl3.trans g4.st
        have g0 := g0.trans g4
        refine st_asg (W := W4) (ev__law_set (ew_var rfl h_chart) (ew_pair (ew_var rfl h_k) (ew_var rfl h_c)) ew_str) g0.ok hm fun a5_chart v_chart W5 g5 h_chart hm => ?_
        have h_rows := PyI.st g5.st h_rows
        have h_columns := PyI.st g5.st h_columns
        have h_k := PyI.st g5.st h_k
        have h_c := PyI.st g5.st h_c
        have sl3 := sl3.trans g5.st
        have g0 := g0.trans g5
        exact kn3 a5_chart _ W5 ⟨v_chart, _, _, rfl, g0, sl3, h_chart⟩ hm
      ·
        obtain ⟨v_chart, o_k, o_c, rfl, g0, sl3, h_chart⟩ := hI
        have h_rows := PyI.st sl3 h_rows
        have h_columns := PyI.st sl3 h_columns
        refine st_ret (W := Wi3) (ew_var rfl h_chart) g0.ok hm fun r6 v_ret W6 g6 hp hm => ?_
        exact hm v_ret W6 (g0.trans g6) rfl hp
    ·
      have h_rows := PyI.st g2.st h_rows
      have h_columns := PyI.st g2.st h_columns
      have h_chart := PyI.st g2.st h_chart
      have g0 := g0.trans g2
      refine st_next ?_
      refine q_forR1 (W := W2) (ev_take (ew_deal rfl) ew_int) g0.ok hm fun W7 g7 => ?_
      have h_rows := PyI.st g7.st h_rows
      have h_columns := PyI.st g7.st h_columns
      have h_chart := PyI.st g7.st h_chart
      have g0 := g0.trans g7
      refine ⟨fun y σ' W' => ∃ (v_chart : V) (o_turn : Option V), σ' = [some (.ref d.p), some v_rows, some v_columns, some v_chart, none, none, o_turn, none] ∧ Gw (efD d) W0 W' ∧ St W7 W' ∧ Rp W' y v_chart, ⟨v_chart, _, rfl, g0, (St.refl _), h_chart⟩, fun c7 y7 σi s2 Wi7 R7 nx7 ht hI hm kn7 kb7 kr7 => ?_, fun z7 σi Wi7 hI hm => ?_⟩
      ·
        obtain ⟨v_chart, o_turn, rfl, g0, sl7, h_chart⟩ := hI
        have h_rows := PyI.st sl7 h_rows
        have h_columns := PyI.st sl7 h_columns
        obtain ⟨v_turn, rfl, h_turn⟩ := ht
        refine st_asg (W := Wi7) (ev__law_set (ew_var rfl h_chart) (ew_pair (ev_take (ew_deal rfl) (ew_var rfl h_rows)) (ev_take (ew_deal rfl) (ew_var rfl h_columns))) ew_str) g0.ok hm fun a8_chart v_chart W8 g8 h_chart hm => ?_
        have h_rows := PyI.st g8.st h_rows
        have h_columns := PyI.st g8.st h_columns
        have h_turn := PyI.st g8.st h_turn
        have sl7 := sl7.trans g8.st
        have g0 := g0.trans g8
        exact kn7 a8_chart _ W8 ⟨v_chart, _, rfl, g0, sl7, h_chart⟩ hm
      ·
        obtain ⟨v_chart, o_turn, rfl, g0, sl7, h_chart⟩ := hI
        have h_rows := PyI.st sl7 h_rows
        have h_columns := PyI.st sl7 h_columns
        refine st_ret (W := Wi7) (ew_var rfl h_chart) g0.ok hm fun r9 v_ret W9 g9 hp hm => ?_
        exact hm v_ret W9 (g0.trans g9) rfl hp
abbrev s__law_chart : Stmt := top 33
abbrev N__law_chart : List Str := ["deal", "rows", "columns"]
abbrev P__law_chart : List Str := ["deal", "rows", "columns"]
theorem sc__law_chart : FnScope N__law_chart P__law_chart (defScope s__law_chart) := ⟨rfl, rfl, rfl, by decide +kernel, rfl, by decide +kernel, by decide +kernel⟩
def m__law_chart (_ : Unit) (a_rows : Int) (a_columns : Int) : WP (List Str) := (WP.eq (WP.b2 (WP.pure ()) (WP.pure (3 : Int)) m_take) (WP.pure (0 : Int))).bind fun b => WP.cond b ((WP.b3 (WP.pure ()) (WP.pure a_rows) (WP.pure a_columns) m__law_grid).bind fun r2 => (WP.pure r2)) ((WP.b3 (WP.pure ()) (WP.pure a_rows) (WP.pure a_columns) m__law_moist).bind fun r3 => (WP.pure r3))
def sp__law_chart : Sp := fun vs H Q _ => ∃ (d : Dl) (W : Wo) (a_rows : Int) (a_columns : Int) (v_rows v_columns : V), vs = [.ref d.p, v_rows, v_columns] ∧ W.H = H ∧ Good (efD d) W ∧ Rp W a_rows v_rows ∧ Rp W a_columns v_columns ∧ (m__law_chart () a_rows a_columns).run W.n fun n r => ∀ v W', Gw (efD d) W W' → W'.n = n → (sI (e := (efD d)) (α := (List Str))).post W W' r v → Q v W'.H
theorem ev__law_chart {d : Dl} {σ : L2.St} {W : Wo} {E : XK} {t0 t1 t2 : TE} {w0 : WP Unit} {w1 : WP Int} {w2 : WP Int} (h0 : EvW (efD d) t0 σ W (sD d) w0) (h1 : EvW (efD d) t1 σ W sI w1) (h2 : EvW (efD d) t2 σ W sI w2) : EvW (efD d) (tCall sp__law_chart [] E (tCons t0 (tCons t1 (tCons t2 tNil)))) σ W (sI (α := (List Str))) (WP.b3 w0 w1 w2 m__law_chart) := ew_call3N h0 h1 h2 fun W2 b0 b1 b2 x0 x1 x2 g2 r0 r1 r2 Q q E => by
  cases r0
  exact ⟨d, W2, b1, b2, x1, x2, rfl, rfl, g2, r1, r2, WP.mono _ (fun n c h v W3 g3 hn p => h v W3 g3 hn p) q⟩
theorem ok__law_chart (F : At K mg "_law_chart" s__law_chart P__law_chart) (G : Glb mg) (H__law_grid : Has P w K mg base "_law_grid" 2 P__law_grid sp__law_grid) (H__law_moist : Has P w K mg base "_law_moist" 2 P__law_moist sp__law_moist) (H__law_take : Has P w K mg base "_law_take" 1 P__law_take sp_take) : Has P w K mg base "_law_chart" 3 P__law_chart sp__law_chart := by
  refine Has.of F sc__law_chart (fun vs H Q E h => ?_) (fun f cdv A outer s H0 vs Q E hr h => ?_)
  · obtain ⟨d, W0, a_rows, a_columns, v_rows, v_columns, rfl, _⟩ := h
    rfl
  · obtain ⟨d, W0, a_rows, a_columns, v_rows, v_columns, rfl, rfl, g00, h_rows, h_columns, hm⟩ := h
    have sc := sc__law_chart
    have g0 := Gw.refl g00
    unfold m__law_chart at hm
    refine ⟨_, (pss_cons (ps_if (pt_cmpR op_eq (pe_user H__law_take (hr.mono (by decide)) rfl (pa_cons (pv 0) (pa_cons pe_int pa_nil))) pe_int (nomark _)) (pss_one (ps_ret (pe_user H__law_grid (hr.mono (by decide)) rfl (pa_cons (pv 0) (pa_cons (pv 1) (pa_cons (pv 2) pa_nil)))))) pss_nil)
      (pss_one (ps_ret (pe_user H__law_moist (hr.mono (by decide)) rfl (pa_cons (pv 0) (pa_cons (pv 1) (pa_cons (pv 2) pa_nil))))))), ?_⟩
    refine q_if (W := W0) (et_t (ew_eq (ev_take (ew_deal rfl) ew_int) ew_int)) g0.ok hm (fun W1 g1 hm => ?_) (fun W1 g1 hm => ?_)
    ·
      have h_rows := PyI.st g1.st h_rows
      have h_columns := PyI.st g1.st h_columns
      have g0 := g0.trans g1
      refine st_ret (W := W1) (ev__law_grid (ew_deal rfl) (ew_var rfl h_rows) (ew_var rfl h_columns)) g0.ok hm fun r2 v_ret W2 g2 hp hm => ?_
      exact hm v_ret W2 (g0.trans g2) rfl hp
    ·
      have h_rows := PyI.st g1.st h_rows
      have h_columns := PyI.st g1.st h_columns
      have g0 := g0.trans g1
      refine st_next ?_
      refine st_ret (W := W1) (ev__law_moist (ew_deal rfl) (ew_var rfl h_rows) (ew_var rfl h_columns)) g0.ok hm fun r3 v_ret W3 g3 hp hm => ?_
      exact hm v_ret W3 (g0.trans g3) rfl hp
abbrev s__law_beside : Stmt := top 34
abbrev N__law_beside : List Str := ["chart", "spot", "other"]
abbrev P__law_beside : List Str := ["chart", "spot"]
theorem sc__law_beside : FnScope N__law_beside P__law_beside (defScope s__law_beside) := ⟨rfl, rfl, rfl, by decide +kernel, rfl, by decide +kernel, by decide +kernel⟩
def m__law_beside (a_chart : (List Str)) (a_spot : Sq) : WP Int := (WP.len (WP.lc (WP.b1 (WP.pure a_spot) m__law_sides) (fun c1 => (WP.and (WP.b2 (WP.pure a_chart) (WP.pure c1) m__law_in) (WP.not (WP.b2 (WP.pure a_chart) (WP.pure c1) m__law_at)))) (fun c1 => (WP.pure c1)))).bind fun r1 => (WP.pure r1)
def sp__law_beside : Sp := fun vs H Q _ => ∃ (W : Wo) (a_chart : (List Str)) (a_spot : Sq) (v_chart v_spot : V), vs = [v_chart, v_spot] ∧ W.H = H ∧ Good ef0 W ∧ Rp W a_chart v_chart ∧ Rp W a_spot v_spot ∧ (m__law_beside a_chart a_spot).run W.n fun n r => ∀ v W', Gw ef0 W W' → W'.n = n → (sI (e := ef0) (α := Int)).post W W' r v → Q v W'.H
theorem ev__law_beside {e : Ef} {σ : L2.St} {W : Wo} {E : XK} {t0 t1 : TE} {w0 : WP (List Str)} {w1 : WP Sq} (h0 : EvW e t0 σ W sI w0) (h1 : EvW e t1 σ W sI w1) : EvW e (tCall sp__law_beside [] E (tCons t0 (tCons t1 tNil))) σ W (sI (α := Int)) (WP.b2 w0 w1 m__law_beside) := ew_call2N h0 h1 fun W2 b0 b1 x0 x1 g2 r0 r1 Q q E => by
  exact ⟨W2, b0, b1, x0, x1, rfl, rfl, g2.z, r0, r1, WP.mono _ (fun n c h v W3 g3 hn p => h v W3 (Gw.up g2 g3) hn p) q⟩
theorem ok__law_beside (F : At K mg "_law_beside" s__law_beside P__law_beside) (G : Glb mg) (H__law_at : Has P w K mg base "_law_at" 2 P__law_at sp__law_at) (H__law_in : Has P w K mg base "_law_in" 1 P__law_in sp__law_in) (H__law_sides : Has P w K mg base "_law_sides" 1 P__law_sides sp__law_sides) : Has P w K mg base "_law_beside" 3 P__law_beside sp__law_beside := by
  refine Has.of F sc__law_beside (fun vs H Q E h => ?_) (fun f cdv A outer s H0 vs Q E hr h => ?_)
  · obtain ⟨W0, a_chart, a_spot, v_chart, v_spot, rfl, _⟩ := h
    rfl
  · obtain ⟨W0, a_chart, a_spot, v_chart, v_spot, rfl, rfl, g00, h_chart, h_spot, hm⟩ := h
    have sc := sc__law_beside
    have g0 := Gw.refl g00
    unfold m__law_beside at hm
    refine ⟨_, (pss_one (ps_ret (pe_callB call_len_seq (by rfl) G.len PySem.boot_len (pa_cons (pe_lc (own := [("other", 2)]) (g := gName 2) rfl sc.nd (pi_list (pe_user H__law_sides (hr.mono (by decide)) rfl (pa_cons (pv 1) pa_nil))) (blkOk_by (N := N__law_beside) (sc := defScope s__law_beside) (by decide +kernel)) (fun _ _ _ _ _ => (pg_name (i := 2) sc.nd rfl (Or.inl rfl))) (fun _ _ _ _ _ => (pts_one (PW.pt (pw_and (pt_val (pe_user H__law_in (hr.mono (by decide)) rfl (pa_cons (pv 0) (pa_cons (pv 2) pa_nil)))) (pw_and1 (pt_not (pt_val (pe_user H__law_at (hr.mono (by decide)) rfl (pa_cons (pv 0) (pa_cons (pv 2) pa_nil)))))))))) (fun _ _ _ _ _ => (pv 2))) pa_nil)))), ?_⟩
    refine st_ret (W := W0) (ew_lenL (ew_rd (ew_lcL (ew_rd (ev__law_sides (ew_var rfl h_spot))) takes_N (fun _ _ _ h => by obtain ⟨v_other, ec, h_other⟩ := h; subst ec; rfl) (fun c1 Wc1 s2 gc1 h => by obtain ⟨v_other, ec, h_other⟩ := h; subst ec; have h_chart := PyI.st gc1.st h_chart; have h_spot := PyI.st gc1.st h_spot; exact (et_and (et_B (ev__law_in (ew_var rfl h_chart) (ew_var rfl h_other))) (et_not (et_B (ev__law_at (ew_var rfl h_chart) (ew_var rfl h_other)))))) (fun c1 Wc1 s2 gc1 h => by obtain ⟨v_other, ec, h_other⟩ := h; subst ec; have h_chart := PyI.st gc1.st h_chart; have h_spot := PyI.st gc1.st h_spot; exact (ew_var rfl h_other))))) g0.ok hm fun r1 v_ret W1 g1 hp hm => ?_
    exact hm v_ret W1 (g0.trans g1) rfl hp
abbrev s__law_soft : Stmt := top 35
abbrev N__law_soft : List Str := ["chart", "spot"]
abbrev P__law_soft : List Str := ["chart"]
theorem sc__law_soft : FnScope N__law_soft P__law_soft (defScope s__law_soft) := ⟨rfl, rfl, rfl, by decide +kernel, rfl, by decide +kernel, by decide +kernel⟩
def m__law_soft (a_chart : (List Str)) : WP (List Sq) := (WP.lc (WP.b1 (WP.pure a_chart) m__law_dry) (fun c1 => (WP.gt (WP.b2 (WP.pure a_chart) (WP.pure c1) m__law_beside) (WP.pure (1 : Int)))) (fun c1 => (WP.pure c1))).bind fun r1 => (WP.pure r1)
def sp__law_soft : Sp := fun vs H Q _ => ∃ (W : Wo) (a_chart : (List Str)) (v_chart : V), vs = [v_chart] ∧ W.H = H ∧ Good ef0 W ∧ Rp W a_chart v_chart ∧ (m__law_soft a_chart).run W.n fun n r => ∀ v W', Gw ef0 W W' → W'.n = n → (sN (e := ef0) (kL Sq)).post W W' r v → Q v W'.H
theorem ev__law_soft {e : Ef} {σ : L2.St} {W : Wo} {E : XK} {t0 : TE} {w0 : WP (List Str)} (h0 : EvW e t0 σ W sI w0) : EvW e (tCall sp__law_soft [] E (tCons t0 tNil)) σ W (sN (kL Sq)) (WP.b1 w0 m__law_soft) := ew_call1N h0 fun W2 b0 x0 g2 r0 Q q E => by
  exact ⟨W2, b0, x0, rfl, rfl, g2.z, r0, WP.mono _ (fun n c h v W3 g3 hn p => h v W3 (Gw.up g2 g3) hn (sN_up g2 p)) q⟩
theorem ok__law_soft (F : At K mg "_law_soft" s__law_soft P__law_soft) (G : Glb mg) (H__law_beside : Has P w K mg base "_law_beside" 3 P__law_beside sp__law_beside) (H__law_dry : Has P w K mg base "_law_dry" 3 P__law_dry sp__law_dry) : Has P w K mg base "_law_soft" 4 P__law_soft sp__law_soft := by
  refine Has.of F sc__law_soft (fun vs H Q E h => ?_) (fun f cdv A outer s H0 vs Q E hr h => ?_)
  · obtain ⟨W0, a_chart, v_chart, rfl, _⟩ := h
    rfl
  · obtain ⟨W0, a_chart, v_chart, rfl, rfl, g00, h_chart, hm⟩ := h
    have sc := sc__law_soft
    have g0 := Gw.refl g00
    unfold m__law_soft at hm
    refine ⟨_, (pss_one (ps_ret (pe_lc (own := [("spot", 1)]) (g := gName 1) rfl sc.nd (pi_list (pe_user H__law_dry (hr.mono (by decide)) rfl (pa_cons (pv 0) pa_nil))) (blkOk_by (N := N__law_soft) (sc := defScope s__law_soft) (by decide +kernel)) (fun _ _ _ _ _ => (pg_name (i := 1) sc.nd rfl (Or.inl rfl))) (fun _ _ _ _ _ => (pts_one (pt_cmpR op_gt (pe_user H__law_beside (hr.mono (by decide)) rfl (pa_cons (pv 0) (pa_cons (pv 1) pa_nil))) pe_int (nomark _)))) (fun _ _ _ _ _ => (pv 1))))), ?_⟩
    refine st_ret (W := W0) (ew_lcL (ew_rd (ev__law_dry (ew_var rfl h_chart))) takes_N (fun _ _ _ h => by obtain ⟨v_spot, ec, h_spot⟩ := h; subst ec; rfl) (fun c1 Wc1 s2 gc1 h => by obtain ⟨v_spot, ec, h_spot⟩ := h; subst ec; have h_chart := PyI.st gc1.st h_chart; exact (et_t (ew_gt (ev__law_beside (ew_var rfl h_chart) (ew_var rfl h_spot)) ew_int))) (fun c1 Wc1 s2 gc1 h => by obtain ⟨v_spot, ec, h_spot⟩ := h; subst ec; have h_chart := PyI.st gc1.st h_chart; exact (ew_var rfl h_spot))) g0.ok hm fun r1 v_ret W1 g1 hp hm => ?_
    exact hm v_ret W1 (g0.trans g1) rfl ((sN (kL Sq)).back g0 hp)
abbrev s__law_shown : Stmt := top 36
abbrev N__law_shown : List Str := ["chart", "other", "squares", "spot"]
abbrev P__law_shown : List Str := ["chart", "other", "squares"]
theorem sc__law_shown : FnScope N__law_shown P__law_shown (defScope s__law_shown) := ⟨rfl, rfl, rfl, by decide +kernel, rfl, by decide +kernel, by decide +kernel⟩
def m__law_shown (a_chart : (List Str)) (a_other : (List Str)) (a_squares : (List Sq)) : WP Bool := WP.after (WP.loop (γ := Bool) (fun c1 (y1 : (List Str)) => (WP.or (WP.not (WP.b2 (WP.pure y1) (WP.pure c1) m__law_at)) (WP.lt (WP.b2 (WP.pure y1) (WP.pure c1) m__law_beside) (WP.pure (2 : Int)))).bind fun b => WP.cond b ((WP.pure false).bind fun r3 => (WP.pure (.rt r3))) ((WP.b3 (WP.pure y1) (WP.pure c1) (WP.pure (Str.ofString ".")) m__law_set).bind fun a4_chart => (WP.pure (.nx a4_chart)))) a_squares a_chart) (fun (z1 : (List Str)) => (WP.and (WP.eqD (WP.pure z1) (WP.pure a_other)) (WP.eq (WP.len (WP.b1 (WP.pure z1) m__law_soft)) (WP.pure (0 : Int)))).bind fun r5 => (WP.pure r5)) (fun r => (WP.pure r))
def sp__law_shown : Sp := fun vs H Q _ => ∃ (W : Wo) (a_chart : (List Str)) (a_other : (List Str)) (a_squares : (List Sq)) (v_chart v_other v_squares : V) (fp_squares : List Addr), vs = [v_chart, v_other, v_squares] ∧ W.H = H ∧ Good ef0 W ∧ Rp W a_chart v_chart ∧ Rp W a_other v_other ∧ (kL Sq).own W fp_squares a_squares v_squares ∧ (∀ a ∈ fp_squares, ¬ ef0.S a) ∧ (m__law_shown a_chart a_other a_squares).run W.n fun n r => ∀ v W', Gw ef0 W W' → W'.n = n → (sI (e := ef0) (α := Bool)).post W W' r v → Q v W'.H
theorem ev__law_shown {e : Ef} {σ : L2.St} {W : Wo} {E : XK} {t0 t1 t2 : TE} {w0 : WP (List Str)} {w1 : WP (List Str)} {w2 : WP (List Sq)} (h0 : EvW e t0 σ W sI w0) (h1 : EvW e t1 σ W sI w1) (h2 : EvW e t2 σ W (sR (kL Sq)) w2) : EvW e (tCall sp__law_shown [] E (tCons t0 (tCons t1 (tCons t2 tNil)))) σ W (sI (α := Bool)) (WP.b3 w0 w1 w2 m__law_shown) := ew_call3N h0 h1 h2 fun W2 b0 b1 b2 x0 x1 x2 g2 r0 r1 ⟨fp2, r2, s2⟩ Q q E => by
  exact ⟨W2, b0, b1, b2, x0, x1, x2, fp2, rfl, rfl, g2.z, r0, r1, r2, fun _ _ z => z, WP.mono _ (fun n c h v W3 g3 hn p => h v W3 (Gw.up g2 g3) hn p) q⟩
theorem ok__law_shown (F : At K mg "_law_shown" s__law_shown P__law_shown) (G : Glb mg) (H__law_at : Has P w K mg base "_law_at" 2 P__law_at sp__law_at) (H__law_beside : Has P w K mg base "_law_beside" 3 P__law_beside sp__law_beside) (H__law_set : Has P w K mg base "_law_set" 1 P__law_set sp__law_set) (H__law_soft : Has P w K mg base "_law_soft" 4 P__law_soft sp__law_soft) : Has P w K mg base "_law_shown" 5 P__law_shown sp__law_shown := by
  refine Has.of F sc__law_shown (fun vs H Q E h => ?_) (fun f cdv A outer s H0 vs Q E hr h => ?_)
  · obtain ⟨W0, a_chart, a_other, a_squares, v_chart, v_other, v_squares, fp_squares, rfl, _⟩ := h
    rfl
  · obtain ⟨W0, a_chart, a_other, a_squares, v_chart, v_other, v_squares, fp_squares, rfl, rfl, g00, h_chart, h_other, hb_squares, hS_squares, hm⟩ := h
    have sc := sc__law_shown
    have g0 := Gw.refl g00
    have hl_squares := (kL Sq).live hb_squares
    have hb0_squares := hb_squares
    unfold m__law_shown at hm
    refine ⟨_, (pss_cons (ps_for PassesOwn.never rfl (pi_list (pv 2)) (pg_name (i := 3) sc.nd rfl (Or.inl rfl))
      (pss_cons (ps_if (PW.pt (pw_or (pt_not (pt_val (pe_user H__law_at (hr.mono (by decide)) rfl (pa_cons (pv 0) (pa_cons (pv 3) pa_nil))))) (pw_or1 (pt_cmpR op_lt (pe_user H__law_beside (hr.mono (by decide)) rfl (pa_cons (pv 0) (pa_cons (pv 3) pa_nil))) pe_int (nomark _))))) (pss_one (ps_ret pe_bl)) pss_nil)
      (pss_one (ps_set (i := 0) sc.nd rfl (Or.inl rfl) (pe_user H__law_set (hr.mono (by decide)) rfl (pa_cons (pv 0) (pa_cons (pv 3) (pa_cons pe_str pa_nil))))))))
      (pss_one (ps_ret (pe_and (pe_cmpR (op_eqD hr.units) (pv 0) (pv 1) (nomark _)) (pe_one (pe_cmpR op_eq (pe_callB call_len_seq (by rfl) G.len PySem.boot_len (pa_cons (pe_user H__law_soft (hr.mono (by decide)) rfl (pa_cons (pv 0) pa_nil)) pa_nil)) pe_int (nomark _))))))), ?_⟩
    obtain ⟨p_it1, vs_it1, ef_it1, ev_it1, hp_it1, hr_it1⟩ := own_list hb_squares
    have nS_it1 := hS_squares p_it1 (by rw [ef_it1]; exact List.mem_singleton.mpr rfl)
    refine q_forV (W := W0) tk_N (by rw [← ev_it1]; rfl) hp_it1 hr_it1 hm (fun y σ' W' => ∃ (v_chart : V) (o_spot : Option V), σ' = [some v_chart, some v_other, some v_squares, o_spot] ∧ Gw ef0 W0 W' ∧ St W0 W' ∧ Rp W' y v_chart ∧ W'.H p_it1 = some (.lst vs_it1)) ⟨v_chart, _, rfl, g0, (St.refl _), h_chart, hp_it1⟩ (fun _ _ _ hI => ?_) (fun c1 y1 σi s2 Wi1 R1 nx1 ht hI hm kn1 kb1 kr1 => ?_) (fun z1 σi Wi1 hI hm => ?_)
    · obtain ⟨v_chart, o_spot, rfl, g0, sl1, h_chart, hp_it1⟩ := hI
      exact ⟨sl1, hp_it1⟩
    ·
      obtain ⟨v_chart, o_spot, rfl, g0, sl1, h_chart, hp_it1⟩ := hI
      have h_other := PyI.st sl1 h_other
      have hb_squares := Kd.go g0 hS_squares hb0_squares
      obtain ⟨v_spot, rfl, h_spot⟩ := ht
      refine q_if (W := Wi1) (et_or (et_not (et_B (ev__law_at (ew_var rfl h_chart) (ew_var rfl h_spot)))) (et_t (ew_lt (ev__law_beside (ew_var rfl h_chart) (ew_var rfl h_spot)) ew_int))) g0.ok hm (fun W2 g2 hm => ?_) (fun W2 g2 hm => ?_)
      ·
        have h_chart := PyI.st g2.st h_chart
        have h_other := PyI.st g2.st h_other
        have hb_squares := Kd.go g2 hS_squares hb_squares
        have h_spot := PyI.st g2.st h_spot
        have sl1 := sl1.trans g2.st
        have hp_it1 := g2.keep _ _ hp_it1 nS_it1
        have g0 := g0.trans g2
        refine st_ret (W := W2) ew_bl g0.ok hm fun r3 v_ret W3 g3 hp hm => ?_
        have hm := kr1 _ _ hm
        exact hm v_ret W3 (g0.trans g3) rfl hp
      ·
        have h_chart := PyI.st g2.st h_chart
        have h_other := PyI.st g2.st h_other
        have hb_squares := Kd.go g2 hS_squares hb_squares
        have h_spot := PyI.st g2.st h_spot
        have sl1 := sl1.trans g2.st
        have hp_it1 := g2.keep _ _ hp_it1 nS_it1
        have g0 := g0.trans g2
        refine st_next ?_
        refine st_asg (W := W2) (ev__law_set (ew_var rfl h_chart) (ew_var rfl h_spot) ew_str) g0.ok hm fun a4_chart v_chart W4 g4 h_chart hm => ?_
        have h_other := PyI.st g4.st h_other
        have hb_squares := Kd.go g4 hS_squares hb_squares
        have h_spot := PyI.st g4.st h_spot
        have sl1 := sl1.trans g4.st
        have hp_it1 := g4.keep _ _ hp_it1 nS_it1
        have g0 := g0.trans g4
        exact kn1 a4_chart _ W4 ⟨v_chart, _, rfl, g0, sl1, h_chart, hp_it1⟩ hm
    ·
      obtain ⟨v_chart, o_spot, rfl, g0, sl1, h_chart, hp_it1⟩ := hI
      have h_other := PyI.st sl1 h_other
      have hb_squares := Kd.go g0 hS_squares hb0_squares
      refine st_ret (W := Wi1) (ew_andV (ew_eqD (ew_var rfl h_chart) (ew_var rfl h_other)) (ew_eq (ew_lenL (ew_rd (ev__law_soft (ew_var rfl h_chart)))) ew_int)) g0.ok hm fun r5 v_ret W5 g5 hp hm => ?_
      exact hm v_ret W5 (g0.trans g5) rfl hp
abbrev s__law_mixed : Stmt := top 37
abbrev N__law_mixed : List Str := ["deal", "things", "start", "turned"]
abbrev P__law_mixed : List Str := ["deal", "things"]
theorem sc__law_mixed : FnScope N__law_mixed P__law_mixed (defScope s__law_mixed) := ⟨rfl, rfl, rfl, by decide +kernel, rfl, by decide +kernel, by decide +kernel⟩
def m__law_mixed (_ : Unit) (a_things : (List Sq)) : WP (List Sq) := (WP.b2 (WP.pure ()) (WP.add (WP.len (WP.pure a_things)) (WP.pure (1 : Int))) m_take).bind fun a1_start => (WP.cat (WP.cut (WP.pure a_things) ((WP.pure a1_start).bind fun x => WP.pure (some x)) (WP.pure none)) (WP.cut (WP.pure a_things) (WP.pure none) ((WP.pure a1_start).bind fun x => WP.pure (some x)))).bind fun a2_turned => ((WP.eq (WP.b2 (WP.pure ()) (WP.pure (2 : Int)) m_take) (WP.pure (0 : Int))).bind fun b => WP.cond b (((WP.pure a2_turned).bind fun xs => WP.pure xs.reverse).bind fun a4_turned => (WP.pure a4_turned)) ((WP.pure a2_turned))).bind fun (y3 : (List Sq)) => (WP.pure y3)
def sp__law_mixed : Sp := fun vs H Q _ => ∃ (d : Dl) (W : Wo) (a_things : (List Sq)) (v_things : V) (fp_things : List Addr), vs = [.ref d.p, v_things] ∧ W.H = H ∧ Good (efD d) W ∧ (kL Sq).own W fp_things a_things v_things ∧ (∀ a ∈ fp_things, ¬ (efD d).S a) ∧ (m__law_mixed () a_things).run W.n fun n r => ∀ v W', Gw (efD d) W W' → W'.n = n → (sN (e := (efD d)) (kL Sq)).post W W' r v → Q v W'.H
theorem ev__law_mixed {d : Dl} {σ : L2.St} {W : Wo} {E : XK} {t0 t1 : TE} {w0 : WP Unit} {w1 : WP (List Sq)} (h0 : EvW (efD d) t0 σ W (sD d) w0) (h1 : EvW (efD d) t1 σ W (sR (kL Sq)) w1) : EvW (efD d) (tCall sp__law_mixed [] E (tCons t0 (tCons t1 tNil))) σ W (sN (kL Sq)) (WP.b2 w0 w1 m__law_mixed) := ew_call2N h0 h1 fun W2 b0 b1 x0 x1 g2 r0 ⟨fp1, r1, s1⟩ Q q E => by
  cases r0
  exact ⟨d, W2, b1, x1, fp1, rfl, rfl, g2, r1, s1, WP.mono _ (fun n c h v W3 g3 hn p => h v W3 g3 hn p) q⟩
theorem ok__law_mixed (F : At K mg "_law_mixed" s__law_mixed P__law_mixed) (G : Glb mg) (H__law_take : Has P w K mg base "_law_take" 1 P__law_take sp_take) : Has P w K mg base "_law_mixed" 2 P__law_mixed sp__law_mixed := by
  refine Has.of F sc__law_mixed (fun vs H Q E h => ?_) (fun f cdv A outer s H0 vs Q E hr h => ?_)
  · obtain ⟨d, W0, a_things, v_things, fp_things, rfl, _⟩ := h
    rfl
  · obtain ⟨d, W0, a_things, v_things, fp_things, rfl, rfl, g00, hb_things, hS_things, hm⟩ := h
    have sc := sc__law_mixed
    have g0 := Gw.refl g00
    have hl_things := (kL Sq).live hb_things
    have hb0_things := hb_things
    unfold m__law_mixed at hm
    refine ⟨_, (pss_cons (ps_set (i := 2) sc.nd rfl (Or.inl rfl) (pe_user H__law_take (hr.mono (by decide)) rfl (pa_cons (pv 0) (pa_cons (pe_op op_add (pe_callB call_len_seq (by rfl) G.len PySem.boot_len (pa_cons (pv 1) pa_nil)) pe_int) pa_nil))))
      (pss_cons (ps_set (i := 3) sc.nd rfl (Or.inl rfl) (pe_op op_cat (pe_slice sl_list (pv 1) (po_some (pv 2)) po_none) (pe_slice sl_list (pv 1) po_none (po_some (pv 2)))))
      (pss_cons (ps_if (pt_cmpR op_eq (pe_user H__law_take (hr.mono (by decide)) rfl (pa_cons (pv 0) (pa_cons pe_int pa_nil))) pe_int (nomark _)) (pss_one (ps_set (i := 3) sc.nd rfl (Or.inl rfl) (pe_revL (pv 3)))) pss_nil)
      (pss_one (ps_ret (pv 3)))))), ?_⟩
    refine q_asg (W := W0) (ev_take (ew_deal rfl) (ew_add (ew_lenL (ew_varR rfl hS_things hb_things)) ew_int)) g0.ok hm fun a1_start v_start W1 g1 h_start hm => ?_
    have hb_things := Kd.go g1 hS_things hb_things
    have g0 := g0.trans g1
    refine q_asg (W := W1) (ew_cat (ew_rd (ew_slL (ew_varR rfl hS_things hb_things) (eo_some (ew_var rfl h_start)) eo_none)) (ew_rd (ew_slL (ew_varR rfl hS_things hb_things) eo_none (eo_some (ew_var rfl h_start))))) g0.ok hm fun a2_turned v_turned W2 g2 ⟨fp_turned, ho0_turned, hf_turned⟩ hm => ?_
    have hz_turned : ∀ a ∈ fp_turned, W0.H a = none := fun a m => g0.live a (hf_turned a m).1
    have hb_things := Kd.go g2 hS_things hb_things
    have h_start := PyI.st g2.st h_start
    have g0 := g0.trans g2
    have ho_turned : Var (kL Sq) W0 W2 fp_turned a2_turned v_turned := ⟨ho0_turned, hz_turned, fun b m => (hf_turned b m).2.2⟩
    refine q_join (W := W2) (s := (List Sq)) (fun y σ' W' => ∃ (v_turned : V) (fp_turned : List Addr), σ' = [some (.ref d.p), some v_things, some v_start, some v_turned] ∧ Gw (efD d) W0 W' ∧ St W2 W' ∧ Var (kL Sq) W0 W' fp_turned y v_turned) (et_t (ew_eq (ev_take (ew_deal rfl) ew_int) ew_int)) g0.ok hm (fun y3 σj Wj3 hI hm => ?_) (fun W3 R3 g3 hm kj => ?_) (fun W3 R3 g3 hm kj => ?_)
    ·
      obtain ⟨v_turned, fp_turned, rfl, g0, sj3, ho_turned⟩ := hI
      have hb_things := Kd.go g0 hS_things hb0_things
      have h_start := PyI.st sj3 h_start
      exact ⟨_, rfl, hm _ Wj3 g0 rfl ⟨fp_turned, ho_turned.own, fun b m => ⟨ho_turned.fr b m, Var.nS g00 ho_turned b m, ho_turned.nF b m⟩⟩⟩
    ·
      have hb_things := Kd.go g3 hS_things hb_things
      have h_start := PyI.st g3.st h_start
      have ho_turned := ho_turned.go g00 g3
      have g0 := g0.trans g3
      have sj3 := g3.st
      refine st_asg (W := W3) (ew_revL (ew_varR rfl (Var.nS g00 ho_turned) ho_turned.own)) g0.ok hm fun a4_turned v_turned W4 g4 ⟨fp_turned, ho0_turned, hf_turned⟩ hm => ?_
      have hz_turned : ∀ a ∈ fp_turned, W0.H a = none := fun a m => g0.live a (hf_turned a m).1
      have hb_things := Kd.go g4 hS_things hb_things
      have h_start := PyI.st g4.st h_start
      have sj3 := sj3.trans g4.st
      have g0 := g0.trans g4
      have ho_turned : Var (kL Sq) W0 W4 fp_turned a4_turned v_turned := ⟨ho0_turned, hz_turned, fun b m => (hf_turned b m).2.2⟩
      exact kj a4_turned _ W4 ⟨v_turned, fp_turned, rfl, g0, sj3, ho_turned⟩ hm
    ·
      have hb_things := Kd.go g3 hS_things hb_things
      have h_start := PyI.st g3.st h_start
      have ho_turned := ho_turned.go g00 g3
      have g0 := g0.trans g3
      have sj3 := g3.st
      refine st_next ?_
      exact kj a2_turned _ W3 ⟨v_turned, fp_turned, rfl, g0, sj3, ho_turned⟩ hm
abbrev s__law_soaking : Stmt := top 38
abbrev N__law_soaking : List Str := ["deal", "chart", "paper", "turn", "free", "part", "spot"]
abbrev P__law_soaking : List Str := ["deal", "chart"]
theorem sc__law_soaking : FnScope N__law_soaking P__law_soaking (defScope s__law_soaking) := ⟨rfl, rfl, rfl, by decide +kernel, rfl, by decide +kernel, by decide +kernel⟩
def m__law_soaking (_ : Unit) (a_chart : (List Str)) : WP (HL2 (Ls Sq) (List Str)) := (WP.row (WP.pure ([] : List Sq))).bind fun a1_paper => (WP.range1 (WP.mul (WP.len (WP.pure a_chart)) (WP.lenS (WP.ix (WP.pure a_chart) (WP.pure (0 : Int)))))).bind fun xs2 => WP.after (WP.loop (γ := (HL2 (Ls Sq) (List Str))) (fun c2 (y2 : (List Str) × (List Sq)) => (WP.b2 (WP.pure ()) (WP.b1 (WP.pure y2.1) m__law_soft) m__law_mixed).bind fun a3_free => (WP.eq (WP.len (WP.pure a3_free)) (WP.pure (0 : Int))).bind fun b => WP.cond b ((WP.pure (.bk (y2.1, y2.2)))) ((WP.cut (WP.pure a3_free) (WP.pure none) ((WP.add (WP.pure (1 : Int)) (WP.b2 (WP.pure ()) (WP.len (WP.pure a3_free)) m_take)).bind fun x => WP.pure (some x))).bind fun a5_part => WP.after (WP.loop (γ := (HL2 (Ls Sq) (List Str))) (fun c6 (y6 : (List Str)) => (WP.b3 (WP.pure y6) (WP.pure c6) (WP.pure (Str.ofString ".")) m__law_set).bind fun a7_chart => (WP.pure (.nx a7_chart))) a5_part y2.1) (fun (z6 : (List Str)) => (WP.cat (WP.pure y2.2) (WP.pure a5_part)).bind fun a8_paper => (WP.pure (.nx (z6, a8_paper)))) (fun r => (WP.pure (.rt r))))) xs2 (a_chart, a1_paper)) (fun (z2 : (List Str) × (List Sq)) => (WP.b2 (WP.pure (⟨z2.2⟩ : (Ls Sq))) (WP.pure z2.1) fun a b => WP.pure (⟨a, b⟩ : (HL2 (Ls Sq) (List Str)))).bind fun r9 => (WP.pure r9)) (fun r => (WP.pure r))
def sp__law_soaking : Sp := fun vs H Q _ => ∃ (d : Dl) (W : Wo) (a_chart : (List Str)) (v_chart : V), vs = [.ref d.p, v_chart] ∧ W.H = H ∧ Good (efD d) W ∧ Rp W a_chart v_chart ∧ (m__law_soaking () a_chart).run W.n fun n r => ∀ v W', Gw (efD d) W W' → W'.n = n → (sI (e := (efD d)) (α := (HL2 (Ls Sq) (List Str)))).post W W' r v → Q v W'.H
theorem ev__law_soaking {d : Dl} {σ : L2.St} {W : Wo} {E : XK} {t0 t1 : TE} {w0 : WP Unit} {w1 : WP (List Str)} (h0 : EvW (efD d) t0 σ W (sD d) w0) (h1 : EvW (efD d) t1 σ W sI w1) : EvW (efD d) (tCall sp__law_soaking [] E (tCons t0 (tCons t1 tNil))) σ W (sI (α := (HL2 (Ls Sq) (List Str)))) (WP.b2 w0 w1 m__law_soaking) := ew_call2N h0 h1 fun W2 b0 b1 x0 x1 g2 r0 r1 Q q E => by
  cases r0
  exact ⟨d, W2, b1, x1, rfl, rfl, g2, r1, WP.mono _ (fun n c h v W3 g3 hn p => h v W3 g3 hn p) q⟩
theorem ok__law_soaking (F : At K mg "_law_soaking" s__law_soaking P__law_soaking) (G : Glb mg) (H__law_mixed : Has P w K mg base "_law_mixed" 2 P__law_mixed sp__law_mixed) (H__law_set : Has P w K mg base "_law_set" 1 P__law_set sp__law_set) (H__law_soft : Has P w K mg base "_law_soft" 4 P__law_soft sp__law_soft) (H__law_take : Has P w K mg base "_law_take" 1 P__law_take sp_take) : Has P w K mg base "_law_soaking" 5 P__law_soaking sp__law_soaking := by
  refine Has.of F sc__law_soaking (fun vs H Q E h => ?_) (fun f cdv A outer s H0 vs Q E hr h => ?_)
  · obtain ⟨d, W0, a_chart, v_chart, rfl, _⟩ := h
    rfl
  · obtain ⟨d, W0, a_chart, v_chart, rfl, rfl, g00, h_chart, hm⟩ := h
    have sc := sc__law_soaking
    have g0 := Gw.refl g00
    unfold m__law_soaking at hm
    refine ⟨_, (pss_cons (ps_set (i := 2) sc.nd rfl (Or.inl rfl) (pe_lst pa_nil))
      (pss_cons (ps_for PassesOwn.never rfl (pi_range1 rfl G.range (pa_cons (pe_op op_mul (pe_callB call_len_seq (by rfl) G.len PySem.boot_len (pa_cons (pv 1) pa_nil)) (pe_callB call_len_str (by rfl) G.len PySem.boot_len (pa_cons (pe_ix ix_tup (pv 1) pe_int (fun _ _ => rfl)) pa_nil))) pa_nil)) (pg_name (i := 3) sc.nd rfl (Or.inl rfl))
      (pss_cons (ps_set (i := 4) sc.nd rfl (Or.inl rfl) (pe_user H__law_mixed (hr.mono (by decide)) rfl (pa_cons (pv 0) (pa_cons (pe_user H__law_soft (hr.mono (by decide)) rfl (pa_cons (pv 1) pa_nil)) pa_nil))))
      (pss_cons (ps_if (pt_cmpR op_eq (pe_callB call_len_seq (by rfl) G.len PySem.boot_len (pa_cons (pv 4) pa_nil)) pe_int (nomark _)) (pss_one ps_break) pss_nil)
      (pss_cons (ps_set (i := 5) sc.nd rfl (Or.inl rfl) (pe_slice sl_list (pv 4) po_none (po_some (pe_op op_add pe_int (pe_user H__law_take (hr.mono (by decide)) rfl (pa_cons (pv 0) (pa_cons (pe_callB call_len_seq (by rfl) G.len PySem.boot_len (pa_cons (pv 4) pa_nil)) pa_nil)))))))
      (pss_cons (ps_for PassesOwn.never rfl (pi_list (pv 5)) (pg_name (i := 6) sc.nd rfl (Or.inl rfl))
      (pss_one (ps_set (i := 1) sc.nd rfl (Or.inl rfl) (pe_user H__law_set (hr.mono (by decide)) rfl (pa_cons (pv 1) (pa_cons (pv 6) (pa_cons pe_str pa_nil)))))))
      (pss_one (ps_set (i := 2) sc.nd rfl (Or.inl rfl) (pe_op op_cat (pv 2) (pv 5)))))))))
      (pss_one (ps_ret (pe_lst (pa_cons (pv 2) (pa_cons (pv 1) pa_nil))))))), ?_⟩
    refine q_asg (W := W0) (ew_lst (eas_nil (α := Sq))) g0.ok hm fun a1_paper v_paper W1 g1 ⟨fp_paper, ho0_paper, hf_paper⟩ hm => ?_
    have hz_paper : ∀ a ∈ fp_paper, W0.H a = none := fun a m => g0.live a (hf_paper a m).1
    have h_chart := PyI.st g1.st h_chart
    have g0 := g0.trans g1
    have ho_paper : Var (kL Sq) W0 W1 fp_paper a1_paper v_paper := ⟨ho0_paper, hz_paper, fun b m => (hf_paper b m).2.2⟩
    refine q_forR1 (W := W1) (ew_mul (ew_lenT (ew_var rfl h_chart)) (ew_lenS (ew_ixT (ew_var rfl h_chart) ew_int))) g0.ok hm fun W2 g2 => ?_
    have h_chart := PyI.st g2.st h_chart
    have ho_paper := ho_paper.go g00 g2
    have g0 := g0.trans g2
    refine ⟨fun y σ' W' => ∃ (v_chart : V) (v_paper : V) (fp_paper : List Addr) (o_turn : Option V) (o_free : Option V) (o_part : Option V) (o_spot : Option V), σ' = [some (.ref d.p), some v_chart, some v_paper, o_turn, o_free, o_part, o_spot] ∧ Gw (efD d) W0 W' ∧ St W2 W' ∧ Rp W' y.1 v_chart ∧ Var (kL Sq) W0 W' fp_paper y.2 v_paper, ⟨v_chart, v_paper, fp_paper, _, _, _, _, rfl, g0, (St.refl _), h_chart, ho_paper⟩, fun c2 y2 σi s2 Wi2 R2 nx2 ht hI hm kn2 kb2 kr2 => ?_, fun z2 σi Wi2 hI hm => ?_⟩
    ·
      obtain ⟨v_chart, v_paper, fp_paper, o_turn, o_free, o_part, o_spot, rfl, g0, sl2, h_chart, ho_paper⟩ := hI
      obtain ⟨v_turn, rfl, h_turn⟩ := ht
      refine q_asg (W := Wi2) (ev__law_mixed (ew_deal rfl) (ew_rd (ev__law_soft (ew_var rfl h_chart)))) g0.ok hm fun a3_free v_free W3 g3 ⟨fp_free, ho0_free, hf_free⟩ hm => ?_
      have dj_paper_free : ∀ b ∈ fp_paper, b ∉ fp_free := fun b m z => (kL Sq).live ho_paper.own b m (hf_free b z).1
      have hz_free : ∀ a ∈ fp_free, W0.H a = none := fun a m => g0.live a (hf_free a m).1
      have h_chart := PyI.st g3.st h_chart
      have ho_paper := ho_paper.go g00 g3
      have h_turn := PyI.st g3.st h_turn
      have sl2 := sl2.trans g3.st
      have g0 := g0.trans g3
      have ho_free : Var (kL Sq) W0 W3 fp_free a3_free v_free := ⟨ho0_free, hz_free, fun b m => (hf_free b m).2.2⟩
      refine q_if (W := W3) (et_t (ew_eq (ew_lenL (ew_varR rfl (Var.nS g00 ho_free) ho_free.own)) ew_int)) g0.ok hm (fun W4 g4 hm => ?_) (fun W4 g4 hm => ?_)
      ·
        have h_chart := PyI.st g4.st h_chart
        have ho_paper := ho_paper.go g00 g4
        have h_turn := PyI.st g4.st h_turn
        have ho_free := ho_free.go g00 g4
        have sl2 := sl2.trans g4.st
        have g0 := g0.trans g4
        refine st_break ?_
        exact kb2 (y2.1, y2.2) _ W4 ⟨v_chart, v_paper, fp_paper, _, _, _, _, rfl, g0, sl2, h_chart, ho_paper⟩ hm
      ·
        have h_chart := PyI.st g4.st h_chart
        have ho_paper := ho_paper.go g00 g4
        have h_turn := PyI.st g4.st h_turn
        have ho_free := ho_free.go g00 g4
        have sl2 := sl2.trans g4.st
        have g0 := g0.trans g4
        refine st_next ?_
        refine q_asg (W := W4) (ew_slL (ew_varR rfl (Var.nS g00 ho_free) ho_free.own) eo_none (eo_some (ew_add ew_int (ev_take (ew_deal rfl) (ew_lenL (ew_varR rfl (Var.nS g00 ho_free) ho_free.own)))))) g0.ok hm fun a5_part v_part W5 g5 ⟨fp_part, ho0_part, hf_part⟩ hm => ?_
        have dj_paper_part : ∀ b ∈ fp_paper, b ∉ fp_part := fun b m z => (kL Sq).live ho_paper.own b m (hf_part b z).1
        have dj_free_part : ∀ b ∈ fp_free, b ∉ fp_part := fun b m z => (kL Sq).live ho_free.own b m (hf_part b z).1
        have hz_part : ∀ a ∈ fp_part, W0.H a = none := fun a m => g0.live a (hf_part a m).1
        have h_chart := PyI.st g5.st h_chart
        have ho_paper := ho_paper.go g00 g5
        have h_turn := PyI.st g5.st h_turn
        have ho_free := ho_free.go g00 g5
        have sl2 := sl2.trans g5.st
        have g0 := g0.trans g5
        have ho_part : Var (kL Sq) W0 W5 fp_part a5_part v_part := ⟨ho0_part, hz_part, fun b m => (hf_part b m).2.2⟩
        obtain ⟨p_it6, vs_it6, ef_it6, ev_it6, hp_it6, hr_it6⟩ := own_list ho_part.own
        have nS_it6 := (Var.nS g00 ho_part) p_it6 (by rw [ef_it6]; exact List.mem_singleton.mpr rfl)
        have dj_it6_paper : ∀ b ∈ [p_it6], b ∉ fp_paper := by rw [← ef_it6]; exact (fun b m z => dj_paper_part b z m)
        have dj_it6_free : ∀ b ∈ [p_it6], b ∉ fp_free := by rw [← ef_it6]; exact (fun b m z => dj_free_part b z m)
        refine q_forV (W := W5) tk_N (by rw [← ev_it6]; rfl) hp_it6 hr_it6 hm (fun y σ' W' => ∃ (v_chart : V) (o_spot : Option V), σ' = [some (.ref d.p), some v_chart, some v_paper, some v_turn, some v_free, some v_part, o_spot] ∧ Gw (efD d) W0 W' ∧ St W5 W' ∧ Rp W' y v_chart ∧ Var (kL Sq) W0 W' fp_paper y2.2 v_paper ∧ Var (kL Sq) W0 W' fp_free a3_free v_free ∧ Var (kL Sq) W0 W' fp_part a5_part v_part ∧ W'.H p_it6 = some (.lst vs_it6)) ⟨v_chart, _, rfl, g0, (St.refl _), h_chart, ho_paper, ho_free, ho_part, hp_it6⟩ (fun _ _ _ hI => ?_) (fun c6 y6 σi s2 Wi6 R6 nx6 ht hI hm kn6 kb6 kr6 => ?_) (fun z6 σi Wi6 hI hm => ?_)
        · obtain ⟨v_chart, o_spot, rfl, g0, sl6, h_chart, ho_paper, ho_free, ho_part, hp_it6⟩ := hI
          exact ⟨sl6, hp_it6⟩
        ·
          obtain ⟨v_chart, o_spot, rfl, g0, sl6, h_chart, ho_paper, ho_free, ho_part, hp_it6⟩ := hI
          have h_turn := PyI.st sl6 h_turn
          have sl2 := sl2.trans sl6
          obtain ⟨v_spot, rfl, h_spot⟩ := ht
          refine st_asg (W := Wi6) (ev__law_set (ew_var rfl h_chart) (ew_var rfl h_spot) ew_str) g0.ok hm fun a7_chart v_chart W7 g7 h_chart hm => ?_
          have ho_paper := ho_paper.go g00 g7
          have h_turn := PyI.st g7.st h_turn
          have ho_free := ho_free.go g00 g7
          have ho_part := ho_part.go g00 g7
          have h_spot := PyI.st g7.st h_spot
          have sl2 := sl2.trans g7.st
          have sl6 := sl6.trans g7.st
          have hp_it6 := g7.keep _ _ hp_it6 nS_it6
          have g0 := g0.trans g7
          exact kn6 a7_chart _ W7 ⟨v_chart, _, rfl, g0, sl6, h_chart, ho_paper, ho_free, ho_part, hp_it6⟩ hm
        ·
          obtain ⟨v_chart, o_spot, rfl, g0, sl6, h_chart, ho_paper, ho_free, ho_part, hp_it6⟩ := hI
          have h_turn := PyI.st sl6 h_turn
          have sl2 := sl2.trans sl6
          refine st_asg (W := Wi6) (ew_cat (ew_varR rfl (Var.nS g00 ho_paper) ho_paper.own) (ew_varR rfl (Var.nS g00 ho_part) ho_part.own)) g0.ok hm fun a8_paper v_paper W8 g8 ⟨fp_paper, ho0_paper, hf_paper⟩ hm => ?_
          have dj_free_paper : ∀ b ∈ fp_free, b ∉ fp_paper := fun b m z => (kL Sq).live ho_free.own b m (hf_paper b z).1
          have dj_part_paper : ∀ b ∈ fp_part, b ∉ fp_paper := fun b m z => (kL Sq).live ho_part.own b m (hf_paper b z).1
          have hz_paper : ∀ a ∈ fp_paper, W0.H a = none := fun a m => g0.live a (hf_paper a m).1
          have h_chart := PyI.st g8.st h_chart
          have h_turn := PyI.st g8.st h_turn
          have ho_free := ho_free.go g00 g8
          have ho_part := ho_part.go g00 g8
          have sl2 := sl2.trans g8.st
          have g0 := g0.trans g8
          have ho_paper : Var (kL Sq) W0 W8 fp_paper a8_paper v_paper := ⟨ho0_paper, hz_paper, fun b m => (hf_paper b m).2.2⟩
          exact kn2 (z6, a8_paper) _ W8 ⟨v_chart, v_paper, fp_paper, _, _, _, _, rfl, g0, sl2, h_chart, ho_paper⟩ hm
    ·
      obtain ⟨v_chart, v_paper, fp_paper, o_turn, o_free, o_part, o_spot, rfl, g0, sl2, h_chart, ho_paper⟩ := hI
      obtain ⟨gf, sf, h_paper⟩ := frz_own g00 g0 ho_paper
      have h_chart := PyI.st sf h_chart
      have g0 := gf
      refine st_ret (W := (Wi2.frz fp_paper)) (ew_HL2 (ew_var rfl h_paper) (ew_var rfl h_chart)) g0.ok hm fun r9 v_ret W9 g9 hp hm => ?_
      exact hm v_ret W9 (g0.trans g9) rfl hp
abbrev s__law_strange : Stmt := top 39
abbrev N__law_strange : List Str := ["deal", "chart", "calm", "paper", "rows", "columns", "r", "c", "other", "papers", "beyond", "turn", "k", "wet", "dry", "edge", "row", "spot", "less"]
abbrev P__law_strange : List Str := ["deal", "chart", "calm", "paper"]
theorem sc__law_strange : FnScope N__law_strange P__law_strange (defScope s__law_strange) := ⟨rfl, rfl, rfl, by decide +kernel, rfl, by decide +kernel, by decide +kernel⟩
def m__law_strange (_ : Unit) (a_chart : (List Str)) (a_calm : (List Str)) (a_paper : (Ls Sq)) : WP (List ((List Str) × (Ls Sq))) := (WP.len (WP.pure a_chart)).bind fun a1_rows => (WP.lenS (WP.ix (WP.pure a_chart) (WP.pure (0 : Int)))).bind fun a2_columns => (WP.b2 (WP.pure ()) (WP.pure a1_rows) m_take).bind fun a3_r => (WP.b2 (WP.pure ()) (WP.pure a2_columns) m_take).bind fun a4_c => (WP.b3 (WP.pure a_calm) (WP.pair (WP.pure a3_r) (WP.pure a4_c)) (WP.ite (WP.b2 (WP.pure a_calm) (WP.pair (WP.pure a3_r) (WP.pure a4_c)) m__law_at) (WP.pure (Str.ofString ".")) (WP.pure (Str.ofString "x"))) m__law_set).bind fun a5_other => (WP.row (WP.consE (WP.pair (WP.pure a_calm) ((WP.row (WP.pure ([] : List Sq))).bind fun xs => WP.pure (⟨xs⟩ : (Ls Sq)))) (WP.consE (WP.pair (WP.pure a_chart) ((WP.row (WP.pure ([] : List Sq))).bind fun xs => WP.pure (⟨xs⟩ : (Ls Sq)))) (WP.consE (WP.pair (WP.pure a_chart) (WP.pure a_paper)) (WP.consE (WP.pair (WP.pure a5_other) (WP.pure a_paper)) (WP.consE (WP.pair (WP.pure a5_other) ((WP.cat ((WP.pure a_paper).bind fun x => WP.pure x.l) (WP.row (WP.consE (WP.pair (WP.pure a3_r) (WP.pure a4_c)) (WP.pure ([] : List Sq))))).bind fun xs => WP.pure (⟨xs⟩ : (Ls Sq)))) (WP.pure ([] : List ((List Str) × (Ls Sq)))))))))).bind fun a6_papers => (WP.row (WP.consE (WP.pair (WP.neg (WP.pure (1 : Int))) (WP.pure a4_c)) (WP.consE (WP.pair (WP.pure a1_rows) (WP.pure a4_c)) (WP.consE (WP.pair (WP.pure a3_r) (WP.neg (WP.pure (1 : Int)))) (WP.consE (WP.pair (WP.pure a3_r) (WP.pure a2_columns)) (WP.consE (WP.pair (WP.add (WP.pow (WP.pure (10 : Int)) (WP.pure (9 : Int))) (WP.pure a3_r)) (WP.pure a4_c)) (WP.consE (WP.pair (WP.pure a3_r) (WP.sub (WP.pure a4_c) (WP.pow (WP.pure (10 : Int)) (WP.pure (9 : Int))))) (WP.consE (WP.pair (WP.sub (WP.pure a3_r) (WP.pure a1_rows)) (WP.sub (WP.pure a4_c) (WP.pure a2_columns))) (WP.pure ([] : List Sq)))))))))).bind fun a7_beyond => (WP.range1 (WP.pure (3 : Int))).bind fun xs8 => WP.after (WP.loop (γ := (List ((List Str) × (Ls Sq)))) (fun c8 (y8 : (List ((List Str) × (Ls Sq)))) => (WP.b2 (WP.pure ()) (WP.add (WP.len ((WP.pure a_paper).bind fun x => WP.pure x.l)) (WP.pure (1 : Int))) m_take).bind fun a9_k => ((WP.pair (WP.pure a_calm) ((WP.cat (WP.cat (WP.cut ((WP.pure a_paper).bind fun x => WP.pure x.l) (WP.pure none) ((WP.pure a9_k).bind fun x => WP.pure (some x))) (WP.row (WP.consE (WP.b2 (WP.pure ()) (WP.pure a7_beyond) m__law_pick) (WP.pure ([] : List Sq))))) (WP.cut ((WP.pure a_paper).bind fun x => WP.pure x.l) ((WP.pure a9_k).bind fun x => WP.pure (some x)) (WP.pure none))).bind fun xs => WP.pure (⟨xs⟩ : (Ls Sq)))).bind fun a => WP.req (y8.length < 100000) (y8 ++ [a])).bind fun a10_papers => (WP.pure (.nx a10_papers))) xs8 a6_papers) (fun (z8 : (List ((List Str) × (Ls Sq)))) => (WP.b2 (WP.pure ()) (WP.add (WP.len ((WP.pure a_paper).bind fun x => WP.pure x.l)) (WP.pure (1 : Int))) m_take).bind fun a11_k => (WP.lc (WP.b1 (WP.pure a_chart) m__law_all) (fun c1 => (WP.not (WP.b2 (WP.pure a_chart) (WP.pure c1) m__law_at))) (fun c1 => (WP.pure c1))).bind fun a12_wet => ((WP.gt (WP.len (WP.pure a12_wet)) (WP.pure (0 : Int))).bind fun b => WP.cond b (((WP.pair (WP.pure a_calm) ((WP.cat (WP.cat (WP.cut ((WP.pure a_paper).bind fun x => WP.pure x.l) (WP.pure none) ((WP.pure a11_k).bind fun x => WP.pure (some x))) (WP.row (WP.consE (WP.b2 (WP.pure ()) (WP.pure a12_wet) m__law_pick) (WP.pure ([] : List Sq))))) (WP.cut ((WP.pure a_paper).bind fun x => WP.pure x.l) ((WP.pure a11_k).bind fun x => WP.pure (some x)) (WP.pure none))).bind fun xs => WP.pure (⟨xs⟩ : (Ls Sq)))).bind fun a => WP.req (z8.length < 100000) (z8 ++ [a])).bind fun a21_papers => (WP.pure a21_papers)) ((WP.pure z8))).bind fun (y13 : (List ((List Str) × (Ls Sq)))) => (WP.b1 (WP.pure a_calm) m__law_dry).bind fun a14_dry => (WP.lc (WP.pure a14_dry) (fun c2 => (WP.eq (WP.b2 (WP.pure a_calm) (WP.pure c2) m__law_beside) (WP.pure (1 : Int)))) (fun c2 => (WP.pure c2))).bind fun a15_edge => (WP.row (WP.consE (WP.pure (⟨a14_dry⟩ : (Ls Sq))) (WP.consE (WP.pure (⟨a15_edge⟩ : (Ls Sq))) (WP.pure ([] : List (Ls Sq)))))).bind fun xs16 => WP.after (WP.loop (γ := (List ((List Str) × (Ls Sq)))) (fun c16 (y16 : (List ((List Str) × (Ls Sq)))) => ((WP.gt (WP.len ((WP.pure c16).bind fun x => WP.pure x.l)) (WP.pure (0 : Int))).bind fun b => WP.cond b ((WP.b2 (WP.pure ()) ((WP.pure c16).bind fun x => WP.pure x.l) m__law_pick).bind fun a18_spot => (WP.b3 (WP.pure a_calm) (WP.pure a18_spot) (WP.pure (Str.ofString ".")) m__law_set).bind fun a19_less => (WP.cat (WP.pure y16) (WP.row (WP.consE (WP.pair (WP.pure a19_less) ((WP.cat ((WP.pure a_paper).bind fun x => WP.pure x.l) (WP.row (WP.consE (WP.pure a18_spot) (WP.pure ([] : List Sq))))).bind fun xs => WP.pure (⟨xs⟩ : (Ls Sq)))) (WP.consE (WP.pair (WP.pure a19_less) ((WP.cat (WP.row (WP.consE (WP.pure a18_spot) (WP.pure ([] : List Sq)))) ((WP.pure a_paper).bind fun x => WP.pure x.l)).bind fun xs => WP.pure (⟨xs⟩ : (Ls Sq)))) (WP.consE (WP.pair (WP.pure a_calm) ((WP.cat ((WP.pure a_paper).bind fun x => WP.pure x.l) (WP.row (WP.consE (WP.pure a18_spot) (WP.pure ([] : List Sq))))).bind fun xs => WP.pure (⟨xs⟩ : (Ls Sq)))) (WP.pure ([] : List ((List Str) × (Ls Sq))))))))).bind fun a20_papers => (WP.pure a20_papers)) ((WP.pure y16))).bind fun (y17 : (List ((List Str) × (Ls Sq)))) => (WP.pure (.nx y17))) xs16 y13) (fun (z16 : (List ((List Str) × (Ls Sq)))) => (WP.pure z16)) (fun r => (WP.pure r))) (fun r => (WP.pure r))
def sp__law_strange : Sp := fun vs H Q _ => ∃ (d : Dl) (W : Wo) (a_chart : (List Str)) (a_calm : (List Str)) (a_paper : (Ls Sq)) (v_chart v_calm v_paper : V), vs = [.ref d.p, v_chart, v_calm, v_paper] ∧ W.H = H ∧ Good (efD d) W ∧ Rp W a_chart v_chart ∧ Rp W a_calm v_calm ∧ Rp W a_paper v_paper ∧ (m__law_strange () a_chart a_calm a_paper).run W.n fun n r => ∀ v W', Gw (efD d) W W' → W'.n = n → (sN (e := (efD d)) (kL ((List Str) × (Ls Sq)))).post W W' r v → Q v W'.H
theorem ev__law_strange {d : Dl} {σ : L2.St} {W : Wo} {E : XK} {t0 t1 t2 t3 : TE} {w0 : WP Unit} {w1 : WP (List Str)} {w2 : WP (List Str)} {w3 : WP (Ls Sq)} (h0 : EvW (efD d) t0 σ W (sD d) w0) (h1 : EvW (efD d) t1 σ W sI w1) (h2 : EvW (efD d) t2 σ W sI w2) (h3 : EvW (efD d) t3 σ W sI w3) : EvW (efD d) (tCall sp__law_strange [] E (tCons t0 (tCons t1 (tCons t2 (tCons t3 tNil))))) σ W (sN (kL ((List Str) × (Ls Sq)))) (WP.b4 w0 w1 w2 w3 m__law_strange) := ew_call4N h0 h1 h2 h3 fun W2 b0 b1 b2 b3 x0 x1 x2 x3 g2 r0 r1 r2 r3 Q q E => by
  cases r0
  exact ⟨d, W2, b1, b2, b3, x1, x2, x3, rfl, rfl, g2, r1, r2, r3, WP.mono _ (fun n c h v W3 g3 hn p => h v W3 g3 hn p) q⟩
theorem ok__law_strange (F : At K mg "_law_strange" s__law_strange P__law_strange) (G : Glb mg) (H__law_all : Has P w K mg base "_law_all" 1 P__law_all sp__law_all) (H__law_at : Has P w K mg base "_law_at" 2 P__law_at sp__law_at) (H__law_beside : Has P w K mg base "_law_beside" 3 P__law_beside sp__law_beside) (H__law_dry : Has P w K mg base "_law_dry" 3 P__law_dry sp__law_dry) (H__law_pick : Has P w K mg base "_law_pick" 2 P__law_pick sp__law_pick) (H__law_set : Has P w K mg base "_law_set" 1 P__law_set sp__law_set) (H__law_take : Has P w K mg base "_law_take" 1 P__law_take sp_take) : Has P w K mg base "_law_strange" 4 P__law_strange sp__law_strange := by
  refine Has.of F sc__law_strange (fun vs H Q E h => ?_) (fun f cdv A outer s H0 vs Q E hr h => ?_)
  · obtain ⟨d, W0, a_chart, a_calm, a_paper, v_chart, v_calm, v_paper, rfl, _⟩ := h
    rfl
  · obtain ⟨d, W0, a_chart, a_calm, a_paper, v_chart, v_calm, v_paper, rfl, rfl, g00, h_chart, h_calm, h_paper, hm⟩ := h
    have sc := sc__law_strange
    have g0 := Gw.refl g00
    unfold m__law_strange at hm
    refine ⟨_, (pss_cons (ps_set (i := 4) sc.nd rfl (Or.inl rfl) (pe_callB call_len_seq (by rfl) G.len PySem.boot_len (pa_cons (pv 1) pa_nil)))
      (pss_cons (ps_set (i := 5) sc.nd rfl (Or.inl rfl) (pe_callB call_len_str (by rfl) G.len PySem.boot_len (pa_cons (pe_ix ix_tup (pv 1) pe_int (fun _ _ => rfl)) pa_nil)))
      (pss_cons (ps_set (i := 6) sc.nd rfl (Or.inl rfl) (pe_user H__law_take (hr.mono (by decide)) rfl (pa_cons (pv 0) (pa_cons (pv 4) pa_nil))))
      (pss_cons (ps_set (i := 7) sc.nd rfl (Or.inl rfl) (pe_user H__law_take (hr.mono (by decide)) rfl (pa_cons (pv 0) (pa_cons (pv 5) pa_nil))))
      (pss_cons (ps_set (i := 8) sc.nd rfl (Or.inl rfl) (pe_user H__law_set (hr.mono (by decide)) rfl (pa_cons (pv 2) (pa_cons (pe_tup (pa_cons (pv 6) (pa_cons (pv 7) pa_nil))) (pa_cons (pe_ifExp (pt_val (pe_user H__law_at (hr.mono (by decide)) rfl (pa_cons (pv 2) (pa_cons (pe_tup (pa_cons (pv 6) (pa_cons (pv 7) pa_nil))) pa_nil)))) pe_str pe_str) pa_nil)))))
      (pss_cons (ps_set (i := 9) sc.nd rfl (Or.inl rfl) (pe_lst (pa_cons (pe_tup (pa_cons (pv 2) (pa_cons (pe_lst pa_nil) pa_nil))) (pa_cons (pe_tup (pa_cons (pv 1) (pa_cons (pe_lst pa_nil) pa_nil))) (pa_cons (pe_tup (pa_cons (pv 1) (pa_cons (pv 3) pa_nil))) (pa_cons (pe_tup (pa_cons (pv 8) (pa_cons (pv 3) pa_nil))) (pa_cons (pe_tup (pa_cons (pv 8) (pa_cons (pe_op op_cat (pv 3) (pe_lst (pa_cons (pe_tup (pa_cons (pv 6) (pa_cons (pv 7) pa_nil))) pa_nil))) pa_nil))) pa_nil)))))))
      (pss_cons (ps_set (i := 10) sc.nd rfl (Or.inl rfl) (pe_lst (pa_cons (pe_tup (pa_cons (pe_un un_neg pe_int) (pa_cons (pv 7) pa_nil))) (pa_cons (pe_tup (pa_cons (pv 4) (pa_cons (pv 7) pa_nil))) (pa_cons (pe_tup (pa_cons (pv 6) (pa_cons (pe_un un_neg pe_int) pa_nil))) (pa_cons (pe_tup (pa_cons (pv 6) (pa_cons (pv 5) pa_nil))) (pa_cons (pe_tup (pa_cons (pe_op op_add (pe_op op_pow pe_int pe_int) (pv 6)) (pa_cons (pv 7) pa_nil))) (pa_cons (pe_tup (pa_cons (pv 6) (pa_cons (pe_op op_sub (pv 7) (pe_op op_pow pe_int pe_int)) pa_nil))) (pa_cons (pe_tup (pa_cons (pe_op op_sub (pv 6) (pv 4)) (pa_cons (pe_op op_sub (pv 7) (pv 5)) pa_nil))) pa_nil)))))))))
      (pss_cons (ps_for PassesOwn.never rfl (pi_range1 rfl G.range (pa_cons pe_int pa_nil)) (pg_name (i := 11) sc.nd rfl (Or.inl rfl))
      (pss_cons (ps_set (i := 12) sc.nd rfl (Or.inl rfl) (pe_user H__law_take (hr.mono (by decide)) rfl (pa_cons (pv 0) (pa_cons (pe_op op_add (pe_callB call_len_seq (by rfl) G.len PySem.boot_len (pa_cons (pv 3) pa_nil)) pe_int) pa_nil))))
      (pss_one (ps_expr (pe_bm PySem.F.plainAttrs_list PySem.F.slot_list_append PySem.F.type_list_append mt_append (pv 9) (pa_cons (pe_tup (pa_cons (pv 2) (pa_cons (pe_op op_cat (pe_op op_cat (pe_slice sl_list (pv 3) po_none (po_some (pv 12))) (pe_lst (pa_cons (pe_user H__law_pick (hr.mono (by decide)) rfl (pa_cons (pv 0) (pa_cons (pv 10) pa_nil))) pa_nil))) (pe_slice sl_list (pv 3) (po_some (pv 12)) po_none)) pa_nil))) pa_nil))))))
      (pss_cons (ps_set (i := 12) sc.nd rfl (Or.inl rfl) (pe_user H__law_take (hr.mono (by decide)) rfl (pa_cons (pv 0) (pa_cons (pe_op op_add (pe_callB call_len_seq (by rfl) G.len PySem.boot_len (pa_cons (pv 3) pa_nil)) pe_int) pa_nil))))
      (pss_cons (ps_setLc (i := 13) (own := [("spot", 17)]) (g := gName 17) rfl sc.nd rfl rfl (sw_true rfl rfl rfl (by decide +kernel)) (pi_list (pe_user H__law_all (hr.mono (by decide)) rfl (pa_cons (pv 1) pa_nil))) (blkOk_by (N := N__law_strange) (sc := defScope s__law_strange) (by decide +kernel)) (fun _ _ _ _ _ => (pg_name (i := 17) sc.nd rfl (Or.inl rfl))) (fun _ _ _ _ _ => (pts_one (pt_not (pt_val (pe_user H__law_at (hr.mono (by decide)) rfl (pa_cons (pv 1) (pa_cons (pv 17) pa_nil))))))) (fun _ _ _ _ _ => (pv 17)))
      (pss_cons (ps_if (pt_cmpR op_gt (pe_callB call_len_seq (by rfl) G.len PySem.boot_len (pa_cons (pv 13) pa_nil)) pe_int (nomark _)) (pss_one (ps_expr (pe_bm PySem.F.plainAttrs_list PySem.F.slot_list_append PySem.F.type_list_append mt_append (pv 9) (pa_cons (pe_tup (pa_cons (pv 2) (pa_cons (pe_op op_cat (pe_op op_cat (pe_slice sl_list (pv 3) po_none (po_some (pv 12))) (pe_lst (pa_cons (pe_user H__law_pick (hr.mono (by decide)) rfl (pa_cons (pv 0) (pa_cons (pv 13) pa_nil))) pa_nil))) (pe_slice sl_list (pv 3) (po_some (pv 12)) po_none)) pa_nil))) pa_nil)))) pss_nil)
      (pss_cons (ps_set (i := 14) sc.nd rfl (Or.inl rfl) (pe_user H__law_dry (hr.mono (by decide)) rfl (pa_cons (pv 2) pa_nil)))
      (pss_cons (ps_setLc (i := 15) (own := [("spot", 17)]) (g := gName 17) rfl sc.nd rfl rfl (sw_true rfl rfl rfl (by decide +kernel)) (pi_list (pv 14)) (blkOk_by (N := N__law_strange) (sc := defScope s__law_strange) (by decide +kernel)) (fun _ _ _ _ _ => (pg_name (i := 17) sc.nd rfl (Or.inl rfl))) (fun _ _ _ _ _ => (pts_one (pt_cmpR op_eq (pe_user H__law_beside (hr.mono (by decide)) rfl (pa_cons (pv 2) (pa_cons (pv 17) pa_nil))) pe_int (nomark _)))) (fun _ _ _ _ _ => (pv 17)))
      (pss_cons (ps_for PassesOwn.never rfl (pi_list (pe_lst (pa_cons (pv 14) (pa_cons (pv 15) pa_nil)))) (pg_name (i := 16) sc.nd rfl (Or.inl rfl))
      (pss_one (ps_if (pt_cmpR op_gt (pe_callB call_len_seq (by rfl) G.len PySem.boot_len (pa_cons (pv 16) pa_nil)) pe_int (nomark _)) (pss_cons (ps_set (i := 17) sc.nd rfl (Or.inl rfl) (pe_user H__law_pick (hr.mono (by decide)) rfl (pa_cons (pv 0) (pa_cons (pv 16) pa_nil))))
      (pss_cons (ps_set (i := 18) sc.nd rfl (Or.inl rfl) (pe_user H__law_set (hr.mono (by decide)) rfl (pa_cons (pv 2) (pa_cons (pv 17) (pa_cons pe_str pa_nil)))))
      (pss_one (ps_set (i := 9) sc.nd rfl (Or.inl rfl) (pe_op op_cat (pv 9) (pe_lst (pa_cons (pe_tup (pa_cons (pv 18) (pa_cons (pe_op op_cat (pv 3) (pe_lst (pa_cons (pv 17) pa_nil))) pa_nil))) (pa_cons (pe_tup (pa_cons (pv 18) (pa_cons (pe_op op_cat (pe_lst (pa_cons (pv 17) pa_nil)) (pv 3)) pa_nil))) (pa_cons (pe_tup (pa_cons (pv 2) (pa_cons (pe_op op_cat (pv 3) (pe_lst (pa_cons (pv 17) pa_nil))) pa_nil))) pa_nil))))))))) pss_nil)))
      (pss_one (ps_ret (pv 9))))))))))))))))), ?_⟩
    refine q_asg (W := W0) (ew_lenT (ew_var rfl h_chart)) g0.ok hm fun a1_rows v_rows W1 g1 h_rows hm => ?_
    have h_chart := PyI.st g1.st h_chart
    have h_calm := PyI.st g1.st h_calm
    have h_paper := PyI.st g1.st h_paper
    have g0 := g0.trans g1
    refine q_asg (W := W1) (ew_lenS (ew_ixT (ew_var rfl h_chart) ew_int)) g0.ok hm fun a2_columns v_columns W2 g2 h_columns hm => ?_
    have h_chart := PyI.st g2.st h_chart
    have h_calm := PyI.st g2.st h_calm
    have h_paper := PyI.st g2.st h_paper
    have h_rows := PyI.st g2.st h_rows
    have g0 := g0.trans g2
    refine q_asg (W := W2) (ev_take (ew_deal rfl) (ew_var rfl h_rows)) g0.ok hm fun a3_r v_r W3 g3 h_r hm => ?_
    have h_chart := PyI.st g3.st h_chart
    have h_calm := PyI.st g3.st h_calm
    have h_paper := PyI.st g3.st h_paper
    have h_rows := PyI.st g3.st h_rows
    have h_columns := PyI.st g3.st h_columns
    have g0 := g0.trans g3
    refine q_asg (W := W3) (ev_take (ew_deal rfl) (ew_var rfl h_columns)) g0.ok hm fun a4_c v_c W4 g4 h_c hm => ?_
    have h_chart := PyI.st g4.st h_chart
    have h_calm := PyI.st g4.st h_calm
    have h_paper := PyI.st g4.st h_paper
    have h_rows := PyI.st g4.st h_rows
    have h_columns := PyI.st g4.st h_columns
    have h_r := PyI.st g4.st h_r
    have g0 := g0.trans g4
    refine q_asg (W := W4) (ev__law_set (ew_var rfl h_calm) (ew_pair (ew_var rfl h_r) (ew_var rfl h_c)) (ew_ifE (et_B (ev__law_at (ew_var rfl h_calm) (ew_pair (ew_var rfl h_r) (ew_var rfl h_c)))) ew_str ew_str)) g0.ok hm fun a5_other v_other W5 g5 h_other hm => ?_
    have h_chart := PyI.st g5.st h_chart
    have h_calm := PyI.st g5.st h_calm
    have h_paper := PyI.st g5.st h_paper
    have h_rows := PyI.st g5.st h_rows
    have h_columns := PyI.st g5.st h_columns
    have h_r := PyI.st g5.st h_r
    have h_c := PyI.st g5.st h_c
    have g0 := g0.trans g5
    refine q_asg (W := W5) (ew_lst (eas_cons (ew_pair (ew_var rfl h_calm) (ew_frz (ew_lst (eas_nil (α := Sq))))) (eas_cons (ew_pair (ew_var rfl h_chart) (ew_frz (ew_lst (eas_nil (α := Sq))))) (eas_cons (ew_pair (ew_var rfl h_chart) (ew_var rfl h_paper)) (eas_cons (ew_pair (ew_var rfl h_other) (ew_var rfl h_paper)) (eas_cons (ew_pair (ew_var rfl h_other) (ew_frz (ew_cat (ew_ls (ew_var rfl h_paper)) (ew_rd (ew_lst (eas_cons (ew_pair (ew_var rfl h_r) (ew_var rfl h_c)) (eas_nil (α := Sq)))))))) (eas_nil (α := ((List Str) × (Ls Sq)))))))))) g0.ok hm fun a6_papers v_papers W6 g6 ⟨fp_papers, ho0_papers, hf_papers⟩ hm => ?_
    have hz_papers : ∀ a ∈ fp_papers, W0.H a = none := fun a m => g0.live a (hf_papers a m).1
    have h_chart := PyI.st g6.st h_chart
    have h_calm := PyI.st g6.st h_calm
    have h_paper := PyI.st g6.st h_paper
    have h_rows := PyI.st g6.st h_rows
    have h_columns := PyI.st g6.st h_columns
    have h_r := PyI.st g6.st h_r
    have h_c := PyI.st g6.st h_c
    have h_other := PyI.st g6.st h_other
    have g0 := g0.trans g6
    have ho_papers : Var (kL ((List Str) × (Ls Sq))) W0 W6 fp_papers a6_papers v_papers := ⟨ho0_papers, hz_papers, fun b m => (hf_papers b m).2.2⟩
    refine q_asg (W := W6) (ew_lst (eas_cons (ew_pair (ew_neg ew_int) (ew_var rfl h_c)) (eas_cons (ew_pair (ew_var rfl h_rows) (ew_var rfl h_c)) (eas_cons (ew_pair (ew_var rfl h_r) (ew_neg ew_int)) (eas_cons (ew_pair (ew_var rfl h_r) (ew_var rfl h_columns)) (eas_cons (ew_pair (ew_add (ew_pow ew_int ew_int) (ew_var rfl h_r)) (ew_var rfl h_c)) (eas_cons (ew_pair (ew_var rfl h_r) (ew_sub (ew_var rfl h_c) (ew_pow ew_int ew_int))) (eas_cons (ew_pair (ew_sub (ew_var rfl h_r) (ew_var rfl h_rows)) (ew_sub (ew_var rfl h_c) (ew_var rfl h_columns))) (eas_nil (α := Sq)))))))))) g0.ok hm fun a7_beyond v_beyond W7 g7 ⟨fp_beyond, ho0_beyond, hf_beyond⟩ hm => ?_
    have dj_papers_beyond : ∀ b ∈ fp_papers, b ∉ fp_beyond := fun b m z => (kL ((List Str) × (Ls Sq))).live ho_papers.own b m (hf_beyond b z).1
    have hz_beyond : ∀ a ∈ fp_beyond, W0.H a = none := fun a m => g0.live a (hf_beyond a m).1
    have h_chart := PyI.st g7.st h_chart
    have h_calm := PyI.st g7.st h_calm
    have h_paper := PyI.st g7.st h_paper
    have h_rows := PyI.st g7.st h_rows
    have h_columns := PyI.st g7.st h_columns
    have h_r := PyI.st g7.st h_r
    have h_c := PyI.st g7.st h_c
    have h_other := PyI.st g7.st h_other
    have ho_papers := ho_papers.go g00 g7
    have g0 := g0.trans g7
    have ho_beyond : Var (kL Sq) W0 W7 fp_beyond a7_beyond v_beyond := ⟨ho0_beyond, hz_beyond, fun b m => (hf_beyond b m).2.2⟩
    refine q_forR1 (W := W7) ew_int g0.ok hm fun W8 g8 => ?_
    have h_chart := PyI.st g8.st h_chart
    have h_calm := PyI.st g8.st h_calm
    have h_paper := PyI.st g8.st h_paper
    have h_rows := PyI.st g8.st h_rows
    have h_columns := PyI.st g8.st h_columns
    have h_r := PyI.st g8.st h_r
    have h_c := PyI.st g8.st h_c
    have h_other := PyI.st g8.st h_other
    have ho_papers := ho_papers.go g00 g8
    have ho_beyond := ho_beyond.go g00 g8
    have g0 := g0.trans g8
    refine ⟨fun y σ' W' => ∃ (v_papers : V) (fp_papers : List Addr) (o_turn : Option V) (o_k : Option V), σ' = [some (.ref d.p), some v_chart, some v_calm, some v_paper, some v_rows, some v_columns, some v_r, some v_c, some v_other, some v_papers, some v_beyond, o_turn, o_k, none, none, none, none, none, none] ∧ Gw (efD d) W0 W' ∧ St W8 W' ∧ Var (kL ((List Str) × (Ls Sq))) W0 W' fp_papers y v_papers ∧ Var (kL Sq) W0 W' fp_beyond a7_beyond v_beyond ∧ (∀ b ∈ fp_papers, b ∉ fp_beyond), ⟨v_papers, fp_papers, _, _, rfl, g0, (St.refl _), ho_papers, ho_beyond, dj_papers_beyond⟩, fun c8 y8 σi s2 Wi8 R8 nx8 ht hI hm kn8 kb8 kr8 => ?_, fun z8 σi Wi8 hI hm => ?_⟩
    ·
      obtain ⟨v_papers, fp_papers, o_turn, o_k, rfl, g0, sl8, ho_papers, ho_beyond, dj_papers_beyond⟩ := hI
      have h_chart := PyI.st sl8 h_chart
      have h_calm := PyI.st sl8 h_calm
      have h_paper := PyI.st sl8 h_paper
      have h_rows := PyI.st sl8 h_rows
      have h_columns := PyI.st sl8 h_columns
      have h_r := PyI.st sl8 h_r
      have h_c := PyI.st sl8 h_c
      have h_other := PyI.st sl8 h_other
      obtain ⟨v_turn, rfl, h_turn⟩ := ht
      refine q_asg (W := Wi8) (ev_take (ew_deal rfl) (ew_add (ew_lenL (ew_ls (ew_var rfl h_paper))) ew_int)) g0.ok hm fun a9_k v_k W9 g9 h_k hm => ?_
      have h_chart := PyI.st g9.st h_chart
      have h_calm := PyI.st g9.st h_calm
      have h_paper := PyI.st g9.st h_paper
      have h_rows := PyI.st g9.st h_rows
      have h_columns := PyI.st g9.st h_columns
      have h_r := PyI.st g9.st h_r
      have h_c := PyI.st g9.st h_c
      have h_other := PyI.st g9.st h_other
      have ho_papers := ho_papers.go g00 g9
      have ho_beyond := ho_beyond.go g00 g9
      have h_turn := PyI.st g9.st h_turn
      have sl8 := sl8.trans g9.st
      have g0 := g0.trans g9
      refine st_app (W := W9) g00 g0 rfl ho_papers (ew_pair (ew_var rfl h_calm) (ew_frz (ew_cat (ew_rd (ew_cat (ew_rd (ew_slL (ew_ls (ew_var rfl h_paper)) eo_none (eo_some (ew_var rfl h_k)))) (ew_rd (ew_lst (eas_cons (ev__law_pick (ew_deal rfl) (ew_varR rfl (Var.nS g00 ho_beyond) ho_beyond.own)) (eas_nil (α := Sq))))))) (ew_rd (ew_slL (ew_ls (ew_var rfl h_paper)) (eo_some (ew_var rfl h_k)) eo_none))))) hm fun a10_papers W10_ W10 l_papers el_papers g10 s g02 kk ff ho_papers hm => ?_
      have h_chart := PyI.st g10.st h_chart
      have h_calm := PyI.st g10.st h_calm
      have h_paper := PyI.st g10.st h_paper
      have h_rows := PyI.st g10.st h_rows
      have h_columns := PyI.st g10.st h_columns
      have h_r := PyI.st g10.st h_r
      have h_c := PyI.st g10.st h_c
      have h_other := PyI.st g10.st h_other
      have ho_beyond := ho_beyond.go g00 g10
      have h_turn := PyI.st g10.st h_turn
      have h_k := PyI.st g10.st h_k
      have sl8 := sl8.trans g10.st
      have g0 := g0.trans g10
      have h_chart := PyI.st s h_chart
      have h_calm := PyI.st s h_calm
      have h_paper := PyI.st s h_paper
      have h_rows := PyI.st s h_rows
      have h_columns := PyI.st s h_columns
      have h_r := PyI.st s h_r
      have h_c := PyI.st s h_c
      have h_other := PyI.st s h_other
      have ho_beyond := ho_beyond.kept s kk ff (fun b m z => dj_papers_beyond b z m)
      have h_turn := PyI.st s h_turn
      have h_k := PyI.st s h_k
      have sl8 := sl8.trans s
      have g0 := g02
      exact kn8 a10_papers _ W10 ⟨v_papers, fp_papers, _, _, rfl, g0, sl8, ho_papers, ho_beyond, dj_papers_beyond⟩ hm
    ·
      obtain ⟨v_papers, fp_papers, o_turn, o_k, rfl, g0, sl8, ho_papers, ho_beyond, dj_papers_beyond⟩ := hI
      have h_chart := PyI.st sl8 h_chart
      have h_calm := PyI.st sl8 h_calm
      have h_paper := PyI.st sl8 h_paper
      have h_rows := PyI.st sl8 h_rows
      have h_columns := PyI.st sl8 h_columns
      have h_r := PyI.st sl8 h_r
      have h_c := PyI.st sl8 h_c
      have h_other := PyI.st sl8 h_other
      refine q_asg (W := Wi8) (ev_take (ew_deal rfl) (ew_add (ew_lenL (ew_ls (ew_var rfl h_paper))) ew_int)) g0.ok hm fun a11_k v_k W11 g11 h_k hm => ?_
      have h_chart := PyI.st g11.st h_chart
      have h_calm := PyI.st g11.st h_calm
      have h_paper := PyI.st g11.st h_paper
      have h_rows := PyI.st g11.st h_rows
      have h_columns := PyI.st g11.st h_columns
      have h_r := PyI.st g11.st h_r
      have h_c := PyI.st g11.st h_c
      have h_other := PyI.st g11.st h_other
      have ho_papers := ho_papers.go g00 g11
      have ho_beyond := ho_beyond.go g00 g11
      have g0 := g0.trans g11
      refine q_asg (W := W11) (ew_lcL (ew_rd (ev__law_all (ew_var rfl h_chart))) takes_N (fun _ _ _ h => by obtain ⟨v_spot, ec, h_spot⟩ := h; subst ec; rfl) (fun c1 Wc1 s2 gc1 h => by obtain ⟨v_spot, ec, h_spot⟩ := h; subst ec; have h_chart := PyI.st gc1.st h_chart; exact (et_not (et_B (ev__law_at (ew_var rfl h_chart) (ew_var rfl h_spot))))) (fun c1 Wc1 s2 gc1 h => by obtain ⟨v_spot, ec, h_spot⟩ := h; subst ec; have h_chart := PyI.st gc1.st h_chart; exact (ew_var rfl h_spot))) g0.ok hm fun a12_wet v_wet W12 g12 ⟨fp_wet, ho0_wet, hf_wet⟩ hm => ?_
      have dj_papers_wet : ∀ b ∈ fp_papers, b ∉ fp_wet := fun b m z => (kL ((List Str) × (Ls Sq))).live ho_papers.own b m (hf_wet b z).1
      have dj_beyond_wet : ∀ b ∈ fp_beyond, b ∉ fp_wet := fun b m z => (kL Sq).live ho_beyond.own b m (hf_wet b z).1
      have hz_wet : ∀ a ∈ fp_wet, W0.H a = none := fun a m => g0.live a (hf_wet a m).1
      have h_chart := PyI.st g12.st h_chart
      have h_calm := PyI.st g12.st h_calm
      have h_paper := PyI.st g12.st h_paper
      have h_rows := PyI.st g12.st h_rows
      have h_columns := PyI.st g12.st h_columns
      have h_r := PyI.st g12.st h_r
      have h_c := PyI.st g12.st h_c
      have h_other := PyI.st g12.st h_other
      have ho_papers := ho_papers.go g00 g12
      have ho_beyond := ho_beyond.go g00 g12
      have h_k := PyI.st g12.st h_k
      have g0 := g0.trans g12
      have ho_wet : Var (kL Sq) W0 W12 fp_wet a12_wet v_wet := ⟨ho0_wet, hz_wet, fun b m => (hf_wet b m).2.2⟩
      refine q_join (W := W12) (s := (List ((List Str) × (Ls Sq)))) (fun y σ' W' => ∃ (v_papers : V) (fp_papers : List Addr), σ' = [some (.ref d.p), some v_chart, some v_calm, some v_paper, some v_rows, some v_columns, some v_r, some v_c, some v_other, some v_papers, some v_beyond, o_turn, some v_k, some v_wet, none, none, none, none, none] ∧ Gw (efD d) W0 W' ∧ St W12 W' ∧ Var (kL ((List Str) × (Ls Sq))) W0 W' fp_papers y v_papers ∧ Var (kL Sq) W0 W' fp_beyond a7_beyond v_beyond ∧ Var (kL Sq) W0 W' fp_wet a12_wet v_wet ∧ (∀ b ∈ fp_papers, b ∉ fp_beyond) ∧ (∀ b ∈ fp_papers, b ∉ fp_wet)) (et_t (ew_gt (ew_lenL (ew_varR rfl (Var.nS g00 ho_wet) ho_wet.own)) ew_int)) g0.ok hm (fun y13 σj Wj13 hI hm => ?_) (fun W13 R13 g13 hm kj => ?_) (fun W13 R13 g13 hm kj => ?_)
      ·
        obtain ⟨v_papers, fp_papers, rfl, g0, sj13, ho_papers, ho_beyond, ho_wet, dj_papers_beyond, dj_papers_wet⟩ := hI
        have h_chart := PyI.st sj13 h_chart
        have h_calm := PyI.st sj13 h_calm
        have h_paper := PyI.st sj13 h_paper
        have h_rows := PyI.st sj13 h_rows
        have h_columns := PyI.st sj13 h_columns
        have h_r := PyI.st sj13 h_r
        have h_c := PyI.st sj13 h_c
        have h_other := PyI.st sj13 h_other
        have h_k := PyI.st sj13 h_k
        refine q_asg (W := Wj13) (ev__law_dry (ew_var rfl h_calm)) g0.ok hm fun a14_dry v_dry W14 g14 ⟨fp_dry, ho0_dry, hf_dry⟩ hm => ?_
        have dj_papers_dry : ∀ b ∈ fp_papers, b ∉ fp_dry := fun b m z => (kL ((List Str) × (Ls Sq))).live ho_papers.own b m (hf_dry b z).1
        have dj_beyond_dry : ∀ b ∈ fp_beyond, b ∉ fp_dry := fun b m z => (kL Sq).live ho_beyond.own b m (hf_dry b z).1
        have dj_wet_dry : ∀ b ∈ fp_wet, b ∉ fp_dry := fun b m z => (kL Sq).live ho_wet.own b m (hf_dry b z).1
        have hz_dry : ∀ a ∈ fp_dry, W0.H a = none := fun a m => g0.live a (hf_dry a m).1
        have h_chart := PyI.st g14.st h_chart
        have h_calm := PyI.st g14.st h_calm
        have h_paper := PyI.st g14.st h_paper
        have h_rows := PyI.st g14.st h_rows
        have h_columns := PyI.st g14.st h_columns
        have h_r := PyI.st g14.st h_r
        have h_c := PyI.st g14.st h_c
        have h_other := PyI.st g14.st h_other
        have ho_papers := ho_papers.go g00 g14
        have ho_beyond := ho_beyond.go g00 g14
        have h_k := PyI.st g14.st h_k
        have ho_wet := ho_wet.go g00 g14
        have g0 := g0.trans g14
        have ho_dry : Var (kL Sq) W0 W14 fp_dry a14_dry v_dry := ⟨ho0_dry, hz_dry, fun b m => (hf_dry b m).2.2⟩
        refine q_asg (W := W14) (ew_lcL (ew_varR rfl (Var.nS g00 ho_dry) ho_dry.own) takes_N (fun _ _ _ h => by obtain ⟨v_spot, ec, h_spot⟩ := h; subst ec; rfl) (fun c2 Wc2 s2 gc2 h => by obtain ⟨v_spot, ec, h_spot⟩ := h; subst ec; have h_calm := PyI.st gc2.st h_calm; have ho_dry := ho_dry.go g00 gc2; exact (et_t (ew_eq (ev__law_beside (ew_var rfl h_calm) (ew_var rfl h_spot)) ew_int))) (fun c2 Wc2 s2 gc2 h => by obtain ⟨v_spot, ec, h_spot⟩ := h; subst ec; have h_calm := PyI.st gc2.st h_calm; have ho_dry := ho_dry.go g00 gc2; exact (ew_var rfl h_spot))) g0.ok hm fun a15_edge v_edge W15 g15 ⟨fp_edge, ho0_edge, hf_edge⟩ hm => ?_
        have dj_papers_edge : ∀ b ∈ fp_papers, b ∉ fp_edge := fun b m z => (kL ((List Str) × (Ls Sq))).live ho_papers.own b m (hf_edge b z).1
        have dj_beyond_edge : ∀ b ∈ fp_beyond, b ∉ fp_edge := fun b m z => (kL Sq).live ho_beyond.own b m (hf_edge b z).1
        have dj_wet_edge : ∀ b ∈ fp_wet, b ∉ fp_edge := fun b m z => (kL Sq).live ho_wet.own b m (hf_edge b z).1
        have dj_dry_edge : ∀ b ∈ fp_dry, b ∉ fp_edge := fun b m z => (kL Sq).live ho_dry.own b m (hf_edge b z).1
        have hz_edge : ∀ a ∈ fp_edge, W0.H a = none := fun a m => g0.live a (hf_edge a m).1
        have h_chart := PyI.st g15.st h_chart
        have h_calm := PyI.st g15.st h_calm
        have h_paper := PyI.st g15.st h_paper
        have h_rows := PyI.st g15.st h_rows
        have h_columns := PyI.st g15.st h_columns
        have h_r := PyI.st g15.st h_r
        have h_c := PyI.st g15.st h_c
        have h_other := PyI.st g15.st h_other
        have ho_papers := ho_papers.go g00 g15
        have ho_beyond := ho_beyond.go g00 g15
        have h_k := PyI.st g15.st h_k
        have ho_wet := ho_wet.go g00 g15
        have ho_dry := ho_dry.go g00 g15
        have g0 := g0.trans g15
        have ho_edge : Var (kL Sq) W0 W15 fp_edge a15_edge v_edge := ⟨ho0_edge, hz_edge, fun b m => (hf_edge b m).2.2⟩
        obtain ⟨gf, sf, h_dry⟩ := frz_own g00 g0 ho_dry
        have h_chart := PyI.st sf h_chart
        have h_calm := PyI.st sf h_calm
        have h_paper := PyI.st sf h_paper
        have h_rows := PyI.st sf h_rows
        have h_columns := PyI.st sf h_columns
        have h_r := PyI.st sf h_r
        have h_c := PyI.st sf h_c
        have h_other := PyI.st sf h_other
        have ho_papers := ho_papers.frzd dj_papers_dry
        have ho_beyond := ho_beyond.frzd dj_beyond_dry
        have h_k := PyI.st sf h_k
        have ho_wet := ho_wet.frzd dj_wet_dry
        have ho_edge := ho_edge.frzd (fun b m z => dj_dry_edge b z m)
        have g0 := gf
        obtain ⟨gf, sf, h_edge⟩ := frz_own g00 g0 ho_edge
        have h_chart := PyI.st sf h_chart
        have h_calm := PyI.st sf h_calm
        have h_paper := PyI.st sf h_paper
        have h_rows := PyI.st sf h_rows
        have h_columns := PyI.st sf h_columns
        have h_r := PyI.st sf h_r
        have h_c := PyI.st sf h_c
        have h_other := PyI.st sf h_other
        have ho_papers := ho_papers.frzd dj_papers_edge
        have ho_beyond := ho_beyond.frzd dj_beyond_edge
        have h_k := PyI.st sf h_k
        have ho_wet := ho_wet.frzd dj_wet_edge
        have h_dry := PyI.st sf h_dry
        have g0 := gf
        refine q_forN (W := ((W15.frz fp_dry).frz fp_edge)) tk_N (ew_lst (eas_cons (ew_var rfl h_dry) (eas_cons (ew_var rfl h_edge) (eas_nil (α := (Ls Sq)))))) g0.ok hm fun xs16 p_it16 vs_it16 W16 g16 hn_it16 hF_it16 hp_it16 hr_it16 => ?_
        have dj_it16_papers : ∀ b ∈ [p_it16], b ∉ fp_papers := fun b m z => by cases mem_one m; exact (kL ((List Str) × (Ls Sq))).live ho_papers.own _ z hn_it16
        have dj_it16_beyond : ∀ b ∈ [p_it16], b ∉ fp_beyond := fun b m z => by cases mem_one m; exact (kL Sq).live ho_beyond.own _ z hn_it16
        have dj_it16_wet : ∀ b ∈ [p_it16], b ∉ fp_wet := fun b m z => by cases mem_one m; exact (kL Sq).live ho_wet.own _ z hn_it16
        have nS_it16 : ¬ (efD d).S p_it16 := fun z => g0.ok.S _ z hn_it16
        have h_chart := PyI.st g16.st h_chart
        have h_calm := PyI.st g16.st h_calm
        have h_paper := PyI.st g16.st h_paper
        have h_rows := PyI.st g16.st h_rows
        have h_columns := PyI.st g16.st h_columns
        have h_r := PyI.st g16.st h_r
        have h_c := PyI.st g16.st h_c
        have h_other := PyI.st g16.st h_other
        have ho_papers := ho_papers.go g00 g16
        have ho_beyond := ho_beyond.go g00 g16
        have h_k := PyI.st g16.st h_k
        have ho_wet := ho_wet.go g00 g16
        have h_dry := PyI.st g16.st h_dry
        have h_edge := PyI.st g16.st h_edge
        have g0 := g0.trans g16
        refine ⟨fun y σ' W' => ∃ (v_papers : V) (fp_papers : List Addr) (o_row : Option V) (o_spot : Option V) (o_less : Option V), σ' = [some (.ref d.p), some v_chart, some v_calm, some v_paper, some v_rows, some v_columns, some v_r, some v_c, some v_other, some v_papers, some v_beyond, o_turn, some v_k, some v_wet, some v_dry, some v_edge, o_row, o_spot, o_less] ∧ Gw (efD d) W0 W' ∧ St W16 W' ∧ Var (kL ((List Str) × (Ls Sq))) W0 W' fp_papers y v_papers ∧ Var (kL Sq) W0 W' fp_beyond a7_beyond v_beyond ∧ Var (kL Sq) W0 W' fp_wet a12_wet v_wet ∧ W'.H p_it16 = some (.lst vs_it16) ∧ (∀ b ∈ [p_it16], b ∉ fp_papers) ∧ (∀ b ∈ fp_papers, b ∉ fp_beyond) ∧ (∀ b ∈ fp_papers, b ∉ fp_wet), ⟨v_papers, fp_papers, _, _, _, rfl, g0, (St.refl _), ho_papers, ho_beyond, ho_wet, hp_it16, dj_it16_papers, dj_papers_beyond, dj_papers_wet⟩, fun _ _ _ hI => ?_, fun c16 y16 σi s2 Wi16 R16 nx16 ht hI hm kn16 kb16 kr16 => ?_, fun z16 σi Wi16 hI hm => ?_⟩
        · obtain ⟨v_papers, fp_papers, o_row, o_spot, o_less, rfl, g0, sl16, ho_papers, ho_beyond, ho_wet, hp_it16, dj_it16_papers, dj_papers_beyond, dj_papers_wet⟩ := hI
          exact ⟨sl16, hp_it16⟩
        ·
          obtain ⟨v_papers, fp_papers, o_row, o_spot, o_less, rfl, g0, sl16, ho_papers, ho_beyond, ho_wet, hp_it16, dj_it16_papers, dj_papers_beyond, dj_papers_wet⟩ := hI
          have h_chart := PyI.st sl16 h_chart
          have h_calm := PyI.st sl16 h_calm
          have h_paper := PyI.st sl16 h_paper
          have h_rows := PyI.st sl16 h_rows
          have h_columns := PyI.st sl16 h_columns
          have h_r := PyI.st sl16 h_r
          have h_c := PyI.st sl16 h_c
          have h_other := PyI.st sl16 h_other
          have h_k := PyI.st sl16 h_k
          have h_dry := PyI.st sl16 h_dry
          have h_edge := PyI.st sl16 h_edge
          obtain ⟨v_row, rfl, h_row⟩ := ht
          refine st_join (W := Wi16) (s := (List ((List Str) × (Ls Sq)))) (fun y σ' W' => ∃ (v_papers : V) (fp_papers : List Addr) (o_spot : Option V) (o_less : Option V), σ' = [some (.ref d.p), some v_chart, some v_calm, some v_paper, some v_rows, some v_columns, some v_r, some v_c, some v_other, some v_papers, some v_beyond, o_turn, some v_k, some v_wet, some v_dry, some v_edge, some v_row, o_spot, o_less] ∧ Gw (efD d) W0 W' ∧ St Wi16 W' ∧ Var (kL ((List Str) × (Ls Sq))) W0 W' fp_papers y v_papers ∧ Var (kL Sq) W0 W' fp_beyond a7_beyond v_beyond ∧ Var (kL Sq) W0 W' fp_wet a12_wet v_wet ∧ W'.H p_it16 = some (.lst vs_it16) ∧ (∀ b ∈ [p_it16], b ∉ fp_papers) ∧ (∀ b ∈ fp_papers, b ∉ fp_beyond) ∧ (∀ b ∈ fp_papers, b ∉ fp_wet)) (et_t (ew_gt (ew_lenL (ew_ls (ew_var rfl h_row))) ew_int)) g0.ok hm (fun y17 σj Wj17 hI hm => ?_) (fun W17 R17 g17 hm kj => ?_) (fun W17 R17 g17 hm kj => ?_)
          ·
            obtain ⟨v_papers, fp_papers, o_spot, o_less, rfl, g0, sj17, ho_papers, ho_beyond, ho_wet, hp_it16, dj_it16_papers, dj_papers_beyond, dj_papers_wet⟩ := hI
            have h_chart := PyI.st sj17 h_chart
            have h_calm := PyI.st sj17 h_calm
            have h_paper := PyI.st sj17 h_paper
            have h_rows := PyI.st sj17 h_rows
            have h_columns := PyI.st sj17 h_columns
            have h_r := PyI.st sj17 h_r
            have h_c := PyI.st sj17 h_c
            have h_other := PyI.st sj17 h_other
            have h_k := PyI.st sj17 h_k
            have h_dry := PyI.st sj17 h_dry
            have h_edge := PyI.st sj17 h_edge
            have h_row := PyI.st sj17 h_row
            have sl16 := sl16.trans sj17
            exact kn16 y17 _ Wj17 ⟨v_papers, fp_papers, _, _, _, rfl, g0, sl16, ho_papers, ho_beyond, ho_wet, hp_it16, dj_it16_papers, dj_papers_beyond, dj_papers_wet⟩ hm
          ·
            have h_chart := PyI.st g17.st h_chart
            have h_calm := PyI.st g17.st h_calm
            have h_paper := PyI.st g17.st h_paper
            have h_rows := PyI.st g17.st h_rows
            have h_columns := PyI.st g17.st h_columns
            have h_r := PyI.st g17.st h_r
            have h_c := PyI.st g17.st h_c
            have h_other := PyI.st g17.st h_other
            have ho_papers := ho_papers.go g00 g17
            have ho_beyond := ho_beyond.go g00 g17
            have h_k := PyI.st g17.st h_k
            have ho_wet := ho_wet.go g00 g17
            have h_dry := PyI.st g17.st h_dry
            have h_edge := PyI.st g17.st h_edge
            have h_row := PyI.st g17.st h_row
            have sl16 := sl16.trans g17.st
            have hp_it16 := g17.keep _ _ hp_it16 nS_it16
            have g0 := g0.trans g17
            have sj17 := g17.st
            refine q_asg (W := W17) (ev__law_pick (ew_deal rfl) (ew_ls (ew_var rfl h_row))) g0.ok hm fun a18_spot v_spot W18 g18 h_spot hm => ?_
            have h_chart := PyI.st g18.st h_chart
            have h_calm := PyI.st g18.st h_calm
            have h_paper := PyI.st g18.st h_paper
            have h_rows := PyI.st g18.st h_rows
            have h_columns := PyI.st g18.st h_columns
            have h_r := PyI.st g18.st h_r
            have h_c := PyI.st g18.st h_c
            have h_other := PyI.st g18.st h_other
            have ho_papers := ho_papers.go g00 g18
            have ho_beyond := ho_beyond.go g00 g18
            have h_k := PyI.st g18.st h_k
            have ho_wet := ho_wet.go g00 g18
            have h_dry := PyI.st g18.st h_dry
            have h_edge := PyI.st g18.st h_edge
            have h_row := PyI.st g18.st h_row
            have sl16 := sl16.trans g18.st
            have sj17 := sj17.trans g18.st
            have hp_it16 := g18.keep _ _ hp_it16 nS_it16
            have g0 := g0.trans g18
            refine q_asg (W := W18) (ev__law_set (ew_var rfl h_calm) (ew_var rfl h_spot) ew_str) g0.ok hm fun a19_less v_less W19 g19 h_less hm => ?_
            have h_chart := PyI.st g19.st h_chart
            have h_calm := PyI.st g19.st h_calm
            have h_paper := PyI.st g19.st h_paper
            have h_rows := PyI.st g19.st h_rows
            have h_columns := PyI.st g19.st h_columns
            have h_r := PyI.st g19.st h_r
            have h_c := PyI.st g19.st h_c
            have h_other := PyI.st g19.st h_other
            have ho_papers := ho_papers.go g00 g19
            have ho_beyond := ho_beyond.go g00 g19
            have h_k := PyI.st g19.st h_k
            have ho_wet := ho_wet.go g00 g19
            have h_dry := PyI.st g19.st h_dry
            have h_edge := PyI.st g19.st h_edge
            have h_row := PyI.st g19.st h_row
            have h_spot := PyI.st g19.st h_spot
            have sl16 := sl16.trans g19.st
            have sj17 := sj17.trans g19.st
            have hp_it16 := g19.keep _ _ hp_it16 nS_it16
            have g0 := g0.trans g19
            refine st_asg (W := W19) (ew_cat (ew_varR rfl (Var.nS g00 ho_papers) ho_papers.own) (ew_rd (ew_lst (eas_cons (ew_pair (ew_var rfl h_less) (ew_frz (ew_cat (ew_ls (ew_var rfl h_paper)) (ew_rd (ew_lst (eas_cons (ew_var rfl h_spot) (eas_nil (α := Sq)))))))) (eas_cons (ew_pair (ew_var rfl h_less) (ew_frz (ew_cat (ew_rd (ew_lst (eas_cons (ew_var rfl h_spot) (eas_nil (α := Sq))))) (ew_ls (ew_var rfl h_paper))))) (eas_cons (ew_pair (ew_var rfl h_calm) (ew_frz (ew_cat (ew_ls (ew_var rfl h_paper)) (ew_rd (ew_lst (eas_cons (ew_var rfl h_spot) (eas_nil (α := Sq)))))))) (eas_nil (α := ((List Str) × (Ls Sq)))))))))) g0.ok hm fun a20_papers v_papers W20 g20 ⟨fp_papers, ho0_papers, hf_papers⟩ hm => ?_
            have dj_beyond_papers : ∀ b ∈ fp_beyond, b ∉ fp_papers := fun b m z => (kL Sq).live ho_beyond.own b m (hf_papers b z).1
            have dj_wet_papers : ∀ b ∈ fp_wet, b ∉ fp_papers := fun b m z => (kL Sq).live ho_wet.own b m (hf_papers b z).1
            have dj_it16_papers : ∀ b ∈ [p_it16], b ∉ fp_papers := fun b m z => by cases mem_one m; exact absurd (hf_papers _ z).1 (some_ne hp_it16)
            have hz_papers : ∀ a ∈ fp_papers, W0.H a = none := fun a m => g0.live a (hf_papers a m).1
            have h_chart := PyI.st g20.st h_chart
            have h_calm := PyI.st g20.st h_calm
            have h_paper := PyI.st g20.st h_paper
            have h_rows := PyI.st g20.st h_rows
            have h_columns := PyI.st g20.st h_columns
            have h_r := PyI.st g20.st h_r
            have h_c := PyI.st g20.st h_c
            have h_other := PyI.st g20.st h_other
            have ho_beyond := ho_beyond.go g00 g20
            have h_k := PyI.st g20.st h_k
            have ho_wet := ho_wet.go g00 g20
            have h_dry := PyI.st g20.st h_dry
            have h_edge := PyI.st g20.st h_edge
            have h_row := PyI.st g20.st h_row
            have h_spot := PyI.st g20.st h_spot
            have h_less := PyI.st g20.st h_less
            have sl16 := sl16.trans g20.st
            have sj17 := sj17.trans g20.st
            have hp_it16 := g20.keep _ _ hp_it16 nS_it16
            have g0 := g0.trans g20
            have ho_papers : Var (kL ((List Str) × (Ls Sq))) W0 W20 fp_papers a20_papers v_papers := ⟨ho0_papers, hz_papers, fun b m => (hf_papers b m).2.2⟩
            exact kj a20_papers _ W20 ⟨v_papers, fp_papers, _, _, rfl, g0, sj17, ho_papers, ho_beyond, ho_wet, hp_it16, dj_it16_papers, (fun b m z => dj_beyond_papers b z m), (fun b m z => dj_wet_papers b z m)⟩ hm
          ·
            have h_chart := PyI.st g17.st h_chart
            have h_calm := PyI.st g17.st h_calm
            have h_paper := PyI.st g17.st h_paper
            have h_rows := PyI.st g17.st h_rows
            have h_columns := PyI.st g17.st h_columns
            have h_r := PyI.st g17.st h_r
            have h_c := PyI.st g17.st h_c
            have h_other := PyI.st g17.st h_other
            have ho_papers := ho_papers.go g00 g17
            have ho_beyond := ho_beyond.go g00 g17
            have h_k := PyI.st g17.st h_k
            have ho_wet := ho_wet.go g00 g17
            have h_dry := PyI.st g17.st h_dry
            have h_edge := PyI.st g17.st h_edge
            have h_row := PyI.st g17.st h_row
            have sl16 := sl16.trans g17.st
            have hp_it16 := g17.keep _ _ hp_it16 nS_it16
            have g0 := g0.trans g17
            have sj17 := g17.st
            refine st_next ?_
            exact kj y16 _ W17 ⟨v_papers, fp_papers, _, _, rfl, g0, sj17, ho_papers, ho_beyond, ho_wet, hp_it16, dj_it16_papers, dj_papers_beyond, dj_papers_wet⟩ hm
        ·
          obtain ⟨v_papers, fp_papers, o_row, o_spot, o_less, rfl, g0, sl16, ho_papers, ho_beyond, ho_wet, hp_it16, dj_it16_papers, dj_papers_beyond, dj_papers_wet⟩ := hI
          have h_chart := PyI.st sl16 h_chart
          have h_calm := PyI.st sl16 h_calm
          have h_paper := PyI.st sl16 h_paper
          have h_rows := PyI.st sl16 h_rows
          have h_columns := PyI.st sl16 h_columns
          have h_r := PyI.st sl16 h_r
          have h_c := PyI.st sl16 h_c
          have h_other := PyI.st sl16 h_other
          have h_k := PyI.st sl16 h_k
          have h_dry := PyI.st sl16 h_dry
          have h_edge := PyI.st sl16 h_edge
          exact ⟨_, rfl, hm _ Wi16 g0 rfl ⟨fp_papers, ho_papers.own, fun b m => ⟨ho_papers.fr b m, Var.nS g00 ho_papers b m, ho_papers.nF b m⟩⟩⟩
      ·
        have h_chart := PyI.st g13.st h_chart
        have h_calm := PyI.st g13.st h_calm
        have h_paper := PyI.st g13.st h_paper
        have h_rows := PyI.st g13.st h_rows
        have h_columns := PyI.st g13.st h_columns
        have h_r := PyI.st g13.st h_r
        have h_c := PyI.st g13.st h_c
        have h_other := PyI.st g13.st h_other
        have ho_papers := ho_papers.go g00 g13
        have ho_beyond := ho_beyond.go g00 g13
        have h_k := PyI.st g13.st h_k
        have ho_wet := ho_wet.go g00 g13
        have g0 := g0.trans g13
        have sj13 := g13.st
        refine st_app (W := W13) g00 g0 rfl ho_papers (ew_pair (ew_var rfl h_calm) (ew_frz (ew_cat (ew_rd (ew_cat (ew_rd (ew_slL (ew_ls (ew_var rfl h_paper)) eo_none (eo_some (ew_var rfl h_k)))) (ew_rd (ew_lst (eas_cons (ev__law_pick (ew_deal rfl) (ew_varR rfl (Var.nS g00 ho_wet) ho_wet.own)) (eas_nil (α := Sq))))))) (ew_rd (ew_slL (ew_ls (ew_var rfl h_paper)) (eo_some (ew_var rfl h_k)) eo_none))))) hm fun a21_papers W21_ W21 l_papers el_papers g21 s g02 kk ff ho_papers hm => ?_
        have h_chart := PyI.st g21.st h_chart
        have h_calm := PyI.st g21.st h_calm
        have h_paper := PyI.st g21.st h_paper
        have h_rows := PyI.st g21.st h_rows
        have h_columns := PyI.st g21.st h_columns
        have h_r := PyI.st g21.st h_r
        have h_c := PyI.st g21.st h_c
        have h_other := PyI.st g21.st h_other
        have ho_beyond := ho_beyond.go g00 g21
        have h_k := PyI.st g21.st h_k
        have ho_wet := ho_wet.go g00 g21
        have sj13 := sj13.trans g21.st
        have g0 := g0.trans g21
        have h_chart := PyI.st s h_chart
        have h_calm := PyI.st s h_calm
        have h_paper := PyI.st s h_paper
        have h_rows := PyI.st s h_rows
        have h_columns := PyI.st s h_columns
        have h_r := PyI.st s h_r
        have h_c := PyI.st s h_c
        have h_other := PyI.st s h_other
        have ho_beyond := ho_beyond.kept s kk ff (fun b m z => dj_papers_beyond b z m)
        have h_k := PyI.st s h_k
        have ho_wet := ho_wet.kept s kk ff (fun b m z => dj_papers_wet b z m)
        have sj13 := sj13.trans s
        have g0 := g02
        exact kj a21_papers _ W21 ⟨v_papers, fp_papers, rfl, g0, sj13, ho_papers, ho_beyond, ho_wet, dj_papers_beyond, dj_papers_wet⟩ hm
      ·
        have h_chart := PyI.st g13.st h_chart
        have h_calm := PyI.st g13.st h_calm
        have h_paper := PyI.st g13.st h_paper
        have h_rows := PyI.st g13.st h_rows
        have h_columns := PyI.st g13.st h_columns
        have h_r := PyI.st g13.st h_r
        have h_c := PyI.st g13.st h_c
        have h_other := PyI.st g13.st h_other
        have ho_papers := ho_papers.go g00 g13
        have ho_beyond := ho_beyond.go g00 g13
        have h_k := PyI.st g13.st h_k
        have ho_wet := ho_wet.go g00 g13
        have g0 := g0.trans g13
        have sj13 := g13.st
        refine st_next ?_
        exact kj z8 _ W13 ⟨v_papers, fp_papers, rfl, g0, sj13, ho_papers, ho_beyond, ho_wet, dj_papers_beyond, dj_papers_wet⟩ hm
abbrev s__law_bent : Stmt := top 40
abbrev N__law_bent : List Str := ["deal", "chart", "calm", "paper", "rows", "columns", "k", "j", "part", "partial", "spot", "less", "papers", "r", "c", "place", "swapped"]
abbrev P__law_bent : List Str := ["deal", "chart", "calm", "paper"]
theorem sc__law_bent : FnScope N__law_bent P__law_bent (defScope s__law_bent) := ⟨rfl, rfl, rfl, by decide +kernel, rfl, by decide +kernel, by decide +kernel⟩
def m__law_bent (_ : Unit) (a_chart : (List Str)) (a_calm : (List Str)) (a_paper : (Ls Sq)) : WP (List ((List Str) × (Ls Sq))) := (WP.len (WP.pure a_chart)).bind fun a1_rows => (WP.lenS (WP.ix (WP.pure a_chart) (WP.pure (0 : Int)))).bind fun a2_columns => (WP.b2 (WP.pure ()) (WP.len ((WP.pure a_paper).bind fun x => WP.pure x.l)) m_take).bind fun a3_k => (WP.b2 (WP.pure ()) (WP.len ((WP.pure a_paper).bind fun x => WP.pure x.l)) m_take).bind fun a4_j => (WP.cut ((WP.pure a_paper).bind fun x => WP.pure x.l) (WP.pure none) ((WP.pure a3_k).bind fun x => WP.pure (some x))).bind fun a5_part => (WP.pure a_chart).bind fun a6_partial => WP.after (WP.loop (γ := (List ((List Str) × (Ls Sq)))) (fun c7 (y7 : (List Str)) => (WP.b3 (WP.pure y7) (WP.pure c7) (WP.pure (Str.ofString ".")) m__law_set).bind fun a8_partial => (WP.pure (.nx a8_partial))) a5_part a6_partial) (fun (z7 : (List Str)) => (WP.cat (WP.pure a5_part) (WP.cut ((WP.pure a_paper).bind fun x => WP.pure x.l) ((WP.add (WP.pure a3_k) (WP.pure (1 : Int))).bind fun x => WP.pure (some x)) (WP.pure none))).bind fun a9_less => (WP.row (WP.consE (WP.pair (WP.pure z7) (WP.pure (⟨a5_part⟩ : (Ls Sq)))) (WP.consE (WP.pair (WP.pure a_calm) (WP.pure (⟨a5_part⟩ : (Ls Sq)))) (WP.consE (WP.pair (WP.pure a_calm) (WP.pure (⟨a9_less⟩ : (Ls Sq)))) (WP.consE (WP.pair (WP.b3 (WP.pure a_calm) (WP.ix ((WP.pure a_paper).bind fun x => WP.pure x.l) (WP.pure a3_k)) (WP.pure (Str.ofString "x")) m__law_set) (WP.pure (⟨a9_less⟩ : (Ls Sq)))) (WP.pure ([] : List ((List Str) × (Ls Sq))))))))).bind fun a10_papers => (WP.cat (WP.pure a10_papers) (WP.row (WP.consE (WP.pair (WP.pure a_calm) ((WP.cat (WP.cut ((WP.pure a_paper).bind fun x => WP.pure x.l) (WP.pure none) ((WP.add (WP.pure a3_k) (WP.pure (1 : Int))).bind fun x => WP.pure (some x))) (WP.cut ((WP.pure a_paper).bind fun x => WP.pure x.l) ((WP.pure a3_k).bind fun x => WP.pure (some x)) (WP.pure none))).bind fun xs => WP.pure (⟨xs⟩ : (Ls Sq)))) (WP.consE (WP.pair (WP.pure a_calm) ((WP.cat ((WP.pure a_paper).bind fun x => WP.pure x.l) (WP.row (WP.consE (WP.ix ((WP.pure a_paper).bind fun x => WP.pure x.l) (WP.pure a4_j)) (WP.pure ([] : List Sq))))).bind fun xs => WP.pure (⟨xs⟩ : (Ls Sq)))) (WP.consE (WP.pair (WP.pure a_calm) ((WP.cut ((WP.pure a_paper).bind fun x => WP.pure x.l) (WP.pure none) ((WP.neg (WP.pure (1 : Int))).bind fun x => WP.pure (some x))).bind fun xs => WP.pure (⟨xs⟩ : (Ls Sq)))) (WP.pure ([] : List ((List Str) × (Ls Sq))))))))).bind fun a11_papers => (WP.ix ((WP.pure a_paper).bind fun x => WP.pure x.l) (WP.pure a3_k)).bind fun a12_r_c => (WP.pair (WP.b2 (WP.pure ()) (WP.pure a1_rows) m_take) (WP.b2 (WP.pure ()) (WP.pure a2_columns) m_take)).bind fun a13_place => (WP.row (WP.consE (WP.pair (WP.sub (WP.pure a12_r_c.1) (WP.pure a1_rows)) (WP.pure a12_r_c.2)) (WP.consE (WP.pair (WP.pure a12_r_c.1) (WP.sub (WP.pure a12_r_c.2) (WP.pure a2_columns))) (WP.consE (WP.pure a13_place) (WP.consE (WP.pair (WP.pure a12_r_c.1) (WP.add (WP.pure a12_r_c.2) (WP.pure (1 : Int)))) (WP.consE (WP.pair (WP.add (WP.pure a12_r_c.1) (WP.pure (1 : Int))) (WP.pure a12_r_c.2)) (WP.pure ([] : List Sq)))))))).bind fun xs14 => WP.after (WP.loop (γ := (List ((List Str) × (Ls Sq)))) (fun c14 (y14 : (List ((List Str) × (Ls Sq)))) => ((WP.pair (WP.pure a_calm) ((WP.cat (WP.cat ((WP.pure (⟨a5_part⟩ : (Ls Sq))).bind fun x => WP.pure x.l) (WP.row (WP.consE (WP.pure c14) (WP.pure ([] : List Sq))))) (WP.cut ((WP.pure a_paper).bind fun x => WP.pure x.l) ((WP.add (WP.pure a3_k) (WP.pure (1 : Int))).bind fun x => WP.pure (some x)) (WP.pure none))).bind fun xs => WP.pure (⟨xs⟩ : (Ls Sq)))).bind fun a => WP.req (y14.length < 100000) (y14 ++ [a])).bind fun a15_papers => (WP.pure (.nx a15_papers))) xs14 a11_papers) (fun (z14 : (List ((List Str) × (Ls Sq)))) => (((WP.pure a_paper).bind fun x => WP.pure x.l).bind fun xs => WP.pure (α := List _) xs).bind fun a16_swapped => (WP.lset a16_swapped (WP.ix ((WP.pure a_paper).bind fun x => WP.pure x.l) (WP.pure a4_j)) (WP.pure a3_k)).bind fun a17_swapped => (WP.lset a17_swapped (WP.ix ((WP.pure a_paper).bind fun x => WP.pure x.l) (WP.pure a3_k)) (WP.pure a4_j)).bind fun a18_swapped => ((WP.pair (WP.pure a_calm) (WP.pure (⟨a18_swapped⟩ : (Ls Sq)))).bind fun a => WP.req (z14.length < 100000) (z14 ++ [a])).bind fun a19_papers => (WP.pure a19_papers)) (fun r => (WP.pure r))) (fun r => (WP.pure r))
def sp__law_bent : Sp := fun vs H Q _ => ∃ (d : Dl) (W : Wo) (a_chart : (List Str)) (a_calm : (List Str)) (a_paper : (Ls Sq)) (v_chart v_calm v_paper : V), vs = [.ref d.p, v_chart, v_calm, v_paper] ∧ W.H = H ∧ Good (efD d) W ∧ Rp W a_chart v_chart ∧ Rp W a_calm v_calm ∧ Rp W a_paper v_paper ∧ (m__law_bent () a_chart a_calm a_paper).run W.n fun n r => ∀ v W', Gw (efD d) W W' → W'.n = n → (sN (e := (efD d)) (kL ((List Str) × (Ls Sq)))).post W W' r v → Q v W'.H
theorem ev__law_bent {d : Dl} {σ : L2.St} {W : Wo} {E : XK} {t0 t1 t2 t3 : TE} {w0 : WP Unit} {w1 : WP (List Str)} {w2 : WP (List Str)} {w3 : WP (Ls Sq)} (h0 : EvW (efD d) t0 σ W (sD d) w0) (h1 : EvW (efD d) t1 σ W sI w1) (h2 : EvW (efD d) t2 σ W sI w2) (h3 : EvW (efD d) t3 σ W sI w3) : EvW (efD d) (tCall sp__law_bent [] E (tCons t0 (tCons t1 (tCons t2 (tCons t3 tNil))))) σ W (sN (kL ((List Str) × (Ls Sq)))) (WP.b4 w0 w1 w2 w3 m__law_bent) := ew_call4N h0 h1 h2 h3 fun W2 b0 b1 b2 b3 x0 x1 x2 x3 g2 r0 r1 r2 r3 Q q E => by
  cases r0
  exact ⟨d, W2, b1, b2, b3, x1, x2, x3, rfl, rfl, g2, r1, r2, r3, WP.mono _ (fun n c h v W3 g3 hn p => h v W3 g3 hn p) q⟩
theorem ok__law_bent (F : At K mg "_law_bent" s__law_bent P__law_bent) (G : Glb mg) (H__law_set : Has P w K mg base "_law_set" 1 P__law_set sp__law_set) (H__law_take : Has P w K mg base "_law_take" 1 P__law_take sp_take) : Has P w K mg base "_law_bent" 2 P__law_bent sp__law_bent := by
  refine Has.of F sc__law_bent (fun vs H Q E h => ?_) (fun f cdv A outer s H0 vs Q E hr h => ?_)
  · obtain ⟨d, W0, a_chart, a_calm, a_paper, v_chart, v_calm, v_paper, rfl, _⟩ := h
    rfl
  · obtain ⟨d, W0, a_chart, a_calm, a_paper, v_chart, v_calm, v_paper, rfl, rfl, g00, h_chart, h_calm, h_paper, hm⟩ := h
    have sc := sc__law_bent
    have g0 := Gw.refl g00
    unfold m__law_bent at hm
    refine ⟨_, (pss_cons (ps_set (i := 4) sc.nd rfl (Or.inl rfl) (pe_callB call_len_seq (by rfl) G.len PySem.boot_len (pa_cons (pv 1) pa_nil)))
      (pss_cons (ps_set (i := 5) sc.nd rfl (Or.inl rfl) (pe_callB call_len_str (by rfl) G.len PySem.boot_len (pa_cons (pe_ix ix_tup (pv 1) pe_int (fun _ _ => rfl)) pa_nil)))
      (pss_cons (ps_set (i := 6) sc.nd rfl (Or.inl rfl) (pe_user H__law_take (hr.mono (by decide)) rfl (pa_cons (pv 0) (pa_cons (pe_callB call_len_seq (by rfl) G.len PySem.boot_len (pa_cons (pv 3) pa_nil)) pa_nil))))
      (pss_cons (ps_set (i := 7) sc.nd rfl (Or.inl rfl) (pe_user H__law_take (hr.mono (by decide)) rfl (pa_cons (pv 0) (pa_cons (pe_callB call_len_seq (by rfl) G.len PySem.boot_len (pa_cons (pv 3) pa_nil)) pa_nil))))
      (pss_cons (ps_set (i := 8) sc.nd rfl (Or.inl rfl) (pe_slice sl_list (pv 3) po_none (po_some (pv 6))))
      (pss_cons (ps_set (i := 9) sc.nd rfl (Or.inl rfl) (pv 1))
      (pss_cons (ps_for PassesOwn.never rfl (pi_list (pv 8)) (pg_name (i := 10) sc.nd rfl (Or.inl rfl))
      (pss_one (ps_set (i := 9) sc.nd rfl (Or.inl rfl) (pe_user H__law_set (hr.mono (by decide)) rfl (pa_cons (pv 9) (pa_cons (pv 10) (pa_cons pe_str pa_nil)))))))
      (pss_cons (ps_set (i := 11) sc.nd rfl (Or.inl rfl) (pe_op op_cat (pv 8) (pe_slice sl_list (pv 3) (po_some (pe_op op_add (pv 6) pe_int)) po_none)))
      (pss_cons (ps_set (i := 12) sc.nd rfl (Or.inl rfl) (pe_lst (pa_cons (pe_tup (pa_cons (pv 9) (pa_cons (pv 8) pa_nil))) (pa_cons (pe_tup (pa_cons (pv 2) (pa_cons (pv 8) pa_nil))) (pa_cons (pe_tup (pa_cons (pv 2) (pa_cons (pv 11) pa_nil))) (pa_cons (pe_tup (pa_cons (pe_user H__law_set (hr.mono (by decide)) rfl (pa_cons (pv 2) (pa_cons (pe_ix ix_list (pv 3) (pv 6) (fun _ _ => rfl)) (pa_cons pe_str pa_nil)))) (pa_cons (pv 11) pa_nil))) pa_nil))))))
      (pss_cons (ps_set (i := 12) sc.nd rfl (Or.inl rfl) (pe_op op_cat (pv 12) (pe_lst (pa_cons (pe_tup (pa_cons (pv 2) (pa_cons (pe_op op_cat (pe_slice sl_list (pv 3) po_none (po_some (pe_op op_add (pv 6) pe_int))) (pe_slice sl_list (pv 3) (po_some (pv 6)) po_none)) pa_nil))) (pa_cons (pe_tup (pa_cons (pv 2) (pa_cons (pe_op op_cat (pv 3) (pe_lst (pa_cons (pe_ix ix_list (pv 3) (pv 7) (fun _ _ => rfl)) pa_nil))) pa_nil))) (pa_cons (pe_tup (pa_cons (pv 2) (pa_cons (pe_slice sl_list (pv 3) po_none (po_some (pe_un un_neg pe_int))) pa_nil))) pa_nil))))))
      (pss_cons (ps_asg (pe_ix ix_list (pv 3) (pv 6) (fun _ _ => rfl)) (pg_tup rfl (pgs_cons (pg_name (i := 13) sc.nd rfl (Or.inl rfl)) (pgs_cons (pg_name (i := 14) sc.nd rfl (Or.inl rfl)) pgs_nil))))
      (pss_cons (ps_set (i := 15) sc.nd rfl (Or.inl rfl) (pe_tup (pa_cons (pe_user H__law_take (hr.mono (by decide)) rfl (pa_cons (pv 0) (pa_cons (pv 4) pa_nil))) (pa_cons (pe_user H__law_take (hr.mono (by decide)) rfl (pa_cons (pv 0) (pa_cons (pv 5) pa_nil))) pa_nil))))
      (pss_cons (ps_for PassesOwn.never rfl (pi_list (pe_lst (pa_cons (pe_tup (pa_cons (pe_op op_sub (pv 13) (pv 4)) (pa_cons (pv 14) pa_nil))) (pa_cons (pe_tup (pa_cons (pv 13) (pa_cons (pe_op op_sub (pv 14) (pv 5)) pa_nil))) (pa_cons (pv 15) (pa_cons (pe_tup (pa_cons (pv 13) (pa_cons (pe_op op_add (pv 14) pe_int) pa_nil))) (pa_cons (pe_tup (pa_cons (pe_op op_add (pv 13) pe_int) (pa_cons (pv 14) pa_nil))) pa_nil))))))) (pg_name (i := 10) sc.nd rfl (Or.inl rfl))
      (pss_one (ps_expr (pe_bm PySem.F.plainAttrs_list PySem.F.slot_list_append PySem.F.type_list_append mt_append (pv 12) (pa_cons (pe_tup (pa_cons (pv 2) (pa_cons (pe_op op_cat (pe_op op_cat (pv 8) (pe_lst (pa_cons (pv 10) pa_nil))) (pe_slice sl_list (pv 3) (po_some (pe_op op_add (pv 6) pe_int)) po_none)) pa_nil))) pa_nil)))))
      (pss_cons (ps_set (i := 16) sc.nd rfl (Or.inl rfl) (pe_callTy call_list_of (by rfl) G.list (by decide +kernel) (pa_cons (pv 3) pa_nil)))
      (pss_cons (ps_asg (pe_ix ix_list (pv 3) (pv 7) (fun _ _ => rfl)) (pg_sub (pv 16) (pv 6) set_list))
      (pss_cons (ps_asg (pe_ix ix_list (pv 3) (pv 6) (fun _ _ => rfl)) (pg_sub (pv 16) (pv 7) set_list))
      (pss_cons (ps_expr (pe_bm PySem.F.plainAttrs_list PySem.F.slot_list_append PySem.F.type_list_append mt_append (pv 12) (pa_cons (pe_tup (pa_cons (pv 2) (pa_cons (pv 16) pa_nil))) pa_nil)))
      (pss_one (ps_ret (pv 12)))))))))))))))))))), ?_⟩
    refine q_asg (W := W0) (ew_lenT (ew_var rfl h_chart)) g0.ok hm fun a1_rows v_rows W1 g1 h_rows hm => ?_
    have h_chart := PyI.st g1.st h_chart
    have h_calm := PyI.st g1.st h_calm
    have h_paper := PyI.st g1.st h_paper
    have g0 := g0.trans g1
    refine q_asg (W := W1) (ew_lenS (ew_ixT (ew_var rfl h_chart) ew_int)) g0.ok hm fun a2_columns v_columns W2 g2 h_columns hm => ?_
    have h_chart := PyI.st g2.st h_chart
    have h_calm := PyI.st g2.st h_calm
    have h_paper := PyI.st g2.st h_paper
    have h_rows := PyI.st g2.st h_rows
    have g0 := g0.trans g2
    refine q_asg (W := W2) (ev_take (ew_deal rfl) (ew_lenL (ew_ls (ew_var rfl h_paper)))) g0.ok hm fun a3_k v_k W3 g3 h_k hm => ?_
    have h_chart := PyI.st g3.st h_chart
    have h_calm := PyI.st g3.st h_calm
    have h_paper := PyI.st g3.st h_paper
    have h_rows := PyI.st g3.st h_rows
    have h_columns := PyI.st g3.st h_columns
    have g0 := g0.trans g3
    refine q_asg (W := W3) (ev_take (ew_deal rfl) (ew_lenL (ew_ls (ew_var rfl h_paper)))) g0.ok hm fun a4_j v_j W4 g4 h_j hm => ?_
    have h_chart := PyI.st g4.st h_chart
    have h_calm := PyI.st g4.st h_calm
    have h_paper := PyI.st g4.st h_paper
    have h_rows := PyI.st g4.st h_rows
    have h_columns := PyI.st g4.st h_columns
    have h_k := PyI.st g4.st h_k
    have g0 := g0.trans g4
    refine q_asg (W := W4) (ew_slL (ew_ls (ew_var rfl h_paper)) eo_none (eo_some (ew_var rfl h_k))) g0.ok hm fun a5_part v_part W5 g5 ⟨fp_part, ho0_part, hf_part⟩ hm => ?_
    have hz_part : ∀ a ∈ fp_part, W0.H a = none := fun a m => g0.live a (hf_part a m).1
    have h_chart := PyI.st g5.st h_chart
    have h_calm := PyI.st g5.st h_calm
    have h_paper := PyI.st g5.st h_paper
    have h_rows := PyI.st g5.st h_rows
    have h_columns := PyI.st g5.st h_columns
    have h_k := PyI.st g5.st h_k
    have h_j := PyI.st g5.st h_j
    have g0 := g0.trans g5
    have ho_part : Var (kL Sq) W0 W5 fp_part a5_part v_part := ⟨ho0_part, hz_part, fun b m => (hf_part b m).2.2⟩
    refine q_asg (W := W5) (ew_var rfl h_chart) g0.ok hm fun a6_partial v_partial W6 g6 h_partial hm => ?_
    have h_chart := PyI.st g6.st h_chart
    have h_calm := PyI.st g6.st h_calm
    have h_paper := PyI.st g6.st h_paper
    have h_rows := PyI.st g6.st h_rows
    have h_columns := PyI.st g6.st h_columns
    have h_k := PyI.st g6.st h_k
    have h_j := PyI.st g6.st h_j
    have ho_part := ho_part.go g00 g6
    have g0 := g0.trans g6
    obtain ⟨p_it7, vs_it7, ef_it7, ev_it7, hp_it7, hr_it7⟩ := own_list ho_part.own
    have nS_it7 := (Var.nS g00 ho_part) p_it7 (by rw [ef_it7]; exact List.mem_singleton.mpr rfl)
    refine q_forV (W := W6) tk_N (by rw [← ev_it7]; rfl) hp_it7 hr_it7 hm (fun y σ' W' => ∃ (v_partial : V) (o_spot : Option V), σ' = [some (.ref d.p), some v_chart, some v_calm, some v_paper, some v_rows, some v_columns, some v_k, some v_j, some v_part, some v_partial, o_spot, none, none, none, none, none, none] ∧ Gw (efD d) W0 W' ∧ St W6 W' ∧ Rp W' y v_partial ∧ Var (kL Sq) W0 W' fp_part a5_part v_part ∧ W'.H p_it7 = some (.lst vs_it7)) ⟨v_partial, _, rfl, g0, (St.refl _), h_partial, ho_part, hp_it7⟩ (fun _ _ _ hI => ?_) (fun c7 y7 σi s2 Wi7 R7 nx7 ht hI hm kn7 kb7 kr7 => ?_) (fun z7 σi Wi7 hI hm => ?_)
    · obtain ⟨v_partial, o_spot, rfl, g0, sl7, h_partial, ho_part, hp_it7⟩ := hI
      exact ⟨sl7, hp_it7⟩
    ·
      obtain ⟨v_partial, o_spot, rfl, g0, sl7, h_partial, ho_part, hp_it7⟩ := hI
      have h_chart := PyI.st sl7 h_chart
      have h_calm := PyI.st sl7 h_calm
      have h_paper := PyI.st sl7 h_paper
      have h_rows := PyI.st sl7 h_rows
      have h_columns := PyI.st sl7 h_columns
      have h_k := PyI.st sl7 h_k
      have h_j := PyI.st sl7 h_j
      obtain ⟨v_spot, rfl, h_spot⟩ := ht
      refine st_asg (W := Wi7) (ev__law_set (ew_var rfl h_partial) (ew_var rfl h_spot) ew_str) g0.ok hm fun a8_partial v_partial W8 g8 h_partial hm => ?_
      have h_chart := PyI.st g8.st h_chart
      have h_calm := PyI.st g8.st h_calm
      have h_paper := PyI.st g8.st h_paper
      have h_rows := PyI.st g8.st h_rows
      have h_columns := PyI.st g8.st h_columns
      have h_k := PyI.st g8.st h_k
      have h_j := PyI.st g8.st h_j
      have ho_part := ho_part.go g00 g8
      have h_spot := PyI.st g8.st h_spot
      have sl7 := sl7.trans g8.st
      have hp_it7 := g8.keep _ _ hp_it7 nS_it7
      have g0 := g0.trans g8
      exact kn7 a8_partial _ W8 ⟨v_partial, _, rfl, g0, sl7, h_partial, ho_part, hp_it7⟩ hm
    ·
      obtain ⟨v_partial, o_spot, rfl, g0, sl7, h_partial, ho_part, hp_it7⟩ := hI
      have h_chart := PyI.st sl7 h_chart
      have h_calm := PyI.st sl7 h_calm
      have h_paper := PyI.st sl7 h_paper
      have h_rows := PyI.st sl7 h_rows
      have h_columns := PyI.st sl7 h_columns
      have h_k := PyI.st sl7 h_k
      have h_j := PyI.st sl7 h_j
      refine q_asg (W := Wi7) (ew_cat (ew_varR rfl (Var.nS g00 ho_part) ho_part.own) (ew_rd (ew_slL (ew_ls (ew_var rfl h_paper)) (eo_some (ew_add (ew_var rfl h_k) ew_int)) eo_none))) g0.ok hm fun a9_less v_less W9 g9 ⟨fp_less, ho0_less, hf_less⟩ hm => ?_
      have dj_part_less : ∀ b ∈ fp_part, b ∉ fp_less := fun b m z => (kL Sq).live ho_part.own b m (hf_less b z).1
      have hz_less : ∀ a ∈ fp_less, W0.H a = none := fun a m => g0.live a (hf_less a m).1
      have h_chart := PyI.st g9.st h_chart
      have h_calm := PyI.st g9.st h_calm
      have h_paper := PyI.st g9.st h_paper
      have h_rows := PyI.st g9.st h_rows
      have h_columns := PyI.st g9.st h_columns
      have h_k := PyI.st g9.st h_k
      have h_j := PyI.st g9.st h_j
      have ho_part := ho_part.go g00 g9
      have h_partial := PyI.st g9.st h_partial
      have g0 := g0.trans g9
      have ho_less : Var (kL Sq) W0 W9 fp_less a9_less v_less := ⟨ho0_less, hz_less, fun b m => (hf_less b m).2.2⟩
      obtain ⟨gf, sf, h_part⟩ := frz_own g00 g0 ho_part
      have h_chart := PyI.st sf h_chart
      have h_calm := PyI.st sf h_calm
      have h_paper := PyI.st sf h_paper
      have h_rows := PyI.st sf h_rows
      have h_columns := PyI.st sf h_columns
      have h_k := PyI.st sf h_k
      have h_j := PyI.st sf h_j
      have h_partial := PyI.st sf h_partial
      have ho_less := ho_less.frzd (fun b m z => dj_part_less b z m)
      have g0 := gf
      obtain ⟨gf, sf, h_less⟩ := frz_own g00 g0 ho_less
      have h_chart := PyI.st sf h_chart
      have h_calm := PyI.st sf h_calm
      have h_paper := PyI.st sf h_paper
      have h_rows := PyI.st sf h_rows
      have h_columns := PyI.st sf h_columns
      have h_k := PyI.st sf h_k
      have h_j := PyI.st sf h_j
      have h_part := PyI.st sf h_part
      have h_partial := PyI.st sf h_partial
      have g0 := gf
      refine q_asg (W := ((W9.frz fp_part).frz fp_less)) (ew_lst (eas_cons (ew_pair (ew_var rfl h_partial) (ew_var rfl h_part)) (eas_cons (ew_pair (ew_var rfl h_calm) (ew_var rfl h_part)) (eas_cons (ew_pair (ew_var rfl h_calm) (ew_var rfl h_less)) (eas_cons (ew_pair (ev__law_set (ew_var rfl h_calm) (ew_ixL (ew_ls (ew_var rfl h_paper)) (ew_var rfl h_k)) ew_str) (ew_var rfl h_less)) (eas_nil (α := ((List Str) × (Ls Sq))))))))) g0.ok hm fun a10_papers v_papers W10 g10 ⟨fp_papers, ho0_papers, hf_papers⟩ hm => ?_
      have hz_papers : ∀ a ∈ fp_papers, W0.H a = none := fun a m => g0.live a (hf_papers a m).1
      have h_chart := PyI.st g10.st h_chart
      have h_calm := PyI.st g10.st h_calm
      have h_paper := PyI.st g10.st h_paper
      have h_rows := PyI.st g10.st h_rows
      have h_columns := PyI.st g10.st h_columns
      have h_k := PyI.st g10.st h_k
      have h_j := PyI.st g10.st h_j
      have h_part := PyI.st g10.st h_part
      have h_partial := PyI.st g10.st h_partial
      have h_less := PyI.st g10.st h_less
      have g0 := g0.trans g10
      have ho_papers : Var (kL ((List Str) × (Ls Sq))) W0 W10 fp_papers a10_papers v_papers := ⟨ho0_papers, hz_papers, fun b m => (hf_papers b m).2.2⟩
      refine q_asg (W := W10) (ew_cat (ew_varR rfl (Var.nS g00 ho_papers) ho_papers.own) (ew_rd (ew_lst (eas_cons (ew_pair (ew_var rfl h_calm) (ew_frz (ew_cat (ew_rd (ew_slL (ew_ls (ew_var rfl h_paper)) eo_none (eo_some (ew_add (ew_var rfl h_k) ew_int)))) (ew_rd (ew_slL (ew_ls (ew_var rfl h_paper)) (eo_some (ew_var rfl h_k)) eo_none))))) (eas_cons (ew_pair (ew_var rfl h_calm) (ew_frz (ew_cat (ew_ls (ew_var rfl h_paper)) (ew_rd (ew_lst (eas_cons (ew_ixL (ew_ls (ew_var rfl h_paper)) (ew_var rfl h_j)) (eas_nil (α := Sq)))))))) (eas_cons (ew_pair (ew_var rfl h_calm) (ew_frz (ew_slL (ew_ls (ew_var rfl h_paper)) eo_none (eo_some (ew_neg ew_int))))) (eas_nil (α := ((List Str) × (Ls Sq)))))))))) g0.ok hm fun a11_papers v_papers W11 g11 ⟨fp_papers, ho0_papers, hf_papers⟩ hm => ?_
      have hz_papers : ∀ a ∈ fp_papers, W0.H a = none := fun a m => g0.live a (hf_papers a m).1
      have h_chart := PyI.st g11.st h_chart
      have h_calm := PyI.st g11.st h_calm
      have h_paper := PyI.st g11.st h_paper
      have h_rows := PyI.st g11.st h_rows
      have h_columns := PyI.st g11.st h_columns
      have h_k := PyI.st g11.st h_k
      have h_j := PyI.st g11.st h_j
      have h_part := PyI.st g11.st h_part
      have h_partial := PyI.st g11.st h_partial
      have h_less := PyI.st g11.st h_less
      have g0 := g0.trans g11
      have ho_papers : Var (kL ((List Str) × (Ls Sq))) W0 W11 fp_papers a11_papers v_papers := ⟨ho0_papers, hz_papers, fun b m => (hf_papers b m).2.2⟩
      refine q_un2 (W := W11) (ew_ixL (ew_ls (ew_var rfl h_paper)) (ew_var rfl h_k)) g0.ok hm fun a12_r_c v_r v_c W12 g12 h_r h_c hm => ?_
      have h_chart := PyI.st g12.st h_chart
      have h_calm := PyI.st g12.st h_calm
      have h_paper := PyI.st g12.st h_paper
      have h_rows := PyI.st g12.st h_rows
      have h_columns := PyI.st g12.st h_columns
      have h_k := PyI.st g12.st h_k
      have h_j := PyI.st g12.st h_j
      have h_part := PyI.st g12.st h_part
      have h_partial := PyI.st g12.st h_partial
      have h_less := PyI.st g12.st h_less
      have ho_papers := ho_papers.go g00 g12
      have g0 := g0.trans g12
      refine q_asg (W := W12) (ew_pair (ev_take (ew_deal rfl) (ew_var rfl h_rows)) (ev_take (ew_deal rfl) (ew_var rfl h_columns))) g0.ok hm fun a13_place v_place W13 g13 h_place hm => ?_
      have h_chart := PyI.st g13.st h_chart
      have h_calm := PyI.st g13.st h_calm
      have h_paper := PyI.st g13.st h_paper
      have h_rows := PyI.st g13.st h_rows
      have h_columns := PyI.st g13.st h_columns
      have h_k := PyI.st g13.st h_k
      have h_j := PyI.st g13.st h_j
      have h_part := PyI.st g13.st h_part
      have h_partial := PyI.st g13.st h_partial
      have h_less := PyI.st g13.st h_less
      have ho_papers := ho_papers.go g00 g13
      have h_r := PyI.st g13.st h_r
      have h_c := PyI.st g13.st h_c
      have g0 := g0.trans g13
      refine q_forN (W := W13) tk_N (ew_lst (eas_cons (ew_pair (ew_sub (ew_var rfl h_r) (ew_var rfl h_rows)) (ew_var rfl h_c)) (eas_cons (ew_pair (ew_var rfl h_r) (ew_sub (ew_var rfl h_c) (ew_var rfl h_columns))) (eas_cons (ew_var rfl h_place) (eas_cons (ew_pair (ew_var rfl h_r) (ew_add (ew_var rfl h_c) ew_int)) (eas_cons (ew_pair (ew_add (ew_var rfl h_r) ew_int) (ew_var rfl h_c)) (eas_nil (α := Sq)))))))) g0.ok hm fun xs14 p_it14 vs_it14 W14 g14 hn_it14 hF_it14 hp_it14 hr_it14 => ?_
      have dj_it14_papers : ∀ b ∈ [p_it14], b ∉ fp_papers := fun b m z => by cases mem_one m; exact (kL ((List Str) × (Ls Sq))).live ho_papers.own _ z hn_it14
      have nS_it14 : ¬ (efD d).S p_it14 := fun z => g0.ok.S _ z hn_it14
      have h_chart := PyI.st g14.st h_chart
      have h_calm := PyI.st g14.st h_calm
      have h_paper := PyI.st g14.st h_paper
      have h_rows := PyI.st g14.st h_rows
      have h_columns := PyI.st g14.st h_columns
      have h_k := PyI.st g14.st h_k
      have h_j := PyI.st g14.st h_j
      have h_part := PyI.st g14.st h_part
      have h_partial := PyI.st g14.st h_partial
      have h_less := PyI.st g14.st h_less
      have ho_papers := ho_papers.go g00 g14
      have h_r := PyI.st g14.st h_r
      have h_c := PyI.st g14.st h_c
      have h_place := PyI.st g14.st h_place
      have g0 := g0.trans g14
      refine ⟨fun y σ' W' => ∃ (v_papers : V) (fp_papers : List Addr) (o_spot : Option V), σ' = [some (.ref d.p), some v_chart, some v_calm, some v_paper, some v_rows, some v_columns, some v_k, some v_j, some v_part, some v_partial, o_spot, some v_less, some v_papers, some v_r, some v_c, some v_place, none] ∧ Gw (efD d) W0 W' ∧ St W14 W' ∧ Var (kL ((List Str) × (Ls Sq))) W0 W' fp_papers y v_papers ∧ W'.H p_it14 = some (.lst vs_it14) ∧ (∀ b ∈ [p_it14], b ∉ fp_papers), ⟨v_papers, fp_papers, _, rfl, g0, (St.refl _), ho_papers, hp_it14, dj_it14_papers⟩, fun _ _ _ hI => ?_, fun c14 y14 σi s2 Wi14 R14 nx14 ht hI hm kn14 kb14 kr14 => ?_, fun z14 σi Wi14 hI hm => ?_⟩
      · obtain ⟨v_papers, fp_papers, o_spot, rfl, g0, sl14, ho_papers, hp_it14, dj_it14_papers⟩ := hI
        exact ⟨sl14, hp_it14⟩
      ·
        obtain ⟨v_papers, fp_papers, o_spot, rfl, g0, sl14, ho_papers, hp_it14, dj_it14_papers⟩ := hI
        have h_chart := PyI.st sl14 h_chart
        have h_calm := PyI.st sl14 h_calm
        have h_paper := PyI.st sl14 h_paper
        have h_rows := PyI.st sl14 h_rows
        have h_columns := PyI.st sl14 h_columns
        have h_k := PyI.st sl14 h_k
        have h_j := PyI.st sl14 h_j
        have h_part := PyI.st sl14 h_part
        have h_partial := PyI.st sl14 h_partial
        have h_less := PyI.st sl14 h_less
        have h_r := PyI.st sl14 h_r
        have h_c := PyI.st sl14 h_c
        have h_place := PyI.st sl14 h_place
        obtain ⟨v_spot, rfl, h_spot⟩ := ht
        refine st_app (W := Wi14) g00 g0 rfl ho_papers (ew_pair (ew_var rfl h_calm) (ew_frz (ew_cat (ew_rd (ew_cat (ew_ls (ew_var rfl h_part)) (ew_rd (ew_lst (eas_cons (ew_var rfl h_spot) (eas_nil (α := Sq))))))) (ew_rd (ew_slL (ew_ls (ew_var rfl h_paper)) (eo_some (ew_add (ew_var rfl h_k) ew_int)) eo_none))))) hm fun a15_papers W15_ W15 l_papers el_papers g15 s g02 kk ff ho_papers hm => ?_
        have h_chart := PyI.st g15.st h_chart
        have h_calm := PyI.st g15.st h_calm
        have h_paper := PyI.st g15.st h_paper
        have h_rows := PyI.st g15.st h_rows
        have h_columns := PyI.st g15.st h_columns
        have h_k := PyI.st g15.st h_k
        have h_j := PyI.st g15.st h_j
        have h_part := PyI.st g15.st h_part
        have h_partial := PyI.st g15.st h_partial
        have h_spot := PyI.st g15.st h_spot
        have h_less := PyI.st g15.st h_less
        have h_r := PyI.st g15.st h_r
        have h_c := PyI.st g15.st h_c
        have h_place := PyI.st g15.st h_place
        have sl14 := sl14.trans g15.st
        have hp_it14 := g15.keep _ _ hp_it14 nS_it14
        have g0 := g0.trans g15
        have h_chart := PyI.st s h_chart
        have h_calm := PyI.st s h_calm
        have h_paper := PyI.st s h_paper
        have h_rows := PyI.st s h_rows
        have h_columns := PyI.st s h_columns
        have h_k := PyI.st s h_k
        have h_j := PyI.st s h_j
        have h_part := PyI.st s h_part
        have h_partial := PyI.st s h_partial
        have h_spot := PyI.st s h_spot
        have h_less := PyI.st s h_less
        have h_r := PyI.st s h_r
        have h_c := PyI.st s h_c
        have h_place := PyI.st s h_place
        have sl14 := sl14.trans s
        have hp_it14 := kk [p_it14] _ Kp.refl dj_it14_papers _ (List.mem_singleton.mpr rfl) _ hp_it14
        have g0 := g02
        exact kn14 a15_papers _ W15 ⟨v_papers, fp_papers, _, rfl, g0, sl14, ho_papers, hp_it14, dj_it14_papers⟩ hm
      ·
        obtain ⟨v_papers, fp_papers, o_spot, rfl, g0, sl14, ho_papers, hp_it14, dj_it14_papers⟩ := hI
        have h_chart := PyI.st sl14 h_chart
        have h_calm := PyI.st sl14 h_calm
        have h_paper := PyI.st sl14 h_paper
        have h_rows := PyI.st sl14 h_rows
        have h_columns := PyI.st sl14 h_columns
        have h_k := PyI.st sl14 h_k
        have h_j := PyI.st sl14 h_j
        have h_part := PyI.st sl14 h_part
        have h_partial := PyI.st sl14 h_partial
        have h_less := PyI.st sl14 h_less
        have h_r := PyI.st sl14 h_r
        have h_c := PyI.st sl14 h_c
        have h_place := PyI.st sl14 h_place
        refine q_asg (W := Wi14) (ew_copy (ew_ls (ew_var rfl h_paper))) g0.ok hm fun a16_swapped v_swapped W16 g16 ⟨fp_swapped, ho0_swapped, hf_swapped⟩ hm => ?_
        have dj_papers_swapped : ∀ b ∈ fp_papers, b ∉ fp_swapped := fun b m z => (kL ((List Str) × (Ls Sq))).live ho_papers.own b m (hf_swapped b z).1
        have hz_swapped : ∀ a ∈ fp_swapped, W0.H a = none := fun a m => g0.live a (hf_swapped a m).1
        have h_chart := PyI.st g16.st h_chart
        have h_calm := PyI.st g16.st h_calm
        have h_paper := PyI.st g16.st h_paper
        have h_rows := PyI.st g16.st h_rows
        have h_columns := PyI.st g16.st h_columns
        have h_k := PyI.st g16.st h_k
        have h_j := PyI.st g16.st h_j
        have h_part := PyI.st g16.st h_part
        have h_partial := PyI.st g16.st h_partial
        have h_less := PyI.st g16.st h_less
        have ho_papers := ho_papers.go g00 g16
        have h_r := PyI.st g16.st h_r
        have h_c := PyI.st g16.st h_c
        have h_place := PyI.st g16.st h_place
        have g0 := g0.trans g16
        have ho_swapped : Var (kL Sq) W0 W16 fp_swapped a16_swapped v_swapped := ⟨ho0_swapped, hz_swapped, fun b m => (hf_swapped b m).2.2⟩
        refine q_lset (W := W16) g00 g0 rfl ho_swapped (ew_ixL (ew_ls (ew_var rfl h_paper)) (ew_var rfl h_j)) (ew_var rfl h_k) hm fun a17_swapped W17_ W17 l_swapped el_swapped g17 s g02 kk ff ho_swapped hm => ?_
        have h_chart := PyI.st g17.st h_chart
        have h_calm := PyI.st g17.st h_calm
        have h_paper := PyI.st g17.st h_paper
        have h_rows := PyI.st g17.st h_rows
        have h_columns := PyI.st g17.st h_columns
        have h_k := PyI.st g17.st h_k
        have h_j := PyI.st g17.st h_j
        have h_part := PyI.st g17.st h_part
        have h_partial := PyI.st g17.st h_partial
        have h_less := PyI.st g17.st h_less
        have ho_papers := ho_papers.go g00 g17
        have h_r := PyI.st g17.st h_r
        have h_c := PyI.st g17.st h_c
        have h_place := PyI.st g17.st h_place
        have g0 := g0.trans g17
        have h_chart := PyI.st s h_chart
        have h_calm := PyI.st s h_calm
        have h_paper := PyI.st s h_paper
        have h_rows := PyI.st s h_rows
        have h_columns := PyI.st s h_columns
        have h_k := PyI.st s h_k
        have h_j := PyI.st s h_j
        have h_part := PyI.st s h_part
        have h_partial := PyI.st s h_partial
        have h_less := PyI.st s h_less
        have ho_papers := ho_papers.kept s kk ff dj_papers_swapped
        have h_r := PyI.st s h_r
        have h_c := PyI.st s h_c
        have h_place := PyI.st s h_place
        have g0 := g02
        refine q_lset (W := W17) g00 g0 rfl ho_swapped (ew_ixL (ew_ls (ew_var rfl h_paper)) (ew_var rfl h_k)) (ew_var rfl h_j) hm fun a18_swapped W18_ W18 l_swapped el_swapped g18 s g02 kk ff ho_swapped hm => ?_
        have h_chart := PyI.st g18.st h_chart
        have h_calm := PyI.st g18.st h_calm
        have h_paper := PyI.st g18.st h_paper
        have h_rows := PyI.st g18.st h_rows
        have h_columns := PyI.st g18.st h_columns
        have h_k := PyI.st g18.st h_k
        have h_j := PyI.st g18.st h_j
        have h_part := PyI.st g18.st h_part
        have h_partial := PyI.st g18.st h_partial
        have h_less := PyI.st g18.st h_less
        have ho_papers := ho_papers.go g00 g18
        have h_r := PyI.st g18.st h_r
        have h_c := PyI.st g18.st h_c
        have h_place := PyI.st g18.st h_place
        have g0 := g0.trans g18
        have h_chart := PyI.st s h_chart
        have h_calm := PyI.st s h_calm
        have h_paper := PyI.st s h_paper
        have h_rows := PyI.st s h_rows
        have h_columns := PyI.st s h_columns
        have h_k := PyI.st s h_k
        have h_j := PyI.st s h_j
        have h_part := PyI.st s h_part
        have h_partial := PyI.st s h_partial
        have h_less := PyI.st s h_less
        have ho_papers := ho_papers.kept s kk ff dj_papers_swapped
        have h_r := PyI.st s h_r
        have h_c := PyI.st s h_c
        have h_place := PyI.st s h_place
        have g0 := g02
        obtain ⟨gf, sf, h_swapped⟩ := frz_own g00 g0 ho_swapped
        have h_chart := PyI.st sf h_chart
        have h_calm := PyI.st sf h_calm
        have h_paper := PyI.st sf h_paper
        have h_rows := PyI.st sf h_rows
        have h_columns := PyI.st sf h_columns
        have h_k := PyI.st sf h_k
        have h_j := PyI.st sf h_j
        have h_part := PyI.st sf h_part
        have h_partial := PyI.st sf h_partial
        have h_less := PyI.st sf h_less
        have ho_papers := ho_papers.frzd dj_papers_swapped
        have h_r := PyI.st sf h_r
        have h_c := PyI.st sf h_c
        have h_place := PyI.st sf h_place
        have g0 := gf
        refine q_app (W := (W18.frz fp_swapped)) g00 g0 rfl ho_papers (ew_pair (ew_var rfl h_calm) (ew_var rfl h_swapped)) hm fun a19_papers W19_ W19 l_papers el_papers g19 s g02 kk ff ho_papers hm => ?_
        have h_chart := PyI.st g19.st h_chart
        have h_calm := PyI.st g19.st h_calm
        have h_paper := PyI.st g19.st h_paper
        have h_rows := PyI.st g19.st h_rows
        have h_columns := PyI.st g19.st h_columns
        have h_k := PyI.st g19.st h_k
        have h_j := PyI.st g19.st h_j
        have h_part := PyI.st g19.st h_part
        have h_partial := PyI.st g19.st h_partial
        have h_less := PyI.st g19.st h_less
        have h_r := PyI.st g19.st h_r
        have h_c := PyI.st g19.st h_c
        have h_place := PyI.st g19.st h_place
        have h_swapped := PyI.st g19.st h_swapped
        have g0 := g0.trans g19
        have h_chart := PyI.st s h_chart
        have h_calm := PyI.st s h_calm
        have h_paper := PyI.st s h_paper
        have h_rows := PyI.st s h_rows
        have h_columns := PyI.st s h_columns
        have h_k := PyI.st s h_k
        have h_j := PyI.st s h_j
        have h_part := PyI.st s h_part
        have h_partial := PyI.st s h_partial
        have h_less := PyI.st s h_less
        have h_r := PyI.st s h_r
        have h_c := PyI.st s h_c
        have h_place := PyI.st s h_place
        have h_swapped := PyI.st s h_swapped
        have g0 := g02
        exact ⟨_, rfl, hm _ W19 g0 rfl ⟨fp_papers, ho_papers.own, fun b m => ⟨ho_papers.fr b m, Var.nS g00 ho_papers b m, ho_papers.nF b m⟩⟩⟩
abbrev s__law_judged : Stmt := top 41
abbrev N__law_judged : List Str := ["chart", "other", "squares", "handed"]
abbrev P__law_judged : List Str := ["chart", "other", "squares"]
theorem sc__law_judged : FnScope N__law_judged P__law_judged (defScope s__law_judged) := ⟨rfl, rfl, rfl, by decide +kernel, rfl, by decide +kernel, by decide +kernel⟩
def m__law_judged (a_chart : (List Str)) (a_other : (List Str)) (a_squares : (List Sq)) : WP Bool := ((WP.pure a_squares).bind fun xs => WP.pure (α := List _) xs).bind fun a1_handed => (WP.and (WP.b2 (WP.b3 (WP.pure a_chart) (WP.pure a_other) (WP.pure a1_handed) m_shows_soaking) (WP.b3 (WP.pure a_chart) (WP.pure a_other) (WP.pure a_squares) m__law_shown) m__law_yes) (WP.eqLD (WP.pure a1_handed) (WP.pure a_squares))).bind fun r2 => (WP.pure r2)
def sp__law_judged : Sp := fun vs H Q _ => ∃ (W : Wo) (a_chart : (List Str)) (a_other : (List Str)) (a_squares : (List Sq)) (v_chart v_other v_squares : V) (fp_squares : List Addr), vs = [v_chart, v_other, v_squares] ∧ W.H = H ∧ Good ef0 W ∧ Rp W a_chart v_chart ∧ Rp W a_other v_other ∧ (kL Sq).own W fp_squares a_squares v_squares ∧ (∀ a ∈ fp_squares, ¬ ef0.S a) ∧ (m__law_judged a_chart a_other a_squares).run W.n fun n r => ∀ v W', Gw ef0 W W' → W'.n = n → (sI (e := ef0) (α := Bool)).post W W' r v → Q v W'.H
theorem ev__law_judged {e : Ef} {σ : L2.St} {W : Wo} {E : XK} {t0 t1 t2 : TE} {w0 : WP (List Str)} {w1 : WP (List Str)} {w2 : WP (List Sq)} (h0 : EvW e t0 σ W sI w0) (h1 : EvW e t1 σ W sI w1) (h2 : EvW e t2 σ W (sR (kL Sq)) w2) : EvW e (tCall sp__law_judged [] E (tCons t0 (tCons t1 (tCons t2 tNil)))) σ W (sI (α := Bool)) (WP.b3 w0 w1 w2 m__law_judged) := ew_call3N h0 h1 h2 fun W2 b0 b1 b2 x0 x1 x2 g2 r0 r1 ⟨fp2, r2, s2⟩ Q q E => by
  exact ⟨W2, b0, b1, b2, x0, x1, x2, fp2, rfl, rfl, g2.z, r0, r1, r2, fun _ _ z => z, WP.mono _ (fun n c h v W3 g3 hn p => h v W3 (Gw.up g2 g3) hn p) q⟩
theorem ok__law_judged (F : At K mg "_law_judged" s__law_judged P__law_judged) (G : Glb mg) (H__law_shown : Has P w K mg base "_law_shown" 5 P__law_shown sp__law_shown) (H__law_yes : Has P w K mg base "_law_yes" 1 P__law_yes sp__law_yes) (H_shows_soaking : Has P w K mg base "shows_soaking" 5 P_shows_soaking sp_shows_soaking) : Has P w K mg base "_law_judged" 6 P__law_judged sp__law_judged := by
  refine Has.of F sc__law_judged (fun vs H Q E h => ?_) (fun f cdv A outer s H0 vs Q E hr h => ?_)
  · obtain ⟨W0, a_chart, a_other, a_squares, v_chart, v_other, v_squares, fp_squares, rfl, _⟩ := h
    rfl
  · obtain ⟨W0, a_chart, a_other, a_squares, v_chart, v_other, v_squares, fp_squares, rfl, rfl, g00, h_chart, h_other, hb_squares, hS_squares, hm⟩ := h
    have sc := sc__law_judged
    have g0 := Gw.refl g00
    have hl_squares := (kL Sq).live hb_squares
    have hb0_squares := hb_squares
    unfold m__law_judged at hm
    refine ⟨_, (pss_cons (ps_set (i := 3) sc.nd rfl (Or.inl rfl) (pe_callTy call_list_of (by rfl) G.list (by decide +kernel) (pa_cons (pv 2) pa_nil)))
      (pss_one (ps_ret (pe_and (pe_user H__law_yes (hr.mono (by decide)) rfl (pa_cons (pe_user H_shows_soaking (hr.mono (by decide)) rfl (pa_cons (pv 0) (pa_cons (pv 1) (pa_cons (pv 3) pa_nil)))) (pa_cons (pe_user H__law_shown (hr.mono (by decide)) rfl (pa_cons (pv 0) (pa_cons (pv 1) (pa_cons (pv 2) pa_nil)))) pa_nil))) (pe_one (pe_cmpR (op_eqD hr.units) (pv 3) (pv 2) (nomark _))))))), ?_⟩
    refine q_asg (W := W0) (ew_copy (ew_varR rfl hS_squares hb_squares)) g0.ok hm fun a1_handed v_handed W1 g1 ⟨fp_handed, ho0_handed, hf_handed⟩ hm => ?_
    have hz_handed : ∀ a ∈ fp_handed, W0.H a = none := fun a m => g0.live a (hf_handed a m).1
    have h_chart := PyI.st g1.st h_chart
    have h_other := PyI.st g1.st h_other
    have hb_squares := Kd.go g1 hS_squares hb_squares
    have g0 := g0.trans g1
    have ho_handed : Var (kL Sq) W0 W1 fp_handed a1_handed v_handed := ⟨ho0_handed, hz_handed, fun b m => (hf_handed b m).2.2⟩
    refine st_ret (W := W1) (ew_andV (ev__law_yes (ev_shows_soaking (ew_var rfl h_chart) (ew_var rfl h_other) (ew_varR rfl (Var.nS g00 ho_handed) ho_handed.own)) (ev__law_shown (ew_var rfl h_chart) (ew_var rfl h_other) (ew_varR rfl hS_squares hb_squares))) (ew_eqLD (ew_varR rfl (Var.nS g00 ho_handed) ho_handed.own) (ew_varR rfl hS_squares hb_squares))) g0.ok hm fun r2 v_ret W2 g2 hp hm => ?_
    exact hm v_ret W2 (g0.trans g2) rfl hp
abbrev s__law_rim : Stmt := top 42
abbrev N__law_rim : List Str := ["chart", "wet", "spot"]
abbrev P__law_rim : List Str := ["chart"]
theorem sc__law_rim : FnScope N__law_rim P__law_rim (defScope s__law_rim) := ⟨rfl, rfl, rfl, by decide +kernel, rfl, by decide +kernel, by decide +kernel⟩
def m__law_rim (a_chart : (List Str)) : WP Int := (WP.lc (WP.b1 (WP.pure a_chart) m__law_all) (fun c1 => (WP.not (WP.b2 (WP.pure a_chart) (WP.pure c1) m__law_at))) (fun c1 => (WP.pure c1))).bind fun a1_wet => (WP.sub (WP.mul (WP.pure (4 : Int)) (WP.len (WP.pure a1_wet))) (WP.sum (WP.lc (WP.pure a1_wet) (fun c2 => (WP.pure true)) (fun c2 => (WP.b2 (WP.pure a_chart) (WP.pure c2) m__law_beside))))).bind fun r2 => (WP.pure r2)
def sp__law_rim : Sp := fun vs H Q _ => ∃ (W : Wo) (a_chart : (List Str)) (v_chart : V), vs = [v_chart] ∧ W.H = H ∧ Good ef0 W ∧ Rp W a_chart v_chart ∧ (m__law_rim a_chart).run W.n fun n r => ∀ v W', Gw ef0 W W' → W'.n = n → (sI (e := ef0) (α := Int)).post W W' r v → Q v W'.H
theorem ev__law_rim {e : Ef} {σ : L2.St} {W : Wo} {E : XK} {t0 : TE} {w0 : WP (List Str)} (h0 : EvW e t0 σ W sI w0) : EvW e (tCall sp__law_rim [] E (tCons t0 tNil)) σ W (sI (α := Int)) (WP.b1 w0 m__law_rim) := ew_call1N h0 fun W2 b0 x0 g2 r0 Q q E => by
  exact ⟨W2, b0, x0, rfl, rfl, g2.z, r0, WP.mono _ (fun n c h v W3 g3 hn p => h v W3 (Gw.up g2 g3) hn p) q⟩
theorem ok__law_rim (F : At K mg "_law_rim" s__law_rim P__law_rim) (G : Glb mg) (H__law_all : Has P w K mg base "_law_all" 1 P__law_all sp__law_all) (H__law_at : Has P w K mg base "_law_at" 2 P__law_at sp__law_at) (H__law_beside : Has P w K mg base "_law_beside" 3 P__law_beside sp__law_beside) : Has P w K mg base "_law_rim" 4 P__law_rim sp__law_rim := by
  refine Has.of F sc__law_rim (fun vs H Q E h => ?_) (fun f cdv A outer s H0 vs Q E hr h => ?_)
  · obtain ⟨W0, a_chart, v_chart, rfl, _⟩ := h
    rfl
  · obtain ⟨W0, a_chart, v_chart, rfl, rfl, g00, h_chart, hm⟩ := h
    have sc := sc__law_rim
    have g0 := Gw.refl g00
    unfold m__law_rim at hm
    refine ⟨_, (pss_cons (ps_setLc (i := 1) (own := [("spot", 2)]) (g := gName 2) rfl sc.nd rfl rfl (sw_true rfl rfl rfl (by decide +kernel)) (pi_list (pe_user H__law_all (hr.mono (by decide)) rfl (pa_cons (pv 0) pa_nil))) (blkOk_by (N := N__law_rim) (sc := defScope s__law_rim) (by decide +kernel)) (fun _ _ _ _ _ => (pg_name (i := 2) sc.nd rfl (Or.inl rfl))) (fun _ _ _ _ _ => (pts_one (pt_not (pt_val (pe_user H__law_at (hr.mono (by decide)) rfl (pa_cons (pv 0) (pa_cons (pv 2) pa_nil))))))) (fun _ _ _ _ _ => (pv 2)))
      (pss_one (ps_ret (pe_op op_sub (pe_op op_mul pe_int (pe_callB call_len_seq (by rfl) G.len PySem.boot_len (pa_cons (pv 1) pa_nil))) (pe_callB (cr_sum rfl) (by rfl) G.sum (by decide +kernel) (pa_cons (pe_lc (own := [("spot", 2)]) (g := gName 2) (tt := tYes) rfl sc.nd (pi_list (pv 1)) (blkOk_by (N := N__law_rim) (sc := defScope s__law_rim) (by decide +kernel)) (fun _ _ _ _ _ => (pg_name (i := 2) sc.nd rfl (Or.inl rfl))) (fun _ _ _ _ _ => pts_nil) (fun _ _ _ _ _ => (pe_user H__law_beside (hr.mono (by decide)) rfl (pa_cons (pv 0) (pa_cons (pv 2) pa_nil))))) pa_nil)))))), ?_⟩
    refine q_asg (W := W0) (ew_lcL (ew_rd (ev__law_all (ew_var rfl h_chart))) takes_N (fun _ _ _ h => by obtain ⟨v_spot, ec, h_spot⟩ := h; subst ec; rfl) (fun c1 Wc1 s2 gc1 h => by obtain ⟨v_spot, ec, h_spot⟩ := h; subst ec; have h_chart := PyI.st gc1.st h_chart; exact (et_not (et_B (ev__law_at (ew_var rfl h_chart) (ew_var rfl h_spot))))) (fun c1 Wc1 s2 gc1 h => by obtain ⟨v_spot, ec, h_spot⟩ := h; subst ec; have h_chart := PyI.st gc1.st h_chart; exact (ew_var rfl h_spot))) g0.ok hm fun a1_wet v_wet W1 g1 ⟨fp_wet, ho0_wet, hf_wet⟩ hm => ?_
    have hz_wet : ∀ a ∈ fp_wet, W0.H a = none := fun a m => g0.live a (hf_wet a m).1
    have h_chart := PyI.st g1.st h_chart
    have g0 := g0.trans g1
    have ho_wet : Var (kL Sq) W0 W1 fp_wet a1_wet v_wet := ⟨ho0_wet, hz_wet, fun b m => (hf_wet b m).2.2⟩
    refine st_ret (W := W1) (ew_sub (ew_mul ew_int (ew_lenL (ew_varR rfl (Var.nS g00 ho_wet) ho_wet.own))) (ew_sum (ew_rd (ew_lcL (ew_varR rfl (Var.nS g00 ho_wet) ho_wet.own) takes_N (fun _ _ _ h => by obtain ⟨v_spot, ec, h_spot⟩ := h; subst ec; rfl) (fun c2 Wc2 s2 gc2 h => by obtain ⟨v_spot, ec, h_spot⟩ := h; subst ec; have h_chart := PyI.st gc2.st h_chart; have ho_wet := ho_wet.go g00 gc2; exact et_yes) (fun c2 Wc2 s2 gc2 h => by obtain ⟨v_spot, ec, h_spot⟩ := h; subst ec; have h_chart := PyI.st gc2.st h_chart; have ho_wet := ho_wet.go g00 gc2; exact (ev__law_beside (ew_var rfl h_chart) (ew_var rfl h_spot))))))) g0.ok hm fun r2 v_ret W2 g2 hp hm => ?_
    exact hm v_ret W2 (g0.trans g2) rfl hp
abbrev s__law_falls : Stmt := top 43
abbrev N__law_falls : List Str := ["deal", "chart", "paper", "last", "told", "spot"]
abbrev P__law_falls : List Str := ["deal", "chart", "paper"]
theorem sc__law_falls : FnScope N__law_falls P__law_falls (defScope s__law_falls) := ⟨rfl, rfl, rfl, by decide +kernel, rfl, by decide +kernel, by decide +kernel⟩
def m__law_falls (_ : Unit) (a_chart : (List Str)) (a_paper : (List Sq)) : WP Bool := (WP.b1 (WP.pure a_chart) m__law_rim).bind fun a1_last => (WP.b1 (WP.pure a_chart) m_wet_rim).bind fun a2_told => (WP.or (WP.not (WP.b1 (WP.pure a2_told) m__law_number)) (WP.ne (WP.pure a2_told) (WP.pure a1_last))).bind fun b => WP.cond b ((WP.pure false).bind fun r4 => (WP.pure r4)) (WP.after (WP.loop (γ := Bool) (fun c5 (y5 : (List Str) × Int × Int) => (WP.b3 (WP.pure y5.1) (WP.pure c5) (WP.pure (Str.ofString ".")) m__law_set).bind fun a6_chart => (WP.eq (WP.b2 (WP.pure ()) (WP.pure (3 : Int)) m_take) (WP.pure (0 : Int))).bind fun b => WP.cond b ((WP.b1 (WP.pure a6_chart) m_wet_rim).bind fun a8_told => (WP.or (WP.not (WP.b1 (WP.pure a8_told) m__law_number)) (WP.or (WP.ne (WP.pure a8_told) (WP.b1 (WP.pure a6_chart) m__law_rim)) (WP.gt (WP.pure a8_told) (WP.pure y5.2.1)))).bind fun b => WP.cond b ((WP.pure false).bind fun r10 => (WP.pure (.rt r10))) ((WP.pure a8_told).bind fun a11_last => (WP.pure (.nx (a6_chart, a11_last, a8_told))))) ((WP.pure (.nx (a6_chart, y5.2.1, y5.2.2))))) a_paper (a_chart, a1_last, a2_told)) (fun (z5 : (List Str) × Int × Int) => (WP.pure true).bind fun r12 => (WP.pure r12)) (fun r => (WP.pure r)))
def sp__law_falls : Sp := fun vs H Q _ => ∃ (d : Dl) (W : Wo) (a_chart : (List Str)) (a_paper : (List Sq)) (v_chart v_paper : V) (fp_paper : List Addr), vs = [.ref d.p, v_chart, v_paper] ∧ W.H = H ∧ Good (efD d) W ∧ Rp W a_chart v_chart ∧ (kL Sq).own W fp_paper a_paper v_paper ∧ (∀ a ∈ fp_paper, ¬ (efD d).S a) ∧ (m__law_falls () a_chart a_paper).run W.n fun n r => ∀ v W', Gw (efD d) W W' → W'.n = n → (sI (e := (efD d)) (α := Bool)).post W W' r v → Q v W'.H
theorem ev__law_falls {d : Dl} {σ : L2.St} {W : Wo} {E : XK} {t0 t1 t2 : TE} {w0 : WP Unit} {w1 : WP (List Str)} {w2 : WP (List Sq)} (h0 : EvW (efD d) t0 σ W (sD d) w0) (h1 : EvW (efD d) t1 σ W sI w1) (h2 : EvW (efD d) t2 σ W (sR (kL Sq)) w2) : EvW (efD d) (tCall sp__law_falls [] E (tCons t0 (tCons t1 (tCons t2 tNil)))) σ W (sI (α := Bool)) (WP.b3 w0 w1 w2 m__law_falls) := ew_call3N h0 h1 h2 fun W2 b0 b1 b2 x0 x1 x2 g2 r0 r1 ⟨fp2, r2, s2⟩ Q q E => by
  cases r0
  exact ⟨d, W2, b1, b2, x1, x2, fp2, rfl, rfl, g2, r1, r2, s2, WP.mono _ (fun n c h v W3 g3 hn p => h v W3 g3 hn p) q⟩
theorem ok__law_falls (F : At K mg "_law_falls" s__law_falls P__law_falls) (G : Glb mg) (H__law_number : Has P w K mg base "_law_number" 1 P__law_number sp__law_number) (H__law_rim : Has P w K mg base "_law_rim" 4 P__law_rim sp__law_rim) (H__law_set : Has P w K mg base "_law_set" 1 P__law_set sp__law_set) (H__law_take : Has P w K mg base "_law_take" 1 P__law_take sp_take) (H_wet_rim : Has P w K mg base "wet_rim" 4 P_wet_rim sp_wet_rim) : Has P w K mg base "_law_falls" 5 P__law_falls sp__law_falls := by
  refine Has.of F sc__law_falls (fun vs H Q E h => ?_) (fun f cdv A outer s H0 vs Q E hr h => ?_)
  · obtain ⟨d, W0, a_chart, a_paper, v_chart, v_paper, fp_paper, rfl, _⟩ := h
    rfl
  · obtain ⟨d, W0, a_chart, a_paper, v_chart, v_paper, fp_paper, rfl, rfl, g00, h_chart, hb_paper, hS_paper, hm⟩ := h
    have sc := sc__law_falls
    have g0 := Gw.refl g00
    have hl_paper := (kL Sq).live hb_paper
    have hb0_paper := hb_paper
    unfold m__law_falls at hm
    refine ⟨_, (pss_cons (ps_set (i := 3) sc.nd rfl (Or.inl rfl) (pe_user H__law_rim (hr.mono (by decide)) rfl (pa_cons (pv 1) pa_nil)))
      (pss_cons (ps_set (i := 4) sc.nd rfl (Or.inl rfl) (pe_user H_wet_rim (hr.mono (by decide)) rfl (pa_cons (pv 1) pa_nil)))
      (pss_cons (ps_if (PW.pt (pw_or (pt_not (pt_val (pe_user H__law_number (hr.mono (by decide)) rfl (pa_cons (pv 4) pa_nil)))) (pw_or1 (pt_cmpR op_ne (pv 4) (pv 3) (nomark _))))) (pss_one (ps_ret pe_bl)) pss_nil)
      (pss_cons (ps_for PassesOwn.never rfl (pi_list (pv 2)) (pg_name (i := 5) sc.nd rfl (Or.inl rfl))
      (pss_cons (ps_set (i := 1) sc.nd rfl (Or.inl rfl) (pe_user H__law_set (hr.mono (by decide)) rfl (pa_cons (pv 1) (pa_cons (pv 5) (pa_cons pe_str pa_nil)))))
      (pss_one (ps_if (pt_cmpR op_eq (pe_user H__law_take (hr.mono (by decide)) rfl (pa_cons (pv 0) (pa_cons pe_int pa_nil))) pe_int (nomark _)) (pss_cons (ps_set (i := 4) sc.nd rfl (Or.inl rfl) (pe_user H_wet_rim (hr.mono (by decide)) rfl (pa_cons (pv 1) pa_nil)))
      (pss_cons (ps_if (PW.pt (pw_or (pt_not (pt_val (pe_user H__law_number (hr.mono (by decide)) rfl (pa_cons (pv 4) pa_nil)))) (pw_or (pt_cmpR op_ne (pv 4) (pe_user H__law_rim (hr.mono (by decide)) rfl (pa_cons (pv 1) pa_nil)) (nomark _)) (pw_or1 (pt_cmpR op_gt (pv 4) (pv 3) (nomark _)))))) (pss_one (ps_ret pe_bl)) pss_nil)
      (pss_one (ps_set (i := 3) sc.nd rfl (Or.inl rfl) (pv 4))))) pss_nil))))
      (pss_one (ps_ret pe_bl)))))), ?_⟩
    refine q_asg (W := W0) (ev__law_rim (ew_var rfl h_chart)) g0.ok hm fun a1_last v_last W1 g1 h_last hm => ?_
    have h_chart := PyI.st g1.st h_chart
    have hb_paper := Kd.go g1 hS_paper hb_paper
    have g0 := g0.trans g1
    refine q_asg (W := W1) (ev_wet_rim (ew_var rfl h_chart)) g0.ok hm fun a2_told v_told W2 g2 h_told hm => ?_
    have h_chart := PyI.st g2.st h_chart
    have hb_paper := Kd.go g2 hS_paper hb_paper
    have h_last := PyI.st g2.st h_last
    have g0 := g0.trans g2
    refine q_if (W := W2) (et_or (et_not (et_B (ev__law_number (ew_var rfl h_told)))) (et_t (ew_ne (ew_var rfl h_told) (ew_var rfl h_last)))) g0.ok hm (fun W3 g3 hm => ?_) (fun W3 g3 hm => ?_)
    ·
      have h_chart := PyI.st g3.st h_chart
      have hb_paper := Kd.go g3 hS_paper hb_paper
      have h_last := PyI.st g3.st h_last
      have h_told := PyI.st g3.st h_told
      have g0 := g0.trans g3
      refine st_ret (W := W3) ew_bl g0.ok hm fun r4 v_ret W4 g4 hp hm => ?_
      exact hm v_ret W4 (g0.trans g4) rfl hp
    ·
      have h_chart := PyI.st g3.st h_chart
      have hb_paper := Kd.go g3 hS_paper hb_paper
      have h_last := PyI.st g3.st h_last
      have h_told := PyI.st g3.st h_told
      have g0 := g0.trans g3
      refine st_next ?_
      obtain ⟨p_it5, vs_it5, ef_it5, ev_it5, hp_it5, hr_it5⟩ := own_list hb_paper
      have nS_it5 := hS_paper p_it5 (by rw [ef_it5]; exact List.mem_singleton.mpr rfl)
      refine q_forV (W := W3) tk_N (by rw [← ev_it5]; rfl) hp_it5 hr_it5 hm (fun y σ' W' => ∃ (v_chart : V) (v_last : V) (v_told : V) (o_spot : Option V), σ' = [some (.ref d.p), some v_chart, some v_paper, some v_last, some v_told, o_spot] ∧ Gw (efD d) W0 W' ∧ St W3 W' ∧ Rp W' y.1 v_chart ∧ Rp W' y.2.1 v_last ∧ Rp W' y.2.2 v_told ∧ W'.H p_it5 = some (.lst vs_it5)) ⟨v_chart, v_last, v_told, _, rfl, g0, (St.refl _), h_chart, h_last, h_told, hp_it5⟩ (fun _ _ _ hI => ?_) (fun c5 y5 σi s2 Wi5 R5 nx5 ht hI hm kn5 kb5 kr5 => ?_) (fun z5 σi Wi5 hI hm => ?_)
      · obtain ⟨v_chart, v_last, v_told, o_spot, rfl, g0, sl5, h_chart, h_last, h_told, hp_it5⟩ := hI
        exact ⟨sl5, hp_it5⟩
      ·
        obtain ⟨v_chart, v_last, v_told, o_spot, rfl, g0, sl5, h_chart, h_last, h_told, hp_it5⟩ := hI
        have hb_paper := Kd.go g0 hS_paper hb0_paper
        obtain ⟨v_spot, rfl, h_spot⟩ := ht
        refine q_asg (W := Wi5) (ev__law_set (ew_var rfl h_chart) (ew_var rfl h_spot) ew_str) g0.ok hm fun a6_chart v_chart W6 g6 h_chart hm => ?_
        have hb_paper := Kd.go g6 hS_paper hb_paper
        have h_last := PyI.st g6.st h_last
        have h_told := PyI.st g6.st h_told
        have h_spot := PyI.st g6.st h_spot
        have sl5 := sl5.trans g6.st
        have hp_it5 := g6.keep _ _ hp_it5 nS_it5
        have g0 := g0.trans g6
        refine st_if (W := W6) (et_t (ew_eq (ev_take (ew_deal rfl) ew_int) ew_int)) g0.ok hm (fun W7 g7 hm => ?_) (fun W7 g7 hm => ?_)
        ·
          have h_chart := PyI.st g7.st h_chart
          have hb_paper := Kd.go g7 hS_paper hb_paper
          have h_last := PyI.st g7.st h_last
          have h_told := PyI.st g7.st h_told
          have h_spot := PyI.st g7.st h_spot
          have sl5 := sl5.trans g7.st
          have hp_it5 := g7.keep _ _ hp_it5 nS_it5
          have g0 := g0.trans g7
          refine q_asg (W := W7) (ev_wet_rim (ew_var rfl h_chart)) g0.ok hm fun a8_told v_told W8 g8 h_told hm => ?_
          have h_chart := PyI.st g8.st h_chart
          have hb_paper := Kd.go g8 hS_paper hb_paper
          have h_last := PyI.st g8.st h_last
          have h_spot := PyI.st g8.st h_spot
          have sl5 := sl5.trans g8.st
          have hp_it5 := g8.keep _ _ hp_it5 nS_it5
          have g0 := g0.trans g8
          refine q_if (W := W8) (et_or (et_not (et_B (ev__law_number (ew_var rfl h_told)))) (et_or (et_t (ew_ne (ew_var rfl h_told) (ev__law_rim (ew_var rfl h_chart)))) (et_t (ew_gt (ew_var rfl h_told) (ew_var rfl h_last))))) g0.ok hm (fun W9 g9 hm => ?_) (fun W9 g9 hm => ?_)
          ·
            have h_chart := PyI.st g9.st h_chart
            have hb_paper := Kd.go g9 hS_paper hb_paper
            have h_last := PyI.st g9.st h_last
            have h_told := PyI.st g9.st h_told
            have h_spot := PyI.st g9.st h_spot
            have sl5 := sl5.trans g9.st
            have hp_it5 := g9.keep _ _ hp_it5 nS_it5
            have g0 := g0.trans g9
            refine st_ret (W := W9) ew_bl g0.ok hm fun r10 v_ret W10 g10 hp hm => ?_
            have hm := kr5 _ _ hm
            exact hm v_ret W10 (g0.trans g10) rfl hp
          ·
            have h_chart := PyI.st g9.st h_chart
            have hb_paper := Kd.go g9 hS_paper hb_paper
            have h_last := PyI.st g9.st h_last
            have h_told := PyI.st g9.st h_told
            have h_spot := PyI.st g9.st h_spot
            have sl5 := sl5.trans g9.st
            have hp_it5 := g9.keep _ _ hp_it5 nS_it5
            have g0 := g0.trans g9
            refine st_next ?_
            refine st_asg (W := W9) (ew_var rfl h_told) g0.ok hm fun a11_last v_last W11 g11 h_last hm => ?_
            have h_chart := PyI.st g11.st h_chart
            have hb_paper := Kd.go g11 hS_paper hb_paper
            have h_told := PyI.st g11.st h_told
            have h_spot := PyI.st g11.st h_spot
            have sl5 := sl5.trans g11.st
            have hp_it5 := g11.keep _ _ hp_it5 nS_it5
            have g0 := g0.trans g11
            exact kn5 (a6_chart, a11_last, a8_told) _ W11 ⟨v_chart, v_last, v_told, _, rfl, g0, sl5, h_chart, h_last, h_told, hp_it5⟩ hm
        ·
          have h_chart := PyI.st g7.st h_chart
          have hb_paper := Kd.go g7 hS_paper hb_paper
          have h_last := PyI.st g7.st h_last
          have h_told := PyI.st g7.st h_told
          have h_spot := PyI.st g7.st h_spot
          have sl5 := sl5.trans g7.st
          have hp_it5 := g7.keep _ _ hp_it5 nS_it5
          have g0 := g0.trans g7
          refine st_next ?_
          exact kn5 (a6_chart, y5.2.1, y5.2.2) _ W7 ⟨v_chart, v_last, v_told, _, rfl, g0, sl5, h_chart, h_last, h_told, hp_it5⟩ hm
      ·
        obtain ⟨v_chart, v_last, v_told, o_spot, rfl, g0, sl5, h_chart, h_last, h_told, hp_it5⟩ := hI
        have hb_paper := Kd.go g0 hS_paper hb0_paper
        refine st_ret (W := Wi5) ew_bl g0.ok hm fun r12 v_ret W12 g12 hp hm => ?_
        exact hm v_ret W12 (g0.trans g12) rfl hp
abbrev s_law : Stmt := top 44
abbrev N_law : List Str := ["script", "deal", "rows", "columns", "chart", "paper", "calm", "other", "again", "papers", "each", "squares", "told", "whole", "spot", "changed"]
abbrev P_law : List Str := ["script"]
theorem sc_law : FnScope N_law P_law (defScope s_law) := ⟨rfl, rfl, rfl, by decide +kernel, rfl, by decide +kernel, by decide +kernel⟩
def m_law (a_script : List Int) : WP Bool := (WP.b2 (WP.pure ()) (WP.pure (5 : Int)) m__law_sizes).bind fun a1_rows_columns => (WP.b3 (WP.pure ()) (WP.pure a1_rows_columns.1) (WP.pure a1_rows_columns.2) m__law_chart).bind fun a2_chart => (WP.b2 (WP.pure ()) (WP.pure a2_chart) m__law_soaking).bind fun a3 => (WP.b2 (WP.pure ()) (WP.pure a2_chart) m__law_soaking).bind fun a4 => (WP.or (WP.neD (WP.pure a3.b) (WP.pure a4.b)) (WP.not (WP.b2 (WP.b3 (WP.pure a2_chart) (WP.pure a3.b) (((WP.pure a3.a).bind fun x => WP.pure x.l).bind fun xs => WP.pure (α := List _) xs) m_shows_soaking) (WP.pure true) m__law_yes))).bind fun b => WP.cond b ((WP.pure false).bind fun r6 => (WP.pure r6)) ((WP.cat (WP.row (WP.consE (WP.pair (WP.pure a3.b) (WP.pure a4.a)) (WP.consE (WP.pair (WP.pure a3.b) ((((WP.pure a3.a).bind fun x => WP.pure x.l).bind fun xs => WP.pure xs.reverse).bind fun xs => WP.pure (⟨xs⟩ : (Ls Sq)))) (WP.pure ([] : List ((List Str) × (Ls Sq))))))) (WP.b4 (WP.pure ()) (WP.pure a2_chart) (WP.pure a3.b) (WP.pure a3.a) m__law_strange)).bind fun a7_papers => ((WP.gt (WP.len ((WP.pure a3.a).bind fun x => WP.pure x.l)) (WP.pure (0 : Int))).bind fun b => WP.cond b ((WP.cat (WP.pure a7_papers) (WP.b4 (WP.pure ()) (WP.pure a2_chart) (WP.pure a3.b) (WP.pure a3.a) m__law_bent)).bind fun a21_papers => (WP.pure a21_papers)) ((WP.pure a7_papers))).bind fun (y8 : (List ((List Str) × (Ls Sq)))) => WP.after (WP.loop (γ := Bool) (fun c9 (y9 : Unit) => (WP.not (WP.b3 (WP.pure a2_chart) (WP.pure c9.1) ((WP.pure c9.2).bind fun x => WP.pure x.l) m__law_judged)).bind fun b => WP.cond b ((WP.pure false).bind fun r11 => (WP.pure (.rt r11))) ((WP.pure (.nx ())))) y8 ()) (fun (z9 : Unit) => (WP.b1 (WP.pure a2_chart) m_soaking_paper).bind fun a12_told => (WP.or (WP.not (WP.b1 (WP.pure a12_told) m__law_spots)) (WP.or (WP.not (WP.b3 (WP.pure a2_chart) (WP.pure a3.b) (WP.pure a12_told) m__law_shown)) (WP.not (WP.b3 (WP.pure a2_chart) (WP.pure a3.b) (WP.pure a12_told) m__law_judged)))).bind fun b => WP.cond b ((WP.pure false).bind fun r14 => (WP.pure r14)) ((WP.b1 (WP.pure a2_chart) m_soaked).bind fun a15_whole => (WP.or (WP.not ((WP.pure a15_whole).bind fun _ => WP.pure true)) (WP.neD (WP.pure a15_whole) (WP.pure a3.b))).bind fun b => WP.cond b ((WP.pure false).bind fun r17 => (WP.pure r17)) ((WP.pair (WP.b2 (WP.pure ()) (WP.pure a1_rows_columns.1) m_take) (WP.b2 (WP.pure ()) (WP.pure a1_rows_columns.2) m_take)).bind fun a18_spot => (WP.b3 (WP.pure a2_chart) (WP.pure a18_spot) (WP.ite (WP.b2 (WP.pure a2_chart) (WP.pure a18_spot) m__law_at) (WP.pure (Str.ofString ".")) (WP.pure (Str.ofString "x"))) m__law_set).bind fun a19_changed => (WP.and (WP.b3 (WP.pure a19_changed) (WP.pure a3.b) ((WP.pure a3.a).bind fun x => WP.pure x.l) m__law_judged) (WP.b3 (WP.pure ()) (WP.pure a2_chart) ((WP.pure a3.a).bind fun x => WP.pure x.l) m__law_falls)).bind fun r20 => (WP.pure r20)))) (fun r => (WP.pure r)))
theorem ok_law {fa : Addr} {fd : FuncData} (LT : ∀ ns : List Int, ns.length ≤ 63 → (m_law ns).run 0 fun _ b => b = true) (F : Fun K "law" "law" s_law fa fd) (G : Glb mg) (H__law_at : Has P w K mg base "_law_at" 2 P__law_at sp__law_at) (H__law_bent : Has P w K mg base "_law_bent" 2 P__law_bent sp__law_bent) (H__law_chart : Has P w K mg base "_law_chart" 3 P__law_chart sp__law_chart) (H__law_deal : Has P w K mg base "_law_deal" 1 P__law_deal (sp_deal K)) (H__law_falls : Has P w K mg base "_law_falls" 5 P__law_falls sp__law_falls) (H__law_judged : Has P w K mg base "_law_judged" 6 P__law_judged sp__law_judged) (H__law_set : Has P w K mg base "_law_set" 1 P__law_set sp__law_set) (H__law_shown : Has P w K mg base "_law_shown" 5 P__law_shown sp__law_shown) (H__law_sizes : Has P w K mg base "_law_sizes" 2 P__law_sizes sp__law_sizes) (H__law_soaking : Has P w K mg base "_law_soaking" 5 P__law_soaking sp__law_soaking) (H__law_spots : Has P w K mg base "_law_spots" 3 P__law_spots sp__law_spots) (H__law_strange : Has P w K mg base "_law_strange" 4 P__law_strange sp__law_strange) (H__law_take : Has P w K mg base "_law_take" 1 P__law_take sp_take) (H__law_yes : Has P w K mg base "_law_yes" 1 P__law_yes sp__law_yes) (H_shows_soaking : Has P w K mg base "shows_soaking" 5 P_shows_soaking sp_shows_soaking) (H_soaked : Has P w K mg base "soaked" 5 P_soaked sp_soaked) (H_soaking_paper : Has P w K mg base "soaking_paper" 4 P_soaking_paper sp_soaking_paper) : FnOk P w K mg base CX0 7 fa fd P_law (sp_law K) := by
  refine F.ok sc_law (fun vs H Q E h => ?_) (fun cdv A outer s Hent vs Q E hr h => ?_)
  · obtain ⟨v_script, a_script, rfl, _⟩ := h
    rfl
  · obtain ⟨v_script, a_script, rfl, h_script, hlen, kk⟩ := h
    have hm := LT a_script hlen
    have g00 : Good ef0 ⟨Hent, fun _ => False, 0⟩ := ⟨fun _ z => z.elim, fun _ z => z.elim, True.intro⟩
    have sc := sc_law
    have g0 := Gw.refl g00
    unfold m_law at hm
    refine ⟨_, (pss_cons (ps_set (i := 1) sc.nd rfl (Or.inl rfl) (pe_user H__law_deal (hr.mono (by decide)) rfl (pa_cons (pv 0) pa_nil)))
      (pss_cons (ps_asg (pe_user H__law_sizes (hr.mono (by decide)) rfl (pa_cons (pv 1) (pa_cons pe_int pa_nil))) (pg_tup rfl (pgs_cons (pg_name (i := 2) sc.nd rfl (Or.inl rfl)) (pgs_cons (pg_name (i := 3) sc.nd rfl (Or.inl rfl)) pgs_nil))))
      (pss_cons (ps_set (i := 4) sc.nd rfl (Or.inl rfl) (pe_user H__law_chart (hr.mono (by decide)) rfl (pa_cons (pv 1) (pa_cons (pv 2) (pa_cons (pv 3) pa_nil)))))
      (pss_cons (ps_asg (pe_user H__law_soaking (hr.mono (by decide)) rfl (pa_cons (pv 1) (pa_cons (pv 4) pa_nil))) (pg_unl rfl (pgs_cons (pg_name (i := 5) sc.nd rfl (Or.inl rfl)) (pgs_cons (pg_name (i := 6) sc.nd rfl (Or.inl rfl)) pgs_nil))))
      (pss_cons (ps_asg (pe_user H__law_soaking (hr.mono (by decide)) rfl (pa_cons (pv 1) (pa_cons (pv 4) pa_nil))) (pg_unl rfl (pgs_cons (pg_name (i := 7) sc.nd rfl (Or.inl rfl)) (pgs_cons (pg_name (i := 8) sc.nd rfl (Or.inl rfl)) pgs_nil))))
      (pss_cons (ps_if (PW.pt (pw_or (pt_cmpR (op_neD hr.units) (pv 6) (pv 8) (nomark _)) (pw_or1 (pt_not (pt_val (pe_user H__law_yes (hr.mono (by decide)) rfl (pa_cons (pe_user H_shows_soaking (hr.mono (by decide)) rfl (pa_cons (pv 4) (pa_cons (pv 6) (pa_cons (pe_callTy call_list_of (by rfl) G.list (by decide +kernel) (pa_cons (pv 5) pa_nil)) pa_nil)))) (pa_cons pe_bl pa_nil)))))))) (pss_one (ps_ret pe_bl)) pss_nil)
      (pss_cons (ps_set (i := 9) sc.nd rfl (Or.inl rfl) (pe_op op_cat (pe_lst (pa_cons (pe_tup (pa_cons (pv 6) (pa_cons (pv 7) pa_nil))) (pa_cons (pe_tup (pa_cons (pv 6) (pa_cons (pe_revL (pv 5)) pa_nil))) pa_nil))) (pe_user H__law_strange (hr.mono (by decide)) rfl (pa_cons (pv 1) (pa_cons (pv 4) (pa_cons (pv 6) (pa_cons (pv 5) pa_nil)))))))
      (pss_cons (ps_if (pt_cmpR op_gt (pe_callB call_len_seq (by rfl) G.len PySem.boot_len (pa_cons (pv 5) pa_nil)) pe_int (nomark _)) (pss_one (ps_set (i := 9) sc.nd rfl (Or.inl rfl) (pe_op op_cat (pv 9) (pe_user H__law_bent (hr.mono (by decide)) rfl (pa_cons (pv 1) (pa_cons (pv 4) (pa_cons (pv 6) (pa_cons (pv 5) pa_nil)))))))) pss_nil)
      (pss_cons (ps_for PassesOwn.never rfl (pi_list (pv 9)) (pg_tup rfl (pgs_cons (pg_name (i := 10) sc.nd rfl (Or.inl rfl)) (pgs_cons (pg_name (i := 11) sc.nd rfl (Or.inl rfl)) pgs_nil)))
      (pss_one (ps_if (pt_not (pt_val (pe_user H__law_judged (hr.mono (by decide)) rfl (pa_cons (pv 4) (pa_cons (pv 10) (pa_cons (pv 11) pa_nil)))))) (pss_one (ps_ret pe_bl)) pss_nil)))
      (pss_cons (ps_set (i := 12) sc.nd rfl (Or.inl rfl) (pe_user H_soaking_paper (hr.mono (by decide)) rfl (pa_cons (pv 4) pa_nil)))
      (pss_cons (ps_if (PW.pt (pw_or (pt_not (pt_val (pe_user H__law_spots (hr.mono (by decide)) rfl (pa_cons (pv 12) pa_nil)))) (pw_or (pt_not (pt_val (pe_user H__law_shown (hr.mono (by decide)) rfl (pa_cons (pv 4) (pa_cons (pv 6) (pa_cons (pv 12) pa_nil)))))) (pw_or1 (pt_not (pt_val (pe_user H__law_judged (hr.mono (by decide)) rfl (pa_cons (pv 4) (pa_cons (pv 6) (pa_cons (pv 12) pa_nil)))))))))) (pss_one (ps_ret pe_bl)) pss_nil)
      (pss_cons (ps_set (i := 13) sc.nd rfl (Or.inl rfl) (pe_user H_soaked (hr.mono (by decide)) rfl (pa_cons (pv 4) pa_nil)))
      (pss_cons (ps_if (PW.pt (pw_or (pt_not (pt_val (pe_callB call_isi (by rfl) G.isinstance (by decide +kernel) (pa_cons (pv 13) (pa_cons (pe_bltn (v := .ty "tuple") (u := .type "tuple") rfl G.tuple (by decide +kernel) rfl) pa_nil))))) (pw_or1 (pt_cmpR (op_neD hr.units) (pv 13) (pv 6) (nomark _))))) (pss_one (ps_ret pe_bl)) pss_nil)
      (pss_cons (ps_set (i := 14) sc.nd rfl (Or.inl rfl) (pe_tup (pa_cons (pe_user H__law_take (hr.mono (by decide)) rfl (pa_cons (pv 1) (pa_cons (pv 2) pa_nil))) (pa_cons (pe_user H__law_take (hr.mono (by decide)) rfl (pa_cons (pv 1) (pa_cons (pv 3) pa_nil))) pa_nil))))
      (pss_cons (ps_set (i := 15) sc.nd rfl (Or.inl rfl) (pe_user H__law_set (hr.mono (by decide)) rfl (pa_cons (pv 4) (pa_cons (pv 14) (pa_cons (pe_ifExp (pt_val (pe_user H__law_at (hr.mono (by decide)) rfl (pa_cons (pv 4) (pa_cons (pv 14) pa_nil)))) pe_str pe_str) pa_nil)))))
      (pss_one (ps_ret (pe_and (pe_user H__law_judged (hr.mono (by decide)) rfl (pa_cons (pv 15) (pa_cons (pv 6) (pa_cons (pv 5) pa_nil)))) (pe_one (pe_user H__law_falls (hr.mono (by decide)) rfl (pa_cons (pv 1) (pa_cons (pv 4) (pa_cons (pv 5) pa_nil))))))))))))))))))))))), ?_⟩
    refine q_deal (W := _) rfl h_script hlen g0.ok rfl fun d W1d g00 hn0 => ?_
    have hm := cast_n hn0 hm
    have g0 := Gw.refl g00
    refine q_un2 (W := W1d) (ev__law_sizes (ew_deal rfl) ew_int) g0.ok hm fun a1_rows_columns v_rows v_columns W1 g1 h_rows h_columns hm => ?_
    have g0 := g0.trans g1
    refine q_asg (W := W1) (ev__law_chart (ew_deal rfl) (ew_var rfl h_rows) (ew_var rfl h_columns)) g0.ok hm fun a2_chart v_chart W2 g2 h_chart hm => ?_
    have h_rows := PyI.st g2.st h_rows
    have h_columns := PyI.st g2.st h_columns
    have g0 := g0.trans g2
    refine q_unHL2 (W := W2) (ev__law_soaking (ew_deal rfl) (ew_var rfl h_chart)) g0.ok hm fun a3 v_paper v_calm W3 g3 h_paper h_calm hm => ?_
    have h_rows := PyI.st g3.st h_rows
    have h_columns := PyI.st g3.st h_columns
    have h_chart := PyI.st g3.st h_chart
    have g0 := g0.trans g3
    refine q_unHL2 (W := W3) (ev__law_soaking (ew_deal rfl) (ew_var rfl h_chart)) g0.ok hm fun a4 v_other v_again W4 g4 h_other h_again hm => ?_
    have h_rows := PyI.st g4.st h_rows
    have h_columns := PyI.st g4.st h_columns
    have h_chart := PyI.st g4.st h_chart
    have h_paper := PyI.st g4.st h_paper
    have h_calm := PyI.st g4.st h_calm
    have g0 := g0.trans g4
    refine q_if (W := W4) (et_or (et_t (ew_neD (ew_var rfl h_calm) (ew_var rfl h_again))) (et_not (et_B (ev__law_yes (ev_shows_soaking (ew_var rfl h_chart) (ew_var rfl h_calm) (ew_rd (ew_copy (ew_ls (ew_var rfl h_paper))))) ew_bl)))) g0.ok hm (fun W5 g5 hm => ?_) (fun W5 g5 hm => ?_)
    ·
      have h_rows := PyI.st g5.st h_rows
      have h_columns := PyI.st g5.st h_columns
      have h_chart := PyI.st g5.st h_chart
      have h_paper := PyI.st g5.st h_paper
      have h_calm := PyI.st g5.st h_calm
      have h_other := PyI.st g5.st h_other
      have h_again := PyI.st g5.st h_again
      have g0 := g0.trans g5
      refine st_ret (W := W5) ew_bl g0.ok hm fun r6 v_ret W6 g6 hp hm => ?_
      have hm : r6 = true := hm
      cases hp
      rw [hm]
      exact kk _
    ·
      have h_rows := PyI.st g5.st h_rows
      have h_columns := PyI.st g5.st h_columns
      have h_chart := PyI.st g5.st h_chart
      have h_paper := PyI.st g5.st h_paper
      have h_calm := PyI.st g5.st h_calm
      have h_other := PyI.st g5.st h_other
      have h_again := PyI.st g5.st h_again
      have g0 := g0.trans g5
      refine st_next ?_
      refine q_asg (W := W5) (ew_cat (ew_rd (ew_lst (eas_cons (ew_pair (ew_var rfl h_calm) (ew_var rfl h_other)) (eas_cons (ew_pair (ew_var rfl h_calm) (ew_frz (ew_revL (ew_ls (ew_var rfl h_paper))))) (eas_nil (α := ((List Str) × (Ls Sq)))))))) (ew_rd (ev__law_strange (ew_deal rfl) (ew_var rfl h_chart) (ew_var rfl h_calm) (ew_var rfl h_paper)))) g0.ok hm fun a7_papers v_papers W7 g7 ⟨fp_papers, ho0_papers, hf_papers⟩ hm => ?_
      have hz_papers : ∀ a ∈ fp_papers, W1d.H a = none := fun a m => g0.live a (hf_papers a m).1
      have h_rows := PyI.st g7.st h_rows
      have h_columns := PyI.st g7.st h_columns
      have h_chart := PyI.st g7.st h_chart
      have h_paper := PyI.st g7.st h_paper
      have h_calm := PyI.st g7.st h_calm
      have h_other := PyI.st g7.st h_other
      have h_again := PyI.st g7.st h_again
      have g0 := g0.trans g7
      have ho_papers : Var (kL ((List Str) × (Ls Sq))) W1d W7 fp_papers a7_papers v_papers := ⟨ho0_papers, hz_papers, fun b m => (hf_papers b m).2.2⟩
      refine q_join (W := W7) (s := (List ((List Str) × (Ls Sq)))) (fun y σ' W' => ∃ (v_papers : V) (fp_papers : List Addr), σ' = [some (.ref v_script), some (.ref d.p), some v_rows, some v_columns, some v_chart, some v_paper, some v_calm, some v_other, some v_again, some v_papers, none, none, none, none, none, none] ∧ Gw (efD d) W1d W' ∧ St W7 W' ∧ Var (kL ((List Str) × (Ls Sq))) W1d W' fp_papers y v_papers) (et_t (ew_gt (ew_lenL (ew_ls (ew_var rfl h_paper))) ew_int)) g0.ok hm (fun y8 σj Wj8 hI hm => ?_) (fun W8 R8 g8 hm kj => ?_) (fun W8 R8 g8 hm kj => ?_)
      ·
        obtain ⟨v_papers, fp_papers, rfl, g0, sj8, ho_papers⟩ := hI
        have h_rows := PyI.st sj8 h_rows
        have h_columns := PyI.st sj8 h_columns
        have h_chart := PyI.st sj8 h_chart
        have h_paper := PyI.st sj8 h_paper
        have h_calm := PyI.st sj8 h_calm
        have h_other := PyI.st sj8 h_other
        have h_again := PyI.st sj8 h_again
        obtain ⟨p_it9, vs_it9, ef_it9, ev_it9, hp_it9, hr_it9⟩ := own_list ho_papers.own
        have nS_it9 := (Var.nS g00 ho_papers) p_it9 (by rw [ef_it9]; exact List.mem_singleton.mpr rfl)
        refine q_forV (W := Wj8) tk_P (by rw [← ev_it9]; rfl) hp_it9 hr_it9 hm (fun y σ' W' => ∃ (o_each : Option V) (o_squares : Option V), σ' = [some (.ref v_script), some (.ref d.p), some v_rows, some v_columns, some v_chart, some v_paper, some v_calm, some v_other, some v_again, some v_papers, o_each, o_squares, none, none, none, none] ∧ Gw (efD d) W1d W' ∧ St Wj8 W' ∧ Var (kL ((List Str) × (Ls Sq))) W1d W' fp_papers y8 v_papers ∧ W'.H p_it9 = some (.lst vs_it9)) ⟨_, _, rfl, g0, (St.refl _), ho_papers, hp_it9⟩ (fun _ _ _ hI => ?_) (fun c9 y9 σi s2 Wi9 R9 nx9 ht hI hm kn9 kb9 kr9 => ?_) (fun z9 σi Wi9 hI hm => ?_)
        · obtain ⟨o_each, o_squares, rfl, g0, sl9, ho_papers, hp_it9⟩ := hI
          exact ⟨sl9, hp_it9⟩
        ·
          obtain ⟨o_each, o_squares, rfl, g0, sl9, ho_papers, hp_it9⟩ := hI
          have h_rows := PyI.st sl9 h_rows
          have h_columns := PyI.st sl9 h_columns
          have h_chart := PyI.st sl9 h_chart
          have h_paper := PyI.st sl9 h_paper
          have h_calm := PyI.st sl9 h_calm
          have h_other := PyI.st sl9 h_other
          have h_again := PyI.st sl9 h_again
          obtain ⟨v_each, v_squares, rfl, h_each, h_squares⟩ := ht
          refine st_if (W := Wi9) (et_not (et_B (ev__law_judged (ew_var rfl h_chart) (ew_var rfl h_each) (ew_ls (ew_var rfl h_squares))))) g0.ok hm (fun W10 g10 hm => ?_) (fun W10 g10 hm => ?_)
          ·
            have h_rows := PyI.st g10.st h_rows
            have h_columns := PyI.st g10.st h_columns
            have h_chart := PyI.st g10.st h_chart
            have h_paper := PyI.st g10.st h_paper
            have h_calm := PyI.st g10.st h_calm
            have h_other := PyI.st g10.st h_other
            have h_again := PyI.st g10.st h_again
            have ho_papers := ho_papers.go g00 g10
            have h_each := PyI.st g10.st h_each
            have h_squares := PyI.st g10.st h_squares
            have sl9 := sl9.trans g10.st
            have hp_it9 := g10.keep _ _ hp_it9 nS_it9
            have g0 := g0.trans g10
            refine st_ret (W := W10) ew_bl g0.ok hm fun r11 v_ret W11 g11 hp hm => ?_
            have hm := kr9 _ _ hm
            have hm : r11 = true := hm
            cases hp
            rw [hm]
            exact kk _
          ·
            have h_rows := PyI.st g10.st h_rows
            have h_columns := PyI.st g10.st h_columns
            have h_chart := PyI.st g10.st h_chart
            have h_paper := PyI.st g10.st h_paper
            have h_calm := PyI.st g10.st h_calm
            have h_other := PyI.st g10.st h_other
            have h_again := PyI.st g10.st h_again
            have ho_papers := ho_papers.go g00 g10
            have h_each := PyI.st g10.st h_each
            have h_squares := PyI.st g10.st h_squares
            have sl9 := sl9.trans g10.st
            have hp_it9 := g10.keep _ _ hp_it9 nS_it9
            have g0 := g0.trans g10
            refine st_next ?_
            exact kn9 () _ W10 ⟨_, _, rfl, g0, sl9, ho_papers, hp_it9⟩ hm
        ·
          obtain ⟨o_each, o_squares, rfl, g0, sl9, ho_papers, hp_it9⟩ := hI
          have h_rows := PyI.st sl9 h_rows
          have h_columns := PyI.st sl9 h_columns
          have h_chart := PyI.st sl9 h_chart
          have h_paper := PyI.st sl9 h_paper
          have h_calm := PyI.st sl9 h_calm
          have h_other := PyI.st sl9 h_other
          have h_again := PyI.st sl9 h_again
          refine q_asg (W := Wi9) (ev_soaking_paper (ew_var rfl h_chart)) g0.ok hm fun a12_told v_told W12 g12 ⟨fp_told, ho0_told, hf_told⟩ hm => ?_
          have dj_papers_told : ∀ b ∈ fp_papers, b ∉ fp_told := fun b m z => (kL ((List Str) × (Ls Sq))).live ho_papers.own b m (hf_told b z).1
          have hz_told : ∀ a ∈ fp_told, W1d.H a = none := fun a m => g0.live a (hf_told a m).1
          have h_rows := PyI.st g12.st h_rows
          have h_columns := PyI.st g12.st h_columns
          have h_chart := PyI.st g12.st h_chart
          have h_paper := PyI.st g12.st h_paper
          have h_calm := PyI.st g12.st h_calm
          have h_other := PyI.st g12.st h_other
          have h_again := PyI.st g12.st h_again
          have ho_papers := ho_papers.go g00 g12
          have g0 := g0.trans g12
          have ho_told : Var (kL Sq) W1d W12 fp_told a12_told v_told := ⟨ho0_told, hz_told, fun b m => (hf_told b m).2.2⟩
          refine q_if (W := W12) (et_or (et_not (et_B (ev__law_spots (ew_varR rfl (Var.nS g00 ho_told) ho_told.own)))) (et_or (et_not (et_B (ev__law_shown (ew_var rfl h_chart) (ew_var rfl h_calm) (ew_varR rfl (Var.nS g00 ho_told) ho_told.own)))) (et_not (et_B (ev__law_judged (ew_var rfl h_chart) (ew_var rfl h_calm) (ew_varR rfl (Var.nS g00 ho_told) ho_told.own)))))) g0.ok hm (fun W13 g13 hm => ?_) (fun W13 g13 hm => ?_)
          ·
            have h_rows := PyI.st g13.st h_rows
            have h_columns := PyI.st g13.st h_columns
            have h_chart := PyI.st g13.st h_chart
            have h_paper := PyI.st g13.st h_paper
            have h_calm := PyI.st g13.st h_calm
            have h_other := PyI.st g13.st h_other
            have h_again := PyI.st g13.st h_again
            have ho_papers := ho_papers.go g00 g13
            have ho_told := ho_told.go g00 g13
            have g0 := g0.trans g13
            refine st_ret (W := W13) ew_bl g0.ok hm fun r14 v_ret W14 g14 hp hm => ?_
            have hm : r14 = true := hm
            cases hp
            rw [hm]
            exact kk _
          ·
            have h_rows := PyI.st g13.st h_rows
            have h_columns := PyI.st g13.st h_columns
            have h_chart := PyI.st g13.st h_chart
            have h_paper := PyI.st g13.st h_paper
            have h_calm := PyI.st g13.st h_calm
            have h_other := PyI.st g13.st h_other
            have h_again := PyI.st g13.st h_again
            have ho_papers := ho_papers.go g00 g13
            have ho_told := ho_told.go g00 g13
            have g0 := g0.trans g13
            refine st_next ?_
            refine q_asg (W := W13) (ev_soaked (ew_var rfl h_chart)) g0.ok hm fun a15_whole v_whole W15 g15 h_whole hm => ?_
            have h_rows := PyI.st g15.st h_rows
            have h_columns := PyI.st g15.st h_columns
            have h_chart := PyI.st g15.st h_chart
            have h_paper := PyI.st g15.st h_paper
            have h_calm := PyI.st g15.st h_calm
            have h_other := PyI.st g15.st h_other
            have h_again := PyI.st g15.st h_again
            have ho_papers := ho_papers.go g00 g15
            have ho_told := ho_told.go g00 g15
            have g0 := g0.trans g15
            refine q_if (W := W15) (et_or (et_not (et_B (ew_isiD "tuple" true (by decide +kernel) (ew_var rfl h_whole)))) (et_t (ew_neD (ew_var rfl h_whole) (ew_var rfl h_calm)))) g0.ok hm (fun W16 g16 hm => ?_) (fun W16 g16 hm => ?_)
            ·
              have h_rows := PyI.st g16.st h_rows
              have h_columns := PyI.st g16.st h_columns
              have h_chart := PyI.st g16.st h_chart
              have h_paper := PyI.st g16.st h_paper
              have h_calm := PyI.st g16.st h_calm
              have h_other := PyI.st g16.st h_other
              have h_again := PyI.st g16.st h_again
              have ho_papers := ho_papers.go g00 g16
              have ho_told := ho_told.go g00 g16
              have h_whole := PyI.st g16.st h_whole
              have g0 := g0.trans g16
              refine st_ret (W := W16) ew_bl g0.ok hm fun r17 v_ret W17 g17 hp hm => ?_
              have hm : r17 = true := hm
              cases hp
              rw [hm]
              exact kk _
            ·
              have h_rows := PyI.st g16.st h_rows
              have h_columns := PyI.st g16.st h_columns
              have h_chart := PyI.st g16.st h_chart
              have h_paper := PyI.st g16.st h_paper
              have h_calm := PyI.st g16.st h_calm
              have h_other := PyI.st g16.st h_other
              have h_again := PyI.st g16.st h_again
              have ho_papers := ho_papers.go g00 g16
              have ho_told := ho_told.go g00 g16
              have h_whole := PyI.st g16.st h_whole
              have g0 := g0.trans g16
              refine st_next ?_
              refine q_asg (W := W16) (ew_pair (ev_take (ew_deal rfl) (ew_var rfl h_rows)) (ev_take (ew_deal rfl) (ew_var rfl h_columns))) g0.ok hm fun a18_spot v_spot W18 g18 h_spot hm => ?_
              have h_rows := PyI.st g18.st h_rows
              have h_columns := PyI.st g18.st h_columns
              have h_chart := PyI.st g18.st h_chart
              have h_paper := PyI.st g18.st h_paper
              have h_calm := PyI.st g18.st h_calm
              have h_other := PyI.st g18.st h_other
              have h_again := PyI.st g18.st h_again
              have ho_papers := ho_papers.go g00 g18
              have ho_told := ho_told.go g00 g18
              have h_whole := PyI.st g18.st h_whole
              have g0 := g0.trans g18
              refine q_asg (W := W18) (ev__law_set (ew_var rfl h_chart) (ew_var rfl h_spot) (ew_ifE (et_B (ev__law_at (ew_var rfl h_chart) (ew_var rfl h_spot))) ew_str ew_str)) g0.ok hm fun a19_changed v_changed W19 g19 h_changed hm => ?_
              have h_rows := PyI.st g19.st h_rows
              have h_columns := PyI.st g19.st h_columns
              have h_chart := PyI.st g19.st h_chart
              have h_paper := PyI.st g19.st h_paper
              have h_calm := PyI.st g19.st h_calm
              have h_other := PyI.st g19.st h_other
              have h_again := PyI.st g19.st h_again
              have ho_papers := ho_papers.go g00 g19
              have ho_told := ho_told.go g00 g19
              have h_whole := PyI.st g19.st h_whole
              have h_spot := PyI.st g19.st h_spot
              have g0 := g0.trans g19
              refine st_ret (W := W19) (ew_andV (ev__law_judged (ew_var rfl h_changed) (ew_var rfl h_calm) (ew_ls (ew_var rfl h_paper))) (ev__law_falls (ew_deal rfl) (ew_var rfl h_chart) (ew_ls (ew_var rfl h_paper)))) g0.ok hm fun r20 v_ret W20 g20 hp hm => ?_
              have hm : r20 = true := hm
              cases hp
              rw [hm]
              exact kk _
      ·
        have h_rows := PyI.st g8.st h_rows
        have h_columns := PyI.st g8.st h_columns
        have h_chart := PyI.st g8.st h_chart
        have h_paper := PyI.st g8.st h_paper
        have h_calm := PyI.st g8.st h_calm
        have h_other := PyI.st g8.st h_other
        have h_again := PyI.st g8.st h_again
        have ho_papers := ho_papers.go g00 g8
        have g0 := g0.trans g8
        have sj8 := g8.st
        refine st_asg (W := W8) (ew_cat (ew_varR rfl (Var.nS g00 ho_papers) ho_papers.own) (ew_rd (ev__law_bent (ew_deal rfl) (ew_var rfl h_chart) (ew_var rfl h_calm) (ew_var rfl h_paper)))) g0.ok hm fun a21_papers v_papers W21 g21 ⟨fp_papers, ho0_papers, hf_papers⟩ hm => ?_
        have hz_papers : ∀ a ∈ fp_papers, W1d.H a = none := fun a m => g0.live a (hf_papers a m).1
        have h_rows := PyI.st g21.st h_rows
        have h_columns := PyI.st g21.st h_columns
        have h_chart := PyI.st g21.st h_chart
        have h_paper := PyI.st g21.st h_paper
        have h_calm := PyI.st g21.st h_calm
        have h_other := PyI.st g21.st h_other
        have h_again := PyI.st g21.st h_again
        have sj8 := sj8.trans g21.st
        have g0 := g0.trans g21
        have ho_papers : Var (kL ((List Str) × (Ls Sq))) W1d W21 fp_papers a21_papers v_papers := ⟨ho0_papers, hz_papers, fun b m => (hf_papers b m).2.2⟩
        exact kj a21_papers _ W21 ⟨v_papers, fp_papers, rfl, g0, sj8, ho_papers⟩ hm
      ·
        have h_rows := PyI.st g8.st h_rows
        have h_columns := PyI.st g8.st h_columns
        have h_chart := PyI.st g8.st h_chart
        have h_paper := PyI.st g8.st h_paper
        have h_calm := PyI.st g8.st h_calm
        have h_other := PyI.st g8.st h_other
        have h_again := PyI.st g8.st h_again
        have ho_papers := ho_papers.go g00 g8
        have g0 := g0.trans g8
        have sj8 := g8.st
        refine st_next ?_
        exact kj a7_papers _ W8 ⟨v_papers, fp_papers, rfl, g0, sj8, ho_papers⟩ hm
end
end W
namespace W
open PySem PySem.Spec L2 Y
theorem deal_plain (ns : List Int) (hl : ns.length ≤ 63) (n : Nat) : (m__law_deal ns).run n fun _ _ => True := Y.deal_plain ns hl n
theorem yes_is (a b : Bool) : Is (m__law_yes a b) (decide (a = b)) := (Is.ret (Is.and (Is.pure.bind Is.pure) fun _ => Is.b2 Is.pure Is.pure Is.pure)).eq (by simp)
theorem with_is {ch : List Str} (c : GC ch) {qs : List Sq} (h : ∀ q ∈ qs, isSq ch q = true) : Is (m_with_squares ch qs false) (FinS ch qs) := by
  have cc := c.good
  have hhl := cc.hl
  have hwl := cc.wl
  refine Is.bind (Is.lcM (g := signs) Is.pure (by omega) fun s hs => Is.pure.bind (Is.req (by have := cc.w s hs; omega))) ?_
  have key : ∀ (qs : List Sq) (acc : List Str), GC acc → Sz acc ch → (∀ q ∈ qs, isSq ch q = true) → Is (WP.after (WP.loop (γ := (List Str)) (fun c2 (y2 : (List (List Str))) => ((WP.b2 (WP.pure ch) (WP.pure c2) m_is_square).bind fun b => WP.cond b ((WP.gset y2 (WP.ite (WP.pure false) (WP.pure ("x" : Str)) (WP.pure ("." : Str))) (WP.fst (WP.pure c2)) (WP.snd (WP.pure c2))).bind fun a4_grid => (WP.pure a4_grid)) ((WP.pure y2))).bind fun (y3 : (List (List Str))) => (WP.pure (.nx y3))) qs (acc.map signs)) (fun (z2 : (List (List Str))) => ((WP.lc (WP.pure z2) (fun c2 => (WP.pure true)) (fun c2 => (WP.join (WP.pure (Str.ofString "")) (WP.pure c2)))).bind fun xs => WP.pure (α := List _) xs).bind fun r5 => (WP.pure r5)) (fun r => (WP.pure r))) (FinS acc qs) := fun qs => by
    induction qs with
    | nil =>
      intro acc ga sz _
      refine Is.loopNil (Is.ret (Is.bind (Is.eq (Is.lcM (g := fun z => mkS (z.map cod)) Is.pure (by rw [List.length_map, sz.l]; omega) fun z hz => ?_) ?_) Is.pure))
      · obtain ⟨s, hs, rfl⟩ := List.mem_map.mp hz
        have e : (signs s).map cod = s.cps.toList := by
          rw [signs_map, List.map_map]
          conv => rhs; rw [← List.map_id s.cps.toList]
          exact List.map_congr_left fun x _ => rfl
        rw [e, mkS_tl]
        exact joinS_is (by have := ga.good.w s hs; have := ga.good.wl; omega)
      · rw [List.map_map]
        conv => rhs; rw [show FinS acc [] = acc from rfl, ← List.map_id acc]
        refine List.map_congr_left fun s _ => ?_
        show mkS ((signs s).map cod) = s
        have e : (signs s).map cod = s.cps.toList := by
          rw [signs_map, List.map_map]
          conv => rhs; rw [← List.map_id s.cps.toList]
          exact List.map_congr_left fun x _ => rfl
        rw [e, mkS_tl]
    | cons q qs ih =>
      intro acc ga sz hq
      have h1 := hq q List.mem_cons_self
      have h1' : isSq acc q = true := by rw [sz.sq]; exact h1
      have hh := isSq_iff.mp h1'
      refine Is.loopNx (y := (setCh acc q 46).map signs) (Is.bind (Is.bind (Is.b2 Is.pure Is.pure (is_square_is cc q)) ?_) Is.pure) (ih _ (gc_set ga h1' (.inr rfl)) ((sz_set ga.good h1' 46).trans sz) fun p hp => hq p (List.mem_cons_of_mem _ hp))
      rw [h1]
      refine Is.bind ?_ Is.pure
      have o1 : okI (acc.map signs).length q.1 := ⟨by rw [List.length_map]; omega, by rw [List.length_map]; omega⟩
      have o2 : okI (ixD (acc.map signs) q.1).length q.2 := by
        rw [ixD_map hh.1 hh.2.1, signs_map, List.length_map, tl_len]
        exact ga.good.ok2 h1'
      rw [← grid_set ga.good h1' 46, ← dot_str]
      intro n Q hQ
      simp only [WP.run_bind, WP.run_pure, WP.run_req, WP.run_any, WP.run_take, WP.run_cond, WP.run_range1, WP.run_range2, decide_eq_true_eq, decide_eq_false_iff_not, Bool.not_eq_true', Bool.not_eq_false']
      exact ⟨(fun z => by cases z), fun _ => ⟨o1, o2, hQ⟩⟩
  exact key qs ch c (Sz.refl ch) h
theorem wet_is {ch : List Str} (c : Ch ch) (q : Sq) : Is (m_wet_beside ch q) (wets ch q) :=
  Is.ret (Is.lcF (Is.b1 Is.pure (side_neighbours_is q)) (by show 4 ≤ 100000; omega) fun x _ => Is.and (Is.b2 Is.pure Is.pure (is_square_is c x)) fun _ => Is.not (Is.b2 Is.pure Is.pure (is_land_is c x)))
theorem beside_is {ch : List Str} (c : Ch ch) (q : Sq) : Is (m__law_beside ch q) (((wets ch q).length : Nat) : Int) :=
  Is.ret (Is.len (Is.lcF (Is.b1 Is.pure (side_neighbours_is q)) (by show 4 ≤ 100000; omega) fun x _ => Is.and (Is.b2 Is.pure Is.pure (law_in_is c x)) fun _ => Is.not (Is.b2 Is.pure Is.pure (law_at_is c x))))
theorem land_squares_is' {ch : List Str} (c : Ch ch) : Is (m_land_squares ch) ((allSq ch).filter (isLd ch)) :=
  Is.ret (Is.lcF (Is.b1 Is.pure (squares_of_is c)) (by have := c.area; omega) fun x _ => Is.b2 Is.pure Is.pure (is_land_is c x))
theorem dry_is {ch : List Str} (c : Ch ch) : Is (m__law_dry ch) ((allSq ch).filter (isLd ch)) :=
  Is.ret (Is.lcF (Is.b1 Is.pure (law_all_is c)) (by have := c.area; omega) fun x _ => Is.b2 Is.pure Is.pure (law_at_is c x))
theorem soft_is {ch : List Str} (c : Ch ch) : Is (m__law_soft ch) (softs ch) := by
  have har := c.area
  have hl := List.length_filter_le (isLd ch) (allSq ch)
  refine Is.ret (Is.eq (Is.lcF (p := fun x => decide (2 ≤ (wets ch x).length)) (Is.b1 Is.pure (dry_is c)) (by omega) fun x _ => (Is.b2 (Is.b2 Is.pure Is.pure (beside_is c x)) Is.pure Is.pure).eq ?_) ?_)
  · rw [Bool.eq_iff_iff, decide_eq_true_eq, decide_eq_true_eq]
    omega
  · unfold softs
    rw [List.filter_filter]
    exact List.filter_congr fun x _ => by unfold softB; rw [Bool.and_comm]
theorem ldBeside_is {ch : List Str} (c : Ch ch) (q : Sq) : Is (WP.lc (WP.b1 (WP.pure q) m_side_neighbours) (fun c1 => (WP.b2 (WP.pure ch) (WP.pure c1) m_is_land)) (fun c1 => (WP.pure c1))) ((sides q).filter (isLd ch)) :=
  Is.lcF (Is.b1 Is.pure (side_neighbours_is q)) (by show 4 ≤ 100000; omega) fun x _ => Is.b2 Is.pure Is.pure (is_land_is c x)
theorem soaking_gives {ch : List Str} (c : GC ch) (har : (allSq ch).length ≤ 10000) : Gives (m_soaking_paper ch) (fun r => ValS ch r ∧ softs (FinS ch r) = []) := by
  intro n Q q
  unfold m_soaking_paper
  rw [WP.run_bind]
  refine ⟨by simp, ?_⟩
  dsimp only
  rw [WP.run_bind]
  refine land_squares_is' c.good _ _ ?_
  rw [WP.run_bind, WP.run_pure]
  have hc0 := cntL_le ch
  refine WP.after_whilst (fun m n' (y : List Str × List Sq × List Sq × Int) => n' = n ∧ GC y.1 ∧ ValS ch y.2.1 ∧ FinS ch y.2.1 = y.1 ∧ 0 ≤ y.2.2.2 ∧ y.2.2.2 ≤ (y.2.2.1.length : Int) ∧ (∀ p, softB y.1 p = true → p ∈ y.2.2.1.drop y.2.2.2.toNat) ∧ y.2.2.1.length + 4 * cntL y.1 ≤ 5 * (allSq ch).length ∧ m = 5 * cntL y.1 + (y.2.2.1.length - y.2.2.2.toNat)) ⟨_, rfl, c, trivial, rfl, by show (0 : Int) ≤ 0; omega, by show (0 : Int) ≤ _; omega, fun p hp => ?_, by show cntL ch + 4 * cntL ch ≤ _; omega, rfl⟩ ?_
  · exact List.mem_filter.mpr ⟨mem_allSq.mpr (softB_sq hp), (softB_iff.mp hp).1⟩
  rintro m n' ⟨D, found, queue, at'⟩ ⟨rfl, g, v, f, a0, a1, hq, hl, em⟩
  dsimp only at g v f a0 a1 hq hl em
  subst f; subst em
  have zD := (finS_gc c (valS_sq c.good v)).2
  have lv := valS_len c.good v
  generalize hD : FinS ch found = D at *
  refine Is.b2 (f := fun x y => WP.pure (decide (x < y))) Is.pure (Is.len Is.pure) Is.pure _ _ ⟨fun h => ?_, fun h => ?_⟩
  rotate_left
  · have h : ¬ at' < (queue.length : Int) := of_decide_eq_false h
    refine q _ ⟨v, ?_⟩
    rw [hD]
    have e : at'.toNat = queue.length := by omega
    rw [e, List.drop_length] at hq
    exact List.eq_nil_iff_forall_not_mem.mpr fun p hp => by cases hq p (mem_softs.mp hp)
  have h : at' < (queue.length : Int) := of_decide_eq_true h
  dsimp only
  rw [WP.run_bind]
  refine Is.ix Is.pure Is.pure (⟨by omega, by omega⟩ : okI queue.length at') _ _ ?_
  obtain ⟨hlt, hix⟩ := ixD_get (xs := queue) a0 h
  generalize ixD queue at' = s at hix
  have hdrop : queue.drop at'.toNat = s :: queue.drop (at'.toNat + 1) := by rw [hix]; exact List.drop_eq_getElem_cons hlt
  have eat : (at' + 1).toNat = at'.toNat + 1 := by omega
  rw [WP.run_bind, WP.run_bind]
  refine (Is.and (Is.b2 Is.pure Is.pure (is_land_is g.good s)) fun _ => Is.b2 (Is.len (Is.b2 Is.pure Is.pure (wet_is g.good s))) Is.pure Is.pure : Is _ (isLd D s && decide ((((wets D s).length : Nat) : Int) ≥ 2))) _ _ ?_
  have et : (isLd D s && decide ((((wets D s).length : Nat) : Int) ≥ 2)) = softB D s := by
    unfold softB
    congr 1
    rw [Bool.eq_iff_iff, decide_eq_true_eq, decide_eq_true_eq]
    omega
  rw [et, WP.run_cond]
  refine ⟨fun hs => ?_, fun hs => ?_⟩
  · have hsq := softB_sq hs
    have g2 := gc_set g hsq (k := 46) (.inr rfl)
    have hcl := cntL_set g.good (softB_iff.mp hs).1
    rw [WP.run_bind]
    refine (Is.b3 Is.pure (Is.req (by simp)) Is.pure (with_is g (qs := [s]) fun p hp => by rw [List.mem_singleton.mp hp]; exact hsq) : Is _ (setCh D s 46)) _ _ ?_
    rw [WP.run_bind]
    have hll := List.length_filter_le (isLd (setCh D s 46)) (sides s)
    have h4 : (sides s).length = 4 := rfl
    refine ⟨by omega, ?_⟩
    dsimp only
    rw [WP.run_bind]
    refine ldBeside_is g2.good s _ _ ⟨by omega, ?_⟩
    simp only [WP.run_bind, WP.run_pure, WP.run_req, WP.run_any, WP.run_take, WP.run_cond, WP.run_range1, WP.run_range2, decide_eq_true_eq, decide_eq_false_iff_not, Bool.not_eq_true', Bool.not_eq_false']
    refine ⟨_, ?_, by trivial, g2, ValS_app v (by rw [hD]; exact ⟨hs, trivial⟩), by rw [FinS_app, hD]; rfl, by show (0 : Int) ≤ at' + 1; omega, ?_, fun p hp => ?_, ?_, rfl⟩
    all_goals dsimp only
    · rw [List.length_append]; omega
    · rw [List.length_append]; omega
    · rw [eat, List.drop_append_of_le_length (by omega), List.mem_append]
      rcases soft_new g.good hsq hp with h5 | ⟨h5, h6⟩
      · have := hq p h5
        rw [hdrop] at this
        rcases List.mem_cons.mp this with e | e
        · subst e
          have := (softB_iff.mp hp).1
          rw [set46_ld g.good hsq, if_pos rfl] at this
          cases this
        · exact .inl e
      · exact .inr (List.mem_filter.mpr ⟨h5, h6⟩)
    · rw [List.length_append]; omega
  · simp only [WP.run_bind, WP.run_pure, WP.run_req, WP.run_any, WP.run_take, WP.run_cond, WP.run_range1, WP.run_range2, decide_eq_true_eq, decide_eq_false_iff_not, Bool.not_eq_true', Bool.not_eq_false']
    refine ⟨_, ?_, by trivial, g, v, hD, by show (0 : Int) ≤ at' + 1; omega, by show at' + 1 ≤ (queue.length : Int); omega, fun p hp => ?_, hl, rfl⟩
    all_goals dsimp only
    · omega
    · have := hq p hp
      rw [hdrop] at this
      rw [eat]
      rcases List.mem_cons.mp this with e | e
      · rw [e, hs] at hp; cases hp
      · exact e
theorem calm_is {ch : List Str} (c : GC ch) (har : (allSq ch).length ≤ 10000) : Is (WP.eq (WP.len (WP.b1 (WP.pure ch) m_soaking_paper)) (WP.pure (0 : Int))) (decide ((((softs ch).length : Nat) : Int) = 0)) := by
  intro n Q q
  refine soaking_gives c har n _ fun r ⟨v, e⟩ => ?_
  show Q n (decide (((r.length : Nat) : Int) = 0))
  have : decide (((r.length : Nat) : Int) = 0) = decide ((((softs ch).length : Nat) : Int) = 0) := by
    rw [Bool.eq_iff_iff, decide_eq_true_eq, decide_eq_true_eq]
    constructor
    · intro h
      have h : r = [] := List.eq_nil_of_length_eq_zero (by omega)
      subst h
      have e : softs ch = [] := e
      rw [e]; rfl
    · intro h
      have h : softs ch = [] := List.eq_nil_of_length_eq_zero (by omega)
      cases r with
      | nil => rfl
      | cons x xs =>
        have := mem_softs.mpr v.1
        rw [h] at this
        cases this
  rw [this]
  exact q
theorem shows_is {other : List Str} (ho : GC other) : ∀ {qs : List Sq} {ch : List Str}, GC ch → (allSq ch).length ≤ 10000 → Is (m_shows_soaking ch other qs) (shS other ch qs)
  | [], ch, c, har => Is.loopNil (Is.ret (Is.and (Is.eqD Is.pure Is.pure c.ok ho.ok) fun _ => calm_is c har))
  | q :: qs, ch, c, har => by
    have t : Is (WP.or (WP.not (WP.b2 (WP.pure ch) (WP.pure q) m_is_land)) (WP.lt (WP.len (WP.b2 (WP.pure ch) (WP.pure q) m_wet_beside)) (WP.pure (2 : Int)))) (!(softB ch q)) := by
      refine (Is.or (Is.not (Is.b2 Is.pure Is.pure (is_land_is c.good q))) fun h => Is.b2 (Is.len (Is.b2 Is.pure Is.pure (wet_is c.good q))) Is.pure Is.pure).eq ?_
      unfold softB
      rw [Bool.not_and]
      congr 1
      rw [Bool.eq_iff_iff, decide_eq_true_eq, Bool.not_eq_true', decide_eq_false_iff_not]
      omega
    unfold shS
    cases e : softB ch q with
    | true =>
      rw [e] at t
      have hq := softB_sq e
      refine Is.loopNx (Is.bind t (Is.bind (Is.b3 Is.pure (Is.req (by simp)) Is.pure (with_is c (qs := [q]) fun p hp => by rw [List.mem_singleton.mp hp]; exact hq)) Is.pure)) ?_
      exact shows_is ho (gc_set c hq (.inr rfl)) (by show (allSq (setCh ch q 46)).length ≤ 10000; rw [(sz_set c.good hq 46).all]; exact har)
    | false =>
      rw [e] at t
      exact Is.loopRt (Is.bind t (Is.pure.bind Is.pure)) Is.pure
theorem shown_is {other : List Str} (ho : GC other) : ∀ {qs : List Sq} {ch : List Str}, GC ch → Is (m__law_shown ch other qs) (shS other ch qs)
  | [], ch, c => Is.loopNil (Is.ret (Is.and (Is.eqD Is.pure Is.pure c.ok ho.ok) fun _ => Is.eqv (Is.len (Is.b1 Is.pure (soft_is c.good))) Is.pure))
  | q :: qs, ch, c => by
    have t : Is (WP.or (WP.not (WP.b2 (WP.pure ch) (WP.pure q) m__law_at)) (WP.lt (WP.b2 (WP.pure ch) (WP.pure q) m__law_beside) (WP.pure (2 : Int)))) (!(softB ch q)) := by
      refine (Is.or (Is.not (Is.b2 Is.pure Is.pure (law_at_is c.good q))) fun h => Is.b2 (Is.b2 Is.pure Is.pure (beside_is c.good q)) Is.pure Is.pure).eq ?_
      unfold softB
      rw [Bool.not_and]
      congr 1
      rw [Bool.eq_iff_iff, decide_eq_true_eq, Bool.not_eq_true', decide_eq_false_iff_not]
      omega
    unfold shS
    cases e : softB ch q with
    | true =>
      rw [e] at t
      have hq := softB_sq e
      refine Is.loopNx (Is.bind t (Is.bind (Is.b3 Is.pure Is.pure Is.pure (by rw [dot_of]; exact law_set_is c.good hq 46)) Is.pure)) ?_
      exact shown_is ho (gc_set c hq (.inr rfl))
    | false =>
      rw [e] at t
      exact Is.loopRt (Is.bind t (Is.pure.bind Is.pure)) Is.pure
theorem judged_is {ch other : List Str} (c : GC ch) (har : (allSq ch).length ≤ 10000) (ho : GC other) (qs : List Sq) : Is (m__law_judged ch other qs) true := by
  refine Is.bind (Is.pure.bind Is.pure) (Is.ret (Is.eq (Is.and (Is.b2 (Is.b3 Is.pure Is.pure Is.pure (shows_is ho c har)) (Is.b3 Is.pure Is.pure Is.pure (shown_is ho c)) (yes_is _ _)) fun _ => Is.eqLD Is.pure Is.pure (fun z _ => ok_sq z) (fun z _ => ok_sq z)) ?_))
  simp
theorem soaked_gives {ch : List Str} (c : GC ch) (har : (allSq ch).length ≤ 10000) : Gives (m_soaked ch) (fun r => ∃ qs, ValS ch qs ∧ softs (FinS ch qs) = [] ∧ r = FinS ch qs) := by
  refine Gives.bind (P := fun r => ∃ qs, ValS ch qs ∧ softs (FinS ch qs) = [] ∧ r = FinS ch qs) (fun n Q q => ?_) fun a h => Gives.pure h
  exact soaking_gives c har n _ fun r ⟨v, e⟩ => with_is c (valS_sq c.good v) n _ (q _ ⟨r, v, e, rfl⟩)
theorem draw_grid {rows columns : Int} (hr : 1 ≤ rows) (hr2 : rows ≤ 40) (hc : 1 ≤ columns) (hc2 : columns ≤ 40) : Draws (m__law_grid () rows columns) 2000 (ChO rows columns) := by
  have er : ((rows.toNat : Nat) : Int) = rows := by omega
  have ec : ((columns.toNat : Nat) : Int) = columns := by omega
  have hmul : rows.toNat * columns.toNat ≤ 40 * 40 := Nat.mul_le_mul (by omega) (by omega)
  have tk : ∀ many : Int, 0 < many → Draws (WP.b2 (WP.pure ()) (WP.pure many) m_take) 1 (fun x => 0 ≤ x ∧ x < many) := fun many h => Draws.take h
  unfold m__law_grid
  refine Draws.imp (k := 1 + (1 + (0 + (0 + ((rangeL 0 rows).length * (columns.toNat) + 9))))) ?_ (by rw [rangeL0_len]; omega) (fun _ h => h)
  refine Draws.bind (tk 10 (by decide)) fun style hs => Draws.bind (k := 1) (P := fun x => 2 ≤ x) (fun n Q hn q => ⟨by omega, by decide, fun x x0 x1 => q _ _ (by omega) (by omega) (by omega)⟩) fun ch hch => ?_
  refine Draws.bind (Is.draws (Is.req (by simp))) fun G0 hG0 => ?_
  subst hG0
  refine Draws.bind (P := fun xs => xs = rangeL 0 rows) (Is.draws (by rw [← er]; exact Is.range1 (k := rows.toNat) Is.pure (by omega))) fun xs hxs => ?_
  subst hxs
  refine Draws.loop (fun i y => SGrid y i columns.toNat) columns.toNat ⟨rfl, fun _ h => by cases h⟩ (fun i a y ha hg => ?_) (fun y hg => ?_)
  · obtain ⟨rfl, hi⟩ := rangeL0_get ha
    refine Draws.imp (k := 0 + (0 + ((rangeL 0 columns).length * 1 + 0))) ?_ (by rw [rangeL0_len]; omega) (fun _ h => h)
    refine Draws.bind (Is.draws (Is.req (by simp))) fun G0 hG0 => ?_
    subst hG0
    refine Draws.bind (P := fun xs => xs = rangeL 0 columns) (Is.draws (by rw [← ec]; exact Is.range1 (k := columns.toNat) Is.pure (by omega))) fun xs hxs => ?_
    subst hxs
    refine Draws.loop (fun j r => r.length = j ∧ ∀ d ∈ r, d = (⟨#[120]⟩ : Str) ∨ d = ⟨#[46]⟩) 1 ⟨rfl, fun _ h => by cases h⟩ (fun j b r hb hr' => ?_) (fun r hr' => ?_)
    · obtain ⟨rfl, hj⟩ := rangeL0_get hb
      refine Draws.imp (k := 1 + 0) ?_ (by omega) (fun _ h => h)
      refine Draws.bind (P := tt) (fun n Q hn q => ⟨by omega, by omega, fun x x0 x1 => q _ _ (by omega) (by omega) trivial⟩) fun b _ => Gives.draws ?_
      refine Gives.bind (P := tt) ((Is.gives (P := tt) (Is.b2 (f := fun x xs => WP.pure (decide (x ∈ xs))) Is.pure (Is.req (by simp)) Is.pure) trivial).bind fun b _ => Gives.cond (fun _ => Gives.pure trivial) fun _ => Gives.pure trivial) fun _ _ => ?_
      refine Gives.bind (style_if eq_ok edge_ok) fun _ _ => ?_
      refine Gives.bind (style_if eq_ok wind_ok) fun _ _ => ?_
      refine Gives.bind (style_if eq_ok (fun n Q q => by simp only [WP.run_bind, WP.run_pure, WP.run_req, WP.run_any, WP.run_take, WP.run_cond, WP.run_range1, WP.run_range2, decide_eq_true_eq, decide_eq_false_iff_not, Bool.not_eq_true', Bool.not_eq_false']; exact ⟨by decide, q _ trivial⟩)) fun _ _ => ?_
      refine Gives.bind (style_if eq_ok (fun n Q q => by simp only [WP.run_bind, WP.run_pure, WP.run_req, WP.run_any, WP.run_take, WP.run_cond, WP.run_range1, WP.run_range2, decide_eq_true_eq, decide_eq_false_iff_not, Bool.not_eq_true', Bool.not_eq_false']; exact ⟨by decide, fun _ => q _ trivial, fun _ => ⟨by decide, q _ trivial⟩⟩)) fun _ _ => ?_
      refine Gives.bind (style_if eq_ok (Gives.pure trivial)) fun _ _ => ?_
      exact sign_app _ hr'.1 (by omega) hr'.2
    · refine Gives.draws (Is.gives (Is.bind (Is.req (by have := hg.len; omega)) Is.pure) ⟨_, rfl, by rw [List.length_append, hg.len]; rfl, fun r2 hr2 => ?_⟩)
      rcases List.mem_append.mp hr2 with h | h
      · exact hg.row r2 h
      · rw [List.mem_singleton.mp h]
        refine ⟨by rw [hr'.1, rangeL0_len], hr'.2⟩
  · rw [rangeL0_len] at hg
    refine Draws.imp (k := 1 + 8) ?_ (by omega) (fun _ h => h)
    refine Draws.bind (P := fun xs => xs.length ≤ 4) (fun n Q hn q => ⟨by omega, by decide, fun x x0 x1 => ⟨⟨by omega, by omega⟩, q _ _ (by omega) (by omega) (by show (rangeL 0 x).length ≤ 4; rw [rangeL0_len]; omega)⟩⟩) fun xs hxs => ?_
    refine Draws.imp (k := xs.length * 2 + 0) ?_ (by omega) (fun _ h => h)
    refine Draws.loop (fun _ G => SGrid G rows.toNat columns.toNat) 2 hg (fun i a G ha hG => grid_turn hG er.symm ec.symm (by omega) (by omega) (by omega) (by omega)) (fun G hG => ?_)
    refine Draws.imp (Gives.draws (grid_end hG (by omega) (by omega) (by omega) (by omega))) (Nat.le_refl _) fun ch h => ?_
    rw [er, ec] at h
    exact h
theorem draw_sizes {most : Int} (h : 1 ≤ most) (h2 : most ≤ 20) : Draws (m__law_sizes () most) 20 (fun q => 1 ≤ q.1 ∧ q.1 ≤ 40 ∧ 1 ≤ q.2 ∧ q.2 ≤ 40) := by
  intro n Q hn q
  unfold m__law_sizes
  simp only [WP.run_bind, WP.run_pure, WP.run_req, WP.run_any, WP.run_take, WP.run_cond, WP.run_range1, WP.run_range2, decide_eq_true_eq, decide_eq_false_iff_not, Bool.not_eq_true', Bool.not_eq_false']
  have h3 : ∀ (m : Nat) (a b : Int), n ≤ m → m ≤ n + 20 → 1 ≤ a → a ≤ 40 → 1 ≤ b → b ≤ 40 → Q m (a, b) := fun m a b g1 g2 a1 a2 b1 b2 => q m _ g1 g2 ⟨a1, a2, b1, b2⟩
  repeat' (first | apply And.intro | intro _)
  all_goals first
    | omega
    | exact .inl ⟨by omega, by omega⟩
    | (apply h3 <;> omega)
theorem xs_ch {rows columns : Int} (hr : 1 ≤ rows) (hr2 : rows ≤ 40) (hc : 1 ≤ columns) (hc2 : columns ≤ 40) : ChO rows columns ((rangeL 0 rows).map fun _ => Txt.mul (Str.ofString "x") columns) := by
  have hl : ((rangeL 0 rows).map fun _ => Txt.mul (Str.ofString "x") columns).length = rows.toNat := by rw [List.length_map, rangeL0_len]
  have ht : (Txt.mul (Str.ofString "x") columns).cps.toList = List.replicate columns.toNat 120 := by rw [x_of]; exact mul_one (by omega)
  have hw : ∀ s ∈ (rangeL 0 rows).map (fun _ => Txt.mul (Str.ofString "x") columns), s.length = columns.toNat ∧ ∀ c ∈ s.cps.toList, c = 120 ∨ c = 46 := fun s hs => by
    obtain ⟨_, _, e⟩ := List.mem_map.mp hs
    rw [← e]
    refine ⟨by rw [← tl_len, ht, List.length_replicate], fun c hc => ?_⟩
    rw [ht] at hc
    exact .inl (List.mem_replicate.mp hc).2
  have hwid : wid ((rangeL 0 rows).map fun _ => Txt.mul (Str.ofString "x") columns) = columns.toNat := (hw _ (ixD_mem (by omega) (by omega))).1
  exact ⟨⟨by omega, by omega, fun s hs => by rw [hwid]; exact (hw s hs).1, by omega, by omega⟩, by omega, by omega, fun s hs => (hw s hs).2⟩
theorem chO_set {n m : Int} {ch : List Str} {q : Sq} (c : ChO n m ch) (h : isSq ch q = true) {k : Nat} (hk : k = 120 ∨ k = 46) : ChO n m (setCh ch q k) := by
  have z := sz_set c.good h k
  have g := gc_set (GC.of c) h hk
  exact ⟨g.good, by rw [z.l]; exact c.len, by rw [z.w]; exact c.wd, g.sg⟩
theorem draw_moist {rows columns : Int} (hr : 1 ≤ rows) (hr2 : rows ≤ 40) (hc : 1 ≤ columns) (hc2 : columns ≤ 40) : Draws (m__law_moist () rows columns) 2000 (ChO rows columns) := by
  intro n Q hn q
  have er : ((rows.toNat : Nat) : Int) = rows := by omega
  unfold m__law_moist
  rw [WP.run_bind]
  refine (Is.bind (Is.lcM (xs := rangeL 0 rows) (g := fun _ => Txt.mul (Str.ofString "x") columns) (by rw [← er]; exact Is.range1 (k := rows.toNat) Is.pure (by omega)) (by rw [rangeL0_len]; omega) fun x _ => Is.b2 Is.pure Is.pure (Is.req ⟨by omega, by omega, by rw [x_of]; decide⟩)) Is.pure : Is _ ((rangeL 0 rows).map fun _ => Txt.mul (Str.ofString "x") columns)) _ _ ?_
  have h0 := xs_ch hr hr2 hc hc2
  generalize ((rangeL 0 rows).map fun _ => Txt.mul (Str.ofString "x") columns) = D at h0
  rw [WP.run_bind]
  refine ⟨by omega, by decide, fun t t0 t1 => ?_⟩
  simp only [WP.run_bind, WP.run_pure, WP.run_req, WP.run_any, WP.run_take, WP.run_cond, WP.run_range1, WP.run_range2, decide_eq_true_eq, decide_eq_false_iff_not, Bool.not_eq_true', Bool.not_eq_false']
  refine ⟨fun _ => ?_, fun _ => ?_⟩
  · refine ⟨by omega, by decide, fun u u0 u1 => ⟨⟨by omega, by omega⟩, ?_⟩⟩
    refine WP.after_inv (fun i m y => n ≤ m ∧ m ≤ n + 2 + i ∧ ChO rows columns y) ⟨by omega, by omega, h0⟩ (fun i m k y hk hy => ?_) (fun m y hy => ?_)
    · obtain ⟨g1, g2, hy⟩ := hy
      obtain ⟨rfl, hi⟩ := rangeL0_get hk
      have e1 := hy.len
      have e2 := hy.wd
      have hi1 : (i : Int) < rows := by have := Int.min_le_left rows columns; omega
      have hi2 : (i : Int) < columns := by have := Int.min_le_right rows columns; omega
      simp only [WP.run_bind, WP.run_pure, WP.run_req, WP.run_any, WP.run_take, WP.run_cond, WP.run_range1, WP.run_range2, decide_eq_true_eq, decide_eq_false_iff_not, Bool.not_eq_true', Bool.not_eq_false']
      refine ⟨by simp, by omega, by decide, fun v v0 v1 => ⟨⟨by simp; omega, by simp; omega⟩, ?_⟩⟩
      have hix : 0 ≤ ixD [(i : Int), columns - 1 - (i : Int)] v ∧ ixD [(i : Int), columns - 1 - (i : Int)] v < columns := by
        have : v = 0 ∨ v = 1 := by omega
        rcases this with e | e <;> subst e
        · exact ⟨by show (0 : Int) ≤ i; omega, by show (i : Int) < columns; omega⟩
        · exact ⟨by show (0 : Int) ≤ columns - 1 - i; omega, by show columns - 1 - (i : Int) < columns; omega⟩
      generalize ixD [(i : Int), columns - 1 - (i : Int)] v = x at hix
      rw [dot_of]
      have hsq : isSq y ((i : Int), x) = true := isSq_iff.mpr ⟨by show (0 : Int) ≤ i; omega, by show (i : Int) < _; omega, hix.1, by show x < _; omega⟩
      exact law_set_is hy.good hsq 46 _ _ ⟨by omega, by omega, chO_set hy hsq (.inr rfl)⟩
    · obtain ⟨g1, g2, hy⟩ := hy
      rw [rangeL0_len] at g2
      exact q _ _ g1 (by have := Int.min_le_left rows columns; omega) hy
  · refine ⟨by omega, by decide, fun u u0 u1 => ⟨⟨by omega, by omega⟩, ?_⟩⟩
    refine WP.after_inv (fun i m y => n ≤ m ∧ m ≤ n + 2 + 2 * i ∧ ChO rows columns y) ⟨by omega, by omega, h0⟩ (fun i m k y hk hy => ?_) (fun m y hy => ?_)
    · obtain ⟨g1, g2, hy⟩ := hy
      obtain ⟨rfl, hi⟩ := rangeL0_get hk
      have e1 := hy.len
      have e2 := hy.wd
      simp only [WP.run_bind, WP.run_pure, WP.run_req, WP.run_any, WP.run_take, WP.run_cond, WP.run_range1, WP.run_range2, decide_eq_true_eq, decide_eq_false_iff_not, Bool.not_eq_true', Bool.not_eq_false']
      refine ⟨by omega, by omega, fun r r0 r1 => ⟨by omega, by omega, fun c' c0 c1 => ?_⟩⟩
      rw [dot_of]
      have hsq : isSq y (r, c') = true := isSq_iff.mpr ⟨r0, by show r < _; omega, c0, by show c' < _; omega⟩
      exact law_set_is hy.good hsq 46 _ _ ⟨by omega, by omega, chO_set hy hsq (.inr rfl)⟩
    · obtain ⟨g1, g2, hy⟩ := hy
      rw [rangeL0_len] at g2
      exact q _ _ g1 (by omega) hy
theorem draw_chart {rows columns : Int} (hr : 1 ≤ rows) (hr2 : rows ≤ 40) (hc : 1 ≤ columns) (hc2 : columns ≤ 40) : Draws (m__law_chart () rows columns) 2001 (ChO rows columns) := by
  intro n Q hn q
  unfold m__law_chart
  simp only [WP.run_bind, WP.run_pure, WP.run_req, WP.run_any, WP.run_take, WP.run_cond, WP.run_range1, WP.run_range2, decide_eq_true_eq, decide_eq_false_iff_not, Bool.not_eq_true', Bool.not_eq_false']
  refine ⟨by omega, by decide, fun t t0 t1 => ⟨fun _ => ?_, fun _ => ?_⟩⟩
  · exact draw_grid hr hr2 hc hc2 _ _ (by omega) fun m2 ch h3 h4 hc => q _ _ (by omega) (by omega) hc
  · exact draw_moist hr hr2 hc hc2 _ _ (by omega) fun m2 ch h3 h4 hc => q _ _ (by omega) (by omega) hc
theorem draw_mixedL {row : List Sq} (hl : row.length ≤ 50000) : Draws (m__law_mixed () row) 2 (fun r => r.Perm row) := by
  intro n Q hn q
  unfold m__law_mixed
  simp only [WP.run_bind, WP.run_pure, WP.run_req, WP.run_any, WP.run_take, WP.run_cond, WP.run_range1, WP.run_range2, decide_eq_true_eq, decide_eq_false_iff_not, Bool.not_eq_true', Bool.not_eq_false']
  refine ⟨by omega, by omega, fun x x0 x1 => ?_⟩
  rw [cutL_hi x0 (by omega), cutL_lo x0 (by omega)]
  have hp : (row.drop x.toNat ++ row.take x.toNat).Perm row := by
    have := List.perm_append_comm (l₁ := row.drop x.toNat) (l₂ := row.take x.toNat)
    rwa [List.take_append_drop] at this
  refine ⟨by rw [List.length_drop, List.length_take]; omega, by omega, by decide, fun y y0 y1 => ⟨fun _ => q _ _ (by omega) (by omega) ((List.reverse_perm _).trans hp), fun _ => q _ _ (by omega) (by omega) hp⟩⟩
/-- squares set one after another by the law -/
theorem set_loop {ρ γ : Type} : ∀ {qs : List Sq} {ch : List Str}, GC ch → (∀ q ∈ qs, isSq ch q = true) → ∀ {f : List Str → WP ρ} {r : γ → WP ρ} {n : Nat} {Q : Nat → ρ → Prop}, (f (FinS ch qs)).run n Q → (WP.after (WP.loop (γ := γ) (fun c6 (y6 : (List Str)) => (WP.b3 (WP.pure y6) (WP.pure c6) (WP.pure (Str.ofString ".")) m__law_set).bind fun a7_chart => (WP.pure (.nx a7_chart))) qs ch) f r).run n Q
  | [], _, _, _, _, _, _, _, h => h
  | q :: qs, ch, c, hq, f, r, n, Q, h => by
    have h1 := hq q List.mem_cons_self
    have z := sz_set c.good h1 46
    have b : Is (WP.b3 (WP.pure ch) (WP.pure q) (WP.pure (Str.ofString ".")) m__law_set) (setCh ch q 46) := Is.b3 Is.pure Is.pure Is.pure (by rw [dot_of]; exact law_set_is c.good h1 46)
    exact b n _ (set_loop (gc_set c h1 (.inr rfl)) (fun p hp => by rw [z.sq]; exact hq p (List.mem_cons_of_mem _ hp)) h)
theorem after_post {s γ ρ : Type} {w : WP (Ctl s γ)} {n : Nat} {f : s → WP ρ} {r : γ → WP ρ} {Q : Nat → ρ → Prop} (P : Nat → s → Prop) (hw : w.run n (fun m c => match c with | .nx y => P m y | .bk y => P m y | .rt _ => False)) (hf : ∀ m y, P m y → (f y).run m Q) : (WP.after w f r).run n Q :=
  w.mono (fun m c hc => by
    cases c with
    | nx z => exact hf m z hc
    | bk z => exact hf m z hc
    | rt q => exact hc.elim) hw
theorem draw_soaking {ch : List Str} (c : GC ch) (har2 : (allSq ch).length ≤ 1600) : Draws (m__law_soaking () ch) 5000 (fun r => ValS ch r.a.l ∧ FinS ch r.a.l = r.b ∧ softs r.b = []) := by
  intro n Q hn q
  have e0 : (((ch.length : Nat) : Int) * ((wid ch : Nat) : Int)) = (((allSq ch).length : Nat) : Int) := by
    rw [allSq_len]; simp
  have hhl := c.good.hl
  have hwl := c.good.wl
  unfold m__law_soaking
  rw [WP.run_bind]
  refine ⟨by simp, ?_⟩
  dsimp only
  rw [WP.run_bind]
  refine Is.range1 (k := (allSq ch).length) (Is.eq (Is.b2 (Is.len Is.pure) (Is.wid0 c.good) (Is.req (.inl ⟨by omega, by omega⟩))) e0) (by omega) _ _ ?_
  refine after_post (fun m (y : List Str × List Sq) => n ≤ m ∧ m ≤ n + 5000 ∧ ValS ch y.2 ∧ FinS ch y.2 = y.1 ∧ softs y.1 = []) (WP.loop_inv (fun i m (y : List Str × List Sq) => n ≤ m ∧ m ≤ n + 3 * i ∧ i ≤ (allSq ch).length ∧ ValS ch y.2 ∧ FinS ch y.2 = y.1 ∧ cntL y.1 + i ≤ (allSq ch).length) ⟨Nat.le_refl _, Nat.le_refl _, Nat.zero_le _, trivial, rfl, cntL_le ch⟩ ?_ ?_) ?_
  · rintro i m k ⟨D, paper⟩ hk ⟨g1, g2, hi, v, f, hc⟩
    dsimp only at v f hc
    subst f
    obtain ⟨_, hi2⟩ := rangeL0_get hk
    obtain ⟨gD, zD⟩ := finS_gc c (valS_sq c.good v)
    have ho := softs_len (FinS ch paper)
    rw [zD.all] at ho
    rw [WP.run_bind]
    refine soft_is gD.good _ _ ?_
    refine draw_mixedL (row := softs (FinS ch paper)) (by omega) _ _ (by omega) fun m2 free h1 h2 hp => ?_
    have hlen := hp.length_eq
    simp only [WP.run_bind, WP.run_pure, WP.run_req, WP.run_any, WP.run_take, WP.run_cond, WP.run_range1, WP.run_range2, decide_eq_true_eq, decide_eq_false_iff_not, Bool.not_eq_true', Bool.not_eq_false']
    refine ⟨fun hz => ⟨by omega, by omega, v, by trivial, ?_⟩, fun hnz => ⟨by omega, by omega, fun t t0 t1 => ?_⟩⟩
    · exact List.eq_nil_of_length_eq_zero (by omega)
    · have hpos : 0 < free.length := by omega
      rw [cutL_lo (by omega) (by omega)]
      have nd : (free.take (1 + t).toNat).Nodup := (hp.symm.nodup (softs_nodup _)).sublist (List.take_sublist _ _)
      have hb := batchS gD.good nd fun q hq => mem_softs.mp (hp.mem_iff.mp (List.mem_of_mem_take hq))
      have hsq := valS_sq gD.good hb
      refine set_loop gD hsq ?_
      have v2 := ValS_app v hb
      have l1 := valS_len c.good v2
      have l2 := cntL_le ch
      have l3 := valS_len gD.good hb
      rw [List.length_append] at l1
      have l4 : (free.take (1 + t).toNat).length = min (1 + t).toNat free.length := List.length_take
      simp only [WP.run_bind, WP.run_pure, WP.run_req, WP.run_any, WP.run_take, WP.run_cond, WP.run_range1, WP.run_range2, decide_eq_true_eq, decide_eq_false_iff_not, Bool.not_eq_true', Bool.not_eq_false']
      refine ⟨by omega, by omega, by omega, by omega, v2, by rw [FinS_app], ?_⟩
      show cntL (FinS (FinS ch paper) (free.take (1 + t).toNat)) + (i + 1) ≤ _
      omega
  · rintro m ⟨D, paper⟩ ⟨g1, g2, hi, v, f, hc⟩
    rw [rangeL0_len, Int.toNat_natCast] at g2 hc
    exact ⟨g1, by omega, v, f, softs_nil (by omega)⟩
  · rintro m ⟨D, paper⟩ ⟨g1, g2, v, f, ho⟩
    exact q _ _ g1 g2 ⟨v, f, ho⟩
def PP (L : List ((List Str) × (Ls Sq))) : Prop := L.length ≤ 100 ∧ ∀ p ∈ L, GC p.1
theorem pp_snoc {L : List ((List Str) × (Ls Sq))} {n : Nat} (h : L.length ≤ n ∧ ∀ p ∈ L, GC p.1) {p : (List Str) × (Ls Sq)} (hp : GC p.1) : (L ++ [p]).length ≤ n + 1 ∧ ∀ x ∈ L ++ [p], GC x.1 := by
  refine ⟨by rw [List.length_append, List.length_singleton]; omega, fun x hx => ?_⟩
  rcases List.mem_append.mp hx with hx | hx
  · exact h.2 x hx
  · rw [List.mem_singleton.mp hx]; exact hp
theorem cut_le {α : Type} (xs : List α) (a b : Option Int) : (cutL xs a b).length ≤ xs.length := by
  unfold cutL
  rw [List.length_take, List.length_drop]; omega
theorem sign_set {D : List Str} (g : GC D) {q : Sq} (h : isSq D q = true) : Gives (WP.b3 (WP.pure D) (WP.pure q) (WP.ite (WP.b2 (WP.pure D) (WP.pure q) m__law_at) (WP.pure (Str.ofString ".")) (WP.pure (Str.ofString "x"))) m__law_set) (fun r => GC r) := by
  intro n Q hQ
  simp only [WP.run_bind, WP.run_pure, WP.run_req, WP.run_any, WP.run_take, WP.run_cond, WP.run_range1, WP.run_range2, decide_eq_true_eq, decide_eq_false_iff_not, Bool.not_eq_true', Bool.not_eq_false']
  refine law_at_is g.good q _ _ ⟨fun _ => ?_, fun _ => ?_⟩
  · rw [dot_of]; exact law_set_is g.good h 46 _ _ (hQ _ (gc_set g h (.inr rfl)))
  · rw [x_of]; exact law_set_is g.good h 120 _ _ (hQ _ (gc_set g h (.inl rfl)))
theorem sign_set' {D : List Str} (g : GC D) {q : Sq} (h : isSq D q = true) (n : Nat) (Q : Nat → List Str → Prop) (hQ : ∀ r, GC r → Sz r D → Q n r) : (WP.b3 (WP.pure D) (WP.pure q) (WP.ite (WP.b2 (WP.pure D) (WP.pure q) m__law_at) (WP.pure (Str.ofString ".")) (WP.pure (Str.ofString "x"))) m__law_set).run n Q := by
  simp only [WP.run_bind, WP.run_pure, WP.run_req, WP.run_any, WP.run_take, WP.run_cond, WP.run_range1, WP.run_range2, decide_eq_true_eq, decide_eq_false_iff_not, Bool.not_eq_true', Bool.not_eq_false']
  refine law_at_is g.good q _ _ ⟨fun _ => ?_, fun _ => ?_⟩
  · rw [dot_of]; exact law_set_is g.good h 46 _ _ (hQ _ (gc_set g h (.inr rfl)) (sz_set g.good h 46))
  · rw [x_of]; exact law_set_is g.good h 120 _ _ (hQ _ (gc_set g h (.inl rfl)) (sz_set g.good h 120))
/-- a square put into a paper -/
theorem put_in {D : List Str} (g : GC D) {P row : List Sq} {k : Int} (hP : P.length ≤ 2000) (hr : 0 < row.length) (hr2 : row.length ≤ 50000) : Draws (WP.pair (WP.pure D) ((WP.cat (WP.cat (WP.cut ((WP.pure (⟨P⟩ : Ls Sq)).bind fun x => WP.pure x.l) (WP.pure none) ((WP.pure k).bind fun x => WP.pure (some x))) (WP.row (WP.consE (WP.b2 (WP.pure ()) (WP.pure row) m__law_pick) (WP.pure ([] : List Sq))))) (WP.cut ((WP.pure (⟨P⟩ : Ls Sq)).bind fun x => WP.pure x.l) ((WP.pure k).bind fun x => WP.pure (some x)) (WP.pure none))).bind fun xs => WP.pure (⟨xs⟩ : (Ls Sq)))) 2 (fun p => GC p.1) := by
  intro n Q hn q
  have c1 := cut_le P none (some k)
  have c2 := cut_le P (some k) none
  simp only [WP.run_bind, WP.run_pure, WP.run_req, WP.run_any, WP.run_take, WP.run_cond, WP.run_range1, WP.run_range2, decide_eq_true_eq, decide_eq_false_iff_not, Bool.not_eq_true', Bool.not_eq_false']
  refine draw_pick hr (by omega) _ _ (by omega) fun m x h1 h2 hx => ⟨by simp, by rw [List.length_singleton]; omega, by rw [List.length_append, List.length_singleton]; omega, q _ _ (by omega) (by omega) g⟩
theorem draw_strange {ch D : List Str} (c : GC ch) (g : GC D) (z : Sz D ch) (har2 : (allSq ch).length ≤ 1600) {P : List Sq} (hP : P.length ≤ 2000) : Draws (m__law_strange () ch D ⟨P⟩) 20 PP := by
  intro n Q hn q
  have h0 := c.good.ne
  have h1 := c.good.w0
  unfold m__law_strange
  rw [WP.run_bind]
  refine Is.len Is.pure _ _ ?_
  rw [WP.run_bind]
  refine Is.wid0 c.good _ _ ?_
  rw [WP.run_bind]
  refine ⟨by omega, by omega, fun r r0 r1 => ?_⟩
  dsimp only
  rw [WP.run_bind]
  refine ⟨by omega, by omega, fun k k0 k1 => ?_⟩
  dsimp only
  have hsq : isSq D (r, k) = true := by rw [z.sq]; exact isSq_iff.mpr ⟨r0, r1, k0, k1⟩
  rw [WP.run_bind]
  refine (Gives.bind (w := WP.pair (WP.pure r) (WP.pure k)) (P := fun x => x = (r, k)) (fun n Q q => q _ rfl) (fun x hx => by subst hx; exact sign_set g hsq)) _ _ fun oth hoth => ?_
  rw [WP.run_bind]
  refine WP.mono _ (fun m L hL => ?_) (?_ : WP.run _ (n + 1 + 1) (fun m L => m = n + 2 ∧ L.length ≤ 5 ∧ ∀ p ∈ L, GC p.1))
  rotate_left
  · simp only [WP.run_bind, WP.run_pure, WP.run_req, WP.run_any, WP.run_take, WP.run_cond, WP.run_range1, WP.run_range2, decide_eq_true_eq, decide_eq_false_iff_not, Bool.not_eq_true', Bool.not_eq_false']
    refine ⟨by simp, by simp, by simp, by rw [List.length_singleton]; omega, by simp, by trivial, Nat.le_refl 5, fun p hp => ?_⟩
    simp only [List.mem_cons, List.not_mem_nil, or_false] at hp
    rcases hp with e | e | e | e | e <;> rw [e]
    · exact g
    · exact c
    · exact c
    · exact hoth
    · exact hoth
  obtain ⟨rfl, hL⟩ := hL
  rw [WP.run_bind]
  refine WP.mono _ (fun m B hB => ?_) (?_ : WP.run _ (n + 2) (fun m (B : List Sq) => m = n + 2 ∧ B.length = 7))
  rotate_left
  · simp only [WP.run_bind, WP.run_pure, WP.run_req, WP.run_any, WP.run_take, WP.run_cond, WP.run_range1, WP.run_range2, decide_eq_true_eq, decide_eq_false_iff_not, Bool.not_eq_true', Bool.not_eq_false']
    exact ⟨⟨by decide, by decide, by decide⟩, ⟨by decide, by decide, by decide⟩, by simp, by trivial, rfl⟩
  obtain ⟨rfl, hB⟩ := hB
  rw [WP.run_bind]
  refine Is.range1 (k := 3) Is.pure (by decide) _ _ ?_
  refine WP.after_inv (fun i m y => n ≤ m ∧ m ≤ n + 2 + 3 * i ∧ y.length ≤ 5 + i ∧ ∀ p ∈ y, GC p.1) ⟨by omega, by omega, hL⟩ (fun i m k2 y hk hy => ?_) (fun m y hy => ?_)
  · obtain ⟨g1, g2, hy⟩ := hy
    obtain ⟨_, hi⟩ := rangeL0_get hk
    rw [WP.run_bind]
    refine ⟨by omega, by show 0 < (((P.length : Nat) : Int)) + 1; omega, fun k3 _ _ => ?_⟩
    dsimp only
    refine put_in g (P := P) (row := B) (k := k3) hP (by omega) (by omega) _ _ (by omega) fun m2 p h3 h4 hp => ?_
    refine ⟨by have := hy.1; omega, by omega, by omega, by have := (pp_snoc hy hp).1; omega, (pp_snoc hy hp).2⟩
  · obtain ⟨g1, g2, hy⟩ := hy
    rw [rangeL0_len] at g2 hy
    rw [WP.run_bind]
    refine ⟨by omega, by show 0 < (((P.length : Nat) : Int)) + 1; omega, fun k3 _ _ => ?_⟩
    dsimp only
    rw [WP.run_bind]
    refine Is.lcF (p := fun x => !isLd ch x) (Is.b1 Is.pure (law_all_is c.good)) (by omega) (fun x _ => Is.not (Is.b2 Is.pure Is.pure (law_at_is c.good x))) _ _ ?_
    have hdl := List.length_filter_le (fun x => !isLd ch x) (allSq ch)
    rw [WP.run_bind]
    refine WP.mono _ (fun m2 Y hY => ?_) (?_ : WP.run _ (m + 1) (fun m2 (Y : List ((List Str) × (Ls Sq))) => n ≤ m2 ∧ m2 ≤ n + 15 ∧ Y.length ≤ 9 ∧ ∀ p ∈ Y, GC p.1))
    · obtain ⟨g3, g4, hY⟩ := hY
      have hfl := List.length_filter_le (isLd D) (allSq D)
      rw [z.all] at hfl
      rw [WP.run_bind]
      refine dry_is g.good _ _ ?_
      rw [WP.run_bind]
      refine (Is.lcF (p := fun x => decide ((((wets D x).length : Nat) : Int) = 1)) Is.pure (by rw [z.all]; omega) (fun x _ => Is.b2 (Is.b2 Is.pure Is.pure (beside_is g.good x)) Is.pure Is.pure) : Is _ (((allSq D).filter (isLd D)).filter fun x => decide ((((wets D x).length : Nat) : Int) = 1))) _ _ ?_
      have hel := List.length_filter_le (fun x => decide ((((wets D x).length : Nat) : Int) = 1)) ((allSq D).filter (isLd D))
      rw [WP.run_bind]
      refine ⟨by simp, ?_⟩
      dsimp only
      refine WP.after_inv (fun i m (y : List ((List Str) × (Ls Sq))) => m2 ≤ m ∧ m ≤ m2 + 2 * i ∧ y.length ≤ 9 + 3 * i ∧ ∀ p ∈ y, GC p.1) ⟨by omega, by omega, by have := hY.1; omega, hY.2⟩ (fun i m3 k2 y hk hy => ?_) (fun m3 y hy => ?_)
      · obtain ⟨g5, g6, hy1, hy2⟩ := hy
        have hkm := List.mem_of_getElem? hk
        have hi : i < 2 := (List.getElem?_eq_some_iff.mp hk).1
        have hk2 : k2.l.length ≤ 1600 ∧ ∀ x ∈ k2.l, isSq D x = true := by
          simp only [List.mem_cons, List.not_mem_nil, or_false] at hkm
          rcases hkm with e | e <;> rw [e]
          · exact ⟨by show ((allSq D).filter (isLd D)).length ≤ 1600; rw [z.all]; omega, fun x hx => mem_allSq.mp (List.mem_filter.mp hx).1⟩
          · exact ⟨by show (((allSq D).filter (isLd D)).filter fun x => decide ((((wets D x).length : Nat) : Int) = 1)).length ≤ 1600; rw [z.all] at *; omega, fun x hx => mem_allSq.mp (List.mem_filter.mp (List.mem_filter.mp hx).1).1⟩
        rw [WP.run_bind]
        refine WP.mono _ (fun m4 Z hZ => ?_) (?_ : WP.run _ m3 (fun m4 (Z : List ((List Str) × (Ls Sq))) => m2 ≤ m4 ∧ m4 ≤ m2 + 2 * (i + 1) ∧ Z.length ≤ 9 + 3 * (i + 1) ∧ ∀ p ∈ Z, GC p.1))
        · exact hZ
        rw [WP.run_bind]
        refine (Is.b2 (Is.len (Is.pure.bind Is.pure)) Is.pure Is.pure : Is (WP.gt _ _) _) _ _ ?_
        rw [WP.run_cond]
        refine ⟨fun hp => ?_, fun _ => ⟨g5, by omega, by omega, hy2⟩⟩
        have hp : (0 : Int) < ((k2.l.length : Nat) : Int) := of_decide_eq_true hp
        rw [WP.run_bind]
        refine draw_pick (row := k2.l) (by omega) (by omega) _ _ (by omega) fun m4 sp h3 h4 hsp => ?_
        have hspq := hk2.2 sp hsp
        rw [WP.run_bind]
        refine (Is.b3 Is.pure Is.pure Is.pure (by rw [dot_of]; exact law_set_is g.good hspq 46) : Is (WP.b3 (WP.pure D) (WP.pure sp) (WP.pure (Str.ofString ".")) m__law_set) (setCh D sp 46)) _ _ ?_
        have gm := gc_set g hspq (k := 46) (.inr rfl)
        simp only [WP.run_bind, WP.run_pure, WP.run_req, WP.run_any, WP.run_take, WP.run_cond, WP.run_range1, WP.run_range2, decide_eq_true_eq, decide_eq_false_iff_not, Bool.not_eq_true', Bool.not_eq_false']
        refine ⟨by simp, by rw [List.length_singleton]; omega, by simp, by rw [List.length_singleton]; omega, by simp, by rw [List.length_singleton]; omega, by simp, ?_, by omega, by omega, ?_, fun p hp => ?_⟩
        · show y.length + 3 ≤ _; omega
        · rw [List.length_append]
          show y.length + 3 ≤ _; omega
        · rcases List.mem_append.mp hp with hp | hp
          · exact hy2 p hp
          · simp only [List.mem_cons, List.not_mem_nil, or_false] at hp
            rcases hp with e | e | e <;> rw [e]
            · exact gm
            · exact gm
            · exact g
      · obtain ⟨g5, g6, hy1, hy2⟩ := hy
        have e2 : ([(⟨(allSq D).filter (isLd D)⟩ : Ls Sq), ⟨((allSq D).filter (isLd D)).filter fun x => decide ((((wets D x).length : Nat) : Int) = 1)⟩]).length = 2 := rfl
        rw [e2] at g6 hy1
        exact q _ _ (by omega) (by omega) ⟨by omega, hy2⟩
    · have h3t : ((3 : Nat) : Int).toNat = 3 := rfl
      rw [h3t] at g2 hy
      rw [WP.run_bind]
      refine (Is.b2 (Is.len Is.pure) Is.pure Is.pure : Is (WP.gt _ _) _) _ _ ?_
      rw [WP.run_cond]
      refine ⟨fun hp => ?_, fun _ => ⟨by omega, by omega, by have := hy.1; omega, hy.2⟩⟩
      have hp := of_decide_eq_true hp
      refine put_in g (P := P) (row := (allSq ch).filter fun x => !isLd ch x) (k := k3) hP (by omega) (by omega) _ _ (by omega) fun m2 p h3 h4 hp => ?_
      exact ⟨by have := hy.1; omega, by omega, by omega, by have := (pp_snoc hy hp).1; omega, (pp_snoc hy hp).2⟩
theorem draw_bent {ch D : List Str} (c : GC ch) (g : GC D) (z : Sz D ch) {P : List Sq} (hP : P.length ≤ 2000) (hpos : 0 < P.length) (hsq : ∀ q ∈ P, isSq ch q = true) : Draws (m__law_bent () ch D ⟨P⟩) 20 PP := by
  intro n Q hn q
  have h0 := c.good.ne
  have h1 := c.good.w0
  unfold m__law_bent
  rw [WP.run_bind]
  refine Is.len Is.pure _ _ ?_
  rw [WP.run_bind]
  refine Is.wid0 c.good _ _ ?_
  rw [WP.run_bind]
  refine ⟨by omega, by show 0 < ((P.length : Nat) : Int); omega, fun k k0 k1 => ?_⟩
  have k1 : k < (P.length : Int) := k1
  dsimp only
  rw [WP.run_bind]
  refine ⟨by omega, by show 0 < ((P.length : Nat) : Int); omega, fun j j0 j1 => ?_⟩
  have j1 : j < (P.length : Int) := j1
  dsimp only
  rw [WP.run_bind]
  refine (Is.b3 (Is.pure.bind Is.pure) Is.pure (Is.pure.bind Is.pure) Is.pure : Is _ (cutL P none (some k))) _ _ ?_
  rw [cutL_lo k0 (by omega)]
  rw [WP.run_bind, WP.run_pure]
  have hpart : ∀ q ∈ P.take k.toNat, isSq ch q = true := fun q hq => hsq q (List.mem_of_mem_take hq)
  have hpl : (P.take k.toNat).length ≤ P.length := by rw [List.length_take]; omega
  refine set_loop c hpart ?_
  have gp := (finS_gc c hpart).1
  rw [WP.run_bind]
  have c2 := cut_le P (some (k + 1)) none
  refine (Is.b2 Is.pure (Is.b3 (Is.pure.bind Is.pure) (Is.bind (Is.b2 Is.pure Is.pure Is.pure) Is.pure) Is.pure Is.pure) (Is.req (by omega)) : Is (WP.cat _ _) (P.take k.toNat ++ cutL P (some (k + 1)) none)) _ _ ?_
  have hkq : isSq D (ixD P k) = true := by rw [z.sq]; exact hsq _ (ixD_mem k0 k1)
  have okk : okI P.length k := ⟨by omega, by omega⟩
  have okj : okI P.length j := ⟨by omega, by omega⟩
  have gw := gc_set g hkq (k := 120) (.inl rfl)
  rw [WP.run_bind]
  refine WP.mono _ (fun m L hL => ?_) (?_ : WP.run _ (n + 1 + 1) (fun m (L : List ((List Str) × (Ls Sq))) => m = n + 2 ∧ L.length ≤ 4 ∧ ∀ p ∈ L, GC p.1))
  rotate_left
  · simp only [WP.run_bind, WP.run_pure, WP.run_req, WP.run_any, WP.run_take, WP.run_cond, WP.run_range1, WP.run_range2, decide_eq_true_eq, decide_eq_false_iff_not, Bool.not_eq_true', Bool.not_eq_false']
    refine ⟨okk, ?_⟩
    rw [x_of]
    refine law_set_is g.good hkq 120 _ _ ⟨by simp, by trivial, Nat.le_refl 4, fun p hp => ?_⟩
    simp only [List.mem_cons, List.not_mem_nil, or_false] at hp
    rcases hp with e | e | e | e <;> rw [e]
    · exact gp
    · exact g
    · exact g
    · exact gw
  obtain ⟨rfl, hL⟩ := hL
  rw [WP.run_bind]
  refine WP.mono _ (fun m L2 hL2 => ?_) (?_ : WP.run _ (n + 2) (fun m (L : List ((List Str) × (Ls Sq))) => m = n + 2 ∧ L.length ≤ 7 ∧ ∀ p ∈ L, GC p.1))
  rotate_left
  · have c3 := cut_le P none (some (k + 1))
    have c4 := cut_le P (some k) none
    simp only [WP.run_bind, WP.run_pure, WP.run_req, WP.run_any, WP.run_take, WP.run_cond, WP.run_range1, WP.run_range2, decide_eq_true_eq, decide_eq_false_iff_not, Bool.not_eq_true', Bool.not_eq_false']
    refine ⟨by omega, okj, by simp, by rw [List.length_singleton]; omega, by simp, ?_, by trivial, ?_, fun p hp => ?_⟩
    · show L.length + 3 ≤ _; omega
    · rw [List.length_append]; show L.length + 3 ≤ _; omega
    · rcases List.mem_append.mp hp with hp | hp
      · exact hL.2 p hp
      · simp only [List.mem_cons, List.not_mem_nil, or_false] at hp
        rcases hp with e | e | e <;> rw [e] <;> exact g
  obtain ⟨rfl, hL2⟩ := hL2
  rw [WP.run_bind]
  refine (Is.ix (Is.pure.bind Is.pure) Is.pure okk : Is _ (ixD P k)) _ _ ?_
  rw [WP.run_bind]
  refine ⟨by omega, by omega, fun r r0 r1 => ⟨by omega, by omega, fun k' _ _ => ?_⟩⟩
  dsimp only
  rw [WP.run_pure, WP.run_bind]
  refine WP.mono _ (fun m B hB => ?_) (?_ : WP.run _ (n + 2 + 1 + 1) (fun m (B : List Sq) => m = n + 4 ∧ B.length = 5))
  rotate_left
  · simp only [WP.run_bind, WP.run_pure, WP.run_req, WP.run_any, WP.run_take, WP.run_cond, WP.run_range1, WP.run_range2, decide_eq_true_eq, decide_eq_false_iff_not, Bool.not_eq_true', Bool.not_eq_false']
    exact ⟨by simp, by trivial, rfl⟩
  obtain ⟨rfl, hB⟩ := hB
  refine WP.after_inv (fun i m y => m = n + 4 ∧ y.length ≤ 7 + i ∧ ∀ p ∈ y, GC p.1) ⟨rfl, hL2⟩ (fun i m k2 y hk hy => ?_) (fun m y hy => ?_)
  · obtain ⟨rfl, hy⟩ := hy
    have hi : i < B.length := (List.getElem?_eq_some_iff.mp hk).1
    have hy1 := hy.1
    simp only [WP.run_bind, WP.run_pure, WP.run_req, WP.run_any, WP.run_take, WP.run_cond, WP.run_range1, WP.run_range2, decide_eq_true_eq, decide_eq_false_iff_not, Bool.not_eq_true', Bool.not_eq_false']
    refine ⟨by simp, by rw [List.length_singleton]; omega, by rw [List.length_append, List.length_singleton]; omega, by omega, by trivial, ?_, ?_⟩
    · have := (pp_snoc (p := (D, (⟨P.take k.toNat ++ [k2] ++ cutL P (some (k + 1)) none⟩ : Ls Sq))) hy g).1; omega
    · exact (pp_snoc hy g).2
  · obtain ⟨rfl, hy⟩ := hy
    rw [hB] at hy
    have hy1 := hy.1
    simp only [WP.run_bind, WP.run_pure, WP.run_req, WP.run_any, WP.run_take, WP.run_cond, WP.run_range1, WP.run_range2, decide_eq_true_eq, decide_eq_false_iff_not, Bool.not_eq_true', Bool.not_eq_false']
    have sl : ∀ (xs : List Sq) (i : Int) (v : Sq), (setL xs i v).length = xs.length := fun xs i v => setL_len xs i v
    refine ⟨okj, okk, okk, by rw [sl]; exact okj, by omega, q _ _ (by omega) (by omega) ⟨?_, ?_⟩⟩
    · have := (pp_snoc (p := (D, (⟨setL (setL P k (ixD P j)) j (ixD P k)⟩ : Ls Sq))) hy g).1; omega
    · exact (pp_snoc hy g).2
theorem spots_is (qs : List Sq) (h : qs.length ≤ 100000) : Is (m__law_spots qs) true := by
  have one : ∀ x : Sq, Is (m__law_spot x) true := fun x => (Is.ret (Is.and (Is.pure.bind Is.pure) fun _ => Is.and (Is.eqv (Is.pure.bind Is.pure) Is.pure) fun _ => Is.and (Is.b1 (Is.pure.bind Is.pure) (Is.ret (Is.and (Is.pure.bind Is.pure) fun _ => Is.not (Is.pure.bind Is.pure)))) fun _ => Is.b1 (Is.pure.bind Is.pure) (Is.ret (Is.and (Is.pure.bind Is.pure) fun _ => Is.not (Is.pure.bind Is.pure))))).eq (by simp)
  refine Is.ret ((Is.and (Is.pure.bind Is.pure) fun _ => Is.eqv (Is.len (Is.lc (p := fun _ => false) (g := fun _ => (1 : Int)) Is.pure h (fun x _ => Is.not (Is.b1 Is.pure (one x))) fun _ _ _ => Is.pure)) Is.pure).eq ?_)
  have : qs.filter (fun _ => false) = [] := List.filter_eq_nil_iff.mpr fun _ _ h => by cases h
  rw [this]; rfl
theorem number_is (a : Int) : Is (m__law_number a) true := (Is.ret (Is.and (Is.pure.bind Is.pure) fun _ => Is.not (Is.pure.bind Is.pure))).eq (by simp)
theorem wet_rim_is {ch : List Str} (c : Ch ch) : Is (m_wet_rim ch) (rim ch) := by
  refine Is.pure.bind (Is.bind (squares_of_is c) ?_)
  unfold rim
  have key : ∀ (xs : List Sq) (a : Int), Is (WP.after (WP.loop (γ := Int) (fun c2 (y2 : Int) => ((WP.not (WP.b2 (WP.pure ch) (WP.pure c2) m_is_land)).bind fun b => WP.cond b ((WP.sub (WP.add (WP.pure y2) (WP.len (WP.b1 (WP.pure c2) m_side_neighbours))) (WP.len (WP.b2 (WP.pure ch) (WP.pure c2) m_wet_beside))).bind fun a4_number => (WP.pure a4_number)) ((WP.pure y2))).bind fun (y3 : Int) => (WP.pure (.nx y3))) xs a) (fun (z2 : Int) => (WP.pure z2).bind fun r5 => (WP.pure r5)) (fun r => (WP.pure r))) (a + (xs.map (rimOf ch)).sum) := fun xs => by
    induction xs with
    | nil => intro a; exact Is.loopNil ((Is.pure.bind Is.pure).eq (by simp))
    | cons x xs ih =>
      intro a
      rw [List.map_cons, List.sum_cons, ← Int.add_assoc]
      refine Is.loopNx (y := a + rimOf ch x) (Is.bind (Is.bind (Is.not (Is.b2 Is.pure Is.pure (is_land_is c x))) ?_) Is.pure) (ih _)
      unfold rimOf
      cases isLd ch x with
      | true => exact Is.pure.eq (by simp)
      | false => exact Is.ret ((Is.b2 (Is.b2 Is.pure (Is.len (Is.b1 Is.pure (side_neighbours_is x))) Is.pure) (Is.len (Is.b2 Is.pure Is.pure (wet_is c x))) Is.pure).eq (by show a + (4 : Int) - _ = a + (4 - _); omega))
  exact (key _ 0).eq (by omega)
theorem sum_filter_rim {ch : List Str} : ∀ (xs : List Sq), (4 : Int) * ((((xs.filter fun x => !isLd ch x).length : Nat)) : Int) - ((xs.filter fun x => !isLd ch x).map fun x => (((wets ch x).length : Nat) : Int)).sum = (xs.map (rimOf ch)).sum
  | [] => rfl
  | x :: xs => by
    have ih := sum_filter_rim (ch := ch) xs
    rw [List.map_cons, List.sum_cons, ← ih]
    cases e : isLd ch x with
    | true => rw [List.filter_cons_of_neg (by rw [e]; decide)]; unfold rimOf; rw [e]; simp
    | false => rw [List.filter_cons_of_pos (by rw [e]; decide), List.length_cons, List.map_cons, List.sum_cons]; unfold rimOf; rw [e]; simp; omega
theorem law_rim_is {ch : List Str} (c : Ch ch) : Is (m__law_rim ch) (rim ch) := by
  have har := c.area
  have hl := List.length_filter_le (fun x => !isLd ch x) (allSq ch)
  refine Is.bind (Is.lcF (p := fun x => !isLd ch x) (Is.b1 Is.pure (law_all_is c)) (by omega) fun x _ => Is.not (Is.b2 Is.pure Is.pure (law_at_is c x))) (Is.ret ?_)
  have h1 : Is (WP.mul (WP.pure (4 : Int)) (WP.len (WP.pure ((allSq ch).filter fun x => !isLd ch x)))) ((4 : Int) * (((((allSq ch).filter fun x => !isLd ch x).length : Nat)) : Int)) := Is.b2 Is.pure (Is.len Is.pure) (Is.req (Or.inl ⟨by omega, by omega⟩))
  have h2 : Is (WP.sum (WP.lc (WP.pure ((allSq ch).filter fun x => !isLd ch x)) (fun c2 => (WP.pure true)) (fun c2 => (WP.b2 (WP.pure ch) (WP.pure c2) m__law_beside)))) (((allSq ch).filter fun x => !isLd ch x).map fun x => (((wets ch x).length : Nat) : Int)).sum := Is.bind (Is.lcM (g := fun x => (((wets ch x).length : Nat) : Int)) Is.pure (by omega) fun x _ => Is.b2 Is.pure Is.pure (beside_is c x)) Is.pure
  exact (Is.b2 h1 h2 Is.pure).eq (sum_filter_rim _)
theorem falls_is {ch : List Str} (c : GC ch) {qs : List Sq} (hl : qs.length ≤ 2000) (v : ValS ch qs) : Draws (m__law_falls () ch qs) 2001 (fun b => b = true) := by
  intro n Q hn q
  unfold m__law_falls
  rw [WP.run_bind]
  refine law_rim_is c.good _ _ ?_
  rw [WP.run_bind]
  refine wet_rim_is c.good _ _ ?_
  rw [WP.run_bind]
  refine (Is.or (Is.not (Is.b1 Is.pure (number_is _))) fun _ => Is.ne Is.pure Is.pure) _ _ ?_
  rw [decide_eq_true rfl, WP.run_cond]
  refine ⟨fun z => (by cases z), fun _ => ?_⟩
  refine WP.after_inv (fun i m (y : List Str × Int × Int) => n ≤ m ∧ m ≤ n + i ∧ GC y.1 ∧ ValS y.1 (qs.drop i) ∧ rim y.1 ≤ y.2.1) ⟨by omega, by omega, c, v, Int.le_refl _⟩ (fun i m x y hx hy => ?_) (fun m y hy => ?_)
  · obtain ⟨D, last, told⟩ := y
    obtain ⟨g1, g2, g, vd, hr⟩ := hy
    dsimp only at g vd hr
    have hi := (List.getElem?_eq_some_iff.mp hx).1
    have ed : qs.drop i = x :: qs.drop (i + 1) := by
      rw [List.drop_eq_getElem_cons hi, (List.getElem?_eq_some_iff.mp hx).2]
    rw [ed] at vd
    obtain ⟨hs, vd⟩ := vd
    have hsq := softB_sq hs
    have gm := gc_set g hsq (k := 46) (.inr rfl)
    have hf := rim_falls g.good hs
    rw [WP.run_bind]
    refine (Is.b3 Is.pure Is.pure Is.pure (by rw [dot_of]; exact law_set_is g.good hsq 46) : Is (WP.b3 (WP.pure D) (WP.pure x) (WP.pure (Str.ofString ".")) m__law_set) (setCh D x 46)) _ _ ?_
    rw [WP.run_bind]
    refine ⟨by omega, by decide, fun t t0 t1 => ?_⟩
    dsimp only
    rw [WP.run_bind, WP.run_pure, WP.run_pure, WP.run_cond]
    refine ⟨fun _ => ?_, fun _ => ?_⟩
    · rw [WP.run_bind]
      refine (Is.b1 Is.pure (wet_rim_is gm.good)) _ _ ?_
      rw [WP.run_bind]
      refine (Is.or (Is.not (Is.b1 Is.pure (number_is _))) fun _ => Is.or (Is.ne Is.pure (Is.b1 Is.pure (law_rim_is gm.good))) fun _ => (Is.b2 Is.pure Is.pure Is.pure : Is (WP.gt _ _) _)) _ _ ?_
      rw [decide_eq_true (show rim (setCh D x 46) = rim (setCh D x 46) from rfl), WP.run_cond]
      refine ⟨fun z => ?_, fun _ => ?_⟩
      · have : last < rim (setCh D x 46) := by simpa using z
        omega
      · rw [WP.run_bind, WP.run_pure, WP.run_pure]
        exact ⟨by omega, by omega, gm, vd, Int.le_refl _⟩
    · rw [WP.run_pure]
      exact ⟨by omega, by omega, gm, vd, by show rim (setCh D x 46) ≤ last; omega⟩
  · exact q _ _ hy.1 (by have := hy.2.1; omega) rfl
theorem run_b3p {α β γ δ : Type} {a : α} {w2 : WP β} {w3 : WP γ} {f : α → β → γ → WP δ} {n : Nat} {Q : Nat → δ → Prop} : (WP.b3 (WP.pure a) w2 w3 f).run n Q = w2.run n fun m b => w3.run m fun m c => (f a b c).run m Q := rfl
theorem run_b2p {α β γ : Type} {a : α} {w2 : WP β} {f : α → β → WP γ} {n : Nat} {Q : Nat → γ → Prop} : (WP.b2 (WP.pure a) w2 f).run n Q = w2.run n fun m b => (f a b).run m Q := rfl
theorem run_pr {α β : Type} {w : WP α} {w2 : WP β} {n : Nat} {Q : Nat → α × β → Prop} : (WP.pair w w2).run n Q = w.run n fun m a => w2.run m fun m b => Q m (a, b) := rfl
theorem law_plain (ns : List Int) (h : ns.length ≤ 63) : (m_law ns).run 0 fun _ b => b = true := by
  unfold m_law
  rw [WP.run_bind]
  refine draw_sizes (most := 5) (by decide) (by decide) _ _ (by omega) fun n0 sz h00 h0 ⟨a1, a2, a3, a4⟩ => ?_
  rw [WP.run_bind]
  refine draw_chart a1 a2 a3 a4 _ _ (by omega) fun n1 ch _ h1 hO => ?_
  have c := GC.of hO
  have ew := hO.wd
  have el := hO.len
  have har2 : (allSq ch).length ≤ 1600 := by
    rw [allSq_len]; exact Nat.mul_le_mul (show ch.length ≤ 40 by omega) (show wid ch ≤ 40 by omega)
  rw [WP.run_bind]
  refine draw_soaking c har2 n1 _ (by omega) fun n2 r _ h2 ⟨v, f, ho⟩ => ?_
  obtain ⟨⟨P⟩, D⟩ := r
  dsimp only at v f ho
  rw [WP.run_bind]
  refine draw_soaking c har2 n2 _ (by omega) fun n2' r' _ h2' ⟨v', f', ho'⟩ => ?_
  obtain ⟨⟨P'⟩, D'⟩ := r'
  dsimp only at v' f' ho'
  have hsq := valS_sq c.good v
  obtain ⟨g, z⟩ := finS_gc c hsq
  rw [f] at g z
  have eD : D' = D := by rw [← f, ← f']; exact confluentS c v' v (by rw [f']; exact ho') (by rw [f]; exact ho)
  subst eD
  have hP : P.length ≤ 1600 := by
    have := valS_len c.good v
    have := cntL_le ch
    omega
  have hl0 := c.good.ne
  have hl1 := c.good.hl
  have hw0 := c.good.w0
  have hw1 := c.good.wl
  have e1 : shS D' ch P = true := shS_iff.mpr ⟨v, f, by rw [f]; exact ho⟩
  rw [WP.run_bind]
  refine (Is.or (Is.neD Is.pure Is.pure g.ok g.ok) fun _ => Is.not (Is.b2 (Is.b3 Is.pure Is.pure ((Is.pure.bind Is.pure).bind Is.pure) (shows_is g c (by omega))) Is.pure (yes_is _ _))) _ _ ?_
  rw [e1, decide_eq_true (show D' = D' from rfl), WP.run_cond]
  refine ⟨fun z => (by cases z), fun _ => ?_⟩
  rw [WP.run_bind]
  refine WP.mono _ (fun m3 L hL => ?_) (?_ : WP.run _ n2' (fun m3 (L : List ((List Str) × (Ls Sq))) => m3 ≤ n2' + 20 ∧ L.length ≤ 102 ∧ ∀ p ∈ L, GC p.1))
  rotate_left
  · simp only [WP.run_bind, WP.run_pure, WP.run_req, WP.run_any, WP.run_take, WP.run_cond, WP.run_range1, WP.run_range2, decide_eq_true_eq, decide_eq_false_iff_not, Bool.not_eq_true', Bool.not_eq_false']
    refine ⟨by simp, draw_strange c g z har2 (by omega) _ _ (by omega) fun n3 S _ h3 hS => ?_⟩
    have := hS.1
    refine ⟨?_, h3, ?_, fun p hp => ?_⟩
    · show 2 + S.length ≤ _; omega
    · rw [List.length_append]; show 2 + S.length ≤ _; omega
    rcases List.mem_append.mp hp with hp | hp
    · simp only [List.mem_cons, List.not_mem_nil, or_false] at hp
      rcases hp with e | e <;> rw [e] <;> exact g
    · exact hS.2 p hp
  obtain ⟨h3, hL⟩ := hL
  rw [WP.run_bind]
  refine WP.mono _ (fun m4 L4 hL4 => ?_) (?_ : WP.run _ m3 (fun m4 (L : List ((List Str) × (Ls Sq))) => m4 ≤ n2' + 40 ∧ ∀ p ∈ L, GC p.1))
  rotate_left
  · rw [WP.run_bind]
    refine (Is.b2 (Is.len (Is.pure.bind Is.pure)) Is.pure Is.pure : Is (WP.gt _ _) _) _ _ ?_
    rw [WP.run_cond]
    refine ⟨fun hp => ?_, fun _ => ⟨by omega, hL.2⟩⟩
    have hp : (0 : Int) < ((P.length : Nat) : Int) := of_decide_eq_true hp
    simp only [WP.run_bind, WP.run_pure, WP.run_req, WP.run_any, WP.run_take, WP.run_cond, WP.run_range1, WP.run_range2, decide_eq_true_eq, decide_eq_false_iff_not, Bool.not_eq_true', Bool.not_eq_false']
    refine draw_bent c g z (by omega) (by omega) hsq _ _ (by omega) fun n4 S h4 h5 hS => ?_
    have := hS.1
    refine ⟨by omega, by omega, fun p hp => ?_⟩
    rcases List.mem_append.mp hp with hp | hp
    · exact hL.2 p hp
    · exact hS.2 p hp
  obtain ⟨h4, hL4⟩ := hL4
  refine WP.after_inv (fun _ m _ => m = m4) rfl (fun i m x y hx hm => ?_) (fun m y hm => ?_)
  · subst hm
    have gx : GC x.1 := hL4 x (List.mem_of_getElem? hx)
    rw [WP.run_bind]
    refine (Is.not (Is.b3 Is.pure Is.pure (Is.pure.bind Is.pure) (judged_is c (by omega) gx _))) _ _ ?_
    rw [WP.run_cond]
    exact ⟨fun z => (by cases z), fun _ => by trivial⟩
  subst hm
  rw [WP.run_bind]
  refine soaking_gives c (by omega) _ _ fun told ht => ?_
  have hD : FinS ch told = D' := by rw [← f]; exact confluentS c ht.1 v ht.2 (by rw [f]; exact ho)
  have htl : told.length ≤ 1600 := by
    have := valS_len c.good ht.1
    have := cntL_le ch
    omega
  have e2 : shS D' ch told = true := shS_iff.mpr ⟨ht.1, hD, ht.2⟩
  rw [WP.run_bind]
  refine (Is.or (Is.not (Is.b1 Is.pure (spots_is told (by omega)))) fun _ => Is.or (Is.not (Is.b3 Is.pure Is.pure Is.pure (shown_is g c))) fun _ => Is.not (Is.b3 Is.pure Is.pure Is.pure (judged_is c (by omega) g told))) _ _ ?_
  rw [e2, WP.run_cond]
  refine ⟨fun z => (by cases z), fun _ => ?_⟩
  rw [WP.run_bind]
  refine soaked_gives c (by omega) _ _ fun whole ⟨ws, wv, wo, we⟩ => ?_
  have we : whole = D' := by rw [we, ← f]; exact confluentS c wv v wo (by rw [f]; exact ho)
  subst we
  rw [WP.run_bind]
  refine (Is.or (Is.not (Is.pure.bind Is.pure)) fun _ => Is.neD Is.pure Is.pure g.ok g.ok) _ _ ?_
  rw [decide_eq_true (show whole = whole from rfl), WP.run_cond]
  refine ⟨fun z => (by cases z), fun _ => ?_⟩
  rw [WP.run_bind, run_pr, run_b2p]
  refine ⟨by omega, by omega, fun r r0 r1 => ?_⟩
  dsimp only
  rw [run_b2p]
  refine ⟨by omega, by omega, fun k k0 k1 => ?_⟩
  have r1 : r < sz.1 := r1
  have k1 : k < sz.2 := k1
  have hsk : isSq ch (r, k) = true := isSq_iff.mpr ⟨r0, by show r < _; omega, k0, by show k < _; omega⟩
  dsimp only
  rw [WP.run_bind]
  refine sign_set' c hsk _ _ fun chg gch zch => ?_
  simp only [WP.run_bind, WP.run_pure, WP.run_req, WP.run_any, WP.run_take, WP.run_cond, WP.run_range1, WP.run_range2, decide_eq_true_eq, decide_eq_false_iff_not, Bool.not_eq_true', Bool.not_eq_false']
  refine judged_is gch (by rw [zch.all]; omega) g P _ _ ?_
  refine ⟨fun _ => falls_is c (by omega) v _ _ (by omega) fun m b _ _ e => e, fun z => (by cases z)⟩
end W

namespace W
open PySem PySem.Spec L2 Y
section
theorem all_mk {l : PySem.W.OpenLaw} {w : World} {K : PySem.W.Frag} {h : Heap} {mg : Str → Option Value} {fa f__law_take f__law_deal f_is_square f_is_land f_squares_of f_land_squares f_side_neighbours f_with_squares f_wet_beside f_soaking_paper f_soaked f_wet_rim f_shows_soaking f__law_pick f__law_yes f__law_number f__law_spot f__law_spots f__law_grid f__law_sizes f__law_in f__law_at f__law_all f__law_dry f__law_set f__law_sides f__law_moist f__law_chart f__law_beside f__law_soft f__law_shown f__law_mixed f__law_soaking f__law_strange f__law_bent f__law_judged f__law_rim f__law_falls f_law : Addr} (X : K.In h) (G : h.Ns mainGlobals mg) (hfa : mg "law" = some (.ref fa))
    {od__law_take an__law_take : Option Addr} {od__law_deal an__law_deal : Option Addr} {od_is_square an_is_square : Option Addr} {od_is_land an_is_land : Option Addr} {od_squares_of an_squares_of : Option Addr} {od_land_squares an_land_squares : Option Addr} {od_side_neighbours an_side_neighbours : Option Addr} {od_with_squares an_with_squares : Option Addr} {od_wet_beside an_wet_beside : Option Addr} {od_soaking_paper an_soaking_paper : Option Addr} {od_soaked an_soaked : Option Addr} {od_wet_rim an_wet_rim : Option Addr} {od_shows_soaking an_shows_soaking : Option Addr} {od__law_pick an__law_pick : Option Addr} {od__law_yes an__law_yes : Option Addr} {od__law_number an__law_number : Option Addr} {od__law_spot an__law_spot : Option Addr} {od__law_spots an__law_spots : Option Addr} {od__law_grid an__law_grid : Option Addr} {od__law_sizes an__law_sizes : Option Addr} {od__law_in an__law_in : Option Addr} {od__law_at an__law_at : Option Addr} {od__law_all an__law_all : Option Addr} {od__law_dry an__law_dry : Option Addr} {od__law_set an__law_set : Option Addr} {od__law_sides an__law_sides : Option Addr} {od__law_moist an__law_moist : Option Addr} {od__law_chart an__law_chart : Option Addr} {od__law_beside an__law_beside : Option Addr} {od__law_soft an__law_soft : Option Addr} {od__law_shown an__law_shown : Option Addr} {od__law_mixed an__law_mixed : Option Addr} {od__law_soaking an__law_soaking : Option Addr} {od__law_strange an__law_strange : Option Addr} {od__law_bent an__law_bent : Option Addr} {od__law_judged an__law_judged : Option Addr} {od__law_rim an__law_rim : Option Addr} {od__law_falls an__law_falls : Option Addr} {od_law an_law : Option Addr} {sl__law_take : Array (Option Value)} {oc__law_take kV__law_take dc__law_take pm__law_take cd__law_take ct__law_take : Value} {sl__law_deal : Array (Option Value)} {oc__law_deal kV__law_deal dc__law_deal pm__law_deal cd__law_deal ct__law_deal : Value} {sl_is_square : Array (Option Value)} {oc_is_square kV_is_square dc_is_square pm_is_square cd_is_square ct_is_square : Value} {sl_is_land : Array (Option Value)} {oc_is_land kV_is_land dc_is_land pm_is_land cd_is_land ct_is_land : Value} {sl_squares_of : Array (Option Value)} {oc_squares_of kV_squares_of dc_squares_of pm_squares_of cd_squares_of ct_squares_of : Value} {sl_land_squares : Array (Option Value)} {oc_land_squares kV_land_squares dc_land_squares pm_land_squares cd_land_squares ct_land_squares : Value} {sl_side_neighbours : Array (Option Value)} {oc_side_neighbours kV_side_neighbours dc_side_neighbours pm_side_neighbours cd_side_neighbours ct_side_neighbours : Value} {sl_with_squares : Array (Option Value)} {oc_with_squares kV_with_squares dc_with_squares pm_with_squares cd_with_squares ct_with_squares : Value} {sl_wet_beside : Array (Option Value)} {oc_wet_beside kV_wet_beside dc_wet_beside pm_wet_beside cd_wet_beside ct_wet_beside : Value} {sl_soaking_paper : Array (Option Value)} {oc_soaking_paper kV_soaking_paper dc_soaking_paper pm_soaking_paper cd_soaking_paper ct_soaking_paper : Value} {sl_soaked : Array (Option Value)} {oc_soaked kV_soaked dc_soaked pm_soaked cd_soaked ct_soaked : Value} {sl_wet_rim : Array (Option Value)} {oc_wet_rim kV_wet_rim dc_wet_rim pm_wet_rim cd_wet_rim ct_wet_rim : Value} {sl_shows_soaking : Array (Option Value)} {oc_shows_soaking kV_shows_soaking dc_shows_soaking pm_shows_soaking cd_shows_soaking ct_shows_soaking : Value} {sl__law_pick : Array (Option Value)} {oc__law_pick kV__law_pick dc__law_pick pm__law_pick cd__law_pick ct__law_pick : Value} {sl__law_yes : Array (Option Value)} {oc__law_yes kV__law_yes dc__law_yes pm__law_yes cd__law_yes ct__law_yes : Value} {sl__law_number : Array (Option Value)} {oc__law_number kV__law_number dc__law_number pm__law_number cd__law_number ct__law_number : Value} {sl__law_spot : Array (Option Value)} {oc__law_spot kV__law_spot dc__law_spot pm__law_spot cd__law_spot ct__law_spot : Value} {sl__law_spots : Array (Option Value)} {oc__law_spots kV__law_spots dc__law_spots pm__law_spots cd__law_spots ct__law_spots : Value} {sl__law_grid : Array (Option Value)} {oc__law_grid kV__law_grid dc__law_grid pm__law_grid cd__law_grid ct__law_grid : Value} {sl__law_sizes : Array (Option Value)} {oc__law_sizes kV__law_sizes dc__law_sizes pm__law_sizes cd__law_sizes ct__law_sizes : Value} {sl__law_in : Array (Option Value)} {oc__law_in kV__law_in dc__law_in pm__law_in cd__law_in ct__law_in : Value} {sl__law_at : Array (Option Value)} {oc__law_at kV__law_at dc__law_at pm__law_at cd__law_at ct__law_at : Value} {sl__law_all : Array (Option Value)} {oc__law_all kV__law_all dc__law_all pm__law_all cd__law_all ct__law_all : Value} {sl__law_dry : Array (Option Value)} {oc__law_dry kV__law_dry dc__law_dry pm__law_dry cd__law_dry ct__law_dry : Value} {sl__law_set : Array (Option Value)} {oc__law_set kV__law_set dc__law_set pm__law_set cd__law_set ct__law_set : Value} {sl__law_sides : Array (Option Value)} {oc__law_sides kV__law_sides dc__law_sides pm__law_sides cd__law_sides ct__law_sides : Value} {sl__law_moist : Array (Option Value)} {oc__law_moist kV__law_moist dc__law_moist pm__law_moist cd__law_moist ct__law_moist : Value} {sl__law_chart : Array (Option Value)} {oc__law_chart kV__law_chart dc__law_chart pm__law_chart cd__law_chart ct__law_chart : Value} {sl__law_beside : Array (Option Value)} {oc__law_beside kV__law_beside dc__law_beside pm__law_beside cd__law_beside ct__law_beside : Value} {sl__law_soft : Array (Option Value)} {oc__law_soft kV__law_soft dc__law_soft pm__law_soft cd__law_soft ct__law_soft : Value} {sl__law_shown : Array (Option Value)} {oc__law_shown kV__law_shown dc__law_shown pm__law_shown cd__law_shown ct__law_shown : Value} {sl__law_mixed : Array (Option Value)} {oc__law_mixed kV__law_mixed dc__law_mixed pm__law_mixed cd__law_mixed ct__law_mixed : Value} {sl__law_soaking : Array (Option Value)} {oc__law_soaking kV__law_soaking dc__law_soaking pm__law_soaking cd__law_soaking ct__law_soaking : Value} {sl__law_strange : Array (Option Value)} {oc__law_strange kV__law_strange dc__law_strange pm__law_strange cd__law_strange ct__law_strange : Value} {sl__law_bent : Array (Option Value)} {oc__law_bent kV__law_bent dc__law_bent pm__law_bent cd__law_bent ct__law_bent : Value} {sl__law_judged : Array (Option Value)} {oc__law_judged kV__law_judged dc__law_judged pm__law_judged cd__law_judged ct__law_judged : Value} {sl__law_rim : Array (Option Value)} {oc__law_rim kV__law_rim dc__law_rim pm__law_rim cd__law_rim ct__law_rim : Value} {sl__law_falls : Array (Option Value)} {oc__law_falls kV__law_falls dc__law_falls pm__law_falls cd__law_falls ct__law_falls : Value} {sl_law : Array (Option Value)} {oc_law kV_law dc_law pm_law cd_law ct_law : Value}
    (a__law_take : PySem.W.nsIn K mainGlobals "_law_take" = some (some (.ref f__law_take))) (l__law_take : K.lookup f__law_take = some ⟨oc__law_take, od__law_take, .func (PySem.W.fnOf "_law_take" "_law_take" (defArgs s__law_take) (defBody s__law_take) (defScope s__law_take) .none kV__law_take dc__law_take pm__law_take an__law_take cd__law_take ct__law_take), sl__law_take⟩) (c__law_take : PySem.W.codeIn K cd__law_take "_law_take" = true) (k__law_take : PySem.W.keepIn K (.ref f__law_take) = true)
    (a__law_deal : PySem.W.nsIn K mainGlobals "_law_deal" = some (some (.ref f__law_deal))) (l__law_deal : K.lookup f__law_deal = some ⟨oc__law_deal, od__law_deal, .func (PySem.W.fnOf "_law_deal" "_law_deal" (defArgs s__law_deal) (defBody s__law_deal) (defScope s__law_deal) .none kV__law_deal dc__law_deal pm__law_deal an__law_deal cd__law_deal ct__law_deal), sl__law_deal⟩) (c__law_deal : PySem.W.codeIn K cd__law_deal "_law_deal" = true) (k__law_deal : PySem.W.keepIn K (.ref f__law_deal) = true)
    (a_is_square : PySem.W.nsIn K mainGlobals "is_square" = some (some (.ref f_is_square))) (l_is_square : K.lookup f_is_square = some ⟨oc_is_square, od_is_square, .func (PySem.W.fnOf "is_square" "is_square" (defArgs s_is_square) (defBody s_is_square) (defScope s_is_square) .none kV_is_square dc_is_square pm_is_square an_is_square cd_is_square ct_is_square), sl_is_square⟩) (c_is_square : PySem.W.codeIn K cd_is_square "is_square" = true) (k_is_square : PySem.W.keepIn K (.ref f_is_square) = true)
    (a_is_land : PySem.W.nsIn K mainGlobals "is_land" = some (some (.ref f_is_land))) (l_is_land : K.lookup f_is_land = some ⟨oc_is_land, od_is_land, .func (PySem.W.fnOf "is_land" "is_land" (defArgs s_is_land) (defBody s_is_land) (defScope s_is_land) .none kV_is_land dc_is_land pm_is_land an_is_land cd_is_land ct_is_land), sl_is_land⟩) (c_is_land : PySem.W.codeIn K cd_is_land "is_land" = true) (k_is_land : PySem.W.keepIn K (.ref f_is_land) = true)
    (a_squares_of : PySem.W.nsIn K mainGlobals "squares_of" = some (some (.ref f_squares_of))) (l_squares_of : K.lookup f_squares_of = some ⟨oc_squares_of, od_squares_of, .func (PySem.W.fnOf "squares_of" "squares_of" (defArgs s_squares_of) (defBody s_squares_of) (defScope s_squares_of) .none kV_squares_of dc_squares_of pm_squares_of an_squares_of cd_squares_of ct_squares_of), sl_squares_of⟩) (c_squares_of : PySem.W.codeIn K cd_squares_of "squares_of" = true) (k_squares_of : PySem.W.keepIn K (.ref f_squares_of) = true)
    (a_land_squares : PySem.W.nsIn K mainGlobals "land_squares" = some (some (.ref f_land_squares))) (l_land_squares : K.lookup f_land_squares = some ⟨oc_land_squares, od_land_squares, .func (PySem.W.fnOf "land_squares" "land_squares" (defArgs s_land_squares) (defBody s_land_squares) (defScope s_land_squares) .none kV_land_squares dc_land_squares pm_land_squares an_land_squares cd_land_squares ct_land_squares), sl_land_squares⟩) (c_land_squares : PySem.W.codeIn K cd_land_squares "land_squares" = true) (k_land_squares : PySem.W.keepIn K (.ref f_land_squares) = true)
    (a_side_neighbours : PySem.W.nsIn K mainGlobals "side_neighbours" = some (some (.ref f_side_neighbours))) (l_side_neighbours : K.lookup f_side_neighbours = some ⟨oc_side_neighbours, od_side_neighbours, .func (PySem.W.fnOf "side_neighbours" "side_neighbours" (defArgs s_side_neighbours) (defBody s_side_neighbours) (defScope s_side_neighbours) .none kV_side_neighbours dc_side_neighbours pm_side_neighbours an_side_neighbours cd_side_neighbours ct_side_neighbours), sl_side_neighbours⟩) (c_side_neighbours : PySem.W.codeIn K cd_side_neighbours "side_neighbours" = true) (k_side_neighbours : PySem.W.keepIn K (.ref f_side_neighbours) = true)
    (a_with_squares : PySem.W.nsIn K mainGlobals "with_squares" = some (some (.ref f_with_squares))) (l_with_squares : K.lookup f_with_squares = some ⟨oc_with_squares, od_with_squares, .func (PySem.W.fnOf "with_squares" "with_squares" (defArgs s_with_squares) (defBody s_with_squares) (defScope s_with_squares) .none kV_with_squares dc_with_squares pm_with_squares an_with_squares cd_with_squares ct_with_squares), sl_with_squares⟩) (c_with_squares : PySem.W.codeIn K cd_with_squares "with_squares" = true) (k_with_squares : PySem.W.keepIn K (.ref f_with_squares) = true)
    (a_wet_beside : PySem.W.nsIn K mainGlobals "wet_beside" = some (some (.ref f_wet_beside))) (l_wet_beside : K.lookup f_wet_beside = some ⟨oc_wet_beside, od_wet_beside, .func (PySem.W.fnOf "wet_beside" "wet_beside" (defArgs s_wet_beside) (defBody s_wet_beside) (defScope s_wet_beside) .none kV_wet_beside dc_wet_beside pm_wet_beside an_wet_beside cd_wet_beside ct_wet_beside), sl_wet_beside⟩) (c_wet_beside : PySem.W.codeIn K cd_wet_beside "wet_beside" = true) (k_wet_beside : PySem.W.keepIn K (.ref f_wet_beside) = true)
    (a_soaking_paper : PySem.W.nsIn K mainGlobals "soaking_paper" = some (some (.ref f_soaking_paper))) (l_soaking_paper : K.lookup f_soaking_paper = some ⟨oc_soaking_paper, od_soaking_paper, .func (PySem.W.fnOf "soaking_paper" "soaking_paper" (defArgs s_soaking_paper) (defBody s_soaking_paper) (defScope s_soaking_paper) .none kV_soaking_paper dc_soaking_paper pm_soaking_paper an_soaking_paper cd_soaking_paper ct_soaking_paper), sl_soaking_paper⟩) (c_soaking_paper : PySem.W.codeIn K cd_soaking_paper "soaking_paper" = true) (k_soaking_paper : PySem.W.keepIn K (.ref f_soaking_paper) = true)
    (a_soaked : PySem.W.nsIn K mainGlobals "soaked" = some (some (.ref f_soaked))) (l_soaked : K.lookup f_soaked = some ⟨oc_soaked, od_soaked, .func (PySem.W.fnOf "soaked" "soaked" (defArgs s_soaked) (defBody s_soaked) (defScope s_soaked) .none kV_soaked dc_soaked pm_soaked an_soaked cd_soaked ct_soaked), sl_soaked⟩) (c_soaked : PySem.W.codeIn K cd_soaked "soaked" = true) (k_soaked : PySem.W.keepIn K (.ref f_soaked) = true)
    (a_wet_rim : PySem.W.nsIn K mainGlobals "wet_rim" = some (some (.ref f_wet_rim))) (l_wet_rim : K.lookup f_wet_rim = some ⟨oc_wet_rim, od_wet_rim, .func (PySem.W.fnOf "wet_rim" "wet_rim" (defArgs s_wet_rim) (defBody s_wet_rim) (defScope s_wet_rim) .none kV_wet_rim dc_wet_rim pm_wet_rim an_wet_rim cd_wet_rim ct_wet_rim), sl_wet_rim⟩) (c_wet_rim : PySem.W.codeIn K cd_wet_rim "wet_rim" = true) (k_wet_rim : PySem.W.keepIn K (.ref f_wet_rim) = true)
    (a_shows_soaking : PySem.W.nsIn K mainGlobals "shows_soaking" = some (some (.ref f_shows_soaking))) (l_shows_soaking : K.lookup f_shows_soaking = some ⟨oc_shows_soaking, od_shows_soaking, .func (PySem.W.fnOf "shows_soaking" "shows_soaking" (defArgs s_shows_soaking) (defBody s_shows_soaking) (defScope s_shows_soaking) .none kV_shows_soaking dc_shows_soaking pm_shows_soaking an_shows_soaking cd_shows_soaking ct_shows_soaking), sl_shows_soaking⟩) (c_shows_soaking : PySem.W.codeIn K cd_shows_soaking "shows_soaking" = true) (k_shows_soaking : PySem.W.keepIn K (.ref f_shows_soaking) = true)
    (a__law_pick : PySem.W.nsIn K mainGlobals "_law_pick" = some (some (.ref f__law_pick))) (l__law_pick : K.lookup f__law_pick = some ⟨oc__law_pick, od__law_pick, .func (PySem.W.fnOf "_law_pick" "_law_pick" (defArgs s__law_pick) (defBody s__law_pick) (defScope s__law_pick) .none kV__law_pick dc__law_pick pm__law_pick an__law_pick cd__law_pick ct__law_pick), sl__law_pick⟩) (c__law_pick : PySem.W.codeIn K cd__law_pick "_law_pick" = true) (k__law_pick : PySem.W.keepIn K (.ref f__law_pick) = true)
    (a__law_yes : PySem.W.nsIn K mainGlobals "_law_yes" = some (some (.ref f__law_yes))) (l__law_yes : K.lookup f__law_yes = some ⟨oc__law_yes, od__law_yes, .func (PySem.W.fnOf "_law_yes" "_law_yes" (defArgs s__law_yes) (defBody s__law_yes) (defScope s__law_yes) .none kV__law_yes dc__law_yes pm__law_yes an__law_yes cd__law_yes ct__law_yes), sl__law_yes⟩) (c__law_yes : PySem.W.codeIn K cd__law_yes "_law_yes" = true) (k__law_yes : PySem.W.keepIn K (.ref f__law_yes) = true)
    (a__law_number : PySem.W.nsIn K mainGlobals "_law_number" = some (some (.ref f__law_number))) (l__law_number : K.lookup f__law_number = some ⟨oc__law_number, od__law_number, .func (PySem.W.fnOf "_law_number" "_law_number" (defArgs s__law_number) (defBody s__law_number) (defScope s__law_number) .none kV__law_number dc__law_number pm__law_number an__law_number cd__law_number ct__law_number), sl__law_number⟩) (c__law_number : PySem.W.codeIn K cd__law_number "_law_number" = true) (k__law_number : PySem.W.keepIn K (.ref f__law_number) = true)
    (a__law_spot : PySem.W.nsIn K mainGlobals "_law_spot" = some (some (.ref f__law_spot))) (l__law_spot : K.lookup f__law_spot = some ⟨oc__law_spot, od__law_spot, .func (PySem.W.fnOf "_law_spot" "_law_spot" (defArgs s__law_spot) (defBody s__law_spot) (defScope s__law_spot) .none kV__law_spot dc__law_spot pm__law_spot an__law_spot cd__law_spot ct__law_spot), sl__law_spot⟩) (c__law_spot : PySem.W.codeIn K cd__law_spot "_law_spot" = true) (k__law_spot : PySem.W.keepIn K (.ref f__law_spot) = true)
    (a__law_spots : PySem.W.nsIn K mainGlobals "_law_spots" = some (some (.ref f__law_spots))) (l__law_spots : K.lookup f__law_spots = some ⟨oc__law_spots, od__law_spots, .func (PySem.W.fnOf "_law_spots" "_law_spots" (defArgs s__law_spots) (defBody s__law_spots) (defScope s__law_spots) .none kV__law_spots dc__law_spots pm__law_spots an__law_spots cd__law_spots ct__law_spots), sl__law_spots⟩) (c__law_spots : PySem.W.codeIn K cd__law_spots "_law_spots" = true) (k__law_spots : PySem.W.keepIn K (.ref f__law_spots) = true)
    (a__law_grid : PySem.W.nsIn K mainGlobals "_law_grid" = some (some (.ref f__law_grid))) (l__law_grid : K.lookup f__law_grid = some ⟨oc__law_grid, od__law_grid, .func (PySem.W.fnOf "_law_grid" "_law_grid" (defArgs s__law_grid) (defBody s__law_grid) (defScope s__law_grid) .none kV__law_grid dc__law_grid pm__law_grid an__law_grid cd__law_grid ct__law_grid), sl__law_grid⟩) (c__law_grid : PySem.W.codeIn K cd__law_grid "_law_grid" = true) (k__law_grid : PySem.W.keepIn K (.ref f__law_grid) = true)
    (a__law_sizes : PySem.W.nsIn K mainGlobals "_law_sizes" = some (some (.ref f__law_sizes))) (l__law_sizes : K.lookup f__law_sizes = some ⟨oc__law_sizes, od__law_sizes, .func (PySem.W.fnOf "_law_sizes" "_law_sizes" (defArgs s__law_sizes) (defBody s__law_sizes) (defScope s__law_sizes) .none kV__law_sizes dc__law_sizes pm__law_sizes an__law_sizes cd__law_sizes ct__law_sizes), sl__law_sizes⟩) (c__law_sizes : PySem.W.codeIn K cd__law_sizes "_law_sizes" = true) (k__law_sizes : PySem.W.keepIn K (.ref f__law_sizes) = true)
    (a__law_in : PySem.W.nsIn K mainGlobals "_law_in" = some (some (.ref f__law_in))) (l__law_in : K.lookup f__law_in = some ⟨oc__law_in, od__law_in, .func (PySem.W.fnOf "_law_in" "_law_in" (defArgs s__law_in) (defBody s__law_in) (defScope s__law_in) .none kV__law_in dc__law_in pm__law_in an__law_in cd__law_in ct__law_in), sl__law_in⟩) (c__law_in : PySem.W.codeIn K cd__law_in "_law_in" = true) (k__law_in : PySem.W.keepIn K (.ref f__law_in) = true)
    (a__law_at : PySem.W.nsIn K mainGlobals "_law_at" = some (some (.ref f__law_at))) (l__law_at : K.lookup f__law_at = some ⟨oc__law_at, od__law_at, .func (PySem.W.fnOf "_law_at" "_law_at" (defArgs s__law_at) (defBody s__law_at) (defScope s__law_at) .none kV__law_at dc__law_at pm__law_at an__law_at cd__law_at ct__law_at), sl__law_at⟩) (c__law_at : PySem.W.codeIn K cd__law_at "_law_at" = true) (k__law_at : PySem.W.keepIn K (.ref f__law_at) = true)
    (a__law_all : PySem.W.nsIn K mainGlobals "_law_all" = some (some (.ref f__law_all))) (l__law_all : K.lookup f__law_all = some ⟨oc__law_all, od__law_all, .func (PySem.W.fnOf "_law_all" "_law_all" (defArgs s__law_all) (defBody s__law_all) (defScope s__law_all) .none kV__law_all dc__law_all pm__law_all an__law_all cd__law_all ct__law_all), sl__law_all⟩) (c__law_all : PySem.W.codeIn K cd__law_all "_law_all" = true) (k__law_all : PySem.W.keepIn K (.ref f__law_all) = true)
    (a__law_dry : PySem.W.nsIn K mainGlobals "_law_dry" = some (some (.ref f__law_dry))) (l__law_dry : K.lookup f__law_dry = some ⟨oc__law_dry, od__law_dry, .func (PySem.W.fnOf "_law_dry" "_law_dry" (defArgs s__law_dry) (defBody s__law_dry) (defScope s__law_dry) .none kV__law_dry dc__law_dry pm__law_dry an__law_dry cd__law_dry ct__law_dry), sl__law_dry⟩) (c__law_dry : PySem.W.codeIn K cd__law_dry "_law_dry" = true) (k__law_dry : PySem.W.keepIn K (.ref f__law_dry) = true)
    (a__law_set : PySem.W.nsIn K mainGlobals "_law_set" = some (some (.ref f__law_set))) (l__law_set : K.lookup f__law_set = some ⟨oc__law_set, od__law_set, .func (PySem.W.fnOf "_law_set" "_law_set" (defArgs s__law_set) (defBody s__law_set) (defScope s__law_set) .none kV__law_set dc__law_set pm__law_set an__law_set cd__law_set ct__law_set), sl__law_set⟩) (c__law_set : PySem.W.codeIn K cd__law_set "_law_set" = true) (k__law_set : PySem.W.keepIn K (.ref f__law_set) = true)
    (a__law_sides : PySem.W.nsIn K mainGlobals "_law_sides" = some (some (.ref f__law_sides))) (l__law_sides : K.lookup f__law_sides = some ⟨oc__law_sides, od__law_sides, .func (PySem.W.fnOf "_law_sides" "_law_sides" (defArgs s__law_sides) (defBody s__law_sides) (defScope s__law_sides) .none kV__law_sides dc__law_sides pm__law_sides an__law_sides cd__law_sides ct__law_sides), sl__law_sides⟩) (c__law_sides : PySem.W.codeIn K cd__law_sides "_law_sides" = true) (k__law_sides : PySem.W.keepIn K (.ref f__law_sides) = true)
    (a__law_moist : PySem.W.nsIn K mainGlobals "_law_moist" = some (some (.ref f__law_moist))) (l__law_moist : K.lookup f__law_moist = some ⟨oc__law_moist, od__law_moist, .func (PySem.W.fnOf "_law_moist" "_law_moist" (defArgs s__law_moist) (defBody s__law_moist) (defScope s__law_moist) .none kV__law_moist dc__law_moist pm__law_moist an__law_moist cd__law_moist ct__law_moist), sl__law_moist⟩) (c__law_moist : PySem.W.codeIn K cd__law_moist "_law_moist" = true) (k__law_moist : PySem.W.keepIn K (.ref f__law_moist) = true)
    (a__law_chart : PySem.W.nsIn K mainGlobals "_law_chart" = some (some (.ref f__law_chart))) (l__law_chart : K.lookup f__law_chart = some ⟨oc__law_chart, od__law_chart, .func (PySem.W.fnOf "_law_chart" "_law_chart" (defArgs s__law_chart) (defBody s__law_chart) (defScope s__law_chart) .none kV__law_chart dc__law_chart pm__law_chart an__law_chart cd__law_chart ct__law_chart), sl__law_chart⟩) (c__law_chart : PySem.W.codeIn K cd__law_chart "_law_chart" = true) (k__law_chart : PySem.W.keepIn K (.ref f__law_chart) = true)
    (a__law_beside : PySem.W.nsIn K mainGlobals "_law_beside" = some (some (.ref f__law_beside))) (l__law_beside : K.lookup f__law_beside = some ⟨oc__law_beside, od__law_beside, .func (PySem.W.fnOf "_law_beside" "_law_beside" (defArgs s__law_beside) (defBody s__law_beside) (defScope s__law_beside) .none kV__law_beside dc__law_beside pm__law_beside an__law_beside cd__law_beside ct__law_beside), sl__law_beside⟩) (c__law_beside : PySem.W.codeIn K cd__law_beside "_law_beside" = true) (k__law_beside : PySem.W.keepIn K (.ref f__law_beside) = true)
    (a__law_soft : PySem.W.nsIn K mainGlobals "_law_soft" = some (some (.ref f__law_soft))) (l__law_soft : K.lookup f__law_soft = some ⟨oc__law_soft, od__law_soft, .func (PySem.W.fnOf "_law_soft" "_law_soft" (defArgs s__law_soft) (defBody s__law_soft) (defScope s__law_soft) .none kV__law_soft dc__law_soft pm__law_soft an__law_soft cd__law_soft ct__law_soft), sl__law_soft⟩) (c__law_soft : PySem.W.codeIn K cd__law_soft "_law_soft" = true) (k__law_soft : PySem.W.keepIn K (.ref f__law_soft) = true)
    (a__law_shown : PySem.W.nsIn K mainGlobals "_law_shown" = some (some (.ref f__law_shown))) (l__law_shown : K.lookup f__law_shown = some ⟨oc__law_shown, od__law_shown, .func (PySem.W.fnOf "_law_shown" "_law_shown" (defArgs s__law_shown) (defBody s__law_shown) (defScope s__law_shown) .none kV__law_shown dc__law_shown pm__law_shown an__law_shown cd__law_shown ct__law_shown), sl__law_shown⟩) (c__law_shown : PySem.W.codeIn K cd__law_shown "_law_shown" = true) (k__law_shown : PySem.W.keepIn K (.ref f__law_shown) = true)
    (a__law_mixed : PySem.W.nsIn K mainGlobals "_law_mixed" = some (some (.ref f__law_mixed))) (l__law_mixed : K.lookup f__law_mixed = some ⟨oc__law_mixed, od__law_mixed, .func (PySem.W.fnOf "_law_mixed" "_law_mixed" (defArgs s__law_mixed) (defBody s__law_mixed) (defScope s__law_mixed) .none kV__law_mixed dc__law_mixed pm__law_mixed an__law_mixed cd__law_mixed ct__law_mixed), sl__law_mixed⟩) (c__law_mixed : PySem.W.codeIn K cd__law_mixed "_law_mixed" = true) (k__law_mixed : PySem.W.keepIn K (.ref f__law_mixed) = true)
    (a__law_soaking : PySem.W.nsIn K mainGlobals "_law_soaking" = some (some (.ref f__law_soaking))) (l__law_soaking : K.lookup f__law_soaking = some ⟨oc__law_soaking, od__law_soaking, .func (PySem.W.fnOf "_law_soaking" "_law_soaking" (defArgs s__law_soaking) (defBody s__law_soaking) (defScope s__law_soaking) .none kV__law_soaking dc__law_soaking pm__law_soaking an__law_soaking cd__law_soaking ct__law_soaking), sl__law_soaking⟩) (c__law_soaking : PySem.W.codeIn K cd__law_soaking "_law_soaking" = true) (k__law_soaking : PySem.W.keepIn K (.ref f__law_soaking) = true)
    (a__law_strange : PySem.W.nsIn K mainGlobals "_law_strange" = some (some (.ref f__law_strange))) (l__law_strange : K.lookup f__law_strange = some ⟨oc__law_strange, od__law_strange, .func (PySem.W.fnOf "_law_strange" "_law_strange" (defArgs s__law_strange) (defBody s__law_strange) (defScope s__law_strange) .none kV__law_strange dc__law_strange pm__law_strange an__law_strange cd__law_strange ct__law_strange), sl__law_strange⟩) (c__law_strange : PySem.W.codeIn K cd__law_strange "_law_strange" = true) (k__law_strange : PySem.W.keepIn K (.ref f__law_strange) = true)
    (a__law_bent : PySem.W.nsIn K mainGlobals "_law_bent" = some (some (.ref f__law_bent))) (l__law_bent : K.lookup f__law_bent = some ⟨oc__law_bent, od__law_bent, .func (PySem.W.fnOf "_law_bent" "_law_bent" (defArgs s__law_bent) (defBody s__law_bent) (defScope s__law_bent) .none kV__law_bent dc__law_bent pm__law_bent an__law_bent cd__law_bent ct__law_bent), sl__law_bent⟩) (c__law_bent : PySem.W.codeIn K cd__law_bent "_law_bent" = true) (k__law_bent : PySem.W.keepIn K (.ref f__law_bent) = true)
    (a__law_judged : PySem.W.nsIn K mainGlobals "_law_judged" = some (some (.ref f__law_judged))) (l__law_judged : K.lookup f__law_judged = some ⟨oc__law_judged, od__law_judged, .func (PySem.W.fnOf "_law_judged" "_law_judged" (defArgs s__law_judged) (defBody s__law_judged) (defScope s__law_judged) .none kV__law_judged dc__law_judged pm__law_judged an__law_judged cd__law_judged ct__law_judged), sl__law_judged⟩) (c__law_judged : PySem.W.codeIn K cd__law_judged "_law_judged" = true) (k__law_judged : PySem.W.keepIn K (.ref f__law_judged) = true)
    (a__law_rim : PySem.W.nsIn K mainGlobals "_law_rim" = some (some (.ref f__law_rim))) (l__law_rim : K.lookup f__law_rim = some ⟨oc__law_rim, od__law_rim, .func (PySem.W.fnOf "_law_rim" "_law_rim" (defArgs s__law_rim) (defBody s__law_rim) (defScope s__law_rim) .none kV__law_rim dc__law_rim pm__law_rim an__law_rim cd__law_rim ct__law_rim), sl__law_rim⟩) (c__law_rim : PySem.W.codeIn K cd__law_rim "_law_rim" = true) (k__law_rim : PySem.W.keepIn K (.ref f__law_rim) = true)
    (a__law_falls : PySem.W.nsIn K mainGlobals "_law_falls" = some (some (.ref f__law_falls))) (l__law_falls : K.lookup f__law_falls = some ⟨oc__law_falls, od__law_falls, .func (PySem.W.fnOf "_law_falls" "_law_falls" (defArgs s__law_falls) (defBody s__law_falls) (defScope s__law_falls) .none kV__law_falls dc__law_falls pm__law_falls an__law_falls cd__law_falls ct__law_falls), sl__law_falls⟩) (c__law_falls : PySem.W.codeIn K cd__law_falls "_law_falls" = true) (k__law_falls : PySem.W.keepIn K (.ref f__law_falls) = true)
    (a_law : PySem.W.nsIn K mainGlobals "law" = some (some (.ref f_law))) (l_law : K.lookup f_law = some ⟨oc_law, od_law, .func (PySem.W.fnOf "law" "law" (defArgs s_law) (defBody s_law) (defScope s_law) .none kV_law dc_law pm_law an_law cd_law ct_law), sl_law⟩) (c_law : PySem.W.codeIn K cd_law "law" = true) (k_law : PySem.W.keepIn K (.ref f_law) = true)
    (z_len : PySem.W.nsIn K mainGlobals "len" = some none)
    (z_range : PySem.W.nsIn K mainGlobals "range" = some none)
    (z_abs : PySem.W.nsIn K mainGlobals "abs" = some none)
    (z_int : PySem.W.nsIn K mainGlobals "int" = some none)
    (z_bool : PySem.W.nsIn K mainGlobals "bool" = some none)
    (z_sum : PySem.W.nsIn K mainGlobals "sum" = some none)
    (z_min : PySem.W.nsIn K mainGlobals "min" = some none)
    (z_max : PySem.W.nsIn K mainGlobals "max" = some none)
    (z_tuple : PySem.W.nsIn K mainGlobals "tuple" = some none)
    (z_isinstance : PySem.W.nsIn K mainGlobals "isinstance" = some none)
    (z_str : PySem.W.nsIn K mainGlobals "str" = some none)
    (z_list : PySem.W.nsIn K mainGlobals "list" = some none)
    (z_all : PySem.W.nsIn K mainGlobals "all" = some none)
    (z_any : PySem.W.nsIn K mainGlobals "any" = some none)
    {t_LAND : Tok} (y_LAND : PySem.W.nsIn K mainGlobals "LAND" = some (some (.str "x" t_LAND)))
    {t_WATER : Tok} (y_WATER : PySem.W.nsIn K mainGlobals "WATER" = some (some (.str "." t_WATER)))
    {t_ENOUGH : Tok} (y_ENOUGH : PySem.W.nsIn K mainGlobals "ENOUGH" = some (some (.int 2 t_ENOUGH)))
    : ∃ fd : FuncData, (∀ (s : Shared) (v : Value), BindsTo s fd ⟨[v], []⟩ [("script", v)]) ∧ ∀ base : Heap, K.In base → base.Ns mainGlobals mg → FnOk l.prog w K mg base CX0 7 fa fd ["script"] (sp_law K) := by
  have e := hfa.symm.trans (PySem.W.mg_of X G a_law)
  cases e
  have T : Glb mg := ⟨PySem.W.mg_none_of X G z_len, PySem.W.mg_none_of X G z_range, PySem.W.mg_none_of X G z_abs, PySem.W.mg_none_of X G z_int, PySem.W.mg_none_of X G z_bool, PySem.W.mg_none_of X G z_sum, PySem.W.mg_none_of X G z_min, PySem.W.mg_none_of X G z_max, PySem.W.mg_none_of X G z_tuple, PySem.W.mg_none_of X G z_isinstance, PySem.W.mg_none_of X G z_str, PySem.W.mg_none_of X G z_list, PySem.W.mg_none_of X G z_all, PySem.W.mg_none_of X G z_any, ⟨_, PySem.W.mg_of X G y_LAND⟩, ⟨_, PySem.W.mg_of X G y_WATER⟩, ⟨_, PySem.W.mg_of X G y_ENOUGH⟩⟩
  have A__law_take : At K mg "_law_take" s__law_take P__law_take := ⟨f__law_take, _, PySem.W.mg_of X G a__law_take, fun_mk (st := s__law_take) l__law_take c__law_take k__law_take, (fun_mk (st := s__law_take) l__law_take c__law_take k__law_take).binds (ps := P__law_take) fun _ _ _ _ _ _ us hl => match us, hl with | [_, _], _ => rfl⟩
  have A__law_deal : At K mg "_law_deal" s__law_deal P__law_deal := ⟨f__law_deal, _, PySem.W.mg_of X G a__law_deal, fun_mk (st := s__law_deal) l__law_deal c__law_deal k__law_deal, (fun_mk (st := s__law_deal) l__law_deal c__law_deal k__law_deal).binds (ps := P__law_deal) fun _ _ _ _ _ _ us hl => match us, hl with | [_], _ => rfl⟩
  have A_is_square : At K mg "is_square" s_is_square P_is_square := ⟨f_is_square, _, PySem.W.mg_of X G a_is_square, fun_mk (st := s_is_square) l_is_square c_is_square k_is_square, (fun_mk (st := s_is_square) l_is_square c_is_square k_is_square).binds (ps := P_is_square) fun _ _ _ _ _ _ us hl => match us, hl with | [_, _], _ => rfl⟩
  have A_is_land : At K mg "is_land" s_is_land P_is_land := ⟨f_is_land, _, PySem.W.mg_of X G a_is_land, fun_mk (st := s_is_land) l_is_land c_is_land k_is_land, (fun_mk (st := s_is_land) l_is_land c_is_land k_is_land).binds (ps := P_is_land) fun _ _ _ _ _ _ us hl => match us, hl with | [_, _], _ => rfl⟩
  have A_squares_of : At K mg "squares_of" s_squares_of P_squares_of := ⟨f_squares_of, _, PySem.W.mg_of X G a_squares_of, fun_mk (st := s_squares_of) l_squares_of c_squares_of k_squares_of, (fun_mk (st := s_squares_of) l_squares_of c_squares_of k_squares_of).binds (ps := P_squares_of) fun _ _ _ _ _ _ us hl => match us, hl with | [_], _ => rfl⟩
  have A_land_squares : At K mg "land_squares" s_land_squares P_land_squares := ⟨f_land_squares, _, PySem.W.mg_of X G a_land_squares, fun_mk (st := s_land_squares) l_land_squares c_land_squares k_land_squares, (fun_mk (st := s_land_squares) l_land_squares c_land_squares k_land_squares).binds (ps := P_land_squares) fun _ _ _ _ _ _ us hl => match us, hl with | [_], _ => rfl⟩
  have A_side_neighbours : At K mg "side_neighbours" s_side_neighbours P_side_neighbours := ⟨f_side_neighbours, _, PySem.W.mg_of X G a_side_neighbours, fun_mk (st := s_side_neighbours) l_side_neighbours c_side_neighbours k_side_neighbours, (fun_mk (st := s_side_neighbours) l_side_neighbours c_side_neighbours k_side_neighbours).binds (ps := P_side_neighbours) fun _ _ _ _ _ _ us hl => match us, hl with | [_], _ => rfl⟩
  have A_with_squares : At K mg "with_squares" s_with_squares P_with_squares := ⟨f_with_squares, _, PySem.W.mg_of X G a_with_squares, fun_mk (st := s_with_squares) l_with_squares c_with_squares k_with_squares, (fun_mk (st := s_with_squares) l_with_squares c_with_squares k_with_squares).binds (ps := P_with_squares) fun _ _ _ _ _ _ us hl => match us, hl with | [_, _, _], _ => rfl⟩
  have A_wet_beside : At K mg "wet_beside" s_wet_beside P_wet_beside := ⟨f_wet_beside, _, PySem.W.mg_of X G a_wet_beside, fun_mk (st := s_wet_beside) l_wet_beside c_wet_beside k_wet_beside, (fun_mk (st := s_wet_beside) l_wet_beside c_wet_beside k_wet_beside).binds (ps := P_wet_beside) fun _ _ _ _ _ _ us hl => match us, hl with | [_, _], _ => rfl⟩
  have A_soaking_paper : At K mg "soaking_paper" s_soaking_paper P_soaking_paper := ⟨f_soaking_paper, _, PySem.W.mg_of X G a_soaking_paper, fun_mk (st := s_soaking_paper) l_soaking_paper c_soaking_paper k_soaking_paper, (fun_mk (st := s_soaking_paper) l_soaking_paper c_soaking_paper k_soaking_paper).binds (ps := P_soaking_paper) fun _ _ _ _ _ _ us hl => match us, hl with | [_], _ => rfl⟩
  have A_soaked : At K mg "soaked" s_soaked P_soaked := ⟨f_soaked, _, PySem.W.mg_of X G a_soaked, fun_mk (st := s_soaked) l_soaked c_soaked k_soaked, (fun_mk (st := s_soaked) l_soaked c_soaked k_soaked).binds (ps := P_soaked) fun _ _ _ _ _ _ us hl => match us, hl with | [_], _ => rfl⟩
  have A_wet_rim : At K mg "wet_rim" s_wet_rim P_wet_rim := ⟨f_wet_rim, _, PySem.W.mg_of X G a_wet_rim, fun_mk (st := s_wet_rim) l_wet_rim c_wet_rim k_wet_rim, (fun_mk (st := s_wet_rim) l_wet_rim c_wet_rim k_wet_rim).binds (ps := P_wet_rim) fun _ _ _ _ _ _ us hl => match us, hl with | [_], _ => rfl⟩
  have A_shows_soaking : At K mg "shows_soaking" s_shows_soaking P_shows_soaking := ⟨f_shows_soaking, _, PySem.W.mg_of X G a_shows_soaking, fun_mk (st := s_shows_soaking) l_shows_soaking c_shows_soaking k_shows_soaking, (fun_mk (st := s_shows_soaking) l_shows_soaking c_shows_soaking k_shows_soaking).binds (ps := P_shows_soaking) fun _ _ _ _ _ _ us hl => match us, hl with | [_, _, _], _ => rfl⟩
  have A__law_pick : At K mg "_law_pick" s__law_pick P__law_pick := ⟨f__law_pick, _, PySem.W.mg_of X G a__law_pick, fun_mk (st := s__law_pick) l__law_pick c__law_pick k__law_pick, (fun_mk (st := s__law_pick) l__law_pick c__law_pick k__law_pick).binds (ps := P__law_pick) fun _ _ _ _ _ _ us hl => match us, hl with | [_, _], _ => rfl⟩
  have A__law_yes : At K mg "_law_yes" s__law_yes P__law_yes := ⟨f__law_yes, _, PySem.W.mg_of X G a__law_yes, fun_mk (st := s__law_yes) l__law_yes c__law_yes k__law_yes, (fun_mk (st := s__law_yes) l__law_yes c__law_yes k__law_yes).binds (ps := P__law_yes) fun _ _ _ _ _ _ us hl => match us, hl with | [_, _], _ => rfl⟩
  have A__law_number : At K mg "_law_number" s__law_number P__law_number := ⟨f__law_number, _, PySem.W.mg_of X G a__law_number, fun_mk (st := s__law_number) l__law_number c__law_number k__law_number, (fun_mk (st := s__law_number) l__law_number c__law_number k__law_number).binds (ps := P__law_number) fun _ _ _ _ _ _ us hl => match us, hl with | [_], _ => rfl⟩
  have A__law_spot : At K mg "_law_spot" s__law_spot P__law_spot := ⟨f__law_spot, _, PySem.W.mg_of X G a__law_spot, fun_mk (st := s__law_spot) l__law_spot c__law_spot k__law_spot, (fun_mk (st := s__law_spot) l__law_spot c__law_spot k__law_spot).binds (ps := P__law_spot) fun _ _ _ _ _ _ us hl => match us, hl with | [_], _ => rfl⟩
  have A__law_spots : At K mg "_law_spots" s__law_spots P__law_spots := ⟨f__law_spots, _, PySem.W.mg_of X G a__law_spots, fun_mk (st := s__law_spots) l__law_spots c__law_spots k__law_spots, (fun_mk (st := s__law_spots) l__law_spots c__law_spots k__law_spots).binds (ps := P__law_spots) fun _ _ _ _ _ _ us hl => match us, hl with | [_], _ => rfl⟩
  have A__law_grid : At K mg "_law_grid" s__law_grid P__law_grid := ⟨f__law_grid, _, PySem.W.mg_of X G a__law_grid, fun_mk (st := s__law_grid) l__law_grid c__law_grid k__law_grid, (fun_mk (st := s__law_grid) l__law_grid c__law_grid k__law_grid).binds (ps := P__law_grid) fun _ _ _ _ _ _ us hl => match us, hl with | [_, _, _], _ => rfl⟩
  have A__law_sizes : At K mg "_law_sizes" s__law_sizes P__law_sizes := ⟨f__law_sizes, _, PySem.W.mg_of X G a__law_sizes, fun_mk (st := s__law_sizes) l__law_sizes c__law_sizes k__law_sizes, (fun_mk (st := s__law_sizes) l__law_sizes c__law_sizes k__law_sizes).binds (ps := P__law_sizes) fun _ _ _ _ _ _ us hl => match us, hl with | [_, _], _ => rfl⟩
  have A__law_in : At K mg "_law_in" s__law_in P__law_in := ⟨f__law_in, _, PySem.W.mg_of X G a__law_in, fun_mk (st := s__law_in) l__law_in c__law_in k__law_in, (fun_mk (st := s__law_in) l__law_in c__law_in k__law_in).binds (ps := P__law_in) fun _ _ _ _ _ _ us hl => match us, hl with | [_, _], _ => rfl⟩
  have A__law_at : At K mg "_law_at" s__law_at P__law_at := ⟨f__law_at, _, PySem.W.mg_of X G a__law_at, fun_mk (st := s__law_at) l__law_at c__law_at k__law_at, (fun_mk (st := s__law_at) l__law_at c__law_at k__law_at).binds (ps := P__law_at) fun _ _ _ _ _ _ us hl => match us, hl with | [_, _], _ => rfl⟩
  have A__law_all : At K mg "_law_all" s__law_all P__law_all := ⟨f__law_all, _, PySem.W.mg_of X G a__law_all, fun_mk (st := s__law_all) l__law_all c__law_all k__law_all, (fun_mk (st := s__law_all) l__law_all c__law_all k__law_all).binds (ps := P__law_all) fun _ _ _ _ _ _ us hl => match us, hl with | [_], _ => rfl⟩
  have A__law_dry : At K mg "_law_dry" s__law_dry P__law_dry := ⟨f__law_dry, _, PySem.W.mg_of X G a__law_dry, fun_mk (st := s__law_dry) l__law_dry c__law_dry k__law_dry, (fun_mk (st := s__law_dry) l__law_dry c__law_dry k__law_dry).binds (ps := P__law_dry) fun _ _ _ _ _ _ us hl => match us, hl with | [_], _ => rfl⟩
  have A__law_set : At K mg "_law_set" s__law_set P__law_set := ⟨f__law_set, _, PySem.W.mg_of X G a__law_set, fun_mk (st := s__law_set) l__law_set c__law_set k__law_set, (fun_mk (st := s__law_set) l__law_set c__law_set k__law_set).binds (ps := P__law_set) fun _ _ _ _ _ _ us hl => match us, hl with | [_, _, _], _ => rfl⟩
  have A__law_sides : At K mg "_law_sides" s__law_sides P__law_sides := ⟨f__law_sides, _, PySem.W.mg_of X G a__law_sides, fun_mk (st := s__law_sides) l__law_sides c__law_sides k__law_sides, (fun_mk (st := s__law_sides) l__law_sides c__law_sides k__law_sides).binds (ps := P__law_sides) fun _ _ _ _ _ _ us hl => match us, hl with | [_], _ => rfl⟩
  have A__law_moist : At K mg "_law_moist" s__law_moist P__law_moist := ⟨f__law_moist, _, PySem.W.mg_of X G a__law_moist, fun_mk (st := s__law_moist) l__law_moist c__law_moist k__law_moist, (fun_mk (st := s__law_moist) l__law_moist c__law_moist k__law_moist).binds (ps := P__law_moist) fun _ _ _ _ _ _ us hl => match us, hl with | [_, _, _], _ => rfl⟩
  have A__law_chart : At K mg "_law_chart" s__law_chart P__law_chart := ⟨f__law_chart, _, PySem.W.mg_of X G a__law_chart, fun_mk (st := s__law_chart) l__law_chart c__law_chart k__law_chart, (fun_mk (st := s__law_chart) l__law_chart c__law_chart k__law_chart).binds (ps := P__law_chart) fun _ _ _ _ _ _ us hl => match us, hl with | [_, _, _], _ => rfl⟩
  have A__law_beside : At K mg "_law_beside" s__law_beside P__law_beside := ⟨f__law_beside, _, PySem.W.mg_of X G a__law_beside, fun_mk (st := s__law_beside) l__law_beside c__law_beside k__law_beside, (fun_mk (st := s__law_beside) l__law_beside c__law_beside k__law_beside).binds (ps := P__law_beside) fun _ _ _ _ _ _ us hl => match us, hl with | [_, _], _ => rfl⟩
  have A__law_soft : At K mg "_law_soft" s__law_soft P__law_soft := ⟨f__law_soft, _, PySem.W.mg_of X G a__law_soft, fun_mk (st := s__law_soft) l__law_soft c__law_soft k__law_soft, (fun_mk (st := s__law_soft) l__law_soft c__law_soft k__law_soft).binds (ps := P__law_soft) fun _ _ _ _ _ _ us hl => match us, hl with | [_], _ => rfl⟩
  have A__law_shown : At K mg "_law_shown" s__law_shown P__law_shown := ⟨f__law_shown, _, PySem.W.mg_of X G a__law_shown, fun_mk (st := s__law_shown) l__law_shown c__law_shown k__law_shown, (fun_mk (st := s__law_shown) l__law_shown c__law_shown k__law_shown).binds (ps := P__law_shown) fun _ _ _ _ _ _ us hl => match us, hl with | [_, _, _], _ => rfl⟩
  have A__law_mixed : At K mg "_law_mixed" s__law_mixed P__law_mixed := ⟨f__law_mixed, _, PySem.W.mg_of X G a__law_mixed, fun_mk (st := s__law_mixed) l__law_mixed c__law_mixed k__law_mixed, (fun_mk (st := s__law_mixed) l__law_mixed c__law_mixed k__law_mixed).binds (ps := P__law_mixed) fun _ _ _ _ _ _ us hl => match us, hl with | [_, _], _ => rfl⟩
  have A__law_soaking : At K mg "_law_soaking" s__law_soaking P__law_soaking := ⟨f__law_soaking, _, PySem.W.mg_of X G a__law_soaking, fun_mk (st := s__law_soaking) l__law_soaking c__law_soaking k__law_soaking, (fun_mk (st := s__law_soaking) l__law_soaking c__law_soaking k__law_soaking).binds (ps := P__law_soaking) fun _ _ _ _ _ _ us hl => match us, hl with | [_, _], _ => rfl⟩
  have A__law_strange : At K mg "_law_strange" s__law_strange P__law_strange := ⟨f__law_strange, _, PySem.W.mg_of X G a__law_strange, fun_mk (st := s__law_strange) l__law_strange c__law_strange k__law_strange, (fun_mk (st := s__law_strange) l__law_strange c__law_strange k__law_strange).binds (ps := P__law_strange) fun _ _ _ _ _ _ us hl => match us, hl with | [_, _, _, _], _ => rfl⟩
  have A__law_bent : At K mg "_law_bent" s__law_bent P__law_bent := ⟨f__law_bent, _, PySem.W.mg_of X G a__law_bent, fun_mk (st := s__law_bent) l__law_bent c__law_bent k__law_bent, (fun_mk (st := s__law_bent) l__law_bent c__law_bent k__law_bent).binds (ps := P__law_bent) fun _ _ _ _ _ _ us hl => match us, hl with | [_, _, _, _], _ => rfl⟩
  have A__law_judged : At K mg "_law_judged" s__law_judged P__law_judged := ⟨f__law_judged, _, PySem.W.mg_of X G a__law_judged, fun_mk (st := s__law_judged) l__law_judged c__law_judged k__law_judged, (fun_mk (st := s__law_judged) l__law_judged c__law_judged k__law_judged).binds (ps := P__law_judged) fun _ _ _ _ _ _ us hl => match us, hl with | [_, _, _], _ => rfl⟩
  have A__law_rim : At K mg "_law_rim" s__law_rim P__law_rim := ⟨f__law_rim, _, PySem.W.mg_of X G a__law_rim, fun_mk (st := s__law_rim) l__law_rim c__law_rim k__law_rim, (fun_mk (st := s__law_rim) l__law_rim c__law_rim k__law_rim).binds (ps := P__law_rim) fun _ _ _ _ _ _ us hl => match us, hl with | [_], _ => rfl⟩
  have A__law_falls : At K mg "_law_falls" s__law_falls P__law_falls := ⟨f__law_falls, _, PySem.W.mg_of X G a__law_falls, fun_mk (st := s__law_falls) l__law_falls c__law_falls k__law_falls, (fun_mk (st := s__law_falls) l__law_falls c__law_falls k__law_falls).binds (ps := P__law_falls) fun _ _ _ _ _ _ us hl => match us, hl with | [_, _, _], _ => rfl⟩
  refine ⟨PySem.W.fnOf "law" "law" (defArgs s_law) (defBody s_law) (defScope s_law) .none kV_law dc_law pm_law an_law cd_law ct_law, fun s v => .of_eq rfl, fun base _ _ => ?_⟩
  have H__law_take := ok__law_take (P := l.prog) (w := w) (base := base) A__law_take T
  have H__law_deal := ok__law_deal (P := l.prog) (w := w) (base := base) deal_plain A__law_deal T
  have H_is_square := ok_is_square (P := l.prog) (w := w) (base := base) A_is_square T
  have H_is_land := ok_is_land (P := l.prog) (w := w) (base := base) A_is_land T H_is_square
  have H_squares_of := ok_squares_of (P := l.prog) (w := w) (base := base) A_squares_of T
  have H_land_squares := ok_land_squares (P := l.prog) (w := w) (base := base) A_land_squares T H_is_land H_squares_of
  have H_side_neighbours := ok_side_neighbours (P := l.prog) (w := w) (base := base) A_side_neighbours T
  have H_with_squares := ok_with_squares (P := l.prog) (w := w) (base := base) A_with_squares T H_is_square
  have H_wet_beside := ok_wet_beside (P := l.prog) (w := w) (base := base) A_wet_beside T H_is_land H_is_square H_side_neighbours
  have H_soaking_paper := ok_soaking_paper (P := l.prog) (w := w) (base := base) A_soaking_paper T H_is_land H_land_squares H_side_neighbours H_wet_beside H_with_squares
  have H_soaked := ok_soaked (P := l.prog) (w := w) (base := base) A_soaked T H_soaking_paper H_with_squares
  have H_wet_rim := ok_wet_rim (P := l.prog) (w := w) (base := base) A_wet_rim T H_is_land H_side_neighbours H_squares_of H_wet_beside
  have H_shows_soaking := ok_shows_soaking (P := l.prog) (w := w) (base := base) A_shows_soaking T H_is_land H_soaking_paper H_wet_beside H_with_squares
  have H__law_pick := ok__law_pick (P := l.prog) (w := w) (base := base) A__law_pick T H__law_take
  have H__law_yes := ok__law_yes (P := l.prog) (w := w) (base := base) A__law_yes T
  have H__law_number := ok__law_number (P := l.prog) (w := w) (base := base) A__law_number T
  have H__law_spot := ok__law_spot (P := l.prog) (w := w) (base := base) A__law_spot T H__law_number
  have H__law_spots := ok__law_spots (P := l.prog) (w := w) (base := base) A__law_spots T H__law_spot
  have H__law_grid := ok__law_grid (P := l.prog) (w := w) (base := base) A__law_grid T H__law_take
  have H__law_sizes := ok__law_sizes (P := l.prog) (w := w) (base := base) A__law_sizes T H__law_take
  have H__law_in := ok__law_in (P := l.prog) (w := w) (base := base) A__law_in T
  have H__law_at := ok__law_at (P := l.prog) (w := w) (base := base) A__law_at T H__law_in
  have H__law_all := ok__law_all (P := l.prog) (w := w) (base := base) A__law_all T
  have H__law_dry := ok__law_dry (P := l.prog) (w := w) (base := base) A__law_dry T H__law_all H__law_at
  have H__law_set := ok__law_set (P := l.prog) (w := w) (base := base) A__law_set T
  have H__law_sides := ok__law_sides (P := l.prog) (w := w) (base := base) A__law_sides T
  have H__law_moist := ok__law_moist (P := l.prog) (w := w) (base := base) A__law_moist T H__law_set H__law_take
  have H__law_chart := ok__law_chart (P := l.prog) (w := w) (base := base) A__law_chart T H__law_grid H__law_moist H__law_take
  have H__law_beside := ok__law_beside (P := l.prog) (w := w) (base := base) A__law_beside T H__law_at H__law_in H__law_sides
  have H__law_soft := ok__law_soft (P := l.prog) (w := w) (base := base) A__law_soft T H__law_beside H__law_dry
  have H__law_shown := ok__law_shown (P := l.prog) (w := w) (base := base) A__law_shown T H__law_at H__law_beside H__law_set H__law_soft
  have H__law_mixed := ok__law_mixed (P := l.prog) (w := w) (base := base) A__law_mixed T H__law_take
  have H__law_soaking := ok__law_soaking (P := l.prog) (w := w) (base := base) A__law_soaking T H__law_mixed H__law_set H__law_soft H__law_take
  have H__law_strange := ok__law_strange (P := l.prog) (w := w) (base := base) A__law_strange T H__law_all H__law_at H__law_beside H__law_dry H__law_pick H__law_set H__law_take
  have H__law_bent := ok__law_bent (P := l.prog) (w := w) (base := base) A__law_bent T H__law_set H__law_take
  have H__law_judged := ok__law_judged (P := l.prog) (w := w) (base := base) A__law_judged T H__law_shown H__law_yes H_shows_soaking
  have H__law_rim := ok__law_rim (P := l.prog) (w := w) (base := base) A__law_rim T H__law_all H__law_at H__law_beside
  have H__law_falls := ok__law_falls (P := l.prog) (w := w) (base := base) A__law_falls T H__law_number H__law_rim H__law_set H__law_take H_wet_rim
  exact ok_law law_plain (fun_mk (st := s_law) l_law c_law k_law) T H__law_at H__law_bent H__law_chart H__law_deal H__law_falls H__law_judged H__law_set H__law_shown H__law_sizes H__law_soaking H__law_spots H__law_strange H__law_take H__law_yes H_shows_soaking H_soaked H_soaking_paper
theorem walk {l : PySem.W.OpenLaw} {q : Program} {loose : List Str} {XP : (Str → Option Value) → Heap → Prop} {YP : World → Heap → Prop} {d : DefRec} {K : Params → PySem.W.Frag} (hn : l.most = some 63) (hdf : d.params.defaults = [])
    (hY : ∀ (w : World) (h : Heap), YP w h → (K w.params).In h)
    (F : ∀ (w : World) (mg : Str → Option Value) (fa : Addr) (h : Heap), (K w.params).In h → h.Ns mainGlobals mg → mg d.name = some (.ref fa) →
      ∃ fd : FuncData, (∀ (s : Shared) (u : Value), BindsTo s fd ⟨[u], []⟩ [("script", u)]) ∧ ∀ base : Heap, (K w.params).In base → base.Ns mainGlobals mg → FnOk l.prog w (K w.params) mg base CX0 7 fa fd ["script"] (sp_law (K w.params))) :
    PySem.W.WalkO q loose XP YP l.row.toRowW d [] (fun f vs => PySem.call f vs) :=
  L2.walk_of (n := 63) (k := 7) (x := "script") (CX := fun _ => CX0) (sp := fun w => sp_law (K w.params)) hn (by decide) hdf ⟨rfl, by decide, by decide⟩ hY F (fun _ _ a ns hl _ hS => ⟨a, ns, rfl, hS, hl, fun _ => rfl⟩) fun _ _ _ _ _ z => z
end
end W
open PySem PySem.W PyProof.Rows
set_option maxRecDepth 100000 in
set_option maxHeartbeats 0 in
theorem PySem.Challenge.cw_landandwater_k47_judge_of_soaking_papers_holds : PySem.Challenge.rw_landandwater_k47_judge_of_soaking_papers.Holds := by
  w_on; o_law; k_head; (case hw => w_witness2)
  k_fill
  refine W.walk (l := PySem.Challenge.rw_landandwater_k47_judge_of_soaking_papers) rfl rfl (fun w h Y => PySem.W.kIn_of Y) ?F
  case F =>
    intro w mg fa h KX G hmg
    refine' W.all_mk KX G hmg ?a__law_take ?l__law_take ?c__law_take ?k__law_take ?a__law_deal ?l__law_deal ?c__law_deal ?k__law_deal ?a_is_square ?l_is_square ?c_is_square ?k_is_square ?a_is_land ?l_is_land ?c_is_land ?k_is_land ?a_squares_of ?l_squares_of ?c_squares_of ?k_squares_of ?a_land_squares ?l_land_squares ?c_land_squares ?k_land_squares ?a_side_neighbours ?l_side_neighbours ?c_side_neighbours ?k_side_neighbours ?a_with_squares ?l_with_squares ?c_with_squares ?k_with_squares ?a_wet_beside ?l_wet_beside ?c_wet_beside ?k_wet_beside ?a_soaking_paper ?l_soaking_paper ?c_soaking_paper ?k_soaking_paper ?a_soaked ?l_soaked ?c_soaked ?k_soaked ?a_wet_rim ?l_wet_rim ?c_wet_rim ?k_wet_rim ?a_shows_soaking ?l_shows_soaking ?c_shows_soaking ?k_shows_soaking ?a__law_pick ?l__law_pick ?c__law_pick ?k__law_pick ?a__law_yes ?l__law_yes ?c__law_yes ?k__law_yes ?a__law_number ?l__law_number ?c__law_number ?k__law_number ?a__law_spot ?l__law_spot ?c__law_spot ?k__law_spot ?a__law_spots ?l__law_spots ?c__law_spots ?k__law_spots ?a__law_grid ?l__law_grid ?c__law_grid ?k__law_grid ?a__law_sizes ?l__law_sizes ?c__law_sizes ?k__law_sizes ?a__law_in ?l__law_in ?c__law_in ?k__law_in ?a__law_at ?l__law_at ?c__law_at ?k__law_at ?a__law_all ?l__law_all ?c__law_all ?k__law_all ?a__law_dry ?l__law_dry ?c__law_dry ?k__law_dry ?a__law_set ?l__law_set ?c__law_set ?k__law_set ?a__law_sides ?l__law_sides ?c__law_sides ?k__law_sides ?a__law_moist ?l__law_moist ?c__law_moist ?k__law_moist ?a__law_chart ?l__law_chart ?c__law_chart ?k__law_chart ?a__law_beside ?l__law_beside ?c__law_beside ?k__law_beside ?a__law_soft ?l__law_soft ?c__law_soft ?k__law_soft ?a__law_shown ?l__law_shown ?c__law_shown ?k__law_shown ?a__law_mixed ?l__law_mixed ?c__law_mixed ?k__law_mixed ?a__law_soaking ?l__law_soaking ?c__law_soaking ?k__law_soaking ?a__law_strange ?l__law_strange ?c__law_strange ?k__law_strange ?a__law_bent ?l__law_bent ?c__law_bent ?k__law_bent ?a__law_judged ?l__law_judged ?c__law_judged ?k__law_judged ?a__law_rim ?l__law_rim ?c__law_rim ?k__law_rim ?a__law_falls ?l__law_falls ?c__law_falls ?k__law_falls ?a_law ?l_law ?c_law ?k_law ?z_len ?z_range ?z_abs ?z_int ?z_bool ?z_sum ?z_min ?z_max ?z_tuple ?z_isinstance ?z_str ?z_list ?z_all ?z_any ?y_LAND ?y_WATER ?y_ENOUGH
    (case a__law_take => k_is)
    (case l__law_take => k_is)
    (case c__law_take => k_is)
    (case k__law_take => k_is)
    (case a__law_deal => k_is)
    (case l__law_deal => k_is)
    (case c__law_deal => k_is)
    (case k__law_deal => k_is)
    (case a_is_square => k_is)
    (case l_is_square => k_is)
    (case c_is_square => k_is)
    (case k_is_square => k_is)
    (case a_is_land => k_is)
    (case l_is_land => k_is)
    (case c_is_land => k_is)
    (case k_is_land => k_is)
    (case a_squares_of => k_is)
    (case l_squares_of => k_is)
    (case c_squares_of => k_is)
    (case k_squares_of => k_is)
    (case a_land_squares => k_is)
    (case l_land_squares => k_is)
    (case c_land_squares => k_is)
    (case k_land_squares => k_is)
    (case a_side_neighbours => k_is)
    (case l_side_neighbours => k_is)
    (case c_side_neighbours => k_is)
    (case k_side_neighbours => k_is)
    (case a_with_squares => k_is)
    (case l_with_squares => k_is)
    (case c_with_squares => k_is)
    (case k_with_squares => k_is)
    (case a_wet_beside => k_is)
    (case l_wet_beside => k_is)
    (case c_wet_beside => k_is)
    (case k_wet_beside => k_is)
    (case a_soaking_paper => k_is)
    (case l_soaking_paper => k_is)
    (case c_soaking_paper => k_is)
    (case k_soaking_paper => k_is)
    (case a_soaked => k_is)
    (case l_soaked => k_is)
    (case c_soaked => k_is)
    (case k_soaked => k_is)
    (case a_wet_rim => k_is)
    (case l_wet_rim => k_is)
    (case c_wet_rim => k_is)
    (case k_wet_rim => k_is)
    (case a_shows_soaking => k_is)
    (case l_shows_soaking => k_is)
    (case c_shows_soaking => k_is)
    (case k_shows_soaking => k_is)
    (case a__law_pick => k_is)
    (case l__law_pick => k_is)
    (case c__law_pick => k_is)
    (case k__law_pick => k_is)
    (case a__law_yes => k_is)
    (case l__law_yes => k_is)
    (case c__law_yes => k_is)
    (case k__law_yes => k_is)
    (case a__law_number => k_is)
    (case l__law_number => k_is)
    (case c__law_number => k_is)
    (case k__law_number => k_is)
    (case a__law_spot => k_is)
    (case l__law_spot => k_is)
    (case c__law_spot => k_is)
    (case k__law_spot => k_is)
    (case a__law_spots => k_is)
    (case l__law_spots => k_is)
    (case c__law_spots => k_is)
    (case k__law_spots => k_is)
    (case a__law_grid => k_is)
    (case l__law_grid => k_is)
    (case c__law_grid => k_is)
    (case k__law_grid => k_is)
    (case a__law_sizes => k_is)
    (case l__law_sizes => k_is)
    (case c__law_sizes => k_is)
    (case k__law_sizes => k_is)
    (case a__law_in => k_is)
    (case l__law_in => k_is)
    (case c__law_in => k_is)
    (case k__law_in => k_is)
    (case a__law_at => k_is)
    (case l__law_at => k_is)
    (case c__law_at => k_is)
    (case k__law_at => k_is)
    (case a__law_all => k_is)
    (case l__law_all => k_is)
    (case c__law_all => k_is)
    (case k__law_all => k_is)
    (case a__law_dry => k_is)
    (case l__law_dry => k_is)
    (case c__law_dry => k_is)
    (case k__law_dry => k_is)
    (case a__law_set => k_is)
    (case l__law_set => k_is)
    (case c__law_set => k_is)
    (case k__law_set => k_is)
    (case a__law_sides => k_is)
    (case l__law_sides => k_is)
    (case c__law_sides => k_is)
    (case k__law_sides => k_is)
    (case a__law_moist => k_is)
    (case l__law_moist => k_is)
    (case c__law_moist => k_is)
    (case k__law_moist => k_is)
    (case a__law_chart => k_is)
    (case l__law_chart => k_is)
    (case c__law_chart => k_is)
    (case k__law_chart => k_is)
    (case a__law_beside => k_is)
    (case l__law_beside => k_is)
    (case c__law_beside => k_is)
    (case k__law_beside => k_is)
    (case a__law_soft => k_is)
    (case l__law_soft => k_is)
    (case c__law_soft => k_is)
    (case k__law_soft => k_is)
    (case a__law_shown => k_is)
    (case l__law_shown => k_is)
    (case c__law_shown => k_is)
    (case k__law_shown => k_is)
    (case a__law_mixed => k_is)
    (case l__law_mixed => k_is)
    (case c__law_mixed => k_is)
    (case k__law_mixed => k_is)
    (case a__law_soaking => k_is)
    (case l__law_soaking => k_is)
    (case c__law_soaking => k_is)
    (case k__law_soaking => k_is)
    (case a__law_strange => k_is)
    (case l__law_strange => k_is)
    (case c__law_strange => k_is)
    (case k__law_strange => k_is)
    (case a__law_bent => k_is)
    (case l__law_bent => k_is)
    (case c__law_bent => k_is)
    (case k__law_bent => k_is)
    (case a__law_judged => k_is)
    (case l__law_judged => k_is)
    (case c__law_judged => k_is)
    (case k__law_judged => k_is)
    (case a__law_rim => k_is)
    (case l__law_rim => k_is)
    (case c__law_rim => k_is)
    (case k__law_rim => k_is)
    (case a__law_falls => k_is)
    (case l__law_falls => k_is)
    (case c__law_falls => k_is)
    (case k__law_falls => k_is)
    (case a_law => k_is)
    (case l_law => k_is)
    (case c_law => k_is)
    (case k_law => k_is)
    (case z_len => k_is)
    (case z_range => k_is)
    (case z_abs => k_is)
    (case z_int => k_is)
    (case z_bool => k_is)
    (case z_sum => k_is)
    (case z_min => k_is)
    (case z_max => k_is)
    (case z_tuple => k_is)
    (case z_isinstance => k_is)
    (case z_str => k_is)
    (case z_list => k_is)
    (case z_all => k_is)
    (case z_any => k_is)
    (case y_LAND => k_is)
    (case y_WATER => k_is)
    (case y_ENOUGH => k_is)